import PyProof.Rows.All
import Wide.All
import OpenK.AllK
import Wide.FinOn
import HandS.ForMost
import HandS.ForExc
import HandS.Evl
import HandS.Walk
import HandS.IsInst
import HandS.Flow
import HandS.Style
import HandS.TupAny
import HandS.TupMul
import HandS.Star
import HandS.SortInts
import HandS.SortRule
import HandS.Zip
import HandS.TryMany
import HandS.ExcInit
import HandS.ExcField
import HandS.Lambda
import HandS.EndTab
import HandS.HeadHook1
import HandS.RaiseMore
import KE.KTupSum
import KE.GoesMore
import KE.GoesEnumKw
import KE.GoesEnum
import KE.GoesZip
import KE.GoesNew
import HandS.Defaults
import HandS.CallLocal
import HandS.OwnEq
import PyProof.InstNe
import PyProof.ReprRoads
import PyProof.Rows.RegFStrParts
import HandS.HeadWalk
import KE.DatumOrd
import HandS.SortKw
import PySem.Challenge.RW_seatsold_k14_whole_seating_and_walks
import HandS.Head2
import HandS.HeadEnd
import HandS.HeadHook4
-- SdCore
section
set_option Elab.async false
set_option linter.all false
set_option maxRecDepth 100000
set_option maxHeartbeats 4000000
set_option autoImplicit false
/-! The data layer: what a def does is told over plain data (D), no heap in sight. -/
namespace Sd
open PySem PySem.Spec PyProof.Rows L2
open Evl (Ex)

/-! ### data -/
/-- what a value stands for; raw: a value as it is; ln: a line with its seats -/
inductive D where
  | non | bl (b : Bool) | int (i : Int) | str (s : Str) | lst (xs : List D) | tup (xs : List D) | raw (v : V) | dct | ln (xs : List D)
mutual
/-- v stands for the data in the part B of the heap, which no one changes -/
inductive Rp (K : PySem.W.Frag) (B : Hp) : V → D → Prop
  | non : Rp K B .non .non
  | bl (b : Bool) : Rp K B (.bl b) (.bl b)
  | int (i : Int) : Rp K B (.int i) (.int i)
  | str (s : Str) : Rp K B (.str s) (.str s)
  | lst {a : Addr} {vs : List V} {ds : List D} (h : B a = some (.lst vs)) (r : RpA K B vs ds) : Rp K B (.ref a) (.lst ds)
  | tup {a : Addr} {vs : List V} {ds : List D} (h : SqT K B a vs) (r : RpA K B vs ds) : Rp K B (.ref a) (.tup ds)
  | raw (v : V) : Rp K B v (.raw v)
  | dct {a : Addr} (h : B a = some (.dK [])) : Rp K B (.ref a) .dct
  | ln {a dx t : Addr} {fs : List (Str × V)} {vs : List V} {ds : List D} (h : B a = some (.ins (He.ga K "Line") dx fs)) (h2 : B dx = some (.own a)) (hf : fs.lookup ("seats" : Str) = some (V.ref t)) (ht : SqT K B t vs) (r : RpA K B vs ds) : Rp K B (.ref a) (.ln ds)
inductive RpA (K : PySem.W.Frag) (B : Hp) : List V → List D → Prop
  | nil : RpA K B [] []
  | cons {v : V} {vs : List V} {d : D} {ds : List D} (h : Rp K B v d) (r : RpA K B vs ds) : RpA K B (v :: vs) (d :: ds)
end
section
variable {K : PySem.W.Frag} {B B' : Hp}
theorem exL {a : Addr} {xs : List V} (e : Ex B B') (h : SqL K B a xs) : SqL K B' a xs := Evl.ex_l e h
theorem exT {a : Addr} {xs : List V} (e : Ex B B') (h : SqT K B a xs) : SqT K B' a xs := Evl.ex_t e h
mutual
theorem Rp.mono (e : Ex B B') : ∀ {v : V} {d : D}, Rp K B v d → Rp K B' v d
  | _, _, .non => .non
  | _, _, .bl b => .bl b
  | _, _, .int i => .int i
  | _, _, .str s => .str s
  | _, _, .lst h r => .lst (e _ _ h) (RpA.mono e r)
  | _, _, .tup h r => .tup (exT e h) (RpA.mono e r)
  | _, _, .raw v => .raw v
  | _, _, .dct h => .dct (e _ _ h)
  | _, _, .ln h h2 hf ht r => .ln (e _ _ h) (e _ _ h2) hf (exT e ht) (RpA.mono e r)
theorem RpA.mono (e : Ex B B') : ∀ {vs : List V} {ds : List D}, RpA K B vs ds → RpA K B' vs ds
  | _, _, .nil => .nil
  | _, _, .cons h r => .cons (Rp.mono e h) (RpA.mono e r)
end
theorem RpA.length : ∀ {vs : List V} {ds : List D}, RpA K B vs ds → vs.length = ds.length
  | _, _, .nil => rfl
  | _, _, .cons _ r => congrArg (· + 1) (RpA.length r)
theorem RpA.get : ∀ {vs : List V} {ds : List D} {i : Nat} {v : V}, RpA K B vs ds → vs[i]? = some v → ∃ d, ds[i]? = some d ∧ Rp K B v d
  | _, _, i, v, .nil, h => by simp at h
  | _, _, 0, v, .cons h r, e => by
    have e' := Option.some.inj e
    subst e'
    exact ⟨_, rfl, h⟩
  | _, _, i + 1, v, .cons h r, e => by
    have q := RpA.get (i := i) (v := v) r (by simpa using e)
    simpa using q
theorem RpA.at : ∀ {vs : List V} {ds : List D} {i : Nat} {d : D}, RpA K B vs ds → ds[i]? = some d → ∃ v, vs[i]? = some v ∧ Rp K B v d
  | _, _, i, v, .nil, h => by simp at h
  | _, _, 0, v, .cons h r, e => by
    have e' := Option.some.inj e
    subst e'
    exact ⟨_, rfl, h⟩
  | _, _, i + 1, v, .cons h r, e => by
    have q := RpA.at (i := i) (d := v) r (by simpa using e)
    simpa using q
theorem RpA.app : ∀ {vs ws : List V} {ds es : List D}, RpA K B vs ds → RpA K B ws es → RpA K B (vs ++ ws) (ds ++ es)
  | _, _, _, _, .nil, r => r
  | _, _, _, _, .cons h r, r' => .cons h (RpA.app r r')
theorem RpA.one {v : V} {d : D} (h : Rp K B v d) : RpA K B [v] [d] := .cons h .nil
theorem RpA.set : ∀ {vs : List V} {ds : List D} {i : Nat} {v : V} {d : D}, RpA K B vs ds → Rp K B v d → RpA K B (vs.set i v) (ds.set i d)
  | _, _, _, _, _, .nil, _ => .nil
  | _, _, 0, _, _, .cons _ r, h => .cons h r
  | _, _, i + 1, _, _, .cons h' r, h => .cons h' (RpA.set r h)
theorem RpA.take : ∀ {vs : List V} {ds : List D} (n : Nat), RpA K B vs ds → RpA K B (vs.take n) (ds.take n)
  | _, _, 0, _ => by simpa using .nil
  | _, _, n + 1, .nil => by simpa using .nil
  | _, _, n + 1, .cons h r => .cons h (RpA.take n r)
theorem RpA.drop : ∀ {vs : List V} {ds : List D} (n : Nat), RpA K B vs ds → RpA K B (vs.drop n) (ds.drop n)
  | _, _, 0, r => r
  | _, _, n + 1, .nil => .nil
  | _, _, n + 1, .cons _ r => RpA.drop n r
theorem RpA.rev {vs : List V} {ds : List D} (r : RpA K B vs ds) : RpA K B vs.reverse ds.reverse := by
  induction vs generalizing ds with
  | nil => cases r; exact .nil
  | cons v vs ih =>
    cases r with
    | cons h r =>
      rw [List.reverse_cons, List.reverse_cons]
      exact (ih r).app (.one h)
theorem RpA.rep {vs : List V} {ds : List D} (r : RpA K B vs ds) : ∀ n : Nat, RpA K B (List.replicate n vs).flatten (List.replicate n ds).flatten
  | 0 => .nil
  | n + 1 => by
    rw [List.replicate_succ, List.flatten_cons, List.replicate_succ, List.flatten_cons]
    exact r.app (RpA.rep r n)
theorem RpA.ints {vs : List V} : ∀ {ns : List Int}, RpA K B vs (ns.map D.int) → vs = ns.map V.int := by
  induction vs with
  | nil => intro ns r; cases ns with
    | nil => rfl
    | cons n ns => cases r
  | cons v vs ih => intro ns r; cases ns with
    | nil => cases r
    | cons n ns => cases r with
      | cons h r => cases h; rw [ih r]; rfl
theorem RpA.ofInts : ∀ (ns : List Int), RpA K B (ns.map V.int) (ns.map D.int)
  | [] => .nil
  | n :: ns => .cons (.int n) (RpA.ofInts ns)
theorem RpA.bls {vs : List V} : ∀ {ns : List Bool}, RpA K B vs (ns.map D.bl) → vs = ns.map V.bl := by
  induction vs with
  | nil => intro ns r; cases ns with
    | nil => rfl
    | cons n ns => cases r
  | cons v vs ih => intro ns r; cases ns with
    | nil => cases r
    | cons n ns => cases r with
      | cons h r => cases h; rw [ih r]; rfl
theorem RpA.ofBls : ∀ (ns : List Bool), RpA K B (ns.map V.bl) (ns.map D.bl)
  | [] => .nil
  | n :: ns => .cons (.bl n) (RpA.ofBls ns)
theorem RpA.strs {vs : List V} : ∀ {ns : List Str}, RpA K B vs (ns.map D.str) → vs = ns.map V.str := by
  induction vs with
  | nil => intro ns r; cases ns with
    | nil => rfl
    | cons n ns => cases r
  | cons v vs ih => intro ns r; cases ns with
    | nil => cases r
    | cons n ns => cases r with
      | cons h r => cases h; rw [ih r]; rfl
theorem RpA.ofStrs : ∀ (ns : List Str), RpA K B (ns.map V.str) (ns.map D.str)
  | [] => .nil
  | n :: ns => .cons (.str n) (RpA.ofStrs ns)
theorem RpA.raws {vs : List V} : ∀ {ns : List V}, RpA K B vs (ns.map D.raw) → vs = ns := by
  induction vs with
  | nil => intro ns r; cases ns with
    | nil => rfl
    | cons n ns => cases r
  | cons v vs ih => intro ns r; cases ns with
    | nil => cases r
    | cons n ns => cases r with
      | cons h r => cases h; rw [ih r]
theorem RpA.ofRaws : ∀ (ns : List V), RpA K B ns (ns.map D.raw)
  | [] => .nil
  | n :: ns => .cons (.raw n) (RpA.ofRaws ns)
end

/-! ### what changes -/
/-- the row of draws (its address, the script's), the tables of code objects -/
structure Fs where
  row : Option (Addr × Addr) := none
  tabs : List (Addr × Str) := []
def Fs.S (F : Fs) (a : Addr) : Prop := (∃ s, F.row = some (a, s)) ∨ ∃ q, (a, q) ∈ F.tabs
/-- the row of draws: the script, how many are taken, the mixed number, the rest of a cell -/
def RowAt (K : PySem.W.Frag) (B H : Hp) (r sa : Addr) : Prop := B r = none ∧ (∃ ns : List Int, SqL K B sa (ns.map V.int)) ∧ ∃ i s c : Int, H r = some (.lst [.ref sa, .int i, .int s, .int c]) ∧ 0 ≤ i ∧ 0 ≤ s ∧ s < 2147483647
structure Fok (K : PySem.W.Frag) (F : Fs) (B H : Hp) : Prop where
  row : ∀ r sa, F.row = some (r, sa) → RowAt K B H r sa
  tab : LamX.Tabs F.tabs H
  tb : ∀ p ∈ F.tabs, B p.1 = none
  nt : ∀ a ps, B a ≠ some (.tbl ps)
theorem nt_upd {B : Hp} {p : Addr} {o : HO} (h : ∀ a ps, B a ≠ some (.tbl ps)) (ho : ∀ ps, o ≠ .tbl ps) : ∀ a ps, upd B p o a ≠ some (.tbl ps) := fun a ps z => by
  by_cases e : a = p
  · rw [e, upd_same] at z
    exact ho ps (Option.some.inj z)
  · rw [upd_ne e] at z
    exact h a ps z
/-- something stands at a that is no table of code objects -/
def Hd (H : Hp) (a : Addr) : Prop := ∃ u, H a = some u ∧ ∀ ps, u ≠ .tbl ps
theorem Hd.of {H : Hp} {a : Addr} {u : HO} (h : H a = some u) (hu : ∀ ps, u ≠ .tbl ps := by intro _ z; cases z) : Hd H a := ⟨u, h, hu⟩
theorem Hd.ne {H : Hp} {a p : Addr} (h : Hd H a) (hp : H p = none) : a ≠ p := fun z => by
  obtain ⟨u, e, _⟩ := h
  rw [z, hp] at e
  cases e
theorem Hd.nne {H : Hp} {a p : Addr} (h : Hd H a) (hp : ¬ Hd H p) : a ≠ p := fun z => hp (by rw [← z]; exact h)
theorem Hd.eq {H H' : Hp} {a : Addr} (h : Hd H a) (e : H' a = H a) : Hd H' a := by
  obtain ⟨u, e1, e2⟩ := h
  exact ⟨u, e.trans e1, e2⟩
theorem not_hd {H : Hp} {a : Addr} (h : H a = none) : ¬ Hd H a := fun ⟨u, e, _⟩ => by
  rw [h] at e
  cases e
/-- from (B, H) to (B', H'): what stood stands, but for what F says -/
structure Fm (K : PySem.W.Frag) (F : Fs) (B H B' H' : Hp) : Prop where
  b : Ex B B'
  e : Ex B' H'
  o : ∀ a, B a = none → Hd H a → B' a = none ∧ (¬ F.S a → H' a = H a)
  f : Fok K F B' H'
section
variable {K : PySem.W.Frag} {F : Fs} {B H B1 H1 B2 H2 : Hp}
theorem Fok.there (f : Fok K F B H) {a : Addr} (h : F.S a) : B a = none ∧ H a ≠ none := by
  rcases h with ⟨s, h⟩ | ⟨q, h⟩
  · obtain ⟨h1, _, i, t, c, h2, _⟩ := f.row a s h
    exact ⟨h1, by rw [h2]; simp⟩
  · obtain ⟨ps, h1, _⟩ := f.tab _ h
    refine ⟨f.tb _ h, ?_⟩
    rw [show H a = _ from h1]
    simp
theorem Fm.refl (e : Ex B H) (f : Fok K F B H) : Fm K F B H B H := ⟨Ex.refl B, e, fun a h _ => ⟨h, fun _ => rfl⟩, f⟩
theorem Fm.trans (m1 : Fm K F B H B1 H1) (m2 : Fm K F B1 H1 B2 H2) : Fm K F B H B2 H2 := by
  refine ⟨m1.b.trans m2.b, m2.e, fun a h1 h2 => ?_, m2.f⟩
  obtain ⟨h3, h4⟩ := m1.o a h1 h2
  by_cases hs : F.S a
  · exact ⟨(m2.f.there hs).1, fun z => (z hs).elim⟩
  · have e1 := h4 hs
    obtain ⟨h5, h6⟩ := m2.o a h3 (h2.eq e1)
    exact ⟨h5, fun z => (h6 z).trans e1⟩
/-- what is not there now was not there before -/
theorem Fm.back (m : Fm K F B H B1 H1) {p : Addr} (h : ¬ Hd H1 p) (ns : ¬ F.S p) : ¬ Hd H p := fun z => by
  cases hb : B p with
  | none => exact h (z.eq ((m.o p hb z).2 ns))
  | some u =>
    have q := m.b _ _ hb
    exact h (.of (m.e _ _ q) fun ps e => m.f.nt p ps (by rw [← e]; exact q))
/-- the heap grows beside: an object that no one knows -/
theorem Fok.ex (f : Fok K F B H) (b : Ex B B1) (h : ∀ a, F.S a → B1 a = none) (e : ∀ a o, H a = some o → H1 a = some o) (t : ∀ a ps, B1 a ≠ some (.tbl ps)) : Fok K F B1 H1 := by
  refine ⟨fun r sa hr => ?_, f.tab.ext e, fun p hp => h _ (.inr ⟨p.2, hp⟩), t⟩
  obtain ⟨h1, ⟨ns, h2⟩, i, s, c, h3, h4⟩ := f.row r sa hr
  exact ⟨h _ (.inl ⟨sa, hr⟩), ⟨ns, exL b h2⟩, i, s, c, e _ _ h3, h4⟩
/-- a new object, known as data -/
theorem Fm.new {p : Addr} {o : HO} (e : Ex B H) (f : Fok K F B H) (hp : H p = none) (ho : ∀ ps, o ≠ .tbl ps := by intro _ z; cases z) : Fm K F B H (upd B p o) (upd H p o) := by
  have bp : B p = none := Evl.fresh_back e hp
  refine ⟨Evl.Ex.new bp, fun a u h => ?_, fun a h1 h2 => ?_, ?_⟩
  · by_cases ha : a = p
    · rw [ha, upd_same] at h ⊢
      exact h
    · rw [upd_ne ha] at h ⊢
      exact e _ _ h
  · have ha : a ≠ p := h2.ne hp
    exact ⟨by rw [upd_ne ha]; exact h1, fun _ => upd_ne ha⟩
  · refine f.ex (Evl.Ex.new bp) (fun a hs => ?_) (fun a u h => ?_) (nt_upd f.nt ho)
    · have := f.there hs
      rw [upd_ne (fun z => this.2 (by rw [z]; exact hp))]
      exact this.1
    · rw [upd_ne (ne_of_none h hp)]
      exact h
/-- .. not known as data -/
theorem Fm.newH {p : Addr} {o : HO} (e : Ex B H) (f : Fok K F B H) (hp : H p = none) : Fm K F B H B (upd H p o) := by
  refine ⟨Ex.refl B, e.trans (Evl.Ex.new hp), fun a h1 h2 => ?_, f.ex (Ex.refl B) (fun a hs => (f.there hs).1) (fun a u h => ?_) f.nt⟩
  · have ha : a ≠ p := h2.ne hp
    exact ⟨h1, fun _ => upd_ne ha⟩
  · rw [upd_ne (ne_of_none h hp)]
    exact h
theorem Fok.s_ne (f : Fok K F B H) {l : Addr} (h : ¬ F.S l) : ∀ a, F.S a → a ≠ l := fun a ha z => h (by rw [← z]; exact ha)
end

/-! ### slots -/
inductive Sl where
  | un | dat (d : D) | own (ds : List D)
def SlOk (K : PySem.W.Frag) (F : Fs) (H0 B H : Hp) : Option V → Sl → Prop
  | _, .un => True
  | o, .dat d => ∃ v, o = some v ∧ Rp K B v d
  | o, .own ds => ∃ l vs, o = some (.ref l) ∧ ¬ Hd H0 l ∧ B l = none ∧ H l = some (.lst vs) ∧ RpA K B vs ds ∧ ¬ F.S l
/-- where a run of a def stands: what changes, the entry -/
structure Gx where
  F : Fs
  B0 : Hp
  H0 : Hp
structure Stt (K : PySem.W.Frag) (G : Gx) (σ : L2.St) (B H : Hp) (δ : List Sl) : Prop where
  fm : Fm K G.F G.B0 G.H0 B H
  len : σ.length = δ.length
  sl : ∀ (i : Nat) (s : Sl), δ[i]? = some s → ∃ o, σ[i]? = some o ∧ SlOk K G.F G.H0 B H o s
  sep : ∀ (i j : Nat) (ds es : List D), i ≠ j → δ[i]? = some (.own ds) → δ[j]? = some (.own es) → σ[i]? ≠ σ[j]?
section
variable {K : PySem.W.Frag} {G : Gx} {σ : L2.St} {B H B' H' : Hp} {δ : List Sl}
theorem SlOk.mono {F : Fs} {H0 : Hp} {o : Option V} {s : Sl} (m : Fm K F B H B' H') (h : SlOk K F H0 B H o s) : SlOk K F H0 B' H' o s := by
  cases s with
  | un => exact h
  | dat d =>
    obtain ⟨v, e, r⟩ := h
    exact ⟨v, e, r.mono m.b⟩
  | own ds =>
    obtain ⟨l, vs, e, h0, hb, hl, r, ns⟩ := h
    obtain ⟨h1, h2⟩ := m.o l hb (.of hl)
    exact ⟨l, vs, e, h0, h1, (h2 ns).trans hl, r.mono m.b, ns⟩
theorem Stt.mono (s : Stt K G σ B H δ) (m : Fm K G.F B H B' H') : Stt K G σ B' H' δ :=
  ⟨s.fm.trans m, s.len, fun i t h => let ⟨o, e, k⟩ := s.sl i t h; ⟨o, e, k.mono m⟩, s.sep⟩
theorem Stt.e (s : Stt K G σ B H δ) : Ex B H := s.fm.e
theorem Stt.f (s : Stt K G σ B H δ) : Fok K G.F B H := s.fm.f
theorem Stt.here (s : Stt K G σ B H δ) : Fm K G.F B H B H := .refl s.e s.f
/-- a slot is stored -/
theorem Stt.put {i : Nat} {v : V} {d : D} (s : Stt K G σ B H δ) (r : Rp K B v d) : Stt K G (σ.set i (some v)) B H (δ.set i (.dat d)) := by
  refine ⟨s.fm, by rw [List.length_set, List.length_set]; exact s.len, fun j t h => ?_, fun j k ds es hn h1 h2 => ?_⟩
  · by_cases hj : i = j
    · subst hj
      rw [List.getElem?_set] at h
      by_cases hi : i < δ.length
      · rw [if_pos rfl, if_pos hi] at h
        cases h
        refine ⟨some v, ?_, v, rfl, r⟩
        rw [List.getElem?_set, if_pos rfl, if_pos (by rw [s.len]; exact hi)]
      · rw [if_pos rfl, if_neg hi] at h
        cases h
    · rw [List.getElem?_set, if_neg hj] at h
      rw [List.getElem?_set, if_neg hj]
      exact s.sl j t h
  · have a : i ≠ j := fun z => by
      subst z
      rw [List.getElem?_set, if_pos rfl] at h1
      split at h1 <;> cases h1
    have b : i ≠ k := fun z => by
      subst z
      rw [List.getElem?_set, if_pos rfl] at h2
      split at h2 <;> cases h2
    rw [List.getElem?_set, if_neg a] at h1 ⊢
    rw [List.getElem?_set, if_neg b] at h2 ⊢
    exact s.sep j k ds es hn h1 h2
/-- slots are forgotten -/
def wipeD (δ : List Sl) : List Nat → List Sl
  | [] => δ
  | v :: vs => (wipeD δ vs).set v .un
theorem Stt.forget {i : Nat} (s : Stt K G σ B H δ) : Stt K G (σ.set i none) B H (δ.set i .un) := by
  refine ⟨s.fm, by rw [List.length_set, List.length_set]; exact s.len, fun j t h => ?_, fun j k ds es hn h1 h2 => ?_⟩
  · by_cases hj : i = j
    · subst hj
      rw [List.getElem?_set] at h
      by_cases hi : i < δ.length
      · rw [if_pos rfl, if_pos hi] at h
        cases h
        refine ⟨none, ?_, True.intro⟩
        rw [List.getElem?_set, if_pos rfl, if_pos (by rw [s.len]; exact hi)]
      · rw [if_pos rfl, if_neg hi] at h
        cases h
    · rw [List.getElem?_set, if_neg hj] at h
      rw [List.getElem?_set, if_neg hj]
      exact s.sl j t h
  · have a : i ≠ j := fun z => by
      subst z
      rw [List.getElem?_set, if_pos rfl] at h1
      split at h1 <;> cases h1
    have b : i ≠ k := fun z => by
      subst z
      rw [List.getElem?_set, if_pos rfl] at h2
      split at h2 <;> cases h2
    rw [List.getElem?_set, if_neg a] at h1 ⊢
    rw [List.getElem?_set, if_neg b] at h2 ⊢
    exact s.sep j k ds es hn h1 h2
theorem Stt.wipe (s : Stt K G σ B H δ) : ∀ vs : List Nat, Stt K G (L2.wipe σ vs) B H (wipeD δ vs)
  | [] => s
  | _ :: vs => (Stt.wipe s vs).forget
theorem Stt.dat {i : Nat} {d : D} (s : Stt K G σ B H δ) (h : δ[i]? = some (.dat d)) : ∃ v, σ[i]? = some (some v) ∧ Rp K B v d := by
  obtain ⟨o, e, v, rfl, r⟩ := s.sl i _ h
  exact ⟨v, e, r⟩
theorem Stt.own {i : Nat} {ds : List D} (s : Stt K G σ B H δ) (h : δ[i]? = some (.own ds)) : ∃ l vs, σ[i]? = some (some (.ref l)) ∧ ¬ Hd G.H0 l ∧ B l = none ∧ H l = some (.lst vs) ∧ RpA K B vs ds ∧ ¬ G.F.S l := by
  obtain ⟨o, e, l, vs, rfl, r⟩ := s.sl i _ h
  exact ⟨l, vs, e, r⟩
end
end Sd
end
-- SdRules
section
set_option Elab.async false
set_option linter.all false
set_option maxRecDepth 100000
set_option maxHeartbeats 4000000
set_option autoImplicit false
namespace Sd
open PySem PySem.Spec PyProof.Rows L2
open Evl (Ex)

/-! ### judgements over data -/
abbrev DE := List Sl → (D → Prop) → Prop
abbrev DT := List Sl → (Bool → Prop) → Prop
abbrev DA := List Sl → (List D → Prop) → Prop
abbrev DO := List Sl → (Option Int → Prop) → Prop
structure DEnds where
  nx : List Sl → Prop
  rt : D → Prop
  bk : List Sl → Prop := fun _ => False
  ct : List Sl → Prop := fun _ => False
abbrev DS := DEnds → List Sl → Prop
abbrev DG := D → List Sl → (List Sl → Prop) → Prop
abbrev DGs := List D → List Sl → (List Sl → Prop) → Prop
abbrev DI := List Sl → (List D → Prop) → Prop
section
variable (K : PySem.W.Frag) (G : Gx)
def teOf (de : DE) : TE := fun σ H Q => ∃ (B : Hp) (δ : List Sl) (P : D → Prop), Stt K G σ B H δ ∧ de δ P ∧ ∀ v d B' H', Fm K G.F B H B' H' → P d → Rp K B' v d → Q v H'
def ttOf (dt : DT) : TT := fun σ H Q => ∃ (B : Hp) (δ : List Sl) (P : Bool → Prop), Stt K G σ B H δ ∧ dt δ P ∧ ∀ b B' H', Fm K G.F B H B' H' → P b → Q b H'
def taOf (da : DA) : TA := fun σ H Q => ∃ (B : Hp) (δ : List Sl) (P : List D → Prop), Stt K G σ B H δ ∧ da δ P ∧ ∀ vs ds B' H', Fm K G.F B H B' H' → P ds → RpA K B' vs ds → Q vs H'
def toOf (d : DO) : TO := fun σ H Q => ∃ (B : Hp) (δ : List Sl) (P : Option Int → Prop), Stt K G σ B H δ ∧ d δ P ∧ ∀ o B' H', Fm K G.F B H B' H' → P o → Q o H'
/-- what is wanted over data behind a statement that began at B, and over the heap -/
structure Dlv (B : Hp) (DD : DEnds) (D : Ends) : Prop where
  nx : ∀ σ' B' H' δ', Ex B B' → Stt K G σ' B' H' δ' → DD.nx δ' → D.nx σ' H'
  rt : ∀ v d B' H', Fm K G.F G.B0 G.H0 B' H' → DD.rt d → Rp K B' v d → D.rt v H'
  bk : ∀ σ' B' H' δ', Ex B B' → Stt K G σ' B' H' δ' → DD.bk δ' → D.bk σ' H'
  ct : ∀ σ' B' H' δ', Ex B B' → Stt K G σ' B' H' δ' → DD.ct δ' → D.ct σ' H'
def tsOf (ds : DS) : TS := fun D σ H => ∃ (B : Hp) (δ : List Sl) (DD : DEnds), Stt K G σ B H δ ∧ ds DD δ ∧ Dlv K G B DD D
def tgOf (dg : DG) : TG := fun v σ H Q => ∃ (B : Hp) (δ : List Sl) (d : D) (P : List Sl → Prop), Stt K G σ B H δ ∧ Rp K B v d ∧ dg d δ P ∧ ∀ σ' B' H' δ', Ex B B' → Stt K G σ' B' H' δ' → P δ' → Q σ' H'
def tgsOf (dg : DGs) : TGs := fun vs σ H Q => ∃ (B : Hp) (δ : List Sl) (ds : List D) (P : List Sl → Prop), Stt K G σ B H δ ∧ RpA K B vs ds ∧ dg ds δ P ∧ ∀ σ' B' H' δ', Ex B B' → Stt K G σ' B' H' δ' → P δ' → Q σ' H'
/-- J walks the data xs while the heap grows from B -/
def Wk (J : It) (xs : List D) (B : Hp) : Prop := ∀ B2 H2, Ex B B2 → Ex B2 H2 → Fok K G.F B2 H2 →
  (∀ i, i < xs.length → J.go i H2 ∧ ∀ x H3, J.yld i H2 x H3 → ∃ B3 d, xs[i]? = some d ∧ Fm K G.F B2 H2 B3 H3 ∧ Rp K B3 x d) ∧ J.stop xs.length H2
def tiOf (di : DI) : TI := fun σ H R => ∃ (B : Hp) (δ : List Sl) (P : List D → Prop), Stt K G σ B H δ ∧ di δ P ∧ ∀ J xs B' H', Fm K G.F B H B' H' → P xs → Wk K G J xs B' → R J H'
end
abbrev PEd (X : Cx) (G : Gx) (e : Expr) (de : DE) : Prop := PE X e (teOf X.K G de)
abbrev PTd (X : Cx) (G : Gx) (e : Expr) (dt : DT) : Prop := PT X e (ttOf X.K G dt)
abbrev PWd (X : Cx) (G : Gx) (e : Expr) (dt : DT) : Prop := PW X e (ttOf X.K G dt)
abbrev PAd (X : Cx) (G : Gx) (es : List Expr) (da : DA) : Prop := PA X es (taOf X.K G da)
abbrev POd (X : Cx) (G : Gx) (e : Option Expr) (d : DO) : Prop := PO X e (toOf X.K G d)
abbrev PSd (X : Cx) (G : Gx) (st : Stmt) (ds : DS) : Prop := PS X st (tsOf X.K G ds)
abbrev PSsd (X : Cx) (G : Gx) (sts : List Stmt) (ds : DS) : Prop := PSs X sts (tsOf X.K G ds)
abbrev PGd (X : Cx) (G : Gx) (tg : Expr) (dg : DG) : Prop := PG X tg (tgOf X.K G dg)
abbrev PGsd (X : Cx) (G : Gx) (tgs : List Expr) (dg : DGs) : Prop := PGs X tgs (tgsOf X.K G dg)
abbrev PId (X : Cx) (G : Gx) (tg iter : Expr) (di : DI) : Prop := PI X tg iter (tiOf X.K G di)

section
variable {X : Cx}
theorem PE.imp {e : Expr} {t t' : TE} (h : PE X e t) (w : ∀ σ H Q, t' σ H Q → t σ H Q) : PE X e t' := ⟨fun pins s σ H Q I q => h.run pins s σ H Q I (w σ H Q q)⟩
theorem PT.imp {e : Expr} {t t' : TT} (h : PT X e t) (w : ∀ σ H Q, t' σ H Q → t σ H Q) : PT X e t' := ⟨fun pins s σ H Q I q => h.run pins s σ H Q I (w σ H Q q)⟩
theorem PW.imp {e : Expr} {t t' : TT} (h : PW X e t) (w : ∀ σ H Q, t' σ H Q → t σ H Q) : PW X e t' := ⟨fun whole pins s σ H Q I q => h.run whole pins s σ H Q I (w σ H Q q)⟩
theorem PA.imp {e : List Expr} {t t' : TA} (h : PA X e t) (w : ∀ σ H Q, t' σ H Q → t σ H Q) : PA X e t' := ⟨fun pos pins s σ H Q I q => h.run pos pins s σ H Q I (w σ H Q q)⟩
theorem PO.imp {e : Option Expr} {t t' : TO} (h : PO X e t) (w : ∀ σ H Q, t' σ H Q → t σ H Q) : PO X e t' := ⟨fun pins s σ H Q I q => h.run pins s σ H Q I (w σ H Q q)⟩
theorem PS.imp {e : Stmt} {t t' : TS} (h : PS X e t) (w : ∀ D σ H, t' D σ H → t D σ H) : PS X e t' := ⟨fun pins s σ H D I q => h.run pins s σ H D I (w D σ H q)⟩
theorem PSs.imp {e : List Stmt} {t t' : TS} (h : PSs X e t) (w : ∀ D σ H, t' D σ H → t D σ H) : PSs X e t' := ⟨fun pins s σ H D I q => h.run pins s σ H D I (w D σ H q)⟩
theorem PG.imp {e : Expr} {t t' : TG} (h : PG X e t) (w : ∀ v σ H Q, t' v σ H Q → t v σ H Q) : PG X e t' := ⟨fun pins s σ H v u Q I r q => h.run pins s σ H v u Q I r (w v σ H Q q)⟩
theorem PGs.imp {e : List Expr} {t t' : TGs} (h : PGs X e t) (w : ∀ v σ H Q, t' v σ H Q → t v σ H Q) : PGs X e t' := ⟨fun pins s σ H v u Q I r q => h.run pins s σ H v u Q I r (w v σ H Q q)⟩
theorem PI.imp {tg e : Expr} {t t' : TI} (h : PI X tg e t) (w : ∀ σ H Q, t' σ H Q → t σ H Q) : PI X tg e t' := ⟨fun pins s σ H Q I q => h.run pins s σ H Q I (w σ H Q q)⟩
end

/-! ### names, constants -/
def deName (i : Nat) : DE := fun δ P => ∃ d, δ[i]? = some (.dat d) ∧ P d
def deC (d : D) : DE := fun _ P => P d
section
variable {X : Cx} {G : Gx}
theorem pd_name {i : Nat} {x : Str} {pos : Pos} (h : PE X (.Name x pos) (tVar i)) : PEd X G (.Name x pos) (deName i) := PE.imp h fun σ H Q ⟨B, δ, P, s, ⟨d, hd, p⟩, q⟩ => by
  obtain ⟨v, e, r⟩ := s.dat hd
  exact ⟨v, e, q v d B H s.here p r⟩
theorem pd_c {e : Expr} {v : V} {d : D} (h : PE X e (tC v)) (r : ∀ B, Rp X.K B v d) : PEd X G e (deC d) := PE.imp h fun σ H Q ⟨B, δ, P, s, p, q⟩ => q v d B H s.here p (r B)
theorem pd_int {i : Int} {j : Nat} {pos : Pos} : PEd X G (.Constant (.int i) j pos) (deC (.int i)) := pd_c pe_int fun _ => .int i
theorem pd_bl {b : Bool} {j : Nat} {pos : Pos} : PEd X G (.Constant (.bool b) j pos) (deC (.bl b)) := pd_c pe_bl fun _ => .bl b
theorem pd_non {j : Nat} {pos : Pos} : PEd X G (.Constant .none j pos) (deC .non) := pd_c pe_non fun _ => .non
theorem pd_str {x : Str} {j : Nat} {pos : Pos} : PEd X G (.Constant (.str x) j pos) (deC (.str x)) := pd_c pe_str fun _ => .str x
/-- a constant of the module -/
theorem pd_gint {x : Str} {i : Int} {pos : Pos} (hm : ∃ t, X.mg x = some (.int i t)) (hg : Gl X x := by rfl) (hd : (x == ("__debug__" : Str)) = false := by decide) : PEd X G (.Name x pos) (deC (.int i)) := by
  obtain ⟨t, hm⟩ := hm
  exact pd_c (pe_glob (v := .int i) hg hm ⟨t, rfl⟩ hd) fun _ => .int i
/-- a def of the module, a class, as a value -/
theorem pd_gref {x : Str} {f : Addr} {pos : Pos} (hm : X.mg x = some (.ref f)) (hg : Gl X x := by rfl) (hd : (x == ("__debug__" : Str)) = false := by decide) : PEd X G (.Name x pos) (deC (.raw (.ref f))) :=
  pd_c (pe_glob (v := .ref f) hg hm rfl hd) fun _ => .raw _
/-- a built-in class, as a value -/
theorem pd_ty {x : Str} {n : String} {pos : Pos} (hm : X.mg x = none) (hv : bootBuiltins x = some (.type n)) (hg : Gl X x := by rfl) (hn : x ≠ "__name__" := by decide) (hd : (x == ("__debug__" : Str)) = false := by decide) : PEd X G (.Name x pos) (deC (.raw (.ty n))) :=
  pd_c (pe_bltn (v := .ty n) hg hm hv rfl hn hd) fun _ => .raw _
end

/-! ### operators -/
def Snd2 (K : PySem.W.Frag) (F : Fs) (r : R2) (rd : D → D → (D → Prop) → Prop) : Prop := ∀ (x y : V) (d e : D) (B H : Hp) (P : D → Prop) (Q : VK), Ex B H → Fok K F B H → Rp K B x d → Rp K B y e → rd d e P →
  (∀ v z B' H', Fm K F B H B' H' → P z → Rp K B' v z → Q v H') → r x y H Q
def Snd1 (K : PySem.W.Frag) (F : Fs) (r : V → Hp → VK → Prop) (rd : D → (D → Prop) → Prop) : Prop := ∀ (x : V) (d : D) (B H : Hp) (P : D → Prop) (Q : VK), Ex B H → Fok K F B H → Rp K B x d → rd d P →
  (∀ v z B' H', Fm K F B H B' H' → P z → Rp K B' v z → Q v H') → r x H Q
def SndC (K : PySem.W.Frag) (F : Fs) (r : List V → Hp → VK → Prop) (rd : List D → (D → Prop) → Prop) : Prop := ∀ (xs : List V) (ds : List D) (B H : Hp) (P : D → Prop) (Q : VK), Ex B H → Fok K F B H → RpA K B xs ds → rd ds P →
  (∀ v z B' H', Fm K F B H B' H' → P z → Rp K B' v z → Q v H') → r xs H Q
def de2 (rd : D → D → (D → Prop) → Prop) (da db : DE) : DE := fun δ P => da δ fun x => db δ fun y => rd x y P
def de1 (rd : D → (D → Prop) → Prop) (da : DE) : DE := fun δ P => da δ fun x => rd x P
def deB (rd : List D → (D → Prop) → Prop) (da : DA) : DE := fun δ P => da δ fun ds => rd ds P
section
variable {X : Cx} {G : Gx} {a b c : Expr} {da db dc : DE} {pos : Pos} {rd : D → D → (D → Prop) → Prop} {r : R2}
theorem te2 {K : PySem.W.Frag} (sd : Snd2 K G.F r rd) : ∀ σ H Q, teOf K G (de2 rd da db) σ H Q → tOp r (teOf K G da) (teOf K G db) σ H Q := fun σ H Q ⟨B, δ, P, s, h, q⟩ =>
  ⟨B, δ, _, s, h, fun x d B1 H1 m1 p1 r1 => ⟨B1, δ, _, s.mono m1, p1, fun y e B2 H2 m2 p2 r2 => sd x y d e B2 H2 P Q m2.e m2.f (r1.mono m2.b) r2 p2 fun v z B' H' m3 p3 r3 => q v z B' H' ((m1.trans m2).trans m3) p3 r3⟩⟩
theorem pd_op {op : Operator} (ho : OpR X (binaryOp op) r) (sd : Snd2 X.K G.F r rd) (ha : PEd X G a da) (hb : PEd X G b db) : PEd X G (.BinOp a op b pos) (de2 rd da db) := PE.imp (pe_op ho ha hb) (te2 sd)
theorem pd_cmp {op : CmpOp} (ho : OpR X (compareOp op) r) (sd : Snd2 X.K G.F r rd) (ha : PEd X G a da) (hb : PEd X G b db) (hm : behindInMarks op b = false) : PEd X G (.Compare a [op] [b] pos) (de2 rd da db) := PE.imp (pe_cmpR ho ha hb hm) (te2 sd)
theorem pd_ix {r' : R2} (ho : IxR X r') (sd : Snd2 X.K G.F r' rd) (ha : PEd X G a da) (hb : PEd X G b db) (hs : PlainIx b := by exact fun _ _ => rfl) : PEd X G (.Subscript a b pos) (de2 rd da db) := PE.imp (pe_ix ho ha hb hs) (te2 sd)
/-- a op1 b op2 c -/
def deChain (rd rd' : D → D → (D → Prop) → Prop) (da db dc : DE) : DE := fun δ P => da δ fun x => db δ fun y => rd x y fun z => ∃ k, z = .bl k ∧ if k = true then dc δ fun w => rd' y w P else P (.bl false)
theorem pd_chain {op op' : CmpOp} {r' : R2} {rd' : D → D → (D → Prop) → Prop} (ho : OpR X (compareOp op) r) (ho' : OpR X (compareOp op') r') (sd : Snd2 X.K G.F r rd) (sd' : Snd2 X.K G.F r' rd') (ha : PEd X G a da) (hb : PEd X G b db) (hc : PEd X G c dc)
    (hm : lastMarks [op, op'] [b, c] = false := by with_unfolding_all rfl) : PEd X G (.Compare a [op, op'] [b, c] pos) (deChain rd rd' da db dc) :=
  PE.imp (pe_chain ho ho' ha hb hc hm) fun σ H Q ⟨B, δ, P, s, h, q⟩ =>
    ⟨B, δ, _, s, h, fun x d B1 H1 m1 p1 r1 => ⟨B1, δ, _, s.mono m1, p1, fun y e B2 H2 m2 p2 r2 => sd x y d e B2 H2 _ _ m2.e m2.f (r1.mono m2.b) r2 p2 fun v z B3 H3 m3 p3 r3 => by
      obtain ⟨k, rfl, p4⟩ := p3
      cases r3
      have m13 := (m1.trans m2).trans m3
      refine ⟨k, rfl, ?_⟩
      cases k with
      | true =>
        exact ⟨B3, δ, _, s.mono m13, p4, fun w f B4 H4 m4 p5 r5 => sd' y w e f B4 H4 P Q m4.e m4.f (r2.mono (m3.b.trans m4.b)) r5 p5 fun v z B' H' m5 p6 r6 => q v z B' H' ((m13.trans m4).trans m5) p6 r6⟩
      | false => exact q _ _ B3 H3 m13 p4 (.bl false)⟩⟩
/-! ints -/
def rdI (g : Int → Int → Int) : D → D → (D → Prop) → Prop := fun x y P => ∃ i j, x = .int i ∧ y = .int j ∧ P (.int (g i j))
def rdIc (C : Int → Int → Prop) (g : Int → Int → Int) : D → D → (D → Prop) → Prop := fun x y P => ∃ i j, x = .int i ∧ y = .int j ∧ C i j ∧ P (.int (g i j))
def rdB (g : Int → Int → Bool) : D → D → (D → Prop) → Prop := fun x y P => ∃ i j, x = .int i ∧ y = .int j ∧ P (.bl (g i j))
theorem snd_I {K : PySem.W.Frag} {F : Fs} {g : Int → Int → Int} : Snd2 K F (rI0 fun i j => .int (g i j)) (rdI g) := fun x y d e B H P Q he hf rx ry ⟨i, j, h1, h2, p⟩ q => by
  subst h1; subst h2; cases rx; cases ry
  exact ⟨i, j, rfl, rfl, q _ _ B H (.refl he hf) p (.int _)⟩
theorem snd_Ic {K : PySem.W.Frag} {F : Fs} {C : Int → Int → Prop} {g : Int → Int → Int} : Snd2 K F (rI C fun i j => .int (g i j)) (rdIc C g) := fun x y d e B H P Q he hf rx ry ⟨i, j, h1, h2, c, p⟩ q => by
  subst h1; subst h2; cases rx; cases ry
  exact ⟨i, j, rfl, rfl, c, q _ _ B H (.refl he hf) p (.int _)⟩
theorem snd_B {K : PySem.W.Frag} {F : Fs} {g : Int → Int → Bool} : Snd2 K F (rI0 fun i j => .bl (g i j)) (rdB g) := fun x y d e B H P Q he hf rx ry ⟨i, j, h1, h2, p⟩ q => by
  subst h1; subst h2; cases rx; cases ry
  exact ⟨i, j, rfl, rfl, q _ _ B H (.refl he hf) p (.bl _)⟩
def rdAdd := rdI fun i j => i + j
def rdSub := rdI fun i j => i - j
def rdMul := rdIc CMul fun i j => i * j
def rdMod := rdIc (fun _ j => 0 < j) fun i j => i % j
def rdDiv := rdIc CDiv fun i j => i / j
def rdPow := rdIc CPow fun i j => i ^ j.toNat
def rdLt := rdB fun i j => decide (i < j)
def rdLe := rdB fun i j => decide (i ≤ j)
def rdGt := rdB fun i j => decide (j < i)
def rdGe := rdB fun i j => decide (j ≤ i)
theorem pd_add (ha : PEd X G a da) (hb : PEd X G b db) : PEd X G (.BinOp a .Add b pos) (de2 rdAdd da db) := pd_op op_add snd_I ha hb
theorem pd_sub (ha : PEd X G a da) (hb : PEd X G b db) : PEd X G (.BinOp a .Sub b pos) (de2 rdSub da db) := pd_op op_sub snd_I ha hb
theorem pd_mul (ha : PEd X G a da) (hb : PEd X G b db) : PEd X G (.BinOp a .Mult b pos) (de2 rdMul da db) := pd_op op_mul snd_Ic ha hb
theorem pd_mod (ha : PEd X G a da) (hb : PEd X G b db) : PEd X G (.BinOp a .Mod b pos) (de2 rdMod da db) := pd_op op_mod snd_Ic ha hb
theorem pd_div (ha : PEd X G a da) (hb : PEd X G b db) : PEd X G (.BinOp a .FloorDiv b pos) (de2 rdDiv da db) := pd_op op_fdiv snd_Ic ha hb
theorem pd_pow (ha : PEd X G a da) (hb : PEd X G b db) : PEd X G (.BinOp a .Pow b pos) (de2 rdPow da db) := pd_op op_pow snd_Ic ha hb
theorem pd_lt (ha : PEd X G a da) (hb : PEd X G b db) : PEd X G (.Compare a [.Lt] [b] pos) (de2 rdLt da db) := pd_cmp op_lt snd_B ha hb (nomark _)
theorem pd_le (ha : PEd X G a da) (hb : PEd X G b db) : PEd X G (.Compare a [.LtE] [b] pos) (de2 rdLe da db) := pd_cmp op_le snd_B ha hb (nomark _)
theorem pd_gt (ha : PEd X G a da) (hb : PEd X G b db) : PEd X G (.Compare a [.Gt] [b] pos) (de2 rdGt da db) := pd_cmp op_gt snd_B ha hb (nomark _)
theorem pd_ge (ha : PEd X G a da) (hb : PEd X G b db) : PEd X G (.Compare a [.GtE] [b] pos) (de2 rdGe da db) := pd_cmp op_ge snd_B ha hb (nomark _)
theorem pd_lele (ha : PEd X G a da) (hb : PEd X G b db) (hc : PEd X G c dc) (hm : lastMarks [CmpOp.LtE, CmpOp.LtE] [b, c] = false := by with_unfolding_all rfl) : PEd X G (.Compare a [.LtE, .LtE] [b, c] pos) (deChain rdLe rdLe da db dc) := pd_chain op_le op_le snd_B snd_B ha hb hc hm
theorem pd_lelt (ha : PEd X G a da) (hb : PEd X G b db) (hc : PEd X G c dc) (hm : lastMarks [CmpOp.LtE, CmpOp.Lt] [b, c] = false := by with_unfolding_all rfl) : PEd X G (.Compare a [.LtE, .Lt] [b, c] pos) (deChain rdLe rdLt da db dc) := pd_chain op_le op_lt snd_B snd_B ha hb hc hm
theorem pd_ltle (ha : PEd X G a da) (hb : PEd X G b db) (hc : PEd X G c dc) (hm : lastMarks [CmpOp.Lt, CmpOp.LtE] [b, c] = false := by with_unfolding_all rfl) : PEd X G (.Compare a [.Lt, .LtE] [b, c] pos) (deChain rdLt rdLe da db dc) := pd_chain op_lt op_le snd_B snd_B ha hb hc hm
/-! -a -/
def rdNeg : D → (D → Prop) → Prop := fun x P => ∃ i, x = .int i ∧ P (.int (-i))
theorem pd_neg (ha : PEd X G a da) : PEd X G (.UnaryOp .USub a pos) (de1 rdNeg da) := PE.imp (pe_un un_neg ha) fun σ H Q ⟨B, δ, P, s, h, q⟩ =>
  ⟨B, δ, _, s, h, fun x d B1 H1 m1 ⟨i, e, p⟩ r1 => by
    subst e; cases r1
    exact ⟨i, rfl, q _ _ B1 H1 m1 p (.int _)⟩⟩
/-! is None, is True -/
def D.isNon : D → Bool
  | .non => true
  | _ => false
/-- no raw value -/
def D.cooked : D → Bool
  | .raw _ => false
  | _ => true
theorem Rp.isNon {K : PySem.W.Frag} {B : Hp} {v : V} {d : D} (r : Rp K B v d) (c : d.cooked = true) : decide (v = V.non) = d.isNon := by
  cases r <;> first | rfl | cases c
def rdIsN : D → D → (D → Prop) → Prop := fun x y P => y = .non ∧ x.cooked = true ∧ P (.bl x.isNon)
def rdNotN : D → D → (D → Prop) → Prop := fun x y P => y = .non ∧ x.cooked = true ∧ P (.bl (!x.isNon))
theorem pd_isN (ha : PEd X G a da) (hb : PEd X G b db) : PEd X G (.Compare a [.Is] [b] pos) (de2 rdIsN da db) :=
  pd_cmp op_isN (fun x y d e B H P Q he hf rx ry ⟨h1, h2, p⟩ q => by
    subst h1; cases ry
    refine ⟨rfl, ?_⟩
    rw [rx.isNon h2]
    exact q _ _ B H (.refl he hf) p (.bl _)) ha hb (nomark _)
theorem pd_notN (ha : PEd X G a da) (hb : PEd X G b db) : PEd X G (.Compare a [.IsNot] [b] pos) (de2 rdNotN da db) :=
  pd_cmp op_notN (fun x y d e B H P Q he hf rx ry ⟨h1, h2, p⟩ q => by
    subst h1; cases ry
    refine ⟨rfl, ?_⟩
    rw [rx.isNon h2]
    exact q _ _ B H (.refl he hf) p (.bl _)) ha hb (nomark _)
def rdIsB : D → D → (D → Prop) → Prop := fun x y P => ∃ i j, x = .bl i ∧ y = .bl j ∧ P (.bl (decide (i = j)))
def rdNotB : D → D → (D → Prop) → Prop := fun x y P => ∃ i j, x = .bl i ∧ y = .bl j ∧ P (.bl (!decide (i = j)))
theorem pd_isB (ha : PEd X G a da) (hb : PEd X G b db) : PEd X G (.Compare a [.Is] [b] pos) (de2 rdIsB da db) :=
  pd_cmp op_isBl (fun x y d e B H P Q he hf rx ry ⟨i, j, h1, h2, p⟩ q => by
    subst h1; subst h2; cases rx; cases ry
    exact ⟨i, j, rfl, rfl, q _ _ B H (.refl he hf) p (.bl _)⟩) ha hb (nomark _)
theorem pd_notB (ha : PEd X G a da) (hb : PEd X G b db) : PEd X G (.Compare a [.IsNot] [b] pos) (de2 rdNotB da db) :=
  pd_cmp op_notBl (fun x y d e B H P Q he hf rx ry ⟨i, j, h1, h2, p⟩ q => by
    subst h1; subst h2; cases rx; cases ry
    exact ⟨i, j, rfl, rfl, q _ _ B H (.refl he hf) p (.bl _)⟩) ha hb (nomark _)
end

/-! ### == of data -/
mutual
def D.py : D → PyData
  | .non => .none
  | .bl b => .bool b
  | .int i => .int i
  | .str s => .str s
  | .lst xs => .list (D.pyA xs)
  | .tup xs => .tuple (D.pyA xs)
  | _ => .none
def D.pyA : List D → List PyData
  | [] => []
  | d :: ds => D.py d :: D.pyA ds
end
mutual
/-- plain data: None, bools, ints, texts, lists, tuples -/
def D.plain : D → Bool
  | .non => true
  | .bl _ => true
  | .int _ => true
  | .str _ => true
  | .lst xs => D.plainA xs
  | .tup xs => D.plainA xs
  | _ => false
def D.plainA : List D → Bool
  | [] => true
  | d :: ds => D.plain d && D.plainA ds
end
section
variable {K : PySem.W.Frag} {B : Hp}
mutual
theorem Rp.dp : ∀ {v : V} {d : D}, Rp K B v d → d.plain = true → Dp K B v d.py
  | _, _, .non, _ => .non
  | _, _, .bl b, _ => .bl b
  | _, _, .int i, _ => .int i
  | _, _, .str s, _ => .str s
  | _, _, .lst h r, p => .lst (SqL.of h) (RpA.dp r (by simpa [D.plain] using p))
  | _, _, .tup h r, p => .tup h (RpA.dp r (by simpa [D.plain] using p))
  | _, _, .raw v, p => by cases p
  | _, _, .dct h, p => by cases p
  | _, _, .ln h h2 hf ht r, p => by cases p
theorem RpA.dp : ∀ {vs : List V} {ds : List D}, RpA K B vs ds → D.plainA ds = true → DpAll K B vs (D.pyA ds)
  | _, _, .nil, _ => .nil
  | _, _, .cons h r, p => by
    have p' := Bool.and_eq_true_iff.mp (by simpa only [D.plainA] using p)
    exact .cons (Rp.dp h p'.1) (RpA.dp r p'.2)
end
end
mutual
theorem dp_ex {K : PySem.W.Frag} {H H' : Hp} (e : Ex H H') : ∀ {v : V} {d : PyData}, Dp K H v d → Dp K H' v d
  | _, _, .non => .non
  | _, _, .bl b => .bl b
  | _, _, .int i => .int i
  | _, _, .str s => .str s
  | _, _, .lst h r => .lst (exL e h) (dpA_ex e r)
  | _, _, .tup h r => .tup (exT e h) (dpA_ex e r)
theorem dpA_ex {K : PySem.W.Frag} {H H' : Hp} (e : Ex H H') : ∀ {v : List V} {d : List PyData}, DpAll K H v d → DpAll K H' v d
  | _, _, .nil => .nil
  | _, _, .cons h r => .cons (dp_ex e h) (dpA_ex e r)
end
/-- plain, and of a form that == takes -/
def D.eqOk (d : D) : Bool := d.plain && SeqAt.shaped d.py
def D.eqv (d e : D) : Bool := PyData.eqv d.py e.py
theorem D.eqv_refl {d : D} (h : d.eqOk = true) : d.eqv d = true := SeqAt.eqv_refl _ (SeqAt.canLay_of_shaped (Bool.and_eq_true_iff.mp h).2)
section
variable {X : Cx} {G : Gx} {a b c : Expr} {da db dc : DE} {pos : Pos}
def rdEq : D → D → (D → Prop) → Prop := fun x y P => x.eqOk = true ∧ y.eqOk = true ∧ P (.bl (x.eqv y))
def rdNe : D → D → (D → Prop) → Prop := fun x y P => x.eqOk = true ∧ y.eqOk = true ∧ P (.bl (!x.eqv y))
theorem pd_eq (hu : X.A.units + 64 < cLine) (ha : PEd X G a da) (hb : PEd X G b db) : PEd X G (.Compare a [.Eq] [b] pos) (de2 rdEq da db) :=
  pd_cmp (op_eqD hu) (fun x y d e B H P Q he hf rx ry ⟨h1, h2, p⟩ q => by
    have p1 := Bool.and_eq_true_iff.mp h1
    have p2 := Bool.and_eq_true_iff.mp h2
    exact ⟨d.py, e.py, dp_ex he (rx.dp p1.1), dp_ex he (ry.dp p2.1), p1.2, p2.2, q _ _ B H (.refl he hf) p (.bl _)⟩) ha hb (nomark _)
theorem pd_ne (hu : X.A.units + 64 < cLine) (ha : PEd X G a da) (hb : PEd X G b db) : PEd X G (.Compare a [.NotEq] [b] pos) (de2 rdNe da db) :=
  pd_cmp (op_neD hu) (fun x y d e B H P Q he hf rx ry ⟨h1, h2, p⟩ q => by
    have p1 := Bool.and_eq_true_iff.mp h1
    have p2 := Bool.and_eq_true_iff.mp h2
    exact ⟨d.py, e.py, dp_ex he (rx.dp p1.1), dp_ex he (ry.dp p2.1), p1.2, p2.2, q _ _ B H (.refl he hf) p (.bl _)⟩) ha hb (nomark _)
end

/-! ### and, or, not, if -/
section
variable {X : Cx} {G : Gx} {a b c e : Expr} {rest : List Expr} {da db dc : DE} {ta tb : DT} {pos : Pos}
def deAnd (da db : DE) : DE := fun δ P => da δ fun x => ∃ k, x = .bl k ∧ if k = true then db δ P else P (.bl false)
def deOr (da db : DE) : DE := fun δ P => da δ fun x => ∃ k, x = .bl k ∧ if k = true then P (.bl true) else db δ P
def deNot (da : DE) : DE := fun δ P => da δ fun x => ∃ k, x = .bl k ∧ P (.bl (!k))
theorem pd_one {op : BoolOp} (h : PEd X G a da) : PEd X G (.BoolOp op [a] pos) da := pe_one h
theorem pd_and (ha : PEd X G a da) (hb : PEd X G (.BoolOp .And (b :: rest) pos) db) : PEd X G (.BoolOp .And (a :: b :: rest) pos) (deAnd da db) := PE.imp (pe_and ha hb) fun σ H Q ⟨B, δ, P, s, h, q⟩ =>
  ⟨B, δ, _, s, h, fun x d B1 H1 m1 ⟨k, e, p⟩ r1 => by
    subst e; cases r1
    refine ⟨k, rfl, ?_⟩
    cases k with
    | true => exact ⟨B1, δ, P, s.mono m1, p, fun v d B' H' m => q v d B' H' (m1.trans m)⟩
    | false => exact q _ _ B1 H1 m1 p (.bl _)⟩
theorem pd_or (ha : PEd X G a da) (hb : PEd X G (.BoolOp .Or (b :: rest) pos) db) : PEd X G (.BoolOp .Or (a :: b :: rest) pos) (deOr da db) := PE.imp (pe_or ha hb) fun σ H Q ⟨B, δ, P, s, h, q⟩ =>
  ⟨B, δ, _, s, h, fun x d B1 H1 m1 ⟨k, e, p⟩ r1 => by
    subst e; cases r1
    refine ⟨k, rfl, ?_⟩
    cases k with
    | false => exact ⟨B1, δ, P, s.mono m1, p, fun v d B' H' m => q v d B' H' (m1.trans m)⟩
    | true => exact q _ _ B1 H1 m1 p (.bl _)⟩
theorem pd_not (ha : PEd X G a da) : PEd X G (.UnaryOp .Not a pos) (deNot da) := PE.imp (pe_not ha) fun σ H Q ⟨B, δ, P, s, h, q⟩ =>
  ⟨B, δ, _, s, h, fun x d B1 H1 m1 ⟨k, e, p⟩ r1 => by
    subst e; cases r1
    exact ⟨k, rfl, q _ _ B1 H1 m1 p (.bl _)⟩⟩
/-! tests -/
def dtV (da : DE) : DT := fun δ P => da δ fun x => ∃ k, x = .bl k ∧ P k
theorem ptd_val (h : PEd X G e da) (he : ∀ whole, isTrue e X.env whole = (do let v ← whole; standAt e.pos; holding [v] (truthy v)) := by intro _; rfl) : PTd X G e (dtV da) := PT.imp (pt_val h he) fun σ H Q ⟨B, δ, P, s, h, q⟩ =>
  ⟨B, δ, _, s, h, fun x d B1 H1 m1 ⟨k, e, p⟩ r1 => by
    subst e; cases r1
    exact ⟨k, rfl, q _ B1 H1 m1 p⟩⟩
def dtAnd (ta tb : DT) : DT := fun δ P => ta δ fun k => if k = true then tb δ P else P false
def dtOr (ta tb : DT) : DT := fun δ P => ta δ fun k => if k = true then P true else tb δ P
def dtNot (ta : DT) : DT := fun δ P => ta δ fun k => P (!k)
theorem pwd_and1 (ha : PTd X G a ta) : PWd X G (.BoolOp .And [a] pos) ta := pw_and1 ha
theorem pwd_or1 (ha : PTd X G a ta) : PWd X G (.BoolOp .Or [a] pos) ta := pw_or1 ha
theorem pwd_and (ha : PTd X G a ta) (hb : PWd X G (.BoolOp .And (b :: rest) pos) tb) : PWd X G (.BoolOp .And (a :: b :: rest) pos) (dtAnd ta tb) := PW.imp (pw_and ha hb) fun σ H Q ⟨B, δ, P, s, h, q⟩ =>
  ⟨B, δ, _, s, h, fun k B1 H1 m1 p => by
    cases k with
    | true => exact ⟨B1, δ, P, s.mono m1, p, fun b B' H' m => q b B' H' (m1.trans m)⟩
    | false => exact q _ B1 H1 m1 p⟩
theorem pwd_or (ha : PTd X G a ta) (hb : PWd X G (.BoolOp .Or (b :: rest) pos) tb) : PWd X G (.BoolOp .Or (a :: b :: rest) pos) (dtOr ta tb) := PW.imp (pw_or ha hb) fun σ H Q ⟨B, δ, P, s, h, q⟩ =>
  ⟨B, δ, _, s, h, fun k B1 H1 m1 p => by
    cases k with
    | false => exact ⟨B1, δ, P, s.mono m1, p, fun b B' H' m => q b B' H' (m1.trans m)⟩
    | true => exact q _ B1 H1 m1 p⟩
theorem ptd_w (h : PWd X G e ta) : PTd X G e ta := PW.pt h
theorem ptd_not (ha : PTd X G a ta) : PTd X G (.UnaryOp .Not a pos) (dtNot ta) := PT.imp (pt_not ha) fun σ H Q ⟨B, δ, P, s, h, q⟩ => ⟨B, δ, _, s, h, fun k B1 H1 m1 p => q _ B1 H1 m1 p⟩
def deIf (tc : DT) (da db : DE) : DE := fun δ P => tc δ fun k => if k = true then da δ P else db δ P
theorem pd_ifExp (hc : PTd X G c ta) (ha : PEd X G a da) (hb : PEd X G b db) : PEd X G (.IfExp c a b pos) (deIf ta da db) := PE.imp (pe_ifExp hc ha hb) fun σ H Q ⟨B, δ, P, s, h, q⟩ =>
  ⟨B, δ, _, s, h, fun k B1 H1 m1 p => by
    cases k with
    | true => exact ⟨B1, δ, P, s.mono m1, p, fun v d B' H' m => q v d B' H' (m1.trans m)⟩
    | false => exact ⟨B1, δ, P, s.mono m1, p, fun v d B' H' m => q v d B' H' (m1.trans m)⟩⟩
end
end Sd
end
-- SdCalls
section
set_option Elab.async false
set_option linter.all false
set_option maxRecDepth 100000
set_option maxHeartbeats 4000000
set_option autoImplicit false
namespace Sd
open PySem PySem.Spec PyProof.Rows L2
open Evl (Ex)

theorem size_ok {n : Nat} (h : n ≤ 100000) : n ≤ sizeLine := Evl.sz_of h
theorem size_lt {n : Nat} (h : n < 100000) : n < sizeLine := Evl.sz_lt h

/-! ### arguments, displays -/
def D.seq : D → Option (List D)
  | .lst xs => some xs
  | .tup xs => some xs
  | _ => none
def daNil : DA := fun _ P => P []
def daCons (de : DE) (da : DA) : DA := fun δ P => de δ fun x => da δ fun xs => P (x :: xs)
def daStar (de : DE) (da : DA) : DA := fun δ P => de δ fun x => ∃ xs, x.seq = some xs ∧ da δ fun ys => P (xs ++ ys)
def deTup (da : DA) : DE := fun δ P => da δ fun ds => ds.length ≤ 100000 ∧ P (.tup ds)
def deLst (da : DA) : DE := fun δ P => da δ fun ds => ds.length ≤ 100000 ∧ P (.lst ds)
section
variable {X : Cx} {G : Gx} {e : Expr} {es : List Expr} {de : DE} {da : DA} {pos p : Pos}
theorem seq_any {K : PySem.W.Frag} {B H : Hp} {v : V} {d : D} {xs : List D} (e : Ex B H) (r : Rp K B v d) (h : d.seq = some xs) : ∃ a vs, v = .ref a ∧ (SqL K H a vs ∨ SqT K H a vs) ∧ RpA K B vs xs := by
  cases r with
  | lst h1 r => cases h; exact ⟨_, _, rfl, .inl (SqL.of (e _ _ h1)), r⟩
  | tup h1 r => cases h; exact ⟨_, _, rfl, .inr (exT e h1), r⟩
  | _ => cases h
/-- the end where a new list, a new tuple is made -/
theorem newL {K : PySem.W.Frag} {F : Fs} {B H B1 H1 : Hp} {P : D → Prop} {Q : VK} {vs : List V} {ds : List D} {p : Addr} (q : ∀ v z B' H', Fm K F B H B' H' → P z → Rp K B' v z → Q v H') (m1 : Fm K F B H B1 H1) (ra : RpA K B1 vs ds) (pz : P (.lst ds)) (hp : H1 p = none) : Q (.ref p) (upd H1 p (.lst vs)) := by
  have m2 := Fm.new (o := .lst vs) m1.e m1.f hp
  exact q _ _ _ _ (m1.trans m2) pz (.lst upd_same (ra.mono m2.b))
theorem newT {K : PySem.W.Frag} {F : Fs} {B H B1 H1 : Hp} {P : D → Prop} {Q : VK} {vs : List V} {ds : List D} {p : Addr} (q : ∀ v z B' H', Fm K F B H B' H' → P z → Rp K B' v z → Q v H') (m1 : Fm K F B H B1 H1) (ra : RpA K B1 vs ds) (pz : P (.tup ds)) (hp : H1 p = none) : Q (.ref p) (upd H1 p (.tup vs)) := by
  have m2 := Fm.new (o := .tup vs) m1.e m1.f hp
  exact q _ _ _ _ (m1.trans m2) pz (.tup (SqT.of upd_same) (ra.mono m2.b))
theorem pad_nil : PAd X G [] daNil := PA.imp pa_nil fun σ H Q ⟨B, δ, P, s, p, q⟩ => q [] [] B H s.here p .nil
theorem pad_cons (he : PEd X G e de) (hr : PAd X G es da) (hs : starEach (e :: es) X.env = (false, eval e X.env) :: starEach es X.env := by rfl) : PAd X G (e :: es) (daCons de da) := PA.imp (pa_cons he hr hs) fun σ H Q ⟨B, δ, P, s, h, q⟩ =>
  ⟨B, δ, _, s, h, fun x d B1 H1 m1 p1 r1 => ⟨B1, δ, _, s.mono m1, p1, fun xs ds B2 H2 m2 p2 r2 => q _ _ B2 H2 (m1.trans m2) p2 (.cons (r1.mono m2.b) r2)⟩⟩
theorem pad_star (he : PEd X G e de) (hr : PAd X G es da) (hs : starEach (.Starred e p :: es) X.env = (true, eval e X.env) :: starEach es X.env := by rfl) : PAd X G (.Starred e p :: es) (daStar de da) := PA.imp (StX.pa_star he hr hs) fun σ H Q ⟨B, δ, P, s, h, q⟩ =>
  ⟨B, δ, _, s, h, fun x d B1 H1 m1 ⟨xs, e, p1⟩ r1 => by
    obtain ⟨a, vs, rfl, hq, ra⟩ := seq_any m1.e r1 e
    exact ⟨a, vs, rfl, hq.symm, B1, δ, _, s.mono m1, p1, fun ws ds B2 H2 m2 p2 r2 => q _ _ B2 H2 (m1.trans m2) p2 ((ra.mono m2.b).app r2)⟩⟩
theorem pd_tup {k : Nat} (h : PAd X G es da) : PEd X G (.Tuple es k pos) (deTup da) := PE.imp (pe_tup h) fun σ H Q ⟨B, δ, P, s, h, q⟩ =>
  ⟨B, δ, _, s, h, fun xs ds B1 H1 m1 ⟨hl, p1⟩ r1 => ⟨by rw [r1.length]; exact size_ok hl, fun p hp => newT q m1 r1 p1 hp⟩⟩
theorem pd_lst (h : PAd X G es da) : PEd X G (.List es pos) (deLst da) := PE.imp (pe_lst h) fun σ H Q ⟨B, δ, P, s, h, q⟩ =>
  ⟨B, δ, _, s, h, fun xs ds B1 H1 m1 ⟨hl, p1⟩ r1 => ⟨by rw [r1.length]; exact size_ok hl, fun p hp => newL q m1 r1 p1 hp⟩⟩
end

/-! ### items, slices -/
theorem RpA.atI {K : PySem.W.Frag} {B : Hp} {vs : List V} {ds : List D} {i : Int} {d : D} (r : RpA K B vs ds) (h : L2.atI ds i = some d) : ∃ v, L2.atI vs i = some v ∧ Rp K B v d := by
  unfold L2.atI at h ⊢
  rw [r.length]
  cases e : ixN ds.length i with
  | none => rw [e] at h; cases h
  | some j =>
    rw [e] at h
    exact r.at h
def D.ix (x y : D) : Option D := match x.seq, y with
  | some xs, .int i => L2.atI xs i
  | _, _ => none
def rdIx : D → D → (D → Prop) → Prop := fun x y P => ∃ z, x.ix y = some z ∧ P z
def cut {α : Type} (xs : List α) (lo hi : Option Int) : List α := (xs.drop (HT.sIx xs.length 0 lo)).take (HT.sIx xs.length xs.length hi - HT.sIx xs.length 0 lo)
theorem RpA.cut {K : PySem.W.Frag} {B : Hp} {vs : List V} {ds : List D} (r : RpA K B vs ds) (lo hi : Option Int) : RpA K B (cutV vs lo hi) (Sd.cut ds lo hi) := by
  unfold cutV Sd.cut
  rw [r.length]
  exact (r.drop _).take _
theorem cut_whole {α : Type} {xs : List α} {lo hi : Option Int} (h : HT.sIx xs.length 0 lo = 0 ∧ HT.sIx xs.length xs.length hi = xs.length) : cut xs lo hi = xs := by
  unfold cut
  rw [h.1, h.2]
  simp
def D.sl (x : D) (lo hi : Option Int) : Option D := match x with
  | .lst xs => some (.lst (cut xs lo hi))
  | .tup xs => some (.tup (cut xs lo hi))
  | _ => none
def doNone : DO := fun _ P => P none
def doSome (de : DE) : DO := fun δ P => de δ fun x => ∃ i, x = .int i ∧ P (some i)
def deSl (de : DE) (l u : DO) : DE := fun δ P => de δ fun x => l δ fun lo => u δ fun hi => ∃ z, x.sl lo hi = some z ∧ P z
section
variable {X : Cx} {G : Gx} {a b e : Expr} {da db de : DE} {pos p2 : Pos} {lo hi : Option Expr} {dl dh : DO}
theorem pd_item (ha : PEd X G a da) (hb : PEd X G b db) (hs : PlainIx b := by exact fun _ _ => rfl) : PEd X G (.Subscript a b pos) (de2 rdIx da db) :=
  pd_ix ix_seq (fun x y d e B H P Q he hf rx ry ⟨z, h, p⟩ q => by
    unfold D.ix at h
    cases hq : d.seq with
    | none => rw [hq] at h; cases h
    | some xs =>
      rw [hq] at h
      cases e with
      | int i =>
        cases ry
        obtain ⟨t, vs, rfl, hs, ra⟩ := seq_any he rx hq
        obtain ⟨v, ev, rv⟩ := ra.atI h
        rcases hs with hs | hs
        · exact .inl ⟨t, vs, i, v, rfl, rfl, hs, ev, q _ _ B H (.refl he hf) p rv⟩
        · exact .inr (.inl ⟨t, vs, i, v, rfl, rfl, hs, ev, q _ _ B H (.refl he hf) p rv⟩)
      | _ => cases h) ha hb hs
theorem pod_none : POd X G none doNone := PO.imp po_none fun σ H Q ⟨B, δ, P, s, p, q⟩ => q none B H s.here p
theorem pod_some (h : PEd X G e de) : POd X G (some e) (doSome de) := PO.imp (po_some h) fun σ H Q ⟨B, δ, P, s, h, q⟩ =>
  ⟨B, δ, _, s, h, fun x d B1 H1 m1 ⟨i, e, p⟩ r1 => by
    subst e; cases r1
    exact ⟨i, rfl, q _ B1 H1 m1 p⟩⟩
theorem pd_slice (he : PEd X G e de) (hl : POd X G lo dl) (hu : POd X G hi dh) : PEd X G (.Subscript e (.Slice lo hi none p2) pos) (deSl de dl dh) := PE.imp (pe_slice (SlR.or sl_list sl_tupA) he hl hu) fun σ H Q ⟨B, δ, P, s, h, q⟩ =>
  ⟨B, δ, _, s, h, fun x d B1 H1 m1 p1 r1 => ⟨B1, δ, _, s.mono m1, p1, fun o B2 H2 m2 p2 => ⟨B2, δ, _, s.mono (m1.trans m2), p2, fun o' B3 H3 m3 ⟨z, ez, p3⟩ => by
    have m := (m1.trans m2).trans m3
    have r3 := r1.mono (m2.b.trans m3.b)
    cases r3 with
    | lst h1 ra =>
      cases ez
      refine .inl ⟨_, _, rfl, SqL.of (m3.e _ _ h1), fun p hp => newL q m (ra.cut o o') p3 hp⟩
    | tup h1 ra =>
      cases ez
      refine .inr ⟨_, _, rfl, exT m3.e h1, fun w => ?_, fun w p hp => newT q m (ra.cut o o') p3 hp⟩
      · rw [ra.length] at w
        refine q _ _ B3 H3 m p3 ?_
        rw [cut_whole w]
        exact .tup h1 ra
    | _ => cases ez⟩⟩⟩
/-- xs[::-1] -/
def rdRev : D → (D → Prop) → Prop := fun x P => ∃ xs, x = .lst xs ∧ P (.lst xs.reverse)
theorem pd_rev {k : Nat} {p1 p2 p3 : Pos} (he : PEd X G e de) : PEd X G (.Subscript e (.Slice none none (some (.UnaryOp .USub (.Constant (.int 1) k p1) p2)) p3) pos) (de1 rdRev de) := PE.imp (pe_revL he) fun σ H Q ⟨B, δ, P, s, h, q⟩ =>
  ⟨B, δ, _, s, h, fun x d B1 H1 m1 ⟨xs, e, p⟩ r1 => by
    subst e
    cases r1 with
    | lst h1 ra =>
      refine ⟨_, _, rfl, SqL.of (m1.e _ _ h1), fun p' hp => newL q m1 ra.rev p hp⟩⟩
/-- line.seats -/
def rdSeats : D → (D → Prop) → Prop := fun x P => ∃ xs, x = .ln xs ∧ P (.tup xs)
theorem pd_seats (c : Cls X.K (He.ga X.K "Line")) (n : NoAttr X.K (He.ga X.K "Line") "seats") (he : PEd X G e de) (hb : attributeBase e "seats" X.env (eval e X.env) = eval e X.env := by rfl) : PEd X G (.Attribute e "seats" pos) (de1 rdSeats de) := PE.imp (pe_fld he hb) fun σ H Q ⟨B, δ, P, s, h, q⟩ =>
  ⟨B, δ, _, s, h, fun x d B1 H1 m1 ⟨xs, e, p⟩ r1 => by
    subst e
    cases r1 with
    | ln h1 h2 hf ht ra => exact ⟨_, _, _, _, _, rfl, m1.e _ _ h1, c, n, hf, q _ _ B1 H1 m1 p (.tup ht ra)⟩⟩
/-! + of lists, of tuples; * -/
def rdCatL : D → D → (D → Prop) → Prop := fun x y P => ∃ xs ys, x = .lst xs ∧ y = .lst ys ∧ xs.length + ys.length ≤ 100000 ∧ P (.lst (xs ++ ys))
def rdCatT : D → D → (D → Prop) → Prop := fun x y P => ∃ xs ys, x = .tup xs ∧ y = .tup ys ∧ xs.length + ys.length ≤ 100000 ∧ P (.tup (xs ++ ys))
theorem pd_catL (ha : PEd X G a da) (hb : PEd X G b db) : PEd X G (.BinOp a .Add b pos) (de2 rdCatL da db) :=
  pd_op op_cat (fun x y d e B H P Q he hf rx ry ⟨xs, ys, h1, h2, hl, p⟩ q => by
    subst h1; subst h2
    cases rx with
    | lst hx ra =>
      cases ry with
      | lst hy rb =>
        refine ⟨_, _, _, _, rfl, rfl, he _ _ hx, he _ _ hy, by rw [ra.length, rb.length]; exact size_ok hl, fun p' hp => newL q (.refl he hf) (ra.app rb) p hp⟩) ha hb
theorem pd_catT (ha : PEd X G a da) (hb : PEd X G b db) : PEd X G (.BinOp a .Add b pos) (de2 rdCatT da db) :=
  pd_op op_catA (fun x y d e B H P Q he hf rx ry ⟨xs, ys, h1, h2, hl, p⟩ q => by
    subst h1; subst h2
    cases rx with
    | tup hx ra =>
      cases ry with
      | tup hy rb =>
        refine ⟨_, _, _, _, rfl, rfl, exT he hx, exT he hy, by rw [ra.length, rb.length]; exact size_ok hl, fun z => ?_, fun z1 z2 => ?_, fun z1 z2 p' hp => newT q (.refl he hf) (ra.app rb) p hp⟩
        · subst z
          cases ra
          exact q _ _ B H (.refl he hf) p (.tup hy rb)
        · subst z2
          cases rb
          rw [List.append_nil] at p
          exact q _ _ B H (.refl he hf) p (.tup hx ra)) ha hb
def repD {α : Type} (n : Int) (xs : List α) : List α := (List.replicate n.toNat xs).flatten
def rdRepL : D → D → (D → Prop) → Prop := fun x y P => ∃ xs n, x = .lst xs ∧ y = .int n ∧ 0 ≤ n ∧ n ≤ 100000 ∧ xs.length * n.toNat ≤ 100000 ∧ P (.lst (repD n xs))
theorem pd_repL (ha : PEd X G a da) (hb : PEd X G b db) : PEd X G (.BinOp a .Mult b pos) (de2 rdRepL da db) :=
  pd_op op_rep (fun x y d e B H P Q he hf rx ry ⟨xs, n, h1, h2, h3, h4, hl, p⟩ q => by
    subst h1; subst h2
    cases rx with
    | lst hx ra =>
      cases ry
      refine ⟨_, n, _, rfl, rfl, he _ _ hx, by omega, by omega, by rw [ra.length]; exact size_ok hl, fun p' hp => newL q (.refl he hf) (ra.rep _) p hp⟩) ha hb
end

/-! ### built-in functions -/
section
variable {X : Cx} {G : Gx} {e : Expr} {es : List Expr} {da : DA} {x : Str} {p pos : Pos} {id T : String} {r : List V → Hp → VK → Prop} {rd : List D → (D → Prop) → Prop}
theorem teB {K : PySem.W.Frag} (sd : SndC K G.F r rd) : ∀ σ H Q, teOf K G (deB rd da) σ H Q → tCB r (taOf K G da) σ H Q := fun σ H Q ⟨B, δ, P, s, h, q⟩ =>
  ⟨B, δ, _, s, h, fun xs ds B1 H1 m1 p1 r1 => sd xs ds B1 H1 P Q m1.e m1.f r1 p1 fun v z B' H' m2 => q v z B' H' (m1.trans m2)⟩
theorem pd_callB (hc : CallR X (.builtin id) r) (sd : SndC X.K G.F r rd) (hm : X.mg x = none) (ha : PAd X G (e :: es) da) (hv : bootBuiltins x = some (.builtin id) := by decide +kernel) (hg : Gl X x := by rfl) (hn : x ≠ "__name__" := by decide) (hdb : (x == ("__debug__" : Str)) = false := by decide)
    (he : starEach (e :: es) X.env = (false, eval e X.env) :: starEach es X.env := by rfl) (hpl : (backTo pos (starEach es X.env)).any (·.1) = false := by rfl) : PEd X G (.Call (.Name x p) (e :: es) [] pos) (deB rd da) :=
  PE.imp (pe_callB hc hg hm hv ha hn hdb he hpl) (teB sd)
theorem pd_callTy (hc : CallR X (.type T) r) (sd : SndC X.K G.F r rd) (hm : X.mg x = none) (ha : PAd X G (e :: es) da) (hv : bootBuiltins x = some (.type T) := by decide +kernel) (hg : Gl X x := by rfl) (hn : x ≠ "__name__" := by decide) (hdb : (x == ("__debug__" : Str)) = false := by decide)
    (he : starEach (e :: es) X.env = (false, eval e X.env) :: starEach es X.env := by rfl) (hpl : (backTo pos (starEach es X.env)).any (·.1) = false := by rfl) : PEd X G (.Call (.Name x p) (e :: es) [] pos) (deB rd da) :=
  PE.imp (pe_callTy hc hg hm hv ha hn hdb he hpl) (teB sd)
end
def rdLen : List D → (D → Prop) → Prop := fun ds P => ∃ x xs, ds = [x] ∧ x.seq = some xs ∧ P (.int xs.length)
theorem snd_len {X : Cx} {F : Fs} : SndC X.K F (fun xs H Q => ∃ p ys, xs = [.ref p] ∧ (SqL X.K H p ys ∨ SqT X.K H p ys) ∧ Q (.int ys.length) H) rdLen := fun xs ds B H P Q he hf r ⟨x, ys, h1, h2, p⟩ q => by
  subst h1
  cases r with
  | cons rx rn =>
    cases rn
    obtain ⟨a, vs, rfl, hs, ra⟩ := seq_any he rx h2
    refine ⟨a, vs, rfl, hs, ?_⟩
    rw [ra.length]
    exact q _ _ B H (.refl he hf) p (.int _)
def rdSum : List D → (D → Prop) → Prop := fun ds P => ∃ ns : List Int, ds = [.lst (ns.map .int)] ∧ P (.int ns.sum)
theorem snd_sum {X : Cx} {F : Fs} : SndC X.K F (rSum X.K) rdSum := fun xs ds B H P Q he hf r ⟨ns, h1, p⟩ q => by
  subst h1
  cases r with
  | cons rx rn =>
    cases rn
    cases rx with
    | lst h ra =>
      have e := ra.ints
      subst e
      exact ⟨_, ns, rfl, SqL.of (he _ _ h), q _ _ B H (.refl he hf) p (.int _)⟩
/-- sum of a tuple of ints -/
def rSumT (K : PySem.W.Frag) : List V → Hp → VK → Prop := fun vs H Q => ∃ (a : Addr) (ns : List Int), vs = [V.ref a] ∧ SqT K H a (ns.map V.int) ∧ Q (.int ns.sum) H
theorem cr_sumT {X : Cx} (hc : X.calm = true) : CallR X (.builtin "sum") (rSumT X.K) := fun pins s σ H xs us Q I r h => by
  obtain ⟨a, ns, rfl, hq, q⟩ := h
  obtain rfl := r.ref1
  obtain ⟨its, rv, ⟨o, ho, hcl, n, hd⟩, hz⟩ := I.tuple hq
  have hl : s.heap.IsTuple a its.toArray := ⟨o, ho, hcl, n, hd⟩
  have hi := rv.ints
  obtain ⟨zs, hx⟩ := hi.allInts.items
  have hn : numsOf its.toArray.toList = ns := hi.numsOf
  rw [hx] at hl
  rw [hx, nums_intItems] at hn
  refine PySem.W.ktm_sumG (I.ok.hd hc) hl fun h' tk t' hk => ?_
  refine ⟨.int ns.sum, H, I.kept (t' := tk) hk, ⟨t', ?_⟩, q⟩
  rw [preSum_eq, List.take_of_length_le (by simp), hn]
def rdSumT : List D → (D → Prop) → Prop := fun ds P => ∃ ns : List Int, ds = [.tup (ns.map .int)] ∧ P (.int ns.sum)
theorem snd_sumT {X : Cx} {F : Fs} : SndC X.K F (rSumT X.K) rdSumT := fun xs ds B H P Q he hf r ⟨ns, h1, p⟩ q => by
  subst h1
  cases r with
  | cons rx rn =>
    cases rn
    cases rx with
    | tup h ra =>
      have e := ra.ints
      subst e
      exact ⟨_, ns, rfl, exT he h, q _ _ B H (.refl he hf) p (.int _)⟩
def rdMax : List D → (D → Prop) → Prop := fun ds P => ∃ ns : List Int, ds = [.lst (ns.map .int)] ∧ 0 < ns.length ∧ ∀ m, m ∈ ns → (∀ y, y ∈ ns → y ≤ m) → P (.int m)
def rdMin : List D → (D → Prop) → Prop := fun ds P => ∃ ns : List Int, ds = [.lst (ns.map .int)] ∧ 0 < ns.length ∧ ∀ m, m ∈ ns → (∀ y, y ∈ ns → m ≤ y) → P (.int m)
theorem snd_max {X : Cx} {F : Fs} : SndC X.K F (rMax X.K) rdMax := fun xs ds B H P Q he hf r ⟨ns, h1, hl, p⟩ q => by
  subst h1
  cases r with
  | cons rx rn =>
    cases rn
    cases rx with
    | lst h ra =>
      have e := ra.ints
      subst e
      exact ⟨_, ns, rfl, SqL.of (he _ _ h), hl, fun m h1 h2 => q _ _ B H (.refl he hf) (p m h1 h2) (.int _)⟩
theorem snd_min {X : Cx} {F : Fs} : SndC X.K F (rMin X.K) rdMin := fun xs ds B H P Q he hf r ⟨ns, h1, hl, p⟩ q => by
  subst h1
  cases r with
  | cons rx rn =>
    cases rn
    cases rx with
    | lst h ra =>
      have e := ra.ints
      subst e
      exact ⟨_, ns, rfl, SqL.of (he _ _ h), hl, fun m h1 h2 => q _ _ B H (.refl he hf) (p m h1 h2) (.int _)⟩
def rdMax2 : List D → (D → Prop) → Prop := fun ds P => ∃ i j, ds = [.int i, .int j] ∧ P (.int (max i j))
def rdMin2 : List D → (D → Prop) → Prop := fun ds P => ∃ i j, ds = [.int i, .int j] ∧ P (.int (min i j))
theorem max_if (i j : Int) : (if j > i then j else i) = max i j := by split <;> omega
theorem min_if (i j : Int) : (if j < i then j else i) = min i j := by split <;> omega
theorem snd_max2 {K : PySem.W.Frag} {F : Fs} : SndC K F (fun xs H Q => ∃ i j, xs = [.int i, .int j] ∧ Q (.int (if j > i then j else i)) H) rdMax2 := fun xs ds B H P Q he hf r ⟨i, j, h1, p⟩ q => by
  subst h1
  cases r with
  | cons r1 rn => cases rn with
    | cons r2 rn => cases rn; cases r1; cases r2; exact ⟨i, j, rfl, by rw [max_if]; exact q _ _ B H (.refl he hf) p (.int _)⟩
theorem snd_min2 {K : PySem.W.Frag} {F : Fs} : SndC K F (fun xs H Q => ∃ i j, xs = [.int i, .int j] ∧ Q (.int (if j < i then j else i)) H) rdMin2 := fun xs ds B H P Q he hf r ⟨i, j, h1, p⟩ q => by
  subst h1
  cases r with
  | cons r1 rn => cases rn with
    | cons r2 rn => cases rn; cases r1; cases r2; exact ⟨i, j, rfl, by rw [min_if]; exact q _ _ B H (.refl he hf) p (.int _)⟩
def rdAll : List D → (D → Prop) → Prop := fun ds P => ∃ bs : List Bool, ds = [.lst (bs.map .bl)] ∧ P (.bl (bs.all id))
theorem snd_all {X : Cx} {F : Fs} : SndC X.K F (rAll X.K) rdAll := fun xs ds B H P Q he hf r ⟨ns, h1, p⟩ q => by
  subst h1
  cases r with
  | cons rx rn =>
    cases rn
    cases rx with
    | lst h ra =>
      have e := ra.bls
      subst e
      exact ⟨_, ns, rfl, SqL.of (he _ _ h), q _ _ B H (.refl he hf) p (.bl _)⟩
def rdInt : List D → (D → Prop) → Prop := fun ds P => ∃ i, ds = [.int i] ∧ P (.int i)
theorem snd_int {K : PySem.W.Frag} {F : Fs} : SndC K F (fun xs H Q => (∃ i, xs = [.int i] ∧ Q (.int i) H) ∨ ∃ k, xs = [.bl k] ∧ Q (.int (if k then 1 else 0)) H) rdInt := fun xs ds B H P Q he hf r ⟨i, h1, p⟩ q => by
  subst h1
  cases r with
  | cons rx rn => cases rn; cases rx; exact .inl ⟨i, rfl, q _ _ B H (.refl he hf) p (.int _)⟩
def rdTuple : List D → (D → Prop) → Prop := fun ds P => ∃ x xs, ds = [x] ∧ x.seq = some xs ∧ P (.tup xs)
theorem snd_tuple {X : Cx} {F : Fs} : SndC X.K F (fun xs H Q => ∃ p ys, xs = [.ref p] ∧ ((SqL X.K H p ys ∧ ∀ l, H l = none → Q (.ref l) (upd H l (.tup ys))) ∨ (SqT X.K H p ys ∧ Q (.ref p) H))) rdTuple := fun xs ds B H P Q he hf r ⟨x, ys, h1, h2, p⟩ q => by
  subst h1
  cases r with
  | cons rx rn =>
    cases rn
    cases rx with
    | lst h ra =>
      cases h2
      refine ⟨_, _, rfl, .inl ⟨SqL.of (he _ _ h), fun l hl => newT q (.refl he hf) ra p hl⟩⟩
    | tup h ra =>
      cases h2
      exact ⟨_, _, rfl, .inr ⟨exT he h, q _ _ B H (.refl he hf) p (.tup h ra)⟩⟩
    | _ => cases h2
def rdList : List D → (D → Prop) → Prop := fun ds P => ∃ x xs, ds = [x] ∧ x.seq = some xs ∧ P (.lst xs)
theorem snd_list {X : Cx} {F : Fs} : SndC X.K F (fun xs H Q => ∃ p ys, xs = [.ref p] ∧ (SqL X.K H p ys ∨ SqT X.K H p ys) ∧ ∀ l, H l = none → Q (.ref l) (upd H l (.lst ys))) rdList := fun xs ds B H P Q he hf r ⟨x, ys, h1, h2, p⟩ q => by
  subst h1
  cases r with
  | cons rx rn =>
    cases rn
    obtain ⟨a, vs, rfl, hs, ra⟩ := seq_any he rx h2
    refine ⟨a, vs, rfl, hs, fun l hl => newL q (.refl he hf) ra p hl⟩
/-! ### isinstance -/
/-- the built-in type's name -/
def D.ty : D → Option String
  | .non => some "NoneType"
  | .bl _ => some "bool"
  | .int _ => some "int"
  | .str _ => some "str"
  | .lst _ => some "list"
  | .tup _ => some "tuple"
  | .dct => some "dict"
  | _ => none
theorem Rp.ty {K : PySem.W.Frag} {B H : Hp} {v : V} {d : D} {t : String} (e : Ex B H) (r : Rp K B v d) (h : d.ty = some t) : TyX K H v (.type t) := by
  cases r with
  | non => cases h; exact .base .non
  | bl b => cases h; exact .base (.bl b)
  | int i => cases h; exact .base (.int i)
  | str s => cases h; exact .base (.str s)
  | lst h1 r => cases h; exact .base (.lst (e _ _ h1))
  | tup h1 r =>
    cases h
    rcases exT e h1 with (h2 | ⟨o, h2⟩) | ⟨o, its, n, h2, h3, _⟩
    · exact .base (.tup h2)
    · exact .fTuple h2
    · exact .kTuple h2 h3
  | dct h1 => cases h; exact .base (.dK (e _ _ h1))
  | _ => cases h
def D.isI : D → Bool
  | .int _ => true
  | .bl _ => true
  | _ => false
def D.isB : D → Bool
  | .bl _ => true
  | _ => false
def D.isL : D → Bool
  | .lst _ => true
  | _ => false
def D.isU : D → Bool
  | .tup _ => true
  | _ => false
def D.isS : D → Bool
  | .str _ => true
  | _ => false
def D.isD : D → Bool
  | .dct => true
  | _ => false
theorem kit_int {d : D} {t : String} (h : d.ty = some t) : kitB t "int" = some d.isI := by cases d <;> cases h <;> simp only [D.isI] <;> decide +kernel
theorem kit_bool {d : D} {t : String} (h : d.ty = some t) : kitB t "bool" = some d.isB := by cases d <;> cases h <;> simp only [D.isB] <;> decide +kernel
theorem kit_list {d : D} {t : String} (h : d.ty = some t) : kitB t "list" = some d.isL := by cases d <;> cases h <;> simp only [D.isL] <;> decide +kernel
theorem kit_tuple {d : D} {t : String} (h : d.ty = some t) : kitB t "tuple" = some d.isU := by cases d <;> cases h <;> simp only [D.isU] <;> decide +kernel
theorem kit_str {d : D} {t : String} (h : d.ty = some t) : kitB t "str" = some d.isS := by cases d <;> cases h <;> simp only [D.isS] <;> decide +kernel
theorem kit_dict {d : D} {t : String} (h : d.ty = some t) : kitB t "dict" = some d.isD := by cases d <;> cases h <;> simp only [D.isD] <;> decide +kernel
/-- isinstance(x, T): f tells it -/
def rdIs (f : D → Bool) : D → (D → Prop) → Prop := fun d P => d.ty.isSome = true ∧ P (.bl (f d))
section
variable {X : Cx} {G : Gx} {e : Expr} {de : DE} {p p1 p2 p3 pos : Pos} {k : Nat} {x1 x2 : Str} {T1 T2 : String} {f g : D → Bool}
theorem ty_some {d : D} (h : d.ty.isSome = true) : ∃ t, d.ty = some t := Option.isSome_iff_exists.mp h
theorem pd_is (hk : ∀ {d : D} {t : String}, d.ty = some t → kitB t T1 = some (f d)) (hm : X.mg "isinstance" = none) (hm1 : X.mg x1 = none) (hv1 : bootBuiltins x1 = some (.type T1)) (he : PEd X G e de) (hg : Gl X "isinstance" := by rfl) (hg1 : Gl X x1 := by rfl)
    (hn1 : x1 ≠ "__name__" := by decide) (hd1 : (x1 == ("__debug__" : Str)) = false := by decide)
    (hs : starEach [e, .Name x1 p1] X.env = (false, eval e X.env) :: starEach [.Name x1 p1] X.env := by rfl) (hs1 : starEach [.Name x1 p1] X.env = (false, eval (.Name x1 p1) X.env) :: starEach [] X.env := by rfl)
    (hpl : (backTo pos (starEach [.Name x1 p1] X.env)).any (·.1) = false := by rfl) : PEd X G (.Call (.Name "isinstance" p) [e, .Name x1 p1] [] pos) (de1 (rdIs f) de) :=
  PE.imp (pe_callB call_isi hg hm (by decide +kernel) (pa_cons he (pa_cons (pe_bltn (v := .ty T1) hg1 hm1 hv1 rfl hn1 hd1) pa_nil hs1) hs) (he := hs) (hpl := hpl)) fun σ H Q ⟨B, δ, P, s, h, q⟩ =>
    ⟨B, δ, _, s, h, fun v d B1 H1 m1 ⟨h1, p⟩ r1 => by
      obtain ⟨t, ht⟩ := ty_some h1
      exact ⟨v, .ty T1, .type t, .type T1, f d, rfl, .ty T1, r1.ty m1.e ht, kit_ty (hk ht), q _ _ B1 H1 m1 p (.bl _)⟩⟩
theorem pd_is2 (hk1 : ∀ {d : D} {t : String}, d.ty = some t → kitB t T1 = some (f d)) (hk2 : ∀ {d : D} {t : String}, d.ty = some t → kitB t T2 = some (g d)) (hm : X.mg "isinstance" = none) (hm1 : X.mg x1 = none) (hm2 : X.mg x2 = none) (hv1 : bootBuiltins x1 = some (.type T1)) (hv2 : bootBuiltins x2 = some (.type T2)) (he : PEd X G e de)
    (hg : Gl X "isinstance" := by rfl) (hg1 : Gl X x1 := by rfl) (hg2 : Gl X x2 := by rfl)
    (hn1 : x1 ≠ "__name__" := by decide) (hn2 : x2 ≠ "__name__" := by decide) (hd1 : (x1 == ("__debug__" : Str)) = false := by decide) (hd2 : (x2 == ("__debug__" : Str)) = false := by decide)
    (hs1 : starEach [.Name x1 p1, .Name x2 p2] X.env = (false, eval (.Name x1 p1) X.env) :: starEach [.Name x2 p2] X.env := by rfl) (hs2 : starEach [.Name x2 p2] X.env = (false, eval (.Name x2 p2) X.env) :: starEach [] X.env := by rfl)
    (hs : starEach [e, .Tuple [.Name x1 p1, .Name x2 p2] k p3] X.env = (false, eval e X.env) :: starEach [.Tuple [.Name x1 p1, .Name x2 p2] k p3] X.env := by rfl)
    (hs3 : starEach [.Tuple [.Name x1 p1, .Name x2 p2] k p3] X.env = (false, eval (.Tuple [.Name x1 p1, .Name x2 p2] k p3) X.env) :: starEach [] X.env := by rfl)
    (hpl : (backTo pos (starEach [.Tuple [.Name x1 p1, .Name x2 p2] k p3] X.env)).any (·.1) = false := by rfl) :
    PEd X G (.Call (.Name "isinstance" p) [e, .Tuple [.Name x1 p1, .Name x2 p2] k p3] [] pos) (de1 (rdIs fun d => f d || g d) de) :=
  PE.imp (pe_callB call_isiT hg hm (by decide +kernel) (pa_cons he (pa_cons (pe_tup (pa_cons (pe_bltn (v := .ty T1) hg1 hm1 hv1 rfl hn1 hd1) (pa_cons (pe_bltn (v := .ty T2) hg2 hm2 hv2 rfl hn2 hd2) pa_nil hs2) hs1)) pa_nil hs3) hs) (he := hs) (hpl := hpl)) fun σ H Q ⟨B, δ, P, s, h, q⟩ =>
    ⟨B, δ, _, s, h, fun v d B1 H1 m1 ⟨h1, p⟩ r1 => ⟨by show 2 ≤ sizeLine; decide, fun p' hp => by
      obtain ⟨t, ht⟩ := ty_some h1
      have m2 := Fm.newH (o := .tup [.ty T1, .ty T2]) m1.e m1.f hp
      refine ⟨v, p', _, .type t, [.type T1, .type T2], (f d || g d), rfl, upd_same, .cons (.ty T1) (.cons (.ty T2) .nil), r1.ty m2.e ht, ?_, q _ _ B1 _ (m1.trans m2) p (.bl _)⟩
      refine kitAny_cons (kit_ty (hk1 ht)) (fun z => ?_) (fun z => by rw [z]; rfl)
      rw [z, Bool.false_or]
      exact kitAny_cons (kit_ty (hk2 ht)) (fun z => by rw [z]; exact kitAny_nil) (fun z => z)⟩⟩
end

/-! ### sorted -/
def rdSorted : List D → (D → Prop) → Prop := fun ds P => ∃ ns : List Int, ds = [.lst (ns.map .int)] ∧ ∀ ns' : List Int, ns'.Perm ns → ns'.Pairwise (· ≤ ·) → P (.lst (ns'.map .int))
theorem snd_sorted {X : Cx} {F : Fs} : SndC X.K F (rSortedI X.K) rdSorted := fun xs ds B H P Q he hf r ⟨ns, h1, p⟩ q => by
  subst h1
  cases r with
  | cons rx rn =>
    cases rn
    cases rx with
    | lst h ra =>
      have e := ra.ints
      subst e
      refine ⟨_, ns, rfl, SqL.of (he _ _ h), fun ns' p' hp hs hn => newL q (.refl he hf) (.ofInts ns') (p ns' hp hs) hn⟩
end Sd
end
-- SdIter
section
set_option Elab.async false
set_option linter.all false
set_option maxRecDepth 100000
set_option maxHeartbeats 4000000
set_option autoImplicit false
namespace Sd
open PySem PySem.Spec PyProof.Rows L2
open Evl (Ex)

/-! ### lists and tuples alike -/
def Sq (K : PySem.W.Frag) (H : Hp) (b : Bool) (a : Addr) (xs : List V) : Prop := (b = true ∧ SqL K H a xs) ∨ (b = false ∧ SqT K H a xs)
def ItAt (b : Bool) (h : Heap) (it a : Addr) (i : Nat) : Prop := (b = true ∧ h.IsListIter it a i) ∨ (b = false ∧ h.IsTupleIter it a i)
def SeqIn (b : Bool) (h : Heap) (a : Addr) (its : Array Value) : Prop := (b = true ∧ h.IsList a its) ∨ (b = false ∧ h.IsTuple a its)
theorem ItAt.at_ {b : Bool} {h h' : Heap} {it a : Addr} {i : Nat} (x : ItAt b h it a i) (k : ∀ o, h.get? it = some o → h'.get? it = some o) : ItAt b h' it a i := by
  rcases x with ⟨e, x⟩ | ⟨e, x⟩
  · exact .inl ⟨e, x.at k⟩
  · exact .inr ⟨e, x.at k⟩
theorem ItAt.obj {b : Bool} {h : Heap} {it a : Addr} {i : Nat} (x : ItAt b h it a i) : ∃ o, h.get? it = some o ∧ ∀ v, o.data ≠ .cell v := by
  rcases x with ⟨e, o, h1, h2, h3⟩ | ⟨e, o, h1, h2, h3⟩
  · exact ⟨o, h1, fun v q => by rw [h3] at q; cases q⟩
  · exact ⟨o, h1, fun v q => by rw [h3] at q; cases q⟩
section
variable {X : Cx} {pins : List (Addr × Obj)} {σ : L2.St} {H : Hp} {s : Shared} {b : Bool} {a it : Addr} {xs ys : List V}
theorem Sq.inj (I : Inv X pins σ H s) (h : Sq X.K H b a xs) (h' : Sq X.K H b a ys) : xs = ys := by
  rcases h with ⟨e, h⟩ | ⟨e, h⟩
  · rcases h' with ⟨e', h'⟩ | ⟨e', h'⟩
    · exact I.list_inj h h'
    · rw [e] at e'; cases e'
  · rcases h' with ⟨e', h'⟩ | ⟨e', h'⟩
    · rw [e] at e'; cases e'
    · exact I.tuple_inj h h'
theorem Sq.lays (I : Inv X pins σ H s) (h : Sq X.K H b a xs) : ∃ its : List Value, Vals xs its ∧ SeqIn b s.heap a its.toArray ∧ a < s.heap.objs.size := by
  rcases h with ⟨e, h⟩ | ⟨e, h⟩
  · obtain ⟨its, r, p, _⟩ := I.list h
    exact ⟨its, r, .inl ⟨e, p.isList⟩, p.lt⟩
  · obtain ⟨its, r, p, _⟩ := I.tuple h
    obtain ⟨o, ho, hc, n, hd⟩ := id p
    exact ⟨its, r, .inr ⟨e, o, ho, hc, n, hd⟩, Heap.lt_size ho⟩
theorem drawsOf {P : Program} {w : World} {A : Around} (hh : A.handled = none) (b : Bool) (hne : a ≠ it) (items : Array Value) :
    Draws P w A it [it, a] items.size (fun i v => items[i]? = some v) (fun i h => ItAt b h it a i ∧ SeqIn b h a items) := by
  cases b with
  | true =>
    have d := Draws.list (prog := P) (w := w) (A := A) hh it a hne items
    have e : ∀ i h, (ItAt true h it a i ∧ SeqIn true h a items) ↔ (h.IsListIter it a i ∧ h.IsList a items) := fun i h =>
      ⟨fun ⟨x, y⟩ => ⟨x.elim (fun z => z.2) (fun z => nomatch z.1), y.elim (fun z => z.2) (fun z => nomatch z.1)⟩, fun ⟨x, y⟩ => ⟨.inl ⟨rfl, x⟩, .inl ⟨rfl, y⟩⟩⟩
    have e' : (fun i h => ItAt true h it a i ∧ SeqIn true h a items) = fun i h => h.IsListIter it a i ∧ h.IsList a items := funext fun i => funext fun h => propext (e i h)
    rw [e']
    exact d
  | false =>
    have d := Draws.tuple (prog := P) (w := w) (A := A) hh it a hne items
    have e : ∀ i h, (ItAt false h it a i ∧ SeqIn false h a items) ↔ (h.IsTupleIter it a i ∧ h.IsTuple a items) := fun i h =>
      ⟨fun ⟨x, y⟩ => ⟨x.elim (fun z => nomatch z.1) (fun z => z.2), y.elim (fun z => nomatch z.1) (fun z => z.2)⟩, fun ⟨x, y⟩ => ⟨.inr ⟨rfl, x⟩, .inr ⟨rfl, y⟩⟩⟩
    have e' : (fun i h => ItAt false h it a i ∧ SeqIn false h a items) = fun i h => h.IsTupleIter it a i ∧ h.IsTuple a items := funext fun i => funext fun h => propext (e i h)
    rw [e']
    exact d
/-- the iterator's object as it is made -/
def itObj (b : Bool) (a : Addr) : Obj := { cls := .type (if b then "list_iterator" else "tuple_iterator"), data := .fields #[.ref a, .int 0 0] }
theorem beginsOf (b : Bool) (items : Array Value) : Begins (.ref a) (itObj b a) (fun h => SeqIn b h a items) := by
  cases b with
  | true =>
    have e' : (fun h => SeqIn true h a items) = fun h => h.IsList a items := funext fun h => propext ⟨fun y => y.elim (fun z => z.2) (fun z => nomatch z.1), fun y => .inl ⟨rfl, y⟩⟩
    rw [e']
    exact begins_list a items
  | false =>
    have e' : (fun h => SeqIn false h a items) = fun h => h.IsTuple a items := funext fun h => propext ⟨fun y => y.elim (fun z => nomatch z.1) (fun z => z.2), fun y => .inr ⟨rfl, y⟩⟩
    rw [e']
    exact begins_tuple a items
theorem itObj_at {h : Heap} (e : h.get? it = some (itObj b a)) : ItAt b h it a 0 := by
  cases b with
  | true => exact .inl ⟨rfl, _, e, rfl, rfl⟩
  | false => exact .inr ⟨rfl, _, e, rfl, rfl⟩
end

/-! ### enumerate(x, k) -/
/-- the list or tuple at a as it stands at each turn, each item in a new pair, counted from k -/
def Iten (K : PySem.W.Frag) (b : Bool) (a : Addr) (k : Int) : It :=
  ⟨fun i H => ∃ (xs : List V) (x : V), Sq K H b a xs ∧ xs[i]? = some x, fun i H v H' => ∃ T x, v = .ref T ∧ H T = none ∧ H' = upd H T (.tup [.int (k + (i : Int)), x]) ∧ ∀ xs, Sq K H b a xs → xs[i]? = some x,
    fun i H => ∃ xs : List V, Sq K H b a xs ∧ xs.length = i⟩
theorem turn_en {P : Program} {w : World} {K : PySem.W.Frag} {elts : List Expr} {kk : Nat} {tpos : Pos} (b : Bool) (a e it : Addr) (k : Int) :
    Turn P w K (.Tuple elts kk tpos) (Iten K b a k) [e, it] e (fun i h => (∃ old, IsEnum h e it (k + (i : Int)) old) ∧ ItAt b h it a i ∧ e ≠ it ∧ a ≠ it ∧ a ≠ e) where
  mem := by simp
  obj := fun i h st c hc => by
    obtain ⟨⟨old, he⟩, hi, _⟩ := st
    have e' : c = e ∨ c = it := by simpa using hc
    rcases e' with z | z
    · subst z; exact ⟨_, he, fun v q => nomatch q⟩
    · subst z; exact hi.obj
  keep := fun i h h' st kp => by
    obtain ⟨⟨old, he⟩, hi, hn⟩ := st
    exact ⟨⟨old, kp e (by simp) _ he⟩, hi.at_ fun o q => kp it (by simp) o q, hn⟩
  item := by
    intro X hP hw hK hc i pins s σ H E I hf st hg
    subst hP hw hK
    obtain ⟨⟨old, he⟩, hit, n1, n2, n3⟩ := st
    obtain ⟨xs, x, hq, hx⟩ := hg
    obtain ⟨its, rv, hin, hlt⟩ := hq.lays I
    have el : e < s.heap.objs.size := Heap.lt_size he
    have il : it < s.heap.objs.size := let ⟨o, q, _⟩ := hit.obj; Heap.lt_size q
    have hi : i < its.toArray.size := by
      have q := (List.getElem?_eq_some_iff.mp hx).1
      rw [rv.length] at q
      simpa using q
    refine wpAny_pyNext_enum_itemC (drawsOf (P := X.prog) (w := X.w) (A := X.A.in1) (I.ok.hd hc) b n2 its.toArray) he ⟨hit, hin⟩ hi n1 (by simp [n1, n3.symm]) fun u h' tk hu ho hst hT hsz hk => ?_
    refine ⟨_, rfl, wpAny_letOwnedTupleGo_enum (s := { s with heap := h', toks := tk + 1 }) ho fun h2 he2 sb => ?_⟩
    obtain ⟨u', hu', ru⟩ := rv.get hx
    have eu : u = u' := by
      have q : its[i]? = some u := by simpa using hu
      rw [q] at hu'
      exact Option.some.inj hu'
    subst eu
    have hT2 : h2.get? s.heap.objs.size = some { cls := .type "tuple", data := .seq #[.int (k + (i : Int)) tk, u] } := (sb.2 _ (Nat.ne_of_gt el)).trans hT
    have new : ObjOk X.prog X.w (upd H s.heap.objs.size (.tup [.int (k + (i : Int)), x])) h2 s.heap.objs.size (.tup [.int (k + (i : Int)), x]) :=
      ⟨by show 2 ≤ sizeLine; decide, [.int (k + (i : Int)) tk, u], .cons ⟨_, rfl⟩ (.cons ru .nil), ⟨_, hT2, rfl, _, rfl⟩⟩
    have I1 : Inv X pins σ (upd H s.heap.objs.size (.tup [.int (k + (i : Int)), x])) { s with heap := h2, toks := tk + 1 } :=
      I.turnedNew (ch := [e, it]) (fun c ob hb q => (sb.2 c (fun z => hb (by simp [z]))).trans (hk c ob (fun z => hb (by simp [z])) (fun z => hb (by simp [z])) q)) hf (Nat.le_refl _) new
    refine ⟨.ref s.heap.objs.size, _, I1, rfl, ⟨_, x, rfl, I.hok.fresh (Nat.le_refl _), rfl, fun zs hz => by rw [hz.inj I hq]; exact hx⟩, ⟨⟨u, ?_⟩, hst.1.at_ fun o q => (sb.2 it (Ne.symm n1)).trans q, n1, n2, n3⟩, fun c hb => ?_⟩
    · have e1 : k + ((i + 1 : Nat) : Int) = k + (i : Int) + 1 := by omega
      rw [e1]
      exact he2
    · have hb' : c < s.heap.objs.size := by
        have e' : c = e ∨ c = it := by simpa using hb
        rcases e' with z | z
        · rw [z]; exact el
        · rw [z]; exact il
      rw [upd_ne (Nat.ne_of_lt hb')]
      exact (hf c hb).1
  done := by
    intro X hP hw hK hc i pins s σ H E I hf st hg
    subst hP hw hK
    obtain ⟨⟨old, he⟩, hit, n1, n2, n3⟩ := st
    obtain ⟨xs, hq, hx⟩ := hg
    obtain ⟨its, rv, hin, hlt⟩ := hq.lays I
    have hn : its.toArray.size = i := by
      rw [← hx, rv.length]
      simp
    obtain ⟨f0, f1, f2, f3, f4, f5⟩ := hf it (by simp)
    refine wpAny_pyNext_enum_endD (drawsOf (P := X.prog) (w := X.w) (A := X.A.in1) (I.ok.hd hc) b n2 its.toArray) he (by rw [hn]; exact ⟨hit, hin⟩) fun h' eb => ⟨rfl, I.turned (t' := s.toks) (fun c o hb q => eb c o hb q) f0 f1 f3 f4 f5⟩
  self := fun A i s Q E st h => let ⟨⟨_, he⟩, _⟩ := st; wpAny_pyIter_enum he h
/-- enumerate(x): its iterator -/
theorem en_it {X : Cx} {elts : List Expr} {kk : Nat} {tpos : Pos} {pins : List (Addr × Obj)} {σ : L2.St} {H : Hp} {s : Shared} {R : It → Hp → Prop} {E : Value → Shared → Prop} {b : Bool} {a : Addr} {k : Int} {h' : Heap} (I : Inv X pins σ H s) (ha : a < s.heap.objs.size)
    (he : IsEnum h' (s.heap.objs.size + 1) s.heap.objs.size k .none) (hit : h'.get? s.heap.objs.size = some (itObj b a)) (hk : ∀ c o, s.heap.get? c = some o → h'.get? c = some o) (q : R (Iten X.K b a k) H) :
    wpAny (model X.prog X.w) X.A (pyIter (.ref (s.heap.objs.size + 1))) (PIE X pins σ (.Tuple elts kk tpos) R) E { s with heap := h' } := by
  refine wpAny_pyIter_enum (s := { s with heap := h' }) he ?_
  have I2 : Inv X pins σ H { s with heap := h' } := I.kept (t' := s.toks) hk
  refine ⟨s.heap.objs.size + 1, [s.heap.objs.size + 1, s.heap.objs.size], _, _, H, rfl, I2, turn_en b a (s.heap.objs.size + 1) s.heap.objs.size k, ⟨⟨.none, ?_⟩, itObj_at hit, Nat.succ_ne_self _, Nat.ne_of_lt ha, Nat.ne_of_lt (Nat.lt_succ_of_lt ha)⟩, fun c hb => ?_, q⟩
  · have e1 : k + ((0 : Nat) : Int) = k := by omega
    rw [e1]
    exact he
  · have e' : c = s.heap.objs.size + 1 ∨ c = s.heap.objs.size := by simpa using hb
    have hle : s.heap.objs.size ≤ c := by
      rcases e' with z | z
      · rw [z]; exact Nat.le_add_right _ _
      · rw [z]; exact Nat.le_refl _
    exact I.fpOk hle (I.hok.fresh hle)
/-- enumerate(v) of anything that an iterator is made of -/
theorem en_new {v : Value} {o : Obj} {S : Heap → Prop} (B : Begins v o S) :
    Meets (Builtin.«enumerate.__new__» ⟨[.type "enumerate", v], []⟩) (fun _ R s => S s.heap ∧
      R (.ok (.ret (.ref (s.heap.push o).objs.size))) { s with heap := (s.heap.push o).push { cls := .type "enumerate", data := .fields #[.none, .bool false, .ref s.heap.objs.size, rawInt 0, .none, .none] } }) := by
  refine .of_wp fun P w A R st q => ?_
  obtain ⟨h, gs, dr, tk, os⟩ := st
  have sub := sub_enumerate
  have go : ∀ {A2 : Around} {E : Value → Shared → Prop} {Q : Value → Shared → Prop}, Q (.ref h.objs.size) ⟨h.push o, gs, dr, tk, os⟩ → wpAny (model P w) A2 (pyIter v) Q E ⟨h, gs, dr, tk, os⟩ := fun z => B.iter P w _ _ ⟨h, gs, dr, tk, os⟩ _ q.1 z
  wp_walk using go
  refine wpAny_stack_any (fun _ => wpAny_pure ?_)
  split
  · rename_i c _ _ _ _ _
    cases (c == Value.type "enumerate") <;> (wp_walk using go; exact ⟨_, rfl, q.2⟩)
  · wp_walk using go
    exact ⟨_, rfl, q.2⟩
theorem en_call {P : Program} {w : World} {A : Around} {E : Value → Shared → Prop} {s : Shared} {v : Value} {o : Obj} {S : Heap → Prop} {Q : Value → Shared → Prop} (B : Begins v o S) (h1 : S s.heap)
    (h : ∀ h', IsEnum h' (s.heap.objs.size + 1) s.heap.objs.size 0 .none → h'.get? s.heap.objs.size = some o → (∀ c u, s.heap.get? c = some u → h'.get? c = some u) → Q (.ref (s.heap.objs.size + 1)) { s with heap := h' }) :
    wpAny (model P w) A (call (.type "enumerate") [v]) Q E s := by
  refine callType_new F.called_enumerate (by decide) (F.typeCall_enumerate_1 _) (F.newCall_enumerate_1 _) (fun u => F.args_object_init_2 u _) F.entry_enumerate_new (en_new B) ⟨h1, ?_⟩
  have z : (s.heap.push o).objs.size = s.heap.objs.size + 1 := Heap.size_push ..
  show _ ∧ _
  rw [z]
  have he : IsEnum ((s.heap.push o).push { cls := .type "enumerate", data := .fields #[.none, .bool false, .ref s.heap.objs.size, rawInt 0, .none, .none] }) (s.heap.objs.size + 1) s.heap.objs.size 0 .none := by
    have q := Heap.get?_push_size (s.heap.push o) (o := { cls := .type "enumerate", data := .fields #[.none, .bool false, .ref s.heap.objs.size, rawInt 0, .none, .none] }) rfl
    rw [z] at q
    exact q
  exact ⟨⟨_, he, rfl⟩, h _ he (Heap.get?_push_of_some _ (Heap.get?_push_size _ B.free)) fun c u x => Heap.get?_push_of_some _ (Heap.get?_push_of_some _ x)⟩
def iEn (K : PySem.W.Frag) (k : Int) (ta : TA) : TI := fun σ H R => ta σ H fun vs H1 => ∃ b a xs, vs = [.ref a] ∧ Sq K H1 b a xs ∧ R (Iten K b a k) H1
theorem pi_en {X : Cx} {e : Expr} {ta : TA} {p pos tpos : Pos} {elts : List Expr} {kk : Nat} (hm : X.mg "enumerate" = none) (ha : PA X [e] ta) (hg : Gl X "enumerate" := by rfl) (hs : starEach [e] X.env = [(false, eval e X.env)] := by rfl) :
    PI X (.Tuple elts kk tpos) (.Call (.Name "enumerate" p) [e] [] pos) (iEn X.K 0 ta) := by
  refine ⟨fun pins s σ H R I h => ?_⟩
  refine Call_ (ld_blt I hg hm boot_enumerate (PyProof.Rows.callWith_type1 (thn (ha.run pos pins s σ H _ I h) fun us s1 ⟨vs, H1, I1, r1, q1⟩ => ?_) hs rfl))
  obtain ⟨b, a, xs, rfl, hq, q⟩ := q1
  obtain rfl := r1.ref1
  obtain ⟨its, rv, hin, hlt⟩ := hq.lays I1
  exact en_call (beginsOf b its.toArray) hin fun h' he hit hk => en_it I1 hlt he hit hk q

/-! ### zip(x, y) -/
def Itzp (K : PySem.W.Frag) (b1 : Bool) (a1 : Addr) (b2 : Bool) (a2 : Addr) : It :=
  ⟨fun i H => ∃ (xs ys : List V) (x y : V), Sq K H b1 a1 xs ∧ Sq K H b2 a2 ys ∧ xs[i]? = some x ∧ ys[i]? = some y,
    fun i H v H' => ∃ T x y, v = .ref T ∧ H T = none ∧ H' = upd H T (.tup [x, y]) ∧ (∀ xs, Sq K H b1 a1 xs → xs[i]? = some x) ∧ ∀ ys, Sq K H b2 a2 ys → ys[i]? = some y,
    fun i H => ∃ xs ys : List V, Sq K H b1 a1 xs ∧ Sq K H b2 a2 ys ∧ i ≤ xs.length ∧ i ≤ ys.length ∧ (i = xs.length ∨ i = ys.length)⟩
theorem turn_zp {P : Program} {w : World} {K : PySem.W.Frag} {elts : List Expr} {kk : Nat} {tpos : Pos} {b1 b2 : Bool} {a1 a2 z TI TO i1 i2 : Addr} (S : ZipSep2 z TI TO i1 i2 [i1, a1] [i2, a2]) (n1 : a1 ≠ i1) (n2 : a2 ≠ i2) :
    Turn P w K (.Tuple elts kk tpos) (Itzp K b1 a1 b2 a2) [z, TI, TO, i1, i2] z (fun i h => IsZip h z TI TO .none ∧ IsTupOf2 h TI (.ref i1) (.ref i2) ∧ (∃ x y, IsTupOf2 h TO x y) ∧ ItAt b1 h i1 a1 i ∧ ItAt b2 h i2 a2 i) where
  mem := by simp
  obj := fun i h st c hc => by
    obtain ⟨hz, hTI, ⟨x, y, hTO⟩, h1, h2⟩ := st
    have e' : c = z ∨ c = TI ∨ c = TO ∨ c = i1 ∨ c = i2 := by simpa using hc
    rcases e' with q | q | q | q | q <;> subst q
    · exact ⟨_, hz, fun v q => nomatch q⟩
    · exact ⟨_, hTI, fun v q => nomatch q⟩
    · exact ⟨_, hTO, fun v q => nomatch q⟩
    · exact h1.obj
    · exact h2.obj
  keep := fun i h h' st k => by
    obtain ⟨hz, hTI, ⟨x, y, hTO⟩, h1, h2⟩ := st
    exact ⟨k z (by simp) _ hz, k TI (by simp) _ hTI, ⟨x, y, k TO (by simp) _ hTO⟩, h1.at_ fun o q => k i1 (by simp) o q, h2.at_ fun o q => k i2 (by simp) o q⟩
  item := by
    intro X hP hw hK hc i pins s σ H E I hf st hg
    subst hP hw hK
    obtain ⟨hz, hTI, ⟨x0, y0, hTO⟩, h1, h2⟩ := st
    obtain ⟨xs, ys, x, y, q1, q2, hx, hy⟩ := hg
    obtain ⟨its, rv, in1, lt1⟩ := q1.lays I
    obtain ⟨its2, rv2, in2, lt2⟩ := q2.lays I
    obtain ⟨u, hu, ru⟩ := rv.get hx
    obtain ⟨u2, hu2, ru2⟩ := rv2.get hy
    have zl : z < s.heap.objs.size := Heap.lt_size hz
    have l1 : i < its.toArray.size := by simpa using (List.getElem?_eq_some_iff.mp hu).1
    have l2 : i < its2.toArray.size := by simpa using (List.getElem?_eq_some_iff.mp hu2).1
    have hh := I.ok.hd hc
    refine wpAny_pyNext_zipD2_item S (drawsOf (P := X.prog) (w := X.w) (A := X.A.in1) hh b1 n1 its.toArray) (drawsOf (P := X.prog) (w := X.w) (A := X.A.in1) hh b2 n2 its2.toArray) hz hTI hTO ⟨h1, in1⟩ ⟨h2, in2⟩ l1 l2
      fun v1 v2 h' tk p1 p2 z' TO' s1 s2 hT hsz hk => ?_
    refine ⟨_, rfl, wpAny_letOwnedTupleGo_zip (s := { s with heap := h', toks := tk }) z' fun h2' z2 sb => ?_⟩
    have e1 : v1 = u := by
      have q : its[i]? = some v1 := by simpa using p1
      rw [q] at hu
      exact Option.some.inj hu
    have e2 : v2 = u2 := by
      have q : its2[i]? = some v2 := by simpa using p2
      rw [q] at hu2
      exact Option.some.inj hu2
    subst e1 e2
    have hT2 : h2'.get? s.heap.objs.size = some { cls := .type "tuple", data := .seq #[v1, v2] } := (sb.2 _ (Nat.ne_of_gt zl)).trans hT
    have new : ObjOk X.prog X.w (upd H s.heap.objs.size (.tup [x, y])) h2' s.heap.objs.size (.tup [x, y]) := ⟨by show 2 ≤ sizeLine; decide, [v1, v2], .cons ru (.cons ru2 .nil), ⟨_, hT2, rfl, _, rfl⟩⟩
    have I1 : Inv X pins σ (upd H s.heap.objs.size (.tup [x, y])) { s with heap := h2', toks := tk } :=
      I.turnedNew (t' := tk) (ch := [z, TI, TO, i1, i2]) (fun c o hb q => (sb.2 c (fun q' => hb (by simp [q']))).trans (hk c o (fun q' => hb (by simp [q'])) (fun q' => hb (by simp [q'])) (fun q' => hb (by simp [q'])) (fun q' => hb (by simp [q'])) q)) hf (Nat.le_refl _) new
    have h1z : i1 ≠ z := fun q => S.zf1 (by rw [← q]; exact S.mem1)
    have h2z : i2 ≠ z := fun q => S.zf2 (by rw [← q]; exact S.mem2)
    have hTO1 : TO ≠ i1 := fun q => S.Tf1 (by rw [q]; exact S.mem1)
    have hTO2 : TO ≠ i2 := fun q => S.Tf2 (by rw [q]; exact S.mem2)
    refine ⟨.ref s.heap.objs.size, _, I1, rfl, ⟨_, x, y, rfl, I.hok.fresh (Nat.le_refl _), rfl, fun l hl => by rw [hl.inj I q1]; exact hx, fun l hl => by rw [hl.inj I q2]; exact hy⟩, ⟨z2, ?_, ⟨v1, v2, ?_⟩, ?_, ?_⟩, fun c hcm => ?_⟩
    · exact (sb.2 _ S.TIz).trans (hk _ _ S.TIz S.TITO S.TIi1 S.TIi2 hTI)
    · exact (sb.2 _ S.TOz).trans TO'
    · exact s1.1.at_ fun o q => (sb.2 _ h1z).trans q
    · exact s2.1.at_ fun o q => (sb.2 _ h2z).trans q
    · have lt : c < s.heap.objs.size := by
        have e' : c = z ∨ c = TI ∨ c = TO ∨ c = i1 ∨ c = i2 := by simpa using hcm
        rcases e' with q | q | q | q | q <;> subst q
        · exact zl
        · exact Heap.lt_size hTI
        · exact Heap.lt_size hTO
        · exact let ⟨_, q, _⟩ := h1.obj; Heap.lt_size q
        · exact let ⟨_, q, _⟩ := h2.obj; Heap.lt_size q
      rw [upd_ne (Nat.ne_of_lt lt)]
      exact (hf c hcm).1
  done := by
    intro X hP hw hK hc i pins s σ H E I hf st hg
    subst hP hw hK
    obtain ⟨hz, hTI, ⟨x0, y0, hTO⟩, h1, h2⟩ := st
    obtain ⟨xs, ys, q1, q2, le1, le2, hend⟩ := hg
    obtain ⟨its, rv, in1, lt1⟩ := q1.lays I
    obtain ⟨its2, rv2, in2, lt2⟩ := q2.lays I
    have r1 := rv.length
    have r2 := rv2.length
    have hh := I.ok.hd hc
    exact wpAny_pyNext_zipD2_end S (drawsOf (P := X.prog) (w := X.w) (A := X.A.in1) hh b1 n1 its.toArray) (drawsOf (P := X.prog) (w := X.w) (A := X.A.in1) hh b2 n2 its2.toArray) hz hTI hTO ⟨h1, in1⟩ ⟨h2, in2⟩ (by simp; omega) (by simp; omega) (by simp; omega)
      fun h' tk hk => ⟨rfl, I.turnedL (t' := tk) (ch := [z, TI, TO, i1, i2]) (fun c o hb q => hk c o (fun q' => hb (by simp [q'])) (fun q' => hb (by simp [q'])) (fun q' => hb (by simp [q'])) (fun q' => hb (by simp [q'])) q) hf⟩
  self := fun A i s Q E st h => wpAny_pyIter_zip st.1 h
def iZp (K : PySem.W.Frag) (ta : TA) : TI := fun σ H R => ta σ H fun vs H1 => ∃ b1 a1 xs b2 a2 ys, vs = [.ref a1, .ref a2] ∧ Sq K H1 b1 a1 xs ∧ Sq K H1 b2 a2 ys ∧ R (Itzp K b1 a1 b2 a2) H1
theorem pi_zp {X : Cx} {e e2 : Expr} {ta : TA} {p pos tpos : Pos} {elts : List Expr} {kk : Nat} (hm : X.mg "zip" = none) (ha : PA X [e, e2] ta) (hg : Gl X "zip" := by rfl)
    (hs : starEach [e, e2] X.env = (false, eval e X.env) :: starEach [e2] X.env := by rfl) (hpl : (backTo pos (starEach [e2] X.env)).any (·.1) = false := by rfl) :
    PI X (.Tuple elts kk tpos) (.Call (.Name "zip" p) [e, e2] [] pos) (iZp X.K ta) := by
  refine ⟨fun pins s σ H R I h => ?_⟩
  refine Call_ (ld_blt I hg hm PyProof.Rows.boot_zip (PyProof.Rows.callWith_type1 (thn (ha.run pos pins s σ H _ I h) fun us s1 ⟨vs, H1, I1, r1, q1⟩ => ?_) hs hpl))
  obtain ⟨b1, a1, xs, b2, a2, ys, rfl, hq1, hq2, q⟩ := q1
  cases r1 with
  | cons r rr =>
    cases rr with
    | cons r' rr =>
      cases rr
      cases r
      cases r'
      obtain ⟨its, rv, in1, lt1⟩ := hq1.lays I1
      obtain ⟨its2, rv2, in2, lt2⟩ := hq2.lays I1
      refine zip_begins2 (beginsOf b1 its.toArray) (beginsOf b2 its2.toArray) in1 in2 fun h' hz hTI hTO h1 h2 hsz hk => wpAny_pyIter_zip hz ?_
      have I2 : Inv X pins σ H1 { s1 with heap := h' } := I1.kept (t' := s1.toks) hk
      refine ⟨s1.heap.objs.size + 4, [s1.heap.objs.size + 4, s1.heap.objs.size + 2, s1.heap.objs.size + 3, s1.heap.objs.size, s1.heap.objs.size + 1], _, _, H1, rfl, I2,
        turn_zp (zip_sep2 (N := s1.heap.objs.size) (fp1 := [a1]) (fp2 := [a2]) (fun b hb => by rw [List.mem_singleton.mp hb]; exact lt1) (fun b hb => by rw [List.mem_singleton.mp hb]; exact lt2)) (Nat.ne_of_lt lt1) (Nat.ne_of_lt (Nat.lt_succ_of_lt lt2)), ⟨hz, hTI, ⟨_, _, hTO⟩, itObj_at h1, itObj_at h2⟩, fun c hcm => ?_, q⟩
      have hle : s1.heap.objs.size ≤ c := by
        have e' : c = s1.heap.objs.size + 4 ∨ c = s1.heap.objs.size + 2 ∨ c = s1.heap.objs.size + 3 ∨ c = s1.heap.objs.size ∨ c = s1.heap.objs.size + 1 := by simpa using hcm
        rcases e' with z | z | z | z | z <;> (rw [z]; first | exact Nat.le_refl _ | exact Nat.le_add_right _ _)
      exact I1.fpOk hle (I1.hok.fresh hle)

/-! ### what is walked, over data -/
/-- pairs with their numbers -/
def enumD : Int → List D → List D
  | _, [] => []
  | k, x :: xs => .tup [.int k, x] :: enumD (k + 1) xs
def zipD : List D → List D → List D
  | x :: xs, y :: ys => .tup [x, y] :: zipD xs ys
  | _, _ => []
def rngD (lo : Int) : Nat → List D
  | 0 => []
  | n + 1 => .int lo :: rngD (lo + 1) n
theorem enumD_at : ∀ (xs : List D) (k : Int) (i : Nat), (enumD k xs)[i]? = xs[i]?.map fun x => .tup [.int (k + (i : Int)), x]
  | [], k, i => by simp [enumD]
  | x :: xs, k, 0 => by simp [enumD]
  | x :: xs, k, i + 1 => by
    have q := enumD_at xs (k + 1) i
    have e : k + 1 + (i : Int) = k + ((i + 1 : Nat) : Int) := by omega
    rw [e] at q
    simpa [enumD] using q
theorem enumD_length : ∀ (xs : List D) (k : Int), (enumD k xs).length = xs.length
  | [], k => rfl
  | x :: xs, k => congrArg (· + 1) (enumD_length xs (k + 1))
theorem zipD_at : ∀ (xs ys : List D) (i : Nat) (x y : D), xs[i]? = some x → ys[i]? = some y → (zipD xs ys)[i]? = some (.tup [x, y])
  | [], _, i, x, y, h, _ => by simp at h
  | _ :: _, [], i, x, y, _, h => by simp at h
  | a :: xs, b :: ys, 0, x, y, h1, h2 => by
    simp at h1 h2
    subst h1 h2
    rfl
  | a :: xs, b :: ys, i + 1, x, y, h1, h2 => by
    have q := zipD_at xs ys i x y (by simpa using h1) (by simpa using h2)
    simpa [zipD] using q
theorem zipD_length : ∀ (xs ys : List D), (zipD xs ys).length = min xs.length ys.length
  | [], ys => by simp [zipD]
  | _ :: _, [] => by simp [zipD]
  | a :: xs, b :: ys => by
    have q := zipD_length xs ys
    simp only [zipD, List.length_cons]
    omega
theorem rngD_length : ∀ (n : Nat) (lo : Int), (rngD lo n).length = n
  | 0, _ => rfl
  | n + 1, lo => congrArg (· + 1) (rngD_length n (lo + 1))
theorem rngD_at : ∀ (n : Nat) (lo : Int) (i : Nat), i < n → (rngD lo n)[i]? = some (.int (lo + (i : Int)))
  | 0, _, i, h => by omega
  | n + 1, lo, 0, h => by simp [rngD]
  | n + 1, lo, i + 1, h => by
    have q := rngD_at n (lo + 1) i (by omega)
    have e : lo + 1 + (i : Int) = lo + ((i + 1 : Nat) : Int) := by omega
    rw [e] at q
    simpa [rngD] using q
theorem rngD_get {n : Nat} {lo : Int} {i : Nat} {d : D} (h : (rngD lo n)[i]? = some d) : i < n ∧ d = .int (lo + (i : Int)) := by
  have l : i < n := by
    have q := (List.getElem?_eq_some_iff.mp h).1
    rwa [rngD_length] at q
  rw [rngD_at n lo i l] at h
  exact ⟨l, (Option.some.inj h).symm⟩
def diSeq (de : DE) : DI := fun δ P => de δ fun d => ∃ xs, d.seq = some xs ∧ P xs
def diEn (da : DA) : DI := fun δ P => da δ fun ds => ∃ d xs, ds = [d] ∧ d.seq = some xs ∧ P (enumD 0 xs)
def diZp (da : DA) : DI := fun δ P => da δ fun ds => ∃ d e xs ys, ds = [d, e] ∧ d.seq = some xs ∧ e.seq = some ys ∧ P (zipD xs ys)
def diR1 (da : DA) : DI := fun δ P => da δ fun ds => ∃ j : Int, ds = [.int j] ∧ -1000000 ≤ j ∧ j ≤ 1000000 ∧ P (rngD 0 j.toNat)
def diR2 (da : DA) : DI := fun δ P => da δ fun ds => ∃ i j : Int, ds = [.int i, .int j] ∧ -1000000 ≤ i ∧ i ≤ 1000000 ∧ -1000000 ≤ j ∧ j ≤ 1000000 ∧ P (rngD i (j - i).toNat)
theorem sq_any {K : PySem.W.Frag} {B : Hp} {v : V} {d : D} {xs : List D} (r : Rp K B v d) (h : d.seq = some xs) : ∃ b a vs, v = .ref a ∧ (∀ H, Ex B H → Sq K H b a vs) ∧ RpA K B vs xs := by
  cases r with
  | lst h1 r => cases h; exact ⟨true, _, _, rfl, fun H e => .inl ⟨rfl, SqL.of (e _ _ h1)⟩, r⟩
  | tup h1 r => cases h; exact ⟨false, _, _, rfl, fun H e => .inr ⟨rfl, exT e h1⟩, r⟩
  | _ => cases h
section
variable {X : Cx} {G : Gx} {e e2 : Expr} {elts : List Expr} {kk : Nat} {p pos tpos : Pos} {de : DE} {da : DA} {tg : Expr}
theorem wk_list {K : PySem.W.Frag} {a : Addr} {vs : List V} {ds : List D} {B : Hp} (h : ∀ H, Ex B H → SqL K H a vs) (r : RpA K B vs ds) : Wk K G (Itl K a) ds B := fun B2 H2 e1 e2 f => by
  have hq := h H2 (e1.trans e2)
  refine ⟨fun i hi => ?_, ⟨vs, hq, by rw [r.length]; exact Nat.le_refl _⟩⟩
  obtain ⟨v, hv, rv⟩ := r.at (List.getElem?_eq_getElem hi)
  refine ⟨⟨vs, v, hq, hv⟩, fun x H3 ⟨e3, hy⟩ => ?_⟩
  have hx := hy vs hq
  rw [hv] at hx
  cases hx
  subst e3
  exact ⟨B2, _, List.getElem?_eq_getElem hi, .refl e2 f, rv.mono e1⟩
theorem wk_tup {K : PySem.W.Frag} {a : Addr} {vs : List V} {ds : List D} {B : Hp} (h : ∀ H, Ex B H → SqT K H a vs) (r : RpA K B vs ds) : Wk K G (Itt K a) ds B := fun B2 H2 e1 e2 f => by
  have hq := h H2 (e1.trans e2)
  refine ⟨fun i hi => ?_, ⟨vs, hq, by rw [r.length]; exact Nat.le_refl _⟩⟩
  obtain ⟨v, hv, rv⟩ := r.at (List.getElem?_eq_getElem hi)
  refine ⟨⟨vs, v, hq, hv⟩, fun x H3 ⟨e3, hy⟩ => ?_⟩
  have hx := hy vs hq
  rw [hv] at hx
  cases hx
  subst e3
  exact ⟨B2, _, List.getElem?_eq_getElem hi, .refl e2 f, rv.mono e1⟩
theorem wk_rng {K : PySem.W.Frag} {B : Hp} {lo : Int} {n : Nat} : Wk K G (Itr lo n) (rngD lo n) B := fun B2 H2 e1 e2 f => by
  refine ⟨fun i hi => ?_, by rw [rngD_length]; exact Nat.le_refl n⟩
  rw [rngD_length] at hi
  refine ⟨hi, fun x H3 ⟨e3, hx⟩ => ?_⟩
  subst e3 hx
  exact ⟨B2, _, rngD_at n lo i hi, .refl e2 f, .int _⟩
theorem pid_seq (he : PEd X G e de) : PId X G tg e (diSeq de) := by
  refine ⟨fun pins s σ H R I ⟨B, δ, P, st, h, q⟩ => ?_⟩
  let Q2 : VK := fun v H1 => ∃ b a xs, v = .ref a ∧ Sq X.K H1 b a xs ∧ R (if b = true then Itl X.K a else Itt X.K a) H1
  have key : teOf X.K G de σ H Q2 := ⟨B, δ, _, st, h, fun v d B1 H1 m1 ⟨xs, e, p⟩ r1 => by
    obtain ⟨b, a, vs, rfl, hq, ra⟩ := sq_any r1 e
    refine ⟨b, a, vs, rfl, hq H1 m1.e, q _ xs B1 H1 m1 p ?_⟩
    cases b with
    | true => exact wk_list (fun H e => (hq H e).elim (fun z => z.2) (fun z => nomatch z.1)) ra
    | false => exact wk_tup (fun H e => (hq H e).elim (fun z => nomatch z.1) (fun z => z.2)) ra⟩
  refine thn (he.run pins s σ H Q2 I key) fun v s1 ⟨x, H1, I1, r1, b, a, xs, e, hq, q⟩ => ?_
  subst e
  cases r1
  have fr : ∀ c ∈ [s1.heap.objs.size], FpOk X pins H1 c := fun c hb => by
    rw [List.mem_singleton.mp hb]
    exact I1.fpOk (Nat.le_refl _) (I1.hok.fresh (Nat.le_refl _))
  rcases hq with ⟨eb, hq⟩ | ⟨eb, hq⟩
  · obtain ⟨its, rv, p, hz⟩ := I1.list hq
    rw [if_pos eb] at q
    exact wpAny_pyIter_list p.isList ⟨s1.heap.objs.size, [s1.heap.objs.size], _, _, H1, rfl, I1.kept (t' := s1.toks) fun c o e => Heap.get?_push_of_some _ e, turn_list a _, ⟨_, Heap.get?_push_size _ rfl, rfl, rfl⟩, fr, q⟩
  · obtain ⟨its, rv, p, hz⟩ := I1.tuple hq
    rw [if_neg (by rw [eb]; decide)] at q
    exact wpAny_pyIter_tuple (show s1.heap.IsTuple a its.toArray from p) ⟨s1.heap.objs.size, [s1.heap.objs.size], _, _, H1, rfl, I1.kept (t' := s1.toks) fun c o e => Heap.get?_push_of_some _ e, turn_tuple a _, ⟨_, Heap.get?_push_size _ rfl, rfl, rfl⟩, fr, q⟩
theorem wk_en {K : PySem.W.Frag} {b : Bool} {a : Addr} {vs : List V} {ds : List D} {B : Hp} {k : Int} (h : ∀ H, Ex B H → Sq K H b a vs) (r : RpA K B vs ds) : Wk K G (Iten K b a k) (enumD k ds) B := fun B2 H2 e1 e2 f => by
  have hq := h H2 (e1.trans e2)
  refine ⟨fun i hi => ?_, ⟨vs, hq, by rw [enumD_length, r.length]⟩⟩
  rw [enumD_length] at hi
  obtain ⟨v, hv, rv⟩ := r.at (List.getElem?_eq_getElem hi)
  refine ⟨⟨vs, v, hq, hv⟩, fun x H3 ⟨T, x', e3, hT, e4, hy⟩ => ?_⟩
  have hx := hy vs hq
  rw [hv] at hx
  cases hx
  subst e3 e4
  have m := Fm.new (K := K) (F := G.F) (o := .tup [.int (k + (i : Int)), v]) e2 f hT
  refine ⟨_, .tup [.int (k + (i : Int)), ds[i]], ?_, m, .tup (SqT.of upd_same) (.cons (.int _) (.cons ((rv.mono e1).mono m.b) .nil))⟩
  rw [enumD_at, List.getElem?_eq_getElem hi]
  rfl
theorem wk_zp {K : PySem.W.Frag} {b1 b2 : Bool} {a1 a2 : Addr} {vs ws : List V} {ds es : List D} {B : Hp} (h1 : ∀ H, Ex B H → Sq K H b1 a1 vs) (r1 : RpA K B vs ds) (h2 : ∀ H, Ex B H → Sq K H b2 a2 ws) (r2 : RpA K B ws es) : Wk K G (Itzp K b1 a1 b2 a2) (zipD ds es) B := fun B2 H2 e1 e2 f => by
  have hq1 := h1 H2 (e1.trans e2)
  have hq2 := h2 H2 (e1.trans e2)
  have l1 := r1.length
  have l2 := r2.length
  refine ⟨fun i hi => ?_, ⟨vs, ws, hq1, hq2, by rw [zipD_length]; omega, by rw [zipD_length]; omega, by rw [zipD_length]; omega⟩⟩
  rw [zipD_length] at hi
  have hi1 : i < ds.length := by omega
  have hi2 : i < es.length := by omega
  obtain ⟨v, hv, rv⟩ := r1.at (List.getElem?_eq_getElem hi1)
  obtain ⟨u, hu, ru⟩ := r2.at (List.getElem?_eq_getElem hi2)
  refine ⟨⟨vs, ws, v, u, hq1, hq2, hv, hu⟩, fun x H3 ⟨T, x', y', e3, hT, e4, hy1, hy2⟩ => ?_⟩
  have hx := hy1 vs hq1
  rw [hv] at hx
  cases hx
  have hy := hy2 ws hq2
  rw [hu] at hy
  cases hy
  subst e3 e4
  have m := Fm.new (K := K) (F := G.F) (o := .tup [v, u]) e2 f hT
  exact ⟨_, .tup [ds[i], es[i]], zipD_at _ _ _ _ _ (List.getElem?_eq_getElem hi1) (List.getElem?_eq_getElem hi2), m, .tup (SqT.of upd_same) (.cons ((rv.mono e1).mono m.b) (.cons ((ru.mono e1).mono m.b) .nil))⟩
theorem pid_en (hm : X.mg "enumerate" = none) (ha : PAd X G [e] da) (hg : Gl X "enumerate" := by rfl) (hs : starEach [e] X.env = [(false, eval e X.env)] := by rfl) : PId X G (.Tuple elts kk tpos) (.Call (.Name "enumerate" p) [e] [] pos) (diEn da) :=
  PI.imp (pi_en hm ha hg hs) fun σ H R ⟨B, δ, P, st, h, q⟩ => ⟨B, δ, _, st, h, fun vs ds B1 H1 m1 ⟨d, xs, e1, e2, p⟩ r1 => by
    subst e1
    cases r1 with
    | cons rx rn =>
      cases rn
      obtain ⟨b, a, ws, rfl, hq, ra⟩ := sq_any rx e2
      exact ⟨b, a, ws, rfl, hq H1 m1.e, q _ _ B1 H1 m1 p (wk_en hq ra)⟩⟩
theorem pid_zp (hm : X.mg "zip" = none) (ha : PAd X G [e, e2] da) (hg : Gl X "zip" := by rfl) (hs : starEach [e, e2] X.env = (false, eval e X.env) :: starEach [e2] X.env := by rfl) (hpl : (backTo pos (starEach [e2] X.env)).any (·.1) = false := by rfl) :
    PId X G (.Tuple elts kk tpos) (.Call (.Name "zip" p) [e, e2] [] pos) (diZp da) :=
  PI.imp (pi_zp hm ha hg hs hpl) fun σ H R ⟨B, δ, P, st, h, q⟩ => ⟨B, δ, _, st, h, fun vs ds B1 H1 m1 ⟨d, f, xs, ys, e1, e2, e3, p⟩ r1 => by
    subst e1
    cases r1 with
    | cons rx rn =>
      cases rn with
      | cons ry rn =>
        cases rn
        obtain ⟨b1, a1, v1, rfl, hq1, ra1⟩ := sq_any rx e2
        obtain ⟨b2, a2, v2, rfl, hq2, ra2⟩ := sq_any ry e3
        exact ⟨b1, a1, v1, b2, a2, v2, rfl, hq1 H1 m1.e, hq2 H1 m1.e, q _ _ B1 H1 m1 p (wk_zp hq1 ra1 hq2 ra2)⟩⟩
theorem pid_r1 (hm : X.mg "range" = none) (ha : PAd X G [e] da) (hg : Gl X "range" := by rfl) (hs : starEach [e] X.env = [(false, eval e X.env)] := by rfl) : PId X G tg (.Call (.Name "range" p) [e] [] pos) (diR1 da) :=
  PI.imp (pi_range1 hg hm ha hs) fun σ H R ⟨B, δ, P, st, h, q⟩ => ⟨B, δ, _, st, h, fun vs ds B1 H1 m1 ⟨j, e1, h1, h2, p⟩ r1 => by
    subst e1
    cases r1 with
    | cons rx rn =>
      cases rn
      cases rx
      exact ⟨j, rfl, by omega, by omega, q _ _ B1 H1 m1 p wk_rng⟩⟩
theorem pid_r2 (hm : X.mg "range" = none) (ha : PAd X G [e, e2] da) (hg : Gl X "range" := by rfl) (hs : starEach [e, e2] X.env = [(false, eval e X.env), (false, eval e2 X.env)] := by rfl) (hs2 : starEach [e2] X.env = [(false, eval e2 X.env)] := by rfl) :
    PId X G tg (.Call (.Name "range" p) [e, e2] [] pos) (diR2 da) :=
  PI.imp (pi_range2 hg hm ha hs hs2) fun σ H R ⟨B, δ, P, st, h, q⟩ => ⟨B, δ, _, st, h, fun vs ds B1 H1 m1 ⟨i, j, e1, h1, h2, h3, h4, p⟩ r1 => by
    subst e1
    cases r1 with
    | cons rx rn =>
      cases rn with
      | cons ry rn =>
        cases rn
        cases rx
        cases ry
        exact ⟨i, j, rfl, ⟨by omega, by omega, by omega, by omega⟩, q _ _ B1 H1 m1 p wk_rng⟩⟩
end
end Sd
end
-- SdStmts
section
set_option Elab.async false
set_option linter.all false
set_option maxRecDepth 100000
set_option maxHeartbeats 4000000
set_option autoImplicit false
namespace Sd
open PySem PySem.Spec PyProof.Rows L2
open Evl (Ex)
section
variable {K : PySem.W.Frag} {G : Gx} {B B1 : Hp} {DD : DEnds} {D : Ends}
theorem Dlv.up (d : Dlv K G B DD D) (e : Ex B B1) : Dlv K G B1 DD D := ⟨fun σ' B' H' δ' x => d.nx σ' B' H' δ' (e.trans x), d.rt, fun σ' B' H' δ' x => d.bk σ' B' H' δ' (e.trans x), fun σ' B' H' δ' x => d.ct σ' B' H' δ' (e.trans x)⟩
end

/-! ### own lists -/
section
variable {K : PySem.W.Frag} {G : Gx} {σ : L2.St} {B H : Hp} {δ : List Sl}
theorem Stt.fresh0 (s : Stt K G σ B H δ) {p : Addr} (h : ¬ Hd H p) (ns : ¬ G.F.S p) : ¬ Hd G.H0 p := s.fm.back h ns
theorem fok_upd {F : Fs} {l : Addr} {o : HO} (f : Fok K F B H) (hl : ¬ F.S l) (hc : ∀ p ∈ F.tabs, ∀ c q, H c = some (LamX.CodeO c q) → c ≠ l) : Fok K F B (upd H l o) := by
  refine ⟨fun r sa hr => ?_, fun p hp => ?_, f.tb, f.nt⟩
  · obtain ⟨h1, h2, i, s, c, h3, h4⟩ := f.row r sa hr
    exact ⟨h1, h2, i, s, c, by rw [upd_ne (f.s_ne hl r (.inl ⟨sa, hr⟩))]; exact h3, h4⟩
  · obtain ⟨ps, h1, h2, h3⟩ := f.tab p hp
    refine ⟨ps, by rw [upd_ne (f.s_ne hl p.1 (.inr ⟨p.2, hp⟩))]; exact h1, h2, fun pos cv hcv => ?_⟩
    obtain ⟨c, e1, e2⟩ := h3 pos cv hcv
    exact ⟨c, e1, by rw [upd_ne (hc p hp c _ e2)]; exact e2⟩
theorem lst_ne_code {l c : Addr} {vs : List V} {q : Str} (hl : H l = some (.lst vs)) (h : H c = some (LamX.CodeO c q)) : c ≠ l := fun z => by
  subst z
  rw [hl] at h
  cases h
/-- an own list is changed -/
theorem Stt.setOwn {i : Nat} {l : Addr} {vs ws : List V} {xs es : List D} (s : Stt K G σ B H δ) (hi : σ[i]? = some (some (.ref l))) (hd : δ[i]? = some (.own xs)) (h0 : ¬ Hd G.H0 l) (hb : B l = none) (hl : H l = some (.lst vs)) (ns : ¬ G.F.S l) (r : RpA K B ws es) :
    Stt K G σ B (upd H l (.lst ws)) (δ.set i (.own es)) := by
  have f' : Fok K G.F B (upd H l (.lst ws)) := fok_upd s.f ns fun p _ c q e => lst_ne_code hl e
  have e' : Ex B (upd H l (.lst ws)) := fun a o h => by
    rw [upd_ne (fun z => by rw [z, hb] at h; cases h)]
    exact s.e a o h
  refine ⟨⟨s.fm.b, e', fun a h1 h2 => ?_, f'⟩, by rw [List.length_set]; exact s.len, fun j t h => ?_, fun j k ds fs hn h1 h2 => ?_⟩
  · obtain ⟨h3, h4⟩ := s.fm.o a h1 h2
    exact ⟨h3, fun q => by rw [upd_ne (h2.nne h0)]; exact h4 q⟩
  · by_cases hj : i = j
    · subst hj
      have lt := (List.getElem?_eq_some_iff.mp hd).1
      rw [List.getElem?_set, if_pos rfl, if_pos lt] at h
      cases h
      exact ⟨_, hi, l, ws, rfl, h0, hb, upd_same, r, ns⟩
    · rw [List.getElem?_set, if_neg hj] at h
      obtain ⟨o, e, k⟩ := s.sl j t h
      refine ⟨o, e, ?_⟩
      cases t with
      | un => exact k
      | dat d => exact k
      | own ds =>
        obtain ⟨m, us, eo, g0, gb, gl, gr, gs⟩ := k
        have nm : m ≠ l := fun z => by
          have q := s.sep i j xs ds hj hd h
          rw [hi, e, eo, z] at q
          exact q rfl
        exact ⟨m, us, eo, g0, gb, by rw [upd_ne nm]; exact gl, gr, gs⟩
  · have g : ∀ (m : Nat) (zs : List D), (δ.set i (.own es))[m]? = some (.own zs) → ∃ ys, δ[m]? = some (.own ys) := fun m zs hm => by
      by_cases hj : i = m
      · subst hj; exact ⟨xs, hd⟩
      · rw [List.getElem?_set, if_neg hj] at hm
        exact ⟨zs, hm⟩
    obtain ⟨y1, g1⟩ := g j ds h1
    obtain ⟨y2, g2⟩ := g k fs h2
    exact s.sep j k y1 y2 hn g1 g2
/-- a new list becomes an own one -/
theorem Stt.putOwn {i : Nat} {p : Addr} {vs : List V} {ds : List D} {H1 : Hp} (s : Stt K G σ B H1 δ) (h0 : ¬ Hd G.H0 p) (hb : B p = none) (hp : H1 p = some (.lst vs)) (ns : ¬ G.F.S p) (hn : ∀ (j : Nat) (es : List D), δ[j]? = some (.own es) → σ[j]? ≠ some (some (.ref p))) (r : RpA K B vs ds) :
    Stt K G (σ.set i (some (.ref p))) B H1 (δ.set i (.own ds)) := by
  refine ⟨s.fm, by rw [List.length_set, List.length_set]; exact s.len, fun j t h => ?_, fun j k es fs hne h1 h2 => ?_⟩
  · by_cases hj : i = j
    · subst hj
      rw [List.getElem?_set, if_pos rfl] at h
      by_cases lt : i < δ.length
      · rw [if_pos lt] at h
        cases h
        refine ⟨some (.ref p), ?_, p, vs, rfl, h0, hb, hp, r, ns⟩
        rw [List.getElem?_set, if_pos rfl, if_pos (by rw [s.len]; exact lt)]
      · rw [if_neg lt] at h
        cases h
    · rw [List.getElem?_set, if_neg hj] at h ⊢
      exact s.sl j t h
  · have lts : ∀ m zs, (δ.set i (.own ds))[m]? = some (.own zs) → i = m → (σ.set i (some (.ref p)))[m]? = some (some (.ref p)) := fun m zs hm e => by
      subst e
      have lt : i < δ.length := by
        have q := (List.getElem?_eq_some_iff.mp hm).1
        rwa [List.length_set] at q
      rw [List.getElem?_set, if_pos rfl, if_pos (by rw [s.len]; exact lt)]
    by_cases hj : i = j
    · by_cases hk : i = k
      · exact (hne (hj.symm.trans hk)).elim
      · rw [lts j es h1 hj]
        rw [List.getElem?_set, if_neg hk] at h2 ⊢
        exact Ne.symm (hn k fs h2)
    · by_cases hk : i = k
      · rw [lts k fs h2 hk]
        rw [List.getElem?_set, if_neg hj] at h1 ⊢
        exact hn j es h1
      · rw [List.getElem?_set, if_neg hj] at h1 ⊢
        rw [List.getElem?_set, if_neg hk] at h2 ⊢
        exact s.sep j k es fs hne h1 h2
theorem Stt.own_ne (s : Stt K G σ B H δ) {p : Addr} (hp : ¬ Hd H p) : ∀ (j : Nat) (es : List D), δ[j]? = some (.own es) → σ[j]? ≠ some (some (.ref p)) := fun j es h z => by
  obtain ⟨l, vs, e, _, _, hl, _⟩ := s.own h
  rw [z] at e
  cases e
  exact hp (.of hl)
theorem Stt.noS (s : Stt K G σ B H δ) {p : Addr} (hp : H p = none) : ¬ G.F.S p := fun z => (s.f.there z).2 hp
/-- an own list is known as data from now on -/
theorem Stt.freeze {i : Nat} {ds : List D} (s : Stt K G σ B H δ) (hd : δ[i]? = some (.own ds)) : ∃ B', Ex B B' ∧ Stt K G σ B' H (δ.set i (.dat (.lst ds))) := by
  obtain ⟨l, vs, hi, h0, hb, hl, r, ns⟩ := s.own hd
  have e1 : Ex B (upd B l (.lst vs)) := Evl.Ex.new hb
  have e2 : Ex (upd B l (.lst vs)) H := fun a o h => by
    by_cases ha : a = l
    · subst ha
      rw [upd_same] at h
      rw [hl]
      exact h
    · rw [upd_ne ha] at h
      exact s.e a o h
  have lt := (List.getElem?_eq_some_iff.mp hd).1
  refine ⟨upd B l (.lst vs), e1, ⟨s.fm.b.trans e1, e2, fun a h1 h2 => ?_, s.f.ex e1 (fun a ha => ?_) (fun a o h => h) (nt_upd s.f.nt (fun _ z => by cases z))⟩, by rw [List.length_set]; exact s.len, fun j t h => ?_, fun j k es fs hne h1 h2 => ?_⟩
  · obtain ⟨h3, h4⟩ := s.fm.o a h1 h2
    exact ⟨by rw [upd_ne (h2.nne h0)]; exact h3, h4⟩
  · rw [upd_ne (s.f.s_ne ns a ha)]
    exact (s.f.there ha).1
  · by_cases hj : i = j
    · subst hj
      rw [List.getElem?_set, if_pos rfl, if_pos lt] at h
      cases h
      exact ⟨_, hi, _, rfl, .lst upd_same (r.mono e1)⟩
    · rw [List.getElem?_set, if_neg hj] at h
      obtain ⟨o, e, k⟩ := s.sl j t h
      refine ⟨o, e, ?_⟩
      cases t with
      | un => exact k
      | dat d =>
        obtain ⟨v, ev, rv⟩ := k
        exact ⟨v, ev, rv.mono e1⟩
      | own es =>
        obtain ⟨m, us, eo, g0, gb, gl, gr, gs⟩ := k
        have nm : m ≠ l := fun z => by
          have q := s.sep i j ds es hj hd h
          rw [hi, e, eo, z] at q
          exact q rfl
        exact ⟨m, us, eo, g0, by rw [upd_ne nm]; exact gb, gl, gr.mono e1, gs⟩
  · have g : ∀ (m : Nat) (zs : List D), (δ.set i (.dat (.lst ds)))[m]? = some (.own zs) → δ[m]? = some (.own zs) := fun m zs hm => by
      by_cases hj : i = m
      · subst hj
        rw [List.getElem?_set, if_pos rfl, if_pos lt] at hm
        cases hm
      · rw [List.getElem?_set, if_neg hj] at hm
        exact hm
    exact s.sep j k es fs hne (g j es h1) (g k fs h2)
end

/-! ### targets -/
def dgName (i : Nat) : DG := fun d δ Q => Q (δ.set i (.dat d))
def dgNil : DGs := fun ds δ Q => ds = [] ∧ Q δ
def dgCons (t : DG) (u : DGs) : DGs := fun ds δ Q => ∃ d r, ds = d :: r ∧ t d δ fun δ' => u r δ' Q
def dgTup (n : Nat) (t : DGs) : DG := fun d δ Q => ∃ xs, d = .tup xs ∧ xs.length = n ∧ t xs δ Q
section
variable {X : Cx} {G : Gx} {e : Expr} {es : List Expr} {t : DG} {u : DGs} {pos : Pos}
theorem pgd_name {i : Nat} {x : Str} (hN : X.N.Nodup) (hi : X.N[i]? = some x) (hx : Loc X.env.scope x) (hf : X.fn x = true ∨ X.env.scope.names.lookup x = some .local := by first | exact .inl rfl | exact .inr rfl | assumption) : PGd X G (.Name x pos) (dgName i) :=
  PG.imp (pg_name hN hi hx hf) fun v σ H Q ⟨B, δ, d, P, s, r, p, q⟩ => q _ B H _ (Ex.refl B) (s.put r) p
theorem pgsd_nil : PGsd X G [] dgNil := PGs.imp pgs_nil fun vs σ H Q ⟨B, δ, d, P, s, r, ⟨e, p⟩, q⟩ => by
  subst e
  cases r
  exact ⟨rfl, q _ B H δ (Ex.refl B) s p⟩
theorem pgsd_cons (h1 : PGd X G e t) (h2 : PGsd X G es u) (hs : (assignEach (e :: es) X.env).map (·.2) = assign e X.env :: (assignEach es X.env).map (·.2) := by rfl) : PGsd X G (e :: es) (dgCons t u) :=
  PGs.imp (pgs_cons h1 h2 hs) fun vs σ H Q ⟨B, δ, ds, P, s, r, ⟨d, rest, e, p⟩, q⟩ => by
    subst e
    cases r with
    | cons rv rr =>
      exact ⟨_, _, rfl, B, δ, d, _, s, rv, p, fun σ1 B1 H1 δ1 e1 s1 p1 => ⟨B1, δ1, rest, P, s1, rr.mono e1, p1, fun σ2 B2 H2 δ2 e2 => q σ2 B2 H2 δ2 (e1.trans e2)⟩⟩
theorem pgd_tup {k n : Nat} (h : PGsd X G es u) (hc : X.calm = true := by rfl) (hn : (assignEach es X.env).length = n := by rfl) (hst : (assignEach es X.env).findIdx? (·.1) = none := by rfl) : PGd X G (.Tuple es k pos) (dgTup n u) :=
  PG.imp (pg_tup hc h hn hst) fun v σ H Q ⟨B, δ, d, P, s, r, ⟨xs, e, hl, p⟩, q⟩ => by
    subst e
    cases r with
    | tup h1 ra => exact ⟨_, _, rfl, exT s.e h1, by rw [ra.length]; exact hl, B, δ, xs, P, s, ra, p, q⟩
end

/-! ### statements -/
def dsNext : DS := fun D δ => D.nx δ
def dsSeq (t u : DS) : DS := fun D δ => t { D with nx := u D } δ
def dsBreak : DS := fun D δ => D.bk δ
def dsCont : DS := fun D δ => D.ct δ
def dsAsg (de : DE) (g : DG) : DS := fun D δ => de δ fun d => g d δ D.nx
def dsDrop (de : DE) : DS := fun D δ => de δ fun _ => D.nx δ
def dsRet (de : DE) : DS := fun D δ => de δ D.rt
def dsRetN : DS := fun D _ => D.rt .non
def dsIf (c : DT) (t u : DS) : DS := fun D δ => c δ fun b => if b = true then t D δ else u D δ
def dsPar (i j : Nat) (da : DA) : DS := fun D δ => da δ fun ds => ∃ x y, ds = [x, y] ∧ D.nx ((δ.set i (.dat x)).set j (.dat y))
def dsAug (i : Nat) (f : Int → Int → Int) (de : DE) : DS := fun D δ => ∃ a, δ[i]? = some (.dat (.int a)) ∧ de δ fun y => ∃ b, y = .int b ∧ D.nx (δ.set i (.dat (.int (f a b))))
def dsFor (di : DI) (g : DG) (t : DS) : DS := fun D δ => di δ fun xs => ∃ J : Nat → List Sl → Prop, J 0 δ ∧
  (∀ i x δ', xs[i]? = some x → J i δ' → g x δ' fun δ2 => t { D with nx := J (i + 1), ct := J (i + 1), bk := D.nx } δ2) ∧ ∀ δ', J xs.length δ' → D.nx δ'
def dsWhile (c : DT) (t : DS) : DS := fun D δ => ∃ J : Nat → List Sl → Prop, (∃ m, J m δ) ∧ ∀ m δ', J m δ' →
  c δ' fun b => if b = true then t { D with nx := fun δ2 => ∃ m', m' < m ∧ J m' δ2, ct := fun δ2 => ∃ m', m' < m ∧ J m' δ2, bk := D.nx } δ' else D.nx δ'
/-- an own list is known as data from here on -/
def dsFrz (i : Nat) (t : DS) : DS := fun D δ => ∃ ds, δ[i]? = some (.own ds) ∧ t D (δ.set i (.dat (.lst ds)))
def dsNever : DS := fun _ _ => False
section
variable {X : Cx} {G : Gx} {st : Stmt} {rest : List Stmt} {t u : DS} {e c : Expr} {de : DE} {da : DA} {tc : DT} {di : DI} {dg : DG} {tg iter : Expr} {pos : Pos} {a b : List Stmt}
theorem pssd_nil : PSsd X G [] dsNext := PSs.imp pss_nil fun D σ H ⟨B, δ, DD, s, h, q⟩ => q.nx σ B H δ (Ex.refl B) s h
theorem pssd_cons (h1 : PSd X G st t) (h2 : PSsd X G rest u) : PSsd X G (st :: rest) (dsSeq t u) := PSs.imp (pss_cons h1 h2) fun D σ H ⟨B, δ, DD, s, h, q⟩ =>
  ⟨B, δ, { DD with nx := u DD }, s, h, ⟨fun σ' B' H' δ' e s' h' => ⟨B', δ', DD, s', h', q.up e⟩, q.rt, q.bk, q.ct⟩⟩
theorem pssd_one (h1 : PSd X G st t) : PSsd X G [st] t := pss_one h1
theorem psd_pass : PSd X G (.Pass pos) dsNext := PS.imp ps_pass fun D σ H ⟨B, δ, DD, s, h, q⟩ => q.nx σ B H δ (Ex.refl B) s h
theorem psd_break : PSd X G (.Break pos) dsBreak := PS.imp ps_break fun D σ H ⟨B, δ, DD, s, h, q⟩ => q.bk σ B H δ (Ex.refl B) s h
theorem psd_continue : PSd X G (.Continue pos) dsCont := PS.imp ps_continue fun D σ H ⟨B, δ, DD, s, h, q⟩ => q.ct σ B H δ (Ex.refl B) s h
theorem psd_never : PSd X G st dsNever := PS.imp ps_never fun D σ H ⟨B, δ, DD, s, h, q⟩ => h
theorem pssd_never : PSsd X G rest dsNever := PSs.imp pss_never fun D σ H ⟨B, δ, DD, s, h, q⟩ => h
theorem asg_of {σ : L2.St} {H : Hp} {D : Ends} (h : tsOf X.K G (dsAsg de dg) D σ H) : tAsg (teOf X.K G de) (tgOf X.K G dg) D σ H := by
  obtain ⟨B, δ, DD, s, h, q⟩ := h
  exact ⟨B, δ, _, s, h, fun v d B1 H1 m1 p1 r1 => ⟨B1, δ, d, DD.nx, s.mono m1, r1, p1, fun σ2 B2 H2 δ2 e2 s2 p2 => q.nx σ2 B2 H2 δ2 (m1.b.trans e2) s2 p2⟩⟩
theorem psd_asg (he : PEd X G e de) (hg : PGd X G tg dg) (hs : swapsWithSole [tg] e pos.line X.env = pure false := by rfl) (hw : swappedStores [tg] e X.env = pure none := by rfl) (h1 : (assignEach [tg] X.env).map (·.2) = [assign tg X.env] := by rfl) :
    PSd X G (.Assign [tg] e pos) (dsAsg de dg) := PS.imp (ps_asg he hg hs hw h1) fun D σ H h => asg_of h
/-- name = value -/
theorem psd_set {i : Nat} {x : Str} {pos' : Pos} (hN : X.N.Nodup) (hi : X.N[i]? = some x) (hx : Loc X.env.scope x) (he : PEd X G e de) (hs : swapsWith e (some (.Name x pos')) pos.line X.env = pure false := by rfl) (hf : X.fn x = true ∨ X.env.scope.names.lookup x = some .local := by first | exact .inl rfl | exact .inr rfl | assumption) :
    PSd X G (.Assign [.Name x pos'] e pos) (dsAsg de (dgName i)) := PS.imp (ps_set hN hi hx he hs hf) fun D σ H ⟨B, δ, DD, s, h, q⟩ =>
  ⟨B, δ, _, s, h, fun v d B1 H1 m1 p1 r1 => q.nx _ B1 H1 _ m1.b ((s.mono m1).put r1) p1⟩
theorem psd_drop (he : PEd X G e de) (hs : swapsWith e none pos.line X.env = pure false := by rfl) : PSd X G (.Expr e pos) (dsDrop de) := PS.imp (ps_expr he hs) fun D σ H ⟨B, δ, DD, s, h, q⟩ =>
  ⟨B, δ, _, s, h, fun v d B1 H1 m1 p1 r1 => q.nx _ B1 H1 _ m1.b (s.mono m1) p1⟩
theorem psd_ret (he : PEd X G e de) : PSd X G (.Return (some e) pos) (dsRet de) := PS.imp (ps_ret he) fun D σ H ⟨B, δ, DD, s, h, q⟩ =>
  ⟨B, δ, _, s, h, fun v d B1 H1 m1 p1 r1 => q.rt v d B1 H1 (s.fm.trans m1) p1 r1⟩
theorem psd_retN : PSd X G (.Return none pos) dsRetN := PS.imp ps_retN fun D σ H ⟨B, δ, DD, s, h, q⟩ => q.rt _ _ B H s.fm h .non
theorem psd_if (hc : PTd X G c tc) (ha : PSsd X G a t) (hb : PSsd X G b u) : PSd X G (.If c a b pos) (dsIf tc t u) := PS.imp (ps_if hc ha hb) fun D σ H ⟨B, δ, DD, s, h, q⟩ =>
  ⟨B, δ, _, s, h, fun k B1 H1 m1 p1 => by
    cases k with
    | true => exact ⟨B1, δ, DD, s.mono m1, p1, q.up m1.b⟩
    | false => exact ⟨B1, δ, DD, s.mono m1, p1, q.up m1.b⟩⟩
theorem psd_par {i j : Nat} {x y : Str} {e1 e2 : Expr} {px py pt : Pos} {kt k2 : Nat} {pt2 : Pos} (hN : X.N.Nodup) (hi : X.N[i]? = some x) (hj : X.N[j]? = some y) (hij : i ≠ j) (ha : PAd X G [e1, e2] da) (hc : X.calm = true := by rfl)
    (hx : X.env.scope.names.lookup x = some .local := by rfl) (hy : X.env.scope.names.lookup y = some .local := by rfl)
    (hw : swappedStores [.Tuple [.Name x px, .Name y py] kt pt] (.Tuple [e1, e2] k2 pt2) X.env = pure (some [x, y]) := by rfl) (hs : swapsWithSole [.Tuple [.Name x px, .Name y py] kt pt] (.Tuple [e1, e2] k2 pt2) pos.line X.env = pure false := by rfl) :
    PSd X G (.Assign [.Tuple [.Name x px, .Name y py] kt pt] (.Tuple [e1, e2] k2 pt2) pos) (dsPar i j da) := PS.imp (ps_par hc hN hi hj hij hx hy ha hw hs) fun D σ H ⟨B, δ, DD, s, h, q⟩ =>
  ⟨B, δ, _, s, h, fun vs ds B1 H1 m1 ⟨x, y, e, p1⟩ r1 => by
    subst e
    cases r1 with
    | cons rx rr => cases rr with
      | cons ry rr => cases rr; exact ⟨_, _, rfl, q.nx _ B1 H1 _ m1.b (((s.mono m1).put rx).put ry) p1⟩⟩
theorem psd_aug {i : Nat} {x : Str} {op : Operator} {f : Int → Int → Int} {pos' : Pos} (hN : X.N.Nodup) (hi : X.N[i]? = some x) (hx : Loc X.env.scope x) (ho : PIp X op (ipI f)) (he : PEd X G e de) (hf : X.fn x = true ∨ X.env.scope.names.lookup x = some .local := by first | exact .inl rfl | exact .inr rfl | assumption) :
    PSd X G (.AugAssign (.Name x pos') op e pos) (dsAug i f de) := PS.imp (ps_aug hN hi hx he ho hf) fun D σ H ⟨B, δ, DD, s, ⟨a, ha, h⟩, q⟩ => by
  obtain ⟨v, ev, rv⟩ := s.dat ha
  cases rv
  exact ⟨_, ev, B, δ, _, s, h, fun v d B1 H1 m1 ⟨b, e, p1⟩ r1 => by
    subst e
    cases r1
    exact ⟨a, b, rfl, rfl, q.nx _ B1 H1 _ m1.b ((s.mono m1).put (.int _)) p1⟩⟩
theorem psd_for (hp : PassesOwn (model X.prog X.w) X.A X.env X.xe) (hi : PId X G tg iter di) (hg : PGd X G tg dg) (hb : PSsd X G a t) (hc : X.calm = true := by rfl) (hs : ∀ x, foldedSetIterable iter X.env x = pure x := by intro _; rfl) :
    PSd X G (.For tg iter a [] pos) (dsFor di dg t) := PS.imp (ps_for hp hc hi hg hb hs) fun D σ H ⟨B, δ, DD, s, h, q⟩ =>
  ⟨B, δ, _, s, h, fun It xs B1 H1 m1 ⟨J, j0, js, jd⟩ wk => by
    refine ⟨fun i m σ' H' => i + m = xs.length ∧ ∃ B' δ', Ex B1 B' ∧ Stt X.K G σ' B' H' δ' ∧ J i δ', ⟨xs.length, by omega, B1, δ, Ex.refl B1, s.mono m1, j0⟩, fun i m σ' H' ⟨hm, B', δ', e', s', j'⟩ => ?_⟩
    obtain ⟨w1, w2⟩ := wk B' H' e' s'.e s'.f
    cases m with
    | zero =>
      have z : i = xs.length := by omega
      subst z
      exact .inl ⟨w2, q.nx σ' B' H' δ' (m1.b.trans e') s' (jd δ' j')⟩
    | succ m =>
      have lt : i < xs.length := by omega
      obtain ⟨g1, g2⟩ := w1 i lt
      refine .inr ⟨g1, fun σ2 H2 => i + 1 + m = xs.length ∧ ∃ B2 δ2, Ex B1 B2 ∧ Stt X.K G σ2 B2 H2 δ2 ∧ J (i + 1) δ2, fun σ2 H2 z => ⟨m, by omega, z⟩, fun x H2 hy => ?_⟩
      obtain ⟨B2, d, hd, m2, r2⟩ := g2 x H2 hy
      refine ⟨B2, δ', d, _, s'.mono m2, r2, js i d δ' hd j', fun σ3 B3 H3 δ3 e3 s3 p3 => ⟨B3, δ3, _, s3, p3, ?_⟩⟩
      have eb : Ex B1 B3 := (e'.trans m2.b).trans e3
      exact ⟨fun σ4 B4 H4 δ4 e4 s4 p4 => ⟨by omega, B4, δ4, eb.trans e4, s4, p4⟩, q.rt, fun σ4 B4 H4 δ4 e4 s4 p4 => q.nx σ4 B4 H4 δ4 ((m1.b.trans eb).trans e4) s4 p4, fun σ4 B4 H4 δ4 e4 s4 p4 => ⟨by omega, B4, δ4, eb.trans e4, s4, p4⟩⟩⟩
theorem psd_while (hp : PassesOwn (model X.prog X.w) X.A X.env X.xe) (hc : PTd X G c tc) (hb : PSsd X G a t) : PSd X G (.While c a [] pos) (dsWhile tc t) := PS.imp (ps_while hp hc hb) fun D σ H ⟨B, δ, DD, s, ⟨J, ⟨m0, j0⟩, js⟩, q⟩ => by
  refine ⟨fun m σ' H' => ∃ B' δ', Ex B B' ∧ Stt X.K G σ' B' H' δ' ∧ J m δ', ⟨m0, B, δ, Ex.refl B, s, j0⟩, fun m σ' H' ⟨B', δ', e', s', j'⟩ => ?_⟩
  refine ⟨B', δ', _, s', js m δ' j', fun k B1 H1 m1 p1 => ?_⟩
  have eb : Ex B B1 := e'.trans m1.b
  cases k with
  | false => exact q.nx σ' B1 H1 δ' eb (s'.mono m1) p1
  | true =>
    refine ⟨fun σ2 H2 => ∃ m', m' < m ∧ ∃ B2 δ2, Ex B B2 ∧ Stt X.K G σ2 B2 H2 δ2 ∧ J m' δ2, fun σ2 H2 z => z, B1, δ', _, s'.mono m1, p1, ?_⟩
    exact ⟨fun σ4 B4 H4 δ4 e4 s4 ⟨m', h1, h2⟩ => ⟨m', h1, B4, δ4, eb.trans e4, s4, h2⟩, q.rt, fun σ4 B4 H4 δ4 e4 s4 p4 => q.nx σ4 B4 H4 δ4 (eb.trans e4) s4 p4, fun σ4 B4 H4 δ4 e4 s4 ⟨m', h1, h2⟩ => ⟨m', h1, B4, δ4, eb.trans e4, s4, h2⟩⟩
theorem psd_frz (i : Nat) (h : PSd X G st t) : PSd X G st (dsFrz i t) := PS.imp h fun D σ H ⟨B, δ, DD, s, ⟨ds, hd, p⟩, q⟩ => by
  obtain ⟨B', e, s'⟩ := s.freeze hd
  exact ⟨B', _, DD, s', p, q.up e⟩
end

/-! ### new lists -/
abbrev DX := List Sl → (List D → Prop) → Prop
def txOf (K : PySem.W.Frag) (G : Gx) (dx : DX) : TE := fun σ H Q => ∃ (B : Hp) (δ : List Sl) (P : List D → Prop), Stt K G σ B H δ ∧ dx δ P ∧ ∀ p vs ds B' H', Fm K G.F B H B' H' → ¬ Hd H p → ¬ G.F.S p → B' p = none → H' p = some (.lst vs) → P ds → RpA K B' vs ds → Q (.ref p) H'
/-- an expression that makes a new list -/
abbrev PXd (X : Cx) (G : Gx) (e : Expr) (dx : DX) : Prop := PE X e (txOf X.K G dx)
def dsOwn (i : Nat) (dx : DX) : DS := fun D δ => dx δ fun xs => D.nx (δ.set i (.own xs))
/-- as a value -/
def deX (dx : DX) : DE := fun δ P => dx δ fun xs => P (.lst xs)
def dxLst (da : DA) : DX := fun δ P => da δ fun ds => ds.length ≤ 100000 ∧ P ds
def dxB (rd : List D → (List D → Prop) → Prop) (da : DA) : DX := fun δ P => da δ fun ds => rd ds P
section
variable {X : Cx} {G : Gx} {st : Stmt} {e : Expr} {es : List Expr} {de : DE} {da : DA} {dx : DX} {pos : Pos}
theorem newX {K : PySem.W.Frag} {F : Fs} {B H B1 H1 : Hp} {P : List D → Prop} {Q : VK} {vs : List V} {ds : List D} {p : Addr} (q : ∀ p vs ds B' H', Fm K F B H B' H' → ¬ Hd H p → ¬ F.S p → B' p = none → H' p = some (.lst vs) → P ds → RpA K B' vs ds → Q (.ref p) H') (e0 : Ex B H) (f0 : Fok K F B H) (m1 : Fm K F B H B1 H1) (ra : RpA K B1 vs ds) (pz : P ds) (hp : H1 p = none) : Q (.ref p) (upd H1 p (.lst vs)) := by
  have ns : ¬ F.S p := fun z => (m1.f.there z).2 hp
  exact q p vs ds B1 _ (m1.trans (Fm.newH m1.e m1.f hp)) (m1.back (not_hd hp) ns) ns (Evl.fresh_back m1.e hp) upd_same pz ra
theorem pxd_lst (h : PAd X G es da) : PXd X G (.List es pos) (dxLst da) := PE.imp (pe_lst h) fun σ H Q ⟨B, δ, P, s, h, q⟩ =>
  ⟨B, δ, _, s, h, fun xs ds B1 H1 m1 ⟨hl, p1⟩ r1 => ⟨by rw [r1.length]; exact size_ok hl, fun p hp => newX q s.e s.f m1 r1 p1 hp⟩⟩
/-- list(x) -/
def rxList : List D → (List D → Prop) → Prop := fun ds P => ∃ x xs, ds = [x] ∧ x.seq = some xs ∧ P xs
theorem pxd_list {p : Pos} (hm : X.mg "list" = none) (ha : PAd X G [e] da) (hg : Gl X "list" := by rfl) (he : starEach [e] X.env = (false, eval e X.env) :: starEach [] X.env := by rfl) (hpl : (backTo pos (starEach [] X.env)).any (·.1) = false := by rfl) :
    PXd X G (.Call (.Name "list" p) [e] [] pos) (dxB rxList da) := PE.imp (pe_callTy call_list_of hg hm (by decide +kernel) ha (by decide) (by decide) he hpl) fun σ H Q ⟨B, δ, P, s, h, q⟩ =>
  ⟨B, δ, _, s, h, fun vs ds B1 H1 m1 ⟨x, xs, h1, h2, p1⟩ r1 => by
    subst h1
    cases r1 with
    | cons rx rn =>
      cases rn
      obtain ⟨a, ws, rfl, hs, ra⟩ := seq_any m1.e rx h2
      exact ⟨a, ws, rfl, hs, fun l hl => newX q s.e s.f m1 ra p1 hl⟩⟩
theorem pd_x (h : PXd X G e dx) : PEd X G e (deX dx) := PE.imp h fun σ H Q ⟨B, δ, P, s, h, q⟩ => ⟨B, δ, _, s, h, fun p vs ds B' H' m hp ns hb hl pz r => by
  have e1 : Ex B' (upd B' p (.lst vs)) := Evl.Ex.new hb
  have e2 : Ex (upd B' p (.lst vs)) H' := fun a o h => by
    by_cases ha : a = p
    · subst ha
      rw [upd_same] at h
      rw [hl]
      exact h
    · rw [upd_ne ha] at h
      exact m.e a o h
  refine q _ _ (upd B' p (.lst vs)) H' ⟨m.b.trans e1, e2, fun a h1 h2 => ?_, m.f.ex e1 (fun a ha => ?_) (fun a o h => h) (nt_upd m.f.nt (fun _ z => by cases z))⟩ pz (.lst upd_same (r.mono e1))
  · obtain ⟨h3, h4⟩ := m.o a h1 h2
    exact ⟨by rw [upd_ne (h2.nne hp)]; exact h3, h4⟩
  · have ne : a ≠ p := fun z => ns (by rw [← z]; exact ha)
    rw [upd_ne ne]
    exact (m.f.there ha).1⟩
/-- name = a new list, changed later -/
theorem psd_own {i : Nat} {x : Str} {pos' : Pos} (hN : X.N.Nodup) (hi : X.N[i]? = some x) (hx : Loc X.env.scope x) (he : PXd X G e dx) (hs : swapsWith e (some (.Name x pos')) pos.line X.env = pure false := by rfl) (hf : X.fn x = true ∨ X.env.scope.names.lookup x = some .local := by first | exact .inl rfl | exact .inr rfl | assumption) :
    PSd X G (.Assign [.Name x pos'] e pos) (dsOwn i dx) := PS.imp (ps_set hN hi hx he hs hf) fun D σ H ⟨B, δ, DD, s, h, q⟩ =>
  ⟨B, δ, _, s, h, fun p vs ds B1 H1 m1 hp ns hb hl p1 r1 => q.nx _ B1 H1 _ m1.b ((s.mono m1).putOwn (s.fresh0 hp ns) hb hl ns (s.own_ne hp) r1) p1⟩
end

/-! ### comprehensions -/
def dtYes : DT := fun _ P => P true
abbrev PTsd (X : Cx) (G : Gx) (ifs : List Expr) (dt : DT) : Prop := PTs X ifs (ttOf X.K G dt)
/-- [elt for target in iter if ..]: J by the turn and the list so far -/
def dxLc (di : DI) (g : DG) (tt : DT) (te : DE) (own : List Nat) : DX := fun δ P => di δ fun xs => xs.length ≤ 100000 ∧ ∃ J : Nat → List D → Prop, J 0 [] ∧
  (∀ i x acc, xs[i]? = some x → J i acc → acc.length ≤ i → g x (wipeD δ own) fun δ2 => tt δ2 fun b => if b = true then te δ2 fun y => J (i + 1) (acc ++ [y]) else J (i + 1) acc) ∧ ∀ acc, J xs.length acc → P acc
section
variable {X : Cx} {G : Gx}
theorem ptsd_nil : PTsd X G [] dtYes := ⟨fun pins s σ H Q I ⟨B, δ, P, st, h, q⟩ => pts_nil.run pins s σ H Q I (q true B H st.here h)⟩
theorem ptsd_one {c : Expr} {t : DT} (h : PTd X G c t) : PTsd X G [c] t := pts_one h
end
theorem wipe_at (σ : L2.St) : ∀ (own : List Nat) (k : Nat), (L2.wipe σ own)[k]? = if k ∈ own then (if k < σ.length then some none else none) else σ[k]?
  | [], k => by simp [L2.wipe]
  | v :: vs, k => by
    show ((L2.wipe σ vs).set v none)[k]? = _
    rw [List.getElem?_set, L2.wipe_length, wipe_at σ vs k]
    by_cases h : v = k
    · subst h
      simp
    · have h' : ¬ k = v := fun z => h z.symm
      simp [h, h']
theorem wipe_set {σ : L2.St} {own : List Nat} {i : Nat} {x : Option V} (h : i ∈ own) : L2.wipe (σ.set i x) own = L2.wipe σ own := by
  apply List.ext_getElem?
  intro k
  rw [wipe_at, wipe_at, List.length_set]
  by_cases hk : k ∈ own
  · rw [if_pos hk, if_pos hk]
  · rw [if_neg hk, if_neg hk, List.getElem?_set, if_neg (fun z => hk (by rw [← z]; exact h))]
/-- a comprehension's target: it stores at the block's own names alone -/
def tgcOf (K : PySem.W.Frag) (G : Gx) (own : List Nat) (dg : DG) : TG := fun v σ H Q => ∃ (B : Hp) (δ : List Sl) (d : D) (P : List Sl → Prop), Stt K G σ B H δ ∧ Rp K B v d ∧ dg d δ P ∧ ∀ σ' δ', L2.wipe σ' own = L2.wipe σ own → Stt K G σ' B H δ' → P δ' → Q σ' H
def tgcsOf (K : PySem.W.Frag) (G : Gx) (own : List Nat) (dg : DGs) : TGs := fun vs σ H Q => ∃ (B : Hp) (δ : List Sl) (ds : List D) (P : List Sl → Prop), Stt K G σ B H δ ∧ RpA K B vs ds ∧ dg ds δ P ∧ ∀ σ' δ', L2.wipe σ' own = L2.wipe σ own → Stt K G σ' B H δ' → P δ' → Q σ' H
abbrev PGcd (X : Cx) (G : Gx) (own : List Nat) (tg : Expr) (dg : DG) : Prop := PG X tg (tgcOf X.K G own dg)
abbrev PGcsd (X : Cx) (G : Gx) (own : List Nat) (tgs : List Expr) (dg : DGs) : Prop := PGs X tgs (tgcsOf X.K G own dg)
section
variable {X : Cx} {G : Gx} {own : List Nat} {e : Expr} {es : List Expr} {t : DG} {u : DGs} {pos : Pos}
theorem pgc_name {i : Nat} {x : Str} (hN : X.N.Nodup) (hi : X.N[i]? = some x) (hx : Loc X.env.scope x) (ho : i ∈ own) (hf : X.fn x = true ∨ X.env.scope.names.lookup x = some .local := by first | exact .inl rfl | exact .inr rfl | assumption) : PGcd X G own (.Name x pos) (dgName i) :=
  PG.imp (pg_name hN hi hx hf) fun v σ H Q ⟨B, δ, d, P, s, r, p, q⟩ => q _ _ (wipe_set ho) (s.put r) p
theorem pgcs_nil : PGcsd X G own [] dgNil := PGs.imp pgs_nil fun vs σ H Q ⟨B, δ, d, P, s, r, ⟨e, p⟩, q⟩ => by
  subst e
  cases r
  exact ⟨rfl, q _ δ rfl s p⟩
theorem pgcs_cons (h1 : PGcd X G own e t) (h2 : PGcsd X G own es u) (hs : (assignEach (e :: es) X.env).map (·.2) = assign e X.env :: (assignEach es X.env).map (·.2) := by rfl) : PGcsd X G own (e :: es) (dgCons t u) :=
  PGs.imp (pgs_cons h1 h2 hs) fun vs σ H Q ⟨B, δ, ds, P, s, r, ⟨d, rest, e, p⟩, q⟩ => by
    subst e
    cases r with
    | cons rv rr =>
      exact ⟨_, _, rfl, B, δ, d, _, s, rv, p, fun σ1 δ1 w1 s1 p1 => ⟨B, δ1, rest, P, s1, rr, p1, fun σ2 δ2 w2 => q σ2 δ2 (w2.trans w1)⟩⟩
theorem pgc_tup {k n : Nat} (h : PGcsd X G own es u) (hc : X.calm = true := by rfl) (hn : (assignEach es X.env).length = n := by rfl) (hst : (assignEach es X.env).findIdx? (·.1) = none := by rfl) : PGcd X G own (.Tuple es k pos) (dgTup n u) :=
  PG.imp (pg_tup hc h hn hst) fun v σ H Q ⟨B, δ, d, P, s, r, ⟨xs, e, hl, p⟩, q⟩ => by
    subst e
    cases r with
    | tup h1 ra => exact ⟨_, _, rfl, exT s.e h1, by rw [ra.length]; exact hl, B, δ, xs, P, s, ra, p, q⟩
end
theorem Fm.updNew {K : PySem.W.Frag} {F : Fs} {B H B' H' : Hp} {p : Addr} {vs ws : List V} (m : Fm K F B H B' H') (hp : H p = none) (hb : B' p = none) (hl : H' p = some (.lst vs)) (ns : ¬ F.S p) : Fm K F B H B' (upd H' p (.lst ws)) := by
  refine ⟨m.b, fun a o h => ?_, fun a h1 h2 => ?_, fok_upd m.f ns fun q _ c x e => lst_ne_code hl e⟩
  · rw [upd_ne (fun z => by rw [z, hb] at h; cases h)]
    exact m.e a o h
  · obtain ⟨h3, h4⟩ := m.o a h1 h2
    exact ⟨h3, fun z => by rw [upd_ne (h2.ne hp)]; exact h4 z⟩
section
variable {X : Cx} {G : Gx} {elt tg iter : Expr} {ifs : List Expr} {scope : Scope} {own : List (Str × Nat)} {pos : Pos} {di : DI} {dg : DG} {tt : DT} {de : DE}
theorem lc_of {σ : L2.St} {H : Hp} {Q : VK} (h : txOf X.K G (dxLc di dg tt de (own.map (·.2))) σ H Q) : tLc (tiOf X.K G di) (tgcOf X.K G (own.map (·.2)) dg) (ttOf X.K G tt) (teOf X.K G de) (own.map (·.2)) σ H Q := by
  obtain ⟨B, δ, P, s, h, q⟩ := h
  refine ⟨B, δ, _, s, h, fun It xs B1 H1 m1 ⟨hlen, J, j0, js, jd⟩ wk => fun p hp => ?_⟩
  have s1 := s.mono m1
  have nS : ¬ G.F.S p := s1.noS hp
  have hp0 : ¬ Hd H p := m1.back (not_hd hp) nS
  refine ⟨fun i m H' => i + m = xs.length ∧ ∃ B' acc ws, Fm X.K G.F B1 H1 B' H' ∧ B' p = none ∧ H' p = some (.lst ws) ∧ RpA X.K B' ws acc ∧ acc.length ≤ i ∧ J i acc,
    ⟨xs.length, by omega, B1, [], [], Fm.newH m1.e m1.f hp, Evl.fresh_back m1.e hp, upd_same, .nil, Nat.le_refl 0, j0⟩, fun i m H' ⟨hm, B', acc, ws, mf, hb, hl, ra, hle, hj⟩ => ?_⟩
  obtain ⟨w1, w2⟩ := wk B' H' mf.b mf.e mf.f
  cases m with
  | zero =>
    have z : i = xs.length := by omega
    subst z
    exact .inl ⟨w2, q p ws acc B' H' (m1.trans mf) hp0 nS hb hl (jd acc hj) ra⟩
  | succ m =>
    have lt : i < xs.length := by omega
    obtain ⟨g1, g2⟩ := w1 i lt
    refine .inr ⟨g1, fun H2 => i + 1 + m = xs.length ∧ ∃ B2 acc2 ws2, Fm X.K G.F B1 H1 B2 H2 ∧ B2 p = none ∧ H2 p = some (.lst ws2) ∧ RpA X.K B2 ws2 acc2 ∧ acc2.length ≤ i + 1 ∧ J (i + 1) acc2, fun H2 z => ⟨m, by omega, z⟩, fun x H2 hy => ?_⟩
    obtain ⟨B2, d, hd, m2, r2⟩ := g2 x H2 hy
    have keep : ∀ {Ba Ha Bb Hb : Hp}, Fm X.K G.F Ba Ha Bb Hb → Ba p = none → Ha p = some (.lst ws) → Bb p = none ∧ Hb p = some (.lst ws) := fun mm h1 h2 => by
      obtain ⟨h3, h4⟩ := mm.o p h1 (.of h2)
      exact ⟨h3, (h4 nS).trans h2⟩
    have mf2 := mf.trans m2
    obtain ⟨hb2, hl2⟩ := keep m2 hb hl
    have ss : Stt X.K G (L2.wipe σ (own.map (·.2))) B2 H2 (wipeD δ (own.map (·.2))) := (s1.mono mf2).wipe _
    refine ⟨B2, wipeD δ (own.map (·.2)), d, _, ss, r2, js i d acc hd hj hle, fun σ2 δ2 ew s2 p2 => ⟨?_, B2, δ2, _, s2, p2, fun b B3 H3 m3 p3 => ?_⟩⟩
    · rw [ew]
      apply List.ext_getElem?
      intro k
      rw [wipe_at, L2.wipe_length, wipe_at]
      split <;> rfl
    · have mf3 := mf2.trans m3
      obtain ⟨hb3, hl3⟩ := keep m3 hb2 hl2
      cases b with
      | false => exact ⟨by omega, B3, acc, ws, mf3, hb3, hl3, (ra.mono m2.b).mono m3.b, by omega, p3⟩
      | true =>
        refine ⟨B3, δ2, _, s2.mono m3, p3, fun y d4 B4 H4 m4 p4 r4 => ?_⟩
        obtain ⟨hb4, hl4⟩ := keep m4 hb3 hl3
        refine ⟨ws, hl4, ?_, by omega, B4, acc ++ [d4], ws ++ [y], (mf3.trans m4).updNew hp hb4 hl4 nS, hb4, upd_same, (((ra.mono m2.b).mono m3.b).mono m4.b).app (.one r4), by rw [List.length_append]; simp; omega, p4⟩
        rw [ra.length]
        exact size_lt (by omega)
theorem pxd_lc (hN : X.N.Nodup) (hi : PId X G tg iter di) (ok : blkC X.N X.env.scope scope own = true) (hg : ∀ (s : Shared) (H : Hp) (C : Addr) (cl : List (Str × Addr)) (fp : List Addr), PGcd (X.blk s H scope (compEnvC scope cl C X.env) fp) G (own.map (·.2)) tg dg)
    (ht : ∀ (s : Shared) (H : Hp) (C : Addr) (cl : List (Str × Addr)) (fp : List Addr), PTsd (X.blk s H scope (compEnvC scope cl C X.env) fp) G ifs tt) (he : ∀ (s : Shared) (H : Hp) (C : Addr) (cl : List (Str × Addr)) (fp : List Addr), PEd (X.blk s H scope (compEnvC scope cl C X.env) fp) G elt de)
    (hc : X.calm = true := by rfl) (hs : ∀ x, foldedSetIterable iter X.env x = pure x := by intro _; rfl) : PXd X G (.ListComp elt [⟨tg, iter, ifs, 0⟩] scope pos) (dxLc di dg tt de (own.map (·.2))) :=
  PE.imp (pe_lc (own := own) hc hN hi (blkOk_by ok) hg ht he hs) fun σ H Q h => lc_of h
/-- name = [..] -/
theorem psd_setLc {i : Nat} {y : Str} {py spos : Pos} (hN : X.N.Nodup) (hy : X.N[i]? = some y) (hyl : X.env.scope.names.lookup y = some .local) (hsw : swapsWith (.ListComp elt [⟨tg, iter, ifs, 0⟩] scope pos) (some (.Name y py)) spos.line X.env = pure true) (hi : PId X G tg iter di) (ok : blkC X.N X.env.scope scope own = true)
    (hg : ∀ (s : Shared) (H : Hp) (C : Addr) (cl : List (Str × Addr)) (fp : List Addr), PGcd (X.blk s H scope (compEnvC scope cl C X.env) fp) G (own.map (·.2)) tg dg)
    (ht : ∀ (s : Shared) (H : Hp) (C : Addr) (cl : List (Str × Addr)) (fp : List Addr), PTsd (X.blk s H scope (compEnvC scope cl C X.env) fp) G ifs tt) (he : ∀ (s : Shared) (H : Hp) (C : Addr) (cl : List (Str × Addr)) (fp : List Addr), PEd (X.blk s H scope (compEnvC scope cl C X.env) fp) G elt de)
    (hc : X.calm = true := by rfl) (hs : ∀ x, foldedSetIterable iter X.env x = pure x := by intro _; rfl) : PSd X G (.Assign [.Name y py] (.ListComp elt [⟨tg, iter, ifs, 0⟩] scope pos) spos) (dsAsg (deX (dxLc di dg tt de (own.map (·.2)))) (dgName i)) :=
  PS.imp (ps_setLc (own := own) hc hN hy hyl hsw hi (blkOk_by ok) hg ht he hs) fun D σ H ⟨B, δ, DD, s, h, q⟩ => lc_of ⟨B, δ, _, s, h, fun p vs ds B' H' m hp ns hb hl pz r => by
    have e1 : Ex B' (upd B' p (.lst vs)) := Evl.Ex.new hb
    have e2 : Ex (upd B' p (.lst vs)) H' := fun a o h => by
      by_cases ha : a = p
      · subst ha
        rw [upd_same] at h
        rw [hl]
        exact h
      · rw [upd_ne ha] at h
        exact m.e a o h
    have mm : Fm X.K G.F B H (upd B' p (.lst vs)) H' := by
      refine ⟨m.b.trans e1, e2, fun a h1 h2 => ?_, m.f.ex e1 (fun a ha => ?_) (fun a o h => h) (nt_upd m.f.nt (fun _ z => by cases z))⟩
      · obtain ⟨h3, h4⟩ := m.o a h1 h2
        exact ⟨by rw [upd_ne (h2.nne hp)]; exact h3, h4⟩
      · have ne : a ≠ p := fun z => ns (by rw [← z]; exact ha)
        rw [upd_ne ne]
        exact (m.f.there ha).1
    exact q.nx _ _ H' _ mm.b ((s.mono mm).put (.lst upd_same (r.mono e1))) pz⟩
theorem psd_ownLc {i : Nat} {y : Str} {py spos : Pos} (hN : X.N.Nodup) (hy : X.N[i]? = some y) (hyl : X.env.scope.names.lookup y = some .local) (hsw : swapsWith (.ListComp elt [⟨tg, iter, ifs, 0⟩] scope pos) (some (.Name y py)) spos.line X.env = pure true) (hi : PId X G tg iter di) (ok : blkC X.N X.env.scope scope own = true)
    (hg : ∀ (s : Shared) (H : Hp) (C : Addr) (cl : List (Str × Addr)) (fp : List Addr), PGcd (X.blk s H scope (compEnvC scope cl C X.env) fp) G (own.map (·.2)) tg dg)
    (ht : ∀ (s : Shared) (H : Hp) (C : Addr) (cl : List (Str × Addr)) (fp : List Addr), PTsd (X.blk s H scope (compEnvC scope cl C X.env) fp) G ifs tt) (he : ∀ (s : Shared) (H : Hp) (C : Addr) (cl : List (Str × Addr)) (fp : List Addr), PEd (X.blk s H scope (compEnvC scope cl C X.env) fp) G elt de)
    (hc : X.calm = true := by rfl) (hs : ∀ x, foldedSetIterable iter X.env x = pure x := by intro _; rfl) : PSd X G (.Assign [.Name y py] (.ListComp elt [⟨tg, iter, ifs, 0⟩] scope pos) spos) (dsOwn i (dxLc di dg tt de (own.map (·.2)))) :=
  PS.imp (ps_setLc (own := own) hc hN hy hyl hsw hi (blkOk_by ok) hg ht he hs) fun D σ H ⟨B, δ, DD, s, h, q⟩ => lc_of ⟨B, δ, _, s, h, fun p vs ds B1 H1 m1 hp ns hb hl p1 r1 =>
    q.nx _ B1 H1 _ m1.b ((s.mono m1).putOwn (s.fresh0 hp ns) hb hl ns (s.own_ne hp) r1) p1⟩
end

/-! ### own lists read and changed -/
def deIxO (i : Nat) (dj : DE) : DE := fun δ P => ∃ xs, δ[i]? = some (.own xs) ∧ dj δ fun y => ∃ z, (D.lst xs).ix y = some z ∧ P z
def deLenO (i : Nat) : DE := fun δ P => ∃ xs, δ[i]? = some (.own xs) ∧ P (.int xs.length)
def dsApp (i : Nat) (de : DE) : DS := fun D δ => ∃ xs, δ[i]? = some (.own xs) ∧ de δ fun d => xs.length < 100000 ∧ D.nx (δ.set i (.own (xs ++ [d])))
def dsExt (i : Nat) (de : DE) : DS := fun D δ => ∃ xs, δ[i]? = some (.own xs) ∧ de δ fun d => ∃ ys, d = .lst ys ∧ xs.length + ys.length ≤ 100000 ∧ D.nx (δ.set i (.own (xs ++ ys)))
def dsPut (i : Nat) (dj de : DE) : DS := fun D δ => de δ fun d => ∃ xs, δ[i]? = some (.own xs) ∧ dj δ fun k => ∃ j n, k = .int j ∧ ixN xs.length j = some n ∧ D.nx (δ.set i (.own (xs.set n d)))
def dsAugO (i : Nat) (f : Int → Int → Int) (dj de : DE) : DS := fun D δ => ∃ xs, δ[i]? = some (.own xs) ∧ dj δ fun k => ∃ j n a, k = .int j ∧ 0 ≤ j ∧ j < 1000000 ∧ ixN xs.length j = some n ∧ xs[n]? = some (.int a) ∧ de δ fun y => ∃ b, y = .int b ∧ D.nx (δ.set i (.own (xs.set n (.int (f a b)))))
/-- xs[i], by values, no negative place -/
theorem get_list {X : Cx} : PGet X (fun o i H Q => ∃ (p : Addr) (xs : List V) (j : Int) (v : V), o = .ref p ∧ i = .int j ∧ 0 ≤ j ∧ j < 1000000 ∧ SqL X.K H p xs ∧ L2.atI xs j = some v ∧ Q v H) := fun pins s σ H o i ov iv Q I ro ri h => by
  obtain ⟨p, xs, j, v, rfl, rfl, h0, h1, hq, ha, q⟩ := h
  cases ro
  obtain ⟨t, rfl⟩ := ri
  obtain ⟨its, r, pl, hz⟩ := I.list hq
  obtain ⟨n, e1, e2, e3, e4, e5⟩ := atI_get ha
  obtain ⟨w, ew, rw'⟩ := r.get e2
  have hj : j.toNat = n := by
    rw [seqIndex_of h0 e5] at e1
    exact Option.some.inj e1
  exact wpAny_getItem_list pl.isList h0 (by omega) (by rw [hj]; simpa using ew) ⟨v, H, I, rw', q⟩
section
variable {X : Cx} {G : Gx} {e ei : Expr} {es : List Expr} {de dj : DE} {pos apos cpos p px : Pos} {i : Nat} {x : Str}
theorem own_same {K : PySem.W.Frag} {F : Fs} {B H B' H' : Hp} {l : Addr} {vs : List V} (m : Fm K F B H B' H') (hb : B l = none) (hl : H l = some (.lst vs)) (ns : ¬ F.S l) : B' l = none ∧ H' l = some (.lst vs) := by
  obtain ⟨h1, h2⟩ := m.o l hb (.of hl)
  exact ⟨h1, (h2 ns).trans hl⟩
theorem pd_ixO (hx : PE X (.Name x px) (tVar i)) (hj : PEd X G ei dj) (hs : PlainIx ei := by exact fun _ _ => rfl) : PEd X G (.Subscript (.Name x px) ei pos) (deIxO i dj) := PE.imp (pe_ix ix_seq hx hj hs) fun σ H Q ⟨B, δ, P, s, ⟨xs, hd, h⟩, q⟩ => by
  obtain ⟨l, vs, hi, h0, hb, hl, ra, ns⟩ := s.own hd
  refine ⟨_, hi, B, δ, _, s, h, fun y d B1 H1 m1 ⟨z, hz, p⟩ r1 => ?_⟩
  obtain ⟨hb1, hl1⟩ := own_same m1 hb hl ns
  cases d with
  | int j =>
    cases r1
    obtain ⟨v, ev, rv⟩ := (ra.mono m1.b).atI hz
    exact .inl ⟨l, vs, j, v, rfl, rfl, SqL.of hl1, ev, q _ _ B1 H1 m1 p rv⟩
  | _ => cases hz
theorem pd_lenO (hx : PE X (.Name x px) (tVar i)) (hm : X.mg "len" = none) (hg : Gl X "len" := by rfl) (he : starEach [.Name x px] X.env = (false, eval (.Name x px) X.env) :: starEach [] X.env := by rfl) (hpl : (backTo pos (starEach [] X.env)).any (·.1) = false := by rfl) :
    PEd X G (.Call (.Name "len" p) [.Name x px] [] pos) (deLenO i) := PE.imp (pe_callB call_len_seq hg hm boot_len (pa_cons hx pa_nil he) (by decide) (by decide) he hpl) fun σ H Q ⟨B, δ, P, s, ⟨xs, hd, h⟩, q⟩ => by
  obtain ⟨l, vs, hi, h0, hb, hl, ra, ns⟩ := s.own hd
  refine ⟨_, hi, l, vs, rfl, .inl (SqL.of hl), ?_⟩
  rw [ra.length]
  exact q _ _ B H s.here h (.int _)
theorem psd_app (hx : PE X (.Name x px) (tVar i)) (he : PEd X G e de) (hbase : attributeBase (.Name x px) "append" X.env (eval (.Name x px) X.env) = eval (.Name x px) X.env := by rfl)
    (hfew : ((backTo cpos (starEach [e] X.env)).all (fun x => !x.1) && (backToKw cpos (keywordEach [] X.env)).all (fun x => x.1.isSome) && decide ([e].length + ([] : List Keyword).length + (if ([] : List Keyword).isEmpty then 0 else 1) < 30)) = true := by rfl)
    (hline : (apos.endLine == cpos.line) = true := by rfl) (hs : starEach [e] X.env = (false, eval e X.env) :: starEach [] X.env := by rfl) (hplain : (backTo cpos (starEach [] X.env)).any (·.1) = false := by rfl) (hsw : swapsWith (.Call (.Attribute (.Name x px) "append" apos) [e] [] cpos) none pos.line X.env = pure false := by rfl) :
    PSd X G (.Expr (.Call (.Attribute (.Name x px) "append" apos) [e] [] cpos) pos) (dsApp i de) :=
  PS.imp (ps_expr (pe_bm PySem.F.plainAttrs_list PySem.F.slot_list_append PySem.F.type_list_append mt_append hx (pa_cons he pa_nil hs) hbase hfew hline hs hplain) hsw) fun D σ H ⟨B, δ, DD, s, ⟨xs, hd, h⟩, q⟩ => by
    obtain ⟨l, vs, hi, h0, hb, hl, ra, ns⟩ := s.own hd
    refine ⟨_, hi, .inl ⟨rfl, _, SqL.of hl⟩, B, δ, _, s, h, fun v d B1 H1 m1 ⟨hlen, p1⟩ r1 => ?_⟩
    obtain ⟨hb1, hl1⟩ := own_same m1 hb hl ns
    refine ⟨l, vs, v, rfl, rfl, hl1, by rw [ra.length]; exact size_lt hlen, q.nx _ B1 _ _ m1.b ((s.mono m1).setOwn hi hd h0 hb1 hl1 ns ((ra.mono m1.b).app (.one r1))) p1⟩
theorem psd_ext (hx : PE X (.Name x px) (tVar i)) (he : PEd X G e de) (hbase : attributeBase (.Name x px) "extend" X.env (eval (.Name x px) X.env) = eval (.Name x px) X.env := by rfl)
    (hfew : ((backTo cpos (starEach [e] X.env)).all (fun x => !x.1) && (backToKw cpos (keywordEach [] X.env)).all (fun x => x.1.isSome) && decide ([e].length + ([] : List Keyword).length + (if ([] : List Keyword).isEmpty then 0 else 1) < 30)) = true := by rfl)
    (hline : (apos.endLine == cpos.line) = true := by rfl) (hs : starEach [e] X.env = (false, eval e X.env) :: starEach [] X.env := by rfl) (hplain : (backTo cpos (starEach [] X.env)).any (·.1) = false := by rfl) (hsw : swapsWith (.Call (.Attribute (.Name x px) "extend" apos) [e] [] cpos) none pos.line X.env = pure false := by rfl) :
    PSd X G (.Expr (.Call (.Attribute (.Name x px) "extend" apos) [e] [] cpos) pos) (dsExt i de) :=
  PS.imp (ps_expr (pe_bm PySem.F.plainAttrs_list PySem.F.slot_list_extend PySem.F.type_list_extend mt_extend hx (pa_cons he pa_nil hs) hbase hfew hline hs hplain) hsw) fun D σ H ⟨B, δ, DD, s, ⟨xs, hd, h⟩, q⟩ => by
    obtain ⟨l, vs, hi, h0, hb, hl, ra, ns⟩ := s.own hd
    refine ⟨_, hi, .inl ⟨rfl, _, SqL.of hl⟩, B, δ, _, s, h, fun v d B1 H1 m1 ⟨ys, e, hlen, p1⟩ r1 => ?_⟩
    subst e
    obtain ⟨hb1, hl1⟩ := own_same m1 hb hl ns
    cases r1 with
    | lst h2 rb =>
      exact ⟨l, _, vs, _, rfl, rfl, hl1, m1.e _ _ h2, by rw [ra.length, rb.length]; exact size_ok hlen, q.nx _ B1 _ _ m1.b ((s.mono m1).setOwn hi hd h0 hb1 hl1 ns ((ra.mono m1.b).app rb)) p1⟩
theorem psd_put {tpos : Pos} (hx : PE X (.Name x px) (tVar i)) (hj : PEd X G ei dj) (he : PEd X G e de)
    (ha : ∀ v, assign (.Subscript (.Name x px) ei tpos) X.env v = (do
      let ov ← holding [v] (eval (.Name x px) X.env)
      let iv ← holding [v, ov] (eval ei X.env)
      standAt tpos
      holding [v, ov, iv] (setItem ov iv v)
      release [v, ov, iv] []) := by intro _; rfl)
    (hs : swapsWithSole [.Subscript (.Name x px) ei tpos] e pos.line X.env = pure false := by rfl) (hw : swappedStores [.Subscript (.Name x px) ei tpos] e X.env = pure none := by rfl) (h1 : (assignEach [.Subscript (.Name x px) ei tpos] X.env).map (·.2) = [assign (.Subscript (.Name x px) ei tpos) X.env] := by rfl) :
    PSd X G (.Assign [.Subscript (.Name x px) ei tpos] e pos) (dsPut i dj de) :=
  PS.imp (ps_asg he (pg_sub hx hj set_list ha) hs hw h1) fun D σ H ⟨B, δ, DD, s, h, q⟩ => ⟨B, δ, _, s, h, fun v d B1 H1 m1 ⟨xs, hd, p1⟩ r1 => by
    have s1 := s.mono m1
    obtain ⟨l, vs, hi, h0, hb, hl, ra, ns⟩ := s1.own hd
    refine ⟨_, hi, B1, δ, _, s1, p1, fun y k B2 H2 m2 ⟨j, n, e, hn, p2⟩ r2 => ?_⟩
    subst e
    cases r2
    obtain ⟨hb2, hl2⟩ := own_same m2 hb hl ns
    exact ⟨l, vs, j, n, rfl, rfl, hl2, by rw [ra.length]; exact hn, q.nx _ B2 _ _ (m1.b.trans m2.b) ((s1.mono m2).setOwn hi hd h0 hb2 hl2 ns ((ra.mono m2.b).set (r1.mono m2.b))) p2⟩⟩
theorem psd_augO {op : Operator} {f : Int → Int → Int} {tpos : Pos} (hx : PE X (.Name x px) (tVar i)) (hj : PEd X G ei dj) (ho : PIp X op (ipI f)) (he : PEd X G e de)
    (ha : ∀ ov iv new, augStore ei ov iv new = (do holding [new, ov, iv] (setItem ov iv new); release [new, ov, iv] []; pure Flow.next) := by intros; rfl) : PSd X G (.AugAssign (.Subscript (.Name x px) ei tpos) op e pos) (dsAugO i f dj de) :=
  PS.imp (ps_augS hx hj get_list he ho set_list ha) fun D σ H ⟨B, δ, DD, s, ⟨xs, hd, h⟩, q⟩ => by
    obtain ⟨l, vs, hi, h0, hb, hl, ra, ns⟩ := s.own hd
    refine ⟨_, hi, B, δ, _, s, h, fun y k B1 H1 m1 ⟨j, n, a, e, j0, j1, hn, ha, p1⟩ r1 => ?_⟩
    subst e
    cases r1
    obtain ⟨hb1, hl1⟩ := own_same m1 hb hl ns
    have ra1 := ra.mono m1.b
    have hat : L2.atI xs j = some (.int a) := by
      unfold L2.atI
      rw [hn]
      exact ha
    obtain ⟨v, ev, rv⟩ := ra1.atI hat
    cases rv
    refine ⟨l, vs, j, _, rfl, rfl, j0, j1, SqL.of hl1, ev, B1, δ, _, s.mono m1, p1, fun z d B2 H2 m2 ⟨b, e, p2⟩ r2 => ?_⟩
    subst e
    cases r2
    obtain ⟨hb2, hl2⟩ := own_same m2 hb1 hl1 ns
    exact ⟨a, b, rfl, rfl, l, vs, j, n, rfl, rfl, hl2, by rw [ra.length]; exact hn, q.nx _ B2 _ _ (m1.b.trans m2.b) (((s.mono m1).mono m2).setOwn hi hd h0 hb2 hl2 ns ((ra1.mono m2.b).set (.int _))) p2⟩
end

/-! ### defs: promises over data -/
inductive Out where
  | ret (d : D) | exc (n : Str) (d : D)
abbrev DSp := Fs → List D → (Out → Prop) → Prop
def spD (K : PySem.W.Frag) (sp : DSp) : Sp := fun vs H Q E => ∃ (F : Fs) (B : Hp) (ds : List D) (O : Out → Prop), Ex B H ∧ Fok K F B H ∧ RpA K B vs ds ∧ sp F ds O ∧
  (∀ v d B' H', Fm K F B H B' H' → O (.ret d) → Rp K B' v d → Q v H') ∧
  (∀ n d dd v B' H', O (.exc n d) → Fm K F B H B' H' → B' dd = some (.xd [(("value" : Str), v)]) → Rp K B' v d → E (.ref (He.ga K n)) (some dd) H')
/-- what is raised reaches who asked -/
def DlvX (K : PySem.W.Frag) (G : Gx) (Xc : Str → D → Prop) (E : XK) : Prop := ∀ n d dd v B' H', Xc n d → Fm K G.F G.B0 G.H0 B' H' → B' dd = some (.xd [(("value" : Str), v)]) → Rp K B' v d → E (.ref (He.ga K n)) (some dd) H'
/-- a def that may be called by its name; dn: its defaults -/
structure Cl (P : Program) (w : World) (K : PySem.W.Frag) (mg : Str → Option Value) (base : Heap) (k : Nat) (x : Str) (sp : DSp) (dn : List D) : Prop where
  ex : ∃ (f : Addr) (fd : FuncData) (ps : List Str) (ds : List Value) (dvs : List V), FnOk P w K mg base (L2.CX P w) k f fd ps (spD K sp) ∧ mg x = some (.ref f) ∧ PySem.W.keepIn K (.ref f) = true ∧ Binds K fd ps ds ∧ Vals dvs ds ∧ ∀ B, RpA K B dvs dn
def deCall (sp : DSp) (F : Fs) (Xc : Str → D → Prop) (dn : List D) (da : DA) : DE := fun δ P => da δ fun ds => sp F (ds ++ dn) fun o => match o with
  | .ret d => P d
  | .exc n d => Xc n d
def noX : Str → D → Prop := fun _ _ => False
section
variable {X : Cx} {G : Gx} {k j : Nat} {x : Str} {sp : DSp} {dn : List D} {e : Expr} {es : List Expr} {da : DA} {p pos : Pos} {Xc : Str → D → Prop} {E : XK}
theorem pd_callX (c : Cl X.prog X.w X.K X.mg X.base k x sp dn) (hr : Room j X.A) (hk : k ≤ j) (hE : DlvX X.K G Xc E) (hx : Passes (L2.CX X.prog X.w) X E) (ha : PAd X G (e :: es) da) (hg : Gl X x := by rfl) (hdb : (x == ("__debug__" : Str)) = false := by decide)
    (he : starEach (e :: es) X.env = (false, eval e X.env) :: starEach es X.env := by rfl) (hpl : (backTo pos (starEach es X.env)).any (·.1) = false := by rfl) : PEd X G (.Call (.Name x p) (e :: es) [] pos) (deCall sp G.F Xc dn da) := by
  obtain ⟨f, fd, ps, ds, dvs, F, hm, kp, hb, hv, hn⟩ := c.ex
  exact PE.imp (pe_call F (hr.mono hk) hg hm kp hb hv hx ha hdb he hpl) fun σ H Q ⟨B, δ, P, s, h, q⟩ => ⟨B, δ, _, s, h, fun vs ds B1 H1 m1 p1 r1 =>
    ⟨G.F, B1, ds ++ dn, _, m1.e, m1.f, r1.app (hn B1), p1, fun v d B' H' m2 o r => q v d B' H' (m1.trans m2) o r, fun n d dd v B' H' o m2 h1 r => hE n d dd v B' H' o (s.fm.trans (m1.trans m2)) h1 r⟩⟩
theorem pd_call (c : Cl X.prog X.w X.K X.mg X.base k x sp dn) (hr : Room j X.A) (hk : k ≤ j) (ha : PAd X G (e :: es) da) (hg : Gl X x := by rfl) (hdb : (x == ("__debug__" : Str)) = false := by decide)
    (he : starEach (e :: es) X.env = (false, eval e X.env) :: starEach es X.env := by rfl) (hpl : (backTo pos (starEach es X.env)).any (·.1) = false := by rfl) : PEd X G (.Call (.Name x p) (e :: es) [] pos) (deCall sp G.F noX dn da) :=
  pd_callX c hr hk (E := E0) (fun _ _ _ _ _ _ z => z.elim) passL ha hg hdb he hpl
end
/-- the slots at a def's entry -/
def startD (N : List Str) (ds : List D) : List Sl := ds.map .dat ++ List.replicate (N.length - ds.length) .un
theorem RpA.start {K : PySem.W.Frag} {B H : Hp} {F : Fs} {N : List Str} {vs : List V} {ds : List D} (e : Ex B H) (f : Fok K F B H) (r : RpA K B vs ds) : Stt K ⟨F, B, H⟩ (L2.start N vs) B H (startD N ds) := by
  have hl := r.length
  refine ⟨.refl e f, ?_, fun i s h => ?_, fun i j xs ys _ h1 _ => ?_⟩
  · simp [L2.start, startD, hl]
  · unfold startD at h
    unfold L2.start
    by_cases hi : i < ds.length
    · rw [List.getElem?_append_left (by simpa using hi)] at h
      rw [List.getElem?_append_left (by simpa [hl] using hi)]
      rw [List.getElem?_map] at h
      obtain ⟨d, hd⟩ : ∃ d, ds[i]? = some d := ⟨_, List.getElem?_eq_getElem hi⟩
      rw [hd] at h
      cases h
      obtain ⟨v, hv, rv⟩ := r.at hd
      exact ⟨some v, by rw [List.getElem?_map, hv]; rfl, v, rfl, rv⟩
    · have hi' : ds.length ≤ i := Nat.le_of_not_lt hi
      rw [List.getElem?_append_right (by simpa using hi')] at h
      rw [List.getElem?_append_right (by simpa [hl] using hi')]
      rw [List.getElem?_replicate] at h
      split at h
      · rename_i hlt
        cases h
        refine ⟨none, ?_, True.intro⟩
        rw [List.getElem?_replicate, if_pos (by simpa [hl] using hlt)]
      · cases h
  · unfold startD at h1
    by_cases hi : i < ds.length
    · rw [List.getElem?_append_left (by simpa using hi), List.getElem?_map, List.getElem?_eq_getElem hi] at h1
      cases h1
    · rw [List.getElem?_append_right (by simpa using Nat.le_of_not_lt hi), List.getElem?_replicate] at h1
      split at h1 <;> cases h1
section
variable {P : Program} {w : World} {K : PySem.W.Frag} {mg : Str → Option Value} {base : Heap} {x qual : Str} {params : Arguments} {body : List Stmt} {scope : Scope} {dvs : List V} {kws : List (Str × V)} {f : Addr} {fd : FuncData}
/-- a def keeps its promise, by its body over data -/
theorem fnD {N ps : List Str} {k : Nat} {sp : DSp} (F : FunD K x qual params body scope dvs kws f fd) (S : FnScope N ps scope) (len : ∀ F ds O, sp F ds O → ds.length = ps.length)
    (hbody : ∀ (cdv : Value) (A : Around) (outer : List Env) (s : Shared) (G : Gx) (E : XK) (ds : List D) (O : Out → Prop), Room k (A.deeper (envOfC qual scope s.heap.objs.size f cdv)) → sp G.F ds O → DlvX K G (fun n d => O (.exc n d)) E →
      ∃ t, PSsd (cxOf (L2.CX P w) P w K mg base N qual scope f cdv A outer s G.H0 E) G body t ∧ t { nx := fun _ => O (.ret .non), rt := fun d => O (.ret d) } (startD N ds)) : FnOk P w K mg base (L2.CX P w) (k + 1) f fd ps (spD K sp) := by
  refine F.ok S (fun vs H Q E ⟨Fs, B, ds, O, _, _, r, h, _⟩ => by rw [r.length]; exact len _ _ _ h) fun cdv A outer s H vs Q E hr ⟨Fs, B, ds, O, he, hf, r, h, q, qx⟩ => ?_
  obtain ⟨t, ht, h1⟩ := hbody cdv A outer s ⟨Fs, B, H⟩ E ds O hr h (fun n d dd v B' H' o m hd rd => qx n d dd v B' H' o m hd rd)
  exact ⟨_, ht, B, startD N ds, _, r.start he hf, h1, ⟨fun σ' B' H' δ' _ s' o => q _ _ B' H' s'.fm o .non, fun v d B' H' m o rd => q v d B' H' m o rd, fun _ _ _ _ _ _ z => z.elim, fun _ _ _ _ _ _ z => z.elim⟩⟩
/-- .. and may be called by its name -/
theorem Cl.mk' {ps : List Str} {k : Nat} {sp : DSp} {mg : Str → Option Value} (F : FunD K x qual params body scope [] kws f fd) (ok : FnOk P w K mg base (L2.CX P w) k f fd ps (spD K sp)) (hm : mg x = some (.ref f)) (hb : Binds K fd ps []) : Cl P w K mg base k x sp [] :=
  ⟨f, fd, ps, [], [], ok, hm, F.kp, hb, .nil, fun _ => .nil⟩
end
end Sd
end
-- SdExc
section
set_option Elab.async false
set_option linter.all false
set_option maxRecDepth 100000
set_option maxHeartbeats 4000000
set_option autoImplicit false
namespace Sd
open PySem PySem.Spec PyProof.Rows L2
open Evl (Ex)

/-! ### chains as tests -/
def dtChain (rd rd' : D → D → (D → Prop) → Prop) (da db dc : DE) : DT := dtV (deChain rd rd' da db dc)
section
variable {X : Cx} {G : Gx} {a b c : Expr} {da db dc : DE} {pos : Pos} {rd rd' : D → D → (D → Prop) → Prop} {r r' : R2}
theorem ptd_chain {op op' : CmpOp} (ho : OpR X (compareOp op) r) (ho' : OpR X (compareOp op') r') (sd : Snd2 X.K G.F r rd) (sd' : Snd2 X.K G.F r' rd') (ha : PEd X G a da) (hb : PEd X G b db) (hc : PEd X G c dc)
    (hm : lastMarks [op, op'] [b, c] = false := by with_unfolding_all rfl) : PTd X G (.Compare a [op, op'] [b, c] pos) (dtChain rd rd' da db dc) :=
  PT.imp (pt_chain ho ho' ha hb hc hm) fun σ H Q ⟨B, δ, P, s, h, q⟩ => by
    have key : teOf X.K G (deChain rd rd' da db dc) σ H (fun x H' => ∃ k, x = .bl k ∧ Q k H') := ⟨B, δ, _, s, h, fun v d B1 H1 m1 ⟨k, e, p⟩ r1 => by
      subst e
      cases r1
      exact ⟨k, rfl, q k B1 H1 m1 p⟩⟩
    obtain ⟨B, δ, P, s, h, q⟩ := key
    exact ⟨B, δ, _, s, h, fun x d B1 H1 m1 p1 r1 => ⟨B1, δ, _, s.mono m1, p1, fun y e B2 H2 m2 p2 r2 => sd x y d e B2 H2 _ _ m2.e m2.f (r1.mono m2.b) r2 p2 fun v z B3 H3 m3 p3 r3 => by
      obtain ⟨k, rfl, p4⟩ := p3
      cases r3
      have m13 := (m1.trans m2).trans m3
      refine ⟨k, rfl, ?_⟩
      cases k with
      | true => exact ⟨B3, δ, _, s.mono m13, p4, fun w f B4 H4 m4 p5 r5 => sd' y w e f B4 H4 P _ m4.e m4.f (r2.mono (m3.b.trans m4.b)) r5 p5 fun v z B' H' m5 p6 r6 => q v z B' H' ((m13.trans m4).trans m5) p6 r6⟩
      | false => exact q _ _ B3 H3 m13 p4 (.bl false)⟩⟩
/-! a comparison as a test -/
theorem ptd_cmp {op : CmpOp} (ho : OpR X (compareOp op) r) (sd : Snd2 X.K G.F r rd) (ha : PEd X G a da) (hb : PEd X G b db) (hm : behindInMarks op b = false) : PTd X G (.Compare a [op] [b] pos) (dtV (de2 rd da db)) :=
  PT.imp (pt_cmpR ho ha hb hm) fun σ H Q ⟨B, δ, P, s, h, q⟩ => te2 sd σ H _ ⟨B, δ, _, s, h, fun x d B1 H1 m1 ⟨k, e, p⟩ r1 => by
    subst e; cases r1
    exact ⟨k, rfl, q k B1 H1 m1 p⟩⟩
theorem ptd_lt (ha : PEd X G a da) (hb : PEd X G b db) : PTd X G (.Compare a [.Lt] [b] pos) (dtV (de2 rdLt da db)) := ptd_cmp op_lt snd_B ha hb (nomark _)
theorem ptd_le (ha : PEd X G a da) (hb : PEd X G b db) : PTd X G (.Compare a [.LtE] [b] pos) (dtV (de2 rdLe da db)) := ptd_cmp op_le snd_B ha hb (nomark _)
theorem ptd_gt (ha : PEd X G a da) (hb : PEd X G b db) : PTd X G (.Compare a [.Gt] [b] pos) (dtV (de2 rdGt da db)) := ptd_cmp op_gt snd_B ha hb (nomark _)
theorem ptd_ge (ha : PEd X G a da) (hb : PEd X G b db) : PTd X G (.Compare a [.GtE] [b] pos) (dtV (de2 rdGe da db)) := ptd_cmp op_ge snd_B ha hb (nomark _)
theorem ptd_eq (hu : X.A.units + 64 < cLine) (ha : PEd X G a da) (hb : PEd X G b db) : PTd X G (.Compare a [.Eq] [b] pos) (dtV (de2 rdEq da db)) :=
  ptd_cmp (op_eqD hu) (fun x y d e B H P Q he hf rx ry ⟨h1, h2, p⟩ q => by
    have p1 := Bool.and_eq_true_iff.mp h1
    have p2 := Bool.and_eq_true_iff.mp h2
    exact ⟨d.py, e.py, dp_ex he (rx.dp p1.1), dp_ex he (ry.dp p2.1), p1.2, p2.2, q _ _ B H (.refl he hf) p (.bl _)⟩) ha hb (nomark _)
theorem ptd_ne (hu : X.A.units + 64 < cLine) (ha : PEd X G a da) (hb : PEd X G b db) : PTd X G (.Compare a [.NotEq] [b] pos) (dtV (de2 rdNe da db)) :=
  ptd_cmp (op_neD hu) (fun x y d e B H P Q he hf rx ry ⟨h1, h2, p⟩ q => by
    have p1 := Bool.and_eq_true_iff.mp h1
    have p2 := Bool.and_eq_true_iff.mp h2
    exact ⟨d.py, e.py, dp_ex he (rx.dp p1.1), dp_ex he (ry.dp p2.1), p1.2, p2.2, q _ _ B H (.refl he hf) p (.bl _)⟩) ha hb (nomark _)
theorem ptd_isN (ha : PEd X G a da) (hb : PEd X G b db) : PTd X G (.Compare a [.Is] [b] pos) (dtV (de2 rdIsN da db)) :=
  ptd_cmp op_isN (fun x y d e B H P Q he hf rx ry ⟨h1, h2, p⟩ q => by
    subst h1; cases ry
    refine ⟨rfl, ?_⟩
    rw [rx.isNon h2]
    exact q _ _ B H (.refl he hf) p (.bl _)) ha hb (nomark _)
theorem ptd_notN (ha : PEd X G a da) (hb : PEd X G b db) : PTd X G (.Compare a [.IsNot] [b] pos) (dtV (de2 rdNotN da db)) :=
  ptd_cmp op_notN (fun x y d e B H P Q he hf rx ry ⟨h1, h2, p⟩ q => by
    subst h1; cases ry
    refine ⟨rfl, ?_⟩
    rw [rx.isNon h2]
    exact q _ _ B H (.refl he hf) p (.bl _)) ha hb (nomark _)
theorem ptd_isB (ha : PEd X G a da) (hb : PEd X G b db) : PTd X G (.Compare a [.Is] [b] pos) (dtV (de2 rdIsB da db)) :=
  ptd_cmp op_isBl (fun x y d e B H P Q he hf rx ry ⟨i, j, h1, h2, p⟩ q => by
    subst h1; subst h2; cases rx; cases ry
    exact ⟨i, j, rfl, rfl, q _ _ B H (.refl he hf) p (.bl _)⟩) ha hb (nomark _)
theorem ptd_notB (ha : PEd X G a da) (hb : PEd X G b db) : PTd X G (.Compare a [.IsNot] [b] pos) (dtV (de2 rdNotB da db)) :=
  ptd_cmp op_notBl (fun x y d e B H P Q he hf rx ry ⟨i, j, h1, h2, p⟩ q => by
    subst h1; subst h2; cases rx; cases ry
    exact ⟨i, j, rfl, rfl, q _ _ B H (.refl he hf) p (.bl _)⟩) ha hb (nomark _)
theorem ptd_lele (ha : PEd X G a da) (hb : PEd X G b db) (hc : PEd X G c dc) (hm : lastMarks [CmpOp.LtE, CmpOp.LtE] [b, c] = false := by with_unfolding_all rfl) : PTd X G (.Compare a [.LtE, .LtE] [b, c] pos) (dtChain rdLe rdLe da db dc) := ptd_chain op_le op_le snd_B snd_B ha hb hc hm
theorem ptd_lelt (ha : PEd X G a da) (hb : PEd X G b db) (hc : PEd X G c dc) (hm : lastMarks [CmpOp.LtE, CmpOp.Lt] [b, c] = false := by with_unfolding_all rfl) : PTd X G (.Compare a [.LtE, .Lt] [b, c] pos) (dtChain rdLe rdLt da db dc) := ptd_chain op_le op_lt snd_B snd_B ha hb hc hm
theorem ptd_ltle (ha : PEd X G a da) (hb : PEd X G b db) (hc : PEd X G c dc) (hm : lastMarks [CmpOp.Lt, CmpOp.LtE] [b, c] = false := by with_unfolding_all rfl) : PTd X G (.Compare a [.Lt, .LtE] [b, c] pos) (dtChain rdLt rdLe da db dc) := ptd_chain op_lt op_le snd_B snd_B ha hb hc hm
end

/-! ### the package's errors: a class over SeatError, whose __init__ keeps the value -/
/-- a look at an error's class -/
def exKB (K : PySem.W.Frag) (C : Addr) : Bool := match K.lookup C with
  | some ⟨.type t, _, .cls cd, sl⟩ => t == "type" && (match cd.mro, sl.toList with
    | .ref C' :: bm, [_, _, _, _, some (.builtin n), _] => C' == C && n == "ValueError.__new__" && cd.hasDict && !cd.hasDel && PySem.HandSPX.refsVE bm
    | _, _ => false)
  | _ => false
theorem exKB_ok {K : PySem.W.Frag} {C : Addr} (q : exKB K C = true) : ∃ nm q N bs bm sn sub ab col dd k0 k1 k2 k3 k5, K.lookup C = some (excClassObj nm q C N bs bm true sn sub ab col dd k0 k1 k2 k3 k5 "ValueError.__new__") ∧ PySem.HandSPX.refsVE bm = true := by
  unfold exKB at q
  split at q
  · rename_i t dd cd sl ho
    have q' := Bool.and_eq_true_iff.mp q
    have ht : t = "type" := by simpa using q'.1
    subst ht
    have q := q'.2
    split at q
    · rename_i C' bm k0 k1 k2 k3 n k5 hm hs
      simp only [Bool.and_eq_true, beq_iff_eq, Bool.not_eq_true'] at q
      obtain ⟨⟨⟨⟨rfl, rfl⟩, hd⟩, hdel⟩, hv⟩ := q
      obtain ⟨nm, bs, mro, ns, qn, hd', sn, sub, ab, col, del⟩ := cd
      dsimp only at hm hdel hd
      subst hm hdel hd
      have hsl : sl = #[k0, k1, k2, k3, some (.builtin "ValueError.__new__"), k5] := by
        obtain ⟨l⟩ := sl
        simp only at hs
        rw [hs]
      subst hsl
      exact ⟨nm, qn, ns, bs, bm, sn, sub, ab, col, dd, k0, k1, k2, k3, k5, ho, hv⟩
    · cases q
  · cases q
/-- what is looked at of an error's class: it is over ValueError, its __init__ is SeatError's, it may be made, raised, caught, read -/
def errB (K : PySem.W.Frag) (n : Str) : Bool :=
  exKB K (He.ga K n) && decide (PySem.W.findIn K (.ref (He.ga K n)) "__setattr__" = some (some (.builtin "object.__setattr__"))) && decide (PySem.W.subIn K (.ref (He.ga K n)) (.type "BaseException") = some true) && decide (PySem.W.typeIn K (.ref (He.ga K n)) = some (.type "type")) &&
  PySem.W.keepIn K (.ref (He.ga K n)) && decide (PySem.W.findIn K (.ref (He.ga K n)) "__init__" = some (some (.ref (He.fAd K ("SeatError", some "__init__"))))) && decide (PySem.W.typeIn K (.ref (He.fAd K ("SeatError", some "__init__"))) = some (.type "function")) &&
  decide (PySem.W.findIn K (.ref (He.ga K n)) "value" = some none) && decide (PySem.W.nsIn K mainGlobals n = some (some (.ref (He.ga K n)))) && xfB K (He.ga K n)
structure ErrF (K : PySem.W.Frag) (n : Str) : Prop where
  oex : OexC K (He.ga K n)
  iC : PySem.W.findIn K (.ref (He.ga K n)) "__init__" = some (some (.ref (He.fAd K ("SeatError", some "__init__"))))
  tI : PySem.W.typeIn K (.ref (He.fAd K ("SeatError", some "__init__"))) = some (.type "function")
  noV : PySem.W.findIn K (.ref (He.ga K n)) "value" = some none
  glo : PySem.W.nsIn K mainGlobals n = some (some (.ref (He.ga K n)))
  xf : XfC K (He.ga K n)
theorem errB_ok {K : PySem.W.Frag} {n : Str} (h : errB K n = true) : ErrF K n := by
  unfold errB at h
  simp only [Bool.and_eq_true, decide_eq_true_eq] at h
  obtain ⟨⟨⟨⟨⟨⟨⟨⟨⟨h1, h2⟩, h3⟩, h4⟩, h5⟩, h6⟩, h7⟩, h8⟩, h9⟩, h10⟩ := h
  exact ⟨⟨exKB_ok h1, h2, h3, h4, h5⟩, h6, h7, h8, h9, xfB_ok h10⟩
/-- self.value = value -/
def spErr (K : PySem.W.Frag) : Sp := fun vs H Q _ => ∃ (a C : Addr) (v : V), vs = [.ref a, v] ∧ OexC K C ∧ PySem.W.findIn K (.ref C) "value" = some none ∧ H a = some (exo a C none) ∧
  ∀ dx, H dx = none → dx ≠ a → Q .non (upd (upd H dx (exd dx [(("value" : Str), v)])) a (exo a C (some dx)))
/-- errors that may be raised -/
structure Er (P : Program) (w : World) (K : PySem.W.Frag) (mg : Str → Option Value) (base : Heap) (k : Nat) (n : Str) : Prop where
  f : ErrF K n
  g : mg n = some (.ref (He.ga K n))
  ex : ∃ (fd : FuncData) (ds : List Value), FnOk P w K mg base (L2.CX P w) k (He.fAd K ("SeatError", some "__init__")) fd ["self", "value"] (spErr K) ∧ Binds K fd ["self", "value"] [] ∧ Binds K fd ["self", "value"] [.none]
def dsRaise (n : Str) (Xc : Str → D → Prop) (da : DA) : DS := fun _ δ => da δ fun ds => ∃ d, ds = [d] ∧ Xc n d
theorem raise_heap {H : Hp} {a C dx : Addr} {v : V} (ha : H a = none) (hx : dx ≠ a) :
    upd (del (upd (upd (upd H a (exo a C none)) dx (exd dx [(("value" : Str), v)])) a (exo a C (some dx))) a) dx (.xd [(("value" : Str), v)]) = upd H dx (.xd [(("value" : Str), v)]) := by
  funext b
  by_cases hb : b = dx
  · subst hb
    rw [upd_same, upd_same]
  · rw [upd_ne hb, upd_ne hb]
    by_cases hb2 : b = a
    · subst hb2
      rw [del_same, ha]
    · rw [del_ne hb2, upd_ne hb2, upd_ne hb, upd_ne hb2]
section
variable {X : Cx} {G : Gx} {k j : Nat} {n : Str} {e : Expr} {da : DA} {p pos pos2 : Pos} {Xc : Str → D → Prop} {E : XK}
theorem psd_raise (x : Er X.prog X.w X.K X.mg X.base k n) (hr : Room j X.A) (hE : DlvX X.K G Xc E) (tk : Takes X (fun cls d _ H => E cls d H)) (ha : PAd X G [e] da) (hk : k + 1 ≤ j := by decide) (hc : X.calm = true := by rfl) (hg : Gl X n := by rfl) (hdb : (n == ("__debug__" : Str)) = false := by decide)
    (he : starEach [e] X.env = (false, eval e X.env) :: starEach [] X.env := by rfl) (hpl : (backTo pos (starEach [] X.env)).any (·.1) = false := by rfl) : PSd X G (.Raise (some (.Call (.Name n p) [e] [] pos)) none pos2) (dsRaise n Xc da) := by
  obtain ⟨fd, ds, FI, bI, _⟩ := x.ex
  exact PS.imp (ps_raise hc tk (pmk_oex x.f.oex x.f.iC x.f.tI FI (hr.mono hk) bI .nil passL hg x.g ha hdb he hpl)) fun D σ H ⟨B, δ, DD, s, h, q⟩ => ⟨B, δ, _, s, h, fun vs ds B1 H1 m1 ⟨d, ed, p1⟩ r1 => by
    subst ed
    cases r1 with
    | cons rv rn =>
      cases rn
      rename_i v
      refine ⟨by show 1 ≤ 1000; decide, fun a ha => ⟨a, He.ga X.K n, v, rfl, x.f.oex, x.f.noV, upd_same, fun dx hdx hne => ⟨rfl, dx, [(("value" : Str), v)], upd_same, by rw [upd_ne hne, upd_same], ?_, ?_⟩⟩⟩
      · rw [upd_ne hne] at hdx
        exact hdx
      · rw [upd_ne hne] at hdx
        rw [raise_heap ha hne]
        have m2 := Fm.new (o := .xd [(("value" : Str), v)]) m1.e m1.f hdx
        exact hE n d dx v _ _ p1 ((s.fm.trans m1).trans m2) upd_same (rv.mono m2.b)⟩
end
end Sd
end
-- SdLib
section
set_option Elab.async false
set_option linter.all false
set_option maxRecDepth 100000
set_option maxHeartbeats 4000000
set_option autoImplicit false
namespace Sd
open PySem PySem.Spec PyProof.Rows L2

/-! ### loops and comprehensions, by what they do -/
theorem for_of {di : DI} {g : DG} {t : DS} {D : DEnds} {δ : List Sl} (xs : List Sd.D) (J : Nat → List Sl → Prop) (h : ∀ P : List Sd.D → Prop, P xs → di δ P) (h0 : J 0 δ)
    (hs : ∀ i x δ', xs[i]? = some x → J i δ' → g x δ' fun δ2 => t { D with nx := J (i + 1), ct := J (i + 1), bk := D.nx } δ2) (hd : ∀ δ', J xs.length δ' → D.nx δ') : dsFor di g t D δ := h _ ⟨J, h0, hs, hd⟩
theorem while_of {c : DT} {t : DS} {D : DEnds} {δ : List Sl} (J : Nat → List Sl → Prop) (m : Nat) (h0 : J m δ)
    (hs : ∀ m δ', J m δ' → c δ' fun b => if b = true then t { D with nx := fun δ2 => ∃ m', m' < m ∧ J m' δ2, ct := fun δ2 => ∃ m', m' < m ∧ J m' δ2, bk := D.nx } δ' else D.nx δ') : dsWhile c t D δ := ⟨J, ⟨m, h0⟩, hs⟩
section
variable {di : DI} {g : DG} {tt : DT} {te : DE} {own : List Nat} {δ : List Sl} {P : List D → Prop}
theorem lc_inv (xs : List D) (J : Nat → List D → Prop) (h : ∀ P : List D → Prop, P xs → di δ P) (hl : xs.length ≤ 100000) (h0 : J 0 [])
    (hs : ∀ i x acc, xs[i]? = some x → J i acc → acc.length ≤ i → g x (wipeD δ own) fun δ2 => tt δ2 fun b => if b = true then te δ2 fun y => J (i + 1) (acc ++ [y]) else J (i + 1) acc) (hd : ∀ acc, J xs.length acc → P acc) : dxLc di g tt te own δ P := h _ ⟨hl, J, h0, hs, hd⟩
theorem take_snoc {α : Type} {l : List α} {i : Nat} {x : α} (h : l[i]? = some x) : l.take (i + 1) = l.take i ++ [x] := by
  rw [List.take_succ, h]
  rfl
theorem lc_filter (xs : List D) (f : D → D) (p : D → Bool) (h : ∀ P : List D → Prop, P xs → di δ P) (hl : xs.length ≤ 100000)
    (hs : ∀ x ∈ xs, ∀ (R1 : D → Prop) (R2 : Prop), (p x = true → R1 (f x)) → (p x = false → R2) → g x (wipeD δ own) fun δ2 => tt δ2 fun b => if b = true then te δ2 R1 else R2) (hp : P ((xs.filter p).map f)) : dxLc di g tt te own δ P := by
  refine lc_inv xs (fun i acc => acc = ((xs.take i).filter p).map f) h hl (by simp) (fun i x acc hx hj _ => ?_) (fun acc hj => ?_)
  · have hm : x ∈ xs := List.mem_of_getElem? hx
    refine hs x hm _ _ (fun hpx => ?_) (fun hpx => ?_)
    · rw [hj, take_snoc hx, List.filter_append, List.map_append]
      simp [hpx]
    · rw [hj, take_snoc hx, List.filter_append, List.map_append]
      simp [hpx]
  · rw [List.take_length] at hj
    rw [hj]
    exact hp
theorem lc_map (xs : List D) (f : D → D) (h : ∀ P : List D → Prop, P xs → di δ P) (hl : xs.length ≤ 100000)
    (hs : ∀ x ∈ xs, ∀ R : D → Prop, R (f x) → g x (wipeD δ own) fun δ2 => te δ2 R) (hp : P (xs.map f)) : dxLc di g dtYes te own δ P := by
  refine lc_inv xs (fun i acc => acc = (xs.take i).map f) h hl (by simp) (fun i x acc hx hj _ => ?_) (fun acc hj => ?_)
  · refine hs x (List.mem_of_getElem? hx) _ ?_
    rw [hj, take_snoc hx, List.map_append]
    rfl
  · rw [List.take_length] at hj
    rw [hj]
    exact hp
theorem lc_any (xs : List D) (A : D → Prop) (h : ∀ P : List D → Prop, P xs → di δ P) (hl : xs.length ≤ 100000)
    (hs : ∀ x ∈ xs, ∀ R : D → Prop, (∀ y, A y → R y) → g x (wipeD δ own) fun δ2 => te δ2 R) (hp : ∀ ys, ys.length = xs.length → (∀ y ∈ ys, A y) → P ys) : dxLc di g dtYes te own δ P := by
  refine lc_inv xs (fun i acc => acc.length = i ∧ ∀ y ∈ acc, A y) h hl ⟨rfl, by simp⟩ (fun i x acc hx ⟨h1, h2⟩ _ => ?_) (fun acc ⟨h1, h2⟩ => hp acc h1 h2)
  refine hs x (List.mem_of_getElem? hx) _ fun y hy => ?_
  refine ⟨by rw [List.length_append, h1]; rfl, fun z hz => ?_⟩
  rcases List.mem_append.mp hz with q | q
  · exact h2 z q
  · rw [List.mem_singleton.mp q]
    exact hy
end

/-! typed lists -/
theorem zipD_map {α β : Type} (dx : α → D) (dy : β → D) : ∀ (xs : List α) (ys : List β), zipD (xs.map dx) (ys.map dy) = (xs.zip ys).map fun p => .tup [dx p.1, dy p.2]
  | [], ys => by simp [zipD]
  | _ :: _, [] => by simp [zipD]
  | x :: xs, y :: ys => by simp [zipD, zipD_map dx dy xs ys]
theorem enumD_map {α : Type} (dx : α → D) : ∀ (xs : List α) (k : Nat), enumD (k : Int) (xs.map dx) = (xs.zipIdx k).map fun p => .tup [.int (p.2 : Int), dx p.1]
  | [], k => by simp [enumD]
  | x :: xs, k => by
    have ih := enumD_map dx xs (k + 1)
    rw [Int.natCast_add] at ih
    simp only [List.map_cons, enumD, List.zipIdx_cons]
    exact congrArg _ ih
theorem enumD_map0 {α : Type} (dx : α → D) (xs : List α) : enumD 0 (xs.map dx) = xs.zipIdx.map fun p => .tup [.int (p.2 : Int), dx p.1] := enumD_map dx xs 0
theorem enumD_id (xs : List D) : enumD 0 xs = xs.zipIdx.map fun p => .tup [.int (p.2 : Int), p.1] := by
  have := enumD_map0 id xs
  rw [List.map_id] at this
  exact this
theorem rngD_eq (n : Nat) (lo : Int) : rngD lo n = (List.range n).map fun i => .int (lo + (i : Int)) := by
  apply List.ext_getElem?
  intro k
  by_cases h : k < n
  · rw [rngD_at n lo k h]
    simp [h]
  · rw [List.getElem?_eq_none (by rw [rngD_length]; omega), List.getElem?_eq_none (by simp; omega)]
theorem rngD_0 (n : Nat) : rngD 0 n = (List.range n).map fun i => .int (i : Int) := by
  rw [rngD_eq]
  simp
theorem map_idD (xs : List D) : xs = xs.map id := by simp
theorem for_on {α : Type} {di : DI} {g : DG} {t : DS} {D : DEnds} {δ : List Sl} (xs : List α) (dx : α → Sd.D) (J : Nat → List Sl → Prop) (h : ∀ P : List Sd.D → Prop, P (xs.map dx) → di δ P) (h0 : J 0 δ)
    (hs : ∀ i x δ', xs[i]? = some x → J i δ' → g (dx x) δ' fun δ2 => t { D with nx := J (i + 1), ct := J (i + 1), bk := D.nx } δ2) (hd : ∀ δ', J xs.length δ' → D.nx δ') : dsFor di g t D δ := by
  refine for_of (xs.map dx) J h h0 (fun i x δ' hx hj => ?_) (fun δ' hj => hd δ' (by rwa [List.length_map] at hj))
  rw [List.getElem?_map, Option.map_eq_some_iff] at hx
  obtain ⟨y, hy, rfl⟩ := hx
  exact hs i y δ' hy hj
section
variable {α : Type} {di : DI} {g : DG} {tt : DT} {te : DE} {own : List Nat} {δ : List Sl} {P : List D → Prop}
theorem lc_on (xs : List α) (dx : α → D) (f : α → D) (h : ∀ P : List D → Prop, P (xs.map dx) → di δ P) (hl : xs.length ≤ 100000)
    (hs : ∀ x ∈ xs, ∀ R : D → Prop, R (f x) → g (dx x) (wipeD δ own) fun δ2 => te δ2 R) (hp : P (xs.map f)) : dxLc di g dtYes te own δ P := by
  refine lc_inv (xs.map dx) (fun i acc => acc = (xs.take i).map f) h (by rwa [List.length_map]) (by simp) (fun i x acc hx hj _ => ?_) (fun acc hj => ?_)
  · rw [List.getElem?_map, Option.map_eq_some_iff] at hx
    obtain ⟨y, hy, rfl⟩ := hx
    refine hs y (List.mem_of_getElem? hy) _ ?_
    rw [hj, take_snoc hy, List.map_append]
    rfl
  · rw [List.length_map, List.take_length] at hj
    rw [hj]
    exact hp
theorem lc_onF (xs : List α) (dx : α → D) (f : α → D) (p : α → Bool) (h : ∀ P : List D → Prop, P (xs.map dx) → di δ P) (hl : xs.length ≤ 100000)
    (hs : ∀ x ∈ xs, ∀ (R1 : D → Prop) (R2 : Prop), (p x = true → R1 (f x)) → (p x = false → R2) → g (dx x) (wipeD δ own) fun δ2 => tt δ2 fun b => if b = true then te δ2 R1 else R2) (hp : P ((xs.filter p).map f)) : dxLc di g tt te own δ P := by
  refine lc_inv (xs.map dx) (fun i acc => acc = ((xs.take i).filter p).map f) h (by rwa [List.length_map]) (by simp) (fun i x acc hx hj _ => ?_) (fun acc hj => ?_)
  · rw [List.getElem?_map, Option.map_eq_some_iff] at hx
    obtain ⟨y, hy, rfl⟩ := hx
    refine hs y (List.mem_of_getElem? hy) _ _ (fun hpx => ?_) (fun hpx => ?_)
    · rw [hj, take_snoc hy, List.filter_append, List.map_append]
      simp [hpx]
    · rw [hj, take_snoc hy, List.filter_append, List.map_append]
      simp [hpx]
  · rw [List.length_map, List.take_length] at hj
    rw [hj]
    exact hp
/-- values that are not known, but kept by a property -/
theorem lc_onA {β : Type} (xs : List α) (dx : α → D) (db : β → D) (A : α → β → Prop) (h : ∀ P : List D → Prop, P (xs.map dx) → di δ P) (hl : xs.length ≤ 100000)
    (hs : ∀ x ∈ xs, ∀ R : D → Prop, (∀ y, A x y → R (db y)) → g (dx x) (wipeD δ own) fun δ2 => te δ2 R) (hp : ∀ ys : List β, ys.length = xs.length → (∀ (i : Nat) (x : α) (y : β), xs[i]? = some x → ys[i]? = some y → A x y) → P (ys.map db)) : dxLc di g dtYes te own δ P := by
  refine lc_inv (xs.map dx) (fun i acc => ∃ ys : List β, acc = ys.map db ∧ ys.length = i ∧ ∀ (j : Nat) (x : α) (y : β), xs[j]? = some x → ys[j]? = some y → A x y) h (by rwa [List.length_map]) ⟨[], rfl, rfl, by simp⟩ (fun i x acc hx hj _ => ?_) (fun acc hj => ?_)
  · rw [List.getElem?_map, Option.map_eq_some_iff] at hx
    obtain ⟨z, hz, rfl⟩ := hx
    obtain ⟨ys, rfl, hy, ha⟩ := hj
    refine hs z (List.mem_of_getElem? hz) _ fun y hxy => ⟨ys ++ [y], by simp, by simp [hy], fun j x' y' h1 h2 => ?_⟩
    rw [List.getElem?_append] at h2
    split at h2
    · exact ha j x' y' h1 h2
    · rename_i hj
      have hj' : j = i := by
        have := (List.getElem?_eq_some_iff.mp h2).1
        simp at this
        omega
      subst hj'
      rw [h1] at hz
      cases hz
      rw [hy, Nat.sub_self] at h2
      cases h2
      exact hxy
  · obtain ⟨ys, rfl, hy, ha⟩ := hj
    exact hp ys (by rw [hy, List.length_map]) ha
end

theorem cut_map {α β : Type} (f : α → β) (xs : List α) (lo hi : Option Int) : cut (xs.map f) lo hi = (cut xs lo hi).map f := by
  unfold cut
  rw [List.length_map, List.map_take, List.map_drop]
/-! the same, where the iteration is already read -/
def lcB (xs : List D) (g : DG) (tt : DT) (te : DE) (own : List Nat) (δ : List Sl) (P : List D → Prop) : Prop := xs.length ≤ 100000 ∧ ∃ J : Nat → List D → Prop, J 0 [] ∧
  (∀ i x acc, xs[i]? = some x → J i acc → acc.length ≤ i → g x (wipeD δ own) fun δ2 => tt δ2 fun b => if b = true then te δ2 fun y => J (i + 1) (acc ++ [y]) else J (i + 1) acc) ∧ ∀ acc, J xs.length acc → P acc
theorem dxLc_eq (di : DI) (g : DG) (tt : DT) (te : DE) (own : List Nat) (δ : List Sl) (P : List D → Prop) : dxLc di g tt te own δ P = di δ fun xs => lcB xs g tt te own δ P := rfl
def fbB (xs : List D) (g : DG) (t : DS) (D : DEnds) (δ : List Sl) : Prop := ∃ J : Nat → List Sl → Prop, J 0 δ ∧
  (∀ i x δ', xs[i]? = some x → J i δ' → g x δ' fun δ2 => t { D with nx := J (i + 1), ct := J (i + 1), bk := D.nx } δ2) ∧ ∀ δ', J xs.length δ' → D.nx δ'
theorem dsFor_eq (di : DI) (g : DG) (t : DS) (D : DEnds) (δ : List Sl) : dsFor di g t D δ = di δ fun xs => fbB xs g t D δ := rfl
theorem dsWhile_eq (c : DT) (t : DS) (D : DEnds) (δ : List Sl) : dsWhile c t D δ = (∃ J : Nat → List Sl → Prop, (∃ m, J m δ) ∧ ∀ m δ', J m δ' →
  c δ' fun b => if b = true then t { D with nx := fun δ2 => ∃ m', m' < m ∧ J m' δ2, ct := fun δ2 => ∃ m', m' < m ∧ J m' δ2, bk := D.nx } δ' else D.nx δ') := rfl
theorem fb_on {α : Type} {g : DG} {t : DS} {D : DEnds} {δ : List Sl} {dx : α → Sd.D} (xs : List α) (J : Nat → List Sl → Prop) (h0 : J 0 δ)
    (hs : ∀ i x δ', xs[i]? = some x → J i δ' → g (dx x) δ' fun δ2 => t { D with nx := J (i + 1), ct := J (i + 1), bk := D.nx } δ2) (hd : ∀ δ', J xs.length δ' → D.nx δ') : fbB (xs.map dx) g t D δ :=
  for_on (di := fun _ P => P (xs.map dx)) xs dx J (fun _ p => p) h0 hs hd
section
variable {α : Type} {g : DG} {tt : DT} {te : DE} {own : List Nat} {δ : List Sl} {P : List D → Prop} {dx : α → D}
theorem lb_inv (xs : List α) (J : Nat → List D → Prop) (hl : xs.length ≤ 100000) (h0 : J 0 [])
    (hs : ∀ i x acc, xs[i]? = some x → J i acc → acc.length ≤ i → g (dx x) (wipeD δ own) fun δ2 => tt δ2 fun b => if b = true then te δ2 fun y => J (i + 1) (acc ++ [y]) else J (i + 1) acc) (hd : ∀ acc, J xs.length acc → P acc) : lcB (xs.map dx) g tt te own δ P := by
  refine ⟨by rwa [List.length_map], J, h0, fun i x acc hx hj hl => ?_, fun acc hj => hd acc (by rwa [List.length_map] at hj)⟩
  rw [List.getElem?_map, Option.map_eq_some_iff] at hx
  obtain ⟨y, hy, rfl⟩ := hx
  exact hs i y acc hy hj hl
theorem lb_on (xs : List α) (f : α → D) (hl : xs.length ≤ 100000)
    (hs : ∀ x ∈ xs, ∀ R : D → Prop, R (f x) → g (dx x) (wipeD δ own) fun δ2 => te δ2 R) (hp : P (xs.map f)) : lcB (xs.map dx) g dtYes te own δ P := lc_on (di := fun _ P => P (xs.map dx)) xs dx f (fun _ p => p) hl hs hp
theorem lb_onF (xs : List α) (f : α → D) (p : α → Bool) (hl : xs.length ≤ 100000)
    (hs : ∀ x ∈ xs, ∀ (R1 : D → Prop) (R2 : Prop), (p x = true → R1 (f x)) → (p x = false → R2) → g (dx x) (wipeD δ own) fun δ2 => tt δ2 fun b => if b = true then te δ2 R1 else R2) (hp : P ((xs.filter p).map f)) : lcB (xs.map dx) g tt te own δ P := lc_onF (di := fun _ P => P (xs.map dx)) xs dx f p (fun _ p => p) hl hs hp
theorem lb_onA {β : Type} (xs : List α) (db : β → D) (A : α → β → Prop) (hl : xs.length ≤ 100000)
    (hs : ∀ x ∈ xs, ∀ R : D → Prop, (∀ y, A x y → R (db y)) → g (dx x) (wipeD δ own) fun δ2 => te δ2 R) (hp : ∀ ys : List β, ys.length = xs.length → (∀ (i : Nat) (x : α) (y : β), xs[i]? = some x → ys[i]? = some y → A x y) → P (ys.map db)) : lcB (xs.map dx) g dtYes te own δ P := lc_onA (di := fun _ P => P (xs.map dx)) xs dx db A (fun _ p => p) hl hs hp
end
theorem ix_of {d : D} {xs : List D} (h : d.seq = some xs) (i : Int) : d.ix (.int i) = L2.atI xs i := by
  cases d <;> cases h <;> rfl
theorem range_at {n k x : Nat} (h : (List.range n)[k]? = some x) : k < n ∧ x = k := by
  obtain ⟨h1, h2⟩ := List.getElem?_eq_some_iff.mp h
  simp at h1 h2
  exact ⟨h1, h2.symm⟩
/-! ### looks at data -/
theorem qty_non  : D.non.ty.isSome = true := rfl
theorem qisI_non  : D.non.isI = false := rfl
theorem qisB_non  : D.non.isB = false := rfl
theorem qisL_non  : D.non.isL = false := rfl
theorem qisU_non  : D.non.isU = false := rfl
theorem qisS_non  : D.non.isS = false := rfl
theorem qisD_non  : D.non.isD = false := rfl
theorem qisNon_non  : D.non.isNon = true := rfl
theorem qcooked_non  : D.non.cooked = true := rfl
theorem qseq_non  : D.non.seq = none := rfl
theorem qty_bl (b : Bool) : (D.bl b).ty.isSome = true := rfl
theorem qisI_bl (b : Bool) : (D.bl b).isI = true := rfl
theorem qisB_bl (b : Bool) : (D.bl b).isB = true := rfl
theorem qisL_bl (b : Bool) : (D.bl b).isL = false := rfl
theorem qisU_bl (b : Bool) : (D.bl b).isU = false := rfl
theorem qisS_bl (b : Bool) : (D.bl b).isS = false := rfl
theorem qisD_bl (b : Bool) : (D.bl b).isD = false := rfl
theorem qisNon_bl (b : Bool) : (D.bl b).isNon = false := rfl
theorem qcooked_bl (b : Bool) : (D.bl b).cooked = true := rfl
theorem qseq_bl (b : Bool) : (D.bl b).seq = none := rfl
theorem qty_int (i : Int) : (D.int i).ty.isSome = true := rfl
theorem qisI_int (i : Int) : (D.int i).isI = true := rfl
theorem qisB_int (i : Int) : (D.int i).isB = false := rfl
theorem qisL_int (i : Int) : (D.int i).isL = false := rfl
theorem qisU_int (i : Int) : (D.int i).isU = false := rfl
theorem qisS_int (i : Int) : (D.int i).isS = false := rfl
theorem qisD_int (i : Int) : (D.int i).isD = false := rfl
theorem qisNon_int (i : Int) : (D.int i).isNon = false := rfl
theorem qcooked_int (i : Int) : (D.int i).cooked = true := rfl
theorem qseq_int (i : Int) : (D.int i).seq = none := rfl
theorem qty_str (z : Str) : (D.str z).ty.isSome = true := rfl
theorem qisI_str (z : Str) : (D.str z).isI = false := rfl
theorem qisB_str (z : Str) : (D.str z).isB = false := rfl
theorem qisL_str (z : Str) : (D.str z).isL = false := rfl
theorem qisU_str (z : Str) : (D.str z).isU = false := rfl
theorem qisS_str (z : Str) : (D.str z).isS = true := rfl
theorem qisD_str (z : Str) : (D.str z).isD = false := rfl
theorem qisNon_str (z : Str) : (D.str z).isNon = false := rfl
theorem qcooked_str (z : Str) : (D.str z).cooked = true := rfl
theorem qseq_str (z : Str) : (D.str z).seq = none := rfl
theorem qty_lst (xs : List D) : (D.lst xs).ty.isSome = true := rfl
theorem qisI_lst (xs : List D) : (D.lst xs).isI = false := rfl
theorem qisB_lst (xs : List D) : (D.lst xs).isB = false := rfl
theorem qisL_lst (xs : List D) : (D.lst xs).isL = true := rfl
theorem qisU_lst (xs : List D) : (D.lst xs).isU = false := rfl
theorem qisS_lst (xs : List D) : (D.lst xs).isS = false := rfl
theorem qisD_lst (xs : List D) : (D.lst xs).isD = false := rfl
theorem qisNon_lst (xs : List D) : (D.lst xs).isNon = false := rfl
theorem qcooked_lst (xs : List D) : (D.lst xs).cooked = true := rfl
theorem qseq_lst (xs : List D) : (D.lst xs).seq = some xs := rfl
theorem qty_tup (xs : List D) : (D.tup xs).ty.isSome = true := rfl
theorem qisI_tup (xs : List D) : (D.tup xs).isI = false := rfl
theorem qisB_tup (xs : List D) : (D.tup xs).isB = false := rfl
theorem qisL_tup (xs : List D) : (D.tup xs).isL = false := rfl
theorem qisU_tup (xs : List D) : (D.tup xs).isU = true := rfl
theorem qisS_tup (xs : List D) : (D.tup xs).isS = false := rfl
theorem qisD_tup (xs : List D) : (D.tup xs).isD = false := rfl
theorem qisNon_tup (xs : List D) : (D.tup xs).isNon = false := rfl
theorem qcooked_tup (xs : List D) : (D.tup xs).cooked = true := rfl
theorem qseq_tup (xs : List D) : (D.tup xs).seq = some xs := rfl
theorem qty_dct  : D.dct.ty.isSome = true := rfl
theorem qisI_dct  : D.dct.isI = false := rfl
theorem qisB_dct  : D.dct.isB = false := rfl
theorem qisL_dct  : D.dct.isL = false := rfl
theorem qisU_dct  : D.dct.isU = false := rfl
theorem qisS_dct  : D.dct.isS = false := rfl
theorem qisD_dct  : D.dct.isD = true := rfl
theorem qisNon_dct  : D.dct.isNon = false := rfl
theorem qcooked_dct  : D.dct.cooked = true := rfl
theorem qseq_dct  : D.dct.seq = none := rfl
theorem qix_lst (xs : List D) (i : Int) : (D.lst xs).ix (.int i) = L2.atI xs i := rfl
theorem qsl_lst (xs : List D) (lo hi : Option Int) : (D.lst xs).sl lo hi = some (.lst (cut xs lo hi)) := rfl
theorem qix_tup (xs : List D) (i : Int) : (D.tup xs).ix (.int i) = L2.atI xs i := rfl
theorem qsl_tup (xs : List D) (lo hi : Option Int) : (D.tup xs).sl lo hi = some (.tup (cut xs lo hi)) := rfl
theorem qisNon_ln (xs : List D) : (D.ln xs).isNon = false := rfl
theorem qcooked_ln (xs : List D) : (D.ln xs).cooked = true := rfl
/-! ### plain values under == -/
theorem eqOk_int (i : Int) : (D.int i).eqOk = true := rfl
theorem eqOk_bl (i : Bool) : (D.bl i).eqOk = true := rfl
theorem eqOk_non : D.non.eqOk = true := rfl
theorem eqv_int (i j : Int) : (D.int i).eqv (.int j) = decide (i = j) := rfl
theorem eqv_bl (i j : Bool) : (D.bl i).eqv (.bl j) = decide (i = j) := by cases i <;> cases j <;> rfl
theorem eqv_non : D.non.eqv .non = true := rfl
/-- an index that is written or known to be within -/
theorem atI_nat' {α : Type} (xs : List α) (j : Nat) : L2.atI xs (j : Int) = xs[j]? := by
  unfold L2.atI ixN
  by_cases h : j < xs.length
  · rw [if_pos (by omega), if_pos (by omega)]
    simp
  · rw [if_pos (by omega), if_neg (by omega)]
    simp [List.getElem?_eq_none (Nat.le_of_not_lt h)]
theorem atI_0 {α : Type} (xs : List α) : L2.atI xs 0 = xs[0]? := atI_nat' xs 0
theorem atI_1 {α : Type} (xs : List α) : L2.atI xs 1 = xs[1]? := atI_nat' xs 1
theorem atI_2 {α : Type} (xs : List α) : L2.atI xs 2 = xs[2]? := atI_nat' xs 2
theorem atI_3 {α : Type} (xs : List α) : L2.atI xs 3 = xs[3]? := atI_nat' xs 3
theorem atI_pos {α : Type} {xs : List α} {i : Int} (h : 0 ≤ i) : L2.atI xs i = xs[i.toNat]? := by
  obtain ⟨n, rfl⟩ := Int.eq_ofNat_of_zero_le h
  exact atI_nat' xs n

/-! ### data of a bounded depth -/
def D.fit : Nat → D → Bool
  | _, .non => true
  | _, .bl _ => true
  | _, .int _ => true
  | _, .str s => PyData.strOk s
  | n + 1, .lst xs => xs.all (D.fit n)
  | n + 1, .tup xs => xs.all (D.fit n)
  | _, _ => false
theorem fit_py : ∀ (n : Nat) (d : D), d.fit n = true → d.plain = true ∧ d.py.canLay0 = true ∧ d.py.depth ≤ n := by
  intro n
  induction n with
  | zero =>
    intro d h
    cases d <;> first | (simp [D.fit] at h; done) | exact ⟨rfl, rfl, Nat.le_refl _⟩ | skip
    rename_i z
    refine ⟨rfl, ?_, Nat.le_refl _⟩
    simpa [D.fit, D.py, PyData.canLay0] using h
  | succ n ih =>
    have all : ∀ xs : List D, (∀ x ∈ xs, x.fit n = true) → D.plainA xs = true ∧ PyData.canLayAll0 (D.pyA xs) = true ∧ PyData.depthAll (D.pyA xs) ≤ n := by
      intro xs
      induction xs with
      | nil => exact fun _ => ⟨rfl, rfl, Nat.zero_le _⟩
      | cons x xs ihx =>
        intro h
        obtain ⟨h1, h2, h3⟩ := ih x (h x (by simp))
        obtain ⟨g1, g2, g3⟩ := ihx fun y hy => h y (by simp [hy])
        refine ⟨by rw [D.plainA, h1, g1]; rfl, by rw [D.pyA, PyData.canLayAll0, h2, g2]; rfl, ?_⟩
        rw [D.pyA, PyData.depthAll]
        exact Nat.max_le.mpr ⟨h3, g3⟩
    intro d h
    cases d with
    | non => exact ⟨rfl, rfl, Nat.zero_le _⟩
    | bl b => exact ⟨rfl, rfl, Nat.zero_le _⟩
    | int i => exact ⟨rfl, rfl, Nat.zero_le _⟩
    | str z => exact ⟨rfl, by simpa [D.fit, D.py, PyData.canLay0] using h, Nat.zero_le _⟩
    | lst xs =>
      obtain ⟨h1, h2, h3⟩ := all xs (by simpa [D.fit] using h)
      exact ⟨by simpa [D.plain] using h1, by simpa [D.py, PyData.canLay0] using h2, by simpa [D.py, PyData.depth] using h3⟩
    | tup xs =>
      obtain ⟨h1, h2, h3⟩ := all xs (by simpa [D.fit] using h)
      exact ⟨by simpa [D.plain] using h1, by simpa [D.py, PyData.canLay0] using h2, by simpa [D.py, PyData.depth] using h3⟩
    | raw v => simp [D.fit] at h
    | dct => simp [D.fit] at h
    | ln xs => simp [D.fit] at h
theorem eqOk_fit {n : Nat} {d : D} (h : d.fit n = true) (hn : n ≤ 64 := by decide) : d.eqOk = true := by
  obtain ⟨h1, h2, h3⟩ := fit_py n d h
  unfold D.eqOk SeqAt.shaped
  rw [h1, h2]
  simp
  omega
theorem fit_mem {n : Nat} {d : D} {xs : List D} (h : d.fit (n + 1) = true) (hs : d.seq = some xs) : ∀ x ∈ xs, x.fit n = true := by
  cases d <;> cases hs <;> simpa [D.fit] using h
theorem fit_lst {n : Nat} {xs : List D} : (D.lst xs).fit (n + 1) = xs.all (D.fit n) := by simp [D.fit]
theorem fit_tup {n : Nat} {xs : List D} : (D.tup xs).fit (n + 1) = xs.all (D.fit n) := by simp [D.fit]
theorem fit_int {n : Nat} {i : Int} : (D.int i).fit n = true := by cases n <;> rfl
theorem fit_bl {n : Nat} {i : Bool} : (D.bl i).fit n = true := by cases n <;> rfl
theorem fit_non {n : Nat} : D.non.fit n = true := by cases n <;> rfl
theorem fit_ints {n : Nat} (ns : List Int) : (ns.map D.int).all (D.fit n) = true := by simp [fit_int]
theorem eqOk_ints (ns : List Int) : (D.lst (ns.map D.int)).eqOk = true := eqOk_fit (n := 1) (by rw [fit_lst, fit_ints])
theorem eqOk_tints (ns : List Int) : (D.tup (ns.map D.int)).eqOk = true := eqOk_fit (n := 1) (by rw [fit_tup, fit_ints])
theorem eqOk_lst0 : (D.lst []).eqOk = true := rfl
theorem eqv_lst0 (xs : List D) : (D.lst xs).eqv (.lst []) = xs.isEmpty := by cases xs <;> simp [D.eqv, D.py, D.pyA, PyData.eqv, PyData.eqvAll]
theorem eqvAll_ints : ∀ a b : List Int, PyData.eqvAll (D.pyA (a.map D.int)) (D.pyA (b.map D.int)) = decide (a = b)
  | [], [] => by simp [D.pyA, PyData.eqvAll]
  | [], _ :: _ => by simp [D.pyA, PyData.eqvAll]
  | _ :: _, [] => by simp [D.pyA, PyData.eqvAll]
  | x :: a, y :: b => by
    simp only [List.map_cons, D.pyA, PyData.eqvAll, eqvAll_ints a b, D.py, PyData.eqv]
    by_cases h : x = y <;> by_cases h2 : a = b <;> simp [h, h2]
theorem eqv_ints (a b : List Int) : (D.lst (a.map D.int)).eqv (.lst (b.map D.int)) = decide (a = b) := by
  unfold D.eqv
  rw [D.py, D.py, PyData.eqv]
  exact eqvAll_ints a b
theorem eqv_tints (a b : List Int) : (D.tup (a.map D.int)).eqv (.tup (b.map D.int)) = decide (a = b) := by
  unfold D.eqv
  rw [D.py, D.py, PyData.eqv]
  exact eqvAll_ints a b

/-! ### data without raw values -/
mutual
def D.okv : D → Bool
  | .raw _ => false
  | .ln _ => false
  | .lst xs => D.okvA xs
  | .tup xs => D.okvA xs
  | _ => true
def D.okvA : List D → Bool
  | [] => true
  | d :: ds => D.okv d && D.okvA ds
end
theorem no_raw {v : V} : ¬ (D.raw v).ty.isSome = true := fun h => nomatch h
theorem no_ln {xs : List D} : ¬ (D.ln xs).ty.isSome = true := fun h => nomatch h
theorem okv_ty {d : D} (h : d.okv = true) : d.ty.isSome = true := by cases d <;> first | rfl | cases h
theorem okvA_mem {ds : List D} (h : D.okvA ds = true) : ∀ d ∈ ds, d.okv = true := by
  induction ds with
  | nil => intro d hd; cases hd
  | cons x xs ih =>
    rw [D.okvA, Bool.and_eq_true] at h
    intro d hd
    rcases List.mem_cons.mp hd with rfl | hd
    · exact h.1
    · exact ih h.2 d hd
theorem okv_seq {d : D} {xs : List D} (h : d.okv = true) (hs : d.seq = some xs) : ∀ x ∈ xs, x.okv = true := by
  cases d <;> cases hs
  · exact okvA_mem h
  · exact okvA_mem h
theorem okvA_of {ds : List D} (h : ∀ d ∈ ds, d.okv = true) : D.okvA ds = true := by
  induction ds with
  | nil => rfl
  | cons x xs ih => rw [D.okvA, h x (by simp), ih fun d hd => h d (by simp [hd])]; rfl
theorem okvA_ints (ns : List Int) : D.okvA (ns.map D.int) = true := okvA_of fun d hd => by
  obtain ⟨n, _, rfl⟩ := List.mem_map.mp hd
  rfl
theorem seq_isSome (d : D) : d.seq.isSome = (d.isL || d.isU) := by cases d <;> rfl

/-! ### the package: mirrors -/
def dInt : D → Bool
  | .int _ => true
  | _ => false
def isWithin : D → Int → Int → Bool
  | .int i, lo, hi => decide (lo ≤ i) && decide (i ≤ hi)
  | _, _, _ => false
theorem isWithin_int {d : D} {lo hi : Int} (h : isWithin d lo hi = true) : ∃ i, d = .int i ∧ lo ≤ i ∧ i ≤ hi := by
  cases d <;> first | cases h | skip
  rename_i i
  simp [isWithin] at h
  exact ⟨i, rfl, h.1, h.2⟩
def isTup (d : D) (n : Int) : Bool := match d with
  | .tup xs => decide ((xs.length : Int) = n)
  | _ => false
def sp_is_integer : DSp := fun _ ds O => ∃ d, ds = [d] ∧ d.ty.isSome = true ∧ O (.ret (.bl (dInt d)))
def sp_is_within : DSp := fun _ ds O => ∃ d lo hi, ds = [d, .int lo, .int hi] ∧ d.ty.isSome = true ∧ O (.ret (.bl (isWithin d lo hi)))
def sp_is_row : DSp := fun _ ds O => ∃ d, ds = [d] ∧ d.ty.isSome = true ∧ O (.ret (.bl (d.isL || d.isU)))
def sp_is_tuple_of : DSp := fun _ ds O => ∃ d n, ds = [d, .int n] ∧ d.ty.isSome = true ∧ O (.ret (.bl (isTup d n)))
/-! ### draws -/
/-- a draw: any number below many -/
def sp__law_taken : DSp := fun F ds O => ∃ r sa many, ds = [.raw (.ref r), .int many] ∧ F.row = some (r, sa) ∧ 0 < many ∧ many < 1073741824 ∧ ∀ n : Int, 0 ≤ n → n < many → O (.ret (.int n))
/-- any member -/
def sp__law_pick : DSp := fun F ds O => ∃ r sa d xs, ds = [.raw (.ref r), d] ∧ F.row = some (r, sa) ∧ d.seq = some xs ∧ 0 < xs.length ∧ xs.length < 1000000 ∧ ∀ x ∈ xs, O (.ret x)
/-! ### alike -/
def D.alk : Nat → D → Bool
  | _, .non => true
  | _, .bl _ => true
  | _, .int _ => true
  | _, .str s => PyData.strOk s
  | n + 1, .lst xs => decide (xs.length ≤ 100000) && xs.all (D.alk n)
  | n + 1, .tup xs => decide (xs.length ≤ 100000) && xs.all (D.alk n)
  | _, _ => false
theorem alk_fit : ∀ (n : Nat) (d : D), d.alk n = true → d.fit n = true := by
  intro n
  induction n with
  | zero => intro d h; cases d <;> first | exact h | (simp [D.alk] at h)
  | succ n ih =>
    intro d h
    cases d with
    | lst xs =>
      simp only [D.alk, Bool.and_eq_true, List.all_eq_true] at h
      rw [fit_lst, List.all_eq_true]
      exact fun x hx => ih x (h.2 x hx)
    | tup xs =>
      simp only [D.alk, Bool.and_eq_true, List.all_eq_true] at h
      rw [fit_tup, List.all_eq_true]
      exact fun x hx => ih x (h.2 x hx)
    | _ => first | exact h | (simp [D.alk] at h)
theorem alk_seq {n : Nat} {d : D} {xs : List D} (h : d.alk n = true) (hs : d.seq = some xs) : xs.length ≤ 100000 ∧ ∃ m, n = m + 1 ∧ ∀ x ∈ xs, x.alk m = true := by
  cases d <;> cases hs <;> cases n <;> simp [D.alk] at h <;> exact ⟨h.1, _, rfl, h.2⟩
theorem alk_ty {n : Nat} {d : D} (h : d.alk n = true) : d.ty.isSome = true := by
  cases d <;> first | rfl | (cases n <;> cases h)
theorem alk_int {n : Nat} {i : Int} : (D.int i).alk n = true := by cases n <;> rfl
theorem alk_bl {n : Nat} {i : Bool} : (D.bl i).alk n = true := by cases n <;> rfl
theorem alk_ints {n : Nat} (ns : List Int) (h : ns.length ≤ 100000) : (D.lst (ns.map D.int)).alk (n + 1) = true := by simp [D.alk, alk_int, h]
theorem alk_tints {n : Nat} (ns : List Int) (h : ns.length ≤ 100000) : (D.tup (ns.map D.int)).alk (n + 1) = true := by simp [D.alk, alk_int, h]
def spAlike : Nat → DSp
  | 0 => fun _ _ _ => False
  | n + 1 => fun _ ds O => ∃ d, ds = [d, d] ∧ d.alk n = true ∧ O (.ret (.bl true))
def sp__law_alike : DSp := spAlike 7
end Sd
end
-- SdRail
section
set_option Elab.async false
set_option linter.all false
set_option maxRecDepth 100000
set_option maxHeartbeats 4000000
set_option autoImplicit false
namespace Sd
open PySem PySem.Spec PyProof.Rows L2

/-! ### requests -/
/-- a request: first, end, fare, many -/
structure Rq where
  a : Int
  b : Int
  f : Int
  m : Int
def Rq.d (r : Rq) : D := .tup [.int r.a, .int r.b, .int r.f, .int r.m]
structure Rq.Ok (n : Nat) (r : Rq) : Prop where
  a0 : 0 ≤ r.a
  ab : r.a < r.b
  bn : r.b ≤ n
  f1 : 1 ≤ r.f
  f2 : r.f ≤ 1000
  m1 : 1 ≤ r.m
  m2 : r.m ≤ 20
def isReq (n : Nat) : D → Bool
  | .tup [a, .int j, c, m] => isWithin (.int j) 1 n && (isWithin a 0 (j - 1) && (isWithin c 1 1000 && isWithin m 1 20))
  | _ => false
theorem isReq_of {n : Nat} {d : D} (h : isReq n d = true) : ∃ r : Rq, d = r.d ∧ r.Ok n := by
  unfold isReq at h
  split at h
  · rename_i a j c m
    simp only [Bool.and_eq_true] at h
    obtain ⟨h1, h2, h3, h4⟩ := h
    obtain ⟨i1, e1, l1, u1⟩ := isWithin_int h1
    obtain ⟨i2, e2, l2, u2⟩ := isWithin_int h2
    obtain ⟨i3, e3, l3, u3⟩ := isWithin_int h3
    obtain ⟨i4, e4, l4, u4⟩ := isWithin_int h4
    cases e1
    subst e2 e3 e4
    exact ⟨⟨i2, j, i3, i4⟩, rfl, l2, by show i2 < j; omega, u1, l3, u3, l4, u4⟩
  · cases h
theorem isReq_d {n : Nat} {r : Rq} (h : r.Ok n) : isReq n r.d = true := by
  obtain ⟨h1, h2, h3, h4, h5, h6, h7⟩ := h
  simp [isReq, Rq.d, isWithin]
  omega
theorem rq_okv (r : Rq) : r.d.okv = true := rfl
/-- the first place that is wrong, -1 for no row -/
def badReqs (n : Nat) (d : D) : Option Int := match d.seq with
  | none => some (-1)
  | some xs => if 12 < xs.length then some (-1) else Option.map Int.ofNat (xs.findIdx? fun x => !isReq n x)
theorem findIdx_at {α : Type} {p : α → Bool} : ∀ {xs : List α} {i : Nat} {x : α}, (xs.take i).all p = true → xs[i]? = some x → p x = false → (xs.findIdx? fun x => !p x) = some i
  | [], i, x, _, h, _ => by simp at h
  | a :: xs, 0, x, _, h, hp => by
    simp at h
    subst h
    simp [List.findIdx?_cons, hp]
  | a :: xs, i + 1, x, ha, h, hp => by
    simp only [List.take_succ_cons, List.all_cons, Bool.and_eq_true] at ha
    have ih := findIdx_at (xs := xs) (i := i) (x := x) ha.2 (by simpa using h) hp
    simp [List.findIdx?_cons, ha.1, ih]
theorem findIdx_none {α : Type} {p : α → Bool} {xs : List α} (h : xs.all p = true) : (xs.findIdx? fun x => !p x) = none := by
  rw [List.findIdx?_eq_none_iff]
  intro x hx
  rw [List.all_eq_true.mp h x hx]
  rfl
theorem all_take {α : Type} {p : α → Bool} {xs : List α} {i : Nat} {x : α} (h : (xs.take i).all p = true) (hx : xs[i]? = some x) (hp : p x = true) : (xs.take (i + 1)).all p = true := by
  rw [take_snoc hx, List.all_append, h]
  simp [hp]
theorem reqs_of {n : Nat} : ∀ {xs : List D}, xs.all (isReq n) = true → ∃ rs : List Rq, xs = rs.map Rq.d ∧ ∀ r ∈ rs, r.Ok n
  | [], _ => ⟨[], rfl, by simp⟩
  | x :: xs, h => by
    simp only [List.all_cons, Bool.and_eq_true] at h
    obtain ⟨r, rfl, hr⟩ := isReq_of h.1
    obtain ⟨rs, rfl, hrs⟩ := reqs_of h.2
    exact ⟨r :: rs, rfl, fun s hs => by
      rcases List.mem_cons.mp hs with rfl | hs
      · exact hr
      · exact hrs s hs⟩
theorem good_reqs {n : Nat} {d : D} (h : badReqs n d = none) : ∃ rs : List Rq, d.seq = some (rs.map Rq.d) ∧ (∀ r ∈ rs, r.Ok n) ∧ rs.length ≤ 12 := by
  unfold badReqs at h
  split at h
  · cases h
  · rename_i xs hs
    split at h
    · cases h
    · rename_i hl
      rw [Option.map_eq_none_iff, List.findIdx?_eq_none_iff] at h
      obtain ⟨rs, rfl, hr⟩ := reqs_of (n := n) (xs := xs) (List.all_eq_true.mpr fun x hx => by simpa using h x hx)
      exact ⟨rs, hs, hr, by simpa using hl⟩
theorem badReqs_good {n : Nat} {d : D} {rs : List Rq} (h : d.seq = some (rs.map Rq.d)) (ok : ∀ r ∈ rs, r.Ok n) (hl : rs.length ≤ 12) : badReqs n d = none := by
  unfold badReqs
  rw [h]
  show (if 12 < (rs.map Rq.d).length then some (-1) else Option.map Int.ofNat ((rs.map Rq.d).findIdx? fun x => !isReq n x)) = none
  rw [if_neg (by rw [List.length_map]; omega), findIdx_none]
  · rfl
  · rw [List.all_eq_true]
    intro x hx
    obtain ⟨r, hr, rfl⟩ := List.mem_map.mp hx
    exact isReq_d (ok r hr)
def sp_is_request : DSp := fun _ ds O => ∃ seats d, ds = [.ln seats, d] ∧ d.okv = true ∧ O (.ret (.bl (isReq seats.length d)))
def sp_check_requests : DSp := fun _ ds O => ∃ seats d, ds = [.ln seats, d] ∧ d.okv = true ∧ (∀ i, badReqs seats.length d = some i → O (.exc "BadRequests" (.int i))) ∧ (badReqs seats.length d = none → O (.ret .non))

/-! ### tables of ints -/
def tab (n : Nat) (f : Nat → Int) : List D := (List.range n).map fun l => .int (f l)
theorem tab_length (n : Nat) (f : Nat → Int) : (tab n f).length = n := by simp [tab]
theorem tab_at {n : Nat} {f : Nat → Int} {i : Nat} (h : i < n) : (tab n f)[i]? = some (.int (f i)) := by simp [tab, h]
theorem tab_set {n : Nat} {f : Nat → Int} {i : Nat} {v : Int} : (tab n f).set i (.int v) = tab n fun l => if l = i then v else f l := by
  apply List.ext_getElem?
  intro k
  rw [List.getElem?_set]
  by_cases h : i = k
  · subst h
    rw [tab_length]
    by_cases hk : i < n
    · simp [tab, hk]
    · simp [tab, hk]
  · rw [if_neg h]
    have h' : ¬ k = i := fun z => h z.symm
    by_cases hk : k < n
    · simp [tab, h', hk]
    · simp [tab, hk]
theorem tab_ext {n : Nat} {f g : Nat → Int} (h : ∀ i, i < n → f i = g i) : tab n f = tab n g := by
  unfold tab
  exact List.map_congr_left fun i hi => by rw [h i (List.mem_range.mp hi)]
theorem tab_map (n : Nat) (f : Nat → Int) : tab n f = ((List.range n).map f).map D.int := by simp [tab]

/-! ### loads, takings -/
def loadAt : List Rq → List Int → Nat → Int
  | r :: rs, m :: ms, l => (if r.a ≤ (l : Int) ∧ (l : Int) < r.b then m else 0) + loadAt rs ms l
  | _, _, _ => 0
def loadsM (n : Nat) (rs : List Rq) (ms : List Int) : List Int := (List.range n).map (loadAt rs ms)
theorem loadAt_snoc (l : Nat) : ∀ {rs : List Rq} {ms : List Int} {r : Rq} {m : Int}, rs.length = ms.length → loadAt (rs ++ [r]) (ms ++ [m]) l = loadAt rs ms l + if r.a ≤ (l : Int) ∧ (l : Int) < r.b then m else 0
  | [], [], r, m, _ => by simp [loadAt]
  | _ :: _, [], r, m, h => by simp at h
  | [], _ :: _, r, m, h => by simp at h
  | a :: rs, b :: ms, r, m, h => by
    have ih := loadAt_snoc l (rs := rs) (ms := ms) (r := r) (m := m) (by simpa using h)
    simp only [List.cons_append, loadAt, ih]
    omega
def takeM : List Rq → List Int → Int
  | r :: rs, m :: ms => r.f * m + takeM rs ms
  | _, _ => 0
theorem takeM_snoc : ∀ {rs : List Rq} {ms : List Int} {r : Rq} {m : Int}, rs.length = ms.length → takeM (rs ++ [r]) (ms ++ [m]) = takeM rs ms + r.f * m
  | [], [], r, m, _ => by simp [takeM]
  | _ :: _, [], r, m, h => by simp at h
  | [], _ :: _, r, m, h => by simp at h
  | a :: rs, b :: ms, r, m, h => by
    have ih := takeM_snoc (rs := rs) (ms := ms) (r := r) (m := m) (by simpa using h)
    simp only [List.cons_append, takeM, ih]
    omega
/-- the seats of a line -/
def SeatsOk (seats : List Int) : Prop := ∀ s ∈ seats, 0 ≤ s ∧ s ≤ 1000
def sp_told_loads : DSp := fun _ ds O => ∃ (d1 d2 d3 : D) (sd : List D) (rs : List Rq) (ms : List Int), ds = [d1, d2, d3] ∧ d1.seq = some sd ∧ sd.length ≤ 1000 ∧ d2.seq = some (rs.map Rq.d) ∧ d3.seq = some (ms.map D.int) ∧ (∀ r ∈ rs, r.Ok sd.length) ∧
  rs.length ≤ 1000 ∧ rs.length = ms.length ∧ O (.ret (.lst ((loadsM sd.length rs ms).map D.int)))
def toInt : D → Int
  | .int i => i
  | _ => 0
def manyOk : List D → List Rq → Bool
  | x :: xs, r :: rs => isWithin x 0 r.m && manyOk xs rs
  | _, _ => true
def fitsM : List Int → List Int → Bool
  | l :: ls, s :: ss => decide (l ≤ s) && fitsM ls ss
  | _, _ => true
theorem fitsM_iff : ∀ {ls ss : List Int}, ls.length = ss.length → (fitsM ls ss = true ↔ ∀ (i : Nat) (x : Int), ls[i]? = some x → x ≤ ss.getD i 0)
  | [], [], _ => by simp [fitsM]
  | [], _ :: _, h => by simp at h
  | _ :: _, [], h => by simp at h
  | l :: ls, s :: ss, h => by
    have ih := fitsM_iff (ls := ls) (ss := ss) (by simpa using h)
    simp only [fitsM, Bool.and_eq_true, decide_eq_true_eq, ih]
    constructor
    · intro ⟨h1, h2⟩ i x hx
      cases i with
      | zero =>
        simp at hx
        subst hx
        simpa using h1
      | succ i => simpa using h2 i x (by simpa using hx)
    · intro k
      exact ⟨by simpa using k 0 l (by simp), fun i x hx => by simpa using k (i + 1) x (by simpa using hx)⟩
theorem fits_filter {β : Type} (f : Int × Nat → β) {ls ss : List Int} (h : ls.length = ss.length) : ((ls.zipIdx.filter fun p => decide (p.1 > ss.getD p.2 0)).map f).isEmpty = fitsM ls ss := by
  rw [Bool.eq_iff_iff, fitsM_iff h, List.isEmpty_iff, List.map_eq_nil_iff, List.filter_eq_nil_iff]
  constructor
  · intro k i x hx
    have := k (x, i) (by rw [List.mem_zipIdx_iff_getElem?]; exact hx)
    simp only [decide_eq_true_eq] at this
    omega
  · intro k p hp
    obtain ⟨x, i⟩ := p
    rw [List.mem_zipIdx_iff_getElem?] at hp
    have := k i x hp
    simp only [decide_eq_true_eq]
    omega
def isSaleM (seats : List Int) (rs : List Rq) (t : D) : Bool := match t.seq with
  | none => false
  | some xs => decide (xs.length = rs.length) && (manyOk xs rs && fitsM (loadsM seats.length rs (xs.map toInt)) seats)
def sp_is_told_sale : DSp := fun _ ds O => ∃ (seats : List Int) (d2 t : D) (rs : List Rq), ds = [.ln (seats.map D.int), d2, t] ∧ seats.length ≤ 1000 ∧ d2.seq = some (rs.map Rq.d) ∧ (∀ r ∈ rs, r.Ok seats.length) ∧ rs.length ≤ 1000 ∧ t.okv = true ∧ O (.ret (.bl (isSaleM seats rs t)))
/-- what a function of a line, requests and more gives where the requests are good -/
def withReqs (n : Nat) (d : D) (O : Out → Prop) (k : List Rq → Prop) : Prop := (∀ i, badReqs n d = some i → O (.exc "BadRequests" (.int i))) ∧ ∀ rs : List Rq, d.seq = some (rs.map Rq.d) → (∀ r ∈ rs, r.Ok n) → rs.length ≤ 12 → k rs
def sp_is_sale : DSp := fun _ ds O => ∃ (seats : List Int) (d2 t : D), ds = [.ln (seats.map D.int), d2, t] ∧ seats.length ≤ 1000 ∧ d2.okv = true ∧ t.okv = true ∧ withReqs seats.length d2 O fun rs => O (.ret (.bl (isSaleM seats rs t)))
def sp_check_sale : DSp := fun _ ds O => ∃ (seats : List Int) (d2 t : D), ds = [.ln (seats.map D.int), d2, t] ∧ seats.length ≤ 1000 ∧ d2.okv = true ∧ t.okv = true ∧
  withReqs seats.length d2 O fun rs => (isSaleM seats rs t = true → O (.ret .non)) ∧ (isSaleM seats rs t = false → O (.exc "BadSale" t))
def sp_told_takings : DSp := fun _ ds O => ∃ (d2 d3 : D) (rs : List Rq) (ms : List Int) (n : Nat), ds = [d2, d3] ∧ d2.seq = some (rs.map Rq.d) ∧ d3.seq = some (ms.map D.int) ∧ (∀ r ∈ rs, r.Ok n) ∧ rs.length ≤ 1000 ∧ O (.ret (.int (takeM rs ms)))
def sp_loads : DSp := fun _ ds O => ∃ (seats : List Int) (d2 t : D), ds = [.ln (seats.map D.int), d2, t] ∧ seats.length ≤ 1000 ∧ d2.okv = true ∧ t.okv = true ∧
  withReqs seats.length d2 O fun rs => (∀ ms : List Int, t.seq = some (ms.map D.int) → isSaleM seats rs t = true → O (.ret (.lst ((loadsM seats.length rs ms).map D.int)))) ∧ (isSaleM seats rs t = false → O (.exc "BadSale" t))
def sp_takings : DSp := fun _ ds O => ∃ (seats : List Int) (d2 t : D), ds = [.ln (seats.map D.int), d2, t] ∧ seats.length ≤ 1000 ∧ d2.okv = true ∧ t.okv = true ∧
  withReqs seats.length d2 O fun rs => (∀ ms : List Int, t.seq = some (ms.map D.int) → isSaleM seats rs t = true → O (.ret (.int (takeM rs ms)))) ∧ (isSaleM seats rs t = false → O (.exc "BadSale" t))
theorem manyOk_ints : ∀ {xs : List D} {rs : List Rq}, xs.length = rs.length → manyOk xs rs = true → xs = (xs.map toInt).map D.int
  | [], _, _, _ => rfl
  | x :: xs, [], h, _ => by simp at h
  | x :: xs, r :: rs, h, hm => by
    simp only [manyOk, Bool.and_eq_true] at hm
    obtain ⟨i, rfl, _⟩ := isWithin_int hm.1
    have ih := manyOk_ints (xs := xs) (rs := rs) (by simpa using h) hm.2
    simp only [List.map_cons]
    rw [← ih]
    rfl
theorem sale_ints {seats : List Int} {rs : List Rq} {t : D} (h : isSaleM seats rs t = true) : ∃ ms : List Int, t.seq = some (ms.map D.int) ∧ ms.length = rs.length := by
  unfold isSaleM at h
  split at h
  · cases h
  · rename_i xs hx
    simp only [Bool.and_eq_true, decide_eq_true_eq] at h
    exact ⟨xs.map toInt, by rw [hx, ← manyOk_ints h.1 h.2.1], by simpa using h.1⟩

/-! ### prices -/
def priceOk : D → Bool
  | .int i => decide (0 ≤ i)
  | _ => false
def pricesOk (n : Nat) : D → Bool
  | .tup xs => decide (xs.length = n) && xs.all priceOk
  | _ => false
theorem prices_of {n : Nat} {d : D} (h : pricesOk n d = true) : ∃ ps : List Int, d = .tup (ps.map D.int) ∧ ps.length = n ∧ ∀ p ∈ ps, 0 ≤ p := by
  unfold pricesOk at h
  split at h
  · rename_i xs
    simp only [Bool.and_eq_true, decide_eq_true_eq] at h
    obtain ⟨h1, h2⟩ := h
    have key : ∀ {ys : List D}, ys.all priceOk = true → ∃ ps : List Int, ys = ps.map D.int ∧ ∀ p ∈ ps, 0 ≤ p := by
      intro ys
      induction ys with
      | nil => exact fun _ => ⟨[], rfl, by simp⟩
      | cons y ys ih =>
        intro hy
        simp only [List.all_cons, Bool.and_eq_true] at hy
        obtain ⟨ps, rfl, hp⟩ := ih hy.2
        cases y <;> first | (have z := hy.1; cases z; done) | skip
        rename_i i
        exact ⟨i :: ps, rfl, fun p hpm => by
          rcases List.mem_cons.mp hpm with rfl | hpm
          · simpa [priceOk] using hy.1
          · exact hp p hpm⟩
    obtain ⟨ps, rfl, hp⟩ := key h2
    exact ⟨ps, rfl, by simpa using h1, hp⟩
  · cases h
def dotM : List Int → List Int → Int
  | s :: ss, p :: ps => s * p + dotM ss ps
  | _, _ => 0
theorem dotM_snoc : ∀ {rs ms : List Int} {r m : Int}, rs.length = ms.length → dotM (rs ++ [r]) (ms ++ [m]) = dotM rs ms + r * m
  | [], [], r, m, _ => by simp [dotM]
  | _ :: _, [], r, m, h => by simp at h
  | [], _ :: _, r, m, h => by simp at h
  | a :: rs, b :: ms, r, m, h => by
    have ih := dotM_snoc (rs := rs) (ms := ms) (r := r) (m := m) (by simpa using h)
    simp only [List.cons_append, dotM, ih]
    omega
/-- the sum of the prices of a request's legs -/
def spanM (ps : List Int) (r : Rq) : Int := (cut ps (some r.a) (some r.b)).sum
def worthM (seats : List Int) (rs : List Rq) (ps : List Int) : Int := dotM seats ps + (rs.map fun r => r.m * max 0 (r.f - spanM ps r)).sum
def sp_check_prices : DSp := fun _ ds O => ∃ seats d, ds = [.ln seats, d] ∧ seats.length ≤ 1000 ∧ d.okv = true ∧ (pricesOk seats.length d = true → O (.ret .non)) ∧ (pricesOk seats.length d = false → O (.exc "BadPrices" d))
def sp_told_worth : DSp := fun _ ds O => ∃ (seats : List Int) (d2 : D) (rs : List Rq) (ps : List Int), ds = [.ln (seats.map D.int), d2, .tup (ps.map D.int)] ∧ SeatsOk seats ∧ seats.length ≤ 1000 ∧ d2.seq = some (rs.map Rq.d) ∧ (∀ r ∈ rs, r.Ok seats.length) ∧ rs.length ≤ 1000 ∧ ps.length = seats.length ∧ O (.ret (.int (worthM seats rs ps)))
def sp_worth : DSp := fun _ ds O => ∃ (seats : List Int) (d2 d : D), ds = [.ln (seats.map D.int), d2, d] ∧ SeatsOk seats ∧ seats.length ≤ 1000 ∧ d2.okv = true ∧ d.okv = true ∧
  withReqs seats.length d2 O fun rs => (∀ ps : List Int, d = .tup (ps.map D.int) → pricesOk seats.length d = true → O (.ret (.int (worthM seats rs ps)))) ∧ (pricesOk seats.length d = false → O (.exc "BadPrices" d))
def sp_shows : DSp := fun _ ds O => ∃ (seats : List Int) (d2 t d : D), ds = [.ln (seats.map D.int), d2, t, d] ∧ SeatsOk seats ∧ seats.length ≤ 1000 ∧ d2.okv = true ∧ t.okv = true ∧ d.okv = true ∧
  withReqs seats.length d2 O fun rs => (isSaleM seats rs t = false → O (.exc "BadSale" t)) ∧ (isSaleM seats rs t = true → (pricesOk seats.length d = false → O (.exc "BadPrices" d)) ∧
    ∀ (ms ps : List Int), t.seq = some (ms.map D.int) → d = .tup (ps.map D.int) → pricesOk seats.length d = true → O (.ret (.bl (decide (takeM rs ms = worthM seats rs ps)))))
/-! ### the law's helpers -/
def sp__law_line : DSp := fun F ds O => ∃ r sa, ds = [.raw (.ref r)] ∧ F.row = some (r, sa) ∧ ∀ ss : List Int, 1 ≤ ss.length → ss.length ≤ 10 → (∀ s ∈ ss, 0 ≤ s ∧ s ≤ 20) → O (.ret (.tup (ss.map D.int)))
def sp__law_asks : DSp := fun F ds O => ∃ (r sa : Addr) (d : D) (sd : List D) (most : Int), ds = [.raw (.ref r), d, .int most, .int 20] ∧ F.row = some (r, sa) ∧ d.seq = some sd ∧ 1 ≤ sd.length ∧ sd.length ≤ 10 ∧ 0 < most ∧ most ≤ 1000 ∧
  ∀ rs : List Rq, (rs.length : Int) < most → (∀ r ∈ rs, r.Ok sd.length) → O (.ret (.lst (rs.map Rq.d)))
def sp__law_loads : DSp := fun _ ds O => ∃ (d1 d2 d3 : D) (sd : List D) (rs : List Rq) (ms : List Int), ds = [d1, d2, d3] ∧ d1.seq = some sd ∧ sd.length ≤ 1000 ∧ d2.seq = some (rs.map Rq.d) ∧ d3.seq = some (ms.map D.int) ∧ rs.length ≤ 1000 ∧ rs.length = ms.length ∧ O (.ret (.lst ((loadsM sd.length rs ms).map D.int)))
def sp__law_fits : DSp := fun _ ds O => ∃ (d1 d2 d3 : D) (ss : List Int) (rs : List Rq) (ms : List Int), ds = [d1, d2, d3] ∧ d1.seq = some (ss.map D.int) ∧ ss.length ≤ 1000 ∧ d2.seq = some (rs.map Rq.d) ∧ d3.seq = some (ms.map D.int) ∧ rs.length ≤ 1000 ∧ rs.length = ms.length ∧ O (.ret (.bl (fitsM (loadsM ss.length rs ms) ss)))
def sp__law_takes : DSp := fun _ ds O => ∃ (d2 d3 : D) (rs : List Rq) (ms : List Int) (n : Nat), ds = [d2, d3] ∧ d2.seq = some (rs.map Rq.d) ∧ d3.seq = some (ms.map D.int) ∧ (∀ r ∈ rs, r.Ok n) ∧ rs.length ≤ 1000 ∧ rs.length = ms.length ∧ O (.ret (.int (takeM rs ms)))
def sp__law_worth : DSp := fun _ ds O => ∃ (d1 d2 : D) (seats : List Int) (rs : List Rq) (ps : List Int), ds = [d1, d2, .tup (ps.map D.int)] ∧ d1.seq = some (seats.map D.int) ∧ SeatsOk seats ∧ seats.length ≤ 1000 ∧ d2.seq = some (rs.map Rq.d) ∧ (∀ r ∈ rs, r.Ok seats.length) ∧ rs.length ≤ 1000 ∧ ps.length = seats.length ∧ O (.ret (.int (worthM seats rs ps)))
end Sd
end
-- SdLine
section
set_option Elab.async false
set_option linter.all false
set_option maxRecDepth 100000
set_option maxHeartbeats 4000000
set_option autoImplicit false
namespace Sd
open PySem PySem.Spec PyProof.Rows L2
open Evl (Ex)

/-! ### Line(seats) -/
def badSeats (d : D) : Option Int := match d.seq with
  | none => some (-1)
  | some xs => if xs.length = 0 ∨ 10 < xs.length then some (-1) else Option.map Int.ofNat (xs.findIdx? fun x => !isWithin x 0 20)
def sp_Line : DSp := fun _ ds O => ∃ d, ds = [d] ∧ d.okv = true ∧ (∀ i, badSeats d = some i → O (.exc "BadSeats" (.int i))) ∧ (badSeats d = none → ∀ xs, d.seq = some xs → O (.ret (.ln xs)))
/-- Line.__init__: what stands at x is the new line -/
def spInit (K : PySem.W.Frag) : Sp := fun vs H Q E => ∃ (F : Fs) (B : Hp) (x dx : Addr) (v : V) (d : D) (O : Out → Prop), vs = [.ref x, v] ∧ Ex B H ∧ Fok K F B H ∧ B x = none ∧ H x = some (.ins (He.ga K "Line") dx []) ∧ ¬ F.S x ∧ Rp K B v d ∧ sp_Line F [d] O ∧
  (∀ B' H' t ws es, Fm K F B H B' H' → O (.ret (.ln es)) → SqT K B' t ws → RpA K B' ws es → Q .non (upd H' x (.ins (He.ga K "Line") dx [(("seats" : Str), .ref t)]))) ∧
  (∀ n d dd v B' H', O (.exc n d) → Fm K F B H B' H' → B' dd = some (.xd [(("value" : Str), v)]) → Rp K B' v d → E (.ref (He.ga K n)) (some dd) H')
structure Ln (P : Program) (w : World) (K : PySem.W.Frag) (mg : Str → Option Value) (base : Heap) (k : Nat) : Prop where
  g : mg "Line" = some (.ref (He.ga K "Line"))
  ex : ∃ (f : Addr) (fd : FuncData), Mk K (He.ga K "Line") f ∧ FnOk P w K mg base (L2.CX P w) k f fd ["self", "seats"] (spInit K) ∧ Binds K fd ["self", "seats"] []
section
variable {X : Cx} {G : Gx} {k j : Nat} {e : Expr} {es : List Expr} {da : DA} {p pos : Pos} {Xc : Str → D → Prop} {E : XK}
theorem pd_line (c : Ln X.prog X.w X.K X.mg X.base k) (hr : Room j X.A) (hk : k + 1 ≤ j) (hE : DlvX X.K G Xc E) (hx : Passes (L2.CX X.prog X.w) X E) (ha : PAd X G (e :: es) da) (hg : Gl X "Line" := by rfl)
    (he : starEach (e :: es) X.env = (false, eval e X.env) :: starEach es X.env := by rfl) (hpl : (backTo pos (starEach es X.env)).any (·.1) = false := by rfl) : PEd X G (.Call (.Name "Line" p) (e :: es) [] pos) (deCall sp_Line G.F Xc [] da) := by
  obtain ⟨f, fd, M, F, hb⟩ := c.ex
  refine PE.imp (pe_make M F (hr.mono hk) hg c.g hb .nil hx ha (by decide) he hpl) fun σ H Q ⟨B, δ, P, s, h, q⟩ => ⟨B, δ, _, s, h, fun vs ds B1 H1 m1 p1 r1 x dx hx0 hdx hne => ?_⟩
  rw [List.append_nil] at p1
  obtain ⟨d, rfl, hv, o1, o2⟩ := p1
  cases r1 with
  | cons rv rn =>
  cases rn
  rename_i v
  have mA := Fm.newH (o := .own x) m1.e m1.f hdx
  have hx1 : upd H1 dx (.own x) x = none := by
    rw [upd_ne (fun z => hne z.symm)]
    exact hx0
  have mB := Fm.newH (o := .ins (He.ga X.K "Line") dx []) mA.e mA.f hx1
  have m2 := mA.trans mB
  have bx : B1 x = none := Evl.fresh_back m1.e hx0
  have bdx : B1 dx = none := Evl.fresh_back m1.e hdx
  have nsx : ¬ G.F.S x := fun z => (m1.f.there z).2 hx0
  have nsd : ¬ G.F.S dx := fun z => (m1.f.there z).2 hdx
  refine ⟨G.F, B1, x, dx, v, d, (fun o => match o with
    | .ret d => P d
    | .exc n d => Xc n d), rfl, m2.e, m2.f, bx, upd_same, nsx, rv, ⟨d, rfl, hv, o1, o2⟩, fun B' H' t ws zs m o ht ra => ⟨rfl, ?_⟩, fun n d dd v B' H' o m h1 r => hE n d dd v B' H' o (s.fm.trans (m1.trans (m2.trans m))) h1 r⟩
  obtain ⟨bx', hx'⟩ := m.o x bx (.of upd_same)
  have hx' := (hx' nsx).trans upd_same
  obtain ⟨bd', hd'⟩ := m.o dx bdx (.of (by rw [upd_ne hne, upd_same]))
  have hd' := (hd' nsd).trans (by rw [upd_ne hne, upd_same])
  have eb : Ex B' (upd (upd B' dx (.own x)) x (.ins (He.ga X.K "Line") dx [(("seats" : Str), .ref t)])) := (Evl.Ex.new bd').trans (Evl.Ex.new (by rw [upd_ne (fun z => hne z.symm)]; exact bx'))
  have mf : Fm X.K G.F B1 H1 (upd (upd B' dx (.own x)) x (.ins (He.ga X.K "Line") dx [(("seats" : Str), .ref t)])) (upd H' x (.ins (He.ga X.K "Line") dx [(("seats" : Str), .ref t)])) := by
    refine ⟨m.b.trans eb, fun a u h => ?_, fun a h1 h2 => ?_, ?_⟩
    · by_cases ha : a = x
      · rw [ha, upd_same] at h ⊢
        exact h
      · rw [upd_ne ha] at h ⊢
        by_cases hb : a = dx
        · rw [hb, upd_same] at h
          rw [hb, hd']
          exact h
        · rw [upd_ne hb] at h
          exact m.e _ _ h
    · have n1 : a ≠ x := h2.ne hx0
      have n2 : a ≠ dx := h2.ne hdx
      have e1 : upd (upd H1 dx (.own x)) x (.ins (He.ga X.K "Line") dx []) a = H1 a := by rw [upd_ne n1, upd_ne n2]
      obtain ⟨h3, h4⟩ := m.o a h1 (h2.eq e1)
      refine ⟨by rw [upd_ne n1, upd_ne n2]; exact h3, fun hs => ?_⟩
      rw [upd_ne n1, h4 hs, e1]
    · have hne' : ∀ a, G.F.S a → a ≠ x := fun a hs z => nsx (by rw [← z]; exact hs)
      have hne2 : ∀ a, G.F.S a → a ≠ dx := fun a hs z => nsd (by rw [← z]; exact hs)
      refine ⟨fun r sa hrow => ?_, fun p hp => ?_, fun p hp => ?_, nt_upd (nt_upd m.f.nt (fun _ z => by cases z)) (fun _ z => by cases z)⟩
      · obtain ⟨h1, ⟨ns, h2⟩, i, s', c', h3, h4⟩ := m.f.row r sa hrow
        have hs : G.F.S r := .inl ⟨sa, hrow⟩
        refine ⟨by rw [upd_ne (hne' r hs), upd_ne (hne2 r hs)]; exact h1, ⟨ns, exL eb h2⟩, i, s', c', by rw [upd_ne (hne' r hs)]; exact h3, h4⟩
      · obtain ⟨ps, t1, t2, t3⟩ := m.f.tab p hp
        have hs : G.F.S p.1 := .inr ⟨p.2, hp⟩
        refine ⟨ps, by rw [upd_ne (hne' _ hs)]; exact t1, t2, fun pos cv hc => ?_⟩
        obtain ⟨c0, e1, e2⟩ := t3 pos cv hc
        refine ⟨c0, e1, ?_⟩
        rw [upd_ne fun z => ?_]
        · exact e2
        · rw [z, hx'] at e2
          cases e2
      · have hs : G.F.S p.1 := .inr ⟨p.2, hp⟩
        rw [upd_ne (hne' _ hs), upd_ne (hne2 _ hs)]
        exact m.f.tb p hp
  refine q _ (.ln zs) _ _ (m1.trans mf) o (.ln (t := t) upd_same ?_ rfl (exT eb ht) (ra.mono eb))
  rw [upd_ne hne, upd_same]
end
end Sd
end
-- SdTry
section
set_option Elab.async false
set_option linter.all false
set_option maxRecDepth 100000
set_option maxHeartbeats 4000000
set_option autoImplicit false
/-! several clauses 'except x as n: suite' -/
namespace Sd
open PySem PySem.Spec PyProof.Rows L2
/-- an exception of the class cls with its dict d lies on the ground in the frame that looks for a clause -/
structure Fell (X : Cx) (pins : List (Addr × Obj)) (σ : L2.St) (H : Hp) (a : Addr) (cls : Value) (d : Option Addr) (B : Heap) (s0 s : Shared) : Prop where
  inv : Inv X pins σ H s0
  gr : ∀ b o, s0.heap.get? b = some o → b ∉ frs X.stack → B.get? b = some o
  up : s0.heap.UpToSlots s.heap
  fly : HandSPX.FlyingZ B (X.env :: X.outer) a (Zc cls d) s.heap
  na : H a = none
  os : s.os = s0.os
  ag : AllBare s.gens
section
variable {X : Cx} {pins : List (Addr × Obj)} {σ : L2.St} {H : Hp} {a : Addr} {cls c : Value} {d : Option Addr} {B : Heap} {s0 s : Shared} {hds : List ExceptHandler} {D : Ends} {x n : Str} {i : Nat} {np pos' pos : Pos} {b0 : Stmt} {suite body : List Stmt}
theorem Fell.here (F : Fell X pins σ H a cls d B s0 s) : Inv X pins σ H s := F.inv.landed F.gr F.fly.1 F.up F.os F.ag
theorem Fell.apart (F : Fell X pins σ H a cls d B s0 s) (hf : X.env.frame = some X.env.locals) : a ≠ X.env.locals ∧ a ∉ X.fs := by
  obtain ⟨oe, ws, e1, _, e3⟩ := F.fly.there
  have far : a ∉ frs (X.env :: X.outer) := fun z => by
    obtain ⟨_, o2, e4, k⟩ := F.fly.2.2.1.mem z
    rw [e1] at e4
    cases e4
    exact k _ e3
  constructor
  · intro z
    exact far (List.mem_filterMap.mpr ⟨X.env, List.mem_cons_self, by rw [hf, z]⟩)
  · intro z
    obtain ⟨e, h1, h2⟩ := List.mem_filterMap.mp z
    exact far (List.mem_filterMap.mpr ⟨e, List.mem_cons_of_mem _ h1, h2⟩)
/-- no clause is left: it flies on -/
theorem left_none (hs : X.stack = X.env :: X.outer) (hf : X.env.frame = some X.env.locals) {W : WX} (tk : Takes X W) (F : Fell X pins σ H a cls d B s0 s) (w : W cls d σ H) :
    wpAny (model X.prog X.w) X.A (handleBy (.ref a) X.env []) (SP X pins D) X.xe s := by
  obtain ⟨_, _, _, oe, ws, T, _, _, g1, _, g3, g4, _⟩ := id F.fly
  have goes : wpAny (model X.prog X.w) X.A (setFlight (.ref a) X.env.frame) (fun _ s2 => wpAny (model X.prog X.w) X.A (throw (.ref a) : Sem Flow) (SP X pins D) X.xe s2) X.xe s := by
    rw [hf]
    refine HandSPX.setFlight_upZ F.fly fun h2 held u2 => wpAny_throw (tk _ _ ⟨a, B, s0, pins, σ, H, cls, d, rfl, F.inv, F.gr, F.up.trans u2, .inr (.inr ?_), F.na, F.os, F.ag, w⟩)
    rw [hs]
    exact held
  refine wpAny_handleBy_nil ?_
  unfold PySem.passOn
  refine wpAny_bind (wpAny_field g1 g3 g4 ?_)
  rw [if_neg (show ¬ ((Value.ref T == Value.none) = true) by simp)]
  first
    | exact wpAny_bind (wpAny_pure (wpAny_bind goes))
    | exact wpAny_bind goes
/-- the ends of a suite behind which the slot i goes -/
def Gone (i : Nat) (D : Ends) : Ends where
  nx := fun σ' H' => D.nx (σ'.set i none) H'
  rt := D.rt
  bk := fun σ' H' => D.bk (σ'.set i none) H'
  ct := fun σ' H' => D.ct (σ'.set i none) H'
/-- one clause -/
theorem clause_as {ts : Addr → Value → Option Addr → TS} {b : Bool} (hf : X.env.frame = some X.env.locals) (hN : X.N.Nodup) (hi : X.N[i]? = some n) (hn : X.env.kindOf n = some .local) (hc : Names X x c)
    (hsu : ∀ (a : Addr) (oe : Obj) (cls : Value) (d : Option Addr) (pn : List (Addr × Obj)), Zc cls d oe → (∃ ws, oe.data = .fields ws) → PSs (X.suite a ((a, oe) :: pn)) (b0 :: suite) (ts a cls d))
    (F : Fell X pins σ H a cls d B s0 s) (hb : PySem.W.exmOne X.K cls c = some b) (yes : b = true → ts a cls d (Gone i D) (σ.set i (some (.ref a))) H)
    (no : b = false → wpAny (model X.prog X.w) X.A (handleBy (.ref a) X.env hds) (SP X pins D) X.xe s) :
    wpAny (model X.prog X.w) X.A (handleBy (.ref a) X.env (.ExceptHandler (some (.Name x np)) (some n) (b0 :: suite) pos' :: hds)) (SP X pins D) X.xe s := by
  obtain ⟨off1, off2⟩ := F.apart hf
  obtain ⟨oe, ws, g1, g2, g3⟩ := F.fly.there
  have inS := F.here.suite g1 g3 F.na off1 off2
  have named : ∀ {Q : Value → Shared → Prop} {E : Value → Shared → Prop}, Q c s → wpAny (model X.prog X.w) (X.A.mark (some (.ref a))) (eval (.Name x np) X.env) Q E s := by
    intro Q E q
    obtain ⟨k1, k2, k3⟩ := hc
    rcases k3 with k3 | ⟨k3, k4, k5⟩
    · exact ld_glob (X := X.suite a ((a, oe) :: (X.pn ++ pins))) inS k1 k3 q k2
    · exact ld_blt (X := X.suite a ((a, oe) :: (X.pn ++ pins))) inS k1 k3 k4 q k5 k2
  have sees : PySem.W.Looks (model X.prog X.w) s.heap (typeOf (.ref a)) cls := fun A Q E s' k q => wpAny_typeOf_ref (k _ _ g1) (by rw [g2.1]; exact q)
  refine wpAny_handleBy_cons (codeAny_handlers_test (named ((PySem.W.exm_one (M := model X.prog X.w) F.here.kIn sees hb).here ?_))) (by intro z; cases z)
  cases b with
  | false => exact no rfl
  | true =>
    refine codeAny_handlers_suite_as (HandSPX.lands_againZ F.fly fun h2 fly2 u2 => ?_)
    have F2 : Fell X pins σ H a cls d B s0 { s with heap := h2 } := ⟨F.inv, F.gr, F.up.trans u2, fly2, F.na, F.os, F.ag⟩
    obtain ⟨oe2, ws2, l1, l2, l3⟩ := fly2.there
    have inS2 := F2.here.suite l1 l3 F.na off1 off2
    refine store_ok (X := X.suite a ((a, oe2) :: (X.pn ++ pins))) (v := .ref a) inS2 hN hi (.inl hn) rfl (fun s3 I3 => ?_) (.inr hn)
    refine wpAny_mono ((hsu a oe2 cls d (X.pn ++ pins) l2 ⟨_, l3⟩).run [] s3 _ H _ I3 (yes rfl)) (fun fl s4 out => ?_) (fun _ _ z => False.elim z)
    have close : ∀ {σ4 : L2.St} {H4 : Hp} {Q : Shared → Prop}, Inv (X.suite a ((a, oe2) :: (X.pn ++ pins))) [] σ4 H4 s4 → (∀ s5, Inv X pins (σ4.set i none) H4 s5 → Q s5) → wpAny (model X.prog X.w) X.A (do bindName X.env n .none; unbindBehindTheSuite X.env n pos') (fun _ s5 => Q s5) X.xe s4 :=
      fun I4 q => gone_ok (I4.unsuite F.inv.ok) hN hi hn q
    cases fl with
    | ret u =>
      obtain ⟨v4, σ4, H4, I4, r4, q4⟩ := out
      exact close I4 fun s5 I5 => ⟨v4, _, H4, I5, r4, q4⟩
    | next =>
      obtain ⟨σ4, H4, I4, q4⟩ := out
      exact close I4 fun s5 I5 => ⟨_, H4, I5, q4⟩
    | brk =>
      obtain ⟨σ4, H4, I4, q4⟩ := out
      exact close I4 fun s5 I5 => ⟨_, H4, I5, q4⟩
    | cont =>
      obtain ⟨σ4, H4, I4, q4⟩ := out
      exact close I4 fun s5 I5 => ⟨_, H4, I5, q4⟩
/-- a list of clauses: by what they do of a fallen exception -/
def Does (X : Cx) (hds : List ExceptHandler) (W : Ends → WX) : Prop := ∀ (pins : List (Addr × Obj)) (σ : L2.St) (H : Hp) (a : Addr) (cls : Value) (d : Option Addr) (B : Heap) (s0 s : Shared) (D : Ends), Fell X pins σ H a cls d B s0 s → W D cls d σ H →
  wpAny (model X.prog X.w) X.A (handleBy (.ref a) X.env hds) (SP X pins D) X.xe s
theorem does_nil (hs : X.stack = X.env :: X.outer) (hf : X.env.frame = some X.env.locals) {W : WX} (tk : Takes X W) : Does X [] (fun _ => W) := fun _ _ _ _ _ _ _ _ _ _ F w => left_none hs hf tk F w
def wThen (K : PySem.W.Frag) (c : Value) (i : Nat) (ts : Addr → Value → Option Addr → TS) (W : Ends → WX) : Ends → WX := fun D cls d σ H => ∃ b, PySem.W.exmOne K cls c = some b ∧ (b = true → ∀ a, H a = none → ts a cls d (Gone i D) (σ.set i (some (.ref a))) H) ∧ (b = false → W D cls d σ H)
theorem does_cons {ts : Addr → Value → Option Addr → TS} {W : Ends → WX} (hf : X.env.frame = some X.env.locals) (hN : X.N.Nodup) (hi : X.N[i]? = some n) (hn : X.env.kindOf n = some .local) (hc : Names X x c)
    (hsu : ∀ (a : Addr) (oe : Obj) (cls : Value) (d : Option Addr) (pn : List (Addr × Obj)), Zc cls d oe → (∃ ws, oe.data = .fields ws) → PSs (X.suite a ((a, oe) :: pn)) (b0 :: suite) (ts a cls d)) (rest : Does X hds W) :
    Does X (.ExceptHandler (some (.Name x np)) (some n) (b0 :: suite) pos' :: hds) (wThen X.K c i ts W) := fun pins σ H a cls d B s0 s D F ⟨b, h1, h2, h3⟩ =>
  clause_as hf hN hi hn hc hsu F h1 (fun z => h2 z a F.na) (fun z => rest _ _ _ _ _ _ _ _ _ _ F (h3 z))
theorem does_len {W : Ends → WX} (h : Does X hds W) : Does X hds (fun D cls d σ H => σ.length = X.N.length → W D cls d σ H) := fun _ _ _ _ _ _ _ _ _ _ F w => h _ _ _ _ _ _ _ _ _ _ F (w F.inv.len)
/-- try: body, the clauses -/
theorem ps_tries {h0 : ExceptHandler} {tb : WX → TS} {W : Ends → WX} (hs : X.stack = X.env :: X.outer) (hf : X.env.frame = some X.env.locals)
    (hb : ∀ (W : WX) (pn : List (Addr × Obj)) (xe : Value → Shared → Prop), Takes (X.tr pn xe) W → PSs (X.tr pn xe) body (tb W)) (hh : Does X (h0 :: hds) W) : PS X (.Try body (h0 :: hds) [] [] pos) (fun D σ H => tb (W D) D σ H) := by
  refine ⟨fun pins s σ H D I h => wpAny_Try_except ?_⟩
  have ok := I.ok
  have fr : X.A.frames = some (X.env :: X.outer) := by rw [ok.frames, hs]
  refine wpAny_mono ((hb (W D) (X.pn ++ pins) (fun e s1 => wpAny (model X.prog X.w) X.A (noteFrame e X.env) (fun _ s2 => wpAny (model X.prog X.w) X.A (setFlight e none) (fun _ s3 =>
    wpAny (model X.prog X.w) X.A (handleBy e X.env (h0 :: hds)) (SP X pins D) X.xe s3) X.xe s2) X.xe s1) (fun u s1 air => ?_)).run [] s σ H D (I.toTry _) h) (fun fl s1 out => ?_) (fun _ _ z => z)
  · obtain ⟨a, B, s0, pn', σ', H', cls, d, rfl, J, gr, up, sky, na, os, ag, w⟩ := air
    have sky' : Sky B (X.env :: X.outer) a (Zc cls d) X.env.locals s1.heap := by rw [← hs]; exact sky
    refine Sky.land Zc.steady fr hf sky' fun h2 fly u2 => ?_
    exact hh pins σ' H' a cls d B s0 _ D ⟨J.ofTry ok, gr, up.trans u2, fly, na, os, ag⟩ w
  · cases fl with
    | next =>
      obtain ⟨σ', H', J, q⟩ := out
      exact wpAny_execs_nil ⟨σ', H', J.ofTry ok, q⟩
    | ret u =>
      obtain ⟨v, σ', H', J, r, q⟩ := out
      exact ⟨v, σ', H', J.ofTry ok, r, q⟩
    | brk =>
      obtain ⟨σ', H', J, q⟩ := out
      exact ⟨σ', H', J.ofTry ok, q⟩
    | cont =>
      obtain ⟨σ', H', J, q⟩ := out
      exact ⟨σ', H', J.ofTry ok, q⟩
end

/-! ### _law_refused(lambda: ..): which error, its value -/
/-- the clauses' table: class, word -/
def tsRef (K : PySem.W.Frag) (i : Nat) (n lab : Str) : Addr → Value → Option Addr → TS := fun a cls d => tRet (tTup (tCons (tC (.str lab)) (tCons (tXf a cls d (He.ga K n) "value" (tVar i)) tNil)))
def wRef (K : PySem.W.Frag) (i : Nat) : List (Str × Str) → Ends → WX
  | [] => fun _ _ _ _ _ => False
  | p :: r => wThen K (.ref (He.ga K p.1)) i (tsRef K i p.1 p.2) (wRef K i r)
def exmAll (K : PySem.W.Frag) (l : List (Str × Str)) : Prop := ∀ p ∈ l, ∀ q ∈ l, PySem.W.exmOne K (.ref (He.ga K p.1)) (.ref (He.ga K q.1)) = some (decide (p.1 = q.1))
theorem wRef_hit {K : PySem.W.Frag} {i : Nat} {D : Ends} {dd : Addr} {v : V} {σ : L2.St} {H : Hp} {p : Str × Str} : ∀ {l m : List (Str × Str)}, exmAll K m → (∀ q ∈ l, q ∈ m) → p ∈ l → p ∈ m → (l.map (·.1)).Nodup → i < σ.length → H dd = some (.xd [(("value" : Str), v)]) →
    (∀ l, H l = none → D.rt (.ref l) (upd H l (.tup [.str p.2, v]))) → wRef K i l D (.ref (He.ga K p.1)) (some dd) σ H
  | [], _, _, _, h, _, _, _, _, _ => by cases h
  | q :: r, m, hx, hs, h, hm, hn, hi, hd, hq => by
    refine ⟨decide (p.1 = q.1), hx p hm q (hs q (by simp)), fun hb a ha => ?_, fun hb => ?_⟩
    · have e : p.1 = q.1 := of_decide_eq_true hb
      have e2 : q = p := by
        rcases List.mem_cons.mp h with z | z
        · exact z.symm
        · rw [List.map_cons, List.nodup_cons] at hn
          exact absurd (List.mem_map.mpr ⟨p, z, e⟩) hn.1
      subst e2
      refine ⟨.ref a, ?_, rfl, rfl, dd, _, v, rfl, hd, rfl, by show 2 ≤ sizeLine; decide, fun l hl => hq l hl⟩
      rw [List.getElem?_set_self hi]
    · have e : ¬ p.1 = q.1 := of_decide_eq_false hb
      rw [List.map_cons, List.nodup_cons] at hn
      refine wRef_hit hx (fun z hz => hs z (by simp [hz])) ?_ hm hn.2 hi hd hq
      rcases List.mem_cons.mp h with z | z
      · rw [z] at e
        exact absurd rfl e
      · exact z
def TRef (K : PySem.W.Frag) (l : List (Str × Str)) : (XK → Hp → VK → Prop) → Hp → VK → Prop := fun tl H Q =>
  tl (fun cls d H' => ∃ p ∈ l, ∃ dd v, cls = .ref (He.ga K p.1) ∧ d = some dd ∧ H' dd = some (.xd [(("value" : Str), v)]) ∧ ∀ l, H' l = none → Q (.ref l) (upd H' l (.tup [.str p.2, v]))) H
    (fun _ H' => 2 ≤ sizeLine ∧ ∀ l, H' l = none → Q (.ref l) (upd H' l (.tup [.str "", .non])))
theorem ref_gives {X : Cx} {x a e q : Str} {sg : Scope} {g : Addr} {cdg : Value} {l : List (Str × Str)} {h0 : ExceptHandler} {hds : List ExceptHandler} {p1 p2 p3 p4 p5 p6 p7 p8 : Pos} {j1 j2 k3 : Nat} (hx : exmAll X.K l) (hn : (l.map (·.1)).Nodup)
    (hd : ∀ (f : Addr) (s : Shared) (H : Hp), Does (cxOf C8.CX0 X.prog X.w X.K X.mg X.base [a, e] x sg g cdg X.A X.stack s H C8.E0).nox (h0 :: hds) (wRef X.K 1 l)) :
    LamX.GivesTo X [a, e] x sg g cdg [.Try [.Expr (.Call (.Name a p1) [] [] p2) p3] (h0 :: hds) [] [] p4, .Return (some (.Tuple [.Constant (.str "") j1 p5, .Constant .none j2 p6] k3 p7)) p8] a q (TRef X.K l) := by
  intro f c' s H Q tl act hc h
  refine ⟨_, pss_cons (ps_tries (X := (cxOf C8.CX0 X.prog X.w X.K X.mg X.base [a, e] x sg g cdg X.A X.stack s H C8.E0).nox)
    (W := fun D cls d σ H => σ.length = 2 → wRef X.K 1 l D cls d σ H) (tb := fun W D σ H => ∃ Ech : XK, (∀ cls d σ' H', Ech cls d H' → W cls d σ' H') ∧ σ[0]? = some (some (.ref f)) ∧ H c' = some (LamX.CodeO c' q) ∧ tl Ech H fun _ H' => D.nx σ H') rfl rfl (fun W pn xe tk => ?_) (does_len (hd f s H)))
    (pss_one (ps_ret (pe_tup (pa_cons pe_str (pa_cons pe_non pa_nil))))), ?_⟩
  · refine ⟨fun pins s' σ H' D I ⟨Ech, hW, h1, h2, h3⟩ => ?_⟩
    have hp := act W pn xe Ech p1 p2 tk hW
    exact (pss_one (ps_expr (pos := p3) hp)).run pins s' σ H' D I ⟨h1, h2, h3⟩
  · refine ⟨fun cls d H' => ∃ p ∈ l, ∃ dd v, cls = .ref (He.ga X.K p.1) ∧ d = some dd ∧ H' dd = some (.xd [(("value" : Str), v)]) ∧ ∀ l, H' l = none → Q (.ref l) (upd H' l (.tup [.str p.2, v])), fun cls d σ' H' ⟨p, hp, dd, v, e1, e2, h1, h2⟩ hl => ?_, rfl, hc, ?_⟩
    · subst e1 e2
      exact wRef_hit hx (fun _ z => z) hp hp hn (by omega) h1 h2
    · exact h
end Sd
end
-- SdLaw
section
set_option Elab.async false
set_option linter.all false
set_option maxRecDepth 100000
set_option maxHeartbeats 4000000
set_option autoImplicit false
namespace Sd
open PySem PySem.Spec PyProof.Rows L2
open Evl (Ex)

/-! ### _law_refused(lambda: ..) over data -/
theorem Fm.extN {K : PySem.W.Frag} {F : Fs} {B H H1 : Hp} (e : Ex B H) (f : Fok K F B H) (x : LamX.ExtN H H1) (t : LamX.Tabs F.tabs H1) : Fm K F B H B H1 := by
  refine ⟨Ex.refl B, fun a u h => x a u (e a u h) fun ps z => f.nt a ps (by rw [h, z]), fun a h1 ⟨u, h2, h3⟩ => ⟨h1, fun _ => (x a u h2 h3).trans h2.symm⟩, fun r sa hr => ?_, t, f.tb, f.nt⟩
  obtain ⟨h1, h2, i, s, c, h3, h4⟩ := f.row r sa hr
  exact ⟨h1, h2, i, s, c, x r _ h3 (fun ps z => by cases z), h4⟩
/-- the slots that a lambda may look at -/
def noOwn : Sl → Sl
  | .own _ => .un
  | s => s
theorem Stt.root {K : PySem.W.Frag} {G : Gx} {σ : L2.St} {B H : Hp} {δ : List Sl} (s : Stt K G σ B H δ) : Stt K ⟨G.F, B, H⟩ σ B H (δ.map noOwn) := by
  refine ⟨.refl s.e s.f, by rw [List.length_map]; exact s.len, fun i t h => ?_, fun i j ds es _ h1 _ => ?_⟩
  · rw [List.getElem?_map, Option.map_eq_some_iff] at h
    obtain ⟨z, hz, rfl⟩ := h
    obtain ⟨o, e, k⟩ := s.sl i z hz
    refine ⟨o, e, ?_⟩
    cases z with
    | un => exact True.intro
    | dat d => exact k
    | own ds => exact True.intro
  · rw [List.getElem?_map, Option.map_eq_some_iff] at h1
    obtain ⟨z, _, e⟩ := h1
    cases z <;> cases e
def deRefused (l : List (Str × Str)) (db : (Str → D → Prop) → DE) : DE := fun δ P => db (fun n d => ∃ lab, l.lookup n = some lab ∧ P (.tup [.str lab, d])) (δ.map noOwn) fun _ => P (.tup [.str "", .non])
theorem mem_of_lookup {l : List (Str × Str)} {n lab : Str} (h : l.lookup n = some lab) : (n, lab) ∈ l := by
  induction l with
  | nil => cases h
  | cons p r ih =>
    obtain ⟨a, b⟩ := p
    rw [List.lookup_cons] at h
    split at h
    · rename_i e
      cases h
      rw [eq_of_beq e]
      exact List.mem_cons_self
    · exact List.mem_cons_of_mem _ (ih h)
/-- what the lambda's body wants: over data, from any entry -/
def lamT (K : PySem.W.Frag) (F : Fs) (db : (Str → D → Prop) → DE) : XK → TE := fun E σ H Q => ∃ (G' : Gx) (Xc : Str → D → Prop), G'.F = F ∧ DlvX K G' Xc E ∧ teOf K G' (db Xc) σ H Q
theorem pd_refused {X : Cx} {G : Gx} {l : List (Str × Str)} {db : (Str → D → Prop) → DE} {e : Expr} (h : PE X e (LamX.tLam G.F.tabs (TRef X.K l) (lamT X.K G.F db))) : PEd X G e (deRefused l db) :=
  PE.imp h fun σ H Q ⟨B, δ, P, s, h, q⟩ => ⟨s.f.tab, fun H1 eN T1 => by
    have m1 := Fm.extN s.e s.f eN T1
    refine ⟨⟨G.F, B, H1⟩, _, rfl, fun n d dd v B' H' ⟨lab, hl, p⟩ m hd r => ?_, B, _, _, (s.mono m1).root, h, fun v d B' H' m p _ => ?_⟩
    · refine ⟨by decide, fun t ht => ?_⟩
      have m2 := Fm.new (o := .tup [.str "", .non]) m.e m.f ht
      exact q _ _ _ _ ((m1.trans m).trans m2) p (.tup (SqT.of upd_same) (.cons (.str "") (.cons .non .nil)))
    · refine ⟨(n, lab), mem_of_lookup hl, dd, v, rfl, rfl, m.e _ _ hd, fun t ht => ?_⟩
      have m2 := Fm.new (o := .tup [.str lab, v]) m.e m.f ht
      exact q _ _ _ _ ((m1.trans m).trans m2) p (.tup (SqT.of upd_same) (.cons (.str lab) (.cons (r.mono m2.b) .nil)))⟩
/-- derivations for every entry give the lambda's body -/
theorem lam_body {Y : Cx} {F : Fs} {db : (Str → D → Prop) → DE} {E : XK} {e : Expr} (h : ∀ (G' : Gx) (Xc : Str → D → Prop), G'.F = F → DlvX Y.K G' Xc E → PEd Y G' e (db Xc)) : PE Y e (lamT Y.K F db E) :=
  ⟨fun pins s σ H Q I ⟨G', Xc, e1, e2, e3⟩ => (h G' Xc e1 e2).run pins s σ H Q I e3⟩
/-- what is raised in a lambda's body reaches who called it -/
theorem lam_takes {X : Cx} {A : Around} {outer : List Env} {s : Shared} {H : Hp} {E : XK} {scope : Scope} {f c' : Addr} : Takes (LamX.lamCx X A outer s H E scope f c') (fun cls d _ H => E cls d H) := takes_of rfl rfl rfl rfl
theorem lam_passes {X : Cx} {A : Around} {outer : List Env} {s : Shared} {H : Hp} {E : XK} {scope : Scope} {f c' : Addr} : Passes (L2.CX X.prog X.w) (LamX.lamCx X A outer s H E scope f c') E := passes_call lam_takes (fun _ _ _ _ z => z)

/-! ### calls of a name that holds a def -/
def deCallV (i : Nat) (a : Addr) (sp : DSp) (F : Fs) (Xc : Str → D → Prop) (da : DA) : DE := fun δ P => δ[i]? = some (.dat (.raw (.ref a))) ∧ deCall sp F Xc [] da δ P
def deOrE (d1 d2 : DE) : DE := fun δ P => d1 δ P ∨ d2 δ P
section
variable {X : Cx} {G : Gx} {k j i : Nat} {x y : Str} {sp : DSp} {e : Expr} {es : List Expr} {da : DA} {d1 d2 : DE} {p pos : Pos} {Xc : Str → D → Prop} {E : XK}
theorem pd_callV {a : Addr} (c : Cl X.prog X.w X.K X.mg X.base k y sp []) (hg : X.mg y = some (.ref a)) (hr : Room j X.A) (hk : k ≤ j) (hE : DlvX X.K G Xc E) (hx : Passes (L2.CX X.prog X.w) X E) (hN : X.N[i]? = some x) (hv : Vis X.env.scope x) (ha : PAd X G (e :: es) da)
    (hdb : (x == ("__debug__" : Str)) = false := by decide) (hcd : (x == ("__classdict__" : Str)) = false := by decide) (he : starEach (e :: es) X.env = (false, eval e X.env) :: starEach es X.env := by rfl) (hpl : (backTo pos (starEach es X.env)).any (·.1) = false := by rfl) :
    PEd X G (.Call (.Name x p) (e :: es) [] pos) (deCallV i a sp G.F Xc da) := by
  obtain ⟨f, fd, ps, ds, dvs, F, hm, kp, hb, hv2, hn⟩ := c.ex
  rw [hg] at hm
  cases hm
  have z1 := hn (fun _ => none)
  cases z1
  cases hv2
  exact PE.imp (pe_callL (i := i) F (hr.mono hk) hN hv kp hb .nil hx ha hdb hcd he hpl) fun σ H Q ⟨B, δ, P, s, ⟨hd, h⟩, q⟩ => by
    obtain ⟨v, hv, r⟩ := s.dat hd
    cases r
    exact ⟨hv, B, δ, _, s, h, fun vs ds B1 H1 m1 p1 r1 => ⟨G.F, B1, ds ++ [], _, m1.e, m1.f, r1.app .nil, p1, fun v d B' H' m2 o r => q v d B' H' (m1.trans m2) o r, fun n d dd v B' H' o m2 h1 r => hE n d dd v B' H' o (s.fm.trans (m1.trans m2)) h1 r⟩⟩
theorem pd_orE (h1 : PEd X G e d1) (h2 : PEd X G e d2) : PEd X G e (deOrE d1 d2) := ⟨fun pins s σ H Q I ⟨B, δ, P, st, h, q⟩ => h.elim (fun h => h1.run pins s σ H Q I ⟨B, δ, P, st, h, q⟩) fun h => h2.run pins s σ H Q I ⟨B, δ, P, st, h, q⟩⟩
end
end Sd
end
-- SdEq
section
set_option Elab.async false
set_option linter.all false
set_option maxRecDepth 100000
set_option maxHeartbeats 4000000
set_option autoImplicit false
/-! == and != of lines -/
namespace PySem
open PySem PySem.W Builtin
section
variable {prog : Program} {w : World} {A : Around} {E : Value → Shared → Prop} {s : Shared} {K : Frag} {x C : Addr} {ox : Obj} {od : Option Obj} {f : Addr} {b : Value}
/-- a built-in that a class inherits, called by its special name -/
theorem sdq_bound {M : Model} {name : Str} {id : String} {T : String} {args : List Value} {Q : Option Value → Shared → Prop} (X : K.In s.heap) (I : InstAt s.heap x ox C od) (hs : findIn K (.ref C) name = some (some (.builtin id))) (S : Slot T name id)
    (h : wpAny M A (call (.builtin id) (.ref x :: args)) (fun v => Q (some v)) E s) : wpAny M A (callSpecialIfBound? (.ref x) name args) Q E s := by
  simp only [callSpecialIfBound?, bindSpecialIfBound?]
  refine wpAny_holding (wpAny_bind (wpAny_bind (wpAny_bind (I.type.here ((looks_findIn X hs).here ?_)))))
  simp only [S.bind]
  refine wpAny_bind (wpAny_askSetting (wpAny_ite ?_))
  have last : wpAny M A (call (.builtin id) ([.ref x] ++ args) >>= fun v => pure (some v)) Q E s := wpAny_bind (wpAny_mono h (fun _ _ q => wpAny_pure q) fun _ _ q => q)
  split
  · exact wpAny_bind (wpAny_pure (wpAny_pure last))
  · exact wpAny_tryCatch (wpAny_bind (wpAny_pure (wpAny_pure last)))
theorem sdq_check {M : Model} {id owner n : String} {rest : List Value} {Q : Unit → Shared → Prop} (X : K.In s.heap) (I : InstAt s.heap x ox C od) (hk : builtinKind id = some .slot) (hs : splitId id = some (owner, n)) (ha : argsOk id ⟨.ref x :: rest, []⟩)
    (ho : subIn K (.ref C) (.type owner) = some true) (q : Q () s) : wpAny M A (checkBuiltinCall id ⟨.ref x :: rest, []⟩) Q E s := by
  simp only [checkBuiltinCall, hk, hs]
  refine wpAny_bind ?_
  unfold isInstance
  refine wpAny_bind (I.type.here ((looks_subIn X ho).here ?_))
  simp only [Bool.not_true, Bool.false_eq_true, if_false]
  cases hsig : Manifest.signature? id with
  | none => exact wpAny_pure (by first | exact q | exact wpAny_pure q)
  | some sig =>
    simp only [argsOk, hsig] at ha
    have e : Bind.checkArgs id sig ⟨.ref x :: rest, []⟩ = pure () := ha
    show wpAny M A (Bind.checkArgs id sig ⟨.ref x :: rest, []⟩) Q E s
    rw [e]
    exact wpAny_pure q
/-- x != b, where x's class tells only == -/
theorem sdq_ne {Q : Value → Shared → Prop} (X : K.In s.heap) (I : InstAt s.heap x ox C od) {tb : Value} (hb : Looks (model prog w) s.heap (typeOf b) tb) (hn : tb = .ref C ∨ subIn K tb (.ref C) = some false) (hu : A.units + 1 < cLine)
    (hne : findIn K (.ref C) "__ne__" = some (some (.builtin "object.__ne__"))) (ho : subIn K (.ref C) (.type "object") = some true) (heq : findIn K (.ref C) "__eq__" = some (some (.ref f))) (hf : isFn K (.ref f) = true)
    (h : wpAny (model prog w) A.in1 (call (.ref f) [.ref x, b]) (fun v s' => ∃ r, v = .bool r ∧ Q (.bool (!r)) s') E s) : wpAny (model prog w) A (richCompare .NotEq (.ref x) b) Q E s := by
  have body : wpAny (model prog w) A.in1 (Builtin.«object.__ne__» ⟨[.ref x, b], []⟩) (fun fin s' => ∃ r, fin = .done (.ret (.bool (!r))) ∧ Q (.bool (!r)) s') E s := by
    unfold Builtin.«object.__ne__»
    repeat (first
      | with_reducible refine wpAny_cRoomFor (A := A.in1) hu ?_
      | (refine wpAny_bind (m := callSpecialIfBound? (.ref x) (Str.ofString "__eq__") [b]) (ifBound_K X I heq hf (wpAny_mono h (fun v s' hv => by
          obtain ⟨r, rfl, q⟩ := hv
          repeat (first | exact ⟨r, rfl, q⟩ | (refine wpAny_bind (m := truthy (.bool _)) (wpAny_truthy_bool ?_)) | wp_step)) fun _ _ z => z)))
      | wp_step)
  have one : wpAny (model prog w) A (tryCompare (.ref x) "__ne__" b) (fun r s' => ∃ v, r = some v ∧ Q v s') E s := by
    unfold tryCompare
    refine wpAny_bind (sdq_bound X I hne F.cmp_object.ne (wpAny_call (codeAny_call_builtin F.cmp_object.ne.plain F.cmpEntry_ne (sdq_check X I F.cmpKind_ne F.cmpSplit_ne (F.cmpArgs_ne _ _) ho (wpAny_mono body (fun fin s' hfin => ?_) fun _ _ z => z)))))
    obtain ⟨r, rfl, q⟩ := hfin
    exact wpAny_pure ⟨_, rfl, q⟩
  unfold richCompare
  simp only [oneThing_ref]
  refine wpAny_holding (wpAny_bind (wpAny_cRoomFor (Nat.lt_of_succ_lt hu) ?_))
  rw [cmpInfo_NotEq]
  dsimp only
  refine wpAny_bind (I.type.here (wpAny_bind (hb.here ?_)))
  split
  · rename_i q
    have e : subIn K tb (.ref C) = some false := by
      rcases hn with z | z
      · rw [z] at q
        simp at q
      · exact z
    refine wpAny_bind ((looks_subIn X e).here ?_)
    simp only [Bool.false_eq_true, if_false]
    refine wpAny_bind (wpAny_mono one (fun r s' z => ?_) fun _ _ z => z)
    obtain ⟨v, rfl, q⟩ := z
    exact wpAny_pure q
  · refine wpAny_bind (wpAny_pure ?_)
    simp only [Bool.false_eq_true, if_false]
    refine wpAny_bind (wpAny_mono one (fun r s' z => ?_) fun _ _ z => z)
    obtain ⟨v, rfl, q⟩ := z
    exact wpAny_pure q
end
end PySem
end
-- SdEq2
section
set_option Elab.async false
set_option linter.all false
set_option maxRecDepth 100000
set_option maxHeartbeats 4000000
set_option autoImplicit false
namespace Sd
open PySem PySem.Spec PyProof.Rows L2
open Evl (Ex)
/-- what is looked at of the class Line -/
def lineB (K : PySem.W.Frag) : Bool :=
  let C := He.ga K "Line"
  decide (PySem.W.findIn K (.ref C) "__class__" = some (some (.builtin "object.__class__"))) && decide (PySem.W.specialIn K (.builtin "object.__class__") "__get__" = some (some (.builtin "getset_descriptor.__get__"))) && decide (PySem.W.takesIn K (.builtin "object.__class__") = some true) &&
  decide (PySem.W.mroIn K C (.type "object") = some true) && decide (PySem.W.kitOne K (.type "tuple") (.ref C) = some false) && decide (PySem.W.kitOne K (.ref C) (.ref C) = some true) && decide (PySem.W.findIn K (.ref C) "__eq__" = some (some (.ref (He.fAd K ("Line", some "__eq__"))))) && PySem.W.isFn K (.ref (He.fAd K ("Line", some "__eq__"))) &&
  decide (PySem.W.findIn K (.ref C) "__ne__" = some (some (.builtin "object.__ne__"))) && decide (PySem.W.subIn K (.type "tuple") (.ref C) = some false) && decide (PySem.W.subIn K (.ref C) (.type "object") = some true)
structure LnF (K : PySem.W.Frag) : Prop where
  cc : PySem.W.findIn K (.ref (He.ga K "Line")) "__class__" = some (some (.builtin "object.__class__"))
  gt : PySem.W.specialIn K (.builtin "object.__class__") "__get__" = some (some (.builtin "getset_descriptor.__get__"))
  tk : PySem.W.takesIn K (.builtin "object.__class__") = some true
  mr : PySem.W.mroIn K (He.ga K "Line") (.type "object") = some true
  kt : PySem.W.kitOne K (.type "tuple") (.ref (He.ga K "Line")) = some false
  kl : PySem.W.kitOne K (.ref (He.ga K "Line")) (.ref (He.ga K "Line")) = some true
  eq : PySem.W.findIn K (.ref (He.ga K "Line")) "__eq__" = some (some (.ref (He.fAd K ("Line", some "__eq__"))))
  fn : PySem.W.isFn K (.ref (He.fAd K ("Line", some "__eq__"))) = true
  ne : PySem.W.findIn K (.ref (He.ga K "Line")) "__ne__" = some (some (.builtin "object.__ne__"))
  st : PySem.W.subIn K (.type "tuple") (.ref (He.ga K "Line")) = some false
  so : PySem.W.subIn K (.ref (He.ga K "Line")) (.type "object") = some true
theorem lineB_ok {K : PySem.W.Frag} (h : lineB K = true) : LnF K := by
  unfold lineB at h
  simp only [Bool.and_eq_true, decide_eq_true_eq] at h
  obtain ⟨⟨⟨⟨⟨⟨⟨⟨⟨⟨h1, h2⟩, h3⟩, h4⟩, h5⟩, h6⟩, h7⟩, h8⟩, h9⟩, h10⟩, h11⟩ := h
  exact ⟨h1, h2, h3, h4, h5, h6, h7, h8, h9, h10, h11⟩
/-! isinstance(x, Line) -/
def rdIsLn : D → (D → Prop) → Prop := fun d P => (∃ xs, d = .ln xs ∧ P (.bl true)) ∨ ∃ xs, d = .tup xs ∧ P (.bl false)
section
variable {X : Cx} {G : Gx} {e a b : Expr} {de da db : DE} {p p1 pos : Pos}
theorem pd_isLn (f : LnF X.K) (cl : Cls X.K (He.ga X.K "Line")) (hm : X.mg "isinstance" = none) (hl : X.mg "Line" = some (.ref (He.ga X.K "Line"))) (he : PEd X G e de) (hg : Gl X "isinstance" := by rfl) (hg1 : Gl X "Line" := by rfl)
    (hs : starEach [e, .Name "Line" p1] X.env = (false, eval e X.env) :: starEach [.Name "Line" p1] X.env := by rfl) (hs1 : starEach [.Name "Line" p1] X.env = (false, eval (.Name "Line" p1) X.env) :: starEach [] X.env := by rfl)
    (hpl : (backTo pos (starEach [.Name "Line" p1] X.env)).any (·.1) = false := by rfl) : PEd X G (.Call (.Name "isinstance" p) [e, .Name "Line" p1] [] pos) (de1 rdIsLn de) :=
  PE.imp (pe_callB call_isi hg hm (by decide +kernel) (pa_cons he (pa_cons (pe_glob (v := .ref (He.ga X.K "Line")) hg1 hl rfl) pa_nil hs1) hs) (he := hs) (hpl := hpl)) fun σ H Q ⟨B, δ, P, s, h, q⟩ =>
    ⟨B, δ, _, s, h, fun v d B1 H1 m1 hd r1 => by
      rcases hd with ⟨xs, rfl, p⟩ | ⟨xs, rfl, p⟩
      · cases r1 with
        | ln h1 h2 hf ht ra => exact ⟨_, .ref (He.ga X.K "Line"), .ref (He.ga X.K "Line"), .ref (He.ga X.K "Line"), true, rfl, .own _, .base (.ins (m1.e _ _ h1) cl f.cc f.gt f.tk f.mr), f.kl, q _ _ B1 H1 m1 p (.bl _)⟩
      · have ty : TyX X.K H1 v (.type "tuple") := r1.ty m1.e (t := "tuple") rfl
        exact ⟨v, .ref (He.ga X.K "Line"), .type "tuple", .ref (He.ga X.K "Line"), false, rfl, .own _, ty, f.kt, q _ _ B1 H1 m1 p (.bl _)⟩⟩
/-! == and != -/
/-- a def run from below the body: k deep enough -/
theorem run_at {CX : CXT} {k : Nat} {f : Addr} {fd : FuncData} {ps : List Str} {sp : Sp} {E : XK} {A : Around} {pins : List (Addr × Obj)} {σ : L2.St} {H : Hp} {s : Shared} {Q : VK} {us : List Value} {vs : List V} (F : FnOk X.prog X.w X.K X.mg X.base CX k f fd ps sp) (hr : Room k A) (hA : A.frames = X.A.frames)
    (hb : Binds X.K fd ps []) (hx : Passes CX X E) (I : Inv X pins σ H s) (r : Vals vs us) (h : sp vs H Q E) : wpAny (model X.prog X.w) A (call (.ref f) us) (EP X pins σ Q) X.xe s := by
  have e := I.env0
  have e0 : Env0 X.prog X.w X.K X.mg X.base A X.stack s H := ⟨by rw [hA]; exact e.frames, e.mod, e.bs, e.bsz, e.funs, e.frf, e.hok, e.bare⟩
  have hl : us.length = ps.length := by rw [← r.length]; exact F.len _ _ _ _ h
  have bt := hb s us I.kIn (by rw [List.append_nil]; exact hl)
  rw [List.append_nil] at bt
  refine wpAny_call (codeAny_mono (F.run A X.stack s H ⟨us, []⟩ us vs Q E hr e0 bt r h) fun out s' hq => ?_)
  cases out with
  | error u => exact hx pins σ H s u s' I hq
  | ok fl =>
    cases fl with
    | ret u => exact I.after hq
    | next => exact False.elim hq
    | brk => exact False.elim hq
    | cont => exact False.elim hq
/-- Line.__eq__ -/
def sp_eqLine : DSp := fun _ ds O => ∃ xs d, ds = [.ln xs, d] ∧ ((∃ ys, d = .ln ys ∧ (D.tup xs).eqOk = true ∧ (D.tup ys).eqOk = true ∧ O (.ret (.bl ((D.tup xs).eqv (.tup ys))))) ∨ ∃ ys, d = .tup ys ∧ O (.ret (.bl false)))
structure LnEq (P : Program) (w : World) (K : PySem.W.Frag) (mg : Str → Option Value) (base : Heap) (k : Nat) : Prop where
  f : LnF K
  ex : ∃ fd : FuncData, FnOk P w K mg base (L2.CX P w) k (He.fAd K ("Line", some "__eq__")) fd ["self", "other"] (spD K sp_eqLine) ∧ Binds K fd ["self", "other"] []
def rdEqL : D → D → (D → Prop) → Prop := fun x y P => ∃ xs ys, x = .ln xs ∧ y = .ln ys ∧ (D.tup xs).eqOk = true ∧ (D.tup ys).eqOk = true ∧ P (.bl ((D.tup xs).eqv (.tup ys)))
def rdNeL : D → D → (D → Prop) → Prop := fun x y P => ∃ xs ys, x = .ln xs ∧ y = .tup ys ∧ P (.bl true)
theorem op_eqL {k : Nat} (c : LnEq X.prog X.w X.K X.mg X.base k) (hr : Room k X.A) : OpR X (compareOp .Eq) (fun x y H Q => ∃ a b dx dy fs gs, x = .ref a ∧ y = .ref b ∧ H a = some (.ins (He.ga X.K "Line") dx fs) ∧ H b = some (.ins (He.ga X.K "Line") dy gs) ∧ spD X.K sp_eqLine [x, y] H (fun v H' => (∃ r, v = .bl r) ∧ Q v H') E0) := by
  obtain ⟨fd, F, hb⟩ := c.ex
  intro pins s σ H x y v u Q I rx ry ⟨a, b, dx, dy, fs, gs, ex, ey, ha, hb', h⟩
  subst ex ey
  cases rx
  cases ry
  obtain ⟨mA, J, _⟩ := ins_get I.hok ha
  obtain ⟨mB, J', _⟩ := ins_get I.hok hb'
  obtain ⟨od, J, _⟩ := J.look
  obtain ⟨od', J', _⟩ := J'.look
  obtain ⟨m, hF⟩ := I.fr
  show wpAny (model X.prog X.w) X.A (richCompare .Eq (.ref a) (.ref b)) (EP X pins σ Q) X.xe s
  refine PySem.W.cmp_K (op := .Eq) (tb := .ref (He.ga X.K "Line")) hr.units0 hF I.ok.mod.kin J J'.type (by simp [PySem.W.notFirst]) c.f.eq c.f.fn ?_
  have rv : Vals [V.ref a, V.ref b] [Value.ref a, Value.ref b] := .cons rfl (.cons rfl .nil)
  refine wpAny_mono (run_at (A := X.A) F hr rfl hb (E := E0) passL I rv h) (fun w' s' ⟨z, H', I', rz, ⟨r, ez⟩, q⟩ => ?_) fun _ _ z => z
  subst ez
  cases rz
  exact ⟨.bl r, H', I', rfl, q⟩
theorem op_neL {k : Nat} (c : LnEq X.prog X.w X.K X.mg X.base k) (hr : Room (k + 1) X.A) : OpR X (compareOp .NotEq) (fun x y H Q => ∃ a b dx fs ys, x = .ref a ∧ y = .ref b ∧ H a = some (.ins (He.ga X.K "Line") dx fs) ∧ SqT X.K H b ys ∧ spD X.K sp_eqLine [x, y] H (fun v H' => ∃ r, v = .bl r ∧ Q (.bl (!r)) H') E0) := by
  obtain ⟨fd, F, hb⟩ := c.ex
  intro pins s σ H x y v u Q I rx ry ⟨a, b, dx, fs, ys, ex, ey, ha, hb', h⟩
  subst ex ey
  cases rx
  cases ry
  obtain ⟨mA, J, _⟩ := ins_get I.hok ha
  obtain ⟨od, J, _⟩ := J.look
  obtain ⟨its, _, ⟨o, e1, e2, _⟩, _⟩ := I.tuple hb'
  have LT : PySem.W.Looks (model X.prog X.w) s.heap (typeOf (.ref b)) (.type "tuple") := fun A Q E s' k q => wpAny_typeOf_ref (k _ _ e1) (by rw [e2]; exact q)
  show wpAny (model X.prog X.w) X.A (richCompare .NotEq (.ref a) (.ref b)) (EP X pins σ Q) X.xe s
  refine PySem.sdq_ne I.kIn J LT (.inr c.f.st) (by have := hr.un; omega) c.f.ne c.f.so c.f.eq c.f.fn ?_
  have rv : Vals [V.ref a, V.ref b] [Value.ref a, Value.ref b] := .cons rfl (.cons rfl .nil)
  refine wpAny_mono (run_at (A := X.A.in1) F hr.in1 rfl hb (E := E0) passL I rv h) (fun w' s' ⟨z, H', I', rz, r, ez, q⟩ => ?_) fun _ _ z => z
  subst ez
  cases rz
  exact ⟨r, rfl, .bl _, H', I', rfl, q⟩
theorem pd_eqL {k j : Nat} (c : LnEq X.prog X.w X.K X.mg X.base k) (hr : Room j X.A) (hk : k ≤ j) (ha : PEd X G a da) (hb : PEd X G b db) : PEd X G (.Compare a [.Eq] [b] pos) (de2 rdEqL da db) :=
  pd_cmp (op_eqL c (hr.mono hk)) (fun x y d e B H P Q he hf rx ry ⟨xs, ys, h1, h2, k1, k2, p⟩ q => by
    subst h1 h2
    have rx' := rx
    have ry' := ry
    cases rx with
    | ln a1 a2 a3 a4 a5 =>
    cases ry with
    | ln b1 b2 b3 b4 b5 =>
      exact ⟨_, _, _, _, _, _, rfl, rfl, he _ _ a1, he _ _ b1, G.F, B, [.ln xs, .ln ys], (fun o => o = .ret (.bl ((D.tup xs).eqv (.tup ys)))), he, hf, .cons rx' (.cons ry' .nil), ⟨xs, .ln ys, rfl, .inl ⟨ys, rfl, k1, k2, rfl⟩⟩, fun v d B' H' m o r => by
        cases o
        cases r
        exact ⟨⟨_, rfl⟩, q _ _ B' H' m p (.bl _)⟩, fun n d dd v B' H' o => by cases o⟩) ha hb (nomark _)
theorem pd_neL {k j : Nat} (c : LnEq X.prog X.w X.K X.mg X.base k) (hr : Room j X.A) (hk : k + 1 ≤ j) (ha : PEd X G a da) (hb : PEd X G b db) : PEd X G (.Compare a [.NotEq] [b] pos) (de2 rdNeL da db) :=
  pd_cmp (op_neL c (hr.mono hk)) (fun x y d e B H P Q he hf rx ry ⟨xs, ys, h1, h2, p⟩ q => by
    subst h1 h2
    have rx' := rx
    have ry' := ry
    cases rx with
    | ln a1 a2 a3 a4 a5 =>
    cases ry with
    | tup b1 b5 =>
      exact ⟨_, _, _, _, _, rfl, rfl, he _ _ a1, exT he b1, G.F, B, [.ln xs, .tup ys], (fun o => o = .ret (.bl false)), he, hf, .cons rx' (.cons ry' .nil), ⟨xs, .tup ys, rfl, .inr ⟨ys, rfl, rfl⟩⟩, fun v d B' H' m o r => by
        cases o
        cases r
        exact ⟨_, rfl, q _ _ B' H' m p (.bl _)⟩, fun n d dd v B' H' o => by cases o⟩) ha hb (nomark _)
end
end Sd
end
-- SdRepr
section
set_option Elab.async false
set_option linter.all false
set_option maxRecDepth 100000
set_option maxHeartbeats 4000000
set_option autoImplicit false
namespace Sd
open PySem PySem.Spec PyProof.Rows L2
open Evl (Ex)
/-! ### repr of small data -/
def D.rok : Nat → D → Bool
  | _, .non => true
  | _, .bl _ => true
  | _, .int i => decide (i.natAbs < 1000000)
  | _, .str s => PyData.strOk s && decide (s.cps.size ≤ 100)
  | n + 1, .lst xs => decide (xs.length ≤ 30) && xs.all (D.rok n)
  | n + 1, .tup xs => decide (xs.length ≤ 30) && xs.all (D.rok n)
  | _, _ => false
def wB : Nat → Nat
  | 0 => 100
  | n + 1 => 30 * (wB n + 1)
structure Shw (n : Nat) (d : D) : Prop where
  p : d.plain = true
  c : d.py.canLay0 = true
  t : d.py.depth ≤ n
  w : d.py.weight ≤ wB n
  i : d.py.intsShort 13 = true
  s : d.py.showable = true
  h : d.py.hasDict = false
theorem wB_le : ∀ n : Nat, 100 ≤ wB n
  | 0 => Nat.le_refl _
  | n + 1 => by
    have := wB_le n
    show 100 ≤ 30 * (wB n + 1)
    omega
theorem log_lt {i : Int} (h : i.natAbs < 1000000) : i.natAbs.log2 < 20 := by
  by_cases h0 : i.natAbs = 0
  · rw [h0]
    decide
  · exact (Nat.log2_lt h0).mpr (by omega)
theorem shw_leaf (n : Nat) (d : D) (h : d.rok n = true) (hl : d.seq = none) : Shw n d := by
  have w0 := wB_le n
  cases d with
  | non => exact ⟨rfl, rfl, Nat.zero_le _, Nat.zero_le _, rfl, rfl, rfl⟩
  | bl b => exact ⟨rfl, rfl, Nat.zero_le _, Nat.zero_le _, rfl, rfl, rfl⟩
  | int i =>
    have hi : i.natAbs < 1000000 := by cases n <;> simpa [D.rok] using h
    have hlog := log_lt hi
    refine ⟨rfl, rfl, Nat.zero_le _, ?_, ?_, ?_, rfl⟩
    · simp only [D.py, PyData.weight]
      split <;> omega
    · simp only [D.py, PyData.intsShort, decide_eq_true_eq]
      show (Str.ofString (toString i)).length ≤ 13
      rw [PySem.ofString_length]
      have := int_text_length_le10 (a := i) (k := 6) (by decide) (by omega)
      omega
    · simp only [D.py, PyData.showable, decide_eq_true_eq]
      omega
  | str z =>
    have hz : PyData.strOk z = true ∧ z.cps.size ≤ 100 := by cases n <;> simpa [D.rok] using h
    exact ⟨rfl, hz.1, Nat.zero_le _, Nat.le_trans hz.2 w0, rfl, rfl, rfl⟩
  | lst xs => cases hl
  | tup xs => cases hl
  | raw v => cases n <;> cases h
  | dct => cases n <;> cases h
  | ln xs => cases n <;> cases h
theorem shw : ∀ (n : Nat) (d : D), d.rok n = true → Shw n d := by
  intro n
  induction n with
  | zero =>
    intro d h
    refine shw_leaf 0 d h ?_
    cases d <;> first | rfl | cases h
  | succ n ih =>
    have all : ∀ xs : List D, xs.all (D.rok n) = true → D.plainA xs = true ∧ PyData.canLayAll0 (D.pyA xs) = true ∧ PyData.depthAll (D.pyA xs) ≤ n ∧ PyData.weightAll (D.pyA xs) ≤ xs.length * (wB n + 1) ∧ PyData.intsShortAll 13 (D.pyA xs) = true ∧ PyData.showableAll (D.pyA xs) = true ∧ PyData.hasDictAll (D.pyA xs) = false := by
      intro xs
      induction xs with
      | nil => exact fun _ => ⟨rfl, rfl, Nat.zero_le _, Nat.zero_le _, rfl, rfl, rfl⟩
      | cons x xs ihx =>
        intro h
        rw [List.all_cons, Bool.and_eq_true] at h
        have q := ih x h.1
        obtain ⟨g1, g2, g3, g4, g5, g6, g7⟩ := ihx h.2
        refine ⟨by rw [D.plainA, q.p, g1]; rfl, by rw [D.pyA, PyData.canLayAll0, q.c, g2]; rfl, ?_, ?_, by rw [D.pyA, PyData.intsShortAll, q.i, g5]; rfl, by rw [D.pyA, PyData.showableAll, q.s, g6]; rfl, by rw [D.pyA, PyData.hasDictAll, q.h, g7]; rfl⟩
        · rw [D.pyA, PyData.depthAll]
          exact Nat.max_le.mpr ⟨q.t, g3⟩
        · rw [D.pyA, PyData.weightAll, List.length_cons, Nat.add_mul]
          have := q.w
          omega
    intro d h
    cases d with
    | lst xs =>
      simp only [D.rok, Bool.and_eq_true, decide_eq_true_eq] at h
      obtain ⟨g1, g2, g3, g4, g5, g6, g7⟩ := all xs h.2
      have gw : xs.length * (wB n + 1) ≤ 30 * (wB n + 1) := Nat.mul_le_mul_right _ h.1
      exact ⟨by simpa [D.plain] using g1, by simpa [D.py, PyData.canLay0] using g2, by simpa [D.py, PyData.depth] using g3, by simp only [D.py, PyData.weight, wB]; omega, by simpa [D.py, PyData.intsShort] using g5, by simpa [D.py, PyData.showable] using g6, by simpa [D.py, PyData.hasDict] using g7⟩
    | tup xs =>
      simp only [D.rok, Bool.and_eq_true, decide_eq_true_eq] at h
      obtain ⟨g1, g2, g3, g4, g5, g6, g7⟩ := all xs h.2
      have gw : xs.length * (wB n + 1) ≤ 30 * (wB n + 1) := Nat.mul_le_mul_right _ h.1
      exact ⟨by simpa [D.plain] using g1, by simpa [D.py, PyData.canLay0] using g2, by simpa [D.py, PyData.depth] using g3, by simp only [D.py, PyData.weight, wB]; omega, by simpa [D.py, PyData.intsShort] using g5, by simpa [D.py, PyData.showable] using g6, by simpa [D.py, PyData.hasDict] using g7⟩
    | _ => exact shw_leaf (n + 1) _ h rfl
theorem Shw.len {n : Nat} {d : D} (q : Shw n d) (hn : n ≤ 2) : d.py.shown.length ≤ sizeLine := by
  have hw : wB n ≤ wB 2 := by
    have : n = 0 ∨ n = 1 ∨ n = 2 := by omega
    rcases this with rfl | rfl | rfl <;> decide
  have l0 : d.py.layable0 = true := by
    unfold PyData.layable0
    have h1 := q.t
    have h2 := q.w
    have h3 : wB 2 ≤ 2 ^ 20 := by decide
    rw [q.c, decide_eq_true (show d.py.depth ≤ 64 by omega), decide_eq_true (show d.py.weight ≤ 2 ^ 20 by omega)]
    rfl
  have := PyProof.Rows.shown_le13 l0 q.i
  rw [sizeLine_eq]
  omega
theorem call_repr {X : Cx} (hg : X.A.guards = some []) (hu : X.A.units + 64 < cLine) : CallR X (.builtin "repr") (fun xs H Q => ∃ (a : Addr) (d : PyData), xs = [.ref a] ∧ Dp X.K H (.ref a) d ∧ d.showable = true ∧ d.hasDict = false ∧ d.depth ≤ 60 ∧ d.shown.length ≤ sizeLine ∧ Q (.str d.shown) H) := by
  intro pins s σ H xs us Q I r ⟨a, d, e, hd, h1, h2, h3, h4, q⟩
  subst e
  rw [Vals.ref1 r]
  obtain ⟨as, rd⟩ := Dp.reads I d (.ref a) (.ref a) hd rfl
  exact repr_of_reads' rd h1 (PyData.noDict_hsm h2) hg (by omega) (fun b o e => e) (fun h' u tk hk => ⟨.str d.shown, H, I.kept hk, ⟨u, rfl⟩, q⟩) h4
def rdRepr : List D → (D → Prop) → Prop := fun ds P => ∃ d, ds = [d] ∧ (d.isL || d.isU) = true ∧ d.rok 2 = true ∧ P (.str d.py.shown)
section
variable {X : Cx} {G : Gx} {e : Expr} {es : List Expr} {da : DA} {a b : Expr} {x y : DE} {p pos : Pos}
theorem pd_repr (hgd : X.A.guards = some []) (hu : X.A.units + 64 < cLine) (hm : X.mg "repr" = none) (ha : PAd X G (e :: es) da) (hg : Gl X "repr" := by rfl) (he : starEach (e :: es) X.env = (false, eval e X.env) :: starEach es X.env := by rfl) (hpl : (backTo pos (starEach es X.env)).any (·.1) = false := by rfl) :
    PEd X G (.Call (.Name "repr" p) (e :: es) [] pos) (deB rdRepr da) :=
  PE.imp (pe_callB (call_repr hgd hu) hg hm (by decide +kernel) ha (by decide) (by decide) he hpl) (teB fun xs ds B H P Q hb hf r ⟨d, h1, h2, h3, p⟩ q => by
    subst h1
    have sh := shw 2 d h3
    cases r with
    | cons rv rn =>
    cases rn
    have dp := dp_ex hb (rv.dp sh.p)
    have key : ∀ a : Addr, rv = rv → True := fun _ _ => trivial
    cases d with
    | lst zs =>
      cases rv with
      | lst g1 g2 => exact ⟨_, _, rfl, dp, sh.s, sh.h, by have := sh.t; omega, sh.len (Nat.le_refl _), q _ _ B H (.refl hb hf) p (.str _)⟩
    | tup zs =>
      cases rv with
      | tup g1 g2 => exact ⟨_, _, rfl, dp, sh.s, sh.h, by have := sh.t; omega, sh.len (Nat.le_refl _), q _ _ B H (.refl hb hf) p (.str _)⟩
    | _ => cases h2)
theorem op_neS : OpR X (compareOp .NotEq) (fun x y H Q => ∃ i j, x = .str i ∧ y = .str j ∧ Q (.bl (i != j)) H) := by
  intro pins s σ H x y v u Q I rx ry ⟨i, j, e1, e2, q⟩
  subst e1 e2
  obtain ⟨t, rfl⟩ := rx
  obtain ⟨t', rfl⟩ := ry
  exact PyProof.Rows.ne_str ⟨.bl _, H, I, rfl, q⟩
def rdNeS : D → D → (D → Prop) → Prop := fun x y P => ∃ i j, x = .str i ∧ y = .str j ∧ P (.bl (i != j))
theorem pd_neS (ha : PEd X G a x) (hb : PEd X G b y) : PEd X G (.Compare a [.NotEq] [b] pos) (de2 rdNeS x y) := pd_cmp op_neS (fun x y d e B H P Q he hf rx ry ⟨i, j, h1, h2, p⟩ q => by
  subst h1 h2
  cases rx
  cases ry
  exact ⟨i, j, rfl, rfl, q _ _ B H (.refl he hf) p (.bl _)⟩) ha hb (nomark _)
theorem ptd_neS (ha : PEd X G a x) (hb : PEd X G b y) : PTd X G (.Compare a [.NotEq] [b] pos) (dtV (de2 rdNeS x y)) := ptd_cmp op_neS (fun x y d e B H P Q he hf rx ry ⟨i, j, h1, h2, p⟩ q => by
  subst h1 h2
  cases rx
  cases ry
  exact ⟨i, j, rfl, rfl, q _ _ B H (.refl he hf) p (.bl _)⟩) ha hb (nomark _)
end
end Sd
end
-- SdEnd
section
set_option Elab.async false
set_option linter.all false
set_option maxRecDepth 100000
set_option maxHeartbeats 4000000
set_option autoImplicit false
/-! the end of a law whose def is run at the first caller only -/
namespace Sd
open PySem PySem.Spec PyProof.Rows L2
open LamX (TabB)
/-- what the law's def is asked at its one call: the script at a, the tables cs still empty, nothing else in the abstract heap -/
structure AtCall (P : Program) (w : World) (K : PySem.W.Frag) (mg : Str → Option Value) (cs : List (Addr × Addr)) (s1 : Shared) (a : Addr) (ns : List Int) (base : Heap) (H : Hp) : Prop where
  kin : K.In base
  glo : base.Ns mainGlobals mg
  tab : ∀ p ∈ cs, TabB base mg p.1 p.2
  env : Env0 P w K mg base callerA [] s1 H
  emp : ∀ p ∈ cs, H p.2 = some (.tbl #[])
  only : ∀ b u, H b = some u → (∃ p ∈ cs, p.2 = b) ∨ ∃ o xs, u = .frz o (.lst xs)
  scr : SqL K H a (ns.map V.int)
/-- the abstract heap at the call -/
def H0 (K : PySem.W.Frag) (cs : List (Addr × Addr)) (a : Addr) (vs : List Value) (ns : List Int) : Hp := fun b => if b ∈ cs.map (·.2) then some (.tbl #[]) else if b = a ∧ K.lookup a = none then some (.frz { cls := .type "list", data := .seq vs.toArray } (.lst (ns.map V.int))) else none
section
variable {K : PySem.W.Frag} {cs : List (Addr × Addr)} {a : Addr} {vs : List Value} {ns : List Int}
theorem H0_tab {b : Addr} (h : b ∈ cs.map (·.2)) : H0 K cs a vs ns b = some (.tbl #[]) := if_pos h
theorem H0_some {b : Addr} {u : HO} (h : H0 K cs a vs ns b = some u) : (b ∈ cs.map (·.2) ∧ u = .tbl #[]) ∨ (b ∉ cs.map (·.2) ∧ b = a ∧ K.lookup a = none ∧ u = .frz { cls := .type "list", data := .seq vs.toArray } (.lst (ns.map V.int))) := by
  unfold H0 at h
  by_cases h1 : b ∈ cs.map (·.2)
  · rw [if_pos h1] at h
    exact .inl ⟨h1, (Option.some.inj h).symm⟩
  · rw [if_neg h1] at h
    by_cases h2 : b = a ∧ K.lookup a = none
    · rw [if_pos h2] at h
      exact .inr ⟨h1, h2.1, h2.2, (Option.some.inj h).symm⟩
    · rw [if_neg h2] at h
      cases h
end
theorem law_at {P : Program} {w : World} {K : PySem.W.Frag} {mg mb : Str → Option Value} {fa a : Addr} {cs : List (Addr × Addr)} {s1 : Shared} {vs : List Value} {ns : List Int}
    (KX : K.In s1.heap) (hg : s1.heap.Ns mainGlobals mg) (hb : s1.heap.Ns builtinsNs mb) (hbb : ∀ x : Str, x ≠ "__name__" → mb x = bootBuiltins x) (hlim : s1.heap.NoLimit) (hgen : s1.gens = #[])
    (hT : ∀ p ∈ cs, s1.heap.get? p.2 = some { cls := .none, data := .fields #[] }) (nT : ∀ p ∈ cs, K.lookup p.2 = none) (hC : ∀ p ∈ cs, PySem.W.CodeHd s1.heap p.1 p.2)
    (hbm : ∃ (bm : Addr) (ob : Obj), mg "__builtins__" = some (.ref bm) ∧ bm ≠ builtinsNs ∧ s1.heap.get? bm = some ob ∧ ob.cls = .type "module" ∧ ob.dict = some builtinsNs ∧ ob.data = .plain)
    (ha : s1.heap.get? a = some { cls := .type "list", data := .seq vs.toArray }) (hi : IntsAre vs ns) (hl : ns.length ≤ sizeLine)
    (F : ∀ (base : Heap) (H : Hp), AtCall P w K mg cs s1 a ns base H → codeAny (model P w) callerA (.call (.ref fa) ⟨[.ref a], []⟩) (CR (L2.CX P w) [] P w H s1 (fun v _ => v = .bl true) E0) s1) :
    codeAny (model P w) callerA (.call (.ref fa) ⟨[.ref a], []⟩) (fun r s' => r = .ok (.ret (.bool true)) ∧ OldK s1.heap s'.heap ∧ s'.os = s1.os ∧ AllBare s'.gens) s1 := by
  have rv := vals_ints hi
  have tabAt : ∀ b ∈ cs.map (·.2), s1.heap.get? b = some { cls := .none, data := .fields #[] } ∧ K.lookup b = none := fun b hm => by
    obtain ⟨p, hp, rfl⟩ := List.mem_map.mp hm
    exact ⟨hT p hp, nT p hp⟩
  have aN : a ∉ cs.map (·.2) := fun z => by
    have q := (tabAt a z).1
    rw [ha] at q
    have q2 : Data.seq vs.toArray _ = Data.fields #[] := congrArg Obj.data (Option.some.inj q)
    cases q2
  -- what is tracked is a list or an empty table
  have plain : ∀ {b : Addr} {o : Obj}, s1.heap.get? b = some o → (∀ us n, o.data ≠ .seq us n) → o.data ≠ .fields #[] → H0 K cs a vs ns b = none := fun {b o} e k1 k2 => by
    cases q : H0 K cs a vs ns b with
    | none => rfl
    | some u =>
      rcases H0_some q with ⟨h1, _⟩ | ⟨_, h2, _⟩
      · rw [(tabAt b h1).1] at e
        cases e
        exact (k2 rfl).elim
      · rw [h2, ha] at e
        cases e
        exact (k1 _ _ rfl).elim
  have seen : ∀ {b : Addr} {o : Obj}, s1.heap.get? b = some o → (∀ us n, o.data ≠ .seq us n) → o.data ≠ .fields #[] → (hidT s1.heap (H0 K cs a vs ns)).get? b = some o := fun e k1 k2 => hidT_get e (plain e k1 k2)
  have nsAt : ∀ {b : Addr} {m : Str → Option Value}, s1.heap.Ns b m → (hidT s1.heap (H0 K cs a vs ns)).Ns b m := fun {b m} ⟨o, es, ep, e, d, r⟩ => ⟨o, es, ep, seen e (fun us n z => by rw [d] at z; cases z) (fun z => by rw [d] at z; cases z), d, r⟩
  have kin : K.In (hidT s1.heap (H0 K cs a vs ns)) := fun b o e => hidT_get (KX b o e) (by
    cases q : H0 K cs a vs ns b with
    | none => rfl
    | some u =>
      rcases H0_some q with ⟨h1, _⟩ | ⟨_, h2, h3, _⟩
      · rw [(tabAt b h1).2] at e
        cases e
      · rw [h2, h3] at e
        cases e)
  have tbs : ∀ p ∈ cs, TabB (hidT s1.heap (H0 K cs a vs ns)) mg p.1 p.2 := fun p hp => by
    have e0 := hT p hp
    refine ⟨?_, ?_, fun z => ?_⟩
    · obtain ⟨o, us, file, tf, flags, tg, inF, text, tt, g1, g2, g3, g4, g5, g6, g7, g8, g9, g10⟩ := hC p hp
      exact ⟨o, us, file, tf, flags, tg, inF, text, tt, seen g1 (fun us' n z => by rw [g3] at z; cases z) (fun z => by
        rw [g3] at z
        cases z
        simp at g4), g2, g3, g4, g5, g6, g7, g8, g9, g10⟩
    · obtain ⟨bm, ob, g1, g2, g3, g4, g5, g6⟩ := hbm
      refine ⟨bm, ob, g1, g2, fun z => ?_, fun z => ?_, seen g3 (fun us' n z => by rw [g6] at z; cases z) (fun z => by rw [g6] at z; cases z), g4, g5, g6⟩
      · obtain ⟨o, es, ep, e, d, _⟩ := hg
        rw [z, e] at g3
        cases g3
        rw [d] at g6
        cases g6
      · rw [z, e0] at g3
        cases g3
        cases g6
    · obtain ⟨o, es, ep, e, d, _⟩ := hg
      rw [z, e0] at e
      cases e
      cases d
  have hok : HOk P w (H0 K cs a vs ns) s1.heap := fun b u q => by
    rcases H0_some q with ⟨h1, rfl⟩ | ⟨_, h2, _, rfl⟩
    · exact (tabAt b h1).1
    · rw [h2]
      exact ⟨ha, by rw [List.length_map]; exact hl, vs, _, rv, ha⟩
  have env : Env0 P w K mg (hidT s1.heap (H0 K cs a vs ns)) callerA [] s1 (H0 K cs a vs ns) :=
    ⟨rfl, ⟨kin, nsAt hg, ⟨mb, nsAt hb, hbb⟩, let ⟨mc, h1, h2⟩ := hlim; ⟨mc, nsAt h1, h2⟩⟩, fun b o e => of_hidT e, Nat.le_of_eq (hidT_size _ _), trivial, fun b z => absurd (show b ∈ ([] : List Addr) from z) (by simp), hok, .of_eq hgen⟩
  have scr : SqL K (H0 K cs a vs ns) a (ns.map V.int) := by
    cases hk : K.lookup a with
    | none => exact .inl (.inr ⟨_, (if_neg aN).trans (if_pos ⟨rfl, hk⟩)⟩)
    | some o =>
      have e := KX a o hk
      rw [ha] at e
      cases e
      exact .inr ⟨_, vs.toArray, _, hk, rfl, rfl, rfl, by rw [List.size_toArray, hi.length]; exact hl, by simpa using rv⟩
  refine codeAny_mono (F _ _ ⟨kin, nsAt hg, tbs, env, fun p hp => H0_tab (List.mem_map.mpr ⟨p, hp, rfl⟩), fun b u q => ?_, scr⟩) fun r s' out => ?_
  · rcases H0_some q with ⟨h1, _⟩ | ⟨_, _, _, h4⟩
    · obtain ⟨p, hp, e⟩ := List.mem_map.mp h1
      exact .inl ⟨p, hp, e⟩
    · exact .inr ⟨_, _, h4⟩
  cases r with
  | error e =>
    obtain ⟨_, _, _, _, _, _, _, _, _, _, _, _, z⟩ := out
    exact z.elim
  | ok fl =>
    cases fl with
    | next => exact False.elim out
    | brk => exact False.elim out
    | cont => exact False.elim out
    | ret u =>
      obtain ⟨v, H', os, bare, un, hok', rel, ev⟩ := out
      have ev : v = .bl true := ev
      subst ev
      obtain rfl : u = Value.bool true := rel
      have kept : ∀ b o, b ∉ cs.map (·.2) → s1.heap.get? b = some o → s'.heap.get? b = some o := fun b o nb e => by
        cases q : H0 K cs a vs ns b with
        | none => exact un.keep b o e q (fun z => absurd (show b ∈ ([] : List Addr) from z) (by simp)) (by simp)
        | some u =>
          rcases H0_some q with ⟨h1, _⟩ | ⟨_, h2, h3, rfl⟩
          · exact (nb h1).elim
          · obtain ⟨g1, _⟩ := hok' b _ (un.frzs b _ _ q)
            obtain ⟨g2, _⟩ := hok b _ q
            rw [e] at g2
            cases g2
            exact g1
      have grown : ∀ b ∈ cs.map (·.2), ∃ more : Array Value, s'.heap.get? b = some { cls := .none, data := .fields more } := fun b hm => by
        obtain ⟨more, q⟩ := un.tbls b #[] (H0_tab hm)
        exact ⟨_, hok' b _ q⟩
      refine ⟨rfl, ⟨fun b o e => ?_, fun b o e => ?_⟩, os, bare⟩
      · by_cases hm : b ∈ cs.map (·.2)
        · obtain ⟨more, g⟩ := grown b hm
          obtain ⟨p, hp, ep⟩ := List.mem_map.mp hm
          rw [(tabAt b hm).1] at e
          cases e
          rw [← ep] at g ⊢
          exact .inr (.inl ⟨((hC p hp).tab (hT p hp)).isCodeTable, rfl, #[], more, rfl, by rw [Array.empty_append]; exact g⟩)
        · exact .inl (kept b o hm e)
      · by_cases hm : b ∈ cs.map (·.2)
        · obtain ⟨more, g⟩ := grown b hm
          exact ⟨_, g⟩
        · exact ⟨o, kept b o hm e⟩
/-- the end -/
theorem walk_at {l : PySem.W.OpenLaw} {n : Nat} {q : Program} {loose : List Str} {XP : (Str → Option Value) → Heap → Prop} {YP : World → Heap → Prop} {d : DefRec}
    (hn : l.most = some n) (hn2 : n ≤ sizeLine) (hdf : d.params.defaults = [])
    (F : ∀ (w : World) (mg : Str → Option Value) (fa : Addr) (h : Heap), YP w h → h.Ns mainGlobals mg → mg d.name = some (.ref fa) → ∃ (K : PySem.W.Frag) (cs : List (Addr × Addr)), K.In h ∧ (∀ p ∈ cs, h.get? p.2 = some { cls := .none, data := .fields #[] }) ∧ (∀ p ∈ cs, K.lookup p.2 = none) ∧ (∀ p ∈ cs, PySem.W.CodeHd h p.1 p.2) ∧
      ∀ (s1 : Shared) (a : Addr) (ns : List Int) (base : Heap) (H : Hp), s1.heap = h → ns.length ≤ n → AtCall l.prog w K mg cs s1 a ns base H → codeAny (model l.prog w) callerA (.call (.ref fa) ⟨[.ref a], []⟩) (CR (L2.CX l.prog w) [] l.prog w H s1 (fun v _ => v = .bl true) E0) s1) :
    PySem.W.WalkO q loose XP YP l.row.toRowW d [] (fun f vs => PySem.call f vs) := by
  refine Att.attach_callB hn hdf fun w s0 s1 mg mb fa o pm cd doc a vs ns G Y ho hd hcd hmg hobj hints hlen hbits hg => ?_
  obtain ⟨K, cs, KX, hT, nT, hC, hF⟩ := F w mg fa _ Y G.T.g hmg
  exact law_at KX G.T.g G.T.b G.T.builtins G.T.nolimit hg hT nT hC G.T.bmain hobj hints (Nat.le_trans hlen hn2) fun base H c => hF s1 a ns base H rfl hlen c
end Sd
end
-- SdMore
section
set_option Elab.async false
set_option linter.all false
set_option maxRecDepth 100000
set_option maxHeartbeats 4000000
set_option autoImplicit false
namespace Sd
open PySem PySem.Spec PyProof.Rows L2
open AutoSeq1 (wpAny_loadPart')
open MeetsSeq MeetsSeq2 MeetsSeq3 SeqRoads2
/-! a tuple once -/
theorem tuple_mul1 (l : Addr) (items : Array Value) (n : Nat) (dd : Option Addr) (sl : Array (Option Value)) (x : Int) (u : Tok) (hx : x = 1) :
    Meets (Builtin.«tuple.__mul__» ⟨[.ref l, .int x u], []⟩) (fun _ R s => s.heap.get? l = some { cls := .type "tuple", dict := dd, data := .seq items n, slots := sl } ∧ R (.ok (.ret (Value.ref l))) s) :=
  .of_wp fun prog w A R s h => by
    obtain ⟨hp, g, d, tk, os⟩ := s
    obtain ⟨hl, h⟩ := h
    have f1 := AutoSeq1.idx_int
    wp_walk using wpAny_loadPart' hl
    repeat (first
      | (refine wpAny_ite_false (decide_eq_false (by rw [hx]; decide)) ?_; wp_walk using wpAny_loadPart' hl)
      | (refine wpAny_ite_true (decide_eq_true (by rw [hx]; simp)) ?_; wp_walk using wpAny_loadPart' hl))
    exact ⟨_, rfl, h⟩
section
variable {X : Cx} {G : Gx} {a b : Expr} {da db : DE} {pos : Pos}
theorem op_repT1 : OpR X (binaryOp .Mult) (fun x y H Q => ∃ l xs, x = .ref l ∧ y = .int 1 ∧ SqT X.K H l xs ∧ Q (.ref l) H) := by
  intro pins s σ H x y v u Q I rx ry ⟨l, xs, e1, e2, hT, q⟩
  subst e1 e2
  cases rx
  obtain ⟨t, rfl⟩ := ry
  obtain ⟨its, r, ⟨⟨cls, dd, data, sl⟩, ho, hc, n, hd⟩, hs⟩ := I.tuple hT
  simp only at hc hd
  subst hc hd
  exact wpAny_binaryOp_repeat_ref (T := "tuple") (U := "int") (by decide) ⟨_, ho, rfl⟩ (fun s' => typeIs_int s' 1 t) noFill_tuple_mul F.fills_int_mul F.slot_int_rmul repeat_tuple F.slot_int_index.lookup
    (call_meets F.slot_int_rmul (typeIs_int s 1 t) F.entry_int_rmul (F.args_int_rmul_2 _ _) (int_rmul_tuple 1 t l its.toArray n dd sl)
      ⟨ho, rfl, ⟨_, ho, rfl⟩, call_meets F.slot_tuple_mul ⟨_, ho, rfl⟩ F.entry_tuple_mul (F.args_tuple_mul_2 _ _) (tuple_mul1 l its.toArray n dd sl 1 t rfl) ⟨ho, ⟨V.ref l, H, I, (show L2.RelV (V.ref l) (Value.ref l) from rfl), q⟩⟩⟩)
theorem OpR.or2 {m : Sem Value} {op : Value → Value → Sem Value} {r r' : R2} (h : OpR X op r) (h' : OpR X op r') : OpR X op (fun x y H Q => r x y H Q ∨ r' x y H Q) := fun pins s σ H x y v u Q I rx ry z => z.elim (fun z => h pins s σ H x y v u Q I rx ry z) fun z => h' pins s σ H x y v u Q I rx ry z
def rdRepT : D → D → (D → Prop) → Prop := fun x y P => ∃ xs n, x = .tup xs ∧ y = .int n ∧ xs ≠ [] ∧ xs.length ≤ 1000 ∧ 1 ≤ n ∧ n ≤ 1000 ∧ P (.tup (repD n xs))
theorem pd_repT (ha : PEd X G a da) (hb : PEd X G b db) : PEd X G (.BinOp a .Mult b pos) (de2 rdRepT da db) :=
  pd_op (OpR.or2 (m := pure .none) op_repT op_repT1) (fun x y d e B H P Q he hf rx ry ⟨xs, n, h1, h2, h3, h4, h5, h6, p⟩ q => by
    subst h1; subst h2
    cases rx with
    | @tup a0 vs0 ds0 hx ra =>
      cases ry
      by_cases h1 : n = 1
      · subst h1
        refine .inr ⟨_, _, rfl, rfl, exT he hx, q _ _ B H (.refl he hf) p ?_⟩
        have e : repD 1 xs = xs := by simp [repD]
        rw [e]
        exact .tup hx ra
      · refine .inl ⟨_, n, _, rfl, rfl, exT he hx, fun z => h3 (by
          have := ra.length
          rw [z] at this
          exact List.eq_nil_of_length_eq_zero this.symm), by omega, h6, by rw [ra.length]; exact h4, fun p' hp => ?_⟩
        have m2 := Fm.new (o := .tup (List.replicate n.toNat vs0).flatten) he hf hp
        exact q _ _ _ _ m2 p (.tup (SqT.of upd_same) ((ra.rep _).mono m2.b))) ha hb
/-- {} -/
theorem pd_dct : PEd X G (.Dict [] [] pos) (deC .dct) := PE.imp pe_dnewK fun σ H Q ⟨B, δ, P, s, h, q⟩ p hp => by
  have m2 := Fm.new (o := .dK []) s.e s.f hp
  exact q _ _ _ _ m2 h (.dct upd_same)
end
/-! in a lambda's body -/
section
variable {Y : Cx} {F : Fs} {B0 H0 : Hp} {k j i : Nat} {x y : Str} {sp : DSp} {dn : List D} {e : Expr} {es : List Expr} {da : DA} {p pos : Pos} {Xc : Str → D → Prop} {E : XK}
theorem lam_of {db : (Str → D → Prop) → DE} {E : XK} {e : Expr} (h : ∀ (B0 H0 : Hp) (Xc : Str → D → Prop), DlvX Y.K ⟨F, B0, H0⟩ Xc E → PEd Y ⟨F, B0, H0⟩ e (db Xc)) : PE Y e (lamT Y.K F db E) := lam_body fun G' Xc e1 e2 => by
  obtain ⟨F', B0, H0⟩ := G'
  cases e1
  exact h B0 H0 Xc e2
theorem lam_callX (c : Cl Y.prog Y.w Y.K Y.mg Y.base k x sp dn) (hr : Room j Y.A) (hk : k ≤ j) (hE : DlvX Y.K ⟨F, B0, H0⟩ Xc E) (hx : Passes (L2.CX Y.prog Y.w) Y E) (ha : PAd Y ⟨F, B0, H0⟩ (e :: es) da) (hg : Gl Y x := by rfl) (hdb : (x == ("__debug__" : Str)) = false := by decide)
    (he : starEach (e :: es) Y.env = (false, eval e Y.env) :: starEach es Y.env := by rfl) (hpl : (backTo pos (starEach es Y.env)).any (·.1) = false := by rfl) : PEd Y ⟨F, B0, H0⟩ (.Call (.Name x p) (e :: es) [] pos) (deCall sp F Xc dn da) := pd_callX c hr hk hE hx ha hg hdb he hpl
theorem lam_call (c : Cl Y.prog Y.w Y.K Y.mg Y.base k x sp dn) (hr : Room j Y.A) (hk : k ≤ j) (ha : PAd Y ⟨F, B0, H0⟩ (e :: es) da) (hg : Gl Y x := by rfl) (hdb : (x == ("__debug__" : Str)) = false := by decide)
    (he : starEach (e :: es) Y.env = (false, eval e Y.env) :: starEach es Y.env := by rfl) (hpl : (backTo pos (starEach es Y.env)).any (·.1) = false := by rfl) : PEd Y ⟨F, B0, H0⟩ (.Call (.Name x p) (e :: es) [] pos) (deCall sp F noX dn da) := pd_call c hr hk ha hg hdb he hpl
theorem lam_callV {a : Addr} (c : Cl Y.prog Y.w Y.K Y.mg Y.base k y sp []) (hg : Y.mg y = some (.ref a)) (hr : Room j Y.A) (hk : k ≤ j) (hE : DlvX Y.K ⟨F, B0, H0⟩ Xc E) (hx : Passes (L2.CX Y.prog Y.w) Y E) (hN : Y.N[i]? = some x) (hv : Vis Y.env.scope x) (ha : PAd Y ⟨F, B0, H0⟩ (e :: es) da)
    (hdb : (x == ("__debug__" : Str)) = false := by decide) (hcd : (x == ("__classdict__" : Str)) = false := by decide) (he : starEach (e :: es) Y.env = (false, eval e Y.env) :: starEach es Y.env := by rfl) (hpl : (backTo pos (starEach es Y.env)).any (·.1) = false := by rfl) :
    PEd Y ⟨F, B0, H0⟩ (.Call (.Name x p) (e :: es) [] pos) (deCallV i a sp F Xc da) := pd_callV c hg hr hk hE hx hN hv ha hdb hcd he hpl
theorem lam_line (c : Ln Y.prog Y.w Y.K Y.mg Y.base k) (hr : Room j Y.A) (hk : k + 1 ≤ j) (hE : DlvX Y.K ⟨F, B0, H0⟩ Xc E) (hx : Passes (L2.CX Y.prog Y.w) Y E) (ha : PAd Y ⟨F, B0, H0⟩ (e :: es) da) (hg : Gl Y "Line" := by rfl)
    (he : starEach (e :: es) Y.env = (false, eval e Y.env) :: starEach es Y.env := by rfl) (hpl : (backTo pos (starEach es Y.env)).any (·.1) = false := by rfl) : PEd Y ⟨F, B0, H0⟩ (.Call (.Name "Line" p) (e :: es) [] pos) (deCall sp_Line F Xc [] da) := pd_line c hr hk hE hx ha hg he hpl
end
end Sd
end
-- SdSeq
section
set_option Elab.async false
set_option linter.all false
set_option maxRecDepth 100000
set_option maxHeartbeats 4000000
set_option autoImplicit false
/-! more of lists: index, max with a default, sorted pairs, two own lists at once -/
namespace Sd
open PySem PySem.Spec PyProof.Rows L2
open Evl (Ex)
/-! xs.index(k), ints -/
def deIndex (de : DE) (da : DA) : DE := fun δ P => de δ fun x => ∃ ns : List Int, x = .lst (ns.map .int) ∧ da δ fun ys => ∃ k : Int, ys = [.int k] ∧ k ∈ ns ∧ P (.int ((ns.idxOf k : Nat) : Int))
theorem eqV_int (i j : Int) : eqV (.int i) (.int j) = decide (i = j) := by
  first | rfl | (simp [eqV])
section
variable {X : Cx} {G : Gx} {o e : Expr} {es : List Expr} {de : DE} {da : DA} {apos cpos pos p : Pos}
theorem pd_index (ho : PEd X G o de) (ha : PAd X G (e :: es) da) (hbase : attributeBase o "index" X.env (eval o X.env) = eval o X.env := by rfl)
    (hfew : ((backTo cpos (starEach (e :: es) X.env)).all (fun x => !x.1) && (backToKw cpos (keywordEach [] X.env)).all (fun x => x.1.isSome) && decide ((e :: es).length + ([] : List Keyword).length + (if ([] : List Keyword).isEmpty then 0 else 1) < 30)) = true := by rfl)
    (hline : (apos.endLine == cpos.line) = true := by rfl) (hs : starEach (e :: es) X.env = (false, eval e X.env) :: starEach es X.env := by rfl) (hplain : (backTo cpos (starEach es X.env)).any (·.1) = false := by rfl) :
    PEd X G (.Call (.Attribute o "index" apos) (e :: es) [] cpos) (deIndex de da) :=
  PE.imp (pe_bm PySem.F.plainAttrs_list PySem.F.slot_list_index PySem.F.type_list_index mt_index ho ha hbase hfew hline hs hplain) fun σ H Q ⟨B, δ, P, s, h, q⟩ => ⟨B, δ, _, s, h, fun x d B1 H1 m1 ⟨ns, e, p1⟩ r1 => by
    subst e
    cases r1 with
    | lst h1 ra =>
      rw [ra.ints] at h1
      refine ⟨.inl ⟨rfl, _, SqL.of (m1.e _ _ h1)⟩, B1, δ, _, s.mono m1, p1, fun vs ys B2 H2 m2 ⟨k, e2, hk, p2⟩ r2 => ?_⟩
      subst e2
      cases r2 with
      | cons rk rn =>
      cases rn
      cases rk
      have hlt : ns.idxOf k < ns.length := List.idxOf_lt_length_iff.mpr hk
      refine ⟨_, _, .int k, ns.idxOf k, .int k, rfl, rfl, SqL.of ((m2.b.trans m2.e) _ _ h1), rfl, ?_, ?_, ?_, fun m z hm hz => ?_, q _ _ B2 H2 (m1.trans m2) p2 (.int _)⟩
      · rw [List.all_eq_true]
        intro y hy
        obtain ⟨n, _, rfl⟩ := List.mem_map.mp hy
        rfl
      · rw [List.getElem?_map, List.getElem?_eq_getElem hlt, List.getElem_idxOf]
        rfl
      · rw [eqV_int]
        simp
      · rw [List.getElem?_map, Option.map_eq_some_iff] at hz
        obtain ⟨n, hn, rfl⟩ := hz
        rw [eqV_int]
        refine decide_eq_false fun e => ?_
        subst e
        obtain ⟨hm', hn'⟩ := List.getElem?_eq_some_iff.mp hn
        have hx := List.not_of_lt_findIdx (p := (· == n)) (xs := ns) (i := m) (by simpa [List.idxOf] using hm)
        simp [hn'] at hx⟩
end
end Sd
end
-- SdSort
section
set_option Elab.async false
set_option linter.all false
set_option maxRecDepth 100000
set_option maxHeartbeats 4000000
set_option autoImplicit false
/-! sorted(xs), pairs of ints -/
namespace Sd
open PySem PySem.Spec PyProof.Rows L2
open Evl (Ex)
def intIn : Value → Int
  | .int i _ => i
  | _ => 0
def pairAt (h : Heap) : Value → Int × Int
  | .ref t => match h.get? t with
    | some o => match o.data with
      | .seq its _ => (intIn (its[0]?.getD .none), intIn (its[1]?.getD .none))
      | _ => (0, 0)
    | none => (0, 0)
  | _ => (0, 0)
inductive PrA (R : V → Int × Int → Prop) : List V → List (Int × Int) → Prop
  | nil : PrA R [] []
  | cons {x p xs ps} : R x p → PrA R xs ps → PrA R (x :: xs) (p :: ps)
def rSortedPT (K : PySem.W.Frag) : List V → Hp → VK → Prop := fun vs H Q => ∃ (a : Addr) (xs : List V) (ps : List (Int × Int)) (R : V → Int × Int → Prop), vs = [V.ref a] ∧ SqL K H a xs ∧ (∀ x p, R x p → ∃ t, x = V.ref t ∧ SqT K H t [.int p.1, .int p.2]) ∧ PrA R xs ps ∧
  ∀ (ys : List V) (qs : List (Int × Int)) (l : Addr), PrA R ys qs → qs.Perm ps → qs.Pairwise (fun p q => SrtO.lexB q p = false) → H l = none → Q (.ref l) (upd H l (.lst ys))
theorem PrA.ref {R : V → Int × Int → Prop} {P : V → Prop} (h : ∀ x p, R x p → P x) : ∀ {xs ps}, PrA R xs ps → ∀ x ∈ xs, P x
  | _, _, .nil, x, m => nomatch m
  | _, _, .cons h1 h2, x, m => by
    rcases List.mem_cons.mp m with rfl | m
    · exact h _ _ h1
    · exact PrA.ref h h2 x m
theorem PrA.back {R : V → Int × Int → Prop} {k : Value → Int × Int} : ∀ {us : List Value} {ps}, PrA R (us.map backV) ps → (∀ u p, u ∈ us → R (backV u) p → k u = p) → us.map k = ps ∧ ∀ u ∈ us, R (backV u) (k u)
  | [], _, .nil, _ => ⟨rfl, fun u m => nomatch m⟩
  | u :: us, _, .cons h1 h2, h => by
    obtain ⟨e1, e2⟩ := PrA.back (k := k) h2 fun u p m => h u p (List.mem_cons_of_mem _ m)
    have e := h u _ List.mem_cons_self h1
    refine ⟨by rw [List.map_cons, e, e1], fun w m => ?_⟩
    rcases List.mem_cons.mp m with rfl | m
    · rw [e]; exact h1
    · exact e2 w m
theorem PrA.of {R : V → Int × Int → Prop} {k : Value → Int × Int} : ∀ {us : List Value}, (∀ u ∈ us, R (backV u) (k u)) → PrA R (us.map backV) (us.map k)
  | [], _ => .nil
  | u :: us, h => .cons (h u List.mem_cons_self) (PrA.of fun w m => h w (List.mem_cons_of_mem _ m))
section
variable {X : Cx}
theorem sp_at {pins : List (Addr × Obj)} {s : Shared} {σ : L2.St} {H : Hp} {t : Addr} {p : Int × Int} (I : Inv X pins σ H s) (h : SqT X.K H t [.int p.1, .int p.2]) : pairAt s.heap (.ref t) = p ∧ Srt.IsPair s.heap (.ref t) p.1 p.2 := by
  obtain ⟨its2, r2, ⟨o, ho, hc, n, hd⟩, _⟩ := I.tuple h
  obtain ⟨u1, u2, rfl, ri, rj⟩ := vals2 r2
  obtain ⟨t1, rfl⟩ := ri
  obtain ⟨t2, rfl⟩ := rj
  refine ⟨?_, t, o, t1, t2, n, rfl, ho, hc, hd⟩
  show pairAt s.heap (.ref t) = (p.1, p.2)
  simp only [pairAt, ho, hd]
  rfl
theorem cr_sortedPT : CallR X (.builtin "sorted") (rSortedPT X.K) := by
  intro pins s σ H vs us Q I r h
  obtain ⟨a, xs, ps, R, rfl, hs, hR, hx, q⟩ := h
  obtain ⟨its, rv, hl, hz⟩ := I.list hs
  obtain ⟨u, rfl, ru⟩ := vals1 r
  obtain rfl : u = Value.ref a := ru
  obtain ⟨e1, e2⟩ := refs_back rv (hx.ref (P := fun x => ∃ t, x = V.ref t) fun x p h => by
    obtain ⟨t, e, _⟩ := hR x p h
    exact ⟨t, e⟩)
  have hat : ∀ u p, u ∈ its → R (backV u) p → pairAt s.heap u = p ∧ Srt.IsPair s.heap u p.1 p.2 := fun u p m h => by
    obtain ⟨t, rfl⟩ := e2 u m
    obtain ⟨t', e, ht⟩ := hR _ _ h
    cases e
    exact sp_at I ht
  rw [e1] at hx
  obtain ⟨ek, er⟩ := hx.back (k := pairAt s.heap) fun u p m h => (hat u p m h).1
  refine SrtO.sorted_pairsO (k := pairAt s.heap) hl.isList (by rw [← rv.length]; exact hz) (fun v hv => (hat v _ hv (er v hv)).2) fun h' d out h1 h2 kp hd hn => ?_
  have h3 : ∀ u ∈ out, ∃ a, u = Value.ref a := fun u hu => e2 u (h2.perm.mem_iff.mp hu)
  obtain ⟨n, hn⟩ := hn
  refine ⟨.ref d, upd H d (.lst (out.map backV)), I.laid (t' := s.toks) kp hd ⟨?_, out, n, vals_back h3, hn⟩, rfl, q _ (out.map (pairAt s.heap)) d (.of fun u hu => er u (h2.perm.mem_iff.mp hu)) (by rw [← ek]; exact h2.perm.map _) (List.pairwise_map.mpr h1) (I.hok.fresh hd)⟩
  rw [List.length_map, h2.perm.length_eq, ← rv.length]
  exact hz
end
/-! over data -/
def prD (p : Int × Int) : D := .tup [.int p.1, .int p.2]
def rdSortedP : List D → (D → Prop) → Prop := fun ds P => ∃ ps : List (Int × Int), ds = [.lst (ps.map prD)] ∧ ∀ qs : List (Int × Int), qs.Perm ps → qs.Pairwise (fun p q => SrtO.lexB q p = false) → P (.lst (qs.map prD))
theorem PrA.rp {K : PySem.W.Frag} {B : Hp} : ∀ {ps : List (Int × Int)} {vs}, RpA K B vs (ps.map prD) → PrA (fun v p => Rp K B v (prD p)) vs ps
  | [], _, .nil => .nil
  | p :: ps, _, .cons h1 h2 => .cons h1 (PrA.rp h2)
theorem PrA.pr {K : PySem.W.Frag} {B : Hp} : ∀ {ps : List (Int × Int)} {vs}, PrA (fun v p => Rp K B v (prD p)) vs ps → RpA K B vs (ps.map prD)
  | [], _, .nil => .nil
  | p :: ps, _, .cons h1 h2 => .cons h1 (PrA.pr h2)
theorem snd_sortedP {X : Cx} {F : Fs} : SndC X.K F (rSortedPT X.K) rdSortedP := fun xs ds B H P Q he hf r ⟨ps, h1, p⟩ q => by
  subst h1
  cases r with
  | cons rx rn =>
    cases rn
    cases rx with
    | lst h ra =>
      refine ⟨_, _, ps, fun v p => Rp X.K B v (prD p), rfl, SqL.of (he _ _ h), fun x p r => ?_, PrA.rp ra, fun ys qs l hr hp hs hn => newL q (.refl he hf) (PrA.pr hr) (p qs hp hs) hn⟩
      generalize hd : prD p = d at r
      cases r with
      | tup h ra =>
        cases hd
        cases ra with
        | cons r1 rn => cases rn with
          | cons r2 rn => cases rn; cases r1; cases r2; exact ⟨_, rfl, exT he h⟩
      | _ => cases hd
end Sd
end
-- SdMaxD
section
set_option Elab.async false
set_option linter.all false
set_option maxRecDepth 100000
set_option maxHeartbeats 4000000
set_option autoImplicit false
/-! max(xs, default=d), ints -/
namespace Sd
open PySem PySem.Spec PyProof.Rows L2
open PySem.W (HoldAll maxOf DatumOrd max_list_datum_default)
open Evl (Ex)
theorem holdAll_ints {h : Heap} : ∀ {its : List Value} {ns : List Int}, IntsAre its ns → HoldAll h its ns
  | _, _, .nil => ⟨_, .nil⟩
  | _, _, .cons n t r => by
    obtain ⟨as, ra⟩ := holdAll_ints (h := h) r
    exact ⟨_, .cons (.int n t) ra⟩
theorem maxOf_ok : ∀ (xs : List Int) (x : Int), (maxOf x xs) ∈ x :: xs ∧ ∀ y ∈ x :: xs, y ≤ maxOf x xs
  | [], x => ⟨List.mem_cons_self, fun y m => by
    have e : y = x := by simpa using m
    subst e
    exact Int.le_refl _⟩
  | z :: xs, x => by
    obtain ⟨h1, h2⟩ := maxOf_ok xs (if DatumOrd.lt x z = true then z else x)
    have e : maxOf x (z :: xs) = maxOf (if DatumOrd.lt x z = true then z else x) xs := rfl
    rw [e]
    have hl : DatumOrd.lt x z = decide (x < z) := rfl
    rw [hl] at h1 h2 ⊢
    have h3 := h2 _ List.mem_cons_self
    refine ⟨?_, fun y m => ?_⟩
    · rcases List.mem_cons.mp h1 with h | h
      · rw [h]
        split <;> simp
      · exact List.mem_cons_of_mem _ (List.mem_cons_of_mem _ h)
    · rcases List.mem_cons.mp m with rfl | m
      · refine Int.le_trans ?_ h3
        split
        · rename_i q
          exact Int.le_of_lt (of_decide_eq_true q)
        · exact Int.le_refl _
      · rcases List.mem_cons.mp m with rfl | m
        · refine Int.le_trans ?_ h3
          split
          · exact Int.le_refl _
          · rename_i q
            simpa using q
        · exact h2 _ (List.mem_cons_of_mem _ m)
def rMaxD0 (K : PySem.W.Frag) : List V → List V → Hp → VK → Prop := fun vs zs H Q => ∃ (a : Addr) (ns : List Int) (i : Int), vs = [V.ref a] ∧ zs = [.int i] ∧ SqL K H a (ns.map V.int) ∧ (ns = [] → Q (.int i) H) ∧ ∀ m, m ∈ ns → (∀ y, y ∈ ns → y ≤ m) → Q (.int m) H
section
variable {X : Cx} {G : Gx} {e d : Expr} {de dd : DE} {p pos kpos : Pos}
theorem cr_maxD0 (hc : X.calm = true) (hu : X.A.units + 64 < cLine) : CallRK X (.builtin "max") [Str.ofString "default"] (rMaxD0 X.K) := by
  intro pins s σ H vs zs us ws Q I r rz h
  obtain ⟨a, ns, i, rfl, rfl, hs, q0, q1⟩ := h
  obtain ⟨its, rv, hl, _⟩ := I.list hs
  obtain rfl := Vals.ref1 r
  obtain ⟨w1, rfl, t, rfl⟩ := vals1 rz
  refine max_list_datum_default (α := Int) (xs := ns) (I.ok.hd hc) hl.isList (holdAll_ints rv.ints) (by show _ + 1 + 0 < _; omega) (fun e h' tk hk => ⟨.int i, H, I.kept hk, ⟨_, rfl⟩, q0 e⟩) fun y ys j v h' tk e hj hv hk => ?_
  obtain ⟨as, ra⟩ := hv
  have ev : ∃ t, v = .int (maxOf y ys) t := by
    generalize hm : (maxOf y ys : Int) = m at ra
    have ra' : Reads h' v (.int m) as := ra
    cases ra' with
    | int _ t => exact ⟨t, rfl⟩
  obtain ⟨t', rfl⟩ := ev
  subst e
  obtain ⟨h1, h2⟩ := maxOf_ok ys y
  exact ⟨.int (maxOf y ys), H, I.kept hk, ⟨_, rfl⟩, q1 _ h1 h2⟩
def deMaxD (de dd : DE) : DE := fun δ P => de δ fun x => ∃ ns : List Int, x = .lst (ns.map .int) ∧ dd δ fun z => ∃ i, z = .int i ∧ (ns = [] → P (.int i)) ∧ ∀ m, m ∈ ns → (∀ y, y ∈ ns → y ≤ m) → P (.int m)
theorem pd_maxD (hc : X.calm = true) (hu : X.A.units + 64 < cLine) (hm : X.mg "max" = none) (ha : PEd X G e de) (hd : PEd X G d dd) (hg : Gl X "max" := by rfl) (hs : starEach [e] X.env = (false, eval e X.env) :: starEach [] X.env := by rfl)
    (he : backTo pos (starEach [e] X.env) = (false, eval e X.env) :: backTo pos (starEach [] X.env) := by rfl) (hpl : (backTo pos (starEach [e] X.env)).any (·.1) = false := by rfl)
    (hall : (backToKw pos (keywordEach [⟨some "default", d, kpos⟩] X.env)).all (·.1.isSome) = true := by rfl) (hnone : (backToKw pos (keywordEach [⟨some "default", d, kpos⟩] X.env)).any (·.1.isNone) = false := by rfl) (hks : (backToKw pos (keywordEach [⟨some "default", d, kpos⟩] X.env)).filterMap (·.1) = [Str.ofString "default"] := by rfl) :
    PEd X G (.Call (.Name "max" p) [e] [⟨some "default", d, kpos⟩] pos) (deMaxD de dd) :=
  PE.imp (pe_callBK (cr_maxD0 hc hu) hg hm (by decide +kernel) (pa_cons ha pa_nil hs) (pk_cons hd pk_nil) (by decide) (by decide) he hpl hall hnone hks) fun σ H Q ⟨B, δ, P, s, h, q⟩ => ⟨B, δ, _, s, h, fun x dx B1 H1 m1 ⟨ns, e1, p1⟩ r1 => by
    subst e1
    cases r1 with
    | lst h1 ra =>
      rw [ra.ints] at h1
      exact ⟨B1, δ, _, s.mono m1, p1, fun z dz B2 H2 m2 ⟨i, e2, p2, p3⟩ r2 => by
        subst e2
        cases r2
        exact ⟨_, ns, i, rfl, rfl, SqL.of ((m2.b.trans m2.e) _ _ h1), fun e => q _ _ B2 H2 (m1.trans m2) (p2 e) (.int _), fun m hm1 hm2 => q _ _ B2 H2 (m1.trans m2) (p3 m hm1 hm2) (.int _)⟩⟩⟩
end
end Sd
end
-- SdPar
section
set_option Elab.async false
set_option linter.all false
set_option maxRecDepth 100000
set_option maxHeartbeats 4000000
set_option autoImplicit false
/-! several names at once, of which some are own lists -/
namespace Sd
open PySem PySem.Spec PyProof.Rows L2
open Evl (Ex)
def dxRep (da db : DE) : DX := fun δ P => da δ fun x => db δ fun y => ∃ xs n, x = .lst xs ∧ y = .int n ∧ 0 ≤ n ∧ n ≤ 100000 ∧ xs.length * n.toNat ≤ 100000 ∧ P (repD n xs)
def dsParOO (i j : Nat) (dx dy : DX) : DS := fun D δ => dx δ fun xs => dy δ fun ys => D.nx ((δ.set i (.own xs)).set j (.own ys))
def dsParDO (i j : Nat) (dx : DE) (dy : DX) : DS := fun D δ => dx δ fun x => dy δ fun ys => D.nx ((δ.set i (.dat x)).set j (.own ys))
def dsParDDO (i j l : Nat) (dx dy : DE) (dz : DX) : DS := fun D δ => dx δ fun x => dy δ fun y => dz δ fun zs => D.nx (((δ.set i (.dat x)).set j (.dat y)).set l (.own zs))
section
variable {X : Cx} {G : Gx} {e1 e2 e3 : Expr} {de df : DE} {dx dy : DX} {pos : Pos}
theorem pxd_rep (ha : PEd X G e1 de) (hb : PEd X G e2 df) : PXd X G (.BinOp e1 .Mult e2 pos) (dxRep de df) := PE.imp (pe_op op_rep ha hb) fun σ H Q ⟨B, δ, P, s, h, q⟩ =>
  ⟨B, δ, _, s, h, fun x d B1 H1 m1 p1 r1 => ⟨B1, δ, _, s.mono m1, p1, fun y e B2 H2 m2 ⟨xs, n, h1, h2, h3, h4, hl, p⟩ r2 => by
    subst h1; subst h2
    cases r1 with
    | lst hx ra =>
      cases r2
      refine ⟨_, n, _, rfl, rfl, (m2.b.trans m2.e) _ _ hx, by omega, by omega, by rw [ra.length]; exact size_ok hl, fun p' hp => newX q s.e s.f (m1.trans m2) ((ra.mono m2.b).rep _) p hp⟩⟩⟩
section
variable {i j : Nat} {x y : Str} {px py pt : Pos} {kt k2 : Nat} {pt2 : Pos}
theorem psd_parOO (hN : X.N.Nodup) (hi : X.N[i]? = some x) (hj : X.N[j]? = some y) (hij : i ≠ j) (ha : PXd X G e1 dx) (hb : PXd X G e2 dy) (hc : X.calm = true := by rfl)
    (hx : X.env.scope.names.lookup x = some .local := by rfl) (hy : X.env.scope.names.lookup y = some .local := by rfl) (h1 : starEach [e1, e2] X.env = (false, eval e1 X.env) :: starEach [e2] X.env := by rfl) (h2 : starEach [e2] X.env = (false, eval e2 X.env) :: starEach [] X.env := by rfl)
    (hw : swappedStores [.Tuple [.Name x px, .Name y py] kt pt] (.Tuple [e1, e2] k2 pt2) X.env = pure (some [x, y]) := by rfl) (hs : swapsWithSole [.Tuple [.Name x px, .Name y py] kt pt] (.Tuple [e1, e2] k2 pt2) pos.line X.env = pure false := by rfl) :
    PSd X G (.Assign [.Tuple [.Name x px, .Name y py] kt pt] (.Tuple [e1, e2] k2 pt2) pos) (dsParOO i j dx dy) := PS.imp (ps_par hc hN hi hj hij hx hy (pa_cons ha (pa_cons hb pa_nil h2) h1) hw hs) fun D σ H ⟨B, δ, DD, s, h, q⟩ =>
  ⟨B, δ, _, s, h, fun p vs ds B1 H1 m1 hp ns hb hl p1 r1 => ⟨B1, δ, _, s.mono m1, p1, fun p2 vs2 ds2 B2 H2 m2 hp2 ns2 hb2 hl2 q1 r2 => by
    have S1 := (s.mono m1).putOwn (i := i) (s.fresh0 hp ns) hb hl ns (s.own_ne hp) r1
    exact ⟨_, _, rfl, q.nx _ B2 H2 _ (m1.b.trans m2.b) ((S1.mono m2).putOwn (i := j) (S1.fresh0 hp2 ns2) hb2 hl2 ns2 (S1.own_ne hp2) r2) q1⟩⟩⟩
theorem psd_parDO (hN : X.N.Nodup) (hi : X.N[i]? = some x) (hj : X.N[j]? = some y) (hij : i ≠ j) (ha : PEd X G e1 de) (hb : PXd X G e2 dy) (hc : X.calm = true := by rfl)
    (hx : X.env.scope.names.lookup x = some .local := by rfl) (hy : X.env.scope.names.lookup y = some .local := by rfl) (h1 : starEach [e1, e2] X.env = (false, eval e1 X.env) :: starEach [e2] X.env := by rfl) (h2 : starEach [e2] X.env = (false, eval e2 X.env) :: starEach [] X.env := by rfl)
    (hw : swappedStores [.Tuple [.Name x px, .Name y py] kt pt] (.Tuple [e1, e2] k2 pt2) X.env = pure (some [x, y]) := by rfl) (hs : swapsWithSole [.Tuple [.Name x px, .Name y py] kt pt] (.Tuple [e1, e2] k2 pt2) pos.line X.env = pure false := by rfl) :
    PSd X G (.Assign [.Tuple [.Name x px, .Name y py] kt pt] (.Tuple [e1, e2] k2 pt2) pos) (dsParDO i j de dy) := PS.imp (ps_par hc hN hi hj hij hx hy (pa_cons ha (pa_cons hb pa_nil h2) h1) hw hs) fun D σ H ⟨B, δ, DD, s, h, q⟩ =>
  ⟨B, δ, _, s, h, fun v d B1 H1 m1 p1 r1 => ⟨B1, δ, _, s.mono m1, p1, fun p2 vs2 ds2 B2 H2 m2 hp2 ns2 hb2 hl2 q1 r2 => by
    have S1 := (s.mono m1).put (i := i) r1
    exact ⟨_, _, rfl, q.nx _ B2 H2 _ (m1.b.trans m2.b) ((S1.mono m2).putOwn (i := j) (S1.fresh0 hp2 ns2) hb2 hl2 ns2 (S1.own_ne hp2) r2) q1⟩⟩⟩
end
theorem psd_parDDO {i j l : Nat} {x y z : Str} {px py pz pt : Pos} {kt k2 : Nat} {pt2 : Pos} (hN : X.N.Nodup) (hi : X.N[i]? = some x) (hj : X.N[j]? = some y) (hl : X.N[l]? = some z) (hij : i ≠ j) (hil : i ≠ l) (hjl : j ≠ l) (ha : PEd X G e1 de) (hb : PEd X G e2 df) (hd : PXd X G e3 dy) (hc : X.calm = true := by rfl)
    (hx : X.env.scope.names.lookup x = some .local := by rfl) (hy : X.env.scope.names.lookup y = some .local := by rfl) (hz : X.env.scope.names.lookup z = some .local := by rfl)
    (h1 : starEach [e1, e2, e3] X.env = (false, eval e1 X.env) :: starEach [e2, e3] X.env := by rfl) (h2 : starEach [e2, e3] X.env = (false, eval e2 X.env) :: starEach [e3] X.env := by rfl) (h3 : starEach [e3] X.env = (false, eval e3 X.env) :: starEach [] X.env := by rfl)
    (hw : swappedStores [.Tuple [.Name x px, .Name y py, .Name z pz] kt pt] (.Tuple [e1, e2, e3] k2 pt2) X.env = pure (some [x, y, z]) := by rfl) (hs : swapsWithSole [.Tuple [.Name x px, .Name y py, .Name z pz] kt pt] (.Tuple [e1, e2, e3] k2 pt2) pos.line X.env = pure false := by rfl) :
    PSd X G (.Assign [.Tuple [.Name x px, .Name y py, .Name z pz] kt pt] (.Tuple [e1, e2, e3] k2 pt2) pos) (dsParDDO i j l de df dy) := PS.imp (ps_par3 hc hN hi hj hl hij hil hjl hx hy hz (pa_cons ha (pa_cons hb (pa_cons hd pa_nil h3) h2) h1) hw hs) fun D σ H ⟨B, δ, DD, s, h, q⟩ =>
  ⟨B, δ, _, s, h, fun v d B1 H1 m1 p1 r1 => ⟨B1, δ, _, s.mono m1, p1, fun v2 d2 B2 H2 m2 p2 r2 => ⟨B2, δ, _, (s.mono m1).mono m2, p2, fun p3 vs3 ds3 B3 H3 m3 hp3 ns3 hb3 hl3 q1 r3 => by
    have S1 := ((((s.mono m1).put (i := i) r1).mono m2).put (i := j) r2)
    exact ⟨_, _, _, rfl, q.nx _ B3 H3 _ ((m1.b.trans m2.b).trans m3.b) ((S1.mono m3).putOwn (i := l) (S1.fresh0 hp3 ns3) hb3 hl3 ns3 (S1.own_ne hp3) r3) q1⟩⟩⟩⟩
/-- the same where a name is kept in a cell: by way of a tuple -/
theorem psd_asgOO {i j : Nat} {x y : Str} {px py pt : Pos} {kt k2 : Nat} {pt2 : Pos} (hN : X.N.Nodup) (hi : X.N[i]? = some x) (hj : X.N[j]? = some y) (hij : i ≠ j) (hx : Loc X.env.scope x) (hy : Loc X.env.scope y) (ha : PXd X G e1 dx) (hb : PXd X G e2 dy) (hc : X.calm = true := by rfl)
    (h1 : starEach [e1, e2] X.env = (false, eval e1 X.env) :: starEach [e2] X.env := by rfl) (h2 : starEach [e2] X.env = (false, eval e2 X.env) :: starEach [] X.env := by rfl)
    (hf : X.fn x = true ∨ X.env.scope.names.lookup x = some .local := by first | exact .inl rfl | exact .inr rfl | assumption) (hf2 : X.fn y = true ∨ X.env.scope.names.lookup y = some .local := by first | exact .inl rfl | exact .inr rfl | assumption)
    (hs : swapsWithSole [.Tuple [.Name x px, .Name y py] kt pt] (.Tuple [e1, e2] k2 pt2) pos.line X.env = pure false := by rfl) (hw : swappedStores [.Tuple [.Name x px, .Name y py] kt pt] (.Tuple [e1, e2] k2 pt2) X.env = pure none := by rfl)
    (h3 : (assignEach [.Tuple [.Name x px, .Name y py] kt pt] X.env).map (·.2) = [assign (.Tuple [.Name x px, .Name y py] kt pt) X.env] := by rfl) :
    PSd X G (.Assign [.Tuple [.Name x px, .Name y py] kt pt] (.Tuple [e1, e2] k2 pt2) pos) (dsParOO i j dx dy) := PS.imp (ps_asg (pe_tup (pa_cons ha (pa_cons hb pa_nil h2) h1)) (pg_tup (n := 2) hc (pgs_cons (pg_name hN hi hx hf) (pgs_cons (pg_name hN hj hy hf2) pgs_nil))) hs hw h3) fun D σ H ⟨B, δ, DD, s, h, q⟩ =>
  ⟨B, δ, _, s, h, fun p vs ds B1 H1 m1 hp ns hb hl p1 r1 => ⟨B1, δ, _, s.mono m1, p1, fun p2 vs2 ds2 B2 H2 m2 hp2 ns2 hb2 hl2 q1 r2 => by
    have S1 := (s.mono m1).putOwn (i := i) (s.fresh0 hp ns) hb hl ns (s.own_ne hp) r1
    have S2 := (S1.mono m2).putOwn (i := j) (S1.fresh0 hp2 ns2) hb2 hl2 ns2 (S1.own_ne hp2) r2
    unfold tNil
    refine ⟨by show 2 ≤ _; decide, fun p3 hp3 => ⟨p3, _, rfl, SqT.of (K := X.K) upd_same, rfl, _, _, rfl, _, _, rfl, rfl, ?_⟩⟩
    exact q.nx _ B2 _ _ (m1.b.trans m2.b) (S2.mono (Fm.newH S2.e S2.f hp3)) q1⟩⟩
end
section
variable {i j l : Nat} {x y z : Str} {px py pz pt : Pos} {kt k2 : Nat} {pt2 : Pos} {X : Cx} {G : Gx} {e1 e2 e3 : Expr} {de df : DE} {dz : DX} {pos : Pos}
theorem psd_asgDDO (hN : X.N.Nodup) (hi : X.N[i]? = some x) (hj : X.N[j]? = some y) (hl : X.N[l]? = some z) (hx : Loc X.env.scope x) (hy : Loc X.env.scope y) (hz : Loc X.env.scope z) (ha : PEd X G e1 de) (hb : PEd X G e2 df) (hd : PXd X G e3 dz) (hc : X.calm = true := by rfl)
    (h1 : starEach [e1, e2, e3] X.env = (false, eval e1 X.env) :: starEach [e2, e3] X.env := by rfl) (h2 : starEach [e2, e3] X.env = (false, eval e2 X.env) :: starEach [e3] X.env := by rfl) (h4 : starEach [e3] X.env = (false, eval e3 X.env) :: starEach [] X.env := by rfl)
    (hf : X.fn x = true ∨ X.env.scope.names.lookup x = some .local := by first | exact .inl rfl | exact .inr rfl | assumption) (hf2 : X.fn y = true ∨ X.env.scope.names.lookup y = some .local := by first | exact .inl rfl | exact .inr rfl | assumption) (hf3 : X.fn z = true ∨ X.env.scope.names.lookup z = some .local := by first | exact .inl rfl | exact .inr rfl | assumption)
    (hs : swapsWithSole [.Tuple [.Name x px, .Name y py, .Name z pz] kt pt] (.Tuple [e1, e2, e3] k2 pt2) pos.line X.env = pure false := by rfl) (hw : swappedStores [.Tuple [.Name x px, .Name y py, .Name z pz] kt pt] (.Tuple [e1, e2, e3] k2 pt2) X.env = pure none := by rfl)
    (h3 : (assignEach [.Tuple [.Name x px, .Name y py, .Name z pz] kt pt] X.env).map (·.2) = [assign (.Tuple [.Name x px, .Name y py, .Name z pz] kt pt) X.env] := by rfl) :
    PSd X G (.Assign [.Tuple [.Name x px, .Name y py, .Name z pz] kt pt] (.Tuple [e1, e2, e3] k2 pt2) pos) (dsParDDO i j l de df dz) := PS.imp (ps_asg (pe_tup (pa_cons ha (pa_cons hb (pa_cons hd pa_nil h4) h2) h1)) (pg_tup (n := 3) hc (pgs_cons (pg_name hN hi hx hf) (pgs_cons (pg_name hN hj hy hf2) (pgs_cons (pg_name hN hl hz hf3) pgs_nil)))) hs hw h3) fun D σ H ⟨B, δ, DD, s, h, q⟩ =>
  ⟨B, δ, _, s, h, fun v d B1 H1 m1 p1 r1 => ⟨B1, δ, _, s.mono m1, p1, fun v2 d2 B2 H2 m2 p2 r2 => ⟨B2, δ, _, (s.mono m1).mono m2, p2, fun p3 vs3 ds3 B3 H3 m3 hp3 ns3 hb3 hl3 q1 r3 => by
    have S1 := ((((s.mono m1).put (i := i) r1).mono m2).put (i := j) r2)
    have S2 := (S1.mono m3).putOwn (i := l) (S1.fresh0 hp3 ns3) hb3 hl3 ns3 (S1.own_ne hp3) r3
    unfold tNil
    refine ⟨by show 3 ≤ _; decide, fun p4 hp4 => ⟨p4, _, rfl, SqT.of (K := X.K) upd_same, rfl, _, _, rfl, _, _, rfl, _, _, rfl, rfl, ?_⟩⟩
    exact q.nx _ B3 _ _ ((m1.b.trans m2.b).trans m3.b) (S2.mono (Fm.newH S2.e S2.f hp4)) q1⟩⟩⟩
end
/-- a list that is an own one or already a value: a value from here on -/
def dsFrzA (i : Nat) (t : DS) : DS := fun D δ => (∃ ds, δ[i]? = some (.own ds) ∧ t D (δ.set i (.dat (.lst ds)))) ∨ (∃ d, δ[i]? = some (.dat d) ∧ t D δ)
section
variable {X : Cx} {G : Gx} {st : Stmt} {t : DS}
theorem psd_frzA (i : Nat) (h : PSd X G st t) : PSd X G st (dsFrzA i t) := PS.imp h fun D σ H ⟨B, δ, DD, s, p, q⟩ => by
  rcases p with ⟨ds, hd, p⟩ | ⟨d, hd, p⟩
  · obtain ⟨B', e, s'⟩ := s.freeze hd
    exact ⟨B', _, DD, s', p, q.up e⟩
  · exact ⟨B, δ, DD, s, p, q⟩
end
end Sd
end
-- SdLcO
section
set_option Elab.async false
set_option linter.all false
set_option maxRecDepth 100000
set_option maxHeartbeats 4000000
set_option autoImplicit false
/-! comprehensions over an own list -/
namespace Sd
open PySem PySem.Spec PyProof.Rows L2
open Evl (Ex)
section
variable (K : PySem.W.Frag) (G : Gx)
def WkF (J : It) (xs : List D) (B H : Hp) : Prop := ∀ B2 H2, Fm K G.F B H B2 H2 →
  (∀ i, i < xs.length → J.go i H2 ∧ ∀ x H3, J.yld i H2 x H3 → ∃ B3 d, xs[i]? = some d ∧ Fm K G.F B2 H2 B3 H3 ∧ Rp K B3 x d) ∧ J.stop xs.length H2
def tiOfF (di : DI) : TI := fun σ H R => ∃ (B : Hp) (δ : List Sl) (P : List D → Prop), Stt K G σ B H δ ∧ di δ P ∧ ∀ J xs B' H', Fm K G.F B H B' H' → P xs → WkF K G J xs B' H' → R J H'
end
abbrev PIdF (X : Cx) (G : Gx) (tg iter : Expr) (di : DI) : Prop := PI X tg iter (tiOfF X.K G di)
def diOwn (i : Nat) : DI := fun δ P => ∃ xs, δ[i]? = some (.own xs) ∧ P xs
section
variable {X : Cx} {G : Gx} {tg : Expr} {x : Str} {px : Pos} {i : Nat}
theorem pid_nmO (hx : PE X (.Name x px) (tVar i)) : PIdF X G tg (.Name x px) (diOwn i) := by
  refine ⟨fun pins s σ H R I ⟨B, δ, P, st, ⟨xs, hd, h⟩, q⟩ => ?_⟩
  obtain ⟨l, vs, hi, h0, hb, hl, ra, ns⟩ := st.own hd
  refine thn (hx.run pins s σ H (fun v H1 => v = .ref l ∧ H1 = H) I ⟨_, hi, rfl, rfl⟩) fun v s1 ⟨x, H1, I1, r1, e1, e2⟩ => ?_
  subst e1 e2
  cases r1
  have fr : ∀ c ∈ [s1.heap.objs.size], FpOk X pins H1 c := fun c hb => by
    rw [List.mem_singleton.mp hb]
    exact I1.fpOk (Nat.le_refl _) (I1.hok.fresh (Nat.le_refl _))
  obtain ⟨its, rv, p, hz⟩ := I1.list (SqL.of (K := X.K) hl)
  refine wpAny_pyIter_list p.isList ⟨s1.heap.objs.size, [s1.heap.objs.size], _, _, H1, rfl, I1.kept (t' := s1.toks) fun c o e => Heap.get?_push_of_some _ e, turn_list l _, ⟨_, Heap.get?_push_size _ rfl, rfl, rfl⟩, fr, q _ xs B H1 st.here h fun B2 H2 m => ?_⟩
  obtain ⟨hb2, hl2⟩ := own_same m hb hl ns
  have hq : SqL X.K H2 l vs := SqL.of hl2
  refine ⟨fun i hi => ?_, ⟨vs, hq, by rw [ra.length]; exact Nat.le_refl _⟩⟩
  obtain ⟨v, hv, rv⟩ := ra.at (List.getElem?_eq_getElem hi)
  refine ⟨⟨vs, v, hq, hv⟩, fun x H3 ⟨e3, hy⟩ => ?_⟩
  have hx := hy vs hq
  rw [hv] at hx
  cases hx
  subst e3
  exact ⟨B2, _, List.getElem?_eq_getElem hi, .refl m.e m.f, rv.mono m.b⟩
end
section
variable {X : Cx} {G : Gx} {elt tg iter : Expr} {ifs : List Expr} {scope : Scope} {own : List (Str × Nat)} {pos : Pos} {di : DI} {dg : DG} {tt : DT} {de : DE}
theorem lc_ofF {σ : L2.St} {H : Hp} {Q : VK} (h : txOf X.K G (dxLc di dg tt de (own.map (·.2))) σ H Q) : tLc (tiOfF X.K G di) (tgcOf X.K G (own.map (·.2)) dg) (ttOf X.K G tt) (teOf X.K G de) (own.map (·.2)) σ H Q := by
  obtain ⟨B, δ, P, s, h, q⟩ := h
  refine ⟨B, δ, _, s, h, fun It xs B1 H1 m1 ⟨hlen, J, j0, js, jd⟩ wk => fun p hp => ?_⟩
  have s1 := s.mono m1
  have nS : ¬ G.F.S p := s1.noS hp
  have hp0 : ¬ Hd H p := m1.back (not_hd hp) nS
  refine ⟨fun i m H' => i + m = xs.length ∧ ∃ B' acc ws, Fm X.K G.F B1 H1 B' H' ∧ B' p = none ∧ H' p = some (.lst ws) ∧ RpA X.K B' ws acc ∧ acc.length ≤ i ∧ J i acc,
    ⟨xs.length, by omega, B1, [], [], Fm.newH m1.e m1.f hp, Evl.fresh_back m1.e hp, upd_same, .nil, Nat.le_refl 0, j0⟩, fun i m H' ⟨hm, B', acc, ws, mf, hb, hl, ra, hle, hj⟩ => ?_⟩
  obtain ⟨w1, w2⟩ := wk B' H' mf
  cases m with
  | zero =>
    have z : i = xs.length := by omega
    subst z
    exact .inl ⟨w2, q p ws acc B' H' (m1.trans mf) hp0 nS hb hl (jd acc hj) ra⟩
  | succ m =>
    have lt : i < xs.length := by omega
    obtain ⟨g1, g2⟩ := w1 i lt
    refine .inr ⟨g1, fun H2 => i + 1 + m = xs.length ∧ ∃ B2 acc2 ws2, Fm X.K G.F B1 H1 B2 H2 ∧ B2 p = none ∧ H2 p = some (.lst ws2) ∧ RpA X.K B2 ws2 acc2 ∧ acc2.length ≤ i + 1 ∧ J (i + 1) acc2, fun H2 z => ⟨m, by omega, z⟩, fun x H2 hy => ?_⟩
    obtain ⟨B2, d, hd, m2, r2⟩ := g2 x H2 hy
    have keep : ∀ {Ba Ha Bb Hb : Hp}, Fm X.K G.F Ba Ha Bb Hb → Ba p = none → Ha p = some (.lst ws) → Bb p = none ∧ Hb p = some (.lst ws) := fun mm h1 h2 => by
      obtain ⟨h3, h4⟩ := mm.o p h1 (.of h2)
      exact ⟨h3, (h4 nS).trans h2⟩
    have mf2 := mf.trans m2
    obtain ⟨hb2, hl2⟩ := keep m2 hb hl
    have ss : Stt X.K G (L2.wipe σ (own.map (·.2))) B2 H2 (wipeD δ (own.map (·.2))) := (s1.mono mf2).wipe _
    refine ⟨B2, wipeD δ (own.map (·.2)), d, _, ss, r2, js i d acc hd hj hle, fun σ2 δ2 ew s2 p2 => ⟨?_, B2, δ2, _, s2, p2, fun b B3 H3 m3 p3 => ?_⟩⟩
    · rw [ew]
      apply List.ext_getElem?
      intro k
      rw [wipe_at, L2.wipe_length, wipe_at]
      split <;> rfl
    · have mf3 := mf2.trans m3
      obtain ⟨hb3, hl3⟩ := keep m3 hb2 hl2
      cases b with
      | false => exact ⟨by omega, B3, acc, ws, mf3, hb3, hl3, (ra.mono m2.b).mono m3.b, by omega, p3⟩
      | true =>
        refine ⟨B3, δ2, _, s2.mono m3, p3, fun y d4 B4 H4 m4 p4 r4 => ?_⟩
        obtain ⟨hb4, hl4⟩ := keep m4 hb3 hl3
        refine ⟨ws, hl4, ?_, by omega, B4, acc ++ [d4], ws ++ [y], (mf3.trans m4).updNew hp hb4 hl4 nS, hb4, upd_same, (((ra.mono m2.b).mono m3.b).mono m4.b).app (.one r4), by rw [List.length_append]; simp; omega, p4⟩
        rw [ra.length]
        exact size_lt (by omega)
theorem pxd_lcF (hN : X.N.Nodup) (hi : PIdF X G tg iter di) (ok : blkC X.N X.env.scope scope own = true) (hg : ∀ (s : Shared) (H : Hp) (C : Addr) (cl : List (Str × Addr)) (fp : List Addr), PGcd (X.blk s H scope (compEnvC scope cl C X.env) fp) G (own.map (·.2)) tg dg)
    (ht : ∀ (s : Shared) (H : Hp) (C : Addr) (cl : List (Str × Addr)) (fp : List Addr), PTsd (X.blk s H scope (compEnvC scope cl C X.env) fp) G ifs tt) (he : ∀ (s : Shared) (H : Hp) (C : Addr) (cl : List (Str × Addr)) (fp : List Addr), PEd (X.blk s H scope (compEnvC scope cl C X.env) fp) G elt de)
    (hc : X.calm = true := by rfl) (hs : ∀ x, foldedSetIterable iter X.env x = pure x := by intro _; rfl) : PXd X G (.ListComp elt [⟨tg, iter, ifs, 0⟩] scope pos) (dxLc di dg tt de (own.map (·.2))) :=
  PE.imp (pe_lc (own := own) hc hN hi (blkOk_by ok) hg ht he hs) fun σ H Q h => lc_ofF h
theorem psd_setLcF {i : Nat} {y : Str} {py spos : Pos} (hN : X.N.Nodup) (hy : X.N[i]? = some y) (hyl : X.env.scope.names.lookup y = some .local) (hsw : swapsWith (.ListComp elt [⟨tg, iter, ifs, 0⟩] scope pos) (some (.Name y py)) spos.line X.env = pure true) (hi : PIdF X G tg iter di) (ok : blkC X.N X.env.scope scope own = true)
    (hg : ∀ (s : Shared) (H : Hp) (C : Addr) (cl : List (Str × Addr)) (fp : List Addr), PGcd (X.blk s H scope (compEnvC scope cl C X.env) fp) G (own.map (·.2)) tg dg)
    (ht : ∀ (s : Shared) (H : Hp) (C : Addr) (cl : List (Str × Addr)) (fp : List Addr), PTsd (X.blk s H scope (compEnvC scope cl C X.env) fp) G ifs tt) (he : ∀ (s : Shared) (H : Hp) (C : Addr) (cl : List (Str × Addr)) (fp : List Addr), PEd (X.blk s H scope (compEnvC scope cl C X.env) fp) G elt de)
    (hc : X.calm = true := by rfl) (hs : ∀ x, foldedSetIterable iter X.env x = pure x := by intro _; rfl) : PSd X G (.Assign [.Name y py] (.ListComp elt [⟨tg, iter, ifs, 0⟩] scope pos) spos) (dsAsg (deX (dxLc di dg tt de (own.map (·.2)))) (dgName i)) :=
  PS.imp (ps_setLc (own := own) hc hN hy hyl hsw hi (blkOk_by ok) hg ht he hs) fun D σ H ⟨B, δ, DD, s, h, q⟩ => lc_ofF ⟨B, δ, _, s, h, fun p vs ds B' H' m hp ns hb hl pz r => by
    have e1 : Ex B' (upd B' p (.lst vs)) := Evl.Ex.new hb
    have e2 : Ex (upd B' p (.lst vs)) H' := fun a o h => by
      by_cases ha : a = p
      · subst ha
        rw [upd_same] at h
        rw [hl]
        exact h
      · rw [upd_ne ha] at h
        exact m.e a o h
    have mm : Fm X.K G.F B H (upd B' p (.lst vs)) H' := by
      refine ⟨m.b.trans e1, e2, fun a h1 h2 => ?_, m.f.ex e1 (fun a ha => ?_) (fun a o h => h) (nt_upd m.f.nt (fun _ z => by cases z))⟩
      · obtain ⟨h3, h4⟩ := m.o a h1 h2
        exact ⟨by rw [upd_ne (h2.nne hp)]; exact h3, h4⟩
      · have ne : a ≠ p := fun z => ns (by rw [← z]; exact ha)
        rw [upd_ne ne]
        exact (m.f.there ha).1
    exact q.nx _ _ H' _ mm.b ((s.mono mm).put (.lst upd_same (r.mono e1))) pz⟩
theorem psd_ownLcF {i : Nat} {y : Str} {py spos : Pos} (hN : X.N.Nodup) (hy : X.N[i]? = some y) (hyl : X.env.scope.names.lookup y = some .local) (hsw : swapsWith (.ListComp elt [⟨tg, iter, ifs, 0⟩] scope pos) (some (.Name y py)) spos.line X.env = pure true) (hi : PIdF X G tg iter di) (ok : blkC X.N X.env.scope scope own = true)
    (hg : ∀ (s : Shared) (H : Hp) (C : Addr) (cl : List (Str × Addr)) (fp : List Addr), PGcd (X.blk s H scope (compEnvC scope cl C X.env) fp) G (own.map (·.2)) tg dg)
    (ht : ∀ (s : Shared) (H : Hp) (C : Addr) (cl : List (Str × Addr)) (fp : List Addr), PTsd (X.blk s H scope (compEnvC scope cl C X.env) fp) G ifs tt) (he : ∀ (s : Shared) (H : Hp) (C : Addr) (cl : List (Str × Addr)) (fp : List Addr), PEd (X.blk s H scope (compEnvC scope cl C X.env) fp) G elt de)
    (hc : X.calm = true := by rfl) (hs : ∀ x, foldedSetIterable iter X.env x = pure x := by intro _; rfl) : PSd X G (.Assign [.Name y py] (.ListComp elt [⟨tg, iter, ifs, 0⟩] scope pos) spos) (dsOwn i (dxLc di dg tt de (own.map (·.2)))) :=
  PS.imp (ps_setLc (own := own) hc hN hy hyl hsw hi (blkOk_by ok) hg ht he hs) fun D σ H ⟨B, δ, DD, s, h, q⟩ => lc_ofF ⟨B, δ, _, s, h, fun p vs ds B1 H1 m1 hp ns hb hl p1 r1 =>
    q.nx _ B1 H1 _ m1.b ((s.mono m1).putOwn (s.fresh0 hp ns) hb hl ns (s.own_ne hp) r1) p1⟩
end
end Sd
end
-- SdGen
section
set_option Elab.async false
set_option linter.all false
set_option maxRecDepth 100000
set_option maxHeartbeats 4000000
set_option autoImplicit false
/-! small things for a law's own body -/
namespace Sd
open PySem PySem.Spec PyProof.Rows L2
theorem seq_gen {t u : DS} {D : DEnds} {δ : List Sl} (J : List Sl → Prop) (h1 : ∀ N : List Sl → Prop, (∀ δ', J δ' → N δ') → t { D with nx := N } δ) (h2 : ∀ δ', J δ' → u D δ') : dsSeq t u D δ := h1 (u D) h2
theorem okv_lst {xs : List D} (h : ∀ x ∈ xs, x.okv = true) : (D.lst xs).okv = true := by
  rw [D.okv]
  exact okvA_of h
theorem okv_tup {xs : List D} (h : ∀ x ∈ xs, x.okv = true) : (D.tup xs).okv = true := by
  rw [D.okv]
  exact okvA_of h
theorem okv_int {ms : List Int} : ∀ x ∈ ms.map D.int, x.okv = true := fun x hx => by
  obtain ⟨r, _, rfl⟩ := List.mem_map.mp hx
  rfl
theorem fb_id {g : DG} {t : DS} {D : DEnds} {δ : List Sl} (xs : List Sd.D) (J : Nat → List Sl → Prop) (h0 : J 0 δ)
    (hs : ∀ i x δ', x ∈ xs → J i δ' → g x δ' fun δ2 => t { D with nx := J (i + 1), ct := J (i + 1), bk := D.nx } δ2) (hd : ∀ δ', J xs.length δ' → D.nx δ') : fbB xs g t D δ :=
  ⟨J, h0, fun i x δ' h hj => hs i x δ' (List.mem_of_getElem? h) hj, hd⟩
theorem alike_i {F : Fs} {d : D} {O : Out → Prop} (h : d.alk 6 = true) (o : O (.ret (.bl true))) : spAlike 7 F [d, d] O := ⟨d, rfl, h, o⟩
theorem rep1 (n : Nat) (x : D) : repD (n : Int) [x] = List.replicate n x := by
  simp [repD]
theorem okv_rep {n : Nat} {x : D} (h : x.okv = true) : ∀ y ∈ List.replicate n x, y.okv = true := fun y hy => by
  rw [List.eq_of_mem_replicate hy]
  exact h
theorem cut_to {α : Type} (xs : List α) (k : Nat) (h : k ≤ xs.length) : cut xs none (some (k : Int)) = xs.take k := by
  unfold cut
  rw [HT.sIx_none, HT.sIx_nat, Nat.min_eq_left h]
  simp
theorem cut_from {α : Type} (xs : List α) (k : Nat) (h : k ≤ xs.length) : cut xs (some (k : Int)) none = xs.drop k := by
  unfold cut
  rw [HT.sIx_none, HT.sIx_nat, Nat.min_eq_left h]
  exact List.take_of_length_le (by simp)
theorem okv_bl {ms : List Bool} : ∀ x ∈ ms.map D.bl, x.okv = true := fun x hx => by
  obtain ⟨m, _, rfl⟩ := List.mem_map.mp hx
  rfl
theorem cut_toK {α : Type} (xs : List α) (k : Nat) : cut xs none (some (k : Int)) = xs.take k := by
  unfold cut
  rw [HT.sIx_none, HT.sIx_nat]
  simp
end Sd
end
-- SdP14
section
set_option Elab.async false
set_option linter.all false
set_option maxRecDepth 100000
set_option maxHeartbeats 4000000
set_option autoImplicit false
/-! k14: walks and seatings, plain -/
namespace Sd
/-- the first leg from i on, below e, that is not free -/
def farN (bs : List Bool) (e i : Nat) : Nat := if i < e ∧ bs[i]? = some true then farN bs e (i + 1) else i
termination_by e - i
theorem farN_go {bs : List Bool} {e i : Nat} (h : i < e) (hb : bs[i]? = some true) : farN bs e i = farN bs e (i + 1) := by
  rw [farN, if_pos ⟨h, hb⟩]
theorem farN_stop {bs : List Bool} {e i : Nat} (h : ¬ (i < e ∧ bs[i]? = some true)) : farN bs e i = i := by
  rw [farN, if_neg h]
theorem farN_ge (bs : List Bool) (e i : Nat) : i ≤ farN bs e i := by
  by_cases h : i < e ∧ bs[i]? = some true
  · rw [farN_go h.1 h.2]
    have := farN_ge bs e (i + 1)
    omega
  · rw [farN_stop h]
    exact Nat.le_refl _
termination_by e - i
theorem farN_le (bs : List Bool) (e i : Nat) (hi : i ≤ e) : farN bs e i ≤ e := by
  by_cases h : i < e ∧ bs[i]? = some true
  · rw [farN_go h.1 h.2]
    exact farN_le bs e (i + 1) h.1
  · rw [farN_stop h]
    exact hi
termination_by e - i
def changesN (ws : List Int) (first : Int) : List Int := ((List.range (ws.length - 1)).filter (fun k => ws[k + 1]? != ws[k]?)).map (fun k : Nat => first + (1 + (k : Int)))
/-- how far each row reaches -/
def fars (fs : List (List Bool)) (e i : Nat) : List Nat := fs.map fun bs => farN bs e i
def maxN (ns : List Nat) : Nat := ns.foldl max 0
theorem maxN_ge : ∀ (ns : List Nat) (b : Nat), b ≤ ns.foldl max b ∧ ∀ n ∈ ns, n ≤ ns.foldl max b
  | [], b => ⟨Nat.le_refl _, fun n h => nomatch h⟩
  | m :: ns, b => by
    obtain ⟨h1, h2⟩ := maxN_ge ns (max b m)
    refine ⟨by rw [List.foldl_cons]; omega, fun n h => ?_⟩
    rw [List.foldl_cons]
    rcases List.mem_cons.mp h with rfl | h
    · omega
    · exact h2 n h
theorem maxN_mem : ∀ (ns : List Nat) (b : Nat), ns.foldl max b = b ∨ ns.foldl max b ∈ ns
  | [], b => .inl rfl
  | m :: ns, b => by
    rw [List.foldl_cons]
    rcases maxN_mem ns (max b m) with h | h
    · rw [h]
      by_cases c : b ≤ m
      · right
        rw [Nat.max_eq_right c]
        exact List.mem_cons_self
      · left
        omega
    · exact .inr (List.mem_cons_of_mem _ h)
theorem maxN_eq {ns : List Nat} {m : Int} (h : m ∈ ns.map fun n : Nat => (n : Int)) (hm : ∀ y ∈ ns.map (fun n : Nat => (n : Int)), y ≤ m) : m = (maxN ns : Nat) := by
  obtain ⟨n, hn, rfl⟩ := List.mem_map.mp h
  have h1 := (maxN_ge ns 0).2 n hn
  have h2 : maxN ns ≤ n := by
    rcases maxN_mem ns 0 with h | h
    · unfold maxN
      omega
    · have := hm _ (List.mem_map.mpr ⟨_, h, rfl⟩)
      unfold maxN
      omega
  have h3 : maxN ns = n := by
    unfold maxN at *
    omega
  rw [h3]
theorem idxOf_cast (n : Nat) : ∀ ns : List Nat, (ns.map fun n : Nat => (n : Int)).idxOf (n : Int) = ns.idxOf n
  | [] => rfl
  | m :: ns => by
    have e : ((m : Int) == (n : Int)) = (m == n) := by
      rw [Bool.eq_iff_iff, beq_iff_eq, beq_iff_eq]
      omega
    rw [List.map_cons, List.idxOf_cons, List.idxOf_cons, idxOf_cast n ns, e]
/-- the greedy walk: k turns at most -/
def walkG (fs : List (List Bool)) (e : Nat) : Nat → Nat → List Int → Option (List Int)
  | 0, _, acc => some acc
  | k + 1, i, acc => if i < e then (if maxN (fars fs e i) = i then none else walkG fs e k (maxN (fars fs e i)) (acc ++ List.replicate (maxN (fars fs e i) - i) (((fars fs e i).idxOf (maxN (fars fs e i)) : Nat) : Int))) else some acc
theorem walkG_fuel {fs : List (List Bool)} (hne : fs ≠ []) (e : Nat) : ∀ (k k' i : Nat) (acc : List Int), e - i ≤ k → e - i ≤ k' → walkG fs e k i acc = walkG fs e k' i acc
  | 0, 0, i, acc, _, _ => rfl
  | 0, k' + 1, i, acc, h, _ => by
    rw [walkG, walkG, if_neg (by omega)]
  | k + 1, 0, i, acc, _, h => by
    rw [walkG, walkG, if_neg (by omega)]
  | k + 1, k' + 1, i, acc, h, h' => by
    rw [walkG, walkG]
    by_cases c : i < e
    · rw [if_pos c, if_pos c]
      by_cases c2 : maxN (fars fs e i) = i
      · rw [if_pos c2, if_pos c2]
      · rw [if_neg c2, if_neg c2]
        have g : i ≤ maxN (fars fs e i) := by
          rcases fs with _ | ⟨b, r⟩
          · exact absurd rfl hne
          · exact Nat.le_trans (farN_ge b e i) ((maxN_ge _ 0).2 _ List.mem_cons_self)
        exact walkG_fuel hne e k k' _ _ (by omega) (by omega)
    · rw [if_neg c, if_neg c]
theorem maxN_far_le {fs : List (List Bool)} {e i : Nat} (hi : i ≤ e) : maxN (fars fs e i) ≤ e := by
  rcases maxN_mem (fars fs e i) 0 with h | h
  · unfold maxN
    omega
  · obtain ⟨bs, _, h2⟩ := List.mem_map.mp h
    have := farN_le bs e i hi
    unfold maxN
    omega
theorem maxN_far_ge {fs : List (List Bool)} (hne : fs ≠ []) (e i : Nat) : i ≤ maxN (fars fs e i) := by
  rcases fs with _ | ⟨b, r⟩
  · exact absurd rfl hne
  · exact Nat.le_trans (farN_ge b e i) ((maxN_ge _ 0).2 _ List.mem_cons_self)
theorem walkG_len {fs : List (List Bool)} (hne : fs ≠ []) {e : Nat} : ∀ (k i : Nat) (acc ws : List Int), i ≤ e → walkG fs e k i acc = some ws → ws.length ≤ acc.length + (e - i)
  | 0, i, acc, ws, hi, h => by
    rw [walkG] at h
    cases h
    omega
  | k + 1, i, acc, ws, hi, h => by
    rw [walkG] at h
    split at h
    · split at h
      · cases h
      · have := walkG_len hne k _ _ _ (maxN_far_le hi) h
        have g2 := maxN_far_ge hne e i
        have g := maxN_far_le (fs := fs) hi
        rw [List.length_append, List.length_replicate] at this
        omega
    · cases h
      omega
def meetB (p q : Int × Int) : Bool := decide (p.1 < q.2) && decide (q.1 < p.2)
def clash (ss : List Int) (ps : List (Int × Int)) (i j : Nat) : Bool := (ss[j]?.getD 0 == ss[i]?.getD 0) && meetB (ps[i]?.getD (0, 0)) (ps[j]?.getD (0, 0))
def goodSeats (ss : List Int) (ps : List (Int × Int)) : Bool := (List.range ss.length).all fun i => (List.range i).all fun j => !clash ss ps i j
theorem goodSeats_no {ss : List Int} {ps : List (Int × Int)} {i j : Nat} (hi : i < ss.length) (hj : j < i) (h : clash ss ps i j = true) : goodSeats ss ps = false := by
  cases hg : goodSeats ss ps with
  | false => rfl
  | true =>
    have h1 := List.all_eq_true.mp hg i (List.mem_range.mpr hi)
    have h2 := List.all_eq_true.mp h1 j (List.mem_range.mpr hj)
    rw [h] at h2
    cases h2
theorem range_all_snoc {p : Nat → Bool} {n : Nat} (h : (List.range n).all p = true) (hn : p n = true) : (List.range (n + 1)).all p = true := by
  rw [List.range_succ, List.all_append, h]
  simp [hn]
/-! changes by recursion -/
def chg : List Int → Nat
  | [] => 0
  | [_] => 0
  | x :: y :: r => (if y ≠ x then 1 else 0) + chg (y :: r)
theorem chg_count : ∀ ws : List Int, ((List.range (ws.length - 1)).filter (fun k => ws[k + 1]? != ws[k]?)).length = chg ws
  | [] => rfl
  | [_] => rfl
  | x :: y :: r => by
    have ih := chg_count (y :: r)
    have e : (x :: y :: r).length - 1 = ((y :: r).length - 1) + 1 := by simp
    rw [e, List.range_succ_eq_map, List.filter_cons, chg, ← ih]
    have em : ∀ k : Nat, ((x :: y :: r)[k.succ + 1]? != (x :: y :: r)[k.succ]?) = ((y :: r)[k + 1]? != (y :: r)[k]?) := fun k => by
      simp [Nat.succ_eq_add_one]
    have em2 : (List.filter (fun k => (x :: y :: r)[k + 1]? != (x :: y :: r)[k]?) (List.map Nat.succ (List.range ((y :: r).length - 1)))).length = (List.filter (fun k => (y :: r)[k + 1]? != (y :: r)[k]?) (List.range ((y :: r).length - 1))).length := by
      rw [List.filter_map, List.length_map]
      congr 1
    by_cases c : y = x
    · rw [if_neg (by simp [c]), em2, if_neg (by simpa using c)]
      omega
    · rw [if_pos (by simp [c]), List.length_cons, em2, if_pos c]
      omega
theorem changes_len (ws : List Int) (a : Int) : (changesN ws a).length = chg ws := by
  rw [changesN, List.length_map, chg_count]
theorem chg_rep (s : Int) : ∀ m : Nat, chg (List.replicate m s) = 0
  | 0 => rfl
  | 1 => rfl
  | m + 2 => by
    have := chg_rep s (m + 1)
    rw [List.replicate_succ] at this
    rw [List.replicate_succ, List.replicate_succ, chg, this]
    simp
theorem chg_app (s : Int) (m : Nat) : ∀ (acc : List Int) (t : Int), acc.getLast? = some t → t ≠ s → chg (acc ++ List.replicate (m + 1) s) = chg acc + 1
  | [], t, h, _ => nomatch h
  | [x], t, h, n => by
    have hx : x = t := by simpa using h
    subst hx
    have h0 : chg (s :: List.replicate m s) = 0 := chg_rep s (m + 1)
    show (if s ≠ x then 1 else 0) + chg (s :: List.replicate m s) = 0 + 1
    rw [h0, if_pos (Ne.symm n)]
  | x :: y :: r, t, h, n => by
    have ih := chg_app s m (y :: r) t (by rwa [List.getLast?_cons_cons] at h) n
    rw [List.cons_append, List.cons_append, chg, chg, ← List.cons_append, ih]
    omega
/-! the fewest changes, by legs -/
def omin : Option Nat → Option Nat → Option Nat
  | none, y => y
  | x, none => x
  | some x, some y => some (min x y)
def ominL (xs : List (Option Nat)) : Option Nat := xs.foldl omin none
def dp0 (fs : List (List Bool)) (a : Nat) : List (Option Nat) := fs.map fun bs => if bs[a]? = some true then some 0 else none
def dpS (fs : List (List Bool)) (l : Nat) (best : List (Option Nat)) : List (Option Nat) :=
  (List.range fs.length).map fun k => if (fs[k]?.getD [])[l]? = some true then omin (best[k]?.getD none) ((ominL best).map (· + 1)) else none
/-- after m more legs -/
def dpN (fs : List (List Bool)) (a : Nat) : Nat → List (Option Nat)
  | 0 => dp0 fs a
  | m + 1 => dpS fs (a + m + 1) (dpN fs a m)
def fewestN (fs : List (List Bool)) (a e : Nat) : Option Nat := ominL (dpN fs a (e - a - 1))
theorem omin_fold : ∀ (xs : List (Option Nat)) (b : Option Nat), xs.foldl omin b = omin b (ominL xs)
  | [], b => by cases b <;> rfl
  | x :: xs, b => by
    unfold ominL
    rw [List.foldl_cons, List.foldl_cons, omin_fold xs, omin_fold xs (omin none x)]
    generalize ominL xs = z
    cases b <;> cases x <;> cases z <;> simp [omin, Nat.min_assoc]
theorem ominL_none {xs : List (Option Nat)} (h : ∀ x ∈ xs, x = none) : ominL xs = none := by
  induction xs with
  | nil => rfl
  | cons x xs ih =>
    unfold ominL
    rw [List.foldl_cons, omin_fold, ih (fun y hy => h y (List.mem_cons_of_mem _ hy)), h x List.mem_cons_self]
    rfl
theorem ominL_eq {xs : List (Option Nat)} {c : Nat} (h : some c ∈ xs) (hl : ∀ x ∈ xs, ∀ n, x = some n → c ≤ n) : ominL xs = some c := by
  induction xs with
  | nil => cases h
  | cons x xs ih =>
    unfold ominL
    rw [List.foldl_cons, omin_fold]
    by_cases hm : some c ∈ xs
    · rw [ih hm (fun y hy => hl y (List.mem_cons_of_mem _ hy))]
      cases x with
      | none => rfl
      | some n =>
        have := hl _ List.mem_cons_self n rfl
        simp [omin]
        omega
    · rcases List.mem_cons.mp h with rfl | h
      · have hx : ∀ n, ominL xs = some n → c ≤ n := fun n hn => by
          have key : ∀ (ys : List (Option Nat)) (m : Nat), ominL ys = some m → some m ∈ ys := fun ys => by
            induction ys with
            | nil => intro m hm; cases hm
            | cons y ys ih2 =>
              intro m hm
              unfold ominL at hm
              rw [List.foldl_cons, omin_fold] at hm
              cases hz : ominL ys with
              | none =>
                rw [hz] at hm
                cases y with
                | none => cases hm
                | some q => cases hm; exact List.mem_cons_self
              | some z =>
                rw [hz] at hm
                cases y with
                | none => cases hm; exact List.mem_cons_of_mem _ (ih2 _ hz)
                | some q =>
                  simp only [omin, Option.some.injEq] at hm
                  by_cases cq : q ≤ z
                  · rw [Nat.min_eq_left cq] at hm
                    subst hm
                    exact List.mem_cons_self
                  · rw [Nat.min_eq_right (by omega)] at hm
                    subst hm
                    exact List.mem_cons_of_mem _ (ih2 _ hz)
          exact hl _ (List.mem_cons_of_mem _ (key xs n hn)) n rfl
        cases hz : ominL xs with
        | none => rfl
        | some z =>
          have := hx z hz
          simp [omin]
          omega
      · exact absurd h hm
theorem omin_noneL (z : Option Nat) : omin none z = z := by cases z <;> rfl
/-- the row at leg l, the turn begun at g with c changes -/
def rowG (fs : List (List Bool)) (e g c l : Nat) : List (Option Nat) := fs.map fun bs => if bs[l]? = some true then (if l < farN bs e g then some c else some (c + 1)) else none
def rowS (fs : List (List Bool)) (c l : Nat) : List (Option Nat) := fs.map fun bs => if bs[l]? = some true then some c else none
theorem dpS_map (fs : List (List Bool)) (l : Nat) (f : List Bool → Option Nat) : dpS fs l (fs.map f) = fs.map fun bs => if bs[l]? = some true then omin (f bs) ((ominL (fs.map f)).map (· + 1)) else none := by
  unfold dpS
  apply List.ext_getElem?
  intro i
  rw [List.getElem?_map, List.getElem?_map]
  by_cases h : i < fs.length
  · rw [List.getElem?_range h, List.getElem?_eq_getElem h]
    simp [List.getElem?_map, List.getElem?_eq_getElem h]
  · rw [List.getElem?_eq_none (by rw [List.length_range]; omega), List.getElem?_eq_none (by omega)]
    rfl
/-- all legs below the far one are free -/
theorem farN_all {bs : List Bool} {e : Nat} : ∀ (g l : Nat), g ≤ l → l < farN bs e g → bs[l]? = some true := fun g => by
  intro l h1 h2
  by_cases h : g < e ∧ bs[g]? = some true
  · by_cases c : l = g
    · subst c
      exact h.2
    · rw [farN_go h.1 h.2] at h2
      exact farN_all (g + 1) l (by omega) h2
  · rw [farN_stop h] at h2
    omega
termination_by g => e - g
/-- the far one is the end, or is not free -/
theorem farN_end {bs : List Bool} {e : Nat} : ∀ g : Nat, g ≤ e → farN bs e g = e ∨ bs[farN bs e g]? ≠ some true := fun g hg => by
  by_cases h : g < e ∧ bs[g]? = some true
  · rw [farN_go h.1 h.2]
    exact farN_end (g + 1) h.1
  · rw [farN_stop h]
    by_cases c : g = e
    · exact .inl c
    · exact .inr fun z => h ⟨by omega, z⟩
termination_by g => e - g
theorem rowS_G {fs : List (List Bool)} {e g c : Nat} (hg : g < e) : rowS fs c g = rowG fs e g c g := by
  refine List.map_congr_left fun bs _ => ?_
  by_cases h : bs[g]? = some true
  · rw [if_pos h, if_pos h, if_pos]
    rw [farN_go hg h]
    exact farN_ge bs e (g + 1)
  · rw [if_neg h, if_neg h]
/-- within a turn the least is c -/
theorem rowG_min {fs : List (List Bool)} {e g c l : Nat} (h1 : g ≤ l) (h2 : l < maxN (fars fs e g)) : ominL (rowG fs e g c l) = some c := by
  rcases maxN_mem (fars fs e g) 0 with h | h
  · exfalso
    unfold maxN at h2
    omega
  · obtain ⟨bs, hb, hm⟩ := List.mem_map.mp h
    have hl : l < farN bs e g := by unfold maxN at h2; omega
    refine ominL_eq (List.mem_map.mpr ⟨bs, hb, by rw [if_pos (farN_all g l h1 hl), if_pos hl]⟩) fun x hx n hn => ?_
    obtain ⟨b2, _, rfl⟩ := List.mem_map.mp hx
    split at hn
    · split at hn <;> cases hn <;> omega
    · cases hn
theorem far_lt_max {fs : List (List Bool)} {e g : Nat} {bs : List Bool} (h : bs ∈ fs) : farN bs e g ≤ maxN (fars fs e g) := (maxN_ge _ 0).2 _ (List.mem_map.mpr ⟨bs, h, rfl⟩)
/-- one leg on, in the turn -/
theorem dp_in {fs : List (List Bool)} {e g c l : Nat} (h1 : g ≤ l) (h2 : l + 1 < maxN (fars fs e g)) (he : g ≤ e) : dpS fs (l + 1) (rowG fs e g c l) = rowG fs e g c (l + 1) := by
  have hmin := rowG_min (c := c) h1 (show l < maxN (fars fs e g) by omega)
  have hle := maxN_far_le (fs := fs) he
  unfold rowG at hmin ⊢
  rw [dpS_map, hmin]
  refine List.map_congr_left fun bs hb => ?_
  by_cases hf : bs[l + 1]? = some true
  · rw [if_pos hf, if_pos hf]
    by_cases c1 : l + 1 < farN bs e g
    · rw [if_pos c1, if_pos (farN_all (bs := bs) (e := e) g l h1 (by omega)), if_pos (by omega)]
      simp [omin]
    · rw [if_neg c1]
      have nl : ¬ l < farN bs e g := fun z => by
        have e1 : farN bs e g = l + 1 := by omega
        rcases farN_end (bs := bs) g he with h | h
        · omega
        · rw [e1] at h
          exact h hf
      rw [if_neg nl]
      split
      · simp [omin]
      · rfl
  · rw [if_neg hf, if_neg hf]
/-- one leg on, the next turn begins -/
theorem dp_turn {fs : List (List Bool)} {e g c l : Nat} (h1 : g ≤ l) (h2 : l + 1 = maxN (fars fs e g)) (he : g ≤ e) (hl : l + 1 < e) : dpS fs (l + 1) (rowG fs e g c l) = rowS fs (c + 1) (l + 1) := by
  have hmin := rowG_min (c := c) h1 (show l < maxN (fars fs e g) by omega)
  unfold rowG at hmin ⊢
  unfold rowS
  rw [dpS_map, hmin]
  refine List.map_congr_left fun bs hb => ?_
  by_cases hf : bs[l + 1]? = some true
  · rw [if_pos hf, if_pos hf]
    have hm := far_lt_max (e := e) (g := g) hb
    have nl : ¬ l < farN bs e g := fun z => by
      have e1 : farN bs e g = l + 1 := by omega
      rcases farN_end (bs := bs) g he with h | h
      · omega
      · rw [e1] at h
        exact h hf
    rw [if_neg nl]
    split
    · simp [omin]
    · rfl
  · rw [if_neg hf, if_neg hf]
theorem dp_dead {fs : List (List Bool)} {l : Nat} (h : ∀ x ∈ dpS fs l (fs.map fun _ => none), x ≠ none) : fs = [] := by
  rcases fs with _ | ⟨b, r⟩
  · rfl
  · exfalso
    rw [dpS_map, ominL_none (fun x hx => by obtain ⟨_, _, e⟩ := List.mem_map.mp hx; exact e.symm)] at h
    refine h _ (List.mem_map.mpr ⟨b, List.mem_cons_self, rfl⟩) ?_
    simp [omin]
theorem dpS_none (fs : List (List Bool)) (l : Nat) : dpS fs l (fs.map fun _ => none) = fs.map fun _ => none := by
  rw [dpS_map, ominL_none (fun x hx => by obtain ⟨_, _, e⟩ := List.mem_map.mp hx; exact e.symm)]
  refine List.map_congr_left fun bs _ => ?_
  simp [omin]
theorem dpN_none {fs : List (List Bool)} {a m : Nat} (h : dpN fs a m = fs.map fun _ => none) : ∀ k, dpN fs a (m + k) = fs.map fun _ => none
  | 0 => h
  | k + 1 => by
    rw [← Nat.add_assoc, dpN, dpN_none h k, dpS_none]
theorem dpN_in {fs : List (List Bool)} {a e c i : Nat} (ha : a ≤ i) (hi : i < e) (hm : i < maxN (fars fs e i)) (h : dpN fs a (i - a) = rowS fs c i) : ∀ k, i + k < maxN (fars fs e i) → dpN fs a (i + k - a) = rowG fs e i c (i + k)
  | 0, _ => by rw [Nat.add_zero, h, rowS_G hi]
  | k + 1, hk => by
    have ih := dpN_in ha hi hm h k (by omega)
    have e1 : i + (k + 1) - a = (i + k - a) + 1 := by omega
    have e2 : a + (i + k - a) + 1 = i + k + 1 := by omega
    rw [e1, dpN, ih, e2]
    exact dp_in (by omega) (by omega) (by omega)
theorem walk_dp {fs : List (List Bool)} (hne : fs ≠ []) {a e : Nat} : ∀ (k i c : Nat) (acc : List Int), a ≤ i → i < e → e - i ≤ k → dpN fs a (i - a) = rowS fs c i →
    ((acc = [] ∧ c = 0) ∨ ∃ (t : Nat) (bs : List Bool), acc.getLast? = some (t : Int) ∧ fs[t]? = some bs ∧ bs[i]? ≠ some true ∧ chg acc + 1 = c) →
    match walkG fs e k i acc with | none => fewestN fs a e = none | some ws => fewestN fs a e = some (chg ws)
  | 0, i, c, acc, _, hi, hk, _, _ => by omega
  | k + 1, i, c, acc, ha, hi, hk, hd, hacc => by
    rw [walkG, if_pos hi]
    by_cases hs : maxN (fars fs e i) = i
    · rw [if_pos hs]
      show fewestN fs a e = none
      have hn : rowS fs c i = fs.map fun _ => none := by
        refine List.map_congr_left fun bs hb => if_neg fun z => ?_
        have := far_lt_max (e := e) (g := i) hb
        rw [farN_go hi z] at this
        have := farN_ge bs e (i + 1)
        omega
      rw [hn] at hd
      have := dpN_none hd (e - 1 - i)
      rw [show i - a + (e - 1 - i) = e - a - 1 by omega] at this
      unfold fewestN
      rw [this]
      exact ominL_none fun x hx => by obtain ⟨_, _, e⟩ := List.mem_map.mp hx; exact e.symm
    · rw [if_neg hs]
      have hge := maxN_far_ge hne e i
      have hle := maxN_far_le (fs := fs) (Nat.le_of_lt hi)
      have hlt : i < maxN (fars fs e i) := by omega
      have hmem : maxN (fars fs e i) ∈ fars fs e i := by
        rcases maxN_mem (fars fs e i) 0 with h | h
        · exfalso
          unfold maxN at hlt
          omega
        · exact h
      have hat : (fars fs e i)[(fars fs e i).idxOf (maxN (fars fs e i))]? = some (maxN (fars fs e i)) := by
        rw [List.getElem?_eq_getElem (List.idxOf_lt_length_iff.mpr hmem), List.getElem_idxOf]
      generalize hsd : (fars fs e i).idxOf (maxN (fars fs e i)) = s at hat
      unfold fars at hat
      rw [List.getElem?_map, Option.map_eq_some_iff] at hat
      obtain ⟨bs, hbs, hfar⟩ := hat
      change farN bs e i = maxN (fars fs e i) at hfar
      have hchg : chg (acc ++ List.replicate (maxN (fars fs e i) - i) (s : Int)) = c := by
        obtain ⟨q, hq⟩ : ∃ q, maxN (fars fs e i) - i = q + 1 := ⟨maxN (fars fs e i) - i - 1, by omega⟩
        rw [hq]
        rcases hacc with ⟨rfl, rfl⟩ | ⟨t, b2, h1, h2, h3, h4⟩
        · exact chg_rep _ _
        · rw [← h4]
          refine chg_app _ _ _ _ h1 fun z => ?_
          have zt : t = s := by omega
          subst zt
          rw [hbs] at h2
          cases h2
          exact h3 (farN_all (e := e) i i (Nat.le_refl _) (by omega))
      by_cases hend : maxN (fars fs e i) = e
      · have hw : ∀ acc2 : List Int, walkG fs e k e acc2 = some acc2 := fun acc2 => by
          cases k with
          | zero => rfl
          | succ k => rw [walkG, if_neg (by omega)]
        rw [hend] at hchg ⊢
        rw [hw]
        show fewestN fs a e = some _
        rw [hchg]
        unfold fewestN
        have := dpN_in ha hi hlt hd (e - 1 - i) (by omega)
        rw [show i + (e - 1 - i) = e - 1 by omega, show e - 1 - a = e - a - 1 by omega] at this
        rw [this]
        exact rowG_min (by omega) (by omega)
      · refine walk_dp hne k (maxN (fars fs e i)) (c + 1) _ (by omega) (by omega) (by omega) ?_ (.inr ⟨s, bs, ?_, hbs, ?_, by rw [hchg]⟩)
        · have := dpN_in ha hi hlt hd (maxN (fars fs e i) - 1 - i) (by omega)
          rw [show i + (maxN (fars fs e i) - 1 - i) = maxN (fars fs e i) - 1 by omega] at this
          rw [show maxN (fars fs e i) - a = (maxN (fars fs e i) - 1 - a) + 1 by omega, dpN, this, show a + (maxN (fars fs e i) - 1 - a) + 1 = (maxN (fars fs e i) - 1) + 1 by omega,
            dp_turn (by omega) (by omega) (by omega) (by omega), show maxN (fars fs e i) - 1 + 1 = maxN (fars fs e i) by omega]
        · obtain ⟨q, hq⟩ : ∃ q, maxN (fars fs e i) - i = q + 1 := ⟨maxN (fars fs e i) - i - 1, by omega⟩
          rw [hq, List.getLast?_append, List.getLast?_replicate, if_neg (by omega)]
          rfl
        · rcases farN_end (bs := bs) i (Nat.le_of_lt hi) with h | h
          · omega
          · rwa [hfar] at h
theorem walk_fewest {fs : List (List Bool)} (hne : fs ≠ []) {a e : Nat} (h : a < e) :
    match walkG fs e (e - a) a [] with | none => fewestN fs a e = none | some ws => fewestN fs a e = some (chg ws) :=
  walk_dp hne (e - a) a 0 [] (Nat.le_refl _) h (Nat.le_refl _) (by rw [Nat.sub_self]; rfl) (.inl ⟨rfl, rfl⟩)
/-- the greedy walk is a walk -/
theorem walkG_ok {fs : List (List Bool)} {a e : Nat} : ∀ (k i : Nat) (acc ws : List Int), a ≤ i → i ≤ e → acc.length = i - a → (∀ p s, acc[p]? = some s → ∃ (t : Nat) (bs : List Bool), s = (t : Int) ∧ fs[t]? = some bs ∧ bs[a + p]? = some true) → e - i ≤ k →
    fs ≠ [] → walkG fs e k i acc = some ws → ws.length = e - a ∧ ∀ p s, ws[p]? = some s → ∃ (t : Nat) (bs : List Bool), s = (t : Int) ∧ fs[t]? = some bs ∧ bs[a + p]? = some true
  | 0, i, acc, ws, ha, hi, hl, hp, hk, hne, h => by
    rw [walkG] at h
    cases h
    exact ⟨by omega, hp⟩
  | k + 1, i, acc, ws, ha, hi, hl, hp, hk, hne, h => by
    rw [walkG] at h
    split at h
    · rename_i hie
      split at h
      · cases h
      · rename_i hs
        have hge := maxN_far_ge hne e i
        have hle := maxN_far_le (fs := fs) hi
        have hmem : maxN (fars fs e i) ∈ fars fs e i := by
          rcases maxN_mem (fars fs e i) 0 with h | h
          · exfalso
            have : maxN (fars fs e i) = 0 := h
            omega
          · exact h
        have hat : (fars fs e i)[(fars fs e i).idxOf (maxN (fars fs e i))]? = some (maxN (fars fs e i)) := by
          rw [List.getElem?_eq_getElem (List.idxOf_lt_length_iff.mpr hmem), List.getElem_idxOf]
        generalize (fars fs e i).idxOf (maxN (fars fs e i)) = s at hat h
        unfold fars at hat
        rw [List.getElem?_map, Option.map_eq_some_iff] at hat
        obtain ⟨bs, hbs, hfar⟩ := hat
        change farN bs e i = maxN (fars fs e i) at hfar
        refine walkG_ok k _ _ ws (by omega) hle (by rw [List.length_append, List.length_replicate]; omega) (fun p t ht => ?_) (by omega) hne h
        rw [List.getElem?_append] at ht
        split at ht
        · exact hp p t ht
        · rename_i hpl
          rw [List.getElem?_replicate] at ht
          split at ht
          · cases ht
            exact ⟨s, bs, rfl, hbs, farN_all (e := e) i _ (by omega) (by omega)⟩
          · cases ht
    · cases h
      exact ⟨by omega, hp⟩
/-! seatings -/
def lexLe (p q : Int × Int) : Bool := decide (p.1 < q.1) || (decide (p.1 = q.1) && decide (p.2 ≤ q.2))
def psS (ps : List (Int × Int)) (k : Nat) : Int := (ps[k]?.getD (0, 0)).1
def psE (ps : List (Int × Int)) (k : Nat) : Int := (ps[k]?.getD (0, 0)).2
def starts (ps : List (Int × Int)) : List (Int × Int) := (List.range ps.length).map fun k : Nat => (psS ps k, (k : Int))
def order (ps : List (Int × Int)) : List (Int × Int) := (starts ps).mergeSort lexLe
theorem lexLe_trans (a b c : Int × Int) (h1 : lexLe a b = true) (h2 : lexLe b c = true) : lexLe a c = true := by
  simp only [lexLe, Bool.or_eq_true, Bool.and_eq_true, decide_eq_true_eq] at *
  omega
theorem lexLe_total (a b : Int × Int) : (lexLe a b || lexLe b a) = true := by
  simp only [lexLe, Bool.or_eq_true, Bool.and_eq_true, decide_eq_true_eq] at *
  omega
theorem order_perm (ps : List (Int × Int)) : (order ps).Perm (starts ps) := List.mergeSort_perm _ _
theorem order_sorted (ps : List (Int × Int)) : (order ps).Pairwise (fun p q => lexLe p q = true) := List.pairwise_mergeSort lexLe_trans lexLe_total _
theorem order_uniq {ps qs : List (Int × Int)} (h1 : qs.Perm (starts ps)) (h2 : qs.Pairwise fun p q => lexLe p q = true) : qs = order ps :=
  List.Perm.eq_of_pairwise (fun a b _ _ h h' => by
    obtain ⟨a1, a2⟩ := a
    obtain ⟨b1, b2⟩ := b
    simp only [lexLe, Bool.or_eq_true, Bool.and_eq_true, decide_eq_true_eq] at h h'
    rw [Prod.mk.injEq]
    omega) h2 (order_sorted ps) (h1.trans (order_perm ps).symm)
theorem order_mem {ps : List (Int × Int)} {q : Int × Int} (h : q ∈ order ps) : ∃ k : Nat, k < ps.length ∧ q = (psS ps k, (k : Int)) := by
  obtain ⟨k, hk, rfl⟩ := List.mem_map.mp ((order_perm ps).mem_iff.mp h)
  exact ⟨k, List.mem_range.mp hk, rfl⟩
theorem order_nodup (ps : List (Int × Int)) : ((order ps).map (·.2)).Nodup := by
  refine ((order_perm ps).map (·.2)).nodup_iff.mpr ?_
  have : (starts ps).map (·.2) = (List.range ps.length).map (fun k : Nat => (k : Int)) := by
    unfold starts
    rw [List.map_map]
    rfl
  rw [this]
  exact List.Pairwise.map _ (fun a b (h : a ≠ b) (z : ((a : Nat) : Int) = (b : Nat)) => h (by omega)) List.nodup_range
/-- the least seat that is free at f -/
def seatOf (us : List Int) (f : Int) : Nat := us.findIdx fun u => decide (u ≤ f)
def putU (us : List Int) (s : Nat) (b : Int) : List Int := if s < us.length then us.set s b else us ++ [b]
def seatStep (ps : List (Int × Int)) (st : List Int × List Int) (q : Int × Int) : List Int × List Int :=
  (st.1.set q.2.toNat ((seatOf st.2 q.1 : Nat) : Int), putU st.2 (seatOf st.2 q.1) (psE ps q.2.toNat))
def seatRun (ps : List (Int × Int)) (qs : List (Int × Int)) : List Int × List Int := qs.foldl (seatStep ps) (List.replicate ps.length 0, [])
def seatsG (ps : List (Int × Int)) : List Int := (seatRun ps (order ps)).1
theorem seatRun_snoc (ps qs : List (Int × Int)) (q : Int × Int) : seatRun ps (qs ++ [q]) = seatStep ps (seatRun ps qs) q := by
  unfold seatRun
  rw [List.foldl_append]
  rfl
theorem seatOf_le (us : List Int) (f : Int) : seatOf us f ≤ us.length := List.findIdx_le_length
theorem seatOf_lt {us : List Int} {f u : Int} {i : Nat} (h : i < seatOf us f) (hu : us[i]? = some u) : f < u := by
  have := List.not_of_lt_findIdx h
  obtain ⟨hi, rfl⟩ := List.getElem?_eq_some_iff.mp hu
  simp at this
  omega
theorem seatOf_at {us : List Int} {f u : Int} (hu : us[seatOf us f]? = some u) : u ≤ f := by
  obtain ⟨hi, rfl⟩ := List.getElem?_eq_some_iff.mp hu
  have := List.findIdx_getElem (w := hi)
  exact of_decide_eq_true this
theorem putU_at {us : List Int} {s : Nat} {b : Int} (h : s ≤ us.length) (i : Nat) : (putU us s b)[i]? = if i = s then some b else us[i]? := by
  unfold putU
  split
  · rename_i c
    rw [List.getElem?_set]
    by_cases e : s = i
    · subst e
      simp [c]
    · rw [if_neg e, if_neg (fun z => e z.symm)]
  · rename_i c
    have : s = us.length := by omega
    subst this
    rw [List.getElem?_append]
    by_cases e : i = us.length
    · subst e
      simp
    · rw [if_neg e]
      split
      · rfl
      · rename_i c2
        rw [List.getElem?_eq_none (by simp; omega), List.getElem?_eq_none (by omega)]
theorem putU_len {us : List Int} {s : Nat} {b : Int} (h : s ≤ us.length) : (putU us s b).length = if s < us.length then us.length else s + 1 := by
  unfold putU
  split
  · rw [List.length_set]
  · rw [List.length_append]
    simp
    omega
structure SeatI (ps : List (Int × Int)) (gs : List (Nat × Nat)) (fo us : List Int) : Prop where
  len : fo.length = ps.length
  idx : ∀ x ∈ gs, x.1 < ps.length ∧ fo[x.1]? = some ((x.2 : Nat) : Int)
  til : ∀ x ∈ gs, ∃ u, us[x.2]? = some u ∧ psE ps x.1 ≤ u
  own : ∀ (j : Nat) (u : Int), us[j]? = some u → ∃ k, (k, j) ∈ gs ∧ psE ps k = u
  dis : gs.Pairwise fun x y => x.1 ≠ y.1 ∧ (x.2 = y.2 → psE ps x.1 ≤ psS ps y.1)
  top : ∀ j, j < us.length → ∃ k0, k0 < ps.length ∧ ∀ i, i ≤ j → ∃ k, (k, i) ∈ gs ∧ psS ps k ≤ psS ps k0 ∧ psS ps k0 < psE ps k
  cnt : us.length ≤ gs.length
theorem SeatI.step {ps : List (Int × Int)} {gs : List (Nat × Nat)} {fo us : List Int} {k : Nat} (I : SeatI ps gs fo us) (hk : k < ps.length) (hn : ∀ x ∈ gs, x.1 ≠ k) (hp : psS ps k < psE ps k) (hs : ∀ x ∈ gs, psS ps x.1 ≤ psS ps k) :
    SeatI ps (gs ++ [(k, seatOf us (psS ps k))]) (fo.set k ((seatOf us (psS ps k) : Nat) : Int)) (putU us (seatOf us (psS ps k)) (psE ps k)) := by
  have hle := seatOf_le us (psS ps k)
  have hlt : ∀ (i : Nat) (u : Int), i < seatOf us (psS ps k) → us[i]? = some u → psS ps k < u := fun i u => seatOf_lt
  have hat : ∀ u, us[seatOf us (psS ps k)]? = some u → u ≤ psS ps k := fun u => seatOf_at
  generalize seatOf us (psS ps k) = s at hle hlt hat
  have gat := putU_at (b := psE ps k) hle
  refine ⟨by rw [List.length_set, I.len], fun x hx => ?_, fun x hx => ?_, fun j u hj => ?_, ?_, fun j hj => ?_, ?_⟩
  · rcases List.mem_append.mp hx with hx | hx
    · have := I.idx x hx
      refine ⟨this.1, ?_⟩
      rw [List.getElem?_set, if_neg (fun z => hn x hx z.symm)]
      exact this.2
    · rw [List.mem_singleton.mp hx]
      refine ⟨hk, ?_⟩
      rw [List.getElem?_set_self (by rw [I.len]; exact hk)]
  · rcases List.mem_append.mp hx with hx | hx
    · obtain ⟨u, h1, h2⟩ := I.til x hx
      rw [gat]
      by_cases e : x.2 = s
      · rw [if_pos e]
        rw [e] at h1
        exact ⟨_, rfl, by have := hat u h1; omega⟩
      · rw [if_neg e]
        exact ⟨u, h1, h2⟩
    · rw [List.mem_singleton.mp hx, gat, if_pos rfl]
      exact ⟨_, rfl, Int.le_refl _⟩
  · rw [gat] at hj
    split at hj
    · rename_i e
      cases hj
      subst e
      exact ⟨k, List.mem_append.mpr (.inr (List.mem_singleton.mpr rfl)), rfl⟩
    · obtain ⟨k2, h1, h2⟩ := I.own j u hj
      exact ⟨k2, List.mem_append.mpr (.inl h1), h2⟩
  · refine List.pairwise_append.mpr ⟨I.dis, List.pairwise_singleton _ _, fun x hx y hy => ?_⟩
    rw [List.mem_singleton.mp hy]
    refine ⟨hn x hx, fun e => ?_⟩
    obtain ⟨u, h1, h2⟩ := I.til x hx
    rw [show x.2 = s from e] at h1
    have := hat u h1
    exact Int.le_trans h2 this
  · by_cases c : j < us.length
    · obtain ⟨k0, h0, h⟩ := I.top j c
      refine ⟨k0, h0, fun i hi => ?_⟩
      obtain ⟨k2, h1, h2⟩ := h i hi
      exact ⟨k2, List.mem_append.mpr (.inl h1), h2⟩
    · rw [putU_len hle] at hj
      split at hj
      · omega
      · refine ⟨k, hk, fun i hi => ?_⟩
        by_cases e : i = s
        · subst e
          exact ⟨k, List.mem_append.mpr (.inr (List.mem_singleton.mpr rfl)), Int.le_refl _, hp⟩
        · have hil : i < us.length := by omega
          have hu := List.getElem?_eq_getElem hil
          obtain ⟨k2, h1, h2⟩ := I.own i _ hu
          refine ⟨k2, List.mem_append.mpr (.inl h1), hs _ h1, ?_⟩
          rw [h2]
          exact hlt i _ (by omega) hu
  · rw [putU_len hle, List.length_append]
    have := I.cnt
    split
    · omega
    · have : (([(k, s)] : List (Nat × Nat))).length = 1 := rfl
      omega
/-- the state after some of the order -/
theorem seatI_run {ps : List (Int × Int)} (hp : ∀ k, k < ps.length → psS ps k < psE ps k) : ∀ n, n ≤ (order ps).length → ∃ gs : List (Nat × Nat), SeatI ps gs (seatRun ps ((order ps).take n)).1 (seatRun ps ((order ps).take n)).2 ∧ gs.map (fun x => ((x.1 : Nat) : Int)) = ((order ps).take n).map (·.2)
  | 0, _ => ⟨[], by
    rw [List.take_zero]
    refine ⟨⟨List.length_replicate, fun x h => (List.not_mem_nil h).elim, fun x h => (List.not_mem_nil h).elim, fun j u h => ?_, List.Pairwise.nil, fun j h => absurd h (Nat.not_lt_zero _), Nat.le_refl _⟩, rfl⟩
    have : (([] : List Int))[j]? = some u := h
    rw [List.getElem?_nil] at this
    cases this⟩
  | n + 1, h => by
    obtain ⟨gs, I, e⟩ := seatI_run hp n (by omega)
    have hq := List.getElem?_eq_getElem (show n < (order ps).length by omega)
    obtain ⟨k, hk, ek⟩ := order_mem (List.getElem_mem (show n < (order ps).length by omega))
    rw [ek] at hq
    have et : (order ps).take (n + 1) = (order ps).take n ++ [(psS ps k, (k : Int))] := by rw [List.take_add_one, hq]; rfl
    have st := I.step hk (fun x hx z => ?_) (hp k hk) (fun x hx => ?_)
    · refine ⟨_, (by
        rw [et, seatRun_snoc]
        exact st : SeatI ps _ (seatRun ps ((order ps).take (n + 1))).1 (seatRun ps ((order ps).take (n + 1))).2), ?_⟩
      · rw [et, List.map_append, List.map_append, e]
        rfl
    · have nd := order_nodup ps
      rw [← List.take_append_drop (n + 1) (order ps), List.map_append] at nd
      have nd2 := (List.nodup_append.mp nd).1
      rw [et, List.map_append] at nd2
      refine (List.nodup_append.mp nd2).2.2 _ ?_ _ (List.mem_singleton.mpr rfl) (show ((x.1 : Nat) : Int) = _ by rw [z])
      rw [← e]
      exact List.mem_map.mpr ⟨x, hx, rfl⟩
    · have so := order_sorted ps
      rw [← List.take_append_drop (n + 1) (order ps), et] at so
      have s2 := (List.pairwise_append.mp (List.pairwise_append.mp so).1).2.2
      have hm : ((x.1 : Nat) : Int) ∈ ((order ps).take n).map (·.2) := by
        rw [← e]
        exact List.mem_map.mpr ⟨x, hx, rfl⟩
      obtain ⟨q, hq1, hq2⟩ := List.mem_map.mp hm
      obtain ⟨k2, _, rfl⟩ := order_mem (List.mem_of_mem_take hq1)
      have := s2 _ hq1 _ (List.mem_singleton.mpr rfl)
      have ek2 : k2 = x.1 := by
        have : ((k2 : Nat) : Int) = ((x.1 : Nat) : Int) := hq2
        omega
      subst ek2
      simp only [lexLe, Bool.or_eq_true, Bool.and_eq_true, decide_eq_true_eq] at this
      omega
theorem order_len (ps : List (Int × Int)) : (order ps).length = ps.length := by
  rw [(order_perm ps).length_eq]
  unfold starts
  rw [List.length_map, List.length_range]
/-- who is there at leg l -/
def active (ps : List (Int × Int)) (l : Int) : List Nat := (List.range ps.length).filter fun k => decide (psS ps k ≤ l) && decide (l < psE ps k)
theorem active_mem {ps : List (Int × Int)} {l : Int} {k : Nat} : k ∈ active ps l ↔ k < ps.length ∧ psS ps k ≤ l ∧ l < psE ps k := by
  unfold active
  rw [List.mem_filter, List.mem_range, Bool.and_eq_true, decide_eq_true_eq, decide_eq_true_eq]
/-- what a seating by the least free seats is: m seats -/
structure Seated (ps : List (Int × Int)) (fo : List Int) (m : Nat) : Prop where
  len : fo.length = ps.length
  at_ : ∀ k, k < ps.length → ∃ s : Nat, fo[k]? = some (s : Int) ∧ s < m
  le : m ≤ ps.length
  dis : ∀ i j, i < ps.length → j < ps.length → i ≠ j → fo[i]? = fo[j]? → meetB (ps[i]?.getD (0, 0)) (ps[j]?.getD (0, 0)) = false
  all : ∀ l : Int, (active ps l).length ≤ m
  top : 0 < m → ∃ k, k < ps.length ∧ m ≤ (active ps (psS ps k)).length
  onto : ∀ j, j < m → ∃ k, k < ps.length ∧ fo[k]? = some ((j : Nat) : Int)
theorem nodup_map_filter {α β : Type} {f : α → β} {xs : List α} (h : xs.Nodup) (hf : ∀ a ∈ xs, ∀ b ∈ xs, a ≠ b → f a ≠ f b) : (xs.map f).Nodup := by
  induction xs with
  | nil => exact List.Pairwise.nil
  | cons x xs ih =>
    rw [List.map_cons, List.nodup_cons]
    rw [List.nodup_cons] at h
    refine ⟨fun z => ?_, ih h.2 fun a ha b hb => hf a (List.mem_cons_of_mem _ ha) b (List.mem_cons_of_mem _ hb)⟩
    obtain ⟨y, hy, e⟩ := List.mem_map.mp z
    exact hf y (List.mem_cons_of_mem _ hy) x List.mem_cons_self (fun z => h.1 (by rw [← z]; exact hy)) e
theorem seated {ps : List (Int × Int)} (hp : ∀ k, k < ps.length → psS ps k < psE ps k) : ∃ m, Seated ps (seatsG ps) m := by
  obtain ⟨gs, I, e⟩ := seatI_run hp _ (Nat.le_refl _)
  rw [List.take_length] at I e
  have hall : ∀ k, k < ps.length → ∃ s, (k, s) ∈ gs := fun k hk => by
    have : ((k : Nat) : Int) ∈ gs.map (fun x => ((x.1 : Nat) : Int)) := by
      rw [e]
      exact List.mem_map.mpr ⟨(psS ps k, (k : Int)), (order_perm ps).mem_iff.mpr (List.mem_map.mpr ⟨k, List.mem_range.mpr hk, rfl⟩), rfl⟩
    obtain ⟨x, hx, ex⟩ := List.mem_map.mp this
    have : x.1 = k := by omega
    subst this
    exact ⟨x.2, hx⟩
  have hlen : gs.length = ps.length := by
    have := congrArg List.length e
    rwa [List.length_map, List.length_map, order_len] at this
  have hdis : ∀ x ∈ gs, ∀ y ∈ gs, x.1 ≠ y.1 → x.2 = y.2 → psE ps x.1 ≤ psS ps y.1 ∨ psE ps y.1 ≤ psS ps x.1 := by
    have key : ∀ (zs : List (Nat × Nat)), zs.Pairwise (fun x y => x.1 ≠ y.1 ∧ (x.2 = y.2 → psE ps x.1 ≤ psS ps y.1)) → ∀ x ∈ zs, ∀ y ∈ zs, x.1 ≠ y.1 → x.2 = y.2 → psE ps x.1 ≤ psS ps y.1 ∨ psE ps y.1 ≤ psS ps x.1 := fun zs => by
      induction zs with
      | nil => intro _ x hx; cases hx
      | cons z zs ih =>
        intro hz x hx y hy h1 h2
        rw [List.pairwise_cons] at hz
        rcases List.mem_cons.mp hx with rfl | hx
        · rcases List.mem_cons.mp hy with rfl | hy
          · exact absurd rfl h1
          · exact .inl ((hz.1 y hy).2 h2)
        · rcases List.mem_cons.mp hy with ey | hy
          · rw [ey] at h2 ⊢
            exact .inr ((hz.1 x hx).2 h2.symm)
          · exact ih hz.2 x hx y hy h1 h2
    exact key gs I.dis
  have hdis2 : ∀ i j, i < ps.length → j < ps.length → i ≠ j → (seatsG ps)[i]? = (seatsG ps)[j]? → psE ps i ≤ psS ps j ∨ psE ps j ≤ psS ps i := fun i j hi hj hij he => by
    obtain ⟨s, hs⟩ := hall i hi
    obtain ⟨t, ht⟩ := hall j hj
    have h1 := (I.idx _ hs).2
    have h2 := (I.idx _ ht).2
    unfold seatsG at he
    rw [h1, h2] at he
    simp only [Option.some.injEq] at he
    exact hdis _ hs _ ht hij (show s = t by omega)
  have hat : ∀ k, k < ps.length → ∃ s : Nat, (seatsG ps)[k]? = some (s : Int) ∧ s < (seatRun ps (order ps)).2.length := fun k hk => by
    obtain ⟨s, hs⟩ := hall k hk
    obtain ⟨u, hu, _⟩ := I.til _ hs
    exact ⟨s, (I.idx _ hs).2, (List.getElem?_eq_some_iff.mp hu).1⟩
  refine ⟨(seatRun ps (order ps)).2.length, I.len, hat, by rw [← hlen]; exact I.cnt, fun i j hi hj hij he => ?_, fun l => ?_, fun hm => ?_, fun j hj => by
    obtain ⟨k, h1, _⟩ := I.own j _ (List.getElem?_eq_getElem hj)
    exact ⟨k, I.idx _ h1⟩⟩
  · have := hdis2 i j hi hj hij he
    unfold psE psS at this
    unfold meetB
    rw [Bool.and_eq_false_iff, decide_eq_false_iff_not, decide_eq_false_iff_not]
    omega
  · have nd : ((active ps l).map fun k => (seatsG ps)[k]?).Nodup := by
      refine nodup_map_filter (List.nodup_range.filter _) fun a ha b hb hab he => ?_
      have h1 := active_mem.mp ha
      have h2 := active_mem.mp hb
      have := hdis2 a b h1.1 h2.1 hab he
      omega
    have sub : ((active ps l).map fun k => (seatsG ps)[k]?) ⊆ (List.range (seatRun ps (order ps)).2.length).map fun s : Nat => some (s : Int) := fun x hx => by
      obtain ⟨k, hk, rfl⟩ := List.mem_map.mp hx
      obtain ⟨s, h1, h2⟩ := hat k (active_mem.mp hk).1
      exact List.mem_map.mpr ⟨s, List.mem_range.mpr h2, h1.symm⟩
    have := List.Nodup.length_le_of_subset nd sub
    rwa [List.length_map, List.length_map, List.length_range] at this
  · obtain ⟨k0, h0, h⟩ := I.top ((seatRun ps (order ps)).2.length - 1) (by omega)
    refine ⟨k0, h0, ?_⟩
    have nd : ((List.range (seatRun ps (order ps)).2.length).map fun s : Nat => some (s : Int)).Nodup :=
      nodup_map_filter List.nodup_range fun a _ b _ hab z => hab (by simp only [Option.some.injEq] at z; omega)
    have sub : ((List.range (seatRun ps (order ps)).2.length).map fun s : Nat => some (s : Int)) ⊆ (active ps (psS ps k0)).map fun k => (seatsG ps)[k]? := fun x hx => by
      obtain ⟨s, hs, rfl⟩ := List.mem_map.mp hx
      obtain ⟨k, h1, h2⟩ := h s (by have := List.mem_range.mp hs; omega)
      have h3 := I.idx _ h1
      exact List.mem_map.mpr ⟨k, active_mem.mpr ⟨h3.1, h2⟩, h3.2⟩
    have := List.Nodup.length_le_of_subset nd sub
    rwa [List.length_map, List.length_map, List.length_range] at this
/-- the law's own record of the seats: (seat, until) -/
structure HeldI (hd : List (Int × Int)) (us : List Int) : Prop where
  til : ∀ x ∈ hd, ∃ (s : Nat) (u : Int), x.1 = (s : Int) ∧ us[s]? = some u ∧ x.2 ≤ u
  own : ∀ (s : Nat) (u : Int), us[s]? = some u → ((s : Int), u) ∈ hd
/-- seat s is free at f: by the record -/
def freeAt (hd : List (Int × Int)) (f : Int) (s : Nat) : Bool := (hd.filter fun x => decide (x.1 = (s : Int)) && decide (f < x.2)).isEmpty
theorem HeldI.free {hd : List (Int × Int)} {us : List Int} (I : HeldI hd us) (f : Int) (s : Nat) : freeAt hd f s = match us[s]? with | none => true | some u => decide (u ≤ f) := by
  rw [Bool.eq_iff_iff]
  unfold freeAt
  rw [List.isEmpty_iff, List.filter_eq_nil_iff]
  constructor
  · intro h
    cases hu : us[s]? with
    | none => rfl
    | some u =>
      have := h _ (I.own s u hu)
      simp only [decide_true, Bool.true_and, decide_eq_true_eq] at this
      show decide (u ≤ f) = true
      rw [decide_eq_true_eq]
      omega
  · intro h x hx
    obtain ⟨s2, u, e1, h1, h2⟩ := I.til x hx
    rw [Bool.and_eq_true, decide_eq_true_eq, decide_eq_true_eq]
    rintro ⟨h3, h4⟩
    have es : s2 = s := by omega
    subst es
    rw [h1] at h
    have := of_decide_eq_true h
    omega
/-- the first free seat by the record is the least free seat -/
theorem HeldI.first {hd : List (Int × Int)} {us : List Int} (I : HeldI hd us) (f : Int) {n : Nat} (hn : us.length < n) : ∃ r, (List.range n).filter (freeAt hd f) = seatOf us f :: r := by
  have h1 : freeAt hd f (seatOf us f) = true := by
    rw [I.free]
    cases hu : us[seatOf us f]? with
    | none => rfl
    | some u => exact decide_eq_true (seatOf_at hu)
  have h2 : ∀ j, j < seatOf us f → freeAt hd f j = false := fun j hj => by
    rw [I.free]
    have hl := seatOf_le us f
    have hu := List.getElem?_eq_getElem (show j < us.length by omega)
    rw [hu]
    have := seatOf_lt hj hu
    exact decide_eq_false (by omega)
  have hle := seatOf_le us f
  have hsplit : List.range n = List.range (seatOf us f) ++ seatOf us f :: (List.range (n - seatOf us f - 1)).map fun x => seatOf us f + 1 + x := by
    obtain ⟨m, rfl⟩ : ∃ m, n = seatOf us f + (m + 1) := ⟨n - seatOf us f - 1, by omega⟩
    rw [List.range_add, List.range_succ_eq_map, List.map_cons, Nat.add_zero, List.map_map]
    congr 2
    rw [show seatOf us f + (m + 1) - seatOf us f - 1 = m by omega]
    refine List.map_congr_left fun x _ => ?_
    show seatOf us f + x.succ = _
    omega
  rw [hsplit, List.filter_append, List.filter_eq_nil_iff.mpr (fun x hx => by rw [h2 x (List.mem_range.mp hx)]; exact fun z => nomatch z), List.nil_append, List.filter_cons, if_pos h1]
  exact ⟨_, rfl⟩
theorem HeldI.step {hd : List (Int × Int)} {us : List Int} (I : HeldI hd us) {f b : Int} (hb : f < b) : HeldI (hd ++ [(((seatOf us f : Nat) : Int), b)]) (putU us (seatOf us f) b) := by
  have hle := seatOf_le us f
  have gat := putU_at (b := b) hle
  refine ⟨fun x hx => ?_, fun s u hu => ?_⟩
  · rcases List.mem_append.mp hx with hx | hx
    · obtain ⟨s, u, e1, h1, h2⟩ := I.til x hx
      by_cases e : s = seatOf us f
      · subst e
        exact ⟨_, b, e1, by rw [gat, if_pos rfl], by have := seatOf_at h1; omega⟩
      · exact ⟨s, u, e1, by rw [gat, if_neg e]; exact h1, h2⟩
    · rw [List.mem_singleton.mp hx]
      exact ⟨_, b, rfl, by rw [gat, if_pos rfl], Int.le_refl _⟩
  · rw [gat] at hu
    split at hu
    · rename_i e
      cases hu
      subst e
      exact List.mem_append.mpr (.inr (List.mem_singleton.mpr rfl))
    · exact List.mem_append.mpr (.inl (I.own s u hu))
theorem omin_min {best : List (Option Nat)} {m : Int} (h : m ∈ (best.filterMap id).map fun n : Nat => (n : Int)) (hm : ∀ y ∈ (best.filterMap id).map (fun n : Nat => (n : Int)), m ≤ y) : ∃ n : Nat, m = (n : Int) ∧ ominL best = some n := by
  obtain ⟨n, hn, rfl⟩ := List.mem_map.mp h
  obtain ⟨x, hx, e⟩ := List.mem_filterMap.mp hn
  have ex : x = some n := e
  subst ex
  refine ⟨n, rfl, ominL_eq hx fun x hx k hk => ?_⟩
  subst hk
  have := hm k (List.mem_map.mpr ⟨k, List.mem_filterMap.mpr ⟨_, hx, rfl⟩, rfl⟩)
  omega
theorem omin_nil {best : List (Option Nat)} (h : best.filterMap id = []) : ominL best = none := by
  refine ominL_none fun x hx => ?_
  cases x with
  | none => rfl
  | some n =>
    have : n ∈ best.filterMap id := List.mem_filterMap.mpr ⟨_, hx, rfl⟩
    rw [h] at this
    cases this
theorem dpN_len (fs : List (List Bool)) (a : Nat) : ∀ m, (dpN fs a m).length = fs.length
  | 0 => by
    show (dp0 fs a).length = _
    unfold dp0
    rw [List.length_map]
  | m + 1 => by
    show (dpS fs _ _).length = _
    unfold dpS
    rw [List.length_map, List.length_range]
theorem dpS_at {fs : List (List Bool)} {l j : Nat} {best : List (Option Nat)} {bs : List Bool} (h : fs[j]? = some bs) : (dpS fs l best)[j]? = some (if bs[l]? = some true then omin (best[j]?.getD none) ((ominL best).map (· + 1)) else none) := by
  unfold dpS
  rw [List.getElem?_map, List.getElem?_range (List.getElem?_eq_some_iff.mp h).1]
  simp [h]
end Sd
end
-- SdK14
section
set_option Elab.async false
set_option linter.all false
set_option maxRecDepth 100000
set_option maxHeartbeats 4000000
set_option autoImplicit false
/-! k14: what its defs say -/
namespace Sd
open PySem PySem.Spec PyProof.Rows L2
/-! walks -/
def sp_free_until : DSp := fun _ ds O => ∃ (row : D) (bs : List Bool) (a e : Nat), ds = [row, .int (a : Int), .int (e : Int)] ∧ row.seq = some (bs.map .bl) ∧ e ≤ bs.length ∧ a ≤ e ∧ O (.ret (.int (farN bs e a : Nat)))
def tripOk (n : Nat) (f e : D) : Bool := isWithin e 1 n && (match e with | .int k => isWithin f 0 (k - 1) | _ => false)
def sp_check_trip : DSp := fun _ ds O => ∃ (seats : List D) (f e : D), ds = [.ln seats, f, e] ∧ f.ty.isSome = true ∧ e.ty.isSome = true ∧ (tripOk seats.length f e = true → O (.ret .non)) ∧ (tripOk seats.length f e = false → O (.exc "BadTrip" (.tup [f, e])))
def sp_told_changes : DSp := fun _ ds O => ∃ (d1 : D) (ws : List Int) (first : Int), ds = [d1, .int first] ∧ d1.seq = some (ws.map .int) ∧ ws.length ≤ 1000 ∧ O (.ret (.lst ((changesN ws first).map .int)))
def optD : Option (List Int) → D
  | none => .non
  | some ws => .lst (ws.map .int)
def rowD (bs : List Bool) : D := .lst (bs.map .bl)
def sp_told_walk : DSp := fun _ ds O => ∃ (free : D) (fs : List (List Bool)) (a e : Nat), ds = [free, .int (a : Int), .int (e : Int)] ∧ free.seq = some (fs.map rowD) ∧ fs ≠ [] ∧ fs.length ≤ 1000 ∧ (∀ bs ∈ fs, e ≤ bs.length) ∧ a ≤ e ∧ e ≤ 1000 ∧ O (.ret (optD (walkG fs e (e - a) a [])))
/-- a row of n truth values -/
def isFree (n : Nat) (d : D) : Bool := match d.seq with | none => false | some ys => decide (ys.length = n) && ys.all D.isB
def badFree (n : Nat) (t : D) : Option Int := match t.seq with
  | none => some (-1)
  | some xs => if 1 ≤ xs.length ∧ xs.length ≤ 20 then (xs.findIdx? fun x => !isFree n x).map Int.ofNat else some (-1)
def sp_check_free : DSp := fun _ ds O => ∃ (seats : List D) (t : D), ds = [.ln seats, t] ∧ t.okv = true ∧ (∀ xs, t.seq = some xs → ∀ x ∈ xs, ∀ ys, x.seq = some ys → ys.length ≤ 1000) ∧ (∀ i, badFree seats.length t = some i → O (.exc "BadFree" (.int i))) ∧ (badFree seats.length t = none → O (.ret .non))
def sp_check_both : DSp := fun _ ds O => ∃ (seats : List D) (t f e : D), ds = [.ln seats, t, f, e] ∧ t.okv = true ∧ (∀ xs, t.seq = some xs → ∀ x ∈ xs, ∀ ys, x.seq = some ys → ys.length ≤ 1000) ∧ f.ty.isSome = true ∧ e.ty.isSome = true ∧ (∀ i, badFree seats.length t = some i → O (.exc "BadFree" (.int i))) ∧
  (badFree seats.length t = none → (tripOk seats.length f e = true → O (.ret .non)) ∧ (tripOk seats.length f e = false → O (.exc "BadTrip" (.tup [f, e]))))
/-- a good call's walk: the rows, the trip, the answer -/
def WalkOk (t f e : D) (P : Option (List Int) → Prop) : Prop := ∃ (fs : List (List Bool)) (a e' : Nat), t.seq = some (fs.map rowD) ∧ f = .int (a : Int) ∧ e = .int (e' : Int) ∧ fs ≠ [] ∧ fs.length ≤ 1000 ∧ (∀ bs ∈ fs, e' ≤ bs.length) ∧ a ≤ e' ∧ e' ≤ 1000 ∧ P (walkG fs e' (e' - a) a [])
def spBoth (ds : List D) (O : Out → Prop) (P : D → D → D → Prop) : Prop := ∃ (seats : List D) (t f e : D), ds = [.ln seats, t, f, e] ∧ t.okv = true ∧ (∀ xs, t.seq = some xs → ∀ x ∈ xs, ∀ ys, x.seq = some ys → ys.length ≤ 1000) ∧ f.ty.isSome = true ∧ e.ty.isSome = true ∧ (∀ i, badFree seats.length t = some i → O (.exc "BadFree" (.int i))) ∧
  (badFree seats.length t = none → (tripOk seats.length f e = true → P t f e) ∧ (tripOk seats.length f e = false → O (.exc "BadTrip" (.tup [f, e]))))
def sp_best_walk : DSp := fun _ ds O => spBoth ds O fun t f e => WalkOk t f e fun w => O (.ret (optD w))
def chgD (a : Int) : Option (List Int) → D
  | none => .non
  | some ws => .lst ((changesN ws a).map .int)
def cntD (a : Int) : Option (List Int) → D
  | none => .non
  | some ws => .int ((changesN ws a).length : Nat)
def sp_change_legs : DSp := fun _ ds O => spBoth ds O fun t f e => WalkOk t f e fun w => ∀ a, f = .int a → O (.ret (chgD a w))
def sp_fewest_changes : DSp := fun _ ds O => spBoth ds O fun t f e => WalkOk t f e fun w => ∀ a, f = .int a → O (.ret (cntD a w))
def stepOk (fs : List (List Bool)) (a : Nat) (p : Nat) (y : D) : Bool := isWithin y 0 ((fs.length : Int) - 1) && (match y with | .int k => ((fs[k.toNat]?).bind fun bs => bs[a + p]?) == some true | _ => false)
def isWalkB (fs : List (List Bool)) (a e : Nat) (thing : D) : Bool := match thing.seq with
  | none => false
  | some ys => decide (ys.length = e - a) && (List.range ys.length).all fun p => stepOk fs a p (ys[p]?.getD .non)
theorem enumD_range (ys : List D) : enumD 0 ys = (List.range ys.length).map fun p : Nat => .tup [.int (p : Int), ys[p]?.getD .non] := by
  apply List.ext_getElem?
  intro i
  rw [enumD_at, List.getElem?_map]
  cases h : ys[i]? with
  | none =>
    rw [List.getElem?_eq_none (by rw [List.length_range]; exact List.getElem?_eq_none_iff.mp h)]
    rfl
  | some y =>
    rw [List.getElem?_range (List.getElem?_eq_some_iff.mp h).1]
    simp [h]
/-- a good call's rows and trip -/
def TripOk (t f e : D) (P : List (List Bool) → Nat → Nat → Prop) : Prop := ∃ (fs : List (List Bool)) (a e' : Nat), t.seq = some (fs.map rowD) ∧ f = .int (a : Int) ∧ e = .int (e' : Int) ∧ fs ≠ [] ∧ fs.length ≤ 1000 ∧ (∀ bs ∈ fs, e' ≤ bs.length) ∧ a ≤ e' ∧ e' ≤ 1000 ∧ P fs a e'
def sp_is_walk : DSp := fun _ ds O => ∃ (seats : List D) (t f e th : D), ds = [.ln seats, t, f, e, th] ∧ t.okv = true ∧ (∀ xs, t.seq = some xs → ∀ x ∈ xs, ∀ ys, x.seq = some ys → ys.length ≤ 1000) ∧ f.ty.isSome = true ∧ e.ty.isSome = true ∧ th.okv = true ∧ (∀ ys, th.seq = some ys → ys.length ≤ 1000) ∧ (∀ i, badFree seats.length t = some i → O (.exc "BadFree" (.int i))) ∧
  (badFree seats.length t = none → (tripOk seats.length f e = true → TripOk t f e fun fs a e' => O (.ret (.bl (isWalkB fs a e' th)))) ∧ (tripOk seats.length f e = false → O (.exc "BadTrip" (.tup [f, e]))))
/-! seating -/
/-- a passenger on n legs -/
def isPass (n : Nat) (d : D) : Bool := match d with
  | .tup [x, y] => isWithin y 1 n && (match y with | .int k => isWithin x 0 (k - 1) | _ => false)
  | _ => false
def badPass (n : Nat) (t : D) : Option Int := match t.seq with
  | none => some (-1)
  | some xs => if xs.length ≤ 40 then (xs.findIdx? fun x => !isPass n x).map Int.ofNat else some (-1)
def sp_check_passengers : DSp := fun _ ds O => ∃ (seats : List D) (t : D), ds = [.ln seats, t] ∧ t.okv = true ∧ (∀ i, badPass seats.length t = some i → O (.exc "BadPassengers" (.int i))) ∧ (badPass seats.length t = none → O (.ret .non))
def sp_meet : DSp := fun _ ds O => ∃ p q : Int × Int, ds = [prD p, prD q] ∧ O (.ret (.bl (meetB p q)))
/-- a good call's passengers -/
def PassOk (t : D) (P : List (Int × Int) → Prop) : Prop := ∃ ps : List (Int × Int), t.seq = some (ps.map prD) ∧ ps.length ≤ 1000 ∧ P ps
def spPass (seats : List D) (t : D) (O : Out → Prop) (P : Prop) : Prop := (∀ i, badPass seats.length t = some i → O (.exc "BadPassengers" (.int i))) ∧ (badPass seats.length t = none → P)
def toI : D → Int
  | .int i => i
  | _ => 0
theorem ints_of_within {ys : List D} {lo hi : Int} (h : ys.all (fun y => isWithin y lo hi) = true) : (ys.map toI).map D.int = ys := by
  rw [List.map_map]
  refine (List.map_congr_left fun y hy => ?_).trans (List.map_id ys)
  obtain ⟨k, rfl, _, _⟩ := isWithin_int (List.all_eq_true.mp h y hy)
  rfl
def isSeatB (ps : List (Int × Int)) (th : D) : Bool := match th.seq with
  | none => false
  | some ys => decide (ys.length = ps.length) && (ys.all (fun y => isWithin y 0 40) && goodSeats (ys.map toI) ps)
def sp_is_seating : DSp := fun _ ds O => ∃ (seats : List D) (t th : D), ds = [.ln seats, t, th] ∧ t.okv = true ∧ th.okv = true ∧ (∀ ys, th.seq = some ys → ys.length ≤ 1000) ∧ spPass seats t O (PassOk t fun ps => O (.ret (.bl (isSeatB ps th))))
theorem order_of {ps qs : List (Int × Int)} (h1 : qs.Perm (starts ps)) (h2 : qs.Pairwise fun p q => SrtO.lexB q p = false) : qs = order ps := by
  refine order_uniq h1 (h2.imp fun {p q} h => ?_)
  unfold SrtO.lexB at h
  simp only [lexLe, Bool.or_eq_true, Bool.and_eq_true, decide_eq_true_eq]
  split at h
  · rename_i e
    have := of_decide_eq_false h
    omega
  · rename_i e
    have := of_decide_eq_false h
    omega
def sp_told_seating : DSp := fun _ ds O => ∃ (t : D) (ps : List (Int × Int)), ds = [t] ∧ t.seq = some (ps.map prD) ∧ ps.length ≤ 1000 ∧ O (.ret (.lst ((seatsG ps).map .int)))
def sp_seating : DSp := fun _ ds O => ∃ (seats : List D) (t : D), ds = [.ln seats, t] ∧ t.okv = true ∧ spPass seats t O (PassOk t fun ps => O (.ret (.lst ((seatsG ps).map .int))))
def maxI (xs : List Int) : Int := xs.foldl max (-1)
def sp_seats_needed : DSp := fun _ ds O => ∃ (seats : List D) (t : D), ds = [.ln seats, t] ∧ t.okv = true ∧ spPass seats t O (PassOk t fun ps => O (.ret (.int (maxI (seatsG ps) + 1))))
def loadsP (n : Nat) (ps : List (Int × Int)) : List Nat := (List.range n).map fun l : Nat => (ps.filter fun p => decide (p.1 ≤ (l : Int)) && decide ((l : Int) < p.2)).length
def sp_fullest : DSp := fun _ ds O => ∃ (seats : List D) (t : D), ds = [.ln seats, t] ∧ 1 ≤ seats.length ∧ seats.length ≤ 1000 ∧ t.okv = true ∧ spPass seats t O (PassOk t fun ps => O (.ret (.int ((loadsP seats.length ps).idxOf (maxN (loadsP seats.length ps)) : Nat))))
def sp__law_seating : DSp := fun _ ds O => ∃ (t : D) (ps : List (Int × Int)), ds = [t] ∧ t.seq = some (ps.map prD) ∧ ps.length ≤ 1000 ∧ (∀ k, k < ps.length → psS ps k < psE ps k) ∧ O (.ret (.lst ((seatsG ps).map .int)))
def sp__law_is_seating : DSp := fun _ ds O => ∃ (t th : D) (ps : List (Int × Int)) (ss : List Int), ds = [t, th] ∧ t.seq = some (ps.map prD) ∧ th.seq = some (ss.map .int) ∧ ss.length = ps.length ∧ ps.length ≤ 1000 ∧ O (.ret (.bl (goodSeats ss ps)))
def optN : Option Nat → D
  | none => .non
  | some n => .int (n : Int)
def sp__law_fewest : DSp := fun _ ds O => ∃ (free : D) (fs : List (List Bool)) (a e : Nat), ds = [free, .int (a : Int), .int (e : Int)] ∧ free.seq = some (fs.map rowD) ∧ fs.length ≤ 1000 ∧ (∀ bs ∈ fs, e ≤ bs.length) ∧ a < e ∧ e ≤ 1000 ∧ O (.ret (optN (fewestN fs a e)))
def sp__law_walk : DSp := fun _ ds O => ∃ (free : D) (fs : List (List Bool)) (a e : Nat), ds = [free, .int (a : Int), .int (e : Int)] ∧ free.seq = some (fs.map rowD) ∧ fs ≠ [] ∧ fs.length ≤ 1000 ∧ (∀ bs ∈ fs, e ≤ bs.length) ∧ a ≤ e ∧ e ≤ a + 11 ∧ e ≤ 1000 ∧ O (.ret (optD (walkG fs e (e - a) a [])))
theorem zip_starts (ps : List (Int × Int)) : (ps.zipIdx.map fun x : (Int × Int) × Nat => prD (x.1.1, (x.2 : Int))) = (starts ps).map prD := by
  unfold starts
  apply List.ext_getElem?
  intro i
  rw [List.getElem?_map, List.getElem?_map, List.getElem?_map, List.getElem?_zipIdx]
  cases h : ps[i]? with
  | none =>
    rw [List.getElem?_eq_none (by rw [List.length_range]; exact List.getElem?_eq_none_iff.mp h)]
    rfl
  | some y =>
    rw [List.getElem?_range (List.getElem?_eq_some_iff.mp h).1]
    simp [psS, h]
theorem seatRun_len (ps : List (Int × Int)) : ∀ qs : List (Int × Int), (seatRun ps qs).1.length = ps.length ∧ (seatRun ps qs).2.length ≤ qs.length := fun qs => by
  have key : ∀ (qs : List (Int × Int)) (st : List Int × List Int), (qs.foldl (seatStep ps) st).1.length = st.1.length ∧ (qs.foldl (seatStep ps) st).2.length ≤ st.2.length + qs.length := fun qs => by
    induction qs with
    | nil => intro st; exact ⟨rfl, Nat.le_refl _⟩
    | cons q qs ih =>
      intro st
      obtain ⟨h1, h2⟩ := ih (seatStep ps st q)
      rw [List.foldl_cons]
      have e1 : (seatStep ps st q).1.length = st.1.length := by
        unfold seatStep
        rw [List.length_set]
      have e2 : (seatStep ps st q).2.length ≤ st.2.length + 1 := by
        unfold seatStep
        have := seatOf_le st.2 q.1
        show (putU _ _ _).length ≤ _
        rw [putU_len this]
        split <;> omega
      rw [List.length_cons]
      omega
  have := key qs (List.replicate ps.length 0, [])
  rw [List.length_replicate] at this
  unfold seatRun
  have e : (([] : List Int)).length = 0 := rfl
  exact ⟨this.1, by have := this.2; simpa using this⟩
theorem seatRun_ge (ps : List (Int × Int)) (qs : List (Int × Int)) : ∀ y ∈ (seatRun ps qs).1, -1 ≤ y := by
  have key : ∀ (qs : List (Int × Int)) (st : List Int × List Int), (∀ y ∈ st.1, -1 ≤ y) → ∀ y ∈ (qs.foldl (seatStep ps) st).1, -1 ≤ y := fun qs => by
    induction qs with
    | nil => intro st h; exact h
    | cons q qs ih =>
      intro st h
      rw [List.foldl_cons]
      refine ih _ fun y hy => ?_
      rcases List.mem_or_eq_of_mem_set hy with hy | rfl
      · exact h y hy
      · omega
  exact key qs _ fun y hy => by
    have := List.eq_of_mem_replicate hy
    omega
theorem maxI_ge : ∀ (ns : List Int) (b : Int), b ≤ ns.foldl max b ∧ ∀ n ∈ ns, n ≤ ns.foldl max b
  | [], b => ⟨Int.le_refl _, fun n h => nomatch h⟩
  | m :: ns, b => by
    obtain ⟨h1, h2⟩ := maxI_ge ns (max b m)
    refine ⟨by rw [List.foldl_cons]; omega, fun n h => ?_⟩
    rw [List.foldl_cons]
    rcases List.mem_cons.mp h with rfl | h
    · omega
    · exact h2 n h
theorem maxI_mem : ∀ (ns : List Int) (b : Int), ns.foldl max b = b ∨ ns.foldl max b ∈ ns
  | [], b => .inl rfl
  | m :: ns, b => by
    rw [List.foldl_cons]
    rcases maxI_mem ns (max b m) with h | h
    · rw [h]
      by_cases c : b ≤ m
      · right
        rw [Int.max_eq_right c]
        exact List.mem_cons_self
      · left
        omega
    · exact .inr (List.mem_cons_of_mem _ h)
theorem maxI_eq {ns : List Int} {m : Int} (h : m ∈ ns) (hm : ∀ y ∈ ns, y ≤ m) (hg : ∀ y ∈ ns, -1 ≤ y) : m = maxI ns := by
  unfold maxI
  have h1 := (maxI_ge ns (-1)).2 m h
  have h2 := hg m h
  rcases maxI_mem ns (-1) with e | e
  · omega
  · have := hm _ e
    omega
theorem repD_one (n : Nat) (x : D) : repD (n : Int) [x] = List.replicate n x := by
  simp [repD]
theorem somes_ints : ∀ best : List (Option Nat), (best.filter Option.isSome).map optN = ((best.filterMap id).map fun n : Nat => (n : Int)).map D.int
  | [] => rfl
  | none :: r => by
    rw [List.filter_cons_of_neg (by simp), somes_ints r, List.filterMap_cons_none rfl]
  | some n :: r => by
    rw [List.filter_cons_of_pos (by rfl), List.map_cons, somes_ints r]
    rfl
/-! good calls, bad calls -/
def PsOk (n : Nat) (ps : List (Int × Int)) : Prop := ∀ p ∈ ps, 0 ≤ p.1 ∧ p.1 < p.2 ∧ p.2 ≤ (n : Int)
theorem okv_prs {ps : List (Int × Int)} : ∀ x ∈ ps.map prD, x.okv = true := fun x hx => by
  obtain ⟨m, _, rfl⟩ := List.mem_map.mp hx
  rfl
theorem isPass_ok {n : Nat} {p : Int × Int} (h : 0 ≤ p.1 ∧ p.1 < p.2 ∧ p.2 ≤ (n : Int)) : isPass n (prD p) = true := by
  show (isWithin (.int p.2) 1 n && isWithin (.int p.1) 0 (p.2 - 1)) = true
  simp [isWithin]
  omega
theorem badPass_none {n : Nat} {t : D} {ps : List (Int × Int)} (hs : t.seq = some (ps.map prD)) (hp : PsOk n ps) (hl : ps.length ≤ 40) : badPass n t = none := by
  unfold badPass
  rw [hs]
  show (if (ps.map prD).length ≤ 40 then Option.map Int.ofNat ((ps.map prD).findIdx? fun x => !isPass n x) else some (-1)) = none
  rw [if_pos (by simpa using hl), findIdx_none]
  · rfl
  · rw [List.all_eq_true]
    intro x hx
    obtain ⟨p, hp2, rfl⟩ := List.mem_map.mp hx
    exact isPass_ok (hp p hp2)
theorem badPass_last {n : Nat} {ps : List (Int × Int)} {o : D} (hp : PsOk n ps) (hl : ps.length ≤ 39) (ho : isPass n o = false) : badPass n (.lst (ps.map prD ++ [o])) = some (ps.length : Int) := by
  unfold badPass
  show (if (ps.map prD ++ [o]).length ≤ 40 then Option.map Int.ofNat ((ps.map prD ++ [o]).findIdx? fun x => !isPass n x) else some (-1)) = _
  rw [if_pos (by simp; omega), findIdx_at (i := ps.length) (x := o) _ _ ho]
  · rfl
  · rw [List.take_left' (by simp), List.all_eq_true]
    intro x hx
    obtain ⟨p, hp2, rfl⟩ := List.mem_map.mp hx
    exact isPass_ok (hp p hp2)
  · rw [List.getElem?_append_right (by simp)]
    simp
theorem pass_of {seats : List D} {t : D} {ps : List (Int × Int)} {O : Out → Prop} {P : List (Int × Int) → Prop} (hs : t.seq = some (ps.map prD)) (hp : PsOk seats.length ps) (hl : ps.length ≤ 40) (h : P ps) : spPass seats t O (PassOk t P) :=
  ⟨fun i e => (by rw [badPass_none hs hp hl] at e; cases e), fun _ => ⟨ps, hs, by omega, h⟩⟩
theorem pass_bad {seats : List D} {t : D} {i : Int} {O : Out → Prop} {P : Prop} (hb : badPass seats.length t = some i) (o : O (.exc "BadPassengers" (.int i))) : spPass seats t O P :=
  ⟨fun j e => (by rw [hb] at e; cases e; exact o), fun e => (by rw [hb] at e; cases e)⟩
def FsOk (n : Nat) (fs : List (List Bool)) : Prop := ∀ bs ∈ fs, bs.length = n
theorem okv_rows {fs : List (List Bool)} : ∀ x ∈ fs.map rowD, x.okv = true := fun x hx => by
  obtain ⟨m, _, rfl⟩ := List.mem_map.mp hx
  exact okv_lst okv_bl
theorem isFree_ok {n : Nat} {bs : List Bool} (h : bs.length = n) : isFree n (rowD bs) = true := by
  unfold isFree rowD
  show (decide ((bs.map D.bl).length = n) && (bs.map D.bl).all D.isB) = true
  rw [List.length_map, decide_eq_true h, Bool.true_and, List.all_eq_true]
  intro x hx
  obtain ⟨m, _, rfl⟩ := List.mem_map.mp hx
  rfl
theorem badFree_none {n : Nat} {t : D} {fs : List (List Bool)} (hs : t.seq = some (fs.map rowD)) (hf : FsOk n fs) (h1 : 1 ≤ fs.length) (h20 : fs.length ≤ 20) : badFree n t = none := by
  unfold badFree
  rw [hs]
  show (if 1 ≤ (fs.map rowD).length ∧ (fs.map rowD).length ≤ 20 then Option.map Int.ofNat ((fs.map rowD).findIdx? fun x => !isFree n x) else some (-1)) = none
  rw [if_pos (by simpa using ⟨h1, h20⟩), findIdx_none]
  · rfl
  · rw [List.all_eq_true]
    intro x hx
    obtain ⟨p, hp2, rfl⟩ := List.mem_map.mp hx
    exact isFree_ok (hf p hp2)
theorem badFree_last {n : Nat} {fs : List (List Bool)} {o : D} (hf : FsOk n fs) (hl : fs.length ≤ 19) (ho : isFree n o = false) : badFree n (.lst (fs.map rowD ++ [o])) = some (fs.length : Int) := by
  unfold badFree
  show (if 1 ≤ (fs.map rowD ++ [o]).length ∧ (fs.map rowD ++ [o]).length ≤ 20 then Option.map Int.ofNat ((fs.map rowD ++ [o]).findIdx? fun x => !isFree n x) else some (-1)) = _
  rw [if_pos (by simp; omega), findIdx_at (i := fs.length) (x := o) _ _ ho]
  · rfl
  · rw [List.take_left' (by simp), List.all_eq_true]
    intro x hx
    obtain ⟨p, hp2, rfl⟩ := List.mem_map.mp hx
    exact isFree_ok (hf p hp2)
  · rw [List.getElem?_append_right (by simp)]
    simp
theorem tripOk_ok {n a e : Nat} (h1 : a < e) (h2 : e ≤ n) : tripOk n (.int (a : Int)) (.int (e : Int)) = true := by
  show (isWithin (.int (e : Int)) 1 n && isWithin (.int (a : Int)) 0 ((e : Int) - 1)) = true
  simp [isWithin]
  omega
theorem row_lens {t : D} {fs : List (List Bool)} {n : Nat} (hs : t.seq = some (fs.map rowD)) (hf : FsOk n fs) (hn : n ≤ 1000) : ∀ xs, t.seq = some xs → ∀ x ∈ xs, ∀ ys, x.seq = some ys → ys.length ≤ 1000 := fun xs h x hx ys hy => by
  rw [hs] at h
  cases h
  obtain ⟨bs, hb, rfl⟩ := List.mem_map.mp hx
  cases hy
  rw [List.length_map, hf bs hb]
  exact hn
theorem both_of {seats : List D} {t : D} {fs : List (List Bool)} {a e : Nat} {O : Out → Prop} {P : D → D → D → Option (List Int) → Prop} (hv : t.okv = true) (hs : t.seq = some (fs.map rowD)) (hf : FsOk seats.length fs) (h1 : 1 ≤ fs.length) (h20 : fs.length ≤ 20) (hn : seats.length ≤ 10) (ha : a < e) (he : e ≤ seats.length) (h : P t (.int (a : Int)) (.int (e : Int)) (walkG fs e (e - a) a [])) : spBoth [.ln seats, t, .int (a : Int), .int (e : Int)] O (fun t f e => WalkOk t f e (P t f e)) :=
  ⟨seats, t, _, _, rfl, hv, row_lens hs hf (by omega), rfl, rfl, fun i e => (by rw [badFree_none hs hf h1 h20] at e; cases e), fun _ => ⟨fun _ => ⟨fs, a, e, hs, rfl, rfl, fun z => (by rw [z] at h1; exact absurd h1 (by decide)), by omega, fun bs hb => (by rw [hf bs hb]; exact he), by omega, by omega, h⟩, fun z => (by rw [tripOk_ok ha he] at z; cases z)⟩⟩
theorem both_bad {seats : List D} {t f e : D} {i : Int} {O : Out → Prop} {P : D → D → D → Prop} (hv : t.okv = true) (hz : ∀ xs, t.seq = some xs → ∀ x ∈ xs, ∀ ys, x.seq = some ys → ys.length ≤ 1000) (hf : f.ty.isSome = true) (he : e.ty.isSome = true) (hb : badFree seats.length t = some i) (o : O (.exc "BadFree" (.int i))) : spBoth [.ln seats, t, f, e] O P :=
  ⟨seats, t, f, e, rfl, hv, hz, hf, he, fun j z => (by rw [hb] at z; cases z; exact o), fun z => (by rw [hb] at z; cases z)⟩
theorem both_trip {seats : List D} {t f e : D} {fs : List (List Bool)} {O : Out → Prop} {P : D → D → D → Prop} (hv : t.okv = true) (hs : t.seq = some (fs.map rowD)) (hf : FsOk seats.length fs) (h1 : 1 ≤ fs.length) (h20 : fs.length ≤ 20) (hn : seats.length ≤ 10) (tf : f.ty.isSome = true) (te : e.ty.isSome = true) (ht : tripOk seats.length f e = false) (o : O (.exc "BadTrip" (.tup [f, e]))) : spBoth [.ln seats, t, f, e] O P :=
  ⟨seats, t, f, e, rfl, hv, row_lens hs hf (by omega), tf, te, fun i z => (by rw [badFree_none hs hf h1 h20] at z; cases z), fun _ => ⟨fun z => (by rw [ht] at z; cases z), fun _ => o⟩⟩
theorem walk_of {F : Fs} {seats : List D} {t th : D} {fs : List (List Bool)} {a e : Nat} {O : Out → Prop} (hv : t.okv = true) (hs : t.seq = some (fs.map rowD)) (hf : FsOk seats.length fs) (h1 : 1 ≤ fs.length) (h20 : fs.length ≤ 20) (hn : seats.length ≤ 10) (ha : a < e) (he : e ≤ seats.length) (hth : th.okv = true) (hl : ∀ ys, th.seq = some ys → ys.length ≤ 1000) (h : O (.ret (.bl (isWalkB fs a e th)))) : sp_is_walk F [.ln seats, t, .int (a : Int), .int (e : Int), th] O :=
  ⟨seats, t, _, _, th, rfl, hv, row_lens hs hf (by omega), rfl, rfl, hth, hl, fun i e => (by rw [badFree_none hs hf h1 h20] at e; cases e), fun _ => ⟨fun _ => ⟨fs, a, e, hs, rfl, rfl, fun z => (by rw [z] at h1; exact absurd h1 (by decide)), by omega, fun bs hb => (by rw [hf bs hb]; exact he), by omega, by omega, h⟩, fun z => (by rw [tripOk_ok ha he] at z; cases z)⟩⟩
theorem walk_trip {F : Fs} {seats : List D} {t th f e : D} {fs : List (List Bool)} {O : Out → Prop} (hv : t.okv = true) (hs : t.seq = some (fs.map rowD)) (hf : FsOk seats.length fs) (h1 : 1 ≤ fs.length) (h20 : fs.length ≤ 20) (hn : seats.length ≤ 10) (tf : f.ty.isSome = true) (te : e.ty.isSome = true) (hth : th.okv = true) (hl : ∀ ys, th.seq = some ys → ys.length ≤ 1000) (ht : tripOk seats.length f e = false) (o : O (.exc "BadTrip" (.tup [f, e]))) : sp_is_walk F [.ln seats, t, f, e, th] O :=
  ⟨seats, t, f, e, th, rfl, hv, row_lens hs hf (by omega), tf, te, hth, hl, fun i z => (by rw [badFree_none hs hf h1 h20] at z; cases z), fun _ => ⟨fun z => (by rw [ht] at z; cases z), fun _ => o⟩⟩
/-! the seatings -/
theorem ps_lt {n : Nat} {ps : List (Int × Int)} (hp : PsOk n ps) : ∀ k, k < ps.length → psS ps k < psE ps k := fun k hk => by
  have := hp ps[k] (List.getElem_mem hk)
  unfold psS psE
  rw [List.getElem?_eq_getElem hk]
  exact this.2.1
theorem filter_range {α : Type} (d : α) (p : α → Bool) (xs : List α) : (xs.filter p).length = ((List.range xs.length).filter fun k => p (xs[k]?.getD d)).length := by
  have e : xs = (List.range xs.length).map fun k => xs[k]?.getD d := by
    apply List.ext_getElem?
    intro i
    rw [List.getElem?_map]
    by_cases h : i < xs.length
    · rw [List.getElem?_range h, List.getElem?_eq_getElem h]
      simp [List.getElem?_eq_getElem h]
    · rw [List.getElem?_eq_none (by omega), List.getElem?_eq_none (by rw [List.length_range]; omega)]
      rfl
  have : (xs.filter p).length = (((List.range xs.length).map fun k => xs[k]?.getD d).filter p).length := by rw [← e]
  rw [this, List.filter_map, List.length_map]
  rfl
theorem load_active (ps : List (Int × Int)) (l : Int) : (ps.filter fun p => decide (p.1 ≤ l) && decide (l < p.2)).length = (active ps l).length := filter_range (0, 0) _ ps
theorem maxN_is {ns : List Nat} {m : Nat} (h1 : ∀ n ∈ ns, n ≤ m) (h2 : 0 < m → ∃ n ∈ ns, m ≤ n) : maxN ns = m := by
  rcases maxN_mem ns 0 with h | h
  · have hz : maxN ns = 0 := h
    by_cases c : 0 < m
    · obtain ⟨n, hn, hmn⟩ := h2 c
      have := (maxN_ge ns 0).2 n hn
      unfold maxN at hz
      omega
    · omega
  · have a1 := h1 _ h
    by_cases c : 0 < m
    · obtain ⟨n, hn, hmn⟩ := h2 c
      have := (maxN_ge ns 0).2 n hn
      unfold maxN
      omega
    · unfold maxN
      omega
theorem seat_max {n : Nat} {ps : List (Int × Int)} (hp : PsOk n ps) : ∃ m, Seated ps (seatsG ps) m ∧ maxI (seatsG ps) + 1 = (m : Int) ∧ maxN (loadsP n ps) = m := by
  obtain ⟨m, S⟩ := seated (ps_lt hp)
  refine ⟨m, S, ?_, maxN_is (fun x hx => ?_) (fun hm => ?_)⟩
  · by_cases c : 0 < m
    · obtain ⟨k, hk, e⟩ := S.onto (m - 1) (by omega)
      have hmem := List.mem_of_getElem? e
      have := maxI_eq hmem (fun y hy => ?_) (seatRun_ge ps _)
      · omega
      · obtain ⟨j, hj, rfl⟩ := List.getElem_of_mem hy
        obtain ⟨s, h1, h2⟩ := S.at_ j (by rw [← S.len]; exact hj)
        rw [List.getElem?_eq_getElem hj] at h1
        have h1 := Option.some.inj h1
        omega
    · have hl : ps.length = 0 := by
        by_cases z : 0 < ps.length
        · obtain ⟨s, _, h⟩ := S.at_ 0 z
          omega
        · omega
      have : seatsG ps = [] := List.eq_nil_of_length_eq_zero (by rw [S.len, hl])
      rw [this]
      show (-1 : Int) + 1 = _
      omega
  · obtain ⟨l, _, rfl⟩ := List.mem_map.mp hx
    rw [load_active]
    exact S.all l
  · obtain ⟨k, hk, h⟩ := S.top hm
    have := hp ps[k] (List.getElem_mem hk)
    have e : psS ps k = ps[k].1 := by
      unfold psS
      rw [List.getElem?_eq_getElem hk]
      rfl
    refine ⟨_, List.mem_map.mpr ⟨(psS ps k).toNat, List.mem_range.mpr (by omega), rfl⟩, ?_⟩
    rw [load_active, show (((psS ps k).toNat : Nat) : Int) = psS ps k by omega]
    exact h
theorem seats_in {ps : List (Int × Int)} {m : Nat} (S : Seated ps (seatsG ps) m) (hl : ps.length ≤ 40) : ∀ s ∈ seatsG ps, 0 ≤ s ∧ s ≤ 40 := fun s hs => by
  obtain ⟨j, hj, rfl⟩ := List.getElem_of_mem hs
  obtain ⟨s, h1, h2⟩ := S.at_ j (by rw [← S.len]; exact hj)
  rw [List.getElem?_eq_getElem hj] at h1
  have h1 := Option.some.inj h1
  have := S.le
  omega
theorem seat_good {ps : List (Int × Int)} {m : Nat} (S : Seated ps (seatsG ps) m) : goodSeats (seatsG ps) ps = true := by
  refine List.all_eq_true.mpr fun i hi => List.all_eq_true.mpr fun j hj => ?_
  have hi := List.mem_range.mp hi
  have hj := List.mem_range.mp hj
  rw [S.len] at hi
  unfold clash
  by_cases c : (seatsG ps)[j]? = (seatsG ps)[i]?
  · rw [S.dis i j hi (by omega) (by omega) c.symm, Bool.and_false]
    rfl
  · obtain ⟨s, h1, _⟩ := S.at_ i hi
    obtain ⟨u, h2, _⟩ := S.at_ j (by omega)
    rw [h1, h2] at c ⊢
    have : ((some (u : Int)).getD 0 == (some (s : Int)).getD 0) = false := by
      rw [beq_eq_false_iff_ne]
      exact fun z => c (congrArg some z)
    rw [this]
    rfl
theorem isSeatB_ints {ps : List (Int × Int)} {th : D} {ss : List Int} (hs : th.seq = some (ss.map .int)) (hl : ss.length = ps.length) (h : ∀ s ∈ ss, 0 ≤ s ∧ s ≤ 40) : isSeatB ps th = goodSeats ss ps := by
  unfold isSeatB
  rw [hs]
  show (decide ((ss.map D.int).length = ps.length) && ((ss.map D.int).all (fun y => isWithin y 0 40) && goodSeats ((ss.map D.int).map toI) ps)) = _
  have e1 : (ss.map D.int).all (fun y => isWithin y 0 40) = true := by
    rw [List.all_eq_true]
    intro y hy
    obtain ⟨s, hs, rfl⟩ := List.mem_map.mp hy
    have := h s hs
    simp [isWithin]
    omega
  have e2 : (ss.map D.int).map toI = ss := by
    rw [List.map_map]
    exact List.map_id ss
  rw [List.length_map, decide_eq_true hl, e1, e2]
  rfl
theorem odd_seat {ps : List (Int × Int)} {x : D} {mx : Nat} (hx : isWithin x 0 40 = false) (hm : (mx : Int) = max 1 (ps.length : Int)) : isSeatB ps (.lst (List.replicate mx x)) = false := by
  unfold isSeatB
  show (decide ((List.replicate mx x).length = ps.length) && ((List.replicate mx x).all (fun y => isWithin y 0 40) && _)) = false
  rw [List.length_replicate]
  by_cases c : mx = ps.length
  · have : (List.replicate mx x).all (fun y => isWithin y 0 40) = false := by
      obtain ⟨k, rfl⟩ : ∃ k, mx = k + 1 := ⟨mx - 1, by omega⟩
      rw [List.replicate_succ, List.all_cons, hx]
      rfl
    rw [this]
    simp
  · rw [decide_eq_false c]
    rfl
theorem walkB_ints {fs : List (List Bool)} {a e : Nat} {ws : List Int} {th : D} (hs : th.seq = some (ws.map .int)) (hl : ws.length = e - a) (h : ∀ p s, ws[p]? = some s → ∃ (t : Nat) (bs : List Bool), s = (t : Int) ∧ fs[t]? = some bs ∧ bs[a + p]? = some true) : isWalkB fs a e th = true := by
  unfold isWalkB
  rw [hs]
  show (decide ((ws.map D.int).length = e - a) && (List.range (ws.map D.int).length).all fun p => stepOk fs a p ((ws.map D.int)[p]?.getD .non)) = true
  rw [List.length_map, decide_eq_true hl, Bool.true_and, List.all_eq_true]
  intro p hp
  have hp := List.mem_range.mp hp
  obtain ⟨t, bs, h1, h2, h3⟩ := h p _ (List.getElem?_eq_getElem hp)
  rw [List.getElem?_map, List.getElem?_eq_getElem hp, h1]
  have ht := (List.getElem?_eq_some_iff.mp h2).1
  show (isWithin (.int (t : Int)) 0 ((fs.length : Int) - 1) && _) = true
  rw [show isWithin (.int (t : Int)) 0 ((fs.length : Int) - 1) = true by simp [isWithin]; omega, Bool.true_and]
  show (((fs[((t : Nat) : Int).toNat]?).bind fun bs => bs[a + p]?) == some true) = true
  rw [show ((t : Nat) : Int).toNat = t by omega, h2]
  show (bs[a + p]? == some true) = true
  rw [h3]
  rfl
theorem walkG_B {fs : List (List Bool)} (hne : fs ≠ []) {a e : Nat} (h : a ≤ e) {ws : List Int} (hw : walkG fs e (e - a) a [] = some ws) : ws.length = e - a ∧ isWalkB fs a e (.lst (ws.map .int)) = true := by
  obtain ⟨h1, h2⟩ := walkG_ok (a := a) (e - a) a [] ws (Nat.le_refl _) h (by simp) (fun p s z => by rw [List.getElem?_nil] at z; cases z) (Nat.le_refl _) hne hw
  exact ⟨h1, walkB_ints rfl h1 h2⟩
def goodAt (fs : List (List Bool)) (a : Nat) (th : List Int) (k : Nat) : Bool := ((fs[(th[k]?.getD 0).toNat]?.getD [])[a + k]?).getD false
theorem step_good {fs : List (List Bool)} {n a e k : Nat} {th : List Int} (hl : th.length = e - a) (hin : ∀ s ∈ th, 0 ≤ s ∧ s < (fs.length : Int)) (hf : FsOk n fs) (he : e ≤ n) (hk : k < e - a) :
    ∃ (j : Nat) (bs : List Bool) (b : Bool), th[k]? = some (j : Int) ∧ fs[j]? = some bs ∧ bs[a + k]? = some b ∧ goodAt fs a th k = b ∧ stepOk fs a k (((th.map D.int)[k]?).getD .non) = b := by
  have e1 := List.getElem?_eq_getElem (show k < th.length by omega)
  have h1 := hin th[k] (List.getElem_mem _)
  obtain ⟨j, hj⟩ := Int.eq_ofNat_of_zero_le h1.1
  have hj2 : j < fs.length := by omega
  have e2 := List.getElem?_eq_getElem hj2
  have hb := hf fs[j] (List.getElem_mem hj2)
  have e3 := List.getElem?_eq_getElem (show a + k < fs[j].length by omega)
  rw [hj] at e1
  refine ⟨j, fs[j], fs[j][a + k], e1, e2, e3, ?_, ?_⟩
  · unfold goodAt
    rw [e1]
    show ((fs[((j : Nat) : Int).toNat]?.getD [])[a + k]?).getD false = _
    rw [show ((j : Nat) : Int).toNat = j by omega, e2]
    show (fs[j][a + k]?).getD false = _
    rw [e3]
    rfl
  · rw [List.getElem?_map, e1]
    show (isWithin (.int (j : Int)) 0 ((fs.length : Int) - 1) && (((fs[((j : Nat) : Int).toNat]?).bind fun bs => bs[a + k]?) == some true)) = _
    rw [show isWithin (.int (j : Int)) 0 ((fs.length : Int) - 1) = true by simp [isWithin]; omega, Bool.true_and, show ((j : Nat) : Int).toNat = j by omega, e2]
    show ((fs[j][a + k]?) == some true) = _
    rw [e3]
    cases fs[j][a + k] <;> rfl
theorem walkB_good {α : Type} {fs : List (List Bool)} {n a e : Nat} {th : List Int} (f : Nat → α) (hl : th.length = e - a) (hin : ∀ s ∈ th, 0 ≤ s ∧ s < (fs.length : Int)) (hf : FsOk n fs) (he : e ≤ n) :
    isWalkB fs a e (.tup (th.map .int)) = (((List.range (e - a)).filter fun k => !goodAt fs a th k).map f).isEmpty := by
  rw [List.isEmpty_map]
  unfold isWalkB
  show (decide ((th.map D.int).length = e - a) && (List.range (th.map D.int).length).all fun p => stepOk fs a p ((th.map D.int)[p]?.getD .non)) = _
  rw [List.length_map, decide_eq_true hl, Bool.true_and, hl, Bool.eq_iff_iff, List.all_eq_true, List.isEmpty_iff, List.filter_eq_nil_iff]
  constructor
  · intro h k hk
    obtain ⟨j, bs, b, _, _, _, h1, h2⟩ := step_good hl hin hf he (List.mem_range.mp hk)
    have := h k hk
    rw [h2] at this
    rw [h1, this]
    exact fun z => nomatch z
  · intro h k hk
    obtain ⟨j, bs, b, _, _, _, h1, h2⟩ := step_good hl hin hf he (List.mem_range.mp hk)
    have := h k hk
    rw [h1] at this
    rw [h2]
    cases b with
    | true => rfl
    | false => exact absurd rfl this
theorem odd_walk {fs : List (List Bool)} {a e k : Nat} {x : D} (hk : 0 < k) (hx : ∀ p, stepOk fs a p x = false) : isWalkB fs a e (.lst (List.replicate k x)) = false := by
  unfold isWalkB
  show (decide ((List.replicate k x).length = e - a) && (List.range (List.replicate k x).length).all fun p => stepOk fs a p ((List.replicate k x)[p]?.getD .non)) = false
  rw [Bool.and_eq_false_iff]
  right
  rw [List.all_eq_false]
  refine ⟨0, List.mem_range.mpr (by rw [List.length_replicate]; exact hk), ?_⟩
  rw [List.getElem?_replicate, if_pos hk]
  show ¬ stepOk fs a 0 x = true
  rw [hx]
  exact fun z => nomatch z
end Sd
end
-- B_14
section
set_option Elab.async false
set_option linter.all false
set_option maxRecDepth 100000
set_option maxHeartbeats 4000000
set_option autoImplicit false
namespace K14
open PySem PySem.Spec PyProof.Rows L2 Sd
def top (i : Nat) : Stmt := PySem.Challenge.pw_seatsold_k14_whole_seating_and_walks.main.body.getD i (.Pass ⟨0, 0, 0, 0⟩)
abbrev s_is_integer : Stmt := top 1
abbrev s_is_within : Stmt := top 2
abbrev s_is_row : Stmt := top 3
abbrev s_is_tuple_of : Stmt := top 4
abbrev s_SeatError___init__ : Stmt := inClass (top 6) 0
abbrev s_check_free : Stmt := top 13
abbrev s_check_trip : Stmt := top 14
abbrev s_check_both : Stmt := top 15
abbrev s_is_walk : Stmt := top 16
abbrev s_free_until : Stmt := top 17
abbrev s_told_walk : Stmt := top 18
abbrev s_best_walk : Stmt := top 19
abbrev s_told_changes : Stmt := top 20
abbrev s_change_legs : Stmt := top 21
abbrev s_fewest_changes : Stmt := top 22
abbrev s_Line___init__ : Stmt := inClass (top 26) 0
abbrev s_Line___eq__ : Stmt := inClass (top 26) 1
abbrev s_check_passengers : Stmt := top 29
abbrev s_meet : Stmt := top 30
abbrev s_is_seating : Stmt := top 31
abbrev s_told_seating : Stmt := top 32
abbrev s_seating : Stmt := top 33
abbrev s_seats_needed : Stmt := top 34
abbrev s_fullest : Stmt := top 35
abbrev s__law_taken : Stmt := top 37
abbrev s__law_pick : Stmt := top 38
abbrev s__law_alike : Stmt := top 39
abbrev s__law_line : Stmt := top 40
abbrev s__law_seating : Stmt := top 41
abbrev s__law_is_seating : Stmt := top 42
abbrev s__law_fewest : Stmt := top 43
abbrev s__law_walk : Stmt := top 44
abbrev s__law_refused : Stmt := top 45
abbrev s_law : Stmt := top 46
/-- what the walk asks of the names of the top -/
structure Txt (K : PySem.W.Frag) (mg : Str → Option Value) : Prop where
  b_all : mg "all" = none
  b_bool : mg "bool" = none
  b_dict : mg "dict" = none
  b_enumerate : mg "enumerate" = none
  b_int : mg "int" = none
  b_isinstance : mg "isinstance" = none
  b_len : mg "len" = none
  b_list : mg "list" = none
  b_max : mg "max" = none
  b_min : mg "min" = none
  b_range : mg "range" = none
  b_sorted : mg "sorted" = none
  b_str : mg "str" = none
  b_tuple : mg "tuple" = none
  c_MOST_LEGS : ∃ t, mg "MOST_LEGS" = some (.int 10 t)
  c_MOST_PASSENGERS : ∃ t, mg "MOST_PASSENGERS" = some (.int 40 t)
  c_MOST_SEATS_lines : ∃ t, mg "MOST_SEATS_lines" = some (.int 20 t)
  c_MOST_SEATS_walks : ∃ t, mg "MOST_SEATS_walks" = some (.int 20 t)
  g_Line : mg "Line" = some (.ref (He.ga K "Line"))
  g_best_walk : mg "best_walk" = some (.ref (He.ga K "best_walk"))
  g_change_legs : mg "change_legs" = some (.ref (He.ga K "change_legs"))
  g_fewest_changes : mg "fewest_changes" = some (.ref (He.ga K "fewest_changes"))
  g_fullest : mg "fullest" = some (.ref (He.ga K "fullest"))
  g_seating : mg "seating" = some (.ref (He.ga K "seating"))
  g_seats_needed : mg "seats_needed" = some (.ref (He.ga K "seats_needed"))
  clLine : Cls K (He.ga K "Line")
  nSeats : NoAttr K (He.ga K "Line") "seats"
  lnF : LnF K
abbrev FnP (K : PySem.W.Frag) (x : Str) (st : Stmt) (f : Addr) (fd : FuncData) : Prop := FunD K x x (defArgs st) (defBody st) (defScope st) [] [] f fd
theorem sc_is_integer : FnScope ["thing"] ["thing"] (defScope s_is_integer) := ⟨rfl, rfl, rfl, by decide +kernel, rfl, by decide +kernel, by decide +kernel⟩
theorem sc_is_within : FnScope ["thing", "least", "most"] ["thing", "least", "most"] (defScope s_is_within) := ⟨rfl, rfl, rfl, by decide +kernel, rfl, by decide +kernel, by decide +kernel⟩
theorem sc_is_row : FnScope ["thing"] ["thing"] (defScope s_is_row) := ⟨rfl, rfl, rfl, by decide +kernel, rfl, by decide +kernel, by decide +kernel⟩
theorem sc_is_tuple_of : FnScope ["thing", "many"] ["thing", "many"] (defScope s_is_tuple_of) := ⟨rfl, rfl, rfl, by decide +kernel, rfl, by decide +kernel, by decide +kernel⟩
theorem sc_SeatError___init__ : FnScope ["self", "value"] ["self", "value"] (defScope s_SeatError___init__) := ⟨rfl, rfl, rfl, by decide +kernel, rfl, by decide +kernel, by decide +kernel⟩
theorem sc_check_free : FnScope ["line", "free", "index", "row", "one"] ["line", "free"] (defScope s_check_free) := ⟨rfl, rfl, rfl, by decide +kernel, rfl, by decide +kernel, by decide +kernel⟩
theorem sc_check_trip : FnScope ["line", "first", "end"] ["line", "first", "end"] (defScope s_check_trip) := ⟨rfl, rfl, rfl, by decide +kernel, rfl, by decide +kernel, by decide +kernel⟩
theorem sc_check_both : FnScope ["line", "free", "first", "end"] ["line", "free", "first", "end"] (defScope s_check_both) := ⟨rfl, rfl, rfl, by decide +kernel, rfl, by decide +kernel, by decide +kernel⟩
theorem sc_is_walk : FnScope ["line", "free", "first", "end", "thing", "at", "seat"] ["line", "free", "first", "end", "thing"] (defScope s_is_walk) := ⟨rfl, rfl, rfl, by decide +kernel, rfl, by decide +kernel, by decide +kernel⟩
theorem sc_free_until : FnScope ["row", "first", "end", "leg"] ["row", "first", "end"] (defScope s_free_until) := ⟨rfl, rfl, rfl, by decide +kernel, rfl, by decide +kernel, by decide +kernel⟩
theorem sc_told_walk : FnScope ["free", "first", "end", "found", "leg", "until", "seat", "row", "_"] ["free", "first", "end"] (defScope s_told_walk) := ⟨rfl, rfl, rfl, by decide +kernel, rfl, by decide +kernel, by decide +kernel⟩
theorem sc_best_walk : FnScope ["line", "free", "first", "end"] ["line", "free", "first", "end"] (defScope s_best_walk) := ⟨rfl, rfl, rfl, by decide +kernel, rfl, by decide +kernel, by decide +kernel⟩
theorem sc_told_changes : FnScope ["walk", "first", "at"] ["walk", "first"] (defScope s_told_changes) := ⟨rfl, rfl, rfl, by decide +kernel, rfl, by decide +kernel, by decide +kernel⟩
theorem sc_change_legs : FnScope ["line", "free", "first", "end", "walk"] ["line", "free", "first", "end"] (defScope s_change_legs) := ⟨rfl, rfl, rfl, by decide +kernel, rfl, by decide +kernel, by decide +kernel⟩
theorem sc_fewest_changes : FnScope ["line", "free", "first", "end", "found"] ["line", "free", "first", "end"] (defScope s_fewest_changes) := ⟨rfl, rfl, rfl, by decide +kernel, rfl, by decide +kernel, by decide +kernel⟩
theorem sc_Line___init__ : FnScope ["self", "seats", "index", "many"] ["self", "seats"] (defScope s_Line___init__) := ⟨rfl, rfl, rfl, by decide +kernel, rfl, by decide +kernel, by decide +kernel⟩
theorem sc_Line___eq__ : FnScope ["self", "other"] ["self", "other"] (defScope s_Line___eq__) := ⟨rfl, rfl, rfl, by decide +kernel, rfl, by decide +kernel, by decide +kernel⟩
theorem sc_check_passengers : FnScope ["line", "passengers", "index", "one"] ["line", "passengers"] (defScope s_check_passengers) := ⟨rfl, rfl, rfl, by decide +kernel, rfl, by decide +kernel, by decide +kernel⟩
theorem sc_meet : FnScope ["one", "other"] ["one", "other"] (defScope s_meet) := ⟨rfl, rfl, rfl, by decide +kernel, rfl, by decide +kernel, by decide +kernel⟩
theorem sc_is_seating : FnScope ["line", "passengers", "thing", "at", "seat", "other"] ["line", "passengers", "thing"] (defScope s_is_seating) := ⟨rfl, rfl, rfl, by decide +kernel, rfl, by decide +kernel, by decide +kernel⟩
theorem sc_told_seating : FnScope ["passengers", "found", "until", "first", "number", "seat", "_", "one"] ["passengers"] (defScope s_told_seating) := ⟨rfl, rfl, rfl, by decide +kernel, rfl, by decide +kernel, by decide +kernel⟩
theorem sc_seating : FnScope ["line", "passengers"] ["line", "passengers"] (defScope s_seating) := ⟨rfl, rfl, rfl, by decide +kernel, rfl, by decide +kernel, by decide +kernel⟩
theorem sc_seats_needed : FnScope ["line", "passengers"] ["line", "passengers"] (defScope s_seats_needed) := ⟨rfl, rfl, rfl, by decide +kernel, rfl, by decide +kernel, by decide +kernel⟩
theorem sc_fullest : FnScope ["line", "passengers", "loads", "leg", "one"] ["line", "passengers"] (defScope s_fullest) := ⟨rfl, rfl, rfl, by decide +kernel, rfl, by decide +kernel, by decide +kernel⟩
theorem sc__law_pick : FnScope ["row", "some"] ["row", "some"] (defScope s__law_pick) := ⟨rfl, rfl, rfl, by decide +kernel, rfl, by decide +kernel, by decide +kernel⟩
theorem sc__law_alike : FnScope ["found", "due", "k", "key"] ["found", "due"] (defScope s__law_alike) := ⟨rfl, rfl, rfl, by decide +kernel, rfl, by decide +kernel, by decide +kernel⟩
theorem sc__law_line : FnScope ["row", "most", "k"] ["row"] (defScope s__law_line) := ⟨rfl, rfl, rfl, by decide +kernel, rfl, by decide +kernel, by decide +kernel⟩
theorem sc__law_seating : FnScope ["people", "found", "held", "first", "at", "free", "one", "seat"] ["people"] (defScope s__law_seating) := ⟨rfl, rfl, rfl, by decide +kernel, rfl, by decide +kernel, by decide +kernel⟩
theorem sc__law_is_seating : FnScope ["people", "thing", "at", "other"] ["people", "thing"] (defScope s__law_is_seating) := ⟨rfl, rfl, rfl, by decide +kernel, rfl, by decide +kernel, by decide +kernel⟩
theorem sc__law_fewest : FnScope ["free", "first", "end", "best", "leg", "some", "stay", "at", "seat", "ways", "one"] ["free", "first", "end"] (defScope s__law_fewest) := ⟨rfl, rfl, rfl, by decide +kernel, rfl, by decide +kernel, by decide +kernel⟩
theorem sc__law_walk : FnScope ["free", "first", "end", "found", "k", "leg", "until", "seat", "far", "at"] ["free", "first", "end"] (defScope s__law_walk) := ⟨rfl, rfl, rfl, by decide +kernel, rfl, by decide +kernel, by decide +kernel⟩
theorem sc__law_refused : FnScope ["ask", "e"] ["ask"] (defScope s__law_refused) := ⟨rfl, rfl, rfl, by decide +kernel, rfl, by decide +kernel, by decide +kernel⟩
theorem sc_law : FnScope ["script", "row", "seats", "line", "legs", "people", "k", "first", "due", "loads", "turn", "at", "thing", "odd", "often", "free", "end", "walk", "fewest", "changes", "good", "bad", "ask", "wrong", "leg", "one"] ["script"] (defScope s_law) := ⟨rfl, rfl, rfl, by decide +kernel, rfl, by decide +kernel, by decide +kernel⟩
end K14
end
-- F_14_is_integer
section
set_option Elab.async false
set_option linter.all false
set_option maxRecDepth 100000
set_option maxHeartbeats 4000000
set_option autoImplicit false
namespace K14
open PySem PySem.Spec PyProof.Rows L2 Sd
section
variable {P : Program} {w : World} {K : PySem.W.Frag} {mg : Str → Option Value} {base : Heap}
theorem ok_is_integer (T : Txt K mg) {f : Addr} {fd : FuncData} (F : FnP K "is_integer" s_is_integer f fd)   : FnOk P w K mg base (L2.CX P w) 1 f fd ["thing"] (spD K sp_is_integer) := by
  have sc := sc_is_integer
  refine fnD F sc (fun F ds O h => by
    obtain ⟨_, e, _⟩ := h
    rw [e] <;> rfl) (fun cdv A outer s G E ds O hr h hE => ⟨_, (pssd_one (psd_ret (pd_and (pd_is kit_int T.b_isinstance T.b_int (by decide +kernel) (pd_name (pv 0))) (pd_one (pd_not (pd_is kit_bool T.b_isinstance T.b_bool (by decide +kernel) (pd_name (pv 0)))))))), ?_⟩)
  obtain ⟨d, rfl, h⟩ := h
  obtain ⟨hd, o⟩ := h
  simp [startD, wipeD, dsRet, dsRetN, dsIf, dsSeq, dsNext, dsAsg, dsDrop, dsBreak, dsCont, dsPar, dsAug, dsFrz, dsApp, dsExt, dsPut, dsAugO, dsOwn, dsParOO, dsParDO, dsParDDO, dsFrzA, dxRep, diOwn, dsRaise, deAnd, deOr, deNot, de1, de2, deB, deX, dxB, dxLst, deName, deC, deCall, deIxO, deLenO, deTup, deLst, daCons, daNil, daStar, deChain, dtChain, dtV, dtAnd, dtOr, dtNot, dtYes, deIf, deSl, doNone, doSome, rdAdd, rdSub, rdMul, rdMod, rdDiv, rdPow, rdI, rdIc, rdB, rdLt, rdLe, rdGt, rdGe, rdNeg, rdIs, rdEq, rdNe, rdIx, rdIsN, rdNotN, rdIsB, rdNotB, rdRev, rdSeats, rdCatL, rdCatT, rdRepL, rdLen, rdTuple, rdList, rxList, rdInt, rdMax2, rdMin2, dgName, dgTup, dgCons, dgNil, deRefused, rdRepr, rdNeS, rdEqL, rdNeL, rdRepT, rdIsLn, noOwn, diSeq, diEn, diZp, diR1, diR2, noX,  eqOk_int, eqOk_bl, eqOk_non, eqv_int, eqv_bl, eqv_non, atI_0, atI_1, atI_2, atI_3, qty_non, qisI_non, qisB_non, qisL_non, qisU_non, qisS_non, qisD_non, qisNon_non, qcooked_non, qseq_non, qty_bl, qisI_bl, qisB_bl, qisL_bl, qisU_bl, qisS_bl, qisD_bl, qisNon_bl, qcooked_bl, qseq_bl, qty_int, qisI_int, qisB_int, qisL_int, qisU_int, qisS_int, qisD_int, qisNon_int, qcooked_int, qseq_int, qty_str, qisI_str, qisB_str, qisL_str, qisU_str, qisS_str, qisD_str, qisNon_str, qcooked_str, qseq_str, qty_lst, qisI_lst, qisB_lst, qisL_lst, qisU_lst, qisS_lst, qisD_lst, qisNon_lst, qcooked_lst, qseq_lst, qty_tup, qisI_tup, qisB_tup, qisL_tup, qisU_tup, qisS_tup, qisD_tup, qisNon_tup, qcooked_tup, qseq_tup, qty_dct, qisI_dct, qisB_dct, qisL_dct, qisU_dct, qisS_dct, qisD_dct, qisNon_dct, qcooked_dct, qseq_dct, qix_lst, qsl_lst, qix_tup, qsl_tup, qisNon_ln, qcooked_ln, and_assoc, exists_and_left, exists_eq_left, exists_eq_left', exists_eq_right, hd]
  cases d <;> simp_all [dInt, D.isI, D.isB, no_raw, no_ln]
end
end K14
end
-- F_14_is_within
section
set_option Elab.async false
set_option linter.all false
set_option maxRecDepth 100000
set_option maxHeartbeats 4000000
set_option autoImplicit false
namespace K14
open PySem PySem.Spec PyProof.Rows L2 Sd
section
variable {P : Program} {w : World} {K : PySem.W.Frag} {mg : Str → Option Value} {base : Heap}
theorem ok_is_within (T : Txt K mg) {f : Addr} {fd : FuncData} (F : FnP K "is_within" s_is_within f fd) (c_is_integer : Cl P w K mg base 1 "is_integer" sp_is_integer [])  : FnOk P w K mg base (L2.CX P w) 2 f fd ["thing", "least", "most"] (spD K sp_is_within) := by
  have sc := sc_is_within
  refine fnD F sc (fun F ds O h => by
    obtain ⟨_, _, _, e, _⟩ := h
    rw [e] <;> rfl) (fun cdv A outer s G E ds O hr h hE => ⟨_, (pssd_one (psd_ret (pd_and (pd_call c_is_integer hr (by first | decide | omega) (pad_cons (pd_name (pv 0)) pad_nil)) (pd_one (pd_lele (pd_name (pv 1)) (pd_name (pv 0)) (pd_name (pv 2))))))), ?_⟩)
  obtain ⟨d, lo, hi, rfl, h⟩ := h
  obtain ⟨hd, o⟩ := h
  simp [startD, wipeD, dsRet, dsRetN, dsIf, dsSeq, dsNext, dsAsg, dsDrop, dsBreak, dsCont, dsPar, dsAug, dsFrz, dsApp, dsExt, dsPut, dsAugO, dsOwn, dsParOO, dsParDO, dsParDDO, dsFrzA, dxRep, diOwn, dsRaise, deAnd, deOr, deNot, de1, de2, deB, deX, dxB, dxLst, deName, deC, deCall, deIxO, deLenO, deTup, deLst, daCons, daNil, daStar, deChain, dtChain, dtV, dtAnd, dtOr, dtNot, dtYes, deIf, deSl, doNone, doSome, rdAdd, rdSub, rdMul, rdMod, rdDiv, rdPow, rdI, rdIc, rdB, rdLt, rdLe, rdGt, rdGe, rdNeg, rdIs, rdEq, rdNe, rdIx, rdIsN, rdNotN, rdIsB, rdNotB, rdRev, rdSeats, rdCatL, rdCatT, rdRepL, rdLen, rdTuple, rdList, rxList, rdInt, rdMax2, rdMin2, dgName, dgTup, dgCons, dgNil, deRefused, rdRepr, rdNeS, rdEqL, rdNeL, rdRepT, rdIsLn, noOwn, diSeq, diEn, diZp, diR1, diR2, noX,  eqOk_int, eqOk_bl, eqOk_non, eqv_int, eqv_bl, eqv_non, atI_0, atI_1, atI_2, atI_3, qty_non, qisI_non, qisB_non, qisL_non, qisU_non, qisS_non, qisD_non, qisNon_non, qcooked_non, qseq_non, qty_bl, qisI_bl, qisB_bl, qisL_bl, qisU_bl, qisS_bl, qisD_bl, qisNon_bl, qcooked_bl, qseq_bl, qty_int, qisI_int, qisB_int, qisL_int, qisU_int, qisS_int, qisD_int, qisNon_int, qcooked_int, qseq_int, qty_str, qisI_str, qisB_str, qisL_str, qisU_str, qisS_str, qisD_str, qisNon_str, qcooked_str, qseq_str, qty_lst, qisI_lst, qisB_lst, qisL_lst, qisU_lst, qisS_lst, qisD_lst, qisNon_lst, qcooked_lst, qseq_lst, qty_tup, qisI_tup, qisB_tup, qisL_tup, qisU_tup, qisS_tup, qisD_tup, qisNon_tup, qcooked_tup, qseq_tup, qty_dct, qisI_dct, qisB_dct, qisL_dct, qisU_dct, qisS_dct, qisD_dct, qisNon_dct, qcooked_dct, qseq_dct, qix_lst, qsl_lst, qix_tup, qsl_tup, qisNon_ln, qcooked_ln, and_assoc, exists_and_left, exists_eq_left, exists_eq_left', exists_eq_right, sp_is_integer, hd]
  cases d <;> simp_all [dInt, isWithin]
  split <;> simp_all
end
end K14
end
-- F_14_is_row
section
set_option Elab.async false
set_option linter.all false
set_option maxRecDepth 100000
set_option maxHeartbeats 4000000
set_option autoImplicit false
namespace K14
open PySem PySem.Spec PyProof.Rows L2 Sd
section
variable {P : Program} {w : World} {K : PySem.W.Frag} {mg : Str → Option Value} {base : Heap}
theorem ok_is_row (T : Txt K mg) {f : Addr} {fd : FuncData} (F : FnP K "is_row" s_is_row f fd)   : FnOk P w K mg base (L2.CX P w) 1 f fd ["thing"] (spD K sp_is_row) := by
  have sc := sc_is_row
  refine fnD F sc (fun F ds O h => by
    obtain ⟨_, e, _⟩ := h
    rw [e] <;> rfl) (fun cdv A outer s G E ds O hr h hE => ⟨_, (pssd_one (psd_ret (pd_is2 kit_list kit_tuple T.b_isinstance T.b_list T.b_tuple (by decide +kernel) (by decide +kernel) (pd_name (pv 0))))), ?_⟩)
  obtain ⟨d, rfl, h⟩ := h
  simp [startD, wipeD, dsRet, dsRetN, dsIf, dsSeq, dsNext, dsAsg, dsDrop, dsBreak, dsCont, dsPar, dsAug, dsFrz, dsApp, dsExt, dsPut, dsAugO, dsOwn, dsParOO, dsParDO, dsParDDO, dsFrzA, dxRep, diOwn, dsRaise, deAnd, deOr, deNot, de1, de2, deB, deX, dxB, dxLst, deName, deC, deCall, deIxO, deLenO, deTup, deLst, daCons, daNil, daStar, deChain, dtChain, dtV, dtAnd, dtOr, dtNot, dtYes, deIf, deSl, doNone, doSome, rdAdd, rdSub, rdMul, rdMod, rdDiv, rdPow, rdI, rdIc, rdB, rdLt, rdLe, rdGt, rdGe, rdNeg, rdIs, rdEq, rdNe, rdIx, rdIsN, rdNotN, rdIsB, rdNotB, rdRev, rdSeats, rdCatL, rdCatT, rdRepL, rdLen, rdTuple, rdList, rxList, rdInt, rdMax2, rdMin2, dgName, dgTup, dgCons, dgNil, deRefused, rdRepr, rdNeS, rdEqL, rdNeL, rdRepT, rdIsLn, noOwn, diSeq, diEn, diZp, diR1, diR2, noX,  eqOk_int, eqOk_bl, eqOk_non, eqv_int, eqv_bl, eqv_non, atI_0, atI_1, atI_2, atI_3, qty_non, qisI_non, qisB_non, qisL_non, qisU_non, qisS_non, qisD_non, qisNon_non, qcooked_non, qseq_non, qty_bl, qisI_bl, qisB_bl, qisL_bl, qisU_bl, qisS_bl, qisD_bl, qisNon_bl, qcooked_bl, qseq_bl, qty_int, qisI_int, qisB_int, qisL_int, qisU_int, qisS_int, qisD_int, qisNon_int, qcooked_int, qseq_int, qty_str, qisI_str, qisB_str, qisL_str, qisU_str, qisS_str, qisD_str, qisNon_str, qcooked_str, qseq_str, qty_lst, qisI_lst, qisB_lst, qisL_lst, qisU_lst, qisS_lst, qisD_lst, qisNon_lst, qcooked_lst, qseq_lst, qty_tup, qisI_tup, qisB_tup, qisL_tup, qisU_tup, qisS_tup, qisD_tup, qisNon_tup, qcooked_tup, qseq_tup, qty_dct, qisI_dct, qisB_dct, qisL_dct, qisU_dct, qisS_dct, qisD_dct, qisNon_dct, qcooked_dct, qseq_dct, qix_lst, qsl_lst, qix_tup, qsl_tup, qisNon_ln, qcooked_ln, and_assoc, exists_and_left, exists_eq_left, exists_eq_left', exists_eq_right, h.1]
  simpa using h.2
end
end K14
end
-- F_14_is_tuple_of
section
set_option Elab.async false
set_option linter.all false
set_option maxRecDepth 100000
set_option maxHeartbeats 4000000
set_option autoImplicit false
namespace K14
open PySem PySem.Spec PyProof.Rows L2 Sd
section
variable {P : Program} {w : World} {K : PySem.W.Frag} {mg : Str → Option Value} {base : Heap}
theorem ok_is_tuple_of (T : Txt K mg) {f : Addr} {fd : FuncData} (F : FnP K "is_tuple_of" s_is_tuple_of f fd)   : FnOk P w K mg base (L2.CX P w) 1 f fd ["thing", "many"] (spD K sp_is_tuple_of) := by
  have sc := sc_is_tuple_of
  refine fnD F sc (fun F ds O h => by
    obtain ⟨_, _, e, _⟩ := h
    rw [e] <;> rfl) (fun cdv A outer s G E ds O hr h hE => ⟨_, (pssd_one (psd_ret (pd_and (pd_is kit_tuple T.b_isinstance T.b_tuple (by decide +kernel) (pd_name (pv 0))) (pd_one (pd_eq hr.units (pd_callB call_len_seq snd_len T.b_len (pad_cons (pd_name (pv 0)) pad_nil)) (pd_name (pv 1))))))), ?_⟩)
  obtain ⟨d, n, rfl, h⟩ := h
  obtain ⟨hd, o⟩ := h
  simp [startD, wipeD, dsRet, dsRetN, dsIf, dsSeq, dsNext, dsAsg, dsDrop, dsBreak, dsCont, dsPar, dsAug, dsFrz, dsApp, dsExt, dsPut, dsAugO, dsOwn, dsParOO, dsParDO, dsParDDO, dsFrzA, dxRep, diOwn, dsRaise, deAnd, deOr, deNot, de1, de2, deB, deX, dxB, dxLst, deName, deC, deCall, deIxO, deLenO, deTup, deLst, daCons, daNil, daStar, deChain, dtChain, dtV, dtAnd, dtOr, dtNot, dtYes, deIf, deSl, doNone, doSome, rdAdd, rdSub, rdMul, rdMod, rdDiv, rdPow, rdI, rdIc, rdB, rdLt, rdLe, rdGt, rdGe, rdNeg, rdIs, rdEq, rdNe, rdIx, rdIsN, rdNotN, rdIsB, rdNotB, rdRev, rdSeats, rdCatL, rdCatT, rdRepL, rdLen, rdTuple, rdList, rxList, rdInt, rdMax2, rdMin2, dgName, dgTup, dgCons, dgNil, deRefused, rdRepr, rdNeS, rdEqL, rdNeL, rdRepT, rdIsLn, noOwn, diSeq, diEn, diZp, diR1, diR2, noX,  eqOk_int, eqOk_bl, eqOk_non, eqv_int, eqv_bl, eqv_non, atI_0, atI_1, atI_2, atI_3, qty_non, qisI_non, qisB_non, qisL_non, qisU_non, qisS_non, qisD_non, qisNon_non, qcooked_non, qseq_non, qty_bl, qisI_bl, qisB_bl, qisL_bl, qisU_bl, qisS_bl, qisD_bl, qisNon_bl, qcooked_bl, qseq_bl, qty_int, qisI_int, qisB_int, qisL_int, qisU_int, qisS_int, qisD_int, qisNon_int, qcooked_int, qseq_int, qty_str, qisI_str, qisB_str, qisL_str, qisU_str, qisS_str, qisD_str, qisNon_str, qcooked_str, qseq_str, qty_lst, qisI_lst, qisB_lst, qisL_lst, qisU_lst, qisS_lst, qisD_lst, qisNon_lst, qcooked_lst, qseq_lst, qty_tup, qisI_tup, qisB_tup, qisL_tup, qisU_tup, qisS_tup, qisD_tup, qisNon_tup, qcooked_tup, qseq_tup, qty_dct, qisI_dct, qisB_dct, qisL_dct, qisU_dct, qisS_dct, qisD_dct, qisNon_dct, qcooked_dct, qseq_dct, qix_lst, qsl_lst, qix_tup, qsl_tup, qisNon_ln, qcooked_ln, and_assoc, exists_and_left, exists_eq_left, exists_eq_left', exists_eq_right, hd]
  cases d <;> simp_all [isTup, D.isU, D.seq, no_raw, no_ln, eqOk_int, eqv_int]
end
end K14
end
-- F_14_SeatError___init__
section
set_option Elab.async false
set_option linter.all false
set_option maxRecDepth 100000
set_option maxHeartbeats 4000000
set_option autoImplicit false
namespace K14
open PySem PySem.Spec PyProof.Rows L2 Sd
section
variable {P : Program} {w : World} {K : PySem.W.Frag} {mg : Str → Option Value} {base : Heap}
theorem ok_SeatError_init {f : Addr} {fd : FuncData} {dvs : List V} (F : FunD K "__init__" "SeatError.__init__" (defArgs s_SeatError___init__) (defBody s_SeatError___init__) (defScope s_SeatError___init__) dvs [] f fd) : FnOk P w K mg base (L2.CX P w) 1 f fd ["self", "value"] (spErr K) := by
  have sc := sc_SeatError___init__
  refine F.ok sc (fun vs H Q E ⟨_, _, _, e, _⟩ => by rw [e] <;> rfl) fun cdv A outer s H vs Q E hr ⟨a, C, v, e, hO, hn, ha, q⟩ => ⟨_, pss_one (ps_ost (pv 0) (pv 1)), ?_⟩
  subst e
  refine ⟨v, rfl, .ref a, rfl, a, C, rfl, hO, hn, ?_⟩
  exact .inl ⟨ha, q⟩

end
end K14
end
-- F_14_check_free
section
set_option Elab.async false
set_option linter.all false
set_option maxRecDepth 100000
set_option maxHeartbeats 4000000
set_option autoImplicit false
namespace K14
open PySem PySem.Spec PyProof.Rows L2 Sd
section
variable {P : Program} {w : World} {K : PySem.W.Frag} {mg : Str → Option Value} {base : Heap}
theorem ok_check_free (T : Txt K mg) {f : Addr} {fd : FuncData} (F : FnP K "check_free" s_check_free f fd) (c_is_row : Cl P w K mg base 1 "is_row" sp_is_row []) (x_BadFree : Er P w K mg base 1 "BadFree") : FnOk P w K mg base (L2.CX P w) 3 f fd ["line", "free"] (spD K sp_check_free) := by
  have sc := sc_check_free
  refine fnD F sc (fun F ds O h => by
    obtain ⟨_, _, e, _⟩ := h
    rw [e] <;> rfl) (fun cdv A outer s G E ds O hr h hE => ⟨_, (pssd_cons (psd_if (ptd_w (pwd_or (ptd_not (ptd_val (pd_call c_is_row hr (by first | decide | omega) (pad_cons (pd_name (pv 1)) pad_nil)))) (pwd_or1 (ptd_not (ptd_lele pd_int (pd_callB call_len_seq snd_len T.b_len (pad_cons (pd_name (pv 1)) pad_nil)) (pd_gint T.c_MOST_SEATS_walks))))))
  (pssd_one (psd_raise x_BadFree hr hE (takes_of rfl rfl rfl rfl) (pad_cons (pd_neg pd_int) pad_nil)))
  pssd_nil)
  (pssd_one (psd_for (passes_of rfl) (pid_en T.b_enumerate (pad_cons (pd_name (pv 1)) pad_nil)) (pgd_tup (n := 2) (pgsd_cons (pgd_name (i := 2) sc.nd rfl (Or.inl rfl)) (pgsd_cons (pgd_name (i := 3) sc.nd rfl (Or.inl rfl)) pgsd_nil)))
  (pssd_one (psd_if (ptd_w (pwd_or (ptd_not (ptd_val (pd_call c_is_row hr (by first | decide | omega) (pad_cons (pd_name (pv 3)) pad_nil)))) (pwd_or (ptd_ne hr.units (pd_callB call_len_seq snd_len T.b_len (pad_cons (pd_name (pv 3)) pad_nil)) (pd_callB call_len_seq snd_len T.b_len (pad_cons (pd_seats T.clLine T.nSeats (pd_name (pv 0))) pad_nil))) (pwd_or1 (ptd_not (ptd_val (pd_callB (cr_all rfl) snd_all T.b_all (pad_cons (pd_x (pxd_lc (own := [(("one" : Str), 4)]) sc.nd (pid_seq (pd_name (pv 3))) (by kernel_rfl) (fun _ _ _ _ _ => (pgc_name (i := 4) sc.nd rfl (by first | exact Or.inl rfl | exact Or.inr rfl) (by decide))) (fun _ _ _ _ _ => ptsd_nil) (fun _ _ _ _ _ => (pd_is kit_bool T.b_isinstance T.b_bool (by decide +kernel) (pd_name (pv 4)))))) pad_nil))))))))
  (pssd_one (psd_raise x_BadFree hr hE (takes_of rfl rfl rfl rfl) (pad_cons (pd_name (pv 2)) pad_nil)))
  pssd_nil))))), ?_⟩)
  obtain ⟨seats, t, rfl, h⟩ := h
  obtain ⟨hv, hz, o1, o2⟩ := h
  have ht := okv_ty hv
  simp [startD, wipeD, dsRet, dsRetN, dsIf, dsSeq, dsNext, dsAsg, dsDrop, dsBreak, dsCont, dsPar, dsAug, dsFrz, dsApp, dsExt, dsPut, dsAugO, dsOwn, dsParOO, dsParDO, dsParDDO, dsFrzA, dxRep, diOwn, dsRaise, deAnd, deOr, deNot, de1, de2, deB, deX, dxB, dxLst, deName, deC, deCall, deIxO, deLenO, deTup, deLst, daCons, daNil, daStar, deChain, dtChain, dtV, dtAnd, dtOr, dtNot, dtYes, deIf, deSl, doNone, doSome, rdAdd, rdSub, rdMul, rdMod, rdDiv, rdPow, rdI, rdIc, rdB, rdLt, rdLe, rdGt, rdGe, rdNeg, rdIs, rdEq, rdNe, rdIx, rdIsN, rdNotN, rdIsB, rdNotB, rdRev, rdSeats, rdCatL, rdCatT, rdRepL, rdLen, rdTuple, rdList, rxList, rdInt, rdMax2, rdMin2, dgName, dgTup, dgCons, dgNil, deRefused, rdRepr, rdNeS, rdEqL, rdNeL, rdRepT, rdIsLn, noOwn, diSeq, diEn, diZp, diR1, diR2, noX,  eqOk_int, eqOk_bl, eqOk_non, eqv_int, eqv_bl, eqv_non, atI_0, atI_1, atI_2, atI_3, qty_non, qisI_non, qisB_non, qisL_non, qisU_non, qisS_non, qisD_non, qisNon_non, qcooked_non, qseq_non, qty_bl, qisI_bl, qisB_bl, qisL_bl, qisU_bl, qisS_bl, qisD_bl, qisNon_bl, qcooked_bl, qseq_bl, qty_int, qisI_int, qisB_int, qisL_int, qisU_int, qisS_int, qisD_int, qisNon_int, qcooked_int, qseq_int, qty_str, qisI_str, qisB_str, qisL_str, qisU_str, qisS_str, qisD_str, qisNon_str, qcooked_str, qseq_str, qty_lst, qisI_lst, qisB_lst, qisL_lst, qisU_lst, qisS_lst, qisD_lst, qisNon_lst, qcooked_lst, qseq_lst, qty_tup, qisI_tup, qisB_tup, qisL_tup, qisU_tup, qisS_tup, qisD_tup, qisNon_tup, qcooked_tup, qseq_tup, qty_dct, qisI_dct, qisB_dct, qisL_dct, qisU_dct, qisS_dct, qisD_dct, qisNon_dct, qcooked_dct, qseq_dct, qix_lst, qsl_lst, qix_tup, qsl_tup, qisNon_ln, qcooked_ln, and_assoc, exists_and_left, exists_eq_left, exists_eq_left', exists_eq_right, sp_is_row, ht]
  cases hs : t.seq with
  | none =>
    have e : (t.isL || t.isU) = false := by rw [← seq_isSome, hs]; rfl
    have eb : badFree seats.length t = some (-1) := by unfold badFree; rw [hs]
    simp only [Bool.or_eq_false_iff] at e
    simpa [e.1, e.2] using o1 _ eb
  | some xs =>
    have e : (t.isL || t.isU) = true := by rw [← seq_isSome, hs]; rfl
    have hx := okv_seq hv hs
    have het : (t.isL = true ∨ t.isU = true) := by simpa using e
    rw [if_pos het]
    refine ⟨xs, rfl, ?_⟩
    by_cases c1 : 1 ≤ xs.length ∧ xs.length ≤ 20
    · rw [if_pos (by omega), if_pos (by omega)]
      refine for_of (enumD 0 xs) (fun i δ' => (xs.take i).all (isFree seats.length) = true ∧ ∃ a b c, δ' = [.dat (.ln seats), .dat t, a, b, c]) (fun P p => ?_) ⟨by simp, _, _, _, rfl⟩ (fun i x δ' hi hj => ?_) (fun δ' hj => ?_)
      · simp [startD, wipeD, dsRet, dsRetN, dsIf, dsSeq, dsNext, dsAsg, dsDrop, dsBreak, dsCont, dsPar, dsAug, dsFrz, dsApp, dsExt, dsPut, dsAugO, dsOwn, dsParOO, dsParDO, dsParDDO, dsFrzA, dxRep, diOwn, dsRaise, deAnd, deOr, deNot, de1, de2, deB, deX, dxB, dxLst, deName, deC, deCall, deIxO, deLenO, deTup, deLst, daCons, daNil, daStar, deChain, dtChain, dtV, dtAnd, dtOr, dtNot, dtYes, deIf, deSl, doNone, doSome, rdAdd, rdSub, rdMul, rdMod, rdDiv, rdPow, rdI, rdIc, rdB, rdLt, rdLe, rdGt, rdGe, rdNeg, rdIs, rdEq, rdNe, rdIx, rdIsN, rdNotN, rdIsB, rdNotB, rdRev, rdSeats, rdCatL, rdCatT, rdRepL, rdLen, rdTuple, rdList, rxList, rdInt, rdMax2, rdMin2, dgName, dgTup, dgCons, dgNil, deRefused, rdRepr, rdNeS, rdEqL, rdNeL, rdRepT, rdIsLn, noOwn, diSeq, diEn, diZp, diR1, diR2, noX,  eqOk_int, eqOk_bl, eqOk_non, eqv_int, eqv_bl, eqv_non, atI_0, atI_1, atI_2, atI_3, qty_non, qisI_non, qisB_non, qisL_non, qisU_non, qisS_non, qisD_non, qisNon_non, qcooked_non, qseq_non, qty_bl, qisI_bl, qisB_bl, qisL_bl, qisU_bl, qisS_bl, qisD_bl, qisNon_bl, qcooked_bl, qseq_bl, qty_int, qisI_int, qisB_int, qisL_int, qisU_int, qisS_int, qisD_int, qisNon_int, qcooked_int, qseq_int, qty_str, qisI_str, qisB_str, qisL_str, qisU_str, qisS_str, qisD_str, qisNon_str, qcooked_str, qseq_str, qty_lst, qisI_lst, qisB_lst, qisL_lst, qisU_lst, qisS_lst, qisD_lst, qisNon_lst, qcooked_lst, qseq_lst, qty_tup, qisI_tup, qisB_tup, qisL_tup, qisU_tup, qisS_tup, qisD_tup, qisNon_tup, qcooked_tup, qseq_tup, qty_dct, qisI_dct, qisB_dct, qisL_dct, qisU_dct, qisS_dct, qisD_dct, qisNon_dct, qcooked_dct, qseq_dct, qix_lst, qsl_lst, qix_tup, qsl_tup, qisNon_ln, qcooked_ln, and_assoc, exists_and_left, exists_eq_left, exists_eq_left', exists_eq_right, sp_is_row, hs]
        exact p
      · obtain ⟨ha, a, b, c, rfl⟩ := hj
        rw [enumD_at] at hi
        cases hxi : xs[i]? with
        | none => rw [hxi] at hi; cases hi
        | some y =>
          rw [hxi] at hi
          cases hi
          have oy := hx y (List.mem_of_getElem? hxi)
          simp [startD, wipeD, dsRet, dsRetN, dsIf, dsSeq, dsNext, dsAsg, dsDrop, dsBreak, dsCont, dsPar, dsAug, dsFrz, dsApp, dsExt, dsPut, dsAugO, dsOwn, dsParOO, dsParDO, dsParDDO, dsFrzA, dxRep, diOwn, dsRaise, deAnd, deOr, deNot, de1, de2, deB, deX, dxB, dxLst, deName, deC, deCall, deIxO, deLenO, deTup, deLst, daCons, daNil, daStar, deChain, dtChain, dtV, dtAnd, dtOr, dtNot, dtYes, deIf, deSl, doNone, doSome, rdAdd, rdSub, rdMul, rdMod, rdDiv, rdPow, rdI, rdIc, rdB, rdLt, rdLe, rdGt, rdGe, rdNeg, rdIs, rdEq, rdNe, rdIx, rdIsN, rdNotN, rdIsB, rdNotB, rdRev, rdSeats, rdCatL, rdCatT, rdRepL, rdLen, rdTuple, rdList, rxList, rdInt, rdMax2, rdMin2, dgName, dgTup, dgCons, dgNil, deRefused, rdRepr, rdNeS, rdEqL, rdNeL, rdRepT, rdIsLn, noOwn, diSeq, diEn, diZp, diR1, diR2, noX,  eqOk_int, eqOk_bl, eqOk_non, eqv_int, eqv_bl, eqv_non, atI_0, atI_1, atI_2, atI_3, qty_non, qisI_non, qisB_non, qisL_non, qisU_non, qisS_non, qisD_non, qisNon_non, qcooked_non, qseq_non, qty_bl, qisI_bl, qisB_bl, qisL_bl, qisU_bl, qisS_bl, qisD_bl, qisNon_bl, qcooked_bl, qseq_bl, qty_int, qisI_int, qisB_int, qisL_int, qisU_int, qisS_int, qisD_int, qisNon_int, qcooked_int, qseq_int, qty_str, qisI_str, qisB_str, qisL_str, qisU_str, qisS_str, qisD_str, qisNon_str, qcooked_str, qseq_str, qty_lst, qisI_lst, qisB_lst, qisL_lst, qisU_lst, qisS_lst, qisD_lst, qisNon_lst, qcooked_lst, qseq_lst, qty_tup, qisI_tup, qisB_tup, qisL_tup, qisU_tup, qisS_tup, qisD_tup, qisNon_tup, qcooked_tup, qseq_tup, qty_dct, qisI_dct, qisB_dct, qisL_dct, qisU_dct, qisS_dct, qisD_dct, qisNon_dct, qcooked_dct, qseq_dct, qix_lst, qsl_lst, qix_tup, qsl_tup, qisNon_ln, qcooked_ln, and_assoc, exists_and_left, exists_eq_left, exists_eq_left', exists_eq_right, sp_is_row, okv_ty oy]
          have hz' := hz xs hs y (List.mem_of_getElem? hxi)
          have eb : isFree seats.length y = false → badFree seats.length t = some (i : Int) := fun hr => by
            unfold badFree
            rw [hs]
            show (if 1 ≤ xs.length ∧ xs.length ≤ 20 then Option.map Int.ofNat (xs.findIdx? fun x => !isFree seats.length x) else some (-1)) = _
            rw [if_pos c1, findIdx_at ha hxi hr]
            rfl
          cases hys : y.seq with
          | none =>
            have e2 : (y.isL || y.isU) = false := by rw [← seq_isSome, hys]; rfl
            rw [if_neg (by simpa using e2)]
            exact o1 _ (eb (by unfold isFree; rw [hys]))
          | some ys =>
            have e2 : (y.isL || y.isU) = true := by rw [← seq_isSome, hys]; rfl
            have oys := okv_seq oy hys
            have hzl := hz' ys hys
            rw [if_pos (by simpa using e2)]
            refine ⟨ys, rfl, ?_⟩
            by_cases cl : ys.length = seats.length
            · refine .inl ⟨by omega, lc_on ys id (fun y => .bl y.isB) (fun P p => ?_) (by omega) (fun x hx R hR => ?_) ⟨ys.map D.isB, by simp [List.map_map], ?_⟩⟩
              · simp [startD, wipeD, dsRet, dsRetN, dsIf, dsSeq, dsNext, dsAsg, dsDrop, dsBreak, dsCont, dsPar, dsAug, dsFrz, dsApp, dsExt, dsPut, dsAugO, dsOwn, dsParOO, dsParDO, dsParDDO, dsFrzA, dxRep, diOwn, dsRaise, deAnd, deOr, deNot, de1, de2, deB, deX, dxB, dxLst, deName, deC, deCall, deIxO, deLenO, deTup, deLst, daCons, daNil, daStar, deChain, dtChain, dtV, dtAnd, dtOr, dtNot, dtYes, deIf, deSl, doNone, doSome, rdAdd, rdSub, rdMul, rdMod, rdDiv, rdPow, rdI, rdIc, rdB, rdLt, rdLe, rdGt, rdGe, rdNeg, rdIs, rdEq, rdNe, rdIx, rdIsN, rdNotN, rdIsB, rdNotB, rdRev, rdSeats, rdCatL, rdCatT, rdRepL, rdLen, rdTuple, rdList, rxList, rdInt, rdMax2, rdMin2, dgName, dgTup, dgCons, dgNil, deRefused, rdRepr, rdNeS, rdEqL, rdNeL, rdRepT, rdIsLn, noOwn, diSeq, diEn, diZp, diR1, diR2, noX,  eqOk_int, eqOk_bl, eqOk_non, eqv_int, eqv_bl, eqv_non, atI_0, atI_1, atI_2, atI_3, qty_non, qisI_non, qisB_non, qisL_non, qisU_non, qisS_non, qisD_non, qisNon_non, qcooked_non, qseq_non, qty_bl, qisI_bl, qisB_bl, qisL_bl, qisU_bl, qisS_bl, qisD_bl, qisNon_bl, qcooked_bl, qseq_bl, qty_int, qisI_int, qisB_int, qisL_int, qisU_int, qisS_int, qisD_int, qisNon_int, qcooked_int, qseq_int, qty_str, qisI_str, qisB_str, qisL_str, qisU_str, qisS_str, qisD_str, qisNon_str, qcooked_str, qseq_str, qty_lst, qisI_lst, qisB_lst, qisL_lst, qisU_lst, qisS_lst, qisD_lst, qisNon_lst, qcooked_lst, qseq_lst, qty_tup, qisI_tup, qisB_tup, qisL_tup, qisU_tup, qisS_tup, qisD_tup, qisNon_tup, qcooked_tup, qseq_tup, qty_dct, qisI_dct, qisB_dct, qisL_dct, qisU_dct, qisS_dct, qisD_dct, qisNon_dct, qcooked_dct, qseq_dct, qix_lst, qsl_lst, qix_tup, qsl_tup, qisNon_ln, qcooked_ln, and_assoc, exists_and_left, exists_eq_left, exists_eq_left', exists_eq_right, sp_is_row, hys]
                simpa using p
              · simp [startD, wipeD, dsRet, dsRetN, dsIf, dsSeq, dsNext, dsAsg, dsDrop, dsBreak, dsCont, dsPar, dsAug, dsFrz, dsApp, dsExt, dsPut, dsAugO, dsOwn, dsParOO, dsParDO, dsParDDO, dsFrzA, dxRep, diOwn, dsRaise, deAnd, deOr, deNot, de1, de2, deB, deX, dxB, dxLst, deName, deC, deCall, deIxO, deLenO, deTup, deLst, daCons, daNil, daStar, deChain, dtChain, dtV, dtAnd, dtOr, dtNot, dtYes, deIf, deSl, doNone, doSome, rdAdd, rdSub, rdMul, rdMod, rdDiv, rdPow, rdI, rdIc, rdB, rdLt, rdLe, rdGt, rdGe, rdNeg, rdIs, rdEq, rdNe, rdIx, rdIsN, rdNotN, rdIsB, rdNotB, rdRev, rdSeats, rdCatL, rdCatT, rdRepL, rdLen, rdTuple, rdList, rxList, rdInt, rdMax2, rdMin2, dgName, dgTup, dgCons, dgNil, deRefused, rdRepr, rdNeS, rdEqL, rdNeL, rdRepT, rdIsLn, noOwn, diSeq, diEn, diZp, diR1, diR2, noX,  eqOk_int, eqOk_bl, eqOk_non, eqv_int, eqv_bl, eqv_non, atI_0, atI_1, atI_2, atI_3, qty_non, qisI_non, qisB_non, qisL_non, qisU_non, qisS_non, qisD_non, qisNon_non, qcooked_non, qseq_non, qty_bl, qisI_bl, qisB_bl, qisL_bl, qisU_bl, qisS_bl, qisD_bl, qisNon_bl, qcooked_bl, qseq_bl, qty_int, qisI_int, qisB_int, qisL_int, qisU_int, qisS_int, qisD_int, qisNon_int, qcooked_int, qseq_int, qty_str, qisI_str, qisB_str, qisL_str, qisU_str, qisS_str, qisD_str, qisNon_str, qcooked_str, qseq_str, qty_lst, qisI_lst, qisB_lst, qisL_lst, qisU_lst, qisS_lst, qisD_lst, qisNon_lst, qcooked_lst, qseq_lst, qty_tup, qisI_tup, qisB_tup, qisL_tup, qisU_tup, qisS_tup, qisD_tup, qisNon_tup, qcooked_tup, qseq_tup, qty_dct, qisI_dct, qisB_dct, qisL_dct, qisU_dct, qisS_dct, qisD_dct, qisNon_dct, qcooked_dct, qseq_dct, qix_lst, qsl_lst, qix_tup, qsl_tup, qisNon_ln, qcooked_ln, and_assoc, exists_and_left, exists_eq_left, exists_eq_left', exists_eq_right, sp_is_row, okv_ty (oys x hx)]
                exact hR
              · cases hb : ys.all D.isB with
                | false => exact .inl ⟨by simpa using hb, o1 _ (eb (by unfold isFree; rw [hys]; simp [hb]))⟩
                | true =>
                  refine .inr ⟨by simpa using hb, ?_⟩
                  have := all_take ha hxi (show isFree seats.length y = true by unfold isFree; rw [hys]; simp [hb, cl])
                  simpa using this
            · exact .inr ⟨by omega, o1 _ (eb (by unfold isFree; rw [hys]; simp [cl]))⟩
      · obtain ⟨ha, _⟩ := hj
        rw [enumD_length, List.take_length] at ha
        refine o2 ?_
        unfold badFree
        rw [hs]
        show (if 1 ≤ xs.length ∧ xs.length ≤ 20 then Option.map Int.ofNat (xs.findIdx? fun x => !isFree seats.length x) else some (-1)) = _
        rw [if_pos c1, findIdx_none ha]
        rfl
    · have eb : badFree seats.length t = some (-1) := by
        unfold badFree
        rw [hs]
        exact if_neg c1
      have o := o1 _ eb
      by_cases c2 : 1 ≤ (xs.length : Int)
      · rw [if_pos c2, if_neg (by omega)]
        exact o
      · rw [if_neg c2]
        exact o
end
end K14
end
-- F_14_check_trip
section
set_option Elab.async false
set_option linter.all false
set_option maxRecDepth 100000
set_option maxHeartbeats 4000000
set_option autoImplicit false
namespace K14
open PySem PySem.Spec PyProof.Rows L2 Sd
section
variable {P : Program} {w : World} {K : PySem.W.Frag} {mg : Str → Option Value} {base : Heap}
theorem ok_check_trip (T : Txt K mg) {f : Addr} {fd : FuncData} (F : FnP K "check_trip" s_check_trip f fd) (c_is_within : Cl P w K mg base 2 "is_within" sp_is_within []) (x_BadTrip : Er P w K mg base 1 "BadTrip") : FnOk P w K mg base (L2.CX P w) 3 f fd ["line", "first", "end"] (spD K sp_check_trip) := by
  have sc := sc_check_trip
  refine fnD F sc (fun F ds O h => by
    obtain ⟨_, _, _, e, _⟩ := h
    rw [e] <;> rfl) (fun cdv A outer s G E ds O hr h hE => ⟨_, (pssd_one (psd_if (ptd_w (pwd_or (ptd_not (ptd_val (pd_call c_is_within hr (by first | decide | omega) (pad_cons (pd_name (pv 2)) (pad_cons pd_int (pad_cons (pd_callB call_len_seq snd_len T.b_len (pad_cons (pd_seats T.clLine T.nSeats (pd_name (pv 0))) pad_nil)) pad_nil)))))) (pwd_or1 (ptd_not (ptd_val (pd_call c_is_within hr (by first | decide | omega) (pad_cons (pd_name (pv 1)) (pad_cons pd_int (pad_cons (pd_sub (pd_name (pv 2)) pd_int) pad_nil)))))))))
  (pssd_one (psd_raise x_BadTrip hr hE (takes_of rfl rfl rfl rfl) (pad_cons (pd_tup (pad_cons (pd_name (pv 1)) (pad_cons (pd_name (pv 2)) pad_nil))) pad_nil)))
  pssd_nil)), ?_⟩)
  obtain ⟨seats, f', e', rfl, h⟩ := h
  obtain ⟨hf, he, o1, o2⟩ := h
  simp [startD, wipeD, dsRet, dsRetN, dsIf, dsSeq, dsNext, dsAsg, dsDrop, dsBreak, dsCont, dsPar, dsAug, dsFrz, dsApp, dsExt, dsPut, dsAugO, dsOwn, dsParOO, dsParDO, dsParDDO, dsFrzA, dxRep, diOwn, dsRaise, deAnd, deOr, deNot, de1, de2, deB, deX, dxB, dxLst, deName, deC, deCall, deIxO, deLenO, deTup, deLst, daCons, daNil, daStar, deChain, dtChain, dtV, dtAnd, dtOr, dtNot, dtYes, deIf, deSl, doNone, doSome, rdAdd, rdSub, rdMul, rdMod, rdDiv, rdPow, rdI, rdIc, rdB, rdLt, rdLe, rdGt, rdGe, rdNeg, rdIs, rdEq, rdNe, rdIx, rdIsN, rdNotN, rdIsB, rdNotB, rdRev, rdSeats, rdCatL, rdCatT, rdRepL, rdLen, rdTuple, rdList, rxList, rdInt, rdMax2, rdMin2, dgName, dgTup, dgCons, dgNil, deRefused, rdRepr, rdNeS, rdEqL, rdNeL, rdRepT, rdIsLn, noOwn, diSeq, diEn, diZp, diR1, diR2, noX,  eqOk_int, eqOk_bl, eqOk_non, eqv_int, eqv_bl, eqv_non, atI_0, atI_1, atI_2, atI_3, qty_non, qisI_non, qisB_non, qisL_non, qisU_non, qisS_non, qisD_non, qisNon_non, qcooked_non, qseq_non, qty_bl, qisI_bl, qisB_bl, qisL_bl, qisU_bl, qisS_bl, qisD_bl, qisNon_bl, qcooked_bl, qseq_bl, qty_int, qisI_int, qisB_int, qisL_int, qisU_int, qisS_int, qisD_int, qisNon_int, qcooked_int, qseq_int, qty_str, qisI_str, qisB_str, qisL_str, qisU_str, qisS_str, qisD_str, qisNon_str, qcooked_str, qseq_str, qty_lst, qisI_lst, qisB_lst, qisL_lst, qisU_lst, qisS_lst, qisD_lst, qisNon_lst, qcooked_lst, qseq_lst, qty_tup, qisI_tup, qisB_tup, qisL_tup, qisU_tup, qisS_tup, qisD_tup, qisNon_tup, qcooked_tup, qseq_tup, qty_dct, qisI_dct, qisB_dct, qisL_dct, qisU_dct, qisS_dct, qisD_dct, qisNon_dct, qcooked_dct, qseq_dct, qix_lst, qsl_lst, qix_tup, qsl_tup, qisNon_ln, qcooked_ln, and_assoc, exists_and_left, exists_eq_left, exists_eq_left', exists_eq_right, sp_is_within, hf, he]
  unfold tripOk at o1 o2
  cases h1 : isWithin e' 1 (seats.length : Int) with
  | true =>
    obtain ⟨i, rfl, _, _⟩ := isWithin_int h1
    rw [h1, Bool.true_and] at o1 o2
    refine ⟨i, rfl, ?_⟩
    cases h2 : isWithin f' 0 (i - 1) with
    | true => simpa using o1 h2
    | false => simpa using o2 h2
  | false =>
    rw [h1, Bool.false_and] at o2
    simpa using o2 rfl
end
end K14
end
-- F_14_check_both
section
set_option Elab.async false
set_option linter.all false
set_option maxRecDepth 100000
set_option maxHeartbeats 4000000
set_option autoImplicit false
namespace K14
open PySem PySem.Spec PyProof.Rows L2 Sd
section
variable {P : Program} {w : World} {K : PySem.W.Frag} {mg : Str → Option Value} {base : Heap}
theorem ok_check_both (T : Txt K mg) {f : Addr} {fd : FuncData} (F : FnP K "check_both" s_check_both f fd) (c_check_free : Cl P w K mg base 3 "check_free" sp_check_free []) (c_check_trip : Cl P w K mg base 3 "check_trip" sp_check_trip [])  : FnOk P w K mg base (L2.CX P w) 4 f fd ["line", "free", "first", "end"] (spD K sp_check_both) := by
  have sc := sc_check_both
  refine fnD F sc (fun F ds O h => by
    obtain ⟨_, _, _, _, e, _⟩ := h
    rw [e] <;> rfl) (fun cdv A outer s G E ds O hr h hE => ⟨_, (pssd_cons (psd_drop (pd_callX c_check_free hr (by first | decide | omega) hE (passes_call (takes_of rfl rfl rfl rfl) (fun _ _ _ _ z => z)) (pad_cons (pd_name (pv 0)) (pad_cons (pd_name (pv 1)) pad_nil))))
  (pssd_one (psd_drop (pd_callX c_check_trip hr (by first | decide | omega) hE (passes_call (takes_of rfl rfl rfl rfl) (fun _ _ _ _ z => z)) (pad_cons (pd_name (pv 0)) (pad_cons (pd_name (pv 2)) (pad_cons (pd_name (pv 3)) pad_nil))))))), ?_⟩)
  obtain ⟨seats, t, f', e', rfl, h⟩ := h
  obtain ⟨hv, hz, hf, he, o1, o2⟩ := h
  simp [startD, wipeD, dsRet, dsRetN, dsIf, dsSeq, dsNext, dsAsg, dsDrop, dsBreak, dsCont, dsPar, dsAug, dsFrz, dsApp, dsExt, dsPut, dsAugO, dsOwn, dsParOO, dsParDO, dsParDDO, dsFrzA, dxRep, diOwn, dsRaise, deAnd, deOr, deNot, de1, de2, deB, deX, dxB, dxLst, deName, deC, deCall, deIxO, deLenO, deTup, deLst, daCons, daNil, daStar, deChain, dtChain, dtV, dtAnd, dtOr, dtNot, dtYes, deIf, deSl, doNone, doSome, rdAdd, rdSub, rdMul, rdMod, rdDiv, rdPow, rdI, rdIc, rdB, rdLt, rdLe, rdGt, rdGe, rdNeg, rdIs, rdEq, rdNe, rdIx, rdIsN, rdNotN, rdIsB, rdNotB, rdRev, rdSeats, rdCatL, rdCatT, rdRepL, rdLen, rdTuple, rdList, rxList, rdInt, rdMax2, rdMin2, dgName, dgTup, dgCons, dgNil, deRefused, rdRepr, rdNeS, rdEqL, rdNeL, rdRepT, rdIsLn, noOwn, diSeq, diEn, diZp, diR1, diR2, noX,  eqOk_int, eqOk_bl, eqOk_non, eqv_int, eqv_bl, eqv_non, atI_0, atI_1, atI_2, atI_3, qty_non, qisI_non, qisB_non, qisL_non, qisU_non, qisS_non, qisD_non, qisNon_non, qcooked_non, qseq_non, qty_bl, qisI_bl, qisB_bl, qisL_bl, qisU_bl, qisS_bl, qisD_bl, qisNon_bl, qcooked_bl, qseq_bl, qty_int, qisI_int, qisB_int, qisL_int, qisU_int, qisS_int, qisD_int, qisNon_int, qcooked_int, qseq_int, qty_str, qisI_str, qisB_str, qisL_str, qisU_str, qisS_str, qisD_str, qisNon_str, qcooked_str, qseq_str, qty_lst, qisI_lst, qisB_lst, qisL_lst, qisU_lst, qisS_lst, qisD_lst, qisNon_lst, qcooked_lst, qseq_lst, qty_tup, qisI_tup, qisB_tup, qisL_tup, qisU_tup, qisS_tup, qisD_tup, qisNon_tup, qcooked_tup, qseq_tup, qty_dct, qisI_dct, qisB_dct, qisL_dct, qisU_dct, qisS_dct, qisD_dct, qisNon_dct, qcooked_dct, qseq_dct, qix_lst, qsl_lst, qix_tup, qsl_tup, qisNon_ln, qcooked_ln, and_assoc, exists_and_left, exists_eq_left, exists_eq_left', exists_eq_right, sp_check_free, sp_check_trip, hf, he, hv]
  exact ⟨hz, o1, o2⟩
end
end K14
end
-- F_14_is_walk
section
set_option Elab.async false
set_option linter.all false
set_option maxRecDepth 100000
set_option maxHeartbeats 4000000
set_option autoImplicit false
namespace K14
open PySem PySem.Spec PyProof.Rows L2 Sd
section
variable {P : Program} {w : World} {K : PySem.W.Frag} {mg : Str → Option Value} {base : Heap}
theorem ok_is_walk (T : Txt K mg) {f : Addr} {fd : FuncData} (F : FnP K "is_walk" s_is_walk f fd) (c_check_both : Cl P w K mg base 4 "check_both" sp_check_both []) (c_is_row : Cl P w K mg base 1 "is_row" sp_is_row []) (c_is_within : Cl P w K mg base 2 "is_within" sp_is_within [])  : FnOk P w K mg base (L2.CX P w) 5 f fd ["line", "free", "first", "end", "thing"] (spD K sp_is_walk) := by
  have sc := sc_is_walk
  refine fnD F sc (fun F ds O h => by
    obtain ⟨_, _, _, _, _, e, _⟩ := h
    rw [e] <;> rfl) (fun cdv A outer s G E ds O hr h hE => ⟨_, (pssd_cons (psd_drop (pd_callX c_check_both hr (by first | decide | omega) hE (passes_call (takes_of rfl rfl rfl rfl) (fun _ _ _ _ z => z)) (pad_cons (pd_name (pv 0)) (pad_cons (pd_name (pv 1)) (pad_cons (pd_name (pv 2)) (pad_cons (pd_name (pv 3)) pad_nil))))))
  (pssd_cons (psd_if (ptd_w (pwd_or (ptd_not (ptd_val (pd_call c_is_row hr (by first | decide | omega) (pad_cons (pd_name (pv 4)) pad_nil)))) (pwd_or1 (ptd_ne hr.units (pd_callB call_len_seq snd_len T.b_len (pad_cons (pd_name (pv 4)) pad_nil)) (pd_sub (pd_name (pv 3)) (pd_name (pv 2)))))))
  (pssd_one (psd_ret pd_bl))
  pssd_nil)
  (pssd_one (psd_ret (pd_callB (cr_all rfl) snd_all T.b_all (pad_cons (pd_x (pxd_lc (own := [(("at" : Str), 5), (("seat" : Str), 6)]) sc.nd (pid_en T.b_enumerate (pad_cons (pd_name (pv 4)) pad_nil)) (by kernel_rfl) (fun _ _ _ _ _ => (pgc_tup (n := 2) (pgcs_cons (pgc_name (i := 5) sc.nd rfl (by first | exact Or.inl rfl | exact Or.inr rfl) (by decide)) (pgcs_cons (pgc_name (i := 6) sc.nd rfl (by first | exact Or.inl rfl | exact Or.inr rfl) (by decide)) pgcs_nil)))) (fun _ _ _ _ _ => ptsd_nil) (fun _ _ _ _ _ => (pd_and (pd_call c_is_within hr (by first | decide | omega) (pad_cons (pd_name (pv 6)) (pad_cons pd_int (pad_cons (pd_sub (pd_callB call_len_seq snd_len T.b_len (pad_cons (pd_name (pv 1)) pad_nil)) pd_int) pad_nil)))) (pd_one (pd_item (pd_item (pd_name (pv 1)) (pd_name (pv 6))) (pd_add (pd_name (pv 2)) (pd_name (pv 5))))))))) pad_nil)))))), ?_⟩)
  obtain ⟨seats, t, f', e', th, rfl, h⟩ := h
  obtain ⟨hv, hz, hf, he, hth, htl, o1, o2⟩ := h
  simp [startD, wipeD, dsRet, dsRetN, dsIf, dsSeq, dsNext, dsAsg, dsDrop, dsBreak, dsCont, dsPar, dsAug, dsFrz, dsApp, dsExt, dsPut, dsAugO, dsOwn, dsParOO, dsParDO, dsParDDO, dsFrzA, dxRep, diOwn, dsRaise, deAnd, deOr, deNot, de1, de2, deB, deX, dxB, dxLst, deName, deC, deCall, deIxO, deLenO, deTup, deLst, daCons, daNil, daStar, deChain, dtChain, dtV, dtAnd, dtOr, dtNot, dtYes, deIf, deSl, doNone, doSome, rdAdd, rdSub, rdMul, rdMod, rdDiv, rdPow, rdI, rdIc, rdB, rdLt, rdLe, rdGt, rdGe, rdNeg, rdIs, rdEq, rdNe, rdIx, rdIsN, rdNotN, rdIsB, rdNotB, rdRev, rdSeats, rdCatL, rdCatT, rdRepL, rdLen, rdTuple, rdList, rxList, rdInt, rdMax2, rdMin2, dgName, dgTup, dgCons, dgNil, deRefused, rdRepr, rdNeS, rdEqL, rdNeL, rdRepT, rdIsLn, noOwn, diSeq, diEn, diZp, diR1, diR2, noX,  eqOk_int, eqOk_bl, eqOk_non, eqv_int, eqv_bl, eqv_non, atI_0, atI_1, atI_2, atI_3, qty_non, qisI_non, qisB_non, qisL_non, qisU_non, qisS_non, qisD_non, qisNon_non, qcooked_non, qseq_non, qty_bl, qisI_bl, qisB_bl, qisL_bl, qisU_bl, qisS_bl, qisD_bl, qisNon_bl, qcooked_bl, qseq_bl, qty_int, qisI_int, qisB_int, qisL_int, qisU_int, qisS_int, qisD_int, qisNon_int, qcooked_int, qseq_int, qty_str, qisI_str, qisB_str, qisL_str, qisU_str, qisS_str, qisD_str, qisNon_str, qcooked_str, qseq_str, qty_lst, qisI_lst, qisB_lst, qisL_lst, qisU_lst, qisS_lst, qisD_lst, qisNon_lst, qcooked_lst, qseq_lst, qty_tup, qisI_tup, qisB_tup, qisL_tup, qisU_tup, qisS_tup, qisD_tup, qisNon_tup, qcooked_tup, qseq_tup, qty_dct, qisI_dct, qisB_dct, qisL_dct, qisU_dct, qisS_dct, qisD_dct, qisNon_dct, qcooked_dct, qseq_dct, qix_lst, qsl_lst, qix_tup, qsl_tup, qisNon_ln, qcooked_ln, and_assoc, exists_and_left, exists_eq_left, exists_eq_left', exists_eq_right, sp_check_both, sp_is_row, sp_is_within, hf, he, hv, okv_ty hth]
  refine ⟨hz, o1, fun g => ⟨fun k => ?_, (o2 g).2⟩⟩
  obtain ⟨fs, a, m, h1, h2, h3, h4, h5, h6, h7, h8, h9⟩ := (o2 g).1 k
  subst h2 h3
  cases hs : th.seq with
  | none =>
    have e : (th.isL || th.isU) = false := by rw [← seq_isSome, hs]; rfl
    rw [if_neg (by simpa using e)]
    have eb : isWalkB fs a m th = false := by unfold isWalkB; rw [hs]
    rw [eb] at h9
    exact h9
  | some ys =>
    have e : (th.isL || th.isU) = true := by rw [← seq_isSome, hs]; rfl
    rw [if_pos (by simpa using e)]
    refine ⟨ys, rfl, _, rfl, _, rfl, ?_⟩
    have hys := okv_seq hth hs
    have hl := htl ys hs
    by_cases cl : ys.length = m - a
    · refine .inl ⟨by omega, lc_on (List.range ys.length) (fun p : Nat => .tup [.int (p : Int), ys[p]?.getD .non]) (fun p => .bl (stepOk fs a p (ys[p]?.getD .non))) (fun P p => ?_) (by simp; omega) (fun p hp R hR => ?_) ⟨(List.range ys.length).map fun p => stepOk fs a p (ys[p]?.getD .non), by simp [List.map_map], ?_⟩⟩
      · simp [startD, wipeD, dsRet, dsRetN, dsIf, dsSeq, dsNext, dsAsg, dsDrop, dsBreak, dsCont, dsPar, dsAug, dsFrz, dsApp, dsExt, dsPut, dsAugO, dsOwn, dsParOO, dsParDO, dsParDDO, dsFrzA, dxRep, diOwn, dsRaise, deAnd, deOr, deNot, de1, de2, deB, deX, dxB, dxLst, deName, deC, deCall, deIxO, deLenO, deTup, deLst, daCons, daNil, daStar, deChain, dtChain, dtV, dtAnd, dtOr, dtNot, dtYes, deIf, deSl, doNone, doSome, rdAdd, rdSub, rdMul, rdMod, rdDiv, rdPow, rdI, rdIc, rdB, rdLt, rdLe, rdGt, rdGe, rdNeg, rdIs, rdEq, rdNe, rdIx, rdIsN, rdNotN, rdIsB, rdNotB, rdRev, rdSeats, rdCatL, rdCatT, rdRepL, rdLen, rdTuple, rdList, rxList, rdInt, rdMax2, rdMin2, dgName, dgTup, dgCons, dgNil, deRefused, rdRepr, rdNeS, rdEqL, rdNeL, rdRepT, rdIsLn, noOwn, diSeq, diEn, diZp, diR1, diR2, noX,  eqOk_int, eqOk_bl, eqOk_non, eqv_int, eqv_bl, eqv_non, atI_0, atI_1, atI_2, atI_3, qty_non, qisI_non, qisB_non, qisL_non, qisU_non, qisS_non, qisD_non, qisNon_non, qcooked_non, qseq_non, qty_bl, qisI_bl, qisB_bl, qisL_bl, qisU_bl, qisS_bl, qisD_bl, qisNon_bl, qcooked_bl, qseq_bl, qty_int, qisI_int, qisB_int, qisL_int, qisU_int, qisS_int, qisD_int, qisNon_int, qcooked_int, qseq_int, qty_str, qisI_str, qisB_str, qisL_str, qisU_str, qisS_str, qisD_str, qisNon_str, qcooked_str, qseq_str, qty_lst, qisI_lst, qisB_lst, qisL_lst, qisU_lst, qisS_lst, qisD_lst, qisNon_lst, qcooked_lst, qseq_lst, qty_tup, qisI_tup, qisB_tup, qisL_tup, qisU_tup, qisS_tup, qisD_tup, qisNon_tup, qcooked_tup, qseq_tup, qty_dct, qisI_dct, qisB_dct, qisL_dct, qisU_dct, qisS_dct, qisD_dct, qisNon_dct, qcooked_dct, qseq_dct, qix_lst, qsl_lst, qix_tup, qsl_tup, qisNon_ln, qcooked_ln, and_assoc, exists_and_left, exists_eq_left, exists_eq_left', exists_eq_right, sp_check_both, sp_is_row, sp_is_within, hs, enumD_range]
        simpa using p
      · have hp' := List.mem_range.mp hp
        have hyp := List.getElem?_eq_getElem hp'
        rw [hyp] at hR ⊢
        have ty := okv_ty (hys _ (List.getElem_mem hp'))
        simp [startD, wipeD, dsRet, dsRetN, dsIf, dsSeq, dsNext, dsAsg, dsDrop, dsBreak, dsCont, dsPar, dsAug, dsFrz, dsApp, dsExt, dsPut, dsAugO, dsOwn, dsParOO, dsParDO, dsParDDO, dsFrzA, dxRep, diOwn, dsRaise, deAnd, deOr, deNot, de1, de2, deB, deX, dxB, dxLst, deName, deC, deCall, deIxO, deLenO, deTup, deLst, daCons, daNil, daStar, deChain, dtChain, dtV, dtAnd, dtOr, dtNot, dtYes, deIf, deSl, doNone, doSome, rdAdd, rdSub, rdMul, rdMod, rdDiv, rdPow, rdI, rdIc, rdB, rdLt, rdLe, rdGt, rdGe, rdNeg, rdIs, rdEq, rdNe, rdIx, rdIsN, rdNotN, rdIsB, rdNotB, rdRev, rdSeats, rdCatL, rdCatT, rdRepL, rdLen, rdTuple, rdList, rxList, rdInt, rdMax2, rdMin2, dgName, dgTup, dgCons, dgNil, deRefused, rdRepr, rdNeS, rdEqL, rdNeL, rdRepT, rdIsLn, noOwn, diSeq, diEn, diZp, diR1, diR2, noX,  eqOk_int, eqOk_bl, eqOk_non, eqv_int, eqv_bl, eqv_non, atI_0, atI_1, atI_2, atI_3, qty_non, qisI_non, qisB_non, qisL_non, qisU_non, qisS_non, qisD_non, qisNon_non, qcooked_non, qseq_non, qty_bl, qisI_bl, qisB_bl, qisL_bl, qisU_bl, qisS_bl, qisD_bl, qisNon_bl, qcooked_bl, qseq_bl, qty_int, qisI_int, qisB_int, qisL_int, qisU_int, qisS_int, qisD_int, qisNon_int, qcooked_int, qseq_int, qty_str, qisI_str, qisB_str, qisL_str, qisU_str, qisS_str, qisD_str, qisNon_str, qcooked_str, qseq_str, qty_lst, qisI_lst, qisB_lst, qisL_lst, qisU_lst, qisS_lst, qisD_lst, qisNon_lst, qcooked_lst, qseq_lst, qty_tup, qisI_tup, qisB_tup, qisL_tup, qisU_tup, qisS_tup, qisD_tup, qisNon_tup, qcooked_tup, qseq_tup, qty_dct, qisI_dct, qisB_dct, qisL_dct, qisU_dct, qisS_dct, qisD_dct, qisNon_dct, qcooked_dct, qseq_dct, qix_lst, qsl_lst, qix_tup, qsl_tup, qisNon_ln, qcooked_ln, and_assoc, exists_and_left, exists_eq_left, exists_eq_left', exists_eq_right, sp_check_both, sp_is_row, sp_is_within, h1, ty]
        unfold stepOk at hR
        simp only [Option.getD_some] at hR
        cases hw : isWithin ys[p] 0 ((fs.length : Int) - 1) with
        | false =>
          rw [hw, Bool.false_and] at hR
          simpa using hR
        | true =>
          rw [if_pos rfl]
          rw [hw, Bool.true_and] at hR
          obtain ⟨j, hj, j0, j1⟩ := isWithin_int hw
          rw [hj] at hR ⊢
          obtain ⟨q, rfl⟩ := Int.eq_ofNat_of_zero_le j0
          have hq : q < fs.length := by omega
          have hb := h6 fs[q] (List.getElem_mem hq)
          have hap : a + p < fs[q].length := by omega
          refine ⟨rowD fs[q], by rw [ix_of h1, atI_nat', List.getElem?_map, List.getElem?_eq_getElem hq]; rfl, .bl (fs[q][a + p]), ?_, ?_⟩
          · rw [show (a : Int) + (p : Int) = ((a + p : Nat) : Int) by omega, rowD, qix_lst, atI_nat', List.getElem?_map, List.getElem?_eq_getElem hap]
            rfl
          · have ee : (fs[((q : Nat) : Int).toNat]?.bind fun bs => bs[a + p]?) = some fs[q][a + p] := by
              rw [show ((q : Nat) : Int).toNat = q by omega, List.getElem?_eq_getElem hq]
              exact List.getElem?_eq_getElem hap
            simp only [ee] at hR
            simpa using hR
      · have eb : isWalkB fs a m th = ((List.range ys.length).all fun p => stepOk fs a p (ys[p]?.getD .non)) := by unfold isWalkB; rw [hs]; simp [cl]
        rw [eb] at h9
        simpa [List.all_map] using h9
    · have eb : isWalkB fs a m th = false := by unfold isWalkB; rw [hs]; simp [cl]
      rw [eb] at h9
      exact .inr ⟨by omega, h9⟩
end
end K14
end
-- F_14_free_until
section
set_option Elab.async false
set_option linter.all false
set_option maxRecDepth 100000
set_option maxHeartbeats 4000000
set_option autoImplicit false
namespace K14
open PySem PySem.Spec PyProof.Rows L2 Sd
section
variable {P : Program} {w : World} {K : PySem.W.Frag} {mg : Str → Option Value} {base : Heap}
theorem ok_free_until (T : Txt K mg) {f : Addr} {fd : FuncData} (F : FnP K "free_until" s_free_until f fd)   : FnOk P w K mg base (L2.CX P w) 1 f fd ["row", "first", "end"] (spD K sp_free_until) := by
  have sc := sc_free_until
  refine fnD F sc (fun F ds O h => by
    obtain ⟨_, _, _, _, e, _⟩ := h
    rw [e] <;> rfl) (fun cdv A outer s G E ds O hr h hE => ⟨_, (pssd_cons (psd_set (i := 3) sc.nd rfl (Or.inl rfl) (pd_name (pv 1)))
  (pssd_cons (psd_while (passes_of rfl) (ptd_w (pwd_and (ptd_lt (pd_name (pv 3)) (pd_name (pv 2))) (pwd_and1 (ptd_val (pd_item (pd_name (pv 0)) (pd_name (pv 3)))))))
  (pssd_one (psd_aug (i := 3) sc.nd rfl (Or.inl rfl) ip_add pd_int)))
  (pssd_one (psd_ret (pd_name (pv 3)))))), ?_⟩)
  obtain ⟨row, bs, a, e', rfl, h⟩ := h
  obtain ⟨hs, he, ha, o⟩ := h
  simp [startD, wipeD, dsRet, dsRetN, dsIf, dsSeq, dsNext, dsAsg, dsDrop, dsBreak, dsCont, dsPar, dsAug, dsFrz, dsApp, dsExt, dsPut, dsAugO, dsOwn, dsParOO, dsParDO, dsParDDO, dsFrzA, dxRep, diOwn, dsRaise, deAnd, deOr, deNot, de1, de2, deB, deX, dxB, dxLst, deName, deC, deCall, deIxO, deLenO, deTup, deLst, daCons, daNil, daStar, deChain, dtChain, dtV, dtAnd, dtOr, dtNot, dtYes, deIf, deSl, doNone, doSome, rdAdd, rdSub, rdMul, rdMod, rdDiv, rdPow, rdI, rdIc, rdB, rdLt, rdLe, rdGt, rdGe, rdNeg, rdIs, rdEq, rdNe, rdIx, rdIsN, rdNotN, rdIsB, rdNotB, rdRev, rdSeats, rdCatL, rdCatT, rdRepL, rdLen, rdTuple, rdList, rxList, rdInt, rdMax2, rdMin2, dgName, dgTup, dgCons, dgNil, deRefused, rdRepr, rdNeS, rdEqL, rdNeL, rdRepT, rdIsLn, noOwn, diSeq, diEn, diZp, diR1, diR2, noX,  eqOk_int, eqOk_bl, eqOk_non, eqv_int, eqv_bl, eqv_non, atI_0, atI_1, atI_2, atI_3, qty_non, qisI_non, qisB_non, qisL_non, qisU_non, qisS_non, qisD_non, qisNon_non, qcooked_non, qseq_non, qty_bl, qisI_bl, qisB_bl, qisL_bl, qisU_bl, qisS_bl, qisD_bl, qisNon_bl, qcooked_bl, qseq_bl, qty_int, qisI_int, qisB_int, qisL_int, qisU_int, qisS_int, qisD_int, qisNon_int, qcooked_int, qseq_int, qty_str, qisI_str, qisB_str, qisL_str, qisU_str, qisS_str, qisD_str, qisNon_str, qcooked_str, qseq_str, qty_lst, qisI_lst, qisB_lst, qisL_lst, qisU_lst, qisS_lst, qisD_lst, qisNon_lst, qcooked_lst, qseq_lst, qty_tup, qisI_tup, qisB_tup, qisL_tup, qisU_tup, qisS_tup, qisD_tup, qisNon_tup, qcooked_tup, qseq_tup, qty_dct, qisI_dct, qisB_dct, qisL_dct, qisU_dct, qisS_dct, qisD_dct, qisNon_dct, qcooked_dct, qseq_dct, qix_lst, qsl_lst, qix_tup, qsl_tup, qisNon_ln, qcooked_ln, and_assoc, exists_and_left, exists_eq_left, exists_eq_left', exists_eq_right]
  refine while_of (fun m δ' => ∃ i : Nat, δ' = [.dat row, .dat (.int (a : Int)), .dat (.int (e' : Int)), .dat (.int (i : Int))] ∧ m = e' - i ∧ i ≤ e' ∧ farN bs e' i = farN bs e' a) (e' - a) ⟨a, rfl, rfl, ha, rfl⟩ (fun m δ' hj => ?_)
  obtain ⟨i, rfl, hm, hi, hf⟩ := hj
  simp [startD, wipeD, dsRet, dsRetN, dsIf, dsSeq, dsNext, dsAsg, dsDrop, dsBreak, dsCont, dsPar, dsAug, dsFrz, dsApp, dsExt, dsPut, dsAugO, dsOwn, dsParOO, dsParDO, dsParDDO, dsFrzA, dxRep, diOwn, dsRaise, deAnd, deOr, deNot, de1, de2, deB, deX, dxB, dxLst, deName, deC, deCall, deIxO, deLenO, deTup, deLst, daCons, daNil, daStar, deChain, dtChain, dtV, dtAnd, dtOr, dtNot, dtYes, deIf, deSl, doNone, doSome, rdAdd, rdSub, rdMul, rdMod, rdDiv, rdPow, rdI, rdIc, rdB, rdLt, rdLe, rdGt, rdGe, rdNeg, rdIs, rdEq, rdNe, rdIx, rdIsN, rdNotN, rdIsB, rdNotB, rdRev, rdSeats, rdCatL, rdCatT, rdRepL, rdLen, rdTuple, rdList, rxList, rdInt, rdMax2, rdMin2, dgName, dgTup, dgCons, dgNil, deRefused, rdRepr, rdNeS, rdEqL, rdNeL, rdRepT, rdIsLn, noOwn, diSeq, diEn, diZp, diR1, diR2, noX,  eqOk_int, eqOk_bl, eqOk_non, eqv_int, eqv_bl, eqv_non, atI_0, atI_1, atI_2, atI_3, qty_non, qisI_non, qisB_non, qisL_non, qisU_non, qisS_non, qisD_non, qisNon_non, qcooked_non, qseq_non, qty_bl, qisI_bl, qisB_bl, qisL_bl, qisU_bl, qisS_bl, qisD_bl, qisNon_bl, qcooked_bl, qseq_bl, qty_int, qisI_int, qisB_int, qisL_int, qisU_int, qisS_int, qisD_int, qisNon_int, qcooked_int, qseq_int, qty_str, qisI_str, qisB_str, qisL_str, qisU_str, qisS_str, qisD_str, qisNon_str, qcooked_str, qseq_str, qty_lst, qisI_lst, qisB_lst, qisL_lst, qisU_lst, qisS_lst, qisD_lst, qisNon_lst, qcooked_lst, qseq_lst, qty_tup, qisI_tup, qisB_tup, qisL_tup, qisU_tup, qisS_tup, qisD_tup, qisNon_tup, qcooked_tup, qseq_tup, qty_dct, qisI_dct, qisB_dct, qisL_dct, qisU_dct, qisS_dct, qisD_dct, qisNon_dct, qcooked_dct, qseq_dct, qix_lst, qsl_lst, qix_tup, qsl_tup, qisNon_ln, qcooked_ln, and_assoc, exists_and_left, exists_eq_left, exists_eq_left', exists_eq_right, hs]
  split
  · rename_i hlt
    have hb := List.getElem?_eq_getElem (show i < bs.length by omega)
    refine ⟨.bl bs[i], by rw [ix_of hs, atI_nat', List.getElem?_map, hb]; rfl, ?_⟩
    cases h1 : bs[i] with
    | true =>
      rw [h1] at hb
      exact .inr ⟨rfl, _, by omega, i + 1, by omega, rfl, by omega, by rw [← hf, farN_go hlt hb]⟩
    | false =>
      rw [h1] at hb
      refine .inl ⟨rfl, ?_⟩
      rw [← farN_stop (bs := bs) (e := e') (i := i) (by rw [hb]; simp), hf]
      exact o
  · rename_i hlt
    rw [← farN_stop (bs := bs) (e := e') (i := i) (by omega), hf]
    exact o
end
end K14
end
-- F_14_told_walk
section
set_option Elab.async false
set_option linter.all false
set_option maxRecDepth 100000
set_option maxHeartbeats 4000000
set_option autoImplicit false
namespace K14
open PySem PySem.Spec PyProof.Rows L2 Sd
section
variable {P : Program} {w : World} {K : PySem.W.Frag} {mg : Str → Option Value} {base : Heap}
theorem ok_told_walk (T : Txt K mg) {f : Addr} {fd : FuncData} (F : FnP K "told_walk" s_told_walk f fd) (c_free_until : Cl P w K mg base 1 "free_until" sp_free_until [])  : FnOk P w K mg base (L2.CX P w) 2 f fd ["free", "first", "end"] (spD K sp_told_walk) := by
  have sc := sc_told_walk
  refine fnD F sc (fun F ds O h => by
    obtain ⟨_, _, _, _, e, _⟩ := h
    rw [e] <;> rfl) (fun cdv A outer s G E ds O hr h hE => ⟨_, (pssd_cons (psd_own (i := 3) sc.nd rfl (Or.inl rfl) (pxd_lst pad_nil))
  (pssd_cons (psd_set (i := 4) sc.nd rfl (Or.inr rfl) (pd_name (pv 1)))
  (pssd_cons (psd_while (passes_of rfl) (ptd_lt (pd_name (pv 4)) (pd_name (pv 2)))
  (pssd_cons (psd_setLc (i := 5) sc.nd rfl rfl (sw_true rfl rfl rfl (by kernel_rfl)) (own := [(("row" : Str), 7)]) (pid_seq (pd_name (pv 0))) (by kernel_rfl) (fun _ _ _ _ _ => (pgc_name (i := 7) sc.nd rfl (by first | exact Or.inl rfl | exact Or.inr rfl) (by decide))) (fun _ _ _ _ _ => ptsd_nil) (fun _ _ _ _ _ => (pd_call c_free_until hr (by first | decide | omega) (pad_cons (pd_name (pv 7)) (pad_cons (pd_name (pv 4)) (pad_cons (pd_name (pv 2)) pad_nil))))))
  (pssd_cons (psd_if (ptd_eq hr.units (pd_callB (cr_max rfl) snd_max T.b_max (pad_cons (pd_name (pv 5)) pad_nil)) (pd_name (pv 4)))
  (pssd_one (psd_ret pd_non))
  pssd_nil)
  (pssd_cons (psd_set (i := 6) sc.nd rfl (Or.inr rfl) (pd_index (pd_name (pv 5)) (pad_cons (pd_callB (cr_max rfl) snd_max T.b_max (pad_cons (pd_name (pv 5)) pad_nil)) pad_nil)))
  (pssd_cons (psd_ext (i := 3) (pv 3) (pd_x (pxd_lc (own := [(("_" : Str), 8)]) sc.nd (pid_r1 T.b_range (pad_cons (pd_sub (pd_item (pd_name (pv 5)) (pd_name (pv 6))) (pd_name (pv 4))) pad_nil)) (by kernel_rfl) (fun _ _ _ _ _ => (pgc_name (i := 8) sc.nd rfl (by first | exact Or.inl rfl | exact Or.inr rfl) (by decide))) (fun _ _ _ _ _ => ptsd_nil) (fun _ _ _ _ _ => (pd_name (pv 6))))))
  (pssd_one (psd_set (i := 4) sc.nd rfl (Or.inr rfl) (pd_item (pd_name (pv 5)) (pd_name (pv 6))))))))))
  (pssd_one (psd_frz 3 (psd_ret (pd_name (pv 3)))))))), ?_⟩)
  obtain ⟨free, fs, a, e', rfl, h⟩ := h
  obtain ⟨hs, hne, hl, hb, ha, he, o⟩ := h
  simp [startD, wipeD, dsRet, dsRetN, dsIf, dsSeq, dsNext, dsAsg, dsDrop, dsBreak, dsCont, dsPar, dsAug, dsFrz, dsApp, dsExt, dsPut, dsAugO, dsOwn, dsParOO, dsParDO, dsParDDO, dsFrzA, dxRep, diOwn, dsRaise, deAnd, deOr, deNot, de1, de2, deB, deX, dxB, dxLst, deName, deC, deCall, deIxO, deLenO, deTup, deLst, daCons, daNil, daStar, deChain, dtChain, dtV, dtAnd, dtOr, dtNot, dtYes, deIf, deSl, doNone, doSome, rdAdd, rdSub, rdMul, rdMod, rdDiv, rdPow, rdI, rdIc, rdB, rdLt, rdLe, rdGt, rdGe, rdNeg, rdIs, rdEq, rdNe, rdIx, rdIsN, rdNotN, rdIsB, rdNotB, rdRev, rdSeats, rdCatL, rdCatT, rdRepL, rdLen, rdTuple, rdList, rxList, rdInt, rdMax2, rdMin2, dgName, dgTup, dgCons, dgNil, deRefused, rdRepr, rdNeS, rdEqL, rdNeL, rdRepT, rdIsLn, noOwn, diSeq, diEn, diZp, diR1, diR2, noX,  eqOk_int, eqOk_bl, eqOk_non, eqv_int, eqv_bl, eqv_non, atI_0, atI_1, atI_2, atI_3, qty_non, qisI_non, qisB_non, qisL_non, qisU_non, qisS_non, qisD_non, qisNon_non, qcooked_non, qseq_non, qty_bl, qisI_bl, qisB_bl, qisL_bl, qisU_bl, qisS_bl, qisD_bl, qisNon_bl, qcooked_bl, qseq_bl, qty_int, qisI_int, qisB_int, qisL_int, qisU_int, qisS_int, qisD_int, qisNon_int, qcooked_int, qseq_int, qty_str, qisI_str, qisB_str, qisL_str, qisU_str, qisS_str, qisD_str, qisNon_str, qcooked_str, qseq_str, qty_lst, qisI_lst, qisB_lst, qisL_lst, qisU_lst, qisS_lst, qisD_lst, qisNon_lst, qcooked_lst, qseq_lst, qty_tup, qisI_tup, qisB_tup, qisL_tup, qisU_tup, qisS_tup, qisD_tup, qisNon_tup, qcooked_tup, qseq_tup, qty_dct, qisI_dct, qisB_dct, qisL_dct, qisU_dct, qisS_dct, qisD_dct, qisNon_dct, qcooked_dct, qseq_dct, qix_lst, qsl_lst, qix_tup, qsl_tup, qisNon_ln, qcooked_ln, and_assoc, exists_and_left, exists_eq_left, exists_eq_left', exists_eq_right, sp_free_until]
  refine while_of (fun m δ' => ∃ (i : Nat) (acc : List Int) (u v w x : Sl), δ' = [.dat free, .dat (.int (a : Int)), .dat (.int (e' : Int)), .own (acc.map .int), .dat (.int (i : Int)), u, v, w, x] ∧ m = e' - i ∧ i ≤ e' ∧ acc.length = i - a ∧ a ≤ i ∧ walkG fs e' (e' - i) i acc = walkG fs e' (e' - a) a []) (e' - a) ⟨a, [], _, _, _, _, rfl, rfl, ha, by simp, Nat.le_refl _, rfl⟩ (fun m δ' hj => ?_)
  obtain ⟨i, acc, u, v, w, x, rfl, hm, hi, hac, hai, hw⟩ := hj
  simp [startD, wipeD, dsRet, dsRetN, dsIf, dsSeq, dsNext, dsAsg, dsDrop, dsBreak, dsCont, dsPar, dsAug, dsFrz, dsApp, dsExt, dsPut, dsAugO, dsOwn, dsParOO, dsParDO, dsParDDO, dsFrzA, dxRep, diOwn, dsRaise, deAnd, deOr, deNot, de1, de2, deB, deX, dxB, dxLst, deName, deC, deCall, deIxO, deLenO, deTup, deLst, daCons, daNil, daStar, deChain, dtChain, dtV, dtAnd, dtOr, dtNot, dtYes, deIf, deSl, doNone, doSome, rdAdd, rdSub, rdMul, rdMod, rdDiv, rdPow, rdI, rdIc, rdB, rdLt, rdLe, rdGt, rdGe, rdNeg, rdIs, rdEq, rdNe, rdIx, rdIsN, rdNotN, rdIsB, rdNotB, rdRev, rdSeats, rdCatL, rdCatT, rdRepL, rdLen, rdTuple, rdList, rxList, rdInt, rdMax2, rdMin2, dgName, dgTup, dgCons, dgNil, deRefused, rdRepr, rdNeS, rdEqL, rdNeL, rdRepT, rdIsLn, noOwn, diSeq, diEn, diZp, diR1, diR2, noX,  eqOk_int, eqOk_bl, eqOk_non, eqv_int, eqv_bl, eqv_non, atI_0, atI_1, atI_2, atI_3, qty_non, qisI_non, qisB_non, qisL_non, qisU_non, qisS_non, qisD_non, qisNon_non, qcooked_non, qseq_non, qty_bl, qisI_bl, qisB_bl, qisL_bl, qisU_bl, qisS_bl, qisD_bl, qisNon_bl, qcooked_bl, qseq_bl, qty_int, qisI_int, qisB_int, qisL_int, qisU_int, qisS_int, qisD_int, qisNon_int, qcooked_int, qseq_int, qty_str, qisI_str, qisB_str, qisL_str, qisU_str, qisS_str, qisD_str, qisNon_str, qcooked_str, qseq_str, qty_lst, qisI_lst, qisB_lst, qisL_lst, qisU_lst, qisS_lst, qisD_lst, qisNon_lst, qcooked_lst, qseq_lst, qty_tup, qisI_tup, qisB_tup, qisL_tup, qisU_tup, qisS_tup, qisD_tup, qisNon_tup, qcooked_tup, qseq_tup, qty_dct, qisI_dct, qisB_dct, qisL_dct, qisU_dct, qisS_dct, qisD_dct, qisNon_dct, qcooked_dct, qseq_dct, qix_lst, qsl_lst, qix_tup, qsl_tup, qisNon_ln, qcooked_ln, and_assoc, exists_and_left, exists_eq_left, exists_eq_left', exists_eq_right, sp_free_until, dxLc_eq, dsFor_eq, rngD_0, rngD_eq, zipD_map, enumD_map0, hs]
  split
  · rename_i hlt
    refine lb_on fs (fun bs => .int ((farN bs e' i : Nat) : Int)) (by omega) (fun bs hbs R hR => ?_) ?_
    · simp [startD, wipeD, dsRet, dsRetN, dsIf, dsSeq, dsNext, dsAsg, dsDrop, dsBreak, dsCont, dsPar, dsAug, dsFrz, dsApp, dsExt, dsPut, dsAugO, dsOwn, dsParOO, dsParDO, dsParDDO, dsFrzA, dxRep, diOwn, dsRaise, deAnd, deOr, deNot, de1, de2, deB, deX, dxB, dxLst, deName, deC, deCall, deIxO, deLenO, deTup, deLst, daCons, daNil, daStar, deChain, dtChain, dtV, dtAnd, dtOr, dtNot, dtYes, deIf, deSl, doNone, doSome, rdAdd, rdSub, rdMul, rdMod, rdDiv, rdPow, rdI, rdIc, rdB, rdLt, rdLe, rdGt, rdGe, rdNeg, rdIs, rdEq, rdNe, rdIx, rdIsN, rdNotN, rdIsB, rdNotB, rdRev, rdSeats, rdCatL, rdCatT, rdRepL, rdLen, rdTuple, rdList, rxList, rdInt, rdMax2, rdMin2, dgName, dgTup, dgCons, dgNil, deRefused, rdRepr, rdNeS, rdEqL, rdNeL, rdRepT, rdIsLn, noOwn, diSeq, diEn, diZp, diR1, diR2, noX,  eqOk_int, eqOk_bl, eqOk_non, eqv_int, eqv_bl, eqv_non, atI_0, atI_1, atI_2, atI_3, qty_non, qisI_non, qisB_non, qisL_non, qisU_non, qisS_non, qisD_non, qisNon_non, qcooked_non, qseq_non, qty_bl, qisI_bl, qisB_bl, qisL_bl, qisU_bl, qisS_bl, qisD_bl, qisNon_bl, qcooked_bl, qseq_bl, qty_int, qisI_int, qisB_int, qisL_int, qisU_int, qisS_int, qisD_int, qisNon_int, qcooked_int, qseq_int, qty_str, qisI_str, qisB_str, qisL_str, qisU_str, qisS_str, qisD_str, qisNon_str, qcooked_str, qseq_str, qty_lst, qisI_lst, qisB_lst, qisL_lst, qisU_lst, qisS_lst, qisD_lst, qisNon_lst, qcooked_lst, qseq_lst, qty_tup, qisI_tup, qisB_tup, qisL_tup, qisU_tup, qisS_tup, qisD_tup, qisNon_tup, qcooked_tup, qseq_tup, qty_dct, qisI_dct, qisB_dct, qisL_dct, qisU_dct, qisS_dct, qisD_dct, qisNon_dct, qcooked_dct, qseq_dct, qix_lst, qsl_lst, qix_tup, qsl_tup, qisNon_ln, qcooked_ln, and_assoc, exists_and_left, exists_eq_left, exists_eq_left', exists_eq_right, sp_free_until, dxLc_eq, dsFor_eq, rngD_0, rngD_eq, zipD_map, enumD_map0, rowD]
      first | exact ⟨bs, i, rfl, e', rfl, rfl, hb bs hbs, hi, hR⟩ | exact ⟨i, e', ⟨rfl, rfl⟩, bs, rfl, hb bs hbs, hi, hR⟩ | exact ⟨bs, i, rfl, e', rfl, hb bs hbs, hi, hR⟩
    have el : (fs.map fun bs => D.int ((farN bs e' i : Nat) : Int)) = ((fars fs e' i).map fun n : Nat => (n : Int)).map D.int := by
      simp [fars, List.map_map]
    rw [el]
    refine ⟨_, rfl, by simp [fars]; exact List.length_pos_iff.mpr hne, fun mx hmem hmx => ?_⟩
    have emx := maxN_eq hmem hmx
    subst emx
    have hmN : maxN (fars fs e' i) ∈ fars fs e' i := by
      obtain ⟨n, hn, e⟩ := List.mem_map.mp hmem
      have ez : n = maxN (fars fs e' i) := by omega
      rw [← ez]
      exact hn
    obtain ⟨bs, hbs, ebs⟩ := List.mem_map.mp hmN
    have g1 := farN_ge bs e' i
    have g2 := farN_le bs e' i hi
    have hk : e' - i = (e' - i - 1) + 1 := by omega
    rw [hk, walkG, if_pos hlt] at hw
    refine ⟨rfl, ?_⟩
    rw [eqv_int]
    by_cases hst : maxN (fars fs e' i) = i
    · rw [if_pos hst] at hw
      rw [hst]
      simp
      rw [← hw] at o
      exact o
    · rw [if_neg hst] at hw
      rw [if_neg (by simp; omega)]
      have hix : ((fars fs e' i).map fun n : Nat => (n : Int)).idxOf ((maxN (fars fs e' i) : Nat) : Int) = (fars fs e' i).idxOf (maxN (fars fs e' i)) := idxOf_cast _ _
      have hat : (fars fs e' i)[(fars fs e' i).idxOf (maxN (fars fs e' i))]? = some (maxN (fars fs e' i)) := by
        rw [List.getElem?_eq_getElem (List.idxOf_lt_length_iff.mpr hmN), List.getElem_idxOf]
      refine ⟨_, rfl, (fars fs e' i).map (fun n : Nat => (n : Int)), rfl, _, rfl, (fars fs e' i).map (fun n : Nat => (n : Int)), rfl, by simp [fars]; exact List.length_pos_iff.mpr hne, fun mx hm2 hmx2 => ?_⟩
      have emx2 := maxN_eq hm2 hmx2
      subst emx2
      refine ⟨_, rfl, hmem, ?_⟩
      rw [hix]
      refine ⟨.int (maxN (fars fs e' i) : Nat), by rw [qix_lst, atI_nat', List.getElem?_map, List.getElem?_map, hat]; rfl, _, rfl, by omega, by omega, ?_⟩
      refine lb_on (List.range _) (fun _ => .int ((fars fs e' i).idxOf (maxN (fars fs e' i)) : Nat)) (by simp; omega) (fun k hk R hR => ?_) ?_
      · simp [startD, wipeD, dsRet, dsRetN, dsIf, dsSeq, dsNext, dsAsg, dsDrop, dsBreak, dsCont, dsPar, dsAug, dsFrz, dsApp, dsExt, dsPut, dsAugO, dsOwn, dsParOO, dsParDO, dsParDDO, dsFrzA, dxRep, diOwn, dsRaise, deAnd, deOr, deNot, de1, de2, deB, deX, dxB, dxLst, deName, deC, deCall, deIxO, deLenO, deTup, deLst, daCons, daNil, daStar, deChain, dtChain, dtV, dtAnd, dtOr, dtNot, dtYes, deIf, deSl, doNone, doSome, rdAdd, rdSub, rdMul, rdMod, rdDiv, rdPow, rdI, rdIc, rdB, rdLt, rdLe, rdGt, rdGe, rdNeg, rdIs, rdEq, rdNe, rdIx, rdIsN, rdNotN, rdIsB, rdNotB, rdRev, rdSeats, rdCatL, rdCatT, rdRepL, rdLen, rdTuple, rdList, rxList, rdInt, rdMax2, rdMin2, dgName, dgTup, dgCons, dgNil, deRefused, rdRepr, rdNeS, rdEqL, rdNeL, rdRepT, rdIsLn, noOwn, diSeq, diEn, diZp, diR1, diR2, noX,  eqOk_int, eqOk_bl, eqOk_non, eqv_int, eqv_bl, eqv_non, atI_0, atI_1, atI_2, atI_3, qty_non, qisI_non, qisB_non, qisL_non, qisU_non, qisS_non, qisD_non, qisNon_non, qcooked_non, qseq_non, qty_bl, qisI_bl, qisB_bl, qisL_bl, qisU_bl, qisS_bl, qisD_bl, qisNon_bl, qcooked_bl, qseq_bl, qty_int, qisI_int, qisB_int, qisL_int, qisU_int, qisS_int, qisD_int, qisNon_int, qcooked_int, qseq_int, qty_str, qisI_str, qisB_str, qisL_str, qisU_str, qisS_str, qisD_str, qisNon_str, qcooked_str, qseq_str, qty_lst, qisI_lst, qisB_lst, qisL_lst, qisU_lst, qisS_lst, qisD_lst, qisNon_lst, qcooked_lst, qseq_lst, qty_tup, qisI_tup, qisB_tup, qisL_tup, qisU_tup, qisS_tup, qisD_tup, qisNon_tup, qcooked_tup, qseq_tup, qty_dct, qisI_dct, qisB_dct, qisL_dct, qisU_dct, qisS_dct, qisD_dct, qisNon_dct, qcooked_dct, qseq_dct, qix_lst, qsl_lst, qix_tup, qsl_tup, qisNon_ln, qcooked_ln, and_assoc, exists_and_left, exists_eq_left, exists_eq_left', exists_eq_right, sp_free_until]
        exact hR
      · have emap : (List.range (((maxN (fars fs e' i) : Nat) : Int).toNat - i)).map (fun _ => D.int (((fars fs e' i).idxOf (maxN (fars fs e' i)) : Nat) : Int)) = (List.replicate (maxN (fars fs e' i) - i) (((fars fs e' i).idxOf (maxN (fars fs e' i)) : Nat) : Int)).map D.int := by
          rw [List.map_replicate, List.map_const', List.length_range]
          rfl
        rw [emap]
        refine ⟨by simp; omega, .int (maxN (fars fs e' i) : Nat), by rw [qix_lst, atI_nat', List.getElem?_map, List.getElem?_map, hat]; rfl, e' - maxN (fars fs e' i), by omega, maxN (fars fs e' i), acc ++ List.replicate (maxN (fars fs e' i) - i) (((fars fs e' i).idxOf (maxN (fars fs e' i)) : Nat) : Int), by rw [List.map_append], rfl, rfl, by omega, by simp; omega, by omega, ?_⟩
        rw [← hw]
        exact walkG_fuel hne e' _ _ _ _ (by omega) (by omega)
  · rename_i hge
    have : i = e' := by omega
    subst this
    rw [Nat.sub_self] at hw
    rw [← hw] at o
    exact o
end
end K14
end
-- F_14_best_walk
section
set_option Elab.async false
set_option linter.all false
set_option maxRecDepth 100000
set_option maxHeartbeats 4000000
set_option autoImplicit false
namespace K14
open PySem PySem.Spec PyProof.Rows L2 Sd
section
variable {P : Program} {w : World} {K : PySem.W.Frag} {mg : Str → Option Value} {base : Heap}
theorem ok_best_walk (T : Txt K mg) {f : Addr} {fd : FuncData} (F : FnP K "best_walk" s_best_walk f fd) (c_check_both : Cl P w K mg base 4 "check_both" sp_check_both []) (c_told_walk : Cl P w K mg base 2 "told_walk" sp_told_walk [])  : FnOk P w K mg base (L2.CX P w) 5 f fd ["line", "free", "first", "end"] (spD K sp_best_walk) := by
  have sc := sc_best_walk
  refine fnD F sc (fun F ds O h => by
    obtain ⟨_, _, _, _, e, _⟩ := h
    rw [e] <;> rfl) (fun cdv A outer s G E ds O hr h hE => ⟨_, (pssd_cons (psd_drop (pd_callX c_check_both hr (by first | decide | omega) hE (passes_call (takes_of rfl rfl rfl rfl) (fun _ _ _ _ z => z)) (pad_cons (pd_name (pv 0)) (pad_cons (pd_name (pv 1)) (pad_cons (pd_name (pv 2)) (pad_cons (pd_name (pv 3)) pad_nil))))))
  (pssd_one (psd_ret (pd_call c_told_walk hr (by first | decide | omega) (pad_cons (pd_name (pv 1)) (pad_cons (pd_name (pv 2)) (pad_cons (pd_name (pv 3)) pad_nil))))))), ?_⟩)
  obtain ⟨seats, t, f', e', rfl, h⟩ := h
  obtain ⟨hv, hz, hf, he, o1, o2⟩ := h
  simp [startD, wipeD, dsRet, dsRetN, dsIf, dsSeq, dsNext, dsAsg, dsDrop, dsBreak, dsCont, dsPar, dsAug, dsFrz, dsApp, dsExt, dsPut, dsAugO, dsOwn, dsParOO, dsParDO, dsParDDO, dsFrzA, dxRep, diOwn, dsRaise, deAnd, deOr, deNot, de1, de2, deB, deX, dxB, dxLst, deName, deC, deCall, deIxO, deLenO, deTup, deLst, daCons, daNil, daStar, deChain, dtChain, dtV, dtAnd, dtOr, dtNot, dtYes, deIf, deSl, doNone, doSome, rdAdd, rdSub, rdMul, rdMod, rdDiv, rdPow, rdI, rdIc, rdB, rdLt, rdLe, rdGt, rdGe, rdNeg, rdIs, rdEq, rdNe, rdIx, rdIsN, rdNotN, rdIsB, rdNotB, rdRev, rdSeats, rdCatL, rdCatT, rdRepL, rdLen, rdTuple, rdList, rxList, rdInt, rdMax2, rdMin2, dgName, dgTup, dgCons, dgNil, deRefused, rdRepr, rdNeS, rdEqL, rdNeL, rdRepT, rdIsLn, noOwn, diSeq, diEn, diZp, diR1, diR2, noX,  eqOk_int, eqOk_bl, eqOk_non, eqv_int, eqv_bl, eqv_non, atI_0, atI_1, atI_2, atI_3, qty_non, qisI_non, qisB_non, qisL_non, qisU_non, qisS_non, qisD_non, qisNon_non, qcooked_non, qseq_non, qty_bl, qisI_bl, qisB_bl, qisL_bl, qisU_bl, qisS_bl, qisD_bl, qisNon_bl, qcooked_bl, qseq_bl, qty_int, qisI_int, qisB_int, qisL_int, qisU_int, qisS_int, qisD_int, qisNon_int, qcooked_int, qseq_int, qty_str, qisI_str, qisB_str, qisL_str, qisU_str, qisS_str, qisD_str, qisNon_str, qcooked_str, qseq_str, qty_lst, qisI_lst, qisB_lst, qisL_lst, qisU_lst, qisS_lst, qisD_lst, qisNon_lst, qcooked_lst, qseq_lst, qty_tup, qisI_tup, qisB_tup, qisL_tup, qisU_tup, qisS_tup, qisD_tup, qisNon_tup, qcooked_tup, qseq_tup, qty_dct, qisI_dct, qisB_dct, qisL_dct, qisU_dct, qisS_dct, qisD_dct, qisNon_dct, qcooked_dct, qseq_dct, qix_lst, qsl_lst, qix_tup, qsl_tup, qisNon_ln, qcooked_ln, and_assoc, exists_and_left, exists_eq_left, exists_eq_left', exists_eq_right, sp_check_both, sp_told_walk, hf, he, hv]
  refine ⟨hz, o1, fun g => ⟨fun k => ?_, (o2 g).2⟩⟩
  obtain ⟨fs, a, m, h1, h2, h3, h4, h5, h6, h7, h8, h9⟩ := (o2 g).1 k
  exact ⟨fs, a, h2, m, h3, h1, h4, h5, h6, h7, h8, h9⟩
end
end K14
end
-- F_14_told_changes
section
set_option Elab.async false
set_option linter.all false
set_option maxRecDepth 100000
set_option maxHeartbeats 4000000
set_option autoImplicit false
namespace K14
open PySem PySem.Spec PyProof.Rows L2 Sd
section
variable {P : Program} {w : World} {K : PySem.W.Frag} {mg : Str → Option Value} {base : Heap}
theorem ok_told_changes (T : Txt K mg) {f : Addr} {fd : FuncData} (F : FnP K "told_changes" s_told_changes f fd)   : FnOk P w K mg base (L2.CX P w) 1 f fd ["walk", "first"] (spD K sp_told_changes) := by
  have sc := sc_told_changes
  refine fnD F sc (fun F ds O h => by
    obtain ⟨_, _, _, e, _⟩ := h
    rw [e] <;> rfl) (fun cdv A outer s G E ds O hr h hE => ⟨_, (pssd_one (psd_ret (pd_x (pxd_lc (own := [(("at" : Str), 2)]) sc.nd (pid_r2 T.b_range (pad_cons pd_int (pad_cons (pd_callB call_len_seq snd_len T.b_len (pad_cons (pd_name (pv 0)) pad_nil)) pad_nil))) (by kernel_rfl) (fun _ _ _ _ _ => (pgc_name (i := 2) sc.nd rfl (by first | exact Or.inl rfl | exact Or.inr rfl) (by decide))) (fun _ _ _ _ _ => (ptsd_one (ptd_ne hr.units (pd_item (pd_name (pv 0)) (pd_name (pv 2))) (pd_item (pd_name (pv 0)) (pd_sub (pd_name (pv 2)) pd_int))))) (fun _ _ _ _ _ => (pd_add (pd_name (pv 1)) (pd_name (pv 2)))))))), ?_⟩)
  obtain ⟨d1, ws, first, rfl, h⟩ := h
  obtain ⟨h1, hl, o⟩ := h
  simp [startD, wipeD, dsRet, dsRetN, dsIf, dsSeq, dsNext, dsAsg, dsDrop, dsBreak, dsCont, dsPar, dsAug, dsFrz, dsApp, dsExt, dsPut, dsAugO, dsOwn, dsParOO, dsParDO, dsParDDO, dsFrzA, dxRep, diOwn, dsRaise, deAnd, deOr, deNot, de1, de2, deB, deX, dxB, dxLst, deName, deC, deCall, deIxO, deLenO, deTup, deLst, daCons, daNil, daStar, deChain, dtChain, dtV, dtAnd, dtOr, dtNot, dtYes, deIf, deSl, doNone, doSome, rdAdd, rdSub, rdMul, rdMod, rdDiv, rdPow, rdI, rdIc, rdB, rdLt, rdLe, rdGt, rdGe, rdNeg, rdIs, rdEq, rdNe, rdIx, rdIsN, rdNotN, rdIsB, rdNotB, rdRev, rdSeats, rdCatL, rdCatT, rdRepL, rdLen, rdTuple, rdList, rxList, rdInt, rdMax2, rdMin2, dgName, dgTup, dgCons, dgNil, deRefused, rdRepr, rdNeS, rdEqL, rdNeL, rdRepT, rdIsLn, noOwn, diSeq, diEn, diZp, diR1, diR2, noX,  eqOk_int, eqOk_bl, eqOk_non, eqv_int, eqv_bl, eqv_non, atI_0, atI_1, atI_2, atI_3, qty_non, qisI_non, qisB_non, qisL_non, qisU_non, qisS_non, qisD_non, qisNon_non, qcooked_non, qseq_non, qty_bl, qisI_bl, qisB_bl, qisL_bl, qisU_bl, qisS_bl, qisD_bl, qisNon_bl, qcooked_bl, qseq_bl, qty_int, qisI_int, qisB_int, qisL_int, qisU_int, qisS_int, qisD_int, qisNon_int, qcooked_int, qseq_int, qty_str, qisI_str, qisB_str, qisL_str, qisU_str, qisS_str, qisD_str, qisNon_str, qcooked_str, qseq_str, qty_lst, qisI_lst, qisB_lst, qisL_lst, qisU_lst, qisS_lst, qisD_lst, qisNon_lst, qcooked_lst, qseq_lst, qty_tup, qisI_tup, qisB_tup, qisL_tup, qisU_tup, qisS_tup, qisD_tup, qisNon_tup, qcooked_tup, qseq_tup, qty_dct, qisI_dct, qisB_dct, qisL_dct, qisU_dct, qisS_dct, qisD_dct, qisNon_dct, qcooked_dct, qseq_dct, qix_lst, qsl_lst, qix_tup, qsl_tup, qisNon_ln, qcooked_ln, and_assoc, exists_and_left, exists_eq_left, exists_eq_left', exists_eq_right, dxLc_eq, dsFor_eq, rngD_0, rngD_eq, zipD_map, enumD_map0, h1]
  refine ⟨by omega, lb_onF (List.range (ws.length - 1)) (fun k => .int (first + (1 + (k : Int)))) (fun k => ws[k + 1]? != ws[k]?) (by simp; omega) (fun k hk R1 R2 k1 k2 => ?_) ?_⟩
  · have hk' := List.mem_range.mp hk
    have g1 := List.getElem?_eq_getElem (show k + 1 < ws.length by omega)
    have g2 := List.getElem?_eq_getElem (show k < ws.length by omega)
    have e1 : (1 + (k : Int)) = ((k + 1 : Nat) : Int) := by omega
    have e2 : ((k + 1 : Nat) : Int) - 1 = (k : Int) := by omega
    have e3 : atI (ws.map D.int) ((k : Int) + 1) = some (.int ws[k + 1]) := by
      rw [show (k : Int) + 1 = ((k + 1 : Nat) : Int) by omega, atI_nat', List.getElem?_map, g1]
      rfl
    simp only [g1, g2] at k1 k2
    simp [startD, wipeD, dsRet, dsRetN, dsIf, dsSeq, dsNext, dsAsg, dsDrop, dsBreak, dsCont, dsPar, dsAug, dsFrz, dsApp, dsExt, dsPut, dsAugO, dsOwn, dsParOO, dsParDO, dsParDDO, dsFrzA, dxRep, diOwn, dsRaise, deAnd, deOr, deNot, de1, de2, deB, deX, dxB, dxLst, deName, deC, deCall, deIxO, deLenO, deTup, deLst, daCons, daNil, daStar, deChain, dtChain, dtV, dtAnd, dtOr, dtNot, dtYes, deIf, deSl, doNone, doSome, rdAdd, rdSub, rdMul, rdMod, rdDiv, rdPow, rdI, rdIc, rdB, rdLt, rdLe, rdGt, rdGe, rdNeg, rdIs, rdEq, rdNe, rdIx, rdIsN, rdNotN, rdIsB, rdNotB, rdRev, rdSeats, rdCatL, rdCatT, rdRepL, rdLen, rdTuple, rdList, rxList, rdInt, rdMax2, rdMin2, dgName, dgTup, dgCons, dgNil, deRefused, rdRepr, rdNeS, rdEqL, rdNeL, rdRepT, rdIsLn, noOwn, diSeq, diEn, diZp, diR1, diR2, noX,  eqOk_int, eqOk_bl, eqOk_non, eqv_int, eqv_bl, eqv_non, atI_0, atI_1, atI_2, atI_3, qty_non, qisI_non, qisB_non, qisL_non, qisU_non, qisS_non, qisD_non, qisNon_non, qcooked_non, qseq_non, qty_bl, qisI_bl, qisB_bl, qisL_bl, qisU_bl, qisS_bl, qisD_bl, qisNon_bl, qcooked_bl, qseq_bl, qty_int, qisI_int, qisB_int, qisL_int, qisU_int, qisS_int, qisD_int, qisNon_int, qcooked_int, qseq_int, qty_str, qisI_str, qisB_str, qisL_str, qisU_str, qisS_str, qisD_str, qisNon_str, qcooked_str, qseq_str, qty_lst, qisI_lst, qisB_lst, qisL_lst, qisU_lst, qisS_lst, qisD_lst, qisNon_lst, qcooked_lst, qseq_lst, qty_tup, qisI_tup, qisB_tup, qisL_tup, qisU_tup, qisS_tup, qisD_tup, qisNon_tup, qcooked_tup, qseq_tup, qty_dct, qisI_dct, qisB_dct, qisL_dct, qisU_dct, qisS_dct, qisD_dct, qisNon_dct, qcooked_dct, qseq_dct, qix_lst, qsl_lst, qix_tup, qsl_tup, qisNon_ln, qcooked_ln, and_assoc, exists_and_left, exists_eq_left, exists_eq_left', exists_eq_right, dxLc_eq, dsFor_eq, rngD_0, rngD_eq, zipD_map, enumD_map0, h1, ix_of h1, e1, e2, atI_nat', g1, g2]
    refine ⟨_, e3, rfl, ?_⟩
    by_cases h : ws[k + 1] = ws[k]
    · exact .inl ⟨by rw [eqv_int]; simp [h], k2 (by simp [h])⟩
    · refine .inr ⟨by rw [eqv_int]; simp [h], ?_⟩
      rw [show (k : Int) + 1 = 1 + (k : Int) by omega]
      exact k1 (by simp [h])
  · simp [changesN, List.map_map] at o ⊢
    exact o
end
end K14
end
-- F_14_change_legs
section
set_option Elab.async false
set_option linter.all false
set_option maxRecDepth 100000
set_option maxHeartbeats 4000000
set_option autoImplicit false
namespace K14
open PySem PySem.Spec PyProof.Rows L2 Sd
section
variable {P : Program} {w : World} {K : PySem.W.Frag} {mg : Str → Option Value} {base : Heap}
theorem ok_change_legs (T : Txt K mg) {f : Addr} {fd : FuncData} (F : FnP K "change_legs" s_change_legs f fd) (c_best_walk : Cl P w K mg base 5 "best_walk" sp_best_walk []) (c_told_changes : Cl P w K mg base 1 "told_changes" sp_told_changes [])  : FnOk P w K mg base (L2.CX P w) 6 f fd ["line", "free", "first", "end"] (spD K sp_change_legs) := by
  have sc := sc_change_legs
  refine fnD F sc (fun F ds O h => by
    obtain ⟨_, _, _, _, e, _⟩ := h
    rw [e] <;> rfl) (fun cdv A outer s G E ds O hr h hE => ⟨_, (pssd_cons (psd_set (i := 4) sc.nd rfl (Or.inl rfl) (pd_callX c_best_walk hr (by first | decide | omega) hE (passes_call (takes_of rfl rfl rfl rfl) (fun _ _ _ _ z => z)) (pad_cons (pd_name (pv 0)) (pad_cons (pd_name (pv 1)) (pad_cons (pd_name (pv 2)) (pad_cons (pd_name (pv 3)) pad_nil))))))
  (pssd_cons (psd_if (ptd_isN (pd_name (pv 4)) pd_non)
  (pssd_one (psd_ret pd_non))
  pssd_nil)
  (pssd_one (psd_ret (pd_call c_told_changes hr (by first | decide | omega) (pad_cons (pd_name (pv 4)) (pad_cons (pd_name (pv 2)) pad_nil))))))), ?_⟩)
  obtain ⟨seats, t, f', e', rfl, h⟩ := h
  obtain ⟨hv, hz, hf, he, o1, o2⟩ := h
  simp [startD, wipeD, dsRet, dsRetN, dsIf, dsSeq, dsNext, dsAsg, dsDrop, dsBreak, dsCont, dsPar, dsAug, dsFrz, dsApp, dsExt, dsPut, dsAugO, dsOwn, dsParOO, dsParDO, dsParDDO, dsFrzA, dxRep, diOwn, dsRaise, deAnd, deOr, deNot, de1, de2, deB, deX, dxB, dxLst, deName, deC, deCall, deIxO, deLenO, deTup, deLst, daCons, daNil, daStar, deChain, dtChain, dtV, dtAnd, dtOr, dtNot, dtYes, deIf, deSl, doNone, doSome, rdAdd, rdSub, rdMul, rdMod, rdDiv, rdPow, rdI, rdIc, rdB, rdLt, rdLe, rdGt, rdGe, rdNeg, rdIs, rdEq, rdNe, rdIx, rdIsN, rdNotN, rdIsB, rdNotB, rdRev, rdSeats, rdCatL, rdCatT, rdRepL, rdLen, rdTuple, rdList, rxList, rdInt, rdMax2, rdMin2, dgName, dgTup, dgCons, dgNil, deRefused, rdRepr, rdNeS, rdEqL, rdNeL, rdRepT, rdIsLn, noOwn, diSeq, diEn, diZp, diR1, diR2, noX,  eqOk_int, eqOk_bl, eqOk_non, eqv_int, eqv_bl, eqv_non, atI_0, atI_1, atI_2, atI_3, qty_non, qisI_non, qisB_non, qisL_non, qisU_non, qisS_non, qisD_non, qisNon_non, qcooked_non, qseq_non, qty_bl, qisI_bl, qisB_bl, qisL_bl, qisU_bl, qisS_bl, qisD_bl, qisNon_bl, qcooked_bl, qseq_bl, qty_int, qisI_int, qisB_int, qisL_int, qisU_int, qisS_int, qisD_int, qisNon_int, qcooked_int, qseq_int, qty_str, qisI_str, qisB_str, qisL_str, qisU_str, qisS_str, qisD_str, qisNon_str, qcooked_str, qseq_str, qty_lst, qisI_lst, qisB_lst, qisL_lst, qisU_lst, qisS_lst, qisD_lst, qisNon_lst, qcooked_lst, qseq_lst, qty_tup, qisI_tup, qisB_tup, qisL_tup, qisU_tup, qisS_tup, qisD_tup, qisNon_tup, qcooked_tup, qseq_tup, qty_dct, qisI_dct, qisB_dct, qisL_dct, qisU_dct, qisS_dct, qisD_dct, qisNon_dct, qcooked_dct, qseq_dct, qix_lst, qsl_lst, qix_tup, qsl_tup, qisNon_ln, qcooked_ln, and_assoc, exists_and_left, exists_eq_left, exists_eq_left', exists_eq_right, sp_best_walk, sp_told_changes, hf, he, hv, spBoth]
  refine ⟨hz, o1, fun g => ⟨fun k => ?_, (o2 g).2⟩⟩
  obtain ⟨fs, a, m, h1, h2, h3, h4, h5, h6, h7, h8, h9⟩ := (o2 g).1 k
  refine ⟨fs, a, m, h1, h2, h3, h4, h5, h6, h7, h8, ?_⟩
  have h10 := h9 a h2
  cases hw : walkG fs m (m - a) a [] with
  | none =>
    rw [hw] at h10
    exact ⟨rfl, h10⟩
  | some ws =>
    rw [hw] at h10
    have hl := walkG_len h4 _ _ _ _ h7 hw
    refine ⟨rfl, ?_⟩
    rw [if_neg (show ¬ (optD (some ws)).isNon = true from fun z => nomatch z)]
    exact ⟨ws, a, h2, rfl, by simp at hl; omega, h10⟩
end
end K14
end
-- F_14_fewest_changes
section
set_option Elab.async false
set_option linter.all false
set_option maxRecDepth 100000
set_option maxHeartbeats 4000000
set_option autoImplicit false
namespace K14
open PySem PySem.Spec PyProof.Rows L2 Sd
section
variable {P : Program} {w : World} {K : PySem.W.Frag} {mg : Str → Option Value} {base : Heap}
theorem ok_fewest_changes (T : Txt K mg) {f : Addr} {fd : FuncData} (F : FnP K "fewest_changes" s_fewest_changes f fd) (c_change_legs : Cl P w K mg base 6 "change_legs" sp_change_legs [])  : FnOk P w K mg base (L2.CX P w) 7 f fd ["line", "free", "first", "end"] (spD K sp_fewest_changes) := by
  have sc := sc_fewest_changes
  refine fnD F sc (fun F ds O h => by
    obtain ⟨_, _, _, _, e, _⟩ := h
    rw [e] <;> rfl) (fun cdv A outer s G E ds O hr h hE => ⟨_, (pssd_cons (psd_set (i := 4) sc.nd rfl (Or.inl rfl) (pd_callX c_change_legs hr (by first | decide | omega) hE (passes_call (takes_of rfl rfl rfl rfl) (fun _ _ _ _ z => z)) (pad_cons (pd_name (pv 0)) (pad_cons (pd_name (pv 1)) (pad_cons (pd_name (pv 2)) (pad_cons (pd_name (pv 3)) pad_nil))))))
  (pssd_cons (psd_if (ptd_isN (pd_name (pv 4)) pd_non)
  (pssd_one (psd_ret pd_non))
  pssd_nil)
  (pssd_one (psd_ret (pd_callB call_len_seq snd_len T.b_len (pad_cons (pd_name (pv 4)) pad_nil)))))), ?_⟩)
  obtain ⟨seats, t, f', e', rfl, h⟩ := h
  obtain ⟨hv, hz, hf, he, o1, o2⟩ := h
  simp [startD, wipeD, dsRet, dsRetN, dsIf, dsSeq, dsNext, dsAsg, dsDrop, dsBreak, dsCont, dsPar, dsAug, dsFrz, dsApp, dsExt, dsPut, dsAugO, dsOwn, dsParOO, dsParDO, dsParDDO, dsFrzA, dxRep, diOwn, dsRaise, deAnd, deOr, deNot, de1, de2, deB, deX, dxB, dxLst, deName, deC, deCall, deIxO, deLenO, deTup, deLst, daCons, daNil, daStar, deChain, dtChain, dtV, dtAnd, dtOr, dtNot, dtYes, deIf, deSl, doNone, doSome, rdAdd, rdSub, rdMul, rdMod, rdDiv, rdPow, rdI, rdIc, rdB, rdLt, rdLe, rdGt, rdGe, rdNeg, rdIs, rdEq, rdNe, rdIx, rdIsN, rdNotN, rdIsB, rdNotB, rdRev, rdSeats, rdCatL, rdCatT, rdRepL, rdLen, rdTuple, rdList, rxList, rdInt, rdMax2, rdMin2, dgName, dgTup, dgCons, dgNil, deRefused, rdRepr, rdNeS, rdEqL, rdNeL, rdRepT, rdIsLn, noOwn, diSeq, diEn, diZp, diR1, diR2, noX,  eqOk_int, eqOk_bl, eqOk_non, eqv_int, eqv_bl, eqv_non, atI_0, atI_1, atI_2, atI_3, qty_non, qisI_non, qisB_non, qisL_non, qisU_non, qisS_non, qisD_non, qisNon_non, qcooked_non, qseq_non, qty_bl, qisI_bl, qisB_bl, qisL_bl, qisU_bl, qisS_bl, qisD_bl, qisNon_bl, qcooked_bl, qseq_bl, qty_int, qisI_int, qisB_int, qisL_int, qisU_int, qisS_int, qisD_int, qisNon_int, qcooked_int, qseq_int, qty_str, qisI_str, qisB_str, qisL_str, qisU_str, qisS_str, qisD_str, qisNon_str, qcooked_str, qseq_str, qty_lst, qisI_lst, qisB_lst, qisL_lst, qisU_lst, qisS_lst, qisD_lst, qisNon_lst, qcooked_lst, qseq_lst, qty_tup, qisI_tup, qisB_tup, qisL_tup, qisU_tup, qisS_tup, qisD_tup, qisNon_tup, qcooked_tup, qseq_tup, qty_dct, qisI_dct, qisB_dct, qisL_dct, qisU_dct, qisS_dct, qisD_dct, qisNon_dct, qcooked_dct, qseq_dct, qix_lst, qsl_lst, qix_tup, qsl_tup, qisNon_ln, qcooked_ln, and_assoc, exists_and_left, exists_eq_left, exists_eq_left', exists_eq_right, sp_change_legs, hf, he, hv, spBoth]
  refine ⟨hz, o1, fun g => ⟨fun k => ?_, (o2 g).2⟩⟩
  obtain ⟨fs, a, m, h1, h2, h3, h4, h5, h6, h7, h8, h9⟩ := (o2 g).1 k
  refine ⟨fs, a, m, h1, h2, h3, h4, h5, h6, h7, h8, fun a' ha' => ?_⟩
  have h10 := h9 a' ha'
  cases hw : walkG fs m (m - a) a [] with
  | none =>
    rw [hw] at h10
    exact ⟨rfl, h10⟩
  | some ws =>
    rw [hw] at h10
    refine ⟨rfl, ?_⟩
    rw [if_neg (show ¬ (chgD a' (some ws)).isNon = true from fun z => nomatch z)]
    exact ⟨_, rfl, by simpa [cntD] using h10⟩
end
end K14
end
-- F_14_Line___init__
section
set_option Elab.async false
set_option linter.all false
set_option maxRecDepth 100000
set_option maxHeartbeats 4000000
set_option autoImplicit false
namespace K14
open PySem PySem.Spec PyProof.Rows L2 Sd
section
variable {P : Program} {w : World} {K : PySem.W.Frag} {mg : Str → Option Value} {base : Heap}
theorem ok_Line_init (T : Txt K mg) {f : Addr} {fd : FuncData} (F : FunD K "__init__" "Line.__init__" (defArgs s_Line___init__) (defBody s_Line___init__) (defScope s_Line___init__) [] [] f fd) (c_is_row : Cl P w K mg base 1 "is_row" sp_is_row []) (c_is_within : Cl P w K mg base 2 "is_within" sp_is_within []) (x_BadSeats : Er P w K mg base 1 "BadSeats") : FnOk P w K mg base (L2.CX P w) 3 f fd ["self", "seats"] (spInit K) := by
  have sc := sc_Line___init__
  refine F.ok sc (fun vs H Q E ⟨_, _, _, _, _, _, _, e, _⟩ => by rw [e] <;> rfl) fun cdv A outer s H vs Q E hr ⟨Fs, B, x, dx, v, d, O, ev, he, hf, bx, hx, nsx, rv, h, q, qx⟩ => ?_
  subst ev
  obtain ⟨d', e', hv, o1, o2⟩ := h
  cases e'
  have ht := okv_ty hv
  let G : Gx := ⟨Fs, B, H⟩
  have hE : DlvX K G (fun n d => O (.exc n d)) E := fun n d dd v B' H' o m hd rd => qx n d dd v B' H' o m hd rd
  refine ⟨_, pss_cons (show PSd _ G _ _ from (psd_if (ptd_w (pwd_or (ptd_not (ptd_val (pd_call c_is_row hr (by first | decide | omega) (pad_cons (pd_name (pv 1)) pad_nil)))) (pwd_or1 (ptd_not (ptd_lele pd_int (pd_callB call_len_seq snd_len T.b_len (pad_cons (pd_name (pv 1)) pad_nil)) (pd_gint T.c_MOST_LEGS))))))
  (pssd_one (psd_raise x_BadSeats hr hE (takes_of rfl rfl rfl rfl) (pad_cons (pd_neg pd_int) pad_nil)))
  pssd_nil)) (pss_cons (show PSd _ G _ _ from (psd_for (passes_of rfl) (pid_en T.b_enumerate (pad_cons (pd_name (pv 1)) pad_nil)) (pgd_tup (n := 2) (pgsd_cons (pgd_name (i := 2) sc.nd rfl (Or.inl rfl)) (pgsd_cons (pgd_name (i := 3) sc.nd rfl (Or.inl rfl)) pgsd_nil)))
  (pssd_one (psd_if (ptd_not (ptd_val (pd_call c_is_within hr (by first | decide | omega) (pad_cons (pd_name (pv 3)) (pad_cons pd_int (pad_cons (pd_gint T.c_MOST_SEATS_lines) pad_nil))))))
  (pssd_one (psd_raise x_BadSeats hr hE (takes_of rfl rfl rfl rfl) (pad_cons (pd_name (pv 2)) pad_nil)))
  pssd_nil)))) (pss_one (ps_fld (pv 0) (show PEd _ G _ _ from pd_callTy call_tuple_of snd_tuple T.b_tuple (pad_cons (pd_name (pv 1)) pad_nil)) (by rfl)))), ?_⟩
  have st0 : Stt K G (L2.start ["self", "seats", "index", "many"] [.ref x, v]) B H (startD ["self", "seats", "index", "many"] [.raw (.ref x), d]) := RpA.start he hf (.cons (.raw _) (.cons rv .nil))
  refine ⟨B, _, { nx := fun δ => ∃ a b, δ = [.dat (.raw (.ref x)), .dat d, a, b] ∧ ∃ xs, d.seq = some xs ∧ (badSeats d = Option.map Int.ofNat (xs.findIdx? fun x => !isWithin x 0 20)), rt := fun _ => False }, st0, ?_, ⟨fun σ1 B1 H1 δ1 _ s1 h1 => ?_, fun _ _ _ _ _ z => z.elim, fun _ _ _ _ _ _ z => z.elim, fun _ _ _ _ _ _ z => z.elim⟩⟩
  · simp [startD, wipeD, dsRet, dsRetN, dsIf, dsSeq, dsNext, dsAsg, dsDrop, dsBreak, dsCont, dsPar, dsAug, dsFrz, dsApp, dsExt, dsPut, dsAugO, dsOwn, dsParOO, dsParDO, dsParDDO, dsFrzA, dxRep, diOwn, dsRaise, deAnd, deOr, deNot, de1, de2, deB, deX, dxB, dxLst, deName, deC, deCall, deIxO, deLenO, deTup, deLst, daCons, daNil, daStar, deChain, dtChain, dtV, dtAnd, dtOr, dtNot, dtYes, deIf, deSl, doNone, doSome, rdAdd, rdSub, rdMul, rdMod, rdDiv, rdPow, rdI, rdIc, rdB, rdLt, rdLe, rdGt, rdGe, rdNeg, rdIs, rdEq, rdNe, rdIx, rdIsN, rdNotN, rdIsB, rdNotB, rdRev, rdSeats, rdCatL, rdCatT, rdRepL, rdLen, rdTuple, rdList, rxList, rdInt, rdMax2, rdMin2, dgName, dgTup, dgCons, dgNil, deRefused, rdRepr, rdNeS, rdEqL, rdNeL, rdRepT, rdIsLn, noOwn, diSeq, diEn, diZp, diR1, diR2, noX,  eqOk_int, eqOk_bl, eqOk_non, eqv_int, eqv_bl, eqv_non, atI_0, atI_1, atI_2, atI_3, qty_non, qisI_non, qisB_non, qisL_non, qisU_non, qisS_non, qisD_non, qisNon_non, qcooked_non, qseq_non, qty_bl, qisI_bl, qisB_bl, qisL_bl, qisU_bl, qisS_bl, qisD_bl, qisNon_bl, qcooked_bl, qseq_bl, qty_int, qisI_int, qisB_int, qisL_int, qisU_int, qisS_int, qisD_int, qisNon_int, qcooked_int, qseq_int, qty_str, qisI_str, qisB_str, qisL_str, qisU_str, qisS_str, qisD_str, qisNon_str, qcooked_str, qseq_str, qty_lst, qisI_lst, qisB_lst, qisL_lst, qisU_lst, qisS_lst, qisD_lst, qisNon_lst, qcooked_lst, qseq_lst, qty_tup, qisI_tup, qisB_tup, qisL_tup, qisU_tup, qisS_tup, qisD_tup, qisNon_tup, qcooked_tup, qseq_tup, qty_dct, qisI_dct, qisB_dct, qisL_dct, qisU_dct, qisS_dct, qisD_dct, qisNon_dct, qcooked_dct, qseq_dct, qix_lst, qsl_lst, qix_tup, qsl_tup, qisNon_ln, qcooked_ln, and_assoc, exists_and_left, exists_eq_left, exists_eq_left', exists_eq_right, sp_is_row, sp_is_within, dxLc_eq, dsFor_eq, rngD_0, rngD_eq, zipD_map, enumD_map0, ht]
    cases hs : d.seq with
    | none =>
      have e : badSeats d = some (-1) := by unfold badSeats; rw [hs]
      have e2 : (d.isL || d.isU) = false := by rw [← seq_isSome, hs]; rfl
      simp only [Bool.or_eq_false_iff] at e2
      simpa [e2.1, e2.2] using o1 _ e
    | some xs =>
      have e2 : d.isL = true ∨ d.isU = true := by
        have := seq_isSome d
        rw [hs] at this
        simpa using this.symm
      have eb : badSeats d = if xs.length = 0 ∨ 10 < xs.length then some (-1) else Option.map Int.ofNat (xs.findIdx? fun x => !isWithin x 0 20) := by unfold badSeats; rw [hs]
      rw [if_pos e2]
      refine ⟨xs, rfl, ?_⟩
      by_cases h1 : 1 ≤ (xs.length : Int)
      · rw [if_pos h1]
        by_cases h2 : (xs.length : Int) ≤ 10
        · rw [if_pos h2]
          exact ⟨xs, rfl, by rw [eb, if_neg (by omega)]⟩
        · rw [if_neg h2]
          exact o1 _ (by rw [eb, if_pos (by omega)])
      · rw [if_neg h1]
        exact o1 _ (by rw [eb, if_pos (by omega)])
  · obtain ⟨a, b, rfl, xs, hs, eb⟩ := h1
    refine ⟨B1, _, { nx := fun δ => ∃ a b, δ = [.dat (.raw (.ref x)), .dat d, a, b] ∧ badSeats d = none, rt := fun _ => False }, s1, ?_, ⟨fun σ2 B2 H2 δ2 _ s2 h2 => ?_, fun _ _ _ _ _ z => z.elim, fun _ _ _ _ _ _ z => z.elim, fun _ _ _ _ _ _ z => z.elim⟩⟩
    · simp [startD, wipeD, dsRet, dsRetN, dsIf, dsSeq, dsNext, dsAsg, dsDrop, dsBreak, dsCont, dsPar, dsAug, dsFrz, dsApp, dsExt, dsPut, dsAugO, dsOwn, dsParOO, dsParDO, dsParDDO, dsFrzA, dxRep, diOwn, dsRaise, deAnd, deOr, deNot, de1, de2, deB, deX, dxB, dxLst, deName, deC, deCall, deIxO, deLenO, deTup, deLst, daCons, daNil, daStar, deChain, dtChain, dtV, dtAnd, dtOr, dtNot, dtYes, deIf, deSl, doNone, doSome, rdAdd, rdSub, rdMul, rdMod, rdDiv, rdPow, rdI, rdIc, rdB, rdLt, rdLe, rdGt, rdGe, rdNeg, rdIs, rdEq, rdNe, rdIx, rdIsN, rdNotN, rdIsB, rdNotB, rdRev, rdSeats, rdCatL, rdCatT, rdRepL, rdLen, rdTuple, rdList, rxList, rdInt, rdMax2, rdMin2, dgName, dgTup, dgCons, dgNil, deRefused, rdRepr, rdNeS, rdEqL, rdNeL, rdRepT, rdIsLn, noOwn, diSeq, diEn, diZp, diR1, diR2, noX,  eqOk_int, eqOk_bl, eqOk_non, eqv_int, eqv_bl, eqv_non, atI_0, atI_1, atI_2, atI_3, qty_non, qisI_non, qisB_non, qisL_non, qisU_non, qisS_non, qisD_non, qisNon_non, qcooked_non, qseq_non, qty_bl, qisI_bl, qisB_bl, qisL_bl, qisU_bl, qisS_bl, qisD_bl, qisNon_bl, qcooked_bl, qseq_bl, qty_int, qisI_int, qisB_int, qisL_int, qisU_int, qisS_int, qisD_int, qisNon_int, qcooked_int, qseq_int, qty_str, qisI_str, qisB_str, qisL_str, qisU_str, qisS_str, qisD_str, qisNon_str, qcooked_str, qseq_str, qty_lst, qisI_lst, qisB_lst, qisL_lst, qisU_lst, qisS_lst, qisD_lst, qisNon_lst, qcooked_lst, qseq_lst, qty_tup, qisI_tup, qisB_tup, qisL_tup, qisU_tup, qisS_tup, qisD_tup, qisNon_tup, qcooked_tup, qseq_tup, qty_dct, qisI_dct, qisB_dct, qisL_dct, qisU_dct, qisS_dct, qisD_dct, qisNon_dct, qcooked_dct, qseq_dct, qix_lst, qsl_lst, qix_tup, qsl_tup, qisNon_ln, qcooked_ln, and_assoc, exists_and_left, exists_eq_left, exists_eq_left', exists_eq_right, sp_is_row, sp_is_within, dxLc_eq, dsFor_eq, rngD_0, rngD_eq, zipD_map, enumD_map0, hs]
      have hx := okv_seq hv hs
      rw [enumD_id]
      refine fb_on xs.zipIdx (fun i δ' => (∃ a b, δ' = [.dat (.raw (.ref x)), .dat d, a, b]) ∧ (xs.take i).all (isWithin · 0 20) = true) ⟨⟨_, _, rfl⟩, by simp⟩ (fun i p δ' hi hj => ?_) (fun δ' hj => ?_)
      · obtain ⟨⟨a, b, rfl⟩, ha⟩ := hj
        obtain ⟨y, j⟩ := p
        have hy : xs[i]? = some y ∧ i = j := by
          rw [List.getElem?_zipIdx, Option.map_eq_some_iff] at hi
          obtain ⟨z, hz, e⟩ := hi
          cases e
          exact ⟨hz, by omega⟩
        obtain ⟨hy, rfl⟩ := hy
        have oy := okv_ty (hx y (List.mem_of_getElem? hy))
        simp [startD, wipeD, dsRet, dsRetN, dsIf, dsSeq, dsNext, dsAsg, dsDrop, dsBreak, dsCont, dsPar, dsAug, dsFrz, dsApp, dsExt, dsPut, dsAugO, dsOwn, dsParOO, dsParDO, dsParDDO, dsFrzA, dxRep, diOwn, dsRaise, deAnd, deOr, deNot, de1, de2, deB, deX, dxB, dxLst, deName, deC, deCall, deIxO, deLenO, deTup, deLst, daCons, daNil, daStar, deChain, dtChain, dtV, dtAnd, dtOr, dtNot, dtYes, deIf, deSl, doNone, doSome, rdAdd, rdSub, rdMul, rdMod, rdDiv, rdPow, rdI, rdIc, rdB, rdLt, rdLe, rdGt, rdGe, rdNeg, rdIs, rdEq, rdNe, rdIx, rdIsN, rdNotN, rdIsB, rdNotB, rdRev, rdSeats, rdCatL, rdCatT, rdRepL, rdLen, rdTuple, rdList, rxList, rdInt, rdMax2, rdMin2, dgName, dgTup, dgCons, dgNil, deRefused, rdRepr, rdNeS, rdEqL, rdNeL, rdRepT, rdIsLn, noOwn, diSeq, diEn, diZp, diR1, diR2, noX,  eqOk_int, eqOk_bl, eqOk_non, eqv_int, eqv_bl, eqv_non, atI_0, atI_1, atI_2, atI_3, qty_non, qisI_non, qisB_non, qisL_non, qisU_non, qisS_non, qisD_non, qisNon_non, qcooked_non, qseq_non, qty_bl, qisI_bl, qisB_bl, qisL_bl, qisU_bl, qisS_bl, qisD_bl, qisNon_bl, qcooked_bl, qseq_bl, qty_int, qisI_int, qisB_int, qisL_int, qisU_int, qisS_int, qisD_int, qisNon_int, qcooked_int, qseq_int, qty_str, qisI_str, qisB_str, qisL_str, qisU_str, qisS_str, qisD_str, qisNon_str, qcooked_str, qseq_str, qty_lst, qisI_lst, qisB_lst, qisL_lst, qisU_lst, qisS_lst, qisD_lst, qisNon_lst, qcooked_lst, qseq_lst, qty_tup, qisI_tup, qisB_tup, qisL_tup, qisU_tup, qisS_tup, qisD_tup, qisNon_tup, qcooked_tup, qseq_tup, qty_dct, qisI_dct, qisB_dct, qisL_dct, qisU_dct, qisS_dct, qisD_dct, qisNon_dct, qcooked_dct, qseq_dct, qix_lst, qsl_lst, qix_tup, qsl_tup, qisNon_ln, qcooked_ln, and_assoc, exists_and_left, exists_eq_left, exists_eq_left', exists_eq_right, sp_is_row, sp_is_within, dxLc_eq, dsFor_eq, rngD_0, rngD_eq, zipD_map, enumD_map0, oy]
        cases hr : isWithin y 0 20 with
        | true => simpa using all_take ha hy hr
        | false => simpa using o1 _ (by rw [eb, findIdx_at ha hy hr]; rfl)
      · obtain ⟨⟨a, b, rfl⟩, ha⟩ := hj
        rw [List.length_zipIdx, List.take_length] at ha
        exact ⟨⟨a, b, rfl⟩, by rw [eb, findIdx_none ha]; rfl⟩
    · obtain ⟨a, b, rfl, hn⟩ := h2
      refine ⟨B2, _, fun z => z = .tup xs, s2, ?_, fun v' z B3 H3 m3 hz r3 => ?_⟩
      · simp [startD, wipeD, dsRet, dsRetN, dsIf, dsSeq, dsNext, dsAsg, dsDrop, dsBreak, dsCont, dsPar, dsAug, dsFrz, dsApp, dsExt, dsPut, dsAugO, dsOwn, dsParOO, dsParDO, dsParDDO, dsFrzA, dxRep, diOwn, dsRaise, deAnd, deOr, deNot, de1, de2, deB, deX, dxB, dxLst, deName, deC, deCall, deIxO, deLenO, deTup, deLst, daCons, daNil, daStar, deChain, dtChain, dtV, dtAnd, dtOr, dtNot, dtYes, deIf, deSl, doNone, doSome, rdAdd, rdSub, rdMul, rdMod, rdDiv, rdPow, rdI, rdIc, rdB, rdLt, rdLe, rdGt, rdGe, rdNeg, rdIs, rdEq, rdNe, rdIx, rdIsN, rdNotN, rdIsB, rdNotB, rdRev, rdSeats, rdCatL, rdCatT, rdRepL, rdLen, rdTuple, rdList, rxList, rdInt, rdMax2, rdMin2, dgName, dgTup, dgCons, dgNil, deRefused, rdRepr, rdNeS, rdEqL, rdNeL, rdRepT, rdIsLn, noOwn, diSeq, diEn, diZp, diR1, diR2, noX,  eqOk_int, eqOk_bl, eqOk_non, eqv_int, eqv_bl, eqv_non, atI_0, atI_1, atI_2, atI_3, qty_non, qisI_non, qisB_non, qisL_non, qisU_non, qisS_non, qisD_non, qisNon_non, qcooked_non, qseq_non, qty_bl, qisI_bl, qisB_bl, qisL_bl, qisU_bl, qisS_bl, qisD_bl, qisNon_bl, qcooked_bl, qseq_bl, qty_int, qisI_int, qisB_int, qisL_int, qisU_int, qisS_int, qisD_int, qisNon_int, qcooked_int, qseq_int, qty_str, qisI_str, qisB_str, qisL_str, qisU_str, qisS_str, qisD_str, qisNon_str, qcooked_str, qseq_str, qty_lst, qisI_lst, qisB_lst, qisL_lst, qisU_lst, qisS_lst, qisD_lst, qisNon_lst, qcooked_lst, qseq_lst, qty_tup, qisI_tup, qisB_tup, qisL_tup, qisU_tup, qisS_tup, qisD_tup, qisNon_tup, qcooked_tup, qseq_tup, qty_dct, qisI_dct, qisB_dct, qisL_dct, qisU_dct, qisS_dct, qisD_dct, qisNon_dct, qcooked_dct, qseq_dct, qix_lst, qsl_lst, qix_tup, qsl_tup, qisNon_ln, qcooked_ln, and_assoc, exists_and_left, exists_eq_left, exists_eq_left', exists_eq_right, sp_is_row, sp_is_within, dxLc_eq, dsFor_eq, rngD_0, rngD_eq, zipD_map, enumD_map0, hs]
      · subst hz
        obtain ⟨v0, hv0, r0⟩ := s2.dat (i := 0) rfl
        cases r0
        have m23 := s2.fm.trans m3
        obtain ⟨b3, h3⟩ := m23.o x bx (.of hx)
        have h3 := (h3 nsx).trans hx
        cases r3 with
        | tup ht ra =>
          refine ⟨_, hv0, x, He.ga K "Line", dx, [], rfl, h3, T.clLine, T.nSeats, by decide, ?_⟩
          exact q _ _ _ _ _ m23 (o2 hn xs hs) ht ra

end
end K14
end
-- F_14_Line___eq__
section
set_option Elab.async false
set_option linter.all false
set_option maxRecDepth 100000
set_option maxHeartbeats 4000000
set_option autoImplicit false
namespace K14
open PySem PySem.Spec PyProof.Rows L2 Sd
section
variable {P : Program} {w : World} {K : PySem.W.Frag} {mg : Str → Option Value} {base : Heap}
theorem ok_Line_eq (T : Txt K mg) {f : Addr} {fd : FuncData} (F : FunD K "__eq__" "Line.__eq__" (defArgs s_Line___eq__) (defBody s_Line___eq__) (defScope s_Line___eq__) [] [] f fd) : FnOk P w K mg base (L2.CX P w) 1 f fd ["self", "other"] (spD K sp_eqLine) := by
  have sc := sc_Line___eq__
  refine fnD F sc (fun F ds O h => by
    obtain ⟨_, _, e, _⟩ := h
    rw [e] <;> rfl) (fun cdv A outer s G E ds O hr h hE => ⟨_, (pssd_one (psd_ret (pd_and (pd_isLn T.lnF T.clLine T.b_isinstance T.g_Line (pd_name (pv 1))) (pd_one (pd_eq hr.units (pd_seats T.clLine T.nSeats (pd_name (pv 0))) (pd_seats T.clLine T.nSeats (pd_name (pv 1)))))))), ?_⟩)
  obtain ⟨xs, d, rfl, h⟩ := h
  rcases h with ⟨ys, rfl, h1, h2, o⟩ | ⟨ys, rfl, o⟩
  · simp [startD, wipeD, dsRet, dsRetN, dsIf, dsSeq, dsNext, dsAsg, dsDrop, dsBreak, dsCont, dsPar, dsAug, dsFrz, dsApp, dsExt, dsPut, dsAugO, dsOwn, dsParOO, dsParDO, dsParDDO, dsFrzA, dxRep, diOwn, dsRaise, deAnd, deOr, deNot, de1, de2, deB, deX, dxB, dxLst, deName, deC, deCall, deIxO, deLenO, deTup, deLst, daCons, daNil, daStar, deChain, dtChain, dtV, dtAnd, dtOr, dtNot, dtYes, deIf, deSl, doNone, doSome, rdAdd, rdSub, rdMul, rdMod, rdDiv, rdPow, rdI, rdIc, rdB, rdLt, rdLe, rdGt, rdGe, rdNeg, rdIs, rdEq, rdNe, rdIx, rdIsN, rdNotN, rdIsB, rdNotB, rdRev, rdSeats, rdCatL, rdCatT, rdRepL, rdLen, rdTuple, rdList, rxList, rdInt, rdMax2, rdMin2, dgName, dgTup, dgCons, dgNil, deRefused, rdRepr, rdNeS, rdEqL, rdNeL, rdRepT, rdIsLn, noOwn, diSeq, diEn, diZp, diR1, diR2, noX,  eqOk_int, eqOk_bl, eqOk_non, eqv_int, eqv_bl, eqv_non, atI_0, atI_1, atI_2, atI_3, qty_non, qisI_non, qisB_non, qisL_non, qisU_non, qisS_non, qisD_non, qisNon_non, qcooked_non, qseq_non, qty_bl, qisI_bl, qisB_bl, qisL_bl, qisU_bl, qisS_bl, qisD_bl, qisNon_bl, qcooked_bl, qseq_bl, qty_int, qisI_int, qisB_int, qisL_int, qisU_int, qisS_int, qisD_int, qisNon_int, qcooked_int, qseq_int, qty_str, qisI_str, qisB_str, qisL_str, qisU_str, qisS_str, qisD_str, qisNon_str, qcooked_str, qseq_str, qty_lst, qisI_lst, qisB_lst, qisL_lst, qisU_lst, qisS_lst, qisD_lst, qisNon_lst, qcooked_lst, qseq_lst, qty_tup, qisI_tup, qisB_tup, qisL_tup, qisU_tup, qisS_tup, qisD_tup, qisNon_tup, qcooked_tup, qseq_tup, qty_dct, qisI_dct, qisB_dct, qisL_dct, qisU_dct, qisS_dct, qisD_dct, qisNon_dct, qcooked_dct, qseq_dct, qix_lst, qsl_lst, qix_tup, qsl_tup, qisNon_ln, qcooked_ln, and_assoc, exists_and_left, exists_eq_left, exists_eq_left', exists_eq_right, dxLc_eq, dsFor_eq, rngD_0, rngD_eq, zipD_map, enumD_map0, h1, h2]
    exact o
  · simp [startD, wipeD, dsRet, dsRetN, dsIf, dsSeq, dsNext, dsAsg, dsDrop, dsBreak, dsCont, dsPar, dsAug, dsFrz, dsApp, dsExt, dsPut, dsAugO, dsOwn, dsParOO, dsParDO, dsParDDO, dsFrzA, dxRep, diOwn, dsRaise, deAnd, deOr, deNot, de1, de2, deB, deX, dxB, dxLst, deName, deC, deCall, deIxO, deLenO, deTup, deLst, daCons, daNil, daStar, deChain, dtChain, dtV, dtAnd, dtOr, dtNot, dtYes, deIf, deSl, doNone, doSome, rdAdd, rdSub, rdMul, rdMod, rdDiv, rdPow, rdI, rdIc, rdB, rdLt, rdLe, rdGt, rdGe, rdNeg, rdIs, rdEq, rdNe, rdIx, rdIsN, rdNotN, rdIsB, rdNotB, rdRev, rdSeats, rdCatL, rdCatT, rdRepL, rdLen, rdTuple, rdList, rxList, rdInt, rdMax2, rdMin2, dgName, dgTup, dgCons, dgNil, deRefused, rdRepr, rdNeS, rdEqL, rdNeL, rdRepT, rdIsLn, noOwn, diSeq, diEn, diZp, diR1, diR2, noX,  eqOk_int, eqOk_bl, eqOk_non, eqv_int, eqv_bl, eqv_non, atI_0, atI_1, atI_2, atI_3, qty_non, qisI_non, qisB_non, qisL_non, qisU_non, qisS_non, qisD_non, qisNon_non, qcooked_non, qseq_non, qty_bl, qisI_bl, qisB_bl, qisL_bl, qisU_bl, qisS_bl, qisD_bl, qisNon_bl, qcooked_bl, qseq_bl, qty_int, qisI_int, qisB_int, qisL_int, qisU_int, qisS_int, qisD_int, qisNon_int, qcooked_int, qseq_int, qty_str, qisI_str, qisB_str, qisL_str, qisU_str, qisS_str, qisD_str, qisNon_str, qcooked_str, qseq_str, qty_lst, qisI_lst, qisB_lst, qisL_lst, qisU_lst, qisS_lst, qisD_lst, qisNon_lst, qcooked_lst, qseq_lst, qty_tup, qisI_tup, qisB_tup, qisL_tup, qisU_tup, qisS_tup, qisD_tup, qisNon_tup, qcooked_tup, qseq_tup, qty_dct, qisI_dct, qisB_dct, qisL_dct, qisU_dct, qisS_dct, qisD_dct, qisNon_dct, qcooked_dct, qseq_dct, qix_lst, qsl_lst, qix_tup, qsl_tup, qisNon_ln, qcooked_ln, and_assoc, exists_and_left, exists_eq_left, exists_eq_left', exists_eq_right, dxLc_eq, dsFor_eq, rngD_0, rngD_eq, zipD_map, enumD_map0]
    exact o

end
end K14
end
-- F_14_check_passengers
section
set_option Elab.async false
set_option linter.all false
set_option maxRecDepth 100000
set_option maxHeartbeats 4000000
set_option autoImplicit false
namespace K14
open PySem PySem.Spec PyProof.Rows L2 Sd
section
variable {P : Program} {w : World} {K : PySem.W.Frag} {mg : Str → Option Value} {base : Heap}
theorem ok_check_passengers (T : Txt K mg) {f : Addr} {fd : FuncData} (F : FnP K "check_passengers" s_check_passengers f fd) (c_is_row : Cl P w K mg base 1 "is_row" sp_is_row []) (c_is_tuple_of : Cl P w K mg base 1 "is_tuple_of" sp_is_tuple_of []) (c_is_within : Cl P w K mg base 2 "is_within" sp_is_within []) (x_BadPassengers : Er P w K mg base 1 "BadPassengers") : FnOk P w K mg base (L2.CX P w) 3 f fd ["line", "passengers"] (spD K sp_check_passengers) := by
  have sc := sc_check_passengers
  refine fnD F sc (fun F ds O h => by
    obtain ⟨_, _, e, _⟩ := h
    rw [e] <;> rfl) (fun cdv A outer s G E ds O hr h hE => ⟨_, (pssd_cons (psd_if (ptd_w (pwd_or (ptd_not (ptd_val (pd_call c_is_row hr (by first | decide | omega) (pad_cons (pd_name (pv 1)) pad_nil)))) (pwd_or1 (ptd_gt (pd_callB call_len_seq snd_len T.b_len (pad_cons (pd_name (pv 1)) pad_nil)) (pd_gint T.c_MOST_PASSENGERS)))))
  (pssd_one (psd_raise x_BadPassengers hr hE (takes_of rfl rfl rfl rfl) (pad_cons (pd_neg pd_int) pad_nil)))
  pssd_nil)
  (pssd_one (psd_for (passes_of rfl) (pid_en T.b_enumerate (pad_cons (pd_name (pv 1)) pad_nil)) (pgd_tup (n := 2) (pgsd_cons (pgd_name (i := 2) sc.nd rfl (Or.inl rfl)) (pgsd_cons (pgd_name (i := 3) sc.nd rfl (Or.inl rfl)) pgsd_nil)))
  (pssd_one (psd_if (ptd_w (pwd_or (ptd_not (ptd_val (pd_call c_is_tuple_of hr (by first | decide | omega) (pad_cons (pd_name (pv 3)) (pad_cons pd_int pad_nil))))) (pwd_or (ptd_not (ptd_val (pd_call c_is_within hr (by first | decide | omega) (pad_cons (pd_item (pd_name (pv 3)) pd_int) (pad_cons pd_int (pad_cons (pd_callB call_len_seq snd_len T.b_len (pad_cons (pd_seats T.clLine T.nSeats (pd_name (pv 0))) pad_nil)) pad_nil)))))) (pwd_or1 (ptd_not (ptd_val (pd_call c_is_within hr (by first | decide | omega) (pad_cons (pd_item (pd_name (pv 3)) pd_int) (pad_cons pd_int (pad_cons (pd_sub (pd_item (pd_name (pv 3)) pd_int) pd_int) pad_nil))))))))))
  (pssd_one (psd_raise x_BadPassengers hr hE (takes_of rfl rfl rfl rfl) (pad_cons (pd_name (pv 2)) pad_nil)))
  pssd_nil))))), ?_⟩)
  obtain ⟨seats, t, rfl, h⟩ := h
  obtain ⟨hv, o1, o2⟩ := h
  have ht := okv_ty hv
  simp [startD, wipeD, dsRet, dsRetN, dsIf, dsSeq, dsNext, dsAsg, dsDrop, dsBreak, dsCont, dsPar, dsAug, dsFrz, dsApp, dsExt, dsPut, dsAugO, dsOwn, dsParOO, dsParDO, dsParDDO, dsFrzA, dxRep, diOwn, dsRaise, deAnd, deOr, deNot, de1, de2, deB, deX, dxB, dxLst, deName, deC, deCall, deIxO, deLenO, deTup, deLst, daCons, daNil, daStar, deChain, dtChain, dtV, dtAnd, dtOr, dtNot, dtYes, deIf, deSl, doNone, doSome, rdAdd, rdSub, rdMul, rdMod, rdDiv, rdPow, rdI, rdIc, rdB, rdLt, rdLe, rdGt, rdGe, rdNeg, rdIs, rdEq, rdNe, rdIx, rdIsN, rdNotN, rdIsB, rdNotB, rdRev, rdSeats, rdCatL, rdCatT, rdRepL, rdLen, rdTuple, rdList, rxList, rdInt, rdMax2, rdMin2, dgName, dgTup, dgCons, dgNil, deRefused, rdRepr, rdNeS, rdEqL, rdNeL, rdRepT, rdIsLn, noOwn, diSeq, diEn, diZp, diR1, diR2, noX,  eqOk_int, eqOk_bl, eqOk_non, eqv_int, eqv_bl, eqv_non, atI_0, atI_1, atI_2, atI_3, qty_non, qisI_non, qisB_non, qisL_non, qisU_non, qisS_non, qisD_non, qisNon_non, qcooked_non, qseq_non, qty_bl, qisI_bl, qisB_bl, qisL_bl, qisU_bl, qisS_bl, qisD_bl, qisNon_bl, qcooked_bl, qseq_bl, qty_int, qisI_int, qisB_int, qisL_int, qisU_int, qisS_int, qisD_int, qisNon_int, qcooked_int, qseq_int, qty_str, qisI_str, qisB_str, qisL_str, qisU_str, qisS_str, qisD_str, qisNon_str, qcooked_str, qseq_str, qty_lst, qisI_lst, qisB_lst, qisL_lst, qisU_lst, qisS_lst, qisD_lst, qisNon_lst, qcooked_lst, qseq_lst, qty_tup, qisI_tup, qisB_tup, qisL_tup, qisU_tup, qisS_tup, qisD_tup, qisNon_tup, qcooked_tup, qseq_tup, qty_dct, qisI_dct, qisB_dct, qisL_dct, qisU_dct, qisS_dct, qisD_dct, qisNon_dct, qcooked_dct, qseq_dct, qix_lst, qsl_lst, qix_tup, qsl_tup, qisNon_ln, qcooked_ln, and_assoc, exists_and_left, exists_eq_left, exists_eq_left', exists_eq_right, sp_is_row, sp_is_tuple_of, sp_is_within, ht]
  cases hs : t.seq with
  | none =>
    have e : (t.isL || t.isU) = false := by rw [← seq_isSome, hs]; rfl
    have eb : badPass seats.length t = some (-1) := by unfold badPass; rw [hs]
    simp only [Bool.or_eq_false_iff] at e
    simpa [e.1, e.2] using o1 _ eb
  | some xs =>
    have e : (t.isL || t.isU) = true := by rw [← seq_isSome, hs]; rfl
    have hx := okv_seq hv hs
    have het : (t.isL = true ∨ t.isU = true) := by simpa using e
    rw [if_pos het]
    refine ⟨xs, rfl, ?_⟩
    by_cases c1 : xs.length ≤ 40
    · rw [if_neg (by omega)]
      refine for_of (enumD 0 xs) (fun i δ' => (xs.take i).all (isPass seats.length) = true ∧ ∃ a b, δ' = [.dat (.ln seats), .dat t, a, b]) (fun P p => ?_) ⟨by simp, _, _, rfl⟩ (fun i x δ' hi hj => ?_) (fun δ' hj => ?_)
      · simp [startD, wipeD, dsRet, dsRetN, dsIf, dsSeq, dsNext, dsAsg, dsDrop, dsBreak, dsCont, dsPar, dsAug, dsFrz, dsApp, dsExt, dsPut, dsAugO, dsOwn, dsParOO, dsParDO, dsParDDO, dsFrzA, dxRep, diOwn, dsRaise, deAnd, deOr, deNot, de1, de2, deB, deX, dxB, dxLst, deName, deC, deCall, deIxO, deLenO, deTup, deLst, daCons, daNil, daStar, deChain, dtChain, dtV, dtAnd, dtOr, dtNot, dtYes, deIf, deSl, doNone, doSome, rdAdd, rdSub, rdMul, rdMod, rdDiv, rdPow, rdI, rdIc, rdB, rdLt, rdLe, rdGt, rdGe, rdNeg, rdIs, rdEq, rdNe, rdIx, rdIsN, rdNotN, rdIsB, rdNotB, rdRev, rdSeats, rdCatL, rdCatT, rdRepL, rdLen, rdTuple, rdList, rxList, rdInt, rdMax2, rdMin2, dgName, dgTup, dgCons, dgNil, deRefused, rdRepr, rdNeS, rdEqL, rdNeL, rdRepT, rdIsLn, noOwn, diSeq, diEn, diZp, diR1, diR2, noX,  eqOk_int, eqOk_bl, eqOk_non, eqv_int, eqv_bl, eqv_non, atI_0, atI_1, atI_2, atI_3, qty_non, qisI_non, qisB_non, qisL_non, qisU_non, qisS_non, qisD_non, qisNon_non, qcooked_non, qseq_non, qty_bl, qisI_bl, qisB_bl, qisL_bl, qisU_bl, qisS_bl, qisD_bl, qisNon_bl, qcooked_bl, qseq_bl, qty_int, qisI_int, qisB_int, qisL_int, qisU_int, qisS_int, qisD_int, qisNon_int, qcooked_int, qseq_int, qty_str, qisI_str, qisB_str, qisL_str, qisU_str, qisS_str, qisD_str, qisNon_str, qcooked_str, qseq_str, qty_lst, qisI_lst, qisB_lst, qisL_lst, qisU_lst, qisS_lst, qisD_lst, qisNon_lst, qcooked_lst, qseq_lst, qty_tup, qisI_tup, qisB_tup, qisL_tup, qisU_tup, qisS_tup, qisD_tup, qisNon_tup, qcooked_tup, qseq_tup, qty_dct, qisI_dct, qisB_dct, qisL_dct, qisU_dct, qisS_dct, qisD_dct, qisNon_dct, qcooked_dct, qseq_dct, qix_lst, qsl_lst, qix_tup, qsl_tup, qisNon_ln, qcooked_ln, and_assoc, exists_and_left, exists_eq_left, exists_eq_left', exists_eq_right, sp_is_row, sp_is_tuple_of, sp_is_within, hs]
        exact p
      · obtain ⟨ha, a, b, rfl⟩ := hj
        rw [enumD_at] at hi
        cases hxi : xs[i]? with
        | none => rw [hxi] at hi; cases hi
        | some y =>
          rw [hxi] at hi
          cases hi
          have oy := hx y (List.mem_of_getElem? hxi)
          simp [startD, wipeD, dsRet, dsRetN, dsIf, dsSeq, dsNext, dsAsg, dsDrop, dsBreak, dsCont, dsPar, dsAug, dsFrz, dsApp, dsExt, dsPut, dsAugO, dsOwn, dsParOO, dsParDO, dsParDDO, dsFrzA, dxRep, diOwn, dsRaise, deAnd, deOr, deNot, de1, de2, deB, deX, dxB, dxLst, deName, deC, deCall, deIxO, deLenO, deTup, deLst, daCons, daNil, daStar, deChain, dtChain, dtV, dtAnd, dtOr, dtNot, dtYes, deIf, deSl, doNone, doSome, rdAdd, rdSub, rdMul, rdMod, rdDiv, rdPow, rdI, rdIc, rdB, rdLt, rdLe, rdGt, rdGe, rdNeg, rdIs, rdEq, rdNe, rdIx, rdIsN, rdNotN, rdIsB, rdNotB, rdRev, rdSeats, rdCatL, rdCatT, rdRepL, rdLen, rdTuple, rdList, rxList, rdInt, rdMax2, rdMin2, dgName, dgTup, dgCons, dgNil, deRefused, rdRepr, rdNeS, rdEqL, rdNeL, rdRepT, rdIsLn, noOwn, diSeq, diEn, diZp, diR1, diR2, noX,  eqOk_int, eqOk_bl, eqOk_non, eqv_int, eqv_bl, eqv_non, atI_0, atI_1, atI_2, atI_3, qty_non, qisI_non, qisB_non, qisL_non, qisU_non, qisS_non, qisD_non, qisNon_non, qcooked_non, qseq_non, qty_bl, qisI_bl, qisB_bl, qisL_bl, qisU_bl, qisS_bl, qisD_bl, qisNon_bl, qcooked_bl, qseq_bl, qty_int, qisI_int, qisB_int, qisL_int, qisU_int, qisS_int, qisD_int, qisNon_int, qcooked_int, qseq_int, qty_str, qisI_str, qisB_str, qisL_str, qisU_str, qisS_str, qisD_str, qisNon_str, qcooked_str, qseq_str, qty_lst, qisI_lst, qisB_lst, qisL_lst, qisU_lst, qisS_lst, qisD_lst, qisNon_lst, qcooked_lst, qseq_lst, qty_tup, qisI_tup, qisB_tup, qisL_tup, qisU_tup, qisS_tup, qisD_tup, qisNon_tup, qcooked_tup, qseq_tup, qty_dct, qisI_dct, qisB_dct, qisL_dct, qisU_dct, qisS_dct, qisD_dct, qisNon_dct, qcooked_dct, qseq_dct, qix_lst, qsl_lst, qix_tup, qsl_tup, qisNon_ln, qcooked_ln, and_assoc, exists_and_left, exists_eq_left, exists_eq_left', exists_eq_right, sp_is_row, sp_is_tuple_of, sp_is_within, okv_ty oy]
          have eb : isPass seats.length y = false → badPass seats.length t = some (i : Int) := fun hr => by
            unfold badPass
            rw [hs]
            show (if xs.length ≤ 40 then Option.map Int.ofNat (xs.findIdx? fun x => !isPass seats.length x) else some (-1)) = _
            rw [if_pos c1, findIdx_at ha hxi hr]
            rfl
          cases hp : isPass seats.length y with
          | true =>
            have hall := all_take ha hxi hp
            unfold isPass at hp
            split at hp
            · rename_i y1 y2
              rw [Bool.and_eq_true] at hp
              obtain ⟨p1, p2⟩ := hp
              obtain ⟨k, rfl, _, _⟩ := isWithin_int p1
              have ty1 : y1.ty.isSome = true := okv_ty (okv_seq oy (xs := [y1, .int k]) rfl _ List.mem_cons_self)
              rw [if_pos (by simp [isTup])]
              refine ⟨_, rfl, rfl, ?_⟩
              rw [if_pos p1]
              refine ⟨_, rfl, _, rfl, _, rfl, ty1, ?_⟩
              rw [if_pos p2]
              simpa using hall
            · cases hp
          | false =>
            have o3 := o1 _ (eb hp)
            by_cases ht2 : isTup y 2 = true
            · rw [if_pos ht2]
              have hy : ∃ y1 y2, y = .tup [y1, y2] := by
                cases y with
                | tup zs =>
                  match zs, ht2 with
                  | [y1, y2], _ => exact ⟨y1, y2, rfl⟩
                  | [], h => simp [isTup] at h
                  | [_], h => simp [isTup] at h
                  | _ :: _ :: _ :: r, h => simp [isTup] at h; omega
                | _ => simp [isTup] at ht2
              obtain ⟨y1, y2, rfl⟩ := hy
              have ty1 : y1.ty.isSome = true := okv_ty (okv_seq oy (xs := [y1, y2]) rfl _ List.mem_cons_self)
              have ty2 : y2.ty.isSome = true := okv_ty (okv_seq oy (xs := [y1, y2]) rfl _ (List.mem_cons_of_mem _ List.mem_cons_self))
              refine ⟨_, rfl, ty2, ?_⟩
              by_cases p1 : isWithin y2 1 (seats.length : Int) = true
              · rw [if_pos p1]
                obtain ⟨k, rfl, _, _⟩ := isWithin_int p1
                refine ⟨_, rfl, _, rfl, _, rfl, ty1, ?_⟩
                by_cases p2 : isWithin y1 0 (k - 1) = true
                · simp [isPass, p1, p2] at hp
                · rw [if_neg p2]
                  exact o3
              · rw [if_neg p1]
                exact o3
            · rw [if_neg ht2]
              exact o3
      · obtain ⟨ha, _⟩ := hj
        rw [enumD_length, List.take_length] at ha
        refine o2 ?_
        unfold badPass
        rw [hs]
        show (if xs.length ≤ 40 then Option.map Int.ofNat (xs.findIdx? fun x => !isPass seats.length x) else some (-1)) = _
        rw [if_pos c1, findIdx_none ha]
        rfl
    · have eb : badPass seats.length t = some (-1) := by
        unfold badPass
        rw [hs]
        exact if_neg c1
      have o := o1 _ eb
      rw [if_pos (by omega)]
      exact o
end
end K14
end
-- F_14_meet
section
set_option Elab.async false
set_option linter.all false
set_option maxRecDepth 100000
set_option maxHeartbeats 4000000
set_option autoImplicit false
namespace K14
open PySem PySem.Spec PyProof.Rows L2 Sd
section
variable {P : Program} {w : World} {K : PySem.W.Frag} {mg : Str → Option Value} {base : Heap}
theorem ok_meet (T : Txt K mg) {f : Addr} {fd : FuncData} (F : FnP K "meet" s_meet f fd)   : FnOk P w K mg base (L2.CX P w) 1 f fd ["one", "other"] (spD K sp_meet) := by
  have sc := sc_meet
  refine fnD F sc (fun F ds O h => by
    obtain ⟨_, _, e, _⟩ := h
    rw [e] <;> rfl) (fun cdv A outer s G E ds O hr h hE => ⟨_, (pssd_one (psd_ret (pd_and (pd_lt (pd_item (pd_name (pv 0)) pd_int) (pd_item (pd_name (pv 1)) pd_int)) (pd_one (pd_lt (pd_item (pd_name (pv 1)) pd_int) (pd_item (pd_name (pv 0)) pd_int)))))), ?_⟩)
  obtain ⟨p, q, rfl, h⟩ := h
  simp [startD, wipeD, dsRet, dsRetN, dsIf, dsSeq, dsNext, dsAsg, dsDrop, dsBreak, dsCont, dsPar, dsAug, dsFrz, dsApp, dsExt, dsPut, dsAugO, dsOwn, dsParOO, dsParDO, dsParDDO, dsFrzA, dxRep, diOwn, dsRaise, deAnd, deOr, deNot, de1, de2, deB, deX, dxB, dxLst, deName, deC, deCall, deIxO, deLenO, deTup, deLst, daCons, daNil, daStar, deChain, dtChain, dtV, dtAnd, dtOr, dtNot, dtYes, deIf, deSl, doNone, doSome, rdAdd, rdSub, rdMul, rdMod, rdDiv, rdPow, rdI, rdIc, rdB, rdLt, rdLe, rdGt, rdGe, rdNeg, rdIs, rdEq, rdNe, rdIx, rdIsN, rdNotN, rdIsB, rdNotB, rdRev, rdSeats, rdCatL, rdCatT, rdRepL, rdLen, rdTuple, rdList, rxList, rdInt, rdMax2, rdMin2, dgName, dgTup, dgCons, dgNil, deRefused, rdRepr, rdNeS, rdEqL, rdNeL, rdRepT, rdIsLn, noOwn, diSeq, diEn, diZp, diR1, diR2, noX,  eqOk_int, eqOk_bl, eqOk_non, eqv_int, eqv_bl, eqv_non, atI_0, atI_1, atI_2, atI_3, qty_non, qisI_non, qisB_non, qisL_non, qisU_non, qisS_non, qisD_non, qisNon_non, qcooked_non, qseq_non, qty_bl, qisI_bl, qisB_bl, qisL_bl, qisU_bl, qisS_bl, qisD_bl, qisNon_bl, qcooked_bl, qseq_bl, qty_int, qisI_int, qisB_int, qisL_int, qisU_int, qisS_int, qisD_int, qisNon_int, qcooked_int, qseq_int, qty_str, qisI_str, qisB_str, qisL_str, qisU_str, qisS_str, qisD_str, qisNon_str, qcooked_str, qseq_str, qty_lst, qisI_lst, qisB_lst, qisL_lst, qisU_lst, qisS_lst, qisD_lst, qisNon_lst, qcooked_lst, qseq_lst, qty_tup, qisI_tup, qisB_tup, qisL_tup, qisU_tup, qisS_tup, qisD_tup, qisNon_tup, qcooked_tup, qseq_tup, qty_dct, qisI_dct, qisB_dct, qisL_dct, qisU_dct, qisS_dct, qisD_dct, qisNon_dct, qcooked_dct, qseq_dct, qix_lst, qsl_lst, qix_tup, qsl_tup, qisNon_ln, qcooked_ln, and_assoc, exists_and_left, exists_eq_left, exists_eq_left', exists_eq_right, prD]
  unfold meetB at h
  split
  · simp_all
  · simp_all
end
end K14
end
-- F_14_is_seating
section
set_option Elab.async false
set_option linter.all false
set_option maxRecDepth 100000
set_option maxHeartbeats 4000000
set_option autoImplicit false
namespace K14
open PySem PySem.Spec PyProof.Rows L2 Sd
section
variable {P : Program} {w : World} {K : PySem.W.Frag} {mg : Str → Option Value} {base : Heap}
theorem ok_is_seating (T : Txt K mg) {f : Addr} {fd : FuncData} (F : FnP K "is_seating" s_is_seating f fd) (c_check_passengers : Cl P w K mg base 3 "check_passengers" sp_check_passengers []) (c_is_row : Cl P w K mg base 1 "is_row" sp_is_row []) (c_is_within : Cl P w K mg base 2 "is_within" sp_is_within []) (c_meet : Cl P w K mg base 1 "meet" sp_meet [])  : FnOk P w K mg base (L2.CX P w) 4 f fd ["line", "passengers", "thing"] (spD K sp_is_seating) := by
  have sc := sc_is_seating
  refine fnD F sc (fun F ds O h => by
    obtain ⟨_, _, _, e, _⟩ := h
    rw [e] <;> rfl) (fun cdv A outer s G E ds O hr h hE => ⟨_, (pssd_cons (psd_drop (pd_callX c_check_passengers hr (by first | decide | omega) hE (passes_call (takes_of rfl rfl rfl rfl) (fun _ _ _ _ z => z)) (pad_cons (pd_name (pv 0)) (pad_cons (pd_name (pv 1)) pad_nil))))
  (pssd_cons (psd_if (ptd_w (pwd_or (ptd_not (ptd_val (pd_call c_is_row hr (by first | decide | omega) (pad_cons (pd_name (pv 2)) pad_nil)))) (pwd_or1 (ptd_ne hr.units (pd_callB call_len_seq snd_len T.b_len (pad_cons (pd_name (pv 2)) pad_nil)) (pd_callB call_len_seq snd_len T.b_len (pad_cons (pd_name (pv 1)) pad_nil))))))
  (pssd_one (psd_ret pd_bl))
  pssd_nil)
  (pssd_cons (psd_if (ptd_not (ptd_val (pd_callB (cr_all rfl) snd_all T.b_all (pad_cons (pd_x (pxd_lc (own := [(("seat" : Str), 4)]) sc.nd (pid_seq (pd_name (pv 2))) (by kernel_rfl) (fun _ _ _ _ _ => (pgc_name (i := 4) sc.nd rfl (by first | exact Or.inl rfl | exact Or.inr rfl) (by decide))) (fun _ _ _ _ _ => ptsd_nil) (fun _ _ _ _ _ => (pd_call c_is_within hr (by first | decide | omega) (pad_cons (pd_name (pv 4)) (pad_cons pd_int (pad_cons (pd_gint T.c_MOST_PASSENGERS) pad_nil))))))) pad_nil))))
  (pssd_one (psd_ret pd_bl))
  pssd_nil)
  (pssd_cons (psd_for (passes_of rfl) (pid_en T.b_enumerate (pad_cons (pd_name (pv 2)) pad_nil)) (pgd_tup (n := 2) (pgsd_cons (pgd_name (i := 3) sc.nd rfl (Or.inl rfl)) (pgsd_cons (pgd_name (i := 4) sc.nd rfl (Or.inl rfl)) pgsd_nil)))
  (pssd_one (psd_for (passes_of rfl) (pid_r1 T.b_range (pad_cons (pd_name (pv 3)) pad_nil)) (pgd_name (i := 5) sc.nd rfl (Or.inl rfl))
  (pssd_one (psd_if (ptd_w (pwd_and (ptd_eq hr.units (pd_item (pd_name (pv 2)) (pd_name (pv 5))) (pd_name (pv 4))) (pwd_and1 (ptd_val (pd_call c_meet hr (by first | decide | omega) (pad_cons (pd_item (pd_name (pv 1)) (pd_name (pv 3))) (pad_cons (pd_item (pd_name (pv 1)) (pd_name (pv 5))) pad_nil)))))))
  (pssd_one (psd_ret pd_bl))
  pssd_nil)))))
  (pssd_one (psd_ret pd_bl)))))), ?_⟩)
  obtain ⟨seats, t, th, rfl, h⟩ := h
  obtain ⟨hv, hth, htl, o1, o2⟩ := h
  simp [startD, wipeD, dsRet, dsRetN, dsIf, dsSeq, dsNext, dsAsg, dsDrop, dsBreak, dsCont, dsPar, dsAug, dsFrz, dsApp, dsExt, dsPut, dsAugO, dsOwn, dsParOO, dsParDO, dsParDDO, dsFrzA, dxRep, diOwn, dsRaise, deAnd, deOr, deNot, de1, de2, deB, deX, dxB, dxLst, deName, deC, deCall, deIxO, deLenO, deTup, deLst, daCons, daNil, daStar, deChain, dtChain, dtV, dtAnd, dtOr, dtNot, dtYes, deIf, deSl, doNone, doSome, rdAdd, rdSub, rdMul, rdMod, rdDiv, rdPow, rdI, rdIc, rdB, rdLt, rdLe, rdGt, rdGe, rdNeg, rdIs, rdEq, rdNe, rdIx, rdIsN, rdNotN, rdIsB, rdNotB, rdRev, rdSeats, rdCatL, rdCatT, rdRepL, rdLen, rdTuple, rdList, rxList, rdInt, rdMax2, rdMin2, dgName, dgTup, dgCons, dgNil, deRefused, rdRepr, rdNeS, rdEqL, rdNeL, rdRepT, rdIsLn, noOwn, diSeq, diEn, diZp, diR1, diR2, noX,  eqOk_int, eqOk_bl, eqOk_non, eqv_int, eqv_bl, eqv_non, atI_0, atI_1, atI_2, atI_3, qty_non, qisI_non, qisB_non, qisL_non, qisU_non, qisS_non, qisD_non, qisNon_non, qcooked_non, qseq_non, qty_bl, qisI_bl, qisB_bl, qisL_bl, qisU_bl, qisS_bl, qisD_bl, qisNon_bl, qcooked_bl, qseq_bl, qty_int, qisI_int, qisB_int, qisL_int, qisU_int, qisS_int, qisD_int, qisNon_int, qcooked_int, qseq_int, qty_str, qisI_str, qisB_str, qisL_str, qisU_str, qisS_str, qisD_str, qisNon_str, qcooked_str, qseq_str, qty_lst, qisI_lst, qisB_lst, qisL_lst, qisU_lst, qisS_lst, qisD_lst, qisNon_lst, qcooked_lst, qseq_lst, qty_tup, qisI_tup, qisB_tup, qisL_tup, qisU_tup, qisS_tup, qisD_tup, qisNon_tup, qcooked_tup, qseq_tup, qty_dct, qisI_dct, qisB_dct, qisL_dct, qisU_dct, qisS_dct, qisD_dct, qisNon_dct, qcooked_dct, qseq_dct, qix_lst, qsl_lst, qix_tup, qsl_tup, qisNon_ln, qcooked_ln, and_assoc, exists_and_left, exists_eq_left, exists_eq_left', exists_eq_right, sp_check_passengers, sp_is_row, sp_is_within, sp_meet, hv, okv_ty hth]
  refine ⟨o1, fun k => ?_⟩
  obtain ⟨ps, h1, h2, h3⟩ := o2 k
  cases hs : th.seq with
  | none =>
    have e : (th.isL || th.isU) = false := by rw [← seq_isSome, hs]; rfl
    rw [if_neg (by simpa using e)]
    have eb : isSeatB ps th = false := by unfold isSeatB; rw [hs]
    rw [eb] at h3
    exact h3
  | some ys =>
    have e : (th.isL || th.isU) = true := by rw [← seq_isSome, hs]; rfl
    rw [if_pos (by simpa using e)]
    refine ⟨ys, rfl, _, h1, ?_⟩
    have hys := okv_seq hth hs
    have hl := htl ys hs
    have eb : isSeatB ps th = (decide (ys.length = ps.length) && (ys.all (fun y => isWithin y 0 40) && goodSeats (ys.map toI) ps)) := by unfold isSeatB; rw [hs]
    rw [eb] at h3
    by_cases cl : ys.length = ps.length
    · rw [decide_eq_true cl, Bool.true_and] at h3
      refine .inl ⟨by simp; omega, lc_on ys id (fun y => .bl (isWithin y 0 40)) (fun P p => ?_) (by omega) (fun y hy R hR => ?_) ⟨ys.map fun y => isWithin y 0 40, by simp [List.map_map], ?_⟩⟩
      · simp [startD, wipeD, dsRet, dsRetN, dsIf, dsSeq, dsNext, dsAsg, dsDrop, dsBreak, dsCont, dsPar, dsAug, dsFrz, dsApp, dsExt, dsPut, dsAugO, dsOwn, dsParOO, dsParDO, dsParDDO, dsFrzA, dxRep, diOwn, dsRaise, deAnd, deOr, deNot, de1, de2, deB, deX, dxB, dxLst, deName, deC, deCall, deIxO, deLenO, deTup, deLst, daCons, daNil, daStar, deChain, dtChain, dtV, dtAnd, dtOr, dtNot, dtYes, deIf, deSl, doNone, doSome, rdAdd, rdSub, rdMul, rdMod, rdDiv, rdPow, rdI, rdIc, rdB, rdLt, rdLe, rdGt, rdGe, rdNeg, rdIs, rdEq, rdNe, rdIx, rdIsN, rdNotN, rdIsB, rdNotB, rdRev, rdSeats, rdCatL, rdCatT, rdRepL, rdLen, rdTuple, rdList, rxList, rdInt, rdMax2, rdMin2, dgName, dgTup, dgCons, dgNil, deRefused, rdRepr, rdNeS, rdEqL, rdNeL, rdRepT, rdIsLn, noOwn, diSeq, diEn, diZp, diR1, diR2, noX,  eqOk_int, eqOk_bl, eqOk_non, eqv_int, eqv_bl, eqv_non, atI_0, atI_1, atI_2, atI_3, qty_non, qisI_non, qisB_non, qisL_non, qisU_non, qisS_non, qisD_non, qisNon_non, qcooked_non, qseq_non, qty_bl, qisI_bl, qisB_bl, qisL_bl, qisU_bl, qisS_bl, qisD_bl, qisNon_bl, qcooked_bl, qseq_bl, qty_int, qisI_int, qisB_int, qisL_int, qisU_int, qisS_int, qisD_int, qisNon_int, qcooked_int, qseq_int, qty_str, qisI_str, qisB_str, qisL_str, qisU_str, qisS_str, qisD_str, qisNon_str, qcooked_str, qseq_str, qty_lst, qisI_lst, qisB_lst, qisL_lst, qisU_lst, qisS_lst, qisD_lst, qisNon_lst, qcooked_lst, qseq_lst, qty_tup, qisI_tup, qisB_tup, qisL_tup, qisU_tup, qisS_tup, qisD_tup, qisNon_tup, qcooked_tup, qseq_tup, qty_dct, qisI_dct, qisB_dct, qisL_dct, qisU_dct, qisS_dct, qisD_dct, qisNon_dct, qcooked_dct, qseq_dct, qix_lst, qsl_lst, qix_tup, qsl_tup, qisNon_ln, qcooked_ln, and_assoc, exists_and_left, exists_eq_left, exists_eq_left', exists_eq_right, sp_check_passengers, sp_is_row, sp_is_within, sp_meet, hs]
        simpa using p
      · simp [startD, wipeD, dsRet, dsRetN, dsIf, dsSeq, dsNext, dsAsg, dsDrop, dsBreak, dsCont, dsPar, dsAug, dsFrz, dsApp, dsExt, dsPut, dsAugO, dsOwn, dsParOO, dsParDO, dsParDDO, dsFrzA, dxRep, diOwn, dsRaise, deAnd, deOr, deNot, de1, de2, deB, deX, dxB, dxLst, deName, deC, deCall, deIxO, deLenO, deTup, deLst, daCons, daNil, daStar, deChain, dtChain, dtV, dtAnd, dtOr, dtNot, dtYes, deIf, deSl, doNone, doSome, rdAdd, rdSub, rdMul, rdMod, rdDiv, rdPow, rdI, rdIc, rdB, rdLt, rdLe, rdGt, rdGe, rdNeg, rdIs, rdEq, rdNe, rdIx, rdIsN, rdNotN, rdIsB, rdNotB, rdRev, rdSeats, rdCatL, rdCatT, rdRepL, rdLen, rdTuple, rdList, rxList, rdInt, rdMax2, rdMin2, dgName, dgTup, dgCons, dgNil, deRefused, rdRepr, rdNeS, rdEqL, rdNeL, rdRepT, rdIsLn, noOwn, diSeq, diEn, diZp, diR1, diR2, noX,  eqOk_int, eqOk_bl, eqOk_non, eqv_int, eqv_bl, eqv_non, atI_0, atI_1, atI_2, atI_3, qty_non, qisI_non, qisB_non, qisL_non, qisU_non, qisS_non, qisD_non, qisNon_non, qcooked_non, qseq_non, qty_bl, qisI_bl, qisB_bl, qisL_bl, qisU_bl, qisS_bl, qisD_bl, qisNon_bl, qcooked_bl, qseq_bl, qty_int, qisI_int, qisB_int, qisL_int, qisU_int, qisS_int, qisD_int, qisNon_int, qcooked_int, qseq_int, qty_str, qisI_str, qisB_str, qisL_str, qisU_str, qisS_str, qisD_str, qisNon_str, qcooked_str, qseq_str, qty_lst, qisI_lst, qisB_lst, qisL_lst, qisU_lst, qisS_lst, qisD_lst, qisNon_lst, qcooked_lst, qseq_lst, qty_tup, qisI_tup, qisB_tup, qisL_tup, qisU_tup, qisS_tup, qisD_tup, qisNon_tup, qcooked_tup, qseq_tup, qty_dct, qisI_dct, qisB_dct, qisL_dct, qisU_dct, qisS_dct, qisD_dct, qisNon_dct, qcooked_dct, qseq_dct, qix_lst, qsl_lst, qix_tup, qsl_tup, qisNon_ln, qcooked_ln, and_assoc, exists_and_left, exists_eq_left, exists_eq_left', exists_eq_right, sp_check_passengers, sp_is_row, sp_is_within, sp_meet, okv_ty (hys y hy)]
        exact hR
      cases hb : ys.all (fun y => isWithin y 0 40) with
      | false =>
        rw [hb, Bool.false_and] at h3
        exact .inl ⟨by simpa [List.all_map] using hb, h3⟩
      | true =>
        rw [hb, Bool.true_and] at h3
        refine .inr ⟨by simpa [List.all_map] using hb, ?_⟩
        have ei := ints_of_within hb
        generalize ys.map toI = ss at ei h3
        subst ei
        rw [List.length_map] at cl hl
        refine for_on ss.zipIdx (fun p : Int × Nat => .tup [.int (p.2 : Int), .int p.1]) (fun i δ' => (∀ x, x < i → ∀ y, y < x → clash ss ps x y = false) ∧ ∃ a b c, δ' = [.dat (.ln seats), .dat t, .dat th, a, b, c]) (fun P p => ?_) ⟨fun x h => by omega, _, _, _, rfl⟩ (fun i x δ' hi hj => ?_) (fun δ' hj => ?_)
        · simp [startD, wipeD, dsRet, dsRetN, dsIf, dsSeq, dsNext, dsAsg, dsDrop, dsBreak, dsCont, dsPar, dsAug, dsFrz, dsApp, dsExt, dsPut, dsAugO, dsOwn, dsParOO, dsParDO, dsParDDO, dsFrzA, dxRep, diOwn, dsRaise, deAnd, deOr, deNot, de1, de2, deB, deX, dxB, dxLst, deName, deC, deCall, deIxO, deLenO, deTup, deLst, daCons, daNil, daStar, deChain, dtChain, dtV, dtAnd, dtOr, dtNot, dtYes, deIf, deSl, doNone, doSome, rdAdd, rdSub, rdMul, rdMod, rdDiv, rdPow, rdI, rdIc, rdB, rdLt, rdLe, rdGt, rdGe, rdNeg, rdIs, rdEq, rdNe, rdIx, rdIsN, rdNotN, rdIsB, rdNotB, rdRev, rdSeats, rdCatL, rdCatT, rdRepL, rdLen, rdTuple, rdList, rxList, rdInt, rdMax2, rdMin2, dgName, dgTup, dgCons, dgNil, deRefused, rdRepr, rdNeS, rdEqL, rdNeL, rdRepT, rdIsLn, noOwn, diSeq, diEn, diZp, diR1, diR2, noX,  eqOk_int, eqOk_bl, eqOk_non, eqv_int, eqv_bl, eqv_non, atI_0, atI_1, atI_2, atI_3, qty_non, qisI_non, qisB_non, qisL_non, qisU_non, qisS_non, qisD_non, qisNon_non, qcooked_non, qseq_non, qty_bl, qisI_bl, qisB_bl, qisL_bl, qisU_bl, qisS_bl, qisD_bl, qisNon_bl, qcooked_bl, qseq_bl, qty_int, qisI_int, qisB_int, qisL_int, qisU_int, qisS_int, qisD_int, qisNon_int, qcooked_int, qseq_int, qty_str, qisI_str, qisB_str, qisL_str, qisU_str, qisS_str, qisD_str, qisNon_str, qcooked_str, qseq_str, qty_lst, qisI_lst, qisB_lst, qisL_lst, qisU_lst, qisS_lst, qisD_lst, qisNon_lst, qcooked_lst, qseq_lst, qty_tup, qisI_tup, qisB_tup, qisL_tup, qisU_tup, qisS_tup, qisD_tup, qisNon_tup, qcooked_tup, qseq_tup, qty_dct, qisI_dct, qisB_dct, qisL_dct, qisU_dct, qisS_dct, qisD_dct, qisNon_dct, qcooked_dct, qseq_dct, qix_lst, qsl_lst, qix_tup, qsl_tup, qisNon_ln, qcooked_ln, and_assoc, exists_and_left, exists_eq_left, exists_eq_left', exists_eq_right, sp_check_passengers, sp_is_row, sp_is_within, sp_meet, hs]
          rw [enumD_map0]
          exact p
        · obtain ⟨ha, a, b, c, rfl⟩ := hj
          rw [List.getElem?_zipIdx] at hi
          cases hxi : ss[i]? with
          | none => rw [hxi] at hi; cases hi
          | some v =>
            rw [hxi] at hi
            cases hi
            have hil := (List.getElem?_eq_some_iff.mp hxi).1
            simp [startD, wipeD, dsRet, dsRetN, dsIf, dsSeq, dsNext, dsAsg, dsDrop, dsBreak, dsCont, dsPar, dsAug, dsFrz, dsApp, dsExt, dsPut, dsAugO, dsOwn, dsParOO, dsParDO, dsParDDO, dsFrzA, dxRep, diOwn, dsRaise, deAnd, deOr, deNot, de1, de2, deB, deX, dxB, dxLst, deName, deC, deCall, deIxO, deLenO, deTup, deLst, daCons, daNil, daStar, deChain, dtChain, dtV, dtAnd, dtOr, dtNot, dtYes, deIf, deSl, doNone, doSome, rdAdd, rdSub, rdMul, rdMod, rdDiv, rdPow, rdI, rdIc, rdB, rdLt, rdLe, rdGt, rdGe, rdNeg, rdIs, rdEq, rdNe, rdIx, rdIsN, rdNotN, rdIsB, rdNotB, rdRev, rdSeats, rdCatL, rdCatT, rdRepL, rdLen, rdTuple, rdList, rxList, rdInt, rdMax2, rdMin2, dgName, dgTup, dgCons, dgNil, deRefused, rdRepr, rdNeS, rdEqL, rdNeL, rdRepT, rdIsLn, noOwn, diSeq, diEn, diZp, diR1, diR2, noX,  eqOk_int, eqOk_bl, eqOk_non, eqv_int, eqv_bl, eqv_non, atI_0, atI_1, atI_2, atI_3, qty_non, qisI_non, qisB_non, qisL_non, qisU_non, qisS_non, qisD_non, qisNon_non, qcooked_non, qseq_non, qty_bl, qisI_bl, qisB_bl, qisL_bl, qisU_bl, qisS_bl, qisD_bl, qisNon_bl, qcooked_bl, qseq_bl, qty_int, qisI_int, qisB_int, qisL_int, qisU_int, qisS_int, qisD_int, qisNon_int, qcooked_int, qseq_int, qty_str, qisI_str, qisB_str, qisL_str, qisU_str, qisS_str, qisD_str, qisNon_str, qcooked_str, qseq_str, qty_lst, qisI_lst, qisB_lst, qisL_lst, qisU_lst, qisS_lst, qisD_lst, qisNon_lst, qcooked_lst, qseq_lst, qty_tup, qisI_tup, qisB_tup, qisL_tup, qisU_tup, qisS_tup, qisD_tup, qisNon_tup, qcooked_tup, qseq_tup, qty_dct, qisI_dct, qisB_dct, qisL_dct, qisU_dct, qisS_dct, qisD_dct, qisNon_dct, qcooked_dct, qseq_dct, qix_lst, qsl_lst, qix_tup, qsl_tup, qisNon_ln, qcooked_ln, and_assoc, exists_and_left, exists_eq_left, exists_eq_left', exists_eq_right, sp_check_passengers, sp_is_row, sp_is_within, sp_meet]
            refine for_on (List.range i) (fun k : Nat => .int (k : Int)) (fun k δ' => (∀ y, y < k → clash ss ps i y = false) ∧ ∃ c, δ' = [.dat (.ln seats), .dat t, .dat th, .dat (.int (i : Int)), .dat (.int v), c]) (fun P p => ?_) ⟨fun y h => by omega, _, rfl⟩ (fun k x δ' hk hj => ?_) (fun δ' hj => ?_)
            · simp [startD, wipeD, dsRet, dsRetN, dsIf, dsSeq, dsNext, dsAsg, dsDrop, dsBreak, dsCont, dsPar, dsAug, dsFrz, dsApp, dsExt, dsPut, dsAugO, dsOwn, dsParOO, dsParDO, dsParDDO, dsFrzA, dxRep, diOwn, dsRaise, deAnd, deOr, deNot, de1, de2, deB, deX, dxB, dxLst, deName, deC, deCall, deIxO, deLenO, deTup, deLst, daCons, daNil, daStar, deChain, dtChain, dtV, dtAnd, dtOr, dtNot, dtYes, deIf, deSl, doNone, doSome, rdAdd, rdSub, rdMul, rdMod, rdDiv, rdPow, rdI, rdIc, rdB, rdLt, rdLe, rdGt, rdGe, rdNeg, rdIs, rdEq, rdNe, rdIx, rdIsN, rdNotN, rdIsB, rdNotB, rdRev, rdSeats, rdCatL, rdCatT, rdRepL, rdLen, rdTuple, rdList, rxList, rdInt, rdMax2, rdMin2, dgName, dgTup, dgCons, dgNil, deRefused, rdRepr, rdNeS, rdEqL, rdNeL, rdRepT, rdIsLn, noOwn, diSeq, diEn, diZp, diR1, diR2, noX,  eqOk_int, eqOk_bl, eqOk_non, eqv_int, eqv_bl, eqv_non, atI_0, atI_1, atI_2, atI_3, qty_non, qisI_non, qisB_non, qisL_non, qisU_non, qisS_non, qisD_non, qisNon_non, qcooked_non, qseq_non, qty_bl, qisI_bl, qisB_bl, qisL_bl, qisU_bl, qisS_bl, qisD_bl, qisNon_bl, qcooked_bl, qseq_bl, qty_int, qisI_int, qisB_int, qisL_int, qisU_int, qisS_int, qisD_int, qisNon_int, qcooked_int, qseq_int, qty_str, qisI_str, qisB_str, qisL_str, qisU_str, qisS_str, qisD_str, qisNon_str, qcooked_str, qseq_str, qty_lst, qisI_lst, qisB_lst, qisL_lst, qisU_lst, qisS_lst, qisD_lst, qisNon_lst, qcooked_lst, qseq_lst, qty_tup, qisI_tup, qisB_tup, qisL_tup, qisU_tup, qisS_tup, qisD_tup, qisNon_tup, qcooked_tup, qseq_tup, qty_dct, qisI_dct, qisB_dct, qisL_dct, qisU_dct, qisS_dct, qisD_dct, qisNon_dct, qcooked_dct, qseq_dct, qix_lst, qsl_lst, qix_tup, qsl_tup, qisNon_ln, qcooked_ln, and_assoc, exists_and_left, exists_eq_left, exists_eq_left', exists_eq_right, sp_check_passengers, sp_is_row, sp_is_within, sp_meet]
              rw [rngD_0]
              exact ⟨by omega, by simpa using p⟩
            · obtain ⟨hc, c, rfl⟩ := hj
              obtain ⟨hk1, rfl⟩ := range_at hk
              have g1 := List.getElem?_eq_getElem (show x < ss.length by omega)
              have g2 := List.getElem?_eq_getElem (show i < ps.length by omega)
              have g3 := List.getElem?_eq_getElem (show x < ps.length by omega)
              have ec : clash ss ps i x = ((ss[x] == v) && meetB ps[i] ps[x]) := by unfold clash; rw [g1, g2, g3, hxi]; rfl
              have hno : clash ss ps i x = true → goodSeats ss ps = false := goodSeats_no hil hk1
              have step : clash ss ps i x = false → ∀ y, y < x + 1 → clash ss ps i y = false := fun z y hy => by
                by_cases ey : y = x
                · subst ey
                  exact z
                · exact hc y (by omega)
              simp [startD, wipeD, dsRet, dsRetN, dsIf, dsSeq, dsNext, dsAsg, dsDrop, dsBreak, dsCont, dsPar, dsAug, dsFrz, dsApp, dsExt, dsPut, dsAugO, dsOwn, dsParOO, dsParDO, dsParDDO, dsFrzA, dxRep, diOwn, dsRaise, deAnd, deOr, deNot, de1, de2, deB, deX, dxB, dxLst, deName, deC, deCall, deIxO, deLenO, deTup, deLst, daCons, daNil, daStar, deChain, dtChain, dtV, dtAnd, dtOr, dtNot, dtYes, deIf, deSl, doNone, doSome, rdAdd, rdSub, rdMul, rdMod, rdDiv, rdPow, rdI, rdIc, rdB, rdLt, rdLe, rdGt, rdGe, rdNeg, rdIs, rdEq, rdNe, rdIx, rdIsN, rdNotN, rdIsB, rdNotB, rdRev, rdSeats, rdCatL, rdCatT, rdRepL, rdLen, rdTuple, rdList, rxList, rdInt, rdMax2, rdMin2, dgName, dgTup, dgCons, dgNil, deRefused, rdRepr, rdNeS, rdEqL, rdNeL, rdRepT, rdIsLn, noOwn, diSeq, diEn, diZp, diR1, diR2, noX,  eqOk_int, eqOk_bl, eqOk_non, eqv_int, eqv_bl, eqv_non, atI_0, atI_1, atI_2, atI_3, qty_non, qisI_non, qisB_non, qisL_non, qisU_non, qisS_non, qisD_non, qisNon_non, qcooked_non, qseq_non, qty_bl, qisI_bl, qisB_bl, qisL_bl, qisU_bl, qisS_bl, qisD_bl, qisNon_bl, qcooked_bl, qseq_bl, qty_int, qisI_int, qisB_int, qisL_int, qisU_int, qisS_int, qisD_int, qisNon_int, qcooked_int, qseq_int, qty_str, qisI_str, qisB_str, qisL_str, qisU_str, qisS_str, qisD_str, qisNon_str, qcooked_str, qseq_str, qty_lst, qisI_lst, qisB_lst, qisL_lst, qisU_lst, qisS_lst, qisD_lst, qisNon_lst, qcooked_lst, qseq_lst, qty_tup, qisI_tup, qisB_tup, qisL_tup, qisU_tup, qisS_tup, qisD_tup, qisNon_tup, qcooked_tup, qseq_tup, qty_dct, qisI_dct, qisB_dct, qisL_dct, qisU_dct, qisS_dct, qisD_dct, qisNon_dct, qcooked_dct, qseq_dct, qix_lst, qsl_lst, qix_tup, qsl_tup, qisNon_ln, qcooked_ln, and_assoc, exists_and_left, exists_eq_left, exists_eq_left', exists_eq_right, sp_check_passengers, sp_is_row, sp_is_within, sp_meet, ix_of hs, ix_of h1, atI_nat', g1, g2, g3]
              by_cases e1 : ss[x] = v
              · rw [if_pos e1]
                refine ⟨_, _, rfl, _, _, rfl, ?_⟩
                cases hm : meetB ps[i] ps[x] with
                | true =>
                  rw [hm] at ec
                  have hg := hno (by rw [ec, e1]; simp)
                  rw [hg] at h3
                  rw [if_pos rfl]
                  exact h3
                | false =>
                  rw [hm, Bool.and_false] at ec
                  rw [if_neg (fun z => nomatch z)]
                  exact step ec
              · rw [if_neg e1]
                rw [show (ss[x] == v) = false from by simpa using e1, Bool.false_and] at ec
                exact step ec
            · obtain ⟨hc, c, rfl⟩ := hj
              rw [List.length_range] at hc
              refine ⟨fun x hx y hy => ?_, _, _, _, rfl⟩
              by_cases ex : x = i
              · subst ex
                exact hc y hy
              · exact ha x (by omega) y hy
        · obtain ⟨ha, a, b, c, rfl⟩ := hj
          rw [List.length_zipIdx] at ha
          simp [startD, wipeD, dsRet, dsRetN, dsIf, dsSeq, dsNext, dsAsg, dsDrop, dsBreak, dsCont, dsPar, dsAug, dsFrz, dsApp, dsExt, dsPut, dsAugO, dsOwn, dsParOO, dsParDO, dsParDDO, dsFrzA, dxRep, diOwn, dsRaise, deAnd, deOr, deNot, de1, de2, deB, deX, dxB, dxLst, deName, deC, deCall, deIxO, deLenO, deTup, deLst, daCons, daNil, daStar, deChain, dtChain, dtV, dtAnd, dtOr, dtNot, dtYes, deIf, deSl, doNone, doSome, rdAdd, rdSub, rdMul, rdMod, rdDiv, rdPow, rdI, rdIc, rdB, rdLt, rdLe, rdGt, rdGe, rdNeg, rdIs, rdEq, rdNe, rdIx, rdIsN, rdNotN, rdIsB, rdNotB, rdRev, rdSeats, rdCatL, rdCatT, rdRepL, rdLen, rdTuple, rdList, rxList, rdInt, rdMax2, rdMin2, dgName, dgTup, dgCons, dgNil, deRefused, rdRepr, rdNeS, rdEqL, rdNeL, rdRepT, rdIsLn, noOwn, diSeq, diEn, diZp, diR1, diR2, noX,  eqOk_int, eqOk_bl, eqOk_non, eqv_int, eqv_bl, eqv_non, atI_0, atI_1, atI_2, atI_3, qty_non, qisI_non, qisB_non, qisL_non, qisU_non, qisS_non, qisD_non, qisNon_non, qcooked_non, qseq_non, qty_bl, qisI_bl, qisB_bl, qisL_bl, qisU_bl, qisS_bl, qisD_bl, qisNon_bl, qcooked_bl, qseq_bl, qty_int, qisI_int, qisB_int, qisL_int, qisU_int, qisS_int, qisD_int, qisNon_int, qcooked_int, qseq_int, qty_str, qisI_str, qisB_str, qisL_str, qisU_str, qisS_str, qisD_str, qisNon_str, qcooked_str, qseq_str, qty_lst, qisI_lst, qisB_lst, qisL_lst, qisU_lst, qisS_lst, qisD_lst, qisNon_lst, qcooked_lst, qseq_lst, qty_tup, qisI_tup, qisB_tup, qisL_tup, qisU_tup, qisS_tup, qisD_tup, qisNon_tup, qcooked_tup, qseq_tup, qty_dct, qisI_dct, qisB_dct, qisL_dct, qisU_dct, qisS_dct, qisD_dct, qisNon_dct, qcooked_dct, qseq_dct, qix_lst, qsl_lst, qix_tup, qsl_tup, qisNon_ln, qcooked_ln, and_assoc, exists_and_left, exists_eq_left, exists_eq_left', exists_eq_right, sp_check_passengers, sp_is_row, sp_is_within, sp_meet]
          have eg : goodSeats ss ps = true := List.all_eq_true.mpr fun x hx => List.all_eq_true.mpr fun y hy => by rw [ha x (List.mem_range.mp hx) y (List.mem_range.mp hy)]; rfl
          rw [eg] at h3
          exact h3
    · rw [decide_eq_false cl, Bool.false_and] at h3
      exact .inr ⟨by simp; omega, h3⟩
end
end K14
end
-- F_14_told_seating
section
set_option Elab.async false
set_option linter.all false
set_option maxRecDepth 100000
set_option maxHeartbeats 4000000
set_option autoImplicit false
namespace K14
open PySem PySem.Spec PyProof.Rows L2 Sd
section
variable {P : Program} {w : World} {K : PySem.W.Frag} {mg : Str → Option Value} {base : Heap}
theorem ok_told_seating (T : Txt K mg) {f : Addr} {fd : FuncData} (F : FnP K "told_seating" s_told_seating f fd)   : FnOk P w K mg base (L2.CX P w) 1 f fd ["passengers"] (spD K sp_told_seating) := by
  have sc := sc_told_seating
  refine fnD F sc (fun F ds O h => by
    obtain ⟨_, _, e, _⟩ := h
    rw [e] <;> rfl) (fun cdv A outer s G E ds O hr h hE => ⟨_, (pssd_cons (psd_ownLc (i := 1) sc.nd rfl rfl (sw_true rfl rfl rfl (by kernel_rfl)) (own := [(("_" : Str), 6)]) (pid_seq (pd_name (pv 0))) (by kernel_rfl) (fun _ _ _ _ _ => (pgc_name (i := 6) sc.nd rfl (by first | exact Or.inl rfl | exact Or.inr rfl) (by decide))) (fun _ _ _ _ _ => ptsd_nil) (fun _ _ _ _ _ => pd_int))
  (pssd_cons (psd_own (i := 2) sc.nd rfl (Or.inl rfl) (pxd_lst pad_nil))
  (pssd_cons (psd_for (passes_of rfl) (pid_seq (pd_callB cr_sortedPT snd_sortedP T.b_sorted (pad_cons (pd_x (pxd_lc (own := [(("number" : Str), 4), (("one" : Str), 7)]) sc.nd (pid_en T.b_enumerate (pad_cons (pd_name (pv 0)) pad_nil)) (by kernel_rfl) (fun _ _ _ _ _ => (pgc_tup (n := 2) (pgcs_cons (pgc_name (i := 4) sc.nd rfl (by first | exact Or.inl rfl | exact Or.inr rfl) (by decide)) (pgcs_cons (pgc_name (i := 7) sc.nd rfl (by first | exact Or.inl rfl | exact Or.inr rfl) (by decide)) pgcs_nil)))) (fun _ _ _ _ _ => ptsd_nil) (fun _ _ _ _ _ => (pd_tup (pad_cons (pd_item (pd_name (pv 7)) pd_int) (pad_cons (pd_name (pv 4)) pad_nil)))))) pad_nil))) (pgd_tup (n := 2) (pgsd_cons (pgd_name (i := 3) sc.nd rfl (Or.inl rfl)) (pgsd_cons (pgd_name (i := 4) sc.nd rfl (Or.inl rfl)) pgsd_nil)))
  (pssd_cons (psd_set (i := 5) sc.nd rfl (Or.inl rfl) pd_int)
  (pssd_cons (psd_while (passes_of rfl) (ptd_w (pwd_and (ptd_lt (pd_name (pv 5)) (pd_lenO (i := 2) (pv 2) T.b_len)) (pwd_and1 (ptd_gt (pd_ixO (i := 2) (pv 2) (pd_name (pv 5))) (pd_name (pv 3))))))
  (pssd_one (psd_aug (i := 5) sc.nd rfl (Or.inl rfl) ip_add pd_int)))
  (pssd_cons (psd_if (ptd_eq hr.units (pd_name (pv 5)) (pd_lenO (i := 2) (pv 2) T.b_len))
  (pssd_one (psd_app (i := 2) (pv 2) pd_int))
  pssd_nil)
  (pssd_cons (psd_put (i := 2) (pv 2) (pd_name (pv 5)) (pd_item (pd_item (pd_name (pv 0)) (pd_name (pv 4))) pd_int))
  (pssd_one (psd_put (i := 1) (pv 1) (pd_name (pv 4)) (pd_name (pv 5)))))))))
  (pssd_one (psd_frz 1 (psd_ret (pd_name (pv 1)))))))), ?_⟩)
  obtain ⟨t, ps, rfl, h⟩ := h
  obtain ⟨hs, hl, o⟩ := h
  simp [startD, wipeD, dsRet, dsRetN, dsIf, dsSeq, dsNext, dsAsg, dsDrop, dsBreak, dsCont, dsPar, dsAug, dsFrz, dsApp, dsExt, dsPut, dsAugO, dsOwn, dsParOO, dsParDO, dsParDDO, dsFrzA, dxRep, diOwn, dsRaise, deAnd, deOr, deNot, de1, de2, deB, deX, dxB, dxLst, deName, deC, deCall, deIxO, deLenO, deTup, deLst, daCons, daNil, daStar, deChain, dtChain, dtV, dtAnd, dtOr, dtNot, dtYes, deIf, deSl, doNone, doSome, rdAdd, rdSub, rdMul, rdMod, rdDiv, rdPow, rdI, rdIc, rdB, rdLt, rdLe, rdGt, rdGe, rdNeg, rdIs, rdEq, rdNe, rdIx, rdIsN, rdNotN, rdIsB, rdNotB, rdRev, rdSeats, rdCatL, rdCatT, rdRepL, rdLen, rdTuple, rdList, rxList, rdInt, rdMax2, rdMin2, dgName, dgTup, dgCons, dgNil, deRefused, rdRepr, rdNeS, rdEqL, rdNeL, rdRepT, rdIsLn, noOwn, diSeq, diEn, diZp, diR1, diR2, noX,  eqOk_int, eqOk_bl, eqOk_non, eqv_int, eqv_bl, eqv_non, atI_0, atI_1, atI_2, atI_3, qty_non, qisI_non, qisB_non, qisL_non, qisU_non, qisS_non, qisD_non, qisNon_non, qcooked_non, qseq_non, qty_bl, qisI_bl, qisB_bl, qisL_bl, qisU_bl, qisS_bl, qisD_bl, qisNon_bl, qcooked_bl, qseq_bl, qty_int, qisI_int, qisB_int, qisL_int, qisU_int, qisS_int, qisD_int, qisNon_int, qcooked_int, qseq_int, qty_str, qisI_str, qisB_str, qisL_str, qisU_str, qisS_str, qisD_str, qisNon_str, qcooked_str, qseq_str, qty_lst, qisI_lst, qisB_lst, qisL_lst, qisU_lst, qisS_lst, qisD_lst, qisNon_lst, qcooked_lst, qseq_lst, qty_tup, qisI_tup, qisB_tup, qisL_tup, qisU_tup, qisS_tup, qisD_tup, qisNon_tup, qcooked_tup, qseq_tup, qty_dct, qisI_dct, qisB_dct, qisL_dct, qisU_dct, qisS_dct, qisD_dct, qisNon_dct, qcooked_dct, qseq_dct, qix_lst, qsl_lst, qix_tup, qsl_tup, qisNon_ln, qcooked_ln, and_assoc, exists_and_left, exists_eq_left, exists_eq_left', exists_eq_right, dxLc_eq, dsFor_eq, rngD_0, rngD_eq, zipD_map, enumD_map0, hs]
  refine lb_on ps (fun _ => .int 0) (by omega) (fun x hx R hR => ?_) ?_
  · simp [startD, wipeD, dsRet, dsRetN, dsIf, dsSeq, dsNext, dsAsg, dsDrop, dsBreak, dsCont, dsPar, dsAug, dsFrz, dsApp, dsExt, dsPut, dsAugO, dsOwn, dsParOO, dsParDO, dsParDDO, dsFrzA, dxRep, diOwn, dsRaise, deAnd, deOr, deNot, de1, de2, deB, deX, dxB, dxLst, deName, deC, deCall, deIxO, deLenO, deTup, deLst, daCons, daNil, daStar, deChain, dtChain, dtV, dtAnd, dtOr, dtNot, dtYes, deIf, deSl, doNone, doSome, rdAdd, rdSub, rdMul, rdMod, rdDiv, rdPow, rdI, rdIc, rdB, rdLt, rdLe, rdGt, rdGe, rdNeg, rdIs, rdEq, rdNe, rdIx, rdIsN, rdNotN, rdIsB, rdNotB, rdRev, rdSeats, rdCatL, rdCatT, rdRepL, rdLen, rdTuple, rdList, rxList, rdInt, rdMax2, rdMin2, dgName, dgTup, dgCons, dgNil, deRefused, rdRepr, rdNeS, rdEqL, rdNeL, rdRepT, rdIsLn, noOwn, diSeq, diEn, diZp, diR1, diR2, noX,  eqOk_int, eqOk_bl, eqOk_non, eqv_int, eqv_bl, eqv_non, atI_0, atI_1, atI_2, atI_3, qty_non, qisI_non, qisB_non, qisL_non, qisU_non, qisS_non, qisD_non, qisNon_non, qcooked_non, qseq_non, qty_bl, qisI_bl, qisB_bl, qisL_bl, qisU_bl, qisS_bl, qisD_bl, qisNon_bl, qcooked_bl, qseq_bl, qty_int, qisI_int, qisB_int, qisL_int, qisU_int, qisS_int, qisD_int, qisNon_int, qcooked_int, qseq_int, qty_str, qisI_str, qisB_str, qisL_str, qisU_str, qisS_str, qisD_str, qisNon_str, qcooked_str, qseq_str, qty_lst, qisI_lst, qisB_lst, qisL_lst, qisU_lst, qisS_lst, qisD_lst, qisNon_lst, qcooked_lst, qseq_lst, qty_tup, qisI_tup, qisB_tup, qisL_tup, qisU_tup, qisS_tup, qisD_tup, qisNon_tup, qcooked_tup, qseq_tup, qty_dct, qisI_dct, qisB_dct, qisL_dct, qisU_dct, qisS_dct, qisD_dct, qisNon_dct, qcooked_dct, qseq_dct, qix_lst, qsl_lst, qix_tup, qsl_tup, qisNon_ln, qcooked_ln, and_assoc, exists_and_left, exists_eq_left, exists_eq_left', exists_eq_right]
    exact hR
  refine lb_on ps.zipIdx (fun x => prD (x.1.1, (x.2 : Int))) (by simp; omega) (fun x hx R hR => ?_) ?_
  · simp [startD, wipeD, dsRet, dsRetN, dsIf, dsSeq, dsNext, dsAsg, dsDrop, dsBreak, dsCont, dsPar, dsAug, dsFrz, dsApp, dsExt, dsPut, dsAugO, dsOwn, dsParOO, dsParDO, dsParDDO, dsFrzA, dxRep, diOwn, dsRaise, deAnd, deOr, deNot, de1, de2, deB, deX, dxB, dxLst, deName, deC, deCall, deIxO, deLenO, deTup, deLst, daCons, daNil, daStar, deChain, dtChain, dtV, dtAnd, dtOr, dtNot, dtYes, deIf, deSl, doNone, doSome, rdAdd, rdSub, rdMul, rdMod, rdDiv, rdPow, rdI, rdIc, rdB, rdLt, rdLe, rdGt, rdGe, rdNeg, rdIs, rdEq, rdNe, rdIx, rdIsN, rdNotN, rdIsB, rdNotB, rdRev, rdSeats, rdCatL, rdCatT, rdRepL, rdLen, rdTuple, rdList, rxList, rdInt, rdMax2, rdMin2, dgName, dgTup, dgCons, dgNil, deRefused, rdRepr, rdNeS, rdEqL, rdNeL, rdRepT, rdIsLn, noOwn, diSeq, diEn, diZp, diR1, diR2, noX,  eqOk_int, eqOk_bl, eqOk_non, eqv_int, eqv_bl, eqv_non, atI_0, atI_1, atI_2, atI_3, qty_non, qisI_non, qisB_non, qisL_non, qisU_non, qisS_non, qisD_non, qisNon_non, qcooked_non, qseq_non, qty_bl, qisI_bl, qisB_bl, qisL_bl, qisU_bl, qisS_bl, qisD_bl, qisNon_bl, qcooked_bl, qseq_bl, qty_int, qisI_int, qisB_int, qisL_int, qisU_int, qisS_int, qisD_int, qisNon_int, qcooked_int, qseq_int, qty_str, qisI_str, qisB_str, qisL_str, qisU_str, qisS_str, qisD_str, qisNon_str, qcooked_str, qseq_str, qty_lst, qisI_lst, qisB_lst, qisL_lst, qisU_lst, qisS_lst, qisD_lst, qisNon_lst, qcooked_lst, qseq_lst, qty_tup, qisI_tup, qisB_tup, qisL_tup, qisU_tup, qisS_tup, qisD_tup, qisNon_tup, qcooked_tup, qseq_tup, qty_dct, qisI_dct, qisB_dct, qisL_dct, qisU_dct, qisS_dct, qisD_dct, qisNon_dct, qcooked_dct, qseq_dct, qix_lst, qsl_lst, qix_tup, qsl_tup, qisNon_ln, qcooked_ln, and_assoc, exists_and_left, exists_eq_left, exists_eq_left', exists_eq_right, prD]
    exact hR
  refine ⟨starts ps, by rw [zip_starts], fun qs hq hsd => ?_⟩
  have eq := order_of hq hsd
  subst eq
  refine ⟨_, rfl, ?_⟩
  refine fb_on (order ps) (fun i δ' => ∃ a b c d e, δ' = [.dat t, .own ((seatRun ps ((order ps).take i)).1.map .int), .own ((seatRun ps ((order ps).take i)).2.map .int), a, b, c, d, e]) ⟨.un, .un, .un, .un, .un, by rw [List.map_const']; simp only [seatRun, List.take_zero, List.foldl_nil, List.map_replicate, List.map_nil]⟩ (fun i q δ' hi hj => ?_) (fun δ' hj => ?_)
  · obtain ⟨a, b, c, d, e, rfl⟩ := hj
    obtain ⟨k, hk, rfl⟩ := order_mem (List.mem_of_getElem? hi)
    have esn := seatRun_snoc ps ((order ps).take i) (psS ps k, (k : Int))
    rw [← take_snoc hi] at esn
    have hln := seatRun_len ps ((order ps).take i)
    have hil := (List.getElem?_eq_some_iff.mp hi).1
    rw [order_len] at hil
    rw [List.length_take] at hln
    rw [esn]
    generalize seatRun ps ((order ps).take i) = st at hln
    obtain ⟨fo, us⟩ := st
    simp only at hln
    simp [startD, wipeD, dsRet, dsRetN, dsIf, dsSeq, dsNext, dsAsg, dsDrop, dsBreak, dsCont, dsPar, dsAug, dsFrz, dsApp, dsExt, dsPut, dsAugO, dsOwn, dsParOO, dsParDO, dsParDDO, dsFrzA, dxRep, diOwn, dsRaise, deAnd, deOr, deNot, de1, de2, deB, deX, dxB, dxLst, deName, deC, deCall, deIxO, deLenO, deTup, deLst, daCons, daNil, daStar, deChain, dtChain, dtV, dtAnd, dtOr, dtNot, dtYes, deIf, deSl, doNone, doSome, rdAdd, rdSub, rdMul, rdMod, rdDiv, rdPow, rdI, rdIc, rdB, rdLt, rdLe, rdGt, rdGe, rdNeg, rdIs, rdEq, rdNe, rdIx, rdIsN, rdNotN, rdIsB, rdNotB, rdRev, rdSeats, rdCatL, rdCatT, rdRepL, rdLen, rdTuple, rdList, rxList, rdInt, rdMax2, rdMin2, dgName, dgTup, dgCons, dgNil, deRefused, rdRepr, rdNeS, rdEqL, rdNeL, rdRepT, rdIsLn, noOwn, diSeq, diEn, diZp, diR1, diR2, noX,  eqOk_int, eqOk_bl, eqOk_non, eqv_int, eqv_bl, eqv_non, atI_0, atI_1, atI_2, atI_3, qty_non, qisI_non, qisB_non, qisL_non, qisU_non, qisS_non, qisD_non, qisNon_non, qcooked_non, qseq_non, qty_bl, qisI_bl, qisB_bl, qisL_bl, qisU_bl, qisS_bl, qisD_bl, qisNon_bl, qcooked_bl, qseq_bl, qty_int, qisI_int, qisB_int, qisL_int, qisU_int, qisS_int, qisD_int, qisNon_int, qcooked_int, qseq_int, qty_str, qisI_str, qisB_str, qisL_str, qisU_str, qisS_str, qisD_str, qisNon_str, qcooked_str, qseq_str, qty_lst, qisI_lst, qisB_lst, qisL_lst, qisU_lst, qisS_lst, qisD_lst, qisNon_lst, qcooked_lst, qseq_lst, qty_tup, qisI_tup, qisB_tup, qisL_tup, qisU_tup, qisS_tup, qisD_tup, qisNon_tup, qcooked_tup, qseq_tup, qty_dct, qisI_dct, qisB_dct, qisL_dct, qisU_dct, qisS_dct, qisD_dct, qisNon_dct, qcooked_dct, qseq_dct, qix_lst, qsl_lst, qix_tup, qsl_tup, qisNon_ln, qcooked_ln, and_assoc, exists_and_left, exists_eq_left, exists_eq_left', exists_eq_right, dxLc_eq, dsFor_eq, rngD_0, rngD_eq, zipD_map, enumD_map0, prD]
    have hle := seatOf_le us (psS ps k)
    refine while_of (fun m δ' => ∃ s : Nat, δ' = [.dat t, .own (fo.map .int), .own (us.map .int), .dat (.int (psS ps k)), .dat (.int (k : Int)), .dat (.int (s : Int)), d, e] ∧ m = us.length - s ∧ s ≤ seatOf us (psS ps k)) us.length ⟨0, rfl, by omega, by omega⟩ (fun m δ' hj => ?_)
    obtain ⟨s, rfl, hm, hsl⟩ := hj
    simp [startD, wipeD, dsRet, dsRetN, dsIf, dsSeq, dsNext, dsAsg, dsDrop, dsBreak, dsCont, dsPar, dsAug, dsFrz, dsApp, dsExt, dsPut, dsAugO, dsOwn, dsParOO, dsParDO, dsParDDO, dsFrzA, dxRep, diOwn, dsRaise, deAnd, deOr, deNot, de1, de2, deB, deX, dxB, dxLst, deName, deC, deCall, deIxO, deLenO, deTup, deLst, daCons, daNil, daStar, deChain, dtChain, dtV, dtAnd, dtOr, dtNot, dtYes, deIf, deSl, doNone, doSome, rdAdd, rdSub, rdMul, rdMod, rdDiv, rdPow, rdI, rdIc, rdB, rdLt, rdLe, rdGt, rdGe, rdNeg, rdIs, rdEq, rdNe, rdIx, rdIsN, rdNotN, rdIsB, rdNotB, rdRev, rdSeats, rdCatL, rdCatT, rdRepL, rdLen, rdTuple, rdList, rxList, rdInt, rdMax2, rdMin2, dgName, dgTup, dgCons, dgNil, deRefused, rdRepr, rdNeS, rdEqL, rdNeL, rdRepT, rdIsLn, noOwn, diSeq, diEn, diZp, diR1, diR2, noX,  eqOk_int, eqOk_bl, eqOk_non, eqv_int, eqv_bl, eqv_non, atI_0, atI_1, atI_2, atI_3, qty_non, qisI_non, qisB_non, qisL_non, qisU_non, qisS_non, qisD_non, qisNon_non, qcooked_non, qseq_non, qty_bl, qisI_bl, qisB_bl, qisL_bl, qisU_bl, qisS_bl, qisD_bl, qisNon_bl, qcooked_bl, qseq_bl, qty_int, qisI_int, qisB_int, qisL_int, qisU_int, qisS_int, qisD_int, qisNon_int, qcooked_int, qseq_int, qty_str, qisI_str, qisB_str, qisL_str, qisU_str, qisS_str, qisD_str, qisNon_str, qcooked_str, qseq_str, qty_lst, qisI_lst, qisB_lst, qisL_lst, qisU_lst, qisS_lst, qisD_lst, qisNon_lst, qcooked_lst, qseq_lst, qty_tup, qisI_tup, qisB_tup, qisL_tup, qisU_tup, qisS_tup, qisD_tup, qisNon_tup, qcooked_tup, qseq_tup, qty_dct, qisI_dct, qisB_dct, qisL_dct, qisU_dct, qisS_dct, qisD_dct, qisNon_dct, qcooked_dct, qseq_dct, qix_lst, qsl_lst, qix_tup, qsl_tup, qisNon_ln, qcooked_ln, and_assoc, exists_and_left, exists_eq_left, exists_eq_left', exists_eq_right, dxLc_eq, dsFor_eq, rngD_0, rngD_eq, zipD_map, enumD_map0, hs]
    have hkp := List.getElem?_eq_getElem hk
    have hpe : psE ps k = ps[k].2 := by
      unfold psE
      rw [hkp]
      rfl
    have hix : t.ix (D.int (k : Int)) = some (prD ps[k]) := by
      rw [ix_of hs, atI_nat', List.getElem?_map, hkp]
      rfl
    have hil1 : i ≤ 1000 := by omega
    have hul : us.length ≤ 1000 := by omega
    have hset : s = seatOf us (psS ps k) → (List.map D.int fo).set k (D.int (s : Int)) = List.map D.int (seatStep ps (fo, us) (psS ps k, (k : Int))).1 := fun e => by
      rw [← List.map_set, e]
      rfl
    by_cases c1 : s < us.length
    · rw [if_pos c1]
      refine ⟨.int us[s], by rw [atI_nat', List.getElem?_map, List.getElem?_eq_getElem c1]; rfl, _, rfl, ?_⟩
      by_cases c2 : psS ps k < us[s]
      · rw [if_pos c2]
        have hne : s ≠ seatOf us (psS ps k) := fun z => by
          have := seatOf_at (us := us) (f := psS ps k) (u := us[s]) (by rw [← z]; exact List.getElem?_eq_getElem c1)
          omega
        exact ⟨us.length - (s + 1), by omega, s + 1, by omega, rfl, by omega⟩
      · rw [if_neg c2, if_neg (by omega)]
        have es : s = seatOf us (psS ps k) := by
          by_cases z : s < seatOf us (psS ps k)
          · have := seatOf_lt z (List.getElem?_eq_getElem c1)
            omega
          · omega
        refine ⟨_, hix, .int ps[k].2, by rw [prD, qix_tup]; rfl, s, Evl.ixN_nat c1, k, Evl.ixN_nat (by omega), hset es, ?_⟩
        rw [← List.map_set]
        show _ = List.map D.int (putU us (seatOf us (psS ps k)) (psE ps k))
        rw [← es, hpe]
        unfold putU
        rw [if_pos c1]
    · rw [if_neg c1, if_pos (by omega)]
      have es : s = seatOf us (psS ps k) := by omega
      have el : s = us.length := by omega
      refine ⟨by omega, _, hix, .int ps[k].2, by rw [prD, qix_tup]; rfl, s, Evl.ixN_nat (by omega), k, Evl.ixN_nat (by omega), hset es, ?_⟩
      show _ = List.map D.int (putU us (seatOf us (psS ps k)) (psE ps k))
      rw [← es, hpe]
      unfold putU
      rw [if_neg c1, el, List.map_append]
      simp
  · obtain ⟨a, b, c, d, e, rfl⟩ := hj
    rw [List.take_length]
    simp [startD, wipeD, dsRet, dsRetN, dsIf, dsSeq, dsNext, dsAsg, dsDrop, dsBreak, dsCont, dsPar, dsAug, dsFrz, dsApp, dsExt, dsPut, dsAugO, dsOwn, dsParOO, dsParDO, dsParDDO, dsFrzA, dxRep, diOwn, dsRaise, deAnd, deOr, deNot, de1, de2, deB, deX, dxB, dxLst, deName, deC, deCall, deIxO, deLenO, deTup, deLst, daCons, daNil, daStar, deChain, dtChain, dtV, dtAnd, dtOr, dtNot, dtYes, deIf, deSl, doNone, doSome, rdAdd, rdSub, rdMul, rdMod, rdDiv, rdPow, rdI, rdIc, rdB, rdLt, rdLe, rdGt, rdGe, rdNeg, rdIs, rdEq, rdNe, rdIx, rdIsN, rdNotN, rdIsB, rdNotB, rdRev, rdSeats, rdCatL, rdCatT, rdRepL, rdLen, rdTuple, rdList, rxList, rdInt, rdMax2, rdMin2, dgName, dgTup, dgCons, dgNil, deRefused, rdRepr, rdNeS, rdEqL, rdNeL, rdRepT, rdIsLn, noOwn, diSeq, diEn, diZp, diR1, diR2, noX,  eqOk_int, eqOk_bl, eqOk_non, eqv_int, eqv_bl, eqv_non, atI_0, atI_1, atI_2, atI_3, qty_non, qisI_non, qisB_non, qisL_non, qisU_non, qisS_non, qisD_non, qisNon_non, qcooked_non, qseq_non, qty_bl, qisI_bl, qisB_bl, qisL_bl, qisU_bl, qisS_bl, qisD_bl, qisNon_bl, qcooked_bl, qseq_bl, qty_int, qisI_int, qisB_int, qisL_int, qisU_int, qisS_int, qisD_int, qisNon_int, qcooked_int, qseq_int, qty_str, qisI_str, qisB_str, qisL_str, qisU_str, qisS_str, qisD_str, qisNon_str, qcooked_str, qseq_str, qty_lst, qisI_lst, qisB_lst, qisL_lst, qisU_lst, qisS_lst, qisD_lst, qisNon_lst, qcooked_lst, qseq_lst, qty_tup, qisI_tup, qisB_tup, qisL_tup, qisU_tup, qisS_tup, qisD_tup, qisNon_tup, qcooked_tup, qseq_tup, qty_dct, qisI_dct, qisB_dct, qisL_dct, qisU_dct, qisS_dct, qisD_dct, qisNon_dct, qcooked_dct, qseq_dct, qix_lst, qsl_lst, qix_tup, qsl_tup, qisNon_ln, qcooked_ln, and_assoc, exists_and_left, exists_eq_left, exists_eq_left', exists_eq_right]
    exact o
end
end K14
end
-- F_14_seating
section
set_option Elab.async false
set_option linter.all false
set_option maxRecDepth 100000
set_option maxHeartbeats 4000000
set_option autoImplicit false
namespace K14
open PySem PySem.Spec PyProof.Rows L2 Sd
section
variable {P : Program} {w : World} {K : PySem.W.Frag} {mg : Str → Option Value} {base : Heap}
theorem ok_seating (T : Txt K mg) {f : Addr} {fd : FuncData} (F : FnP K "seating" s_seating f fd) (c_check_passengers : Cl P w K mg base 3 "check_passengers" sp_check_passengers []) (c_told_seating : Cl P w K mg base 1 "told_seating" sp_told_seating [])  : FnOk P w K mg base (L2.CX P w) 4 f fd ["line", "passengers"] (spD K sp_seating) := by
  have sc := sc_seating
  refine fnD F sc (fun F ds O h => by
    obtain ⟨_, _, e, _⟩ := h
    rw [e] <;> rfl) (fun cdv A outer s G E ds O hr h hE => ⟨_, (pssd_cons (psd_drop (pd_callX c_check_passengers hr (by first | decide | omega) hE (passes_call (takes_of rfl rfl rfl rfl) (fun _ _ _ _ z => z)) (pad_cons (pd_name (pv 0)) (pad_cons (pd_name (pv 1)) pad_nil))))
  (pssd_one (psd_ret (pd_call c_told_seating hr (by first | decide | omega) (pad_cons (pd_name (pv 1)) pad_nil))))), ?_⟩)
  obtain ⟨seats, t, rfl, h⟩ := h
  obtain ⟨hv, o1, o2⟩ := h
  simp [startD, wipeD, dsRet, dsRetN, dsIf, dsSeq, dsNext, dsAsg, dsDrop, dsBreak, dsCont, dsPar, dsAug, dsFrz, dsApp, dsExt, dsPut, dsAugO, dsOwn, dsParOO, dsParDO, dsParDDO, dsFrzA, dxRep, diOwn, dsRaise, deAnd, deOr, deNot, de1, de2, deB, deX, dxB, dxLst, deName, deC, deCall, deIxO, deLenO, deTup, deLst, daCons, daNil, daStar, deChain, dtChain, dtV, dtAnd, dtOr, dtNot, dtYes, deIf, deSl, doNone, doSome, rdAdd, rdSub, rdMul, rdMod, rdDiv, rdPow, rdI, rdIc, rdB, rdLt, rdLe, rdGt, rdGe, rdNeg, rdIs, rdEq, rdNe, rdIx, rdIsN, rdNotN, rdIsB, rdNotB, rdRev, rdSeats, rdCatL, rdCatT, rdRepL, rdLen, rdTuple, rdList, rxList, rdInt, rdMax2, rdMin2, dgName, dgTup, dgCons, dgNil, deRefused, rdRepr, rdNeS, rdEqL, rdNeL, rdRepT, rdIsLn, noOwn, diSeq, diEn, diZp, diR1, diR2, noX,  eqOk_int, eqOk_bl, eqOk_non, eqv_int, eqv_bl, eqv_non, atI_0, atI_1, atI_2, atI_3, qty_non, qisI_non, qisB_non, qisL_non, qisU_non, qisS_non, qisD_non, qisNon_non, qcooked_non, qseq_non, qty_bl, qisI_bl, qisB_bl, qisL_bl, qisU_bl, qisS_bl, qisD_bl, qisNon_bl, qcooked_bl, qseq_bl, qty_int, qisI_int, qisB_int, qisL_int, qisU_int, qisS_int, qisD_int, qisNon_int, qcooked_int, qseq_int, qty_str, qisI_str, qisB_str, qisL_str, qisU_str, qisS_str, qisD_str, qisNon_str, qcooked_str, qseq_str, qty_lst, qisI_lst, qisB_lst, qisL_lst, qisU_lst, qisS_lst, qisD_lst, qisNon_lst, qcooked_lst, qseq_lst, qty_tup, qisI_tup, qisB_tup, qisL_tup, qisU_tup, qisS_tup, qisD_tup, qisNon_tup, qcooked_tup, qseq_tup, qty_dct, qisI_dct, qisB_dct, qisL_dct, qisU_dct, qisS_dct, qisD_dct, qisNon_dct, qcooked_dct, qseq_dct, qix_lst, qsl_lst, qix_tup, qsl_tup, qisNon_ln, qcooked_ln, and_assoc, exists_and_left, exists_eq_left, exists_eq_left', exists_eq_right, sp_check_passengers, sp_told_seating, hv]
  refine ⟨o1, fun k => ?_⟩
  obtain ⟨ps, h1, h2, h3⟩ := o2 k
  exact ⟨ps, h1, h2, h3⟩
end
end K14
end
-- F_14_seats_needed
section
set_option Elab.async false
set_option linter.all false
set_option maxRecDepth 100000
set_option maxHeartbeats 4000000
set_option autoImplicit false
namespace K14
open PySem PySem.Spec PyProof.Rows L2 Sd
section
variable {P : Program} {w : World} {K : PySem.W.Frag} {mg : Str → Option Value} {base : Heap}
theorem ok_seats_needed (T : Txt K mg) {f : Addr} {fd : FuncData} (F : FnP K "seats_needed" s_seats_needed f fd) (c_check_passengers : Cl P w K mg base 3 "check_passengers" sp_check_passengers []) (c_told_seating : Cl P w K mg base 1 "told_seating" sp_told_seating [])  : FnOk P w K mg base (L2.CX P w) 4 f fd ["line", "passengers"] (spD K sp_seats_needed) := by
  have sc := sc_seats_needed
  refine fnD F sc (fun F ds O h => by
    obtain ⟨_, _, e, _⟩ := h
    rw [e] <;> rfl) (fun cdv A outer s G E ds O hr h hE => ⟨_, (pssd_cons (psd_drop (pd_callX c_check_passengers hr (by first | decide | omega) hE (passes_call (takes_of rfl rfl rfl rfl) (fun _ _ _ _ z => z)) (pad_cons (pd_name (pv 0)) (pad_cons (pd_name (pv 1)) pad_nil))))
  (pssd_one (psd_ret (pd_add (pd_maxD rfl hr.units T.b_max (pd_call c_told_seating hr (by first | decide | omega) (pad_cons (pd_name (pv 1)) pad_nil)) (pd_neg pd_int)) pd_int)))), ?_⟩)
  obtain ⟨seats, t, rfl, h⟩ := h
  obtain ⟨hv, o1, o2⟩ := h
  simp [startD, wipeD, dsRet, dsRetN, dsIf, dsSeq, dsNext, dsAsg, dsDrop, dsBreak, dsCont, dsPar, dsAug, dsFrz, dsApp, dsExt, dsPut, dsAugO, dsOwn, dsParOO, dsParDO, dsParDDO, dsFrzA, dxRep, diOwn, dsRaise, deAnd, deOr, deNot, de1, de2, deB, deX, dxB, dxLst, deName, deC, deCall, deIxO, deLenO, deTup, deLst, daCons, daNil, daStar, deChain, dtChain, dtV, dtAnd, dtOr, dtNot, dtYes, deIf, deSl, doNone, doSome, rdAdd, rdSub, rdMul, rdMod, rdDiv, rdPow, rdI, rdIc, rdB, rdLt, rdLe, rdGt, rdGe, rdNeg, rdIs, rdEq, rdNe, rdIx, rdIsN, rdNotN, rdIsB, rdNotB, rdRev, rdSeats, rdCatL, rdCatT, rdRepL, rdLen, rdTuple, rdList, rxList, rdInt, rdMax2, rdMin2, dgName, dgTup, dgCons, dgNil, deRefused, rdRepr, rdNeS, rdEqL, rdNeL, rdRepT, rdIsLn, noOwn, diSeq, diEn, diZp, diR1, diR2, noX,  eqOk_int, eqOk_bl, eqOk_non, eqv_int, eqv_bl, eqv_non, atI_0, atI_1, atI_2, atI_3, qty_non, qisI_non, qisB_non, qisL_non, qisU_non, qisS_non, qisD_non, qisNon_non, qcooked_non, qseq_non, qty_bl, qisI_bl, qisB_bl, qisL_bl, qisU_bl, qisS_bl, qisD_bl, qisNon_bl, qcooked_bl, qseq_bl, qty_int, qisI_int, qisB_int, qisL_int, qisU_int, qisS_int, qisD_int, qisNon_int, qcooked_int, qseq_int, qty_str, qisI_str, qisB_str, qisL_str, qisU_str, qisS_str, qisD_str, qisNon_str, qcooked_str, qseq_str, qty_lst, qisI_lst, qisB_lst, qisL_lst, qisU_lst, qisS_lst, qisD_lst, qisNon_lst, qcooked_lst, qseq_lst, qty_tup, qisI_tup, qisB_tup, qisL_tup, qisU_tup, qisS_tup, qisD_tup, qisNon_tup, qcooked_tup, qseq_tup, qty_dct, qisI_dct, qisB_dct, qisL_dct, qisU_dct, qisS_dct, qisD_dct, qisNon_dct, qcooked_dct, qseq_dct, qix_lst, qsl_lst, qix_tup, qsl_tup, qisNon_ln, qcooked_ln, and_assoc, exists_and_left, exists_eq_left, exists_eq_left', exists_eq_right, sp_check_passengers, sp_told_seating, hv]
  refine ⟨o1, fun k => ?_⟩
  obtain ⟨ps, h1, h2, h3⟩ := o2 k
  simp [startD, wipeD, dsRet, dsRetN, dsIf, dsSeq, dsNext, dsAsg, dsDrop, dsBreak, dsCont, dsPar, dsAug, dsFrz, dsApp, dsExt, dsPut, dsAugO, dsOwn, dsParOO, dsParDO, dsParDDO, dsFrzA, dxRep, diOwn, dsRaise, deAnd, deOr, deNot, de1, de2, deB, deX, dxB, dxLst, deName, deC, deCall, deIxO, deLenO, deTup, deLst, daCons, daNil, daStar, deChain, dtChain, dtV, dtAnd, dtOr, dtNot, dtYes, deIf, deSl, doNone, doSome, rdAdd, rdSub, rdMul, rdMod, rdDiv, rdPow, rdI, rdIc, rdB, rdLt, rdLe, rdGt, rdGe, rdNeg, rdIs, rdEq, rdNe, rdIx, rdIsN, rdNotN, rdIsB, rdNotB, rdRev, rdSeats, rdCatL, rdCatT, rdRepL, rdLen, rdTuple, rdList, rxList, rdInt, rdMax2, rdMin2, dgName, dgTup, dgCons, dgNil, deRefused, rdRepr, rdNeS, rdEqL, rdNeL, rdRepT, rdIsLn, noOwn, diSeq, diEn, diZp, diR1, diR2, noX,  eqOk_int, eqOk_bl, eqOk_non, eqv_int, eqv_bl, eqv_non, atI_0, atI_1, atI_2, atI_3, qty_non, qisI_non, qisB_non, qisL_non, qisU_non, qisS_non, qisD_non, qisNon_non, qcooked_non, qseq_non, qty_bl, qisI_bl, qisB_bl, qisL_bl, qisU_bl, qisS_bl, qisD_bl, qisNon_bl, qcooked_bl, qseq_bl, qty_int, qisI_int, qisB_int, qisL_int, qisU_int, qisS_int, qisD_int, qisNon_int, qcooked_int, qseq_int, qty_str, qisI_str, qisB_str, qisL_str, qisU_str, qisS_str, qisD_str, qisNon_str, qcooked_str, qseq_str, qty_lst, qisI_lst, qisB_lst, qisL_lst, qisU_lst, qisS_lst, qisD_lst, qisNon_lst, qcooked_lst, qseq_lst, qty_tup, qisI_tup, qisB_tup, qisL_tup, qisU_tup, qisS_tup, qisD_tup, qisNon_tup, qcooked_tup, qseq_tup, qty_dct, qisI_dct, qisB_dct, qisL_dct, qisU_dct, qisS_dct, qisD_dct, qisNon_dct, qcooked_dct, qseq_dct, qix_lst, qsl_lst, qix_tup, qsl_tup, qisNon_ln, qcooked_ln, and_assoc, exists_and_left, exists_eq_left, exists_eq_left', exists_eq_right, sp_check_passengers, sp_told_seating, deMaxD]
  refine ⟨ps, h1, h2, seatsG ps, rfl, fun e => ?_, fun m hm hx => ?_⟩
  · rw [e] at h3
    exact h3
  · rw [maxI_eq hm hx (seatRun_ge ps _)]
    exact h3
end
end K14
end
-- F_14_fullest
section
set_option Elab.async false
set_option linter.all false
set_option maxRecDepth 100000
set_option maxHeartbeats 4000000
set_option autoImplicit false
namespace K14
open PySem PySem.Spec PyProof.Rows L2 Sd
section
variable {P : Program} {w : World} {K : PySem.W.Frag} {mg : Str → Option Value} {base : Heap}
theorem ok_fullest (T : Txt K mg) {f : Addr} {fd : FuncData} (F : FnP K "fullest" s_fullest f fd) (c_check_passengers : Cl P w K mg base 3 "check_passengers" sp_check_passengers [])  : FnOk P w K mg base (L2.CX P w) 4 f fd ["line", "passengers"] (spD K sp_fullest) := by
  have sc := sc_fullest
  refine fnD F sc (fun F ds O h => by
    obtain ⟨_, _, e, _⟩ := h
    rw [e] <;> rfl) (fun cdv A outer s G E ds O hr h hE => ⟨_, (pssd_cons (psd_drop (pd_callX c_check_passengers hr (by first | decide | omega) hE (passes_call (takes_of rfl rfl rfl rfl) (fun _ _ _ _ z => z)) (pad_cons (pd_name (pv 0)) (pad_cons (pd_name (pv 1)) pad_nil))))
  (pssd_cons (psd_setLc (i := 2) sc.nd rfl rfl (sw_true rfl rfl rfl (by kernel_rfl)) (own := [(("leg" : Str), 3)]) (pid_r1 T.b_range (pad_cons (pd_callB call_len_seq snd_len T.b_len (pad_cons (pd_seats T.clLine T.nSeats (pd_name (pv 0))) pad_nil)) pad_nil)) (by kernel_rfl) (fun _ _ _ _ _ => (pgc_name (i := 3) sc.nd rfl (by first | exact Or.inl rfl | exact Or.inr rfl) (by decide))) (fun _ _ _ _ _ => ptsd_nil) (fun _ _ _ _ _ => (pd_callB call_len_seq snd_len T.b_len (pad_cons (pd_x (pxd_lc (own := [(("one" : Str), 4)]) sc.nd (pid_seq (pd_name (pv 1))) (by kernel_rfl) (fun _ _ _ _ _ => (pgc_name (i := 4) sc.nd rfl (by first | exact Or.inl rfl | exact Or.inr rfl) (by decide))) (fun _ _ _ _ _ => (ptsd_one (ptd_lelt (pd_item (pd_name (pv 4)) pd_int) (pd_name (pv 3)) (pd_item (pd_name (pv 4)) pd_int)))) (fun _ _ _ _ _ => (pd_name (pv 4))))) pad_nil))))
  (pssd_one (psd_ret (pd_index (pd_name (pv 2)) (pad_cons (pd_callB (cr_max rfl) snd_max T.b_max (pad_cons (pd_name (pv 2)) pad_nil)) pad_nil)))))), ?_⟩)
  obtain ⟨seats, t, rfl, h⟩ := h
  obtain ⟨hn, hl, hv, o1, o2⟩ := h
  simp [startD, wipeD, dsRet, dsRetN, dsIf, dsSeq, dsNext, dsAsg, dsDrop, dsBreak, dsCont, dsPar, dsAug, dsFrz, dsApp, dsExt, dsPut, dsAugO, dsOwn, dsParOO, dsParDO, dsParDDO, dsFrzA, dxRep, diOwn, dsRaise, deAnd, deOr, deNot, de1, de2, deB, deX, dxB, dxLst, deName, deC, deCall, deIxO, deLenO, deTup, deLst, daCons, daNil, daStar, deChain, dtChain, dtV, dtAnd, dtOr, dtNot, dtYes, deIf, deSl, doNone, doSome, rdAdd, rdSub, rdMul, rdMod, rdDiv, rdPow, rdI, rdIc, rdB, rdLt, rdLe, rdGt, rdGe, rdNeg, rdIs, rdEq, rdNe, rdIx, rdIsN, rdNotN, rdIsB, rdNotB, rdRev, rdSeats, rdCatL, rdCatT, rdRepL, rdLen, rdTuple, rdList, rxList, rdInt, rdMax2, rdMin2, dgName, dgTup, dgCons, dgNil, deRefused, rdRepr, rdNeS, rdEqL, rdNeL, rdRepT, rdIsLn, noOwn, diSeq, diEn, diZp, diR1, diR2, noX,  eqOk_int, eqOk_bl, eqOk_non, eqv_int, eqv_bl, eqv_non, atI_0, atI_1, atI_2, atI_3, qty_non, qisI_non, qisB_non, qisL_non, qisU_non, qisS_non, qisD_non, qisNon_non, qcooked_non, qseq_non, qty_bl, qisI_bl, qisB_bl, qisL_bl, qisU_bl, qisS_bl, qisD_bl, qisNon_bl, qcooked_bl, qseq_bl, qty_int, qisI_int, qisB_int, qisL_int, qisU_int, qisS_int, qisD_int, qisNon_int, qcooked_int, qseq_int, qty_str, qisI_str, qisB_str, qisL_str, qisU_str, qisS_str, qisD_str, qisNon_str, qcooked_str, qseq_str, qty_lst, qisI_lst, qisB_lst, qisL_lst, qisU_lst, qisS_lst, qisD_lst, qisNon_lst, qcooked_lst, qseq_lst, qty_tup, qisI_tup, qisB_tup, qisL_tup, qisU_tup, qisS_tup, qisD_tup, qisNon_tup, qcooked_tup, qseq_tup, qty_dct, qisI_dct, qisB_dct, qisL_dct, qisU_dct, qisS_dct, qisD_dct, qisNon_dct, qcooked_dct, qseq_dct, qix_lst, qsl_lst, qix_tup, qsl_tup, qisNon_ln, qcooked_ln, and_assoc, exists_and_left, exists_eq_left, exists_eq_left', exists_eq_right, sp_check_passengers, hv]
  refine ⟨o1, fun k => ?_⟩
  obtain ⟨ps, h1, h2, h3⟩ := o2 k
  simp [startD, wipeD, dsRet, dsRetN, dsIf, dsSeq, dsNext, dsAsg, dsDrop, dsBreak, dsCont, dsPar, dsAug, dsFrz, dsApp, dsExt, dsPut, dsAugO, dsOwn, dsParOO, dsParDO, dsParDDO, dsFrzA, dxRep, diOwn, dsRaise, deAnd, deOr, deNot, de1, de2, deB, deX, dxB, dxLst, deName, deC, deCall, deIxO, deLenO, deTup, deLst, daCons, daNil, daStar, deChain, dtChain, dtV, dtAnd, dtOr, dtNot, dtYes, deIf, deSl, doNone, doSome, rdAdd, rdSub, rdMul, rdMod, rdDiv, rdPow, rdI, rdIc, rdB, rdLt, rdLe, rdGt, rdGe, rdNeg, rdIs, rdEq, rdNe, rdIx, rdIsN, rdNotN, rdIsB, rdNotB, rdRev, rdSeats, rdCatL, rdCatT, rdRepL, rdLen, rdTuple, rdList, rxList, rdInt, rdMax2, rdMin2, dgName, dgTup, dgCons, dgNil, deRefused, rdRepr, rdNeS, rdEqL, rdNeL, rdRepT, rdIsLn, noOwn, diSeq, diEn, diZp, diR1, diR2, noX,  eqOk_int, eqOk_bl, eqOk_non, eqv_int, eqv_bl, eqv_non, atI_0, atI_1, atI_2, atI_3, qty_non, qisI_non, qisB_non, qisL_non, qisU_non, qisS_non, qisD_non, qisNon_non, qcooked_non, qseq_non, qty_bl, qisI_bl, qisB_bl, qisL_bl, qisU_bl, qisS_bl, qisD_bl, qisNon_bl, qcooked_bl, qseq_bl, qty_int, qisI_int, qisB_int, qisL_int, qisU_int, qisS_int, qisD_int, qisNon_int, qcooked_int, qseq_int, qty_str, qisI_str, qisB_str, qisL_str, qisU_str, qisS_str, qisD_str, qisNon_str, qcooked_str, qseq_str, qty_lst, qisI_lst, qisB_lst, qisL_lst, qisU_lst, qisS_lst, qisD_lst, qisNon_lst, qcooked_lst, qseq_lst, qty_tup, qisI_tup, qisB_tup, qisL_tup, qisU_tup, qisS_tup, qisD_tup, qisNon_tup, qcooked_tup, qseq_tup, qty_dct, qisI_dct, qisB_dct, qisL_dct, qisU_dct, qisS_dct, qisD_dct, qisNon_dct, qcooked_dct, qseq_dct, qix_lst, qsl_lst, qix_tup, qsl_tup, qisNon_ln, qcooked_ln, and_assoc, exists_and_left, exists_eq_left, exists_eq_left', exists_eq_right, sp_check_passengers, dxLc_eq, dsFor_eq, rngD_0, rngD_eq, zipD_map, enumD_map0]
  refine ⟨by omega, ?_⟩
  refine lb_on (List.range seats.length) (fun l : Nat => .int ((ps.filter fun p => decide (p.1 ≤ (l : Int)) && decide ((l : Int) < p.2)).length : Nat)) (by simp; omega) (fun l hx R hR => ?_) ?_
  · simp [startD, wipeD, dsRet, dsRetN, dsIf, dsSeq, dsNext, dsAsg, dsDrop, dsBreak, dsCont, dsPar, dsAug, dsFrz, dsApp, dsExt, dsPut, dsAugO, dsOwn, dsParOO, dsParDO, dsParDDO, dsFrzA, dxRep, diOwn, dsRaise, deAnd, deOr, deNot, de1, de2, deB, deX, dxB, dxLst, deName, deC, deCall, deIxO, deLenO, deTup, deLst, daCons, daNil, daStar, deChain, dtChain, dtV, dtAnd, dtOr, dtNot, dtYes, deIf, deSl, doNone, doSome, rdAdd, rdSub, rdMul, rdMod, rdDiv, rdPow, rdI, rdIc, rdB, rdLt, rdLe, rdGt, rdGe, rdNeg, rdIs, rdEq, rdNe, rdIx, rdIsN, rdNotN, rdIsB, rdNotB, rdRev, rdSeats, rdCatL, rdCatT, rdRepL, rdLen, rdTuple, rdList, rxList, rdInt, rdMax2, rdMin2, dgName, dgTup, dgCons, dgNil, deRefused, rdRepr, rdNeS, rdEqL, rdNeL, rdRepT, rdIsLn, noOwn, diSeq, diEn, diZp, diR1, diR2, noX,  eqOk_int, eqOk_bl, eqOk_non, eqv_int, eqv_bl, eqv_non, atI_0, atI_1, atI_2, atI_3, qty_non, qisI_non, qisB_non, qisL_non, qisU_non, qisS_non, qisD_non, qisNon_non, qcooked_non, qseq_non, qty_bl, qisI_bl, qisB_bl, qisL_bl, qisU_bl, qisS_bl, qisD_bl, qisNon_bl, qcooked_bl, qseq_bl, qty_int, qisI_int, qisB_int, qisL_int, qisU_int, qisS_int, qisD_int, qisNon_int, qcooked_int, qseq_int, qty_str, qisI_str, qisB_str, qisL_str, qisU_str, qisS_str, qisD_str, qisNon_str, qcooked_str, qseq_str, qty_lst, qisI_lst, qisB_lst, qisL_lst, qisU_lst, qisS_lst, qisD_lst, qisNon_lst, qcooked_lst, qseq_lst, qty_tup, qisI_tup, qisB_tup, qisL_tup, qisU_tup, qisS_tup, qisD_tup, qisNon_tup, qcooked_tup, qseq_tup, qty_dct, qisI_dct, qisB_dct, qisL_dct, qisU_dct, qisS_dct, qisD_dct, qisNon_dct, qcooked_dct, qseq_dct, qix_lst, qsl_lst, qix_tup, qsl_tup, qisNon_ln, qcooked_ln, and_assoc, exists_and_left, exists_eq_left, exists_eq_left', exists_eq_right, sp_check_passengers, dxLc_eq, dsFor_eq, rngD_0, rngD_eq, zipD_map, enumD_map0, h1]
    refine lb_onF ps prD (fun p => decide (p.1 ≤ (l : Int)) && decide ((l : Int) < p.2)) (by omega) (fun p hp R1 R2 r1 r2 => ?_) ?_
    · simp [startD, wipeD, dsRet, dsRetN, dsIf, dsSeq, dsNext, dsAsg, dsDrop, dsBreak, dsCont, dsPar, dsAug, dsFrz, dsApp, dsExt, dsPut, dsAugO, dsOwn, dsParOO, dsParDO, dsParDDO, dsFrzA, dxRep, diOwn, dsRaise, deAnd, deOr, deNot, de1, de2, deB, deX, dxB, dxLst, deName, deC, deCall, deIxO, deLenO, deTup, deLst, daCons, daNil, daStar, deChain, dtChain, dtV, dtAnd, dtOr, dtNot, dtYes, deIf, deSl, doNone, doSome, rdAdd, rdSub, rdMul, rdMod, rdDiv, rdPow, rdI, rdIc, rdB, rdLt, rdLe, rdGt, rdGe, rdNeg, rdIs, rdEq, rdNe, rdIx, rdIsN, rdNotN, rdIsB, rdNotB, rdRev, rdSeats, rdCatL, rdCatT, rdRepL, rdLen, rdTuple, rdList, rxList, rdInt, rdMax2, rdMin2, dgName, dgTup, dgCons, dgNil, deRefused, rdRepr, rdNeS, rdEqL, rdNeL, rdRepT, rdIsLn, noOwn, diSeq, diEn, diZp, diR1, diR2, noX,  eqOk_int, eqOk_bl, eqOk_non, eqv_int, eqv_bl, eqv_non, atI_0, atI_1, atI_2, atI_3, qty_non, qisI_non, qisB_non, qisL_non, qisU_non, qisS_non, qisD_non, qisNon_non, qcooked_non, qseq_non, qty_bl, qisI_bl, qisB_bl, qisL_bl, qisU_bl, qisS_bl, qisD_bl, qisNon_bl, qcooked_bl, qseq_bl, qty_int, qisI_int, qisB_int, qisL_int, qisU_int, qisS_int, qisD_int, qisNon_int, qcooked_int, qseq_int, qty_str, qisI_str, qisB_str, qisL_str, qisU_str, qisS_str, qisD_str, qisNon_str, qcooked_str, qseq_str, qty_lst, qisI_lst, qisB_lst, qisL_lst, qisU_lst, qisS_lst, qisD_lst, qisNon_lst, qcooked_lst, qseq_lst, qty_tup, qisI_tup, qisB_tup, qisL_tup, qisU_tup, qisS_tup, qisD_tup, qisNon_tup, qcooked_tup, qseq_tup, qty_dct, qisI_dct, qisB_dct, qisL_dct, qisU_dct, qisS_dct, qisD_dct, qisNon_dct, qcooked_dct, qseq_dct, qix_lst, qsl_lst, qix_tup, qsl_tup, qisNon_ln, qcooked_ln, and_assoc, exists_and_left, exists_eq_left, exists_eq_left', exists_eq_right, sp_check_passengers, prD]
      by_cases c1 : p.1 ≤ (l : Int)
      · rw [if_pos c1]
        by_cases c2 : (l : Int) < p.2
        · rw [if_pos c2]
          exact r1 (by simp [c1, c2])
        · rw [if_neg c2]
          exact r2 (by simp [c2])
      · rw [if_neg c1]
        exact r2 (by simp [c1])
    · rw [List.length_map]
      exact hR
  · have el : (List.map (fun l : Nat => D.int ((List.filter (fun p : Int × Int => decide (p.1 ≤ (l : Int)) && decide ((l : Int) < p.2)) ps).length : Nat)) (List.range seats.length)) = ((loadsP seats.length ps).map fun n : Nat => (n : Int)).map D.int := by
      simp [loadsP, List.map_map]
    rw [el]
    simp [startD, wipeD, dsRet, dsRetN, dsIf, dsSeq, dsNext, dsAsg, dsDrop, dsBreak, dsCont, dsPar, dsAug, dsFrz, dsApp, dsExt, dsPut, dsAugO, dsOwn, dsParOO, dsParDO, dsParDDO, dsFrzA, dxRep, diOwn, dsRaise, deAnd, deOr, deNot, de1, de2, deB, deX, dxB, dxLst, deName, deC, deCall, deIxO, deLenO, deTup, deLst, daCons, daNil, daStar, deChain, dtChain, dtV, dtAnd, dtOr, dtNot, dtYes, deIf, deSl, doNone, doSome, rdAdd, rdSub, rdMul, rdMod, rdDiv, rdPow, rdI, rdIc, rdB, rdLt, rdLe, rdGt, rdGe, rdNeg, rdIs, rdEq, rdNe, rdIx, rdIsN, rdNotN, rdIsB, rdNotB, rdRev, rdSeats, rdCatL, rdCatT, rdRepL, rdLen, rdTuple, rdList, rxList, rdInt, rdMax2, rdMin2, dgName, dgTup, dgCons, dgNil, deRefused, rdRepr, rdNeS, rdEqL, rdNeL, rdRepT, rdIsLn, noOwn, diSeq, diEn, diZp, diR1, diR2, noX,  eqOk_int, eqOk_bl, eqOk_non, eqv_int, eqv_bl, eqv_non, atI_0, atI_1, atI_2, atI_3, qty_non, qisI_non, qisB_non, qisL_non, qisU_non, qisS_non, qisD_non, qisNon_non, qcooked_non, qseq_non, qty_bl, qisI_bl, qisB_bl, qisL_bl, qisU_bl, qisS_bl, qisD_bl, qisNon_bl, qcooked_bl, qseq_bl, qty_int, qisI_int, qisB_int, qisL_int, qisU_int, qisS_int, qisD_int, qisNon_int, qcooked_int, qseq_int, qty_str, qisI_str, qisB_str, qisL_str, qisU_str, qisS_str, qisD_str, qisNon_str, qcooked_str, qseq_str, qty_lst, qisI_lst, qisB_lst, qisL_lst, qisU_lst, qisS_lst, qisD_lst, qisNon_lst, qcooked_lst, qseq_lst, qty_tup, qisI_tup, qisB_tup, qisL_tup, qisU_tup, qisS_tup, qisD_tup, qisNon_tup, qcooked_tup, qseq_tup, qty_dct, qisI_dct, qisB_dct, qisL_dct, qisU_dct, qisS_dct, qisD_dct, qisNon_dct, qcooked_dct, qseq_dct, qix_lst, qsl_lst, qix_tup, qsl_tup, qisNon_ln, qcooked_ln, and_assoc, exists_and_left, exists_eq_left, exists_eq_left', exists_eq_right, sp_check_passengers, deIndex]
    refine ⟨(loadsP seats.length ps).map (fun n : Nat => (n : Int)), by rw [List.map_map], (loadsP seats.length ps).map (fun n : Nat => (n : Int)), by rw [List.map_map], by simp [loadsP]; omega, fun mx hmem hmx => ?_⟩
    have emx := maxN_eq hmem hmx
    subst emx
    refine ⟨_, rfl, hmem, ?_⟩
    rw [idxOf_cast]
    exact h3
end
end K14
end
-- F_14__law_taken
section
set_option Elab.async false
set_option linter.all false
set_option maxRecDepth 100000
set_option maxHeartbeats 4000000
set_option autoImplicit false
namespace K14
open PySem PySem.Spec PyProof.Rows L2 Sd
section
variable {P : Program} {w : World} {K : PySem.W.Frag} {mg : Str → Option Value} {base : Heap}
theorem sc__law_taken : FnScope ["row", "many", "found", "cell"] ["row", "many"] (defScope s__law_taken) := ⟨rfl, rfl, rfl, by decide +kernel, rfl, by decide +kernel, by decide +kernel⟩
theorem rdRow {σ : L2.St} {H : Hp} {Q : VK} {r : Addr} {xs : List V} {k : Int} {v : V} {i : Nat} (h0 : σ[i]? = some (some (.ref r))) (h : H r = some (.lst xs)) (hk : L2.atI xs k = some v) (q : Q v H) : tOp (rIxL K) (tVar i) (tC (.int k)) σ H Q := ⟨_, h0, r, xs, k, v, rfl, rfl, SqL.of h, hk, q⟩
theorem if_t {b : Bool} {p q : Prop} (h : b = true) (hp : p) : if b = true then p else q := by
  rw [if_pos h]
  exact hp
theorem if_f {b : Bool} {p q : Prop} (h : b = false) (hq : q) : if b = true then p else q := by
  rw [if_neg (by rw [h]; decide)]
  exact hq
theorem ok__law_taken (T : Txt K mg) {f : Addr} {fd : FuncData} (F : FnP K "_law_taken" s__law_taken f fd) : FnOk P w K mg base (L2.CX P w) 1 f fd ["row", "many"] (spD K sp__law_taken) := by
  have sc := sc__law_taken
  refine F.ok sc (fun vs H Q E ⟨Fs, B, ds, O, _, _, r, h, _⟩ => by
    obtain ⟨_, _, _, e, _⟩ := h
    rw [r.length, e] <;> rfl) fun cdv A outer s H vs Q E hr ⟨Fs, B, ds, O, he, hf, rp, h, q, qx⟩ => ?_
  obtain ⟨r, sa, many, rfl, hrow, hm0, hm1, o⟩ := h
  cases rp with
  | cons h1 rp =>
  cases rp with
  | cons h2 rp =>
  cases rp
  cases h1
  cases h2
  obtain ⟨hB, ⟨ns, hns⟩, i, sd, c, hr0, hi0, hs0, hs1⟩ := hf.row r sa hrow
  have exB : ∀ u : HO, Evl.Ex B (upd H r u) := fun u a o h => by
    have ha : a ≠ r := fun z => by
      rw [z, hB] at h
      cases h
    rw [upd_ne ha]
    exact he _ _ h
  have fin : ∀ (n : Int) (i' s' c' : Int) (H' : Hp), 0 ≤ n → n < many → H' = upd H r (.lst [.ref sa, .int i', .int s', .int c']) → 0 ≤ i' → 0 ≤ s' → s' < 2147483647 → Q (.int n) H' := by
    intro n i' s' c' H' n0 n1 e a1 a2 a3
    subst e
    have eB := exB (.lst [.ref sa, .int i', .int s', .int c'])
    have hne : ∀ a o, H a = some o → (∀ ps, o ≠ .lst ps) → a ≠ r := fun a o h1 h2 z => by
      rw [z, hr0] at h1
      cases h1
      exact h2 _ rfl
    refine q _ (.int n) B _ ⟨Evl.Ex.refl B, eB, fun a h1 h2 => ⟨h1, fun hs => upd_ne fun z => hs (.inl ⟨sa, by rw [z]; exact hrow⟩)⟩, ?_⟩ (o n n0 n1) (.int n)
    refine ⟨fun r' sa' h' => ?_, fun p hp => ?_, hf.tb, hf.nt⟩
    · rw [hrow] at h'
      cases h'
      exact ⟨hB, ⟨ns, hns⟩, i', s', c', upd_same, a1, a2, a3⟩
    · obtain ⟨ps, t1, t2, t3⟩ := hf.tab p hp
      refine ⟨ps, ?_, t2, fun pos cv hc => ?_⟩
      · rw [upd_ne (hne _ _ t1 fun _ z => by cases z)]
        exact t1
      · obtain ⟨c0, e1, e2⟩ := t3 pos cv hc
        refine ⟨c0, e1, ?_⟩
        rw [upd_ne (hne _ _ e2 fun _ z => by cases z)]
        exact e2
  have hL : SqL K H sa (ns.map V.int) := exL he hns
  refine ⟨_, pss_cons (ps_if (pt_cmpR op_gt (pe_ix ix_list (pv 0) pe_int (fun _ _ => rfl)) pe_int (nomark _))
      (pss_cons (ps_set (i := 2) sc.nd rfl (Or.inl rfl) (pe_op op_mod (pe_callTy call_int1 (by rfl) T.b_int (by decide +kernel) (pa_cons (pe_ix ix_list (pv 0) pe_int (fun _ _ => rfl)) pa_nil)) (pv 1)))
        (pss_cons (ps_asg (pe_op op_fdiv (pe_ix ix_list (pv 0) pe_int (fun _ _ => rfl)) (pv 1)) (pg_sub (pv 0) pe_int set_list))
          (pss_one (ps_ret (pv 2))))) pss_nil)
    (pss_cons (ps_asg (pe_op op_add (pe_ix ix_list (pv 0) pe_int (fun _ _ => rfl)) pe_int) (pg_sub (pv 0) pe_int set_list))
    (pss_cons (ps_if (pt_cmpR op_gt (pe_ix ix_list (pv 0) pe_int (fun _ _ => rfl)) (pe_callB call_len_seq (by rfl) T.b_len (by decide +kernel) (pa_cons (pe_ix ix_list (pv 0) pe_int (fun _ _ => rfl)) pa_nil)) (nomark _))
      (pss_cons (ps_asg (pe_op op_mod (pe_callTy call_int1 (by rfl) T.b_int (by decide +kernel) (pa_cons (pe_op op_add (pe_op op_mul (pe_ix ix_list (pv 0) pe_int (fun _ _ => rfl)) pe_int) pe_int) pa_nil)) pe_int) (pg_sub (pv 0) pe_int set_list))
        (pss_one (ps_ret (pe_op op_mod (pe_callTy call_int1 (by rfl) T.b_int (by decide +kernel) (pa_cons (pe_op op_fdiv (pe_ix ix_list (pv 0) pe_int (fun _ _ => rfl)) pe_int) pa_nil)) (pv 1))))) pss_nil)
    (pss_cons (ps_set (i := 3) sc.nd rfl (Or.inl rfl) (pe_ix ix_list (pe_ix ix_list (pv 0) pe_int (fun _ _ => rfl)) (pe_op op_sub (pe_ix ix_list (pv 0) pe_int (fun _ _ => rfl)) pe_int) (fun _ _ => rfl)))
    (pss_cons (ps_asg (pe_op op_mod (pe_callTy call_int1 (by rfl) T.b_int (by decide +kernel) (pa_cons (pe_op op_add (pe_op op_add (pe_op op_mul (pe_ix ix_list (pv 0) pe_int (fun _ _ => rfl)) pe_int) (pv 3)) pe_int) pa_nil)) pe_int) (pg_sub (pv 0) pe_int set_list))
    (pss_cons (ps_if (pt_cmpR op_ge (pv 3) (pe_op op_pow pe_int pe_int) (nomark _))
      (pss_one (ps_asg (pe_op op_fdiv (pv 3) (pv 1)) (pg_sub (pv 0) pe_int set_list))) pss_nil)
    (pss_one (ps_ret (pe_op op_mod (pe_callTy call_int1 (by rfl) T.b_int (by decide +kernel) (pa_cons (pv 3) pa_nil)) (pv 1))))))))), ?_⟩
  have hmod : ∀ x : Int, 0 ≤ x % many ∧ x % many < many := fun x => ⟨Int.emod_nonneg _ (by omega), Int.emod_lt_of_pos _ hm0⟩
  have hmod2 : ∀ x : Int, 0 ≤ x % 2147483647 ∧ x % 2147483647 < 2147483647 := fun x => ⟨Int.emod_nonneg _ (by omega), Int.emod_lt_of_pos _ (by omega)⟩
  refine rdRow (v := .int c) rfl hr0 rfl ⟨c, 0, rfl, rfl, _, rfl, ?_⟩
  by_cases hc : 0 < c
  · refine if_t (decide_eq_true hc) ?_
    refine rdRow (v := .int c) rfl hr0 rfl (.inl ⟨c, rfl, ?_⟩)
    refine ⟨_, rfl, c, many, rfl, rfl, hm0, ?_⟩
    refine rdRow (v := .int c) rfl hr0 rfl ⟨_, rfl, c, many, rfl, rfl, ⟨hm0, hm1⟩, ?_⟩
    refine ⟨_, rfl, r, _, 3, 3, rfl, rfl, hr0, rfl, ?_⟩
    exact ⟨_, rfl, fin _ i sd (c / many) _ (hmod c).1 (hmod c).2 rfl hi0 hs0 hs1⟩
  · refine if_f (decide_eq_false hc) ?_
    refine rdRow (v := .int i) rfl hr0 rfl ⟨i, 1, rfl, rfl, ?_⟩
    refine ⟨_, rfl, r, _, 1, 1, rfl, rfl, hr0, rfl, ?_⟩
    have hr1 : upd H r (.lst [.ref sa, .int (i + 1), .int sd, .int c]) r = some (.lst [.ref sa, .int (i + 1), .int sd, .int c]) := upd_same
    show tSeq _ _ _ _ (upd H r (.lst [.ref sa, .int (i + 1), .int sd, .int c]))
    generalize hH1 : upd H r (.lst [.ref sa, .int (i + 1), .int sd, .int c]) = H1 at hr1 ⊢
    have hL1 : SqL K H1 sa (ns.map V.int) := by
      rw [← hH1]
      exact exL (exB _) hns
    have up1 : ∀ u, upd H1 r u = upd H r u := fun u => by
      rw [← hH1]
      exact upd_upd
    refine rdRow (v := .int (i + 1)) rfl hr1 rfl ?_
    refine rdRow (v := .ref sa) rfl hr1 rfl ⟨sa, _, rfl, .inl hL1, ?_⟩
    refine ⟨i + 1, (ns.map V.int).length, rfl, rfl, _, rfl, ?_⟩
    by_cases hl : ((ns.map V.int).length : Int) < i + 1
    · refine if_t (decide_eq_true hl) ?_
      refine rdRow (v := .int sd) rfl hr1 rfl ⟨sd, 48271, rfl, rfl, .inr ⟨by decide, by decide⟩, ?_⟩
      refine ⟨_, 11, rfl, rfl, .inl ⟨_, rfl, ?_⟩⟩
      refine ⟨_, 2147483647, rfl, rfl, (show (0 : Int) < 2147483647 by decide), ?_⟩
      refine ⟨_, rfl, r, _, 2, 2, rfl, rfl, hr1, rfl, ?_⟩
      rw [up1]
      refine rdRow (v := .int ((sd * 48271 + 11) % 2147483647)) rfl upd_same rfl ⟨_, 7, rfl, rfl, ⟨by decide, by decide⟩, .inl ⟨_, rfl, ?_⟩⟩
      refine ⟨_, rfl, _, many, rfl, rfl, hm0, ?_⟩
      exact fin _ (i + 1) _ c _ (hmod _).1 (hmod _).2 rfl (by omega) (hmod2 _).1 (hmod2 _).2
    · refine if_f (decide_eq_false hl) ?_
      obtain ⟨cell, hcell⟩ : ∃ cell : Int, L2.atI (ns.map V.int) (i + 1 - 1) = some (.int cell) := by
        have h1 : i.toNat < ns.length := by
          rw [List.length_map] at hl
          omega
        refine ⟨ns[i.toNat], ?_⟩
        rw [show i + 1 - 1 = i by omega, atI_pos hi0, List.getElem?_map, List.getElem?_eq_getElem h1]
        rfl
      refine rdRow (v := .ref sa) rfl hr1 rfl ?_
      refine rdRow (v := .int (i + 1)) rfl hr1 rfl ⟨i + 1, 1, rfl, rfl, ?_⟩
      refine ⟨sa, _, _, _, rfl, rfl, hL1, hcell, ?_⟩
      refine rdRow (v := .int sd) rfl hr1 rfl ⟨sd, 48271, rfl, rfl, .inr ⟨by decide, by decide⟩, ?_⟩
      refine ⟨_, rfl, _, cell, rfl, rfl, ?_⟩
      refine ⟨_, 11, rfl, rfl, .inl ⟨_, rfl, ?_⟩⟩
      refine ⟨_, 2147483647, rfl, rfl, (show (0 : Int) < 2147483647 by decide), ?_⟩
      refine ⟨_, rfl, r, _, 2, 2, rfl, rfl, hr1, rfl, ?_⟩
      rw [up1]
      refine ⟨_, rfl, 10, 18, rfl, rfl, ⟨by decide, by decide, by decide⟩, ?_⟩
      refine ⟨cell, _, rfl, rfl, _, rfl, ?_⟩
      have last : ∀ c' : Int, ∀ H' : Hp, H' = upd H r (.lst [.ref sa, .int (i + 1), .int ((sd * 48271 + cell + 11) % 2147483647), .int c']) → Q (.int (cell % many)) H' := fun c' H' e =>
        fin _ (i + 1) _ c' _ (hmod _).1 (hmod _).2 e (by omega) (hmod2 _).1 (hmod2 _).2
      by_cases h18 : (10 : Int) ^ (18 : Int).toNat ≤ cell
      · refine if_t (decide_eq_true h18) ?_
        refine ⟨_, rfl, _, rfl, cell, many, rfl, rfl, ⟨hm0, hm1⟩, ?_⟩
        refine ⟨_, rfl, r, _, 3, 3, rfl, rfl, upd_same, rfl, ?_⟩
        refine ⟨_, rfl, .inl ⟨_, rfl, ?_⟩⟩
        refine ⟨_, rfl, _, many, rfl, rfl, hm0, ?_⟩
        exact last _ _ upd_upd
      · refine if_f (decide_eq_false h18) ?_
        refine ⟨_, rfl, .inl ⟨_, rfl, ?_⟩⟩
        refine ⟨_, rfl, _, many, rfl, rfl, hm0, ?_⟩
        exact last _ _ rfl

end
end K14
end
-- F_14__law_pick
section
set_option Elab.async false
set_option linter.all false
set_option maxRecDepth 100000
set_option maxHeartbeats 4000000
set_option autoImplicit false
namespace K14
open PySem PySem.Spec PyProof.Rows L2 Sd
section
variable {P : Program} {w : World} {K : PySem.W.Frag} {mg : Str → Option Value} {base : Heap}
theorem ok__law_pick (T : Txt K mg) {f : Addr} {fd : FuncData} (F : FnP K "_law_pick" s__law_pick f fd) (c__law_taken : Cl P w K mg base 1 "_law_taken" sp__law_taken [])  : FnOk P w K mg base (L2.CX P w) 2 f fd ["row", "some"] (spD K sp__law_pick) := by
  have sc := sc__law_pick
  refine fnD F sc (fun F ds O h => by
    obtain ⟨_, _, _, _, e, _⟩ := h
    rw [e] <;> rfl) (fun cdv A outer s G E ds O hr h hE => ⟨_, (pssd_one (psd_ret (pd_item (pd_name (pv 1)) (pd_call c__law_taken hr (by first | decide | omega) (pad_cons (pd_name (pv 0)) (pad_cons (pd_callB call_len_seq snd_len T.b_len (pad_cons (pd_name (pv 1)) pad_nil)) pad_nil)))))), ?_⟩)
  obtain ⟨r, sa, d, xs, rfl, h⟩ := h
  obtain ⟨hrow, hs, h0, h1, o⟩ := h
  simp [startD, wipeD, dsRet, dsRetN, dsIf, dsSeq, dsNext, dsAsg, dsDrop, dsBreak, dsCont, dsPar, dsAug, dsFrz, dsApp, dsExt, dsPut, dsAugO, dsOwn, dsParOO, dsParDO, dsParDDO, dsFrzA, dxRep, diOwn, dsRaise, deAnd, deOr, deNot, de1, de2, deB, deX, dxB, dxLst, deName, deC, deCall, deIxO, deLenO, deTup, deLst, daCons, daNil, daStar, deChain, dtChain, dtV, dtAnd, dtOr, dtNot, dtYes, deIf, deSl, doNone, doSome, rdAdd, rdSub, rdMul, rdMod, rdDiv, rdPow, rdI, rdIc, rdB, rdLt, rdLe, rdGt, rdGe, rdNeg, rdIs, rdEq, rdNe, rdIx, rdIsN, rdNotN, rdIsB, rdNotB, rdRev, rdSeats, rdCatL, rdCatT, rdRepL, rdLen, rdTuple, rdList, rxList, rdInt, rdMax2, rdMin2, dgName, dgTup, dgCons, dgNil, deRefused, rdRepr, rdNeS, rdEqL, rdNeL, rdRepT, rdIsLn, noOwn, diSeq, diEn, diZp, diR1, diR2, noX,  eqOk_int, eqOk_bl, eqOk_non, eqv_int, eqv_bl, eqv_non, atI_0, atI_1, atI_2, atI_3, qty_non, qisI_non, qisB_non, qisL_non, qisU_non, qisS_non, qisD_non, qisNon_non, qcooked_non, qseq_non, qty_bl, qisI_bl, qisB_bl, qisL_bl, qisU_bl, qisS_bl, qisD_bl, qisNon_bl, qcooked_bl, qseq_bl, qty_int, qisI_int, qisB_int, qisL_int, qisU_int, qisS_int, qisD_int, qisNon_int, qcooked_int, qseq_int, qty_str, qisI_str, qisB_str, qisL_str, qisU_str, qisS_str, qisD_str, qisNon_str, qcooked_str, qseq_str, qty_lst, qisI_lst, qisB_lst, qisL_lst, qisU_lst, qisS_lst, qisD_lst, qisNon_lst, qcooked_lst, qseq_lst, qty_tup, qisI_tup, qisB_tup, qisL_tup, qisU_tup, qisS_tup, qisD_tup, qisNon_tup, qcooked_tup, qseq_tup, qty_dct, qisI_dct, qisB_dct, qisL_dct, qisU_dct, qisS_dct, qisD_dct, qisNon_dct, qcooked_dct, qseq_dct, qix_lst, qsl_lst, qix_tup, qsl_tup, qisNon_ln, qcooked_ln, and_assoc, exists_and_left, exists_eq_left, exists_eq_left', exists_eq_right, sp__law_taken, hs]
  refine ⟨⟨sa, hrow⟩, h0, by omega, fun n n0 n1 => ?_⟩
  have hn : n.toNat < xs.length := by omega
  exact ⟨xs[n.toNat], by rw [ix_of hs, atI_pos n0, List.getElem?_eq_getElem hn], o _ (List.getElem_mem hn)⟩
end
end K14
end
-- F_14__law_alike
section
set_option Elab.async false
set_option linter.all false
set_option maxRecDepth 100000
set_option maxHeartbeats 4000000
set_option autoImplicit false
namespace K14
open PySem PySem.Spec PyProof.Rows L2 Sd
section
variable {P : Program} {w : World} {K : PySem.W.Frag} {mg : Str → Option Value} {base : Heap}
theorem alike_step (T : Txt K mg) {f : Addr} {fd : FuncData} (F : FnP K "_law_alike" s__law_alike f fd) (n k : Nat) (c__law_alike : Cl P w K mg base k "_law_alike" (spAlike n) []) : FnOk P w K mg base (L2.CX P w) (k + 1) f fd ["found", "due"] (spD K (spAlike (n + 1))) := by
  have sc := sc__law_alike
  refine fnD F sc (fun F ds O h => by
    obtain ⟨_, e, _⟩ := h
    rw [e] <;> rfl) (fun cdv A outer s G E ds O hr h hE => ⟨_, (pssd_cons (psd_if (ptd_val (pd_is2 kit_tuple kit_list T.b_isinstance T.b_tuple T.b_list (by decide +kernel) (by decide +kernel) (pd_name (pv 1))))
  (pssd_cons (psd_if (ptd_w (pwd_or (ptd_not (ptd_val (pd_is2 kit_tuple kit_list T.b_isinstance T.b_tuple T.b_list (by decide +kernel) (by decide +kernel) (pd_name (pv 0))))) (pwd_or1 (ptd_ne hr.units (pd_is kit_list T.b_isinstance T.b_list (by decide +kernel) (pd_name (pv 0))) (pd_is kit_list T.b_isinstance T.b_list (by decide +kernel) (pd_name (pv 1)))))))
  (pssd_one (psd_ret pd_bl))
  pssd_nil)
  (pssd_cons (psd_if (ptd_ne hr.units (pd_callB call_len_seq snd_len T.b_len (pad_cons (pd_name (pv 0)) pad_nil)) (pd_callB call_len_seq snd_len T.b_len (pad_cons (pd_name (pv 1)) pad_nil)))
  (pssd_one (psd_ret pd_bl))
  pssd_nil)
  (pssd_one (psd_ret (pd_eq hr.units (pd_x (pxd_lc (own := [(("k" : Str), 2)]) sc.nd (pid_r1 T.b_range (pad_cons (pd_callB call_len_seq snd_len T.b_len (pad_cons (pd_name (pv 1)) pad_nil)) pad_nil)) (by kernel_rfl) (fun _ _ _ _ _ => (pgc_name (i := 2) sc.nd rfl (by first | exact Or.inl rfl | exact Or.inr rfl) (by decide))) (fun _ _ _ _ _ => (ptsd_one (ptd_not (ptd_val (pd_call c__law_alike hr (by first | decide | omega) (pad_cons (pd_item (pd_name (pv 0)) (pd_name (pv 2))) (pad_cons (pd_item (pd_name (pv 1)) (pd_name (pv 2))) pad_nil))))))) (fun _ _ _ _ _ => (pd_name (pv 2))))) (pd_lst pad_nil))))))
  pssd_nil)
  (pssd_cons (psd_if (ptd_val (pd_is kit_dict T.b_isinstance T.b_dict (by decide +kernel) (pd_name (pv 1))))
  (pssd_cons (psd_if (ptd_w (pwd_or (ptd_not (ptd_val (pd_is kit_dict T.b_isinstance T.b_dict (by decide +kernel) (pd_name (pv 0))))) (pwd_or1 (ptd_ne hr.units (pd_callTy call_list_of snd_list T.b_list (pad_cons (pd_name (pv 0)) pad_nil)) (pd_callTy call_list_of snd_list T.b_list (pad_cons (pd_name (pv 1)) pad_nil))))))
  (pssd_one (psd_ret pd_bl))
  pssd_nil)
  (pssd_one (psd_ret (pd_eq hr.units (pd_x (pxd_lc (own := [(("key" : Str), 3)]) sc.nd (pid_seq (pd_name (pv 1))) (by kernel_rfl) (fun _ _ _ _ _ => (pgc_name (i := 3) sc.nd rfl (by first | exact Or.inl rfl | exact Or.inr rfl) (by decide))) (fun _ _ _ _ _ => (ptsd_one (ptd_not (ptd_val (pd_call c__law_alike hr (by first | decide | omega) (pad_cons (pd_item (pd_name (pv 0)) (pd_name (pv 3))) (pad_cons (pd_item (pd_name (pv 1)) (pd_name (pv 3))) pad_nil))))))) (fun _ _ _ _ _ => (pd_name (pv 3))))) (pd_lst pad_nil)))))
  pssd_nil)
  (pssd_cons (psd_if (ptd_w (pwd_or (ptd_isN (pd_name (pv 1)) pd_non) (pwd_or1 (ptd_val (pd_is kit_str T.b_isinstance T.b_str (by decide +kernel) (pd_name (pv 1)))))))
  (pssd_one (psd_ret (pd_and (pd_eq hr.units (pd_name (pv 0)) (pd_name (pv 1))) (pd_one (pd_eq hr.units (pd_is kit_str T.b_isinstance T.b_str (by decide +kernel) (pd_name (pv 0))) (pd_is kit_str T.b_isinstance T.b_str (by decide +kernel) (pd_name (pv 1))))))))
  pssd_nil)
  (pssd_one (psd_ret (pd_and (pd_is kit_int T.b_isinstance T.b_int (by decide +kernel) (pd_name (pv 0))) (pd_and (pd_eq hr.units (pd_is kit_bool T.b_isinstance T.b_bool (by decide +kernel) (pd_name (pv 0))) (pd_is kit_bool T.b_isinstance T.b_bool (by decide +kernel) (pd_name (pv 1)))) (pd_one (pd_eq hr.units (pd_name (pv 0)) (pd_name (pv 1))))))))))), ?_⟩)
  obtain ⟨d, rfl, ha, o⟩ := h
  cases d with
  | non =>
    simp [startD, wipeD, dsRet, dsRetN, dsIf, dsSeq, dsNext, dsAsg, dsDrop, dsBreak, dsCont, dsPar, dsAug, dsFrz, dsApp, dsExt, dsPut, dsAugO, dsOwn, dsParOO, dsParDO, dsParDDO, dsFrzA, dxRep, diOwn, dsRaise, deAnd, deOr, deNot, de1, de2, deB, deX, dxB, dxLst, deName, deC, deCall, deIxO, deLenO, deTup, deLst, daCons, daNil, daStar, deChain, dtChain, dtV, dtAnd, dtOr, dtNot, dtYes, deIf, deSl, doNone, doSome, rdAdd, rdSub, rdMul, rdMod, rdDiv, rdPow, rdI, rdIc, rdB, rdLt, rdLe, rdGt, rdGe, rdNeg, rdIs, rdEq, rdNe, rdIx, rdIsN, rdNotN, rdIsB, rdNotB, rdRev, rdSeats, rdCatL, rdCatT, rdRepL, rdLen, rdTuple, rdList, rxList, rdInt, rdMax2, rdMin2, dgName, dgTup, dgCons, dgNil, deRefused, rdRepr, rdNeS, rdEqL, rdNeL, rdRepT, rdIsLn, noOwn, diSeq, diEn, diZp, diR1, diR2, noX,  eqOk_int, eqOk_bl, eqOk_non, eqv_int, eqv_bl, eqv_non, atI_0, atI_1, atI_2, atI_3, qty_non, qisI_non, qisB_non, qisL_non, qisU_non, qisS_non, qisD_non, qisNon_non, qcooked_non, qseq_non, qty_bl, qisI_bl, qisB_bl, qisL_bl, qisU_bl, qisS_bl, qisD_bl, qisNon_bl, qcooked_bl, qseq_bl, qty_int, qisI_int, qisB_int, qisL_int, qisU_int, qisS_int, qisD_int, qisNon_int, qcooked_int, qseq_int, qty_str, qisI_str, qisB_str, qisL_str, qisU_str, qisS_str, qisD_str, qisNon_str, qcooked_str, qseq_str, qty_lst, qisI_lst, qisB_lst, qisL_lst, qisU_lst, qisS_lst, qisD_lst, qisNon_lst, qcooked_lst, qseq_lst, qty_tup, qisI_tup, qisB_tup, qisL_tup, qisU_tup, qisS_tup, qisD_tup, qisNon_tup, qcooked_tup, qseq_tup, qty_dct, qisI_dct, qisB_dct, qisL_dct, qisU_dct, qisS_dct, qisD_dct, qisNon_dct, qcooked_dct, qseq_dct, qix_lst, qsl_lst, qix_tup, qsl_tup, qisNon_ln, qcooked_ln, and_assoc, exists_and_left, exists_eq_left, exists_eq_left', exists_eq_right, dxLc_eq, dsFor_eq, rngD_0, rngD_eq, zipD_map, enumD_map0, D.isNon]
    exact o
  | bl b =>
    simp [startD, wipeD, dsRet, dsRetN, dsIf, dsSeq, dsNext, dsAsg, dsDrop, dsBreak, dsCont, dsPar, dsAug, dsFrz, dsApp, dsExt, dsPut, dsAugO, dsOwn, dsParOO, dsParDO, dsParDDO, dsFrzA, dxRep, diOwn, dsRaise, deAnd, deOr, deNot, de1, de2, deB, deX, dxB, dxLst, deName, deC, deCall, deIxO, deLenO, deTup, deLst, daCons, daNil, daStar, deChain, dtChain, dtV, dtAnd, dtOr, dtNot, dtYes, deIf, deSl, doNone, doSome, rdAdd, rdSub, rdMul, rdMod, rdDiv, rdPow, rdI, rdIc, rdB, rdLt, rdLe, rdGt, rdGe, rdNeg, rdIs, rdEq, rdNe, rdIx, rdIsN, rdNotN, rdIsB, rdNotB, rdRev, rdSeats, rdCatL, rdCatT, rdRepL, rdLen, rdTuple, rdList, rxList, rdInt, rdMax2, rdMin2, dgName, dgTup, dgCons, dgNil, deRefused, rdRepr, rdNeS, rdEqL, rdNeL, rdRepT, rdIsLn, noOwn, diSeq, diEn, diZp, diR1, diR2, noX,  eqOk_int, eqOk_bl, eqOk_non, eqv_int, eqv_bl, eqv_non, atI_0, atI_1, atI_2, atI_3, qty_non, qisI_non, qisB_non, qisL_non, qisU_non, qisS_non, qisD_non, qisNon_non, qcooked_non, qseq_non, qty_bl, qisI_bl, qisB_bl, qisL_bl, qisU_bl, qisS_bl, qisD_bl, qisNon_bl, qcooked_bl, qseq_bl, qty_int, qisI_int, qisB_int, qisL_int, qisU_int, qisS_int, qisD_int, qisNon_int, qcooked_int, qseq_int, qty_str, qisI_str, qisB_str, qisL_str, qisU_str, qisS_str, qisD_str, qisNon_str, qcooked_str, qseq_str, qty_lst, qisI_lst, qisB_lst, qisL_lst, qisU_lst, qisS_lst, qisD_lst, qisNon_lst, qcooked_lst, qseq_lst, qty_tup, qisI_tup, qisB_tup, qisL_tup, qisU_tup, qisS_tup, qisD_tup, qisNon_tup, qcooked_tup, qseq_tup, qty_dct, qisI_dct, qisB_dct, qisL_dct, qisU_dct, qisS_dct, qisD_dct, qisNon_dct, qcooked_dct, qseq_dct, qix_lst, qsl_lst, qix_tup, qsl_tup, qisNon_ln, qcooked_ln, and_assoc, exists_and_left, exists_eq_left, exists_eq_left', exists_eq_right, dxLc_eq, dsFor_eq, rngD_0, rngD_eq, zipD_map, enumD_map0, D.isNon]
    exact o
  | int i =>
    simp [startD, wipeD, dsRet, dsRetN, dsIf, dsSeq, dsNext, dsAsg, dsDrop, dsBreak, dsCont, dsPar, dsAug, dsFrz, dsApp, dsExt, dsPut, dsAugO, dsOwn, dsParOO, dsParDO, dsParDDO, dsFrzA, dxRep, diOwn, dsRaise, deAnd, deOr, deNot, de1, de2, deB, deX, dxB, dxLst, deName, deC, deCall, deIxO, deLenO, deTup, deLst, daCons, daNil, daStar, deChain, dtChain, dtV, dtAnd, dtOr, dtNot, dtYes, deIf, deSl, doNone, doSome, rdAdd, rdSub, rdMul, rdMod, rdDiv, rdPow, rdI, rdIc, rdB, rdLt, rdLe, rdGt, rdGe, rdNeg, rdIs, rdEq, rdNe, rdIx, rdIsN, rdNotN, rdIsB, rdNotB, rdRev, rdSeats, rdCatL, rdCatT, rdRepL, rdLen, rdTuple, rdList, rxList, rdInt, rdMax2, rdMin2, dgName, dgTup, dgCons, dgNil, deRefused, rdRepr, rdNeS, rdEqL, rdNeL, rdRepT, rdIsLn, noOwn, diSeq, diEn, diZp, diR1, diR2, noX,  eqOk_int, eqOk_bl, eqOk_non, eqv_int, eqv_bl, eqv_non, atI_0, atI_1, atI_2, atI_3, qty_non, qisI_non, qisB_non, qisL_non, qisU_non, qisS_non, qisD_non, qisNon_non, qcooked_non, qseq_non, qty_bl, qisI_bl, qisB_bl, qisL_bl, qisU_bl, qisS_bl, qisD_bl, qisNon_bl, qcooked_bl, qseq_bl, qty_int, qisI_int, qisB_int, qisL_int, qisU_int, qisS_int, qisD_int, qisNon_int, qcooked_int, qseq_int, qty_str, qisI_str, qisB_str, qisL_str, qisU_str, qisS_str, qisD_str, qisNon_str, qcooked_str, qseq_str, qty_lst, qisI_lst, qisB_lst, qisL_lst, qisU_lst, qisS_lst, qisD_lst, qisNon_lst, qcooked_lst, qseq_lst, qty_tup, qisI_tup, qisB_tup, qisL_tup, qisU_tup, qisS_tup, qisD_tup, qisNon_tup, qcooked_tup, qseq_tup, qty_dct, qisI_dct, qisB_dct, qisL_dct, qisU_dct, qisS_dct, qisD_dct, qisNon_dct, qcooked_dct, qseq_dct, qix_lst, qsl_lst, qix_tup, qsl_tup, qisNon_ln, qcooked_ln, and_assoc, exists_and_left, exists_eq_left, exists_eq_left', exists_eq_right, dxLc_eq, dsFor_eq, rngD_0, rngD_eq, zipD_map, enumD_map0, D.isNon]
    exact o
  | str z =>
    have hz : (D.str z).eqOk = true := eqOk_fit (n := 0) (by cases n <;> exact ha)
    simp [startD, wipeD, dsRet, dsRetN, dsIf, dsSeq, dsNext, dsAsg, dsDrop, dsBreak, dsCont, dsPar, dsAug, dsFrz, dsApp, dsExt, dsPut, dsAugO, dsOwn, dsParOO, dsParDO, dsParDDO, dsFrzA, dxRep, diOwn, dsRaise, deAnd, deOr, deNot, de1, de2, deB, deX, dxB, dxLst, deName, deC, deCall, deIxO, deLenO, deTup, deLst, daCons, daNil, daStar, deChain, dtChain, dtV, dtAnd, dtOr, dtNot, dtYes, deIf, deSl, doNone, doSome, rdAdd, rdSub, rdMul, rdMod, rdDiv, rdPow, rdI, rdIc, rdB, rdLt, rdLe, rdGt, rdGe, rdNeg, rdIs, rdEq, rdNe, rdIx, rdIsN, rdNotN, rdIsB, rdNotB, rdRev, rdSeats, rdCatL, rdCatT, rdRepL, rdLen, rdTuple, rdList, rxList, rdInt, rdMax2, rdMin2, dgName, dgTup, dgCons, dgNil, deRefused, rdRepr, rdNeS, rdEqL, rdNeL, rdRepT, rdIsLn, noOwn, diSeq, diEn, diZp, diR1, diR2, noX,  eqOk_int, eqOk_bl, eqOk_non, eqv_int, eqv_bl, eqv_non, atI_0, atI_1, atI_2, atI_3, qty_non, qisI_non, qisB_non, qisL_non, qisU_non, qisS_non, qisD_non, qisNon_non, qcooked_non, qseq_non, qty_bl, qisI_bl, qisB_bl, qisL_bl, qisU_bl, qisS_bl, qisD_bl, qisNon_bl, qcooked_bl, qseq_bl, qty_int, qisI_int, qisB_int, qisL_int, qisU_int, qisS_int, qisD_int, qisNon_int, qcooked_int, qseq_int, qty_str, qisI_str, qisB_str, qisL_str, qisU_str, qisS_str, qisD_str, qisNon_str, qcooked_str, qseq_str, qty_lst, qisI_lst, qisB_lst, qisL_lst, qisU_lst, qisS_lst, qisD_lst, qisNon_lst, qcooked_lst, qseq_lst, qty_tup, qisI_tup, qisB_tup, qisL_tup, qisU_tup, qisS_tup, qisD_tup, qisNon_tup, qcooked_tup, qseq_tup, qty_dct, qisI_dct, qisB_dct, qisL_dct, qisU_dct, qisS_dct, qisD_dct, qisNon_dct, qcooked_dct, qseq_dct, qix_lst, qsl_lst, qix_tup, qsl_tup, qisNon_ln, qcooked_ln, and_assoc, exists_and_left, exists_eq_left, exists_eq_left', exists_eq_right, dxLc_eq, dsFor_eq, rngD_0, rngD_eq, zipD_map, enumD_map0, D.isNon, hz, D.eqv_refl hz]
    exact o
  | lst xs =>
    obtain ⟨hl, m, rfl, hx⟩ := alk_seq ha rfl
    simp [startD, wipeD, dsRet, dsRetN, dsIf, dsSeq, dsNext, dsAsg, dsDrop, dsBreak, dsCont, dsPar, dsAug, dsFrz, dsApp, dsExt, dsPut, dsAugO, dsOwn, dsParOO, dsParDO, dsParDDO, dsFrzA, dxRep, diOwn, dsRaise, deAnd, deOr, deNot, de1, de2, deB, deX, dxB, dxLst, deName, deC, deCall, deIxO, deLenO, deTup, deLst, daCons, daNil, daStar, deChain, dtChain, dtV, dtAnd, dtOr, dtNot, dtYes, deIf, deSl, doNone, doSome, rdAdd, rdSub, rdMul, rdMod, rdDiv, rdPow, rdI, rdIc, rdB, rdLt, rdLe, rdGt, rdGe, rdNeg, rdIs, rdEq, rdNe, rdIx, rdIsN, rdNotN, rdIsB, rdNotB, rdRev, rdSeats, rdCatL, rdCatT, rdRepL, rdLen, rdTuple, rdList, rxList, rdInt, rdMax2, rdMin2, dgName, dgTup, dgCons, dgNil, deRefused, rdRepr, rdNeS, rdEqL, rdNeL, rdRepT, rdIsLn, noOwn, diSeq, diEn, diZp, diR1, diR2, noX,  eqOk_int, eqOk_bl, eqOk_non, eqv_int, eqv_bl, eqv_non, atI_0, atI_1, atI_2, atI_3, qty_non, qisI_non, qisB_non, qisL_non, qisU_non, qisS_non, qisD_non, qisNon_non, qcooked_non, qseq_non, qty_bl, qisI_bl, qisB_bl, qisL_bl, qisU_bl, qisS_bl, qisD_bl, qisNon_bl, qcooked_bl, qseq_bl, qty_int, qisI_int, qisB_int, qisL_int, qisU_int, qisS_int, qisD_int, qisNon_int, qcooked_int, qseq_int, qty_str, qisI_str, qisB_str, qisL_str, qisU_str, qisS_str, qisD_str, qisNon_str, qcooked_str, qseq_str, qty_lst, qisI_lst, qisB_lst, qisL_lst, qisU_lst, qisS_lst, qisD_lst, qisNon_lst, qcooked_lst, qseq_lst, qty_tup, qisI_tup, qisB_tup, qisL_tup, qisU_tup, qisS_tup, qisD_tup, qisNon_tup, qcooked_tup, qseq_tup, qty_dct, qisI_dct, qisB_dct, qisL_dct, qisU_dct, qisS_dct, qisD_dct, qisNon_dct, qcooked_dct, qseq_dct, qix_lst, qsl_lst, qix_tup, qsl_tup, qisNon_ln, qcooked_ln, and_assoc, exists_and_left, exists_eq_left, exists_eq_left', exists_eq_right, dxLc_eq, dsFor_eq, rngD_0, rngD_eq, zipD_map, enumD_map0, D.isNon]
    refine ⟨by omega, lb_onF (List.range xs.length) (fun i => .int (i : Int)) (fun _ => false) (by simp; omega) (fun i hi R1 R2 k1 k2 => ?_) ?_⟩
    · have hi' : i < xs.length := List.mem_range.mp hi
      simp [startD, wipeD, dsRet, dsRetN, dsIf, dsSeq, dsNext, dsAsg, dsDrop, dsBreak, dsCont, dsPar, dsAug, dsFrz, dsApp, dsExt, dsPut, dsAugO, dsOwn, dsParOO, dsParDO, dsParDDO, dsFrzA, dxRep, diOwn, dsRaise, deAnd, deOr, deNot, de1, de2, deB, deX, dxB, dxLst, deName, deC, deCall, deIxO, deLenO, deTup, deLst, daCons, daNil, daStar, deChain, dtChain, dtV, dtAnd, dtOr, dtNot, dtYes, deIf, deSl, doNone, doSome, rdAdd, rdSub, rdMul, rdMod, rdDiv, rdPow, rdI, rdIc, rdB, rdLt, rdLe, rdGt, rdGe, rdNeg, rdIs, rdEq, rdNe, rdIx, rdIsN, rdNotN, rdIsB, rdNotB, rdRev, rdSeats, rdCatL, rdCatT, rdRepL, rdLen, rdTuple, rdList, rxList, rdInt, rdMax2, rdMin2, dgName, dgTup, dgCons, dgNil, deRefused, rdRepr, rdNeS, rdEqL, rdNeL, rdRepT, rdIsLn, noOwn, diSeq, diEn, diZp, diR1, diR2, noX,  eqOk_int, eqOk_bl, eqOk_non, eqv_int, eqv_bl, eqv_non, atI_0, atI_1, atI_2, atI_3, qty_non, qisI_non, qisB_non, qisL_non, qisU_non, qisS_non, qisD_non, qisNon_non, qcooked_non, qseq_non, qty_bl, qisI_bl, qisB_bl, qisL_bl, qisU_bl, qisS_bl, qisD_bl, qisNon_bl, qcooked_bl, qseq_bl, qty_int, qisI_int, qisB_int, qisL_int, qisU_int, qisS_int, qisD_int, qisNon_int, qcooked_int, qseq_int, qty_str, qisI_str, qisB_str, qisL_str, qisU_str, qisS_str, qisD_str, qisNon_str, qcooked_str, qseq_str, qty_lst, qisI_lst, qisB_lst, qisL_lst, qisU_lst, qisS_lst, qisD_lst, qisNon_lst, qcooked_lst, qseq_lst, qty_tup, qisI_tup, qisB_tup, qisL_tup, qisU_tup, qisS_tup, qisD_tup, qisNon_tup, qcooked_tup, qseq_tup, qty_dct, qisI_dct, qisB_dct, qisL_dct, qisU_dct, qisS_dct, qisD_dct, qisNon_dct, qcooked_dct, qseq_dct, qix_lst, qsl_lst, qix_tup, qsl_tup, qisNon_ln, qcooked_ln, and_assoc, exists_and_left, exists_eq_left, exists_eq_left', exists_eq_right, dxLc_eq, dsFor_eq, rngD_0, rngD_eq, zipD_map, enumD_map0, atI_nat', hi', spAlike, hx xs[i] (List.getElem_mem hi')]
      exact k2 rfl
    · rw [List.filter_eq_nil_iff.mpr (by simp)]
      simp [eqOk_lst0, eqv_lst0]
      exact o
  | tup xs =>
    obtain ⟨hl, m, rfl, hx⟩ := alk_seq ha rfl
    simp [startD, wipeD, dsRet, dsRetN, dsIf, dsSeq, dsNext, dsAsg, dsDrop, dsBreak, dsCont, dsPar, dsAug, dsFrz, dsApp, dsExt, dsPut, dsAugO, dsOwn, dsParOO, dsParDO, dsParDDO, dsFrzA, dxRep, diOwn, dsRaise, deAnd, deOr, deNot, de1, de2, deB, deX, dxB, dxLst, deName, deC, deCall, deIxO, deLenO, deTup, deLst, daCons, daNil, daStar, deChain, dtChain, dtV, dtAnd, dtOr, dtNot, dtYes, deIf, deSl, doNone, doSome, rdAdd, rdSub, rdMul, rdMod, rdDiv, rdPow, rdI, rdIc, rdB, rdLt, rdLe, rdGt, rdGe, rdNeg, rdIs, rdEq, rdNe, rdIx, rdIsN, rdNotN, rdIsB, rdNotB, rdRev, rdSeats, rdCatL, rdCatT, rdRepL, rdLen, rdTuple, rdList, rxList, rdInt, rdMax2, rdMin2, dgName, dgTup, dgCons, dgNil, deRefused, rdRepr, rdNeS, rdEqL, rdNeL, rdRepT, rdIsLn, noOwn, diSeq, diEn, diZp, diR1, diR2, noX,  eqOk_int, eqOk_bl, eqOk_non, eqv_int, eqv_bl, eqv_non, atI_0, atI_1, atI_2, atI_3, qty_non, qisI_non, qisB_non, qisL_non, qisU_non, qisS_non, qisD_non, qisNon_non, qcooked_non, qseq_non, qty_bl, qisI_bl, qisB_bl, qisL_bl, qisU_bl, qisS_bl, qisD_bl, qisNon_bl, qcooked_bl, qseq_bl, qty_int, qisI_int, qisB_int, qisL_int, qisU_int, qisS_int, qisD_int, qisNon_int, qcooked_int, qseq_int, qty_str, qisI_str, qisB_str, qisL_str, qisU_str, qisS_str, qisD_str, qisNon_str, qcooked_str, qseq_str, qty_lst, qisI_lst, qisB_lst, qisL_lst, qisU_lst, qisS_lst, qisD_lst, qisNon_lst, qcooked_lst, qseq_lst, qty_tup, qisI_tup, qisB_tup, qisL_tup, qisU_tup, qisS_tup, qisD_tup, qisNon_tup, qcooked_tup, qseq_tup, qty_dct, qisI_dct, qisB_dct, qisL_dct, qisU_dct, qisS_dct, qisD_dct, qisNon_dct, qcooked_dct, qseq_dct, qix_lst, qsl_lst, qix_tup, qsl_tup, qisNon_ln, qcooked_ln, and_assoc, exists_and_left, exists_eq_left, exists_eq_left', exists_eq_right, dxLc_eq, dsFor_eq, rngD_0, rngD_eq, zipD_map, enumD_map0, D.isNon]
    refine ⟨by omega, lb_onF (List.range xs.length) (fun i => .int (i : Int)) (fun _ => false) (by simp; omega) (fun i hi R1 R2 k1 k2 => ?_) ?_⟩
    · have hi' : i < xs.length := List.mem_range.mp hi
      simp [startD, wipeD, dsRet, dsRetN, dsIf, dsSeq, dsNext, dsAsg, dsDrop, dsBreak, dsCont, dsPar, dsAug, dsFrz, dsApp, dsExt, dsPut, dsAugO, dsOwn, dsParOO, dsParDO, dsParDDO, dsFrzA, dxRep, diOwn, dsRaise, deAnd, deOr, deNot, de1, de2, deB, deX, dxB, dxLst, deName, deC, deCall, deIxO, deLenO, deTup, deLst, daCons, daNil, daStar, deChain, dtChain, dtV, dtAnd, dtOr, dtNot, dtYes, deIf, deSl, doNone, doSome, rdAdd, rdSub, rdMul, rdMod, rdDiv, rdPow, rdI, rdIc, rdB, rdLt, rdLe, rdGt, rdGe, rdNeg, rdIs, rdEq, rdNe, rdIx, rdIsN, rdNotN, rdIsB, rdNotB, rdRev, rdSeats, rdCatL, rdCatT, rdRepL, rdLen, rdTuple, rdList, rxList, rdInt, rdMax2, rdMin2, dgName, dgTup, dgCons, dgNil, deRefused, rdRepr, rdNeS, rdEqL, rdNeL, rdRepT, rdIsLn, noOwn, diSeq, diEn, diZp, diR1, diR2, noX,  eqOk_int, eqOk_bl, eqOk_non, eqv_int, eqv_bl, eqv_non, atI_0, atI_1, atI_2, atI_3, qty_non, qisI_non, qisB_non, qisL_non, qisU_non, qisS_non, qisD_non, qisNon_non, qcooked_non, qseq_non, qty_bl, qisI_bl, qisB_bl, qisL_bl, qisU_bl, qisS_bl, qisD_bl, qisNon_bl, qcooked_bl, qseq_bl, qty_int, qisI_int, qisB_int, qisL_int, qisU_int, qisS_int, qisD_int, qisNon_int, qcooked_int, qseq_int, qty_str, qisI_str, qisB_str, qisL_str, qisU_str, qisS_str, qisD_str, qisNon_str, qcooked_str, qseq_str, qty_lst, qisI_lst, qisB_lst, qisL_lst, qisU_lst, qisS_lst, qisD_lst, qisNon_lst, qcooked_lst, qseq_lst, qty_tup, qisI_tup, qisB_tup, qisL_tup, qisU_tup, qisS_tup, qisD_tup, qisNon_tup, qcooked_tup, qseq_tup, qty_dct, qisI_dct, qisB_dct, qisL_dct, qisU_dct, qisS_dct, qisD_dct, qisNon_dct, qcooked_dct, qseq_dct, qix_lst, qsl_lst, qix_tup, qsl_tup, qisNon_ln, qcooked_ln, and_assoc, exists_and_left, exists_eq_left, exists_eq_left', exists_eq_right, dxLc_eq, dsFor_eq, rngD_0, rngD_eq, zipD_map, enumD_map0, atI_nat', hi', spAlike, hx xs[i] (List.getElem_mem hi')]
      exact k2 rfl
    · rw [List.filter_eq_nil_iff.mpr (by simp)]
      simp [eqOk_lst0, eqv_lst0]
      exact o
  | raw v => cases n <;> cases ha
  | dct => cases n <;> cases ha
  | ln xs => cases n <;> cases ha
theorem ok__law_alike (T : Txt K mg) {f : Addr} {fd : FuncData} (F : FnP K "_law_alike" s__law_alike f fd) (hm : mg "_law_alike" = some (.ref f)) (hb : Binds K fd ["found", "due"] []) : FnOk P w K mg base (L2.CX P w) 8 f fd ["found", "due"] (spD K sp__law_alike) := by
  have zero : FnOk P w K mg base (L2.CX P w) 1 f fd ["found", "due"] (spD K (spAlike 0)) :=
    fnD (k := 0) F sc__law_alike (fun F ds O h => h.elim) (fun cdv A outer s G E ds O hr h hE => h.elim)
  have all : ∀ n : Nat, FnOk P w K mg base (L2.CX P w) (n + 1) f fd ["found", "due"] (spD K (spAlike n)) := by
    intro n
    induction n with
    | zero => exact zero
    | succ n ih => exact alike_step T F n (n + 1) (Cl.mk' F ih hm hb)
  exact all 7

end
end K14
end
-- F_14__law_line
section
set_option Elab.async false
set_option linter.all false
set_option maxRecDepth 100000
set_option maxHeartbeats 4000000
set_option autoImplicit false
namespace K14
open PySem PySem.Spec PyProof.Rows L2 Sd
section
variable {P : Program} {w : World} {K : PySem.W.Frag} {mg : Str → Option Value} {base : Heap}
theorem ok__law_line (T : Txt K mg) {f : Addr} {fd : FuncData} (F : FnP K "_law_line" s__law_line f fd) (c__law_pick : Cl P w K mg base 2 "_law_pick" sp__law_pick []) (c__law_taken : Cl P w K mg base 1 "_law_taken" sp__law_taken [])  : FnOk P w K mg base (L2.CX P w) 3 f fd ["row"] (spD K sp__law_line) := by
  have sc := sc__law_line
  refine fnD F sc (fun F ds O h => by
    obtain ⟨_, _, e, _⟩ := h
    rw [e] <;> rfl) (fun cdv A outer s G E ds O hr h hE => ⟨_, (pssd_cons (psd_set (i := 1) sc.nd rfl (Or.inr rfl) (pd_call c__law_pick hr (by first | decide | omega) (pad_cons (pd_name (pv 0)) (pad_cons (pd_lst (pad_cons pd_int (pad_cons pd_int (pad_cons pd_int pad_nil)))) pad_nil))))
  (pssd_one (psd_ret (pd_callTy call_tuple_of snd_tuple T.b_tuple (pad_cons (pd_x (pxd_lc (own := [(("k" : Str), 2)]) sc.nd (pid_r1 T.b_range (pad_cons (pd_add pd_int (pd_call c__law_taken hr (by first | decide | omega) (pad_cons (pd_name (pv 0)) (pad_cons (pd_call c__law_pick hr (by first | decide | omega) (pad_cons (pd_name (pv 0)) (pad_cons (pd_lst (pad_cons pd_int (pad_cons pd_int (pad_cons pd_int pad_nil)))) pad_nil))) pad_nil)))) pad_nil)) (by kernel_rfl) (fun _ _ _ _ _ => (pgc_name (i := 2) sc.nd rfl (by first | exact Or.inl rfl | exact Or.inr rfl) (by decide))) (fun _ _ _ _ _ => ptsd_nil) (fun _ _ _ _ _ => (pd_call c__law_taken hr (by first | decide | omega) (pad_cons (pd_name (pv 0)) (pad_cons (pd_name (pv 1)) pad_nil)))))) pad_nil))))), ?_⟩)
  obtain ⟨r, sa, rfl, h⟩ := h
  obtain ⟨hrow, o⟩ := h
  have key : ∀ (n m : Int), 0 ≤ n → n < 10 → 0 < m → m ≤ 21 → lcB ((List.range (1 + n).toNat).map fun i : Nat => .int (i : Int)) (dgName 2) dtYes (deCall sp__law_taken G.F noX [] (daCons (deName 0) (daCons (deName 1) daNil))) [2] [.dat (.raw (.ref r)), .dat (.int m), .un] fun xs => O (.ret (.tup xs)) := by
    intro n m n0 n1 m0 m1
    refine lb_onA (List.range (1 + n).toNat) D.int (fun _ y => 0 ≤ y ∧ y < m) (by simp; omega) (fun x hx R hR => ?_) (fun ys hl hy => ?_)
    · simp [deCall, sp__law_taken, daCons, daNil, deName, dgName, wipeD]
      exact ⟨r, sa, m, ⟨rfl, rfl⟩, hrow, m0, by omega, fun n n0 n1 => hR n ⟨n0, n1⟩⟩
    · rw [List.length_range] at hl
      refine o ys (by omega) (by omega) fun s hs => ?_
      obtain ⟨i, hi, e⟩ := List.getElem_of_mem hs
      have := hy i i s (List.getElem?_range (by omega)) (by rw [← e]; exact List.getElem?_eq_getElem hi)
      omega
  simp [startD, wipeD, dsRet, dsRetN, dsIf, dsSeq, dsNext, dsAsg, dsDrop, dsBreak, dsCont, dsPar, dsAug, dsFrz, dsApp, dsExt, dsPut, dsAugO, dsOwn, dsParOO, dsParDO, dsParDDO, dsFrzA, dxRep, diOwn, dsRaise, deAnd, deOr, deNot, de1, de2, deB, deX, dxB, dxLst, deName, deC, deCall, deIxO, deLenO, deTup, deLst, daCons, daNil, daStar, deChain, dtChain, dtV, dtAnd, dtOr, dtNot, dtYes, deIf, deSl, doNone, doSome, rdAdd, rdSub, rdMul, rdMod, rdDiv, rdPow, rdI, rdIc, rdB, rdLt, rdLe, rdGt, rdGe, rdNeg, rdIs, rdEq, rdNe, rdIx, rdIsN, rdNotN, rdIsB, rdNotB, rdRev, rdSeats, rdCatL, rdCatT, rdRepL, rdLen, rdTuple, rdList, rxList, rdInt, rdMax2, rdMin2, dgName, dgTup, dgCons, dgNil, deRefused, rdRepr, rdNeS, rdEqL, rdNeL, rdRepT, rdIsLn, noOwn, diSeq, diEn, diZp, diR1, diR2, noX,  eqOk_int, eqOk_bl, eqOk_non, eqv_int, eqv_bl, eqv_non, atI_0, atI_1, atI_2, atI_3, qty_non, qisI_non, qisB_non, qisL_non, qisU_non, qisS_non, qisD_non, qisNon_non, qcooked_non, qseq_non, qty_bl, qisI_bl, qisB_bl, qisL_bl, qisU_bl, qisS_bl, qisD_bl, qisNon_bl, qcooked_bl, qseq_bl, qty_int, qisI_int, qisB_int, qisL_int, qisU_int, qisS_int, qisD_int, qisNon_int, qcooked_int, qseq_int, qty_str, qisI_str, qisB_str, qisL_str, qisU_str, qisS_str, qisD_str, qisNon_str, qcooked_str, qseq_str, qty_lst, qisI_lst, qisB_lst, qisL_lst, qisU_lst, qisS_lst, qisD_lst, qisNon_lst, qcooked_lst, qseq_lst, qty_tup, qisI_tup, qisB_tup, qisL_tup, qisU_tup, qisS_tup, qisD_tup, qisNon_tup, qcooked_tup, qseq_tup, qty_dct, qisI_dct, qisB_dct, qisL_dct, qisU_dct, qisS_dct, qisD_dct, qisNon_dct, qcooked_dct, qseq_dct, qix_lst, qsl_lst, qix_tup, qsl_tup, qisNon_ln, qcooked_ln, and_assoc, exists_and_left, exists_eq_left, exists_eq_left', exists_eq_right, sp__law_pick, sp__law_taken, dxLc_eq, dsFor_eq, rngD_0, rngD_eq, zipD_map, enumD_map0]
  (repeat' first | (with_reducible exact ⟨_, hrow⟩) | (with_reducible apply And.intro) | intro _) <;> (try omega)
  all_goals exact key _ _ (by omega) (by omega) (by omega) (by omega)
end
end K14
end
-- F_14__law_seating
section
set_option Elab.async false
set_option linter.all false
set_option maxRecDepth 100000
set_option maxHeartbeats 4000000
set_option autoImplicit false
namespace K14
open PySem PySem.Spec PyProof.Rows L2 Sd
section
variable {P : Program} {w : World} {K : PySem.W.Frag} {mg : Str → Option Value} {base : Heap}
theorem ok__law_seating (T : Txt K mg) {f : Addr} {fd : FuncData} (F : FnP K "_law_seating" s__law_seating f fd)   : FnOk P w K mg base (L2.CX P w) 1 f fd ["people"] (spD K sp__law_seating) := by
  have sc := sc__law_seating
  refine fnD F sc (fun F ds O h => by
    obtain ⟨_, _, e, _⟩ := h
    rw [e] <;> rfl) (fun cdv A outer s G E ds O hr h hE => ⟨_, (pssd_cons (psd_asgOO (i := 1) (j := 2) sc.nd rfl rfl (by decide) (Or.inl rfl) (Or.inr rfl) (pxd_rep (pd_lst (pad_cons pd_int pad_nil)) (pd_callB call_len_seq snd_len T.b_len (pad_cons (pd_name (pv 0)) pad_nil))) (pxd_lst pad_nil))
  (pssd_cons (psd_for (passes_of rfl) (pid_seq (pd_callB cr_sortedPT snd_sortedP T.b_sorted (pad_cons (pd_x (pxd_lc (own := [(("at" : Str), 4), (("one" : Str), 6)]) sc.nd (pid_en T.b_enumerate (pad_cons (pd_name (pv 0)) pad_nil)) (by kernel_rfl) (fun _ _ _ _ _ => (pgc_tup (n := 2) (pgcs_cons (pgc_name (i := 4) sc.nd rfl (by first | exact Or.inl rfl | exact Or.inr rfl) (by decide)) (pgcs_cons (pgc_name (i := 6) sc.nd rfl (by first | exact Or.inl rfl | exact Or.inr rfl) (by decide)) pgcs_nil)))) (fun _ _ _ _ _ => ptsd_nil) (fun _ _ _ _ _ => (pd_tup (pad_cons (pd_item (pd_name (pv 6)) pd_int) (pad_cons (pd_name (pv 4)) pad_nil)))))) pad_nil))) (pgd_tup (n := 2) (pgsd_cons (pgd_name (i := 3) sc.nd rfl (Or.inr rfl)) (pgsd_cons (pgd_name (i := 4) sc.nd rfl (Or.inl rfl)) pgsd_nil)))
  (pssd_cons (psd_setLc (i := 5) sc.nd rfl rfl (sw_true rfl rfl rfl (by kernel_rfl)) (own := [(("seat" : Str), 7)]) (pid_r1 T.b_range (pad_cons (pd_callB call_len_seq snd_len T.b_len (pad_cons (pd_name (pv 0)) pad_nil)) pad_nil)) (by kernel_rfl) (fun _ _ _ _ _ => (pgc_name (i := 7) sc.nd rfl (by first | exact Or.inl rfl | exact Or.inr rfl) (by decide))) (fun _ _ _ _ _ => (ptsd_one (ptd_eq hr.units (pd_x (pxd_lcF (own := [(("one" : Str), 6)]) sc.nd (pid_nmO (i := 2) (pv 2)) (by kernel_rfl) (fun _ _ _ _ _ => (pgc_name (i := 6) sc.nd rfl (by first | exact Or.inl rfl | exact Or.inr rfl) (by decide))) (fun _ _ _ _ _ => (ptsd_one (ptd_w (pwd_and (ptd_eq hr.units (pd_item (pd_name (pv 6)) pd_int) (pd_name (pv 7))) (pwd_and1 (ptd_gt (pd_item (pd_name (pv 6)) pd_int) (pd_name (pv 3)))))))) (fun _ _ _ _ _ => (pd_name (pv 6))))) (pd_lst pad_nil)))) (fun _ _ _ _ _ => (pd_name (pv 7))))
  (pssd_cons (psd_put (i := 1) (pv 1) (pd_name (pv 4)) (pd_item (pd_name (pv 5)) pd_int))
  (pssd_one (psd_app (i := 2) (pv 2) (pd_tup (pad_cons (pd_item (pd_name (pv 5)) pd_int) (pad_cons (pd_item (pd_item (pd_name (pv 0)) (pd_name (pv 4))) pd_int) pad_nil))))))))
  (pssd_one (psd_frz 1 (psd_ret (pd_name (pv 1))))))), ?_⟩)
  obtain ⟨t, ps, rfl, h⟩ := h
  obtain ⟨hs, hl, hp, o⟩ := h
  simp [startD, wipeD, dsRet, dsRetN, dsIf, dsSeq, dsNext, dsAsg, dsDrop, dsBreak, dsCont, dsPar, dsAug, dsFrz, dsApp, dsExt, dsPut, dsAugO, dsOwn, dsParOO, dsParDO, dsParDDO, dsFrzA, dxRep, diOwn, dsRaise, deAnd, deOr, deNot, de1, de2, deB, deX, dxB, dxLst, deName, deC, deCall, deIxO, deLenO, deTup, deLst, daCons, daNil, daStar, deChain, dtChain, dtV, dtAnd, dtOr, dtNot, dtYes, deIf, deSl, doNone, doSome, rdAdd, rdSub, rdMul, rdMod, rdDiv, rdPow, rdI, rdIc, rdB, rdLt, rdLe, rdGt, rdGe, rdNeg, rdIs, rdEq, rdNe, rdIx, rdIsN, rdNotN, rdIsB, rdNotB, rdRev, rdSeats, rdCatL, rdCatT, rdRepL, rdLen, rdTuple, rdList, rxList, rdInt, rdMax2, rdMin2, dgName, dgTup, dgCons, dgNil, deRefused, rdRepr, rdNeS, rdEqL, rdNeL, rdRepT, rdIsLn, noOwn, diSeq, diEn, diZp, diR1, diR2, noX,  eqOk_int, eqOk_bl, eqOk_non, eqv_int, eqv_bl, eqv_non, atI_0, atI_1, atI_2, atI_3, qty_non, qisI_non, qisB_non, qisL_non, qisU_non, qisS_non, qisD_non, qisNon_non, qcooked_non, qseq_non, qty_bl, qisI_bl, qisB_bl, qisL_bl, qisU_bl, qisS_bl, qisD_bl, qisNon_bl, qcooked_bl, qseq_bl, qty_int, qisI_int, qisB_int, qisL_int, qisU_int, qisS_int, qisD_int, qisNon_int, qcooked_int, qseq_int, qty_str, qisI_str, qisB_str, qisL_str, qisU_str, qisS_str, qisD_str, qisNon_str, qcooked_str, qseq_str, qty_lst, qisI_lst, qisB_lst, qisL_lst, qisU_lst, qisS_lst, qisD_lst, qisNon_lst, qcooked_lst, qseq_lst, qty_tup, qisI_tup, qisB_tup, qisL_tup, qisU_tup, qisS_tup, qisD_tup, qisNon_tup, qcooked_tup, qseq_tup, qty_dct, qisI_dct, qisB_dct, qisL_dct, qisU_dct, qisS_dct, qisD_dct, qisNon_dct, qcooked_dct, qseq_dct, qix_lst, qsl_lst, qix_tup, qsl_tup, qisNon_ln, qcooked_ln, and_assoc, exists_and_left, exists_eq_left, exists_eq_left', exists_eq_right, dxLc_eq, dsFor_eq, rngD_0, rngD_eq, zipD_map, enumD_map0, hs]
  refine ⟨by omega, by omega, ?_⟩
  refine lb_on ps.zipIdx (fun x => prD (x.1.1, (x.2 : Int))) (by simp; omega) (fun x hx R hR => ?_) ?_
  · simp [startD, wipeD, dsRet, dsRetN, dsIf, dsSeq, dsNext, dsAsg, dsDrop, dsBreak, dsCont, dsPar, dsAug, dsFrz, dsApp, dsExt, dsPut, dsAugO, dsOwn, dsParOO, dsParDO, dsParDDO, dsFrzA, dxRep, diOwn, dsRaise, deAnd, deOr, deNot, de1, de2, deB, deX, dxB, dxLst, deName, deC, deCall, deIxO, deLenO, deTup, deLst, daCons, daNil, daStar, deChain, dtChain, dtV, dtAnd, dtOr, dtNot, dtYes, deIf, deSl, doNone, doSome, rdAdd, rdSub, rdMul, rdMod, rdDiv, rdPow, rdI, rdIc, rdB, rdLt, rdLe, rdGt, rdGe, rdNeg, rdIs, rdEq, rdNe, rdIx, rdIsN, rdNotN, rdIsB, rdNotB, rdRev, rdSeats, rdCatL, rdCatT, rdRepL, rdLen, rdTuple, rdList, rxList, rdInt, rdMax2, rdMin2, dgName, dgTup, dgCons, dgNil, deRefused, rdRepr, rdNeS, rdEqL, rdNeL, rdRepT, rdIsLn, noOwn, diSeq, diEn, diZp, diR1, diR2, noX,  eqOk_int, eqOk_bl, eqOk_non, eqv_int, eqv_bl, eqv_non, atI_0, atI_1, atI_2, atI_3, qty_non, qisI_non, qisB_non, qisL_non, qisU_non, qisS_non, qisD_non, qisNon_non, qcooked_non, qseq_non, qty_bl, qisI_bl, qisB_bl, qisL_bl, qisU_bl, qisS_bl, qisD_bl, qisNon_bl, qcooked_bl, qseq_bl, qty_int, qisI_int, qisB_int, qisL_int, qisU_int, qisS_int, qisD_int, qisNon_int, qcooked_int, qseq_int, qty_str, qisI_str, qisB_str, qisL_str, qisU_str, qisS_str, qisD_str, qisNon_str, qcooked_str, qseq_str, qty_lst, qisI_lst, qisB_lst, qisL_lst, qisU_lst, qisS_lst, qisD_lst, qisNon_lst, qcooked_lst, qseq_lst, qty_tup, qisI_tup, qisB_tup, qisL_tup, qisU_tup, qisS_tup, qisD_tup, qisNon_tup, qcooked_tup, qseq_tup, qty_dct, qisI_dct, qisB_dct, qisL_dct, qisU_dct, qisS_dct, qisD_dct, qisNon_dct, qcooked_dct, qseq_dct, qix_lst, qsl_lst, qix_tup, qsl_tup, qisNon_ln, qcooked_ln, and_assoc, exists_and_left, exists_eq_left, exists_eq_left', exists_eq_right, prD]
    exact hR
  refine ⟨starts ps, by rw [zip_starts], fun qs hq hsd => ?_⟩
  have eq := order_of hq hsd
  subst eq
  refine ⟨_, rfl, ?_⟩
  refine fb_on (order ps) (fun i δ' => ∃ (hd : List (Int × Int)) (a b c d e : Sl), δ' = [.dat t, .own ((seatRun ps ((order ps).take i)).1.map .int), .own (hd.map prD), a, b, c, d, e] ∧ hd.length = i ∧ HeldI hd (seatRun ps ((order ps).take i)).2) ⟨[], .un, .un, .un, .un, .un, by rw [repD_one]; simp only [seatRun, List.take_zero, List.foldl_nil, List.map_replicate, List.map_nil], rfl, ⟨fun x h => (List.not_mem_nil h).elim, fun s u h => by have h2 : (([] : List Int))[s]? = some u := h; rw [List.getElem?_nil] at h2; cases h2⟩⟩ (fun i q δ' hi hj => ?_) (fun δ' hj => ?_)
  · obtain ⟨hd, a, b, c, d, e, rfl, hdl, HI⟩ := hj
    obtain ⟨k, hk, rfl⟩ := order_mem (List.mem_of_getElem? hi)
    have esn := seatRun_snoc ps ((order ps).take i) (psS ps k, (k : Int))
    rw [← take_snoc hi] at esn
    have hln := seatRun_len ps ((order ps).take i)
    have hil := (List.getElem?_eq_some_iff.mp hi).1
    rw [order_len] at hil
    rw [List.length_take] at hln
    rw [esn]
    generalize seatRun ps ((order ps).take i) = st at hln HI
    obtain ⟨fo, us⟩ := st
    simp only at hln HI
    simp [startD, wipeD, dsRet, dsRetN, dsIf, dsSeq, dsNext, dsAsg, dsDrop, dsBreak, dsCont, dsPar, dsAug, dsFrz, dsApp, dsExt, dsPut, dsAugO, dsOwn, dsParOO, dsParDO, dsParDDO, dsFrzA, dxRep, diOwn, dsRaise, deAnd, deOr, deNot, de1, de2, deB, deX, dxB, dxLst, deName, deC, deCall, deIxO, deLenO, deTup, deLst, daCons, daNil, daStar, deChain, dtChain, dtV, dtAnd, dtOr, dtNot, dtYes, deIf, deSl, doNone, doSome, rdAdd, rdSub, rdMul, rdMod, rdDiv, rdPow, rdI, rdIc, rdB, rdLt, rdLe, rdGt, rdGe, rdNeg, rdIs, rdEq, rdNe, rdIx, rdIsN, rdNotN, rdIsB, rdNotB, rdRev, rdSeats, rdCatL, rdCatT, rdRepL, rdLen, rdTuple, rdList, rxList, rdInt, rdMax2, rdMin2, dgName, dgTup, dgCons, dgNil, deRefused, rdRepr, rdNeS, rdEqL, rdNeL, rdRepT, rdIsLn, noOwn, diSeq, diEn, diZp, diR1, diR2, noX,  eqOk_int, eqOk_bl, eqOk_non, eqv_int, eqv_bl, eqv_non, atI_0, atI_1, atI_2, atI_3, qty_non, qisI_non, qisB_non, qisL_non, qisU_non, qisS_non, qisD_non, qisNon_non, qcooked_non, qseq_non, qty_bl, qisI_bl, qisB_bl, qisL_bl, qisU_bl, qisS_bl, qisD_bl, qisNon_bl, qcooked_bl, qseq_bl, qty_int, qisI_int, qisB_int, qisL_int, qisU_int, qisS_int, qisD_int, qisNon_int, qcooked_int, qseq_int, qty_str, qisI_str, qisB_str, qisL_str, qisU_str, qisS_str, qisD_str, qisNon_str, qcooked_str, qseq_str, qty_lst, qisI_lst, qisB_lst, qisL_lst, qisU_lst, qisS_lst, qisD_lst, qisNon_lst, qcooked_lst, qseq_lst, qty_tup, qisI_tup, qisB_tup, qisL_tup, qisU_tup, qisS_tup, qisD_tup, qisNon_tup, qcooked_tup, qseq_tup, qty_dct, qisI_dct, qisB_dct, qisL_dct, qisU_dct, qisS_dct, qisD_dct, qisNon_dct, qcooked_dct, qseq_dct, qix_lst, qsl_lst, qix_tup, qsl_tup, qisNon_ln, qcooked_ln, and_assoc, exists_and_left, exists_eq_left, exists_eq_left', exists_eq_right, dxLc_eq, dsFor_eq, rngD_0, rngD_eq, zipD_map, enumD_map0, prD, hs]
    refine ⟨by omega, ?_⟩
    have hkp := List.getElem?_eq_getElem hk
    have hpe : psE ps k = ps[k].2 := by
      unfold psE
      rw [hkp]
      rfl
    have hix : t.ix (D.int (k : Int)) = some (prD ps[k]) := by
      rw [ix_of hs, atI_nat', List.getElem?_map, hkp]
      rfl
    refine lb_onF (List.range ps.length) (fun s : Nat => .int (s : Int)) (freeAt hd (psS ps k)) (by simp; omega) (fun s hs2 R1 R2 r1 r2 => ?_) ?_
    · simp [startD, wipeD, dsRet, dsRetN, dsIf, dsSeq, dsNext, dsAsg, dsDrop, dsBreak, dsCont, dsPar, dsAug, dsFrz, dsApp, dsExt, dsPut, dsAugO, dsOwn, dsParOO, dsParDO, dsParDDO, dsFrzA, dxRep, diOwn, dsRaise, deAnd, deOr, deNot, de1, de2, deB, deX, dxB, dxLst, deName, deC, deCall, deIxO, deLenO, deTup, deLst, daCons, daNil, daStar, deChain, dtChain, dtV, dtAnd, dtOr, dtNot, dtYes, deIf, deSl, doNone, doSome, rdAdd, rdSub, rdMul, rdMod, rdDiv, rdPow, rdI, rdIc, rdB, rdLt, rdLe, rdGt, rdGe, rdNeg, rdIs, rdEq, rdNe, rdIx, rdIsN, rdNotN, rdIsB, rdNotB, rdRev, rdSeats, rdCatL, rdCatT, rdRepL, rdLen, rdTuple, rdList, rxList, rdInt, rdMax2, rdMin2, dgName, dgTup, dgCons, dgNil, deRefused, rdRepr, rdNeS, rdEqL, rdNeL, rdRepT, rdIsLn, noOwn, diSeq, diEn, diZp, diR1, diR2, noX,  eqOk_int, eqOk_bl, eqOk_non, eqv_int, eqv_bl, eqv_non, atI_0, atI_1, atI_2, atI_3, qty_non, qisI_non, qisB_non, qisL_non, qisU_non, qisS_non, qisD_non, qisNon_non, qcooked_non, qseq_non, qty_bl, qisI_bl, qisB_bl, qisL_bl, qisU_bl, qisS_bl, qisD_bl, qisNon_bl, qcooked_bl, qseq_bl, qty_int, qisI_int, qisB_int, qisL_int, qisU_int, qisS_int, qisD_int, qisNon_int, qcooked_int, qseq_int, qty_str, qisI_str, qisB_str, qisL_str, qisU_str, qisS_str, qisD_str, qisNon_str, qcooked_str, qseq_str, qty_lst, qisI_lst, qisB_lst, qisL_lst, qisU_lst, qisS_lst, qisD_lst, qisNon_lst, qcooked_lst, qseq_lst, qty_tup, qisI_tup, qisB_tup, qisL_tup, qisU_tup, qisS_tup, qisD_tup, qisNon_tup, qcooked_tup, qseq_tup, qty_dct, qisI_dct, qisB_dct, qisL_dct, qisU_dct, qisS_dct, qisD_dct, qisNon_dct, qcooked_dct, qseq_dct, qix_lst, qsl_lst, qix_tup, qsl_tup, qisNon_ln, qcooked_ln, and_assoc, exists_and_left, exists_eq_left, exists_eq_left', exists_eq_right, dxLc_eq, dsFor_eq, rngD_0, rngD_eq, zipD_map, enumD_map0]
      refine lb_onF hd prD (fun x => decide (x.1 = (s : Int)) && decide (psS ps k < x.2)) (by omega) (fun x hx Q1 Q2 q1 q2 => ?_) ?_
      · simp [startD, wipeD, dsRet, dsRetN, dsIf, dsSeq, dsNext, dsAsg, dsDrop, dsBreak, dsCont, dsPar, dsAug, dsFrz, dsApp, dsExt, dsPut, dsAugO, dsOwn, dsParOO, dsParDO, dsParDDO, dsFrzA, dxRep, diOwn, dsRaise, deAnd, deOr, deNot, de1, de2, deB, deX, dxB, dxLst, deName, deC, deCall, deIxO, deLenO, deTup, deLst, daCons, daNil, daStar, deChain, dtChain, dtV, dtAnd, dtOr, dtNot, dtYes, deIf, deSl, doNone, doSome, rdAdd, rdSub, rdMul, rdMod, rdDiv, rdPow, rdI, rdIc, rdB, rdLt, rdLe, rdGt, rdGe, rdNeg, rdIs, rdEq, rdNe, rdIx, rdIsN, rdNotN, rdIsB, rdNotB, rdRev, rdSeats, rdCatL, rdCatT, rdRepL, rdLen, rdTuple, rdList, rxList, rdInt, rdMax2, rdMin2, dgName, dgTup, dgCons, dgNil, deRefused, rdRepr, rdNeS, rdEqL, rdNeL, rdRepT, rdIsLn, noOwn, diSeq, diEn, diZp, diR1, diR2, noX,  eqOk_int, eqOk_bl, eqOk_non, eqv_int, eqv_bl, eqv_non, atI_0, atI_1, atI_2, atI_3, qty_non, qisI_non, qisB_non, qisL_non, qisU_non, qisS_non, qisD_non, qisNon_non, qcooked_non, qseq_non, qty_bl, qisI_bl, qisB_bl, qisL_bl, qisU_bl, qisS_bl, qisD_bl, qisNon_bl, qcooked_bl, qseq_bl, qty_int, qisI_int, qisB_int, qisL_int, qisU_int, qisS_int, qisD_int, qisNon_int, qcooked_int, qseq_int, qty_str, qisI_str, qisB_str, qisL_str, qisU_str, qisS_str, qisD_str, qisNon_str, qcooked_str, qseq_str, qty_lst, qisI_lst, qisB_lst, qisL_lst, qisU_lst, qisS_lst, qisD_lst, qisNon_lst, qcooked_lst, qseq_lst, qty_tup, qisI_tup, qisB_tup, qisL_tup, qisU_tup, qisS_tup, qisD_tup, qisNon_tup, qcooked_tup, qseq_tup, qty_dct, qisI_dct, qisB_dct, qisL_dct, qisU_dct, qisS_dct, qisD_dct, qisNon_dct, qcooked_dct, qseq_dct, qix_lst, qsl_lst, qix_tup, qsl_tup, qisNon_ln, qcooked_ln, and_assoc, exists_and_left, exists_eq_left, exists_eq_left', exists_eq_right, prD]
        by_cases c1 : x.1 = (s : Int)
        · rw [if_pos c1]
          by_cases c2 : psS ps k < x.2
          · rw [if_pos c2]
            exact q1 (by simp [c1, c2])
          · rw [if_neg c2]
            exact q2 (by simp [c2])
        · rw [if_neg c1]
          exact q2 (by simp [c1])
      · refine ⟨eqOk_fit (n := 2) (by rw [fit_lst]; simp [prD, fit_tup, fit_int]), eqOk_lst0, ?_⟩
        rw [eqv_lst0, List.isEmpty_map]
        cases hfz : freeAt hd (psS ps k) s with
        | true =>
          have h2 := hfz
          unfold freeAt at h2
          rw [if_pos h2]
          exact r1 hfz
        | false =>
          have h2 := hfz
          unfold freeAt at h2
          rw [h2, if_neg (fun z => nomatch z)]
          exact r2 hfz
    · obtain ⟨r, hr2⟩ := HI.first (psS ps k) (n := ps.length) (by omega)
      rw [hr2, List.map_cons]
      refine ⟨_, rfl, k, Evl.ixN_nat (by omega), _, rfl, prD ps[k], hix, .int ps[k].2, by rw [prD, qix_tup]; rfl, by omega, ?_, hd ++ [(((seatOf us (psS ps k) : Nat) : Int), ps[k].2)], ?_, by simp; omega, ?_⟩
      · rw [← List.map_set]
        rfl
      · rw [List.map_append]
        rfl
      · have := HI.step (hp k hk)
        rw [hpe] at this
        unfold seatStep
        show HeldI _ (putU us (seatOf us (psS ps k)) (psE ps k))
        rw [hpe]
        exact this
  · obtain ⟨hd, a, b, c, d, e, rfl, _⟩ := hj
    rw [List.take_length]
    simp [startD, wipeD, dsRet, dsRetN, dsIf, dsSeq, dsNext, dsAsg, dsDrop, dsBreak, dsCont, dsPar, dsAug, dsFrz, dsApp, dsExt, dsPut, dsAugO, dsOwn, dsParOO, dsParDO, dsParDDO, dsFrzA, dxRep, diOwn, dsRaise, deAnd, deOr, deNot, de1, de2, deB, deX, dxB, dxLst, deName, deC, deCall, deIxO, deLenO, deTup, deLst, daCons, daNil, daStar, deChain, dtChain, dtV, dtAnd, dtOr, dtNot, dtYes, deIf, deSl, doNone, doSome, rdAdd, rdSub, rdMul, rdMod, rdDiv, rdPow, rdI, rdIc, rdB, rdLt, rdLe, rdGt, rdGe, rdNeg, rdIs, rdEq, rdNe, rdIx, rdIsN, rdNotN, rdIsB, rdNotB, rdRev, rdSeats, rdCatL, rdCatT, rdRepL, rdLen, rdTuple, rdList, rxList, rdInt, rdMax2, rdMin2, dgName, dgTup, dgCons, dgNil, deRefused, rdRepr, rdNeS, rdEqL, rdNeL, rdRepT, rdIsLn, noOwn, diSeq, diEn, diZp, diR1, diR2, noX,  eqOk_int, eqOk_bl, eqOk_non, eqv_int, eqv_bl, eqv_non, atI_0, atI_1, atI_2, atI_3, qty_non, qisI_non, qisB_non, qisL_non, qisU_non, qisS_non, qisD_non, qisNon_non, qcooked_non, qseq_non, qty_bl, qisI_bl, qisB_bl, qisL_bl, qisU_bl, qisS_bl, qisD_bl, qisNon_bl, qcooked_bl, qseq_bl, qty_int, qisI_int, qisB_int, qisL_int, qisU_int, qisS_int, qisD_int, qisNon_int, qcooked_int, qseq_int, qty_str, qisI_str, qisB_str, qisL_str, qisU_str, qisS_str, qisD_str, qisNon_str, qcooked_str, qseq_str, qty_lst, qisI_lst, qisB_lst, qisL_lst, qisU_lst, qisS_lst, qisD_lst, qisNon_lst, qcooked_lst, qseq_lst, qty_tup, qisI_tup, qisB_tup, qisL_tup, qisU_tup, qisS_tup, qisD_tup, qisNon_tup, qcooked_tup, qseq_tup, qty_dct, qisI_dct, qisB_dct, qisL_dct, qisU_dct, qisS_dct, qisD_dct, qisNon_dct, qcooked_dct, qseq_dct, qix_lst, qsl_lst, qix_tup, qsl_tup, qisNon_ln, qcooked_ln, and_assoc, exists_and_left, exists_eq_left, exists_eq_left', exists_eq_right]
    exact o
end
end K14
end
-- F_14__law_is_seating
section
set_option Elab.async false
set_option linter.all false
set_option maxRecDepth 100000
set_option maxHeartbeats 4000000
set_option autoImplicit false
namespace K14
open PySem PySem.Spec PyProof.Rows L2 Sd
section
variable {P : Program} {w : World} {K : PySem.W.Frag} {mg : Str → Option Value} {base : Heap}
theorem ok__law_is_seating (T : Txt K mg) {f : Addr} {fd : FuncData} (F : FnP K "_law_is_seating" s__law_is_seating f fd)   : FnOk P w K mg base (L2.CX P w) 1 f fd ["people", "thing"] (spD K sp__law_is_seating) := by
  have sc := sc__law_is_seating
  refine fnD F sc (fun F ds O h => by
    obtain ⟨_, _, _, _, e, _⟩ := h
    rw [e] <;> rfl) (fun cdv A outer s G E ds O hr h hE => ⟨_, (pssd_cons (psd_for (passes_of rfl) (pid_r1 T.b_range (pad_cons (pd_callB call_len_seq snd_len T.b_len (pad_cons (pd_name (pv 0)) pad_nil)) pad_nil)) (pgd_name (i := 2) sc.nd rfl (Or.inl rfl))
  (pssd_one (psd_for (passes_of rfl) (pid_r1 T.b_range (pad_cons (pd_name (pv 2)) pad_nil)) (pgd_name (i := 3) sc.nd rfl (Or.inl rfl))
  (pssd_one (psd_if (ptd_w (pwd_and (ptd_eq hr.units (pd_item (pd_name (pv 1)) (pd_name (pv 2))) (pd_item (pd_name (pv 1)) (pd_name (pv 3)))) (pwd_and (ptd_lt (pd_item (pd_item (pd_name (pv 0)) (pd_name (pv 2))) pd_int) (pd_item (pd_item (pd_name (pv 0)) (pd_name (pv 3))) pd_int)) (pwd_and1 (ptd_lt (pd_item (pd_item (pd_name (pv 0)) (pd_name (pv 3))) pd_int) (pd_item (pd_item (pd_name (pv 0)) (pd_name (pv 2))) pd_int))))))
  (pssd_one (psd_ret pd_bl))
  pssd_nil)))))
  (pssd_one (psd_ret pd_bl))), ?_⟩)
  obtain ⟨t, th, ps, ss, rfl, h⟩ := h
  obtain ⟨h1, h2, hl, hm, o⟩ := h
  simp [startD, wipeD, dsRet, dsRetN, dsIf, dsSeq, dsNext, dsAsg, dsDrop, dsBreak, dsCont, dsPar, dsAug, dsFrz, dsApp, dsExt, dsPut, dsAugO, dsOwn, dsParOO, dsParDO, dsParDDO, dsFrzA, dxRep, diOwn, dsRaise, deAnd, deOr, deNot, de1, de2, deB, deX, dxB, dxLst, deName, deC, deCall, deIxO, deLenO, deTup, deLst, daCons, daNil, daStar, deChain, dtChain, dtV, dtAnd, dtOr, dtNot, dtYes, deIf, deSl, doNone, doSome, rdAdd, rdSub, rdMul, rdMod, rdDiv, rdPow, rdI, rdIc, rdB, rdLt, rdLe, rdGt, rdGe, rdNeg, rdIs, rdEq, rdNe, rdIx, rdIsN, rdNotN, rdIsB, rdNotB, rdRev, rdSeats, rdCatL, rdCatT, rdRepL, rdLen, rdTuple, rdList, rxList, rdInt, rdMax2, rdMin2, dgName, dgTup, dgCons, dgNil, deRefused, rdRepr, rdNeS, rdEqL, rdNeL, rdRepT, rdIsLn, noOwn, diSeq, diEn, diZp, diR1, diR2, noX,  eqOk_int, eqOk_bl, eqOk_non, eqv_int, eqv_bl, eqv_non, atI_0, atI_1, atI_2, atI_3, qty_non, qisI_non, qisB_non, qisL_non, qisU_non, qisS_non, qisD_non, qisNon_non, qcooked_non, qseq_non, qty_bl, qisI_bl, qisB_bl, qisL_bl, qisU_bl, qisS_bl, qisD_bl, qisNon_bl, qcooked_bl, qseq_bl, qty_int, qisI_int, qisB_int, qisL_int, qisU_int, qisS_int, qisD_int, qisNon_int, qcooked_int, qseq_int, qty_str, qisI_str, qisB_str, qisL_str, qisU_str, qisS_str, qisD_str, qisNon_str, qcooked_str, qseq_str, qty_lst, qisI_lst, qisB_lst, qisL_lst, qisU_lst, qisS_lst, qisD_lst, qisNon_lst, qcooked_lst, qseq_lst, qty_tup, qisI_tup, qisB_tup, qisL_tup, qisU_tup, qisS_tup, qisD_tup, qisNon_tup, qcooked_tup, qseq_tup, qty_dct, qisI_dct, qisB_dct, qisL_dct, qisU_dct, qisS_dct, qisD_dct, qisNon_dct, qcooked_dct, qseq_dct, qix_lst, qsl_lst, qix_tup, qsl_tup, qisNon_ln, qcooked_ln, and_assoc, exists_and_left, exists_eq_left, exists_eq_left', exists_eq_right, dxLc_eq, dsFor_eq, rngD_0, rngD_eq, zipD_map, enumD_map0, h1, h2]
  refine ⟨by omega, ?_⟩
  refine fb_on (List.range ps.length) (fun i δ' => (∀ x, x < i → ∀ y, y < x → clash ss ps x y = false) ∧ ∃ a b, δ' = [.dat t, .dat th, a, b]) ⟨fun x h => by omega, _, _, rfl⟩ (fun i x δ' hi hj => ?_) (fun δ' hj => ?_)
  · obtain ⟨ha, a, b, rfl⟩ := hj
    obtain ⟨hi1, rfl⟩ := range_at hi
    simp [startD, wipeD, dsRet, dsRetN, dsIf, dsSeq, dsNext, dsAsg, dsDrop, dsBreak, dsCont, dsPar, dsAug, dsFrz, dsApp, dsExt, dsPut, dsAugO, dsOwn, dsParOO, dsParDO, dsParDDO, dsFrzA, dxRep, diOwn, dsRaise, deAnd, deOr, deNot, de1, de2, deB, deX, dxB, dxLst, deName, deC, deCall, deIxO, deLenO, deTup, deLst, daCons, daNil, daStar, deChain, dtChain, dtV, dtAnd, dtOr, dtNot, dtYes, deIf, deSl, doNone, doSome, rdAdd, rdSub, rdMul, rdMod, rdDiv, rdPow, rdI, rdIc, rdB, rdLt, rdLe, rdGt, rdGe, rdNeg, rdIs, rdEq, rdNe, rdIx, rdIsN, rdNotN, rdIsB, rdNotB, rdRev, rdSeats, rdCatL, rdCatT, rdRepL, rdLen, rdTuple, rdList, rxList, rdInt, rdMax2, rdMin2, dgName, dgTup, dgCons, dgNil, deRefused, rdRepr, rdNeS, rdEqL, rdNeL, rdRepT, rdIsLn, noOwn, diSeq, diEn, diZp, diR1, diR2, noX,  eqOk_int, eqOk_bl, eqOk_non, eqv_int, eqv_bl, eqv_non, atI_0, atI_1, atI_2, atI_3, qty_non, qisI_non, qisB_non, qisL_non, qisU_non, qisS_non, qisD_non, qisNon_non, qcooked_non, qseq_non, qty_bl, qisI_bl, qisB_bl, qisL_bl, qisU_bl, qisS_bl, qisD_bl, qisNon_bl, qcooked_bl, qseq_bl, qty_int, qisI_int, qisB_int, qisL_int, qisU_int, qisS_int, qisD_int, qisNon_int, qcooked_int, qseq_int, qty_str, qisI_str, qisB_str, qisL_str, qisU_str, qisS_str, qisD_str, qisNon_str, qcooked_str, qseq_str, qty_lst, qisI_lst, qisB_lst, qisL_lst, qisU_lst, qisS_lst, qisD_lst, qisNon_lst, qcooked_lst, qseq_lst, qty_tup, qisI_tup, qisB_tup, qisL_tup, qisU_tup, qisS_tup, qisD_tup, qisNon_tup, qcooked_tup, qseq_tup, qty_dct, qisI_dct, qisB_dct, qisL_dct, qisU_dct, qisS_dct, qisD_dct, qisNon_dct, qcooked_dct, qseq_dct, qix_lst, qsl_lst, qix_tup, qsl_tup, qisNon_ln, qcooked_ln, and_assoc, exists_and_left, exists_eq_left, exists_eq_left', exists_eq_right, dxLc_eq, dsFor_eq, rngD_0, rngD_eq, zipD_map, enumD_map0]
    refine ⟨by omega, ?_⟩
    refine fb_on (List.range x) (fun k δ' => (∀ y, y < k → clash ss ps x y = false) ∧ ∃ c, δ' = [.dat t, .dat th, .dat (.int (x : Int)), c]) ⟨fun y h => by omega, _, rfl⟩ (fun k z δ' hk hj => ?_) (fun δ' hj => ?_)
    · obtain ⟨hc, c, rfl⟩ := hj
      obtain ⟨hk1, rfl⟩ := range_at hk
      have f1 := List.getElem?_eq_getElem (show x < ss.length by omega)
      have f2 := List.getElem?_eq_getElem (show z < ss.length by omega)
      have g2 := List.getElem?_eq_getElem (show x < ps.length by omega)
      have g3 := List.getElem?_eq_getElem (show z < ps.length by omega)
      have ec : clash ss ps x z = ((ss[z] == ss[x]) && meetB ps[x] ps[z]) := by unfold clash; rw [f1, f2, g2, g3]; rfl
      have hno : clash ss ps x z = true → goodSeats ss ps = false := goodSeats_no (by omega) hk1
      have step : clash ss ps x z = false → ∀ y, y < z + 1 → clash ss ps x y = false := fun w y hy => by
        by_cases ey : y = z
        · subst ey
          exact w
        · exact hc y (by omega)
      simp [startD, wipeD, dsRet, dsRetN, dsIf, dsSeq, dsNext, dsAsg, dsDrop, dsBreak, dsCont, dsPar, dsAug, dsFrz, dsApp, dsExt, dsPut, dsAugO, dsOwn, dsParOO, dsParDO, dsParDDO, dsFrzA, dxRep, diOwn, dsRaise, deAnd, deOr, deNot, de1, de2, deB, deX, dxB, dxLst, deName, deC, deCall, deIxO, deLenO, deTup, deLst, daCons, daNil, daStar, deChain, dtChain, dtV, dtAnd, dtOr, dtNot, dtYes, deIf, deSl, doNone, doSome, rdAdd, rdSub, rdMul, rdMod, rdDiv, rdPow, rdI, rdIc, rdB, rdLt, rdLe, rdGt, rdGe, rdNeg, rdIs, rdEq, rdNe, rdIx, rdIsN, rdNotN, rdIsB, rdNotB, rdRev, rdSeats, rdCatL, rdCatT, rdRepL, rdLen, rdTuple, rdList, rxList, rdInt, rdMax2, rdMin2, dgName, dgTup, dgCons, dgNil, deRefused, rdRepr, rdNeS, rdEqL, rdNeL, rdRepT, rdIsLn, noOwn, diSeq, diEn, diZp, diR1, diR2, noX,  eqOk_int, eqOk_bl, eqOk_non, eqv_int, eqv_bl, eqv_non, atI_0, atI_1, atI_2, atI_3, qty_non, qisI_non, qisB_non, qisL_non, qisU_non, qisS_non, qisD_non, qisNon_non, qcooked_non, qseq_non, qty_bl, qisI_bl, qisB_bl, qisL_bl, qisU_bl, qisS_bl, qisD_bl, qisNon_bl, qcooked_bl, qseq_bl, qty_int, qisI_int, qisB_int, qisL_int, qisU_int, qisS_int, qisD_int, qisNon_int, qcooked_int, qseq_int, qty_str, qisI_str, qisB_str, qisL_str, qisU_str, qisS_str, qisD_str, qisNon_str, qcooked_str, qseq_str, qty_lst, qisI_lst, qisB_lst, qisL_lst, qisU_lst, qisS_lst, qisD_lst, qisNon_lst, qcooked_lst, qseq_lst, qty_tup, qisI_tup, qisB_tup, qisL_tup, qisU_tup, qisS_tup, qisD_tup, qisNon_tup, qcooked_tup, qseq_tup, qty_dct, qisI_dct, qisB_dct, qisL_dct, qisU_dct, qisS_dct, qisD_dct, qisNon_dct, qcooked_dct, qseq_dct, qix_lst, qsl_lst, qix_tup, qsl_tup, qisNon_ln, qcooked_ln, and_assoc, exists_and_left, exists_eq_left, exists_eq_left', exists_eq_right, ix_of h1, ix_of h2, atI_nat', f1, f2, g2, g3, prD]
      by_cases e1 : ss[x] = ss[z]
      · rw [if_pos e1]
        rw [show (ss[z] == ss[x]) = true from by simp [e1], Bool.true_and] at ec
        by_cases e2 : ps[x].1 < ps[z].2
        · rw [if_pos e2]
          by_cases e3 : ps[z].1 < ps[x].2
          · rw [if_pos e3]
            rw [hno (by rw [ec]; simp [meetB, e2, e3])] at o
            exact o
          · rw [if_neg e3]
            exact step (by rw [ec]; simp [meetB, e3])
        · rw [if_neg e2]
          exact step (by rw [ec]; simp [meetB, e2])
      · rw [if_neg e1]
        rw [show (ss[z] == ss[x]) = false from by simpa using fun q : ss[z] = ss[x] => e1 q.symm, Bool.false_and] at ec
        exact step ec
    · obtain ⟨hc, c, rfl⟩ := hj
      rw [List.length_range] at hc
      refine ⟨fun z hz y hy => ?_, _, _, rfl⟩
      by_cases ex : z = x
      · subst ex
        exact hc y hy
      · exact ha z (by omega) y hy
  · obtain ⟨ha, a, b, rfl⟩ := hj
    rw [List.length_range] at ha
    simp [startD, wipeD, dsRet, dsRetN, dsIf, dsSeq, dsNext, dsAsg, dsDrop, dsBreak, dsCont, dsPar, dsAug, dsFrz, dsApp, dsExt, dsPut, dsAugO, dsOwn, dsParOO, dsParDO, dsParDDO, dsFrzA, dxRep, diOwn, dsRaise, deAnd, deOr, deNot, de1, de2, deB, deX, dxB, dxLst, deName, deC, deCall, deIxO, deLenO, deTup, deLst, daCons, daNil, daStar, deChain, dtChain, dtV, dtAnd, dtOr, dtNot, dtYes, deIf, deSl, doNone, doSome, rdAdd, rdSub, rdMul, rdMod, rdDiv, rdPow, rdI, rdIc, rdB, rdLt, rdLe, rdGt, rdGe, rdNeg, rdIs, rdEq, rdNe, rdIx, rdIsN, rdNotN, rdIsB, rdNotB, rdRev, rdSeats, rdCatL, rdCatT, rdRepL, rdLen, rdTuple, rdList, rxList, rdInt, rdMax2, rdMin2, dgName, dgTup, dgCons, dgNil, deRefused, rdRepr, rdNeS, rdEqL, rdNeL, rdRepT, rdIsLn, noOwn, diSeq, diEn, diZp, diR1, diR2, noX,  eqOk_int, eqOk_bl, eqOk_non, eqv_int, eqv_bl, eqv_non, atI_0, atI_1, atI_2, atI_3, qty_non, qisI_non, qisB_non, qisL_non, qisU_non, qisS_non, qisD_non, qisNon_non, qcooked_non, qseq_non, qty_bl, qisI_bl, qisB_bl, qisL_bl, qisU_bl, qisS_bl, qisD_bl, qisNon_bl, qcooked_bl, qseq_bl, qty_int, qisI_int, qisB_int, qisL_int, qisU_int, qisS_int, qisD_int, qisNon_int, qcooked_int, qseq_int, qty_str, qisI_str, qisB_str, qisL_str, qisU_str, qisS_str, qisD_str, qisNon_str, qcooked_str, qseq_str, qty_lst, qisI_lst, qisB_lst, qisL_lst, qisU_lst, qisS_lst, qisD_lst, qisNon_lst, qcooked_lst, qseq_lst, qty_tup, qisI_tup, qisB_tup, qisL_tup, qisU_tup, qisS_tup, qisD_tup, qisNon_tup, qcooked_tup, qseq_tup, qty_dct, qisI_dct, qisB_dct, qisL_dct, qisU_dct, qisS_dct, qisD_dct, qisNon_dct, qcooked_dct, qseq_dct, qix_lst, qsl_lst, qix_tup, qsl_tup, qisNon_ln, qcooked_ln, and_assoc, exists_and_left, exists_eq_left, exists_eq_left', exists_eq_right]
    have eg : goodSeats ss ps = true := List.all_eq_true.mpr fun x hx => List.all_eq_true.mpr fun y hy => by rw [ha x (by have := List.mem_range.mp hx; omega) y (List.mem_range.mp hy)]; rfl
    rw [eg] at o
    exact o
end
end K14
end
-- F_14__law_fewest
section
set_option Elab.async false
set_option linter.all false
set_option maxRecDepth 100000
set_option maxHeartbeats 4000000
set_option autoImplicit false
namespace K14
open PySem PySem.Spec PyProof.Rows L2 Sd
section
variable {P : Program} {w : World} {K : PySem.W.Frag} {mg : Str → Option Value} {base : Heap}
theorem ok__law_fewest (T : Txt K mg) {f : Addr} {fd : FuncData} (F : FnP K "_law_fewest" s__law_fewest f fd)   : FnOk P w K mg base (L2.CX P w) 1 f fd ["free", "first", "end"] (spD K sp__law_fewest) := by
  have sc := sc__law_fewest
  refine fnD F sc (fun F ds O h => by
    obtain ⟨_, _, _, _, e, _⟩ := h
    rw [e] <;> rfl) (fun cdv A outer s G E ds O hr h hE => ⟨_, (pssd_cons (psd_ownLc (i := 3) sc.nd rfl rfl (sw_true rfl rfl rfl (by kernel_rfl)) (own := [(("seat" : Str), 8)]) (pid_seq (pd_name (pv 0))) (by kernel_rfl) (fun _ _ _ _ _ => (pgc_name (i := 8) sc.nd rfl (by first | exact Or.inl rfl | exact Or.inr rfl) (by decide))) (fun _ _ _ _ _ => ptsd_nil) (fun _ _ _ _ _ => (pd_ifExp (ptd_val (pd_item (pd_name (pv 8)) (pd_name (pv 1)))) pd_int pd_non)))
  (pssd_cons (psd_for (passes_of rfl) (pid_r2 T.b_range (pad_cons (pd_add (pd_name (pv 1)) pd_int) (pad_cons (pd_name (pv 2)) pad_nil))) (pgd_name (i := 4) sc.nd rfl (Or.inl rfl))
  (pssd_cons (psd_frzA 3 (psd_setLc (i := 5) sc.nd rfl rfl (sw_true rfl rfl rfl (by kernel_rfl)) (own := [(("one" : Str), 10)]) (pid_seq (pd_name (pv 3))) (by kernel_rfl) (fun _ _ _ _ _ => (pgc_name (i := 10) sc.nd rfl (by first | exact Or.inl rfl | exact Or.inr rfl) (by decide))) (fun _ _ _ _ _ => (ptsd_one (ptd_notN (pd_name (pv 10)) pd_non))) (fun _ _ _ _ _ => (pd_name (pv 10)))))
  (pssd_cons (psd_set (i := 6) sc.nd rfl (Or.inl rfl) (pd_name (pv 3)))
  (pssd_cons (psd_own (i := 3) sc.nd rfl (Or.inl rfl) (pxd_lst pad_nil))
  (pssd_one (psd_for (passes_of rfl) (pid_en T.b_enumerate (pad_cons (pd_name (pv 0)) pad_nil)) (pgd_tup (n := 2) (pgsd_cons (pgd_name (i := 7) sc.nd rfl (Or.inl rfl)) (pgsd_cons (pgd_name (i := 8) sc.nd rfl (Or.inl rfl)) pgsd_nil)))
  (pssd_cons (psd_set (i := 9) sc.nd rfl (Or.inl rfl) (pd_catL (pd_ifExp (ptd_notN (pd_item (pd_name (pv 6)) (pd_name (pv 7))) pd_non) (pd_lst (pad_cons (pd_item (pd_name (pv 6)) (pd_name (pv 7))) pad_nil)) (pd_lst pad_nil)) (pd_ifExp (ptd_ne hr.units (pd_name (pv 5)) (pd_lst pad_nil)) (pd_lst (pad_cons (pd_add (pd_callB (cr_min rfl) snd_min T.b_min (pad_cons (pd_name (pv 5)) pad_nil)) pd_int) pad_nil)) (pd_lst pad_nil))))
  (pssd_one (psd_app (i := 3) (pv 3) (pd_ifExp (ptd_w (pwd_and (ptd_val (pd_item (pd_name (pv 8)) (pd_name (pv 4)))) (pwd_and1 (ptd_ne hr.units (pd_name (pv 9)) (pd_lst pad_nil))))) (pd_callB (cr_min rfl) snd_min T.b_min (pad_cons (pd_name (pv 9)) pad_nil)) pd_non))))))))))
  (pssd_cons (psd_frzA 3 (psd_setLc (i := 5) sc.nd rfl rfl (sw_true rfl rfl rfl (by kernel_rfl)) (own := [(("one" : Str), 10)]) (pid_seq (pd_name (pv 3))) (by kernel_rfl) (fun _ _ _ _ _ => (pgc_name (i := 10) sc.nd rfl (by first | exact Or.inl rfl | exact Or.inr rfl) (by decide))) (fun _ _ _ _ _ => (ptsd_one (ptd_notN (pd_name (pv 10)) pd_non))) (fun _ _ _ _ _ => (pd_name (pv 10)))))
  (pssd_one (psd_ret (pd_ifExp (ptd_ne hr.units (pd_name (pv 5)) (pd_lst pad_nil)) (pd_callB (cr_min rfl) snd_min T.b_min (pad_cons (pd_name (pv 5)) pad_nil)) pd_non)))))), ?_⟩)
  obtain ⟨free, fs, a, e, rfl, h⟩ := h
  obtain ⟨hs, hl, hb, ha, he, o⟩ := h
  simp [startD, wipeD, dsRet, dsRetN, dsIf, dsSeq, dsNext, dsAsg, dsDrop, dsBreak, dsCont, dsPar, dsAug, dsFrz, dsApp, dsExt, dsPut, dsAugO, dsOwn, dsParOO, dsParDO, dsParDDO, dsFrzA, dxRep, diOwn, dsRaise, deAnd, deOr, deNot, de1, de2, deB, deX, dxB, dxLst, deName, deC, deCall, deIxO, deLenO, deTup, deLst, daCons, daNil, daStar, deChain, dtChain, dtV, dtAnd, dtOr, dtNot, dtYes, deIf, deSl, doNone, doSome, rdAdd, rdSub, rdMul, rdMod, rdDiv, rdPow, rdI, rdIc, rdB, rdLt, rdLe, rdGt, rdGe, rdNeg, rdIs, rdEq, rdNe, rdIx, rdIsN, rdNotN, rdIsB, rdNotB, rdRev, rdSeats, rdCatL, rdCatT, rdRepL, rdLen, rdTuple, rdList, rxList, rdInt, rdMax2, rdMin2, dgName, dgTup, dgCons, dgNil, deRefused, rdRepr, rdNeS, rdEqL, rdNeL, rdRepT, rdIsLn, noOwn, diSeq, diEn, diZp, diR1, diR2, noX,  eqOk_int, eqOk_bl, eqOk_non, eqv_int, eqv_bl, eqv_non, atI_0, atI_1, atI_2, atI_3, qty_non, qisI_non, qisB_non, qisL_non, qisU_non, qisS_non, qisD_non, qisNon_non, qcooked_non, qseq_non, qty_bl, qisI_bl, qisB_bl, qisL_bl, qisU_bl, qisS_bl, qisD_bl, qisNon_bl, qcooked_bl, qseq_bl, qty_int, qisI_int, qisB_int, qisL_int, qisU_int, qisS_int, qisD_int, qisNon_int, qcooked_int, qseq_int, qty_str, qisI_str, qisB_str, qisL_str, qisU_str, qisS_str, qisD_str, qisNon_str, qcooked_str, qseq_str, qty_lst, qisI_lst, qisB_lst, qisL_lst, qisU_lst, qisS_lst, qisD_lst, qisNon_lst, qcooked_lst, qseq_lst, qty_tup, qisI_tup, qisB_tup, qisL_tup, qisU_tup, qisS_tup, qisD_tup, qisNon_tup, qcooked_tup, qseq_tup, qty_dct, qisI_dct, qisB_dct, qisL_dct, qisU_dct, qisS_dct, qisD_dct, qisNon_dct, qcooked_dct, qseq_dct, qix_lst, qsl_lst, qix_tup, qsl_tup, qisNon_ln, qcooked_ln, and_assoc, exists_and_left, exists_eq_left, exists_eq_left', exists_eq_right, dxLc_eq, dsFor_eq, rngD_0, rngD_eq, zipD_map, enumD_map0, hs]
  have some_of : ∀ (best : List (Option Nat)), best.length = fs.length → ∀ (p0 p1 p2 p3 p4 p5 p6 p7 p8 p9 p10 : Sl) (Q : List D → Prop), Q (((best.filterMap id).map fun n : Nat => (n : Int)).map D.int) → lcB (best.map optN) (dgName 10) (dtV (de2 rdNotN (deName 10) (deC D.non))) (deName 10) [10] [p0, p1, p2, p3, p4, p5, p6, p7, p8, p9, p10] Q := fun best hbl p0 p1 p2 p3 p4 p5 p6 p7 p8 p9 p10 Q hQ => by
    refine lb_onF best optN Option.isSome (by omega) (fun x hx R1 R2 r1 r2 => ?_) (by rw [somes_ints]; exact hQ)
    cases x with
    | none =>
      simp [startD, wipeD, dsRet, dsRetN, dsIf, dsSeq, dsNext, dsAsg, dsDrop, dsBreak, dsCont, dsPar, dsAug, dsFrz, dsApp, dsExt, dsPut, dsAugO, dsOwn, dsParOO, dsParDO, dsParDDO, dsFrzA, dxRep, diOwn, dsRaise, deAnd, deOr, deNot, de1, de2, deB, deX, dxB, dxLst, deName, deC, deCall, deIxO, deLenO, deTup, deLst, daCons, daNil, daStar, deChain, dtChain, dtV, dtAnd, dtOr, dtNot, dtYes, deIf, deSl, doNone, doSome, rdAdd, rdSub, rdMul, rdMod, rdDiv, rdPow, rdI, rdIc, rdB, rdLt, rdLe, rdGt, rdGe, rdNeg, rdIs, rdEq, rdNe, rdIx, rdIsN, rdNotN, rdIsB, rdNotB, rdRev, rdSeats, rdCatL, rdCatT, rdRepL, rdLen, rdTuple, rdList, rxList, rdInt, rdMax2, rdMin2, dgName, dgTup, dgCons, dgNil, deRefused, rdRepr, rdNeS, rdEqL, rdNeL, rdRepT, rdIsLn, noOwn, diSeq, diEn, diZp, diR1, diR2, noX,  eqOk_int, eqOk_bl, eqOk_non, eqv_int, eqv_bl, eqv_non, atI_0, atI_1, atI_2, atI_3, qty_non, qisI_non, qisB_non, qisL_non, qisU_non, qisS_non, qisD_non, qisNon_non, qcooked_non, qseq_non, qty_bl, qisI_bl, qisB_bl, qisL_bl, qisU_bl, qisS_bl, qisD_bl, qisNon_bl, qcooked_bl, qseq_bl, qty_int, qisI_int, qisB_int, qisL_int, qisU_int, qisS_int, qisD_int, qisNon_int, qcooked_int, qseq_int, qty_str, qisI_str, qisB_str, qisL_str, qisU_str, qisS_str, qisD_str, qisNon_str, qcooked_str, qseq_str, qty_lst, qisI_lst, qisB_lst, qisL_lst, qisU_lst, qisS_lst, qisD_lst, qisNon_lst, qcooked_lst, qseq_lst, qty_tup, qisI_tup, qisB_tup, qisL_tup, qisU_tup, qisS_tup, qisD_tup, qisNon_tup, qcooked_tup, qseq_tup, qty_dct, qisI_dct, qisB_dct, qisL_dct, qisU_dct, qisS_dct, qisD_dct, qisNon_dct, qcooked_dct, qseq_dct, qix_lst, qsl_lst, qix_tup, qsl_tup, qisNon_ln, qcooked_ln, and_assoc, exists_and_left, exists_eq_left, exists_eq_left', exists_eq_right, dxLc_eq, dsFor_eq, rngD_0, rngD_eq, zipD_map, enumD_map0, optN]
      exact r2 rfl
    | some n =>
      simp [startD, wipeD, dsRet, dsRetN, dsIf, dsSeq, dsNext, dsAsg, dsDrop, dsBreak, dsCont, dsPar, dsAug, dsFrz, dsApp, dsExt, dsPut, dsAugO, dsOwn, dsParOO, dsParDO, dsParDDO, dsFrzA, dxRep, diOwn, dsRaise, deAnd, deOr, deNot, de1, de2, deB, deX, dxB, dxLst, deName, deC, deCall, deIxO, deLenO, deTup, deLst, daCons, daNil, daStar, deChain, dtChain, dtV, dtAnd, dtOr, dtNot, dtYes, deIf, deSl, doNone, doSome, rdAdd, rdSub, rdMul, rdMod, rdDiv, rdPow, rdI, rdIc, rdB, rdLt, rdLe, rdGt, rdGe, rdNeg, rdIs, rdEq, rdNe, rdIx, rdIsN, rdNotN, rdIsB, rdNotB, rdRev, rdSeats, rdCatL, rdCatT, rdRepL, rdLen, rdTuple, rdList, rxList, rdInt, rdMax2, rdMin2, dgName, dgTup, dgCons, dgNil, deRefused, rdRepr, rdNeS, rdEqL, rdNeL, rdRepT, rdIsLn, noOwn, diSeq, diEn, diZp, diR1, diR2, noX,  eqOk_int, eqOk_bl, eqOk_non, eqv_int, eqv_bl, eqv_non, atI_0, atI_1, atI_2, atI_3, qty_non, qisI_non, qisB_non, qisL_non, qisU_non, qisS_non, qisD_non, qisNon_non, qcooked_non, qseq_non, qty_bl, qisI_bl, qisB_bl, qisL_bl, qisU_bl, qisS_bl, qisD_bl, qisNon_bl, qcooked_bl, qseq_bl, qty_int, qisI_int, qisB_int, qisL_int, qisU_int, qisS_int, qisD_int, qisNon_int, qcooked_int, qseq_int, qty_str, qisI_str, qisB_str, qisL_str, qisU_str, qisS_str, qisD_str, qisNon_str, qcooked_str, qseq_str, qty_lst, qisI_lst, qisB_lst, qisL_lst, qisU_lst, qisS_lst, qisD_lst, qisNon_lst, qcooked_lst, qseq_lst, qty_tup, qisI_tup, qisB_tup, qisL_tup, qisU_tup, qisS_tup, qisD_tup, qisNon_tup, qcooked_tup, qseq_tup, qty_dct, qisI_dct, qisB_dct, qisL_dct, qisU_dct, qisS_dct, qisD_dct, qisNon_dct, qcooked_dct, qseq_dct, qix_lst, qsl_lst, qix_tup, qsl_tup, qisNon_ln, qcooked_ln, and_assoc, exists_and_left, exists_eq_left, exists_eq_left', exists_eq_right, dxLc_eq, dsFor_eq, rngD_0, rngD_eq, zipD_map, enumD_map0, optN]
      exact r1 rfl
  refine lb_on fs (fun bs => optN (if bs[a]? = some true then some 0 else none)) (by omega) (fun bs hbs R hR => ?_) ?_
  · simp [startD, wipeD, dsRet, dsRetN, dsIf, dsSeq, dsNext, dsAsg, dsDrop, dsBreak, dsCont, dsPar, dsAug, dsFrz, dsApp, dsExt, dsPut, dsAugO, dsOwn, dsParOO, dsParDO, dsParDDO, dsFrzA, dxRep, diOwn, dsRaise, deAnd, deOr, deNot, de1, de2, deB, deX, dxB, dxLst, deName, deC, deCall, deIxO, deLenO, deTup, deLst, daCons, daNil, daStar, deChain, dtChain, dtV, dtAnd, dtOr, dtNot, dtYes, deIf, deSl, doNone, doSome, rdAdd, rdSub, rdMul, rdMod, rdDiv, rdPow, rdI, rdIc, rdB, rdLt, rdLe, rdGt, rdGe, rdNeg, rdIs, rdEq, rdNe, rdIx, rdIsN, rdNotN, rdIsB, rdNotB, rdRev, rdSeats, rdCatL, rdCatT, rdRepL, rdLen, rdTuple, rdList, rxList, rdInt, rdMax2, rdMin2, dgName, dgTup, dgCons, dgNil, deRefused, rdRepr, rdNeS, rdEqL, rdNeL, rdRepT, rdIsLn, noOwn, diSeq, diEn, diZp, diR1, diR2, noX,  eqOk_int, eqOk_bl, eqOk_non, eqv_int, eqv_bl, eqv_non, atI_0, atI_1, atI_2, atI_3, qty_non, qisI_non, qisB_non, qisL_non, qisU_non, qisS_non, qisD_non, qisNon_non, qcooked_non, qseq_non, qty_bl, qisI_bl, qisB_bl, qisL_bl, qisU_bl, qisS_bl, qisD_bl, qisNon_bl, qcooked_bl, qseq_bl, qty_int, qisI_int, qisB_int, qisL_int, qisU_int, qisS_int, qisD_int, qisNon_int, qcooked_int, qseq_int, qty_str, qisI_str, qisB_str, qisL_str, qisU_str, qisS_str, qisD_str, qisNon_str, qcooked_str, qseq_str, qty_lst, qisI_lst, qisB_lst, qisL_lst, qisU_lst, qisS_lst, qisD_lst, qisNon_lst, qcooked_lst, qseq_lst, qty_tup, qisI_tup, qisB_tup, qisL_tup, qisU_tup, qisS_tup, qisD_tup, qisNon_tup, qcooked_tup, qseq_tup, qty_dct, qisI_dct, qisB_dct, qisL_dct, qisU_dct, qisS_dct, qisD_dct, qisNon_dct, qcooked_dct, qseq_dct, qix_lst, qsl_lst, qix_tup, qsl_tup, qisNon_ln, qcooked_ln, and_assoc, exists_and_left, exists_eq_left, exists_eq_left', exists_eq_right, dxLc_eq, dsFor_eq, rngD_0, rngD_eq, zipD_map, enumD_map0, rowD]
    have := hb bs hbs
    have hat := List.getElem?_eq_getElem (show a < bs.length by omega)
    refine ⟨.bl bs[a], by rw [atI_nat', List.getElem?_map, hat]; rfl, ?_⟩
    rw [hat] at hR
    cases hba : bs[a] with
    | false =>
      rw [hba] at hR
      exact .inl ⟨rfl, hR⟩
    | true =>
      rw [hba] at hR
      exact .inr ⟨rfl, hR⟩
  refine ⟨by omega, by omega, by omega, ?_⟩
  refine fb_on (List.range _) (fun m δ' => ∃ u v w x y z s : Sl, δ' = [.dat free, .dat (.int (a : Int)), .dat (.int (e : Int)), .own ((dpN fs a m).map optN), u, v, w, x, y, z, s]) ⟨_, _, _, _, _, _, _, by simp only [dpN, dp0, List.map_map]; rfl⟩ (fun m x0 δ' hn hj => ?_) (fun δ' hj => ?_)
  · obtain ⟨u, v, w, x, y, z, s, rfl⟩ := hj
    obtain ⟨hm1, rfl⟩ := range_at hn
    simp [startD, wipeD, dsRet, dsRetN, dsIf, dsSeq, dsNext, dsAsg, dsDrop, dsBreak, dsCont, dsPar, dsAug, dsFrz, dsApp, dsExt, dsPut, dsAugO, dsOwn, dsParOO, dsParDO, dsParDDO, dsFrzA, dxRep, diOwn, dsRaise, deAnd, deOr, deNot, de1, de2, deB, deX, dxB, dxLst, deName, deC, deCall, deIxO, deLenO, deTup, deLst, daCons, daNil, daStar, deChain, dtChain, dtV, dtAnd, dtOr, dtNot, dtYes, deIf, deSl, doNone, doSome, rdAdd, rdSub, rdMul, rdMod, rdDiv, rdPow, rdI, rdIc, rdB, rdLt, rdLe, rdGt, rdGe, rdNeg, rdIs, rdEq, rdNe, rdIx, rdIsN, rdNotN, rdIsB, rdNotB, rdRev, rdSeats, rdCatL, rdCatT, rdRepL, rdLen, rdTuple, rdList, rxList, rdInt, rdMax2, rdMin2, dgName, dgTup, dgCons, dgNil, deRefused, rdRepr, rdNeS, rdEqL, rdNeL, rdRepT, rdIsLn, noOwn, diSeq, diEn, diZp, diR1, diR2, noX,  eqOk_int, eqOk_bl, eqOk_non, eqv_int, eqv_bl, eqv_non, atI_0, atI_1, atI_2, atI_3, qty_non, qisI_non, qisB_non, qisL_non, qisU_non, qisS_non, qisD_non, qisNon_non, qcooked_non, qseq_non, qty_bl, qisI_bl, qisB_bl, qisL_bl, qisU_bl, qisS_bl, qisD_bl, qisNon_bl, qcooked_bl, qseq_bl, qty_int, qisI_int, qisB_int, qisL_int, qisU_int, qisS_int, qisD_int, qisNon_int, qcooked_int, qseq_int, qty_str, qisI_str, qisB_str, qisL_str, qisU_str, qisS_str, qisD_str, qisNon_str, qcooked_str, qseq_str, qty_lst, qisI_lst, qisB_lst, qisL_lst, qisU_lst, qisS_lst, qisD_lst, qisNon_lst, qcooked_lst, qseq_lst, qty_tup, qisI_tup, qisB_tup, qisL_tup, qisU_tup, qisS_tup, qisD_tup, qisNon_tup, qcooked_tup, qseq_tup, qty_dct, qisI_dct, qisB_dct, qisL_dct, qisU_dct, qisS_dct, qisD_dct, qisNon_dct, qcooked_dct, qseq_dct, qix_lst, qsl_lst, qix_tup, qsl_tup, qisNon_ln, qcooked_ln, and_assoc, exists_and_left, exists_eq_left, exists_eq_left', exists_eq_right, dxLc_eq, dsFor_eq, rngD_0, rngD_eq, zipD_map, enumD_map0, hs]
    refine some_of _ (dpN_len fs a x0) _ _ _ _ _ _ _ _ _ _ _ _ ?_
    refine fb_on fs.zipIdx (fun j δ' => ∃ p q r s : Sl, δ' = [.dat free, .dat (.int (a : Int)), .dat (.int (e : Int)), .own (((dpN fs a (x0 + 1)).take j).map optN), .dat (.int ((a : Int) + 1 + (x0 : Int))), .dat (.lst (((((dpN fs a x0).filterMap id).map fun n : Nat => (n : Int))).map D.int)), .dat (.lst ((dpN fs a x0).map optN)), p, q, r, s]) ⟨_, _, _, _, rfl⟩ (fun j bx δ' hj hp => ?_) (fun δ' hp => ?_)
    · obtain ⟨p, q, r, s, rfl⟩ := hp
      rw [List.getElem?_zipIdx, Option.map_eq_some_iff] at hj
      obtain ⟨bs, hbs, rfl⟩ := hj
      rw [Nat.zero_add]
      have hjl := (List.getElem?_eq_some_iff.mp hbs).1
      have hbl := hb bs (List.mem_of_getElem? hbs)
      have hdl := dpN_len fs a x0
      have hst := List.getElem?_eq_getElem (show j < (dpN fs a x0).length by omega)
      have hnew := dpS_at (l := a + x0 + 1) (best := dpN fs a x0) hbs
      rw [hst] at hnew
      have hat := List.getElem?_eq_getElem (show a + x0 + 1 < bs.length by omega)
      rw [hat] at hnew
      have htk : (dpN fs a (x0 + 1)).take (j + 1) = (dpN fs a (x0 + 1)).take j ++ [_] := take_snoc hnew
      rw [htk]
      have hix : atI (List.map D.bl bs) ((a : Int) + 1 + (x0 : Int)) = some (D.bl bs[a + x0 + 1]) := by
        rw [show (a : Int) + 1 + (x0 : Int) = ((a + x0 + 1 : Nat) : Int) by omega, atI_nat', List.getElem?_map, hat]
        rfl
      have hix2 : atI ((dpN fs a x0).map optN) (j : Int) = some (optN (dpN fs a x0)[j]) := by
        rw [atI_nat', List.getElem?_map, hst]
        rfl
      generalize (dpN fs a x0)[j] = stj at hnew hix2 
      generalize bs[a + x0 + 1] = bb at hnew hix 
      have hmin := @omin_min (dpN fs a x0)
      have hnil := @omin_nil (dpN fs a x0)
      generalize ominL (dpN fs a x0) = om at hnew hmin hnil 
      generalize (dpN fs a x0).filterMap id = S at hmin hnil 
      simp [startD, wipeD, dsRet, dsRetN, dsIf, dsSeq, dsNext, dsAsg, dsDrop, dsBreak, dsCont, dsPar, dsAug, dsFrz, dsApp, dsExt, dsPut, dsAugO, dsOwn, dsParOO, dsParDO, dsParDDO, dsFrzA, dxRep, diOwn, dsRaise, deAnd, deOr, deNot, de1, de2, deB, deX, dxB, dxLst, deName, deC, deCall, deIxO, deLenO, deTup, deLst, daCons, daNil, daStar, deChain, dtChain, dtV, dtAnd, dtOr, dtNot, dtYes, deIf, deSl, doNone, doSome, rdAdd, rdSub, rdMul, rdMod, rdDiv, rdPow, rdI, rdIc, rdB, rdLt, rdLe, rdGt, rdGe, rdNeg, rdIs, rdEq, rdNe, rdIx, rdIsN, rdNotN, rdIsB, rdNotB, rdRev, rdSeats, rdCatL, rdCatT, rdRepL, rdLen, rdTuple, rdList, rxList, rdInt, rdMax2, rdMin2, dgName, dgTup, dgCons, dgNil, deRefused, rdRepr, rdNeS, rdEqL, rdNeL, rdRepT, rdIsLn, noOwn, diSeq, diEn, diZp, diR1, diR2, noX,  eqOk_int, eqOk_bl, eqOk_non, eqv_int, eqv_bl, eqv_non, atI_0, atI_1, atI_2, atI_3, qty_non, qisI_non, qisB_non, qisL_non, qisU_non, qisS_non, qisD_non, qisNon_non, qcooked_non, qseq_non, qty_bl, qisI_bl, qisB_bl, qisL_bl, qisU_bl, qisS_bl, qisD_bl, qisNon_bl, qcooked_bl, qseq_bl, qty_int, qisI_int, qisB_int, qisL_int, qisU_int, qisS_int, qisD_int, qisNon_int, qcooked_int, qseq_int, qty_str, qisI_str, qisB_str, qisL_str, qisU_str, qisS_str, qisD_str, qisNon_str, qcooked_str, qseq_str, qty_lst, qisI_lst, qisB_lst, qisL_lst, qisU_lst, qisS_lst, qisD_lst, qisNon_lst, qcooked_lst, qseq_lst, qty_tup, qisI_tup, qisB_tup, qisL_tup, qisU_tup, qisS_tup, qisD_tup, qisNon_tup, qcooked_tup, qseq_tup, qty_dct, qisI_dct, qisB_dct, qisL_dct, qisU_dct, qisS_dct, qisD_dct, qisNon_dct, qcooked_dct, qseq_dct, qix_lst, qsl_lst, qix_tup, qsl_tup, qisNon_ln, qcooked_ln, and_assoc, exists_and_left, exists_eq_left, exists_eq_left', exists_eq_right, dxLc_eq, dsFor_eq, rngD_0, rngD_eq, zipD_map, enumD_map0, rowD, hix, hix2]
      have hsz : min j (dpN fs a (x0 + 1)).length < 100000 := by omega
      have hm : List.map (D.int ∘ fun n : Nat => (n : Int)) S = (S.map fun n : Nat => (n : Int)).map D.int := by rw [List.map_map]
      rw [hm]
      cases stj with
      | none =>
        refine ⟨rfl, .inl ⟨rfl, eqOk_ints _, eqOk_lst0, ?_⟩⟩
        cases S with
        | nil =>
          refine .inl ⟨by rw [eqv_lst0]; rfl, ?_⟩
          rw [hnil rfl]
          cases bb with
          | false => exact .inl ⟨rfl, hsz, rfl⟩
          | true => exact .inr ⟨rfl, eqOk_lst0, .inl ⟨by rw [eqv_lst0]; rfl, hsz, rfl⟩⟩
        | cons n S =>
          refine .inr ⟨by rw [eqv_lst0]; rfl, _, rfl, by simp, fun m hmem hle => ?_⟩
          obtain ⟨k, rfl, ek⟩ := hmin hmem hle
          rw [ek]
          refine ⟨_, rfl, ?_⟩
          cases bb with
          | false => exact .inl ⟨rfl, hsz, rfl⟩
          | true =>
            refine .inr ⟨rfl, eqOk_ints [(k : Int) + 1], eqOk_lst0, .inr ⟨by rw [eqv_lst0]; rfl, [(k : Int) + 1], rfl, by simp, fun m2 h2 _ => ⟨hsz, ?_⟩⟩⟩
            rw [List.mem_singleton.mp h2]
            rfl
      | some c =>
        refine ⟨rfl, .inr ⟨rfl, eqOk_ints _, eqOk_lst0, ?_⟩⟩
        cases S with
        | nil =>
          refine .inl ⟨by rw [eqv_lst0]; rfl, ?_⟩
          rw [hnil rfl]
          cases bb with
          | false => exact .inl ⟨rfl, hsz, rfl⟩
          | true => exact .inr ⟨rfl, eqOk_ints [(c : Int)], eqOk_lst0, .inr ⟨by rw [eqv_lst0]; rfl, [(c : Int)], rfl, by simp, fun m2 h2 _ => ⟨hsz, by rw [List.mem_singleton.mp h2]; rfl⟩⟩⟩
        | cons n S =>
          refine .inr ⟨by rw [eqv_lst0]; rfl, _, rfl, by simp, fun m hmem hle => ?_⟩
          obtain ⟨k, rfl, ek⟩ := hmin hmem hle
          rw [ek]
          refine ⟨_, rfl, ?_⟩
          cases bb with
          | false => exact .inl ⟨rfl, hsz, rfl⟩
          | true =>
            refine .inr ⟨rfl, eqOk_ints [(c : Int), (k : Int) + 1], eqOk_lst0, .inr ⟨by rw [eqv_lst0]; rfl, [(c : Int), (k : Int) + 1], rfl, by simp, fun m2 h2 hl2 => ⟨hsz, ?_⟩⟩⟩
            have a1 := hl2 (c : Int) List.mem_cons_self
            have a2 := hl2 ((k : Int) + 1) (List.mem_cons_of_mem _ List.mem_cons_self)
            show D.int m2 = D.int ((min c (k + 1) : Nat) : Int)
            congr 1
            rcases List.mem_cons.mp h2 with h2 | h2
            · omega
            · have := List.mem_singleton.mp h2
              omega
    · obtain ⟨p, q, r, s, rfl⟩ := hp
      rw [List.length_zipIdx, List.take_of_length_le (by rw [dpN_len]; exact Nat.le_refl _)]
      exact ⟨_, _, _, _, _, _, _, rfl⟩
  · obtain ⟨u, v, w, x, y, z, s, rfl⟩ := hj
    simp [startD, wipeD, dsRet, dsRetN, dsIf, dsSeq, dsNext, dsAsg, dsDrop, dsBreak, dsCont, dsPar, dsAug, dsFrz, dsApp, dsExt, dsPut, dsAugO, dsOwn, dsParOO, dsParDO, dsParDDO, dsFrzA, dxRep, diOwn, dsRaise, deAnd, deOr, deNot, de1, de2, deB, deX, dxB, dxLst, deName, deC, deCall, deIxO, deLenO, deTup, deLst, daCons, daNil, daStar, deChain, dtChain, dtV, dtAnd, dtOr, dtNot, dtYes, deIf, deSl, doNone, doSome, rdAdd, rdSub, rdMul, rdMod, rdDiv, rdPow, rdI, rdIc, rdB, rdLt, rdLe, rdGt, rdGe, rdNeg, rdIs, rdEq, rdNe, rdIx, rdIsN, rdNotN, rdIsB, rdNotB, rdRev, rdSeats, rdCatL, rdCatT, rdRepL, rdLen, rdTuple, rdList, rxList, rdInt, rdMax2, rdMin2, dgName, dgTup, dgCons, dgNil, deRefused, rdRepr, rdNeS, rdEqL, rdNeL, rdRepT, rdIsLn, noOwn, diSeq, diEn, diZp, diR1, diR2, noX,  eqOk_int, eqOk_bl, eqOk_non, eqv_int, eqv_bl, eqv_non, atI_0, atI_1, atI_2, atI_3, qty_non, qisI_non, qisB_non, qisL_non, qisU_non, qisS_non, qisD_non, qisNon_non, qcooked_non, qseq_non, qty_bl, qisI_bl, qisB_bl, qisL_bl, qisU_bl, qisS_bl, qisD_bl, qisNon_bl, qcooked_bl, qseq_bl, qty_int, qisI_int, qisB_int, qisL_int, qisU_int, qisS_int, qisD_int, qisNon_int, qcooked_int, qseq_int, qty_str, qisI_str, qisB_str, qisL_str, qisU_str, qisS_str, qisD_str, qisNon_str, qcooked_str, qseq_str, qty_lst, qisI_lst, qisB_lst, qisL_lst, qisU_lst, qisS_lst, qisD_lst, qisNon_lst, qcooked_lst, qseq_lst, qty_tup, qisI_tup, qisB_tup, qisL_tup, qisU_tup, qisS_tup, qisD_tup, qisNon_tup, qcooked_tup, qseq_tup, qty_dct, qisI_dct, qisB_dct, qisL_dct, qisU_dct, qisS_dct, qisD_dct, qisNon_dct, qcooked_dct, qseq_dct, qix_lst, qsl_lst, qix_tup, qsl_tup, qisNon_ln, qcooked_ln, and_assoc, exists_and_left, exists_eq_left, exists_eq_left', exists_eq_right, dxLc_eq, dsFor_eq, rngD_0, rngD_eq, zipD_map, enumD_map0]
    refine some_of _ (dpN_len fs a _) _ _ _ _ _ _ _ _ _ _ _ _ ?_
    refine ⟨eqOk_ints _, eqOk_lst0, ?_⟩
    have hmin := @omin_min (dpN fs a ((e : Int) - ((a : Int) + 1)).toNat)
    have hnil := @omin_nil (dpN fs a ((e : Int) - ((a : Int) + 1)).toNat)
    unfold fewestN at o
    rw [show ((e : Int) - ((a : Int) + 1)).toNat = e - a - 1 by omega] at hmin hnil ⊢
    generalize ominL (dpN fs a (e - a - 1)) = om at hmin hnil o
    generalize (dpN fs a (e - a - 1)).filterMap id = S at hmin hnil ⊢
    cases S with
    | nil =>
      rw [hnil rfl] at o
      exact .inl ⟨by rw [eqv_lst0]; rfl, o⟩
    | cons n S =>
      refine .inr ⟨by rw [eqv_lst0]; rfl, _, rfl, by simp, fun m hmem hle => ?_⟩
      obtain ⟨k, rfl, ek⟩ := hmin hmem hle
      rw [ek] at o
      exact o
end
end K14
end
-- F_14__law_walk
section
set_option Elab.async false
set_option linter.all false
set_option maxRecDepth 100000
set_option maxHeartbeats 4000000
set_option autoImplicit false
namespace K14
open PySem PySem.Spec PyProof.Rows L2 Sd
section
variable {P : Program} {w : World} {K : PySem.W.Frag} {mg : Str → Option Value} {base : Heap}
theorem ok__law_walk (T : Txt K mg) {f : Addr} {fd : FuncData} (F : FnP K "_law_walk" s__law_walk f fd)   : FnOk P w K mg base (L2.CX P w) 1 f fd ["free", "first", "end"] (spD K sp__law_walk) := by
  have sc := sc__law_walk
  refine fnD F sc (fun F ds O h => by
    obtain ⟨_, _, _, _, e, _⟩ := h
    rw [e] <;> rfl) (fun cdv A outer s G E ds O hr h hE => ⟨_, (pssd_cons (psd_set (i := 3) sc.nd rfl (Or.inl rfl) (pd_lst pad_nil))
  (pssd_cons (psd_for (passes_of rfl) (pid_r1 T.b_range (pad_cons pd_int pad_nil)) (pgd_name (i := 4) sc.nd rfl (Or.inl rfl))
  (pssd_cons (psd_set (i := 5) sc.nd rfl (Or.inl rfl) (pd_add (pd_name (pv 1)) (pd_callB call_len_seq snd_len T.b_len (pad_cons (pd_name (pv 3)) pad_nil))))
  (pssd_cons (psd_if (ptd_ge (pd_name (pv 5)) (pd_name (pv 2)))
  (pssd_one (psd_ret (pd_name (pv 3))))
  pssd_nil)
  (pssd_cons (psd_own (i := 6) sc.nd rfl (Or.inl rfl) (pxd_lst pad_nil))
  (pssd_cons (psd_for (passes_of rfl) (pid_seq (pd_name (pv 0))) (pgd_name (i := 7) sc.nd rfl (Or.inl rfl))
  (pssd_cons (psd_set (i := 8) sc.nd rfl (Or.inl rfl) (pd_name (pv 5)))
  (pssd_cons (psd_for (passes_of rfl) (pid_r2 T.b_range (pad_cons (pd_name (pv 5)) (pad_cons (pd_name (pv 2)) pad_nil))) (pgd_name (i := 9) sc.nd rfl (Or.inl rfl))
  (pssd_one (psd_set (i := 8) sc.nd rfl (Or.inl rfl) (pd_ifExp (ptd_w (pwd_and (ptd_eq hr.units (pd_name (pv 8)) (pd_name (pv 9))) (pwd_and1 (ptd_val (pd_item (pd_name (pv 7)) (pd_name (pv 9))))))) (pd_add (pd_name (pv 9)) pd_int) (pd_name (pv 8))))))
  (pssd_one (psd_app (i := 6) (pv 6) (pd_name (pv 8)))))))
  (pssd_cons (psd_frz 6 (psd_if (ptd_eq hr.units (pd_callB (cr_max rfl) snd_max T.b_max (pad_cons (pd_name (pv 6)) pad_nil)) (pd_name (pv 5)))
  (pssd_one (psd_ret pd_non))
  pssd_nil))
  (pssd_one (psd_set (i := 3) sc.nd rfl (Or.inl rfl) (pd_catL (pd_name (pv 3)) (pd_repL (pd_lst (pad_cons (pd_index (pd_name (pv 6)) (pad_cons (pd_callB (cr_max rfl) snd_max T.b_max (pad_cons (pd_name (pv 6)) pad_nil)) pad_nil)) pad_nil)) (pd_sub (pd_callB (cr_max rfl) snd_max T.b_max (pad_cons (pd_name (pv 6)) pad_nil)) (pd_name (pv 5)))))))))))))
  (pssd_one (psd_ret pd_non)))), ?_⟩)
  obtain ⟨free, fs, a, e, rfl, h⟩ := h
  obtain ⟨hs, hne, hl, hb, ha, he, hq, o⟩ := h
  simp [startD, wipeD, dsRet, dsRetN, dsIf, dsSeq, dsNext, dsAsg, dsDrop, dsBreak, dsCont, dsPar, dsAug, dsFrz, dsApp, dsExt, dsPut, dsAugO, dsOwn, dsParOO, dsParDO, dsParDDO, dsFrzA, dxRep, diOwn, dsRaise, deAnd, deOr, deNot, de1, de2, deB, deX, dxB, dxLst, deName, deC, deCall, deIxO, deLenO, deTup, deLst, daCons, daNil, daStar, deChain, dtChain, dtV, dtAnd, dtOr, dtNot, dtYes, deIf, deSl, doNone, doSome, rdAdd, rdSub, rdMul, rdMod, rdDiv, rdPow, rdI, rdIc, rdB, rdLt, rdLe, rdGt, rdGe, rdNeg, rdIs, rdEq, rdNe, rdIx, rdIsN, rdNotN, rdIsB, rdNotB, rdRev, rdSeats, rdCatL, rdCatT, rdRepL, rdLen, rdTuple, rdList, rxList, rdInt, rdMax2, rdMin2, dgName, dgTup, dgCons, dgNil, deRefused, rdRepr, rdNeS, rdEqL, rdNeL, rdRepT, rdIsLn, noOwn, diSeq, diEn, diZp, diR1, diR2, noX,  eqOk_int, eqOk_bl, eqOk_non, eqv_int, eqv_bl, eqv_non, atI_0, atI_1, atI_2, atI_3, qty_non, qisI_non, qisB_non, qisL_non, qisU_non, qisS_non, qisD_non, qisNon_non, qcooked_non, qseq_non, qty_bl, qisI_bl, qisB_bl, qisL_bl, qisU_bl, qisS_bl, qisD_bl, qisNon_bl, qcooked_bl, qseq_bl, qty_int, qisI_int, qisB_int, qisL_int, qisU_int, qisS_int, qisD_int, qisNon_int, qcooked_int, qseq_int, qty_str, qisI_str, qisB_str, qisL_str, qisU_str, qisS_str, qisD_str, qisNon_str, qcooked_str, qseq_str, qty_lst, qisI_lst, qisB_lst, qisL_lst, qisU_lst, qisS_lst, qisD_lst, qisNon_lst, qcooked_lst, qseq_lst, qty_tup, qisI_tup, qisB_tup, qisL_tup, qisU_tup, qisS_tup, qisD_tup, qisNon_tup, qcooked_tup, qseq_tup, qty_dct, qisI_dct, qisB_dct, qisL_dct, qisU_dct, qisS_dct, qisD_dct, qisNon_dct, qcooked_dct, qseq_dct, qix_lst, qsl_lst, qix_tup, qsl_tup, qisNon_ln, qcooked_ln, and_assoc, exists_and_left, exists_eq_left, exists_eq_left', exists_eq_right, dxLc_eq, dsFor_eq, rngD_0, rngD_eq, zipD_map, enumD_map0, hs]
  refine fb_on (List.range 12) (fun n δ' => ∃ (i : Nat) (acc : List Int) (u v w x y z : Sl), δ' = [.dat free, .dat (.int (a : Int)), .dat (.int (e : Int)), .dat (.lst (acc.map .int)), u, v, w, x, y, z] ∧ a + n ≤ i ∧ i ≤ e ∧ acc.length = i - a ∧ walkG fs e (e - i) i acc = walkG fs e (e - a) a []) ⟨a, [], _, _, _, _, _, _, rfl, by omega, ha, by simp, rfl⟩ (fun n x0 δ' hn hj => ?_) (fun δ' hj => ?_)
  · obtain ⟨i, acc, u, v, w, x, y, z, rfl, hai, hi, hac, hw⟩ := hj
    simp [startD, wipeD, dsRet, dsRetN, dsIf, dsSeq, dsNext, dsAsg, dsDrop, dsBreak, dsCont, dsPar, dsAug, dsFrz, dsApp, dsExt, dsPut, dsAugO, dsOwn, dsParOO, dsParDO, dsParDDO, dsFrzA, dxRep, diOwn, dsRaise, deAnd, deOr, deNot, de1, de2, deB, deX, dxB, dxLst, deName, deC, deCall, deIxO, deLenO, deTup, deLst, daCons, daNil, daStar, deChain, dtChain, dtV, dtAnd, dtOr, dtNot, dtYes, deIf, deSl, doNone, doSome, rdAdd, rdSub, rdMul, rdMod, rdDiv, rdPow, rdI, rdIc, rdB, rdLt, rdLe, rdGt, rdGe, rdNeg, rdIs, rdEq, rdNe, rdIx, rdIsN, rdNotN, rdIsB, rdNotB, rdRev, rdSeats, rdCatL, rdCatT, rdRepL, rdLen, rdTuple, rdList, rxList, rdInt, rdMax2, rdMin2, dgName, dgTup, dgCons, dgNil, deRefused, rdRepr, rdNeS, rdEqL, rdNeL, rdRepT, rdIsLn, noOwn, diSeq, diEn, diZp, diR1, diR2, noX,  eqOk_int, eqOk_bl, eqOk_non, eqv_int, eqv_bl, eqv_non, atI_0, atI_1, atI_2, atI_3, qty_non, qisI_non, qisB_non, qisL_non, qisU_non, qisS_non, qisD_non, qisNon_non, qcooked_non, qseq_non, qty_bl, qisI_bl, qisB_bl, qisL_bl, qisU_bl, qisS_bl, qisD_bl, qisNon_bl, qcooked_bl, qseq_bl, qty_int, qisI_int, qisB_int, qisL_int, qisU_int, qisS_int, qisD_int, qisNon_int, qcooked_int, qseq_int, qty_str, qisI_str, qisB_str, qisL_str, qisU_str, qisS_str, qisD_str, qisNon_str, qcooked_str, qseq_str, qty_lst, qisI_lst, qisB_lst, qisL_lst, qisU_lst, qisS_lst, qisD_lst, qisNon_lst, qcooked_lst, qseq_lst, qty_tup, qisI_tup, qisB_tup, qisL_tup, qisU_tup, qisS_tup, qisD_tup, qisNon_tup, qcooked_tup, qseq_tup, qty_dct, qisI_dct, qisB_dct, qisL_dct, qisU_dct, qisS_dct, qisD_dct, qisNon_dct, qcooked_dct, qseq_dct, qix_lst, qsl_lst, qix_tup, qsl_tup, qisNon_ln, qcooked_ln, and_assoc, exists_and_left, exists_eq_left, exists_eq_left', exists_eq_right, dxLc_eq, dsFor_eq, rngD_0, rngD_eq, zipD_map, enumD_map0, hs]
    by_cases hie : i = e
    · rw [if_pos (by omega)]
      subst hie
      rw [Nat.sub_self] at hw
      rw [← hw] at o
      exact o
    · rw [if_neg (by omega)]
      have hlt : i < e := by omega
      refine fb_on fs (fun j δ' => ∃ p q r : Sl, δ' = [.dat free, .dat (.int (a : Int)), .dat (.int (e : Int)), .dat (.lst (acc.map .int)), .dat (.int (x0 : Int)), .dat (.int (i : Int)), .own (((fars (fs.take j) e i).map fun n : Nat => (n : Int)).map .int), p, q, r]) ⟨x, y, z, by rw [show (a : Int) + (acc.length : Int) = (i : Int) by omega]; rfl⟩ (fun j bs δ' hj hp => ?_) (fun δ' hp => ?_)
      · obtain ⟨p, q, r, rfl⟩ := hp
        simp [startD, wipeD, dsRet, dsRetN, dsIf, dsSeq, dsNext, dsAsg, dsDrop, dsBreak, dsCont, dsPar, dsAug, dsFrz, dsApp, dsExt, dsPut, dsAugO, dsOwn, dsParOO, dsParDO, dsParDDO, dsFrzA, dxRep, diOwn, dsRaise, deAnd, deOr, deNot, de1, de2, deB, deX, dxB, dxLst, deName, deC, deCall, deIxO, deLenO, deTup, deLst, daCons, daNil, daStar, deChain, dtChain, dtV, dtAnd, dtOr, dtNot, dtYes, deIf, deSl, doNone, doSome, rdAdd, rdSub, rdMul, rdMod, rdDiv, rdPow, rdI, rdIc, rdB, rdLt, rdLe, rdGt, rdGe, rdNeg, rdIs, rdEq, rdNe, rdIx, rdIsN, rdNotN, rdIsB, rdNotB, rdRev, rdSeats, rdCatL, rdCatT, rdRepL, rdLen, rdTuple, rdList, rxList, rdInt, rdMax2, rdMin2, dgName, dgTup, dgCons, dgNil, deRefused, rdRepr, rdNeS, rdEqL, rdNeL, rdRepT, rdIsLn, noOwn, diSeq, diEn, diZp, diR1, diR2, noX,  eqOk_int, eqOk_bl, eqOk_non, eqv_int, eqv_bl, eqv_non, atI_0, atI_1, atI_2, atI_3, qty_non, qisI_non, qisB_non, qisL_non, qisU_non, qisS_non, qisD_non, qisNon_non, qcooked_non, qseq_non, qty_bl, qisI_bl, qisB_bl, qisL_bl, qisU_bl, qisS_bl, qisD_bl, qisNon_bl, qcooked_bl, qseq_bl, qty_int, qisI_int, qisB_int, qisL_int, qisU_int, qisS_int, qisD_int, qisNon_int, qcooked_int, qseq_int, qty_str, qisI_str, qisB_str, qisL_str, qisU_str, qisS_str, qisD_str, qisNon_str, qcooked_str, qseq_str, qty_lst, qisI_lst, qisB_lst, qisL_lst, qisU_lst, qisS_lst, qisD_lst, qisNon_lst, qcooked_lst, qseq_lst, qty_tup, qisI_tup, qisB_tup, qisL_tup, qisU_tup, qisS_tup, qisD_tup, qisNon_tup, qcooked_tup, qseq_tup, qty_dct, qisI_dct, qisB_dct, qisL_dct, qisU_dct, qisS_dct, qisD_dct, qisNon_dct, qcooked_dct, qseq_dct, qix_lst, qsl_lst, qix_tup, qsl_tup, qisNon_ln, qcooked_ln, and_assoc, exists_and_left, exists_eq_left, exists_eq_left', exists_eq_right, dxLc_eq, dsFor_eq, rngD_0, rngD_eq, zipD_map, enumD_map0]
        have hbs := hb bs (List.mem_of_getElem? hj)
        have hjl := (List.getElem?_eq_some_iff.mp hj).1
        refine ⟨by omega, by omega, ?_⟩
        refine fb_on (List.range _) (fun m δ' => ∃ r, δ' = [.dat free, .dat (.int (a : Int)), .dat (.int (e : Int)), .dat (.lst (acc.map .int)), .dat (.int (x0 : Int)), .dat (.int (i : Int)), .own (((fars (fs.take j) e i).map fun n : Nat => (n : Int)).map .int), .dat (rowD bs), .dat (.int (min (farN bs e i) (i + m) : Nat)), r]) ⟨r, by rw [Nat.min_eq_right (by have := farN_ge bs e i; omega), List.map_map]; rfl⟩ (fun m m0 δ' hm hp => ?_) (fun δ' hp => ?_)
        · obtain ⟨r, rfl⟩ := hp
          obtain ⟨hm1, rfl⟩ := range_at hm
          simp [startD, wipeD, dsRet, dsRetN, dsIf, dsSeq, dsNext, dsAsg, dsDrop, dsBreak, dsCont, dsPar, dsAug, dsFrz, dsApp, dsExt, dsPut, dsAugO, dsOwn, dsParOO, dsParDO, dsParDDO, dsFrzA, dxRep, diOwn, dsRaise, deAnd, deOr, deNot, de1, de2, deB, deX, dxB, dxLst, deName, deC, deCall, deIxO, deLenO, deTup, deLst, daCons, daNil, daStar, deChain, dtChain, dtV, dtAnd, dtOr, dtNot, dtYes, deIf, deSl, doNone, doSome, rdAdd, rdSub, rdMul, rdMod, rdDiv, rdPow, rdI, rdIc, rdB, rdLt, rdLe, rdGt, rdGe, rdNeg, rdIs, rdEq, rdNe, rdIx, rdIsN, rdNotN, rdIsB, rdNotB, rdRev, rdSeats, rdCatL, rdCatT, rdRepL, rdLen, rdTuple, rdList, rxList, rdInt, rdMax2, rdMin2, dgName, dgTup, dgCons, dgNil, deRefused, rdRepr, rdNeS, rdEqL, rdNeL, rdRepT, rdIsLn, noOwn, diSeq, diEn, diZp, diR1, diR2, noX,  eqOk_int, eqOk_bl, eqOk_non, eqv_int, eqv_bl, eqv_non, atI_0, atI_1, atI_2, atI_3, qty_non, qisI_non, qisB_non, qisL_non, qisU_non, qisS_non, qisD_non, qisNon_non, qcooked_non, qseq_non, qty_bl, qisI_bl, qisB_bl, qisL_bl, qisU_bl, qisS_bl, qisD_bl, qisNon_bl, qcooked_bl, qseq_bl, qty_int, qisI_int, qisB_int, qisL_int, qisU_int, qisS_int, qisD_int, qisNon_int, qcooked_int, qseq_int, qty_str, qisI_str, qisB_str, qisL_str, qisU_str, qisS_str, qisD_str, qisNon_str, qcooked_str, qseq_str, qty_lst, qisI_lst, qisB_lst, qisL_lst, qisU_lst, qisS_lst, qisD_lst, qisNon_lst, qcooked_lst, qseq_lst, qty_tup, qisI_tup, qisB_tup, qisL_tup, qisU_tup, qisS_tup, qisD_tup, qisNon_tup, qcooked_tup, qseq_tup, qty_dct, qisI_dct, qisB_dct, qisL_dct, qisU_dct, qisS_dct, qisD_dct, qisNon_dct, qcooked_dct, qseq_dct, qix_lst, qsl_lst, qix_tup, qsl_tup, qisNon_ln, qcooked_ln, and_assoc, exists_and_left, exists_eq_left, exists_eq_left', exists_eq_right, rowD]
          have g1 := farN_ge bs e i
          have g2 := farN_le bs e i (by omega)
          have hat := List.getElem?_eq_getElem (show i + m0 < bs.length by omega)
          have hix : atI (List.map D.bl bs) ((i : Int) + (m0 : Int)) = some (D.bl bs[i + m0]) := by
            rw [show (i : Int) + (m0 : Int) = ((i + m0 : Nat) : Int) by omega, atI_nat', List.getElem?_map, hat]
            rfl
          by_cases c1 : i + m0 ≤ farN bs e i
          · rw [if_pos (by omega)]
            refine ⟨_, hix, ?_⟩
            by_cases c2 : i + m0 < farN bs e i
            · have := farN_all (bs := bs) (e := e) i (i + m0) (by omega) c2
              rw [hat] at this
              simp only [Option.some.injEq] at this
              rw [this]
              exact .inr ⟨rfl, by omega⟩
            · have e1 : farN bs e i = i + m0 := by omega
              rcases farN_end (bs := bs) (e := e) i (by omega) with h | h
              · omega
              · rw [e1, hat] at h
                have : bs[i + m0] = false := by
                  cases hbb : bs[i + m0] with
                  | false => rfl
                  | true => rw [hbb] at h; exact absurd rfl h
                rw [this]
                exact .inl ⟨rfl, by omega⟩
          · rw [if_neg (by omega)]
            omega
        · obtain ⟨r, rfl⟩ := hp
          simp [startD, wipeD, dsRet, dsRetN, dsIf, dsSeq, dsNext, dsAsg, dsDrop, dsBreak, dsCont, dsPar, dsAug, dsFrz, dsApp, dsExt, dsPut, dsAugO, dsOwn, dsParOO, dsParDO, dsParDDO, dsFrzA, dxRep, diOwn, dsRaise, deAnd, deOr, deNot, de1, de2, deB, deX, dxB, dxLst, deName, deC, deCall, deIxO, deLenO, deTup, deLst, daCons, daNil, daStar, deChain, dtChain, dtV, dtAnd, dtOr, dtNot, dtYes, deIf, deSl, doNone, doSome, rdAdd, rdSub, rdMul, rdMod, rdDiv, rdPow, rdI, rdIc, rdB, rdLt, rdLe, rdGt, rdGe, rdNeg, rdIs, rdEq, rdNe, rdIx, rdIsN, rdNotN, rdIsB, rdNotB, rdRev, rdSeats, rdCatL, rdCatT, rdRepL, rdLen, rdTuple, rdList, rxList, rdInt, rdMax2, rdMin2, dgName, dgTup, dgCons, dgNil, deRefused, rdRepr, rdNeS, rdEqL, rdNeL, rdRepT, rdIsLn, noOwn, diSeq, diEn, diZp, diR1, diR2, noX,  eqOk_int, eqOk_bl, eqOk_non, eqv_int, eqv_bl, eqv_non, atI_0, atI_1, atI_2, atI_3, qty_non, qisI_non, qisB_non, qisL_non, qisU_non, qisS_non, qisD_non, qisNon_non, qcooked_non, qseq_non, qty_bl, qisI_bl, qisB_bl, qisL_bl, qisU_bl, qisS_bl, qisD_bl, qisNon_bl, qcooked_bl, qseq_bl, qty_int, qisI_int, qisB_int, qisL_int, qisU_int, qisS_int, qisD_int, qisNon_int, qcooked_int, qseq_int, qty_str, qisI_str, qisB_str, qisL_str, qisU_str, qisS_str, qisD_str, qisNon_str, qcooked_str, qseq_str, qty_lst, qisI_lst, qisB_lst, qisL_lst, qisU_lst, qisS_lst, qisD_lst, qisNon_lst, qcooked_lst, qseq_lst, qty_tup, qisI_tup, qisB_tup, qisL_tup, qisU_tup, qisS_tup, qisD_tup, qisNon_tup, qcooked_tup, qseq_tup, qty_dct, qisI_dct, qisB_dct, qisL_dct, qisU_dct, qisS_dct, qisD_dct, qisNon_dct, qcooked_dct, qseq_dct, qix_lst, qsl_lst, qix_tup, qsl_tup, qisNon_ln, qcooked_ln, and_assoc, exists_and_left, exists_eq_left, exists_eq_left', exists_eq_right]
          refine ⟨by simp [fars]; omega, ?_⟩
          have g2 := farN_le bs e i (by omega)
          rw [take_snoc hj]
          unfold fars
          rw [List.map_append, List.map_append]
          congr 1
          simp
          omega
      · obtain ⟨p, q, r, rfl⟩ := hp
        rw [List.take_length]
        simp [startD, wipeD, dsRet, dsRetN, dsIf, dsSeq, dsNext, dsAsg, dsDrop, dsBreak, dsCont, dsPar, dsAug, dsFrz, dsApp, dsExt, dsPut, dsAugO, dsOwn, dsParOO, dsParDO, dsParDDO, dsFrzA, dxRep, diOwn, dsRaise, deAnd, deOr, deNot, de1, de2, deB, deX, dxB, dxLst, deName, deC, deCall, deIxO, deLenO, deTup, deLst, daCons, daNil, daStar, deChain, dtChain, dtV, dtAnd, dtOr, dtNot, dtYes, deIf, deSl, doNone, doSome, rdAdd, rdSub, rdMul, rdMod, rdDiv, rdPow, rdI, rdIc, rdB, rdLt, rdLe, rdGt, rdGe, rdNeg, rdIs, rdEq, rdNe, rdIx, rdIsN, rdNotN, rdIsB, rdNotB, rdRev, rdSeats, rdCatL, rdCatT, rdRepL, rdLen, rdTuple, rdList, rxList, rdInt, rdMax2, rdMin2, dgName, dgTup, dgCons, dgNil, deRefused, rdRepr, rdNeS, rdEqL, rdNeL, rdRepT, rdIsLn, noOwn, diSeq, diEn, diZp, diR1, diR2, noX,  eqOk_int, eqOk_bl, eqOk_non, eqv_int, eqv_bl, eqv_non, atI_0, atI_1, atI_2, atI_3, qty_non, qisI_non, qisB_non, qisL_non, qisU_non, qisS_non, qisD_non, qisNon_non, qcooked_non, qseq_non, qty_bl, qisI_bl, qisB_bl, qisL_bl, qisU_bl, qisS_bl, qisD_bl, qisNon_bl, qcooked_bl, qseq_bl, qty_int, qisI_int, qisB_int, qisL_int, qisU_int, qisS_int, qisD_int, qisNon_int, qcooked_int, qseq_int, qty_str, qisI_str, qisB_str, qisL_str, qisU_str, qisS_str, qisD_str, qisNon_str, qcooked_str, qseq_str, qty_lst, qisI_lst, qisB_lst, qisL_lst, qisU_lst, qisS_lst, qisD_lst, qisNon_lst, qcooked_lst, qseq_lst, qty_tup, qisI_tup, qisB_tup, qisL_tup, qisU_tup, qisS_tup, qisD_tup, qisNon_tup, qcooked_tup, qseq_tup, qty_dct, qisI_dct, qisB_dct, qisL_dct, qisU_dct, qisS_dct, qisD_dct, qisNon_dct, qcooked_dct, qseq_dct, qix_lst, qsl_lst, qix_tup, qsl_tup, qisNon_ln, qcooked_ln, and_assoc, exists_and_left, exists_eq_left, exists_eq_left', exists_eq_right, deIndex]
        have hpos : 0 < (fars fs e i).length := by
          unfold fars
          rw [List.length_map]
          exact List.length_pos_iff.mpr hne
        have hmap : List.map (D.int ∘ fun n : Nat => (n : Int)) (fars fs e i) = ((fars fs e i).map fun n : Nat => (n : Int)).map D.int := by rw [List.map_map]
        rw [hmap]
        have hk : e - i = (e - i - 1) + 1 := by omega
        rw [hk, walkG, if_pos hlt] at hw
        refine ⟨_, rfl, by rw [List.length_map]; exact hpos, fun mx hmem hmx => ?_⟩
        have emx := maxN_eq hmem hmx
        subst emx
        have g1 := maxN_far_ge hne e i
        have g2 := maxN_far_le (fs := fs) hi
        refine ⟨rfl, ?_⟩
        rw [eqv_int]
        by_cases hst : maxN (fars fs e i) = i
        · rw [if_pos hst] at hw
          rw [hst, if_pos (by simp)]
          rw [← hw] at o
          exact o
        · rw [if_neg hst] at hw
          rw [if_neg (by simp; omega)]
          refine ⟨_, rfl, _, rfl, by rw [List.length_map]; exact hpos, fun mx hmem2 hmx2 => ?_⟩
          have emx := maxN_eq hmem2 hmx2
          subst emx
          refine ⟨_, rfl, hmem2, _, rfl, by rw [List.length_map]; exact hpos, fun mx hmem3 hmx3 => ?_⟩
          have emx := maxN_eq hmem3 hmx3
          subst emx
          rw [idxOf_cast]
          have erep : repD (((maxN (fars fs e i) : Nat) : Int) - (i : Int)) [D.int (((fars fs e i).idxOf (maxN (fars fs e i)) : Nat) : Int)] = (List.replicate (maxN (fars fs e i) - i) (((fars fs e i).idxOf (maxN (fars fs e i)) : Nat) : Int)).map D.int := by
            rw [show ((maxN (fars fs e i) : Nat) : Int) - (i : Int) = ((maxN (fars fs e i) - i : Nat) : Int) by omega, repD_one, List.map_replicate]
          refine ⟨_, rfl, by omega, by omega, by rw [erep]; simp; omega, maxN (fars fs e i), acc ++ List.replicate (maxN (fars fs e i) - i) (((fars fs e i).idxOf (maxN (fars fs e i)) : Nat) : Int), by rw [erep, List.map_append], by omega, by omega, by simp; omega, ?_⟩
          rw [← hw]
          exact walkG_fuel hne e _ _ _ _ (by omega) (by omega)
  · obtain ⟨i, acc, u, v, w, x, y, z, rfl, hai, hi, hac, hw⟩ := hj
    rw [List.length_range] at hai
    omega
end
end K14
end
-- F_14__law_refused
section
set_option Elab.async false
set_option linter.all false
set_option maxRecDepth 100000
set_option maxHeartbeats 4000000
set_option autoImplicit false
namespace K14
open PySem PySem.Spec PyProof.Rows L2 Sd
section
variable {P : Program} {w : World} {K : PySem.W.Frag} {mg : Str → Option Value} {base : Heap}
def refTab : List (Str × Str) := [("BadFree", "free"), ("BadPassengers", "passengers"), ("BadTrip", "trip")]
theorem gives__law_refused {X : Cx} (x_BadFree : Er X.prog X.w X.K X.mg X.base 1 "BadFree") (x_BadPassengers : Er X.prog X.w X.K X.mg X.base 1 "BadPassengers") (x_BadTrip : Er X.prog X.w X.K X.mg X.base 1 "BadTrip") (hx : exmAll X.K refTab) (g : Addr) (cdg : Value) (q : Str) : LamX.GivesTo X ["ask", "e"] "_law_refused" (defScope s__law_refused) g cdg (defBody s__law_refused) "ask" q (TRef X.K refTab) :=
  have sc := sc__law_refused
  ref_gives (l := refTab) hx (by decide) (fun f s H => (does_cons rfl sc.nd rfl rfl ⟨by rfl, by decide, .inl x_BadFree.g⟩ (fun a oe cls d pn hz hd => pss_one (ps_ret (pe_tup (pa_cons pe_str (pa_cons (pe_xf x_BadFree.f.xf x_BadFree.f.noV hz hd (pv 1)) pa_nil))))) (does_cons rfl sc.nd rfl rfl ⟨by rfl, by decide, .inl x_BadPassengers.g⟩ (fun a oe cls d pn hz hd => pss_one (ps_ret (pe_tup (pa_cons pe_str (pa_cons (pe_xf x_BadPassengers.f.xf x_BadPassengers.f.noV hz hd (pv 1)) pa_nil))))) (does_cons rfl sc.nd rfl rfl ⟨by rfl, by decide, .inl x_BadTrip.g⟩ (fun a oe cls d pn hz hd => pss_one (ps_ret (pe_tup (pa_cons pe_str (pa_cons (pe_xf x_BadTrip.f.xf x_BadTrip.f.noV hz hd (pv 1)) pa_nil))))) (does_nil rfl rfl LamX.takes0)))))

end
end K14
end
-- F_14_law
section
set_option Elab.async false
set_option linter.all false
set_option maxRecDepth 100000
set_option maxHeartbeats 4000000
set_option autoImplicit false
namespace K14
open PySem PySem.Spec PyProof.Rows L2 Sd
section
variable {P : Program} {w : World} {K : PySem.W.Frag} {mg : Str → Option Value} {base : Heap}
abbrev cxLaw (P : Program) (w : World) (K : PySem.W.Frag) (mg : Str → Option Value) (base : Heap) (f c : Addr) (A : Around) (s : Shared) (H : Hp) : Cx := cxOf (L2.CX P w) P w K mg base ["script", "row", "seats", "line", "legs", "people", "k", "first", "due", "loads", "turn", "at", "thing", "odd", "often", "free", "end", "walk", "fewest", "changes", "good", "bad", "ask", "wrong", "leg", "one"] "law" (defScope s_law) f (.ref c) A [] s H E0
def tabsL (Pt : Addr) : List (Addr × Str) := [(Pt, (envOfC "law" (defScope s_law) 0 0 .none).qual ++ "<lambda>")]
theorem lam_law {f c Pt gR : Addr} {fdR : FuncData} {A : Around} {s : Shared} {H : Hp} (FR : FnP K "_law_refused" s__law_refused gR fdR) (bR : Binds K fdR ["ask"] []) (hmR : mg "_law_refused" = some (.ref gR)) (hx : exmAll K refTab) (x_BadFree : Er P w K mg base 1 "BadFree") (x_BadPassengers : Er P w K mg base 1 "BadPassengers") (x_BadTrip : Er P w K mg base 1 "BadTrip") (TB : LamX.TabB base mg c Pt) (hr : Room 13 (cxLaw P w K mg base f c A s H).A) :
    ∀ (G : Gx), G.F.tabs = tabsL Pt → ∀ {db : (Str → D → Prop) → DE} {params : Arguments} {body : Expr} {scope : Scope} {lpos p pos : Pos}, LamX.LamS (cxLaw P w K mg base f c A s H).env.scope scope → defaultsOf params (cxLaw P w K mg base f c A s H).env = ([], []) →
    (∀ (q : Str) (cl : List (Str × Addr)) (pm cv ctv : Value), bindArgs (PySem.W.kla_fn "<lambda>" q params body scope cl pm cv ctv) ⟨[], []⟩ = pure []) →
    (∀ (A2 : Around) (outer2 : List Env) (s2 : Shared) (H2 : Hp) (E2 : XK) (f2 c2 : Addr), Room 11 (A2.deeper (LamX.lamEnv (cxLaw P w K mg base f c A s H) scope s2.heap.objs.size f2 c2)) → PE (LamX.lamCx (cxLaw P w K mg base f c A s H) A2 outer2 s2 H2 E2 scope f2 c2) body (lamT K G.F db E2)) →
    PE (cxLaw P w K mg base f c A s H) (.Call (.Name "_law_refused" p) [.Lambda params body scope lpos] [] pos) (LamX.tLam G.F.tabs (TRef K refTab) (lamT K G.F db)) := by
  intro G hG db params body scope lpos p pos L hdef hbind hbody
  obtain ⟨oc, od, dV, kV, doc, pm, an, cdv, ct, osl, rfl, lk, hcd, _, _⟩ := FR.ex
  rw [hG]
  exact LamX.pe_lamcall (X := cxLaw P w K mg base f c A s H) (Ng := ["ask", "e"]) (a := "ask") (by rfl) hmR FR.kp lk hcd bR sc__law_refused rfl (Or.inl rfl) (gives__law_refused x_BadFree x_BadPassengers x_BadTrip hx gR cdv _) TB rfl (List.mem_singleton.mpr rfl) (fun q hq _ => by rw [List.mem_singleton.mp hq] <;> rfl) hr L hdef hbind hbody
theorem law_data (T : Txt K mg) {f c Pt gR r sa : Addr} {fdR : FuncData} {s0 : Shared} {H0 : Hp} (c__law_alike : Cl P w K mg base 8 "_law_alike" sp__law_alike []) (c__law_fewest : Cl P w K mg base 1 "_law_fewest" sp__law_fewest []) (c__law_is_seating : Cl P w K mg base 1 "_law_is_seating" sp__law_is_seating []) (c__law_line : Cl P w K mg base 3 "_law_line" sp__law_line []) (c__law_pick : Cl P w K mg base 2 "_law_pick" sp__law_pick []) (c__law_seating : Cl P w K mg base 1 "_law_seating" sp__law_seating []) (c__law_taken : Cl P w K mg base 1 "_law_taken" sp__law_taken []) (c__law_walk : Cl P w K mg base 1 "_law_walk" sp__law_walk []) (c_best_walk : Cl P w K mg base 5 "best_walk" sp_best_walk []) (c_change_legs : Cl P w K mg base 6 "change_legs" sp_change_legs []) (c_fewest_changes : Cl P w K mg base 7 "fewest_changes" sp_fewest_changes []) (c_fullest : Cl P w K mg base 4 "fullest" sp_fullest []) (c_is_seating : Cl P w K mg base 4 "is_seating" sp_is_seating []) (c_is_walk : Cl P w K mg base 5 "is_walk" sp_is_walk []) (c_seating : Cl P w K mg base 4 "seating" sp_seating []) (c_seats_needed : Cl P w K mg base 4 "seats_needed" sp_seats_needed [])  (lnOk : Ln P w K mg base 3) (lnEq : LnEq P w K mg base 1) (FR : FnP K "_law_refused" s__law_refused gR fdR) (bR : Binds K fdR ["ask"] []) (hmR : mg "_law_refused" = some (.ref gR)) (hx : exmAll K refTab) (x_BadFree : Er P w K mg base 1 "BadFree") (x_BadPassengers : Er P w K mg base 1 "BadPassengers") (x_BadTrip : Er P w K mg base 1 "BadTrip")
    (TB : LamX.TabB base mg c Pt) {A : Around} (hgd : (cxLaw P w K mg base f c A s0 H0).A.guards = some []) (hr : Room 13 (cxLaw P w K mg base f c A s0 H0).A) (G : Gx) (hG : G.F.tabs = tabsL Pt) (hrow : G.F.row = some (r, sa)) :
    ∃ t : DS, PSsd (cxLaw P w K mg base f c A s0 H0) G (defBody s_law).tail t ∧ t { nx := fun _ => False, rt := fun d => d = .bl true } (startD ["script", "row", "seats", "line", "legs", "people", "k", "first", "due", "loads", "turn", "at", "thing", "odd", "often", "free", "end", "walk", "fewest", "changes", "good", "bad", "ask", "wrong", "leg", "one"] [.raw (.ref sa), .raw (.ref r)]) := by
  have sc := sc_law
  have lam := lam_law (P := P) (w := w) (K := K) (mg := mg) (base := base) (f := f) (c := c) (A := A) (s := s0) (H := H0) (Pt := Pt) FR bR hmR hx x_BadFree x_BadPassengers x_BadTrip TB hr
  have lps : ∀ (A2 : Around) (outer2 : List Env) (s2 : Shared) (H2 : Hp) (E2 : XK) (scope : Scope) (f2 c2 : Addr), Passes (L2.CX P w) (LamX.lamCx (cxLaw P w K mg base f c A s0 H0) A2 outer2 s2 H2 E2 scope f2 c2) E2 := fun A2 outer2 s2 H2 E2 scope f2 c2 => lam_passes (X := cxLaw P w K mg base f c A s0 H0)
  refine ⟨_, (pssd_cons (psd_set (i := 2) sc.nd rfl (Or.inl rfl) (pd_call c__law_line hr (by first | decide | omega) (pad_cons (pd_name (pv 1)) pad_nil)))
  (pssd_cons (psd_asgDDO (i := 3) (j := 4) (l := 5) sc.nd rfl rfl rfl (Or.inr rfl) (Or.inr rfl) (Or.inr rfl) (pd_line lnOk hr (by first | decide | omega) (E := E0) (Xc := noX) (fun _ _ _ _ _ _ z => z.elim) passL (pad_cons (pd_name (pv 2)) pad_nil)) (pd_callB call_len_seq snd_len T.b_len (pad_cons (pd_name (pv 2)) pad_nil)) (pxd_lst pad_nil))
  (pssd_cons (psd_for (passes_of rfl) (pid_r1 T.b_range (pad_cons (pd_call c__law_taken hr (by first | decide | omega) (pad_cons (pd_name (pv 1)) (pad_cons (pd_call c__law_pick hr (by first | decide | omega) (pad_cons (pd_name (pv 1)) (pad_cons (pd_lst (pad_cons pd_int (pad_cons pd_int (pad_cons pd_int pad_nil)))) pad_nil))) pad_nil))) pad_nil)) (pgd_name (i := 6) sc.nd rfl (Or.inl rfl))
  (pssd_cons (psd_set (i := 7) sc.nd rfl (Or.inr rfl) (pd_call c__law_taken hr (by first | decide | omega) (pad_cons (pd_name (pv 1)) (pad_cons (pd_name (pv 4)) pad_nil))))
  (pssd_one (psd_app (i := 5) (pv 5) (pd_tup (pad_cons (pd_name (pv 7)) (pad_cons (pd_add (pd_add (pd_name (pv 7)) pd_int) (pd_call c__law_taken hr (by first | decide | omega) (pad_cons (pd_name (pv 1)) (pad_cons (pd_sub (pd_name (pv 4)) (pd_name (pv 7))) pad_nil)))) pad_nil)))))))
  (pssd_cons (psd_frz 5 (psd_set (i := 8) sc.nd rfl (Or.inl rfl) (pd_call c__law_seating hr (by first | decide | omega) (pad_cons (pd_name (pv 5)) pad_nil))))
  (pssd_cons (psd_setLc (i := 9) sc.nd rfl rfl (sw_true rfl rfl rfl (by kernel_rfl)) (own := [(("leg" : Str), 24)]) (pid_r1 T.b_range (pad_cons (pd_name (pv 4)) pad_nil)) (by kernel_rfl) (fun _ _ _ _ _ => (pgc_name (i := 24) sc.nd rfl (by first | exact Or.inl rfl | exact Or.inr rfl) (by decide))) (fun _ _ _ _ _ => ptsd_nil) (fun _ _ _ _ _ => (pd_callB call_len_seq snd_len T.b_len (pad_cons (pd_x (pxd_lc (own := [(("one" : Str), 25)]) sc.nd (pid_seq (pd_name (pv 5))) (by kernel_rfl) (fun _ _ _ _ _ => (pgc_name (i := 25) sc.nd rfl (by first | exact Or.inl rfl | exact Or.inr rfl) (by decide))) (fun _ _ _ _ _ => (ptsd_one (ptd_lelt (pd_item (pd_name (pv 25)) pd_int) (pd_name (pv 24)) (pd_item (pd_name (pv 25)) pd_int)))) (fun _ _ _ _ _ => (pd_name (pv 25))))) pad_nil))))
  (pssd_cons (psd_if (ptd_w (pwd_or (ptd_not (ptd_val (pd_call c__law_alike hr (by first | decide | omega) (pad_cons (pd_call c_seating hr (by first | decide | omega) (pad_cons (pd_name (pv 3)) (pad_cons (pd_callTy call_tuple_of snd_tuple T.b_tuple (pad_cons (pd_name (pv 5)) pad_nil)) pad_nil))) (pad_cons (pd_name (pv 8)) pad_nil))))) (pwd_or (ptd_not (ptd_val (pd_call c__law_alike hr (by first | decide | omega) (pad_cons (pd_call c_seats_needed hr (by first | decide | omega) (pad_cons (pd_name (pv 3)) (pad_cons (pd_name (pv 5)) pad_nil))) (pad_cons (pd_callB (cr_max rfl) snd_max T.b_max (pad_cons (pd_name (pv 9)) pad_nil)) pad_nil))))) (pwd_or1 (ptd_ne hr.units (pd_add (pd_callB (cr_max rfl) snd_max T.b_max (pad_cons (pd_catL (pd_name (pv 8)) (pd_lst (pad_cons (pd_neg pd_int) pad_nil))) pad_nil)) pd_int) (pd_callB (cr_max rfl) snd_max T.b_max (pad_cons (pd_name (pv 9)) pad_nil)))))))
  (pssd_one (psd_ret pd_bl))
  pssd_nil)
  (pssd_cons (psd_if (ptd_w (pwd_or (ptd_not (ptd_val (pd_call c__law_alike hr (by first | decide | omega) (pad_cons (pd_call c_fullest hr (by first | decide | omega) (pad_cons (pd_name (pv 3)) (pad_cons (pd_name (pv 5)) pad_nil))) (pad_cons (pd_index (pd_name (pv 9)) (pad_cons (pd_callB (cr_max rfl) snd_max T.b_max (pad_cons (pd_name (pv 9)) pad_nil)) pad_nil)) pad_nil))))) (pwd_or1 (ptd_notB (pd_call c_is_seating hr (by first | decide | omega) (pad_cons (pd_name (pv 3)) (pad_cons (pd_name (pv 5)) (pad_cons (pd_callTy call_tuple_of snd_tuple T.b_tuple (pad_cons (pd_name (pv 8)) pad_nil)) pad_nil)))) pd_bl))))
  (pssd_one (psd_ret pd_bl))
  pssd_nil)
  (pssd_cons (psd_for (passes_of rfl) (pid_r1 T.b_range (pad_cons (pd_ifExp (ptd_ne hr.units (pd_name (pv 5)) (pd_lst pad_nil)) pd_int pd_int) pad_nil)) (pgd_name (i := 10) sc.nd rfl (Or.inl rfl))
  (pssd_cons (psd_set (i := 11) sc.nd rfl (Or.inl rfl) (pd_call c__law_taken hr (by first | decide | omega) (pad_cons (pd_name (pv 1)) (pad_cons (pd_callB call_len_seq snd_len T.b_len (pad_cons (pd_name (pv 5)) pad_nil)) pad_nil))))
  (pssd_cons (psd_set (i := 12) sc.nd rfl (Or.inr rfl) (pd_catL (pd_catL (pd_slice (pd_name (pv 8)) pod_none (pod_some (pd_name (pv 11)))) (pd_lst (pad_cons (pd_call c__law_taken hr (by first | decide | omega) (pad_cons (pd_name (pv 1)) (pad_cons (pd_add (pd_callB (cr_max rfl) snd_max T.b_max (pad_cons (pd_name (pv 9)) pad_nil)) pd_int) pad_nil))) pad_nil))) (pd_slice (pd_name (pv 8)) (pod_some (pd_add (pd_name (pv 11)) pd_int)) pod_none)))
  (pssd_one (psd_if (ptd_not (ptd_val (pd_call c__law_alike hr (by first | decide | omega) (pad_cons (pd_call c_is_seating hr (by first | decide | omega) (pad_cons (pd_name (pv 3)) (pad_cons (pd_name (pv 5)) (pad_cons (pd_name (pv 12)) pad_nil)))) (pad_cons (pd_call c__law_is_seating hr (by first | decide | omega) (pad_cons (pd_name (pv 5)) (pad_cons (pd_name (pv 12)) pad_nil))) pad_nil)))))
  (pssd_one (psd_ret pd_bl))
  pssd_nil)))))
  (pssd_cons (psd_set (i := 13) sc.nd rfl (Or.inl rfl) (pd_call c__law_pick hr (by first | decide | omega) (pad_cons (pd_name (pv 1)) (pad_cons (pd_lst (pad_cons pd_non (pad_cons (pd_catL (pd_name (pv 8)) (pd_lst (pad_cons pd_int pad_nil))) (pad_cons (pd_repL (pd_lst (pad_cons (pd_neg pd_int) pad_nil)) (pd_callB (call_max2 rfl) snd_max2 T.b_max (pad_cons pd_int (pad_cons (pd_callB call_len_seq snd_len T.b_len (pad_cons (pd_name (pv 5)) pad_nil)) pad_nil)))) (pad_cons (pd_repL (pd_lst (pad_cons pd_bl pad_nil)) (pd_callB (call_max2 rfl) snd_max2 T.b_max (pad_cons pd_int (pad_cons (pd_callB call_len_seq snd_len T.b_len (pad_cons (pd_name (pv 5)) pad_nil)) pad_nil)))) (pad_cons pd_int pad_nil)))))) pad_nil))))
  (pssd_cons (psd_if (ptd_notB (pd_call c_is_seating hr (by first | decide | omega) (pad_cons (pd_name (pv 3)) (pad_cons (pd_name (pv 5)) (pad_cons (pd_name (pv 13)) pad_nil)))) pd_bl)
  (pssd_one (psd_ret pd_bl))
  pssd_nil)
  (pssd_cons (psd_set (i := 14) sc.nd rfl (Or.inr rfl) (pd_call c__law_pick hr (by first | decide | omega) (pad_cons (pd_name (pv 1)) (pad_cons (pd_lst (pad_cons pd_int (pad_cons pd_int (pad_cons pd_int pad_nil)))) pad_nil))))
  (pssd_cons (psd_set (i := 15) sc.nd rfl (Or.inr rfl) (pd_x (pxd_lc (own := [(("k" : Str), 6)]) sc.nd (pid_r1 T.b_range (pad_cons (pd_add pd_int (pd_call c__law_taken hr (by first | decide | omega) (pad_cons (pd_name (pv 1)) (pad_cons (pd_call c__law_pick hr (by first | decide | omega) (pad_cons (pd_name (pv 1)) (pad_cons (pd_lst (pad_cons pd_int (pad_cons pd_int (pad_cons pd_int pad_nil)))) pad_nil))) pad_nil)))) pad_nil)) (by kernel_rfl) (fun _ _ _ _ _ => (pgc_name (i := 6) sc.nd rfl (by first | exact Or.inl rfl | exact Or.inr rfl) (by decide))) (fun _ _ _ _ _ => ptsd_nil) (fun _ _ _ _ _ => (pd_x (pxd_lc (own := [(("leg" : Str), 24)]) sc.nd (pid_r1 T.b_range (pad_cons (pd_name (pv 4)) pad_nil)) (by kernel_rfl) (fun _ _ _ _ _ => (pgc_name (i := 24) sc.nd rfl (by first | exact Or.inl rfl | exact Or.inr rfl) (by decide))) (fun _ _ _ _ _ => ptsd_nil) (fun _ _ _ _ _ => (pd_gt (pd_call c__law_taken hr (by first | decide | omega) (pad_cons (pd_name (pv 1)) (pad_cons (pd_name (pv 14)) pad_nil))) pd_int))))))))
  (pssd_cons (psd_set (i := 7) sc.nd rfl (Or.inr rfl) (pd_call c__law_taken hr (by first | decide | omega) (pad_cons (pd_name (pv 1)) (pad_cons (pd_name (pv 4)) pad_nil))))
  (pssd_cons (psd_set (i := 16) sc.nd rfl (Or.inr rfl) (pd_add (pd_add (pd_name (pv 7)) pd_int) (pd_call c__law_taken hr (by first | decide | omega) (pad_cons (pd_name (pv 1)) (pad_cons (pd_sub (pd_name (pv 4)) (pd_name (pv 7))) pad_nil)))))
  (pssd_cons (psd_asg (pd_tup (pad_cons (pd_call c_best_walk hr (by first | decide | omega) (pad_cons (pd_name (pv 3)) (pad_cons (pd_name (pv 15)) (pad_cons (pd_name (pv 7)) (pad_cons (pd_name (pv 16)) pad_nil))))) (pad_cons (pd_call c__law_fewest hr (by first | decide | omega) (pad_cons (pd_name (pv 15)) (pad_cons (pd_name (pv 7)) (pad_cons (pd_name (pv 16)) pad_nil)))) pad_nil))) (pgd_tup (n := 2) (pgsd_cons (pgd_name (i := 17) sc.nd rfl (Or.inr rfl)) (pgsd_cons (pgd_name (i := 18) sc.nd rfl (Or.inl rfl)) pgsd_nil))))
  (pssd_cons (psd_if (ptd_w (pwd_or (ptd_not (ptd_val (pd_call c__law_alike hr (by first | decide | omega) (pad_cons (pd_name (pv 17)) (pad_cons (pd_call c__law_walk hr (by first | decide | omega) (pad_cons (pd_name (pv 15)) (pad_cons (pd_name (pv 7)) (pad_cons (pd_name (pv 16)) pad_nil)))) pad_nil))))) (pwd_or (ptd_not (ptd_val (pd_call c__law_alike hr (by first | decide | omega) (pad_cons (pd_call c_fewest_changes hr (by first | decide | omega) (pad_cons (pd_name (pv 3)) (pad_cons (pd_name (pv 15)) (pad_cons (pd_name (pv 7)) (pad_cons (pd_name (pv 16)) pad_nil))))) (pad_cons (pd_name (pv 18)) pad_nil))))) (pwd_or1 (ptd_ne hr.units (pd_isN (pd_name (pv 17)) pd_non) (pd_isN (pd_name (pv 18)) pd_non))))))
  (pssd_one (psd_ret pd_bl))
  pssd_nil)
  (pssd_cons (psd_set (i := 19) sc.nd rfl (Or.inl rfl) (pd_ifExp (ptd_isN (pd_name (pv 17)) pd_non) pd_non (pd_x (pxd_lc (own := [(("at" : Str), 11)]) sc.nd (pid_r2 T.b_range (pad_cons pd_int (pad_cons (pd_callB call_len_seq snd_len T.b_len (pad_cons (pd_name (pv 17)) pad_nil)) pad_nil))) (by kernel_rfl) (fun _ _ _ _ _ => (pgc_name (i := 11) sc.nd rfl (by first | exact Or.inl rfl | exact Or.inr rfl) (by decide))) (fun _ _ _ _ _ => (ptsd_one (ptd_ne hr.units (pd_item (pd_name (pv 17)) (pd_name (pv 11))) (pd_item (pd_name (pv 17)) (pd_sub (pd_name (pv 11)) pd_int))))) (fun _ _ _ _ _ => (pd_add (pd_name (pv 7)) (pd_name (pv 11))))))))
  (pssd_cons (psd_if (ptd_w (pwd_or (ptd_not (ptd_val (pd_call c__law_alike hr (by first | decide | omega) (pad_cons (pd_call c_change_legs hr (by first | decide | omega) (pad_cons (pd_name (pv 3)) (pad_cons (pd_name (pv 15)) (pad_cons (pd_name (pv 7)) (pad_cons (pd_name (pv 16)) pad_nil))))) (pad_cons (pd_name (pv 19)) pad_nil))))) (pwd_or1 (ptd_w (pwd_and (ptd_notN (pd_name (pv 17)) pd_non) (pwd_and1 (ptd_w (pwd_or (ptd_ne hr.units (pd_callB call_len_seq snd_len T.b_len (pad_cons (pd_name (pv 19)) pad_nil)) (pd_name (pv 18))) (pwd_or1 (ptd_notB (pd_call c_is_walk hr (by first | decide | omega) (pad_cons (pd_name (pv 3)) (pad_cons (pd_name (pv 15)) (pad_cons (pd_name (pv 7)) (pad_cons (pd_name (pv 16)) (pad_cons (pd_name (pv 17)) pad_nil)))))) pd_bl))))))))))
  (pssd_one (psd_ret pd_bl))
  pssd_nil)
  (pssd_cons (psd_for (passes_of rfl) (pid_r1 T.b_range (pad_cons pd_int pad_nil)) (pgd_name (i := 10) sc.nd rfl (Or.inl rfl))
  (pssd_cons (psd_set (i := 12) sc.nd rfl (Or.inr rfl) (pd_x (pxd_lc (own := [(("leg" : Str), 24)]) sc.nd (pid_r2 T.b_range (pad_cons (pd_name (pv 7)) (pad_cons (pd_name (pv 16)) pad_nil))) (by kernel_rfl) (fun _ _ _ _ _ => (pgc_name (i := 24) sc.nd rfl (by first | exact Or.inl rfl | exact Or.inr rfl) (by decide))) (fun _ _ _ _ _ => ptsd_nil) (fun _ _ _ _ _ => (pd_call c__law_taken hr (by first | decide | omega) (pad_cons (pd_name (pv 1)) (pad_cons (pd_callB call_len_seq snd_len T.b_len (pad_cons (pd_name (pv 15)) pad_nil)) pad_nil)))))))
  (pssd_cons (psd_set (i := 20) sc.nd rfl (Or.inl rfl) (pd_eq hr.units (pd_x (pxd_lc (own := [(("leg" : Str), 24)]) sc.nd (pid_r2 T.b_range (pad_cons (pd_name (pv 7)) (pad_cons (pd_name (pv 16)) pad_nil))) (by kernel_rfl) (fun _ _ _ _ _ => (pgc_name (i := 24) sc.nd rfl (by first | exact Or.inl rfl | exact Or.inr rfl) (by decide))) (fun _ _ _ _ _ => (ptsd_one (ptd_not (ptd_val (pd_item (pd_item (pd_name (pv 15)) (pd_item (pd_name (pv 12)) (pd_sub (pd_name (pv 24)) (pd_name (pv 7))))) (pd_name (pv 24))))))) (fun _ _ _ _ _ => (pd_name (pv 24))))) (pd_lst pad_nil)))
  (pssd_one (psd_if (ptd_not (ptd_val (pd_call c__law_alike hr (by first | decide | omega) (pad_cons (pd_call c_is_walk hr (by first | decide | omega) (pad_cons (pd_name (pv 3)) (pad_cons (pd_callTy call_tuple_of snd_tuple T.b_tuple (pad_cons (pd_name (pv 15)) pad_nil)) (pad_cons (pd_name (pv 7)) (pad_cons (pd_name (pv 16)) (pad_cons (pd_callTy call_tuple_of snd_tuple T.b_tuple (pad_cons (pd_name (pv 12)) pad_nil)) pad_nil)))))) (pad_cons (pd_name (pv 20)) pad_nil)))))
  (pssd_one (psd_ret pd_bl))
  pssd_nil)))))
  (pssd_cons (psd_if (ptd_notB (pd_call c_is_walk hr (by first | decide | omega) (pad_cons (pd_name (pv 3)) (pad_cons (pd_name (pv 15)) (pad_cons (pd_name (pv 7)) (pad_cons (pd_name (pv 16)) (pad_cons (pd_call c__law_pick hr (by first | decide | omega) (pad_cons (pd_name (pv 1)) (pad_cons (pd_lst (pad_cons pd_non (pad_cons (pd_catL (pd_name (pv 12)) (pd_lst (pad_cons pd_int pad_nil))) (pad_cons (pd_repL (pd_lst (pad_cons (pd_neg pd_int) pad_nil)) (pd_callB call_len_seq snd_len T.b_len (pad_cons (pd_name (pv 12)) pad_nil))) (pad_cons (pd_repL (pd_lst (pad_cons (pd_callB call_len_seq snd_len T.b_len (pad_cons (pd_name (pv 15)) pad_nil)) pad_nil)) (pd_callB call_len_seq snd_len T.b_len (pad_cons (pd_name (pv 12)) pad_nil))) (pad_cons (pd_repL (pd_lst (pad_cons pd_non pad_nil)) (pd_callB call_len_seq snd_len T.b_len (pad_cons (pd_name (pv 12)) pad_nil))) pad_nil)))))) pad_nil))) pad_nil)))))) pd_bl)
  (pssd_one (psd_ret pd_bl))
  pssd_nil)
  (pssd_cons (psd_set (i := 21) sc.nd rfl (Or.inr rfl) (pd_catL (pd_slice (pd_name (pv 5)) pod_none (pod_some pd_int)) (pd_lst (pad_cons (pd_call c__law_pick hr (by first | decide | omega) (pad_cons (pd_name (pv 1)) (pad_cons (pd_lst (pad_cons pd_non (pad_cons (pd_tup (pad_cons pd_int (pad_cons pd_int pad_nil))) (pad_cons (pd_tup (pad_cons pd_int (pad_cons (pd_add (pd_name (pv 4)) pd_int) pad_nil))) (pad_cons (pd_tup (pad_cons (pd_neg pd_int) (pad_cons pd_int pad_nil))) (pad_cons (pd_lst (pad_cons pd_int (pad_cons pd_int pad_nil))) (pad_cons (pd_tup (pad_cons pd_int pad_nil)) (pad_cons (pd_tup (pad_cons pd_bl (pad_cons pd_int pad_nil))) pad_nil)))))))) pad_nil))) pad_nil))))
  (pssd_cons (psd_for (passes_of rfl) (pid_seq (pd_lst (pad_cons (pd_gref T.g_seating) (pad_cons (pd_gref T.g_seats_needed) (pad_cons (pd_gref T.g_fullest) pad_nil))))) (pgd_name (i := 22) sc.nd rfl (Or.inr rfl))
  (pssd_one (psd_if (ptd_ne hr.units (pd_refused (lam G hG (LamX.lamS_by (by kernel_rfl)) rfl (fun _ _ _ _ _ => rfl) (fun A2 outer2 s2 H2 E2 f2 c2 hr2 => lam_of (fun B0 H0 Xc hE2 => (pd_orE (lam_callV (i := 22) c_seating T.g_seating hr2 (by first | decide | omega) hE2 (lps A2 outer2 s2 H2 E2 _ f2 c2) rfl (by first | exact Or.inl rfl | exact Or.inr (Or.inl rfl) | exact Or.inr (Or.inr rfl)) (pad_cons (pd_name (pv 3)) (pad_cons (pd_name (pv 21)) pad_nil)))
    (pd_orE (lam_callV (i := 22) c_seats_needed T.g_seats_needed hr2 (by first | decide | omega) hE2 (lps A2 outer2 s2 H2 E2 _ f2 c2) rfl (by first | exact Or.inl rfl | exact Or.inr (Or.inl rfl) | exact Or.inr (Or.inr rfl)) (pad_cons (pd_name (pv 3)) (pad_cons (pd_name (pv 21)) pad_nil)))
    (lam_callV (i := 22) c_fullest T.g_fullest hr2 (by first | decide | omega) hE2 (lps A2 outer2 s2 H2 E2 _ f2 c2) rfl (by first | exact Or.inl rfl | exact Or.inr (Or.inl rfl) | exact Or.inr (Or.inr rfl)) (pad_cons (pd_name (pv 3)) (pad_cons (pd_name (pv 21)) pad_nil))))))))) (pd_tup (pad_cons pd_str (pad_cons (pd_sub (pd_callB call_len_seq snd_len T.b_len (pad_cons (pd_name (pv 21)) pad_nil)) pd_int) pad_nil))))
  (pssd_one (psd_ret pd_bl))
  pssd_nil)))
  (pssd_cons (psd_set (i := 23) sc.nd rfl (Or.inr rfl) (pd_catL (pd_slice (pd_name (pv 15)) pod_none (pod_some pd_int)) (pd_lst (pad_cons (pd_call c__law_pick hr (by first | decide | omega) (pad_cons (pd_name (pv 1)) (pad_cons (pd_lst (pad_cons pd_non (pad_cons (pd_repL (pd_lst (pad_cons pd_bl pad_nil)) (pd_add (pd_name (pv 4)) pd_int)) (pad_cons (pd_repL (pd_lst (pad_cons pd_int pad_nil)) (pd_name (pv 4))) (pad_cons pd_str pad_nil))))) pad_nil))) pad_nil))))
  (pssd_cons (psd_for (passes_of rfl) (pid_seq (pd_lst (pad_cons (pd_gref T.g_best_walk) (pad_cons (pd_gref T.g_fewest_changes) (pad_cons (pd_gref T.g_change_legs) pad_nil))))) (pgd_name (i := 22) sc.nd rfl (Or.inr rfl))
  (pssd_cons (psd_if (ptd_ne hr.units (pd_refused (lam G hG (LamX.lamS_by (by kernel_rfl)) rfl (fun _ _ _ _ _ => rfl) (fun A2 outer2 s2 H2 E2 f2 c2 hr2 => lam_of (fun B0 H0 Xc hE2 => (pd_orE (lam_callV (i := 22) c_best_walk T.g_best_walk hr2 (by first | decide | omega) hE2 (lps A2 outer2 s2 H2 E2 _ f2 c2) rfl (by first | exact Or.inl rfl | exact Or.inr (Or.inl rfl) | exact Or.inr (Or.inr rfl)) (pad_cons (pd_name (pv 3)) (pad_cons (pd_name (pv 23)) (pad_cons pd_non (pad_cons pd_non pad_nil)))))
    (pd_orE (lam_callV (i := 22) c_fewest_changes T.g_fewest_changes hr2 (by first | decide | omega) hE2 (lps A2 outer2 s2 H2 E2 _ f2 c2) rfl (by first | exact Or.inl rfl | exact Or.inr (Or.inl rfl) | exact Or.inr (Or.inr rfl)) (pad_cons (pd_name (pv 3)) (pad_cons (pd_name (pv 23)) (pad_cons pd_non (pad_cons pd_non pad_nil)))))
    (lam_callV (i := 22) c_change_legs T.g_change_legs hr2 (by first | decide | omega) hE2 (lps A2 outer2 s2 H2 E2 _ f2 c2) rfl (by first | exact Or.inl rfl | exact Or.inr (Or.inl rfl) | exact Or.inr (Or.inr rfl)) (pad_cons (pd_name (pv 3)) (pad_cons (pd_name (pv 23)) (pad_cons pd_non (pad_cons pd_non pad_nil))))))))))) (pd_tup (pad_cons pd_str (pad_cons (pd_sub (pd_callB call_len_seq snd_len T.b_len (pad_cons (pd_name (pv 23)) pad_nil)) pd_int) pad_nil))))
  (pssd_one (psd_ret pd_bl))
  pssd_nil)
  (pssd_cons (psd_if (ptd_ne hr.units (pd_refused (lam G hG (LamX.lamS_by (by kernel_rfl)) rfl (fun _ _ _ _ _ => rfl) (fun A2 outer2 s2 H2 E2 f2 c2 hr2 => lam_of (fun B0 H0 Xc hE2 => (pd_orE (lam_callV (i := 22) c_best_walk T.g_best_walk hr2 (by first | decide | omega) hE2 (lps A2 outer2 s2 H2 E2 _ f2 c2) rfl (by first | exact Or.inl rfl | exact Or.inr (Or.inl rfl) | exact Or.inr (Or.inr rfl)) (pad_cons (pd_name (pv 3)) (pad_cons (lam_call c__law_pick hr2 (by first | decide | omega) (pad_cons (pd_name (pv 1)) (pad_cons (pd_lst (pad_cons pd_non (pad_cons (pd_lst pad_nil) (pad_cons (pd_repL (pd_lst (pad_cons (pd_repL (pd_lst (pad_cons pd_bl pad_nil)) (pd_name (pv 4))) pad_nil)) pd_int) pad_nil)))) pad_nil))) (pad_cons pd_non (pad_cons pd_non pad_nil)))))
    (pd_orE (lam_callV (i := 22) c_fewest_changes T.g_fewest_changes hr2 (by first | decide | omega) hE2 (lps A2 outer2 s2 H2 E2 _ f2 c2) rfl (by first | exact Or.inl rfl | exact Or.inr (Or.inl rfl) | exact Or.inr (Or.inr rfl)) (pad_cons (pd_name (pv 3)) (pad_cons (lam_call c__law_pick hr2 (by first | decide | omega) (pad_cons (pd_name (pv 1)) (pad_cons (pd_lst (pad_cons pd_non (pad_cons (pd_lst pad_nil) (pad_cons (pd_repL (pd_lst (pad_cons (pd_repL (pd_lst (pad_cons pd_bl pad_nil)) (pd_name (pv 4))) pad_nil)) pd_int) pad_nil)))) pad_nil))) (pad_cons pd_non (pad_cons pd_non pad_nil)))))
    (lam_callV (i := 22) c_change_legs T.g_change_legs hr2 (by first | decide | omega) hE2 (lps A2 outer2 s2 H2 E2 _ f2 c2) rfl (by first | exact Or.inl rfl | exact Or.inr (Or.inl rfl) | exact Or.inr (Or.inr rfl)) (pad_cons (pd_name (pv 3)) (pad_cons (lam_call c__law_pick hr2 (by first | decide | omega) (pad_cons (pd_name (pv 1)) (pad_cons (pd_lst (pad_cons pd_non (pad_cons (pd_lst pad_nil) (pad_cons (pd_repL (pd_lst (pad_cons (pd_repL (pd_lst (pad_cons pd_bl pad_nil)) (pd_name (pv 4))) pad_nil)) pd_int) pad_nil)))) pad_nil))) (pad_cons pd_non (pad_cons pd_non pad_nil))))))))))) (pd_tup (pad_cons pd_str (pad_cons (pd_neg pd_int) pad_nil))))
  (pssd_one (psd_ret pd_bl))
  pssd_nil)
  (pssd_one (psd_if (ptd_ne hr.units (pd_refused (lam G hG (LamX.lamS_by (by kernel_rfl)) rfl (fun _ _ _ _ _ => rfl) (fun A2 outer2 s2 H2 E2 f2 c2 hr2 => lam_of (fun B0 H0 Xc hE2 => (pd_orE (lam_callV (i := 22) c_best_walk T.g_best_walk hr2 (by first | decide | omega) hE2 (lps A2 outer2 s2 H2 E2 _ f2 c2) rfl (by first | exact Or.inl rfl | exact Or.inr (Or.inl rfl) | exact Or.inr (Or.inr rfl)) (pad_cons (pd_name (pv 3)) (pad_cons (pd_name (pv 15)) (pad_cons (pd_name (pv 7)) (pad_cons (pd_add (pd_name (pv 4)) pd_int) pad_nil)))))
    (pd_orE (lam_callV (i := 22) c_fewest_changes T.g_fewest_changes hr2 (by first | decide | omega) hE2 (lps A2 outer2 s2 H2 E2 _ f2 c2) rfl (by first | exact Or.inl rfl | exact Or.inr (Or.inl rfl) | exact Or.inr (Or.inr rfl)) (pad_cons (pd_name (pv 3)) (pad_cons (pd_name (pv 15)) (pad_cons (pd_name (pv 7)) (pad_cons (pd_add (pd_name (pv 4)) pd_int) pad_nil)))))
    (lam_callV (i := 22) c_change_legs T.g_change_legs hr2 (by first | decide | omega) hE2 (lps A2 outer2 s2 H2 E2 _ f2 c2) rfl (by first | exact Or.inl rfl | exact Or.inr (Or.inl rfl) | exact Or.inr (Or.inr rfl)) (pad_cons (pd_name (pv 3)) (pad_cons (pd_name (pv 15)) (pad_cons (pd_name (pv 7)) (pad_cons (pd_add (pd_name (pv 4)) pd_int) pad_nil))))))))))) (pd_tup (pad_cons pd_str (pad_cons (pd_tup (pad_cons (pd_name (pv 7)) (pad_cons (pd_add (pd_name (pv 4)) pd_int) pad_nil))) pad_nil))))
  (pssd_one (psd_ret pd_bl))
  pssd_nil)))))
  (pssd_one (psd_ret (pd_eq hr.units (pd_refused (lam G hG (LamX.lamS_by (by kernel_rfl)) rfl (fun _ _ _ _ _ => rfl) (fun A2 outer2 s2 H2 E2 f2 c2 hr2 => lam_of (fun B0 H0 Xc hE2 => (lam_callX c_is_walk hr2 (by first | decide | omega) hE2 (lps A2 outer2 s2 H2 E2 _ f2 c2) (pad_cons (pd_name (pv 3)) (pad_cons (pd_name (pv 15)) (pad_cons (pd_name (pv 16)) (pad_cons (pd_name (pv 7)) (pad_cons pd_non pad_nil)))))))))) (pd_tup (pad_cons pd_str (pad_cons (pd_tup (pad_cons (pd_name (pv 16)) (pad_cons (pd_name (pv 7)) pad_nil))) pad_nil)))))))))))))))))))))))))))))), ?_⟩
  have lkF : refTab.lookup ("BadFree" : Str) = some "free" := rfl
  have lkP : refTab.lookup ("BadPassengers" : Str) = some "passengers" := rfl
  have lkT : refTab.lookup ("BadTrip" : Str) = some "trip" := rfl
  -- seats
  refine seq_gen (fun δ' => ∃ ss : List Int, (1 ≤ ss.length ∧ ss.length ≤ 10 ∧ ∀ s ∈ ss, 0 ≤ s ∧ s ≤ 20) ∧ δ' = [.dat (.raw (.ref sa)), .dat (.raw (.ref r)), .dat (.tup (ss.map D.int)), .un, .un, .un, .un, .un, .un, .un, .un, .un, .un, .un, .un, .un, .un, .un, .un, .un, .un, .un, .un, .un, .un, .un]) (fun N hN => ?_) (fun δ' hj => ?_)
  · simp [startD, wipeD, dsRet, dsRetN, dsIf, dsSeq, dsNext, dsAsg, dsDrop, dsBreak, dsCont, dsPar, dsAug, dsFrz, dsApp, dsExt, dsPut, dsAugO, dsOwn, dsParOO, dsParDO, dsParDDO, dsFrzA, dxRep, diOwn, dsRaise, deAnd, deOr, deNot, de1, de2, deB, deX, dxB, dxLst, deName, deC, deCall, deIxO, deLenO, deTup, deLst, daCons, daNil, daStar, deChain, dtChain, dtV, dtAnd, dtOr, dtNot, dtYes, deIf, deSl, doNone, doSome, rdAdd, rdSub, rdMul, rdMod, rdDiv, rdPow, rdI, rdIc, rdB, rdLt, rdLe, rdGt, rdGe, rdNeg, rdIs, rdEq, rdNe, rdIx, rdIsN, rdNotN, rdIsB, rdNotB, rdRev, rdSeats, rdCatL, rdCatT, rdRepL, rdLen, rdTuple, rdList, rxList, rdInt, rdMax2, rdMin2, dgName, dgTup, dgCons, dgNil, deRefused, rdRepr, rdNeS, rdEqL, rdNeL, rdRepT, rdIsLn, noOwn, diSeq, diEn, diZp, diR1, diR2, noX,  eqOk_int, eqOk_bl, eqOk_non, eqv_int, eqv_bl, eqv_non, atI_0, atI_1, atI_2, atI_3, qty_non, qisI_non, qisB_non, qisL_non, qisU_non, qisS_non, qisD_non, qisNon_non, qcooked_non, qseq_non, qty_bl, qisI_bl, qisB_bl, qisL_bl, qisU_bl, qisS_bl, qisD_bl, qisNon_bl, qcooked_bl, qseq_bl, qty_int, qisI_int, qisB_int, qisL_int, qisU_int, qisS_int, qisD_int, qisNon_int, qcooked_int, qseq_int, qty_str, qisI_str, qisB_str, qisL_str, qisU_str, qisS_str, qisD_str, qisNon_str, qcooked_str, qseq_str, qty_lst, qisI_lst, qisB_lst, qisL_lst, qisU_lst, qisS_lst, qisD_lst, qisNon_lst, qcooked_lst, qseq_lst, qty_tup, qisI_tup, qisB_tup, qisL_tup, qisU_tup, qisS_tup, qisD_tup, qisNon_tup, qcooked_tup, qseq_tup, qty_dct, qisI_dct, qisB_dct, qisL_dct, qisU_dct, qisS_dct, qisD_dct, qisNon_dct, qcooked_dct, qseq_dct, qix_lst, qsl_lst, qix_tup, qsl_tup, qisNon_ln, qcooked_ln, and_assoc, exists_and_left, exists_eq_left, exists_eq_left', exists_eq_right, dxLc_eq, dsFor_eq, rngD_0, rngD_eq, zipD_map, enumD_map0, sp__law_line]
    exact ⟨⟨sa, hrow⟩, fun ss h1 h2 h3 => hN _ ⟨ss, ⟨h1, h2, h3⟩, rfl⟩⟩
  obtain ⟨ss, ⟨n1, n2, hs20⟩, rfl⟩ := hj
  have hsl : (ss.map D.int).length = ss.length := List.length_map ..
  -- line, legs, people
  refine seq_gen (fun δ' => δ' = [.dat (.raw (.ref sa)), .dat (.raw (.ref r)), .dat (.tup (ss.map D.int)), .dat (.ln (ss.map D.int)), .dat (.int (ss.length : Nat)), .own [], .un, .un, .un, .un, .un, .un, .un, .un, .un, .un, .un, .un, .un, .un, .un, .un, .un, .un, .un, .un]) (fun N hN => ?_) (fun δ' hj => ?_)
  · simp [startD, wipeD, dsRet, dsRetN, dsIf, dsSeq, dsNext, dsAsg, dsDrop, dsBreak, dsCont, dsPar, dsAug, dsFrz, dsApp, dsExt, dsPut, dsAugO, dsOwn, dsParOO, dsParDO, dsParDDO, dsFrzA, dxRep, diOwn, dsRaise, deAnd, deOr, deNot, de1, de2, deB, deX, dxB, dxLst, deName, deC, deCall, deIxO, deLenO, deTup, deLst, daCons, daNil, daStar, deChain, dtChain, dtV, dtAnd, dtOr, dtNot, dtYes, deIf, deSl, doNone, doSome, rdAdd, rdSub, rdMul, rdMod, rdDiv, rdPow, rdI, rdIc, rdB, rdLt, rdLe, rdGt, rdGe, rdNeg, rdIs, rdEq, rdNe, rdIx, rdIsN, rdNotN, rdIsB, rdNotB, rdRev, rdSeats, rdCatL, rdCatT, rdRepL, rdLen, rdTuple, rdList, rxList, rdInt, rdMax2, rdMin2, dgName, dgTup, dgCons, dgNil, deRefused, rdRepr, rdNeS, rdEqL, rdNeL, rdRepT, rdIsLn, noOwn, diSeq, diEn, diZp, diR1, diR2, noX,  eqOk_int, eqOk_bl, eqOk_non, eqv_int, eqv_bl, eqv_non, atI_0, atI_1, atI_2, atI_3, qty_non, qisI_non, qisB_non, qisL_non, qisU_non, qisS_non, qisD_non, qisNon_non, qcooked_non, qseq_non, qty_bl, qisI_bl, qisB_bl, qisL_bl, qisU_bl, qisS_bl, qisD_bl, qisNon_bl, qcooked_bl, qseq_bl, qty_int, qisI_int, qisB_int, qisL_int, qisU_int, qisS_int, qisD_int, qisNon_int, qcooked_int, qseq_int, qty_str, qisI_str, qisB_str, qisL_str, qisU_str, qisS_str, qisD_str, qisNon_str, qcooked_str, qseq_str, qty_lst, qisI_lst, qisB_lst, qisL_lst, qisU_lst, qisS_lst, qisD_lst, qisNon_lst, qcooked_lst, qseq_lst, qty_tup, qisI_tup, qisB_tup, qisL_tup, qisU_tup, qisS_tup, qisD_tup, qisNon_tup, qcooked_tup, qseq_tup, qty_dct, qisI_dct, qisB_dct, qisL_dct, qisU_dct, qisS_dct, qisD_dct, qisNon_dct, qcooked_dct, qseq_dct, qix_lst, qsl_lst, qix_tup, qsl_tup, qisNon_ln, qcooked_ln, and_assoc, exists_and_left, exists_eq_left, exists_eq_left', exists_eq_right, dxLc_eq, dsFor_eq, rngD_0, rngD_eq, zipD_map, enumD_map0]
    have hb : badSeats (.tup (ss.map D.int)) = none := by
      unfold badSeats
      show (if (ss.map D.int).length = 0 ∨ 10 < (ss.map D.int).length then some (-1) else Option.map Int.ofNat ((ss.map D.int).findIdx? fun x => !isWithin x 0 20)) = none
      rw [List.length_map, if_neg (by omega), findIdx_none]
      · rfl
      · rw [List.all_eq_true]
        intro x hx
        obtain ⟨s, hs, rfl⟩ := List.mem_map.mp hx
        have := hs20 s hs
        simp [isWithin]
        omega
    refine ⟨_, rfl, okv_tup okv_int, fun i e => ?_, fun _ xs e => ?_⟩
    · rw [hb] at e
      cases e
    · cases e
      exact hN _ rfl
  subst hj
  -- people
  refine seq_gen (fun δ' => ∃ (ps : List (Int × Int)) (x6 x7 : Sl), (PsOk ss.length ps ∧ ps.length ≤ 40) ∧ δ' = [.dat (.raw (.ref sa)), .dat (.raw (.ref r)), .dat (.tup (ss.map D.int)), .dat (.ln (ss.map D.int)), .dat (.int (ss.length : Nat)), .own (ps.map prD), x6, x7, .un, .un, .un, .un, .un, .un, .un, .un, .un, .un, .un, .un, .un, .un, .un, .un, .un, .un]) (fun N hN => ?_) (fun δ' hj => ?_)
  · simp [startD, wipeD, dsRet, dsRetN, dsIf, dsSeq, dsNext, dsAsg, dsDrop, dsBreak, dsCont, dsPar, dsAug, dsFrz, dsApp, dsExt, dsPut, dsAugO, dsOwn, dsParOO, dsParDO, dsParDDO, dsFrzA, dxRep, diOwn, dsRaise, deAnd, deOr, deNot, de1, de2, deB, deX, dxB, dxLst, deName, deC, deCall, deIxO, deLenO, deTup, deLst, daCons, daNil, daStar, deChain, dtChain, dtV, dtAnd, dtOr, dtNot, dtYes, deIf, deSl, doNone, doSome, rdAdd, rdSub, rdMul, rdMod, rdDiv, rdPow, rdI, rdIc, rdB, rdLt, rdLe, rdGt, rdGe, rdNeg, rdIs, rdEq, rdNe, rdIx, rdIsN, rdNotN, rdIsB, rdNotB, rdRev, rdSeats, rdCatL, rdCatT, rdRepL, rdLen, rdTuple, rdList, rxList, rdInt, rdMax2, rdMin2, dgName, dgTup, dgCons, dgNil, deRefused, rdRepr, rdNeS, rdEqL, rdNeL, rdRepT, rdIsLn, noOwn, diSeq, diEn, diZp, diR1, diR2, noX,  eqOk_int, eqOk_bl, eqOk_non, eqv_int, eqv_bl, eqv_non, atI_0, atI_1, atI_2, atI_3, qty_non, qisI_non, qisB_non, qisL_non, qisU_non, qisS_non, qisD_non, qisNon_non, qcooked_non, qseq_non, qty_bl, qisI_bl, qisB_bl, qisL_bl, qisU_bl, qisS_bl, qisD_bl, qisNon_bl, qcooked_bl, qseq_bl, qty_int, qisI_int, qisB_int, qisL_int, qisU_int, qisS_int, qisD_int, qisNon_int, qcooked_int, qseq_int, qty_str, qisI_str, qisB_str, qisL_str, qisU_str, qisS_str, qisD_str, qisNon_str, qcooked_str, qseq_str, qty_lst, qisI_lst, qisB_lst, qisL_lst, qisU_lst, qisS_lst, qisD_lst, qisNon_lst, qcooked_lst, qseq_lst, qty_tup, qisI_tup, qisB_tup, qisL_tup, qisU_tup, qisS_tup, qisD_tup, qisNon_tup, qcooked_tup, qseq_tup, qty_dct, qisI_dct, qisB_dct, qisL_dct, qisU_dct, qisS_dct, qisD_dct, qisNon_dct, qcooked_dct, qseq_dct, qix_lst, qsl_lst, qix_tup, qsl_tup, qisNon_ln, qcooked_ln, and_assoc, exists_and_left, exists_eq_left, exists_eq_left', exists_eq_right, dxLc_eq, dsFor_eq, rngD_0, rngD_eq, zipD_map, enumD_map0, sp__law_taken, sp__law_pick]
    refine ⟨⟨sa, hrow⟩, fun n h0 h1 => ⟨by omega, by omega, ?_⟩, ⟨sa, hrow⟩, fun n h0 h1 => ⟨by omega, by omega, ?_⟩, ⟨sa, hrow⟩, fun n h0 h1 => ⟨by omega, by omega, ?_⟩⟩ <;>
    · refine fb_on (List.range n.toNat) (fun i δ' => ∃ (ps : List (Int × Int)) (x6 x7 : Sl), (PsOk ss.length ps ∧ ps.length = i) ∧ δ' = [.dat (.raw (.ref sa)), .dat (.raw (.ref r)), .dat (.tup (ss.map D.int)), .dat (.ln (ss.map D.int)), .dat (.int (ss.length : Nat)), .own (ps.map prD), x6, x7, .un, .un, .un, .un, .un, .un, .un, .un, .un, .un, .un, .un, .un, .un, .un, .un, .un, .un]) ⟨[], .un, .un, ⟨fun p h => (List.not_mem_nil h).elim, rfl⟩, rfl⟩ (fun i x δ' hi hj => ?_) (fun δ' hj => ?_)
      · obtain ⟨ps, x6, x7, ⟨pok, pl⟩, rfl⟩ := hj
        obtain ⟨hi1, rfl⟩ := range_at hi
        simp [startD, wipeD, dsRet, dsRetN, dsIf, dsSeq, dsNext, dsAsg, dsDrop, dsBreak, dsCont, dsPar, dsAug, dsFrz, dsApp, dsExt, dsPut, dsAugO, dsOwn, dsParOO, dsParDO, dsParDDO, dsFrzA, dxRep, diOwn, dsRaise, deAnd, deOr, deNot, de1, de2, deB, deX, dxB, dxLst, deName, deC, deCall, deIxO, deLenO, deTup, deLst, daCons, daNil, daStar, deChain, dtChain, dtV, dtAnd, dtOr, dtNot, dtYes, deIf, deSl, doNone, doSome, rdAdd, rdSub, rdMul, rdMod, rdDiv, rdPow, rdI, rdIc, rdB, rdLt, rdLe, rdGt, rdGe, rdNeg, rdIs, rdEq, rdNe, rdIx, rdIsN, rdNotN, rdIsB, rdNotB, rdRev, rdSeats, rdCatL, rdCatT, rdRepL, rdLen, rdTuple, rdList, rxList, rdInt, rdMax2, rdMin2, dgName, dgTup, dgCons, dgNil, deRefused, rdRepr, rdNeS, rdEqL, rdNeL, rdRepT, rdIsLn, noOwn, diSeq, diEn, diZp, diR1, diR2, noX,  eqOk_int, eqOk_bl, eqOk_non, eqv_int, eqv_bl, eqv_non, atI_0, atI_1, atI_2, atI_3, qty_non, qisI_non, qisB_non, qisL_non, qisU_non, qisS_non, qisD_non, qisNon_non, qcooked_non, qseq_non, qty_bl, qisI_bl, qisB_bl, qisL_bl, qisU_bl, qisS_bl, qisD_bl, qisNon_bl, qcooked_bl, qseq_bl, qty_int, qisI_int, qisB_int, qisL_int, qisU_int, qisS_int, qisD_int, qisNon_int, qcooked_int, qseq_int, qty_str, qisI_str, qisB_str, qisL_str, qisU_str, qisS_str, qisD_str, qisNon_str, qcooked_str, qseq_str, qty_lst, qisI_lst, qisB_lst, qisL_lst, qisU_lst, qisS_lst, qisD_lst, qisNon_lst, qcooked_lst, qseq_lst, qty_tup, qisI_tup, qisB_tup, qisL_tup, qisU_tup, qisS_tup, qisD_tup, qisNon_tup, qcooked_tup, qseq_tup, qty_dct, qisI_dct, qisB_dct, qisL_dct, qisU_dct, qisS_dct, qisD_dct, qisNon_dct, qcooked_dct, qseq_dct, qix_lst, qsl_lst, qix_tup, qsl_tup, qisNon_ln, qcooked_ln, and_assoc, exists_and_left, exists_eq_left, exists_eq_left', exists_eq_right, dxLc_eq, dsFor_eq, rngD_0, rngD_eq, zipD_map, enumD_map0, sp__law_taken]
        refine ⟨⟨sa, hrow⟩, by omega, by omega, fun a a0 a1 => ⟨⟨sa, hrow⟩, by omega, by omega, fun b b0 b1 => ⟨by omega, ?_⟩⟩⟩
        refine ⟨ps ++ [(a, a + 1 + b)], fun p hp => ?_, by simp; omega, by simp [prD]⟩
        rcases List.mem_append.mp hp with hp | hp
        · exact pok p hp
        · rw [List.mem_singleton.mp hp]
          simp only
          omega
      · obtain ⟨ps, x6, x7, ⟨pok, pl⟩, rfl⟩ := hj
        rw [List.length_range] at pl
        exact hN _ ⟨ps, x6, x7, ⟨pok, by omega⟩, rfl⟩
  obtain ⟨ps, x6, x7, ⟨pok, p40⟩, rfl⟩ := hj
  -- due
  refine seq_gen (fun δ' => δ' = [.dat (.raw (.ref sa)), .dat (.raw (.ref r)), .dat (.tup (ss.map D.int)), .dat (.ln (ss.map D.int)), .dat (.int (ss.length : Nat)), .dat (.lst (ps.map prD)), x6, x7, .dat (.lst ((seatsG ps).map D.int)), .un, .un, .un, .un, .un, .un, .un, .un, .un, .un, .un, .un, .un, .un, .un, .un, .un]) (fun N hN => ?_) (fun δ' hj => ?_)
  · simp [startD, wipeD, dsRet, dsRetN, dsIf, dsSeq, dsNext, dsAsg, dsDrop, dsBreak, dsCont, dsPar, dsAug, dsFrz, dsApp, dsExt, dsPut, dsAugO, dsOwn, dsParOO, dsParDO, dsParDDO, dsFrzA, dxRep, diOwn, dsRaise, deAnd, deOr, deNot, de1, de2, deB, deX, dxB, dxLst, deName, deC, deCall, deIxO, deLenO, deTup, deLst, daCons, daNil, daStar, deChain, dtChain, dtV, dtAnd, dtOr, dtNot, dtYes, deIf, deSl, doNone, doSome, rdAdd, rdSub, rdMul, rdMod, rdDiv, rdPow, rdI, rdIc, rdB, rdLt, rdLe, rdGt, rdGe, rdNeg, rdIs, rdEq, rdNe, rdIx, rdIsN, rdNotN, rdIsB, rdNotB, rdRev, rdSeats, rdCatL, rdCatT, rdRepL, rdLen, rdTuple, rdList, rxList, rdInt, rdMax2, rdMin2, dgName, dgTup, dgCons, dgNil, deRefused, rdRepr, rdNeS, rdEqL, rdNeL, rdRepT, rdIsLn, noOwn, diSeq, diEn, diZp, diR1, diR2, noX,  eqOk_int, eqOk_bl, eqOk_non, eqv_int, eqv_bl, eqv_non, atI_0, atI_1, atI_2, atI_3, qty_non, qisI_non, qisB_non, qisL_non, qisU_non, qisS_non, qisD_non, qisNon_non, qcooked_non, qseq_non, qty_bl, qisI_bl, qisB_bl, qisL_bl, qisU_bl, qisS_bl, qisD_bl, qisNon_bl, qcooked_bl, qseq_bl, qty_int, qisI_int, qisB_int, qisL_int, qisU_int, qisS_int, qisD_int, qisNon_int, qcooked_int, qseq_int, qty_str, qisI_str, qisB_str, qisL_str, qisU_str, qisS_str, qisD_str, qisNon_str, qcooked_str, qseq_str, qty_lst, qisI_lst, qisB_lst, qisL_lst, qisU_lst, qisS_lst, qisD_lst, qisNon_lst, qcooked_lst, qseq_lst, qty_tup, qisI_tup, qisB_tup, qisL_tup, qisU_tup, qisS_tup, qisD_tup, qisNon_tup, qcooked_tup, qseq_tup, qty_dct, qisI_dct, qisB_dct, qisL_dct, qisU_dct, qisS_dct, qisD_dct, qisNon_dct, qcooked_dct, qseq_dct, qix_lst, qsl_lst, qix_tup, qsl_tup, qisNon_ln, qcooked_ln, and_assoc, exists_and_left, exists_eq_left, exists_eq_left', exists_eq_right, dxLc_eq, dsFor_eq, rngD_0, rngD_eq, zipD_map, enumD_map0]
    refine ⟨_, ps, rfl, rfl, by omega, ps_lt pok, hN _ rfl⟩
  subst hj
  obtain ⟨m, S, hm1, hm2⟩ := seat_max pok
  have dl : (seatsG ps).length = ps.length := S.len
  have din := seats_in S p40
  have hmle := S.le
  have pokL : PsOk (ss.map D.int).length ps := by rw [hsl]; exact pok
  obtain ⟨lds, hlds⟩ : ∃ lds, lds = (loadsP ss.length ps).map (fun n : Nat => (n : Int)) := ⟨_, rfl⟩
  have hpos : 0 < lds.length := by rw [hlds, List.length_map]; unfold loadsP; rw [List.length_map, List.length_range]; omega
  have hmx : ∀ mx, mx ∈ lds → (∀ y ∈ lds, y ≤ mx) → mx = (m : Int) := fun mx h1 h2 => by
    rw [hlds] at h1 h2
    rw [maxN_eq h1 h2, hm2]
  have hidx : List.idxOf (m : Int) lds = (loadsP ss.length ps).idxOf m := by rw [hlds, idxOf_cast]
  -- loads
  refine seq_gen (fun δ' => δ' = [.dat (.raw (.ref sa)), .dat (.raw (.ref r)), .dat (.tup (ss.map D.int)), .dat (.ln (ss.map D.int)), .dat (.int (ss.length : Nat)), .dat (.lst (ps.map prD)), x6, x7, .dat (.lst ((seatsG ps).map D.int)), .dat (.lst (lds.map D.int)), .un, .un, .un, .un, .un, .un, .un, .un, .un, .un, .un, .un, .un, .un, .un, .un]) (fun N hN => ?_) (fun δ' hj => ?_)
  · simp [startD, wipeD, dsRet, dsRetN, dsIf, dsSeq, dsNext, dsAsg, dsDrop, dsBreak, dsCont, dsPar, dsAug, dsFrz, dsApp, dsExt, dsPut, dsAugO, dsOwn, dsParOO, dsParDO, dsParDDO, dsFrzA, dxRep, diOwn, dsRaise, deAnd, deOr, deNot, de1, de2, deB, deX, dxB, dxLst, deName, deC, deCall, deIxO, deLenO, deTup, deLst, daCons, daNil, daStar, deChain, dtChain, dtV, dtAnd, dtOr, dtNot, dtYes, deIf, deSl, doNone, doSome, rdAdd, rdSub, rdMul, rdMod, rdDiv, rdPow, rdI, rdIc, rdB, rdLt, rdLe, rdGt, rdGe, rdNeg, rdIs, rdEq, rdNe, rdIx, rdIsN, rdNotN, rdIsB, rdNotB, rdRev, rdSeats, rdCatL, rdCatT, rdRepL, rdLen, rdTuple, rdList, rxList, rdInt, rdMax2, rdMin2, dgName, dgTup, dgCons, dgNil, deRefused, rdRepr, rdNeS, rdEqL, rdNeL, rdRepT, rdIsLn, noOwn, diSeq, diEn, diZp, diR1, diR2, noX,  eqOk_int, eqOk_bl, eqOk_non, eqv_int, eqv_bl, eqv_non, atI_0, atI_1, atI_2, atI_3, qty_non, qisI_non, qisB_non, qisL_non, qisU_non, qisS_non, qisD_non, qisNon_non, qcooked_non, qseq_non, qty_bl, qisI_bl, qisB_bl, qisL_bl, qisU_bl, qisS_bl, qisD_bl, qisNon_bl, qcooked_bl, qseq_bl, qty_int, qisI_int, qisB_int, qisL_int, qisU_int, qisS_int, qisD_int, qisNon_int, qcooked_int, qseq_int, qty_str, qisI_str, qisB_str, qisL_str, qisU_str, qisS_str, qisD_str, qisNon_str, qcooked_str, qseq_str, qty_lst, qisI_lst, qisB_lst, qisL_lst, qisU_lst, qisS_lst, qisD_lst, qisNon_lst, qcooked_lst, qseq_lst, qty_tup, qisI_tup, qisB_tup, qisL_tup, qisU_tup, qisS_tup, qisD_tup, qisNon_tup, qcooked_tup, qseq_tup, qty_dct, qisI_dct, qisB_dct, qisL_dct, qisU_dct, qisS_dct, qisD_dct, qisNon_dct, qcooked_dct, qseq_dct, qix_lst, qsl_lst, qix_tup, qsl_tup, qisNon_ln, qcooked_ln, and_assoc, exists_and_left, exists_eq_left, exists_eq_left', exists_eq_right, dxLc_eq, dsFor_eq, rngD_0, rngD_eq, zipD_map, enumD_map0]
    refine ⟨by omega, lb_on (List.range ss.length) (fun l : Nat => .int ((ps.filter fun p => decide (p.1 ≤ (l : Int)) && decide ((l : Int) < p.2)).length : Nat)) (by simp; omega) (fun l hx R hR => ?_) ?_⟩
    · simp [startD, wipeD, dsRet, dsRetN, dsIf, dsSeq, dsNext, dsAsg, dsDrop, dsBreak, dsCont, dsPar, dsAug, dsFrz, dsApp, dsExt, dsPut, dsAugO, dsOwn, dsParOO, dsParDO, dsParDDO, dsFrzA, dxRep, diOwn, dsRaise, deAnd, deOr, deNot, de1, de2, deB, deX, dxB, dxLst, deName, deC, deCall, deIxO, deLenO, deTup, deLst, daCons, daNil, daStar, deChain, dtChain, dtV, dtAnd, dtOr, dtNot, dtYes, deIf, deSl, doNone, doSome, rdAdd, rdSub, rdMul, rdMod, rdDiv, rdPow, rdI, rdIc, rdB, rdLt, rdLe, rdGt, rdGe, rdNeg, rdIs, rdEq, rdNe, rdIx, rdIsN, rdNotN, rdIsB, rdNotB, rdRev, rdSeats, rdCatL, rdCatT, rdRepL, rdLen, rdTuple, rdList, rxList, rdInt, rdMax2, rdMin2, dgName, dgTup, dgCons, dgNil, deRefused, rdRepr, rdNeS, rdEqL, rdNeL, rdRepT, rdIsLn, noOwn, diSeq, diEn, diZp, diR1, diR2, noX,  eqOk_int, eqOk_bl, eqOk_non, eqv_int, eqv_bl, eqv_non, atI_0, atI_1, atI_2, atI_3, qty_non, qisI_non, qisB_non, qisL_non, qisU_non, qisS_non, qisD_non, qisNon_non, qcooked_non, qseq_non, qty_bl, qisI_bl, qisB_bl, qisL_bl, qisU_bl, qisS_bl, qisD_bl, qisNon_bl, qcooked_bl, qseq_bl, qty_int, qisI_int, qisB_int, qisL_int, qisU_int, qisS_int, qisD_int, qisNon_int, qcooked_int, qseq_int, qty_str, qisI_str, qisB_str, qisL_str, qisU_str, qisS_str, qisD_str, qisNon_str, qcooked_str, qseq_str, qty_lst, qisI_lst, qisB_lst, qisL_lst, qisU_lst, qisS_lst, qisD_lst, qisNon_lst, qcooked_lst, qseq_lst, qty_tup, qisI_tup, qisB_tup, qisL_tup, qisU_tup, qisS_tup, qisD_tup, qisNon_tup, qcooked_tup, qseq_tup, qty_dct, qisI_dct, qisB_dct, qisL_dct, qisU_dct, qisS_dct, qisD_dct, qisNon_dct, qcooked_dct, qseq_dct, qix_lst, qsl_lst, qix_tup, qsl_tup, qisNon_ln, qcooked_ln, and_assoc, exists_and_left, exists_eq_left, exists_eq_left', exists_eq_right, dxLc_eq, dsFor_eq, rngD_0, rngD_eq, zipD_map, enumD_map0]
      refine lb_onF ps prD (fun p => decide (p.1 ≤ (l : Int)) && decide ((l : Int) < p.2)) (by omega) (fun p hp R1 R2 r1 r2 => ?_) ?_
      · simp [startD, wipeD, dsRet, dsRetN, dsIf, dsSeq, dsNext, dsAsg, dsDrop, dsBreak, dsCont, dsPar, dsAug, dsFrz, dsApp, dsExt, dsPut, dsAugO, dsOwn, dsParOO, dsParDO, dsParDDO, dsFrzA, dxRep, diOwn, dsRaise, deAnd, deOr, deNot, de1, de2, deB, deX, dxB, dxLst, deName, deC, deCall, deIxO, deLenO, deTup, deLst, daCons, daNil, daStar, deChain, dtChain, dtV, dtAnd, dtOr, dtNot, dtYes, deIf, deSl, doNone, doSome, rdAdd, rdSub, rdMul, rdMod, rdDiv, rdPow, rdI, rdIc, rdB, rdLt, rdLe, rdGt, rdGe, rdNeg, rdIs, rdEq, rdNe, rdIx, rdIsN, rdNotN, rdIsB, rdNotB, rdRev, rdSeats, rdCatL, rdCatT, rdRepL, rdLen, rdTuple, rdList, rxList, rdInt, rdMax2, rdMin2, dgName, dgTup, dgCons, dgNil, deRefused, rdRepr, rdNeS, rdEqL, rdNeL, rdRepT, rdIsLn, noOwn, diSeq, diEn, diZp, diR1, diR2, noX,  eqOk_int, eqOk_bl, eqOk_non, eqv_int, eqv_bl, eqv_non, atI_0, atI_1, atI_2, atI_3, qty_non, qisI_non, qisB_non, qisL_non, qisU_non, qisS_non, qisD_non, qisNon_non, qcooked_non, qseq_non, qty_bl, qisI_bl, qisB_bl, qisL_bl, qisU_bl, qisS_bl, qisD_bl, qisNon_bl, qcooked_bl, qseq_bl, qty_int, qisI_int, qisB_int, qisL_int, qisU_int, qisS_int, qisD_int, qisNon_int, qcooked_int, qseq_int, qty_str, qisI_str, qisB_str, qisL_str, qisU_str, qisS_str, qisD_str, qisNon_str, qcooked_str, qseq_str, qty_lst, qisI_lst, qisB_lst, qisL_lst, qisU_lst, qisS_lst, qisD_lst, qisNon_lst, qcooked_lst, qseq_lst, qty_tup, qisI_tup, qisB_tup, qisL_tup, qisU_tup, qisS_tup, qisD_tup, qisNon_tup, qcooked_tup, qseq_tup, qty_dct, qisI_dct, qisB_dct, qisL_dct, qisU_dct, qisS_dct, qisD_dct, qisNon_dct, qcooked_dct, qseq_dct, qix_lst, qsl_lst, qix_tup, qsl_tup, qisNon_ln, qcooked_ln, and_assoc, exists_and_left, exists_eq_left, exists_eq_left', exists_eq_right, dxLc_eq, dsFor_eq, rngD_0, rngD_eq, zipD_map, enumD_map0, prD]
        by_cases c1 : p.1 ≤ (l : Int)
        · rw [if_pos c1]
          by_cases c2 : (l : Int) < p.2
          · rw [if_pos c2]
            exact r1 (by simp [c1, c2])
          · rw [if_neg c2]
            exact r2 (by simp [c2])
        · rw [if_neg c1]
          exact r2 (by simp [c1])
      · rw [List.length_map]
        exact hR
    · have el : (List.map (fun l : Nat => D.int ((List.filter (fun p : Int × Int => decide (p.1 ≤ (l : Int)) && decide ((l : Int) < p.2)) ps).length : Nat)) (List.range ss.length)) = lds.map D.int := by
        simp [hlds, loadsP, List.map_map]
      rw [el]
      exact hN _ rfl
  subst hj
  -- alike
  refine seq_gen (fun δ' => δ' = [.dat (.raw (.ref sa)), .dat (.raw (.ref r)), .dat (.tup (ss.map D.int)), .dat (.ln (ss.map D.int)), .dat (.int (ss.length : Nat)), .dat (.lst (ps.map prD)), x6, x7, .dat (.lst ((seatsG ps).map D.int)), .dat (.lst (lds.map D.int)), .un, .un, .un, .un, .un, .un, .un, .un, .un, .un, .un, .un, .un, .un, .un, .un]) (fun N hN => ?_) (fun δ' hj => ?_)
  · simp [startD, wipeD, dsRet, dsRetN, dsIf, dsSeq, dsNext, dsAsg, dsDrop, dsBreak, dsCont, dsPar, dsAug, dsFrz, dsApp, dsExt, dsPut, dsAugO, dsOwn, dsParOO, dsParDO, dsParDDO, dsFrzA, dxRep, diOwn, dsRaise, deAnd, deOr, deNot, de1, de2, deB, deX, dxB, dxLst, deName, deC, deCall, deIxO, deLenO, deTup, deLst, daCons, daNil, daStar, deChain, dtChain, dtV, dtAnd, dtOr, dtNot, dtYes, deIf, deSl, doNone, doSome, rdAdd, rdSub, rdMul, rdMod, rdDiv, rdPow, rdI, rdIc, rdB, rdLt, rdLe, rdGt, rdGe, rdNeg, rdIs, rdEq, rdNe, rdIx, rdIsN, rdNotN, rdIsB, rdNotB, rdRev, rdSeats, rdCatL, rdCatT, rdRepL, rdLen, rdTuple, rdList, rxList, rdInt, rdMax2, rdMin2, dgName, dgTup, dgCons, dgNil, deRefused, rdRepr, rdNeS, rdEqL, rdNeL, rdRepT, rdIsLn, noOwn, diSeq, diEn, diZp, diR1, diR2, noX,  eqOk_int, eqOk_bl, eqOk_non, eqv_int, eqv_bl, eqv_non, atI_0, atI_1, atI_2, atI_3, qty_non, qisI_non, qisB_non, qisL_non, qisU_non, qisS_non, qisD_non, qisNon_non, qcooked_non, qseq_non, qty_bl, qisI_bl, qisB_bl, qisL_bl, qisU_bl, qisS_bl, qisD_bl, qisNon_bl, qcooked_bl, qseq_bl, qty_int, qisI_int, qisB_int, qisL_int, qisU_int, qisS_int, qisD_int, qisNon_int, qcooked_int, qseq_int, qty_str, qisI_str, qisB_str, qisL_str, qisU_str, qisS_str, qisD_str, qisNon_str, qcooked_str, qseq_str, qty_lst, qisI_lst, qisB_lst, qisL_lst, qisU_lst, qisS_lst, qisD_lst, qisNon_lst, qcooked_lst, qseq_lst, qty_tup, qisI_tup, qisB_tup, qisL_tup, qisU_tup, qisS_tup, qisD_tup, qisNon_tup, qcooked_tup, qseq_tup, qty_dct, qisI_dct, qisB_dct, qisL_dct, qisU_dct, qisS_dct, qisD_dct, qisNon_dct, qcooked_dct, qseq_dct, qix_lst, qsl_lst, qix_tup, qsl_tup, qisNon_ln, qcooked_ln, and_assoc, exists_and_left, exists_eq_left, exists_eq_left', exists_eq_right, dxLc_eq, dsFor_eq, rngD_0, rngD_eq, zipD_map, enumD_map0]
    refine ⟨ss.map D.int, .tup (ps.map prD), rfl, okv_tup okv_prs, pass_of rfl pokL p40 ?_⟩
    refine alike_i (alk_ints _ (by omega)) ⟨rfl, ?_⟩
    refine ⟨ss.map D.int, .lst (ps.map prD), rfl, okv_lst okv_prs, pass_of rfl pokL p40 ?_⟩
    refine ⟨lds, rfl, hpos, fun mx h1 h2 => ?_⟩
    have e := hmx mx h1 h2
    subst e
    rw [hm1]
    refine alike_i alk_int ⟨rfl, by omega, ?_⟩
    rw [show (seatsG ps).map D.int ++ [D.int (-1)] = (seatsG ps ++ [-1]).map D.int by simp]
    refine ⟨_, rfl, by simp, fun mx h3 h4 => ⟨_, rfl, lds, rfl, hpos, fun my h5 h6 => ?_⟩⟩
    have e := hmx my h5 h6
    subst e
    have e1 : mx = maxI (seatsG ps ++ [-1]) := maxI_eq h3 h4 (fun y hy => by
      rcases List.mem_append.mp hy with hy | hy
      · exact seatRun_ge ps _ y hy
      · rw [List.mem_singleton.mp hy]
        exact Int.le_refl _)
    have e2 : maxI (seatsG ps ++ [-1]) = max (maxI (seatsG ps)) (-1) := by
      unfold maxI
      rw [List.foldl_append]
      rfl
    have e3 := (maxI_ge (seatsG ps) (-1)).1
    have e4 : mx + 1 = (m : Int) := by
      unfold maxI at *
      omega
    rw [e4]
    exact ⟨rfl, by rw [eqv_int]; simp, hN _ rfl⟩
  subst hj
  -- fullest, is_seating
  refine seq_gen (fun δ' => δ' = [.dat (.raw (.ref sa)), .dat (.raw (.ref r)), .dat (.tup (ss.map D.int)), .dat (.ln (ss.map D.int)), .dat (.int (ss.length : Nat)), .dat (.lst (ps.map prD)), x6, x7, .dat (.lst ((seatsG ps).map D.int)), .dat (.lst (lds.map D.int)), .un, .un, .un, .un, .un, .un, .un, .un, .un, .un, .un, .un, .un, .un, .un, .un]) (fun N hN => ?_) (fun δ' hj => ?_)
  · simp [startD, wipeD, dsRet, dsRetN, dsIf, dsSeq, dsNext, dsAsg, dsDrop, dsBreak, dsCont, dsPar, dsAug, dsFrz, dsApp, dsExt, dsPut, dsAugO, dsOwn, dsParOO, dsParDO, dsParDDO, dsFrzA, dxRep, diOwn, dsRaise, deAnd, deOr, deNot, de1, de2, deB, deX, dxB, dxLst, deName, deC, deCall, deIxO, deLenO, deTup, deLst, daCons, daNil, daStar, deChain, dtChain, dtV, dtAnd, dtOr, dtNot, dtYes, deIf, deSl, doNone, doSome, rdAdd, rdSub, rdMul, rdMod, rdDiv, rdPow, rdI, rdIc, rdB, rdLt, rdLe, rdGt, rdGe, rdNeg, rdIs, rdEq, rdNe, rdIx, rdIsN, rdNotN, rdIsB, rdNotB, rdRev, rdSeats, rdCatL, rdCatT, rdRepL, rdLen, rdTuple, rdList, rxList, rdInt, rdMax2, rdMin2, dgName, dgTup, dgCons, dgNil, deRefused, rdRepr, rdNeS, rdEqL, rdNeL, rdRepT, rdIsLn, noOwn, diSeq, diEn, diZp, diR1, diR2, noX,  eqOk_int, eqOk_bl, eqOk_non, eqv_int, eqv_bl, eqv_non, atI_0, atI_1, atI_2, atI_3, qty_non, qisI_non, qisB_non, qisL_non, qisU_non, qisS_non, qisD_non, qisNon_non, qcooked_non, qseq_non, qty_bl, qisI_bl, qisB_bl, qisL_bl, qisU_bl, qisS_bl, qisD_bl, qisNon_bl, qcooked_bl, qseq_bl, qty_int, qisI_int, qisB_int, qisL_int, qisU_int, qisS_int, qisD_int, qisNon_int, qcooked_int, qseq_int, qty_str, qisI_str, qisB_str, qisL_str, qisU_str, qisS_str, qisD_str, qisNon_str, qcooked_str, qseq_str, qty_lst, qisI_lst, qisB_lst, qisL_lst, qisU_lst, qisS_lst, qisD_lst, qisNon_lst, qcooked_lst, qseq_lst, qty_tup, qisI_tup, qisB_tup, qisL_tup, qisU_tup, qisS_tup, qisD_tup, qisNon_tup, qcooked_tup, qseq_tup, qty_dct, qisI_dct, qisB_dct, qisL_dct, qisU_dct, qisS_dct, qisD_dct, qisNon_dct, qcooked_dct, qseq_dct, qix_lst, qsl_lst, qix_tup, qsl_tup, qisNon_ln, qcooked_ln, and_assoc, exists_and_left, exists_eq_left, exists_eq_left', exists_eq_right, dxLc_eq, dsFor_eq, rngD_0, rngD_eq, zipD_map, enumD_map0, deIndex]
    refine ⟨ss.map D.int, .lst (ps.map prD), rfl, by simpa using n1, by simp; omega, okv_lst okv_prs, pass_of rfl pokL p40 ?_⟩
    rw [hsl]
    refine ⟨lds, rfl, lds, rfl, hpos, fun mx h1 h2 => ⟨_, rfl, h1, ?_⟩⟩
    have e := hmx mx h1 h2
    subst e
    rw [hidx, hm2]
    refine alike_i alk_int ⟨rfl, ?_⟩
    refine ⟨ss.map D.int, .lst (ps.map prD), .tup ((seatsG ps).map D.int), rfl, okv_lst okv_prs, okv_tup okv_int, fun ys e => (by cases e; simp; omega), pass_of rfl pokL p40 ?_⟩
    rw [isSeatB_ints rfl dl din, seat_good S]
    exact ⟨rfl, hN _ rfl⟩
  subst hj
  -- turns
  refine seq_gen (fun δ' => ∃ x10 x11 x12 : Sl, δ' = [.dat (.raw (.ref sa)), .dat (.raw (.ref r)), .dat (.tup (ss.map D.int)), .dat (.ln (ss.map D.int)), .dat (.int (ss.length : Nat)), .dat (.lst (ps.map prD)), x6, x7, .dat (.lst ((seatsG ps).map D.int)), .dat (.lst (lds.map D.int)), x10, x11, x12, .un, .un, .un, .un, .un, .un, .un, .un, .un, .un, .un, .un, .un]) (fun N hN => ?_) (fun δ' hj => ?_)
  · simp [startD, wipeD, dsRet, dsRetN, dsIf, dsSeq, dsNext, dsAsg, dsDrop, dsBreak, dsCont, dsPar, dsAug, dsFrz, dsApp, dsExt, dsPut, dsAugO, dsOwn, dsParOO, dsParDO, dsParDDO, dsFrzA, dxRep, diOwn, dsRaise, deAnd, deOr, deNot, de1, de2, deB, deX, dxB, dxLst, deName, deC, deCall, deIxO, deLenO, deTup, deLst, daCons, daNil, daStar, deChain, dtChain, dtV, dtAnd, dtOr, dtNot, dtYes, deIf, deSl, doNone, doSome, rdAdd, rdSub, rdMul, rdMod, rdDiv, rdPow, rdI, rdIc, rdB, rdLt, rdLe, rdGt, rdGe, rdNeg, rdIs, rdEq, rdNe, rdIx, rdIsN, rdNotN, rdIsB, rdNotB, rdRev, rdSeats, rdCatL, rdCatT, rdRepL, rdLen, rdTuple, rdList, rxList, rdInt, rdMax2, rdMin2, dgName, dgTup, dgCons, dgNil, deRefused, rdRepr, rdNeS, rdEqL, rdNeL, rdRepT, rdIsLn, noOwn, diSeq, diEn, diZp, diR1, diR2, noX,  eqOk_int, eqOk_bl, eqOk_non, eqv_int, eqv_bl, eqv_non, atI_0, atI_1, atI_2, atI_3, qty_non, qisI_non, qisB_non, qisL_non, qisU_non, qisS_non, qisD_non, qisNon_non, qcooked_non, qseq_non, qty_bl, qisI_bl, qisB_bl, qisL_bl, qisU_bl, qisS_bl, qisD_bl, qisNon_bl, qcooked_bl, qseq_bl, qty_int, qisI_int, qisB_int, qisL_int, qisU_int, qisS_int, qisD_int, qisNon_int, qcooked_int, qseq_int, qty_str, qisI_str, qisB_str, qisL_str, qisU_str, qisS_str, qisD_str, qisNon_str, qcooked_str, qseq_str, qty_lst, qisI_lst, qisB_lst, qisL_lst, qisU_lst, qisS_lst, qisD_lst, qisNon_lst, qcooked_lst, qseq_lst, qty_tup, qisI_tup, qisB_tup, qisL_tup, qisU_tup, qisS_tup, qisD_tup, qisNon_tup, qcooked_tup, qseq_tup, qty_dct, qisI_dct, qisB_dct, qisL_dct, qisU_dct, qisS_dct, qisD_dct, qisNon_dct, qcooked_dct, qseq_dct, qix_lst, qsl_lst, qix_tup, qsl_tup, qisNon_ln, qcooked_ln, and_assoc, exists_and_left, exists_eq_left, exists_eq_left', exists_eq_right, dxLc_eq, dsFor_eq, rngD_0, rngD_eq, zipD_map, enumD_map0]
    refine ⟨eqOk_fit (n := 2) (by rw [fit_lst]; simp [prD, fit_tup, fit_int]), eqOk_lst0, ?_⟩
    rw [eqv_lst0, List.isEmpty_map]
    cases hpe : ps.isEmpty with
    | true => exact .inl ⟨rfl, fb_id _ (fun _ δ' => δ' = [.dat (.raw (.ref sa)), .dat (.raw (.ref r)), .dat (.tup (ss.map D.int)), .dat (.ln (ss.map D.int)), .dat (.int (ss.length : Nat)), .dat (.lst (ps.map prD)), x6, x7, .dat (.lst ((seatsG ps).map D.int)), .dat (.lst (lds.map D.int)), .un, .un, .un, .un, .un, .un, .un, .un, .un, .un, .un, .un, .un, .un, .un, .un]) rfl (fun i z δ' hz => (List.not_mem_nil hz).elim) (fun δ' hj => hN _ ⟨_, _, _, hj⟩)⟩
    | false =>
      have ppos : 0 < ps.length := by
        cases ps with
        | nil => cases hpe
        | cons a r => simp
      refine .inr ⟨rfl, fb_on (List.range 3) (fun i δ' => ∃ x10 x11 x12 : Sl, δ' = [.dat (.raw (.ref sa)), .dat (.raw (.ref r)), .dat (.tup (ss.map D.int)), .dat (.ln (ss.map D.int)), .dat (.int (ss.length : Nat)), .dat (.lst (ps.map prD)), x6, x7, .dat (.lst ((seatsG ps).map D.int)), .dat (.lst (lds.map D.int)), x10, x11, x12, .un, .un, .un, .un, .un, .un, .un, .un, .un, .un, .un, .un, .un]) ⟨.un, .un, .un, rfl⟩ (fun i x δ' hi hj => ?_) (fun δ' hj => hN _ hj)⟩
      obtain ⟨x10, x11, x12, rfl⟩ := hj
      show dsSeq _ _ _ [.dat (.raw (.ref sa)), .dat (.raw (.ref r)), .dat (.tup (ss.map D.int)), .dat (.ln (ss.map D.int)), .dat (.int (ss.length : Nat)), .dat (.lst (ps.map prD)), x6, x7, .dat (.lst ((seatsG ps).map D.int)), .dat (.lst (lds.map D.int)), .dat (.int (x : Int)), x11, x12, .un, .un, .un, .un, .un, .un, .un, .un, .un, .un, .un, .un, .un]
      refine seq_gen (fun δ' => ∃ k : Nat, k < ps.length ∧ δ' = [.dat (.raw (.ref sa)), .dat (.raw (.ref r)), .dat (.tup (ss.map D.int)), .dat (.ln (ss.map D.int)), .dat (.int (ss.length : Nat)), .dat (.lst (ps.map prD)), x6, x7, .dat (.lst ((seatsG ps).map D.int)), .dat (.lst (lds.map D.int)), .dat (.int (x : Int)), .dat (.int (k : Int)), x12, .un, .un, .un, .un, .un, .un, .un, .un, .un, .un, .un, .un, .un]) (fun N2 hN2 => ?_) (fun δ' hj => ?_)
      · simp [startD, wipeD, dsRet, dsRetN, dsIf, dsSeq, dsNext, dsAsg, dsDrop, dsBreak, dsCont, dsPar, dsAug, dsFrz, dsApp, dsExt, dsPut, dsAugO, dsOwn, dsParOO, dsParDO, dsParDDO, dsFrzA, dxRep, diOwn, dsRaise, deAnd, deOr, deNot, de1, de2, deB, deX, dxB, dxLst, deName, deC, deCall, deIxO, deLenO, deTup, deLst, daCons, daNil, daStar, deChain, dtChain, dtV, dtAnd, dtOr, dtNot, dtYes, deIf, deSl, doNone, doSome, rdAdd, rdSub, rdMul, rdMod, rdDiv, rdPow, rdI, rdIc, rdB, rdLt, rdLe, rdGt, rdGe, rdNeg, rdIs, rdEq, rdNe, rdIx, rdIsN, rdNotN, rdIsB, rdNotB, rdRev, rdSeats, rdCatL, rdCatT, rdRepL, rdLen, rdTuple, rdList, rxList, rdInt, rdMax2, rdMin2, dgName, dgTup, dgCons, dgNil, deRefused, rdRepr, rdNeS, rdEqL, rdNeL, rdRepT, rdIsLn, noOwn, diSeq, diEn, diZp, diR1, diR2, noX,  eqOk_int, eqOk_bl, eqOk_non, eqv_int, eqv_bl, eqv_non, atI_0, atI_1, atI_2, atI_3, qty_non, qisI_non, qisB_non, qisL_non, qisU_non, qisS_non, qisD_non, qisNon_non, qcooked_non, qseq_non, qty_bl, qisI_bl, qisB_bl, qisL_bl, qisU_bl, qisS_bl, qisD_bl, qisNon_bl, qcooked_bl, qseq_bl, qty_int, qisI_int, qisB_int, qisL_int, qisU_int, qisS_int, qisD_int, qisNon_int, qcooked_int, qseq_int, qty_str, qisI_str, qisB_str, qisL_str, qisU_str, qisS_str, qisD_str, qisNon_str, qcooked_str, qseq_str, qty_lst, qisI_lst, qisB_lst, qisL_lst, qisU_lst, qisS_lst, qisD_lst, qisNon_lst, qcooked_lst, qseq_lst, qty_tup, qisI_tup, qisB_tup, qisL_tup, qisU_tup, qisS_tup, qisD_tup, qisNon_tup, qcooked_tup, qseq_tup, qty_dct, qisI_dct, qisB_dct, qisL_dct, qisU_dct, qisS_dct, qisD_dct, qisNon_dct, qcooked_dct, qseq_dct, qix_lst, qsl_lst, qix_tup, qsl_tup, qisNon_ln, qcooked_ln, and_assoc, exists_and_left, exists_eq_left, exists_eq_left', exists_eq_right, dxLc_eq, dsFor_eq, rngD_0, rngD_eq, zipD_map, enumD_map0, sp__law_taken]
        refine ⟨⟨sa, hrow⟩, by omega, by omega, fun n h0 h1 => ?_⟩
        obtain ⟨k, rfl⟩ := Int.eq_ofNat_of_zero_le h0
        exact hN2 _ ⟨k, by omega, rfl⟩
      obtain ⟨k, hk, rfl⟩ := hj
      refine seq_gen (fun δ' => ∃ th : List Int, (th.length = ps.length ∧ ∀ s ∈ th, 0 ≤ s ∧ s ≤ 40) ∧ δ' = [.dat (.raw (.ref sa)), .dat (.raw (.ref r)), .dat (.tup (ss.map D.int)), .dat (.ln (ss.map D.int)), .dat (.int (ss.length : Nat)), .dat (.lst (ps.map prD)), x6, x7, .dat (.lst ((seatsG ps).map D.int)), .dat (.lst (lds.map D.int)), .dat (.int (x : Int)), .dat (.int (k : Int)), .dat (.lst (th.map D.int)), .un, .un, .un, .un, .un, .un, .un, .un, .un, .un, .un, .un, .un]) (fun N2 hN2 => ?_) (fun δ' hj => ?_)
      · have c1 : cut ((seatsG ps).map D.int) none (some (k : Int)) = ((seatsG ps).take k).map D.int := by rw [cut_toK, List.map_take]
        have c2 : cut ((seatsG ps).map D.int) (some ((k : Int) + 1)) none = ((seatsG ps).drop (k + 1)).map D.int := by
          rw [show ((k : Int) + 1) = ((k + 1 : Nat) : Int) by omega, cut_from _ _ (by simp; omega), List.map_drop]
        simp [startD, wipeD, dsRet, dsRetN, dsIf, dsSeq, dsNext, dsAsg, dsDrop, dsBreak, dsCont, dsPar, dsAug, dsFrz, dsApp, dsExt, dsPut, dsAugO, dsOwn, dsParOO, dsParDO, dsParDDO, dsFrzA, dxRep, diOwn, dsRaise, deAnd, deOr, deNot, de1, de2, deB, deX, dxB, dxLst, deName, deC, deCall, deIxO, deLenO, deTup, deLst, daCons, daNil, daStar, deChain, dtChain, dtV, dtAnd, dtOr, dtNot, dtYes, deIf, deSl, doNone, doSome, rdAdd, rdSub, rdMul, rdMod, rdDiv, rdPow, rdI, rdIc, rdB, rdLt, rdLe, rdGt, rdGe, rdNeg, rdIs, rdEq, rdNe, rdIx, rdIsN, rdNotN, rdIsB, rdNotB, rdRev, rdSeats, rdCatL, rdCatT, rdRepL, rdLen, rdTuple, rdList, rxList, rdInt, rdMax2, rdMin2, dgName, dgTup, dgCons, dgNil, deRefused, rdRepr, rdNeS, rdEqL, rdNeL, rdRepT, rdIsLn, noOwn, diSeq, diEn, diZp, diR1, diR2, noX,  eqOk_int, eqOk_bl, eqOk_non, eqv_int, eqv_bl, eqv_non, atI_0, atI_1, atI_2, atI_3, qty_non, qisI_non, qisB_non, qisL_non, qisU_non, qisS_non, qisD_non, qisNon_non, qcooked_non, qseq_non, qty_bl, qisI_bl, qisB_bl, qisL_bl, qisU_bl, qisS_bl, qisD_bl, qisNon_bl, qcooked_bl, qseq_bl, qty_int, qisI_int, qisB_int, qisL_int, qisU_int, qisS_int, qisD_int, qisNon_int, qcooked_int, qseq_int, qty_str, qisI_str, qisB_str, qisL_str, qisU_str, qisS_str, qisD_str, qisNon_str, qcooked_str, qseq_str, qty_lst, qisI_lst, qisB_lst, qisL_lst, qisU_lst, qisS_lst, qisD_lst, qisNon_lst, qcooked_lst, qseq_lst, qty_tup, qisI_tup, qisB_tup, qisL_tup, qisU_tup, qisS_tup, qisD_tup, qisNon_tup, qcooked_tup, qseq_tup, qty_dct, qisI_dct, qisB_dct, qisL_dct, qisU_dct, qisS_dct, qisD_dct, qisNon_dct, qcooked_dct, qseq_dct, qix_lst, qsl_lst, qix_tup, qsl_tup, qisNon_ln, qcooked_ln, and_assoc, exists_and_left, exists_eq_left, exists_eq_left', exists_eq_right, dxLc_eq, dsFor_eq, rngD_0, rngD_eq, zipD_map, enumD_map0, sp__law_taken, c1, c2]
        refine ⟨lds, rfl, hpos, fun mx h1 h2 => ?_⟩
        have e := hmx mx h1 h2
        subst e
        refine ⟨_, rfl, ⟨sa, hrow⟩, by omega, by omega, fun n n0 n1 => ⟨by omega, by omega, ?_⟩⟩
        rw [← List.map_take, ← List.map_drop, show List.map D.int (List.take k (seatsG ps)) ++ D.int n :: List.map D.int (List.drop (k + 1) (seatsG ps)) = (List.take k (seatsG ps) ++ n :: List.drop (k + 1) (seatsG ps)).map D.int by simp]
        refine hN2 _ ⟨(seatsG ps).take k ++ n :: (seatsG ps).drop (k + 1), ⟨by simp; omega, fun s hs => ?_⟩, rfl⟩
        rcases List.mem_append.mp hs with hs | hs
        · exact din s (List.mem_of_mem_take hs)
        · rcases List.mem_cons.mp hs with rfl | hs
          · omega
          · exact din s (List.mem_of_mem_drop hs)
      obtain ⟨th, ⟨tl, tin⟩, rfl⟩ := hj
      simp [startD, wipeD, dsRet, dsRetN, dsIf, dsSeq, dsNext, dsAsg, dsDrop, dsBreak, dsCont, dsPar, dsAug, dsFrz, dsApp, dsExt, dsPut, dsAugO, dsOwn, dsParOO, dsParDO, dsParDDO, dsFrzA, dxRep, diOwn, dsRaise, deAnd, deOr, deNot, de1, de2, deB, deX, dxB, dxLst, deName, deC, deCall, deIxO, deLenO, deTup, deLst, daCons, daNil, daStar, deChain, dtChain, dtV, dtAnd, dtOr, dtNot, dtYes, deIf, deSl, doNone, doSome, rdAdd, rdSub, rdMul, rdMod, rdDiv, rdPow, rdI, rdIc, rdB, rdLt, rdLe, rdGt, rdGe, rdNeg, rdIs, rdEq, rdNe, rdIx, rdIsN, rdNotN, rdIsB, rdNotB, rdRev, rdSeats, rdCatL, rdCatT, rdRepL, rdLen, rdTuple, rdList, rxList, rdInt, rdMax2, rdMin2, dgName, dgTup, dgCons, dgNil, deRefused, rdRepr, rdNeS, rdEqL, rdNeL, rdRepT, rdIsLn, noOwn, diSeq, diEn, diZp, diR1, diR2, noX,  eqOk_int, eqOk_bl, eqOk_non, eqv_int, eqv_bl, eqv_non, atI_0, atI_1, atI_2, atI_3, qty_non, qisI_non, qisB_non, qisL_non, qisU_non, qisS_non, qisD_non, qisNon_non, qcooked_non, qseq_non, qty_bl, qisI_bl, qisB_bl, qisL_bl, qisU_bl, qisS_bl, qisD_bl, qisNon_bl, qcooked_bl, qseq_bl, qty_int, qisI_int, qisB_int, qisL_int, qisU_int, qisS_int, qisD_int, qisNon_int, qcooked_int, qseq_int, qty_str, qisI_str, qisB_str, qisL_str, qisU_str, qisS_str, qisD_str, qisNon_str, qcooked_str, qseq_str, qty_lst, qisI_lst, qisB_lst, qisL_lst, qisU_lst, qisS_lst, qisD_lst, qisNon_lst, qcooked_lst, qseq_lst, qty_tup, qisI_tup, qisB_tup, qisL_tup, qisU_tup, qisS_tup, qisD_tup, qisNon_tup, qcooked_tup, qseq_tup, qty_dct, qisI_dct, qisB_dct, qisL_dct, qisU_dct, qisS_dct, qisD_dct, qisNon_dct, qcooked_dct, qseq_dct, qix_lst, qsl_lst, qix_tup, qsl_tup, qisNon_ln, qcooked_ln, and_assoc, exists_and_left, exists_eq_left, exists_eq_left', exists_eq_right, dxLc_eq, dsFor_eq, rngD_0, rngD_eq, zipD_map, enumD_map0]
      refine ⟨ss.map D.int, .lst (ps.map prD), .lst (th.map D.int), rfl, okv_lst okv_prs, okv_lst okv_int, fun ys e => (by cases e; simp; omega), pass_of rfl pokL p40 ?_⟩
      rw [isSeatB_ints rfl tl tin]
      refine ⟨_, _, ps, th, rfl, rfl, rfl, tl, by omega, ?_⟩
      exact alike_i alk_bl rfl
  obtain ⟨x10, x11, x12, rfl⟩ := hj
  -- odd
  refine seq_gen (fun δ' => ∃ od : D, (od.okv = true ∧ isSeatB ps od = false ∧ ∀ ys, od.seq = some ys → ys.length ≤ 1000) ∧ δ' = [.dat (.raw (.ref sa)), .dat (.raw (.ref r)), .dat (.tup (ss.map D.int)), .dat (.ln (ss.map D.int)), .dat (.int (ss.length : Nat)), .dat (.lst (ps.map prD)), x6, x7, .dat (.lst ((seatsG ps).map D.int)), .dat (.lst (lds.map D.int)), x10, x11, x12, .dat od, .un, .un, .un, .un, .un, .un, .un, .un, .un, .un, .un, .un]) (fun N hN => ?_) (fun δ' hj => ?_)
  · obtain ⟨mx, emx⟩ := Int.eq_ofNat_of_zero_le (show 0 ≤ max (1 : Int) (ps.length : Int) by omega)
    simp [startD, wipeD, dsRet, dsRetN, dsIf, dsSeq, dsNext, dsAsg, dsDrop, dsBreak, dsCont, dsPar, dsAug, dsFrz, dsApp, dsExt, dsPut, dsAugO, dsOwn, dsParOO, dsParDO, dsParDDO, dsFrzA, dxRep, diOwn, dsRaise, deAnd, deOr, deNot, de1, de2, deB, deX, dxB, dxLst, deName, deC, deCall, deIxO, deLenO, deTup, deLst, daCons, daNil, daStar, deChain, dtChain, dtV, dtAnd, dtOr, dtNot, dtYes, deIf, deSl, doNone, doSome, rdAdd, rdSub, rdMul, rdMod, rdDiv, rdPow, rdI, rdIc, rdB, rdLt, rdLe, rdGt, rdGe, rdNeg, rdIs, rdEq, rdNe, rdIx, rdIsN, rdNotN, rdIsB, rdNotB, rdRev, rdSeats, rdCatL, rdCatT, rdRepL, rdLen, rdTuple, rdList, rxList, rdInt, rdMax2, rdMin2, dgName, dgTup, dgCons, dgNil, deRefused, rdRepr, rdNeS, rdEqL, rdNeL, rdRepT, rdIsLn, noOwn, diSeq, diEn, diZp, diR1, diR2, noX,  eqOk_int, eqOk_bl, eqOk_non, eqv_int, eqv_bl, eqv_non, atI_0, atI_1, atI_2, atI_3, qty_non, qisI_non, qisB_non, qisL_non, qisU_non, qisS_non, qisD_non, qisNon_non, qcooked_non, qseq_non, qty_bl, qisI_bl, qisB_bl, qisL_bl, qisU_bl, qisS_bl, qisD_bl, qisNon_bl, qcooked_bl, qseq_bl, qty_int, qisI_int, qisB_int, qisL_int, qisU_int, qisS_int, qisD_int, qisNon_int, qcooked_int, qseq_int, qty_str, qisI_str, qisB_str, qisL_str, qisU_str, qisS_str, qisD_str, qisNon_str, qcooked_str, qseq_str, qty_lst, qisI_lst, qisB_lst, qisL_lst, qisU_lst, qisS_lst, qisD_lst, qisNon_lst, qcooked_lst, qseq_lst, qty_tup, qisI_tup, qisB_tup, qisL_tup, qisU_tup, qisS_tup, qisD_tup, qisNon_tup, qcooked_tup, qseq_tup, qty_dct, qisI_dct, qisB_dct, qisL_dct, qisU_dct, qisS_dct, qisD_dct, qisNon_dct, qcooked_dct, qseq_dct, qix_lst, qsl_lst, qix_tup, qsl_tup, qisNon_ln, qcooked_ln, and_assoc, exists_and_left, exists_eq_left, exists_eq_left', exists_eq_right, dxLc_eq, dsFor_eq, rngD_0, rngD_eq, zipD_map, enumD_map0, sp__law_pick, emx, rep1]
    (repeat' first | (with_reducible exact ⟨_, hrow⟩) | (with_reducible apply And.intro) | intro _) <;> (try omega)
    · exact hN _ ⟨.non, ⟨rfl, rfl, fun ys e => nomatch e⟩, rfl⟩
    · refine hN _ ⟨_, ⟨okv_lst (fun y hy => ?_), ?_, fun ys e => ?_⟩, rfl⟩
      · rcases List.mem_append.mp hy with hy | hy
        · exact okv_int y hy
        · rw [List.mem_singleton.mp hy]
          rfl
      · unfold isSeatB
        show (decide ((List.map D.int (seatsG ps) ++ [D.int 0]).length = ps.length) && _) = false
        rw [decide_eq_false (by simp; omega)]
        rfl
      · cases e
        simp
        omega
    · exact hN _ ⟨_, ⟨okv_lst (okv_rep rfl), odd_seat rfl (by omega), fun ys e => (by cases e; simp; omega)⟩, rfl⟩
    · exact hN _ ⟨_, ⟨okv_lst (okv_rep rfl), odd_seat rfl (by omega), fun ys e => (by cases e; simp; omega)⟩, rfl⟩
    · exact hN _ ⟨.int 5, ⟨rfl, rfl, fun ys e => nomatch e⟩, rfl⟩
  obtain ⟨od, ⟨od1, od2, od3⟩, rfl⟩ := hj
  refine seq_gen (fun δ' => δ' = [.dat (.raw (.ref sa)), .dat (.raw (.ref r)), .dat (.tup (ss.map D.int)), .dat (.ln (ss.map D.int)), .dat (.int (ss.length : Nat)), .dat (.lst (ps.map prD)), x6, x7, .dat (.lst ((seatsG ps).map D.int)), .dat (.lst (lds.map D.int)), x10, x11, x12, .dat od, .un, .un, .un, .un, .un, .un, .un, .un, .un, .un, .un, .un]) (fun N hN => ?_) (fun δ' hj => ?_)
  · simp [startD, wipeD, dsRet, dsRetN, dsIf, dsSeq, dsNext, dsAsg, dsDrop, dsBreak, dsCont, dsPar, dsAug, dsFrz, dsApp, dsExt, dsPut, dsAugO, dsOwn, dsParOO, dsParDO, dsParDDO, dsFrzA, dxRep, diOwn, dsRaise, deAnd, deOr, deNot, de1, de2, deB, deX, dxB, dxLst, deName, deC, deCall, deIxO, deLenO, deTup, deLst, daCons, daNil, daStar, deChain, dtChain, dtV, dtAnd, dtOr, dtNot, dtYes, deIf, deSl, doNone, doSome, rdAdd, rdSub, rdMul, rdMod, rdDiv, rdPow, rdI, rdIc, rdB, rdLt, rdLe, rdGt, rdGe, rdNeg, rdIs, rdEq, rdNe, rdIx, rdIsN, rdNotN, rdIsB, rdNotB, rdRev, rdSeats, rdCatL, rdCatT, rdRepL, rdLen, rdTuple, rdList, rxList, rdInt, rdMax2, rdMin2, dgName, dgTup, dgCons, dgNil, deRefused, rdRepr, rdNeS, rdEqL, rdNeL, rdRepT, rdIsLn, noOwn, diSeq, diEn, diZp, diR1, diR2, noX,  eqOk_int, eqOk_bl, eqOk_non, eqv_int, eqv_bl, eqv_non, atI_0, atI_1, atI_2, atI_3, qty_non, qisI_non, qisB_non, qisL_non, qisU_non, qisS_non, qisD_non, qisNon_non, qcooked_non, qseq_non, qty_bl, qisI_bl, qisB_bl, qisL_bl, qisU_bl, qisS_bl, qisD_bl, qisNon_bl, qcooked_bl, qseq_bl, qty_int, qisI_int, qisB_int, qisL_int, qisU_int, qisS_int, qisD_int, qisNon_int, qcooked_int, qseq_int, qty_str, qisI_str, qisB_str, qisL_str, qisU_str, qisS_str, qisD_str, qisNon_str, qcooked_str, qseq_str, qty_lst, qisI_lst, qisB_lst, qisL_lst, qisU_lst, qisS_lst, qisD_lst, qisNon_lst, qcooked_lst, qseq_lst, qty_tup, qisI_tup, qisB_tup, qisL_tup, qisU_tup, qisS_tup, qisD_tup, qisNon_tup, qcooked_tup, qseq_tup, qty_dct, qisI_dct, qisB_dct, qisL_dct, qisU_dct, qisS_dct, qisD_dct, qisNon_dct, qcooked_dct, qseq_dct, qix_lst, qsl_lst, qix_tup, qsl_tup, qisNon_ln, qcooked_ln, and_assoc, exists_and_left, exists_eq_left, exists_eq_left', exists_eq_right, dxLc_eq, dsFor_eq, rngD_0, rngD_eq, zipD_map, enumD_map0]
    refine ⟨ss.map D.int, .lst (ps.map prD), od, rfl, okv_lst okv_prs, od1, od3, pass_of rfl pokL p40 ?_⟩
    rw [od2]
    exact ⟨rfl, hN _ rfl⟩
  subst hj
  -- often
  refine seq_gen (fun δ' => ∃ q : Int, (0 < q ∧ q < 10) ∧ δ' = [.dat (.raw (.ref sa)), .dat (.raw (.ref r)), .dat (.tup (ss.map D.int)), .dat (.ln (ss.map D.int)), .dat (.int (ss.length : Nat)), .dat (.lst (ps.map prD)), x6, x7, .dat (.lst ((seatsG ps).map D.int)), .dat (.lst (lds.map D.int)), x10, x11, x12, .dat od, .dat (.int q), .un, .un, .un, .un, .un, .un, .un, .un, .un, .un, .un]) (fun N hN => ?_) (fun δ' hj => ?_)
  · simp [startD, wipeD, dsRet, dsRetN, dsIf, dsSeq, dsNext, dsAsg, dsDrop, dsBreak, dsCont, dsPar, dsAug, dsFrz, dsApp, dsExt, dsPut, dsAugO, dsOwn, dsParOO, dsParDO, dsParDDO, dsFrzA, dxRep, diOwn, dsRaise, deAnd, deOr, deNot, de1, de2, deB, deX, dxB, dxLst, deName, deC, deCall, deIxO, deLenO, deTup, deLst, daCons, daNil, daStar, deChain, dtChain, dtV, dtAnd, dtOr, dtNot, dtYes, deIf, deSl, doNone, doSome, rdAdd, rdSub, rdMul, rdMod, rdDiv, rdPow, rdI, rdIc, rdB, rdLt, rdLe, rdGt, rdGe, rdNeg, rdIs, rdEq, rdNe, rdIx, rdIsN, rdNotN, rdIsB, rdNotB, rdRev, rdSeats, rdCatL, rdCatT, rdRepL, rdLen, rdTuple, rdList, rxList, rdInt, rdMax2, rdMin2, dgName, dgTup, dgCons, dgNil, deRefused, rdRepr, rdNeS, rdEqL, rdNeL, rdRepT, rdIsLn, noOwn, diSeq, diEn, diZp, diR1, diR2, noX,  eqOk_int, eqOk_bl, eqOk_non, eqv_int, eqv_bl, eqv_non, atI_0, atI_1, atI_2, atI_3, qty_non, qisI_non, qisB_non, qisL_non, qisU_non, qisS_non, qisD_non, qisNon_non, qcooked_non, qseq_non, qty_bl, qisI_bl, qisB_bl, qisL_bl, qisU_bl, qisS_bl, qisD_bl, qisNon_bl, qcooked_bl, qseq_bl, qty_int, qisI_int, qisB_int, qisL_int, qisU_int, qisS_int, qisD_int, qisNon_int, qcooked_int, qseq_int, qty_str, qisI_str, qisB_str, qisL_str, qisU_str, qisS_str, qisD_str, qisNon_str, qcooked_str, qseq_str, qty_lst, qisI_lst, qisB_lst, qisL_lst, qisU_lst, qisS_lst, qisD_lst, qisNon_lst, qcooked_lst, qseq_lst, qty_tup, qisI_tup, qisB_tup, qisL_tup, qisU_tup, qisS_tup, qisD_tup, qisNon_tup, qcooked_tup, qseq_tup, qty_dct, qisI_dct, qisB_dct, qisL_dct, qisU_dct, qisS_dct, qisD_dct, qisNon_dct, qcooked_dct, qseq_dct, qix_lst, qsl_lst, qix_tup, qsl_tup, qisNon_ln, qcooked_ln, and_assoc, exists_and_left, exists_eq_left, exists_eq_left', exists_eq_right, dxLc_eq, dsFor_eq, rngD_0, rngD_eq, zipD_map, enumD_map0, sp__law_pick]
    exact ⟨⟨sa, hrow⟩, hN _ ⟨2, by decide, rfl⟩, hN _ ⟨3, by decide, rfl⟩, hN _ ⟨5, by decide, rfl⟩⟩
  obtain ⟨q, ⟨q0, q1⟩, rfl⟩ := hj
  -- free
  refine seq_gen (fun δ' => ∃ fs : List (List Bool), (FsOk ss.length fs ∧ 1 ≤ fs.length ∧ fs.length ≤ 20) ∧ δ' = [.dat (.raw (.ref sa)), .dat (.raw (.ref r)), .dat (.tup (ss.map D.int)), .dat (.ln (ss.map D.int)), .dat (.int (ss.length : Nat)), .dat (.lst (ps.map prD)), x6, x7, .dat (.lst ((seatsG ps).map D.int)), .dat (.lst (lds.map D.int)), x10, x11, x12, .dat od, .dat (.int q), .dat (.lst (fs.map rowD)), .un, .un, .un, .un, .un, .un, .un, .un, .un, .un]) (fun N hN => ?_) (fun δ' hj => ?_)
  · simp [startD, wipeD, dsRet, dsRetN, dsIf, dsSeq, dsNext, dsAsg, dsDrop, dsBreak, dsCont, dsPar, dsAug, dsFrz, dsApp, dsExt, dsPut, dsAugO, dsOwn, dsParOO, dsParDO, dsParDDO, dsFrzA, dxRep, diOwn, dsRaise, deAnd, deOr, deNot, de1, de2, deB, deX, dxB, dxLst, deName, deC, deCall, deIxO, deLenO, deTup, deLst, daCons, daNil, daStar, deChain, dtChain, dtV, dtAnd, dtOr, dtNot, dtYes, deIf, deSl, doNone, doSome, rdAdd, rdSub, rdMul, rdMod, rdDiv, rdPow, rdI, rdIc, rdB, rdLt, rdLe, rdGt, rdGe, rdNeg, rdIs, rdEq, rdNe, rdIx, rdIsN, rdNotN, rdIsB, rdNotB, rdRev, rdSeats, rdCatL, rdCatT, rdRepL, rdLen, rdTuple, rdList, rxList, rdInt, rdMax2, rdMin2, dgName, dgTup, dgCons, dgNil, deRefused, rdRepr, rdNeS, rdEqL, rdNeL, rdRepT, rdIsLn, noOwn, diSeq, diEn, diZp, diR1, diR2, noX,  eqOk_int, eqOk_bl, eqOk_non, eqv_int, eqv_bl, eqv_non, atI_0, atI_1, atI_2, atI_3, qty_non, qisI_non, qisB_non, qisL_non, qisU_non, qisS_non, qisD_non, qisNon_non, qcooked_non, qseq_non, qty_bl, qisI_bl, qisB_bl, qisL_bl, qisU_bl, qisS_bl, qisD_bl, qisNon_bl, qcooked_bl, qseq_bl, qty_int, qisI_int, qisB_int, qisL_int, qisU_int, qisS_int, qisD_int, qisNon_int, qcooked_int, qseq_int, qty_str, qisI_str, qisB_str, qisL_str, qisU_str, qisS_str, qisD_str, qisNon_str, qcooked_str, qseq_str, qty_lst, qisI_lst, qisB_lst, qisL_lst, qisU_lst, qisS_lst, qisD_lst, qisNon_lst, qcooked_lst, qseq_lst, qty_tup, qisI_tup, qisB_tup, qisL_tup, qisU_tup, qisS_tup, qisD_tup, qisNon_tup, qcooked_tup, qseq_tup, qty_dct, qisI_dct, qisB_dct, qisL_dct, qisU_dct, qisS_dct, qisD_dct, qisNon_dct, qcooked_dct, qseq_dct, qix_lst, qsl_lst, qix_tup, qsl_tup, qisNon_ln, qcooked_ln, and_assoc, exists_and_left, exists_eq_left, exists_eq_left', exists_eq_right, dxLc_eq, dsFor_eq, rngD_0, rngD_eq, zipD_map, enumD_map0, sp__law_pick, sp__law_taken]
    refine ⟨⟨sa, hrow⟩, fun n h0 h1 => ⟨by omega, by omega, ?_⟩, ⟨sa, hrow⟩, fun n h0 h1 => ⟨by omega, by omega, ?_⟩, ⟨sa, hrow⟩, fun n h0 h1 => ⟨by omega, by omega, ?_⟩⟩ <;>
    · refine lb_onA (List.range _) rowD (fun _ bs => bs.length = ss.length) (by simp; omega) (fun x hx R hR => ?_) (fun fs hl hm => ?_)
      · simp [startD, wipeD, dsRet, dsRetN, dsIf, dsSeq, dsNext, dsAsg, dsDrop, dsBreak, dsCont, dsPar, dsAug, dsFrz, dsApp, dsExt, dsPut, dsAugO, dsOwn, dsParOO, dsParDO, dsParDDO, dsFrzA, dxRep, diOwn, dsRaise, deAnd, deOr, deNot, de1, de2, deB, deX, dxB, dxLst, deName, deC, deCall, deIxO, deLenO, deTup, deLst, daCons, daNil, daStar, deChain, dtChain, dtV, dtAnd, dtOr, dtNot, dtYes, deIf, deSl, doNone, doSome, rdAdd, rdSub, rdMul, rdMod, rdDiv, rdPow, rdI, rdIc, rdB, rdLt, rdLe, rdGt, rdGe, rdNeg, rdIs, rdEq, rdNe, rdIx, rdIsN, rdNotN, rdIsB, rdNotB, rdRev, rdSeats, rdCatL, rdCatT, rdRepL, rdLen, rdTuple, rdList, rxList, rdInt, rdMax2, rdMin2, dgName, dgTup, dgCons, dgNil, deRefused, rdRepr, rdNeS, rdEqL, rdNeL, rdRepT, rdIsLn, noOwn, diSeq, diEn, diZp, diR1, diR2, noX,  eqOk_int, eqOk_bl, eqOk_non, eqv_int, eqv_bl, eqv_non, atI_0, atI_1, atI_2, atI_3, qty_non, qisI_non, qisB_non, qisL_non, qisU_non, qisS_non, qisD_non, qisNon_non, qcooked_non, qseq_non, qty_bl, qisI_bl, qisB_bl, qisL_bl, qisU_bl, qisS_bl, qisD_bl, qisNon_bl, qcooked_bl, qseq_bl, qty_int, qisI_int, qisB_int, qisL_int, qisU_int, qisS_int, qisD_int, qisNon_int, qcooked_int, qseq_int, qty_str, qisI_str, qisB_str, qisL_str, qisU_str, qisS_str, qisD_str, qisNon_str, qcooked_str, qseq_str, qty_lst, qisI_lst, qisB_lst, qisL_lst, qisU_lst, qisS_lst, qisD_lst, qisNon_lst, qcooked_lst, qseq_lst, qty_tup, qisI_tup, qisB_tup, qisL_tup, qisU_tup, qisS_tup, qisD_tup, qisNon_tup, qcooked_tup, qseq_tup, qty_dct, qisI_dct, qisB_dct, qisL_dct, qisU_dct, qisS_dct, qisD_dct, qisNon_dct, qcooked_dct, qseq_dct, qix_lst, qsl_lst, qix_tup, qsl_tup, qisNon_ln, qcooked_ln, and_assoc, exists_and_left, exists_eq_left, exists_eq_left', exists_eq_right, dxLc_eq, dsFor_eq, rngD_0, rngD_eq, zipD_map, enumD_map0, sp__law_taken]
        refine ⟨by omega, lb_onA (List.range ss.length) D.bl (fun _ _ => True) (by simp; omega) (fun x hx R hR => ?_) (fun bs hl hm => ?_)⟩
        · simp [startD, wipeD, dsRet, dsRetN, dsIf, dsSeq, dsNext, dsAsg, dsDrop, dsBreak, dsCont, dsPar, dsAug, dsFrz, dsApp, dsExt, dsPut, dsAugO, dsOwn, dsParOO, dsParDO, dsParDDO, dsFrzA, dxRep, diOwn, dsRaise, deAnd, deOr, deNot, de1, de2, deB, deX, dxB, dxLst, deName, deC, deCall, deIxO, deLenO, deTup, deLst, daCons, daNil, daStar, deChain, dtChain, dtV, dtAnd, dtOr, dtNot, dtYes, deIf, deSl, doNone, doSome, rdAdd, rdSub, rdMul, rdMod, rdDiv, rdPow, rdI, rdIc, rdB, rdLt, rdLe, rdGt, rdGe, rdNeg, rdIs, rdEq, rdNe, rdIx, rdIsN, rdNotN, rdIsB, rdNotB, rdRev, rdSeats, rdCatL, rdCatT, rdRepL, rdLen, rdTuple, rdList, rxList, rdInt, rdMax2, rdMin2, dgName, dgTup, dgCons, dgNil, deRefused, rdRepr, rdNeS, rdEqL, rdNeL, rdRepT, rdIsLn, noOwn, diSeq, diEn, diZp, diR1, diR2, noX,  eqOk_int, eqOk_bl, eqOk_non, eqv_int, eqv_bl, eqv_non, atI_0, atI_1, atI_2, atI_3, qty_non, qisI_non, qisB_non, qisL_non, qisU_non, qisS_non, qisD_non, qisNon_non, qcooked_non, qseq_non, qty_bl, qisI_bl, qisB_bl, qisL_bl, qisU_bl, qisS_bl, qisD_bl, qisNon_bl, qcooked_bl, qseq_bl, qty_int, qisI_int, qisB_int, qisL_int, qisU_int, qisS_int, qisD_int, qisNon_int, qcooked_int, qseq_int, qty_str, qisI_str, qisB_str, qisL_str, qisU_str, qisS_str, qisD_str, qisNon_str, qcooked_str, qseq_str, qty_lst, qisI_lst, qisB_lst, qisL_lst, qisU_lst, qisS_lst, qisD_lst, qisNon_lst, qcooked_lst, qseq_lst, qty_tup, qisI_tup, qisB_tup, qisL_tup, qisU_tup, qisS_tup, qisD_tup, qisNon_tup, qcooked_tup, qseq_tup, qty_dct, qisI_dct, qisB_dct, qisL_dct, qisU_dct, qisS_dct, qisD_dct, qisNon_dct, qcooked_dct, qseq_dct, qix_lst, qsl_lst, qix_tup, qsl_tup, qisNon_ln, qcooked_ln, and_assoc, exists_and_left, exists_eq_left, exists_eq_left', exists_eq_right, dxLc_eq, dsFor_eq, rngD_0, rngD_eq, zipD_map, enumD_map0, sp__law_taken]
          exact ⟨⟨sa, hrow⟩, by omega, by omega, fun n _ _ => hR _ trivial⟩
        · exact hR bs (by rw [hl, List.length_range])
      · rw [List.length_range] at hl
        refine hN _ ⟨fs, ⟨fun bs hb => ?_, by omega, by omega⟩, rfl⟩
        obtain ⟨i, hi, e⟩ := List.getElem_of_mem hb
        have e1 : fs[i]? = some bs := by rw [← e]; exact List.getElem?_eq_getElem hi
        exact hm i i bs (List.getElem?_range (by omega)) e1
  obtain ⟨fs, ⟨fok, f1, f20⟩, rfl⟩ := hj
  have fokL : FsOk (ss.map D.int).length fs := by rw [hsl]; exact fok
  have fne : fs ≠ [] := fun z => by rw [z] at f1; exact absurd f1 (by decide)
  -- first
  refine seq_gen (fun δ' => ∃ a : Nat, a < ss.length ∧ δ' = [.dat (.raw (.ref sa)), .dat (.raw (.ref r)), .dat (.tup (ss.map D.int)), .dat (.ln (ss.map D.int)), .dat (.int (ss.length : Nat)), .dat (.lst (ps.map prD)), x6, .dat (.int (a : Int)), .dat (.lst ((seatsG ps).map D.int)), .dat (.lst (lds.map D.int)), x10, x11, x12, .dat od, .dat (.int q), .dat (.lst (fs.map rowD)), .un, .un, .un, .un, .un, .un, .un, .un, .un, .un]) (fun N hN => ?_) (fun δ' hj => ?_)
  · simp [startD, wipeD, dsRet, dsRetN, dsIf, dsSeq, dsNext, dsAsg, dsDrop, dsBreak, dsCont, dsPar, dsAug, dsFrz, dsApp, dsExt, dsPut, dsAugO, dsOwn, dsParOO, dsParDO, dsParDDO, dsFrzA, dxRep, diOwn, dsRaise, deAnd, deOr, deNot, de1, de2, deB, deX, dxB, dxLst, deName, deC, deCall, deIxO, deLenO, deTup, deLst, daCons, daNil, daStar, deChain, dtChain, dtV, dtAnd, dtOr, dtNot, dtYes, deIf, deSl, doNone, doSome, rdAdd, rdSub, rdMul, rdMod, rdDiv, rdPow, rdI, rdIc, rdB, rdLt, rdLe, rdGt, rdGe, rdNeg, rdIs, rdEq, rdNe, rdIx, rdIsN, rdNotN, rdIsB, rdNotB, rdRev, rdSeats, rdCatL, rdCatT, rdRepL, rdLen, rdTuple, rdList, rxList, rdInt, rdMax2, rdMin2, dgName, dgTup, dgCons, dgNil, deRefused, rdRepr, rdNeS, rdEqL, rdNeL, rdRepT, rdIsLn, noOwn, diSeq, diEn, diZp, diR1, diR2, noX,  eqOk_int, eqOk_bl, eqOk_non, eqv_int, eqv_bl, eqv_non, atI_0, atI_1, atI_2, atI_3, qty_non, qisI_non, qisB_non, qisL_non, qisU_non, qisS_non, qisD_non, qisNon_non, qcooked_non, qseq_non, qty_bl, qisI_bl, qisB_bl, qisL_bl, qisU_bl, qisS_bl, qisD_bl, qisNon_bl, qcooked_bl, qseq_bl, qty_int, qisI_int, qisB_int, qisL_int, qisU_int, qisS_int, qisD_int, qisNon_int, qcooked_int, qseq_int, qty_str, qisI_str, qisB_str, qisL_str, qisU_str, qisS_str, qisD_str, qisNon_str, qcooked_str, qseq_str, qty_lst, qisI_lst, qisB_lst, qisL_lst, qisU_lst, qisS_lst, qisD_lst, qisNon_lst, qcooked_lst, qseq_lst, qty_tup, qisI_tup, qisB_tup, qisL_tup, qisU_tup, qisS_tup, qisD_tup, qisNon_tup, qcooked_tup, qseq_tup, qty_dct, qisI_dct, qisB_dct, qisL_dct, qisU_dct, qisS_dct, qisD_dct, qisNon_dct, qcooked_dct, qseq_dct, qix_lst, qsl_lst, qix_tup, qsl_tup, qisNon_ln, qcooked_ln, and_assoc, exists_and_left, exists_eq_left, exists_eq_left', exists_eq_right, dxLc_eq, dsFor_eq, rngD_0, rngD_eq, zipD_map, enumD_map0, sp__law_taken]
    refine ⟨⟨sa, hrow⟩, by omega, by omega, fun n h0 h1 => ?_⟩
    obtain ⟨k, rfl⟩ := Int.eq_ofNat_of_zero_le h0
    exact hN _ ⟨k, by omega, rfl⟩
  obtain ⟨a, ha, rfl⟩ := hj
  -- end
  refine seq_gen (fun δ' => ∃ e : Nat, (a < e ∧ e ≤ ss.length) ∧ δ' = [.dat (.raw (.ref sa)), .dat (.raw (.ref r)), .dat (.tup (ss.map D.int)), .dat (.ln (ss.map D.int)), .dat (.int (ss.length : Nat)), .dat (.lst (ps.map prD)), x6, .dat (.int (a : Int)), .dat (.lst ((seatsG ps).map D.int)), .dat (.lst (lds.map D.int)), x10, x11, x12, .dat od, .dat (.int q), .dat (.lst (fs.map rowD)), .dat (.int (e : Int)), .un, .un, .un, .un, .un, .un, .un, .un, .un]) (fun N hN => ?_) (fun δ' hj => ?_)
  · simp [startD, wipeD, dsRet, dsRetN, dsIf, dsSeq, dsNext, dsAsg, dsDrop, dsBreak, dsCont, dsPar, dsAug, dsFrz, dsApp, dsExt, dsPut, dsAugO, dsOwn, dsParOO, dsParDO, dsParDDO, dsFrzA, dxRep, diOwn, dsRaise, deAnd, deOr, deNot, de1, de2, deB, deX, dxB, dxLst, deName, deC, deCall, deIxO, deLenO, deTup, deLst, daCons, daNil, daStar, deChain, dtChain, dtV, dtAnd, dtOr, dtNot, dtYes, deIf, deSl, doNone, doSome, rdAdd, rdSub, rdMul, rdMod, rdDiv, rdPow, rdI, rdIc, rdB, rdLt, rdLe, rdGt, rdGe, rdNeg, rdIs, rdEq, rdNe, rdIx, rdIsN, rdNotN, rdIsB, rdNotB, rdRev, rdSeats, rdCatL, rdCatT, rdRepL, rdLen, rdTuple, rdList, rxList, rdInt, rdMax2, rdMin2, dgName, dgTup, dgCons, dgNil, deRefused, rdRepr, rdNeS, rdEqL, rdNeL, rdRepT, rdIsLn, noOwn, diSeq, diEn, diZp, diR1, diR2, noX,  eqOk_int, eqOk_bl, eqOk_non, eqv_int, eqv_bl, eqv_non, atI_0, atI_1, atI_2, atI_3, qty_non, qisI_non, qisB_non, qisL_non, qisU_non, qisS_non, qisD_non, qisNon_non, qcooked_non, qseq_non, qty_bl, qisI_bl, qisB_bl, qisL_bl, qisU_bl, qisS_bl, qisD_bl, qisNon_bl, qcooked_bl, qseq_bl, qty_int, qisI_int, qisB_int, qisL_int, qisU_int, qisS_int, qisD_int, qisNon_int, qcooked_int, qseq_int, qty_str, qisI_str, qisB_str, qisL_str, qisU_str, qisS_str, qisD_str, qisNon_str, qcooked_str, qseq_str, qty_lst, qisI_lst, qisB_lst, qisL_lst, qisU_lst, qisS_lst, qisD_lst, qisNon_lst, qcooked_lst, qseq_lst, qty_tup, qisI_tup, qisB_tup, qisL_tup, qisU_tup, qisS_tup, qisD_tup, qisNon_tup, qcooked_tup, qseq_tup, qty_dct, qisI_dct, qisB_dct, qisL_dct, qisU_dct, qisS_dct, qisD_dct, qisNon_dct, qcooked_dct, qseq_dct, qix_lst, qsl_lst, qix_tup, qsl_tup, qisNon_ln, qcooked_ln, and_assoc, exists_and_left, exists_eq_left, exists_eq_left', exists_eq_right, dxLc_eq, dsFor_eq, rngD_0, rngD_eq, zipD_map, enumD_map0, sp__law_taken]
    refine ⟨⟨sa, hrow⟩, by omega, by omega, fun n h0 h1 => ?_⟩
    obtain ⟨k, rfl⟩ := Int.eq_ofNat_of_zero_le h0
    exact hN _ ⟨a + 1 + k, ⟨by omega, by omega⟩, by rw [show ((a + 1 + k : Nat) : Int) = (a : Int) + 1 + (k : Int) by omega]⟩
  obtain ⟨e, ⟨hae, hen⟩, rfl⟩ := hj
  have fle : ∀ bs ∈ fs, e ≤ bs.length := fun bs hb => by rw [fok bs hb]; exact hen
  have henL : e ≤ (ss.map D.int).length := by rw [hsl]; exact hen
  have n2L : (ss.map D.int).length ≤ 10 := by rw [hsl]; exact n2
  obtain ⟨W, hW⟩ : ∃ W, W = walkG fs e (e - a) a [] := ⟨_, rfl⟩
  obtain ⟨Fw, hFw⟩ : ∃ Fw, Fw = fewestN fs a e := ⟨_, rfl⟩
  have hWF := walk_fewest fne hae
  rw [← hW, ← hFw] at hWF
  have hWok : ∀ ws, W = some ws → ws.length = e - a ∧ isWalkB fs a e (.lst (ws.map .int)) = true := fun ws h => by
    rw [hW] at h
    exact walkG_B fne (by omega) h
  -- walk, fewest
  refine seq_gen (fun δ' => δ' = [.dat (.raw (.ref sa)), .dat (.raw (.ref r)), .dat (.tup (ss.map D.int)), .dat (.ln (ss.map D.int)), .dat (.int (ss.length : Nat)), .dat (.lst (ps.map prD)), x6, .dat (.int (a : Int)), .dat (.lst ((seatsG ps).map D.int)), .dat (.lst (lds.map D.int)), x10, x11, x12, .dat od, .dat (.int q), .dat (.lst (fs.map rowD)), .dat (.int (e : Int)), .dat (optD W), .dat (optN Fw), .un, .un, .un, .un, .un, .un, .un]) (fun N hN => ?_) (fun δ' hj => ?_)
  · simp [startD, wipeD, dsRet, dsRetN, dsIf, dsSeq, dsNext, dsAsg, dsDrop, dsBreak, dsCont, dsPar, dsAug, dsFrz, dsApp, dsExt, dsPut, dsAugO, dsOwn, dsParOO, dsParDO, dsParDDO, dsFrzA, dxRep, diOwn, dsRaise, deAnd, deOr, deNot, de1, de2, deB, deX, dxB, dxLst, deName, deC, deCall, deIxO, deLenO, deTup, deLst, daCons, daNil, daStar, deChain, dtChain, dtV, dtAnd, dtOr, dtNot, dtYes, deIf, deSl, doNone, doSome, rdAdd, rdSub, rdMul, rdMod, rdDiv, rdPow, rdI, rdIc, rdB, rdLt, rdLe, rdGt, rdGe, rdNeg, rdIs, rdEq, rdNe, rdIx, rdIsN, rdNotN, rdIsB, rdNotB, rdRev, rdSeats, rdCatL, rdCatT, rdRepL, rdLen, rdTuple, rdList, rxList, rdInt, rdMax2, rdMin2, dgName, dgTup, dgCons, dgNil, deRefused, rdRepr, rdNeS, rdEqL, rdNeL, rdRepT, rdIsLn, noOwn, diSeq, diEn, diZp, diR1, diR2, noX,  eqOk_int, eqOk_bl, eqOk_non, eqv_int, eqv_bl, eqv_non, atI_0, atI_1, atI_2, atI_3, qty_non, qisI_non, qisB_non, qisL_non, qisU_non, qisS_non, qisD_non, qisNon_non, qcooked_non, qseq_non, qty_bl, qisI_bl, qisB_bl, qisL_bl, qisU_bl, qisS_bl, qisD_bl, qisNon_bl, qcooked_bl, qseq_bl, qty_int, qisI_int, qisB_int, qisL_int, qisU_int, qisS_int, qisD_int, qisNon_int, qcooked_int, qseq_int, qty_str, qisI_str, qisB_str, qisL_str, qisU_str, qisS_str, qisD_str, qisNon_str, qcooked_str, qseq_str, qty_lst, qisI_lst, qisB_lst, qisL_lst, qisU_lst, qisS_lst, qisD_lst, qisNon_lst, qcooked_lst, qseq_lst, qty_tup, qisI_tup, qisB_tup, qisL_tup, qisU_tup, qisS_tup, qisD_tup, qisNon_tup, qcooked_tup, qseq_tup, qty_dct, qisI_dct, qisB_dct, qisL_dct, qisU_dct, qisS_dct, qisD_dct, qisNon_dct, qcooked_dct, qseq_dct, qix_lst, qsl_lst, qix_tup, qsl_tup, qisNon_ln, qcooked_ln, and_assoc, exists_and_left, exists_eq_left, exists_eq_left', exists_eq_right, dxLc_eq, dsFor_eq, rngD_0, rngD_eq, zipD_map, enumD_map0]
    refine both_of (okv_lst okv_rows) rfl fokL f1 f20 n2L hae henL ?_
    refine ⟨_, fs, a, e, rfl, rfl, by omega, fle, hae, by omega, ?_⟩
    rw [← hW, ← hFw]
    exact hN _ rfl
  subst hj
  -- alike
  have hkW : (optD W).alk 6 = true := by
    cases W with
    | none => rfl
    | some ws => exact alk_ints ws (by have := (hWok ws rfl).1; omega)
  have hkF : (optN Fw).alk 6 = true := by
    cases Fw with
    | none => rfl
    | some n => exact alk_int
  have hcnt : ∀ a', cntD a' W = optN Fw := fun a' => by
    cases W with
    | none =>
      have h : Fw = none := hWF
      rw [h]
      rfl
    | some ws =>
      have h : Fw = some (chg ws) := hWF
      rw [h]
      show D.int ((changesN ws a').length : Nat) = .int (chg ws : Nat)
      rw [changes_len]
  have hnon : (optD W).isNon = (optN Fw).isNon := by
    cases W with
    | none =>
      have h : Fw = none := hWF
      rw [h]
      rfl
    | some ws =>
      have h : Fw = some (chg ws) := hWF
      rw [h]
      rfl
  have hckW : (optD W).cooked = true := by cases W <;> rfl
  have hckF : (optN Fw).cooked = true := by cases Fw <;> rfl
  refine seq_gen (fun δ' => δ' = [.dat (.raw (.ref sa)), .dat (.raw (.ref r)), .dat (.tup (ss.map D.int)), .dat (.ln (ss.map D.int)), .dat (.int (ss.length : Nat)), .dat (.lst (ps.map prD)), x6, .dat (.int (a : Int)), .dat (.lst ((seatsG ps).map D.int)), .dat (.lst (lds.map D.int)), x10, x11, x12, .dat od, .dat (.int q), .dat (.lst (fs.map rowD)), .dat (.int (e : Int)), .dat (optD W), .dat (optN Fw), .un, .un, .un, .un, .un, .un, .un]) (fun N hN => ?_) (fun δ' hj => ?_)
  · simp [startD, wipeD, dsRet, dsRetN, dsIf, dsSeq, dsNext, dsAsg, dsDrop, dsBreak, dsCont, dsPar, dsAug, dsFrz, dsApp, dsExt, dsPut, dsAugO, dsOwn, dsParOO, dsParDO, dsParDDO, dsFrzA, dxRep, diOwn, dsRaise, deAnd, deOr, deNot, de1, de2, deB, deX, dxB, dxLst, deName, deC, deCall, deIxO, deLenO, deTup, deLst, daCons, daNil, daStar, deChain, dtChain, dtV, dtAnd, dtOr, dtNot, dtYes, deIf, deSl, doNone, doSome, rdAdd, rdSub, rdMul, rdMod, rdDiv, rdPow, rdI, rdIc, rdB, rdLt, rdLe, rdGt, rdGe, rdNeg, rdIs, rdEq, rdNe, rdIx, rdIsN, rdNotN, rdIsB, rdNotB, rdRev, rdSeats, rdCatL, rdCatT, rdRepL, rdLen, rdTuple, rdList, rxList, rdInt, rdMax2, rdMin2, dgName, dgTup, dgCons, dgNil, deRefused, rdRepr, rdNeS, rdEqL, rdNeL, rdRepT, rdIsLn, noOwn, diSeq, diEn, diZp, diR1, diR2, noX,  eqOk_int, eqOk_bl, eqOk_non, eqv_int, eqv_bl, eqv_non, atI_0, atI_1, atI_2, atI_3, qty_non, qisI_non, qisB_non, qisL_non, qisU_non, qisS_non, qisD_non, qisNon_non, qcooked_non, qseq_non, qty_bl, qisI_bl, qisB_bl, qisL_bl, qisU_bl, qisS_bl, qisD_bl, qisNon_bl, qcooked_bl, qseq_bl, qty_int, qisI_int, qisB_int, qisL_int, qisU_int, qisS_int, qisD_int, qisNon_int, qcooked_int, qseq_int, qty_str, qisI_str, qisB_str, qisL_str, qisU_str, qisS_str, qisD_str, qisNon_str, qcooked_str, qseq_str, qty_lst, qisI_lst, qisB_lst, qisL_lst, qisU_lst, qisS_lst, qisD_lst, qisNon_lst, qcooked_lst, qseq_lst, qty_tup, qisI_tup, qisB_tup, qisL_tup, qisU_tup, qisS_tup, qisD_tup, qisNon_tup, qcooked_tup, qseq_tup, qty_dct, qisI_dct, qisB_dct, qisL_dct, qisU_dct, qisS_dct, qisD_dct, qisNon_dct, qcooked_dct, qseq_dct, qix_lst, qsl_lst, qix_tup, qsl_tup, qisNon_ln, qcooked_ln, and_assoc, exists_and_left, exists_eq_left, exists_eq_left', exists_eq_right, dxLc_eq, dsFor_eq, rngD_0, rngD_eq, zipD_map, enumD_map0]
    refine ⟨_, fs, a, e, rfl, rfl, fne, by omega, fle, by omega, by omega, by omega, ?_⟩
    rw [← hW]
    refine alike_i hkW ⟨rfl, ?_⟩
    refine both_of (okv_lst okv_rows) rfl fokL f1 f20 n2L hae henL (fun a' ea => ?_)
    rw [← hW, hcnt]
    exact alike_i hkF ⟨rfl, hckW, hckF, hnon, hN _ rfl⟩
  subst hj
  -- changes
  refine seq_gen (fun δ' => δ' = [.dat (.raw (.ref sa)), .dat (.raw (.ref r)), .dat (.tup (ss.map D.int)), .dat (.ln (ss.map D.int)), .dat (.int (ss.length : Nat)), .dat (.lst (ps.map prD)), x6, .dat (.int (a : Int)), .dat (.lst ((seatsG ps).map D.int)), .dat (.lst (lds.map D.int)), x10, x11, x12, .dat od, .dat (.int q), .dat (.lst (fs.map rowD)), .dat (.int (e : Int)), .dat (optD W), .dat (optN Fw), .dat (chgD (a : Int) W), .un, .un, .un, .un, .un, .un]) (fun N hN => ?_) (fun δ' hj => ?_)
  · simp [startD, wipeD, dsRet, dsRetN, dsIf, dsSeq, dsNext, dsAsg, dsDrop, dsBreak, dsCont, dsPar, dsAug, dsFrz, dsApp, dsExt, dsPut, dsAugO, dsOwn, dsParOO, dsParDO, dsParDDO, dsFrzA, dxRep, diOwn, dsRaise, deAnd, deOr, deNot, de1, de2, deB, deX, dxB, dxLst, deName, deC, deCall, deIxO, deLenO, deTup, deLst, daCons, daNil, daStar, deChain, dtChain, dtV, dtAnd, dtOr, dtNot, dtYes, deIf, deSl, doNone, doSome, rdAdd, rdSub, rdMul, rdMod, rdDiv, rdPow, rdI, rdIc, rdB, rdLt, rdLe, rdGt, rdGe, rdNeg, rdIs, rdEq, rdNe, rdIx, rdIsN, rdNotN, rdIsB, rdNotB, rdRev, rdSeats, rdCatL, rdCatT, rdRepL, rdLen, rdTuple, rdList, rxList, rdInt, rdMax2, rdMin2, dgName, dgTup, dgCons, dgNil, deRefused, rdRepr, rdNeS, rdEqL, rdNeL, rdRepT, rdIsLn, noOwn, diSeq, diEn, diZp, diR1, diR2, noX,  eqOk_int, eqOk_bl, eqOk_non, eqv_int, eqv_bl, eqv_non, atI_0, atI_1, atI_2, atI_3, qty_non, qisI_non, qisB_non, qisL_non, qisU_non, qisS_non, qisD_non, qisNon_non, qcooked_non, qseq_non, qty_bl, qisI_bl, qisB_bl, qisL_bl, qisU_bl, qisS_bl, qisD_bl, qisNon_bl, qcooked_bl, qseq_bl, qty_int, qisI_int, qisB_int, qisL_int, qisU_int, qisS_int, qisD_int, qisNon_int, qcooked_int, qseq_int, qty_str, qisI_str, qisB_str, qisL_str, qisU_str, qisS_str, qisD_str, qisNon_str, qcooked_str, qseq_str, qty_lst, qisI_lst, qisB_lst, qisL_lst, qisU_lst, qisS_lst, qisD_lst, qisNon_lst, qcooked_lst, qseq_lst, qty_tup, qisI_tup, qisB_tup, qisL_tup, qisU_tup, qisS_tup, qisD_tup, qisNon_tup, qcooked_tup, qseq_tup, qty_dct, qisI_dct, qisB_dct, qisL_dct, qisU_dct, qisS_dct, qisD_dct, qisNon_dct, qcooked_dct, qseq_dct, qix_lst, qsl_lst, qix_tup, qsl_tup, qisNon_ln, qcooked_ln, and_assoc, exists_and_left, exists_eq_left, exists_eq_left', exists_eq_right, dxLc_eq, dsFor_eq, rngD_0, rngD_eq, zipD_map, enumD_map0]
    refine ⟨hckW, ?_⟩
    cases W with
    | none =>
      rw [if_pos (show (optD none).isNon = true from rfl)]
      exact hN _ rfl
    | some ws =>
      have hwl := (hWok ws rfl).1
      rw [if_neg (fun z : (optD (some ws)).isNon = true => nomatch z)]
      refine ⟨_, rfl, by simp; omega, ?_⟩
      rw [List.length_map]
      refine lb_onF (List.range (ws.length - 1)) (fun k => .int ((a : Int) + (1 + (k : Int)))) (fun k => ws[k + 1]? != ws[k]?) (by simp; omega) (fun k hk R1 R2 k1 k2 => ?_) ?_
      · have hk' := List.mem_range.mp hk
        have g1 := List.getElem?_eq_getElem (show k + 1 < ws.length by omega)
        have g2 := List.getElem?_eq_getElem (show k < ws.length by omega)
        have e1 : (1 + (k : Int)) = ((k + 1 : Nat) : Int) := by omega
        have e2 : ((k + 1 : Nat) : Int) - 1 = (k : Int) := by omega
        have e3 : atI (ws.map D.int) ((k : Int) + 1) = some (.int ws[k + 1]) := by
          rw [show (k : Int) + 1 = ((k + 1 : Nat) : Int) by omega, atI_nat', List.getElem?_map, g1]
          rfl
        simp only [g1, g2] at k1 k2
        simp [startD, wipeD, dsRet, dsRetN, dsIf, dsSeq, dsNext, dsAsg, dsDrop, dsBreak, dsCont, dsPar, dsAug, dsFrz, dsApp, dsExt, dsPut, dsAugO, dsOwn, dsParOO, dsParDO, dsParDDO, dsFrzA, dxRep, diOwn, dsRaise, deAnd, deOr, deNot, de1, de2, deB, deX, dxB, dxLst, deName, deC, deCall, deIxO, deLenO, deTup, deLst, daCons, daNil, daStar, deChain, dtChain, dtV, dtAnd, dtOr, dtNot, dtYes, deIf, deSl, doNone, doSome, rdAdd, rdSub, rdMul, rdMod, rdDiv, rdPow, rdI, rdIc, rdB, rdLt, rdLe, rdGt, rdGe, rdNeg, rdIs, rdEq, rdNe, rdIx, rdIsN, rdNotN, rdIsB, rdNotB, rdRev, rdSeats, rdCatL, rdCatT, rdRepL, rdLen, rdTuple, rdList, rxList, rdInt, rdMax2, rdMin2, dgName, dgTup, dgCons, dgNil, deRefused, rdRepr, rdNeS, rdEqL, rdNeL, rdRepT, rdIsLn, noOwn, diSeq, diEn, diZp, diR1, diR2, noX,  eqOk_int, eqOk_bl, eqOk_non, eqv_int, eqv_bl, eqv_non, atI_0, atI_1, atI_2, atI_3, qty_non, qisI_non, qisB_non, qisL_non, qisU_non, qisS_non, qisD_non, qisNon_non, qcooked_non, qseq_non, qty_bl, qisI_bl, qisB_bl, qisL_bl, qisU_bl, qisS_bl, qisD_bl, qisNon_bl, qcooked_bl, qseq_bl, qty_int, qisI_int, qisB_int, qisL_int, qisU_int, qisS_int, qisD_int, qisNon_int, qcooked_int, qseq_int, qty_str, qisI_str, qisB_str, qisL_str, qisU_str, qisS_str, qisD_str, qisNon_str, qcooked_str, qseq_str, qty_lst, qisI_lst, qisB_lst, qisL_lst, qisU_lst, qisS_lst, qisD_lst, qisNon_lst, qcooked_lst, qseq_lst, qty_tup, qisI_tup, qisB_tup, qisL_tup, qisU_tup, qisS_tup, qisD_tup, qisNon_tup, qcooked_tup, qseq_tup, qty_dct, qisI_dct, qisB_dct, qisL_dct, qisU_dct, qisS_dct, qisD_dct, qisNon_dct, qcooked_dct, qseq_dct, qix_lst, qsl_lst, qix_tup, qsl_tup, qisNon_ln, qcooked_ln, and_assoc, exists_and_left, exists_eq_left, exists_eq_left', exists_eq_right, dxLc_eq, dsFor_eq, rngD_0, rngD_eq, zipD_map, enumD_map0, optD, e1, e2, atI_nat', g1, g2]
        refine ⟨_, e3, rfl, ?_⟩
        by_cases h : ws[k + 1] = ws[k]
        · exact .inl ⟨by rw [eqv_int]; simp [h], k2 (by simp [h])⟩
        · refine .inr ⟨by rw [eqv_int]; simp [h], ?_⟩
          rw [show (k : Int) + 1 = 1 + (k : Int) by omega]
          exact k1 (by simp [h])
      · have : List.map (fun k : Nat => D.int ((a : Int) + (1 + (k : Int)))) (List.filter (fun k => ws[k + 1]? != ws[k]?) (List.range (ws.length - 1))) = (changesN ws a).map D.int := by simp [changesN, List.map_map]
        rw [this]
        exact hN _ rfl
  subst hj
  -- change_legs
  refine seq_gen (fun δ' => δ' = [.dat (.raw (.ref sa)), .dat (.raw (.ref r)), .dat (.tup (ss.map D.int)), .dat (.ln (ss.map D.int)), .dat (.int (ss.length : Nat)), .dat (.lst (ps.map prD)), x6, .dat (.int (a : Int)), .dat (.lst ((seatsG ps).map D.int)), .dat (.lst (lds.map D.int)), x10, x11, x12, .dat od, .dat (.int q), .dat (.lst (fs.map rowD)), .dat (.int (e : Int)), .dat (optD W), .dat (optN Fw), .dat (chgD (a : Int) W), .un, .un, .un, .un, .un, .un]) (fun N hN => ?_) (fun δ' hj => ?_)
  · simp [startD, wipeD, dsRet, dsRetN, dsIf, dsSeq, dsNext, dsAsg, dsDrop, dsBreak, dsCont, dsPar, dsAug, dsFrz, dsApp, dsExt, dsPut, dsAugO, dsOwn, dsParOO, dsParDO, dsParDDO, dsFrzA, dxRep, diOwn, dsRaise, deAnd, deOr, deNot, de1, de2, deB, deX, dxB, dxLst, deName, deC, deCall, deIxO, deLenO, deTup, deLst, daCons, daNil, daStar, deChain, dtChain, dtV, dtAnd, dtOr, dtNot, dtYes, deIf, deSl, doNone, doSome, rdAdd, rdSub, rdMul, rdMod, rdDiv, rdPow, rdI, rdIc, rdB, rdLt, rdLe, rdGt, rdGe, rdNeg, rdIs, rdEq, rdNe, rdIx, rdIsN, rdNotN, rdIsB, rdNotB, rdRev, rdSeats, rdCatL, rdCatT, rdRepL, rdLen, rdTuple, rdList, rxList, rdInt, rdMax2, rdMin2, dgName, dgTup, dgCons, dgNil, deRefused, rdRepr, rdNeS, rdEqL, rdNeL, rdRepT, rdIsLn, noOwn, diSeq, diEn, diZp, diR1, diR2, noX,  eqOk_int, eqOk_bl, eqOk_non, eqv_int, eqv_bl, eqv_non, atI_0, atI_1, atI_2, atI_3, qty_non, qisI_non, qisB_non, qisL_non, qisU_non, qisS_non, qisD_non, qisNon_non, qcooked_non, qseq_non, qty_bl, qisI_bl, qisB_bl, qisL_bl, qisU_bl, qisS_bl, qisD_bl, qisNon_bl, qcooked_bl, qseq_bl, qty_int, qisI_int, qisB_int, qisL_int, qisU_int, qisS_int, qisD_int, qisNon_int, qcooked_int, qseq_int, qty_str, qisI_str, qisB_str, qisL_str, qisU_str, qisS_str, qisD_str, qisNon_str, qcooked_str, qseq_str, qty_lst, qisI_lst, qisB_lst, qisL_lst, qisU_lst, qisS_lst, qisD_lst, qisNon_lst, qcooked_lst, qseq_lst, qty_tup, qisI_tup, qisB_tup, qisL_tup, qisU_tup, qisS_tup, qisD_tup, qisNon_tup, qcooked_tup, qseq_tup, qty_dct, qisI_dct, qisB_dct, qisL_dct, qisU_dct, qisS_dct, qisD_dct, qisNon_dct, qcooked_dct, qseq_dct, qix_lst, qsl_lst, qix_tup, qsl_tup, qisNon_ln, qcooked_ln, and_assoc, exists_and_left, exists_eq_left, exists_eq_left', exists_eq_right, dxLc_eq, dsFor_eq, rngD_0, rngD_eq, zipD_map, enumD_map0]
    refine both_of (okv_lst okv_rows) rfl fokL f1 f20 n2L hae henL (fun a' ea => ?_)
    cases ea
    rw [← hW]
    have hkC : (chgD (a : Int) W).alk 6 = true := by
      cases W with
      | none => rfl
      | some ws =>
        refine alk_ints _ ?_
        rw [changes_len, ← chg_count]
        have := List.length_filter_le (fun k => ws[k + 1]? != ws[k]?) (List.range (ws.length - 1))
        rw [List.length_range] at this
        have := (hWok ws rfl).1
        omega
    refine alike_i hkC ⟨rfl, hckW, ?_⟩
    cases W with
    | none => exact .inl ⟨rfl, hN _ rfl⟩
    | some ws =>
      have h : Fw = some (chg ws) := hWF
      refine .inr ⟨rfl, _, rfl, ?_, ?_, ?_⟩
      · rw [h]
        rfl
      · rw [h, List.length_map, changes_len]
        show (D.int (chg ws : Nat)).eqv (D.int (chg ws : Nat)) = true
        rw [eqv_int]
        simp
      · refine walk_of (okv_lst okv_rows) rfl fokL f1 f20 n2L hae henL (okv_lst okv_int) (fun ys e => (by cases e; have := (hWok ws rfl).1; simp; omega)) ?_
        show D.bl (isWalkB fs a e (.lst (ws.map .int))) = .bl true ∧ _
        rw [(hWok ws rfl).2]
        exact ⟨rfl, hN _ rfl⟩
  subst hj
  -- walks
  refine seq_gen (fun δ' => ∃ (x10 x20 : Sl) (th : List Int), (th.length = e - a ∧ ∀ s ∈ th, 0 ≤ s ∧ s < fs.length) ∧ δ' = [.dat (.raw (.ref sa)), .dat (.raw (.ref r)), .dat (.tup (ss.map D.int)), .dat (.ln (ss.map D.int)), .dat (.int (ss.length : Nat)), .dat (.lst (ps.map prD)), x6, .dat (.int (a : Int)), .dat (.lst ((seatsG ps).map D.int)), .dat (.lst (lds.map D.int)), x10, x11, .dat (.lst (th.map D.int)), .dat od, .dat (.int q), .dat (.lst (fs.map rowD)), .dat (.int (e : Int)), .dat (optD W), .dat (optN Fw), .dat (chgD (a : Int) W), x20, .un, .un, .un, .un, .un]) (fun N hN => ?_) (fun δ' hj => ?_)
  · simp [startD, wipeD, dsRet, dsRetN, dsIf, dsSeq, dsNext, dsAsg, dsDrop, dsBreak, dsCont, dsPar, dsAug, dsFrz, dsApp, dsExt, dsPut, dsAugO, dsOwn, dsParOO, dsParDO, dsParDDO, dsFrzA, dxRep, diOwn, dsRaise, deAnd, deOr, deNot, de1, de2, deB, deX, dxB, dxLst, deName, deC, deCall, deIxO, deLenO, deTup, deLst, daCons, daNil, daStar, deChain, dtChain, dtV, dtAnd, dtOr, dtNot, dtYes, deIf, deSl, doNone, doSome, rdAdd, rdSub, rdMul, rdMod, rdDiv, rdPow, rdI, rdIc, rdB, rdLt, rdLe, rdGt, rdGe, rdNeg, rdIs, rdEq, rdNe, rdIx, rdIsN, rdNotN, rdIsB, rdNotB, rdRev, rdSeats, rdCatL, rdCatT, rdRepL, rdLen, rdTuple, rdList, rxList, rdInt, rdMax2, rdMin2, dgName, dgTup, dgCons, dgNil, deRefused, rdRepr, rdNeS, rdEqL, rdNeL, rdRepT, rdIsLn, noOwn, diSeq, diEn, diZp, diR1, diR2, noX,  eqOk_int, eqOk_bl, eqOk_non, eqv_int, eqv_bl, eqv_non, atI_0, atI_1, atI_2, atI_3, qty_non, qisI_non, qisB_non, qisL_non, qisU_non, qisS_non, qisD_non, qisNon_non, qcooked_non, qseq_non, qty_bl, qisI_bl, qisB_bl, qisL_bl, qisU_bl, qisS_bl, qisD_bl, qisNon_bl, qcooked_bl, qseq_bl, qty_int, qisI_int, qisB_int, qisL_int, qisU_int, qisS_int, qisD_int, qisNon_int, qcooked_int, qseq_int, qty_str, qisI_str, qisB_str, qisL_str, qisU_str, qisS_str, qisD_str, qisNon_str, qcooked_str, qseq_str, qty_lst, qisI_lst, qisB_lst, qisL_lst, qisU_lst, qisS_lst, qisD_lst, qisNon_lst, qcooked_lst, qseq_lst, qty_tup, qisI_tup, qisB_tup, qisL_tup, qisU_tup, qisS_tup, qisD_tup, qisNon_tup, qcooked_tup, qseq_tup, qty_dct, qisI_dct, qisB_dct, qisL_dct, qisU_dct, qisS_dct, qisD_dct, qisNon_dct, qcooked_dct, qseq_dct, qix_lst, qsl_lst, qix_tup, qsl_tup, qisNon_ln, qcooked_ln, and_assoc, exists_and_left, exists_eq_left, exists_eq_left', exists_eq_right, dxLc_eq, dsFor_eq, rngD_0, rngD_eq, zipD_map, enumD_map0]
    refine fb_on (List.range 3) (fun i δ' => ∃ x10 x12 x20 : Sl, δ' = [.dat (.raw (.ref sa)), .dat (.raw (.ref r)), .dat (.tup (ss.map D.int)), .dat (.ln (ss.map D.int)), .dat (.int (ss.length : Nat)), .dat (.lst (ps.map prD)), x6, .dat (.int (a : Int)), .dat (.lst ((seatsG ps).map D.int)), .dat (.lst (lds.map D.int)), x10, x11, x12, .dat od, .dat (.int q), .dat (.lst (fs.map rowD)), .dat (.int (e : Int)), .dat (optD W), .dat (optN Fw), .dat (chgD (a : Int) W), x20, .un, .un, .un, .un, .un] ∧ (0 < i → ∃ th : List Int, (th.length = e - a ∧ ∀ s ∈ th, 0 ≤ s ∧ s < fs.length) ∧ x12 = .dat (.lst (th.map D.int)))) ⟨_, _, _, rfl, by omega⟩ (fun i x δ' hi hj => ?_) (fun δ' hj => ?_)
    rotate_left
    · obtain ⟨x10, x12, x20, rfl, h⟩ := hj
      obtain ⟨th, hth, rfl⟩ := h (by decide)
      exact hN _ ⟨x10, x20, th, hth, rfl⟩
    obtain ⟨x10, x12, x20, rfl, _⟩ := hj
    show dsSeq _ _ _ [.dat (.raw (.ref sa)), .dat (.raw (.ref r)), .dat (.tup (ss.map D.int)), .dat (.ln (ss.map D.int)), .dat (.int (ss.length : Nat)), .dat (.lst (ps.map prD)), x6, .dat (.int (a : Int)), .dat (.lst ((seatsG ps).map D.int)), .dat (.lst (lds.map D.int)), .dat (.int (x : Int)), x11, x12, .dat od, .dat (.int q), .dat (.lst (fs.map rowD)), .dat (.int (e : Int)), .dat (optD W), .dat (optN Fw), .dat (chgD (a : Int) W), x20, .un, .un, .un, .un, .un]
    refine seq_gen (fun δ' => ∃ th : List Int, (th.length = e - a ∧ ∀ s ∈ th, 0 ≤ s ∧ s < fs.length) ∧ δ' = [.dat (.raw (.ref sa)), .dat (.raw (.ref r)), .dat (.tup (ss.map D.int)), .dat (.ln (ss.map D.int)), .dat (.int (ss.length : Nat)), .dat (.lst (ps.map prD)), x6, .dat (.int (a : Int)), .dat (.lst ((seatsG ps).map D.int)), .dat (.lst (lds.map D.int)), .dat (.int (x : Int)), x11, .dat (.lst (th.map D.int)), .dat od, .dat (.int q), .dat (.lst (fs.map rowD)), .dat (.int (e : Int)), .dat (optD W), .dat (optN Fw), .dat (chgD (a : Int) W), x20, .un, .un, .un, .un, .un]) (fun N2 hN2 => ?_) (fun δ' hj => ?_)
    · simp [startD, wipeD, dsRet, dsRetN, dsIf, dsSeq, dsNext, dsAsg, dsDrop, dsBreak, dsCont, dsPar, dsAug, dsFrz, dsApp, dsExt, dsPut, dsAugO, dsOwn, dsParOO, dsParDO, dsParDDO, dsFrzA, dxRep, diOwn, dsRaise, deAnd, deOr, deNot, de1, de2, deB, deX, dxB, dxLst, deName, deC, deCall, deIxO, deLenO, deTup, deLst, daCons, daNil, daStar, deChain, dtChain, dtV, dtAnd, dtOr, dtNot, dtYes, deIf, deSl, doNone, doSome, rdAdd, rdSub, rdMul, rdMod, rdDiv, rdPow, rdI, rdIc, rdB, rdLt, rdLe, rdGt, rdGe, rdNeg, rdIs, rdEq, rdNe, rdIx, rdIsN, rdNotN, rdIsB, rdNotB, rdRev, rdSeats, rdCatL, rdCatT, rdRepL, rdLen, rdTuple, rdList, rxList, rdInt, rdMax2, rdMin2, dgName, dgTup, dgCons, dgNil, deRefused, rdRepr, rdNeS, rdEqL, rdNeL, rdRepT, rdIsLn, noOwn, diSeq, diEn, diZp, diR1, diR2, noX,  eqOk_int, eqOk_bl, eqOk_non, eqv_int, eqv_bl, eqv_non, atI_0, atI_1, atI_2, atI_3, qty_non, qisI_non, qisB_non, qisL_non, qisU_non, qisS_non, qisD_non, qisNon_non, qcooked_non, qseq_non, qty_bl, qisI_bl, qisB_bl, qisL_bl, qisU_bl, qisS_bl, qisD_bl, qisNon_bl, qcooked_bl, qseq_bl, qty_int, qisI_int, qisB_int, qisL_int, qisU_int, qisS_int, qisD_int, qisNon_int, qcooked_int, qseq_int, qty_str, qisI_str, qisB_str, qisL_str, qisU_str, qisS_str, qisD_str, qisNon_str, qcooked_str, qseq_str, qty_lst, qisI_lst, qisB_lst, qisL_lst, qisU_lst, qisS_lst, qisD_lst, qisNon_lst, qcooked_lst, qseq_lst, qty_tup, qisI_tup, qisB_tup, qisL_tup, qisU_tup, qisS_tup, qisD_tup, qisNon_tup, qcooked_tup, qseq_tup, qty_dct, qisI_dct, qisB_dct, qisL_dct, qisU_dct, qisS_dct, qisD_dct, qisNon_dct, qcooked_dct, qseq_dct, qix_lst, qsl_lst, qix_tup, qsl_tup, qisNon_ln, qcooked_ln, and_assoc, exists_and_left, exists_eq_left, exists_eq_left', exists_eq_right, dxLc_eq, dsFor_eq, rngD_0, rngD_eq, zipD_map, enumD_map0, sp__law_taken]
      refine ⟨by omega, by omega, lb_onA (List.range (e - a)) D.int (fun _ s => 0 ≤ s ∧ s < (fs.length : Int)) (by simp; omega) (fun x hx R hR => ?_) (fun th hl hm => ?_)⟩
      · simp [startD, wipeD, dsRet, dsRetN, dsIf, dsSeq, dsNext, dsAsg, dsDrop, dsBreak, dsCont, dsPar, dsAug, dsFrz, dsApp, dsExt, dsPut, dsAugO, dsOwn, dsParOO, dsParDO, dsParDDO, dsFrzA, dxRep, diOwn, dsRaise, deAnd, deOr, deNot, de1, de2, deB, deX, dxB, dxLst, deName, deC, deCall, deIxO, deLenO, deTup, deLst, daCons, daNil, daStar, deChain, dtChain, dtV, dtAnd, dtOr, dtNot, dtYes, deIf, deSl, doNone, doSome, rdAdd, rdSub, rdMul, rdMod, rdDiv, rdPow, rdI, rdIc, rdB, rdLt, rdLe, rdGt, rdGe, rdNeg, rdIs, rdEq, rdNe, rdIx, rdIsN, rdNotN, rdIsB, rdNotB, rdRev, rdSeats, rdCatL, rdCatT, rdRepL, rdLen, rdTuple, rdList, rxList, rdInt, rdMax2, rdMin2, dgName, dgTup, dgCons, dgNil, deRefused, rdRepr, rdNeS, rdEqL, rdNeL, rdRepT, rdIsLn, noOwn, diSeq, diEn, diZp, diR1, diR2, noX,  eqOk_int, eqOk_bl, eqOk_non, eqv_int, eqv_bl, eqv_non, atI_0, atI_1, atI_2, atI_3, qty_non, qisI_non, qisB_non, qisL_non, qisU_non, qisS_non, qisD_non, qisNon_non, qcooked_non, qseq_non, qty_bl, qisI_bl, qisB_bl, qisL_bl, qisU_bl, qisS_bl, qisD_bl, qisNon_bl, qcooked_bl, qseq_bl, qty_int, qisI_int, qisB_int, qisL_int, qisU_int, qisS_int, qisD_int, qisNon_int, qcooked_int, qseq_int, qty_str, qisI_str, qisB_str, qisL_str, qisU_str, qisS_str, qisD_str, qisNon_str, qcooked_str, qseq_str, qty_lst, qisI_lst, qisB_lst, qisL_lst, qisU_lst, qisS_lst, qisD_lst, qisNon_lst, qcooked_lst, qseq_lst, qty_tup, qisI_tup, qisB_tup, qisL_tup, qisU_tup, qisS_tup, qisD_tup, qisNon_tup, qcooked_tup, qseq_tup, qty_dct, qisI_dct, qisB_dct, qisL_dct, qisU_dct, qisS_dct, qisD_dct, qisNon_dct, qcooked_dct, qseq_dct, qix_lst, qsl_lst, qix_tup, qsl_tup, qisNon_ln, qcooked_ln, and_assoc, exists_and_left, exists_eq_left, exists_eq_left', exists_eq_right, dxLc_eq, dsFor_eq, rngD_0, rngD_eq, zipD_map, enumD_map0, sp__law_taken]
        exact ⟨⟨sa, hrow⟩, by omega, by omega, fun n h0 h1 => hR _ ⟨h0, h1⟩⟩
      · rw [List.length_range] at hl
        refine hN2 _ ⟨th, ⟨hl, fun s hs => ?_⟩, rfl⟩
        obtain ⟨i, hi, e1⟩ := List.getElem_of_mem hs
        exact hm i i s (List.getElem?_range (by omega)) (by rw [← e1]; exact List.getElem?_eq_getElem hi)
    obtain ⟨th, ⟨tl, tin⟩, rfl⟩ := hj
    refine seq_gen (fun δ' => δ' = [.dat (.raw (.ref sa)), .dat (.raw (.ref r)), .dat (.tup (ss.map D.int)), .dat (.ln (ss.map D.int)), .dat (.int (ss.length : Nat)), .dat (.lst (ps.map prD)), x6, .dat (.int (a : Int)), .dat (.lst ((seatsG ps).map D.int)), .dat (.lst (lds.map D.int)), .dat (.int (x : Int)), x11, .dat (.lst (th.map D.int)), .dat od, .dat (.int q), .dat (.lst (fs.map rowD)), .dat (.int (e : Int)), .dat (optD W), .dat (optN Fw), .dat (chgD (a : Int) W), .dat (.bl (isWalkB fs a e (.tup (th.map D.int)))), .un, .un, .un, .un, .un]) (fun N2 hN2 => ?_) (fun δ' hj => ?_)
    · simp [startD, wipeD, dsRet, dsRetN, dsIf, dsSeq, dsNext, dsAsg, dsDrop, dsBreak, dsCont, dsPar, dsAug, dsFrz, dsApp, dsExt, dsPut, dsAugO, dsOwn, dsParOO, dsParDO, dsParDDO, dsFrzA, dxRep, diOwn, dsRaise, deAnd, deOr, deNot, de1, de2, deB, deX, dxB, dxLst, deName, deC, deCall, deIxO, deLenO, deTup, deLst, daCons, daNil, daStar, deChain, dtChain, dtV, dtAnd, dtOr, dtNot, dtYes, deIf, deSl, doNone, doSome, rdAdd, rdSub, rdMul, rdMod, rdDiv, rdPow, rdI, rdIc, rdB, rdLt, rdLe, rdGt, rdGe, rdNeg, rdIs, rdEq, rdNe, rdIx, rdIsN, rdNotN, rdIsB, rdNotB, rdRev, rdSeats, rdCatL, rdCatT, rdRepL, rdLen, rdTuple, rdList, rxList, rdInt, rdMax2, rdMin2, dgName, dgTup, dgCons, dgNil, deRefused, rdRepr, rdNeS, rdEqL, rdNeL, rdRepT, rdIsLn, noOwn, diSeq, diEn, diZp, diR1, diR2, noX,  eqOk_int, eqOk_bl, eqOk_non, eqv_int, eqv_bl, eqv_non, atI_0, atI_1, atI_2, atI_3, qty_non, qisI_non, qisB_non, qisL_non, qisU_non, qisS_non, qisD_non, qisNon_non, qcooked_non, qseq_non, qty_bl, qisI_bl, qisB_bl, qisL_bl, qisU_bl, qisS_bl, qisD_bl, qisNon_bl, qcooked_bl, qseq_bl, qty_int, qisI_int, qisB_int, qisL_int, qisU_int, qisS_int, qisD_int, qisNon_int, qcooked_int, qseq_int, qty_str, qisI_str, qisB_str, qisL_str, qisU_str, qisS_str, qisD_str, qisNon_str, qcooked_str, qseq_str, qty_lst, qisI_lst, qisB_lst, qisL_lst, qisU_lst, qisS_lst, qisD_lst, qisNon_lst, qcooked_lst, qseq_lst, qty_tup, qisI_tup, qisB_tup, qisL_tup, qisU_tup, qisS_tup, qisD_tup, qisNon_tup, qcooked_tup, qseq_tup, qty_dct, qisI_dct, qisB_dct, qisL_dct, qisU_dct, qisS_dct, qisD_dct, qisNon_dct, qcooked_dct, qseq_dct, qix_lst, qsl_lst, qix_tup, qsl_tup, qisNon_ln, qcooked_ln, and_assoc, exists_and_left, exists_eq_left, exists_eq_left', exists_eq_right, dxLc_eq, dsFor_eq, rngD_0, rngD_eq, zipD_map, enumD_map0]
      refine ⟨by omega, by omega, lb_onF (List.range (e - a)) (fun k : Nat => .int ((a : Int) + (k : Int))) (fun k => !goodAt fs a th k) (by simp; omega) (fun k hk R1 R2 k1 k2 => ?_) ?_⟩
      · have hk' := List.mem_range.mp hk
        obtain ⟨j, bs, b, h1, h2, h3, h4, _⟩ := step_good tl tin fok hen hk'
        have e2 : (a : Int) + (k : Int) - (a : Int) = (k : Int) := by omega
        have e3 : atI (bs.map D.bl) ((a : Int) + (k : Int)) = some (.bl b) := by
          rw [show (a : Int) + (k : Int) = ((a + k : Nat) : Int) by omega, atI_nat', List.getElem?_map, h3]
          rfl
        rw [h4] at k1 k2
        simp [startD, wipeD, dsRet, dsRetN, dsIf, dsSeq, dsNext, dsAsg, dsDrop, dsBreak, dsCont, dsPar, dsAug, dsFrz, dsApp, dsExt, dsPut, dsAugO, dsOwn, dsParOO, dsParDO, dsParDDO, dsFrzA, dxRep, diOwn, dsRaise, deAnd, deOr, deNot, de1, de2, deB, deX, dxB, dxLst, deName, deC, deCall, deIxO, deLenO, deTup, deLst, daCons, daNil, daStar, deChain, dtChain, dtV, dtAnd, dtOr, dtNot, dtYes, deIf, deSl, doNone, doSome, rdAdd, rdSub, rdMul, rdMod, rdDiv, rdPow, rdI, rdIc, rdB, rdLt, rdLe, rdGt, rdGe, rdNeg, rdIs, rdEq, rdNe, rdIx, rdIsN, rdNotN, rdIsB, rdNotB, rdRev, rdSeats, rdCatL, rdCatT, rdRepL, rdLen, rdTuple, rdList, rxList, rdInt, rdMax2, rdMin2, dgName, dgTup, dgCons, dgNil, deRefused, rdRepr, rdNeS, rdEqL, rdNeL, rdRepT, rdIsLn, noOwn, diSeq, diEn, diZp, diR1, diR2, noX,  eqOk_int, eqOk_bl, eqOk_non, eqv_int, eqv_bl, eqv_non, atI_0, atI_1, atI_2, atI_3, qty_non, qisI_non, qisB_non, qisL_non, qisU_non, qisS_non, qisD_non, qisNon_non, qcooked_non, qseq_non, qty_bl, qisI_bl, qisB_bl, qisL_bl, qisU_bl, qisS_bl, qisD_bl, qisNon_bl, qcooked_bl, qseq_bl, qty_int, qisI_int, qisB_int, qisL_int, qisU_int, qisS_int, qisD_int, qisNon_int, qcooked_int, qseq_int, qty_str, qisI_str, qisB_str, qisL_str, qisU_str, qisS_str, qisD_str, qisNon_str, qcooked_str, qseq_str, qty_lst, qisI_lst, qisB_lst, qisL_lst, qisU_lst, qisS_lst, qisD_lst, qisNon_lst, qcooked_lst, qseq_lst, qty_tup, qisI_tup, qisB_tup, qisL_tup, qisU_tup, qisS_tup, qisD_tup, qisNon_tup, qcooked_tup, qseq_tup, qty_dct, qisI_dct, qisB_dct, qisL_dct, qisU_dct, qisS_dct, qisD_dct, qisNon_dct, qcooked_dct, qseq_dct, qix_lst, qsl_lst, qix_tup, qsl_tup, qisNon_ln, qcooked_ln, and_assoc, exists_and_left, exists_eq_left, exists_eq_left', exists_eq_right, dxLc_eq, dsFor_eq, rngD_0, rngD_eq, zipD_map, enumD_map0, e2, atI_nat', h1, h2, rowD]
        refine ⟨_, e3, ?_⟩
        cases b with
        | false => exact .inl ⟨rfl, k1 rfl⟩
        | true => exact .inr ⟨rfl, k2 rfl⟩
      · refine ⟨eqOk_fit (n := 1) (by rw [fit_lst]; simp [fit_int]), eqOk_lst0, ?_⟩
        rw [eqv_lst0, ← walkB_good _ tl tin fok hen]
        exact hN2 _ rfl
    subst hj
    simp [startD, wipeD, dsRet, dsRetN, dsIf, dsSeq, dsNext, dsAsg, dsDrop, dsBreak, dsCont, dsPar, dsAug, dsFrz, dsApp, dsExt, dsPut, dsAugO, dsOwn, dsParOO, dsParDO, dsParDDO, dsFrzA, dxRep, diOwn, dsRaise, deAnd, deOr, deNot, de1, de2, deB, deX, dxB, dxLst, deName, deC, deCall, deIxO, deLenO, deTup, deLst, daCons, daNil, daStar, deChain, dtChain, dtV, dtAnd, dtOr, dtNot, dtYes, deIf, deSl, doNone, doSome, rdAdd, rdSub, rdMul, rdMod, rdDiv, rdPow, rdI, rdIc, rdB, rdLt, rdLe, rdGt, rdGe, rdNeg, rdIs, rdEq, rdNe, rdIx, rdIsN, rdNotN, rdIsB, rdNotB, rdRev, rdSeats, rdCatL, rdCatT, rdRepL, rdLen, rdTuple, rdList, rxList, rdInt, rdMax2, rdMin2, dgName, dgTup, dgCons, dgNil, deRefused, rdRepr, rdNeS, rdEqL, rdNeL, rdRepT, rdIsLn, noOwn, diSeq, diEn, diZp, diR1, diR2, noX,  eqOk_int, eqOk_bl, eqOk_non, eqv_int, eqv_bl, eqv_non, atI_0, atI_1, atI_2, atI_3, qty_non, qisI_non, qisB_non, qisL_non, qisU_non, qisS_non, qisD_non, qisNon_non, qcooked_non, qseq_non, qty_bl, qisI_bl, qisB_bl, qisL_bl, qisU_bl, qisS_bl, qisD_bl, qisNon_bl, qcooked_bl, qseq_bl, qty_int, qisI_int, qisB_int, qisL_int, qisU_int, qisS_int, qisD_int, qisNon_int, qcooked_int, qseq_int, qty_str, qisI_str, qisB_str, qisL_str, qisU_str, qisS_str, qisD_str, qisNon_str, qcooked_str, qseq_str, qty_lst, qisI_lst, qisB_lst, qisL_lst, qisU_lst, qisS_lst, qisD_lst, qisNon_lst, qcooked_lst, qseq_lst, qty_tup, qisI_tup, qisB_tup, qisL_tup, qisU_tup, qisS_tup, qisD_tup, qisNon_tup, qcooked_tup, qseq_tup, qty_dct, qisI_dct, qisB_dct, qisL_dct, qisU_dct, qisS_dct, qisD_dct, qisNon_dct, qcooked_dct, qseq_dct, qix_lst, qsl_lst, qix_tup, qsl_tup, qisNon_ln, qcooked_ln, and_assoc, exists_and_left, exists_eq_left, exists_eq_left', exists_eq_right, dxLc_eq, dsFor_eq, rngD_0, rngD_eq, zipD_map, enumD_map0]
    refine walk_of (okv_tup okv_rows) rfl fokL f1 f20 n2L hae henL (okv_tup okv_int) (fun ys e => (by cases e; simp; omega)) ?_
    exact alike_i alk_bl ⟨rfl, th, tl, tin, rfl⟩
  obtain ⟨x10, x20, th, ⟨tl, tin⟩, rfl⟩ := hj
  -- odd walk
  refine seq_gen (fun δ' => δ' = [.dat (.raw (.ref sa)), .dat (.raw (.ref r)), .dat (.tup (ss.map D.int)), .dat (.ln (ss.map D.int)), .dat (.int (ss.length : Nat)), .dat (.lst (ps.map prD)), x6, .dat (.int (a : Int)), .dat (.lst ((seatsG ps).map D.int)), .dat (.lst (lds.map D.int)), x10, x11, .dat (.lst (th.map D.int)), .dat od, .dat (.int q), .dat (.lst (fs.map rowD)), .dat (.int (e : Int)), .dat (optD W), .dat (optN Fw), .dat (chgD (a : Int) W), x20, .un, .un, .un, .un, .un]) (fun N hN => ?_) (fun δ' hj => ?_)
  · simp [startD, wipeD, dsRet, dsRetN, dsIf, dsSeq, dsNext, dsAsg, dsDrop, dsBreak, dsCont, dsPar, dsAug, dsFrz, dsApp, dsExt, dsPut, dsAugO, dsOwn, dsParOO, dsParDO, dsParDDO, dsFrzA, dxRep, diOwn, dsRaise, deAnd, deOr, deNot, de1, de2, deB, deX, dxB, dxLst, deName, deC, deCall, deIxO, deLenO, deTup, deLst, daCons, daNil, daStar, deChain, dtChain, dtV, dtAnd, dtOr, dtNot, dtYes, deIf, deSl, doNone, doSome, rdAdd, rdSub, rdMul, rdMod, rdDiv, rdPow, rdI, rdIc, rdB, rdLt, rdLe, rdGt, rdGe, rdNeg, rdIs, rdEq, rdNe, rdIx, rdIsN, rdNotN, rdIsB, rdNotB, rdRev, rdSeats, rdCatL, rdCatT, rdRepL, rdLen, rdTuple, rdList, rxList, rdInt, rdMax2, rdMin2, dgName, dgTup, dgCons, dgNil, deRefused, rdRepr, rdNeS, rdEqL, rdNeL, rdRepT, rdIsLn, noOwn, diSeq, diEn, diZp, diR1, diR2, noX,  eqOk_int, eqOk_bl, eqOk_non, eqv_int, eqv_bl, eqv_non, atI_0, atI_1, atI_2, atI_3, qty_non, qisI_non, qisB_non, qisL_non, qisU_non, qisS_non, qisD_non, qisNon_non, qcooked_non, qseq_non, qty_bl, qisI_bl, qisB_bl, qisL_bl, qisU_bl, qisS_bl, qisD_bl, qisNon_bl, qcooked_bl, qseq_bl, qty_int, qisI_int, qisB_int, qisL_int, qisU_int, qisS_int, qisD_int, qisNon_int, qcooked_int, qseq_int, qty_str, qisI_str, qisB_str, qisL_str, qisU_str, qisS_str, qisD_str, qisNon_str, qcooked_str, qseq_str, qty_lst, qisI_lst, qisB_lst, qisL_lst, qisU_lst, qisS_lst, qisD_lst, qisNon_lst, qcooked_lst, qseq_lst, qty_tup, qisI_tup, qisB_tup, qisL_tup, qisU_tup, qisS_tup, qisD_tup, qisNon_tup, qcooked_tup, qseq_tup, qty_dct, qisI_dct, qisB_dct, qisL_dct, qisU_dct, qisS_dct, qisD_dct, qisNon_dct, qcooked_dct, qseq_dct, qix_lst, qsl_lst, qix_tup, qsl_tup, qisNon_ln, qcooked_ln, and_assoc, exists_and_left, exists_eq_left, exists_eq_left', exists_eq_right, dxLc_eq, dsFor_eq, rngD_0, rngD_eq, zipD_map, enumD_map0, sp__law_pick, rep1]
    have key : ∀ od : D, od.okv = true → (∀ ys, od.seq = some ys → ys.length ≤ 1000) → isWalkB fs a e od = false → ∀ {O : Out → Prop}, O (.ret (.bl false)) → sp_is_walk G.F [D.ln (ss.map D.int), D.lst (fs.map rowD), D.int (a : Int), D.int (e : Int), od] O := fun od h1 h2 h3 O o =>
      walk_of (okv_lst okv_rows) rfl fokL f1 f20 n2L hae henL h1 h2 (by rw [h3]; exact o)
    have hs0 : ∀ x : D, isWithin x 0 ((fs.length : Int) - 1) = false → ∀ p, stepOk fs a p x = false := fun x h p => by
      unfold stepOk
      rw [h]
      rfl
    have hn : N [.dat (.raw (.ref sa)), .dat (.raw (.ref r)), .dat (.tup (ss.map D.int)), .dat (.ln (ss.map D.int)), .dat (.int (ss.length : Nat)), .dat (.lst (ps.map prD)), x6, .dat (.int (a : Int)), .dat (.lst ((seatsG ps).map D.int)), .dat (.lst (lds.map D.int)), x10, x11, .dat (.lst (th.map D.int)), .dat od, .dat (.int q), .dat (.lst (fs.map rowD)), .dat (.int (e : Int)), .dat (optD W), .dat (optN Fw), .dat (chgD (a : Int) W), x20, .un, .un, .un, .un, .un] := hN _ rfl
    refine ⟨by omega, by omega, by omega, by omega, by omega, by omega, by omega, ⟨sa, hrow⟩, ?_, ?_, ?_, ?_, ?_⟩
    · exact key .non rfl (fun ys e => nomatch e) rfl ⟨rfl, hn⟩
    · refine key _ (okv_lst (fun y hy => ?_)) (fun ys e => by cases e; simp; omega) ?_ ⟨rfl, hn⟩
      · rcases List.mem_append.mp hy with hy | hy
        · exact okv_int y hy
        · rw [List.mem_singleton.mp hy]
          rfl
      · unfold isWalkB
        show (decide ((List.map D.int th ++ [D.int 0]).length = e - a) && _) = false
        rw [decide_eq_false (by simp; omega)]
        rfl
    · exact key _ (okv_lst (okv_rep rfl)) (fun ys e => by cases e; simp; omega) (odd_walk (by omega) (hs0 _ rfl)) ⟨rfl, hn⟩
    · exact key _ (okv_lst (okv_rep rfl)) (fun ys e => by cases e; simp; omega) (odd_walk (by omega) (hs0 _ (by simp [isWithin]; omega))) ⟨rfl, hn⟩
    · exact key _ (okv_lst (okv_rep rfl)) (fun ys e => by cases e; simp; omega) (odd_walk (by omega) (hs0 _ rfl)) ⟨rfl, hn⟩
  subst hj
  -- bad
  refine seq_gen (fun δ' => ∃ bd : List D, (badPass ss.length (.lst bd) = some ((bd.length : Int) - 1) ∧ (D.lst bd).okv = true) ∧ δ' = [.dat (.raw (.ref sa)), .dat (.raw (.ref r)), .dat (.tup (ss.map D.int)), .dat (.ln (ss.map D.int)), .dat (.int (ss.length : Nat)), .dat (.lst (ps.map prD)), x6, .dat (.int (a : Int)), .dat (.lst ((seatsG ps).map D.int)), .dat (.lst (lds.map D.int)), x10, x11, .dat (.lst (th.map D.int)), .dat od, .dat (.int q), .dat (.lst (fs.map rowD)), .dat (.int (e : Int)), .dat (optD W), .dat (optN Fw), .dat (chgD (a : Int) W), x20, .dat (.lst bd), .un, .un, .un, .un]) (fun N hN => ?_) (fun δ' hj => ?_)
  · have key : ∀ o : D, o.okv = true → isPass ss.length o = false → N [.dat (.raw (.ref sa)), .dat (.raw (.ref r)), .dat (.tup (ss.map D.int)), .dat (.ln (ss.map D.int)), .dat (.int (ss.length : Nat)), .dat (.lst (ps.map prD)), x6, .dat (.int (a : Int)), .dat (.lst ((seatsG ps).map D.int)), .dat (.lst (lds.map D.int)), x10, x11, .dat (.lst (th.map D.int)), .dat od, .dat (.int q), .dat (.lst (fs.map rowD)), .dat (.int (e : Int)), .dat (optD W), .dat (optN Fw), .dat (chgD (a : Int) W), x20, .dat (.lst ((ps.take 39).map prD ++ [o])), .un, .un, .un, .un] := fun o oo1 oo2 => by
      refine hN _ ⟨(ps.take 39).map prD ++ [o], ⟨?_, okv_lst (fun y hy => ?_)⟩, rfl⟩
      · rw [badPass_last (fun q hq => pok q (List.mem_of_mem_take hq)) (by simp; omega) oo2]
        simp
      · rcases List.mem_append.mp hy with hy | hy
        · exact okv_prs y hy
        · rw [List.mem_singleton.mp hy]
          exact oo1
    have c39 : cut (ps.map prD) none (some 39) = (ps.take 39).map prD := by rw [show (39 : Int) = ((39 : Nat) : Int) from rfl, cut_toK, List.map_take]
    rw [List.map_take] at key c39
    simp [startD, wipeD, dsRet, dsRetN, dsIf, dsSeq, dsNext, dsAsg, dsDrop, dsBreak, dsCont, dsPar, dsAug, dsFrz, dsApp, dsExt, dsPut, dsAugO, dsOwn, dsParOO, dsParDO, dsParDDO, dsFrzA, dxRep, diOwn, dsRaise, deAnd, deOr, deNot, de1, de2, deB, deX, dxB, dxLst, deName, deC, deCall, deIxO, deLenO, deTup, deLst, daCons, daNil, daStar, deChain, dtChain, dtV, dtAnd, dtOr, dtNot, dtYes, deIf, deSl, doNone, doSome, rdAdd, rdSub, rdMul, rdMod, rdDiv, rdPow, rdI, rdIc, rdB, rdLt, rdLe, rdGt, rdGe, rdNeg, rdIs, rdEq, rdNe, rdIx, rdIsN, rdNotN, rdIsB, rdNotB, rdRev, rdSeats, rdCatL, rdCatT, rdRepL, rdLen, rdTuple, rdList, rxList, rdInt, rdMax2, rdMin2, dgName, dgTup, dgCons, dgNil, deRefused, rdRepr, rdNeS, rdEqL, rdNeL, rdRepT, rdIsLn, noOwn, diSeq, diEn, diZp, diR1, diR2, noX,  eqOk_int, eqOk_bl, eqOk_non, eqv_int, eqv_bl, eqv_non, atI_0, atI_1, atI_2, atI_3, qty_non, qisI_non, qisB_non, qisL_non, qisU_non, qisS_non, qisD_non, qisNon_non, qcooked_non, qseq_non, qty_bl, qisI_bl, qisB_bl, qisL_bl, qisU_bl, qisS_bl, qisD_bl, qisNon_bl, qcooked_bl, qseq_bl, qty_int, qisI_int, qisB_int, qisL_int, qisU_int, qisS_int, qisD_int, qisNon_int, qcooked_int, qseq_int, qty_str, qisI_str, qisB_str, qisL_str, qisU_str, qisS_str, qisD_str, qisNon_str, qcooked_str, qseq_str, qty_lst, qisI_lst, qisB_lst, qisL_lst, qisU_lst, qisS_lst, qisD_lst, qisNon_lst, qcooked_lst, qseq_lst, qty_tup, qisI_tup, qisB_tup, qisL_tup, qisU_tup, qisS_tup, qisD_tup, qisNon_tup, qcooked_tup, qseq_tup, qty_dct, qisI_dct, qisB_dct, qisL_dct, qisU_dct, qisS_dct, qisD_dct, qisNon_dct, qcooked_dct, qseq_dct, qix_lst, qsl_lst, qix_tup, qsl_tup, qisNon_ln, qcooked_ln, and_assoc, exists_and_left, exists_eq_left, exists_eq_left', exists_eq_right, dxLc_eq, dsFor_eq, rngD_0, rngD_eq, zipD_map, enumD_map0, sp__law_pick, c39]
    refine ⟨⟨sa, hrow⟩, by omega, key _ rfl rfl, by omega, key _ rfl ?_, by omega, key _ rfl ?_, by omega, key _ rfl ?_, by omega, key _ rfl ?_, by omega, key _ rfl ?_, by omega, key _ rfl ?_⟩ <;> first | rfl | (simp [isPass, isWithin]; done) | (simp [isPass, isWithin]; omega)
  obtain ⟨bd, ⟨hbad, hbok⟩, rfl⟩ := hj
  have hbadL : badPass (ss.map D.int).length (.lst bd) = some ((bd.length : Int) - 1) := by rw [hsl]; exact hbad
  have eqP : ∀ i : Int, (D.tup [.str "passengers", .int i]).eqOk = true := fun i => eqOk_fit (n := 1) (by rw [fit_tup]; simp [fit_int]; decide +kernel)
  have eqF : ∀ i : Int, (D.tup [.str "free", .int i]).eqOk = true := fun i => eqOk_fit (n := 1) (by rw [fit_tup]; simp [fit_int]; decide +kernel)
  have eqT : ∀ i j : Int, (D.tup [.str "trip", .tup [.int i, .int j]]).eqOk = true := fun i j => eqOk_fit (n := 2) (by rw [fit_tup]; simp [fit_int, fit_tup]; decide +kernel)
  -- each refuses
  refine seq_gen (fun δ' => ∃ x22, δ' = [.dat (.raw (.ref sa)), .dat (.raw (.ref r)), .dat (.tup (ss.map D.int)), .dat (.ln (ss.map D.int)), .dat (.int (ss.length : Nat)), .dat (.lst (ps.map prD)), x6, .dat (.int (a : Int)), .dat (.lst ((seatsG ps).map D.int)), .dat (.lst (lds.map D.int)), x10, x11, .dat (.lst (th.map D.int)), .dat od, .dat (.int q), .dat (.lst (fs.map rowD)), .dat (.int (e : Int)), .dat (optD W), .dat (optN Fw), .dat (chgD (a : Int) W), x20, .dat (.lst bd), x22, .un, .un, .un]) (fun N hN => ?_) (fun δ' hj => ?_)
  · simp [startD, wipeD, dsRet, dsRetN, dsIf, dsSeq, dsNext, dsAsg, dsDrop, dsBreak, dsCont, dsPar, dsAug, dsFrz, dsApp, dsExt, dsPut, dsAugO, dsOwn, dsParOO, dsParDO, dsParDDO, dsFrzA, dxRep, diOwn, dsRaise, deAnd, deOr, deNot, de1, de2, deB, deX, dxB, dxLst, deName, deC, deCall, deIxO, deLenO, deTup, deLst, daCons, daNil, daStar, deChain, dtChain, dtV, dtAnd, dtOr, dtNot, dtYes, deIf, deSl, doNone, doSome, rdAdd, rdSub, rdMul, rdMod, rdDiv, rdPow, rdI, rdIc, rdB, rdLt, rdLe, rdGt, rdGe, rdNeg, rdIs, rdEq, rdNe, rdIx, rdIsN, rdNotN, rdIsB, rdNotB, rdRev, rdSeats, rdCatL, rdCatT, rdRepL, rdLen, rdTuple, rdList, rxList, rdInt, rdMax2, rdMin2, dgName, dgTup, dgCons, dgNil, deRefused, rdRepr, rdNeS, rdEqL, rdNeL, rdRepT, rdIsLn, noOwn, diSeq, diEn, diZp, diR1, diR2, noX,  eqOk_int, eqOk_bl, eqOk_non, eqv_int, eqv_bl, eqv_non, atI_0, atI_1, atI_2, atI_3, qty_non, qisI_non, qisB_non, qisL_non, qisU_non, qisS_non, qisD_non, qisNon_non, qcooked_non, qseq_non, qty_bl, qisI_bl, qisB_bl, qisL_bl, qisU_bl, qisS_bl, qisD_bl, qisNon_bl, qcooked_bl, qseq_bl, qty_int, qisI_int, qisB_int, qisL_int, qisU_int, qisS_int, qisD_int, qisNon_int, qcooked_int, qseq_int, qty_str, qisI_str, qisB_str, qisL_str, qisU_str, qisS_str, qisD_str, qisNon_str, qcooked_str, qseq_str, qty_lst, qisI_lst, qisB_lst, qisL_lst, qisU_lst, qisS_lst, qisD_lst, qisNon_lst, qcooked_lst, qseq_lst, qty_tup, qisI_tup, qisB_tup, qisL_tup, qisU_tup, qisS_tup, qisD_tup, qisNon_tup, qcooked_tup, qseq_tup, qty_dct, qisI_dct, qisB_dct, qisL_dct, qisU_dct, qisS_dct, qisD_dct, qisNon_dct, qcooked_dct, qseq_dct, qix_lst, qsl_lst, qix_tup, qsl_tup, qisNon_ln, qcooked_ln, and_assoc, exists_and_left, exists_eq_left, exists_eq_left', exists_eq_right, dxLc_eq, dsFor_eq, rngD_0, rngD_eq, zipD_map, enumD_map0]
    refine fb_id _ (fun _ δ' => ∃ x22, δ' = [.dat (.raw (.ref sa)), .dat (.raw (.ref r)), .dat (.tup (ss.map D.int)), .dat (.ln (ss.map D.int)), .dat (.int (ss.length : Nat)), .dat (.lst (ps.map prD)), x6, .dat (.int (a : Int)), .dat (.lst ((seatsG ps).map D.int)), .dat (.lst (lds.map D.int)), x10, x11, .dat (.lst (th.map D.int)), .dat od, .dat (.int q), .dat (.lst (fs.map rowD)), .dat (.int (e : Int)), .dat (optD W), .dat (optN Fw), .dat (chgD (a : Int) W), x20, .dat (.lst bd), x22, .un, .un, .un]) ⟨_, rfl⟩ (fun i z δ' hz hj => ?_) (fun δ' hj => hN _ hj)
    obtain ⟨x22, rfl⟩ := hj
    have hz : z = .raw (.ref (He.ga K "seating")) ∨ z = .raw (.ref (He.ga K "seats_needed")) ∨ z = .raw (.ref (He.ga K "fullest")) := by simpa using hz
    simp [startD, wipeD, dsRet, dsRetN, dsIf, dsSeq, dsNext, dsAsg, dsDrop, dsBreak, dsCont, dsPar, dsAug, dsFrz, dsApp, dsExt, dsPut, dsAugO, dsOwn, dsParOO, dsParDO, dsParDDO, dsFrzA, dxRep, diOwn, dsRaise, deAnd, deOr, deNot, de1, de2, deB, deX, dxB, dxLst, deName, deC, deCall, deIxO, deLenO, deTup, deLst, daCons, daNil, daStar, deChain, dtChain, dtV, dtAnd, dtOr, dtNot, dtYes, deIf, deSl, doNone, doSome, rdAdd, rdSub, rdMul, rdMod, rdDiv, rdPow, rdI, rdIc, rdB, rdLt, rdLe, rdGt, rdGe, rdNeg, rdIs, rdEq, rdNe, rdIx, rdIsN, rdNotN, rdIsB, rdNotB, rdRev, rdSeats, rdCatL, rdCatT, rdRepL, rdLen, rdTuple, rdList, rxList, rdInt, rdMax2, rdMin2, dgName, dgTup, dgCons, dgNil, deRefused, rdRepr, rdNeS, rdEqL, rdNeL, rdRepT, rdIsLn, noOwn, diSeq, diEn, diZp, diR1, diR2, noX,  eqOk_int, eqOk_bl, eqOk_non, eqv_int, eqv_bl, eqv_non, atI_0, atI_1, atI_2, atI_3, qty_non, qisI_non, qisB_non, qisL_non, qisU_non, qisS_non, qisD_non, qisNon_non, qcooked_non, qseq_non, qty_bl, qisI_bl, qisB_bl, qisL_bl, qisU_bl, qisS_bl, qisD_bl, qisNon_bl, qcooked_bl, qseq_bl, qty_int, qisI_int, qisB_int, qisL_int, qisU_int, qisS_int, qisD_int, qisNon_int, qcooked_int, qseq_int, qty_str, qisI_str, qisB_str, qisL_str, qisU_str, qisS_str, qisD_str, qisNon_str, qcooked_str, qseq_str, qty_lst, qisI_lst, qisB_lst, qisL_lst, qisU_lst, qisS_lst, qisD_lst, qisNon_lst, qcooked_lst, qseq_lst, qty_tup, qisI_tup, qisB_tup, qisL_tup, qisU_tup, qisS_tup, qisD_tup, qisNon_tup, qcooked_tup, qseq_tup, qty_dct, qisI_dct, qisB_dct, qisL_dct, qisU_dct, qisS_dct, qisD_dct, qisNon_dct, qcooked_dct, qseq_dct, qix_lst, qsl_lst, qix_tup, qsl_tup, qisNon_ln, qcooked_ln, and_assoc, exists_and_left, exists_eq_left, exists_eq_left', exists_eq_right, dxLc_eq, dsFor_eq, rngD_0, rngD_eq, zipD_map, enumD_map0]
    rcases hz with rfl | rfl | rfl
    · refine .inl ⟨rfl, ?_⟩
      simp [startD, wipeD, dsRet, dsRetN, dsIf, dsSeq, dsNext, dsAsg, dsDrop, dsBreak, dsCont, dsPar, dsAug, dsFrz, dsApp, dsExt, dsPut, dsAugO, dsOwn, dsParOO, dsParDO, dsParDDO, dsFrzA, dxRep, diOwn, dsRaise, deAnd, deOr, deNot, de1, de2, deB, deX, dxB, dxLst, deName, deC, deCall, deIxO, deLenO, deTup, deLst, daCons, daNil, daStar, deChain, dtChain, dtV, dtAnd, dtOr, dtNot, dtYes, deIf, deSl, doNone, doSome, rdAdd, rdSub, rdMul, rdMod, rdDiv, rdPow, rdI, rdIc, rdB, rdLt, rdLe, rdGt, rdGe, rdNeg, rdIs, rdEq, rdNe, rdIx, rdIsN, rdNotN, rdIsB, rdNotB, rdRev, rdSeats, rdCatL, rdCatT, rdRepL, rdLen, rdTuple, rdList, rxList, rdInt, rdMax2, rdMin2, dgName, dgTup, dgCons, dgNil, deRefused, rdRepr, rdNeS, rdEqL, rdNeL, rdRepT, rdIsLn, noOwn, diSeq, diEn, diZp, diR1, diR2, noX,  eqOk_int, eqOk_bl, eqOk_non, eqv_int, eqv_bl, eqv_non, atI_0, atI_1, atI_2, atI_3, qty_non, qisI_non, qisB_non, qisL_non, qisU_non, qisS_non, qisD_non, qisNon_non, qcooked_non, qseq_non, qty_bl, qisI_bl, qisB_bl, qisL_bl, qisU_bl, qisS_bl, qisD_bl, qisNon_bl, qcooked_bl, qseq_bl, qty_int, qisI_int, qisB_int, qisL_int, qisU_int, qisS_int, qisD_int, qisNon_int, qcooked_int, qseq_int, qty_str, qisI_str, qisB_str, qisL_str, qisU_str, qisS_str, qisD_str, qisNon_str, qcooked_str, qseq_str, qty_lst, qisI_lst, qisB_lst, qisL_lst, qisU_lst, qisS_lst, qisD_lst, qisNon_lst, qcooked_lst, qseq_lst, qty_tup, qisI_tup, qisB_tup, qisL_tup, qisU_tup, qisS_tup, qisD_tup, qisNon_tup, qcooked_tup, qseq_tup, qty_dct, qisI_dct, qisB_dct, qisL_dct, qisU_dct, qisS_dct, qisD_dct, qisNon_dct, qcooked_dct, qseq_dct, qix_lst, qsl_lst, qix_tup, qsl_tup, qisNon_ln, qcooked_ln, and_assoc, exists_and_left, exists_eq_left, exists_eq_left', exists_eq_right, dxLc_eq, dsFor_eq, rngD_0, rngD_eq, zipD_map, enumD_map0]
      exact ⟨ss.map D.int, .lst bd, rfl, hbok, pass_bad hbadL ⟨"passengers", lkP, eqP _, eqP _, D.eqv_refl (eqP _)⟩⟩
    · refine .inr (.inl ⟨rfl, ?_⟩)
      simp [startD, wipeD, dsRet, dsRetN, dsIf, dsSeq, dsNext, dsAsg, dsDrop, dsBreak, dsCont, dsPar, dsAug, dsFrz, dsApp, dsExt, dsPut, dsAugO, dsOwn, dsParOO, dsParDO, dsParDDO, dsFrzA, dxRep, diOwn, dsRaise, deAnd, deOr, deNot, de1, de2, deB, deX, dxB, dxLst, deName, deC, deCall, deIxO, deLenO, deTup, deLst, daCons, daNil, daStar, deChain, dtChain, dtV, dtAnd, dtOr, dtNot, dtYes, deIf, deSl, doNone, doSome, rdAdd, rdSub, rdMul, rdMod, rdDiv, rdPow, rdI, rdIc, rdB, rdLt, rdLe, rdGt, rdGe, rdNeg, rdIs, rdEq, rdNe, rdIx, rdIsN, rdNotN, rdIsB, rdNotB, rdRev, rdSeats, rdCatL, rdCatT, rdRepL, rdLen, rdTuple, rdList, rxList, rdInt, rdMax2, rdMin2, dgName, dgTup, dgCons, dgNil, deRefused, rdRepr, rdNeS, rdEqL, rdNeL, rdRepT, rdIsLn, noOwn, diSeq, diEn, diZp, diR1, diR2, noX,  eqOk_int, eqOk_bl, eqOk_non, eqv_int, eqv_bl, eqv_non, atI_0, atI_1, atI_2, atI_3, qty_non, qisI_non, qisB_non, qisL_non, qisU_non, qisS_non, qisD_non, qisNon_non, qcooked_non, qseq_non, qty_bl, qisI_bl, qisB_bl, qisL_bl, qisU_bl, qisS_bl, qisD_bl, qisNon_bl, qcooked_bl, qseq_bl, qty_int, qisI_int, qisB_int, qisL_int, qisU_int, qisS_int, qisD_int, qisNon_int, qcooked_int, qseq_int, qty_str, qisI_str, qisB_str, qisL_str, qisU_str, qisS_str, qisD_str, qisNon_str, qcooked_str, qseq_str, qty_lst, qisI_lst, qisB_lst, qisL_lst, qisU_lst, qisS_lst, qisD_lst, qisNon_lst, qcooked_lst, qseq_lst, qty_tup, qisI_tup, qisB_tup, qisL_tup, qisU_tup, qisS_tup, qisD_tup, qisNon_tup, qcooked_tup, qseq_tup, qty_dct, qisI_dct, qisB_dct, qisL_dct, qisU_dct, qisS_dct, qisD_dct, qisNon_dct, qcooked_dct, qseq_dct, qix_lst, qsl_lst, qix_tup, qsl_tup, qisNon_ln, qcooked_ln, and_assoc, exists_and_left, exists_eq_left, exists_eq_left', exists_eq_right, dxLc_eq, dsFor_eq, rngD_0, rngD_eq, zipD_map, enumD_map0]
      exact ⟨ss.map D.int, .lst bd, rfl, hbok, pass_bad hbadL ⟨"passengers", lkP, eqP _, eqP _, D.eqv_refl (eqP _)⟩⟩
    · refine .inr (.inr ⟨rfl, ?_⟩)
      simp [startD, wipeD, dsRet, dsRetN, dsIf, dsSeq, dsNext, dsAsg, dsDrop, dsBreak, dsCont, dsPar, dsAug, dsFrz, dsApp, dsExt, dsPut, dsAugO, dsOwn, dsParOO, dsParDO, dsParDDO, dsFrzA, dxRep, diOwn, dsRaise, deAnd, deOr, deNot, de1, de2, deB, deX, dxB, dxLst, deName, deC, deCall, deIxO, deLenO, deTup, deLst, daCons, daNil, daStar, deChain, dtChain, dtV, dtAnd, dtOr, dtNot, dtYes, deIf, deSl, doNone, doSome, rdAdd, rdSub, rdMul, rdMod, rdDiv, rdPow, rdI, rdIc, rdB, rdLt, rdLe, rdGt, rdGe, rdNeg, rdIs, rdEq, rdNe, rdIx, rdIsN, rdNotN, rdIsB, rdNotB, rdRev, rdSeats, rdCatL, rdCatT, rdRepL, rdLen, rdTuple, rdList, rxList, rdInt, rdMax2, rdMin2, dgName, dgTup, dgCons, dgNil, deRefused, rdRepr, rdNeS, rdEqL, rdNeL, rdRepT, rdIsLn, noOwn, diSeq, diEn, diZp, diR1, diR2, noX,  eqOk_int, eqOk_bl, eqOk_non, eqv_int, eqv_bl, eqv_non, atI_0, atI_1, atI_2, atI_3, qty_non, qisI_non, qisB_non, qisL_non, qisU_non, qisS_non, qisD_non, qisNon_non, qcooked_non, qseq_non, qty_bl, qisI_bl, qisB_bl, qisL_bl, qisU_bl, qisS_bl, qisD_bl, qisNon_bl, qcooked_bl, qseq_bl, qty_int, qisI_int, qisB_int, qisL_int, qisU_int, qisS_int, qisD_int, qisNon_int, qcooked_int, qseq_int, qty_str, qisI_str, qisB_str, qisL_str, qisU_str, qisS_str, qisD_str, qisNon_str, qcooked_str, qseq_str, qty_lst, qisI_lst, qisB_lst, qisL_lst, qisU_lst, qisS_lst, qisD_lst, qisNon_lst, qcooked_lst, qseq_lst, qty_tup, qisI_tup, qisB_tup, qisL_tup, qisU_tup, qisS_tup, qisD_tup, qisNon_tup, qcooked_tup, qseq_tup, qty_dct, qisI_dct, qisB_dct, qisL_dct, qisU_dct, qisS_dct, qisD_dct, qisNon_dct, qcooked_dct, qseq_dct, qix_lst, qsl_lst, qix_tup, qsl_tup, qisNon_ln, qcooked_ln, and_assoc, exists_and_left, exists_eq_left, exists_eq_left', exists_eq_right, dxLc_eq, dsFor_eq, rngD_0, rngD_eq, zipD_map, enumD_map0]
      exact ⟨ss.map D.int, .lst bd, rfl, by rw [hsl]; exact n1, by rw [hsl]; omega, hbok, pass_bad hbadL ⟨"passengers", lkP, eqP _, eqP _, D.eqv_refl (eqP _)⟩⟩
  obtain ⟨x22, rfl⟩ := hj
  -- wrong
  refine seq_gen (fun δ' => ∃ wr : List D, (badFree ss.length (.lst wr) = some ((wr.length : Int) - 1) ∧ (D.lst wr).okv = true ∧ ∀ x ∈ wr, ∀ ys, x.seq = some ys → ys.length ≤ 1000) ∧ δ' = [.dat (.raw (.ref sa)), .dat (.raw (.ref r)), .dat (.tup (ss.map D.int)), .dat (.ln (ss.map D.int)), .dat (.int (ss.length : Nat)), .dat (.lst (ps.map prD)), x6, .dat (.int (a : Int)), .dat (.lst ((seatsG ps).map D.int)), .dat (.lst (lds.map D.int)), x10, x11, .dat (.lst (th.map D.int)), .dat od, .dat (.int q), .dat (.lst (fs.map rowD)), .dat (.int (e : Int)), .dat (optD W), .dat (optN Fw), .dat (chgD (a : Int) W), x20, .dat (.lst bd), x22, .dat (.lst wr), .un, .un]) (fun N hN => ?_) (fun δ' hj => ?_)
  · have key : ∀ o : D, o.okv = true → isFree ss.length o = false → (∀ ys, o.seq = some ys → ys.length ≤ 1000) → N [.dat (.raw (.ref sa)), .dat (.raw (.ref r)), .dat (.tup (ss.map D.int)), .dat (.ln (ss.map D.int)), .dat (.int (ss.length : Nat)), .dat (.lst (ps.map prD)), x6, .dat (.int (a : Int)), .dat (.lst ((seatsG ps).map D.int)), .dat (.lst (lds.map D.int)), x10, x11, .dat (.lst (th.map D.int)), .dat od, .dat (.int q), .dat (.lst (fs.map rowD)), .dat (.int (e : Int)), .dat (optD W), .dat (optN Fw), .dat (chgD (a : Int) W), x20, .dat (.lst bd), x22, .dat (.lst ((fs.take 19).map rowD ++ [o])), .un, .un] := fun o oo1 oo2 oo3 => by
      refine hN _ ⟨(fs.take 19).map rowD ++ [o], ⟨?_, okv_lst (fun y hy => ?_), fun y hy ys hys => ?_⟩, rfl⟩
      · rw [badFree_last (fun q hq => fok q (List.mem_of_mem_take hq)) (by simp; omega) oo2]
        simp
      · rcases List.mem_append.mp hy with hy | hy
        · exact okv_rows y hy
        · rw [List.mem_singleton.mp hy]
          exact oo1
      · rcases List.mem_append.mp hy with hy | hy
        · obtain ⟨bs, hb, rfl⟩ := List.mem_map.mp hy
          cases hys
          rw [List.length_map, fok bs (List.mem_of_mem_take hb)]
          omega
        · rw [List.mem_singleton.mp hy] at hys
          exact oo3 ys hys
    have c19 : cut (fs.map rowD) none (some 19) = (fs.take 19).map rowD := by rw [show (19 : Int) = ((19 : Nat) : Int) from rfl, cut_toK, List.map_take]
    rw [List.map_take] at key c19
    have er : repD ((ss.length : Int) + 1) [D.bl true] = List.replicate (ss.length + 1) (D.bl true) := by rw [show (ss.length : Int) + 1 = ((ss.length + 1 : Nat) : Int) by omega, rep1]
    simp [startD, wipeD, dsRet, dsRetN, dsIf, dsSeq, dsNext, dsAsg, dsDrop, dsBreak, dsCont, dsPar, dsAug, dsFrz, dsApp, dsExt, dsPut, dsAugO, dsOwn, dsParOO, dsParDO, dsParDDO, dsFrzA, dxRep, diOwn, dsRaise, deAnd, deOr, deNot, de1, de2, deB, deX, dxB, dxLst, deName, deC, deCall, deIxO, deLenO, deTup, deLst, daCons, daNil, daStar, deChain, dtChain, dtV, dtAnd, dtOr, dtNot, dtYes, deIf, deSl, doNone, doSome, rdAdd, rdSub, rdMul, rdMod, rdDiv, rdPow, rdI, rdIc, rdB, rdLt, rdLe, rdGt, rdGe, rdNeg, rdIs, rdEq, rdNe, rdIx, rdIsN, rdNotN, rdIsB, rdNotB, rdRev, rdSeats, rdCatL, rdCatT, rdRepL, rdLen, rdTuple, rdList, rxList, rdInt, rdMax2, rdMin2, dgName, dgTup, dgCons, dgNil, deRefused, rdRepr, rdNeS, rdEqL, rdNeL, rdRepT, rdIsLn, noOwn, diSeq, diEn, diZp, diR1, diR2, noX,  eqOk_int, eqOk_bl, eqOk_non, eqv_int, eqv_bl, eqv_non, atI_0, atI_1, atI_2, atI_3, qty_non, qisI_non, qisB_non, qisL_non, qisU_non, qisS_non, qisD_non, qisNon_non, qcooked_non, qseq_non, qty_bl, qisI_bl, qisB_bl, qisL_bl, qisU_bl, qisS_bl, qisD_bl, qisNon_bl, qcooked_bl, qseq_bl, qty_int, qisI_int, qisB_int, qisL_int, qisU_int, qisS_int, qisD_int, qisNon_int, qcooked_int, qseq_int, qty_str, qisI_str, qisB_str, qisL_str, qisU_str, qisS_str, qisD_str, qisNon_str, qcooked_str, qseq_str, qty_lst, qisI_lst, qisB_lst, qisL_lst, qisU_lst, qisS_lst, qisD_lst, qisNon_lst, qcooked_lst, qseq_lst, qty_tup, qisI_tup, qisB_tup, qisL_tup, qisU_tup, qisS_tup, qisD_tup, qisNon_tup, qcooked_tup, qseq_tup, qty_dct, qisI_dct, qisB_dct, qisL_dct, qisU_dct, qisS_dct, qisD_dct, qisNon_dct, qcooked_dct, qseq_dct, qix_lst, qsl_lst, qix_tup, qsl_tup, qisNon_ln, qcooked_ln, and_assoc, exists_and_left, exists_eq_left, exists_eq_left', exists_eq_right, dxLc_eq, dsFor_eq, rngD_0, rngD_eq, zipD_map, enumD_map0, sp__law_pick, c19, rep1, er]
    refine ⟨by omega, by omega, by omega, ⟨sa, hrow⟩, by omega, key _ rfl rfl (fun ys e => nomatch e), by omega, key _ (okv_lst (okv_rep rfl)) ?_ (fun ys e => by cases e; simp; omega), by omega, key _ (okv_lst (okv_rep rfl)) ?_ (fun ys e => by cases e; simp; omega), by omega, key _ rfl rfl (fun ys e => nomatch e)⟩
    · unfold isFree
      show (decide ((List.replicate (ss.length + 1) (D.bl true)).length = ss.length) && _) = false
      rw [decide_eq_false (by simp)]
      rfl
    · unfold isFree
      show (_ && (List.replicate ss.length (D.int 1)).all D.isB) = false
      obtain ⟨k, hk⟩ : ∃ k, ss.length = k + 1 := ⟨ss.length - 1, by omega⟩
      rw [hk, List.replicate_succ, List.all_cons]
      simp [D.isB]
  obtain ⟨wr, ⟨hwr, hwok, hwl⟩, rfl⟩ := hj
  have hwrL : badFree (ss.map D.int).length (.lst wr) = some ((wr.length : Int) - 1) := by rw [hsl]; exact hwr
  refine seq_gen (fun δ' => ∃ x22, δ' = [.dat (.raw (.ref sa)), .dat (.raw (.ref r)), .dat (.tup (ss.map D.int)), .dat (.ln (ss.map D.int)), .dat (.int (ss.length : Nat)), .dat (.lst (ps.map prD)), x6, .dat (.int (a : Int)), .dat (.lst ((seatsG ps).map D.int)), .dat (.lst (lds.map D.int)), x10, x11, .dat (.lst (th.map D.int)), .dat od, .dat (.int q), .dat (.lst (fs.map rowD)), .dat (.int (e : Int)), .dat (optD W), .dat (optN Fw), .dat (chgD (a : Int) W), x20, .dat (.lst bd), x22, .dat (.lst wr), .un, .un]) (fun N hN => ?_) (fun δ' hj => ?_)
  · simp [startD, wipeD, dsRet, dsRetN, dsIf, dsSeq, dsNext, dsAsg, dsDrop, dsBreak, dsCont, dsPar, dsAug, dsFrz, dsApp, dsExt, dsPut, dsAugO, dsOwn, dsParOO, dsParDO, dsParDDO, dsFrzA, dxRep, diOwn, dsRaise, deAnd, deOr, deNot, de1, de2, deB, deX, dxB, dxLst, deName, deC, deCall, deIxO, deLenO, deTup, deLst, daCons, daNil, daStar, deChain, dtChain, dtV, dtAnd, dtOr, dtNot, dtYes, deIf, deSl, doNone, doSome, rdAdd, rdSub, rdMul, rdMod, rdDiv, rdPow, rdI, rdIc, rdB, rdLt, rdLe, rdGt, rdGe, rdNeg, rdIs, rdEq, rdNe, rdIx, rdIsN, rdNotN, rdIsB, rdNotB, rdRev, rdSeats, rdCatL, rdCatT, rdRepL, rdLen, rdTuple, rdList, rxList, rdInt, rdMax2, rdMin2, dgName, dgTup, dgCons, dgNil, deRefused, rdRepr, rdNeS, rdEqL, rdNeL, rdRepT, rdIsLn, noOwn, diSeq, diEn, diZp, diR1, diR2, noX,  eqOk_int, eqOk_bl, eqOk_non, eqv_int, eqv_bl, eqv_non, atI_0, atI_1, atI_2, atI_3, qty_non, qisI_non, qisB_non, qisL_non, qisU_non, qisS_non, qisD_non, qisNon_non, qcooked_non, qseq_non, qty_bl, qisI_bl, qisB_bl, qisL_bl, qisU_bl, qisS_bl, qisD_bl, qisNon_bl, qcooked_bl, qseq_bl, qty_int, qisI_int, qisB_int, qisL_int, qisU_int, qisS_int, qisD_int, qisNon_int, qcooked_int, qseq_int, qty_str, qisI_str, qisB_str, qisL_str, qisU_str, qisS_str, qisD_str, qisNon_str, qcooked_str, qseq_str, qty_lst, qisI_lst, qisB_lst, qisL_lst, qisU_lst, qisS_lst, qisD_lst, qisNon_lst, qcooked_lst, qseq_lst, qty_tup, qisI_tup, qisB_tup, qisL_tup, qisU_tup, qisS_tup, qisD_tup, qisNon_tup, qcooked_tup, qseq_tup, qty_dct, qisI_dct, qisB_dct, qisL_dct, qisU_dct, qisS_dct, qisD_dct, qisNon_dct, qcooked_dct, qseq_dct, qix_lst, qsl_lst, qix_tup, qsl_tup, qisNon_ln, qcooked_ln, and_assoc, exists_and_left, exists_eq_left, exists_eq_left', exists_eq_right, dxLc_eq, dsFor_eq, rngD_0, rngD_eq, zipD_map, enumD_map0]
    refine fb_id _ (fun _ δ' => ∃ x22, δ' = [.dat (.raw (.ref sa)), .dat (.raw (.ref r)), .dat (.tup (ss.map D.int)), .dat (.ln (ss.map D.int)), .dat (.int (ss.length : Nat)), .dat (.lst (ps.map prD)), x6, .dat (.int (a : Int)), .dat (.lst ((seatsG ps).map D.int)), .dat (.lst (lds.map D.int)), x10, x11, .dat (.lst (th.map D.int)), .dat od, .dat (.int q), .dat (.lst (fs.map rowD)), .dat (.int (e : Int)), .dat (optD W), .dat (optN Fw), .dat (chgD (a : Int) W), x20, .dat (.lst bd), x22, .dat (.lst wr), .un, .un]) ⟨_, rfl⟩ (fun i z δ' hz hj => ?_) (fun δ' hj => hN _ hj)
    obtain ⟨x22, rfl⟩ := hj
    have hz : z = .raw (.ref (He.ga K "best_walk")) ∨ z = .raw (.ref (He.ga K "fewest_changes")) ∨ z = .raw (.ref (He.ga K "change_legs")) := by simpa using hz
    have bad : ∀ (d : D) (i : Int), d.okv = true → (∀ xs, d.seq = some xs → ∀ x ∈ xs, ∀ ys, x.seq = some ys → ys.length ≤ 1000) → badFree (ss.map D.int).length d = some i → ∀ {O : Out → Prop} {P : D → D → D → Prop}, O (.exc "BadFree" (.int i)) → spBoth [D.ln (ss.map D.int), d, D.non, D.non] O P := fun d i h1 h2 h3 O P o => both_bad h1 h2 rfl rfl h3 o
    show dsSeq _ _ _ [.dat (.raw (.ref sa)), .dat (.raw (.ref r)), .dat (.tup (ss.map D.int)), .dat (.ln (ss.map D.int)), .dat (.int (ss.length : Nat)), .dat (.lst (ps.map prD)), x6, .dat (.int (a : Int)), .dat (.lst ((seatsG ps).map D.int)), .dat (.lst (lds.map D.int)), x10, x11, .dat (.lst (th.map D.int)), .dat od, .dat (.int q), .dat (.lst (fs.map rowD)), .dat (.int (e : Int)), .dat (optD W), .dat (optN Fw), .dat (chgD (a : Int) W), x20, .dat (.lst bd), .dat z, .dat (.lst wr), .un, .un]
    refine seq_gen (fun δ' => δ' = [.dat (.raw (.ref sa)), .dat (.raw (.ref r)), .dat (.tup (ss.map D.int)), .dat (.ln (ss.map D.int)), .dat (.int (ss.length : Nat)), .dat (.lst (ps.map prD)), x6, .dat (.int (a : Int)), .dat (.lst ((seatsG ps).map D.int)), .dat (.lst (lds.map D.int)), x10, x11, .dat (.lst (th.map D.int)), .dat od, .dat (.int q), .dat (.lst (fs.map rowD)), .dat (.int (e : Int)), .dat (optD W), .dat (optN Fw), .dat (chgD (a : Int) W), x20, .dat (.lst bd), .dat z, .dat (.lst wr), .un, .un]) (fun N2 hN2 => ?_) (fun δ' hj => ?_)
    · simp [startD, wipeD, dsRet, dsRetN, dsIf, dsSeq, dsNext, dsAsg, dsDrop, dsBreak, dsCont, dsPar, dsAug, dsFrz, dsApp, dsExt, dsPut, dsAugO, dsOwn, dsParOO, dsParDO, dsParDDO, dsFrzA, dxRep, diOwn, dsRaise, deAnd, deOr, deNot, de1, de2, deB, deX, dxB, dxLst, deName, deC, deCall, deIxO, deLenO, deTup, deLst, daCons, daNil, daStar, deChain, dtChain, dtV, dtAnd, dtOr, dtNot, dtYes, deIf, deSl, doNone, doSome, rdAdd, rdSub, rdMul, rdMod, rdDiv, rdPow, rdI, rdIc, rdB, rdLt, rdLe, rdGt, rdGe, rdNeg, rdIs, rdEq, rdNe, rdIx, rdIsN, rdNotN, rdIsB, rdNotB, rdRev, rdSeats, rdCatL, rdCatT, rdRepL, rdLen, rdTuple, rdList, rxList, rdInt, rdMax2, rdMin2, dgName, dgTup, dgCons, dgNil, deRefused, rdRepr, rdNeS, rdEqL, rdNeL, rdRepT, rdIsLn, noOwn, diSeq, diEn, diZp, diR1, diR2, noX,  eqOk_int, eqOk_bl, eqOk_non, eqv_int, eqv_bl, eqv_non, atI_0, atI_1, atI_2, atI_3, qty_non, qisI_non, qisB_non, qisL_non, qisU_non, qisS_non, qisD_non, qisNon_non, qcooked_non, qseq_non, qty_bl, qisI_bl, qisB_bl, qisL_bl, qisU_bl, qisS_bl, qisD_bl, qisNon_bl, qcooked_bl, qseq_bl, qty_int, qisI_int, qisB_int, qisL_int, qisU_int, qisS_int, qisD_int, qisNon_int, qcooked_int, qseq_int, qty_str, qisI_str, qisB_str, qisL_str, qisU_str, qisS_str, qisD_str, qisNon_str, qcooked_str, qseq_str, qty_lst, qisI_lst, qisB_lst, qisL_lst, qisU_lst, qisS_lst, qisD_lst, qisNon_lst, qcooked_lst, qseq_lst, qty_tup, qisI_tup, qisB_tup, qisL_tup, qisU_tup, qisS_tup, qisD_tup, qisNon_tup, qcooked_tup, qseq_tup, qty_dct, qisI_dct, qisB_dct, qisL_dct, qisU_dct, qisS_dct, qisD_dct, qisNon_dct, qcooked_dct, qseq_dct, qix_lst, qsl_lst, qix_tup, qsl_tup, qisNon_ln, qcooked_ln, and_assoc, exists_and_left, exists_eq_left, exists_eq_left', exists_eq_right, dxLc_eq, dsFor_eq, rngD_0, rngD_eq, zipD_map, enumD_map0]
      rcases hz with rfl | rfl | rfl
      · refine .inl ⟨rfl, ?_⟩
        simp [startD, wipeD, dsRet, dsRetN, dsIf, dsSeq, dsNext, dsAsg, dsDrop, dsBreak, dsCont, dsPar, dsAug, dsFrz, dsApp, dsExt, dsPut, dsAugO, dsOwn, dsParOO, dsParDO, dsParDDO, dsFrzA, dxRep, diOwn, dsRaise, deAnd, deOr, deNot, de1, de2, deB, deX, dxB, dxLst, deName, deC, deCall, deIxO, deLenO, deTup, deLst, daCons, daNil, daStar, deChain, dtChain, dtV, dtAnd, dtOr, dtNot, dtYes, deIf, deSl, doNone, doSome, rdAdd, rdSub, rdMul, rdMod, rdDiv, rdPow, rdI, rdIc, rdB, rdLt, rdLe, rdGt, rdGe, rdNeg, rdIs, rdEq, rdNe, rdIx, rdIsN, rdNotN, rdIsB, rdNotB, rdRev, rdSeats, rdCatL, rdCatT, rdRepL, rdLen, rdTuple, rdList, rxList, rdInt, rdMax2, rdMin2, dgName, dgTup, dgCons, dgNil, deRefused, rdRepr, rdNeS, rdEqL, rdNeL, rdRepT, rdIsLn, noOwn, diSeq, diEn, diZp, diR1, diR2, noX,  eqOk_int, eqOk_bl, eqOk_non, eqv_int, eqv_bl, eqv_non, atI_0, atI_1, atI_2, atI_3, qty_non, qisI_non, qisB_non, qisL_non, qisU_non, qisS_non, qisD_non, qisNon_non, qcooked_non, qseq_non, qty_bl, qisI_bl, qisB_bl, qisL_bl, qisU_bl, qisS_bl, qisD_bl, qisNon_bl, qcooked_bl, qseq_bl, qty_int, qisI_int, qisB_int, qisL_int, qisU_int, qisS_int, qisD_int, qisNon_int, qcooked_int, qseq_int, qty_str, qisI_str, qisB_str, qisL_str, qisU_str, qisS_str, qisD_str, qisNon_str, qcooked_str, qseq_str, qty_lst, qisI_lst, qisB_lst, qisL_lst, qisU_lst, qisS_lst, qisD_lst, qisNon_lst, qcooked_lst, qseq_lst, qty_tup, qisI_tup, qisB_tup, qisL_tup, qisU_tup, qisS_tup, qisD_tup, qisNon_tup, qcooked_tup, qseq_tup, qty_dct, qisI_dct, qisB_dct, qisL_dct, qisU_dct, qisS_dct, qisD_dct, qisNon_dct, qcooked_dct, qseq_dct, qix_lst, qsl_lst, qix_tup, qsl_tup, qisNon_ln, qcooked_ln, and_assoc, exists_and_left, exists_eq_left, exists_eq_left', exists_eq_right, dxLc_eq, dsFor_eq, rngD_0, rngD_eq, zipD_map, enumD_map0]
        exact bad _ _ hwok (fun xs e x hx ys hy => hwl x (by cases e; exact hx) ys hy) hwrL ⟨"free", lkF, eqF _, eqF _, D.eqv_refl (eqF _), hN2 _ rfl⟩
      · refine .inr (.inl ⟨rfl, ?_⟩)
        simp [startD, wipeD, dsRet, dsRetN, dsIf, dsSeq, dsNext, dsAsg, dsDrop, dsBreak, dsCont, dsPar, dsAug, dsFrz, dsApp, dsExt, dsPut, dsAugO, dsOwn, dsParOO, dsParDO, dsParDDO, dsFrzA, dxRep, diOwn, dsRaise, deAnd, deOr, deNot, de1, de2, deB, deX, dxB, dxLst, deName, deC, deCall, deIxO, deLenO, deTup, deLst, daCons, daNil, daStar, deChain, dtChain, dtV, dtAnd, dtOr, dtNot, dtYes, deIf, deSl, doNone, doSome, rdAdd, rdSub, rdMul, rdMod, rdDiv, rdPow, rdI, rdIc, rdB, rdLt, rdLe, rdGt, rdGe, rdNeg, rdIs, rdEq, rdNe, rdIx, rdIsN, rdNotN, rdIsB, rdNotB, rdRev, rdSeats, rdCatL, rdCatT, rdRepL, rdLen, rdTuple, rdList, rxList, rdInt, rdMax2, rdMin2, dgName, dgTup, dgCons, dgNil, deRefused, rdRepr, rdNeS, rdEqL, rdNeL, rdRepT, rdIsLn, noOwn, diSeq, diEn, diZp, diR1, diR2, noX,  eqOk_int, eqOk_bl, eqOk_non, eqv_int, eqv_bl, eqv_non, atI_0, atI_1, atI_2, atI_3, qty_non, qisI_non, qisB_non, qisL_non, qisU_non, qisS_non, qisD_non, qisNon_non, qcooked_non, qseq_non, qty_bl, qisI_bl, qisB_bl, qisL_bl, qisU_bl, qisS_bl, qisD_bl, qisNon_bl, qcooked_bl, qseq_bl, qty_int, qisI_int, qisB_int, qisL_int, qisU_int, qisS_int, qisD_int, qisNon_int, qcooked_int, qseq_int, qty_str, qisI_str, qisB_str, qisL_str, qisU_str, qisS_str, qisD_str, qisNon_str, qcooked_str, qseq_str, qty_lst, qisI_lst, qisB_lst, qisL_lst, qisU_lst, qisS_lst, qisD_lst, qisNon_lst, qcooked_lst, qseq_lst, qty_tup, qisI_tup, qisB_tup, qisL_tup, qisU_tup, qisS_tup, qisD_tup, qisNon_tup, qcooked_tup, qseq_tup, qty_dct, qisI_dct, qisB_dct, qisL_dct, qisU_dct, qisS_dct, qisD_dct, qisNon_dct, qcooked_dct, qseq_dct, qix_lst, qsl_lst, qix_tup, qsl_tup, qisNon_ln, qcooked_ln, and_assoc, exists_and_left, exists_eq_left, exists_eq_left', exists_eq_right, dxLc_eq, dsFor_eq, rngD_0, rngD_eq, zipD_map, enumD_map0]
        exact bad _ _ hwok (fun xs e x hx ys hy => hwl x (by cases e; exact hx) ys hy) hwrL ⟨"free", lkF, eqF _, eqF _, D.eqv_refl (eqF _), hN2 _ rfl⟩
      · refine .inr (.inr ⟨rfl, ?_⟩)
        simp [startD, wipeD, dsRet, dsRetN, dsIf, dsSeq, dsNext, dsAsg, dsDrop, dsBreak, dsCont, dsPar, dsAug, dsFrz, dsApp, dsExt, dsPut, dsAugO, dsOwn, dsParOO, dsParDO, dsParDDO, dsFrzA, dxRep, diOwn, dsRaise, deAnd, deOr, deNot, de1, de2, deB, deX, dxB, dxLst, deName, deC, deCall, deIxO, deLenO, deTup, deLst, daCons, daNil, daStar, deChain, dtChain, dtV, dtAnd, dtOr, dtNot, dtYes, deIf, deSl, doNone, doSome, rdAdd, rdSub, rdMul, rdMod, rdDiv, rdPow, rdI, rdIc, rdB, rdLt, rdLe, rdGt, rdGe, rdNeg, rdIs, rdEq, rdNe, rdIx, rdIsN, rdNotN, rdIsB, rdNotB, rdRev, rdSeats, rdCatL, rdCatT, rdRepL, rdLen, rdTuple, rdList, rxList, rdInt, rdMax2, rdMin2, dgName, dgTup, dgCons, dgNil, deRefused, rdRepr, rdNeS, rdEqL, rdNeL, rdRepT, rdIsLn, noOwn, diSeq, diEn, diZp, diR1, diR2, noX,  eqOk_int, eqOk_bl, eqOk_non, eqv_int, eqv_bl, eqv_non, atI_0, atI_1, atI_2, atI_3, qty_non, qisI_non, qisB_non, qisL_non, qisU_non, qisS_non, qisD_non, qisNon_non, qcooked_non, qseq_non, qty_bl, qisI_bl, qisB_bl, qisL_bl, qisU_bl, qisS_bl, qisD_bl, qisNon_bl, qcooked_bl, qseq_bl, qty_int, qisI_int, qisB_int, qisL_int, qisU_int, qisS_int, qisD_int, qisNon_int, qcooked_int, qseq_int, qty_str, qisI_str, qisB_str, qisL_str, qisU_str, qisS_str, qisD_str, qisNon_str, qcooked_str, qseq_str, qty_lst, qisI_lst, qisB_lst, qisL_lst, qisU_lst, qisS_lst, qisD_lst, qisNon_lst, qcooked_lst, qseq_lst, qty_tup, qisI_tup, qisB_tup, qisL_tup, qisU_tup, qisS_tup, qisD_tup, qisNon_tup, qcooked_tup, qseq_tup, qty_dct, qisI_dct, qisB_dct, qisL_dct, qisU_dct, qisS_dct, qisD_dct, qisNon_dct, qcooked_dct, qseq_dct, qix_lst, qsl_lst, qix_tup, qsl_tup, qisNon_ln, qcooked_ln, and_assoc, exists_and_left, exists_eq_left, exists_eq_left', exists_eq_right, dxLc_eq, dsFor_eq, rngD_0, rngD_eq, zipD_map, enumD_map0]
        exact bad _ _ hwok (fun xs e x hx ys hy => hwl x (by cases e; exact hx) ys hy) hwrL ⟨"free", lkF, eqF _, eqF _, D.eqv_refl (eqF _), hN2 _ rfl⟩
    subst hj
    refine seq_gen (fun δ' => δ' = [.dat (.raw (.ref sa)), .dat (.raw (.ref r)), .dat (.tup (ss.map D.int)), .dat (.ln (ss.map D.int)), .dat (.int (ss.length : Nat)), .dat (.lst (ps.map prD)), x6, .dat (.int (a : Int)), .dat (.lst ((seatsG ps).map D.int)), .dat (.lst (lds.map D.int)), x10, x11, .dat (.lst (th.map D.int)), .dat od, .dat (.int q), .dat (.lst (fs.map rowD)), .dat (.int (e : Int)), .dat (optD W), .dat (optN Fw), .dat (chgD (a : Int) W), x20, .dat (.lst bd), .dat z, .dat (.lst wr), .un, .un]) (fun N2 hN2 => ?_) (fun δ' hj => ?_)
    · have h21 : badFree (ss.map D.int).length (.lst (List.replicate 21 (.lst (List.replicate ss.length (.bl true))))) = some (-1) := rfl
      simp [startD, wipeD, dsRet, dsRetN, dsIf, dsSeq, dsNext, dsAsg, dsDrop, dsBreak, dsCont, dsPar, dsAug, dsFrz, dsApp, dsExt, dsPut, dsAugO, dsOwn, dsParOO, dsParDO, dsParDDO, dsFrzA, dxRep, diOwn, dsRaise, deAnd, deOr, deNot, de1, de2, deB, deX, dxB, dxLst, deName, deC, deCall, deIxO, deLenO, deTup, deLst, daCons, daNil, daStar, deChain, dtChain, dtV, dtAnd, dtOr, dtNot, dtYes, deIf, deSl, doNone, doSome, rdAdd, rdSub, rdMul, rdMod, rdDiv, rdPow, rdI, rdIc, rdB, rdLt, rdLe, rdGt, rdGe, rdNeg, rdIs, rdEq, rdNe, rdIx, rdIsN, rdNotN, rdIsB, rdNotB, rdRev, rdSeats, rdCatL, rdCatT, rdRepL, rdLen, rdTuple, rdList, rxList, rdInt, rdMax2, rdMin2, dgName, dgTup, dgCons, dgNil, deRefused, rdRepr, rdNeS, rdEqL, rdNeL, rdRepT, rdIsLn, noOwn, diSeq, diEn, diZp, diR1, diR2, noX,  eqOk_int, eqOk_bl, eqOk_non, eqv_int, eqv_bl, eqv_non, atI_0, atI_1, atI_2, atI_3, qty_non, qisI_non, qisB_non, qisL_non, qisU_non, qisS_non, qisD_non, qisNon_non, qcooked_non, qseq_non, qty_bl, qisI_bl, qisB_bl, qisL_bl, qisU_bl, qisS_bl, qisD_bl, qisNon_bl, qcooked_bl, qseq_bl, qty_int, qisI_int, qisB_int, qisL_int, qisU_int, qisS_int, qisD_int, qisNon_int, qcooked_int, qseq_int, qty_str, qisI_str, qisB_str, qisL_str, qisU_str, qisS_str, qisD_str, qisNon_str, qcooked_str, qseq_str, qty_lst, qisI_lst, qisB_lst, qisL_lst, qisU_lst, qisS_lst, qisD_lst, qisNon_lst, qcooked_lst, qseq_lst, qty_tup, qisI_tup, qisB_tup, qisL_tup, qisU_tup, qisS_tup, qisD_tup, qisNon_tup, qcooked_tup, qseq_tup, qty_dct, qisI_dct, qisB_dct, qisL_dct, qisU_dct, qisS_dct, qisD_dct, qisNon_dct, qcooked_dct, qseq_dct, qix_lst, qsl_lst, qix_tup, qsl_tup, qisNon_ln, qcooked_ln, and_assoc, exists_and_left, exists_eq_left, exists_eq_left', exists_eq_right, dxLc_eq, dsFor_eq, rngD_0, rngD_eq, zipD_map, enumD_map0]
      rcases hz with rfl | rfl | rfl
      · refine .inl ⟨rfl, ?_⟩
        simp [startD, wipeD, dsRet, dsRetN, dsIf, dsSeq, dsNext, dsAsg, dsDrop, dsBreak, dsCont, dsPar, dsAug, dsFrz, dsApp, dsExt, dsPut, dsAugO, dsOwn, dsParOO, dsParDO, dsParDDO, dsFrzA, dxRep, diOwn, dsRaise, deAnd, deOr, deNot, de1, de2, deB, deX, dxB, dxLst, deName, deC, deCall, deIxO, deLenO, deTup, deLst, daCons, daNil, daStar, deChain, dtChain, dtV, dtAnd, dtOr, dtNot, dtYes, deIf, deSl, doNone, doSome, rdAdd, rdSub, rdMul, rdMod, rdDiv, rdPow, rdI, rdIc, rdB, rdLt, rdLe, rdGt, rdGe, rdNeg, rdIs, rdEq, rdNe, rdIx, rdIsN, rdNotN, rdIsB, rdNotB, rdRev, rdSeats, rdCatL, rdCatT, rdRepL, rdLen, rdTuple, rdList, rxList, rdInt, rdMax2, rdMin2, dgName, dgTup, dgCons, dgNil, deRefused, rdRepr, rdNeS, rdEqL, rdNeL, rdRepT, rdIsLn, noOwn, diSeq, diEn, diZp, diR1, diR2, noX,  eqOk_int, eqOk_bl, eqOk_non, eqv_int, eqv_bl, eqv_non, atI_0, atI_1, atI_2, atI_3, qty_non, qisI_non, qisB_non, qisL_non, qisU_non, qisS_non, qisD_non, qisNon_non, qcooked_non, qseq_non, qty_bl, qisI_bl, qisB_bl, qisL_bl, qisU_bl, qisS_bl, qisD_bl, qisNon_bl, qcooked_bl, qseq_bl, qty_int, qisI_int, qisB_int, qisL_int, qisU_int, qisS_int, qisD_int, qisNon_int, qcooked_int, qseq_int, qty_str, qisI_str, qisB_str, qisL_str, qisU_str, qisS_str, qisD_str, qisNon_str, qcooked_str, qseq_str, qty_lst, qisI_lst, qisB_lst, qisL_lst, qisU_lst, qisS_lst, qisD_lst, qisNon_lst, qcooked_lst, qseq_lst, qty_tup, qisI_tup, qisB_tup, qisL_tup, qisU_tup, qisS_tup, qisD_tup, qisNon_tup, qcooked_tup, qseq_tup, qty_dct, qisI_dct, qisB_dct, qisL_dct, qisU_dct, qisS_dct, qisD_dct, qisNon_dct, qcooked_dct, qseq_dct, qix_lst, qsl_lst, qix_tup, qsl_tup, qisNon_ln, qcooked_ln, and_assoc, exists_and_left, exists_eq_left, exists_eq_left', exists_eq_right, dxLc_eq, dsFor_eq, rngD_0, rngD_eq, zipD_map, enumD_map0, sp__law_pick, rep1]
        refine ⟨by omega, ⟨sa, hrow⟩, ?_, ?_, ?_⟩
        · exact bad .non _ rfl (fun xs e => nomatch e) rfl ⟨"free", lkF, eqF _, eqF _, D.eqv_refl (eqF _), hN2 _ rfl⟩
        · exact bad (.lst []) _ rfl (fun xs e x hx => by cases e; cases hx) rfl ⟨"free", lkF, eqF _, eqF _, D.eqv_refl (eqF _), hN2 _ rfl⟩
        · rw [show repD (21 : Int) [D.lst (List.replicate ss.length (D.bl true))] = List.replicate 21 (D.lst (List.replicate ss.length (D.bl true))) from rep1 21 _]
          refine bad _ _ (okv_lst (okv_rep (okv_lst (okv_rep (x := .bl true) rfl)))) (fun xs e x hx ys hy => ?_) ?_ ⟨"free", lkF, eqF _, eqF _, D.eqv_refl (eqF _), hN2 _ rfl⟩
          · cases e
            rw [List.eq_of_mem_replicate hx] at hy
            cases hy
            simp
            omega
          · unfold badFree
            rfl
      · refine .inr (.inl ⟨rfl, ?_⟩)
        simp [startD, wipeD, dsRet, dsRetN, dsIf, dsSeq, dsNext, dsAsg, dsDrop, dsBreak, dsCont, dsPar, dsAug, dsFrz, dsApp, dsExt, dsPut, dsAugO, dsOwn, dsParOO, dsParDO, dsParDDO, dsFrzA, dxRep, diOwn, dsRaise, deAnd, deOr, deNot, de1, de2, deB, deX, dxB, dxLst, deName, deC, deCall, deIxO, deLenO, deTup, deLst, daCons, daNil, daStar, deChain, dtChain, dtV, dtAnd, dtOr, dtNot, dtYes, deIf, deSl, doNone, doSome, rdAdd, rdSub, rdMul, rdMod, rdDiv, rdPow, rdI, rdIc, rdB, rdLt, rdLe, rdGt, rdGe, rdNeg, rdIs, rdEq, rdNe, rdIx, rdIsN, rdNotN, rdIsB, rdNotB, rdRev, rdSeats, rdCatL, rdCatT, rdRepL, rdLen, rdTuple, rdList, rxList, rdInt, rdMax2, rdMin2, dgName, dgTup, dgCons, dgNil, deRefused, rdRepr, rdNeS, rdEqL, rdNeL, rdRepT, rdIsLn, noOwn, diSeq, diEn, diZp, diR1, diR2, noX,  eqOk_int, eqOk_bl, eqOk_non, eqv_int, eqv_bl, eqv_non, atI_0, atI_1, atI_2, atI_3, qty_non, qisI_non, qisB_non, qisL_non, qisU_non, qisS_non, qisD_non, qisNon_non, qcooked_non, qseq_non, qty_bl, qisI_bl, qisB_bl, qisL_bl, qisU_bl, qisS_bl, qisD_bl, qisNon_bl, qcooked_bl, qseq_bl, qty_int, qisI_int, qisB_int, qisL_int, qisU_int, qisS_int, qisD_int, qisNon_int, qcooked_int, qseq_int, qty_str, qisI_str, qisB_str, qisL_str, qisU_str, qisS_str, qisD_str, qisNon_str, qcooked_str, qseq_str, qty_lst, qisI_lst, qisB_lst, qisL_lst, qisU_lst, qisS_lst, qisD_lst, qisNon_lst, qcooked_lst, qseq_lst, qty_tup, qisI_tup, qisB_tup, qisL_tup, qisU_tup, qisS_tup, qisD_tup, qisNon_tup, qcooked_tup, qseq_tup, qty_dct, qisI_dct, qisB_dct, qisL_dct, qisU_dct, qisS_dct, qisD_dct, qisNon_dct, qcooked_dct, qseq_dct, qix_lst, qsl_lst, qix_tup, qsl_tup, qisNon_ln, qcooked_ln, and_assoc, exists_and_left, exists_eq_left, exists_eq_left', exists_eq_right, dxLc_eq, dsFor_eq, rngD_0, rngD_eq, zipD_map, enumD_map0, sp__law_pick, rep1]
        refine ⟨by omega, ⟨sa, hrow⟩, ?_, ?_, ?_⟩
        · exact bad .non _ rfl (fun xs e => nomatch e) rfl ⟨"free", lkF, eqF _, eqF _, D.eqv_refl (eqF _), hN2 _ rfl⟩
        · exact bad (.lst []) _ rfl (fun xs e x hx => by cases e; cases hx) rfl ⟨"free", lkF, eqF _, eqF _, D.eqv_refl (eqF _), hN2 _ rfl⟩
        · rw [show repD (21 : Int) [D.lst (List.replicate ss.length (D.bl true))] = List.replicate 21 (D.lst (List.replicate ss.length (D.bl true))) from rep1 21 _]
          refine bad _ _ (okv_lst (okv_rep (okv_lst (okv_rep (x := .bl true) rfl)))) (fun xs e x hx ys hy => ?_) ?_ ⟨"free", lkF, eqF _, eqF _, D.eqv_refl (eqF _), hN2 _ rfl⟩
          · cases e
            rw [List.eq_of_mem_replicate hx] at hy
            cases hy
            simp
            omega
          · unfold badFree
            rfl
      · refine .inr (.inr ⟨rfl, ?_⟩)
        simp [startD, wipeD, dsRet, dsRetN, dsIf, dsSeq, dsNext, dsAsg, dsDrop, dsBreak, dsCont, dsPar, dsAug, dsFrz, dsApp, dsExt, dsPut, dsAugO, dsOwn, dsParOO, dsParDO, dsParDDO, dsFrzA, dxRep, diOwn, dsRaise, deAnd, deOr, deNot, de1, de2, deB, deX, dxB, dxLst, deName, deC, deCall, deIxO, deLenO, deTup, deLst, daCons, daNil, daStar, deChain, dtChain, dtV, dtAnd, dtOr, dtNot, dtYes, deIf, deSl, doNone, doSome, rdAdd, rdSub, rdMul, rdMod, rdDiv, rdPow, rdI, rdIc, rdB, rdLt, rdLe, rdGt, rdGe, rdNeg, rdIs, rdEq, rdNe, rdIx, rdIsN, rdNotN, rdIsB, rdNotB, rdRev, rdSeats, rdCatL, rdCatT, rdRepL, rdLen, rdTuple, rdList, rxList, rdInt, rdMax2, rdMin2, dgName, dgTup, dgCons, dgNil, deRefused, rdRepr, rdNeS, rdEqL, rdNeL, rdRepT, rdIsLn, noOwn, diSeq, diEn, diZp, diR1, diR2, noX,  eqOk_int, eqOk_bl, eqOk_non, eqv_int, eqv_bl, eqv_non, atI_0, atI_1, atI_2, atI_3, qty_non, qisI_non, qisB_non, qisL_non, qisU_non, qisS_non, qisD_non, qisNon_non, qcooked_non, qseq_non, qty_bl, qisI_bl, qisB_bl, qisL_bl, qisU_bl, qisS_bl, qisD_bl, qisNon_bl, qcooked_bl, qseq_bl, qty_int, qisI_int, qisB_int, qisL_int, qisU_int, qisS_int, qisD_int, qisNon_int, qcooked_int, qseq_int, qty_str, qisI_str, qisB_str, qisL_str, qisU_str, qisS_str, qisD_str, qisNon_str, qcooked_str, qseq_str, qty_lst, qisI_lst, qisB_lst, qisL_lst, qisU_lst, qisS_lst, qisD_lst, qisNon_lst, qcooked_lst, qseq_lst, qty_tup, qisI_tup, qisB_tup, qisL_tup, qisU_tup, qisS_tup, qisD_tup, qisNon_tup, qcooked_tup, qseq_tup, qty_dct, qisI_dct, qisB_dct, qisL_dct, qisU_dct, qisS_dct, qisD_dct, qisNon_dct, qcooked_dct, qseq_dct, qix_lst, qsl_lst, qix_tup, qsl_tup, qisNon_ln, qcooked_ln, and_assoc, exists_and_left, exists_eq_left, exists_eq_left', exists_eq_right, dxLc_eq, dsFor_eq, rngD_0, rngD_eq, zipD_map, enumD_map0, sp__law_pick, rep1]
        refine ⟨by omega, ⟨sa, hrow⟩, ?_, ?_, ?_⟩
        · exact bad .non _ rfl (fun xs e => nomatch e) rfl ⟨"free", lkF, eqF _, eqF _, D.eqv_refl (eqF _), hN2 _ rfl⟩
        · exact bad (.lst []) _ rfl (fun xs e x hx => by cases e; cases hx) rfl ⟨"free", lkF, eqF _, eqF _, D.eqv_refl (eqF _), hN2 _ rfl⟩
        · rw [show repD (21 : Int) [D.lst (List.replicate ss.length (D.bl true))] = List.replicate 21 (D.lst (List.replicate ss.length (D.bl true))) from rep1 21 _]
          refine bad _ _ (okv_lst (okv_rep (okv_lst (okv_rep (x := .bl true) rfl)))) (fun xs e x hx ys hy => ?_) ?_ ⟨"free", lkF, eqF _, eqF _, D.eqv_refl (eqF _), hN2 _ rfl⟩
          · cases e
            rw [List.eq_of_mem_replicate hx] at hy
            cases hy
            simp
            omega
          · unfold badFree
            rfl
    subst hj
    have trip : ∀ {O : Out → Prop} {P : D → D → D → Prop}, O (.exc "BadTrip" (.tup [.int (a : Int), .int ((ss.length : Int) + 1)])) → spBoth [D.ln (ss.map D.int), D.lst (fs.map rowD), .int (a : Int), .int ((ss.length : Int) + 1)] O P := fun {O P} o =>
      both_trip (okv_lst okv_rows) rfl fokL f1 f20 n2L rfl rfl (by
        rw [hsl]
        show (isWithin (.int ((ss.length : Int) + 1)) 1 ss.length && _) = false
        rw [show isWithin (.int ((ss.length : Int) + 1)) 1 ss.length = false by simp [isWithin]; omega]
        rfl) o
    simp [startD, wipeD, dsRet, dsRetN, dsIf, dsSeq, dsNext, dsAsg, dsDrop, dsBreak, dsCont, dsPar, dsAug, dsFrz, dsApp, dsExt, dsPut, dsAugO, dsOwn, dsParOO, dsParDO, dsParDDO, dsFrzA, dxRep, diOwn, dsRaise, deAnd, deOr, deNot, de1, de2, deB, deX, dxB, dxLst, deName, deC, deCall, deIxO, deLenO, deTup, deLst, daCons, daNil, daStar, deChain, dtChain, dtV, dtAnd, dtOr, dtNot, dtYes, deIf, deSl, doNone, doSome, rdAdd, rdSub, rdMul, rdMod, rdDiv, rdPow, rdI, rdIc, rdB, rdLt, rdLe, rdGt, rdGe, rdNeg, rdIs, rdEq, rdNe, rdIx, rdIsN, rdNotN, rdIsB, rdNotB, rdRev, rdSeats, rdCatL, rdCatT, rdRepL, rdLen, rdTuple, rdList, rxList, rdInt, rdMax2, rdMin2, dgName, dgTup, dgCons, dgNil, deRefused, rdRepr, rdNeS, rdEqL, rdNeL, rdRepT, rdIsLn, noOwn, diSeq, diEn, diZp, diR1, diR2, noX,  eqOk_int, eqOk_bl, eqOk_non, eqv_int, eqv_bl, eqv_non, atI_0, atI_1, atI_2, atI_3, qty_non, qisI_non, qisB_non, qisL_non, qisU_non, qisS_non, qisD_non, qisNon_non, qcooked_non, qseq_non, qty_bl, qisI_bl, qisB_bl, qisL_bl, qisU_bl, qisS_bl, qisD_bl, qisNon_bl, qcooked_bl, qseq_bl, qty_int, qisI_int, qisB_int, qisL_int, qisU_int, qisS_int, qisD_int, qisNon_int, qcooked_int, qseq_int, qty_str, qisI_str, qisB_str, qisL_str, qisU_str, qisS_str, qisD_str, qisNon_str, qcooked_str, qseq_str, qty_lst, qisI_lst, qisB_lst, qisL_lst, qisU_lst, qisS_lst, qisD_lst, qisNon_lst, qcooked_lst, qseq_lst, qty_tup, qisI_tup, qisB_tup, qisL_tup, qisU_tup, qisS_tup, qisD_tup, qisNon_tup, qcooked_tup, qseq_tup, qty_dct, qisI_dct, qisB_dct, qisL_dct, qisU_dct, qisS_dct, qisD_dct, qisNon_dct, qcooked_dct, qseq_dct, qix_lst, qsl_lst, qix_tup, qsl_tup, qisNon_ln, qcooked_ln, and_assoc, exists_and_left, exists_eq_left, exists_eq_left', exists_eq_right, dxLc_eq, dsFor_eq, rngD_0, rngD_eq, zipD_map, enumD_map0]
    rcases hz with rfl | rfl | rfl
    · refine .inl ⟨rfl, ?_⟩
      simp [startD, wipeD, dsRet, dsRetN, dsIf, dsSeq, dsNext, dsAsg, dsDrop, dsBreak, dsCont, dsPar, dsAug, dsFrz, dsApp, dsExt, dsPut, dsAugO, dsOwn, dsParOO, dsParDO, dsParDDO, dsFrzA, dxRep, diOwn, dsRaise, deAnd, deOr, deNot, de1, de2, deB, deX, dxB, dxLst, deName, deC, deCall, deIxO, deLenO, deTup, deLst, daCons, daNil, daStar, deChain, dtChain, dtV, dtAnd, dtOr, dtNot, dtYes, deIf, deSl, doNone, doSome, rdAdd, rdSub, rdMul, rdMod, rdDiv, rdPow, rdI, rdIc, rdB, rdLt, rdLe, rdGt, rdGe, rdNeg, rdIs, rdEq, rdNe, rdIx, rdIsN, rdNotN, rdIsB, rdNotB, rdRev, rdSeats, rdCatL, rdCatT, rdRepL, rdLen, rdTuple, rdList, rxList, rdInt, rdMax2, rdMin2, dgName, dgTup, dgCons, dgNil, deRefused, rdRepr, rdNeS, rdEqL, rdNeL, rdRepT, rdIsLn, noOwn, diSeq, diEn, diZp, diR1, diR2, noX,  eqOk_int, eqOk_bl, eqOk_non, eqv_int, eqv_bl, eqv_non, atI_0, atI_1, atI_2, atI_3, qty_non, qisI_non, qisB_non, qisL_non, qisU_non, qisS_non, qisD_non, qisNon_non, qcooked_non, qseq_non, qty_bl, qisI_bl, qisB_bl, qisL_bl, qisU_bl, qisS_bl, qisD_bl, qisNon_bl, qcooked_bl, qseq_bl, qty_int, qisI_int, qisB_int, qisL_int, qisU_int, qisS_int, qisD_int, qisNon_int, qcooked_int, qseq_int, qty_str, qisI_str, qisB_str, qisL_str, qisU_str, qisS_str, qisD_str, qisNon_str, qcooked_str, qseq_str, qty_lst, qisI_lst, qisB_lst, qisL_lst, qisU_lst, qisS_lst, qisD_lst, qisNon_lst, qcooked_lst, qseq_lst, qty_tup, qisI_tup, qisB_tup, qisL_tup, qisU_tup, qisS_tup, qisD_tup, qisNon_tup, qcooked_tup, qseq_tup, qty_dct, qisI_dct, qisB_dct, qisL_dct, qisU_dct, qisS_dct, qisD_dct, qisNon_dct, qcooked_dct, qseq_dct, qix_lst, qsl_lst, qix_tup, qsl_tup, qisNon_ln, qcooked_ln, and_assoc, exists_and_left, exists_eq_left, exists_eq_left', exists_eq_right, dxLc_eq, dsFor_eq, rngD_0, rngD_eq, zipD_map, enumD_map0]
      exact trip ⟨"trip", lkT, eqT _ _, eqT _ _, D.eqv_refl (eqT _ _)⟩
    · refine .inr (.inl ⟨rfl, ?_⟩)
      simp [startD, wipeD, dsRet, dsRetN, dsIf, dsSeq, dsNext, dsAsg, dsDrop, dsBreak, dsCont, dsPar, dsAug, dsFrz, dsApp, dsExt, dsPut, dsAugO, dsOwn, dsParOO, dsParDO, dsParDDO, dsFrzA, dxRep, diOwn, dsRaise, deAnd, deOr, deNot, de1, de2, deB, deX, dxB, dxLst, deName, deC, deCall, deIxO, deLenO, deTup, deLst, daCons, daNil, daStar, deChain, dtChain, dtV, dtAnd, dtOr, dtNot, dtYes, deIf, deSl, doNone, doSome, rdAdd, rdSub, rdMul, rdMod, rdDiv, rdPow, rdI, rdIc, rdB, rdLt, rdLe, rdGt, rdGe, rdNeg, rdIs, rdEq, rdNe, rdIx, rdIsN, rdNotN, rdIsB, rdNotB, rdRev, rdSeats, rdCatL, rdCatT, rdRepL, rdLen, rdTuple, rdList, rxList, rdInt, rdMax2, rdMin2, dgName, dgTup, dgCons, dgNil, deRefused, rdRepr, rdNeS, rdEqL, rdNeL, rdRepT, rdIsLn, noOwn, diSeq, diEn, diZp, diR1, diR2, noX,  eqOk_int, eqOk_bl, eqOk_non, eqv_int, eqv_bl, eqv_non, atI_0, atI_1, atI_2, atI_3, qty_non, qisI_non, qisB_non, qisL_non, qisU_non, qisS_non, qisD_non, qisNon_non, qcooked_non, qseq_non, qty_bl, qisI_bl, qisB_bl, qisL_bl, qisU_bl, qisS_bl, qisD_bl, qisNon_bl, qcooked_bl, qseq_bl, qty_int, qisI_int, qisB_int, qisL_int, qisU_int, qisS_int, qisD_int, qisNon_int, qcooked_int, qseq_int, qty_str, qisI_str, qisB_str, qisL_str, qisU_str, qisS_str, qisD_str, qisNon_str, qcooked_str, qseq_str, qty_lst, qisI_lst, qisB_lst, qisL_lst, qisU_lst, qisS_lst, qisD_lst, qisNon_lst, qcooked_lst, qseq_lst, qty_tup, qisI_tup, qisB_tup, qisL_tup, qisU_tup, qisS_tup, qisD_tup, qisNon_tup, qcooked_tup, qseq_tup, qty_dct, qisI_dct, qisB_dct, qisL_dct, qisU_dct, qisS_dct, qisD_dct, qisNon_dct, qcooked_dct, qseq_dct, qix_lst, qsl_lst, qix_tup, qsl_tup, qisNon_ln, qcooked_ln, and_assoc, exists_and_left, exists_eq_left, exists_eq_left', exists_eq_right, dxLc_eq, dsFor_eq, rngD_0, rngD_eq, zipD_map, enumD_map0]
      exact trip ⟨"trip", lkT, eqT _ _, eqT _ _, D.eqv_refl (eqT _ _)⟩
    · refine .inr (.inr ⟨rfl, ?_⟩)
      simp [startD, wipeD, dsRet, dsRetN, dsIf, dsSeq, dsNext, dsAsg, dsDrop, dsBreak, dsCont, dsPar, dsAug, dsFrz, dsApp, dsExt, dsPut, dsAugO, dsOwn, dsParOO, dsParDO, dsParDDO, dsFrzA, dxRep, diOwn, dsRaise, deAnd, deOr, deNot, de1, de2, deB, deX, dxB, dxLst, deName, deC, deCall, deIxO, deLenO, deTup, deLst, daCons, daNil, daStar, deChain, dtChain, dtV, dtAnd, dtOr, dtNot, dtYes, deIf, deSl, doNone, doSome, rdAdd, rdSub, rdMul, rdMod, rdDiv, rdPow, rdI, rdIc, rdB, rdLt, rdLe, rdGt, rdGe, rdNeg, rdIs, rdEq, rdNe, rdIx, rdIsN, rdNotN, rdIsB, rdNotB, rdRev, rdSeats, rdCatL, rdCatT, rdRepL, rdLen, rdTuple, rdList, rxList, rdInt, rdMax2, rdMin2, dgName, dgTup, dgCons, dgNil, deRefused, rdRepr, rdNeS, rdEqL, rdNeL, rdRepT, rdIsLn, noOwn, diSeq, diEn, diZp, diR1, diR2, noX,  eqOk_int, eqOk_bl, eqOk_non, eqv_int, eqv_bl, eqv_non, atI_0, atI_1, atI_2, atI_3, qty_non, qisI_non, qisB_non, qisL_non, qisU_non, qisS_non, qisD_non, qisNon_non, qcooked_non, qseq_non, qty_bl, qisI_bl, qisB_bl, qisL_bl, qisU_bl, qisS_bl, qisD_bl, qisNon_bl, qcooked_bl, qseq_bl, qty_int, qisI_int, qisB_int, qisL_int, qisU_int, qisS_int, qisD_int, qisNon_int, qcooked_int, qseq_int, qty_str, qisI_str, qisB_str, qisL_str, qisU_str, qisS_str, qisD_str, qisNon_str, qcooked_str, qseq_str, qty_lst, qisI_lst, qisB_lst, qisL_lst, qisU_lst, qisS_lst, qisD_lst, qisNon_lst, qcooked_lst, qseq_lst, qty_tup, qisI_tup, qisB_tup, qisL_tup, qisU_tup, qisS_tup, qisD_tup, qisNon_tup, qcooked_tup, qseq_tup, qty_dct, qisI_dct, qisB_dct, qisL_dct, qisU_dct, qisS_dct, qisD_dct, qisNon_dct, qcooked_dct, qseq_dct, qix_lst, qsl_lst, qix_tup, qsl_tup, qisNon_ln, qcooked_ln, and_assoc, exists_and_left, exists_eq_left, exists_eq_left', exists_eq_right, dxLc_eq, dsFor_eq, rngD_0, rngD_eq, zipD_map, enumD_map0]
      exact trip ⟨"trip", lkT, eqT _ _, eqT _ _, D.eqv_refl (eqT _ _)⟩
  obtain ⟨x22, rfl⟩ := hj
  simp [startD, wipeD, dsRet, dsRetN, dsIf, dsSeq, dsNext, dsAsg, dsDrop, dsBreak, dsCont, dsPar, dsAug, dsFrz, dsApp, dsExt, dsPut, dsAugO, dsOwn, dsParOO, dsParDO, dsParDDO, dsFrzA, dxRep, diOwn, dsRaise, deAnd, deOr, deNot, de1, de2, deB, deX, dxB, dxLst, deName, deC, deCall, deIxO, deLenO, deTup, deLst, daCons, daNil, daStar, deChain, dtChain, dtV, dtAnd, dtOr, dtNot, dtYes, deIf, deSl, doNone, doSome, rdAdd, rdSub, rdMul, rdMod, rdDiv, rdPow, rdI, rdIc, rdB, rdLt, rdLe, rdGt, rdGe, rdNeg, rdIs, rdEq, rdNe, rdIx, rdIsN, rdNotN, rdIsB, rdNotB, rdRev, rdSeats, rdCatL, rdCatT, rdRepL, rdLen, rdTuple, rdList, rxList, rdInt, rdMax2, rdMin2, dgName, dgTup, dgCons, dgNil, deRefused, rdRepr, rdNeS, rdEqL, rdNeL, rdRepT, rdIsLn, noOwn, diSeq, diEn, diZp, diR1, diR2, noX,  eqOk_int, eqOk_bl, eqOk_non, eqv_int, eqv_bl, eqv_non, atI_0, atI_1, atI_2, atI_3, qty_non, qisI_non, qisB_non, qisL_non, qisU_non, qisS_non, qisD_non, qisNon_non, qcooked_non, qseq_non, qty_bl, qisI_bl, qisB_bl, qisL_bl, qisU_bl, qisS_bl, qisD_bl, qisNon_bl, qcooked_bl, qseq_bl, qty_int, qisI_int, qisB_int, qisL_int, qisU_int, qisS_int, qisD_int, qisNon_int, qcooked_int, qseq_int, qty_str, qisI_str, qisB_str, qisL_str, qisU_str, qisS_str, qisD_str, qisNon_str, qcooked_str, qseq_str, qty_lst, qisI_lst, qisB_lst, qisL_lst, qisU_lst, qisS_lst, qisD_lst, qisNon_lst, qcooked_lst, qseq_lst, qty_tup, qisI_tup, qisB_tup, qisL_tup, qisU_tup, qisS_tup, qisD_tup, qisNon_tup, qcooked_tup, qseq_tup, qty_dct, qisI_dct, qisB_dct, qisL_dct, qisU_dct, qisS_dct, qisD_dct, qisNon_dct, qcooked_dct, qseq_dct, qix_lst, qsl_lst, qix_tup, qsl_tup, qisNon_ln, qcooked_ln, and_assoc, exists_and_left, exists_eq_left, exists_eq_left', exists_eq_right, dxLc_eq, dsFor_eq, rngD_0, rngD_eq, zipD_map, enumD_map0]
  refine walk_trip (okv_lst okv_rows) rfl fokL f1 f20 n2L rfl rfl rfl (fun ys e => nomatch e) ?_ ⟨"trip", lkT, eqT _ _, eqT _ _, D.eqv_refl (eqT _ _)⟩
  rw [hsl]
  show (_ && isWithin (.int (e : Int)) 0 ((a : Int) - 1)) = false
  rw [show isWithin (.int (e : Int)) 0 ((a : Int) - 1) = false by simp [isWithin]; omega, Bool.and_false]
theorem run_law (T : Txt K mg) {f c Pt gR a : Addr} {fd fdR : FuncData} {ns : List Int} (F : FnP K "law" s_law f fd) (c__law_alike : Cl P w K mg base 8 "_law_alike" sp__law_alike []) (c__law_fewest : Cl P w K mg base 1 "_law_fewest" sp__law_fewest []) (c__law_is_seating : Cl P w K mg base 1 "_law_is_seating" sp__law_is_seating []) (c__law_line : Cl P w K mg base 3 "_law_line" sp__law_line []) (c__law_pick : Cl P w K mg base 2 "_law_pick" sp__law_pick []) (c__law_seating : Cl P w K mg base 1 "_law_seating" sp__law_seating []) (c__law_taken : Cl P w K mg base 1 "_law_taken" sp__law_taken []) (c__law_walk : Cl P w K mg base 1 "_law_walk" sp__law_walk []) (c_best_walk : Cl P w K mg base 5 "best_walk" sp_best_walk []) (c_change_legs : Cl P w K mg base 6 "change_legs" sp_change_legs []) (c_fewest_changes : Cl P w K mg base 7 "fewest_changes" sp_fewest_changes []) (c_fullest : Cl P w K mg base 4 "fullest" sp_fullest []) (c_is_seating : Cl P w K mg base 4 "is_seating" sp_is_seating []) (c_is_walk : Cl P w K mg base 5 "is_walk" sp_is_walk []) (c_seating : Cl P w K mg base 4 "seating" sp_seating []) (c_seats_needed : Cl P w K mg base 4 "seats_needed" sp_seats_needed [])  (lnOk : Ln P w K mg base 3) (lnEq : LnEq P w K mg base 1) (FR : FnP K "_law_refused" s__law_refused gR fdR) (bR : Binds K fdR ["ask"] []) (hmR : mg "_law_refused" = some (.ref gR)) (hx : exmAll K refTab) (x_BadFree : Er P w K mg base 1 "BadFree") (x_BadPassengers : Er P w K mg base 1 "BadPassengers") (x_BadTrip : Er P w K mg base 1 "BadTrip")
    (TB : LamX.TabB base mg c Pt) (hcode : fd.code = .ref c) {s : Shared} {H : Hp} (e0 : Env0 P w K mg base callerA [] s H) (bt : BindsTo s fd ⟨[.ref a], []⟩ [("script", .ref a)]) (scr : SqL K H a (ns.map V.int)) (hP : H Pt = some (.tbl #[])) (only : ∀ b ps, H b = some (.tbl ps) → b = Pt) :
    codeAny (model P w) callerA (.call (.ref f) ⟨[.ref a], []⟩) (CR (L2.CX P w) [] P w H s (fun v _ => v = .bl true) E0) s := by
  have sc := sc_law
  have hr0 : Room 14 callerA := ⟨rfl, by decide, by decide⟩
  obtain ⟨oc, od, dV, kV, doc, pm, an, cdv, ct, osl, efd, lk, hcd, _, _⟩ := F.ex
  have ec : cdv = .ref c := by
    rw [efd] at hcode
    exact hcode
  subst ec
  subst efd
  refine LamX.run_ofS (N := ["script", "row", "seats", "line", "legs", "people", "k", "first", "due", "loads", "turn", "at", "thing", "odd", "often", "free", "end", "walk", "fewest", "changes", "good", "bad", "ask", "wrong", "leg", "one"]) (ps := ["script"]) (us := [.ref a]) (vs := [.ref a]) lk hcd sc hr0 e0 bt (.cons rfl .nil) rfl (fun hr => ?_)
  refine ⟨_, pss_cons (ps_set (i := 1) sc.nd rfl (Or.inr rfl) (pe_lst (pa_cons (pv 0) (pa_cons pe_int (pa_cons pe_int (pa_cons pe_int pa_nil))))))
    (show PSs (cxLaw P w K mg base f c callerA s H) (defBody s_law).tail (fun D σ H' => ∃ (G : Gx) (t : DS), PSsd (cxLaw P w K mg base f c callerA s H) G (defBody s_law).tail t ∧ tsOf K G t D σ H') from ⟨fun pins s' σ H' D I ⟨G, t, h, z⟩ => h.run pins s' σ H' D I z⟩), ?_⟩
  refine ⟨.ref a, rfl, by show 4 ≤ sizeLine; decide, fun p hp => ?_⟩
  have pne : Pt ≠ p := fun z => by
    rw [← z, hP] at hp
    cases hp
  let B : Hp := fun b => if b = Pt then none else H b
  let H1 : Hp := upd H p (.lst [.ref a, .int 0, .int 1414, .int 0])
  let Fr : Fs := ⟨some (p, a), tabsL Pt⟩
  have eB : Evl.Ex B H1 := fun b o h => by
    have h : (if b = Pt then none else H b) = some o := h
    by_cases hb : b = Pt
    · rw [if_pos hb] at h
      cases h
    · rw [if_neg hb] at h
      have hbp : b ≠ p := fun z => by
        rw [z, hp] at h
        cases h
      show upd H p _ b = some o
      rw [upd_ne hbp]
      exact h
  have sB : SqL K B a (ns.map V.int) := by
    have keep : ∀ u, H a = some u → (∀ ps, u ≠ .tbl ps) → B a = some u := fun u h hn => by
      show (if a = Pt then none else H a) = some u
      rw [if_neg fun z => ?_]
      · exact h
      · rw [z, hP] at h
        exact hn _ (Option.some.inj h).symm
    rcases scr with (h | ⟨o, h⟩) | h
    · exact .inl (.inl (keep _ h fun _ z => by cases z))
    · exact .inl (.inr ⟨o, keep _ h fun _ z => by cases z⟩)
    · exact .inr h
  have fk : Fok K Fr B H1 := by
    refine ⟨fun r sa h => ?_, fun q hq => ?_, fun q hq => ?_, fun b ps h => ?_⟩
    · cases h
      refine ⟨?_, ⟨ns, sB⟩, 0, 1414, 0, upd_same, by decide, by decide, by decide⟩
      show (if p = Pt then none else H p) = none
      split
      · rfl
      · exact hp
    · rw [List.mem_singleton.mp hq]
      exact LamX.TabS.nil (show upd H p _ Pt = _ by rw [upd_ne pne]; exact hP)
    · rw [List.mem_singleton.mp hq]
      exact if_pos rfl
    · have h : (if b = Pt then none else H b) = some (.tbl ps) := h
      by_cases hb : b = Pt
      · rw [if_pos hb] at h
        cases h
      · rw [if_neg hb] at h
        exact hb (only b ps h)
  obtain ⟨t, ht, hread⟩ := law_data (P := P) (w := w) (K := K) (mg := mg) (base := base) (f := f) (c := c) (Pt := Pt) (gR := gR) (r := p) (sa := a) (fdR := fdR) (s0 := s) (H0 := H) T c__law_alike c__law_fewest c__law_is_seating c__law_line c__law_pick c__law_seating c__law_taken c__law_walk c_best_walk c_change_legs c_fewest_changes c_fullest c_is_seating c_is_walk c_seating c_seats_needed lnOk lnEq FR bR hmR hx x_BadFree x_BadPassengers x_BadTrip TB (A := callerA) rfl hr ⟨Fr, B, H1⟩ rfl rfl
  have st0 : Stt K ⟨Fr, B, H1⟩ (L2.start ["script", "row", "seats", "line", "legs", "people", "k", "first", "due", "loads", "turn", "at", "thing", "odd", "often", "free", "end", "walk", "fewest", "changes", "good", "bad", "ask", "wrong", "leg", "one"] [.ref a]) B H1 (startD ["script", "row", "seats", "line", "legs", "people", "k", "first", "due", "loads", "turn", "at", "thing", "odd", "often", "free", "end", "walk", "fewest", "changes", "good", "bad", "ask", "wrong", "leg", "one"] [.raw (.ref a)]) := RpA.start eB fk (.cons (.raw _) .nil)
  have st1 := st0.put (i := 1) (v := .ref p) (d := .raw (.ref p)) (.raw _)
  exact ⟨⟨Fr, B, H1⟩, t, ht, B, _, _, st1, hread, ⟨fun _ _ _ _ _ _ z => z.elim, fun v d B' H' m e r => by
    have e : d = .bl true := e
    subst e
    cases r
    rfl, fun _ _ _ _ _ _ z => z.elim, fun _ _ _ _ _ _ z => z.elim⟩⟩

end
end K14
end
-- H_14
section
set_option Elab.async false
set_option linter.all false
set_option maxRecDepth 100000
set_option maxHeartbeats 0
set_option autoImplicit false
namespace K14
open PySem PySem.Spec PyProof.Rows L2 Sd
def dd_is_integer : He.DefD := ⟨("is_integer", none), "is_integer", "is_integer", defArgs s_is_integer, defBody s_is_integer, defScope s_is_integer, [], []⟩
def dd_is_within : He.DefD := ⟨("is_within", none), "is_within", "is_within", defArgs s_is_within, defBody s_is_within, defScope s_is_within, [], []⟩
def dd_is_row : He.DefD := ⟨("is_row", none), "is_row", "is_row", defArgs s_is_row, defBody s_is_row, defScope s_is_row, [], []⟩
def dd_is_tuple_of : He.DefD := ⟨("is_tuple_of", none), "is_tuple_of", "is_tuple_of", defArgs s_is_tuple_of, defBody s_is_tuple_of, defScope s_is_tuple_of, [], []⟩
def dd_SeatError___init__ : He.DefD := ⟨("SeatError", some "__init__"), "__init__", "SeatError.__init__", defArgs s_SeatError___init__, defBody s_SeatError___init__, defScope s_SeatError___init__, [.non], []⟩
def dd_check_free : He.DefD := ⟨("check_free", none), "check_free", "check_free", defArgs s_check_free, defBody s_check_free, defScope s_check_free, [], []⟩
def dd_check_trip : He.DefD := ⟨("check_trip", none), "check_trip", "check_trip", defArgs s_check_trip, defBody s_check_trip, defScope s_check_trip, [], []⟩
def dd_check_both : He.DefD := ⟨("check_both", none), "check_both", "check_both", defArgs s_check_both, defBody s_check_both, defScope s_check_both, [], []⟩
def dd_is_walk : He.DefD := ⟨("is_walk", none), "is_walk", "is_walk", defArgs s_is_walk, defBody s_is_walk, defScope s_is_walk, [], []⟩
def dd_free_until : He.DefD := ⟨("free_until", none), "free_until", "free_until", defArgs s_free_until, defBody s_free_until, defScope s_free_until, [], []⟩
def dd_told_walk : He.DefD := ⟨("told_walk", none), "told_walk", "told_walk", defArgs s_told_walk, defBody s_told_walk, defScope s_told_walk, [], []⟩
def dd_best_walk : He.DefD := ⟨("best_walk", none), "best_walk", "best_walk", defArgs s_best_walk, defBody s_best_walk, defScope s_best_walk, [], []⟩
def dd_told_changes : He.DefD := ⟨("told_changes", none), "told_changes", "told_changes", defArgs s_told_changes, defBody s_told_changes, defScope s_told_changes, [], []⟩
def dd_change_legs : He.DefD := ⟨("change_legs", none), "change_legs", "change_legs", defArgs s_change_legs, defBody s_change_legs, defScope s_change_legs, [], []⟩
def dd_fewest_changes : He.DefD := ⟨("fewest_changes", none), "fewest_changes", "fewest_changes", defArgs s_fewest_changes, defBody s_fewest_changes, defScope s_fewest_changes, [], []⟩
def dd_Line___init__ : He.DefD := ⟨("Line", some "__init__"), "__init__", "Line.__init__", defArgs s_Line___init__, defBody s_Line___init__, defScope s_Line___init__, [], []⟩
def dd_Line___eq__ : He.DefD := ⟨("Line", some "__eq__"), "__eq__", "Line.__eq__", defArgs s_Line___eq__, defBody s_Line___eq__, defScope s_Line___eq__, [], []⟩
def dd_check_passengers : He.DefD := ⟨("check_passengers", none), "check_passengers", "check_passengers", defArgs s_check_passengers, defBody s_check_passengers, defScope s_check_passengers, [], []⟩
def dd_meet : He.DefD := ⟨("meet", none), "meet", "meet", defArgs s_meet, defBody s_meet, defScope s_meet, [], []⟩
def dd_is_seating : He.DefD := ⟨("is_seating", none), "is_seating", "is_seating", defArgs s_is_seating, defBody s_is_seating, defScope s_is_seating, [], []⟩
def dd_told_seating : He.DefD := ⟨("told_seating", none), "told_seating", "told_seating", defArgs s_told_seating, defBody s_told_seating, defScope s_told_seating, [], []⟩
def dd_seating : He.DefD := ⟨("seating", none), "seating", "seating", defArgs s_seating, defBody s_seating, defScope s_seating, [], []⟩
def dd_seats_needed : He.DefD := ⟨("seats_needed", none), "seats_needed", "seats_needed", defArgs s_seats_needed, defBody s_seats_needed, defScope s_seats_needed, [], []⟩
def dd_fullest : He.DefD := ⟨("fullest", none), "fullest", "fullest", defArgs s_fullest, defBody s_fullest, defScope s_fullest, [], []⟩
def dd__law_taken : He.DefD := ⟨("_law_taken", none), "_law_taken", "_law_taken", defArgs s__law_taken, defBody s__law_taken, defScope s__law_taken, [], []⟩
def dd__law_pick : He.DefD := ⟨("_law_pick", none), "_law_pick", "_law_pick", defArgs s__law_pick, defBody s__law_pick, defScope s__law_pick, [], []⟩
def dd__law_alike : He.DefD := ⟨("_law_alike", none), "_law_alike", "_law_alike", defArgs s__law_alike, defBody s__law_alike, defScope s__law_alike, [], []⟩
def dd__law_line : He.DefD := ⟨("_law_line", none), "_law_line", "_law_line", defArgs s__law_line, defBody s__law_line, defScope s__law_line, [], []⟩
def dd__law_seating : He.DefD := ⟨("_law_seating", none), "_law_seating", "_law_seating", defArgs s__law_seating, defBody s__law_seating, defScope s__law_seating, [], []⟩
def dd__law_is_seating : He.DefD := ⟨("_law_is_seating", none), "_law_is_seating", "_law_is_seating", defArgs s__law_is_seating, defBody s__law_is_seating, defScope s__law_is_seating, [], []⟩
def dd__law_fewest : He.DefD := ⟨("_law_fewest", none), "_law_fewest", "_law_fewest", defArgs s__law_fewest, defBody s__law_fewest, defScope s__law_fewest, [], []⟩
def dd__law_walk : He.DefD := ⟨("_law_walk", none), "_law_walk", "_law_walk", defArgs s__law_walk, defBody s__law_walk, defScope s__law_walk, [], []⟩
def dd__law_refused : He.DefD := ⟨("_law_refused", none), "_law_refused", "_law_refused", defArgs s__law_refused, defBody s__law_refused, defScope s__law_refused, [], []⟩
def dd_law : He.DefD := ⟨("law", none), "law", "law", defArgs s_law, defBody s_law, defScope s_law, [], []⟩
def fn : List He.DefD := [dd_is_integer, dd_is_within, dd_is_row, dd_is_tuple_of, dd_SeatError___init__, dd_check_free, dd_check_trip, dd_check_both, dd_is_walk, dd_free_until, dd_told_walk, dd_best_walk, dd_told_changes, dd_change_legs, dd_fewest_changes, dd_Line___init__, dd_Line___eq__, dd_check_passengers, dd_meet, dd_is_seating, dd_told_seating, dd_seating, dd_seats_needed, dd_fullest, dd__law_taken, dd__law_pick, dd__law_alike, dd__law_line, dd__law_seating, dd__law_is_seating] ++ [dd__law_fewest, dd__law_walk, dd__law_refused, dd_law]
def fa : List He.Fa := [.free "all", .free "bool", .free "dict", .free "enumerate", .free "int", .free "isinstance", .free "len", .free "list", .free "max", .free "min", .free "range", .free "sorted", .free "str", .free "tuple", .int "MOST_LEGS" 10, .int "MOST_PASSENGERS" 40, .int "MOST_SEATS_lines" 20, .int "MOST_SEATS_walks" 20, .glo "Line", .glo "best_walk", .glo "change_legs", .glo "fewest_changes", .glo "fullest", .glo "seating", .glo "seats_needed", .glo "is_integer", .glo "is_within", .glo "is_row", .glo "is_tuple_of", .glo "check_free"] ++ [.glo "check_trip", .glo "check_both", .glo "is_walk", .glo "free_until", .glo "told_walk", .glo "told_changes", .glo "check_passengers", .glo "meet", .glo "is_seating", .glo "told_seating", .glo "_law_taken", .glo "_law_pick", .glo "_law_alike", .glo "_law_line", .glo "_law_seating", .glo "_law_is_seating", .glo "_law_fewest", .glo "_law_walk", .glo "_law_refused", .glo "law", .glo "BadFree", .glo "BadPassengers", .glo "BadTrip", .glo "BadSeats", .cls "Line", .noat "Line" "seats", .mkr "Line"]
def tf : List He.Defn := [("law", none)]
def exmB (K : PySem.W.Frag) : Bool := refTab.all fun p => refTab.all fun q => decide (PySem.W.exmOne K (.ref (He.ga K p.1)) (.ref (He.ga K q.1)) = some (decide (p.1 = q.1)))
theorem exmB_ok {K : PySem.W.Frag} (h : exmB K = true) : exmAll K refTab := fun p hp q hq => of_decide_eq_true (List.all_eq_true.mp (List.all_eq_true.mp h p hp) q hq)
def ex (K : PySem.W.Frag) : Bool := errB K "BadFree" && errB K "BadPassengers" && errB K "BadTrip" && errB K "BadSeats" && (lineB K && exmB K)
abbrev R : PySem.W.OpenRow := PySem.W.OpenLaw.row PySem.Challenge.rw_seatsold_k14_whole_seating_and_walks
abbrev hk : PySem.W.Hook := He.hookX 5 fa fn [] tf ex
def ob (s : PySem.W.SharedT) : He.AlX := He.obsX 5 fa fn [] tf ex (HandSHeadRun.getT s)
theorem ob_eq (s : PySem.W.SharedT) : ob s = hk.obs s.abs := He.obsX_eq (HandSHeadRun.getT_eq s)
def n1 : List Str := ["is_integer", "is_within", "is_row", "is_tuple_of", "SeatError", "BadSeats", "BadPassengers", "BadFree", "BadTrip", "MOST_SEATS_walks", "check_free", "check_trip", "check_both", "is_walk", "free_until", "told_walk", "best_walk", "told_changes", "change_legs", "fewest_changes", "MOST_LEGS"]
def n2 : List Str := ["MOST_SEATS_lines", "Line", "MOST_PASSENGERS", "check_passengers", "meet", "is_seating", "told_seating", "seating", "seats_needed", "fullest", "_law_taken", "_law_pick", "_law_alike", "_law_line", "_law_seating", "_law_is_seating", "_law_fewest", "_law_walk", "_law_refused", "__name__"]
theorem run (w : World) : HandSHeadRun.RunEq R (PySem.W.view R.prog [46]) hk ob 4000 (n1 ++ n2) w := by
  intro os
  kernel_rfl
theorem txt_ok {K : PySem.W.Frag} {h : Heap} {mg : Str → Option Value} (X : K.In h) (G : h.Ns mainGlobals mg) (c : He.SaysD fa fn K) (m : ex K = true) : Txt K mg where
  b_all := He.free_ok X G (c.fact 0 (f := .free "all") rfl)
  b_bool := He.free_ok X G (c.fact 1 (f := .free "bool") rfl)
  b_dict := He.free_ok X G (c.fact 2 (f := .free "dict") rfl)
  b_enumerate := He.free_ok X G (c.fact 3 (f := .free "enumerate") rfl)
  b_int := He.free_ok X G (c.fact 4 (f := .free "int") rfl)
  b_isinstance := He.free_ok X G (c.fact 5 (f := .free "isinstance") rfl)
  b_len := He.free_ok X G (c.fact 6 (f := .free "len") rfl)
  b_list := He.free_ok X G (c.fact 7 (f := .free "list") rfl)
  b_max := He.free_ok X G (c.fact 8 (f := .free "max") rfl)
  b_min := He.free_ok X G (c.fact 9 (f := .free "min") rfl)
  b_range := He.free_ok X G (c.fact 10 (f := .free "range") rfl)
  b_sorted := He.free_ok X G (c.fact 11 (f := .free "sorted") rfl)
  b_str := He.free_ok X G (c.fact 12 (f := .free "str") rfl)
  b_tuple := He.free_ok X G (c.fact 13 (f := .free "tuple") rfl)
  c_MOST_LEGS := He.int_ok X G (c.fact 14 (f := .int "MOST_LEGS" 10) rfl)
  c_MOST_PASSENGERS := He.int_ok X G (c.fact 15 (f := .int "MOST_PASSENGERS" 40) rfl)
  c_MOST_SEATS_lines := He.int_ok X G (c.fact 16 (f := .int "MOST_SEATS_lines" 20) rfl)
  c_MOST_SEATS_walks := He.int_ok X G (c.fact 17 (f := .int "MOST_SEATS_walks" 20) rfl)
  g_Line := He.glo_ok X G (c.fact 18 (f := .glo "Line") rfl)
  g_best_walk := He.glo_ok X G (c.fact 19 (f := .glo "best_walk") rfl)
  g_change_legs := He.glo_ok X G (c.fact 20 (f := .glo "change_legs") rfl)
  g_fewest_changes := He.glo_ok X G (c.fact 21 (f := .glo "fewest_changes") rfl)
  g_fullest := He.glo_ok X G (c.fact 22 (f := .glo "fullest") rfl)
  g_seating := He.glo_ok X G (c.fact 23 (f := .glo "seating") rfl)
  g_seats_needed := He.glo_ok X G (c.fact 24 (f := .glo "seats_needed") rfl)
  clLine := He.cls_ok (c.fact 54 (f := .cls "Line") rfl)
  nSeats := He.noat_ok (c.fact 55 (f := .noat "Line" "seats") rfl)
  lnF := by
    unfold ex at m
    simp only [Bool.and_eq_true] at m
    exact lineB_ok m.2.1
theorem errs_ok {K : PySem.W.Frag} (m : ex K = true) : (ErrF K "BadFree" ∧ ErrF K "BadPassengers" ∧ ErrF K "BadTrip" ∧ ErrF K "BadSeats") ∧ exmAll K refTab := by
  unfold ex at m
  simp only [Bool.and_eq_true] at m
  obtain ⟨m, _, m2⟩ := m
  obtain ⟨⟨⟨e0, e1⟩, e2⟩, e3⟩ := m
  exact ⟨⟨errB_ok e0, errB_ok e1, errB_ok e2, errB_ok e3⟩, exmB_ok m2⟩
theorem at_law {P : Program} {w : World} {K : PySem.W.Frag} {mg : Str → Option Value} {s1 : Shared} {a : Addr} {ns : List Int} {base : Heap} {H : Hp} (A : AtCall P w K mg [He.cT K ("law", none)] s1 a ns base H) (c : He.SaysD fa fn K) (m : ex K = true) :
    codeAny (model P w) callerA (.call (.ref (He.ga K "law")) ⟨[.ref a], []⟩) (CR (L2.CX P w) [] P w H s1 (fun v _ => v = .bl true) E0) s1 := by
  have X := A.kin
  have G := A.glo
  have T := txt_ok X G c m
  obtain ⟨⟨er0, er1, er2, er3⟩, hx⟩ := errs_ok m
  obtain ⟨fd_SeatError___init__, F_SeatError___init__⟩ : ∃ fd, FunD K "__init__" "SeatError.__init__" (defArgs s_SeatError___init__) (defBody s_SeatError___init__) (defScope s_SeatError___init__) [.non] [] (He.fAd K ("SeatError", some "__init__")) fd := c.def_ 4 (d := dd_SeatError___init__) rfl
  obtain ⟨d0, v0, b0⟩ := F_SeatError___init__.binds1 (ps := ["self", "value"]) 2 1 (by simp) rfl (fun _ _ _ _ _ _ _ us its h1 h2 => match us, its, h1, h2 with | [_, _], [_], _, _ => ⟨_, rfl, rfl⟩)
  obtain ⟨d1, v1, b1⟩ := F_SeatError___init__.binds1 (ps := ["self", "value"]) 1 0 (by simp) rfl (fun _ _ _ _ _ _ _ us its h1 h2 => match us, its, h1, h2 with | [_], [_], _, _ => ⟨_, rfl, rfl⟩)
  cases v0
  obtain ⟨u1, rfl, r1⟩ := vals1 v1
  cases r1
  have x_BadFree : Er P w K mg base 1 "BadFree" := ⟨er0, He.glo_ok X G (c.fact 50 (f := .glo "BadFree") rfl), fd_SeatError___init__, [], ok_SeatError_init F_SeatError___init__, b0, b1⟩
  have x_BadPassengers : Er P w K mg base 1 "BadPassengers" := ⟨er1, He.glo_ok X G (c.fact 51 (f := .glo "BadPassengers") rfl), fd_SeatError___init__, [], ok_SeatError_init F_SeatError___init__, b0, b1⟩
  have x_BadTrip : Er P w K mg base 1 "BadTrip" := ⟨er2, He.glo_ok X G (c.fact 52 (f := .glo "BadTrip") rfl), fd_SeatError___init__, [], ok_SeatError_init F_SeatError___init__, b0, b1⟩
  have x_BadSeats : Er P w K mg base 1 "BadSeats" := ⟨er3, He.glo_ok X G (c.fact 53 (f := .glo "BadSeats") rfl), fd_SeatError___init__, [], ok_SeatError_init F_SeatError___init__, b0, b1⟩
  obtain ⟨fd_is_integer, F_is_integer⟩ : ∃ fd, FnP K "is_integer" s_is_integer (He.ga K "is_integer") fd := c.def_ 0 (d := dd_is_integer) rfl
  have b_is_integer : Binds K fd_is_integer ["thing"] [] := F_is_integer.bindsN fun _ _ _ _ _ _ us hl => match us, hl with | [_], _ => rfl
  have c_is_integer : Sd.Cl P w K mg base 1 "is_integer" sp_is_integer [] := Cl.mk' F_is_integer (ok_is_integer T F_is_integer  ) (He.glo_ok X G (c.fact 25 (f := .glo "is_integer") rfl)) b_is_integer
  obtain ⟨fd_is_within, F_is_within⟩ : ∃ fd, FnP K "is_within" s_is_within (He.ga K "is_within") fd := c.def_ 1 (d := dd_is_within) rfl
  have b_is_within : Binds K fd_is_within ["thing", "least", "most"] [] := F_is_within.bindsN fun _ _ _ _ _ _ us hl => match us, hl with | [_, _, _], _ => rfl
  have c_is_within : Sd.Cl P w K mg base 2 "is_within" sp_is_within [] := Cl.mk' F_is_within (ok_is_within T F_is_within (c_is_integer := c_is_integer) ) (He.glo_ok X G (c.fact 26 (f := .glo "is_within") rfl)) b_is_within
  obtain ⟨fd_is_row, F_is_row⟩ : ∃ fd, FnP K "is_row" s_is_row (He.ga K "is_row") fd := c.def_ 2 (d := dd_is_row) rfl
  have b_is_row : Binds K fd_is_row ["thing"] [] := F_is_row.bindsN fun _ _ _ _ _ _ us hl => match us, hl with | [_], _ => rfl
  have c_is_row : Sd.Cl P w K mg base 1 "is_row" sp_is_row [] := Cl.mk' F_is_row (ok_is_row T F_is_row  ) (He.glo_ok X G (c.fact 27 (f := .glo "is_row") rfl)) b_is_row
  obtain ⟨fd_is_tuple_of, F_is_tuple_of⟩ : ∃ fd, FnP K "is_tuple_of" s_is_tuple_of (He.ga K "is_tuple_of") fd := c.def_ 3 (d := dd_is_tuple_of) rfl
  have b_is_tuple_of : Binds K fd_is_tuple_of ["thing", "many"] [] := F_is_tuple_of.bindsN fun _ _ _ _ _ _ us hl => match us, hl with | [_, _], _ => rfl
  have c_is_tuple_of : Sd.Cl P w K mg base 1 "is_tuple_of" sp_is_tuple_of [] := Cl.mk' F_is_tuple_of (ok_is_tuple_of T F_is_tuple_of  ) (He.glo_ok X G (c.fact 28 (f := .glo "is_tuple_of") rfl)) b_is_tuple_of
  obtain ⟨fd_check_free, F_check_free⟩ : ∃ fd, FnP K "check_free" s_check_free (He.ga K "check_free") fd := c.def_ 5 (d := dd_check_free) rfl
  have b_check_free : Binds K fd_check_free ["line", "free"] [] := F_check_free.bindsN fun _ _ _ _ _ _ us hl => match us, hl with | [_, _], _ => rfl
  have c_check_free : Sd.Cl P w K mg base 3 "check_free" sp_check_free [] := Cl.mk' F_check_free (ok_check_free T F_check_free (c_is_row := c_is_row) (x_BadFree := x_BadFree)) (He.glo_ok X G (c.fact 29 (f := .glo "check_free") rfl)) b_check_free
  obtain ⟨fd_check_trip, F_check_trip⟩ : ∃ fd, FnP K "check_trip" s_check_trip (He.ga K "check_trip") fd := c.def_ 6 (d := dd_check_trip) rfl
  have b_check_trip : Binds K fd_check_trip ["line", "first", "end"] [] := F_check_trip.bindsN fun _ _ _ _ _ _ us hl => match us, hl with | [_, _, _], _ => rfl
  have c_check_trip : Sd.Cl P w K mg base 3 "check_trip" sp_check_trip [] := Cl.mk' F_check_trip (ok_check_trip T F_check_trip (c_is_within := c_is_within) (x_BadTrip := x_BadTrip)) (He.glo_ok X G (c.fact 30 (f := .glo "check_trip") rfl)) b_check_trip
  obtain ⟨fd_check_both, F_check_both⟩ : ∃ fd, FnP K "check_both" s_check_both (He.ga K "check_both") fd := c.def_ 7 (d := dd_check_both) rfl
  have b_check_both : Binds K fd_check_both ["line", "free", "first", "end"] [] := F_check_both.bindsN fun _ _ _ _ _ _ us hl => match us, hl with | [_, _, _, _], _ => rfl
  have c_check_both : Sd.Cl P w K mg base 4 "check_both" sp_check_both [] := Cl.mk' F_check_both (ok_check_both T F_check_both (c_check_free := c_check_free) (c_check_trip := c_check_trip) ) (He.glo_ok X G (c.fact 31 (f := .glo "check_both") rfl)) b_check_both
  obtain ⟨fd_is_walk, F_is_walk⟩ : ∃ fd, FnP K "is_walk" s_is_walk (He.ga K "is_walk") fd := c.def_ 8 (d := dd_is_walk) rfl
  have b_is_walk : Binds K fd_is_walk ["line", "free", "first", "end", "thing"] [] := F_is_walk.bindsN fun _ _ _ _ _ _ us hl => match us, hl with | [_, _, _, _, _], _ => rfl
  have c_is_walk : Sd.Cl P w K mg base 5 "is_walk" sp_is_walk [] := Cl.mk' F_is_walk (ok_is_walk T F_is_walk (c_check_both := c_check_both) (c_is_row := c_is_row) (c_is_within := c_is_within) ) (He.glo_ok X G (c.fact 32 (f := .glo "is_walk") rfl)) b_is_walk
  obtain ⟨fd_free_until, F_free_until⟩ : ∃ fd, FnP K "free_until" s_free_until (He.ga K "free_until") fd := c.def_ 9 (d := dd_free_until) rfl
  have b_free_until : Binds K fd_free_until ["row", "first", "end"] [] := F_free_until.bindsN fun _ _ _ _ _ _ us hl => match us, hl with | [_, _, _], _ => rfl
  have c_free_until : Sd.Cl P w K mg base 1 "free_until" sp_free_until [] := Cl.mk' F_free_until (ok_free_until T F_free_until  ) (He.glo_ok X G (c.fact 33 (f := .glo "free_until") rfl)) b_free_until
  obtain ⟨fd_told_walk, F_told_walk⟩ : ∃ fd, FnP K "told_walk" s_told_walk (He.ga K "told_walk") fd := c.def_ 10 (d := dd_told_walk) rfl
  have b_told_walk : Binds K fd_told_walk ["free", "first", "end"] [] := F_told_walk.bindsN fun _ _ _ _ _ _ us hl => match us, hl with | [_, _, _], _ => rfl
  have c_told_walk : Sd.Cl P w K mg base 2 "told_walk" sp_told_walk [] := Cl.mk' F_told_walk (ok_told_walk T F_told_walk (c_free_until := c_free_until) ) (He.glo_ok X G (c.fact 34 (f := .glo "told_walk") rfl)) b_told_walk
  obtain ⟨fd_best_walk, F_best_walk⟩ : ∃ fd, FnP K "best_walk" s_best_walk (He.ga K "best_walk") fd := c.def_ 11 (d := dd_best_walk) rfl
  have b_best_walk : Binds K fd_best_walk ["line", "free", "first", "end"] [] := F_best_walk.bindsN fun _ _ _ _ _ _ us hl => match us, hl with | [_, _, _, _], _ => rfl
  have c_best_walk : Sd.Cl P w K mg base 5 "best_walk" sp_best_walk [] := Cl.mk' F_best_walk (ok_best_walk T F_best_walk (c_check_both := c_check_both) (c_told_walk := c_told_walk) ) (He.glo_ok X G (c.fact 19 (f := .glo "best_walk") rfl)) b_best_walk
  obtain ⟨fd_told_changes, F_told_changes⟩ : ∃ fd, FnP K "told_changes" s_told_changes (He.ga K "told_changes") fd := c.def_ 12 (d := dd_told_changes) rfl
  have b_told_changes : Binds K fd_told_changes ["walk", "first"] [] := F_told_changes.bindsN fun _ _ _ _ _ _ us hl => match us, hl with | [_, _], _ => rfl
  have c_told_changes : Sd.Cl P w K mg base 1 "told_changes" sp_told_changes [] := Cl.mk' F_told_changes (ok_told_changes T F_told_changes  ) (He.glo_ok X G (c.fact 35 (f := .glo "told_changes") rfl)) b_told_changes
  obtain ⟨fd_change_legs, F_change_legs⟩ : ∃ fd, FnP K "change_legs" s_change_legs (He.ga K "change_legs") fd := c.def_ 13 (d := dd_change_legs) rfl
  have b_change_legs : Binds K fd_change_legs ["line", "free", "first", "end"] [] := F_change_legs.bindsN fun _ _ _ _ _ _ us hl => match us, hl with | [_, _, _, _], _ => rfl
  have c_change_legs : Sd.Cl P w K mg base 6 "change_legs" sp_change_legs [] := Cl.mk' F_change_legs (ok_change_legs T F_change_legs (c_best_walk := c_best_walk) (c_told_changes := c_told_changes) ) (He.glo_ok X G (c.fact 20 (f := .glo "change_legs") rfl)) b_change_legs
  obtain ⟨fd_fewest_changes, F_fewest_changes⟩ : ∃ fd, FnP K "fewest_changes" s_fewest_changes (He.ga K "fewest_changes") fd := c.def_ 14 (d := dd_fewest_changes) rfl
  have b_fewest_changes : Binds K fd_fewest_changes ["line", "free", "first", "end"] [] := F_fewest_changes.bindsN fun _ _ _ _ _ _ us hl => match us, hl with | [_, _, _, _], _ => rfl
  have c_fewest_changes : Sd.Cl P w K mg base 7 "fewest_changes" sp_fewest_changes [] := Cl.mk' F_fewest_changes (ok_fewest_changes T F_fewest_changes (c_change_legs := c_change_legs) ) (He.glo_ok X G (c.fact 21 (f := .glo "fewest_changes") rfl)) b_fewest_changes
  obtain ⟨fd_Line___init__, F_Line___init__⟩ : ∃ fd, FunD K "__init__" "Line.__init__" (defArgs s_Line___init__) (defBody s_Line___init__) (defScope s_Line___init__) [] [] (He.fAd K ("Line", some "__init__")) fd := c.def_ 15 (d := dd_Line___init__) rfl
  have b_Line___init__ : Binds K fd_Line___init__ ["self", "seats"] [] := F_Line___init__.bindsN fun _ _ _ _ _ _ us hl => match us, hl with | [_, _], _ => rfl
  have lnOk : Ln P w K mg base 3 := ⟨He.glo_ok X G (c.fact 18 (f := .glo "Line") rfl), _, fd_Line___init__, He.mkr_ok (c.fact 56 (f := .mkr "Line") rfl), ok_Line_init T F_Line___init__ (c_is_row := c_is_row) (c_is_within := c_is_within) (x_BadSeats := x_BadSeats), b_Line___init__⟩
  obtain ⟨fd_Line___eq__, F_Line___eq__⟩ : ∃ fd, FunD K "__eq__" "Line.__eq__" (defArgs s_Line___eq__) (defBody s_Line___eq__) (defScope s_Line___eq__) [] [] (He.fAd K ("Line", some "__eq__")) fd := c.def_ 16 (d := dd_Line___eq__) rfl
  have b_Line___eq__ : Binds K fd_Line___eq__ ["self", "other"] [] := F_Line___eq__.bindsN fun _ _ _ _ _ _ us hl => match us, hl with | [_, _], _ => rfl
  have lnEq : LnEq P w K mg base 1 := ⟨T.lnF, fd_Line___eq__, ok_Line_eq T F_Line___eq__, b_Line___eq__⟩
  obtain ⟨fd_check_passengers, F_check_passengers⟩ : ∃ fd, FnP K "check_passengers" s_check_passengers (He.ga K "check_passengers") fd := c.def_ 17 (d := dd_check_passengers) rfl
  have b_check_passengers : Binds K fd_check_passengers ["line", "passengers"] [] := F_check_passengers.bindsN fun _ _ _ _ _ _ us hl => match us, hl with | [_, _], _ => rfl
  have c_check_passengers : Sd.Cl P w K mg base 3 "check_passengers" sp_check_passengers [] := Cl.mk' F_check_passengers (ok_check_passengers T F_check_passengers (c_is_row := c_is_row) (c_is_tuple_of := c_is_tuple_of) (c_is_within := c_is_within) (x_BadPassengers := x_BadPassengers)) (He.glo_ok X G (c.fact 36 (f := .glo "check_passengers") rfl)) b_check_passengers
  obtain ⟨fd_meet, F_meet⟩ : ∃ fd, FnP K "meet" s_meet (He.ga K "meet") fd := c.def_ 18 (d := dd_meet) rfl
  have b_meet : Binds K fd_meet ["one", "other"] [] := F_meet.bindsN fun _ _ _ _ _ _ us hl => match us, hl with | [_, _], _ => rfl
  have c_meet : Sd.Cl P w K mg base 1 "meet" sp_meet [] := Cl.mk' F_meet (ok_meet T F_meet  ) (He.glo_ok X G (c.fact 37 (f := .glo "meet") rfl)) b_meet
  obtain ⟨fd_is_seating, F_is_seating⟩ : ∃ fd, FnP K "is_seating" s_is_seating (He.ga K "is_seating") fd := c.def_ 19 (d := dd_is_seating) rfl
  have b_is_seating : Binds K fd_is_seating ["line", "passengers", "thing"] [] := F_is_seating.bindsN fun _ _ _ _ _ _ us hl => match us, hl with | [_, _, _], _ => rfl
  have c_is_seating : Sd.Cl P w K mg base 4 "is_seating" sp_is_seating [] := Cl.mk' F_is_seating (ok_is_seating T F_is_seating (c_check_passengers := c_check_passengers) (c_is_row := c_is_row) (c_is_within := c_is_within) (c_meet := c_meet) ) (He.glo_ok X G (c.fact 38 (f := .glo "is_seating") rfl)) b_is_seating
  obtain ⟨fd_told_seating, F_told_seating⟩ : ∃ fd, FnP K "told_seating" s_told_seating (He.ga K "told_seating") fd := c.def_ 20 (d := dd_told_seating) rfl
  have b_told_seating : Binds K fd_told_seating ["passengers"] [] := F_told_seating.bindsN fun _ _ _ _ _ _ us hl => match us, hl with | [_], _ => rfl
  have c_told_seating : Sd.Cl P w K mg base 1 "told_seating" sp_told_seating [] := Cl.mk' F_told_seating (ok_told_seating T F_told_seating  ) (He.glo_ok X G (c.fact 39 (f := .glo "told_seating") rfl)) b_told_seating
  obtain ⟨fd_seating, F_seating⟩ : ∃ fd, FnP K "seating" s_seating (He.ga K "seating") fd := c.def_ 21 (d := dd_seating) rfl
  have b_seating : Binds K fd_seating ["line", "passengers"] [] := F_seating.bindsN fun _ _ _ _ _ _ us hl => match us, hl with | [_, _], _ => rfl
  have c_seating : Sd.Cl P w K mg base 4 "seating" sp_seating [] := Cl.mk' F_seating (ok_seating T F_seating (c_check_passengers := c_check_passengers) (c_told_seating := c_told_seating) ) (He.glo_ok X G (c.fact 23 (f := .glo "seating") rfl)) b_seating
  obtain ⟨fd_seats_needed, F_seats_needed⟩ : ∃ fd, FnP K "seats_needed" s_seats_needed (He.ga K "seats_needed") fd := c.def_ 22 (d := dd_seats_needed) rfl
  have b_seats_needed : Binds K fd_seats_needed ["line", "passengers"] [] := F_seats_needed.bindsN fun _ _ _ _ _ _ us hl => match us, hl with | [_, _], _ => rfl
  have c_seats_needed : Sd.Cl P w K mg base 4 "seats_needed" sp_seats_needed [] := Cl.mk' F_seats_needed (ok_seats_needed T F_seats_needed (c_check_passengers := c_check_passengers) (c_told_seating := c_told_seating) ) (He.glo_ok X G (c.fact 24 (f := .glo "seats_needed") rfl)) b_seats_needed
  obtain ⟨fd_fullest, F_fullest⟩ : ∃ fd, FnP K "fullest" s_fullest (He.ga K "fullest") fd := c.def_ 23 (d := dd_fullest) rfl
  have b_fullest : Binds K fd_fullest ["line", "passengers"] [] := F_fullest.bindsN fun _ _ _ _ _ _ us hl => match us, hl with | [_, _], _ => rfl
  have c_fullest : Sd.Cl P w K mg base 4 "fullest" sp_fullest [] := Cl.mk' F_fullest (ok_fullest T F_fullest (c_check_passengers := c_check_passengers) ) (He.glo_ok X G (c.fact 22 (f := .glo "fullest") rfl)) b_fullest
  obtain ⟨fd__law_taken, F__law_taken⟩ : ∃ fd, FnP K "_law_taken" s__law_taken (He.ga K "_law_taken") fd := c.def_ 24 (d := dd__law_taken) rfl
  have b__law_taken : Binds K fd__law_taken ["row", "many"] [] := F__law_taken.bindsN fun _ _ _ _ _ _ us hl => match us, hl with | [_, _], _ => rfl
  have c__law_taken : Sd.Cl P w K mg base 1 "_law_taken" sp__law_taken [] := Cl.mk' F__law_taken (ok__law_taken T F__law_taken  ) (He.glo_ok X G (c.fact 40 (f := .glo "_law_taken") rfl)) b__law_taken
  obtain ⟨fd__law_pick, F__law_pick⟩ : ∃ fd, FnP K "_law_pick" s__law_pick (He.ga K "_law_pick") fd := c.def_ 25 (d := dd__law_pick) rfl
  have b__law_pick : Binds K fd__law_pick ["row", "some"] [] := F__law_pick.bindsN fun _ _ _ _ _ _ us hl => match us, hl with | [_, _], _ => rfl
  have c__law_pick : Sd.Cl P w K mg base 2 "_law_pick" sp__law_pick [] := Cl.mk' F__law_pick (ok__law_pick T F__law_pick (c__law_taken := c__law_taken) ) (He.glo_ok X G (c.fact 41 (f := .glo "_law_pick") rfl)) b__law_pick
  obtain ⟨fd__law_alike, F__law_alike⟩ : ∃ fd, FnP K "_law_alike" s__law_alike (He.ga K "_law_alike") fd := c.def_ 26 (d := dd__law_alike) rfl
  have b__law_alike : Binds K fd__law_alike ["found", "due"] [] := F__law_alike.bindsN fun _ _ _ _ _ _ us hl => match us, hl with | [_, _], _ => rfl
  have gl__law_alike := He.glo_ok X G (c.fact 42 (f := .glo "_law_alike") rfl)
  have c__law_alike : Sd.Cl P w K mg base 8 "_law_alike" sp__law_alike [] := Cl.mk' F__law_alike (ok__law_alike T F__law_alike gl__law_alike b__law_alike) gl__law_alike b__law_alike
  obtain ⟨fd__law_line, F__law_line⟩ : ∃ fd, FnP K "_law_line" s__law_line (He.ga K "_law_line") fd := c.def_ 27 (d := dd__law_line) rfl
  have b__law_line : Binds K fd__law_line ["row"] [] := F__law_line.bindsN fun _ _ _ _ _ _ us hl => match us, hl with | [_], _ => rfl
  have c__law_line : Sd.Cl P w K mg base 3 "_law_line" sp__law_line [] := Cl.mk' F__law_line (ok__law_line T F__law_line (c__law_pick := c__law_pick) (c__law_taken := c__law_taken) ) (He.glo_ok X G (c.fact 43 (f := .glo "_law_line") rfl)) b__law_line
  obtain ⟨fd__law_seating, F__law_seating⟩ : ∃ fd, FnP K "_law_seating" s__law_seating (He.ga K "_law_seating") fd := c.def_ 28 (d := dd__law_seating) rfl
  have b__law_seating : Binds K fd__law_seating ["people"] [] := F__law_seating.bindsN fun _ _ _ _ _ _ us hl => match us, hl with | [_], _ => rfl
  have c__law_seating : Sd.Cl P w K mg base 1 "_law_seating" sp__law_seating [] := Cl.mk' F__law_seating (ok__law_seating T F__law_seating  ) (He.glo_ok X G (c.fact 44 (f := .glo "_law_seating") rfl)) b__law_seating
  obtain ⟨fd__law_is_seating, F__law_is_seating⟩ : ∃ fd, FnP K "_law_is_seating" s__law_is_seating (He.ga K "_law_is_seating") fd := c.def_ 29 (d := dd__law_is_seating) rfl
  have b__law_is_seating : Binds K fd__law_is_seating ["people", "thing"] [] := F__law_is_seating.bindsN fun _ _ _ _ _ _ us hl => match us, hl with | [_, _], _ => rfl
  have c__law_is_seating : Sd.Cl P w K mg base 1 "_law_is_seating" sp__law_is_seating [] := Cl.mk' F__law_is_seating (ok__law_is_seating T F__law_is_seating  ) (He.glo_ok X G (c.fact 45 (f := .glo "_law_is_seating") rfl)) b__law_is_seating
  obtain ⟨fd__law_fewest, F__law_fewest⟩ : ∃ fd, FnP K "_law_fewest" s__law_fewest (He.ga K "_law_fewest") fd := c.def_ 30 (d := dd__law_fewest) rfl
  have b__law_fewest : Binds K fd__law_fewest ["free", "first", "end"] [] := F__law_fewest.bindsN fun _ _ _ _ _ _ us hl => match us, hl with | [_, _, _], _ => rfl
  have c__law_fewest : Sd.Cl P w K mg base 1 "_law_fewest" sp__law_fewest [] := Cl.mk' F__law_fewest (ok__law_fewest T F__law_fewest  ) (He.glo_ok X G (c.fact 46 (f := .glo "_law_fewest") rfl)) b__law_fewest
  obtain ⟨fd__law_walk, F__law_walk⟩ : ∃ fd, FnP K "_law_walk" s__law_walk (He.ga K "_law_walk") fd := c.def_ 31 (d := dd__law_walk) rfl
  have b__law_walk : Binds K fd__law_walk ["free", "first", "end"] [] := F__law_walk.bindsN fun _ _ _ _ _ _ us hl => match us, hl with | [_, _, _], _ => rfl
  have c__law_walk : Sd.Cl P w K mg base 1 "_law_walk" sp__law_walk [] := Cl.mk' F__law_walk (ok__law_walk T F__law_walk  ) (He.glo_ok X G (c.fact 47 (f := .glo "_law_walk") rfl)) b__law_walk
  obtain ⟨fd__law_refused, F__law_refused⟩ : ∃ fd, FnP K "_law_refused" s__law_refused (He.ga K "_law_refused") fd := c.def_ 32 (d := dd__law_refused) rfl
  have b__law_refused : Binds K fd__law_refused ["ask"] [] := F__law_refused.bindsN fun _ _ _ _ _ _ us hl => match us, hl with | [_], _ => rfl
  obtain ⟨fd_law, F_law⟩ : ∃ fd, FnP K "law" s_law (He.ga K "law") fd := c.def_ 33 (d := dd_law) rfl
  have b_law : Binds K fd_law ["script"] [] := F_law.bindsN fun _ _ _ _ _ _ us hl => match us, hl with | [_], _ => rfl
  obtain ⟨oc, od, dV, kV, doc, pm, an, cdv, ct, osl, efd, lk, hcd, _, _⟩ := id F_law.ex
  obtain ⟨cc, ecc⟩ := He.codeIn_ref hcd
  have hcode : fd_law.code = .ref cc := by
    rw [efd]
    exact ecc
  have ec : He.codeOf K ("law", none) = cc := He.codeOf_eq lk hcode
  have hmem : He.cT K ("law", none) ∈ [He.cT K ("law", none)] := List.mem_singleton.mpr rfl
  have TB : LamX.TabB base mg cc (He.cT K ("law", none)).2 := by
    have := A.tab _ hmem
    rw [show (He.cT K ("law", none)).1 = cc from ec] at this
    exact this
  refine run_law T F_law c__law_alike c__law_fewest c__law_is_seating c__law_line c__law_pick c__law_seating c__law_taken c__law_walk c_best_walk c_change_legs c_fewest_changes c_fullest c_is_seating c_is_walk c_seating c_seats_needed lnOk lnEq F__law_refused b__law_refused (He.glo_ok X G (c.fact 48 (f := .glo "_law_refused") rfl)) hx x_BadFree x_BadPassengers x_BadTrip TB hcode A.env (FunD.bindsA (ps := ["script"]) F_law (fun _ _ _ _ _ _ us hl => match us, hl with | [_], _ => rfl) s1 [.ref a] rfl) A.scr (A.emp _ hmem) (fun b ps hb => ?_)
  rcases A.only b _ hb with ⟨p, hp, e⟩ | ⟨o, xs, e⟩
  · rw [List.mem_singleton.mp hp] at e
    exact e.symm
  · cases e
end K14
open PySem PySem.W PySem.Calls PyProof.Rows
theorem PySem.Challenge.cw_seatsold_k14_whole_seating_and_walks_holds : PySem.Challenge.rw_seatsold_k14_whole_seating_and_walks.Holds := by
  w_on; o_law
  refine HandSHeadRun.head_any (r := OpenLaw.row PySem.Challenge.rw_seatsold_k14_whole_seating_and_walks) (q := view (OpenLaw.row PySem.Challenge.rw_seatsold_k14_whole_seating_and_walks).prog [46]) (H := K14.hk) (ob := K14.ob) (M := 4000) (loose := (K14.n1 ++ K14.n2)) (d := HandSHeadRun.topDef (OpenLaw.row PySem.Challenge.rw_seatsold_k14_whole_seating_and_walks).prog 46) (kwd := []) K14.ob_eq
    (by kernel_rfl) (fun s => by kernel_rfl) K14.run (by kernel_rfl) (by kernel_rfl) (by kernel_rfl) (by rfl) (by first | assumption | decide +kernel) (by decide +kernel) ⟨rfl, rfl, rfl, rfl, rfl, by decide +kernel⟩ ?hw ?hc
  case hw => w_witness2
  case hc =>
    refine Sd.walk_at (l := PySem.Challenge.rw_seatsold_k14_whole_seating_and_walks) rfl (by decide) (by kernel_rfl) ?F
    intro w mg fa h Y G hmg0
    obtain ⟨K, KX, c⟩ := Y
    have hmg : mg ("law" : PySem.Str) = some (.ref fa) := by
      have e : (HandSHeadRun.topDef (OpenLaw.row PySem.Challenge.rw_seatsold_k14_whole_seating_and_walks).prog 46).name = ("law" : PySem.Str) := by kernel_rfl
      rw [← e]
      exact hmg0
    have e := hmg.symm.trans (He.glo_ok KX G (c.t.d.fact 49 (f := .glo "law") rfl))
    cases e
    refine ⟨K, [He.cT K ("law", none)], KX, fun p hp => (by rw [List.mem_singleton.mp hp]; exact c.empty _ (List.mem_singleton.mpr rfl)), fun p hp => (by rw [List.mem_singleton.mp hp]; exact c.out _ (List.mem_singleton.mpr rfl)), fun p hp => (by rw [List.mem_singleton.mp hp]; exact PySem.W.codeHd_of_K KX (c.hd _ (List.mem_singleton.mpr rfl))), fun s1 a ns base H _ _ A => ?_⟩
    exact K14.at_law A c.t.d c.more
end
