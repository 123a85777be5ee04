import PyProof.Rows.All
import Wide.All
import OpenK.AllK
import Wide.FinOn
import HandS.ForMost
import HandS.ForExc
import HandS.Evl
import HandS.Walk
import HandS.IsInst
import HandS.Flow
import HandS.Style
import HandS.TupAny
import HandS.TupMul
import HandS.Star
import HandS.SortInts
import HandS.SortRule
import HandS.Zip
import HandS.TryMany
import HandS.ExcInit
import HandS.ExcField
import HandS.Lambda
import HandS.EndTab
import HandS.HeadHook1
import HandS.RaiseMore
import KE.KTupSum
import KE.GoesMore
import KE.GoesEnumKw
import KE.GoesEnum
import KE.GoesZip
import KE.GoesNew
import HandS.Defaults
import HandS.CallLocal
import HandS.OwnEq
import PyProof.InstNe
import PyProof.ReprRoads
import PyProof.Rows.RegFStrParts
import HandS.HeadWalk
import KE.DatumOrd
import HandS.SortKw
import HandS.Iter
import PySem.Challenge.RW_seatsold_k15_whole_shares_of_limits
import HandS.Head2
import HandS.HeadEnd
import HandS.HeadHook4
-- SdCore
section
set_option Elab.async false
set_option linter.all false
set_option maxRecDepth 100000
set_option maxHeartbeats 4000000
set_option autoImplicit false
/-! The data layer: what a def does is told over plain data (D), no heap in sight. -/
namespace Sd
open PySem PySem.Spec PyProof.Rows L2
open Evl (Ex)

/-! ### data -/
/-- what a value stands for; raw: a value as it is; ln: a line with its seats -/
inductive D where
  | non | bl (b : Bool) | int (i : Int) | str (s : Str) | lst (xs : List D) | tup (xs : List D) | raw (v : V) | dct | ln (xs : List D)
mutual
/-- v stands for the data in the part B of the heap, which no one changes -/
inductive Rp (K : PySem.W.Frag) (B : Hp) : V → D → Prop
  | non : Rp K B .non .non
  | bl (b : Bool) : Rp K B (.bl b) (.bl b)
  | int (i : Int) : Rp K B (.int i) (.int i)
  | str (s : Str) : Rp K B (.str s) (.str s)
  | lst {a : Addr} {vs : List V} {ds : List D} (h : B a = some (.lst vs)) (r : RpA K B vs ds) : Rp K B (.ref a) (.lst ds)
  | tup {a : Addr} {vs : List V} {ds : List D} (h : SqT K B a vs) (r : RpA K B vs ds) : Rp K B (.ref a) (.tup ds)
  | raw (v : V) : Rp K B v (.raw v)
  | dct {a : Addr} (h : B a = some (.dK [])) : Rp K B (.ref a) .dct
  | ln {a dx t : Addr} {fs : List (Str × V)} {vs : List V} {ds : List D} (h : B a = some (.ins (He.ga K "Line") dx fs)) (h2 : B dx = some (.own a)) (hf : fs.lookup ("seats" : Str) = some (V.ref t)) (ht : SqT K B t vs) (r : RpA K B vs ds) : Rp K B (.ref a) (.ln ds)
inductive RpA (K : PySem.W.Frag) (B : Hp) : List V → List D → Prop
  | nil : RpA K B [] []
  | cons {v : V} {vs : List V} {d : D} {ds : List D} (h : Rp K B v d) (r : RpA K B vs ds) : RpA K B (v :: vs) (d :: ds)
end
section
variable {K : PySem.W.Frag} {B B' : Hp}
theorem exL {a : Addr} {xs : List V} (e : Ex B B') (h : SqL K B a xs) : SqL K B' a xs := Evl.ex_l e h
theorem exT {a : Addr} {xs : List V} (e : Ex B B') (h : SqT K B a xs) : SqT K B' a xs := Evl.ex_t e h
mutual
theorem Rp.mono (e : Ex B B') : ∀ {v : V} {d : D}, Rp K B v d → Rp K B' v d
  | _, _, .non => .non
  | _, _, .bl b => .bl b
  | _, _, .int i => .int i
  | _, _, .str s => .str s
  | _, _, .lst h r => .lst (e _ _ h) (RpA.mono e r)
  | _, _, .tup h r => .tup (exT e h) (RpA.mono e r)
  | _, _, .raw v => .raw v
  | _, _, .dct h => .dct (e _ _ h)
  | _, _, .ln h h2 hf ht r => .ln (e _ _ h) (e _ _ h2) hf (exT e ht) (RpA.mono e r)
theorem RpA.mono (e : Ex B B') : ∀ {vs : List V} {ds : List D}, RpA K B vs ds → RpA K B' vs ds
  | _, _, .nil => .nil
  | _, _, .cons h r => .cons (Rp.mono e h) (RpA.mono e r)
end
theorem RpA.length : ∀ {vs : List V} {ds : List D}, RpA K B vs ds → vs.length = ds.length
  | _, _, .nil => rfl
  | _, _, .cons _ r => congrArg (· + 1) (RpA.length r)
theorem RpA.get : ∀ {vs : List V} {ds : List D} {i : Nat} {v : V}, RpA K B vs ds → vs[i]? = some v → ∃ d, ds[i]? = some d ∧ Rp K B v d
  | _, _, i, v, .nil, h => by simp at h
  | _, _, 0, v, .cons h r, e => by
    have e' := Option.some.inj e
    subst e'
    exact ⟨_, rfl, h⟩
  | _, _, i + 1, v, .cons h r, e => by
    have q := RpA.get (i := i) (v := v) r (by simpa using e)
    simpa using q
theorem RpA.at : ∀ {vs : List V} {ds : List D} {i : Nat} {d : D}, RpA K B vs ds → ds[i]? = some d → ∃ v, vs[i]? = some v ∧ Rp K B v d
  | _, _, i, v, .nil, h => by simp at h
  | _, _, 0, v, .cons h r, e => by
    have e' := Option.some.inj e
    subst e'
    exact ⟨_, rfl, h⟩
  | _, _, i + 1, v, .cons h r, e => by
    have q := RpA.at (i := i) (d := v) r (by simpa using e)
    simpa using q
theorem RpA.app : ∀ {vs ws : List V} {ds es : List D}, RpA K B vs ds → RpA K B ws es → RpA K B (vs ++ ws) (ds ++ es)
  | _, _, _, _, .nil, r => r
  | _, _, _, _, .cons h r, r' => .cons h (RpA.app r r')
theorem RpA.one {v : V} {d : D} (h : Rp K B v d) : RpA K B [v] [d] := .cons h .nil
theorem RpA.set : ∀ {vs : List V} {ds : List D} {i : Nat} {v : V} {d : D}, RpA K B vs ds → Rp K B v d → RpA K B (vs.set i v) (ds.set i d)
  | _, _, _, _, _, .nil, _ => .nil
  | _, _, 0, _, _, .cons _ r, h => .cons h r
  | _, _, i + 1, _, _, .cons h' r, h => .cons h' (RpA.set r h)
theorem RpA.take : ∀ {vs : List V} {ds : List D} (n : Nat), RpA K B vs ds → RpA K B (vs.take n) (ds.take n)
  | _, _, 0, _ => by simpa using .nil
  | _, _, n + 1, .nil => by simpa using .nil
  | _, _, n + 1, .cons h r => .cons h (RpA.take n r)
theorem RpA.drop : ∀ {vs : List V} {ds : List D} (n : Nat), RpA K B vs ds → RpA K B (vs.drop n) (ds.drop n)
  | _, _, 0, r => r
  | _, _, n + 1, .nil => .nil
  | _, _, n + 1, .cons _ r => RpA.drop n r
theorem RpA.rev {vs : List V} {ds : List D} (r : RpA K B vs ds) : RpA K B vs.reverse ds.reverse := by
  induction vs generalizing ds with
  | nil => cases r; exact .nil
  | cons v vs ih =>
    cases r with
    | cons h r =>
      rw [List.reverse_cons, List.reverse_cons]
      exact (ih r).app (.one h)
theorem RpA.rep {vs : List V} {ds : List D} (r : RpA K B vs ds) : ∀ n : Nat, RpA K B (List.replicate n vs).flatten (List.replicate n ds).flatten
  | 0 => .nil
  | n + 1 => by
    rw [List.replicate_succ, List.flatten_cons, List.replicate_succ, List.flatten_cons]
    exact r.app (RpA.rep r n)
theorem RpA.ints {vs : List V} : ∀ {ns : List Int}, RpA K B vs (ns.map D.int) → vs = ns.map V.int := by
  induction vs with
  | nil => intro ns r; cases ns with
    | nil => rfl
    | cons n ns => cases r
  | cons v vs ih => intro ns r; cases ns with
    | nil => cases r
    | cons n ns => cases r with
      | cons h r => cases h; rw [ih r]; rfl
theorem RpA.ofInts : ∀ (ns : List Int), RpA K B (ns.map V.int) (ns.map D.int)
  | [] => .nil
  | n :: ns => .cons (.int n) (RpA.ofInts ns)
theorem RpA.bls {vs : List V} : ∀ {ns : List Bool}, RpA K B vs (ns.map D.bl) → vs = ns.map V.bl := by
  induction vs with
  | nil => intro ns r; cases ns with
    | nil => rfl
    | cons n ns => cases r
  | cons v vs ih => intro ns r; cases ns with
    | nil => cases r
    | cons n ns => cases r with
      | cons h r => cases h; rw [ih r]; rfl
theorem RpA.ofBls : ∀ (ns : List Bool), RpA K B (ns.map V.bl) (ns.map D.bl)
  | [] => .nil
  | n :: ns => .cons (.bl n) (RpA.ofBls ns)
theorem RpA.strs {vs : List V} : ∀ {ns : List Str}, RpA K B vs (ns.map D.str) → vs = ns.map V.str := by
  induction vs with
  | nil => intro ns r; cases ns with
    | nil => rfl
    | cons n ns => cases r
  | cons v vs ih => intro ns r; cases ns with
    | nil => cases r
    | cons n ns => cases r with
      | cons h r => cases h; rw [ih r]; rfl
theorem RpA.ofStrs : ∀ (ns : List Str), RpA K B (ns.map V.str) (ns.map D.str)
  | [] => .nil
  | n :: ns => .cons (.str n) (RpA.ofStrs ns)
theorem RpA.raws {vs : List V} : ∀ {ns : List V}, RpA K B vs (ns.map D.raw) → vs = ns := by
  induction vs with
  | nil => intro ns r; cases ns with
    | nil => rfl
    | cons n ns => cases r
  | cons v vs ih => intro ns r; cases ns with
    | nil => cases r
    | cons n ns => cases r with
      | cons h r => cases h; rw [ih r]
theorem RpA.ofRaws : ∀ (ns : List V), RpA K B ns (ns.map D.raw)
  | [] => .nil
  | n :: ns => .cons (.raw n) (RpA.ofRaws ns)
end

/-! ### what changes -/
/-- the row of draws (its address, the script's), the tables of code objects -/
structure Fs where
  row : Option (Addr × Addr) := none
  tabs : List (Addr × Str) := []
def Fs.S (F : Fs) (a : Addr) : Prop := (∃ s, F.row = some (a, s)) ∨ ∃ q, (a, q) ∈ F.tabs
/-- the row of draws: the script, how many are taken, the mixed number, the rest of a cell -/
def RowAt (K : PySem.W.Frag) (B H : Hp) (r sa : Addr) : Prop := B r = none ∧ (∃ ns : List Int, SqL K B sa (ns.map V.int)) ∧ ∃ i s c : Int, H r = some (.lst [.ref sa, .int i, .int s, .int c]) ∧ 0 ≤ i ∧ 0 ≤ s ∧ s < 2147483647
structure Fok (K : PySem.W.Frag) (F : Fs) (B H : Hp) : Prop where
  row : ∀ r sa, F.row = some (r, sa) → RowAt K B H r sa
  tab : LamX.Tabs F.tabs H
  tb : ∀ p ∈ F.tabs, B p.1 = none
  nt : ∀ a ps, B a ≠ some (.tbl ps)
theorem nt_upd {B : Hp} {p : Addr} {o : HO} (h : ∀ a ps, B a ≠ some (.tbl ps)) (ho : ∀ ps, o ≠ .tbl ps) : ∀ a ps, upd B p o a ≠ some (.tbl ps) := fun a ps z => by
  by_cases e : a = p
  · rw [e, upd_same] at z
    exact ho ps (Option.some.inj z)
  · rw [upd_ne e] at z
    exact h a ps z
/-- something stands at a that is no table of code objects -/
def Hd (H : Hp) (a : Addr) : Prop := ∃ u, H a = some u ∧ ∀ ps, u ≠ .tbl ps
theorem Hd.of {H : Hp} {a : Addr} {u : HO} (h : H a = some u) (hu : ∀ ps, u ≠ .tbl ps := by intro _ z; cases z) : Hd H a := ⟨u, h, hu⟩
theorem Hd.ne {H : Hp} {a p : Addr} (h : Hd H a) (hp : H p = none) : a ≠ p := fun z => by
  obtain ⟨u, e, _⟩ := h
  rw [z, hp] at e
  cases e
theorem Hd.nne {H : Hp} {a p : Addr} (h : Hd H a) (hp : ¬ Hd H p) : a ≠ p := fun z => hp (by rw [← z]; exact h)
theorem Hd.eq {H H' : Hp} {a : Addr} (h : Hd H a) (e : H' a = H a) : Hd H' a := by
  obtain ⟨u, e1, e2⟩ := h
  exact ⟨u, e.trans e1, e2⟩
theorem not_hd {H : Hp} {a : Addr} (h : H a = none) : ¬ Hd H a := fun ⟨u, e, _⟩ => by
  rw [h] at e
  cases e
/-- from (B, H) to (B', H'): what stood stands, but for what F says -/
structure Fm (K : PySem.W.Frag) (F : Fs) (B H B' H' : Hp) : Prop where
  b : Ex B B'
  e : Ex B' H'
  o : ∀ a, B a = none → Hd H a → B' a = none ∧ (¬ F.S a → H' a = H a)
  f : Fok K F B' H'
section
variable {K : PySem.W.Frag} {F : Fs} {B H B1 H1 B2 H2 : Hp}
theorem Fok.there (f : Fok K F B H) {a : Addr} (h : F.S a) : B a = none ∧ H a ≠ none := by
  rcases h with ⟨s, h⟩ | ⟨q, h⟩
  · obtain ⟨h1, _, i, t, c, h2, _⟩ := f.row a s h
    exact ⟨h1, by rw [h2]; simp⟩
  · obtain ⟨ps, h1, _⟩ := f.tab _ h
    refine ⟨f.tb _ h, ?_⟩
    rw [show H a = _ from h1]
    simp
theorem Fm.refl (e : Ex B H) (f : Fok K F B H) : Fm K F B H B H := ⟨Ex.refl B, e, fun a h _ => ⟨h, fun _ => rfl⟩, f⟩
theorem Fm.trans (m1 : Fm K F B H B1 H1) (m2 : Fm K F B1 H1 B2 H2) : Fm K F B H B2 H2 := by
  refine ⟨m1.b.trans m2.b, m2.e, fun a h1 h2 => ?_, m2.f⟩
  obtain ⟨h3, h4⟩ := m1.o a h1 h2
  by_cases hs : F.S a
  · exact ⟨(m2.f.there hs).1, fun z => (z hs).elim⟩
  · have e1 := h4 hs
    obtain ⟨h5, h6⟩ := m2.o a h3 (h2.eq e1)
    exact ⟨h5, fun z => (h6 z).trans e1⟩
/-- what is not there now was not there before -/
theorem Fm.back (m : Fm K F B H B1 H1) {p : Addr} (h : ¬ Hd H1 p) (ns : ¬ F.S p) : ¬ Hd H p := fun z => by
  cases hb : B p with
  | none => exact h (z.eq ((m.o p hb z).2 ns))
  | some u =>
    have q := m.b _ _ hb
    exact h (.of (m.e _ _ q) fun ps e => m.f.nt p ps (by rw [← e]; exact q))
/-- the heap grows beside: an object that no one knows -/
theorem Fok.ex (f : Fok K F B H) (b : Ex B B1) (h : ∀ a, F.S a → B1 a = none) (e : ∀ a o, H a = some o → H1 a = some o) (t : ∀ a ps, B1 a ≠ some (.tbl ps)) : Fok K F B1 H1 := by
  refine ⟨fun r sa hr => ?_, f.tab.ext e, fun p hp => h _ (.inr ⟨p.2, hp⟩), t⟩
  obtain ⟨h1, ⟨ns, h2⟩, i, s, c, h3, h4⟩ := f.row r sa hr
  exact ⟨h _ (.inl ⟨sa, hr⟩), ⟨ns, exL b h2⟩, i, s, c, e _ _ h3, h4⟩
/-- a new object, known as data -/
theorem Fm.new {p : Addr} {o : HO} (e : Ex B H) (f : Fok K F B H) (hp : H p = none) (ho : ∀ ps, o ≠ .tbl ps := by intro _ z; cases z) : Fm K F B H (upd B p o) (upd H p o) := by
  have bp : B p = none := Evl.fresh_back e hp
  refine ⟨Evl.Ex.new bp, fun a u h => ?_, fun a h1 h2 => ?_, ?_⟩
  · by_cases ha : a = p
    · rw [ha, upd_same] at h ⊢
      exact h
    · rw [upd_ne ha] at h ⊢
      exact e _ _ h
  · have ha : a ≠ p := h2.ne hp
    exact ⟨by rw [upd_ne ha]; exact h1, fun _ => upd_ne ha⟩
  · refine f.ex (Evl.Ex.new bp) (fun a hs => ?_) (fun a u h => ?_) (nt_upd f.nt ho)
    · have := f.there hs
      rw [upd_ne (fun z => this.2 (by rw [z]; exact hp))]
      exact this.1
    · rw [upd_ne (ne_of_none h hp)]
      exact h
/-- .. not known as data -/
theorem Fm.newH {p : Addr} {o : HO} (e : Ex B H) (f : Fok K F B H) (hp : H p = none) : Fm K F B H B (upd H p o) := by
  refine ⟨Ex.refl B, e.trans (Evl.Ex.new hp), fun a h1 h2 => ?_, f.ex (Ex.refl B) (fun a hs => (f.there hs).1) (fun a u h => ?_) f.nt⟩
  · have ha : a ≠ p := h2.ne hp
    exact ⟨h1, fun _ => upd_ne ha⟩
  · rw [upd_ne (ne_of_none h hp)]
    exact h
theorem Fok.s_ne (f : Fok K F B H) {l : Addr} (h : ¬ F.S l) : ∀ a, F.S a → a ≠ l := fun a ha z => h (by rw [← z]; exact ha)
end

/-! ### slots -/
inductive Sl where
  | un | dat (d : D) | own (ds : List D)
def SlOk (K : PySem.W.Frag) (F : Fs) (H0 B H : Hp) : Option V → Sl → Prop
  | _, .un => True
  | o, .dat d => ∃ v, o = some v ∧ Rp K B v d
  | o, .own ds => ∃ l vs, o = some (.ref l) ∧ ¬ Hd H0 l ∧ B l = none ∧ H l = some (.lst vs) ∧ RpA K B vs ds ∧ ¬ F.S l
/-- where a run of a def stands: what changes, the entry -/
structure Gx where
  F : Fs
  B0 : Hp
  H0 : Hp
structure Stt (K : PySem.W.Frag) (G : Gx) (σ : L2.St) (B H : Hp) (δ : List Sl) : Prop where
  fm : Fm K G.F G.B0 G.H0 B H
  len : σ.length = δ.length
  sl : ∀ (i : Nat) (s : Sl), δ[i]? = some s → ∃ o, σ[i]? = some o ∧ SlOk K G.F G.H0 B H o s
  sep : ∀ (i j : Nat) (ds es : List D), i ≠ j → δ[i]? = some (.own ds) → δ[j]? = some (.own es) → σ[i]? ≠ σ[j]?
section
variable {K : PySem.W.Frag} {G : Gx} {σ : L2.St} {B H B' H' : Hp} {δ : List Sl}
theorem SlOk.mono {F : Fs} {H0 : Hp} {o : Option V} {s : Sl} (m : Fm K F B H B' H') (h : SlOk K F H0 B H o s) : SlOk K F H0 B' H' o s := by
  cases s with
  | un => exact h
  | dat d =>
    obtain ⟨v, e, r⟩ := h
    exact ⟨v, e, r.mono m.b⟩
  | own ds =>
    obtain ⟨l, vs, e, h0, hb, hl, r, ns⟩ := h
    obtain ⟨h1, h2⟩ := m.o l hb (.of hl)
    exact ⟨l, vs, e, h0, h1, (h2 ns).trans hl, r.mono m.b, ns⟩
theorem Stt.mono (s : Stt K G σ B H δ) (m : Fm K G.F B H B' H') : Stt K G σ B' H' δ :=
  ⟨s.fm.trans m, s.len, fun i t h => let ⟨o, e, k⟩ := s.sl i t h; ⟨o, e, k.mono m⟩, s.sep⟩
theorem Stt.e (s : Stt K G σ B H δ) : Ex B H := s.fm.e
theorem Stt.f (s : Stt K G σ B H δ) : Fok K G.F B H := s.fm.f
theorem Stt.here (s : Stt K G σ B H δ) : Fm K G.F B H B H := .refl s.e s.f
/-- a slot is stored -/
theorem Stt.put {i : Nat} {v : V} {d : D} (s : Stt K G σ B H δ) (r : Rp K B v d) : Stt K G (σ.set i (some v)) B H (δ.set i (.dat d)) := by
  refine ⟨s.fm, by rw [List.length_set, List.length_set]; exact s.len, fun j t h => ?_, fun j k ds es hn h1 h2 => ?_⟩
  · by_cases hj : i = j
    · subst hj
      rw [List.getElem?_set] at h
      by_cases hi : i < δ.length
      · rw [if_pos rfl, if_pos hi] at h
        cases h
        refine ⟨some v, ?_, v, rfl, r⟩
        rw [List.getElem?_set, if_pos rfl, if_pos (by rw [s.len]; exact hi)]
      · rw [if_pos rfl, if_neg hi] at h
        cases h
    · rw [List.getElem?_set, if_neg hj] at h
      rw [List.getElem?_set, if_neg hj]
      exact s.sl j t h
  · have a : i ≠ j := fun z => by
      subst z
      rw [List.getElem?_set, if_pos rfl] at h1
      split at h1 <;> cases h1
    have b : i ≠ k := fun z => by
      subst z
      rw [List.getElem?_set, if_pos rfl] at h2
      split at h2 <;> cases h2
    rw [List.getElem?_set, if_neg a] at h1 ⊢
    rw [List.getElem?_set, if_neg b] at h2 ⊢
    exact s.sep j k ds es hn h1 h2
/-- slots are forgotten -/
def wipeD (δ : List Sl) : List Nat → List Sl
  | [] => δ
  | v :: vs => (wipeD δ vs).set v .un
theorem Stt.forget {i : Nat} (s : Stt K G σ B H δ) : Stt K G (σ.set i none) B H (δ.set i .un) := by
  refine ⟨s.fm, by rw [List.length_set, List.length_set]; exact s.len, fun j t h => ?_, fun j k ds es hn h1 h2 => ?_⟩
  · by_cases hj : i = j
    · subst hj
      rw [List.getElem?_set] at h
      by_cases hi : i < δ.length
      · rw [if_pos rfl, if_pos hi] at h
        cases h
        refine ⟨none, ?_, True.intro⟩
        rw [List.getElem?_set, if_pos rfl, if_pos (by rw [s.len]; exact hi)]
      · rw [if_pos rfl, if_neg hi] at h
        cases h
    · rw [List.getElem?_set, if_neg hj] at h
      rw [List.getElem?_set, if_neg hj]
      exact s.sl j t h
  · have a : i ≠ j := fun z => by
      subst z
      rw [List.getElem?_set, if_pos rfl] at h1
      split at h1 <;> cases h1
    have b : i ≠ k := fun z => by
      subst z
      rw [List.getElem?_set, if_pos rfl] at h2
      split at h2 <;> cases h2
    rw [List.getElem?_set, if_neg a] at h1 ⊢
    rw [List.getElem?_set, if_neg b] at h2 ⊢
    exact s.sep j k ds es hn h1 h2
theorem Stt.wipe (s : Stt K G σ B H δ) : ∀ vs : List Nat, Stt K G (L2.wipe σ vs) B H (wipeD δ vs)
  | [] => s
  | _ :: vs => (Stt.wipe s vs).forget
theorem Stt.dat {i : Nat} {d : D} (s : Stt K G σ B H δ) (h : δ[i]? = some (.dat d)) : ∃ v, σ[i]? = some (some v) ∧ Rp K B v d := by
  obtain ⟨o, e, v, rfl, r⟩ := s.sl i _ h
  exact ⟨v, e, r⟩
theorem Stt.own {i : Nat} {ds : List D} (s : Stt K G σ B H δ) (h : δ[i]? = some (.own ds)) : ∃ l vs, σ[i]? = some (some (.ref l)) ∧ ¬ Hd G.H0 l ∧ B l = none ∧ H l = some (.lst vs) ∧ RpA K B vs ds ∧ ¬ G.F.S l := by
  obtain ⟨o, e, l, vs, rfl, r⟩ := s.sl i _ h
  exact ⟨l, vs, e, r⟩
end
end Sd
end
-- SdRules
section
set_option Elab.async false
set_option linter.all false
set_option maxRecDepth 100000
set_option maxHeartbeats 4000000
set_option autoImplicit false
namespace Sd
open PySem PySem.Spec PyProof.Rows L2
open Evl (Ex)

/-! ### judgements over data -/
abbrev DE := List Sl → (D → Prop) → Prop
abbrev DT := List Sl → (Bool → Prop) → Prop
abbrev DA := List Sl → (List D → Prop) → Prop
abbrev DO := List Sl → (Option Int → Prop) → Prop
structure DEnds where
  nx : List Sl → Prop
  rt : D → Prop
  bk : List Sl → Prop := fun _ => False
  ct : List Sl → Prop := fun _ => False
abbrev DS := DEnds → List Sl → Prop
abbrev DG := D → List Sl → (List Sl → Prop) → Prop
abbrev DGs := List D → List Sl → (List Sl → Prop) → Prop
abbrev DI := List Sl → (List D → Prop) → Prop
section
variable (K : PySem.W.Frag) (G : Gx)
def teOf (de : DE) : TE := fun σ H Q => ∃ (B : Hp) (δ : List Sl) (P : D → Prop), Stt K G σ B H δ ∧ de δ P ∧ ∀ v d B' H', Fm K G.F B H B' H' → P d → Rp K B' v d → Q v H'
def ttOf (dt : DT) : TT := fun σ H Q => ∃ (B : Hp) (δ : List Sl) (P : Bool → Prop), Stt K G σ B H δ ∧ dt δ P ∧ ∀ b B' H', Fm K G.F B H B' H' → P b → Q b H'
def taOf (da : DA) : TA := fun σ H Q => ∃ (B : Hp) (δ : List Sl) (P : List D → Prop), Stt K G σ B H δ ∧ da δ P ∧ ∀ vs ds B' H', Fm K G.F B H B' H' → P ds → RpA K B' vs ds → Q vs H'
def toOf (d : DO) : TO := fun σ H Q => ∃ (B : Hp) (δ : List Sl) (P : Option Int → Prop), Stt K G σ B H δ ∧ d δ P ∧ ∀ o B' H', Fm K G.F B H B' H' → P o → Q o H'
/-- what is wanted over data behind a statement that began at B, and over the heap -/
structure Dlv (B : Hp) (DD : DEnds) (D : Ends) : Prop where
  nx : ∀ σ' B' H' δ', Ex B B' → Stt K G σ' B' H' δ' → DD.nx δ' → D.nx σ' H'
  rt : ∀ v d B' H', Fm K G.F G.B0 G.H0 B' H' → DD.rt d → Rp K B' v d → D.rt v H'
  bk : ∀ σ' B' H' δ', Ex B B' → Stt K G σ' B' H' δ' → DD.bk δ' → D.bk σ' H'
  ct : ∀ σ' B' H' δ', Ex B B' → Stt K G σ' B' H' δ' → DD.ct δ' → D.ct σ' H'
def tsOf (ds : DS) : TS := fun D σ H => ∃ (B : Hp) (δ : List Sl) (DD : DEnds), Stt K G σ B H δ ∧ ds DD δ ∧ Dlv K G B DD D
def tgOf (dg : DG) : TG := fun v σ H Q => ∃ (B : Hp) (δ : List Sl) (d : D) (P : List Sl → Prop), Stt K G σ B H δ ∧ Rp K B v d ∧ dg d δ P ∧ ∀ σ' B' H' δ', Ex B B' → Stt K G σ' B' H' δ' → P δ' → Q σ' H'
def tgsOf (dg : DGs) : TGs := fun vs σ H Q => ∃ (B : Hp) (δ : List Sl) (ds : List D) (P : List Sl → Prop), Stt K G σ B H δ ∧ RpA K B vs ds ∧ dg ds δ P ∧ ∀ σ' B' H' δ', Ex B B' → Stt K G σ' B' H' δ' → P δ' → Q σ' H'
/-- J walks the data xs while the heap grows from B -/
def Wk (J : It) (xs : List D) (B : Hp) : Prop := ∀ B2 H2, Ex B B2 → Ex B2 H2 → Fok K G.F B2 H2 →
  (∀ i, i < xs.length → J.go i H2 ∧ ∀ x H3, J.yld i H2 x H3 → ∃ B3 d, xs[i]? = some d ∧ Fm K G.F B2 H2 B3 H3 ∧ Rp K B3 x d) ∧ J.stop xs.length H2
def tiOf (di : DI) : TI := fun σ H R => ∃ (B : Hp) (δ : List Sl) (P : List D → Prop), Stt K G σ B H δ ∧ di δ P ∧ ∀ J xs B' H', Fm K G.F B H B' H' → P xs → Wk K G J xs B' → R J H'
end
abbrev PEd (X : Cx) (G : Gx) (e : Expr) (de : DE) : Prop := PE X e (teOf X.K G de)
abbrev PTd (X : Cx) (G : Gx) (e : Expr) (dt : DT) : Prop := PT X e (ttOf X.K G dt)
abbrev PWd (X : Cx) (G : Gx) (e : Expr) (dt : DT) : Prop := PW X e (ttOf X.K G dt)
abbrev PAd (X : Cx) (G : Gx) (es : List Expr) (da : DA) : Prop := PA X es (taOf X.K G da)
abbrev POd (X : Cx) (G : Gx) (e : Option Expr) (d : DO) : Prop := PO X e (toOf X.K G d)
abbrev PSd (X : Cx) (G : Gx) (st : Stmt) (ds : DS) : Prop := PS X st (tsOf X.K G ds)
abbrev PSsd (X : Cx) (G : Gx) (sts : List Stmt) (ds : DS) : Prop := PSs X sts (tsOf X.K G ds)
abbrev PGd (X : Cx) (G : Gx) (tg : Expr) (dg : DG) : Prop := PG X tg (tgOf X.K G dg)
abbrev PGsd (X : Cx) (G : Gx) (tgs : List Expr) (dg : DGs) : Prop := PGs X tgs (tgsOf X.K G dg)
abbrev PId (X : Cx) (G : Gx) (tg iter : Expr) (di : DI) : Prop := PI X tg iter (tiOf X.K G di)

section
variable {X : Cx}
theorem PE.imp {e : Expr} {t t' : TE} (h : PE X e t) (w : ∀ σ H Q, t' σ H Q → t σ H Q) : PE X e t' := ⟨fun pins s σ H Q I q => h.run pins s σ H Q I (w σ H Q q)⟩
theorem PT.imp {e : Expr} {t t' : TT} (h : PT X e t) (w : ∀ σ H Q, t' σ H Q → t σ H Q) : PT X e t' := ⟨fun pins s σ H Q I q => h.run pins s σ H Q I (w σ H Q q)⟩
theorem PW.imp {e : Expr} {t t' : TT} (h : PW X e t) (w : ∀ σ H Q, t' σ H Q → t σ H Q) : PW X e t' := ⟨fun whole pins s σ H Q I q => h.run whole pins s σ H Q I (w σ H Q q)⟩
theorem PA.imp {e : List Expr} {t t' : TA} (h : PA X e t) (w : ∀ σ H Q, t' σ H Q → t σ H Q) : PA X e t' := ⟨fun pos pins s σ H Q I q => h.run pos pins s σ H Q I (w σ H Q q)⟩
theorem PO.imp {e : Option Expr} {t t' : TO} (h : PO X e t) (w : ∀ σ H Q, t' σ H Q → t σ H Q) : PO X e t' := ⟨fun pins s σ H Q I q => h.run pins s σ H Q I (w σ H Q q)⟩
theorem PS.imp {e : Stmt} {t t' : TS} (h : PS X e t) (w : ∀ D σ H, t' D σ H → t D σ H) : PS X e t' := ⟨fun pins s σ H D I q => h.run pins s σ H D I (w D σ H q)⟩
theorem PSs.imp {e : List Stmt} {t t' : TS} (h : PSs X e t) (w : ∀ D σ H, t' D σ H → t D σ H) : PSs X e t' := ⟨fun pins s σ H D I q => h.run pins s σ H D I (w D σ H q)⟩
theorem PG.imp {e : Expr} {t t' : TG} (h : PG X e t) (w : ∀ v σ H Q, t' v σ H Q → t v σ H Q) : PG X e t' := ⟨fun pins s σ H v u Q I r q => h.run pins s σ H v u Q I r (w v σ H Q q)⟩
theorem PGs.imp {e : List Expr} {t t' : TGs} (h : PGs X e t) (w : ∀ v σ H Q, t' v σ H Q → t v σ H Q) : PGs X e t' := ⟨fun pins s σ H v u Q I r q => h.run pins s σ H v u Q I r (w v σ H Q q)⟩
theorem PI.imp {tg e : Expr} {t t' : TI} (h : PI X tg e t) (w : ∀ σ H Q, t' σ H Q → t σ H Q) : PI X tg e t' := ⟨fun pins s σ H Q I q => h.run pins s σ H Q I (w σ H Q q)⟩
end

/-! ### names, constants -/
def deName (i : Nat) : DE := fun δ P => ∃ d, δ[i]? = some (.dat d) ∧ P d
def deC (d : D) : DE := fun _ P => P d
section
variable {X : Cx} {G : Gx}
theorem pd_name {i : Nat} {x : Str} {pos : Pos} (h : PE X (.Name x pos) (tVar i)) : PEd X G (.Name x pos) (deName i) := PE.imp h fun σ H Q ⟨B, δ, P, s, ⟨d, hd, p⟩, q⟩ => by
  obtain ⟨v, e, r⟩ := s.dat hd
  exact ⟨v, e, q v d B H s.here p r⟩
theorem pd_c {e : Expr} {v : V} {d : D} (h : PE X e (tC v)) (r : ∀ B, Rp X.K B v d) : PEd X G e (deC d) := PE.imp h fun σ H Q ⟨B, δ, P, s, p, q⟩ => q v d B H s.here p (r B)
theorem pd_int {i : Int} {j : Nat} {pos : Pos} : PEd X G (.Constant (.int i) j pos) (deC (.int i)) := pd_c pe_int fun _ => .int i
theorem pd_bl {b : Bool} {j : Nat} {pos : Pos} : PEd X G (.Constant (.bool b) j pos) (deC (.bl b)) := pd_c pe_bl fun _ => .bl b
theorem pd_non {j : Nat} {pos : Pos} : PEd X G (.Constant .none j pos) (deC .non) := pd_c pe_non fun _ => .non
theorem pd_str {x : Str} {j : Nat} {pos : Pos} : PEd X G (.Constant (.str x) j pos) (deC (.str x)) := pd_c pe_str fun _ => .str x
/-- a constant of the module -/
theorem pd_gint {x : Str} {i : Int} {pos : Pos} (hm : ∃ t, X.mg x = some (.int i t)) (hg : Gl X x := by rfl) (hd : (x == ("__debug__" : Str)) = false := by decide) : PEd X G (.Name x pos) (deC (.int i)) := by
  obtain ⟨t, hm⟩ := hm
  exact pd_c (pe_glob (v := .int i) hg hm ⟨t, rfl⟩ hd) fun _ => .int i
/-- a def of the module, a class, as a value -/
theorem pd_gref {x : Str} {f : Addr} {pos : Pos} (hm : X.mg x = some (.ref f)) (hg : Gl X x := by rfl) (hd : (x == ("__debug__" : Str)) = false := by decide) : PEd X G (.Name x pos) (deC (.raw (.ref f))) :=
  pd_c (pe_glob (v := .ref f) hg hm rfl hd) fun _ => .raw _
/-- a built-in class, as a value -/
theorem pd_ty {x : Str} {n : String} {pos : Pos} (hm : X.mg x = none) (hv : bootBuiltins x = some (.type n)) (hg : Gl X x := by rfl) (hn : x ≠ "__name__" := by decide) (hd : (x == ("__debug__" : Str)) = false := by decide) : PEd X G (.Name x pos) (deC (.raw (.ty n))) :=
  pd_c (pe_bltn (v := .ty n) hg hm hv rfl hn hd) fun _ => .raw _
end

/-! ### operators -/
def Snd2 (K : PySem.W.Frag) (F : Fs) (r : R2) (rd : D → D → (D → Prop) → Prop) : Prop := ∀ (x y : V) (d e : D) (B H : Hp) (P : D → Prop) (Q : VK), Ex B H → Fok K F B H → Rp K B x d → Rp K B y e → rd d e P →
  (∀ v z B' H', Fm K F B H B' H' → P z → Rp K B' v z → Q v H') → r x y H Q
def Snd1 (K : PySem.W.Frag) (F : Fs) (r : V → Hp → VK → Prop) (rd : D → (D → Prop) → Prop) : Prop := ∀ (x : V) (d : D) (B H : Hp) (P : D → Prop) (Q : VK), Ex B H → Fok K F B H → Rp K B x d → rd d P →
  (∀ v z B' H', Fm K F B H B' H' → P z → Rp K B' v z → Q v H') → r x H Q
def SndC (K : PySem.W.Frag) (F : Fs) (r : List V → Hp → VK → Prop) (rd : List D → (D → Prop) → Prop) : Prop := ∀ (xs : List V) (ds : List D) (B H : Hp) (P : D → Prop) (Q : VK), Ex B H → Fok K F B H → RpA K B xs ds → rd ds P →
  (∀ v z B' H', Fm K F B H B' H' → P z → Rp K B' v z → Q v H') → r xs H Q
def de2 (rd : D → D → (D → Prop) → Prop) (da db : DE) : DE := fun δ P => da δ fun x => db δ fun y => rd x y P
def de1 (rd : D → (D → Prop) → Prop) (da : DE) : DE := fun δ P => da δ fun x => rd x P
def deB (rd : List D → (D → Prop) → Prop) (da : DA) : DE := fun δ P => da δ fun ds => rd ds P
section
variable {X : Cx} {G : Gx} {a b c : Expr} {da db dc : DE} {pos : Pos} {rd : D → D → (D → Prop) → Prop} {r : R2}
theorem te2 {K : PySem.W.Frag} (sd : Snd2 K G.F r rd) : ∀ σ H Q, teOf K G (de2 rd da db) σ H Q → tOp r (teOf K G da) (teOf K G db) σ H Q := fun σ H Q ⟨B, δ, P, s, h, q⟩ =>
  ⟨B, δ, _, s, h, fun x d B1 H1 m1 p1 r1 => ⟨B1, δ, _, s.mono m1, p1, fun y e B2 H2 m2 p2 r2 => sd x y d e B2 H2 P Q m2.e m2.f (r1.mono m2.b) r2 p2 fun v z B' H' m3 p3 r3 => q v z B' H' ((m1.trans m2).trans m3) p3 r3⟩⟩
theorem pd_op {op : Operator} (ho : OpR X (binaryOp op) r) (sd : Snd2 X.K G.F r rd) (ha : PEd X G a da) (hb : PEd X G b db) : PEd X G (.BinOp a op b pos) (de2 rd da db) := PE.imp (pe_op ho ha hb) (te2 sd)
theorem pd_cmp {op : CmpOp} (ho : OpR X (compareOp op) r) (sd : Snd2 X.K G.F r rd) (ha : PEd X G a da) (hb : PEd X G b db) (hm : behindInMarks op b = false) : PEd X G (.Compare a [op] [b] pos) (de2 rd da db) := PE.imp (pe_cmpR ho ha hb hm) (te2 sd)
theorem pd_ix {r' : R2} (ho : IxR X r') (sd : Snd2 X.K G.F r' rd) (ha : PEd X G a da) (hb : PEd X G b db) (hs : PlainIx b := by exact fun _ _ => rfl) : PEd X G (.Subscript a b pos) (de2 rd da db) := PE.imp (pe_ix ho ha hb hs) (te2 sd)
/-- a op1 b op2 c -/
def deChain (rd rd' : D → D → (D → Prop) → Prop) (da db dc : DE) : DE := fun δ P => da δ fun x => db δ fun y => rd x y fun z => ∃ k, z = .bl k ∧ if k = true then dc δ fun w => rd' y w P else P (.bl false)
theorem pd_chain {op op' : CmpOp} {r' : R2} {rd' : D → D → (D → Prop) → Prop} (ho : OpR X (compareOp op) r) (ho' : OpR X (compareOp op') r') (sd : Snd2 X.K G.F r rd) (sd' : Snd2 X.K G.F r' rd') (ha : PEd X G a da) (hb : PEd X G b db) (hc : PEd X G c dc)
    (hm : lastMarks [op, op'] [b, c] = false := by with_unfolding_all rfl) : PEd X G (.Compare a [op, op'] [b, c] pos) (deChain rd rd' da db dc) :=
  PE.imp (pe_chain ho ho' ha hb hc hm) fun σ H Q ⟨B, δ, P, s, h, q⟩ =>
    ⟨B, δ, _, s, h, fun x d B1 H1 m1 p1 r1 => ⟨B1, δ, _, s.mono m1, p1, fun y e B2 H2 m2 p2 r2 => sd x y d e B2 H2 _ _ m2.e m2.f (r1.mono m2.b) r2 p2 fun v z B3 H3 m3 p3 r3 => by
      obtain ⟨k, rfl, p4⟩ := p3
      cases r3
      have m13 := (m1.trans m2).trans m3
      refine ⟨k, rfl, ?_⟩
      cases k with
      | true =>
        exact ⟨B3, δ, _, s.mono m13, p4, fun w f B4 H4 m4 p5 r5 => sd' y w e f B4 H4 P Q m4.e m4.f (r2.mono (m3.b.trans m4.b)) r5 p5 fun v z B' H' m5 p6 r6 => q v z B' H' ((m13.trans m4).trans m5) p6 r6⟩
      | false => exact q _ _ B3 H3 m13 p4 (.bl false)⟩⟩
/-! ints -/
def rdI (g : Int → Int → Int) : D → D → (D → Prop) → Prop := fun x y P => ∃ i j, x = .int i ∧ y = .int j ∧ P (.int (g i j))
def rdIc (C : Int → Int → Prop) (g : Int → Int → Int) : D → D → (D → Prop) → Prop := fun x y P => ∃ i j, x = .int i ∧ y = .int j ∧ C i j ∧ P (.int (g i j))
def rdB (g : Int → Int → Bool) : D → D → (D → Prop) → Prop := fun x y P => ∃ i j, x = .int i ∧ y = .int j ∧ P (.bl (g i j))
theorem snd_I {K : PySem.W.Frag} {F : Fs} {g : Int → Int → Int} : Snd2 K F (rI0 fun i j => .int (g i j)) (rdI g) := fun x y d e B H P Q he hf rx ry ⟨i, j, h1, h2, p⟩ q => by
  subst h1; subst h2; cases rx; cases ry
  exact ⟨i, j, rfl, rfl, q _ _ B H (.refl he hf) p (.int _)⟩
theorem snd_Ic {K : PySem.W.Frag} {F : Fs} {C : Int → Int → Prop} {g : Int → Int → Int} : Snd2 K F (rI C fun i j => .int (g i j)) (rdIc C g) := fun x y d e B H P Q he hf rx ry ⟨i, j, h1, h2, c, p⟩ q => by
  subst h1; subst h2; cases rx; cases ry
  exact ⟨i, j, rfl, rfl, c, q _ _ B H (.refl he hf) p (.int _)⟩
theorem snd_B {K : PySem.W.Frag} {F : Fs} {g : Int → Int → Bool} : Snd2 K F (rI0 fun i j => .bl (g i j)) (rdB g) := fun x y d e B H P Q he hf rx ry ⟨i, j, h1, h2, p⟩ q => by
  subst h1; subst h2; cases rx; cases ry
  exact ⟨i, j, rfl, rfl, q _ _ B H (.refl he hf) p (.bl _)⟩
def rdAdd := rdI fun i j => i + j
def rdSub := rdI fun i j => i - j
def rdMul := rdIc CMul fun i j => i * j
def rdMod := rdIc (fun _ j => 0 < j) fun i j => i % j
def rdDiv := rdIc CDiv fun i j => i / j
def rdPow := rdIc CPow fun i j => i ^ j.toNat
def rdLt := rdB fun i j => decide (i < j)
def rdLe := rdB fun i j => decide (i ≤ j)
def rdGt := rdB fun i j => decide (j < i)
def rdGe := rdB fun i j => decide (j ≤ i)
theorem pd_add (ha : PEd X G a da) (hb : PEd X G b db) : PEd X G (.BinOp a .Add b pos) (de2 rdAdd da db) := pd_op op_add snd_I ha hb
theorem pd_sub (ha : PEd X G a da) (hb : PEd X G b db) : PEd X G (.BinOp a .Sub b pos) (de2 rdSub da db) := pd_op op_sub snd_I ha hb
theorem pd_mul (ha : PEd X G a da) (hb : PEd X G b db) : PEd X G (.BinOp a .Mult b pos) (de2 rdMul da db) := pd_op op_mul snd_Ic ha hb
theorem pd_mod (ha : PEd X G a da) (hb : PEd X G b db) : PEd X G (.BinOp a .Mod b pos) (de2 rdMod da db) := pd_op op_mod snd_Ic ha hb
theorem pd_div (ha : PEd X G a da) (hb : PEd X G b db) : PEd X G (.BinOp a .FloorDiv b pos) (de2 rdDiv da db) := pd_op op_fdiv snd_Ic ha hb
theorem pd_pow (ha : PEd X G a da) (hb : PEd X G b db) : PEd X G (.BinOp a .Pow b pos) (de2 rdPow da db) := pd_op op_pow snd_Ic ha hb
theorem pd_lt (ha : PEd X G a da) (hb : PEd X G b db) : PEd X G (.Compare a [.Lt] [b] pos) (de2 rdLt da db) := pd_cmp op_lt snd_B ha hb (nomark _)
theorem pd_le (ha : PEd X G a da) (hb : PEd X G b db) : PEd X G (.Compare a [.LtE] [b] pos) (de2 rdLe da db) := pd_cmp op_le snd_B ha hb (nomark _)
theorem pd_gt (ha : PEd X G a da) (hb : PEd X G b db) : PEd X G (.Compare a [.Gt] [b] pos) (de2 rdGt da db) := pd_cmp op_gt snd_B ha hb (nomark _)
theorem pd_ge (ha : PEd X G a da) (hb : PEd X G b db) : PEd X G (.Compare a [.GtE] [b] pos) (de2 rdGe da db) := pd_cmp op_ge snd_B ha hb (nomark _)
theorem pd_lele (ha : PEd X G a da) (hb : PEd X G b db) (hc : PEd X G c dc) (hm : lastMarks [CmpOp.LtE, CmpOp.LtE] [b, c] = false := by with_unfolding_all rfl) : PEd X G (.Compare a [.LtE, .LtE] [b, c] pos) (deChain rdLe rdLe da db dc) := pd_chain op_le op_le snd_B snd_B ha hb hc hm
theorem pd_lelt (ha : PEd X G a da) (hb : PEd X G b db) (hc : PEd X G c dc) (hm : lastMarks [CmpOp.LtE, CmpOp.Lt] [b, c] = false := by with_unfolding_all rfl) : PEd X G (.Compare a [.LtE, .Lt] [b, c] pos) (deChain rdLe rdLt da db dc) := pd_chain op_le op_lt snd_B snd_B ha hb hc hm
theorem pd_ltle (ha : PEd X G a da) (hb : PEd X G b db) (hc : PEd X G c dc) (hm : lastMarks [CmpOp.Lt, CmpOp.LtE] [b, c] = false := by with_unfolding_all rfl) : PEd X G (.Compare a [.Lt, .LtE] [b, c] pos) (deChain rdLt rdLe da db dc) := pd_chain op_lt op_le snd_B snd_B ha hb hc hm
/-! -a -/
def rdNeg : D → (D → Prop) → Prop := fun x P => ∃ i, x = .int i ∧ P (.int (-i))
theorem pd_neg (ha : PEd X G a da) : PEd X G (.UnaryOp .USub a pos) (de1 rdNeg da) := PE.imp (pe_un un_neg ha) fun σ H Q ⟨B, δ, P, s, h, q⟩ =>
  ⟨B, δ, _, s, h, fun x d B1 H1 m1 ⟨i, e, p⟩ r1 => by
    subst e; cases r1
    exact ⟨i, rfl, q _ _ B1 H1 m1 p (.int _)⟩⟩
/-! is None, is True -/
def D.isNon : D → Bool
  | .non => true
  | _ => false
/-- no raw value -/
def D.cooked : D → Bool
  | .raw _ => false
  | _ => true
theorem Rp.isNon {K : PySem.W.Frag} {B : Hp} {v : V} {d : D} (r : Rp K B v d) (c : d.cooked = true) : decide (v = V.non) = d.isNon := by
  cases r <;> first | rfl | cases c
def rdIsN : D → D → (D → Prop) → Prop := fun x y P => y = .non ∧ x.cooked = true ∧ P (.bl x.isNon)
def rdNotN : D → D → (D → Prop) → Prop := fun x y P => y = .non ∧ x.cooked = true ∧ P (.bl (!x.isNon))
theorem pd_isN (ha : PEd X G a da) (hb : PEd X G b db) : PEd X G (.Compare a [.Is] [b] pos) (de2 rdIsN da db) :=
  pd_cmp op_isN (fun x y d e B H P Q he hf rx ry ⟨h1, h2, p⟩ q => by
    subst h1; cases ry
    refine ⟨rfl, ?_⟩
    rw [rx.isNon h2]
    exact q _ _ B H (.refl he hf) p (.bl _)) ha hb (nomark _)
theorem pd_notN (ha : PEd X G a da) (hb : PEd X G b db) : PEd X G (.Compare a [.IsNot] [b] pos) (de2 rdNotN da db) :=
  pd_cmp op_notN (fun x y d e B H P Q he hf rx ry ⟨h1, h2, p⟩ q => by
    subst h1; cases ry
    refine ⟨rfl, ?_⟩
    rw [rx.isNon h2]
    exact q _ _ B H (.refl he hf) p (.bl _)) ha hb (nomark _)
def rdIsB : D → D → (D → Prop) → Prop := fun x y P => ∃ i j, x = .bl i ∧ y = .bl j ∧ P (.bl (decide (i = j)))
def rdNotB : D → D → (D → Prop) → Prop := fun x y P => ∃ i j, x = .bl i ∧ y = .bl j ∧ P (.bl (!decide (i = j)))
theorem pd_isB (ha : PEd X G a da) (hb : PEd X G b db) : PEd X G (.Compare a [.Is] [b] pos) (de2 rdIsB da db) :=
  pd_cmp op_isBl (fun x y d e B H P Q he hf rx ry ⟨i, j, h1, h2, p⟩ q => by
    subst h1; subst h2; cases rx; cases ry
    exact ⟨i, j, rfl, rfl, q _ _ B H (.refl he hf) p (.bl _)⟩) ha hb (nomark _)
theorem pd_notB (ha : PEd X G a da) (hb : PEd X G b db) : PEd X G (.Compare a [.IsNot] [b] pos) (de2 rdNotB da db) :=
  pd_cmp op_notBl (fun x y d e B H P Q he hf rx ry ⟨i, j, h1, h2, p⟩ q => by
    subst h1; subst h2; cases rx; cases ry
    exact ⟨i, j, rfl, rfl, q _ _ B H (.refl he hf) p (.bl _)⟩) ha hb (nomark _)
end

/-! ### == of data -/
mutual
def D.py : D → PyData
  | .non => .none
  | .bl b => .bool b
  | .int i => .int i
  | .str s => .str s
  | .lst xs => .list (D.pyA xs)
  | .tup xs => .tuple (D.pyA xs)
  | _ => .none
def D.pyA : List D → List PyData
  | [] => []
  | d :: ds => D.py d :: D.pyA ds
end
mutual
/-- plain data: None, bools, ints, texts, lists, tuples -/
def D.plain : D → Bool
  | .non => true
  | .bl _ => true
  | .int _ => true
  | .str _ => true
  | .lst xs => D.plainA xs
  | .tup xs => D.plainA xs
  | _ => false
def D.plainA : List D → Bool
  | [] => true
  | d :: ds => D.plain d && D.plainA ds
end
section
variable {K : PySem.W.Frag} {B : Hp}
mutual
theorem Rp.dp : ∀ {v : V} {d : D}, Rp K B v d → d.plain = true → Dp K B v d.py
  | _, _, .non, _ => .non
  | _, _, .bl b, _ => .bl b
  | _, _, .int i, _ => .int i
  | _, _, .str s, _ => .str s
  | _, _, .lst h r, p => .lst (SqL.of h) (RpA.dp r (by simpa [D.plain] using p))
  | _, _, .tup h r, p => .tup h (RpA.dp r (by simpa [D.plain] using p))
  | _, _, .raw v, p => by cases p
  | _, _, .dct h, p => by cases p
  | _, _, .ln h h2 hf ht r, p => by cases p
theorem RpA.dp : ∀ {vs : List V} {ds : List D}, RpA K B vs ds → D.plainA ds = true → DpAll K B vs (D.pyA ds)
  | _, _, .nil, _ => .nil
  | _, _, .cons h r, p => by
    have p' := Bool.and_eq_true_iff.mp (by simpa only [D.plainA] using p)
    exact .cons (Rp.dp h p'.1) (RpA.dp r p'.2)
end
end
mutual
theorem dp_ex {K : PySem.W.Frag} {H H' : Hp} (e : Ex H H') : ∀ {v : V} {d : PyData}, Dp K H v d → Dp K H' v d
  | _, _, .non => .non
  | _, _, .bl b => .bl b
  | _, _, .int i => .int i
  | _, _, .str s => .str s
  | _, _, .lst h r => .lst (exL e h) (dpA_ex e r)
  | _, _, .tup h r => .tup (exT e h) (dpA_ex e r)
theorem dpA_ex {K : PySem.W.Frag} {H H' : Hp} (e : Ex H H') : ∀ {v : List V} {d : List PyData}, DpAll K H v d → DpAll K H' v d
  | _, _, .nil => .nil
  | _, _, .cons h r => .cons (dp_ex e h) (dpA_ex e r)
end
/-- plain, and of a form that == takes -/
def D.eqOk (d : D) : Bool := d.plain && SeqAt.shaped d.py
def D.eqv (d e : D) : Bool := PyData.eqv d.py e.py
theorem D.eqv_refl {d : D} (h : d.eqOk = true) : d.eqv d = true := SeqAt.eqv_refl _ (SeqAt.canLay_of_shaped (Bool.and_eq_true_iff.mp h).2)
section
variable {X : Cx} {G : Gx} {a b c : Expr} {da db dc : DE} {pos : Pos}
def rdEq : D → D → (D → Prop) → Prop := fun x y P => x.eqOk = true ∧ y.eqOk = true ∧ P (.bl (x.eqv y))
def rdNe : D → D → (D → Prop) → Prop := fun x y P => x.eqOk = true ∧ y.eqOk = true ∧ P (.bl (!x.eqv y))
theorem pd_eq (hu : X.A.units + 64 < cLine) (ha : PEd X G a da) (hb : PEd X G b db) : PEd X G (.Compare a [.Eq] [b] pos) (de2 rdEq da db) :=
  pd_cmp (op_eqD hu) (fun x y d e B H P Q he hf rx ry ⟨h1, h2, p⟩ q => by
    have p1 := Bool.and_eq_true_iff.mp h1
    have p2 := Bool.and_eq_true_iff.mp h2
    exact ⟨d.py, e.py, dp_ex he (rx.dp p1.1), dp_ex he (ry.dp p2.1), p1.2, p2.2, q _ _ B H (.refl he hf) p (.bl _)⟩) ha hb (nomark _)
theorem pd_ne (hu : X.A.units + 64 < cLine) (ha : PEd X G a da) (hb : PEd X G b db) : PEd X G (.Compare a [.NotEq] [b] pos) (de2 rdNe da db) :=
  pd_cmp (op_neD hu) (fun x y d e B H P Q he hf rx ry ⟨h1, h2, p⟩ q => by
    have p1 := Bool.and_eq_true_iff.mp h1
    have p2 := Bool.and_eq_true_iff.mp h2
    exact ⟨d.py, e.py, dp_ex he (rx.dp p1.1), dp_ex he (ry.dp p2.1), p1.2, p2.2, q _ _ B H (.refl he hf) p (.bl _)⟩) ha hb (nomark _)
end

/-! ### and, or, not, if -/
section
variable {X : Cx} {G : Gx} {a b c e : Expr} {rest : List Expr} {da db dc : DE} {ta tb : DT} {pos : Pos}
def deAnd (da db : DE) : DE := fun δ P => da δ fun x => ∃ k, x = .bl k ∧ if k = true then db δ P else P (.bl false)
def deOr (da db : DE) : DE := fun δ P => da δ fun x => ∃ k, x = .bl k ∧ if k = true then P (.bl true) else db δ P
def deNot (da : DE) : DE := fun δ P => da δ fun x => ∃ k, x = .bl k ∧ P (.bl (!k))
theorem pd_one {op : BoolOp} (h : PEd X G a da) : PEd X G (.BoolOp op [a] pos) da := pe_one h
theorem pd_and (ha : PEd X G a da) (hb : PEd X G (.BoolOp .And (b :: rest) pos) db) : PEd X G (.BoolOp .And (a :: b :: rest) pos) (deAnd da db) := PE.imp (pe_and ha hb) fun σ H Q ⟨B, δ, P, s, h, q⟩ =>
  ⟨B, δ, _, s, h, fun x d B1 H1 m1 ⟨k, e, p⟩ r1 => by
    subst e; cases r1
    refine ⟨k, rfl, ?_⟩
    cases k with
    | true => exact ⟨B1, δ, P, s.mono m1, p, fun v d B' H' m => q v d B' H' (m1.trans m)⟩
    | false => exact q _ _ B1 H1 m1 p (.bl _)⟩
theorem pd_or (ha : PEd X G a da) (hb : PEd X G (.BoolOp .Or (b :: rest) pos) db) : PEd X G (.BoolOp .Or (a :: b :: rest) pos) (deOr da db) := PE.imp (pe_or ha hb) fun σ H Q ⟨B, δ, P, s, h, q⟩ =>
  ⟨B, δ, _, s, h, fun x d B1 H1 m1 ⟨k, e, p⟩ r1 => by
    subst e; cases r1
    refine ⟨k, rfl, ?_⟩
    cases k with
    | false => exact ⟨B1, δ, P, s.mono m1, p, fun v d B' H' m => q v d B' H' (m1.trans m)⟩
    | true => exact q _ _ B1 H1 m1 p (.bl _)⟩
theorem pd_not (ha : PEd X G a da) : PEd X G (.UnaryOp .Not a pos) (deNot da) := PE.imp (pe_not ha) fun σ H Q ⟨B, δ, P, s, h, q⟩ =>
  ⟨B, δ, _, s, h, fun x d B1 H1 m1 ⟨k, e, p⟩ r1 => by
    subst e; cases r1
    exact ⟨k, rfl, q _ _ B1 H1 m1 p (.bl _)⟩⟩
/-! tests -/
def dtV (da : DE) : DT := fun δ P => da δ fun x => ∃ k, x = .bl k ∧ P k
theorem ptd_val (h : PEd X G e da) (he : ∀ whole, isTrue e X.env whole = (do let v ← whole; standAt e.pos; holding [v] (truthy v)) := by intro _; rfl) : PTd X G e (dtV da) := PT.imp (pt_val h he) fun σ H Q ⟨B, δ, P, s, h, q⟩ =>
  ⟨B, δ, _, s, h, fun x d B1 H1 m1 ⟨k, e, p⟩ r1 => by
    subst e; cases r1
    exact ⟨k, rfl, q _ B1 H1 m1 p⟩⟩
def dtAnd (ta tb : DT) : DT := fun δ P => ta δ fun k => if k = true then tb δ P else P false
def dtOr (ta tb : DT) : DT := fun δ P => ta δ fun k => if k = true then P true else tb δ P
def dtNot (ta : DT) : DT := fun δ P => ta δ fun k => P (!k)
theorem pwd_and1 (ha : PTd X G a ta) : PWd X G (.BoolOp .And [a] pos) ta := pw_and1 ha
theorem pwd_or1 (ha : PTd X G a ta) : PWd X G (.BoolOp .Or [a] pos) ta := pw_or1 ha
theorem pwd_and (ha : PTd X G a ta) (hb : PWd X G (.BoolOp .And (b :: rest) pos) tb) : PWd X G (.BoolOp .And (a :: b :: rest) pos) (dtAnd ta tb) := PW.imp (pw_and ha hb) fun σ H Q ⟨B, δ, P, s, h, q⟩ =>
  ⟨B, δ, _, s, h, fun k B1 H1 m1 p => by
    cases k with
    | true => exact ⟨B1, δ, P, s.mono m1, p, fun b B' H' m => q b B' H' (m1.trans m)⟩
    | false => exact q _ B1 H1 m1 p⟩
theorem pwd_or (ha : PTd X G a ta) (hb : PWd X G (.BoolOp .Or (b :: rest) pos) tb) : PWd X G (.BoolOp .Or (a :: b :: rest) pos) (dtOr ta tb) := PW.imp (pw_or ha hb) fun σ H Q ⟨B, δ, P, s, h, q⟩ =>
  ⟨B, δ, _, s, h, fun k B1 H1 m1 p => by
    cases k with
    | false => exact ⟨B1, δ, P, s.mono m1, p, fun b B' H' m => q b B' H' (m1.trans m)⟩
    | true => exact q _ B1 H1 m1 p⟩
theorem ptd_w (h : PWd X G e ta) : PTd X G e ta := PW.pt h
theorem ptd_not (ha : PTd X G a ta) : PTd X G (.UnaryOp .Not a pos) (dtNot ta) := PT.imp (pt_not ha) fun σ H Q ⟨B, δ, P, s, h, q⟩ => ⟨B, δ, _, s, h, fun k B1 H1 m1 p => q _ B1 H1 m1 p⟩
def deIf (tc : DT) (da db : DE) : DE := fun δ P => tc δ fun k => if k = true then da δ P else db δ P
theorem pd_ifExp (hc : PTd X G c ta) (ha : PEd X G a da) (hb : PEd X G b db) : PEd X G (.IfExp c a b pos) (deIf ta da db) := PE.imp (pe_ifExp hc ha hb) fun σ H Q ⟨B, δ, P, s, h, q⟩ =>
  ⟨B, δ, _, s, h, fun k B1 H1 m1 p => by
    cases k with
    | true => exact ⟨B1, δ, P, s.mono m1, p, fun v d B' H' m => q v d B' H' (m1.trans m)⟩
    | false => exact ⟨B1, δ, P, s.mono m1, p, fun v d B' H' m => q v d B' H' (m1.trans m)⟩⟩
end
end Sd
end
-- SdCalls
section
set_option Elab.async false
set_option linter.all false
set_option maxRecDepth 100000
set_option maxHeartbeats 4000000
set_option autoImplicit false
namespace Sd
open PySem PySem.Spec PyProof.Rows L2
open Evl (Ex)

theorem size_ok {n : Nat} (h : n ≤ 100000) : n ≤ sizeLine := Evl.sz_of h
theorem size_lt {n : Nat} (h : n < 100000) : n < sizeLine := Evl.sz_lt h

/-! ### arguments, displays -/
def D.seq : D → Option (List D)
  | .lst xs => some xs
  | .tup xs => some xs
  | _ => none
def daNil : DA := fun _ P => P []
def daCons (de : DE) (da : DA) : DA := fun δ P => de δ fun x => da δ fun xs => P (x :: xs)
def daStar (de : DE) (da : DA) : DA := fun δ P => de δ fun x => ∃ xs, x.seq = some xs ∧ da δ fun ys => P (xs ++ ys)
def deTup (da : DA) : DE := fun δ P => da δ fun ds => ds.length ≤ 100000 ∧ P (.tup ds)
def deLst (da : DA) : DE := fun δ P => da δ fun ds => ds.length ≤ 100000 ∧ P (.lst ds)
section
variable {X : Cx} {G : Gx} {e : Expr} {es : List Expr} {de : DE} {da : DA} {pos p : Pos}
theorem seq_any {K : PySem.W.Frag} {B H : Hp} {v : V} {d : D} {xs : List D} (e : Ex B H) (r : Rp K B v d) (h : d.seq = some xs) : ∃ a vs, v = .ref a ∧ (SqL K H a vs ∨ SqT K H a vs) ∧ RpA K B vs xs := by
  cases r with
  | lst h1 r => cases h; exact ⟨_, _, rfl, .inl (SqL.of (e _ _ h1)), r⟩
  | tup h1 r => cases h; exact ⟨_, _, rfl, .inr (exT e h1), r⟩
  | _ => cases h
/-- the end where a new list, a new tuple is made -/
theorem newL {K : PySem.W.Frag} {F : Fs} {B H B1 H1 : Hp} {P : D → Prop} {Q : VK} {vs : List V} {ds : List D} {p : Addr} (q : ∀ v z B' H', Fm K F B H B' H' → P z → Rp K B' v z → Q v H') (m1 : Fm K F B H B1 H1) (ra : RpA K B1 vs ds) (pz : P (.lst ds)) (hp : H1 p = none) : Q (.ref p) (upd H1 p (.lst vs)) := by
  have m2 := Fm.new (o := .lst vs) m1.e m1.f hp
  exact q _ _ _ _ (m1.trans m2) pz (.lst upd_same (ra.mono m2.b))
theorem newT {K : PySem.W.Frag} {F : Fs} {B H B1 H1 : Hp} {P : D → Prop} {Q : VK} {vs : List V} {ds : List D} {p : Addr} (q : ∀ v z B' H', Fm K F B H B' H' → P z → Rp K B' v z → Q v H') (m1 : Fm K F B H B1 H1) (ra : RpA K B1 vs ds) (pz : P (.tup ds)) (hp : H1 p = none) : Q (.ref p) (upd H1 p (.tup vs)) := by
  have m2 := Fm.new (o := .tup vs) m1.e m1.f hp
  exact q _ _ _ _ (m1.trans m2) pz (.tup (SqT.of upd_same) (ra.mono m2.b))
theorem pad_nil : PAd X G [] daNil := PA.imp pa_nil fun σ H Q ⟨B, δ, P, s, p, q⟩ => q [] [] B H s.here p .nil
theorem pad_cons (he : PEd X G e de) (hr : PAd X G es da) (hs : starEach (e :: es) X.env = (false, eval e X.env) :: starEach es X.env := by rfl) : PAd X G (e :: es) (daCons de da) := PA.imp (pa_cons he hr hs) fun σ H Q ⟨B, δ, P, s, h, q⟩ =>
  ⟨B, δ, _, s, h, fun x d B1 H1 m1 p1 r1 => ⟨B1, δ, _, s.mono m1, p1, fun xs ds B2 H2 m2 p2 r2 => q _ _ B2 H2 (m1.trans m2) p2 (.cons (r1.mono m2.b) r2)⟩⟩
theorem pad_star (he : PEd X G e de) (hr : PAd X G es da) (hs : starEach (.Starred e p :: es) X.env = (true, eval e X.env) :: starEach es X.env := by rfl) : PAd X G (.Starred e p :: es) (daStar de da) := PA.imp (StX.pa_star he hr hs) fun σ H Q ⟨B, δ, P, s, h, q⟩ =>
  ⟨B, δ, _, s, h, fun x d B1 H1 m1 ⟨xs, e, p1⟩ r1 => by
    obtain ⟨a, vs, rfl, hq, ra⟩ := seq_any m1.e r1 e
    exact ⟨a, vs, rfl, hq.symm, B1, δ, _, s.mono m1, p1, fun ws ds B2 H2 m2 p2 r2 => q _ _ B2 H2 (m1.trans m2) p2 ((ra.mono m2.b).app r2)⟩⟩
theorem pd_tup {k : Nat} (h : PAd X G es da) : PEd X G (.Tuple es k pos) (deTup da) := PE.imp (pe_tup h) fun σ H Q ⟨B, δ, P, s, h, q⟩ =>
  ⟨B, δ, _, s, h, fun xs ds B1 H1 m1 ⟨hl, p1⟩ r1 => ⟨by rw [r1.length]; exact size_ok hl, fun p hp => newT q m1 r1 p1 hp⟩⟩
theorem pd_lst (h : PAd X G es da) : PEd X G (.List es pos) (deLst da) := PE.imp (pe_lst h) fun σ H Q ⟨B, δ, P, s, h, q⟩ =>
  ⟨B, δ, _, s, h, fun xs ds B1 H1 m1 ⟨hl, p1⟩ r1 => ⟨by rw [r1.length]; exact size_ok hl, fun p hp => newL q m1 r1 p1 hp⟩⟩
end

/-! ### items, slices -/
theorem RpA.atI {K : PySem.W.Frag} {B : Hp} {vs : List V} {ds : List D} {i : Int} {d : D} (r : RpA K B vs ds) (h : L2.atI ds i = some d) : ∃ v, L2.atI vs i = some v ∧ Rp K B v d := by
  unfold L2.atI at h ⊢
  rw [r.length]
  cases e : ixN ds.length i with
  | none => rw [e] at h; cases h
  | some j =>
    rw [e] at h
    exact r.at h
def D.ix (x y : D) : Option D := match x.seq, y with
  | some xs, .int i => L2.atI xs i
  | _, _ => none
def rdIx : D → D → (D → Prop) → Prop := fun x y P => ∃ z, x.ix y = some z ∧ P z
def cut {α : Type} (xs : List α) (lo hi : Option Int) : List α := (xs.drop (HT.sIx xs.length 0 lo)).take (HT.sIx xs.length xs.length hi - HT.sIx xs.length 0 lo)
theorem RpA.cut {K : PySem.W.Frag} {B : Hp} {vs : List V} {ds : List D} (r : RpA K B vs ds) (lo hi : Option Int) : RpA K B (cutV vs lo hi) (Sd.cut ds lo hi) := by
  unfold cutV Sd.cut
  rw [r.length]
  exact (r.drop _).take _
theorem cut_whole {α : Type} {xs : List α} {lo hi : Option Int} (h : HT.sIx xs.length 0 lo = 0 ∧ HT.sIx xs.length xs.length hi = xs.length) : cut xs lo hi = xs := by
  unfold cut
  rw [h.1, h.2]
  simp
def D.sl (x : D) (lo hi : Option Int) : Option D := match x with
  | .lst xs => some (.lst (cut xs lo hi))
  | .tup xs => some (.tup (cut xs lo hi))
  | _ => none
def doNone : DO := fun _ P => P none
def doSome (de : DE) : DO := fun δ P => de δ fun x => ∃ i, x = .int i ∧ P (some i)
def deSl (de : DE) (l u : DO) : DE := fun δ P => de δ fun x => l δ fun lo => u δ fun hi => ∃ z, x.sl lo hi = some z ∧ P z
section
variable {X : Cx} {G : Gx} {a b e : Expr} {da db de : DE} {pos p2 : Pos} {lo hi : Option Expr} {dl dh : DO}
theorem pd_item (ha : PEd X G a da) (hb : PEd X G b db) (hs : PlainIx b := by exact fun _ _ => rfl) : PEd X G (.Subscript a b pos) (de2 rdIx da db) :=
  pd_ix ix_seq (fun x y d e B H P Q he hf rx ry ⟨z, h, p⟩ q => by
    unfold D.ix at h
    cases hq : d.seq with
    | none => rw [hq] at h; cases h
    | some xs =>
      rw [hq] at h
      cases e with
      | int i =>
        cases ry
        obtain ⟨t, vs, rfl, hs, ra⟩ := seq_any he rx hq
        obtain ⟨v, ev, rv⟩ := ra.atI h
        rcases hs with hs | hs
        · exact .inl ⟨t, vs, i, v, rfl, rfl, hs, ev, q _ _ B H (.refl he hf) p rv⟩
        · exact .inr (.inl ⟨t, vs, i, v, rfl, rfl, hs, ev, q _ _ B H (.refl he hf) p rv⟩)
      | _ => cases h) ha hb hs
theorem pod_none : POd X G none doNone := PO.imp po_none fun σ H Q ⟨B, δ, P, s, p, q⟩ => q none B H s.here p
theorem pod_some (h : PEd X G e de) : POd X G (some e) (doSome de) := PO.imp (po_some h) fun σ H Q ⟨B, δ, P, s, h, q⟩ =>
  ⟨B, δ, _, s, h, fun x d B1 H1 m1 ⟨i, e, p⟩ r1 => by
    subst e; cases r1
    exact ⟨i, rfl, q _ B1 H1 m1 p⟩⟩
theorem pd_slice (he : PEd X G e de) (hl : POd X G lo dl) (hu : POd X G hi dh) : PEd X G (.Subscript e (.Slice lo hi none p2) pos) (deSl de dl dh) := PE.imp (pe_slice (SlR.or sl_list sl_tupA) he hl hu) fun σ H Q ⟨B, δ, P, s, h, q⟩ =>
  ⟨B, δ, _, s, h, fun x d B1 H1 m1 p1 r1 => ⟨B1, δ, _, s.mono m1, p1, fun o B2 H2 m2 p2 => ⟨B2, δ, _, s.mono (m1.trans m2), p2, fun o' B3 H3 m3 ⟨z, ez, p3⟩ => by
    have m := (m1.trans m2).trans m3
    have r3 := r1.mono (m2.b.trans m3.b)
    cases r3 with
    | lst h1 ra =>
      cases ez
      refine .inl ⟨_, _, rfl, SqL.of (m3.e _ _ h1), fun p hp => newL q m (ra.cut o o') p3 hp⟩
    | tup h1 ra =>
      cases ez
      refine .inr ⟨_, _, rfl, exT m3.e h1, fun w => ?_, fun w p hp => newT q m (ra.cut o o') p3 hp⟩
      · rw [ra.length] at w
        refine q _ _ B3 H3 m p3 ?_
        rw [cut_whole w]
        exact .tup h1 ra
    | _ => cases ez⟩⟩⟩
/-- xs[::-1] -/
def rdRev : D → (D → Prop) → Prop := fun x P => ∃ xs, x = .lst xs ∧ P (.lst xs.reverse)
theorem pd_rev {k : Nat} {p1 p2 p3 : Pos} (he : PEd X G e de) : PEd X G (.Subscript e (.Slice none none (some (.UnaryOp .USub (.Constant (.int 1) k p1) p2)) p3) pos) (de1 rdRev de) := PE.imp (pe_revL he) fun σ H Q ⟨B, δ, P, s, h, q⟩ =>
  ⟨B, δ, _, s, h, fun x d B1 H1 m1 ⟨xs, e, p⟩ r1 => by
    subst e
    cases r1 with
    | lst h1 ra =>
      refine ⟨_, _, rfl, SqL.of (m1.e _ _ h1), fun p' hp => newL q m1 ra.rev p hp⟩⟩
/-- line.seats -/
def rdSeats : D → (D → Prop) → Prop := fun x P => ∃ xs, x = .ln xs ∧ P (.tup xs)
theorem pd_seats (c : Cls X.K (He.ga X.K "Line")) (n : NoAttr X.K (He.ga X.K "Line") "seats") (he : PEd X G e de) (hb : attributeBase e "seats" X.env (eval e X.env) = eval e X.env := by rfl) : PEd X G (.Attribute e "seats" pos) (de1 rdSeats de) := PE.imp (pe_fld he hb) fun σ H Q ⟨B, δ, P, s, h, q⟩ =>
  ⟨B, δ, _, s, h, fun x d B1 H1 m1 ⟨xs, e, p⟩ r1 => by
    subst e
    cases r1 with
    | ln h1 h2 hf ht ra => exact ⟨_, _, _, _, _, rfl, m1.e _ _ h1, c, n, hf, q _ _ B1 H1 m1 p (.tup ht ra)⟩⟩
/-! + of lists, of tuples; * -/
def rdCatL : D → D → (D → Prop) → Prop := fun x y P => ∃ xs ys, x = .lst xs ∧ y = .lst ys ∧ xs.length + ys.length ≤ 100000 ∧ P (.lst (xs ++ ys))
def rdCatT : D → D → (D → Prop) → Prop := fun x y P => ∃ xs ys, x = .tup xs ∧ y = .tup ys ∧ xs.length + ys.length ≤ 100000 ∧ P (.tup (xs ++ ys))
theorem pd_catL (ha : PEd X G a da) (hb : PEd X G b db) : PEd X G (.BinOp a .Add b pos) (de2 rdCatL da db) :=
  pd_op op_cat (fun x y d e B H P Q he hf rx ry ⟨xs, ys, h1, h2, hl, p⟩ q => by
    subst h1; subst h2
    cases rx with
    | lst hx ra =>
      cases ry with
      | lst hy rb =>
        refine ⟨_, _, _, _, rfl, rfl, he _ _ hx, he _ _ hy, by rw [ra.length, rb.length]; exact size_ok hl, fun p' hp => newL q (.refl he hf) (ra.app rb) p hp⟩) ha hb
theorem pd_catT (ha : PEd X G a da) (hb : PEd X G b db) : PEd X G (.BinOp a .Add b pos) (de2 rdCatT da db) :=
  pd_op op_catA (fun x y d e B H P Q he hf rx ry ⟨xs, ys, h1, h2, hl, p⟩ q => by
    subst h1; subst h2
    cases rx with
    | tup hx ra =>
      cases ry with
      | tup hy rb =>
        refine ⟨_, _, _, _, rfl, rfl, exT he hx, exT he hy, by rw [ra.length, rb.length]; exact size_ok hl, fun z => ?_, fun z1 z2 => ?_, fun z1 z2 p' hp => newT q (.refl he hf) (ra.app rb) p hp⟩
        · subst z
          cases ra
          exact q _ _ B H (.refl he hf) p (.tup hy rb)
        · subst z2
          cases rb
          rw [List.append_nil] at p
          exact q _ _ B H (.refl he hf) p (.tup hx ra)) ha hb
def repD {α : Type} (n : Int) (xs : List α) : List α := (List.replicate n.toNat xs).flatten
def rdRepL : D → D → (D → Prop) → Prop := fun x y P => ∃ xs n, x = .lst xs ∧ y = .int n ∧ 0 ≤ n ∧ n ≤ 100000 ∧ xs.length * n.toNat ≤ 100000 ∧ P (.lst (repD n xs))
theorem pd_repL (ha : PEd X G a da) (hb : PEd X G b db) : PEd X G (.BinOp a .Mult b pos) (de2 rdRepL da db) :=
  pd_op op_rep (fun x y d e B H P Q he hf rx ry ⟨xs, n, h1, h2, h3, h4, hl, p⟩ q => by
    subst h1; subst h2
    cases rx with
    | lst hx ra =>
      cases ry
      refine ⟨_, n, _, rfl, rfl, he _ _ hx, by omega, by omega, by rw [ra.length]; exact size_ok hl, fun p' hp => newL q (.refl he hf) (ra.rep _) p hp⟩) ha hb
end

/-! ### built-in functions -/
section
variable {X : Cx} {G : Gx} {e : Expr} {es : List Expr} {da : DA} {x : Str} {p pos : Pos} {id T : String} {r : List V → Hp → VK → Prop} {rd : List D → (D → Prop) → Prop}
theorem teB {K : PySem.W.Frag} (sd : SndC K G.F r rd) : ∀ σ H Q, teOf K G (deB rd da) σ H Q → tCB r (taOf K G da) σ H Q := fun σ H Q ⟨B, δ, P, s, h, q⟩ =>
  ⟨B, δ, _, s, h, fun xs ds B1 H1 m1 p1 r1 => sd xs ds B1 H1 P Q m1.e m1.f r1 p1 fun v z B' H' m2 => q v z B' H' (m1.trans m2)⟩
theorem pd_callB (hc : CallR X (.builtin id) r) (sd : SndC X.K G.F r rd) (hm : X.mg x = none) (ha : PAd X G (e :: es) da) (hv : bootBuiltins x = some (.builtin id) := by decide +kernel) (hg : Gl X x := by rfl) (hn : x ≠ "__name__" := by decide) (hdb : (x == ("__debug__" : Str)) = false := by decide)
    (he : starEach (e :: es) X.env = (false, eval e X.env) :: starEach es X.env := by rfl) (hpl : (backTo pos (starEach es X.env)).any (·.1) = false := by rfl) : PEd X G (.Call (.Name x p) (e :: es) [] pos) (deB rd da) :=
  PE.imp (pe_callB hc hg hm hv ha hn hdb he hpl) (teB sd)
theorem pd_callTy (hc : CallR X (.type T) r) (sd : SndC X.K G.F r rd) (hm : X.mg x = none) (ha : PAd X G (e :: es) da) (hv : bootBuiltins x = some (.type T) := by decide +kernel) (hg : Gl X x := by rfl) (hn : x ≠ "__name__" := by decide) (hdb : (x == ("__debug__" : Str)) = false := by decide)
    (he : starEach (e :: es) X.env = (false, eval e X.env) :: starEach es X.env := by rfl) (hpl : (backTo pos (starEach es X.env)).any (·.1) = false := by rfl) : PEd X G (.Call (.Name x p) (e :: es) [] pos) (deB rd da) :=
  PE.imp (pe_callTy hc hg hm hv ha hn hdb he hpl) (teB sd)
end
def rdLen : List D → (D → Prop) → Prop := fun ds P => ∃ x xs, ds = [x] ∧ x.seq = some xs ∧ P (.int xs.length)
theorem snd_len {X : Cx} {F : Fs} : SndC X.K F (fun xs H Q => ∃ p ys, xs = [.ref p] ∧ (SqL X.K H p ys ∨ SqT X.K H p ys) ∧ Q (.int ys.length) H) rdLen := fun xs ds B H P Q he hf r ⟨x, ys, h1, h2, p⟩ q => by
  subst h1
  cases r with
  | cons rx rn =>
    cases rn
    obtain ⟨a, vs, rfl, hs, ra⟩ := seq_any he rx h2
    refine ⟨a, vs, rfl, hs, ?_⟩
    rw [ra.length]
    exact q _ _ B H (.refl he hf) p (.int _)
def rdSum : List D → (D → Prop) → Prop := fun ds P => ∃ ns : List Int, ds = [.lst (ns.map .int)] ∧ P (.int ns.sum)
theorem snd_sum {X : Cx} {F : Fs} : SndC X.K F (rSum X.K) rdSum := fun xs ds B H P Q he hf r ⟨ns, h1, p⟩ q => by
  subst h1
  cases r with
  | cons rx rn =>
    cases rn
    cases rx with
    | lst h ra =>
      have e := ra.ints
      subst e
      exact ⟨_, ns, rfl, SqL.of (he _ _ h), q _ _ B H (.refl he hf) p (.int _)⟩
/-- sum of a tuple of ints -/
def rSumT (K : PySem.W.Frag) : List V → Hp → VK → Prop := fun vs H Q => ∃ (a : Addr) (ns : List Int), vs = [V.ref a] ∧ SqT K H a (ns.map V.int) ∧ Q (.int ns.sum) H
theorem cr_sumT {X : Cx} (hc : X.calm = true) : CallR X (.builtin "sum") (rSumT X.K) := fun pins s σ H xs us Q I r h => by
  obtain ⟨a, ns, rfl, hq, q⟩ := h
  obtain rfl := r.ref1
  obtain ⟨its, rv, ⟨o, ho, hcl, n, hd⟩, hz⟩ := I.tuple hq
  have hl : s.heap.IsTuple a its.toArray := ⟨o, ho, hcl, n, hd⟩
  have hi := rv.ints
  obtain ⟨zs, hx⟩ := hi.allInts.items
  have hn : numsOf its.toArray.toList = ns := hi.numsOf
  rw [hx] at hl
  rw [hx, nums_intItems] at hn
  refine PySem.W.ktm_sumG (I.ok.hd hc) hl fun h' tk t' hk => ?_
  refine ⟨.int ns.sum, H, I.kept (t' := tk) hk, ⟨t', ?_⟩, q⟩
  rw [preSum_eq, List.take_of_length_le (by simp), hn]
def rdSumT : List D → (D → Prop) → Prop := fun ds P => ∃ ns : List Int, ds = [.tup (ns.map .int)] ∧ P (.int ns.sum)
theorem snd_sumT {X : Cx} {F : Fs} : SndC X.K F (rSumT X.K) rdSumT := fun xs ds B H P Q he hf r ⟨ns, h1, p⟩ q => by
  subst h1
  cases r with
  | cons rx rn =>
    cases rn
    cases rx with
    | tup h ra =>
      have e := ra.ints
      subst e
      exact ⟨_, ns, rfl, exT he h, q _ _ B H (.refl he hf) p (.int _)⟩
def rdMax : List D → (D → Prop) → Prop := fun ds P => ∃ ns : List Int, ds = [.lst (ns.map .int)] ∧ 0 < ns.length ∧ ∀ m, m ∈ ns → (∀ y, y ∈ ns → y ≤ m) → P (.int m)
def rdMin : List D → (D → Prop) → Prop := fun ds P => ∃ ns : List Int, ds = [.lst (ns.map .int)] ∧ 0 < ns.length ∧ ∀ m, m ∈ ns → (∀ y, y ∈ ns → m ≤ y) → P (.int m)
theorem snd_max {X : Cx} {F : Fs} : SndC X.K F (rMax X.K) rdMax := fun xs ds B H P Q he hf r ⟨ns, h1, hl, p⟩ q => by
  subst h1
  cases r with
  | cons rx rn =>
    cases rn
    cases rx with
    | lst h ra =>
      have e := ra.ints
      subst e
      exact ⟨_, ns, rfl, SqL.of (he _ _ h), hl, fun m h1 h2 => q _ _ B H (.refl he hf) (p m h1 h2) (.int _)⟩
theorem snd_min {X : Cx} {F : Fs} : SndC X.K F (rMin X.K) rdMin := fun xs ds B H P Q he hf r ⟨ns, h1, hl, p⟩ q => by
  subst h1
  cases r with
  | cons rx rn =>
    cases rn
    cases rx with
    | lst h ra =>
      have e := ra.ints
      subst e
      exact ⟨_, ns, rfl, SqL.of (he _ _ h), hl, fun m h1 h2 => q _ _ B H (.refl he hf) (p m h1 h2) (.int _)⟩
def rdMax2 : List D → (D → Prop) → Prop := fun ds P => ∃ i j, ds = [.int i, .int j] ∧ P (.int (max i j))
def rdMin2 : List D → (D → Prop) → Prop := fun ds P => ∃ i j, ds = [.int i, .int j] ∧ P (.int (min i j))
theorem max_if (i j : Int) : (if j > i then j else i) = max i j := by split <;> omega
theorem min_if (i j : Int) : (if j < i then j else i) = min i j := by split <;> omega
theorem snd_max2 {K : PySem.W.Frag} {F : Fs} : SndC K F (fun xs H Q => ∃ i j, xs = [.int i, .int j] ∧ Q (.int (if j > i then j else i)) H) rdMax2 := fun xs ds B H P Q he hf r ⟨i, j, h1, p⟩ q => by
  subst h1
  cases r with
  | cons r1 rn => cases rn with
    | cons r2 rn => cases rn; cases r1; cases r2; exact ⟨i, j, rfl, by rw [max_if]; exact q _ _ B H (.refl he hf) p (.int _)⟩
theorem snd_min2 {K : PySem.W.Frag} {F : Fs} : SndC K F (fun xs H Q => ∃ i j, xs = [.int i, .int j] ∧ Q (.int (if j < i then j else i)) H) rdMin2 := fun xs ds B H P Q he hf r ⟨i, j, h1, p⟩ q => by
  subst h1
  cases r with
  | cons r1 rn => cases rn with
    | cons r2 rn => cases rn; cases r1; cases r2; exact ⟨i, j, rfl, by rw [min_if]; exact q _ _ B H (.refl he hf) p (.int _)⟩
def rdAll : List D → (D → Prop) → Prop := fun ds P => ∃ bs : List Bool, ds = [.lst (bs.map .bl)] ∧ P (.bl (bs.all id))
theorem snd_all {X : Cx} {F : Fs} : SndC X.K F (rAll X.K) rdAll := fun xs ds B H P Q he hf r ⟨ns, h1, p⟩ q => by
  subst h1
  cases r with
  | cons rx rn =>
    cases rn
    cases rx with
    | lst h ra =>
      have e := ra.bls
      subst e
      exact ⟨_, ns, rfl, SqL.of (he _ _ h), q _ _ B H (.refl he hf) p (.bl _)⟩
def rdInt : List D → (D → Prop) → Prop := fun ds P => ∃ i, ds = [.int i] ∧ P (.int i)
theorem snd_int {K : PySem.W.Frag} {F : Fs} : SndC K F (fun xs H Q => (∃ i, xs = [.int i] ∧ Q (.int i) H) ∨ ∃ k, xs = [.bl k] ∧ Q (.int (if k then 1 else 0)) H) rdInt := fun xs ds B H P Q he hf r ⟨i, h1, p⟩ q => by
  subst h1
  cases r with
  | cons rx rn => cases rn; cases rx; exact .inl ⟨i, rfl, q _ _ B H (.refl he hf) p (.int _)⟩
def rdTuple : List D → (D → Prop) → Prop := fun ds P => ∃ x xs, ds = [x] ∧ x.seq = some xs ∧ P (.tup xs)
theorem snd_tuple {X : Cx} {F : Fs} : SndC X.K F (fun xs H Q => ∃ p ys, xs = [.ref p] ∧ ((SqL X.K H p ys ∧ ∀ l, H l = none → Q (.ref l) (upd H l (.tup ys))) ∨ (SqT X.K H p ys ∧ Q (.ref p) H))) rdTuple := fun xs ds B H P Q he hf r ⟨x, ys, h1, h2, p⟩ q => by
  subst h1
  cases r with
  | cons rx rn =>
    cases rn
    cases rx with
    | lst h ra =>
      cases h2
      refine ⟨_, _, rfl, .inl ⟨SqL.of (he _ _ h), fun l hl => newT q (.refl he hf) ra p hl⟩⟩
    | tup h ra =>
      cases h2
      exact ⟨_, _, rfl, .inr ⟨exT he h, q _ _ B H (.refl he hf) p (.tup h ra)⟩⟩
    | _ => cases h2
def rdList : List D → (D → Prop) → Prop := fun ds P => ∃ x xs, ds = [x] ∧ x.seq = some xs ∧ P (.lst xs)
theorem snd_list {X : Cx} {F : Fs} : SndC X.K F (fun xs H Q => ∃ p ys, xs = [.ref p] ∧ (SqL X.K H p ys ∨ SqT X.K H p ys) ∧ ∀ l, H l = none → Q (.ref l) (upd H l (.lst ys))) rdList := fun xs ds B H P Q he hf r ⟨x, ys, h1, h2, p⟩ q => by
  subst h1
  cases r with
  | cons rx rn =>
    cases rn
    obtain ⟨a, vs, rfl, hs, ra⟩ := seq_any he rx h2
    refine ⟨a, vs, rfl, hs, fun l hl => newL q (.refl he hf) ra p hl⟩
/-! ### isinstance -/
/-- the built-in type's name -/
def D.ty : D → Option String
  | .non => some "NoneType"
  | .bl _ => some "bool"
  | .int _ => some "int"
  | .str _ => some "str"
  | .lst _ => some "list"
  | .tup _ => some "tuple"
  | .dct => some "dict"
  | _ => none
theorem Rp.ty {K : PySem.W.Frag} {B H : Hp} {v : V} {d : D} {t : String} (e : Ex B H) (r : Rp K B v d) (h : d.ty = some t) : TyX K H v (.type t) := by
  cases r with
  | non => cases h; exact .base .non
  | bl b => cases h; exact .base (.bl b)
  | int i => cases h; exact .base (.int i)
  | str s => cases h; exact .base (.str s)
  | lst h1 r => cases h; exact .base (.lst (e _ _ h1))
  | tup h1 r =>
    cases h
    rcases exT e h1 with (h2 | ⟨o, h2⟩) | ⟨o, its, n, h2, h3, _⟩
    · exact .base (.tup h2)
    · exact .fTuple h2
    · exact .kTuple h2 h3
  | dct h1 => cases h; exact .base (.dK (e _ _ h1))
  | _ => cases h
def D.isI : D → Bool
  | .int _ => true
  | .bl _ => true
  | _ => false
def D.isB : D → Bool
  | .bl _ => true
  | _ => false
def D.isL : D → Bool
  | .lst _ => true
  | _ => false
def D.isU : D → Bool
  | .tup _ => true
  | _ => false
def D.isS : D → Bool
  | .str _ => true
  | _ => false
def D.isD : D → Bool
  | .dct => true
  | _ => false
theorem kit_int {d : D} {t : String} (h : d.ty = some t) : kitB t "int" = some d.isI := by cases d <;> cases h <;> simp only [D.isI] <;> decide +kernel
theorem kit_bool {d : D} {t : String} (h : d.ty = some t) : kitB t "bool" = some d.isB := by cases d <;> cases h <;> simp only [D.isB] <;> decide +kernel
theorem kit_list {d : D} {t : String} (h : d.ty = some t) : kitB t "list" = some d.isL := by cases d <;> cases h <;> simp only [D.isL] <;> decide +kernel
theorem kit_tuple {d : D} {t : String} (h : d.ty = some t) : kitB t "tuple" = some d.isU := by cases d <;> cases h <;> simp only [D.isU] <;> decide +kernel
theorem kit_str {d : D} {t : String} (h : d.ty = some t) : kitB t "str" = some d.isS := by cases d <;> cases h <;> simp only [D.isS] <;> decide +kernel
theorem kit_dict {d : D} {t : String} (h : d.ty = some t) : kitB t "dict" = some d.isD := by cases d <;> cases h <;> simp only [D.isD] <;> decide +kernel
/-- isinstance(x, T): f tells it -/
def rdIs (f : D → Bool) : D → (D → Prop) → Prop := fun d P => d.ty.isSome = true ∧ P (.bl (f d))
section
variable {X : Cx} {G : Gx} {e : Expr} {de : DE} {p p1 p2 p3 pos : Pos} {k : Nat} {x1 x2 : Str} {T1 T2 : String} {f g : D → Bool}
theorem ty_some {d : D} (h : d.ty.isSome = true) : ∃ t, d.ty = some t := Option.isSome_iff_exists.mp h
theorem pd_is (hk : ∀ {d : D} {t : String}, d.ty = some t → kitB t T1 = some (f d)) (hm : X.mg "isinstance" = none) (hm1 : X.mg x1 = none) (hv1 : bootBuiltins x1 = some (.type T1)) (he : PEd X G e de) (hg : Gl X "isinstance" := by rfl) (hg1 : Gl X x1 := by rfl)
    (hn1 : x1 ≠ "__name__" := by decide) (hd1 : (x1 == ("__debug__" : Str)) = false := by decide)
    (hs : starEach [e, .Name x1 p1] X.env = (false, eval e X.env) :: starEach [.Name x1 p1] X.env := by rfl) (hs1 : starEach [.Name x1 p1] X.env = (false, eval (.Name x1 p1) X.env) :: starEach [] X.env := by rfl)
    (hpl : (backTo pos (starEach [.Name x1 p1] X.env)).any (·.1) = false := by rfl) : PEd X G (.Call (.Name "isinstance" p) [e, .Name x1 p1] [] pos) (de1 (rdIs f) de) :=
  PE.imp (pe_callB call_isi hg hm (by decide +kernel) (pa_cons he (pa_cons (pe_bltn (v := .ty T1) hg1 hm1 hv1 rfl hn1 hd1) pa_nil hs1) hs) (he := hs) (hpl := hpl)) fun σ H Q ⟨B, δ, P, s, h, q⟩ =>
    ⟨B, δ, _, s, h, fun v d B1 H1 m1 ⟨h1, p⟩ r1 => by
      obtain ⟨t, ht⟩ := ty_some h1
      exact ⟨v, .ty T1, .type t, .type T1, f d, rfl, .ty T1, r1.ty m1.e ht, kit_ty (hk ht), q _ _ B1 H1 m1 p (.bl _)⟩⟩
theorem pd_is2 (hk1 : ∀ {d : D} {t : String}, d.ty = some t → kitB t T1 = some (f d)) (hk2 : ∀ {d : D} {t : String}, d.ty = some t → kitB t T2 = some (g d)) (hm : X.mg "isinstance" = none) (hm1 : X.mg x1 = none) (hm2 : X.mg x2 = none) (hv1 : bootBuiltins x1 = some (.type T1)) (hv2 : bootBuiltins x2 = some (.type T2)) (he : PEd X G e de)
    (hg : Gl X "isinstance" := by rfl) (hg1 : Gl X x1 := by rfl) (hg2 : Gl X x2 := by rfl)
    (hn1 : x1 ≠ "__name__" := by decide) (hn2 : x2 ≠ "__name__" := by decide) (hd1 : (x1 == ("__debug__" : Str)) = false := by decide) (hd2 : (x2 == ("__debug__" : Str)) = false := by decide)
    (hs1 : starEach [.Name x1 p1, .Name x2 p2] X.env = (false, eval (.Name x1 p1) X.env) :: starEach [.Name x2 p2] X.env := by rfl) (hs2 : starEach [.Name x2 p2] X.env = (false, eval (.Name x2 p2) X.env) :: starEach [] X.env := by rfl)
    (hs : starEach [e, .Tuple [.Name x1 p1, .Name x2 p2] k p3] X.env = (false, eval e X.env) :: starEach [.Tuple [.Name x1 p1, .Name x2 p2] k p3] X.env := by rfl)
    (hs3 : starEach [.Tuple [.Name x1 p1, .Name x2 p2] k p3] X.env = (false, eval (.Tuple [.Name x1 p1, .Name x2 p2] k p3) X.env) :: starEach [] X.env := by rfl)
    (hpl : (backTo pos (starEach [.Tuple [.Name x1 p1, .Name x2 p2] k p3] X.env)).any (·.1) = false := by rfl) :
    PEd X G (.Call (.Name "isinstance" p) [e, .Tuple [.Name x1 p1, .Name x2 p2] k p3] [] pos) (de1 (rdIs fun d => f d || g d) de) :=
  PE.imp (pe_callB call_isiT hg hm (by decide +kernel) (pa_cons he (pa_cons (pe_tup (pa_cons (pe_bltn (v := .ty T1) hg1 hm1 hv1 rfl hn1 hd1) (pa_cons (pe_bltn (v := .ty T2) hg2 hm2 hv2 rfl hn2 hd2) pa_nil hs2) hs1)) pa_nil hs3) hs) (he := hs) (hpl := hpl)) fun σ H Q ⟨B, δ, P, s, h, q⟩ =>
    ⟨B, δ, _, s, h, fun v d B1 H1 m1 ⟨h1, p⟩ r1 => ⟨by show 2 ≤ sizeLine; decide, fun p' hp => by
      obtain ⟨t, ht⟩ := ty_some h1
      have m2 := Fm.newH (o := .tup [.ty T1, .ty T2]) m1.e m1.f hp
      refine ⟨v, p', _, .type t, [.type T1, .type T2], (f d || g d), rfl, upd_same, .cons (.ty T1) (.cons (.ty T2) .nil), r1.ty m2.e ht, ?_, q _ _ B1 _ (m1.trans m2) p (.bl _)⟩
      refine kitAny_cons (kit_ty (hk1 ht)) (fun z => ?_) (fun z => by rw [z]; rfl)
      rw [z, Bool.false_or]
      exact kitAny_cons (kit_ty (hk2 ht)) (fun z => by rw [z]; exact kitAny_nil) (fun z => z)⟩⟩
end

/-! ### sorted -/
def rdSorted : List D → (D → Prop) → Prop := fun ds P => ∃ ns : List Int, ds = [.lst (ns.map .int)] ∧ ∀ ns' : List Int, ns'.Perm ns → ns'.Pairwise (· ≤ ·) → P (.lst (ns'.map .int))
theorem snd_sorted {X : Cx} {F : Fs} : SndC X.K F (rSortedI X.K) rdSorted := fun xs ds B H P Q he hf r ⟨ns, h1, p⟩ q => by
  subst h1
  cases r with
  | cons rx rn =>
    cases rn
    cases rx with
    | lst h ra =>
      have e := ra.ints
      subst e
      refine ⟨_, ns, rfl, SqL.of (he _ _ h), fun ns' p' hp hs hn => newL q (.refl he hf) (.ofInts ns') (p ns' hp hs) hn⟩
end Sd
end
-- SdIter
section
set_option Elab.async false
set_option linter.all false
set_option maxRecDepth 100000
set_option maxHeartbeats 4000000
set_option autoImplicit false
namespace Sd
open PySem PySem.Spec PyProof.Rows L2
open Evl (Ex)

/-! ### lists and tuples alike -/
def Sq (K : PySem.W.Frag) (H : Hp) (b : Bool) (a : Addr) (xs : List V) : Prop := (b = true ∧ SqL K H a xs) ∨ (b = false ∧ SqT K H a xs)
def ItAt (b : Bool) (h : Heap) (it a : Addr) (i : Nat) : Prop := (b = true ∧ h.IsListIter it a i) ∨ (b = false ∧ h.IsTupleIter it a i)
def SeqIn (b : Bool) (h : Heap) (a : Addr) (its : Array Value) : Prop := (b = true ∧ h.IsList a its) ∨ (b = false ∧ h.IsTuple a its)
theorem ItAt.at_ {b : Bool} {h h' : Heap} {it a : Addr} {i : Nat} (x : ItAt b h it a i) (k : ∀ o, h.get? it = some o → h'.get? it = some o) : ItAt b h' it a i := by
  rcases x with ⟨e, x⟩ | ⟨e, x⟩
  · exact .inl ⟨e, x.at k⟩
  · exact .inr ⟨e, x.at k⟩
theorem ItAt.obj {b : Bool} {h : Heap} {it a : Addr} {i : Nat} (x : ItAt b h it a i) : ∃ o, h.get? it = some o ∧ ∀ v, o.data ≠ .cell v := by
  rcases x with ⟨e, o, h1, h2, h3⟩ | ⟨e, o, h1, h2, h3⟩
  · exact ⟨o, h1, fun v q => by rw [h3] at q; cases q⟩
  · exact ⟨o, h1, fun v q => by rw [h3] at q; cases q⟩
section
variable {X : Cx} {pins : List (Addr × Obj)} {σ : L2.St} {H : Hp} {s : Shared} {b : Bool} {a it : Addr} {xs ys : List V}
theorem Sq.inj (I : Inv X pins σ H s) (h : Sq X.K H b a xs) (h' : Sq X.K H b a ys) : xs = ys := by
  rcases h with ⟨e, h⟩ | ⟨e, h⟩
  · rcases h' with ⟨e', h'⟩ | ⟨e', h'⟩
    · exact I.list_inj h h'
    · rw [e] at e'; cases e'
  · rcases h' with ⟨e', h'⟩ | ⟨e', h'⟩
    · rw [e] at e'; cases e'
    · exact I.tuple_inj h h'
theorem Sq.lays (I : Inv X pins σ H s) (h : Sq X.K H b a xs) : ∃ its : List Value, Vals xs its ∧ SeqIn b s.heap a its.toArray ∧ a < s.heap.objs.size := by
  rcases h with ⟨e, h⟩ | ⟨e, h⟩
  · obtain ⟨its, r, p, _⟩ := I.list h
    exact ⟨its, r, .inl ⟨e, p.isList⟩, p.lt⟩
  · obtain ⟨its, r, p, _⟩ := I.tuple h
    obtain ⟨o, ho, hc, n, hd⟩ := id p
    exact ⟨its, r, .inr ⟨e, o, ho, hc, n, hd⟩, Heap.lt_size ho⟩
theorem drawsOf {P : Program} {w : World} {A : Around} (hh : A.handled = none) (b : Bool) (hne : a ≠ it) (items : Array Value) :
    Draws P w A it [it, a] items.size (fun i v => items[i]? = some v) (fun i h => ItAt b h it a i ∧ SeqIn b h a items) := by
  cases b with
  | true =>
    have d := Draws.list (prog := P) (w := w) (A := A) hh it a hne items
    have e : ∀ i h, (ItAt true h it a i ∧ SeqIn true h a items) ↔ (h.IsListIter it a i ∧ h.IsList a items) := fun i h =>
      ⟨fun ⟨x, y⟩ => ⟨x.elim (fun z => z.2) (fun z => nomatch z.1), y.elim (fun z => z.2) (fun z => nomatch z.1)⟩, fun ⟨x, y⟩ => ⟨.inl ⟨rfl, x⟩, .inl ⟨rfl, y⟩⟩⟩
    have e' : (fun i h => ItAt true h it a i ∧ SeqIn true h a items) = fun i h => h.IsListIter it a i ∧ h.IsList a items := funext fun i => funext fun h => propext (e i h)
    rw [e']
    exact d
  | false =>
    have d := Draws.tuple (prog := P) (w := w) (A := A) hh it a hne items
    have e : ∀ i h, (ItAt false h it a i ∧ SeqIn false h a items) ↔ (h.IsTupleIter it a i ∧ h.IsTuple a items) := fun i h =>
      ⟨fun ⟨x, y⟩ => ⟨x.elim (fun z => nomatch z.1) (fun z => z.2), y.elim (fun z => nomatch z.1) (fun z => z.2)⟩, fun ⟨x, y⟩ => ⟨.inr ⟨rfl, x⟩, .inr ⟨rfl, y⟩⟩⟩
    have e' : (fun i h => ItAt false h it a i ∧ SeqIn false h a items) = fun i h => h.IsTupleIter it a i ∧ h.IsTuple a items := funext fun i => funext fun h => propext (e i h)
    rw [e']
    exact d
/-- the iterator's object as it is made -/
def itObj (b : Bool) (a : Addr) : Obj := { cls := .type (if b then "list_iterator" else "tuple_iterator"), data := .fields #[.ref a, .int 0 0] }
theorem beginsOf (b : Bool) (items : Array Value) : Begins (.ref a) (itObj b a) (fun h => SeqIn b h a items) := by
  cases b with
  | true =>
    have e' : (fun h => SeqIn true h a items) = fun h => h.IsList a items := funext fun h => propext ⟨fun y => y.elim (fun z => z.2) (fun z => nomatch z.1), fun y => .inl ⟨rfl, y⟩⟩
    rw [e']
    exact begins_list a items
  | false =>
    have e' : (fun h => SeqIn false h a items) = fun h => h.IsTuple a items := funext fun h => propext ⟨fun y => y.elim (fun z => nomatch z.1) (fun z => z.2), fun y => .inr ⟨rfl, y⟩⟩
    rw [e']
    exact begins_tuple a items
theorem itObj_at {h : Heap} (e : h.get? it = some (itObj b a)) : ItAt b h it a 0 := by
  cases b with
  | true => exact .inl ⟨rfl, _, e, rfl, rfl⟩
  | false => exact .inr ⟨rfl, _, e, rfl, rfl⟩
end

/-! ### enumerate(x, k) -/
/-- the list or tuple at a as it stands at each turn, each item in a new pair, counted from k -/
def Iten (K : PySem.W.Frag) (b : Bool) (a : Addr) (k : Int) : It :=
  ⟨fun i H => ∃ (xs : List V) (x : V), Sq K H b a xs ∧ xs[i]? = some x, fun i H v H' => ∃ T x, v = .ref T ∧ H T = none ∧ H' = upd H T (.tup [.int (k + (i : Int)), x]) ∧ ∀ xs, Sq K H b a xs → xs[i]? = some x,
    fun i H => ∃ xs : List V, Sq K H b a xs ∧ xs.length = i⟩
theorem turn_en {P : Program} {w : World} {K : PySem.W.Frag} {elts : List Expr} {kk : Nat} {tpos : Pos} (b : Bool) (a e it : Addr) (k : Int) :
    Turn P w K (.Tuple elts kk tpos) (Iten K b a k) [e, it] e (fun i h => (∃ old, IsEnum h e it (k + (i : Int)) old) ∧ ItAt b h it a i ∧ e ≠ it ∧ a ≠ it ∧ a ≠ e) where
  mem := by simp
  obj := fun i h st c hc => by
    obtain ⟨⟨old, he⟩, hi, _⟩ := st
    have e' : c = e ∨ c = it := by simpa using hc
    rcases e' with z | z
    · subst z; exact ⟨_, he, fun v q => nomatch q⟩
    · subst z; exact hi.obj
  keep := fun i h h' st kp => by
    obtain ⟨⟨old, he⟩, hi, hn⟩ := st
    exact ⟨⟨old, kp e (by simp) _ he⟩, hi.at_ fun o q => kp it (by simp) o q, hn⟩
  item := by
    intro X hP hw hK hc i pins s σ H E I hf st hg
    subst hP hw hK
    obtain ⟨⟨old, he⟩, hit, n1, n2, n3⟩ := st
    obtain ⟨xs, x, hq, hx⟩ := hg
    obtain ⟨its, rv, hin, hlt⟩ := hq.lays I
    have el : e < s.heap.objs.size := Heap.lt_size he
    have il : it < s.heap.objs.size := let ⟨o, q, _⟩ := hit.obj; Heap.lt_size q
    have hi : i < its.toArray.size := by
      have q := (List.getElem?_eq_some_iff.mp hx).1
      rw [rv.length] at q
      simpa using q
    refine wpAny_pyNext_enum_itemC (drawsOf (P := X.prog) (w := X.w) (A := X.A.in1) (I.ok.hd hc) b n2 its.toArray) he ⟨hit, hin⟩ hi n1 (by simp [n1, n3.symm]) fun u h' tk hu ho hst hT hsz hk => ?_
    refine ⟨_, rfl, wpAny_letOwnedTupleGo_enum (s := { s with heap := h', toks := tk + 1 }) ho fun h2 he2 sb => ?_⟩
    obtain ⟨u', hu', ru⟩ := rv.get hx
    have eu : u = u' := by
      have q : its[i]? = some u := by simpa using hu
      rw [q] at hu'
      exact Option.some.inj hu'
    subst eu
    have hT2 : h2.get? s.heap.objs.size = some { cls := .type "tuple", data := .seq #[.int (k + (i : Int)) tk, u] } := (sb.2 _ (Nat.ne_of_gt el)).trans hT
    have new : ObjOk X.prog X.w (upd H s.heap.objs.size (.tup [.int (k + (i : Int)), x])) h2 s.heap.objs.size (.tup [.int (k + (i : Int)), x]) :=
      ⟨by show 2 ≤ sizeLine; decide, [.int (k + (i : Int)) tk, u], .cons ⟨_, rfl⟩ (.cons ru .nil), ⟨_, hT2, rfl, _, rfl⟩⟩
    have I1 : Inv X pins σ (upd H s.heap.objs.size (.tup [.int (k + (i : Int)), x])) { s with heap := h2, toks := tk + 1 } :=
      I.turnedNew (ch := [e, it]) (fun c ob hb q => (sb.2 c (fun z => hb (by simp [z]))).trans (hk c ob (fun z => hb (by simp [z])) (fun z => hb (by simp [z])) q)) hf (Nat.le_refl _) new
    refine ⟨.ref s.heap.objs.size, _, I1, rfl, ⟨_, x, rfl, I.hok.fresh (Nat.le_refl _), rfl, fun zs hz => by rw [hz.inj I hq]; exact hx⟩, ⟨⟨u, ?_⟩, hst.1.at_ fun o q => (sb.2 it (Ne.symm n1)).trans q, n1, n2, n3⟩, fun c hb => ?_⟩
    · have e1 : k + ((i + 1 : Nat) : Int) = k + (i : Int) + 1 := by omega
      rw [e1]
      exact he2
    · have hb' : c < s.heap.objs.size := by
        have e' : c = e ∨ c = it := by simpa using hb
        rcases e' with z | z
        · rw [z]; exact el
        · rw [z]; exact il
      rw [upd_ne (Nat.ne_of_lt hb')]
      exact (hf c hb).1
  done := by
    intro X hP hw hK hc i pins s σ H E I hf st hg
    subst hP hw hK
    obtain ⟨⟨old, he⟩, hit, n1, n2, n3⟩ := st
    obtain ⟨xs, hq, hx⟩ := hg
    obtain ⟨its, rv, hin, hlt⟩ := hq.lays I
    have hn : its.toArray.size = i := by
      rw [← hx, rv.length]
      simp
    obtain ⟨f0, f1, f2, f3, f4, f5⟩ := hf it (by simp)
    refine wpAny_pyNext_enum_endD (drawsOf (P := X.prog) (w := X.w) (A := X.A.in1) (I.ok.hd hc) b n2 its.toArray) he (by rw [hn]; exact ⟨hit, hin⟩) fun h' eb => ⟨rfl, I.turned (t' := s.toks) (fun c o hb q => eb c o hb q) f0 f1 f3 f4 f5⟩
  self := fun A i s Q E st h => let ⟨⟨_, he⟩, _⟩ := st; wpAny_pyIter_enum he h
/-- enumerate(x): its iterator -/
theorem en_it {X : Cx} {elts : List Expr} {kk : Nat} {tpos : Pos} {pins : List (Addr × Obj)} {σ : L2.St} {H : Hp} {s : Shared} {R : It → Hp → Prop} {E : Value → Shared → Prop} {b : Bool} {a : Addr} {k : Int} {h' : Heap} (I : Inv X pins σ H s) (ha : a < s.heap.objs.size)
    (he : IsEnum h' (s.heap.objs.size + 1) s.heap.objs.size k .none) (hit : h'.get? s.heap.objs.size = some (itObj b a)) (hk : ∀ c o, s.heap.get? c = some o → h'.get? c = some o) (q : R (Iten X.K b a k) H) :
    wpAny (model X.prog X.w) X.A (pyIter (.ref (s.heap.objs.size + 1))) (PIE X pins σ (.Tuple elts kk tpos) R) E { s with heap := h' } := by
  refine wpAny_pyIter_enum (s := { s with heap := h' }) he ?_
  have I2 : Inv X pins σ H { s with heap := h' } := I.kept (t' := s.toks) hk
  refine ⟨s.heap.objs.size + 1, [s.heap.objs.size + 1, s.heap.objs.size], _, _, H, rfl, I2, turn_en b a (s.heap.objs.size + 1) s.heap.objs.size k, ⟨⟨.none, ?_⟩, itObj_at hit, Nat.succ_ne_self _, Nat.ne_of_lt ha, Nat.ne_of_lt (Nat.lt_succ_of_lt ha)⟩, fun c hb => ?_, q⟩
  · have e1 : k + ((0 : Nat) : Int) = k := by omega
    rw [e1]
    exact he
  · have e' : c = s.heap.objs.size + 1 ∨ c = s.heap.objs.size := by simpa using hb
    have hle : s.heap.objs.size ≤ c := by
      rcases e' with z | z
      · rw [z]; exact Nat.le_add_right _ _
      · rw [z]; exact Nat.le_refl _
    exact I.fpOk hle (I.hok.fresh hle)
/-- enumerate(v) of anything that an iterator is made of -/
theorem en_new {v : Value} {o : Obj} {S : Heap → Prop} (B : Begins v o S) :
    Meets (Builtin.«enumerate.__new__» ⟨[.type "enumerate", v], []⟩) (fun _ R s => S s.heap ∧
      R (.ok (.ret (.ref (s.heap.push o).objs.size))) { s with heap := (s.heap.push o).push { cls := .type "enumerate", data := .fields #[.none, .bool false, .ref s.heap.objs.size, rawInt 0, .none, .none] } }) := by
  refine .of_wp fun P w A R st q => ?_
  obtain ⟨h, gs, dr, tk, os⟩ := st
  have sub := sub_enumerate
  have go : ∀ {A2 : Around} {E : Value → Shared → Prop} {Q : Value → Shared → Prop}, Q (.ref h.objs.size) ⟨h.push o, gs, dr, tk, os⟩ → wpAny (model P w) A2 (pyIter v) Q E ⟨h, gs, dr, tk, os⟩ := fun z => B.iter P w _ _ ⟨h, gs, dr, tk, os⟩ _ q.1 z
  wp_walk using go
  refine wpAny_stack_any (fun _ => wpAny_pure ?_)
  split
  · rename_i c _ _ _ _ _
    cases (c == Value.type "enumerate") <;> (wp_walk using go; exact ⟨_, rfl, q.2⟩)
  · wp_walk using go
    exact ⟨_, rfl, q.2⟩
theorem en_call {P : Program} {w : World} {A : Around} {E : Value → Shared → Prop} {s : Shared} {v : Value} {o : Obj} {S : Heap → Prop} {Q : Value → Shared → Prop} (B : Begins v o S) (h1 : S s.heap)
    (h : ∀ h', IsEnum h' (s.heap.objs.size + 1) s.heap.objs.size 0 .none → h'.get? s.heap.objs.size = some o → (∀ c u, s.heap.get? c = some u → h'.get? c = some u) → Q (.ref (s.heap.objs.size + 1)) { s with heap := h' }) :
    wpAny (model P w) A (call (.type "enumerate") [v]) Q E s := by
  refine callType_new F.called_enumerate (by decide) (F.typeCall_enumerate_1 _) (F.newCall_enumerate_1 _) (fun u => F.args_object_init_2 u _) F.entry_enumerate_new (en_new B) ⟨h1, ?_⟩
  have z : (s.heap.push o).objs.size = s.heap.objs.size + 1 := Heap.size_push ..
  show _ ∧ _
  rw [z]
  have he : IsEnum ((s.heap.push o).push { cls := .type "enumerate", data := .fields #[.none, .bool false, .ref s.heap.objs.size, rawInt 0, .none, .none] }) (s.heap.objs.size + 1) s.heap.objs.size 0 .none := by
    have q := Heap.get?_push_size (s.heap.push o) (o := { cls := .type "enumerate", data := .fields #[.none, .bool false, .ref s.heap.objs.size, rawInt 0, .none, .none] }) rfl
    rw [z] at q
    exact q
  exact ⟨⟨_, he, rfl⟩, h _ he (Heap.get?_push_of_some _ (Heap.get?_push_size _ B.free)) fun c u x => Heap.get?_push_of_some _ (Heap.get?_push_of_some _ x)⟩
def iEn (K : PySem.W.Frag) (k : Int) (ta : TA) : TI := fun σ H R => ta σ H fun vs H1 => ∃ b a xs, vs = [.ref a] ∧ Sq K H1 b a xs ∧ R (Iten K b a k) H1
theorem pi_en {X : Cx} {e : Expr} {ta : TA} {p pos tpos : Pos} {elts : List Expr} {kk : Nat} (hm : X.mg "enumerate" = none) (ha : PA X [e] ta) (hg : Gl X "enumerate" := by rfl) (hs : starEach [e] X.env = [(false, eval e X.env)] := by rfl) :
    PI X (.Tuple elts kk tpos) (.Call (.Name "enumerate" p) [e] [] pos) (iEn X.K 0 ta) := by
  refine ⟨fun pins s σ H R I h => ?_⟩
  refine Call_ (ld_blt I hg hm boot_enumerate (PyProof.Rows.callWith_type1 (thn (ha.run pos pins s σ H _ I h) fun us s1 ⟨vs, H1, I1, r1, q1⟩ => ?_) hs rfl))
  obtain ⟨b, a, xs, rfl, hq, q⟩ := q1
  obtain rfl := r1.ref1
  obtain ⟨its, rv, hin, hlt⟩ := hq.lays I1
  exact en_call (beginsOf b its.toArray) hin fun h' he hit hk => en_it I1 hlt he hit hk q

/-! ### zip(x, y) -/
def Itzp (K : PySem.W.Frag) (b1 : Bool) (a1 : Addr) (b2 : Bool) (a2 : Addr) : It :=
  ⟨fun i H => ∃ (xs ys : List V) (x y : V), Sq K H b1 a1 xs ∧ Sq K H b2 a2 ys ∧ xs[i]? = some x ∧ ys[i]? = some y,
    fun i H v H' => ∃ T x y, v = .ref T ∧ H T = none ∧ H' = upd H T (.tup [x, y]) ∧ (∀ xs, Sq K H b1 a1 xs → xs[i]? = some x) ∧ ∀ ys, Sq K H b2 a2 ys → ys[i]? = some y,
    fun i H => ∃ xs ys : List V, Sq K H b1 a1 xs ∧ Sq K H b2 a2 ys ∧ i ≤ xs.length ∧ i ≤ ys.length ∧ (i = xs.length ∨ i = ys.length)⟩
theorem turn_zp {P : Program} {w : World} {K : PySem.W.Frag} {elts : List Expr} {kk : Nat} {tpos : Pos} {b1 b2 : Bool} {a1 a2 z TI TO i1 i2 : Addr} (S : ZipSep2 z TI TO i1 i2 [i1, a1] [i2, a2]) (n1 : a1 ≠ i1) (n2 : a2 ≠ i2) :
    Turn P w K (.Tuple elts kk tpos) (Itzp K b1 a1 b2 a2) [z, TI, TO, i1, i2] z (fun i h => IsZip h z TI TO .none ∧ IsTupOf2 h TI (.ref i1) (.ref i2) ∧ (∃ x y, IsTupOf2 h TO x y) ∧ ItAt b1 h i1 a1 i ∧ ItAt b2 h i2 a2 i) where
  mem := by simp
  obj := fun i h st c hc => by
    obtain ⟨hz, hTI, ⟨x, y, hTO⟩, h1, h2⟩ := st
    have e' : c = z ∨ c = TI ∨ c = TO ∨ c = i1 ∨ c = i2 := by simpa using hc
    rcases e' with q | q | q | q | q <;> subst q
    · exact ⟨_, hz, fun v q => nomatch q⟩
    · exact ⟨_, hTI, fun v q => nomatch q⟩
    · exact ⟨_, hTO, fun v q => nomatch q⟩
    · exact h1.obj
    · exact h2.obj
  keep := fun i h h' st k => by
    obtain ⟨hz, hTI, ⟨x, y, hTO⟩, h1, h2⟩ := st
    exact ⟨k z (by simp) _ hz, k TI (by simp) _ hTI, ⟨x, y, k TO (by simp) _ hTO⟩, h1.at_ fun o q => k i1 (by simp) o q, h2.at_ fun o q => k i2 (by simp) o q⟩
  item := by
    intro X hP hw hK hc i pins s σ H E I hf st hg
    subst hP hw hK
    obtain ⟨hz, hTI, ⟨x0, y0, hTO⟩, h1, h2⟩ := st
    obtain ⟨xs, ys, x, y, q1, q2, hx, hy⟩ := hg
    obtain ⟨its, rv, in1, lt1⟩ := q1.lays I
    obtain ⟨its2, rv2, in2, lt2⟩ := q2.lays I
    obtain ⟨u, hu, ru⟩ := rv.get hx
    obtain ⟨u2, hu2, ru2⟩ := rv2.get hy
    have zl : z < s.heap.objs.size := Heap.lt_size hz
    have l1 : i < its.toArray.size := by simpa using (List.getElem?_eq_some_iff.mp hu).1
    have l2 : i < its2.toArray.size := by simpa using (List.getElem?_eq_some_iff.mp hu2).1
    have hh := I.ok.hd hc
    refine wpAny_pyNext_zipD2_item S (drawsOf (P := X.prog) (w := X.w) (A := X.A.in1) hh b1 n1 its.toArray) (drawsOf (P := X.prog) (w := X.w) (A := X.A.in1) hh b2 n2 its2.toArray) hz hTI hTO ⟨h1, in1⟩ ⟨h2, in2⟩ l1 l2
      fun v1 v2 h' tk p1 p2 z' TO' s1 s2 hT hsz hk => ?_
    refine ⟨_, rfl, wpAny_letOwnedTupleGo_zip (s := { s with heap := h', toks := tk }) z' fun h2' z2 sb => ?_⟩
    have e1 : v1 = u := by
      have q : its[i]? = some v1 := by simpa using p1
      rw [q] at hu
      exact Option.some.inj hu
    have e2 : v2 = u2 := by
      have q : its2[i]? = some v2 := by simpa using p2
      rw [q] at hu2
      exact Option.some.inj hu2
    subst e1 e2
    have hT2 : h2'.get? s.heap.objs.size = some { cls := .type "tuple", data := .seq #[v1, v2] } := (sb.2 _ (Nat.ne_of_gt zl)).trans hT
    have new : ObjOk X.prog X.w (upd H s.heap.objs.size (.tup [x, y])) h2' s.heap.objs.size (.tup [x, y]) := ⟨by show 2 ≤ sizeLine; decide, [v1, v2], .cons ru (.cons ru2 .nil), ⟨_, hT2, rfl, _, rfl⟩⟩
    have I1 : Inv X pins σ (upd H s.heap.objs.size (.tup [x, y])) { s with heap := h2', toks := tk } :=
      I.turnedNew (t' := tk) (ch := [z, TI, TO, i1, i2]) (fun c o hb q => (sb.2 c (fun q' => hb (by simp [q']))).trans (hk c o (fun q' => hb (by simp [q'])) (fun q' => hb (by simp [q'])) (fun q' => hb (by simp [q'])) (fun q' => hb (by simp [q'])) q)) hf (Nat.le_refl _) new
    have h1z : i1 ≠ z := fun q => S.zf1 (by rw [← q]; exact S.mem1)
    have h2z : i2 ≠ z := fun q => S.zf2 (by rw [← q]; exact S.mem2)
    have hTO1 : TO ≠ i1 := fun q => S.Tf1 (by rw [q]; exact S.mem1)
    have hTO2 : TO ≠ i2 := fun q => S.Tf2 (by rw [q]; exact S.mem2)
    refine ⟨.ref s.heap.objs.size, _, I1, rfl, ⟨_, x, y, rfl, I.hok.fresh (Nat.le_refl _), rfl, fun l hl => by rw [hl.inj I q1]; exact hx, fun l hl => by rw [hl.inj I q2]; exact hy⟩, ⟨z2, ?_, ⟨v1, v2, ?_⟩, ?_, ?_⟩, fun c hcm => ?_⟩
    · exact (sb.2 _ S.TIz).trans (hk _ _ S.TIz S.TITO S.TIi1 S.TIi2 hTI)
    · exact (sb.2 _ S.TOz).trans TO'
    · exact s1.1.at_ fun o q => (sb.2 _ h1z).trans q
    · exact s2.1.at_ fun o q => (sb.2 _ h2z).trans q
    · have lt : c < s.heap.objs.size := by
        have e' : c = z ∨ c = TI ∨ c = TO ∨ c = i1 ∨ c = i2 := by simpa using hcm
        rcases e' with q | q | q | q | q <;> subst q
        · exact zl
        · exact Heap.lt_size hTI
        · exact Heap.lt_size hTO
        · exact let ⟨_, q, _⟩ := h1.obj; Heap.lt_size q
        · exact let ⟨_, q, _⟩ := h2.obj; Heap.lt_size q
      rw [upd_ne (Nat.ne_of_lt lt)]
      exact (hf c hcm).1
  done := by
    intro X hP hw hK hc i pins s σ H E I hf st hg
    subst hP hw hK
    obtain ⟨hz, hTI, ⟨x0, y0, hTO⟩, h1, h2⟩ := st
    obtain ⟨xs, ys, q1, q2, le1, le2, hend⟩ := hg
    obtain ⟨its, rv, in1, lt1⟩ := q1.lays I
    obtain ⟨its2, rv2, in2, lt2⟩ := q2.lays I
    have r1 := rv.length
    have r2 := rv2.length
    have hh := I.ok.hd hc
    exact wpAny_pyNext_zipD2_end S (drawsOf (P := X.prog) (w := X.w) (A := X.A.in1) hh b1 n1 its.toArray) (drawsOf (P := X.prog) (w := X.w) (A := X.A.in1) hh b2 n2 its2.toArray) hz hTI hTO ⟨h1, in1⟩ ⟨h2, in2⟩ (by simp; omega) (by simp; omega) (by simp; omega)
      fun h' tk hk => ⟨rfl, I.turnedL (t' := tk) (ch := [z, TI, TO, i1, i2]) (fun c o hb q => hk c o (fun q' => hb (by simp [q'])) (fun q' => hb (by simp [q'])) (fun q' => hb (by simp [q'])) (fun q' => hb (by simp [q'])) q) hf⟩
  self := fun A i s Q E st h => wpAny_pyIter_zip st.1 h
def iZp (K : PySem.W.Frag) (ta : TA) : TI := fun σ H R => ta σ H fun vs H1 => ∃ b1 a1 xs b2 a2 ys, vs = [.ref a1, .ref a2] ∧ Sq K H1 b1 a1 xs ∧ Sq K H1 b2 a2 ys ∧ R (Itzp K b1 a1 b2 a2) H1
theorem pi_zp {X : Cx} {e e2 : Expr} {ta : TA} {p pos tpos : Pos} {elts : List Expr} {kk : Nat} (hm : X.mg "zip" = none) (ha : PA X [e, e2] ta) (hg : Gl X "zip" := by rfl)
    (hs : starEach [e, e2] X.env = (false, eval e X.env) :: starEach [e2] X.env := by rfl) (hpl : (backTo pos (starEach [e2] X.env)).any (·.1) = false := by rfl) :
    PI X (.Tuple elts kk tpos) (.Call (.Name "zip" p) [e, e2] [] pos) (iZp X.K ta) := by
  refine ⟨fun pins s σ H R I h => ?_⟩
  refine Call_ (ld_blt I hg hm PyProof.Rows.boot_zip (PyProof.Rows.callWith_type1 (thn (ha.run pos pins s σ H _ I h) fun us s1 ⟨vs, H1, I1, r1, q1⟩ => ?_) hs hpl))
  obtain ⟨b1, a1, xs, b2, a2, ys, rfl, hq1, hq2, q⟩ := q1
  cases r1 with
  | cons r rr =>
    cases rr with
    | cons r' rr =>
      cases rr
      cases r
      cases r'
      obtain ⟨its, rv, in1, lt1⟩ := hq1.lays I1
      obtain ⟨its2, rv2, in2, lt2⟩ := hq2.lays I1
      refine zip_begins2 (beginsOf b1 its.toArray) (beginsOf b2 its2.toArray) in1 in2 fun h' hz hTI hTO h1 h2 hsz hk => wpAny_pyIter_zip hz ?_
      have I2 : Inv X pins σ H1 { s1 with heap := h' } := I1.kept (t' := s1.toks) hk
      refine ⟨s1.heap.objs.size + 4, [s1.heap.objs.size + 4, s1.heap.objs.size + 2, s1.heap.objs.size + 3, s1.heap.objs.size, s1.heap.objs.size + 1], _, _, H1, rfl, I2,
        turn_zp (zip_sep2 (N := s1.heap.objs.size) (fp1 := [a1]) (fp2 := [a2]) (fun b hb => by rw [List.mem_singleton.mp hb]; exact lt1) (fun b hb => by rw [List.mem_singleton.mp hb]; exact lt2)) (Nat.ne_of_lt lt1) (Nat.ne_of_lt (Nat.lt_succ_of_lt lt2)), ⟨hz, hTI, ⟨_, _, hTO⟩, itObj_at h1, itObj_at h2⟩, fun c hcm => ?_, q⟩
      have hle : s1.heap.objs.size ≤ c := by
        have e' : c = s1.heap.objs.size + 4 ∨ c = s1.heap.objs.size + 2 ∨ c = s1.heap.objs.size + 3 ∨ c = s1.heap.objs.size ∨ c = s1.heap.objs.size + 1 := by simpa using hcm
        rcases e' with z | z | z | z | z <;> (rw [z]; first | exact Nat.le_refl _ | exact Nat.le_add_right _ _)
      exact I1.fpOk hle (I1.hok.fresh hle)

/-! ### what is walked, over data -/
/-- pairs with their numbers -/
def enumD : Int → List D → List D
  | _, [] => []
  | k, x :: xs => .tup [.int k, x] :: enumD (k + 1) xs
def zipD : List D → List D → List D
  | x :: xs, y :: ys => .tup [x, y] :: zipD xs ys
  | _, _ => []
def rngD (lo : Int) : Nat → List D
  | 0 => []
  | n + 1 => .int lo :: rngD (lo + 1) n
theorem enumD_at : ∀ (xs : List D) (k : Int) (i : Nat), (enumD k xs)[i]? = xs[i]?.map fun x => .tup [.int (k + (i : Int)), x]
  | [], k, i => by simp [enumD]
  | x :: xs, k, 0 => by simp [enumD]
  | x :: xs, k, i + 1 => by
    have q := enumD_at xs (k + 1) i
    have e : k + 1 + (i : Int) = k + ((i + 1 : Nat) : Int) := by omega
    rw [e] at q
    simpa [enumD] using q
theorem enumD_length : ∀ (xs : List D) (k : Int), (enumD k xs).length = xs.length
  | [], k => rfl
  | x :: xs, k => congrArg (· + 1) (enumD_length xs (k + 1))
theorem zipD_at : ∀ (xs ys : List D) (i : Nat) (x y : D), xs[i]? = some x → ys[i]? = some y → (zipD xs ys)[i]? = some (.tup [x, y])
  | [], _, i, x, y, h, _ => by simp at h
  | _ :: _, [], i, x, y, _, h => by simp at h
  | a :: xs, b :: ys, 0, x, y, h1, h2 => by
    simp at h1 h2
    subst h1 h2
    rfl
  | a :: xs, b :: ys, i + 1, x, y, h1, h2 => by
    have q := zipD_at xs ys i x y (by simpa using h1) (by simpa using h2)
    simpa [zipD] using q
theorem zipD_length : ∀ (xs ys : List D), (zipD xs ys).length = min xs.length ys.length
  | [], ys => by simp [zipD]
  | _ :: _, [] => by simp [zipD]
  | a :: xs, b :: ys => by
    have q := zipD_length xs ys
    simp only [zipD, List.length_cons]
    omega
theorem rngD_length : ∀ (n : Nat) (lo : Int), (rngD lo n).length = n
  | 0, _ => rfl
  | n + 1, lo => congrArg (· + 1) (rngD_length n (lo + 1))
theorem rngD_at : ∀ (n : Nat) (lo : Int) (i : Nat), i < n → (rngD lo n)[i]? = some (.int (lo + (i : Int)))
  | 0, _, i, h => by omega
  | n + 1, lo, 0, h => by simp [rngD]
  | n + 1, lo, i + 1, h => by
    have q := rngD_at n (lo + 1) i (by omega)
    have e : lo + 1 + (i : Int) = lo + ((i + 1 : Nat) : Int) := by omega
    rw [e] at q
    simpa [rngD] using q
theorem rngD_get {n : Nat} {lo : Int} {i : Nat} {d : D} (h : (rngD lo n)[i]? = some d) : i < n ∧ d = .int (lo + (i : Int)) := by
  have l : i < n := by
    have q := (List.getElem?_eq_some_iff.mp h).1
    rwa [rngD_length] at q
  rw [rngD_at n lo i l] at h
  exact ⟨l, (Option.some.inj h).symm⟩
def diSeq (de : DE) : DI := fun δ P => de δ fun d => ∃ xs, d.seq = some xs ∧ P xs
def diEn (da : DA) : DI := fun δ P => da δ fun ds => ∃ d xs, ds = [d] ∧ d.seq = some xs ∧ P (enumD 0 xs)
def diZp (da : DA) : DI := fun δ P => da δ fun ds => ∃ d e xs ys, ds = [d, e] ∧ d.seq = some xs ∧ e.seq = some ys ∧ P (zipD xs ys)
def diR1 (da : DA) : DI := fun δ P => da δ fun ds => ∃ j : Int, ds = [.int j] ∧ -1000000 ≤ j ∧ j ≤ 1000000 ∧ P (rngD 0 j.toNat)
def diR2 (da : DA) : DI := fun δ P => da δ fun ds => ∃ i j : Int, ds = [.int i, .int j] ∧ -1000000 ≤ i ∧ i ≤ 1000000 ∧ -1000000 ≤ j ∧ j ≤ 1000000 ∧ P (rngD i (j - i).toNat)
theorem sq_any {K : PySem.W.Frag} {B : Hp} {v : V} {d : D} {xs : List D} (r : Rp K B v d) (h : d.seq = some xs) : ∃ b a vs, v = .ref a ∧ (∀ H, Ex B H → Sq K H b a vs) ∧ RpA K B vs xs := by
  cases r with
  | lst h1 r => cases h; exact ⟨true, _, _, rfl, fun H e => .inl ⟨rfl, SqL.of (e _ _ h1)⟩, r⟩
  | tup h1 r => cases h; exact ⟨false, _, _, rfl, fun H e => .inr ⟨rfl, exT e h1⟩, r⟩
  | _ => cases h
section
variable {X : Cx} {G : Gx} {e e2 : Expr} {elts : List Expr} {kk : Nat} {p pos tpos : Pos} {de : DE} {da : DA} {tg : Expr}
theorem wk_list {K : PySem.W.Frag} {a : Addr} {vs : List V} {ds : List D} {B : Hp} (h : ∀ H, Ex B H → SqL K H a vs) (r : RpA K B vs ds) : Wk K G (Itl K a) ds B := fun B2 H2 e1 e2 f => by
  have hq := h H2 (e1.trans e2)
  refine ⟨fun i hi => ?_, ⟨vs, hq, by rw [r.length]; exact Nat.le_refl _⟩⟩
  obtain ⟨v, hv, rv⟩ := r.at (List.getElem?_eq_getElem hi)
  refine ⟨⟨vs, v, hq, hv⟩, fun x H3 ⟨e3, hy⟩ => ?_⟩
  have hx := hy vs hq
  rw [hv] at hx
  cases hx
  subst e3
  exact ⟨B2, _, List.getElem?_eq_getElem hi, .refl e2 f, rv.mono e1⟩
theorem wk_tup {K : PySem.W.Frag} {a : Addr} {vs : List V} {ds : List D} {B : Hp} (h : ∀ H, Ex B H → SqT K H a vs) (r : RpA K B vs ds) : Wk K G (Itt K a) ds B := fun B2 H2 e1 e2 f => by
  have hq := h H2 (e1.trans e2)
  refine ⟨fun i hi => ?_, ⟨vs, hq, by rw [r.length]; exact Nat.le_refl _⟩⟩
  obtain ⟨v, hv, rv⟩ := r.at (List.getElem?_eq_getElem hi)
  refine ⟨⟨vs, v, hq, hv⟩, fun x H3 ⟨e3, hy⟩ => ?_⟩
  have hx := hy vs hq
  rw [hv] at hx
  cases hx
  subst e3
  exact ⟨B2, _, List.getElem?_eq_getElem hi, .refl e2 f, rv.mono e1⟩
theorem wk_rng {K : PySem.W.Frag} {B : Hp} {lo : Int} {n : Nat} : Wk K G (Itr lo n) (rngD lo n) B := fun B2 H2 e1 e2 f => by
  refine ⟨fun i hi => ?_, by rw [rngD_length]; exact Nat.le_refl n⟩
  rw [rngD_length] at hi
  refine ⟨hi, fun x H3 ⟨e3, hx⟩ => ?_⟩
  subst e3 hx
  exact ⟨B2, _, rngD_at n lo i hi, .refl e2 f, .int _⟩
theorem pid_seq (he : PEd X G e de) : PId X G tg e (diSeq de) := by
  refine ⟨fun pins s σ H R I ⟨B, δ, P, st, h, q⟩ => ?_⟩
  let Q2 : VK := fun v H1 => ∃ b a xs, v = .ref a ∧ Sq X.K H1 b a xs ∧ R (if b = true then Itl X.K a else Itt X.K a) H1
  have key : teOf X.K G de σ H Q2 := ⟨B, δ, _, st, h, fun v d B1 H1 m1 ⟨xs, e, p⟩ r1 => by
    obtain ⟨b, a, vs, rfl, hq, ra⟩ := sq_any r1 e
    refine ⟨b, a, vs, rfl, hq H1 m1.e, q _ xs B1 H1 m1 p ?_⟩
    cases b with
    | true => exact wk_list (fun H e => (hq H e).elim (fun z => z.2) (fun z => nomatch z.1)) ra
    | false => exact wk_tup (fun H e => (hq H e).elim (fun z => nomatch z.1) (fun z => z.2)) ra⟩
  refine thn (he.run pins s σ H Q2 I key) fun v s1 ⟨x, H1, I1, r1, b, a, xs, e, hq, q⟩ => ?_
  subst e
  cases r1
  have fr : ∀ c ∈ [s1.heap.objs.size], FpOk X pins H1 c := fun c hb => by
    rw [List.mem_singleton.mp hb]
    exact I1.fpOk (Nat.le_refl _) (I1.hok.fresh (Nat.le_refl _))
  rcases hq with ⟨eb, hq⟩ | ⟨eb, hq⟩
  · obtain ⟨its, rv, p, hz⟩ := I1.list hq
    rw [if_pos eb] at q
    exact wpAny_pyIter_list p.isList ⟨s1.heap.objs.size, [s1.heap.objs.size], _, _, H1, rfl, I1.kept (t' := s1.toks) fun c o e => Heap.get?_push_of_some _ e, turn_list a _, ⟨_, Heap.get?_push_size _ rfl, rfl, rfl⟩, fr, q⟩
  · obtain ⟨its, rv, p, hz⟩ := I1.tuple hq
    rw [if_neg (by rw [eb]; decide)] at q
    exact wpAny_pyIter_tuple (show s1.heap.IsTuple a its.toArray from p) ⟨s1.heap.objs.size, [s1.heap.objs.size], _, _, H1, rfl, I1.kept (t' := s1.toks) fun c o e => Heap.get?_push_of_some _ e, turn_tuple a _, ⟨_, Heap.get?_push_size _ rfl, rfl, rfl⟩, fr, q⟩
theorem wk_en {K : PySem.W.Frag} {b : Bool} {a : Addr} {vs : List V} {ds : List D} {B : Hp} {k : Int} (h : ∀ H, Ex B H → Sq K H b a vs) (r : RpA K B vs ds) : Wk K G (Iten K b a k) (enumD k ds) B := fun B2 H2 e1 e2 f => by
  have hq := h H2 (e1.trans e2)
  refine ⟨fun i hi => ?_, ⟨vs, hq, by rw [enumD_length, r.length]⟩⟩
  rw [enumD_length] at hi
  obtain ⟨v, hv, rv⟩ := r.at (List.getElem?_eq_getElem hi)
  refine ⟨⟨vs, v, hq, hv⟩, fun x H3 ⟨T, x', e3, hT, e4, hy⟩ => ?_⟩
  have hx := hy vs hq
  rw [hv] at hx
  cases hx
  subst e3 e4
  have m := Fm.new (K := K) (F := G.F) (o := .tup [.int (k + (i : Int)), v]) e2 f hT
  refine ⟨_, .tup [.int (k + (i : Int)), ds[i]], ?_, m, .tup (SqT.of upd_same) (.cons (.int _) (.cons ((rv.mono e1).mono m.b) .nil))⟩
  rw [enumD_at, List.getElem?_eq_getElem hi]
  rfl
theorem wk_zp {K : PySem.W.Frag} {b1 b2 : Bool} {a1 a2 : Addr} {vs ws : List V} {ds es : List D} {B : Hp} (h1 : ∀ H, Ex B H → Sq K H b1 a1 vs) (r1 : RpA K B vs ds) (h2 : ∀ H, Ex B H → Sq K H b2 a2 ws) (r2 : RpA K B ws es) : Wk K G (Itzp K b1 a1 b2 a2) (zipD ds es) B := fun B2 H2 e1 e2 f => by
  have hq1 := h1 H2 (e1.trans e2)
  have hq2 := h2 H2 (e1.trans e2)
  have l1 := r1.length
  have l2 := r2.length
  refine ⟨fun i hi => ?_, ⟨vs, ws, hq1, hq2, by rw [zipD_length]; omega, by rw [zipD_length]; omega, by rw [zipD_length]; omega⟩⟩
  rw [zipD_length] at hi
  have hi1 : i < ds.length := by omega
  have hi2 : i < es.length := by omega
  obtain ⟨v, hv, rv⟩ := r1.at (List.getElem?_eq_getElem hi1)
  obtain ⟨u, hu, ru⟩ := r2.at (List.getElem?_eq_getElem hi2)
  refine ⟨⟨vs, ws, v, u, hq1, hq2, hv, hu⟩, fun x H3 ⟨T, x', y', e3, hT, e4, hy1, hy2⟩ => ?_⟩
  have hx := hy1 vs hq1
  rw [hv] at hx
  cases hx
  have hy := hy2 ws hq2
  rw [hu] at hy
  cases hy
  subst e3 e4
  have m := Fm.new (K := K) (F := G.F) (o := .tup [v, u]) e2 f hT
  exact ⟨_, .tup [ds[i], es[i]], zipD_at _ _ _ _ _ (List.getElem?_eq_getElem hi1) (List.getElem?_eq_getElem hi2), m, .tup (SqT.of upd_same) (.cons ((rv.mono e1).mono m.b) (.cons ((ru.mono e1).mono m.b) .nil))⟩
theorem pid_en (hm : X.mg "enumerate" = none) (ha : PAd X G [e] da) (hg : Gl X "enumerate" := by rfl) (hs : starEach [e] X.env = [(false, eval e X.env)] := by rfl) : PId X G (.Tuple elts kk tpos) (.Call (.Name "enumerate" p) [e] [] pos) (diEn da) :=
  PI.imp (pi_en hm ha hg hs) fun σ H R ⟨B, δ, P, st, h, q⟩ => ⟨B, δ, _, st, h, fun vs ds B1 H1 m1 ⟨d, xs, e1, e2, p⟩ r1 => by
    subst e1
    cases r1 with
    | cons rx rn =>
      cases rn
      obtain ⟨b, a, ws, rfl, hq, ra⟩ := sq_any rx e2
      exact ⟨b, a, ws, rfl, hq H1 m1.e, q _ _ B1 H1 m1 p (wk_en hq ra)⟩⟩
theorem pid_zp (hm : X.mg "zip" = none) (ha : PAd X G [e, e2] da) (hg : Gl X "zip" := by rfl) (hs : starEach [e, e2] X.env = (false, eval e X.env) :: starEach [e2] X.env := by rfl) (hpl : (backTo pos (starEach [e2] X.env)).any (·.1) = false := by rfl) :
    PId X G (.Tuple elts kk tpos) (.Call (.Name "zip" p) [e, e2] [] pos) (diZp da) :=
  PI.imp (pi_zp hm ha hg hs hpl) fun σ H R ⟨B, δ, P, st, h, q⟩ => ⟨B, δ, _, st, h, fun vs ds B1 H1 m1 ⟨d, f, xs, ys, e1, e2, e3, p⟩ r1 => by
    subst e1
    cases r1 with
    | cons rx rn =>
      cases rn with
      | cons ry rn =>
        cases rn
        obtain ⟨b1, a1, v1, rfl, hq1, ra1⟩ := sq_any rx e2
        obtain ⟨b2, a2, v2, rfl, hq2, ra2⟩ := sq_any ry e3
        exact ⟨b1, a1, v1, b2, a2, v2, rfl, hq1 H1 m1.e, hq2 H1 m1.e, q _ _ B1 H1 m1 p (wk_zp hq1 ra1 hq2 ra2)⟩⟩
theorem pid_r1 (hm : X.mg "range" = none) (ha : PAd X G [e] da) (hg : Gl X "range" := by rfl) (hs : starEach [e] X.env = [(false, eval e X.env)] := by rfl) : PId X G tg (.Call (.Name "range" p) [e] [] pos) (diR1 da) :=
  PI.imp (pi_range1 hg hm ha hs) fun σ H R ⟨B, δ, P, st, h, q⟩ => ⟨B, δ, _, st, h, fun vs ds B1 H1 m1 ⟨j, e1, h1, h2, p⟩ r1 => by
    subst e1
    cases r1 with
    | cons rx rn =>
      cases rn
      cases rx
      exact ⟨j, rfl, by omega, by omega, q _ _ B1 H1 m1 p wk_rng⟩⟩
theorem pid_r2 (hm : X.mg "range" = none) (ha : PAd X G [e, e2] da) (hg : Gl X "range" := by rfl) (hs : starEach [e, e2] X.env = [(false, eval e X.env), (false, eval e2 X.env)] := by rfl) (hs2 : starEach [e2] X.env = [(false, eval e2 X.env)] := by rfl) :
    PId X G tg (.Call (.Name "range" p) [e, e2] [] pos) (diR2 da) :=
  PI.imp (pi_range2 hg hm ha hs hs2) fun σ H R ⟨B, δ, P, st, h, q⟩ => ⟨B, δ, _, st, h, fun vs ds B1 H1 m1 ⟨i, j, e1, h1, h2, h3, h4, p⟩ r1 => by
    subst e1
    cases r1 with
    | cons rx rn =>
      cases rn with
      | cons ry rn =>
        cases rn
        cases rx
        cases ry
        exact ⟨i, j, rfl, ⟨by omega, by omega, by omega, by omega⟩, q _ _ B1 H1 m1 p wk_rng⟩⟩
end
end Sd
end
-- SdStmts
section
set_option Elab.async false
set_option linter.all false
set_option maxRecDepth 100000
set_option maxHeartbeats 4000000
set_option autoImplicit false
namespace Sd
open PySem PySem.Spec PyProof.Rows L2
open Evl (Ex)
section
variable {K : PySem.W.Frag} {G : Gx} {B B1 : Hp} {DD : DEnds} {D : Ends}
theorem Dlv.up (d : Dlv K G B DD D) (e : Ex B B1) : Dlv K G B1 DD D := ⟨fun σ' B' H' δ' x => d.nx σ' B' H' δ' (e.trans x), d.rt, fun σ' B' H' δ' x => d.bk σ' B' H' δ' (e.trans x), fun σ' B' H' δ' x => d.ct σ' B' H' δ' (e.trans x)⟩
end

/-! ### own lists -/
section
variable {K : PySem.W.Frag} {G : Gx} {σ : L2.St} {B H : Hp} {δ : List Sl}
theorem Stt.fresh0 (s : Stt K G σ B H δ) {p : Addr} (h : ¬ Hd H p) (ns : ¬ G.F.S p) : ¬ Hd G.H0 p := s.fm.back h ns
theorem fok_upd {F : Fs} {l : Addr} {o : HO} (f : Fok K F B H) (hl : ¬ F.S l) (hc : ∀ p ∈ F.tabs, ∀ c q, H c = some (LamX.CodeO c q) → c ≠ l) : Fok K F B (upd H l o) := by
  refine ⟨fun r sa hr => ?_, fun p hp => ?_, f.tb, f.nt⟩
  · obtain ⟨h1, h2, i, s, c, h3, h4⟩ := f.row r sa hr
    exact ⟨h1, h2, i, s, c, by rw [upd_ne (f.s_ne hl r (.inl ⟨sa, hr⟩))]; exact h3, h4⟩
  · obtain ⟨ps, h1, h2, h3⟩ := f.tab p hp
    refine ⟨ps, by rw [upd_ne (f.s_ne hl p.1 (.inr ⟨p.2, hp⟩))]; exact h1, h2, fun pos cv hcv => ?_⟩
    obtain ⟨c, e1, e2⟩ := h3 pos cv hcv
    exact ⟨c, e1, by rw [upd_ne (hc p hp c _ e2)]; exact e2⟩
theorem lst_ne_code {l c : Addr} {vs : List V} {q : Str} (hl : H l = some (.lst vs)) (h : H c = some (LamX.CodeO c q)) : c ≠ l := fun z => by
  subst z
  rw [hl] at h
  cases h
/-- an own list is changed -/
theorem Stt.setOwn {i : Nat} {l : Addr} {vs ws : List V} {xs es : List D} (s : Stt K G σ B H δ) (hi : σ[i]? = some (some (.ref l))) (hd : δ[i]? = some (.own xs)) (h0 : ¬ Hd G.H0 l) (hb : B l = none) (hl : H l = some (.lst vs)) (ns : ¬ G.F.S l) (r : RpA K B ws es) :
    Stt K G σ B (upd H l (.lst ws)) (δ.set i (.own es)) := by
  have f' : Fok K G.F B (upd H l (.lst ws)) := fok_upd s.f ns fun p _ c q e => lst_ne_code hl e
  have e' : Ex B (upd H l (.lst ws)) := fun a o h => by
    rw [upd_ne (fun z => by rw [z, hb] at h; cases h)]
    exact s.e a o h
  refine ⟨⟨s.fm.b, e', fun a h1 h2 => ?_, f'⟩, by rw [List.length_set]; exact s.len, fun j t h => ?_, fun j k ds fs hn h1 h2 => ?_⟩
  · obtain ⟨h3, h4⟩ := s.fm.o a h1 h2
    exact ⟨h3, fun q => by rw [upd_ne (h2.nne h0)]; exact h4 q⟩
  · by_cases hj : i = j
    · subst hj
      have lt := (List.getElem?_eq_some_iff.mp hd).1
      rw [List.getElem?_set, if_pos rfl, if_pos lt] at h
      cases h
      exact ⟨_, hi, l, ws, rfl, h0, hb, upd_same, r, ns⟩
    · rw [List.getElem?_set, if_neg hj] at h
      obtain ⟨o, e, k⟩ := s.sl j t h
      refine ⟨o, e, ?_⟩
      cases t with
      | un => exact k
      | dat d => exact k
      | own ds =>
        obtain ⟨m, us, eo, g0, gb, gl, gr, gs⟩ := k
        have nm : m ≠ l := fun z => by
          have q := s.sep i j xs ds hj hd h
          rw [hi, e, eo, z] at q
          exact q rfl
        exact ⟨m, us, eo, g0, gb, by rw [upd_ne nm]; exact gl, gr, gs⟩
  · have g : ∀ (m : Nat) (zs : List D), (δ.set i (.own es))[m]? = some (.own zs) → ∃ ys, δ[m]? = some (.own ys) := fun m zs hm => by
      by_cases hj : i = m
      · subst hj; exact ⟨xs, hd⟩
      · rw [List.getElem?_set, if_neg hj] at hm
        exact ⟨zs, hm⟩
    obtain ⟨y1, g1⟩ := g j ds h1
    obtain ⟨y2, g2⟩ := g k fs h2
    exact s.sep j k y1 y2 hn g1 g2
/-- a new list becomes an own one -/
theorem Stt.putOwn {i : Nat} {p : Addr} {vs : List V} {ds : List D} {H1 : Hp} (s : Stt K G σ B H1 δ) (h0 : ¬ Hd G.H0 p) (hb : B p = none) (hp : H1 p = some (.lst vs)) (ns : ¬ G.F.S p) (hn : ∀ (j : Nat) (es : List D), δ[j]? = some (.own es) → σ[j]? ≠ some (some (.ref p))) (r : RpA K B vs ds) :
    Stt K G (σ.set i (some (.ref p))) B H1 (δ.set i (.own ds)) := by
  refine ⟨s.fm, by rw [List.length_set, List.length_set]; exact s.len, fun j t h => ?_, fun j k es fs hne h1 h2 => ?_⟩
  · by_cases hj : i = j
    · subst hj
      rw [List.getElem?_set, if_pos rfl] at h
      by_cases lt : i < δ.length
      · rw [if_pos lt] at h
        cases h
        refine ⟨some (.ref p), ?_, p, vs, rfl, h0, hb, hp, r, ns⟩
        rw [List.getElem?_set, if_pos rfl, if_pos (by rw [s.len]; exact lt)]
      · rw [if_neg lt] at h
        cases h
    · rw [List.getElem?_set, if_neg hj] at h ⊢
      exact s.sl j t h
  · have lts : ∀ m zs, (δ.set i (.own ds))[m]? = some (.own zs) → i = m → (σ.set i (some (.ref p)))[m]? = some (some (.ref p)) := fun m zs hm e => by
      subst e
      have lt : i < δ.length := by
        have q := (List.getElem?_eq_some_iff.mp hm).1
        rwa [List.length_set] at q
      rw [List.getElem?_set, if_pos rfl, if_pos (by rw [s.len]; exact lt)]
    by_cases hj : i = j
    · by_cases hk : i = k
      · exact (hne (hj.symm.trans hk)).elim
      · rw [lts j es h1 hj]
        rw [List.getElem?_set, if_neg hk] at h2 ⊢
        exact Ne.symm (hn k fs h2)
    · by_cases hk : i = k
      · rw [lts k fs h2 hk]
        rw [List.getElem?_set, if_neg hj] at h1 ⊢
        exact hn j es h1
      · rw [List.getElem?_set, if_neg hj] at h1 ⊢
        rw [List.getElem?_set, if_neg hk] at h2 ⊢
        exact s.sep j k es fs hne h1 h2
theorem Stt.own_ne (s : Stt K G σ B H δ) {p : Addr} (hp : ¬ Hd H p) : ∀ (j : Nat) (es : List D), δ[j]? = some (.own es) → σ[j]? ≠ some (some (.ref p)) := fun j es h z => by
  obtain ⟨l, vs, e, _, _, hl, _⟩ := s.own h
  rw [z] at e
  cases e
  exact hp (.of hl)
theorem Stt.noS (s : Stt K G σ B H δ) {p : Addr} (hp : H p = none) : ¬ G.F.S p := fun z => (s.f.there z).2 hp
/-- an own list is known as data from now on -/
theorem Stt.freeze {i : Nat} {ds : List D} (s : Stt K G σ B H δ) (hd : δ[i]? = some (.own ds)) : ∃ B', Ex B B' ∧ Stt K G σ B' H (δ.set i (.dat (.lst ds))) := by
  obtain ⟨l, vs, hi, h0, hb, hl, r, ns⟩ := s.own hd
  have e1 : Ex B (upd B l (.lst vs)) := Evl.Ex.new hb
  have e2 : Ex (upd B l (.lst vs)) H := fun a o h => by
    by_cases ha : a = l
    · subst ha
      rw [upd_same] at h
      rw [hl]
      exact h
    · rw [upd_ne ha] at h
      exact s.e a o h
  have lt := (List.getElem?_eq_some_iff.mp hd).1
  refine ⟨upd B l (.lst vs), e1, ⟨s.fm.b.trans e1, e2, fun a h1 h2 => ?_, s.f.ex e1 (fun a ha => ?_) (fun a o h => h) (nt_upd s.f.nt (fun _ z => by cases z))⟩, by rw [List.length_set]; exact s.len, fun j t h => ?_, fun j k es fs hne h1 h2 => ?_⟩
  · obtain ⟨h3, h4⟩ := s.fm.o a h1 h2
    exact ⟨by rw [upd_ne (h2.nne h0)]; exact h3, h4⟩
  · rw [upd_ne (s.f.s_ne ns a ha)]
    exact (s.f.there ha).1
  · by_cases hj : i = j
    · subst hj
      rw [List.getElem?_set, if_pos rfl, if_pos lt] at h
      cases h
      exact ⟨_, hi, _, rfl, .lst upd_same (r.mono e1)⟩
    · rw [List.getElem?_set, if_neg hj] at h
      obtain ⟨o, e, k⟩ := s.sl j t h
      refine ⟨o, e, ?_⟩
      cases t with
      | un => exact k
      | dat d =>
        obtain ⟨v, ev, rv⟩ := k
        exact ⟨v, ev, rv.mono e1⟩
      | own es =>
        obtain ⟨m, us, eo, g0, gb, gl, gr, gs⟩ := k
        have nm : m ≠ l := fun z => by
          have q := s.sep i j ds es hj hd h
          rw [hi, e, eo, z] at q
          exact q rfl
        exact ⟨m, us, eo, g0, by rw [upd_ne nm]; exact gb, gl, gr.mono e1, gs⟩
  · have g : ∀ (m : Nat) (zs : List D), (δ.set i (.dat (.lst ds)))[m]? = some (.own zs) → δ[m]? = some (.own zs) := fun m zs hm => by
      by_cases hj : i = m
      · subst hj
        rw [List.getElem?_set, if_pos rfl, if_pos lt] at hm
        cases hm
      · rw [List.getElem?_set, if_neg hj] at hm
        exact hm
    exact s.sep j k es fs hne (g j es h1) (g k fs h2)
end

/-! ### targets -/
def dgName (i : Nat) : DG := fun d δ Q => Q (δ.set i (.dat d))
def dgNil : DGs := fun ds δ Q => ds = [] ∧ Q δ
def dgCons (t : DG) (u : DGs) : DGs := fun ds δ Q => ∃ d r, ds = d :: r ∧ t d δ fun δ' => u r δ' Q
def dgTup (n : Nat) (t : DGs) : DG := fun d δ Q => ∃ xs, d = .tup xs ∧ xs.length = n ∧ t xs δ Q
section
variable {X : Cx} {G : Gx} {e : Expr} {es : List Expr} {t : DG} {u : DGs} {pos : Pos}
theorem pgd_name {i : Nat} {x : Str} (hN : X.N.Nodup) (hi : X.N[i]? = some x) (hx : Loc X.env.scope x) (hf : X.fn x = true ∨ X.env.scope.names.lookup x = some .local := by first | exact .inl rfl | exact .inr rfl | assumption) : PGd X G (.Name x pos) (dgName i) :=
  PG.imp (pg_name hN hi hx hf) fun v σ H Q ⟨B, δ, d, P, s, r, p, q⟩ => q _ B H _ (Ex.refl B) (s.put r) p
theorem pgsd_nil : PGsd X G [] dgNil := PGs.imp pgs_nil fun vs σ H Q ⟨B, δ, d, P, s, r, ⟨e, p⟩, q⟩ => by
  subst e
  cases r
  exact ⟨rfl, q _ B H δ (Ex.refl B) s p⟩
theorem pgsd_cons (h1 : PGd X G e t) (h2 : PGsd X G es u) (hs : (assignEach (e :: es) X.env).map (·.2) = assign e X.env :: (assignEach es X.env).map (·.2) := by rfl) : PGsd X G (e :: es) (dgCons t u) :=
  PGs.imp (pgs_cons h1 h2 hs) fun vs σ H Q ⟨B, δ, ds, P, s, r, ⟨d, rest, e, p⟩, q⟩ => by
    subst e
    cases r with
    | cons rv rr =>
      exact ⟨_, _, rfl, B, δ, d, _, s, rv, p, fun σ1 B1 H1 δ1 e1 s1 p1 => ⟨B1, δ1, rest, P, s1, rr.mono e1, p1, fun σ2 B2 H2 δ2 e2 => q σ2 B2 H2 δ2 (e1.trans e2)⟩⟩
theorem pgd_tup {k n : Nat} (h : PGsd X G es u) (hc : X.calm = true := by rfl) (hn : (assignEach es X.env).length = n := by rfl) (hst : (assignEach es X.env).findIdx? (·.1) = none := by rfl) : PGd X G (.Tuple es k pos) (dgTup n u) :=
  PG.imp (pg_tup hc h hn hst) fun v σ H Q ⟨B, δ, d, P, s, r, ⟨xs, e, hl, p⟩, q⟩ => by
    subst e
    cases r with
    | tup h1 ra => exact ⟨_, _, rfl, exT s.e h1, by rw [ra.length]; exact hl, B, δ, xs, P, s, ra, p, q⟩
end

/-! ### statements -/
def dsNext : DS := fun D δ => D.nx δ
def dsSeq (t u : DS) : DS := fun D δ => t { D with nx := u D } δ
def dsBreak : DS := fun D δ => D.bk δ
def dsCont : DS := fun D δ => D.ct δ
def dsAsg (de : DE) (g : DG) : DS := fun D δ => de δ fun d => g d δ D.nx
def dsDrop (de : DE) : DS := fun D δ => de δ fun _ => D.nx δ
def dsRet (de : DE) : DS := fun D δ => de δ D.rt
def dsRetN : DS := fun D _ => D.rt .non
def dsIf (c : DT) (t u : DS) : DS := fun D δ => c δ fun b => if b = true then t D δ else u D δ
def dsPar (i j : Nat) (da : DA) : DS := fun D δ => da δ fun ds => ∃ x y, ds = [x, y] ∧ D.nx ((δ.set i (.dat x)).set j (.dat y))
def dsAug (i : Nat) (f : Int → Int → Int) (de : DE) : DS := fun D δ => ∃ a, δ[i]? = some (.dat (.int a)) ∧ de δ fun y => ∃ b, y = .int b ∧ D.nx (δ.set i (.dat (.int (f a b))))
def dsFor (di : DI) (g : DG) (t : DS) : DS := fun D δ => di δ fun xs => ∃ J : Nat → List Sl → Prop, J 0 δ ∧
  (∀ i x δ', xs[i]? = some x → J i δ' → g x δ' fun δ2 => t { D with nx := J (i + 1), ct := J (i + 1), bk := D.nx } δ2) ∧ ∀ δ', J xs.length δ' → D.nx δ'
def dsWhile (c : DT) (t : DS) : DS := fun D δ => ∃ J : Nat → List Sl → Prop, (∃ m, J m δ) ∧ ∀ m δ', J m δ' →
  c δ' fun b => if b = true then t { D with nx := fun δ2 => ∃ m', m' < m ∧ J m' δ2, ct := fun δ2 => ∃ m', m' < m ∧ J m' δ2, bk := D.nx } δ' else D.nx δ'
/-- an own list is known as data from here on -/
def dsFrz (i : Nat) (t : DS) : DS := fun D δ => ∃ ds, δ[i]? = some (.own ds) ∧ t D (δ.set i (.dat (.lst ds)))
def dsNever : DS := fun _ _ => False
section
variable {X : Cx} {G : Gx} {st : Stmt} {rest : List Stmt} {t u : DS} {e c : Expr} {de : DE} {da : DA} {tc : DT} {di : DI} {dg : DG} {tg iter : Expr} {pos : Pos} {a b : List Stmt}
theorem pssd_nil : PSsd X G [] dsNext := PSs.imp pss_nil fun D σ H ⟨B, δ, DD, s, h, q⟩ => q.nx σ B H δ (Ex.refl B) s h
theorem pssd_cons (h1 : PSd X G st t) (h2 : PSsd X G rest u) : PSsd X G (st :: rest) (dsSeq t u) := PSs.imp (pss_cons h1 h2) fun D σ H ⟨B, δ, DD, s, h, q⟩ =>
  ⟨B, δ, { DD with nx := u DD }, s, h, ⟨fun σ' B' H' δ' e s' h' => ⟨B', δ', DD, s', h', q.up e⟩, q.rt, q.bk, q.ct⟩⟩
theorem pssd_one (h1 : PSd X G st t) : PSsd X G [st] t := pss_one h1
theorem psd_pass : PSd X G (.Pass pos) dsNext := PS.imp ps_pass fun D σ H ⟨B, δ, DD, s, h, q⟩ => q.nx σ B H δ (Ex.refl B) s h
theorem psd_break : PSd X G (.Break pos) dsBreak := PS.imp ps_break fun D σ H ⟨B, δ, DD, s, h, q⟩ => q.bk σ B H δ (Ex.refl B) s h
theorem psd_continue : PSd X G (.Continue pos) dsCont := PS.imp ps_continue fun D σ H ⟨B, δ, DD, s, h, q⟩ => q.ct σ B H δ (Ex.refl B) s h
theorem psd_never : PSd X G st dsNever := PS.imp ps_never fun D σ H ⟨B, δ, DD, s, h, q⟩ => h
theorem pssd_never : PSsd X G rest dsNever := PSs.imp pss_never fun D σ H ⟨B, δ, DD, s, h, q⟩ => h
theorem asg_of {σ : L2.St} {H : Hp} {D : Ends} (h : tsOf X.K G (dsAsg de dg) D σ H) : tAsg (teOf X.K G de) (tgOf X.K G dg) D σ H := by
  obtain ⟨B, δ, DD, s, h, q⟩ := h
  exact ⟨B, δ, _, s, h, fun v d B1 H1 m1 p1 r1 => ⟨B1, δ, d, DD.nx, s.mono m1, r1, p1, fun σ2 B2 H2 δ2 e2 s2 p2 => q.nx σ2 B2 H2 δ2 (m1.b.trans e2) s2 p2⟩⟩
theorem psd_asg (he : PEd X G e de) (hg : PGd X G tg dg) (hs : swapsWithSole [tg] e pos.line X.env = pure false := by rfl) (hw : swappedStores [tg] e X.env = pure none := by rfl) (h1 : (assignEach [tg] X.env).map (·.2) = [assign tg X.env] := by rfl) :
    PSd X G (.Assign [tg] e pos) (dsAsg de dg) := PS.imp (ps_asg he hg hs hw h1) fun D σ H h => asg_of h
/-- name = value -/
theorem psd_set {i : Nat} {x : Str} {pos' : Pos} (hN : X.N.Nodup) (hi : X.N[i]? = some x) (hx : Loc X.env.scope x) (he : PEd X G e de) (hs : swapsWith e (some (.Name x pos')) pos.line X.env = pure false := by rfl) (hf : X.fn x = true ∨ X.env.scope.names.lookup x = some .local := by first | exact .inl rfl | exact .inr rfl | assumption) :
    PSd X G (.Assign [.Name x pos'] e pos) (dsAsg de (dgName i)) := PS.imp (ps_set hN hi hx he hs hf) fun D σ H ⟨B, δ, DD, s, h, q⟩ =>
  ⟨B, δ, _, s, h, fun v d B1 H1 m1 p1 r1 => q.nx _ B1 H1 _ m1.b ((s.mono m1).put r1) p1⟩
theorem psd_drop (he : PEd X G e de) (hs : swapsWith e none pos.line X.env = pure false := by rfl) : PSd X G (.Expr e pos) (dsDrop de) := PS.imp (ps_expr he hs) fun D σ H ⟨B, δ, DD, s, h, q⟩ =>
  ⟨B, δ, _, s, h, fun v d B1 H1 m1 p1 r1 => q.nx _ B1 H1 _ m1.b (s.mono m1) p1⟩
theorem psd_ret (he : PEd X G e de) : PSd X G (.Return (some e) pos) (dsRet de) := PS.imp (ps_ret he) fun D σ H ⟨B, δ, DD, s, h, q⟩ =>
  ⟨B, δ, _, s, h, fun v d B1 H1 m1 p1 r1 => q.rt v d B1 H1 (s.fm.trans m1) p1 r1⟩
theorem psd_retN : PSd X G (.Return none pos) dsRetN := PS.imp ps_retN fun D σ H ⟨B, δ, DD, s, h, q⟩ => q.rt _ _ B H s.fm h .non
theorem psd_if (hc : PTd X G c tc) (ha : PSsd X G a t) (hb : PSsd X G b u) : PSd X G (.If c a b pos) (dsIf tc t u) := PS.imp (ps_if hc ha hb) fun D σ H ⟨B, δ, DD, s, h, q⟩ =>
  ⟨B, δ, _, s, h, fun k B1 H1 m1 p1 => by
    cases k with
    | true => exact ⟨B1, δ, DD, s.mono m1, p1, q.up m1.b⟩
    | false => exact ⟨B1, δ, DD, s.mono m1, p1, q.up m1.b⟩⟩
theorem psd_par {i j : Nat} {x y : Str} {e1 e2 : Expr} {px py pt : Pos} {kt k2 : Nat} {pt2 : Pos} (hN : X.N.Nodup) (hi : X.N[i]? = some x) (hj : X.N[j]? = some y) (hij : i ≠ j) (ha : PAd X G [e1, e2] da) (hc : X.calm = true := by rfl)
    (hx : X.env.scope.names.lookup x = some .local := by rfl) (hy : X.env.scope.names.lookup y = some .local := by rfl)
    (hw : swappedStores [.Tuple [.Name x px, .Name y py] kt pt] (.Tuple [e1, e2] k2 pt2) X.env = pure (some [x, y]) := by rfl) (hs : swapsWithSole [.Tuple [.Name x px, .Name y py] kt pt] (.Tuple [e1, e2] k2 pt2) pos.line X.env = pure false := by rfl) :
    PSd X G (.Assign [.Tuple [.Name x px, .Name y py] kt pt] (.Tuple [e1, e2] k2 pt2) pos) (dsPar i j da) := PS.imp (ps_par hc hN hi hj hij hx hy ha hw hs) fun D σ H ⟨B, δ, DD, s, h, q⟩ =>
  ⟨B, δ, _, s, h, fun vs ds B1 H1 m1 ⟨x, y, e, p1⟩ r1 => by
    subst e
    cases r1 with
    | cons rx rr => cases rr with
      | cons ry rr => cases rr; exact ⟨_, _, rfl, q.nx _ B1 H1 _ m1.b (((s.mono m1).put rx).put ry) p1⟩⟩
theorem psd_aug {i : Nat} {x : Str} {op : Operator} {f : Int → Int → Int} {pos' : Pos} (hN : X.N.Nodup) (hi : X.N[i]? = some x) (hx : Loc X.env.scope x) (ho : PIp X op (ipI f)) (he : PEd X G e de) (hf : X.fn x = true ∨ X.env.scope.names.lookup x = some .local := by first | exact .inl rfl | exact .inr rfl | assumption) :
    PSd X G (.AugAssign (.Name x pos') op e pos) (dsAug i f de) := PS.imp (ps_aug hN hi hx he ho hf) fun D σ H ⟨B, δ, DD, s, ⟨a, ha, h⟩, q⟩ => by
  obtain ⟨v, ev, rv⟩ := s.dat ha
  cases rv
  exact ⟨_, ev, B, δ, _, s, h, fun v d B1 H1 m1 ⟨b, e, p1⟩ r1 => by
    subst e
    cases r1
    exact ⟨a, b, rfl, rfl, q.nx _ B1 H1 _ m1.b ((s.mono m1).put (.int _)) p1⟩⟩
theorem psd_for (hp : PassesOwn (model X.prog X.w) X.A X.env X.xe) (hi : PId X G tg iter di) (hg : PGd X G tg dg) (hb : PSsd X G a t) (hc : X.calm = true := by rfl) (hs : ∀ x, foldedSetIterable iter X.env x = pure x := by intro _; rfl) :
    PSd X G (.For tg iter a [] pos) (dsFor di dg t) := PS.imp (ps_for hp hc hi hg hb hs) fun D σ H ⟨B, δ, DD, s, h, q⟩ =>
  ⟨B, δ, _, s, h, fun It xs B1 H1 m1 ⟨J, j0, js, jd⟩ wk => by
    refine ⟨fun i m σ' H' => i + m = xs.length ∧ ∃ B' δ', Ex B1 B' ∧ Stt X.K G σ' B' H' δ' ∧ J i δ', ⟨xs.length, by omega, B1, δ, Ex.refl B1, s.mono m1, j0⟩, fun i m σ' H' ⟨hm, B', δ', e', s', j'⟩ => ?_⟩
    obtain ⟨w1, w2⟩ := wk B' H' e' s'.e s'.f
    cases m with
    | zero =>
      have z : i = xs.length := by omega
      subst z
      exact .inl ⟨w2, q.nx σ' B' H' δ' (m1.b.trans e') s' (jd δ' j')⟩
    | succ m =>
      have lt : i < xs.length := by omega
      obtain ⟨g1, g2⟩ := w1 i lt
      refine .inr ⟨g1, fun σ2 H2 => i + 1 + m = xs.length ∧ ∃ B2 δ2, Ex B1 B2 ∧ Stt X.K G σ2 B2 H2 δ2 ∧ J (i + 1) δ2, fun σ2 H2 z => ⟨m, by omega, z⟩, fun x H2 hy => ?_⟩
      obtain ⟨B2, d, hd, m2, r2⟩ := g2 x H2 hy
      refine ⟨B2, δ', d, _, s'.mono m2, r2, js i d δ' hd j', fun σ3 B3 H3 δ3 e3 s3 p3 => ⟨B3, δ3, _, s3, p3, ?_⟩⟩
      have eb : Ex B1 B3 := (e'.trans m2.b).trans e3
      exact ⟨fun σ4 B4 H4 δ4 e4 s4 p4 => ⟨by omega, B4, δ4, eb.trans e4, s4, p4⟩, q.rt, fun σ4 B4 H4 δ4 e4 s4 p4 => q.nx σ4 B4 H4 δ4 ((m1.b.trans eb).trans e4) s4 p4, fun σ4 B4 H4 δ4 e4 s4 p4 => ⟨by omega, B4, δ4, eb.trans e4, s4, p4⟩⟩⟩
theorem psd_while (hp : PassesOwn (model X.prog X.w) X.A X.env X.xe) (hc : PTd X G c tc) (hb : PSsd X G a t) : PSd X G (.While c a [] pos) (dsWhile tc t) := PS.imp (ps_while hp hc hb) fun D σ H ⟨B, δ, DD, s, ⟨J, ⟨m0, j0⟩, js⟩, q⟩ => by
  refine ⟨fun m σ' H' => ∃ B' δ', Ex B B' ∧ Stt X.K G σ' B' H' δ' ∧ J m δ', ⟨m0, B, δ, Ex.refl B, s, j0⟩, fun m σ' H' ⟨B', δ', e', s', j'⟩ => ?_⟩
  refine ⟨B', δ', _, s', js m δ' j', fun k B1 H1 m1 p1 => ?_⟩
  have eb : Ex B B1 := e'.trans m1.b
  cases k with
  | false => exact q.nx σ' B1 H1 δ' eb (s'.mono m1) p1
  | true =>
    refine ⟨fun σ2 H2 => ∃ m', m' < m ∧ ∃ B2 δ2, Ex B B2 ∧ Stt X.K G σ2 B2 H2 δ2 ∧ J m' δ2, fun σ2 H2 z => z, B1, δ', _, s'.mono m1, p1, ?_⟩
    exact ⟨fun σ4 B4 H4 δ4 e4 s4 ⟨m', h1, h2⟩ => ⟨m', h1, B4, δ4, eb.trans e4, s4, h2⟩, q.rt, fun σ4 B4 H4 δ4 e4 s4 p4 => q.nx σ4 B4 H4 δ4 (eb.trans e4) s4 p4, fun σ4 B4 H4 δ4 e4 s4 ⟨m', h1, h2⟩ => ⟨m', h1, B4, δ4, eb.trans e4, s4, h2⟩⟩
theorem psd_frz (i : Nat) (h : PSd X G st t) : PSd X G st (dsFrz i t) := PS.imp h fun D σ H ⟨B, δ, DD, s, ⟨ds, hd, p⟩, q⟩ => by
  obtain ⟨B', e, s'⟩ := s.freeze hd
  exact ⟨B', _, DD, s', p, q.up e⟩
end

/-! ### new lists -/
abbrev DX := List Sl → (List D → Prop) → Prop
def txOf (K : PySem.W.Frag) (G : Gx) (dx : DX) : TE := fun σ H Q => ∃ (B : Hp) (δ : List Sl) (P : List D → Prop), Stt K G σ B H δ ∧ dx δ P ∧ ∀ p vs ds B' H', Fm K G.F B H B' H' → ¬ Hd H p → ¬ G.F.S p → B' p = none → H' p = some (.lst vs) → P ds → RpA K B' vs ds → Q (.ref p) H'
/-- an expression that makes a new list -/
abbrev PXd (X : Cx) (G : Gx) (e : Expr) (dx : DX) : Prop := PE X e (txOf X.K G dx)
def dsOwn (i : Nat) (dx : DX) : DS := fun D δ => dx δ fun xs => D.nx (δ.set i (.own xs))
/-- as a value -/
def deX (dx : DX) : DE := fun δ P => dx δ fun xs => P (.lst xs)
def dxLst (da : DA) : DX := fun δ P => da δ fun ds => ds.length ≤ 100000 ∧ P ds
def dxB (rd : List D → (List D → Prop) → Prop) (da : DA) : DX := fun δ P => da δ fun ds => rd ds P
section
variable {X : Cx} {G : Gx} {st : Stmt} {e : Expr} {es : List Expr} {de : DE} {da : DA} {dx : DX} {pos : Pos}
theorem newX {K : PySem.W.Frag} {F : Fs} {B H B1 H1 : Hp} {P : List D → Prop} {Q : VK} {vs : List V} {ds : List D} {p : Addr} (q : ∀ p vs ds B' H', Fm K F B H B' H' → ¬ Hd H p → ¬ F.S p → B' p = none → H' p = some (.lst vs) → P ds → RpA K B' vs ds → Q (.ref p) H') (e0 : Ex B H) (f0 : Fok K F B H) (m1 : Fm K F B H B1 H1) (ra : RpA K B1 vs ds) (pz : P ds) (hp : H1 p = none) : Q (.ref p) (upd H1 p (.lst vs)) := by
  have ns : ¬ F.S p := fun z => (m1.f.there z).2 hp
  exact q p vs ds B1 _ (m1.trans (Fm.newH m1.e m1.f hp)) (m1.back (not_hd hp) ns) ns (Evl.fresh_back m1.e hp) upd_same pz ra
theorem pxd_lst (h : PAd X G es da) : PXd X G (.List es pos) (dxLst da) := PE.imp (pe_lst h) fun σ H Q ⟨B, δ, P, s, h, q⟩ =>
  ⟨B, δ, _, s, h, fun xs ds B1 H1 m1 ⟨hl, p1⟩ r1 => ⟨by rw [r1.length]; exact size_ok hl, fun p hp => newX q s.e s.f m1 r1 p1 hp⟩⟩
/-- list(x) -/
def rxList : List D → (List D → Prop) → Prop := fun ds P => ∃ x xs, ds = [x] ∧ x.seq = some xs ∧ P xs
theorem pxd_list {p : Pos} (hm : X.mg "list" = none) (ha : PAd X G [e] da) (hg : Gl X "list" := by rfl) (he : starEach [e] X.env = (false, eval e X.env) :: starEach [] X.env := by rfl) (hpl : (backTo pos (starEach [] X.env)).any (·.1) = false := by rfl) :
    PXd X G (.Call (.Name "list" p) [e] [] pos) (dxB rxList da) := PE.imp (pe_callTy call_list_of hg hm (by decide +kernel) ha (by decide) (by decide) he hpl) fun σ H Q ⟨B, δ, P, s, h, q⟩ =>
  ⟨B, δ, _, s, h, fun vs ds B1 H1 m1 ⟨x, xs, h1, h2, p1⟩ r1 => by
    subst h1
    cases r1 with
    | cons rx rn =>
      cases rn
      obtain ⟨a, ws, rfl, hs, ra⟩ := seq_any m1.e rx h2
      exact ⟨a, ws, rfl, hs, fun l hl => newX q s.e s.f m1 ra p1 hl⟩⟩
theorem pd_x (h : PXd X G e dx) : PEd X G e (deX dx) := PE.imp h fun σ H Q ⟨B, δ, P, s, h, q⟩ => ⟨B, δ, _, s, h, fun p vs ds B' H' m hp ns hb hl pz r => by
  have e1 : Ex B' (upd B' p (.lst vs)) := Evl.Ex.new hb
  have e2 : Ex (upd B' p (.lst vs)) H' := fun a o h => by
    by_cases ha : a = p
    · subst ha
      rw [upd_same] at h
      rw [hl]
      exact h
    · rw [upd_ne ha] at h
      exact m.e a o h
  refine q _ _ (upd B' p (.lst vs)) H' ⟨m.b.trans e1, e2, fun a h1 h2 => ?_, m.f.ex e1 (fun a ha => ?_) (fun a o h => h) (nt_upd m.f.nt (fun _ z => by cases z))⟩ pz (.lst upd_same (r.mono e1))
  · obtain ⟨h3, h4⟩ := m.o a h1 h2
    exact ⟨by rw [upd_ne (h2.nne hp)]; exact h3, h4⟩
  · have ne : a ≠ p := fun z => ns (by rw [← z]; exact ha)
    rw [upd_ne ne]
    exact (m.f.there ha).1⟩
/-- name = a new list, changed later -/
theorem psd_own {i : Nat} {x : Str} {pos' : Pos} (hN : X.N.Nodup) (hi : X.N[i]? = some x) (hx : Loc X.env.scope x) (he : PXd X G e dx) (hs : swapsWith e (some (.Name x pos')) pos.line X.env = pure false := by rfl) (hf : X.fn x = true ∨ X.env.scope.names.lookup x = some .local := by first | exact .inl rfl | exact .inr rfl | assumption) :
    PSd X G (.Assign [.Name x pos'] e pos) (dsOwn i dx) := PS.imp (ps_set hN hi hx he hs hf) fun D σ H ⟨B, δ, DD, s, h, q⟩ =>
  ⟨B, δ, _, s, h, fun p vs ds B1 H1 m1 hp ns hb hl p1 r1 => q.nx _ B1 H1 _ m1.b ((s.mono m1).putOwn (s.fresh0 hp ns) hb hl ns (s.own_ne hp) r1) p1⟩
end

/-! ### comprehensions -/
def dtYes : DT := fun _ P => P true
abbrev PTsd (X : Cx) (G : Gx) (ifs : List Expr) (dt : DT) : Prop := PTs X ifs (ttOf X.K G dt)
/-- [elt for target in iter if ..]: J by the turn and the list so far -/
def dxLc (di : DI) (g : DG) (tt : DT) (te : DE) (own : List Nat) : DX := fun δ P => di δ fun xs => xs.length ≤ 100000 ∧ ∃ J : Nat → List D → Prop, J 0 [] ∧
  (∀ i x acc, xs[i]? = some x → J i acc → acc.length ≤ i → g x (wipeD δ own) fun δ2 => tt δ2 fun b => if b = true then te δ2 fun y => J (i + 1) (acc ++ [y]) else J (i + 1) acc) ∧ ∀ acc, J xs.length acc → P acc
section
variable {X : Cx} {G : Gx}
theorem ptsd_nil : PTsd X G [] dtYes := ⟨fun pins s σ H Q I ⟨B, δ, P, st, h, q⟩ => pts_nil.run pins s σ H Q I (q true B H st.here h)⟩
theorem ptsd_one {c : Expr} {t : DT} (h : PTd X G c t) : PTsd X G [c] t := pts_one h
end
theorem wipe_at (σ : L2.St) : ∀ (own : List Nat) (k : Nat), (L2.wipe σ own)[k]? = if k ∈ own then (if k < σ.length then some none else none) else σ[k]?
  | [], k => by simp [L2.wipe]
  | v :: vs, k => by
    show ((L2.wipe σ vs).set v none)[k]? = _
    rw [List.getElem?_set, L2.wipe_length, wipe_at σ vs k]
    by_cases h : v = k
    · subst h
      simp
    · have h' : ¬ k = v := fun z => h z.symm
      simp [h, h']
theorem wipe_set {σ : L2.St} {own : List Nat} {i : Nat} {x : Option V} (h : i ∈ own) : L2.wipe (σ.set i x) own = L2.wipe σ own := by
  apply List.ext_getElem?
  intro k
  rw [wipe_at, wipe_at, List.length_set]
  by_cases hk : k ∈ own
  · rw [if_pos hk, if_pos hk]
  · rw [if_neg hk, if_neg hk, List.getElem?_set, if_neg (fun z => hk (by rw [← z]; exact h))]
/-- a comprehension's target: it stores at the block's own names alone -/
def tgcOf (K : PySem.W.Frag) (G : Gx) (own : List Nat) (dg : DG) : TG := fun v σ H Q => ∃ (B : Hp) (δ : List Sl) (d : D) (P : List Sl → Prop), Stt K G σ B H δ ∧ Rp K B v d ∧ dg d δ P ∧ ∀ σ' δ', L2.wipe σ' own = L2.wipe σ own → Stt K G σ' B H δ' → P δ' → Q σ' H
def tgcsOf (K : PySem.W.Frag) (G : Gx) (own : List Nat) (dg : DGs) : TGs := fun vs σ H Q => ∃ (B : Hp) (δ : List Sl) (ds : List D) (P : List Sl → Prop), Stt K G σ B H δ ∧ RpA K B vs ds ∧ dg ds δ P ∧ ∀ σ' δ', L2.wipe σ' own = L2.wipe σ own → Stt K G σ' B H δ' → P δ' → Q σ' H
abbrev PGcd (X : Cx) (G : Gx) (own : List Nat) (tg : Expr) (dg : DG) : Prop := PG X tg (tgcOf X.K G own dg)
abbrev PGcsd (X : Cx) (G : Gx) (own : List Nat) (tgs : List Expr) (dg : DGs) : Prop := PGs X tgs (tgcsOf X.K G own dg)
section
variable {X : Cx} {G : Gx} {own : List Nat} {e : Expr} {es : List Expr} {t : DG} {u : DGs} {pos : Pos}
theorem pgc_name {i : Nat} {x : Str} (hN : X.N.Nodup) (hi : X.N[i]? = some x) (hx : Loc X.env.scope x) (ho : i ∈ own) (hf : X.fn x = true ∨ X.env.scope.names.lookup x = some .local := by first | exact .inl rfl | exact .inr rfl | assumption) : PGcd X G own (.Name x pos) (dgName i) :=
  PG.imp (pg_name hN hi hx hf) fun v σ H Q ⟨B, δ, d, P, s, r, p, q⟩ => q _ _ (wipe_set ho) (s.put r) p
theorem pgcs_nil : PGcsd X G own [] dgNil := PGs.imp pgs_nil fun vs σ H Q ⟨B, δ, d, P, s, r, ⟨e, p⟩, q⟩ => by
  subst e
  cases r
  exact ⟨rfl, q _ δ rfl s p⟩
theorem pgcs_cons (h1 : PGcd X G own e t) (h2 : PGcsd X G own es u) (hs : (assignEach (e :: es) X.env).map (·.2) = assign e X.env :: (assignEach es X.env).map (·.2) := by rfl) : PGcsd X G own (e :: es) (dgCons t u) :=
  PGs.imp (pgs_cons h1 h2 hs) fun vs σ H Q ⟨B, δ, ds, P, s, r, ⟨d, rest, e, p⟩, q⟩ => by
    subst e
    cases r with
    | cons rv rr =>
      exact ⟨_, _, rfl, B, δ, d, _, s, rv, p, fun σ1 δ1 w1 s1 p1 => ⟨B, δ1, rest, P, s1, rr, p1, fun σ2 δ2 w2 => q σ2 δ2 (w2.trans w1)⟩⟩
theorem pgc_tup {k n : Nat} (h : PGcsd X G own es u) (hc : X.calm = true := by rfl) (hn : (assignEach es X.env).length = n := by rfl) (hst : (assignEach es X.env).findIdx? (·.1) = none := by rfl) : PGcd X G own (.Tuple es k pos) (dgTup n u) :=
  PG.imp (pg_tup hc h hn hst) fun v σ H Q ⟨B, δ, d, P, s, r, ⟨xs, e, hl, p⟩, q⟩ => by
    subst e
    cases r with
    | tup h1 ra => exact ⟨_, _, rfl, exT s.e h1, by rw [ra.length]; exact hl, B, δ, xs, P, s, ra, p, q⟩
end
theorem Fm.updNew {K : PySem.W.Frag} {F : Fs} {B H B' H' : Hp} {p : Addr} {vs ws : List V} (m : Fm K F B H B' H') (hp : H p = none) (hb : B' p = none) (hl : H' p = some (.lst vs)) (ns : ¬ F.S p) : Fm K F B H B' (upd H' p (.lst ws)) := by
  refine ⟨m.b, fun a o h => ?_, fun a h1 h2 => ?_, fok_upd m.f ns fun q _ c x e => lst_ne_code hl e⟩
  · rw [upd_ne (fun z => by rw [z, hb] at h; cases h)]
    exact m.e a o h
  · obtain ⟨h3, h4⟩ := m.o a h1 h2
    exact ⟨h3, fun z => by rw [upd_ne (h2.ne hp)]; exact h4 z⟩
section
variable {X : Cx} {G : Gx} {elt tg iter : Expr} {ifs : List Expr} {scope : Scope} {own : List (Str × Nat)} {pos : Pos} {di : DI} {dg : DG} {tt : DT} {de : DE}
theorem lc_of {σ : L2.St} {H : Hp} {Q : VK} (h : txOf X.K G (dxLc di dg tt de (own.map (·.2))) σ H Q) : tLc (tiOf X.K G di) (tgcOf X.K G (own.map (·.2)) dg) (ttOf X.K G tt) (teOf X.K G de) (own.map (·.2)) σ H Q := by
  obtain ⟨B, δ, P, s, h, q⟩ := h
  refine ⟨B, δ, _, s, h, fun It xs B1 H1 m1 ⟨hlen, J, j0, js, jd⟩ wk => fun p hp => ?_⟩
  have s1 := s.mono m1
  have nS : ¬ G.F.S p := s1.noS hp
  have hp0 : ¬ Hd H p := m1.back (not_hd hp) nS
  refine ⟨fun i m H' => i + m = xs.length ∧ ∃ B' acc ws, Fm X.K G.F B1 H1 B' H' ∧ B' p = none ∧ H' p = some (.lst ws) ∧ RpA X.K B' ws acc ∧ acc.length ≤ i ∧ J i acc,
    ⟨xs.length, by omega, B1, [], [], Fm.newH m1.e m1.f hp, Evl.fresh_back m1.e hp, upd_same, .nil, Nat.le_refl 0, j0⟩, fun i m H' ⟨hm, B', acc, ws, mf, hb, hl, ra, hle, hj⟩ => ?_⟩
  obtain ⟨w1, w2⟩ := wk B' H' mf.b mf.e mf.f
  cases m with
  | zero =>
    have z : i = xs.length := by omega
    subst z
    exact .inl ⟨w2, q p ws acc B' H' (m1.trans mf) hp0 nS hb hl (jd acc hj) ra⟩
  | succ m =>
    have lt : i < xs.length := by omega
    obtain ⟨g1, g2⟩ := w1 i lt
    refine .inr ⟨g1, fun H2 => i + 1 + m = xs.length ∧ ∃ B2 acc2 ws2, Fm X.K G.F B1 H1 B2 H2 ∧ B2 p = none ∧ H2 p = some (.lst ws2) ∧ RpA X.K B2 ws2 acc2 ∧ acc2.length ≤ i + 1 ∧ J (i + 1) acc2, fun H2 z => ⟨m, by omega, z⟩, fun x H2 hy => ?_⟩
    obtain ⟨B2, d, hd, m2, r2⟩ := g2 x H2 hy
    have keep : ∀ {Ba Ha Bb Hb : Hp}, Fm X.K G.F Ba Ha Bb Hb → Ba p = none → Ha p = some (.lst ws) → Bb p = none ∧ Hb p = some (.lst ws) := fun mm h1 h2 => by
      obtain ⟨h3, h4⟩ := mm.o p h1 (.of h2)
      exact ⟨h3, (h4 nS).trans h2⟩
    have mf2 := mf.trans m2
    obtain ⟨hb2, hl2⟩ := keep m2 hb hl
    have ss : Stt X.K G (L2.wipe σ (own.map (·.2))) B2 H2 (wipeD δ (own.map (·.2))) := (s1.mono mf2).wipe _
    refine ⟨B2, wipeD δ (own.map (·.2)), d, _, ss, r2, js i d acc hd hj hle, fun σ2 δ2 ew s2 p2 => ⟨?_, B2, δ2, _, s2, p2, fun b B3 H3 m3 p3 => ?_⟩⟩
    · rw [ew]
      apply List.ext_getElem?
      intro k
      rw [wipe_at, L2.wipe_length, wipe_at]
      split <;> rfl
    · have mf3 := mf2.trans m3
      obtain ⟨hb3, hl3⟩ := keep m3 hb2 hl2
      cases b with
      | false => exact ⟨by omega, B3, acc, ws, mf3, hb3, hl3, (ra.mono m2.b).mono m3.b, by omega, p3⟩
      | true =>
        refine ⟨B3, δ2, _, s2.mono m3, p3, fun y d4 B4 H4 m4 p4 r4 => ?_⟩
        obtain ⟨hb4, hl4⟩ := keep m4 hb3 hl3
        refine ⟨ws, hl4, ?_, by omega, B4, acc ++ [d4], ws ++ [y], (mf3.trans m4).updNew hp hb4 hl4 nS, hb4, upd_same, (((ra.mono m2.b).mono m3.b).mono m4.b).app (.one r4), by rw [List.length_append]; simp; omega, p4⟩
        rw [ra.length]
        exact size_lt (by omega)
theorem pxd_lc (hN : X.N.Nodup) (hi : PId X G tg iter di) (ok : blkC X.N X.env.scope scope own = true) (hg : ∀ (s : Shared) (H : Hp) (C : Addr) (cl : List (Str × Addr)) (fp : List Addr), PGcd (X.blk s H scope (compEnvC scope cl C X.env) fp) G (own.map (·.2)) tg dg)
    (ht : ∀ (s : Shared) (H : Hp) (C : Addr) (cl : List (Str × Addr)) (fp : List Addr), PTsd (X.blk s H scope (compEnvC scope cl C X.env) fp) G ifs tt) (he : ∀ (s : Shared) (H : Hp) (C : Addr) (cl : List (Str × Addr)) (fp : List Addr), PEd (X.blk s H scope (compEnvC scope cl C X.env) fp) G elt de)
    (hc : X.calm = true := by rfl) (hs : ∀ x, foldedSetIterable iter X.env x = pure x := by intro _; rfl) : PXd X G (.ListComp elt [⟨tg, iter, ifs, 0⟩] scope pos) (dxLc di dg tt de (own.map (·.2))) :=
  PE.imp (pe_lc (own := own) hc hN hi (blkOk_by ok) hg ht he hs) fun σ H Q h => lc_of h
/-- name = [..] -/
theorem psd_setLc {i : Nat} {y : Str} {py spos : Pos} (hN : X.N.Nodup) (hy : X.N[i]? = some y) (hyl : X.env.scope.names.lookup y = some .local) (hsw : swapsWith (.ListComp elt [⟨tg, iter, ifs, 0⟩] scope pos) (some (.Name y py)) spos.line X.env = pure true) (hi : PId X G tg iter di) (ok : blkC X.N X.env.scope scope own = true)
    (hg : ∀ (s : Shared) (H : Hp) (C : Addr) (cl : List (Str × Addr)) (fp : List Addr), PGcd (X.blk s H scope (compEnvC scope cl C X.env) fp) G (own.map (·.2)) tg dg)
    (ht : ∀ (s : Shared) (H : Hp) (C : Addr) (cl : List (Str × Addr)) (fp : List Addr), PTsd (X.blk s H scope (compEnvC scope cl C X.env) fp) G ifs tt) (he : ∀ (s : Shared) (H : Hp) (C : Addr) (cl : List (Str × Addr)) (fp : List Addr), PEd (X.blk s H scope (compEnvC scope cl C X.env) fp) G elt de)
    (hc : X.calm = true := by rfl) (hs : ∀ x, foldedSetIterable iter X.env x = pure x := by intro _; rfl) : PSd X G (.Assign [.Name y py] (.ListComp elt [⟨tg, iter, ifs, 0⟩] scope pos) spos) (dsAsg (deX (dxLc di dg tt de (own.map (·.2)))) (dgName i)) :=
  PS.imp (ps_setLc (own := own) hc hN hy hyl hsw hi (blkOk_by ok) hg ht he hs) fun D σ H ⟨B, δ, DD, s, h, q⟩ => lc_of ⟨B, δ, _, s, h, fun p vs ds B' H' m hp ns hb hl pz r => by
    have e1 : Ex B' (upd B' p (.lst vs)) := Evl.Ex.new hb
    have e2 : Ex (upd B' p (.lst vs)) H' := fun a o h => by
      by_cases ha : a = p
      · subst ha
        rw [upd_same] at h
        rw [hl]
        exact h
      · rw [upd_ne ha] at h
        exact m.e a o h
    have mm : Fm X.K G.F B H (upd B' p (.lst vs)) H' := by
      refine ⟨m.b.trans e1, e2, fun a h1 h2 => ?_, m.f.ex e1 (fun a ha => ?_) (fun a o h => h) (nt_upd m.f.nt (fun _ z => by cases z))⟩
      · obtain ⟨h3, h4⟩ := m.o a h1 h2
        exact ⟨by rw [upd_ne (h2.nne hp)]; exact h3, h4⟩
      · have ne : a ≠ p := fun z => ns (by rw [← z]; exact ha)
        rw [upd_ne ne]
        exact (m.f.there ha).1
    exact q.nx _ _ H' _ mm.b ((s.mono mm).put (.lst upd_same (r.mono e1))) pz⟩
theorem psd_ownLc {i : Nat} {y : Str} {py spos : Pos} (hN : X.N.Nodup) (hy : X.N[i]? = some y) (hyl : X.env.scope.names.lookup y = some .local) (hsw : swapsWith (.ListComp elt [⟨tg, iter, ifs, 0⟩] scope pos) (some (.Name y py)) spos.line X.env = pure true) (hi : PId X G tg iter di) (ok : blkC X.N X.env.scope scope own = true)
    (hg : ∀ (s : Shared) (H : Hp) (C : Addr) (cl : List (Str × Addr)) (fp : List Addr), PGcd (X.blk s H scope (compEnvC scope cl C X.env) fp) G (own.map (·.2)) tg dg)
    (ht : ∀ (s : Shared) (H : Hp) (C : Addr) (cl : List (Str × Addr)) (fp : List Addr), PTsd (X.blk s H scope (compEnvC scope cl C X.env) fp) G ifs tt) (he : ∀ (s : Shared) (H : Hp) (C : Addr) (cl : List (Str × Addr)) (fp : List Addr), PEd (X.blk s H scope (compEnvC scope cl C X.env) fp) G elt de)
    (hc : X.calm = true := by rfl) (hs : ∀ x, foldedSetIterable iter X.env x = pure x := by intro _; rfl) : PSd X G (.Assign [.Name y py] (.ListComp elt [⟨tg, iter, ifs, 0⟩] scope pos) spos) (dsOwn i (dxLc di dg tt de (own.map (·.2)))) :=
  PS.imp (ps_setLc (own := own) hc hN hy hyl hsw hi (blkOk_by ok) hg ht he hs) fun D σ H ⟨B, δ, DD, s, h, q⟩ => lc_of ⟨B, δ, _, s, h, fun p vs ds B1 H1 m1 hp ns hb hl p1 r1 =>
    q.nx _ B1 H1 _ m1.b ((s.mono m1).putOwn (s.fresh0 hp ns) hb hl ns (s.own_ne hp) r1) p1⟩
end

/-! ### own lists read and changed -/
def deIxO (i : Nat) (dj : DE) : DE := fun δ P => ∃ xs, δ[i]? = some (.own xs) ∧ dj δ fun y => ∃ z, (D.lst xs).ix y = some z ∧ P z
def deLenO (i : Nat) : DE := fun δ P => ∃ xs, δ[i]? = some (.own xs) ∧ P (.int xs.length)
def dsApp (i : Nat) (de : DE) : DS := fun D δ => ∃ xs, δ[i]? = some (.own xs) ∧ de δ fun d => xs.length < 100000 ∧ D.nx (δ.set i (.own (xs ++ [d])))
def dsExt (i : Nat) (de : DE) : DS := fun D δ => ∃ xs, δ[i]? = some (.own xs) ∧ de δ fun d => ∃ ys, d = .lst ys ∧ xs.length + ys.length ≤ 100000 ∧ D.nx (δ.set i (.own (xs ++ ys)))
def dsPut (i : Nat) (dj de : DE) : DS := fun D δ => de δ fun d => ∃ xs, δ[i]? = some (.own xs) ∧ dj δ fun k => ∃ j n, k = .int j ∧ ixN xs.length j = some n ∧ D.nx (δ.set i (.own (xs.set n d)))
def dsAugO (i : Nat) (f : Int → Int → Int) (dj de : DE) : DS := fun D δ => ∃ xs, δ[i]? = some (.own xs) ∧ dj δ fun k => ∃ j n a, k = .int j ∧ 0 ≤ j ∧ j < 1000000 ∧ ixN xs.length j = some n ∧ xs[n]? = some (.int a) ∧ de δ fun y => ∃ b, y = .int b ∧ D.nx (δ.set i (.own (xs.set n (.int (f a b)))))
/-- xs[i], by values, no negative place -/
theorem get_list {X : Cx} : PGet X (fun o i H Q => ∃ (p : Addr) (xs : List V) (j : Int) (v : V), o = .ref p ∧ i = .int j ∧ 0 ≤ j ∧ j < 1000000 ∧ SqL X.K H p xs ∧ L2.atI xs j = some v ∧ Q v H) := fun pins s σ H o i ov iv Q I ro ri h => by
  obtain ⟨p, xs, j, v, rfl, rfl, h0, h1, hq, ha, q⟩ := h
  cases ro
  obtain ⟨t, rfl⟩ := ri
  obtain ⟨its, r, pl, hz⟩ := I.list hq
  obtain ⟨n, e1, e2, e3, e4, e5⟩ := atI_get ha
  obtain ⟨w, ew, rw'⟩ := r.get e2
  have hj : j.toNat = n := by
    rw [seqIndex_of h0 e5] at e1
    exact Option.some.inj e1
  exact wpAny_getItem_list pl.isList h0 (by omega) (by rw [hj]; simpa using ew) ⟨v, H, I, rw', q⟩
section
variable {X : Cx} {G : Gx} {e ei : Expr} {es : List Expr} {de dj : DE} {pos apos cpos p px : Pos} {i : Nat} {x : Str}
theorem own_same {K : PySem.W.Frag} {F : Fs} {B H B' H' : Hp} {l : Addr} {vs : List V} (m : Fm K F B H B' H') (hb : B l = none) (hl : H l = some (.lst vs)) (ns : ¬ F.S l) : B' l = none ∧ H' l = some (.lst vs) := by
  obtain ⟨h1, h2⟩ := m.o l hb (.of hl)
  exact ⟨h1, (h2 ns).trans hl⟩
theorem pd_ixO (hx : PE X (.Name x px) (tVar i)) (hj : PEd X G ei dj) (hs : PlainIx ei := by exact fun _ _ => rfl) : PEd X G (.Subscript (.Name x px) ei pos) (deIxO i dj) := PE.imp (pe_ix ix_seq hx hj hs) fun σ H Q ⟨B, δ, P, s, ⟨xs, hd, h⟩, q⟩ => by
  obtain ⟨l, vs, hi, h0, hb, hl, ra, ns⟩ := s.own hd
  refine ⟨_, hi, B, δ, _, s, h, fun y d B1 H1 m1 ⟨z, hz, p⟩ r1 => ?_⟩
  obtain ⟨hb1, hl1⟩ := own_same m1 hb hl ns
  cases d with
  | int j =>
    cases r1
    obtain ⟨v, ev, rv⟩ := (ra.mono m1.b).atI hz
    exact .inl ⟨l, vs, j, v, rfl, rfl, SqL.of hl1, ev, q _ _ B1 H1 m1 p rv⟩
  | _ => cases hz
theorem pd_lenO (hx : PE X (.Name x px) (tVar i)) (hm : X.mg "len" = none) (hg : Gl X "len" := by rfl) (he : starEach [.Name x px] X.env = (false, eval (.Name x px) X.env) :: starEach [] X.env := by rfl) (hpl : (backTo pos (starEach [] X.env)).any (·.1) = false := by rfl) :
    PEd X G (.Call (.Name "len" p) [.Name x px] [] pos) (deLenO i) := PE.imp (pe_callB call_len_seq hg hm boot_len (pa_cons hx pa_nil he) (by decide) (by decide) he hpl) fun σ H Q ⟨B, δ, P, s, ⟨xs, hd, h⟩, q⟩ => by
  obtain ⟨l, vs, hi, h0, hb, hl, ra, ns⟩ := s.own hd
  refine ⟨_, hi, l, vs, rfl, .inl (SqL.of hl), ?_⟩
  rw [ra.length]
  exact q _ _ B H s.here h (.int _)
theorem psd_app (hx : PE X (.Name x px) (tVar i)) (he : PEd X G e de) (hbase : attributeBase (.Name x px) "append" X.env (eval (.Name x px) X.env) = eval (.Name x px) X.env := by rfl)
    (hfew : ((backTo cpos (starEach [e] X.env)).all (fun x => !x.1) && (backToKw cpos (keywordEach [] X.env)).all (fun x => x.1.isSome) && decide ([e].length + ([] : List Keyword).length + (if ([] : List Keyword).isEmpty then 0 else 1) < 30)) = true := by rfl)
    (hline : (apos.endLine == cpos.line) = true := by rfl) (hs : starEach [e] X.env = (false, eval e X.env) :: starEach [] X.env := by rfl) (hplain : (backTo cpos (starEach [] X.env)).any (·.1) = false := by rfl) (hsw : swapsWith (.Call (.Attribute (.Name x px) "append" apos) [e] [] cpos) none pos.line X.env = pure false := by rfl) :
    PSd X G (.Expr (.Call (.Attribute (.Name x px) "append" apos) [e] [] cpos) pos) (dsApp i de) :=
  PS.imp (ps_expr (pe_bm PySem.F.plainAttrs_list PySem.F.slot_list_append PySem.F.type_list_append mt_append hx (pa_cons he pa_nil hs) hbase hfew hline hs hplain) hsw) fun D σ H ⟨B, δ, DD, s, ⟨xs, hd, h⟩, q⟩ => by
    obtain ⟨l, vs, hi, h0, hb, hl, ra, ns⟩ := s.own hd
    refine ⟨_, hi, .inl ⟨rfl, _, SqL.of hl⟩, B, δ, _, s, h, fun v d B1 H1 m1 ⟨hlen, p1⟩ r1 => ?_⟩
    obtain ⟨hb1, hl1⟩ := own_same m1 hb hl ns
    refine ⟨l, vs, v, rfl, rfl, hl1, by rw [ra.length]; exact size_lt hlen, q.nx _ B1 _ _ m1.b ((s.mono m1).setOwn hi hd h0 hb1 hl1 ns ((ra.mono m1.b).app (.one r1))) p1⟩
theorem psd_ext (hx : PE X (.Name x px) (tVar i)) (he : PEd X G e de) (hbase : attributeBase (.Name x px) "extend" X.env (eval (.Name x px) X.env) = eval (.Name x px) X.env := by rfl)
    (hfew : ((backTo cpos (starEach [e] X.env)).all (fun x => !x.1) && (backToKw cpos (keywordEach [] X.env)).all (fun x => x.1.isSome) && decide ([e].length + ([] : List Keyword).length + (if ([] : List Keyword).isEmpty then 0 else 1) < 30)) = true := by rfl)
    (hline : (apos.endLine == cpos.line) = true := by rfl) (hs : starEach [e] X.env = (false, eval e X.env) :: starEach [] X.env := by rfl) (hplain : (backTo cpos (starEach [] X.env)).any (·.1) = false := by rfl) (hsw : swapsWith (.Call (.Attribute (.Name x px) "extend" apos) [e] [] cpos) none pos.line X.env = pure false := by rfl) :
    PSd X G (.Expr (.Call (.Attribute (.Name x px) "extend" apos) [e] [] cpos) pos) (dsExt i de) :=
  PS.imp (ps_expr (pe_bm PySem.F.plainAttrs_list PySem.F.slot_list_extend PySem.F.type_list_extend mt_extend hx (pa_cons he pa_nil hs) hbase hfew hline hs hplain) hsw) fun D σ H ⟨B, δ, DD, s, ⟨xs, hd, h⟩, q⟩ => by
    obtain ⟨l, vs, hi, h0, hb, hl, ra, ns⟩ := s.own hd
    refine ⟨_, hi, .inl ⟨rfl, _, SqL.of hl⟩, B, δ, _, s, h, fun v d B1 H1 m1 ⟨ys, e, hlen, p1⟩ r1 => ?_⟩
    subst e
    obtain ⟨hb1, hl1⟩ := own_same m1 hb hl ns
    cases r1 with
    | lst h2 rb =>
      exact ⟨l, _, vs, _, rfl, rfl, hl1, m1.e _ _ h2, by rw [ra.length, rb.length]; exact size_ok hlen, q.nx _ B1 _ _ m1.b ((s.mono m1).setOwn hi hd h0 hb1 hl1 ns ((ra.mono m1.b).app rb)) p1⟩
theorem psd_put {tpos : Pos} (hx : PE X (.Name x px) (tVar i)) (hj : PEd X G ei dj) (he : PEd X G e de)
    (ha : ∀ v, assign (.Subscript (.Name x px) ei tpos) X.env v = (do
      let ov ← holding [v] (eval (.Name x px) X.env)
      let iv ← holding [v, ov] (eval ei X.env)
      standAt tpos
      holding [v, ov, iv] (setItem ov iv v)
      release [v, ov, iv] []) := by intro _; rfl)
    (hs : swapsWithSole [.Subscript (.Name x px) ei tpos] e pos.line X.env = pure false := by rfl) (hw : swappedStores [.Subscript (.Name x px) ei tpos] e X.env = pure none := by rfl) (h1 : (assignEach [.Subscript (.Name x px) ei tpos] X.env).map (·.2) = [assign (.Subscript (.Name x px) ei tpos) X.env] := by rfl) :
    PSd X G (.Assign [.Subscript (.Name x px) ei tpos] e pos) (dsPut i dj de) :=
  PS.imp (ps_asg he (pg_sub hx hj set_list ha) hs hw h1) fun D σ H ⟨B, δ, DD, s, h, q⟩ => ⟨B, δ, _, s, h, fun v d B1 H1 m1 ⟨xs, hd, p1⟩ r1 => by
    have s1 := s.mono m1
    obtain ⟨l, vs, hi, h0, hb, hl, ra, ns⟩ := s1.own hd
    refine ⟨_, hi, B1, δ, _, s1, p1, fun y k B2 H2 m2 ⟨j, n, e, hn, p2⟩ r2 => ?_⟩
    subst e
    cases r2
    obtain ⟨hb2, hl2⟩ := own_same m2 hb hl ns
    exact ⟨l, vs, j, n, rfl, rfl, hl2, by rw [ra.length]; exact hn, q.nx _ B2 _ _ (m1.b.trans m2.b) ((s1.mono m2).setOwn hi hd h0 hb2 hl2 ns ((ra.mono m2.b).set (r1.mono m2.b))) p2⟩⟩
theorem psd_augO {op : Operator} {f : Int → Int → Int} {tpos : Pos} (hx : PE X (.Name x px) (tVar i)) (hj : PEd X G ei dj) (ho : PIp X op (ipI f)) (he : PEd X G e de)
    (ha : ∀ ov iv new, augStore ei ov iv new = (do holding [new, ov, iv] (setItem ov iv new); release [new, ov, iv] []; pure Flow.next) := by intros; rfl) : PSd X G (.AugAssign (.Subscript (.Name x px) ei tpos) op e pos) (dsAugO i f dj de) :=
  PS.imp (ps_augS hx hj get_list he ho set_list ha) fun D σ H ⟨B, δ, DD, s, ⟨xs, hd, h⟩, q⟩ => by
    obtain ⟨l, vs, hi, h0, hb, hl, ra, ns⟩ := s.own hd
    refine ⟨_, hi, B, δ, _, s, h, fun y k B1 H1 m1 ⟨j, n, a, e, j0, j1, hn, ha, p1⟩ r1 => ?_⟩
    subst e
    cases r1
    obtain ⟨hb1, hl1⟩ := own_same m1 hb hl ns
    have ra1 := ra.mono m1.b
    have hat : L2.atI xs j = some (.int a) := by
      unfold L2.atI
      rw [hn]
      exact ha
    obtain ⟨v, ev, rv⟩ := ra1.atI hat
    cases rv
    refine ⟨l, vs, j, _, rfl, rfl, j0, j1, SqL.of hl1, ev, B1, δ, _, s.mono m1, p1, fun z d B2 H2 m2 ⟨b, e, p2⟩ r2 => ?_⟩
    subst e
    cases r2
    obtain ⟨hb2, hl2⟩ := own_same m2 hb1 hl1 ns
    exact ⟨a, b, rfl, rfl, l, vs, j, n, rfl, rfl, hl2, by rw [ra.length]; exact hn, q.nx _ B2 _ _ (m1.b.trans m2.b) (((s.mono m1).mono m2).setOwn hi hd h0 hb2 hl2 ns ((ra1.mono m2.b).set (.int _))) p2⟩
end

/-! ### defs: promises over data -/
inductive Out where
  | ret (d : D) | exc (n : Str) (d : D)
abbrev DSp := Fs → List D → (Out → Prop) → Prop
def spD (K : PySem.W.Frag) (sp : DSp) : Sp := fun vs H Q E => ∃ (F : Fs) (B : Hp) (ds : List D) (O : Out → Prop), Ex B H ∧ Fok K F B H ∧ RpA K B vs ds ∧ sp F ds O ∧
  (∀ v d B' H', Fm K F B H B' H' → O (.ret d) → Rp K B' v d → Q v H') ∧
  (∀ n d dd v B' H', O (.exc n d) → Fm K F B H B' H' → B' dd = some (.xd [(("value" : Str), v)]) → Rp K B' v d → E (.ref (He.ga K n)) (some dd) H')
/-- what is raised reaches who asked -/
def DlvX (K : PySem.W.Frag) (G : Gx) (Xc : Str → D → Prop) (E : XK) : Prop := ∀ n d dd v B' H', Xc n d → Fm K G.F G.B0 G.H0 B' H' → B' dd = some (.xd [(("value" : Str), v)]) → Rp K B' v d → E (.ref (He.ga K n)) (some dd) H'
/-- a def that may be called by its name; dn: its defaults -/
structure Cl (P : Program) (w : World) (K : PySem.W.Frag) (mg : Str → Option Value) (base : Heap) (k : Nat) (x : Str) (sp : DSp) (dn : List D) : Prop where
  ex : ∃ (f : Addr) (fd : FuncData) (ps : List Str) (ds : List Value) (dvs : List V), FnOk P w K mg base (L2.CX P w) k f fd ps (spD K sp) ∧ mg x = some (.ref f) ∧ PySem.W.keepIn K (.ref f) = true ∧ Binds K fd ps ds ∧ Vals dvs ds ∧ ∀ B, RpA K B dvs dn
def deCall (sp : DSp) (F : Fs) (Xc : Str → D → Prop) (dn : List D) (da : DA) : DE := fun δ P => da δ fun ds => sp F (ds ++ dn) fun o => match o with
  | .ret d => P d
  | .exc n d => Xc n d
def noX : Str → D → Prop := fun _ _ => False
section
variable {X : Cx} {G : Gx} {k j : Nat} {x : Str} {sp : DSp} {dn : List D} {e : Expr} {es : List Expr} {da : DA} {p pos : Pos} {Xc : Str → D → Prop} {E : XK}
theorem pd_callX (c : Cl X.prog X.w X.K X.mg X.base k x sp dn) (hr : Room j X.A) (hk : k ≤ j) (hE : DlvX X.K G Xc E) (hx : Passes (L2.CX X.prog X.w) X E) (ha : PAd X G (e :: es) da) (hg : Gl X x := by rfl) (hdb : (x == ("__debug__" : Str)) = false := by decide)
    (he : starEach (e :: es) X.env = (false, eval e X.env) :: starEach es X.env := by rfl) (hpl : (backTo pos (starEach es X.env)).any (·.1) = false := by rfl) : PEd X G (.Call (.Name x p) (e :: es) [] pos) (deCall sp G.F Xc dn da) := by
  obtain ⟨f, fd, ps, ds, dvs, F, hm, kp, hb, hv, hn⟩ := c.ex
  exact PE.imp (pe_call F (hr.mono hk) hg hm kp hb hv hx ha hdb he hpl) fun σ H Q ⟨B, δ, P, s, h, q⟩ => ⟨B, δ, _, s, h, fun vs ds B1 H1 m1 p1 r1 =>
    ⟨G.F, B1, ds ++ dn, _, m1.e, m1.f, r1.app (hn B1), p1, fun v d B' H' m2 o r => q v d B' H' (m1.trans m2) o r, fun n d dd v B' H' o m2 h1 r => hE n d dd v B' H' o (s.fm.trans (m1.trans m2)) h1 r⟩⟩
theorem pd_call (c : Cl X.prog X.w X.K X.mg X.base k x sp dn) (hr : Room j X.A) (hk : k ≤ j) (ha : PAd X G (e :: es) da) (hg : Gl X x := by rfl) (hdb : (x == ("__debug__" : Str)) = false := by decide)
    (he : starEach (e :: es) X.env = (false, eval e X.env) :: starEach es X.env := by rfl) (hpl : (backTo pos (starEach es X.env)).any (·.1) = false := by rfl) : PEd X G (.Call (.Name x p) (e :: es) [] pos) (deCall sp G.F noX dn da) :=
  pd_callX c hr hk (E := E0) (fun _ _ _ _ _ _ z => z.elim) passL ha hg hdb he hpl
end
/-- the slots at a def's entry -/
def startD (N : List Str) (ds : List D) : List Sl := ds.map .dat ++ List.replicate (N.length - ds.length) .un
theorem RpA.start {K : PySem.W.Frag} {B H : Hp} {F : Fs} {N : List Str} {vs : List V} {ds : List D} (e : Ex B H) (f : Fok K F B H) (r : RpA K B vs ds) : Stt K ⟨F, B, H⟩ (L2.start N vs) B H (startD N ds) := by
  have hl := r.length
  refine ⟨.refl e f, ?_, fun i s h => ?_, fun i j xs ys _ h1 _ => ?_⟩
  · simp [L2.start, startD, hl]
  · unfold startD at h
    unfold L2.start
    by_cases hi : i < ds.length
    · rw [List.getElem?_append_left (by simpa using hi)] at h
      rw [List.getElem?_append_left (by simpa [hl] using hi)]
      rw [List.getElem?_map] at h
      obtain ⟨d, hd⟩ : ∃ d, ds[i]? = some d := ⟨_, List.getElem?_eq_getElem hi⟩
      rw [hd] at h
      cases h
      obtain ⟨v, hv, rv⟩ := r.at hd
      exact ⟨some v, by rw [List.getElem?_map, hv]; rfl, v, rfl, rv⟩
    · have hi' : ds.length ≤ i := Nat.le_of_not_lt hi
      rw [List.getElem?_append_right (by simpa using hi')] at h
      rw [List.getElem?_append_right (by simpa [hl] using hi')]
      rw [List.getElem?_replicate] at h
      split at h
      · rename_i hlt
        cases h
        refine ⟨none, ?_, True.intro⟩
        rw [List.getElem?_replicate, if_pos (by simpa [hl] using hlt)]
      · cases h
  · unfold startD at h1
    by_cases hi : i < ds.length
    · rw [List.getElem?_append_left (by simpa using hi), List.getElem?_map, List.getElem?_eq_getElem hi] at h1
      cases h1
    · rw [List.getElem?_append_right (by simpa using Nat.le_of_not_lt hi), List.getElem?_replicate] at h1
      split at h1 <;> cases h1
section
variable {P : Program} {w : World} {K : PySem.W.Frag} {mg : Str → Option Value} {base : Heap} {x qual : Str} {params : Arguments} {body : List Stmt} {scope : Scope} {dvs : List V} {kws : List (Str × V)} {f : Addr} {fd : FuncData}
/-- a def keeps its promise, by its body over data -/
theorem fnD {N ps : List Str} {k : Nat} {sp : DSp} (F : FunD K x qual params body scope dvs kws f fd) (S : FnScope N ps scope) (len : ∀ F ds O, sp F ds O → ds.length = ps.length)
    (hbody : ∀ (cdv : Value) (A : Around) (outer : List Env) (s : Shared) (G : Gx) (E : XK) (ds : List D) (O : Out → Prop), Room k (A.deeper (envOfC qual scope s.heap.objs.size f cdv)) → sp G.F ds O → DlvX K G (fun n d => O (.exc n d)) E →
      ∃ t, PSsd (cxOf (L2.CX P w) P w K mg base N qual scope f cdv A outer s G.H0 E) G body t ∧ t { nx := fun _ => O (.ret .non), rt := fun d => O (.ret d) } (startD N ds)) : FnOk P w K mg base (L2.CX P w) (k + 1) f fd ps (spD K sp) := by
  refine F.ok S (fun vs H Q E ⟨Fs, B, ds, O, _, _, r, h, _⟩ => by rw [r.length]; exact len _ _ _ h) fun cdv A outer s H vs Q E hr ⟨Fs, B, ds, O, he, hf, r, h, q, qx⟩ => ?_
  obtain ⟨t, ht, h1⟩ := hbody cdv A outer s ⟨Fs, B, H⟩ E ds O hr h (fun n d dd v B' H' o m hd rd => qx n d dd v B' H' o m hd rd)
  exact ⟨_, ht, B, startD N ds, _, r.start he hf, h1, ⟨fun σ' B' H' δ' _ s' o => q _ _ B' H' s'.fm o .non, fun v d B' H' m o rd => q v d B' H' m o rd, fun _ _ _ _ _ _ z => z.elim, fun _ _ _ _ _ _ z => z.elim⟩⟩
/-- .. and may be called by its name -/
theorem Cl.mk' {ps : List Str} {k : Nat} {sp : DSp} {mg : Str → Option Value} (F : FunD K x qual params body scope [] kws f fd) (ok : FnOk P w K mg base (L2.CX P w) k f fd ps (spD K sp)) (hm : mg x = some (.ref f)) (hb : Binds K fd ps []) : Cl P w K mg base k x sp [] :=
  ⟨f, fd, ps, [], [], ok, hm, F.kp, hb, .nil, fun _ => .nil⟩
end
end Sd
end
-- SdExc
section
set_option Elab.async false
set_option linter.all false
set_option maxRecDepth 100000
set_option maxHeartbeats 4000000
set_option autoImplicit false
namespace Sd
open PySem PySem.Spec PyProof.Rows L2
open Evl (Ex)

/-! ### chains as tests -/
def dtChain (rd rd' : D → D → (D → Prop) → Prop) (da db dc : DE) : DT := dtV (deChain rd rd' da db dc)
section
variable {X : Cx} {G : Gx} {a b c : Expr} {da db dc : DE} {pos : Pos} {rd rd' : D → D → (D → Prop) → Prop} {r r' : R2}
theorem ptd_chain {op op' : CmpOp} (ho : OpR X (compareOp op) r) (ho' : OpR X (compareOp op') r') (sd : Snd2 X.K G.F r rd) (sd' : Snd2 X.K G.F r' rd') (ha : PEd X G a da) (hb : PEd X G b db) (hc : PEd X G c dc)
    (hm : lastMarks [op, op'] [b, c] = false := by with_unfolding_all rfl) : PTd X G (.Compare a [op, op'] [b, c] pos) (dtChain rd rd' da db dc) :=
  PT.imp (pt_chain ho ho' ha hb hc hm) fun σ H Q ⟨B, δ, P, s, h, q⟩ => by
    have key : teOf X.K G (deChain rd rd' da db dc) σ H (fun x H' => ∃ k, x = .bl k ∧ Q k H') := ⟨B, δ, _, s, h, fun v d B1 H1 m1 ⟨k, e, p⟩ r1 => by
      subst e
      cases r1
      exact ⟨k, rfl, q k B1 H1 m1 p⟩⟩
    obtain ⟨B, δ, P, s, h, q⟩ := key
    exact ⟨B, δ, _, s, h, fun x d B1 H1 m1 p1 r1 => ⟨B1, δ, _, s.mono m1, p1, fun y e B2 H2 m2 p2 r2 => sd x y d e B2 H2 _ _ m2.e m2.f (r1.mono m2.b) r2 p2 fun v z B3 H3 m3 p3 r3 => by
      obtain ⟨k, rfl, p4⟩ := p3
      cases r3
      have m13 := (m1.trans m2).trans m3
      refine ⟨k, rfl, ?_⟩
      cases k with
      | true => exact ⟨B3, δ, _, s.mono m13, p4, fun w f B4 H4 m4 p5 r5 => sd' y w e f B4 H4 P _ m4.e m4.f (r2.mono (m3.b.trans m4.b)) r5 p5 fun v z B' H' m5 p6 r6 => q v z B' H' ((m13.trans m4).trans m5) p6 r6⟩
      | false => exact q _ _ B3 H3 m13 p4 (.bl false)⟩⟩
/-! a comparison as a test -/
theorem ptd_cmp {op : CmpOp} (ho : OpR X (compareOp op) r) (sd : Snd2 X.K G.F r rd) (ha : PEd X G a da) (hb : PEd X G b db) (hm : behindInMarks op b = false) : PTd X G (.Compare a [op] [b] pos) (dtV (de2 rd da db)) :=
  PT.imp (pt_cmpR ho ha hb hm) fun σ H Q ⟨B, δ, P, s, h, q⟩ => te2 sd σ H _ ⟨B, δ, _, s, h, fun x d B1 H1 m1 ⟨k, e, p⟩ r1 => by
    subst e; cases r1
    exact ⟨k, rfl, q k B1 H1 m1 p⟩⟩
theorem ptd_lt (ha : PEd X G a da) (hb : PEd X G b db) : PTd X G (.Compare a [.Lt] [b] pos) (dtV (de2 rdLt da db)) := ptd_cmp op_lt snd_B ha hb (nomark _)
theorem ptd_le (ha : PEd X G a da) (hb : PEd X G b db) : PTd X G (.Compare a [.LtE] [b] pos) (dtV (de2 rdLe da db)) := ptd_cmp op_le snd_B ha hb (nomark _)
theorem ptd_gt (ha : PEd X G a da) (hb : PEd X G b db) : PTd X G (.Compare a [.Gt] [b] pos) (dtV (de2 rdGt da db)) := ptd_cmp op_gt snd_B ha hb (nomark _)
theorem ptd_ge (ha : PEd X G a da) (hb : PEd X G b db) : PTd X G (.Compare a [.GtE] [b] pos) (dtV (de2 rdGe da db)) := ptd_cmp op_ge snd_B ha hb (nomark _)
theorem ptd_eq (hu : X.A.units + 64 < cLine) (ha : PEd X G a da) (hb : PEd X G b db) : PTd X G (.Compare a [.Eq] [b] pos) (dtV (de2 rdEq da db)) :=
  ptd_cmp (op_eqD hu) (fun x y d e B H P Q he hf rx ry ⟨h1, h2, p⟩ q => by
    have p1 := Bool.and_eq_true_iff.mp h1
    have p2 := Bool.and_eq_true_iff.mp h2
    exact ⟨d.py, e.py, dp_ex he (rx.dp p1.1), dp_ex he (ry.dp p2.1), p1.2, p2.2, q _ _ B H (.refl he hf) p (.bl _)⟩) ha hb (nomark _)
theorem ptd_ne (hu : X.A.units + 64 < cLine) (ha : PEd X G a da) (hb : PEd X G b db) : PTd X G (.Compare a [.NotEq] [b] pos) (dtV (de2 rdNe da db)) :=
  ptd_cmp (op_neD hu) (fun x y d e B H P Q he hf rx ry ⟨h1, h2, p⟩ q => by
    have p1 := Bool.and_eq_true_iff.mp h1
    have p2 := Bool.and_eq_true_iff.mp h2
    exact ⟨d.py, e.py, dp_ex he (rx.dp p1.1), dp_ex he (ry.dp p2.1), p1.2, p2.2, q _ _ B H (.refl he hf) p (.bl _)⟩) ha hb (nomark _)
theorem ptd_isN (ha : PEd X G a da) (hb : PEd X G b db) : PTd X G (.Compare a [.Is] [b] pos) (dtV (de2 rdIsN da db)) :=
  ptd_cmp op_isN (fun x y d e B H P Q he hf rx ry ⟨h1, h2, p⟩ q => by
    subst h1; cases ry
    refine ⟨rfl, ?_⟩
    rw [rx.isNon h2]
    exact q _ _ B H (.refl he hf) p (.bl _)) ha hb (nomark _)
theorem ptd_notN (ha : PEd X G a da) (hb : PEd X G b db) : PTd X G (.Compare a [.IsNot] [b] pos) (dtV (de2 rdNotN da db)) :=
  ptd_cmp op_notN (fun x y d e B H P Q he hf rx ry ⟨h1, h2, p⟩ q => by
    subst h1; cases ry
    refine ⟨rfl, ?_⟩
    rw [rx.isNon h2]
    exact q _ _ B H (.refl he hf) p (.bl _)) ha hb (nomark _)
theorem ptd_isB (ha : PEd X G a da) (hb : PEd X G b db) : PTd X G (.Compare a [.Is] [b] pos) (dtV (de2 rdIsB da db)) :=
  ptd_cmp op_isBl (fun x y d e B H P Q he hf rx ry ⟨i, j, h1, h2, p⟩ q => by
    subst h1; subst h2; cases rx; cases ry
    exact ⟨i, j, rfl, rfl, q _ _ B H (.refl he hf) p (.bl _)⟩) ha hb (nomark _)
theorem ptd_notB (ha : PEd X G a da) (hb : PEd X G b db) : PTd X G (.Compare a [.IsNot] [b] pos) (dtV (de2 rdNotB da db)) :=
  ptd_cmp op_notBl (fun x y d e B H P Q he hf rx ry ⟨i, j, h1, h2, p⟩ q => by
    subst h1; subst h2; cases rx; cases ry
    exact ⟨i, j, rfl, rfl, q _ _ B H (.refl he hf) p (.bl _)⟩) ha hb (nomark _)
theorem ptd_lele (ha : PEd X G a da) (hb : PEd X G b db) (hc : PEd X G c dc) (hm : lastMarks [CmpOp.LtE, CmpOp.LtE] [b, c] = false := by with_unfolding_all rfl) : PTd X G (.Compare a [.LtE, .LtE] [b, c] pos) (dtChain rdLe rdLe da db dc) := ptd_chain op_le op_le snd_B snd_B ha hb hc hm
theorem ptd_lelt (ha : PEd X G a da) (hb : PEd X G b db) (hc : PEd X G c dc) (hm : lastMarks [CmpOp.LtE, CmpOp.Lt] [b, c] = false := by with_unfolding_all rfl) : PTd X G (.Compare a [.LtE, .Lt] [b, c] pos) (dtChain rdLe rdLt da db dc) := ptd_chain op_le op_lt snd_B snd_B ha hb hc hm
theorem ptd_ltle (ha : PEd X G a da) (hb : PEd X G b db) (hc : PEd X G c dc) (hm : lastMarks [CmpOp.Lt, CmpOp.LtE] [b, c] = false := by with_unfolding_all rfl) : PTd X G (.Compare a [.Lt, .LtE] [b, c] pos) (dtChain rdLt rdLe da db dc) := ptd_chain op_lt op_le snd_B snd_B ha hb hc hm
end

/-! ### the package's errors: a class over SeatError, whose __init__ keeps the value -/
/-- a look at an error's class -/
def exKB (K : PySem.W.Frag) (C : Addr) : Bool := match K.lookup C with
  | some ⟨.type t, _, .cls cd, sl⟩ => t == "type" && (match cd.mro, sl.toList with
    | .ref C' :: bm, [_, _, _, _, some (.builtin n), _] => C' == C && n == "ValueError.__new__" && cd.hasDict && !cd.hasDel && PySem.HandSPX.refsVE bm
    | _, _ => false)
  | _ => false
theorem exKB_ok {K : PySem.W.Frag} {C : Addr} (q : exKB K C = true) : ∃ nm q N bs bm sn sub ab col dd k0 k1 k2 k3 k5, K.lookup C = some (excClassObj nm q C N bs bm true sn sub ab col dd k0 k1 k2 k3 k5 "ValueError.__new__") ∧ PySem.HandSPX.refsVE bm = true := by
  unfold exKB at q
  split at q
  · rename_i t dd cd sl ho
    have q' := Bool.and_eq_true_iff.mp q
    have ht : t = "type" := by simpa using q'.1
    subst ht
    have q := q'.2
    split at q
    · rename_i C' bm k0 k1 k2 k3 n k5 hm hs
      simp only [Bool.and_eq_true, beq_iff_eq, Bool.not_eq_true'] at q
      obtain ⟨⟨⟨⟨rfl, rfl⟩, hd⟩, hdel⟩, hv⟩ := q
      obtain ⟨nm, bs, mro, ns, qn, hd', sn, sub, ab, col, del⟩ := cd
      dsimp only at hm hdel hd
      subst hm hdel hd
      have hsl : sl = #[k0, k1, k2, k3, some (.builtin "ValueError.__new__"), k5] := by
        obtain ⟨l⟩ := sl
        simp only at hs
        rw [hs]
      subst hsl
      exact ⟨nm, qn, ns, bs, bm, sn, sub, ab, col, dd, k0, k1, k2, k3, k5, ho, hv⟩
    · cases q
  · cases q
/-- what is looked at of an error's class: it is over ValueError, its __init__ is SeatError's, it may be made, raised, caught, read -/
def errB (K : PySem.W.Frag) (n : Str) : Bool :=
  exKB K (He.ga K n) && decide (PySem.W.findIn K (.ref (He.ga K n)) "__setattr__" = some (some (.builtin "object.__setattr__"))) && decide (PySem.W.subIn K (.ref (He.ga K n)) (.type "BaseException") = some true) && decide (PySem.W.typeIn K (.ref (He.ga K n)) = some (.type "type")) &&
  PySem.W.keepIn K (.ref (He.ga K n)) && decide (PySem.W.findIn K (.ref (He.ga K n)) "__init__" = some (some (.ref (He.fAd K ("SeatError", some "__init__"))))) && decide (PySem.W.typeIn K (.ref (He.fAd K ("SeatError", some "__init__"))) = some (.type "function")) &&
  decide (PySem.W.findIn K (.ref (He.ga K n)) "value" = some none) && decide (PySem.W.nsIn K mainGlobals n = some (some (.ref (He.ga K n)))) && xfB K (He.ga K n)
structure ErrF (K : PySem.W.Frag) (n : Str) : Prop where
  oex : OexC K (He.ga K n)
  iC : PySem.W.findIn K (.ref (He.ga K n)) "__init__" = some (some (.ref (He.fAd K ("SeatError", some "__init__"))))
  tI : PySem.W.typeIn K (.ref (He.fAd K ("SeatError", some "__init__"))) = some (.type "function")
  noV : PySem.W.findIn K (.ref (He.ga K n)) "value" = some none
  glo : PySem.W.nsIn K mainGlobals n = some (some (.ref (He.ga K n)))
  xf : XfC K (He.ga K n)
theorem errB_ok {K : PySem.W.Frag} {n : Str} (h : errB K n = true) : ErrF K n := by
  unfold errB at h
  simp only [Bool.and_eq_true, decide_eq_true_eq] at h
  obtain ⟨⟨⟨⟨⟨⟨⟨⟨⟨h1, h2⟩, h3⟩, h4⟩, h5⟩, h6⟩, h7⟩, h8⟩, h9⟩, h10⟩ := h
  exact ⟨⟨exKB_ok h1, h2, h3, h4, h5⟩, h6, h7, h8, h9, xfB_ok h10⟩
/-- self.value = value -/
def spErr (K : PySem.W.Frag) : Sp := fun vs H Q _ => ∃ (a C : Addr) (v : V), vs = [.ref a, v] ∧ OexC K C ∧ PySem.W.findIn K (.ref C) "value" = some none ∧ H a = some (exo a C none) ∧
  ∀ dx, H dx = none → dx ≠ a → Q .non (upd (upd H dx (exd dx [(("value" : Str), v)])) a (exo a C (some dx)))
/-- errors that may be raised -/
structure Er (P : Program) (w : World) (K : PySem.W.Frag) (mg : Str → Option Value) (base : Heap) (k : Nat) (n : Str) : Prop where
  f : ErrF K n
  g : mg n = some (.ref (He.ga K n))
  ex : ∃ (fd : FuncData) (ds : List Value), FnOk P w K mg base (L2.CX P w) k (He.fAd K ("SeatError", some "__init__")) fd ["self", "value"] (spErr K) ∧ Binds K fd ["self", "value"] [] ∧ Binds K fd ["self", "value"] [.none]
def dsRaise (n : Str) (Xc : Str → D → Prop) (da : DA) : DS := fun _ δ => da δ fun ds => ∃ d, ds = [d] ∧ Xc n d
theorem raise_heap {H : Hp} {a C dx : Addr} {v : V} (ha : H a = none) (hx : dx ≠ a) :
    upd (del (upd (upd (upd H a (exo a C none)) dx (exd dx [(("value" : Str), v)])) a (exo a C (some dx))) a) dx (.xd [(("value" : Str), v)]) = upd H dx (.xd [(("value" : Str), v)]) := by
  funext b
  by_cases hb : b = dx
  · subst hb
    rw [upd_same, upd_same]
  · rw [upd_ne hb, upd_ne hb]
    by_cases hb2 : b = a
    · subst hb2
      rw [del_same, ha]
    · rw [del_ne hb2, upd_ne hb2, upd_ne hb, upd_ne hb2]
section
variable {X : Cx} {G : Gx} {k j : Nat} {n : Str} {e : Expr} {da : DA} {p pos pos2 : Pos} {Xc : Str → D → Prop} {E : XK}
theorem psd_raise (x : Er X.prog X.w X.K X.mg X.base k n) (hr : Room j X.A) (hE : DlvX X.K G Xc E) (tk : Takes X (fun cls d _ H => E cls d H)) (ha : PAd X G [e] da) (hk : k + 1 ≤ j := by decide) (hc : X.calm = true := by rfl) (hg : Gl X n := by rfl) (hdb : (n == ("__debug__" : Str)) = false := by decide)
    (he : starEach [e] X.env = (false, eval e X.env) :: starEach [] X.env := by rfl) (hpl : (backTo pos (starEach [] X.env)).any (·.1) = false := by rfl) : PSd X G (.Raise (some (.Call (.Name n p) [e] [] pos)) none pos2) (dsRaise n Xc da) := by
  obtain ⟨fd, ds, FI, bI, _⟩ := x.ex
  exact PS.imp (ps_raise hc tk (pmk_oex x.f.oex x.f.iC x.f.tI FI (hr.mono hk) bI .nil passL hg x.g ha hdb he hpl)) fun D σ H ⟨B, δ, DD, s, h, q⟩ => ⟨B, δ, _, s, h, fun vs ds B1 H1 m1 ⟨d, ed, p1⟩ r1 => by
    subst ed
    cases r1 with
    | cons rv rn =>
      cases rn
      rename_i v
      refine ⟨by show 1 ≤ 1000; decide, fun a ha => ⟨a, He.ga X.K n, v, rfl, x.f.oex, x.f.noV, upd_same, fun dx hdx hne => ⟨rfl, dx, [(("value" : Str), v)], upd_same, by rw [upd_ne hne, upd_same], ?_, ?_⟩⟩⟩
      · rw [upd_ne hne] at hdx
        exact hdx
      · rw [upd_ne hne] at hdx
        rw [raise_heap ha hne]
        have m2 := Fm.new (o := .xd [(("value" : Str), v)]) m1.e m1.f hdx
        exact hE n d dx v _ _ p1 ((s.fm.trans m1).trans m2) upd_same (rv.mono m2.b)⟩
end
end Sd
end
-- SdLib
section
set_option Elab.async false
set_option linter.all false
set_option maxRecDepth 100000
set_option maxHeartbeats 4000000
set_option autoImplicit false
namespace Sd
open PySem PySem.Spec PyProof.Rows L2

/-! ### loops and comprehensions, by what they do -/
theorem for_of {di : DI} {g : DG} {t : DS} {D : DEnds} {δ : List Sl} (xs : List Sd.D) (J : Nat → List Sl → Prop) (h : ∀ P : List Sd.D → Prop, P xs → di δ P) (h0 : J 0 δ)
    (hs : ∀ i x δ', xs[i]? = some x → J i δ' → g x δ' fun δ2 => t { D with nx := J (i + 1), ct := J (i + 1), bk := D.nx } δ2) (hd : ∀ δ', J xs.length δ' → D.nx δ') : dsFor di g t D δ := h _ ⟨J, h0, hs, hd⟩
theorem while_of {c : DT} {t : DS} {D : DEnds} {δ : List Sl} (J : Nat → List Sl → Prop) (m : Nat) (h0 : J m δ)
    (hs : ∀ m δ', J m δ' → c δ' fun b => if b = true then t { D with nx := fun δ2 => ∃ m', m' < m ∧ J m' δ2, ct := fun δ2 => ∃ m', m' < m ∧ J m' δ2, bk := D.nx } δ' else D.nx δ') : dsWhile c t D δ := ⟨J, ⟨m, h0⟩, hs⟩
section
variable {di : DI} {g : DG} {tt : DT} {te : DE} {own : List Nat} {δ : List Sl} {P : List D → Prop}
theorem lc_inv (xs : List D) (J : Nat → List D → Prop) (h : ∀ P : List D → Prop, P xs → di δ P) (hl : xs.length ≤ 100000) (h0 : J 0 [])
    (hs : ∀ i x acc, xs[i]? = some x → J i acc → acc.length ≤ i → g x (wipeD δ own) fun δ2 => tt δ2 fun b => if b = true then te δ2 fun y => J (i + 1) (acc ++ [y]) else J (i + 1) acc) (hd : ∀ acc, J xs.length acc → P acc) : dxLc di g tt te own δ P := h _ ⟨hl, J, h0, hs, hd⟩
theorem take_snoc {α : Type} {l : List α} {i : Nat} {x : α} (h : l[i]? = some x) : l.take (i + 1) = l.take i ++ [x] := by
  rw [List.take_succ, h]
  rfl
theorem lc_filter (xs : List D) (f : D → D) (p : D → Bool) (h : ∀ P : List D → Prop, P xs → di δ P) (hl : xs.length ≤ 100000)
    (hs : ∀ x ∈ xs, ∀ (R1 : D → Prop) (R2 : Prop), (p x = true → R1 (f x)) → (p x = false → R2) → g x (wipeD δ own) fun δ2 => tt δ2 fun b => if b = true then te δ2 R1 else R2) (hp : P ((xs.filter p).map f)) : dxLc di g tt te own δ P := by
  refine lc_inv xs (fun i acc => acc = ((xs.take i).filter p).map f) h hl (by simp) (fun i x acc hx hj _ => ?_) (fun acc hj => ?_)
  · have hm : x ∈ xs := List.mem_of_getElem? hx
    refine hs x hm _ _ (fun hpx => ?_) (fun hpx => ?_)
    · rw [hj, take_snoc hx, List.filter_append, List.map_append]
      simp [hpx]
    · rw [hj, take_snoc hx, List.filter_append, List.map_append]
      simp [hpx]
  · rw [List.take_length] at hj
    rw [hj]
    exact hp
theorem lc_map (xs : List D) (f : D → D) (h : ∀ P : List D → Prop, P xs → di δ P) (hl : xs.length ≤ 100000)
    (hs : ∀ x ∈ xs, ∀ R : D → Prop, R (f x) → g x (wipeD δ own) fun δ2 => te δ2 R) (hp : P (xs.map f)) : dxLc di g dtYes te own δ P := by
  refine lc_inv xs (fun i acc => acc = (xs.take i).map f) h hl (by simp) (fun i x acc hx hj _ => ?_) (fun acc hj => ?_)
  · refine hs x (List.mem_of_getElem? hx) _ ?_
    rw [hj, take_snoc hx, List.map_append]
    rfl
  · rw [List.take_length] at hj
    rw [hj]
    exact hp
theorem lc_any (xs : List D) (A : D → Prop) (h : ∀ P : List D → Prop, P xs → di δ P) (hl : xs.length ≤ 100000)
    (hs : ∀ x ∈ xs, ∀ R : D → Prop, (∀ y, A y → R y) → g x (wipeD δ own) fun δ2 => te δ2 R) (hp : ∀ ys, ys.length = xs.length → (∀ y ∈ ys, A y) → P ys) : dxLc di g dtYes te own δ P := by
  refine lc_inv xs (fun i acc => acc.length = i ∧ ∀ y ∈ acc, A y) h hl ⟨rfl, by simp⟩ (fun i x acc hx ⟨h1, h2⟩ _ => ?_) (fun acc ⟨h1, h2⟩ => hp acc h1 h2)
  refine hs x (List.mem_of_getElem? hx) _ fun y hy => ?_
  refine ⟨by rw [List.length_append, h1]; rfl, fun z hz => ?_⟩
  rcases List.mem_append.mp hz with q | q
  · exact h2 z q
  · rw [List.mem_singleton.mp q]
    exact hy
end

/-! typed lists -/
theorem zipD_map {α β : Type} (dx : α → D) (dy : β → D) : ∀ (xs : List α) (ys : List β), zipD (xs.map dx) (ys.map dy) = (xs.zip ys).map fun p => .tup [dx p.1, dy p.2]
  | [], ys => by simp [zipD]
  | _ :: _, [] => by simp [zipD]
  | x :: xs, y :: ys => by simp [zipD, zipD_map dx dy xs ys]
theorem enumD_map {α : Type} (dx : α → D) : ∀ (xs : List α) (k : Nat), enumD (k : Int) (xs.map dx) = (xs.zipIdx k).map fun p => .tup [.int (p.2 : Int), dx p.1]
  | [], k => by simp [enumD]
  | x :: xs, k => by
    have ih := enumD_map dx xs (k + 1)
    rw [Int.natCast_add] at ih
    simp only [List.map_cons, enumD, List.zipIdx_cons]
    exact congrArg _ ih
theorem enumD_map0 {α : Type} (dx : α → D) (xs : List α) : enumD 0 (xs.map dx) = xs.zipIdx.map fun p => .tup [.int (p.2 : Int), dx p.1] := enumD_map dx xs 0
theorem enumD_id (xs : List D) : enumD 0 xs = xs.zipIdx.map fun p => .tup [.int (p.2 : Int), p.1] := by
  have := enumD_map0 id xs
  rw [List.map_id] at this
  exact this
theorem rngD_eq (n : Nat) (lo : Int) : rngD lo n = (List.range n).map fun i => .int (lo + (i : Int)) := by
  apply List.ext_getElem?
  intro k
  by_cases h : k < n
  · rw [rngD_at n lo k h]
    simp [h]
  · rw [List.getElem?_eq_none (by rw [rngD_length]; omega), List.getElem?_eq_none (by simp; omega)]
theorem rngD_0 (n : Nat) : rngD 0 n = (List.range n).map fun i => .int (i : Int) := by
  rw [rngD_eq]
  simp
theorem map_idD (xs : List D) : xs = xs.map id := by simp
theorem for_on {α : Type} {di : DI} {g : DG} {t : DS} {D : DEnds} {δ : List Sl} (xs : List α) (dx : α → Sd.D) (J : Nat → List Sl → Prop) (h : ∀ P : List Sd.D → Prop, P (xs.map dx) → di δ P) (h0 : J 0 δ)
    (hs : ∀ i x δ', xs[i]? = some x → J i δ' → g (dx x) δ' fun δ2 => t { D with nx := J (i + 1), ct := J (i + 1), bk := D.nx } δ2) (hd : ∀ δ', J xs.length δ' → D.nx δ') : dsFor di g t D δ := by
  refine for_of (xs.map dx) J h h0 (fun i x δ' hx hj => ?_) (fun δ' hj => hd δ' (by rwa [List.length_map] at hj))
  rw [List.getElem?_map, Option.map_eq_some_iff] at hx
  obtain ⟨y, hy, rfl⟩ := hx
  exact hs i y δ' hy hj
section
variable {α : Type} {di : DI} {g : DG} {tt : DT} {te : DE} {own : List Nat} {δ : List Sl} {P : List D → Prop}
theorem lc_on (xs : List α) (dx : α → D) (f : α → D) (h : ∀ P : List D → Prop, P (xs.map dx) → di δ P) (hl : xs.length ≤ 100000)
    (hs : ∀ x ∈ xs, ∀ R : D → Prop, R (f x) → g (dx x) (wipeD δ own) fun δ2 => te δ2 R) (hp : P (xs.map f)) : dxLc di g dtYes te own δ P := by
  refine lc_inv (xs.map dx) (fun i acc => acc = (xs.take i).map f) h (by rwa [List.length_map]) (by simp) (fun i x acc hx hj _ => ?_) (fun acc hj => ?_)
  · rw [List.getElem?_map, Option.map_eq_some_iff] at hx
    obtain ⟨y, hy, rfl⟩ := hx
    refine hs y (List.mem_of_getElem? hy) _ ?_
    rw [hj, take_snoc hy, List.map_append]
    rfl
  · rw [List.length_map, List.take_length] at hj
    rw [hj]
    exact hp
theorem lc_onF (xs : List α) (dx : α → D) (f : α → D) (p : α → Bool) (h : ∀ P : List D → Prop, P (xs.map dx) → di δ P) (hl : xs.length ≤ 100000)
    (hs : ∀ x ∈ xs, ∀ (R1 : D → Prop) (R2 : Prop), (p x = true → R1 (f x)) → (p x = false → R2) → g (dx x) (wipeD δ own) fun δ2 => tt δ2 fun b => if b = true then te δ2 R1 else R2) (hp : P ((xs.filter p).map f)) : dxLc di g tt te own δ P := by
  refine lc_inv (xs.map dx) (fun i acc => acc = ((xs.take i).filter p).map f) h (by rwa [List.length_map]) (by simp) (fun i x acc hx hj _ => ?_) (fun acc hj => ?_)
  · rw [List.getElem?_map, Option.map_eq_some_iff] at hx
    obtain ⟨y, hy, rfl⟩ := hx
    refine hs y (List.mem_of_getElem? hy) _ _ (fun hpx => ?_) (fun hpx => ?_)
    · rw [hj, take_snoc hy, List.filter_append, List.map_append]
      simp [hpx]
    · rw [hj, take_snoc hy, List.filter_append, List.map_append]
      simp [hpx]
  · rw [List.length_map, List.take_length] at hj
    rw [hj]
    exact hp
/-- values that are not known, but kept by a property -/
theorem lc_onA {β : Type} (xs : List α) (dx : α → D) (db : β → D) (A : α → β → Prop) (h : ∀ P : List D → Prop, P (xs.map dx) → di δ P) (hl : xs.length ≤ 100000)
    (hs : ∀ x ∈ xs, ∀ R : D → Prop, (∀ y, A x y → R (db y)) → g (dx x) (wipeD δ own) fun δ2 => te δ2 R) (hp : ∀ ys : List β, ys.length = xs.length → (∀ (i : Nat) (x : α) (y : β), xs[i]? = some x → ys[i]? = some y → A x y) → P (ys.map db)) : dxLc di g dtYes te own δ P := by
  refine lc_inv (xs.map dx) (fun i acc => ∃ ys : List β, acc = ys.map db ∧ ys.length = i ∧ ∀ (j : Nat) (x : α) (y : β), xs[j]? = some x → ys[j]? = some y → A x y) h (by rwa [List.length_map]) ⟨[], rfl, rfl, by simp⟩ (fun i x acc hx hj _ => ?_) (fun acc hj => ?_)
  · rw [List.getElem?_map, Option.map_eq_some_iff] at hx
    obtain ⟨z, hz, rfl⟩ := hx
    obtain ⟨ys, rfl, hy, ha⟩ := hj
    refine hs z (List.mem_of_getElem? hz) _ fun y hxy => ⟨ys ++ [y], by simp, by simp [hy], fun j x' y' h1 h2 => ?_⟩
    rw [List.getElem?_append] at h2
    split at h2
    · exact ha j x' y' h1 h2
    · rename_i hj
      have hj' : j = i := by
        have := (List.getElem?_eq_some_iff.mp h2).1
        simp at this
        omega
      subst hj'
      rw [h1] at hz
      cases hz
      rw [hy, Nat.sub_self] at h2
      cases h2
      exact hxy
  · obtain ⟨ys, rfl, hy, ha⟩ := hj
    exact hp ys (by rw [hy, List.length_map]) ha
end

theorem cut_map {α β : Type} (f : α → β) (xs : List α) (lo hi : Option Int) : cut (xs.map f) lo hi = (cut xs lo hi).map f := by
  unfold cut
  rw [List.length_map, List.map_take, List.map_drop]
/-! the same, where the iteration is already read -/
def lcB (xs : List D) (g : DG) (tt : DT) (te : DE) (own : List Nat) (δ : List Sl) (P : List D → Prop) : Prop := xs.length ≤ 100000 ∧ ∃ J : Nat → List D → Prop, J 0 [] ∧
  (∀ i x acc, xs[i]? = some x → J i acc → acc.length ≤ i → g x (wipeD δ own) fun δ2 => tt δ2 fun b => if b = true then te δ2 fun y => J (i + 1) (acc ++ [y]) else J (i + 1) acc) ∧ ∀ acc, J xs.length acc → P acc
theorem dxLc_eq (di : DI) (g : DG) (tt : DT) (te : DE) (own : List Nat) (δ : List Sl) (P : List D → Prop) : dxLc di g tt te own δ P = di δ fun xs => lcB xs g tt te own δ P := rfl
def fbB (xs : List D) (g : DG) (t : DS) (D : DEnds) (δ : List Sl) : Prop := ∃ J : Nat → List Sl → Prop, J 0 δ ∧
  (∀ i x δ', xs[i]? = some x → J i δ' → g x δ' fun δ2 => t { D with nx := J (i + 1), ct := J (i + 1), bk := D.nx } δ2) ∧ ∀ δ', J xs.length δ' → D.nx δ'
theorem dsFor_eq (di : DI) (g : DG) (t : DS) (D : DEnds) (δ : List Sl) : dsFor di g t D δ = di δ fun xs => fbB xs g t D δ := rfl
theorem dsWhile_eq (c : DT) (t : DS) (D : DEnds) (δ : List Sl) : dsWhile c t D δ = (∃ J : Nat → List Sl → Prop, (∃ m, J m δ) ∧ ∀ m δ', J m δ' →
  c δ' fun b => if b = true then t { D with nx := fun δ2 => ∃ m', m' < m ∧ J m' δ2, ct := fun δ2 => ∃ m', m' < m ∧ J m' δ2, bk := D.nx } δ' else D.nx δ') := rfl
theorem fb_on {α : Type} {g : DG} {t : DS} {D : DEnds} {δ : List Sl} {dx : α → Sd.D} (xs : List α) (J : Nat → List Sl → Prop) (h0 : J 0 δ)
    (hs : ∀ i x δ', xs[i]? = some x → J i δ' → g (dx x) δ' fun δ2 => t { D with nx := J (i + 1), ct := J (i + 1), bk := D.nx } δ2) (hd : ∀ δ', J xs.length δ' → D.nx δ') : fbB (xs.map dx) g t D δ :=
  for_on (di := fun _ P => P (xs.map dx)) xs dx J (fun _ p => p) h0 hs hd
section
variable {α : Type} {g : DG} {tt : DT} {te : DE} {own : List Nat} {δ : List Sl} {P : List D → Prop} {dx : α → D}
theorem lb_inv (xs : List α) (J : Nat → List D → Prop) (hl : xs.length ≤ 100000) (h0 : J 0 [])
    (hs : ∀ i x acc, xs[i]? = some x → J i acc → acc.length ≤ i → g (dx x) (wipeD δ own) fun δ2 => tt δ2 fun b => if b = true then te δ2 fun y => J (i + 1) (acc ++ [y]) else J (i + 1) acc) (hd : ∀ acc, J xs.length acc → P acc) : lcB (xs.map dx) g tt te own δ P := by
  refine ⟨by rwa [List.length_map], J, h0, fun i x acc hx hj hl => ?_, fun acc hj => hd acc (by rwa [List.length_map] at hj)⟩
  rw [List.getElem?_map, Option.map_eq_some_iff] at hx
  obtain ⟨y, hy, rfl⟩ := hx
  exact hs i y acc hy hj hl
theorem lb_on (xs : List α) (f : α → D) (hl : xs.length ≤ 100000)
    (hs : ∀ x ∈ xs, ∀ R : D → Prop, R (f x) → g (dx x) (wipeD δ own) fun δ2 => te δ2 R) (hp : P (xs.map f)) : lcB (xs.map dx) g dtYes te own δ P := lc_on (di := fun _ P => P (xs.map dx)) xs dx f (fun _ p => p) hl hs hp
theorem lb_onF (xs : List α) (f : α → D) (p : α → Bool) (hl : xs.length ≤ 100000)
    (hs : ∀ x ∈ xs, ∀ (R1 : D → Prop) (R2 : Prop), (p x = true → R1 (f x)) → (p x = false → R2) → g (dx x) (wipeD δ own) fun δ2 => tt δ2 fun b => if b = true then te δ2 R1 else R2) (hp : P ((xs.filter p).map f)) : lcB (xs.map dx) g tt te own δ P := lc_onF (di := fun _ P => P (xs.map dx)) xs dx f p (fun _ p => p) hl hs hp
theorem lb_onA {β : Type} (xs : List α) (db : β → D) (A : α → β → Prop) (hl : xs.length ≤ 100000)
    (hs : ∀ x ∈ xs, ∀ R : D → Prop, (∀ y, A x y → R (db y)) → g (dx x) (wipeD δ own) fun δ2 => te δ2 R) (hp : ∀ ys : List β, ys.length = xs.length → (∀ (i : Nat) (x : α) (y : β), xs[i]? = some x → ys[i]? = some y → A x y) → P (ys.map db)) : lcB (xs.map dx) g dtYes te own δ P := lc_onA (di := fun _ P => P (xs.map dx)) xs dx db A (fun _ p => p) hl hs hp
end
theorem ix_of {d : D} {xs : List D} (h : d.seq = some xs) (i : Int) : d.ix (.int i) = L2.atI xs i := by
  cases d <;> cases h <;> rfl
theorem range_at {n k x : Nat} (h : (List.range n)[k]? = some x) : k < n ∧ x = k := by
  obtain ⟨h1, h2⟩ := List.getElem?_eq_some_iff.mp h
  simp at h1 h2
  exact ⟨h1, h2.symm⟩
/-! ### looks at data -/
theorem qty_non  : D.non.ty.isSome = true := rfl
theorem qisI_non  : D.non.isI = false := rfl
theorem qisB_non  : D.non.isB = false := rfl
theorem qisL_non  : D.non.isL = false := rfl
theorem qisU_non  : D.non.isU = false := rfl
theorem qisS_non  : D.non.isS = false := rfl
theorem qisD_non  : D.non.isD = false := rfl
theorem qisNon_non  : D.non.isNon = true := rfl
theorem qcooked_non  : D.non.cooked = true := rfl
theorem qseq_non  : D.non.seq = none := rfl
theorem qty_bl (b : Bool) : (D.bl b).ty.isSome = true := rfl
theorem qisI_bl (b : Bool) : (D.bl b).isI = true := rfl
theorem qisB_bl (b : Bool) : (D.bl b).isB = true := rfl
theorem qisL_bl (b : Bool) : (D.bl b).isL = false := rfl
theorem qisU_bl (b : Bool) : (D.bl b).isU = false := rfl
theorem qisS_bl (b : Bool) : (D.bl b).isS = false := rfl
theorem qisD_bl (b : Bool) : (D.bl b).isD = false := rfl
theorem qisNon_bl (b : Bool) : (D.bl b).isNon = false := rfl
theorem qcooked_bl (b : Bool) : (D.bl b).cooked = true := rfl
theorem qseq_bl (b : Bool) : (D.bl b).seq = none := rfl
theorem qty_int (i : Int) : (D.int i).ty.isSome = true := rfl
theorem qisI_int (i : Int) : (D.int i).isI = true := rfl
theorem qisB_int (i : Int) : (D.int i).isB = false := rfl
theorem qisL_int (i : Int) : (D.int i).isL = false := rfl
theorem qisU_int (i : Int) : (D.int i).isU = false := rfl
theorem qisS_int (i : Int) : (D.int i).isS = false := rfl
theorem qisD_int (i : Int) : (D.int i).isD = false := rfl
theorem qisNon_int (i : Int) : (D.int i).isNon = false := rfl
theorem qcooked_int (i : Int) : (D.int i).cooked = true := rfl
theorem qseq_int (i : Int) : (D.int i).seq = none := rfl
theorem qty_str (z : Str) : (D.str z).ty.isSome = true := rfl
theorem qisI_str (z : Str) : (D.str z).isI = false := rfl
theorem qisB_str (z : Str) : (D.str z).isB = false := rfl
theorem qisL_str (z : Str) : (D.str z).isL = false := rfl
theorem qisU_str (z : Str) : (D.str z).isU = false := rfl
theorem qisS_str (z : Str) : (D.str z).isS = true := rfl
theorem qisD_str (z : Str) : (D.str z).isD = false := rfl
theorem qisNon_str (z : Str) : (D.str z).isNon = false := rfl
theorem qcooked_str (z : Str) : (D.str z).cooked = true := rfl
theorem qseq_str (z : Str) : (D.str z).seq = none := rfl
theorem qty_lst (xs : List D) : (D.lst xs).ty.isSome = true := rfl
theorem qisI_lst (xs : List D) : (D.lst xs).isI = false := rfl
theorem qisB_lst (xs : List D) : (D.lst xs).isB = false := rfl
theorem qisL_lst (xs : List D) : (D.lst xs).isL = true := rfl
theorem qisU_lst (xs : List D) : (D.lst xs).isU = false := rfl
theorem qisS_lst (xs : List D) : (D.lst xs).isS = false := rfl
theorem qisD_lst (xs : List D) : (D.lst xs).isD = false := rfl
theorem qisNon_lst (xs : List D) : (D.lst xs).isNon = false := rfl
theorem qcooked_lst (xs : List D) : (D.lst xs).cooked = true := rfl
theorem qseq_lst (xs : List D) : (D.lst xs).seq = some xs := rfl
theorem qty_tup (xs : List D) : (D.tup xs).ty.isSome = true := rfl
theorem qisI_tup (xs : List D) : (D.tup xs).isI = false := rfl
theorem qisB_tup (xs : List D) : (D.tup xs).isB = false := rfl
theorem qisL_tup (xs : List D) : (D.tup xs).isL = false := rfl
theorem qisU_tup (xs : List D) : (D.tup xs).isU = true := rfl
theorem qisS_tup (xs : List D) : (D.tup xs).isS = false := rfl
theorem qisD_tup (xs : List D) : (D.tup xs).isD = false := rfl
theorem qisNon_tup (xs : List D) : (D.tup xs).isNon = false := rfl
theorem qcooked_tup (xs : List D) : (D.tup xs).cooked = true := rfl
theorem qseq_tup (xs : List D) : (D.tup xs).seq = some xs := rfl
theorem qty_dct  : D.dct.ty.isSome = true := rfl
theorem qisI_dct  : D.dct.isI = false := rfl
theorem qisB_dct  : D.dct.isB = false := rfl
theorem qisL_dct  : D.dct.isL = false := rfl
theorem qisU_dct  : D.dct.isU = false := rfl
theorem qisS_dct  : D.dct.isS = false := rfl
theorem qisD_dct  : D.dct.isD = true := rfl
theorem qisNon_dct  : D.dct.isNon = false := rfl
theorem qcooked_dct  : D.dct.cooked = true := rfl
theorem qseq_dct  : D.dct.seq = none := rfl
theorem qix_lst (xs : List D) (i : Int) : (D.lst xs).ix (.int i) = L2.atI xs i := rfl
theorem qsl_lst (xs : List D) (lo hi : Option Int) : (D.lst xs).sl lo hi = some (.lst (cut xs lo hi)) := rfl
theorem qix_tup (xs : List D) (i : Int) : (D.tup xs).ix (.int i) = L2.atI xs i := rfl
theorem qsl_tup (xs : List D) (lo hi : Option Int) : (D.tup xs).sl lo hi = some (.tup (cut xs lo hi)) := rfl
theorem qisNon_ln (xs : List D) : (D.ln xs).isNon = false := rfl
theorem qcooked_ln (xs : List D) : (D.ln xs).cooked = true := rfl
/-! ### plain values under == -/
theorem eqOk_int (i : Int) : (D.int i).eqOk = true := rfl
theorem eqOk_bl (i : Bool) : (D.bl i).eqOk = true := rfl
theorem eqOk_non : D.non.eqOk = true := rfl
theorem eqv_int (i j : Int) : (D.int i).eqv (.int j) = decide (i = j) := rfl
theorem eqv_bl (i j : Bool) : (D.bl i).eqv (.bl j) = decide (i = j) := by cases i <;> cases j <;> rfl
theorem eqv_non : D.non.eqv .non = true := rfl
/-- an index that is written or known to be within -/
theorem atI_nat' {α : Type} (xs : List α) (j : Nat) : L2.atI xs (j : Int) = xs[j]? := by
  unfold L2.atI ixN
  by_cases h : j < xs.length
  · rw [if_pos (by omega), if_pos (by omega)]
    simp
  · rw [if_pos (by omega), if_neg (by omega)]
    simp [List.getElem?_eq_none (Nat.le_of_not_lt h)]
theorem atI_0 {α : Type} (xs : List α) : L2.atI xs 0 = xs[0]? := atI_nat' xs 0
theorem atI_1 {α : Type} (xs : List α) : L2.atI xs 1 = xs[1]? := atI_nat' xs 1
theorem atI_2 {α : Type} (xs : List α) : L2.atI xs 2 = xs[2]? := atI_nat' xs 2
theorem atI_3 {α : Type} (xs : List α) : L2.atI xs 3 = xs[3]? := atI_nat' xs 3
theorem atI_pos {α : Type} {xs : List α} {i : Int} (h : 0 ≤ i) : L2.atI xs i = xs[i.toNat]? := by
  obtain ⟨n, rfl⟩ := Int.eq_ofNat_of_zero_le h
  exact atI_nat' xs n

/-! ### data of a bounded depth -/
def D.fit : Nat → D → Bool
  | _, .non => true
  | _, .bl _ => true
  | _, .int _ => true
  | _, .str s => PyData.strOk s
  | n + 1, .lst xs => xs.all (D.fit n)
  | n + 1, .tup xs => xs.all (D.fit n)
  | _, _ => false
theorem fit_py : ∀ (n : Nat) (d : D), d.fit n = true → d.plain = true ∧ d.py.canLay0 = true ∧ d.py.depth ≤ n := by
  intro n
  induction n with
  | zero =>
    intro d h
    cases d <;> first | (simp [D.fit] at h; done) | exact ⟨rfl, rfl, Nat.le_refl _⟩ | skip
    rename_i z
    refine ⟨rfl, ?_, Nat.le_refl _⟩
    simpa [D.fit, D.py, PyData.canLay0] using h
  | succ n ih =>
    have all : ∀ xs : List D, (∀ x ∈ xs, x.fit n = true) → D.plainA xs = true ∧ PyData.canLayAll0 (D.pyA xs) = true ∧ PyData.depthAll (D.pyA xs) ≤ n := by
      intro xs
      induction xs with
      | nil => exact fun _ => ⟨rfl, rfl, Nat.zero_le _⟩
      | cons x xs ihx =>
        intro h
        obtain ⟨h1, h2, h3⟩ := ih x (h x (by simp))
        obtain ⟨g1, g2, g3⟩ := ihx fun y hy => h y (by simp [hy])
        refine ⟨by rw [D.plainA, h1, g1]; rfl, by rw [D.pyA, PyData.canLayAll0, h2, g2]; rfl, ?_⟩
        rw [D.pyA, PyData.depthAll]
        exact Nat.max_le.mpr ⟨h3, g3⟩
    intro d h
    cases d with
    | non => exact ⟨rfl, rfl, Nat.zero_le _⟩
    | bl b => exact ⟨rfl, rfl, Nat.zero_le _⟩
    | int i => exact ⟨rfl, rfl, Nat.zero_le _⟩
    | str z => exact ⟨rfl, by simpa [D.fit, D.py, PyData.canLay0] using h, Nat.zero_le _⟩
    | lst xs =>
      obtain ⟨h1, h2, h3⟩ := all xs (by simpa [D.fit] using h)
      exact ⟨by simpa [D.plain] using h1, by simpa [D.py, PyData.canLay0] using h2, by simpa [D.py, PyData.depth] using h3⟩
    | tup xs =>
      obtain ⟨h1, h2, h3⟩ := all xs (by simpa [D.fit] using h)
      exact ⟨by simpa [D.plain] using h1, by simpa [D.py, PyData.canLay0] using h2, by simpa [D.py, PyData.depth] using h3⟩
    | raw v => simp [D.fit] at h
    | dct => simp [D.fit] at h
    | ln xs => simp [D.fit] at h
theorem eqOk_fit {n : Nat} {d : D} (h : d.fit n = true) (hn : n ≤ 64 := by decide) : d.eqOk = true := by
  obtain ⟨h1, h2, h3⟩ := fit_py n d h
  unfold D.eqOk SeqAt.shaped
  rw [h1, h2]
  simp
  omega
theorem fit_mem {n : Nat} {d : D} {xs : List D} (h : d.fit (n + 1) = true) (hs : d.seq = some xs) : ∀ x ∈ xs, x.fit n = true := by
  cases d <;> cases hs <;> simpa [D.fit] using h
theorem fit_lst {n : Nat} {xs : List D} : (D.lst xs).fit (n + 1) = xs.all (D.fit n) := by simp [D.fit]
theorem fit_tup {n : Nat} {xs : List D} : (D.tup xs).fit (n + 1) = xs.all (D.fit n) := by simp [D.fit]
theorem fit_int {n : Nat} {i : Int} : (D.int i).fit n = true := by cases n <;> rfl
theorem fit_bl {n : Nat} {i : Bool} : (D.bl i).fit n = true := by cases n <;> rfl
theorem fit_non {n : Nat} : D.non.fit n = true := by cases n <;> rfl
theorem fit_ints {n : Nat} (ns : List Int) : (ns.map D.int).all (D.fit n) = true := by simp [fit_int]
theorem eqOk_ints (ns : List Int) : (D.lst (ns.map D.int)).eqOk = true := eqOk_fit (n := 1) (by rw [fit_lst, fit_ints])
theorem eqOk_tints (ns : List Int) : (D.tup (ns.map D.int)).eqOk = true := eqOk_fit (n := 1) (by rw [fit_tup, fit_ints])
theorem eqOk_lst0 : (D.lst []).eqOk = true := rfl
theorem eqv_lst0 (xs : List D) : (D.lst xs).eqv (.lst []) = xs.isEmpty := by cases xs <;> simp [D.eqv, D.py, D.pyA, PyData.eqv, PyData.eqvAll]
theorem eqvAll_ints : ∀ a b : List Int, PyData.eqvAll (D.pyA (a.map D.int)) (D.pyA (b.map D.int)) = decide (a = b)
  | [], [] => by simp [D.pyA, PyData.eqvAll]
  | [], _ :: _ => by simp [D.pyA, PyData.eqvAll]
  | _ :: _, [] => by simp [D.pyA, PyData.eqvAll]
  | x :: a, y :: b => by
    simp only [List.map_cons, D.pyA, PyData.eqvAll, eqvAll_ints a b, D.py, PyData.eqv]
    by_cases h : x = y <;> by_cases h2 : a = b <;> simp [h, h2]
theorem eqv_ints (a b : List Int) : (D.lst (a.map D.int)).eqv (.lst (b.map D.int)) = decide (a = b) := by
  unfold D.eqv
  rw [D.py, D.py, PyData.eqv]
  exact eqvAll_ints a b
theorem eqv_tints (a b : List Int) : (D.tup (a.map D.int)).eqv (.tup (b.map D.int)) = decide (a = b) := by
  unfold D.eqv
  rw [D.py, D.py, PyData.eqv]
  exact eqvAll_ints a b

/-! ### data without raw values -/
mutual
def D.okv : D → Bool
  | .raw _ => false
  | .ln _ => false
  | .lst xs => D.okvA xs
  | .tup xs => D.okvA xs
  | _ => true
def D.okvA : List D → Bool
  | [] => true
  | d :: ds => D.okv d && D.okvA ds
end
theorem no_raw {v : V} : ¬ (D.raw v).ty.isSome = true := fun h => nomatch h
theorem no_ln {xs : List D} : ¬ (D.ln xs).ty.isSome = true := fun h => nomatch h
theorem okv_ty {d : D} (h : d.okv = true) : d.ty.isSome = true := by cases d <;> first | rfl | cases h
theorem okvA_mem {ds : List D} (h : D.okvA ds = true) : ∀ d ∈ ds, d.okv = true := by
  induction ds with
  | nil => intro d hd; cases hd
  | cons x xs ih =>
    rw [D.okvA, Bool.and_eq_true] at h
    intro d hd
    rcases List.mem_cons.mp hd with rfl | hd
    · exact h.1
    · exact ih h.2 d hd
theorem okv_seq {d : D} {xs : List D} (h : d.okv = true) (hs : d.seq = some xs) : ∀ x ∈ xs, x.okv = true := by
  cases d <;> cases hs
  · exact okvA_mem h
  · exact okvA_mem h
theorem okvA_of {ds : List D} (h : ∀ d ∈ ds, d.okv = true) : D.okvA ds = true := by
  induction ds with
  | nil => rfl
  | cons x xs ih => rw [D.okvA, h x (by simp), ih fun d hd => h d (by simp [hd])]; rfl
theorem okvA_ints (ns : List Int) : D.okvA (ns.map D.int) = true := okvA_of fun d hd => by
  obtain ⟨n, _, rfl⟩ := List.mem_map.mp hd
  rfl
theorem seq_isSome (d : D) : d.seq.isSome = (d.isL || d.isU) := by cases d <;> rfl

/-! ### the package: mirrors -/
def dInt : D → Bool
  | .int _ => true
  | _ => false
def isWithin : D → Int → Int → Bool
  | .int i, lo, hi => decide (lo ≤ i) && decide (i ≤ hi)
  | _, _, _ => false
theorem isWithin_int {d : D} {lo hi : Int} (h : isWithin d lo hi = true) : ∃ i, d = .int i ∧ lo ≤ i ∧ i ≤ hi := by
  cases d <;> first | cases h | skip
  rename_i i
  simp [isWithin] at h
  exact ⟨i, rfl, h.1, h.2⟩
def isTup (d : D) (n : Int) : Bool := match d with
  | .tup xs => decide ((xs.length : Int) = n)
  | _ => false
def sp_is_integer : DSp := fun _ ds O => ∃ d, ds = [d] ∧ d.ty.isSome = true ∧ O (.ret (.bl (dInt d)))
def sp_is_within : DSp := fun _ ds O => ∃ d lo hi, ds = [d, .int lo, .int hi] ∧ d.ty.isSome = true ∧ O (.ret (.bl (isWithin d lo hi)))
def sp_is_row : DSp := fun _ ds O => ∃ d, ds = [d] ∧ d.ty.isSome = true ∧ O (.ret (.bl (d.isL || d.isU)))
def sp_is_tuple_of : DSp := fun _ ds O => ∃ d n, ds = [d, .int n] ∧ d.ty.isSome = true ∧ O (.ret (.bl (isTup d n)))
/-! ### draws -/
/-- a draw: any number below many -/
def sp__law_taken : DSp := fun F ds O => ∃ r sa many, ds = [.raw (.ref r), .int many] ∧ F.row = some (r, sa) ∧ 0 < many ∧ many < 1073741824 ∧ ∀ n : Int, 0 ≤ n → n < many → O (.ret (.int n))
/-- any member -/
def sp__law_pick : DSp := fun F ds O => ∃ r sa d xs, ds = [.raw (.ref r), d] ∧ F.row = some (r, sa) ∧ d.seq = some xs ∧ 0 < xs.length ∧ xs.length < 1000000 ∧ ∀ x ∈ xs, O (.ret x)
/-! ### alike -/
def D.alk : Nat → D → Bool
  | _, .non => true
  | _, .bl _ => true
  | _, .int _ => true
  | _, .str s => PyData.strOk s
  | n + 1, .lst xs => decide (xs.length ≤ 100000) && xs.all (D.alk n)
  | n + 1, .tup xs => decide (xs.length ≤ 100000) && xs.all (D.alk n)
  | _, _ => false
theorem alk_fit : ∀ (n : Nat) (d : D), d.alk n = true → d.fit n = true := by
  intro n
  induction n with
  | zero => intro d h; cases d <;> first | exact h | (simp [D.alk] at h)
  | succ n ih =>
    intro d h
    cases d with
    | lst xs =>
      simp only [D.alk, Bool.and_eq_true, List.all_eq_true] at h
      rw [fit_lst, List.all_eq_true]
      exact fun x hx => ih x (h.2 x hx)
    | tup xs =>
      simp only [D.alk, Bool.and_eq_true, List.all_eq_true] at h
      rw [fit_tup, List.all_eq_true]
      exact fun x hx => ih x (h.2 x hx)
    | _ => first | exact h | (simp [D.alk] at h)
theorem alk_seq {n : Nat} {d : D} {xs : List D} (h : d.alk n = true) (hs : d.seq = some xs) : xs.length ≤ 100000 ∧ ∃ m, n = m + 1 ∧ ∀ x ∈ xs, x.alk m = true := by
  cases d <;> cases hs <;> cases n <;> simp [D.alk] at h <;> exact ⟨h.1, _, rfl, h.2⟩
theorem alk_ty {n : Nat} {d : D} (h : d.alk n = true) : d.ty.isSome = true := by
  cases d <;> first | rfl | (cases n <;> cases h)
theorem alk_int {n : Nat} {i : Int} : (D.int i).alk n = true := by cases n <;> rfl
theorem alk_bl {n : Nat} {i : Bool} : (D.bl i).alk n = true := by cases n <;> rfl
theorem alk_ints {n : Nat} (ns : List Int) (h : ns.length ≤ 100000) : (D.lst (ns.map D.int)).alk (n + 1) = true := by simp [D.alk, alk_int, h]
theorem alk_tints {n : Nat} (ns : List Int) (h : ns.length ≤ 100000) : (D.tup (ns.map D.int)).alk (n + 1) = true := by simp [D.alk, alk_int, h]
def spAlike : Nat → DSp
  | 0 => fun _ _ _ => False
  | n + 1 => fun _ ds O => ∃ d, ds = [d, d] ∧ d.alk n = true ∧ O (.ret (.bl true))
def sp__law_alike : DSp := spAlike 7
end Sd
end
-- SdRail
section
set_option Elab.async false
set_option linter.all false
set_option maxRecDepth 100000
set_option maxHeartbeats 4000000
set_option autoImplicit false
namespace Sd
open PySem PySem.Spec PyProof.Rows L2

/-! ### requests -/
/-- a request: first, end, fare, many -/
structure Rq where
  a : Int
  b : Int
  f : Int
  m : Int
def Rq.d (r : Rq) : D := .tup [.int r.a, .int r.b, .int r.f, .int r.m]
structure Rq.Ok (n : Nat) (r : Rq) : Prop where
  a0 : 0 ≤ r.a
  ab : r.a < r.b
  bn : r.b ≤ n
  f1 : 1 ≤ r.f
  f2 : r.f ≤ 1000
  m1 : 1 ≤ r.m
  m2 : r.m ≤ 20
def isReq (n : Nat) : D → Bool
  | .tup [a, .int j, c, m] => isWithin (.int j) 1 n && (isWithin a 0 (j - 1) && (isWithin c 1 1000 && isWithin m 1 20))
  | _ => false
theorem isReq_of {n : Nat} {d : D} (h : isReq n d = true) : ∃ r : Rq, d = r.d ∧ r.Ok n := by
  unfold isReq at h
  split at h
  · rename_i a j c m
    simp only [Bool.and_eq_true] at h
    obtain ⟨h1, h2, h3, h4⟩ := h
    obtain ⟨i1, e1, l1, u1⟩ := isWithin_int h1
    obtain ⟨i2, e2, l2, u2⟩ := isWithin_int h2
    obtain ⟨i3, e3, l3, u3⟩ := isWithin_int h3
    obtain ⟨i4, e4, l4, u4⟩ := isWithin_int h4
    cases e1
    subst e2 e3 e4
    exact ⟨⟨i2, j, i3, i4⟩, rfl, l2, by show i2 < j; omega, u1, l3, u3, l4, u4⟩
  · cases h
theorem isReq_d {n : Nat} {r : Rq} (h : r.Ok n) : isReq n r.d = true := by
  obtain ⟨h1, h2, h3, h4, h5, h6, h7⟩ := h
  simp [isReq, Rq.d, isWithin]
  omega
theorem rq_okv (r : Rq) : r.d.okv = true := rfl
/-- the first place that is wrong, -1 for no row -/
def badReqs (n : Nat) (d : D) : Option Int := match d.seq with
  | none => some (-1)
  | some xs => if 12 < xs.length then some (-1) else Option.map Int.ofNat (xs.findIdx? fun x => !isReq n x)
theorem findIdx_at {α : Type} {p : α → Bool} : ∀ {xs : List α} {i : Nat} {x : α}, (xs.take i).all p = true → xs[i]? = some x → p x = false → (xs.findIdx? fun x => !p x) = some i
  | [], i, x, _, h, _ => by simp at h
  | a :: xs, 0, x, _, h, hp => by
    simp at h
    subst h
    simp [List.findIdx?_cons, hp]
  | a :: xs, i + 1, x, ha, h, hp => by
    simp only [List.take_succ_cons, List.all_cons, Bool.and_eq_true] at ha
    have ih := findIdx_at (xs := xs) (i := i) (x := x) ha.2 (by simpa using h) hp
    simp [List.findIdx?_cons, ha.1, ih]
theorem findIdx_none {α : Type} {p : α → Bool} {xs : List α} (h : xs.all p = true) : (xs.findIdx? fun x => !p x) = none := by
  rw [List.findIdx?_eq_none_iff]
  intro x hx
  rw [List.all_eq_true.mp h x hx]
  rfl
theorem all_take {α : Type} {p : α → Bool} {xs : List α} {i : Nat} {x : α} (h : (xs.take i).all p = true) (hx : xs[i]? = some x) (hp : p x = true) : (xs.take (i + 1)).all p = true := by
  rw [take_snoc hx, List.all_append, h]
  simp [hp]
theorem reqs_of {n : Nat} : ∀ {xs : List D}, xs.all (isReq n) = true → ∃ rs : List Rq, xs = rs.map Rq.d ∧ ∀ r ∈ rs, r.Ok n
  | [], _ => ⟨[], rfl, by simp⟩
  | x :: xs, h => by
    simp only [List.all_cons, Bool.and_eq_true] at h
    obtain ⟨r, rfl, hr⟩ := isReq_of h.1
    obtain ⟨rs, rfl, hrs⟩ := reqs_of h.2
    exact ⟨r :: rs, rfl, fun s hs => by
      rcases List.mem_cons.mp hs with rfl | hs
      · exact hr
      · exact hrs s hs⟩
theorem good_reqs {n : Nat} {d : D} (h : badReqs n d = none) : ∃ rs : List Rq, d.seq = some (rs.map Rq.d) ∧ (∀ r ∈ rs, r.Ok n) ∧ rs.length ≤ 12 := by
  unfold badReqs at h
  split at h
  · cases h
  · rename_i xs hs
    split at h
    · cases h
    · rename_i hl
      rw [Option.map_eq_none_iff, List.findIdx?_eq_none_iff] at h
      obtain ⟨rs, rfl, hr⟩ := reqs_of (n := n) (xs := xs) (List.all_eq_true.mpr fun x hx => by simpa using h x hx)
      exact ⟨rs, hs, hr, by simpa using hl⟩
theorem badReqs_good {n : Nat} {d : D} {rs : List Rq} (h : d.seq = some (rs.map Rq.d)) (ok : ∀ r ∈ rs, r.Ok n) (hl : rs.length ≤ 12) : badReqs n d = none := by
  unfold badReqs
  rw [h]
  show (if 12 < (rs.map Rq.d).length then some (-1) else Option.map Int.ofNat ((rs.map Rq.d).findIdx? fun x => !isReq n x)) = none
  rw [if_neg (by rw [List.length_map]; omega), findIdx_none]
  · rfl
  · rw [List.all_eq_true]
    intro x hx
    obtain ⟨r, hr, rfl⟩ := List.mem_map.mp hx
    exact isReq_d (ok r hr)
def sp_is_request : DSp := fun _ ds O => ∃ seats d, ds = [.ln seats, d] ∧ d.okv = true ∧ O (.ret (.bl (isReq seats.length d)))
def sp_check_requests : DSp := fun _ ds O => ∃ seats d, ds = [.ln seats, d] ∧ d.okv = true ∧ (∀ i, badReqs seats.length d = some i → O (.exc "BadRequests" (.int i))) ∧ (badReqs seats.length d = none → O (.ret .non))

/-! ### tables of ints -/
def tab (n : Nat) (f : Nat → Int) : List D := (List.range n).map fun l => .int (f l)
theorem tab_length (n : Nat) (f : Nat → Int) : (tab n f).length = n := by simp [tab]
theorem tab_at {n : Nat} {f : Nat → Int} {i : Nat} (h : i < n) : (tab n f)[i]? = some (.int (f i)) := by simp [tab, h]
theorem tab_set {n : Nat} {f : Nat → Int} {i : Nat} {v : Int} : (tab n f).set i (.int v) = tab n fun l => if l = i then v else f l := by
  apply List.ext_getElem?
  intro k
  rw [List.getElem?_set]
  by_cases h : i = k
  · subst h
    rw [tab_length]
    by_cases hk : i < n
    · simp [tab, hk]
    · simp [tab, hk]
  · rw [if_neg h]
    have h' : ¬ k = i := fun z => h z.symm
    by_cases hk : k < n
    · simp [tab, h', hk]
    · simp [tab, hk]
theorem tab_ext {n : Nat} {f g : Nat → Int} (h : ∀ i, i < n → f i = g i) : tab n f = tab n g := by
  unfold tab
  exact List.map_congr_left fun i hi => by rw [h i (List.mem_range.mp hi)]
theorem tab_map (n : Nat) (f : Nat → Int) : tab n f = ((List.range n).map f).map D.int := by simp [tab]

/-! ### loads, takings -/
def loadAt : List Rq → List Int → Nat → Int
  | r :: rs, m :: ms, l => (if r.a ≤ (l : Int) ∧ (l : Int) < r.b then m else 0) + loadAt rs ms l
  | _, _, _ => 0
def loadsM (n : Nat) (rs : List Rq) (ms : List Int) : List Int := (List.range n).map (loadAt rs ms)
theorem loadAt_snoc (l : Nat) : ∀ {rs : List Rq} {ms : List Int} {r : Rq} {m : Int}, rs.length = ms.length → loadAt (rs ++ [r]) (ms ++ [m]) l = loadAt rs ms l + if r.a ≤ (l : Int) ∧ (l : Int) < r.b then m else 0
  | [], [], r, m, _ => by simp [loadAt]
  | _ :: _, [], r, m, h => by simp at h
  | [], _ :: _, r, m, h => by simp at h
  | a :: rs, b :: ms, r, m, h => by
    have ih := loadAt_snoc l (rs := rs) (ms := ms) (r := r) (m := m) (by simpa using h)
    simp only [List.cons_append, loadAt, ih]
    omega
def takeM : List Rq → List Int → Int
  | r :: rs, m :: ms => r.f * m + takeM rs ms
  | _, _ => 0
theorem takeM_snoc : ∀ {rs : List Rq} {ms : List Int} {r : Rq} {m : Int}, rs.length = ms.length → takeM (rs ++ [r]) (ms ++ [m]) = takeM rs ms + r.f * m
  | [], [], r, m, _ => by simp [takeM]
  | _ :: _, [], r, m, h => by simp at h
  | [], _ :: _, r, m, h => by simp at h
  | a :: rs, b :: ms, r, m, h => by
    have ih := takeM_snoc (rs := rs) (ms := ms) (r := r) (m := m) (by simpa using h)
    simp only [List.cons_append, takeM, ih]
    omega
/-- the seats of a line -/
def SeatsOk (seats : List Int) : Prop := ∀ s ∈ seats, 0 ≤ s ∧ s ≤ 1000
def sp_told_loads : DSp := fun _ ds O => ∃ (d1 d2 d3 : D) (sd : List D) (rs : List Rq) (ms : List Int), ds = [d1, d2, d3] ∧ d1.seq = some sd ∧ sd.length ≤ 1000 ∧ d2.seq = some (rs.map Rq.d) ∧ d3.seq = some (ms.map D.int) ∧ (∀ r ∈ rs, r.Ok sd.length) ∧
  rs.length ≤ 1000 ∧ rs.length = ms.length ∧ O (.ret (.lst ((loadsM sd.length rs ms).map D.int)))
def toInt : D → Int
  | .int i => i
  | _ => 0
def manyOk : List D → List Rq → Bool
  | x :: xs, r :: rs => isWithin x 0 r.m && manyOk xs rs
  | _, _ => true
def fitsM : List Int → List Int → Bool
  | l :: ls, s :: ss => decide (l ≤ s) && fitsM ls ss
  | _, _ => true
theorem fitsM_iff : ∀ {ls ss : List Int}, ls.length = ss.length → (fitsM ls ss = true ↔ ∀ (i : Nat) (x : Int), ls[i]? = some x → x ≤ ss.getD i 0)
  | [], [], _ => by simp [fitsM]
  | [], _ :: _, h => by simp at h
  | _ :: _, [], h => by simp at h
  | l :: ls, s :: ss, h => by
    have ih := fitsM_iff (ls := ls) (ss := ss) (by simpa using h)
    simp only [fitsM, Bool.and_eq_true, decide_eq_true_eq, ih]
    constructor
    · intro ⟨h1, h2⟩ i x hx
      cases i with
      | zero =>
        simp at hx
        subst hx
        simpa using h1
      | succ i => simpa using h2 i x (by simpa using hx)
    · intro k
      exact ⟨by simpa using k 0 l (by simp), fun i x hx => by simpa using k (i + 1) x (by simpa using hx)⟩
theorem fits_filter {β : Type} (f : Int × Nat → β) {ls ss : List Int} (h : ls.length = ss.length) : ((ls.zipIdx.filter fun p => decide (p.1 > ss.getD p.2 0)).map f).isEmpty = fitsM ls ss := by
  rw [Bool.eq_iff_iff, fitsM_iff h, List.isEmpty_iff, List.map_eq_nil_iff, List.filter_eq_nil_iff]
  constructor
  · intro k i x hx
    have := k (x, i) (by rw [List.mem_zipIdx_iff_getElem?]; exact hx)
    simp only [decide_eq_true_eq] at this
    omega
  · intro k p hp
    obtain ⟨x, i⟩ := p
    rw [List.mem_zipIdx_iff_getElem?] at hp
    have := k i x hp
    simp only [decide_eq_true_eq]
    omega
def isSaleM (seats : List Int) (rs : List Rq) (t : D) : Bool := match t.seq with
  | none => false
  | some xs => decide (xs.length = rs.length) && (manyOk xs rs && fitsM (loadsM seats.length rs (xs.map toInt)) seats)
def sp_is_told_sale : DSp := fun _ ds O => ∃ (seats : List Int) (d2 t : D) (rs : List Rq), ds = [.ln (seats.map D.int), d2, t] ∧ seats.length ≤ 1000 ∧ d2.seq = some (rs.map Rq.d) ∧ (∀ r ∈ rs, r.Ok seats.length) ∧ rs.length ≤ 1000 ∧ t.okv = true ∧ O (.ret (.bl (isSaleM seats rs t)))
/-- what a function of a line, requests and more gives where the requests are good -/
def withReqs (n : Nat) (d : D) (O : Out → Prop) (k : List Rq → Prop) : Prop := (∀ i, badReqs n d = some i → O (.exc "BadRequests" (.int i))) ∧ ∀ rs : List Rq, d.seq = some (rs.map Rq.d) → (∀ r ∈ rs, r.Ok n) → rs.length ≤ 12 → k rs
def sp_is_sale : DSp := fun _ ds O => ∃ (seats : List Int) (d2 t : D), ds = [.ln (seats.map D.int), d2, t] ∧ seats.length ≤ 1000 ∧ d2.okv = true ∧ t.okv = true ∧ withReqs seats.length d2 O fun rs => O (.ret (.bl (isSaleM seats rs t)))
def sp_check_sale : DSp := fun _ ds O => ∃ (seats : List Int) (d2 t : D), ds = [.ln (seats.map D.int), d2, t] ∧ seats.length ≤ 1000 ∧ d2.okv = true ∧ t.okv = true ∧
  withReqs seats.length d2 O fun rs => (isSaleM seats rs t = true → O (.ret .non)) ∧ (isSaleM seats rs t = false → O (.exc "BadSale" t))
def sp_told_takings : DSp := fun _ ds O => ∃ (d2 d3 : D) (rs : List Rq) (ms : List Int) (n : Nat), ds = [d2, d3] ∧ d2.seq = some (rs.map Rq.d) ∧ d3.seq = some (ms.map D.int) ∧ (∀ r ∈ rs, r.Ok n) ∧ rs.length ≤ 1000 ∧ O (.ret (.int (takeM rs ms)))
def sp_loads : DSp := fun _ ds O => ∃ (seats : List Int) (d2 t : D), ds = [.ln (seats.map D.int), d2, t] ∧ seats.length ≤ 1000 ∧ d2.okv = true ∧ t.okv = true ∧
  withReqs seats.length d2 O fun rs => (∀ ms : List Int, t.seq = some (ms.map D.int) → isSaleM seats rs t = true → O (.ret (.lst ((loadsM seats.length rs ms).map D.int)))) ∧ (isSaleM seats rs t = false → O (.exc "BadSale" t))
def sp_takings : DSp := fun _ ds O => ∃ (seats : List Int) (d2 t : D), ds = [.ln (seats.map D.int), d2, t] ∧ seats.length ≤ 1000 ∧ d2.okv = true ∧ t.okv = true ∧
  withReqs seats.length d2 O fun rs => (∀ ms : List Int, t.seq = some (ms.map D.int) → isSaleM seats rs t = true → O (.ret (.int (takeM rs ms)))) ∧ (isSaleM seats rs t = false → O (.exc "BadSale" t))
theorem manyOk_ints : ∀ {xs : List D} {rs : List Rq}, xs.length = rs.length → manyOk xs rs = true → xs = (xs.map toInt).map D.int
  | [], _, _, _ => rfl
  | x :: xs, [], h, _ => by simp at h
  | x :: xs, r :: rs, h, hm => by
    simp only [manyOk, Bool.and_eq_true] at hm
    obtain ⟨i, rfl, _⟩ := isWithin_int hm.1
    have ih := manyOk_ints (xs := xs) (rs := rs) (by simpa using h) hm.2
    simp only [List.map_cons]
    rw [← ih]
    rfl
theorem sale_ints {seats : List Int} {rs : List Rq} {t : D} (h : isSaleM seats rs t = true) : ∃ ms : List Int, t.seq = some (ms.map D.int) ∧ ms.length = rs.length := by
  unfold isSaleM at h
  split at h
  · cases h
  · rename_i xs hx
    simp only [Bool.and_eq_true, decide_eq_true_eq] at h
    exact ⟨xs.map toInt, by rw [hx, ← manyOk_ints h.1 h.2.1], by simpa using h.1⟩

/-! ### prices -/
def priceOk : D → Bool
  | .int i => decide (0 ≤ i)
  | _ => false
def pricesOk (n : Nat) : D → Bool
  | .tup xs => decide (xs.length = n) && xs.all priceOk
  | _ => false
theorem prices_of {n : Nat} {d : D} (h : pricesOk n d = true) : ∃ ps : List Int, d = .tup (ps.map D.int) ∧ ps.length = n ∧ ∀ p ∈ ps, 0 ≤ p := by
  unfold pricesOk at h
  split at h
  · rename_i xs
    simp only [Bool.and_eq_true, decide_eq_true_eq] at h
    obtain ⟨h1, h2⟩ := h
    have key : ∀ {ys : List D}, ys.all priceOk = true → ∃ ps : List Int, ys = ps.map D.int ∧ ∀ p ∈ ps, 0 ≤ p := by
      intro ys
      induction ys with
      | nil => exact fun _ => ⟨[], rfl, by simp⟩
      | cons y ys ih =>
        intro hy
        simp only [List.all_cons, Bool.and_eq_true] at hy
        obtain ⟨ps, rfl, hp⟩ := ih hy.2
        cases y <;> first | (have z := hy.1; cases z; done) | skip
        rename_i i
        exact ⟨i :: ps, rfl, fun p hpm => by
          rcases List.mem_cons.mp hpm with rfl | hpm
          · simpa [priceOk] using hy.1
          · exact hp p hpm⟩
    obtain ⟨ps, rfl, hp⟩ := key h2
    exact ⟨ps, rfl, by simpa using h1, hp⟩
  · cases h
def dotM : List Int → List Int → Int
  | s :: ss, p :: ps => s * p + dotM ss ps
  | _, _ => 0
theorem dotM_snoc : ∀ {rs ms : List Int} {r m : Int}, rs.length = ms.length → dotM (rs ++ [r]) (ms ++ [m]) = dotM rs ms + r * m
  | [], [], r, m, _ => by simp [dotM]
  | _ :: _, [], r, m, h => by simp at h
  | [], _ :: _, r, m, h => by simp at h
  | a :: rs, b :: ms, r, m, h => by
    have ih := dotM_snoc (rs := rs) (ms := ms) (r := r) (m := m) (by simpa using h)
    simp only [List.cons_append, dotM, ih]
    omega
/-- the sum of the prices of a request's legs -/
def spanM (ps : List Int) (r : Rq) : Int := (cut ps (some r.a) (some r.b)).sum
def worthM (seats : List Int) (rs : List Rq) (ps : List Int) : Int := dotM seats ps + (rs.map fun r => r.m * max 0 (r.f - spanM ps r)).sum
def sp_check_prices : DSp := fun _ ds O => ∃ seats d, ds = [.ln seats, d] ∧ seats.length ≤ 1000 ∧ d.okv = true ∧ (pricesOk seats.length d = true → O (.ret .non)) ∧ (pricesOk seats.length d = false → O (.exc "BadPrices" d))
def sp_told_worth : DSp := fun _ ds O => ∃ (seats : List Int) (d2 : D) (rs : List Rq) (ps : List Int), ds = [.ln (seats.map D.int), d2, .tup (ps.map D.int)] ∧ SeatsOk seats ∧ seats.length ≤ 1000 ∧ d2.seq = some (rs.map Rq.d) ∧ (∀ r ∈ rs, r.Ok seats.length) ∧ rs.length ≤ 1000 ∧ ps.length = seats.length ∧ O (.ret (.int (worthM seats rs ps)))
def sp_worth : DSp := fun _ ds O => ∃ (seats : List Int) (d2 d : D), ds = [.ln (seats.map D.int), d2, d] ∧ SeatsOk seats ∧ seats.length ≤ 1000 ∧ d2.okv = true ∧ d.okv = true ∧
  withReqs seats.length d2 O fun rs => (∀ ps : List Int, d = .tup (ps.map D.int) → pricesOk seats.length d = true → O (.ret (.int (worthM seats rs ps)))) ∧ (pricesOk seats.length d = false → O (.exc "BadPrices" d))
def sp_shows : DSp := fun _ ds O => ∃ (seats : List Int) (d2 t d : D), ds = [.ln (seats.map D.int), d2, t, d] ∧ SeatsOk seats ∧ seats.length ≤ 1000 ∧ d2.okv = true ∧ t.okv = true ∧ d.okv = true ∧
  withReqs seats.length d2 O fun rs => (isSaleM seats rs t = false → O (.exc "BadSale" t)) ∧ (isSaleM seats rs t = true → (pricesOk seats.length d = false → O (.exc "BadPrices" d)) ∧
    ∀ (ms ps : List Int), t.seq = some (ms.map D.int) → d = .tup (ps.map D.int) → pricesOk seats.length d = true → O (.ret (.bl (decide (takeM rs ms = worthM seats rs ps)))))
/-! ### the law's helpers -/
def sp__law_line : DSp := fun F ds O => ∃ r sa, ds = [.raw (.ref r)] ∧ F.row = some (r, sa) ∧ ∀ ss : List Int, 1 ≤ ss.length → ss.length ≤ 10 → (∀ s ∈ ss, 0 ≤ s ∧ s ≤ 20) → O (.ret (.tup (ss.map D.int)))
def sp__law_asks : DSp := fun F ds O => ∃ (r sa : Addr) (d : D) (sd : List D) (most : Int), ds = [.raw (.ref r), d, .int most, .int 20] ∧ F.row = some (r, sa) ∧ d.seq = some sd ∧ 1 ≤ sd.length ∧ sd.length ≤ 10 ∧ 0 < most ∧ most ≤ 1000 ∧
  ∀ rs : List Rq, (rs.length : Int) < most → (∀ r ∈ rs, r.Ok sd.length) → O (.ret (.lst (rs.map Rq.d)))
def sp__law_loads : DSp := fun _ ds O => ∃ (d1 d2 d3 : D) (sd : List D) (rs : List Rq) (ms : List Int), ds = [d1, d2, d3] ∧ d1.seq = some sd ∧ sd.length ≤ 1000 ∧ d2.seq = some (rs.map Rq.d) ∧ d3.seq = some (ms.map D.int) ∧ rs.length ≤ 1000 ∧ rs.length = ms.length ∧ O (.ret (.lst ((loadsM sd.length rs ms).map D.int)))
def sp__law_fits : DSp := fun _ ds O => ∃ (d1 d2 d3 : D) (ss : List Int) (rs : List Rq) (ms : List Int), ds = [d1, d2, d3] ∧ d1.seq = some (ss.map D.int) ∧ ss.length ≤ 1000 ∧ d2.seq = some (rs.map Rq.d) ∧ d3.seq = some (ms.map D.int) ∧ rs.length ≤ 1000 ∧ rs.length = ms.length ∧ O (.ret (.bl (fitsM (loadsM ss.length rs ms) ss)))
def sp__law_takes : DSp := fun _ ds O => ∃ (d2 d3 : D) (rs : List Rq) (ms : List Int) (n : Nat), ds = [d2, d3] ∧ d2.seq = some (rs.map Rq.d) ∧ d3.seq = some (ms.map D.int) ∧ (∀ r ∈ rs, r.Ok n) ∧ rs.length ≤ 1000 ∧ rs.length = ms.length ∧ O (.ret (.int (takeM rs ms)))
def sp__law_worth : DSp := fun _ ds O => ∃ (d1 d2 : D) (seats : List Int) (rs : List Rq) (ps : List Int), ds = [d1, d2, .tup (ps.map D.int)] ∧ d1.seq = some (seats.map D.int) ∧ SeatsOk seats ∧ seats.length ≤ 1000 ∧ d2.seq = some (rs.map Rq.d) ∧ (∀ r ∈ rs, r.Ok seats.length) ∧ rs.length ≤ 1000 ∧ ps.length = seats.length ∧ O (.ret (.int (worthM seats rs ps)))
end Sd
end
-- SdLine
section
set_option Elab.async false
set_option linter.all false
set_option maxRecDepth 100000
set_option maxHeartbeats 4000000
set_option autoImplicit false
namespace Sd
open PySem PySem.Spec PyProof.Rows L2
open Evl (Ex)

/-! ### Line(seats) -/
def badSeats (d : D) : Option Int := match d.seq with
  | none => some (-1)
  | some xs => if xs.length = 0 ∨ 10 < xs.length then some (-1) else Option.map Int.ofNat (xs.findIdx? fun x => !isWithin x 0 20)
def sp_Line : DSp := fun _ ds O => ∃ d, ds = [d] ∧ d.okv = true ∧ (∀ i, badSeats d = some i → O (.exc "BadSeats" (.int i))) ∧ (badSeats d = none → ∀ xs, d.seq = some xs → O (.ret (.ln xs)))
/-- Line.__init__: what stands at x is the new line -/
def spInit (K : PySem.W.Frag) : Sp := fun vs H Q E => ∃ (F : Fs) (B : Hp) (x dx : Addr) (v : V) (d : D) (O : Out → Prop), vs = [.ref x, v] ∧ Ex B H ∧ Fok K F B H ∧ B x = none ∧ H x = some (.ins (He.ga K "Line") dx []) ∧ ¬ F.S x ∧ Rp K B v d ∧ sp_Line F [d] O ∧
  (∀ B' H' t ws es, Fm K F B H B' H' → O (.ret (.ln es)) → SqT K B' t ws → RpA K B' ws es → Q .non (upd H' x (.ins (He.ga K "Line") dx [(("seats" : Str), .ref t)]))) ∧
  (∀ n d dd v B' H', O (.exc n d) → Fm K F B H B' H' → B' dd = some (.xd [(("value" : Str), v)]) → Rp K B' v d → E (.ref (He.ga K n)) (some dd) H')
structure Ln (P : Program) (w : World) (K : PySem.W.Frag) (mg : Str → Option Value) (base : Heap) (k : Nat) : Prop where
  g : mg "Line" = some (.ref (He.ga K "Line"))
  ex : ∃ (f : Addr) (fd : FuncData), Mk K (He.ga K "Line") f ∧ FnOk P w K mg base (L2.CX P w) k f fd ["self", "seats"] (spInit K) ∧ Binds K fd ["self", "seats"] []
section
variable {X : Cx} {G : Gx} {k j : Nat} {e : Expr} {es : List Expr} {da : DA} {p pos : Pos} {Xc : Str → D → Prop} {E : XK}
theorem pd_line (c : Ln X.prog X.w X.K X.mg X.base k) (hr : Room j X.A) (hk : k + 1 ≤ j) (hE : DlvX X.K G Xc E) (hx : Passes (L2.CX X.prog X.w) X E) (ha : PAd X G (e :: es) da) (hg : Gl X "Line" := by rfl)
    (he : starEach (e :: es) X.env = (false, eval e X.env) :: starEach es X.env := by rfl) (hpl : (backTo pos (starEach es X.env)).any (·.1) = false := by rfl) : PEd X G (.Call (.Name "Line" p) (e :: es) [] pos) (deCall sp_Line G.F Xc [] da) := by
  obtain ⟨f, fd, M, F, hb⟩ := c.ex
  refine PE.imp (pe_make M F (hr.mono hk) hg c.g hb .nil hx ha (by decide) he hpl) fun σ H Q ⟨B, δ, P, s, h, q⟩ => ⟨B, δ, _, s, h, fun vs ds B1 H1 m1 p1 r1 x dx hx0 hdx hne => ?_⟩
  rw [List.append_nil] at p1
  obtain ⟨d, rfl, hv, o1, o2⟩ := p1
  cases r1 with
  | cons rv rn =>
  cases rn
  rename_i v
  have mA := Fm.newH (o := .own x) m1.e m1.f hdx
  have hx1 : upd H1 dx (.own x) x = none := by
    rw [upd_ne (fun z => hne z.symm)]
    exact hx0
  have mB := Fm.newH (o := .ins (He.ga X.K "Line") dx []) mA.e mA.f hx1
  have m2 := mA.trans mB
  have bx : B1 x = none := Evl.fresh_back m1.e hx0
  have bdx : B1 dx = none := Evl.fresh_back m1.e hdx
  have nsx : ¬ G.F.S x := fun z => (m1.f.there z).2 hx0
  have nsd : ¬ G.F.S dx := fun z => (m1.f.there z).2 hdx
  refine ⟨G.F, B1, x, dx, v, d, (fun o => match o with
    | .ret d => P d
    | .exc n d => Xc n d), rfl, m2.e, m2.f, bx, upd_same, nsx, rv, ⟨d, rfl, hv, o1, o2⟩, fun B' H' t ws zs m o ht ra => ⟨rfl, ?_⟩, fun n d dd v B' H' o m h1 r => hE n d dd v B' H' o (s.fm.trans (m1.trans (m2.trans m))) h1 r⟩
  obtain ⟨bx', hx'⟩ := m.o x bx (.of upd_same)
  have hx' := (hx' nsx).trans upd_same
  obtain ⟨bd', hd'⟩ := m.o dx bdx (.of (by rw [upd_ne hne, upd_same]))
  have hd' := (hd' nsd).trans (by rw [upd_ne hne, upd_same])
  have eb : Ex B' (upd (upd B' dx (.own x)) x (.ins (He.ga X.K "Line") dx [(("seats" : Str), .ref t)])) := (Evl.Ex.new bd').trans (Evl.Ex.new (by rw [upd_ne (fun z => hne z.symm)]; exact bx'))
  have mf : Fm X.K G.F B1 H1 (upd (upd B' dx (.own x)) x (.ins (He.ga X.K "Line") dx [(("seats" : Str), .ref t)])) (upd H' x (.ins (He.ga X.K "Line") dx [(("seats" : Str), .ref t)])) := by
    refine ⟨m.b.trans eb, fun a u h => ?_, fun a h1 h2 => ?_, ?_⟩
    · by_cases ha : a = x
      · rw [ha, upd_same] at h ⊢
        exact h
      · rw [upd_ne ha] at h ⊢
        by_cases hb : a = dx
        · rw [hb, upd_same] at h
          rw [hb, hd']
          exact h
        · rw [upd_ne hb] at h
          exact m.e _ _ h
    · have n1 : a ≠ x := h2.ne hx0
      have n2 : a ≠ dx := h2.ne hdx
      have e1 : upd (upd H1 dx (.own x)) x (.ins (He.ga X.K "Line") dx []) a = H1 a := by rw [upd_ne n1, upd_ne n2]
      obtain ⟨h3, h4⟩ := m.o a h1 (h2.eq e1)
      refine ⟨by rw [upd_ne n1, upd_ne n2]; exact h3, fun hs => ?_⟩
      rw [upd_ne n1, h4 hs, e1]
    · have hne' : ∀ a, G.F.S a → a ≠ x := fun a hs z => nsx (by rw [← z]; exact hs)
      have hne2 : ∀ a, G.F.S a → a ≠ dx := fun a hs z => nsd (by rw [← z]; exact hs)
      refine ⟨fun r sa hrow => ?_, fun p hp => ?_, fun p hp => ?_, nt_upd (nt_upd m.f.nt (fun _ z => by cases z)) (fun _ z => by cases z)⟩
      · obtain ⟨h1, ⟨ns, h2⟩, i, s', c', h3, h4⟩ := m.f.row r sa hrow
        have hs : G.F.S r := .inl ⟨sa, hrow⟩
        refine ⟨by rw [upd_ne (hne' r hs), upd_ne (hne2 r hs)]; exact h1, ⟨ns, exL eb h2⟩, i, s', c', by rw [upd_ne (hne' r hs)]; exact h3, h4⟩
      · obtain ⟨ps, t1, t2, t3⟩ := m.f.tab p hp
        have hs : G.F.S p.1 := .inr ⟨p.2, hp⟩
        refine ⟨ps, by rw [upd_ne (hne' _ hs)]; exact t1, t2, fun pos cv hc => ?_⟩
        obtain ⟨c0, e1, e2⟩ := t3 pos cv hc
        refine ⟨c0, e1, ?_⟩
        rw [upd_ne fun z => ?_]
        · exact e2
        · rw [z, hx'] at e2
          cases e2
      · have hs : G.F.S p.1 := .inr ⟨p.2, hp⟩
        rw [upd_ne (hne' _ hs), upd_ne (hne2 _ hs)]
        exact m.f.tb p hp
  refine q _ (.ln zs) _ _ (m1.trans mf) o (.ln (t := t) upd_same ?_ rfl (exT eb ht) (ra.mono eb))
  rw [upd_ne hne, upd_same]
end
end Sd
end
-- SdTry
section
set_option Elab.async false
set_option linter.all false
set_option maxRecDepth 100000
set_option maxHeartbeats 4000000
set_option autoImplicit false
/-! several clauses 'except x as n: suite' -/
namespace Sd
open PySem PySem.Spec PyProof.Rows L2
/-- an exception of the class cls with its dict d lies on the ground in the frame that looks for a clause -/
structure Fell (X : Cx) (pins : List (Addr × Obj)) (σ : L2.St) (H : Hp) (a : Addr) (cls : Value) (d : Option Addr) (B : Heap) (s0 s : Shared) : Prop where
  inv : Inv X pins σ H s0
  gr : ∀ b o, s0.heap.get? b = some o → b ∉ frs X.stack → B.get? b = some o
  up : s0.heap.UpToSlots s.heap
  fly : HandSPX.FlyingZ B (X.env :: X.outer) a (Zc cls d) s.heap
  na : H a = none
  os : s.os = s0.os
  ag : AllBare s.gens
section
variable {X : Cx} {pins : List (Addr × Obj)} {σ : L2.St} {H : Hp} {a : Addr} {cls c : Value} {d : Option Addr} {B : Heap} {s0 s : Shared} {hds : List ExceptHandler} {D : Ends} {x n : Str} {i : Nat} {np pos' pos : Pos} {b0 : Stmt} {suite body : List Stmt}
theorem Fell.here (F : Fell X pins σ H a cls d B s0 s) : Inv X pins σ H s := F.inv.landed F.gr F.fly.1 F.up F.os F.ag
theorem Fell.apart (F : Fell X pins σ H a cls d B s0 s) (hf : X.env.frame = some X.env.locals) : a ≠ X.env.locals ∧ a ∉ X.fs := by
  obtain ⟨oe, ws, e1, _, e3⟩ := F.fly.there
  have far : a ∉ frs (X.env :: X.outer) := fun z => by
    obtain ⟨_, o2, e4, k⟩ := F.fly.2.2.1.mem z
    rw [e1] at e4
    cases e4
    exact k _ e3
  constructor
  · intro z
    exact far (List.mem_filterMap.mpr ⟨X.env, List.mem_cons_self, by rw [hf, z]⟩)
  · intro z
    obtain ⟨e, h1, h2⟩ := List.mem_filterMap.mp z
    exact far (List.mem_filterMap.mpr ⟨e, List.mem_cons_of_mem _ h1, h2⟩)
/-- no clause is left: it flies on -/
theorem left_none (hs : X.stack = X.env :: X.outer) (hf : X.env.frame = some X.env.locals) {W : WX} (tk : Takes X W) (F : Fell X pins σ H a cls d B s0 s) (w : W cls d σ H) :
    wpAny (model X.prog X.w) X.A (handleBy (.ref a) X.env []) (SP X pins D) X.xe s := by
  obtain ⟨_, _, _, oe, ws, T, _, _, g1, _, g3, g4, _⟩ := id F.fly
  have goes : wpAny (model X.prog X.w) X.A (setFlight (.ref a) X.env.frame) (fun _ s2 => wpAny (model X.prog X.w) X.A (throw (.ref a) : Sem Flow) (SP X pins D) X.xe s2) X.xe s := by
    rw [hf]
    refine HandSPX.setFlight_upZ F.fly fun h2 held u2 => wpAny_throw (tk _ _ ⟨a, B, s0, pins, σ, H, cls, d, rfl, F.inv, F.gr, F.up.trans u2, .inr (.inr ?_), F.na, F.os, F.ag, w⟩)
    rw [hs]
    exact held
  refine wpAny_handleBy_nil ?_
  unfold PySem.passOn
  refine wpAny_bind (wpAny_field g1 g3 g4 ?_)
  rw [if_neg (show ¬ ((Value.ref T == Value.none) = true) by simp)]
  first
    | exact wpAny_bind (wpAny_pure (wpAny_bind goes))
    | exact wpAny_bind goes
/-- the ends of a suite behind which the slot i goes -/
def Gone (i : Nat) (D : Ends) : Ends where
  nx := fun σ' H' => D.nx (σ'.set i none) H'
  rt := D.rt
  bk := fun σ' H' => D.bk (σ'.set i none) H'
  ct := fun σ' H' => D.ct (σ'.set i none) H'
/-- one clause -/
theorem clause_as {ts : Addr → Value → Option Addr → TS} {b : Bool} (hf : X.env.frame = some X.env.locals) (hN : X.N.Nodup) (hi : X.N[i]? = some n) (hn : X.env.kindOf n = some .local) (hc : Names X x c)
    (hsu : ∀ (a : Addr) (oe : Obj) (cls : Value) (d : Option Addr) (pn : List (Addr × Obj)), Zc cls d oe → (∃ ws, oe.data = .fields ws) → PSs (X.suite a ((a, oe) :: pn)) (b0 :: suite) (ts a cls d))
    (F : Fell X pins σ H a cls d B s0 s) (hb : PySem.W.exmOne X.K cls c = some b) (yes : b = true → ts a cls d (Gone i D) (σ.set i (some (.ref a))) H)
    (no : b = false → wpAny (model X.prog X.w) X.A (handleBy (.ref a) X.env hds) (SP X pins D) X.xe s) :
    wpAny (model X.prog X.w) X.A (handleBy (.ref a) X.env (.ExceptHandler (some (.Name x np)) (some n) (b0 :: suite) pos' :: hds)) (SP X pins D) X.xe s := by
  obtain ⟨off1, off2⟩ := F.apart hf
  obtain ⟨oe, ws, g1, g2, g3⟩ := F.fly.there
  have inS := F.here.suite g1 g3 F.na off1 off2
  have named : ∀ {Q : Value → Shared → Prop} {E : Value → Shared → Prop}, Q c s → wpAny (model X.prog X.w) (X.A.mark (some (.ref a))) (eval (.Name x np) X.env) Q E s := by
    intro Q E q
    obtain ⟨k1, k2, k3⟩ := hc
    rcases k3 with k3 | ⟨k3, k4, k5⟩
    · exact ld_glob (X := X.suite a ((a, oe) :: (X.pn ++ pins))) inS k1 k3 q k2
    · exact ld_blt (X := X.suite a ((a, oe) :: (X.pn ++ pins))) inS k1 k3 k4 q k5 k2
  have sees : PySem.W.Looks (model X.prog X.w) s.heap (typeOf (.ref a)) cls := fun A Q E s' k q => wpAny_typeOf_ref (k _ _ g1) (by rw [g2.1]; exact q)
  refine wpAny_handleBy_cons (codeAny_handlers_test (named ((PySem.W.exm_one (M := model X.prog X.w) F.here.kIn sees hb).here ?_))) (by intro z; cases z)
  cases b with
  | false => exact no rfl
  | true =>
    refine codeAny_handlers_suite_as (HandSPX.lands_againZ F.fly fun h2 fly2 u2 => ?_)
    have F2 : Fell X pins σ H a cls d B s0 { s with heap := h2 } := ⟨F.inv, F.gr, F.up.trans u2, fly2, F.na, F.os, F.ag⟩
    obtain ⟨oe2, ws2, l1, l2, l3⟩ := fly2.there
    have inS2 := F2.here.suite l1 l3 F.na off1 off2
    refine store_ok (X := X.suite a ((a, oe2) :: (X.pn ++ pins))) (v := .ref a) inS2 hN hi (.inl hn) rfl (fun s3 I3 => ?_) (.inr hn)
    refine wpAny_mono ((hsu a oe2 cls d (X.pn ++ pins) l2 ⟨_, l3⟩).run [] s3 _ H _ I3 (yes rfl)) (fun fl s4 out => ?_) (fun _ _ z => False.elim z)
    have close : ∀ {σ4 : L2.St} {H4 : Hp} {Q : Shared → Prop}, Inv (X.suite a ((a, oe2) :: (X.pn ++ pins))) [] σ4 H4 s4 → (∀ s5, Inv X pins (σ4.set i none) H4 s5 → Q s5) → wpAny (model X.prog X.w) X.A (do bindName X.env n .none; unbindBehindTheSuite X.env n pos') (fun _ s5 => Q s5) X.xe s4 :=
      fun I4 q => gone_ok (I4.unsuite F.inv.ok) hN hi hn q
    cases fl with
    | ret u =>
      obtain ⟨v4, σ4, H4, I4, r4, q4⟩ := out
      exact close I4 fun s5 I5 => ⟨v4, _, H4, I5, r4, q4⟩
    | next =>
      obtain ⟨σ4, H4, I4, q4⟩ := out
      exact close I4 fun s5 I5 => ⟨_, H4, I5, q4⟩
    | brk =>
      obtain ⟨σ4, H4, I4, q4⟩ := out
      exact close I4 fun s5 I5 => ⟨_, H4, I5, q4⟩
    | cont =>
      obtain ⟨σ4, H4, I4, q4⟩ := out
      exact close I4 fun s5 I5 => ⟨_, H4, I5, q4⟩
/-- a list of clauses: by what they do of a fallen exception -/
def Does (X : Cx) (hds : List ExceptHandler) (W : Ends → WX) : Prop := ∀ (pins : List (Addr × Obj)) (σ : L2.St) (H : Hp) (a : Addr) (cls : Value) (d : Option Addr) (B : Heap) (s0 s : Shared) (D : Ends), Fell X pins σ H a cls d B s0 s → W D cls d σ H →
  wpAny (model X.prog X.w) X.A (handleBy (.ref a) X.env hds) (SP X pins D) X.xe s
theorem does_nil (hs : X.stack = X.env :: X.outer) (hf : X.env.frame = some X.env.locals) {W : WX} (tk : Takes X W) : Does X [] (fun _ => W) := fun _ _ _ _ _ _ _ _ _ _ F w => left_none hs hf tk F w
def wThen (K : PySem.W.Frag) (c : Value) (i : Nat) (ts : Addr → Value → Option Addr → TS) (W : Ends → WX) : Ends → WX := fun D cls d σ H => ∃ b, PySem.W.exmOne K cls c = some b ∧ (b = true → ∀ a, H a = none → ts a cls d (Gone i D) (σ.set i (some (.ref a))) H) ∧ (b = false → W D cls d σ H)
theorem does_cons {ts : Addr → Value → Option Addr → TS} {W : Ends → WX} (hf : X.env.frame = some X.env.locals) (hN : X.N.Nodup) (hi : X.N[i]? = some n) (hn : X.env.kindOf n = some .local) (hc : Names X x c)
    (hsu : ∀ (a : Addr) (oe : Obj) (cls : Value) (d : Option Addr) (pn : List (Addr × Obj)), Zc cls d oe → (∃ ws, oe.data = .fields ws) → PSs (X.suite a ((a, oe) :: pn)) (b0 :: suite) (ts a cls d)) (rest : Does X hds W) :
    Does X (.ExceptHandler (some (.Name x np)) (some n) (b0 :: suite) pos' :: hds) (wThen X.K c i ts W) := fun pins σ H a cls d B s0 s D F ⟨b, h1, h2, h3⟩ =>
  clause_as hf hN hi hn hc hsu F h1 (fun z => h2 z a F.na) (fun z => rest _ _ _ _ _ _ _ _ _ _ F (h3 z))
theorem does_len {W : Ends → WX} (h : Does X hds W) : Does X hds (fun D cls d σ H => σ.length = X.N.length → W D cls d σ H) := fun _ _ _ _ _ _ _ _ _ _ F w => h _ _ _ _ _ _ _ _ _ _ F (w F.inv.len)
/-- try: body, the clauses -/
theorem ps_tries {h0 : ExceptHandler} {tb : WX → TS} {W : Ends → WX} (hs : X.stack = X.env :: X.outer) (hf : X.env.frame = some X.env.locals)
    (hb : ∀ (W : WX) (pn : List (Addr × Obj)) (xe : Value → Shared → Prop), Takes (X.tr pn xe) W → PSs (X.tr pn xe) body (tb W)) (hh : Does X (h0 :: hds) W) : PS X (.Try body (h0 :: hds) [] [] pos) (fun D σ H => tb (W D) D σ H) := by
  refine ⟨fun pins s σ H D I h => wpAny_Try_except ?_⟩
  have ok := I.ok
  have fr : X.A.frames = some (X.env :: X.outer) := by rw [ok.frames, hs]
  refine wpAny_mono ((hb (W D) (X.pn ++ pins) (fun e s1 => wpAny (model X.prog X.w) X.A (noteFrame e X.env) (fun _ s2 => wpAny (model X.prog X.w) X.A (setFlight e none) (fun _ s3 =>
    wpAny (model X.prog X.w) X.A (handleBy e X.env (h0 :: hds)) (SP X pins D) X.xe s3) X.xe s2) X.xe s1) (fun u s1 air => ?_)).run [] s σ H D (I.toTry _) h) (fun fl s1 out => ?_) (fun _ _ z => z)
  · obtain ⟨a, B, s0, pn', σ', H', cls, d, rfl, J, gr, up, sky, na, os, ag, w⟩ := air
    have sky' : Sky B (X.env :: X.outer) a (Zc cls d) X.env.locals s1.heap := by rw [← hs]; exact sky
    refine Sky.land Zc.steady fr hf sky' fun h2 fly u2 => ?_
    exact hh pins σ' H' a cls d B s0 _ D ⟨J.ofTry ok, gr, up.trans u2, fly, na, os, ag⟩ w
  · cases fl with
    | next =>
      obtain ⟨σ', H', J, q⟩ := out
      exact wpAny_execs_nil ⟨σ', H', J.ofTry ok, q⟩
    | ret u =>
      obtain ⟨v, σ', H', J, r, q⟩ := out
      exact ⟨v, σ', H', J.ofTry ok, r, q⟩
    | brk =>
      obtain ⟨σ', H', J, q⟩ := out
      exact ⟨σ', H', J.ofTry ok, q⟩
    | cont =>
      obtain ⟨σ', H', J, q⟩ := out
      exact ⟨σ', H', J.ofTry ok, q⟩
end

/-! ### _law_refused(lambda: ..): which error, its value -/
/-- the clauses' table: class, word -/
def tsRef (K : PySem.W.Frag) (i : Nat) (n lab : Str) : Addr → Value → Option Addr → TS := fun a cls d => tRet (tTup (tCons (tC (.str lab)) (tCons (tXf a cls d (He.ga K n) "value" (tVar i)) tNil)))
def wRef (K : PySem.W.Frag) (i : Nat) : List (Str × Str) → Ends → WX
  | [] => fun _ _ _ _ _ => False
  | p :: r => wThen K (.ref (He.ga K p.1)) i (tsRef K i p.1 p.2) (wRef K i r)
def exmAll (K : PySem.W.Frag) (l : List (Str × Str)) : Prop := ∀ p ∈ l, ∀ q ∈ l, PySem.W.exmOne K (.ref (He.ga K p.1)) (.ref (He.ga K q.1)) = some (decide (p.1 = q.1))
theorem wRef_hit {K : PySem.W.Frag} {i : Nat} {D : Ends} {dd : Addr} {v : V} {σ : L2.St} {H : Hp} {p : Str × Str} : ∀ {l m : List (Str × Str)}, exmAll K m → (∀ q ∈ l, q ∈ m) → p ∈ l → p ∈ m → (l.map (·.1)).Nodup → i < σ.length → H dd = some (.xd [(("value" : Str), v)]) →
    (∀ l, H l = none → D.rt (.ref l) (upd H l (.tup [.str p.2, v]))) → wRef K i l D (.ref (He.ga K p.1)) (some dd) σ H
  | [], _, _, _, h, _, _, _, _, _ => by cases h
  | q :: r, m, hx, hs, h, hm, hn, hi, hd, hq => by
    refine ⟨decide (p.1 = q.1), hx p hm q (hs q (by simp)), fun hb a ha => ?_, fun hb => ?_⟩
    · have e : p.1 = q.1 := of_decide_eq_true hb
      have e2 : q = p := by
        rcases List.mem_cons.mp h with z | z
        · exact z.symm
        · rw [List.map_cons, List.nodup_cons] at hn
          exact absurd (List.mem_map.mpr ⟨p, z, e⟩) hn.1
      subst e2
      refine ⟨.ref a, ?_, rfl, rfl, dd, _, v, rfl, hd, rfl, by show 2 ≤ sizeLine; decide, fun l hl => hq l hl⟩
      rw [List.getElem?_set_self hi]
    · have e : ¬ p.1 = q.1 := of_decide_eq_false hb
      rw [List.map_cons, List.nodup_cons] at hn
      refine wRef_hit hx (fun z hz => hs z (by simp [hz])) ?_ hm hn.2 hi hd hq
      rcases List.mem_cons.mp h with z | z
      · rw [z] at e
        exact absurd rfl e
      · exact z
def TRef (K : PySem.W.Frag) (l : List (Str × Str)) : (XK → Hp → VK → Prop) → Hp → VK → Prop := fun tl H Q =>
  tl (fun cls d H' => ∃ p ∈ l, ∃ dd v, cls = .ref (He.ga K p.1) ∧ d = some dd ∧ H' dd = some (.xd [(("value" : Str), v)]) ∧ ∀ l, H' l = none → Q (.ref l) (upd H' l (.tup [.str p.2, v]))) H
    (fun _ H' => 2 ≤ sizeLine ∧ ∀ l, H' l = none → Q (.ref l) (upd H' l (.tup [.str "", .non])))
theorem ref_gives {X : Cx} {x a e q : Str} {sg : Scope} {g : Addr} {cdg : Value} {l : List (Str × Str)} {h0 : ExceptHandler} {hds : List ExceptHandler} {p1 p2 p3 p4 p5 p6 p7 p8 : Pos} {j1 j2 k3 : Nat} (hx : exmAll X.K l) (hn : (l.map (·.1)).Nodup)
    (hd : ∀ (f : Addr) (s : Shared) (H : Hp), Does (cxOf C8.CX0 X.prog X.w X.K X.mg X.base [a, e] x sg g cdg X.A X.stack s H C8.E0).nox (h0 :: hds) (wRef X.K 1 l)) :
    LamX.GivesTo X [a, e] x sg g cdg [.Try [.Expr (.Call (.Name a p1) [] [] p2) p3] (h0 :: hds) [] [] p4, .Return (some (.Tuple [.Constant (.str "") j1 p5, .Constant .none j2 p6] k3 p7)) p8] a q (TRef X.K l) := by
  intro f c' s H Q tl act hc h
  refine ⟨_, pss_cons (ps_tries (X := (cxOf C8.CX0 X.prog X.w X.K X.mg X.base [a, e] x sg g cdg X.A X.stack s H C8.E0).nox)
    (W := fun D cls d σ H => σ.length = 2 → wRef X.K 1 l D cls d σ H) (tb := fun W D σ H => ∃ Ech : XK, (∀ cls d σ' H', Ech cls d H' → W cls d σ' H') ∧ σ[0]? = some (some (.ref f)) ∧ H c' = some (LamX.CodeO c' q) ∧ tl Ech H fun _ H' => D.nx σ H') rfl rfl (fun W pn xe tk => ?_) (does_len (hd f s H)))
    (pss_one (ps_ret (pe_tup (pa_cons pe_str (pa_cons pe_non pa_nil))))), ?_⟩
  · refine ⟨fun pins s' σ H' D I ⟨Ech, hW, h1, h2, h3⟩ => ?_⟩
    have hp := act W pn xe Ech p1 p2 tk hW
    exact (pss_one (ps_expr (pos := p3) hp)).run pins s' σ H' D I ⟨h1, h2, h3⟩
  · refine ⟨fun cls d H' => ∃ p ∈ l, ∃ dd v, cls = .ref (He.ga X.K p.1) ∧ d = some dd ∧ H' dd = some (.xd [(("value" : Str), v)]) ∧ ∀ l, H' l = none → Q (.ref l) (upd H' l (.tup [.str p.2, v])), fun cls d σ' H' ⟨p, hp, dd, v, e1, e2, h1, h2⟩ hl => ?_, rfl, hc, ?_⟩
    · subst e1 e2
      exact wRef_hit hx (fun _ z => z) hp hp hn (by omega) h1 h2
    · exact h
end Sd
end
-- SdLaw
section
set_option Elab.async false
set_option linter.all false
set_option maxRecDepth 100000
set_option maxHeartbeats 4000000
set_option autoImplicit false
namespace Sd
open PySem PySem.Spec PyProof.Rows L2
open Evl (Ex)

/-! ### _law_refused(lambda: ..) over data -/
theorem Fm.extN {K : PySem.W.Frag} {F : Fs} {B H H1 : Hp} (e : Ex B H) (f : Fok K F B H) (x : LamX.ExtN H H1) (t : LamX.Tabs F.tabs H1) : Fm K F B H B H1 := by
  refine ⟨Ex.refl B, fun a u h => x a u (e a u h) fun ps z => f.nt a ps (by rw [h, z]), fun a h1 ⟨u, h2, h3⟩ => ⟨h1, fun _ => (x a u h2 h3).trans h2.symm⟩, fun r sa hr => ?_, t, f.tb, f.nt⟩
  obtain ⟨h1, h2, i, s, c, h3, h4⟩ := f.row r sa hr
  exact ⟨h1, h2, i, s, c, x r _ h3 (fun ps z => by cases z), h4⟩
/-- the slots that a lambda may look at -/
def noOwn : Sl → Sl
  | .own _ => .un
  | s => s
theorem Stt.root {K : PySem.W.Frag} {G : Gx} {σ : L2.St} {B H : Hp} {δ : List Sl} (s : Stt K G σ B H δ) : Stt K ⟨G.F, B, H⟩ σ B H (δ.map noOwn) := by
  refine ⟨.refl s.e s.f, by rw [List.length_map]; exact s.len, fun i t h => ?_, fun i j ds es _ h1 _ => ?_⟩
  · rw [List.getElem?_map, Option.map_eq_some_iff] at h
    obtain ⟨z, hz, rfl⟩ := h
    obtain ⟨o, e, k⟩ := s.sl i z hz
    refine ⟨o, e, ?_⟩
    cases z with
    | un => exact True.intro
    | dat d => exact k
    | own ds => exact True.intro
  · rw [List.getElem?_map, Option.map_eq_some_iff] at h1
    obtain ⟨z, _, e⟩ := h1
    cases z <;> cases e
def deRefused (l : List (Str × Str)) (db : (Str → D → Prop) → DE) : DE := fun δ P => db (fun n d => ∃ lab, l.lookup n = some lab ∧ P (.tup [.str lab, d])) (δ.map noOwn) fun _ => P (.tup [.str "", .non])
theorem mem_of_lookup {l : List (Str × Str)} {n lab : Str} (h : l.lookup n = some lab) : (n, lab) ∈ l := by
  induction l with
  | nil => cases h
  | cons p r ih =>
    obtain ⟨a, b⟩ := p
    rw [List.lookup_cons] at h
    split at h
    · rename_i e
      cases h
      rw [eq_of_beq e]
      exact List.mem_cons_self
    · exact List.mem_cons_of_mem _ (ih h)
/-- what the lambda's body wants: over data, from any entry -/
def lamT (K : PySem.W.Frag) (F : Fs) (db : (Str → D → Prop) → DE) : XK → TE := fun E σ H Q => ∃ (G' : Gx) (Xc : Str → D → Prop), G'.F = F ∧ DlvX K G' Xc E ∧ teOf K G' (db Xc) σ H Q
theorem pd_refused {X : Cx} {G : Gx} {l : List (Str × Str)} {db : (Str → D → Prop) → DE} {e : Expr} (h : PE X e (LamX.tLam G.F.tabs (TRef X.K l) (lamT X.K G.F db))) : PEd X G e (deRefused l db) :=
  PE.imp h fun σ H Q ⟨B, δ, P, s, h, q⟩ => ⟨s.f.tab, fun H1 eN T1 => by
    have m1 := Fm.extN s.e s.f eN T1
    refine ⟨⟨G.F, B, H1⟩, _, rfl, fun n d dd v B' H' ⟨lab, hl, p⟩ m hd r => ?_, B, _, _, (s.mono m1).root, h, fun v d B' H' m p _ => ?_⟩
    · refine ⟨by decide, fun t ht => ?_⟩
      have m2 := Fm.new (o := .tup [.str "", .non]) m.e m.f ht
      exact q _ _ _ _ ((m1.trans m).trans m2) p (.tup (SqT.of upd_same) (.cons (.str "") (.cons .non .nil)))
    · refine ⟨(n, lab), mem_of_lookup hl, dd, v, rfl, rfl, m.e _ _ hd, fun t ht => ?_⟩
      have m2 := Fm.new (o := .tup [.str lab, v]) m.e m.f ht
      exact q _ _ _ _ ((m1.trans m).trans m2) p (.tup (SqT.of upd_same) (.cons (.str lab) (.cons (r.mono m2.b) .nil)))⟩
/-- derivations for every entry give the lambda's body -/
theorem lam_body {Y : Cx} {F : Fs} {db : (Str → D → Prop) → DE} {E : XK} {e : Expr} (h : ∀ (G' : Gx) (Xc : Str → D → Prop), G'.F = F → DlvX Y.K G' Xc E → PEd Y G' e (db Xc)) : PE Y e (lamT Y.K F db E) :=
  ⟨fun pins s σ H Q I ⟨G', Xc, e1, e2, e3⟩ => (h G' Xc e1 e2).run pins s σ H Q I e3⟩
/-- what is raised in a lambda's body reaches who called it -/
theorem lam_takes {X : Cx} {A : Around} {outer : List Env} {s : Shared} {H : Hp} {E : XK} {scope : Scope} {f c' : Addr} : Takes (LamX.lamCx X A outer s H E scope f c') (fun cls d _ H => E cls d H) := takes_of rfl rfl rfl rfl
theorem lam_passes {X : Cx} {A : Around} {outer : List Env} {s : Shared} {H : Hp} {E : XK} {scope : Scope} {f c' : Addr} : Passes (L2.CX X.prog X.w) (LamX.lamCx X A outer s H E scope f c') E := passes_call lam_takes (fun _ _ _ _ z => z)

/-! ### calls of a name that holds a def -/
def deCallV (i : Nat) (a : Addr) (sp : DSp) (F : Fs) (Xc : Str → D → Prop) (da : DA) : DE := fun δ P => δ[i]? = some (.dat (.raw (.ref a))) ∧ deCall sp F Xc [] da δ P
def deOrE (d1 d2 : DE) : DE := fun δ P => d1 δ P ∨ d2 δ P
section
variable {X : Cx} {G : Gx} {k j i : Nat} {x y : Str} {sp : DSp} {e : Expr} {es : List Expr} {da : DA} {d1 d2 : DE} {p pos : Pos} {Xc : Str → D → Prop} {E : XK}
theorem pd_callV {a : Addr} (c : Cl X.prog X.w X.K X.mg X.base k y sp []) (hg : X.mg y = some (.ref a)) (hr : Room j X.A) (hk : k ≤ j) (hE : DlvX X.K G Xc E) (hx : Passes (L2.CX X.prog X.w) X E) (hN : X.N[i]? = some x) (hv : Vis X.env.scope x) (ha : PAd X G (e :: es) da)
    (hdb : (x == ("__debug__" : Str)) = false := by decide) (hcd : (x == ("__classdict__" : Str)) = false := by decide) (he : starEach (e :: es) X.env = (false, eval e X.env) :: starEach es X.env := by rfl) (hpl : (backTo pos (starEach es X.env)).any (·.1) = false := by rfl) :
    PEd X G (.Call (.Name x p) (e :: es) [] pos) (deCallV i a sp G.F Xc da) := by
  obtain ⟨f, fd, ps, ds, dvs, F, hm, kp, hb, hv2, hn⟩ := c.ex
  rw [hg] at hm
  cases hm
  have z1 := hn (fun _ => none)
  cases z1
  cases hv2
  exact PE.imp (pe_callL (i := i) F (hr.mono hk) hN hv kp hb .nil hx ha hdb hcd he hpl) fun σ H Q ⟨B, δ, P, s, ⟨hd, h⟩, q⟩ => by
    obtain ⟨v, hv, r⟩ := s.dat hd
    cases r
    exact ⟨hv, B, δ, _, s, h, fun vs ds B1 H1 m1 p1 r1 => ⟨G.F, B1, ds ++ [], _, m1.e, m1.f, r1.app .nil, p1, fun v d B' H' m2 o r => q v d B' H' (m1.trans m2) o r, fun n d dd v B' H' o m2 h1 r => hE n d dd v B' H' o (s.fm.trans (m1.trans m2)) h1 r⟩⟩
theorem pd_orE (h1 : PEd X G e d1) (h2 : PEd X G e d2) : PEd X G e (deOrE d1 d2) := ⟨fun pins s σ H Q I ⟨B, δ, P, st, h, q⟩ => h.elim (fun h => h1.run pins s σ H Q I ⟨B, δ, P, st, h, q⟩) fun h => h2.run pins s σ H Q I ⟨B, δ, P, st, h, q⟩⟩
end
end Sd
end
-- SdEq
section
set_option Elab.async false
set_option linter.all false
set_option maxRecDepth 100000
set_option maxHeartbeats 4000000
set_option autoImplicit false
/-! == and != of lines -/
namespace PySem
open PySem PySem.W Builtin
section
variable {prog : Program} {w : World} {A : Around} {E : Value → Shared → Prop} {s : Shared} {K : Frag} {x C : Addr} {ox : Obj} {od : Option Obj} {f : Addr} {b : Value}
/-- a built-in that a class inherits, called by its special name -/
theorem sdq_bound {M : Model} {name : Str} {id : String} {T : String} {args : List Value} {Q : Option Value → Shared → Prop} (X : K.In s.heap) (I : InstAt s.heap x ox C od) (hs : findIn K (.ref C) name = some (some (.builtin id))) (S : Slot T name id)
    (h : wpAny M A (call (.builtin id) (.ref x :: args)) (fun v => Q (some v)) E s) : wpAny M A (callSpecialIfBound? (.ref x) name args) Q E s := by
  simp only [callSpecialIfBound?, bindSpecialIfBound?]
  refine wpAny_holding (wpAny_bind (wpAny_bind (wpAny_bind (I.type.here ((looks_findIn X hs).here ?_)))))
  simp only [S.bind]
  refine wpAny_bind (wpAny_askSetting (wpAny_ite ?_))
  have last : wpAny M A (call (.builtin id) ([.ref x] ++ args) >>= fun v => pure (some v)) Q E s := wpAny_bind (wpAny_mono h (fun _ _ q => wpAny_pure q) fun _ _ q => q)
  split
  · exact wpAny_bind (wpAny_pure (wpAny_pure last))
  · exact wpAny_tryCatch (wpAny_bind (wpAny_pure (wpAny_pure last)))
theorem sdq_check {M : Model} {id owner n : String} {rest : List Value} {Q : Unit → Shared → Prop} (X : K.In s.heap) (I : InstAt s.heap x ox C od) (hk : builtinKind id = some .slot) (hs : splitId id = some (owner, n)) (ha : argsOk id ⟨.ref x :: rest, []⟩)
    (ho : subIn K (.ref C) (.type owner) = some true) (q : Q () s) : wpAny M A (checkBuiltinCall id ⟨.ref x :: rest, []⟩) Q E s := by
  simp only [checkBuiltinCall, hk, hs]
  refine wpAny_bind ?_
  unfold isInstance
  refine wpAny_bind (I.type.here ((looks_subIn X ho).here ?_))
  simp only [Bool.not_true, Bool.false_eq_true, if_false]
  cases hsig : Manifest.signature? id with
  | none => exact wpAny_pure (by first | exact q | exact wpAny_pure q)
  | some sig =>
    simp only [argsOk, hsig] at ha
    have e : Bind.checkArgs id sig ⟨.ref x :: rest, []⟩ = pure () := ha
    show wpAny M A (Bind.checkArgs id sig ⟨.ref x :: rest, []⟩) Q E s
    rw [e]
    exact wpAny_pure q
/-- x != b, where x's class tells only == -/
theorem sdq_ne {Q : Value → Shared → Prop} (X : K.In s.heap) (I : InstAt s.heap x ox C od) {tb : Value} (hb : Looks (model prog w) s.heap (typeOf b) tb) (hn : tb = .ref C ∨ subIn K tb (.ref C) = some false) (hu : A.units + 1 < cLine)
    (hne : findIn K (.ref C) "__ne__" = some (some (.builtin "object.__ne__"))) (ho : subIn K (.ref C) (.type "object") = some true) (heq : findIn K (.ref C) "__eq__" = some (some (.ref f))) (hf : isFn K (.ref f) = true)
    (h : wpAny (model prog w) A.in1 (call (.ref f) [.ref x, b]) (fun v s' => ∃ r, v = .bool r ∧ Q (.bool (!r)) s') E s) : wpAny (model prog w) A (richCompare .NotEq (.ref x) b) Q E s := by
  have body : wpAny (model prog w) A.in1 (Builtin.«object.__ne__» ⟨[.ref x, b], []⟩) (fun fin s' => ∃ r, fin = .done (.ret (.bool (!r))) ∧ Q (.bool (!r)) s') E s := by
    unfold Builtin.«object.__ne__»
    repeat (first
      | with_reducible refine wpAny_cRoomFor (A := A.in1) hu ?_
      | (refine wpAny_bind (m := callSpecialIfBound? (.ref x) (Str.ofString "__eq__") [b]) (ifBound_K X I heq hf (wpAny_mono h (fun v s' hv => by
          obtain ⟨r, rfl, q⟩ := hv
          repeat (first | exact ⟨r, rfl, q⟩ | (refine wpAny_bind (m := truthy (.bool _)) (wpAny_truthy_bool ?_)) | wp_step)) fun _ _ z => z)))
      | wp_step)
  have one : wpAny (model prog w) A (tryCompare (.ref x) "__ne__" b) (fun r s' => ∃ v, r = some v ∧ Q v s') E s := by
    unfold tryCompare
    refine wpAny_bind (sdq_bound X I hne F.cmp_object.ne (wpAny_call (codeAny_call_builtin F.cmp_object.ne.plain F.cmpEntry_ne (sdq_check X I F.cmpKind_ne F.cmpSplit_ne (F.cmpArgs_ne _ _) ho (wpAny_mono body (fun fin s' hfin => ?_) fun _ _ z => z)))))
    obtain ⟨r, rfl, q⟩ := hfin
    exact wpAny_pure ⟨_, rfl, q⟩
  unfold richCompare
  simp only [oneThing_ref]
  refine wpAny_holding (wpAny_bind (wpAny_cRoomFor (Nat.lt_of_succ_lt hu) ?_))
  rw [cmpInfo_NotEq]
  dsimp only
  refine wpAny_bind (I.type.here (wpAny_bind (hb.here ?_)))
  split
  · rename_i q
    have e : subIn K tb (.ref C) = some false := by
      rcases hn with z | z
      · rw [z] at q
        simp at q
      · exact z
    refine wpAny_bind ((looks_subIn X e).here ?_)
    simp only [Bool.false_eq_true, if_false]
    refine wpAny_bind (wpAny_mono one (fun r s' z => ?_) fun _ _ z => z)
    obtain ⟨v, rfl, q⟩ := z
    exact wpAny_pure q
  · refine wpAny_bind (wpAny_pure ?_)
    simp only [Bool.false_eq_true, if_false]
    refine wpAny_bind (wpAny_mono one (fun r s' z => ?_) fun _ _ z => z)
    obtain ⟨v, rfl, q⟩ := z
    exact wpAny_pure q
end
end PySem
end
-- SdEq2
section
set_option Elab.async false
set_option linter.all false
set_option maxRecDepth 100000
set_option maxHeartbeats 4000000
set_option autoImplicit false
namespace Sd
open PySem PySem.Spec PyProof.Rows L2
open Evl (Ex)
/-- what is looked at of the class Line -/
def lineB (K : PySem.W.Frag) : Bool :=
  let C := He.ga K "Line"
  decide (PySem.W.findIn K (.ref C) "__class__" = some (some (.builtin "object.__class__"))) && decide (PySem.W.specialIn K (.builtin "object.__class__") "__get__" = some (some (.builtin "getset_descriptor.__get__"))) && decide (PySem.W.takesIn K (.builtin "object.__class__") = some true) &&
  decide (PySem.W.mroIn K C (.type "object") = some true) && decide (PySem.W.kitOne K (.type "tuple") (.ref C) = some false) && decide (PySem.W.kitOne K (.ref C) (.ref C) = some true) && decide (PySem.W.findIn K (.ref C) "__eq__" = some (some (.ref (He.fAd K ("Line", some "__eq__"))))) && PySem.W.isFn K (.ref (He.fAd K ("Line", some "__eq__"))) &&
  decide (PySem.W.findIn K (.ref C) "__ne__" = some (some (.builtin "object.__ne__"))) && decide (PySem.W.subIn K (.type "tuple") (.ref C) = some false) && decide (PySem.W.subIn K (.ref C) (.type "object") = some true)
structure LnF (K : PySem.W.Frag) : Prop where
  cc : PySem.W.findIn K (.ref (He.ga K "Line")) "__class__" = some (some (.builtin "object.__class__"))
  gt : PySem.W.specialIn K (.builtin "object.__class__") "__get__" = some (some (.builtin "getset_descriptor.__get__"))
  tk : PySem.W.takesIn K (.builtin "object.__class__") = some true
  mr : PySem.W.mroIn K (He.ga K "Line") (.type "object") = some true
  kt : PySem.W.kitOne K (.type "tuple") (.ref (He.ga K "Line")) = some false
  kl : PySem.W.kitOne K (.ref (He.ga K "Line")) (.ref (He.ga K "Line")) = some true
  eq : PySem.W.findIn K (.ref (He.ga K "Line")) "__eq__" = some (some (.ref (He.fAd K ("Line", some "__eq__"))))
  fn : PySem.W.isFn K (.ref (He.fAd K ("Line", some "__eq__"))) = true
  ne : PySem.W.findIn K (.ref (He.ga K "Line")) "__ne__" = some (some (.builtin "object.__ne__"))
  st : PySem.W.subIn K (.type "tuple") (.ref (He.ga K "Line")) = some false
  so : PySem.W.subIn K (.ref (He.ga K "Line")) (.type "object") = some true
theorem lineB_ok {K : PySem.W.Frag} (h : lineB K = true) : LnF K := by
  unfold lineB at h
  simp only [Bool.and_eq_true, decide_eq_true_eq] at h
  obtain ⟨⟨⟨⟨⟨⟨⟨⟨⟨⟨h1, h2⟩, h3⟩, h4⟩, h5⟩, h6⟩, h7⟩, h8⟩, h9⟩, h10⟩, h11⟩ := h
  exact ⟨h1, h2, h3, h4, h5, h6, h7, h8, h9, h10, h11⟩
/-! isinstance(x, Line) -/
def rdIsLn : D → (D → Prop) → Prop := fun d P => (∃ xs, d = .ln xs ∧ P (.bl true)) ∨ ∃ xs, d = .tup xs ∧ P (.bl false)
section
variable {X : Cx} {G : Gx} {e a b : Expr} {de da db : DE} {p p1 pos : Pos}
theorem pd_isLn (f : LnF X.K) (cl : Cls X.K (He.ga X.K "Line")) (hm : X.mg "isinstance" = none) (hl : X.mg "Line" = some (.ref (He.ga X.K "Line"))) (he : PEd X G e de) (hg : Gl X "isinstance" := by rfl) (hg1 : Gl X "Line" := by rfl)
    (hs : starEach [e, .Name "Line" p1] X.env = (false, eval e X.env) :: starEach [.Name "Line" p1] X.env := by rfl) (hs1 : starEach [.Name "Line" p1] X.env = (false, eval (.Name "Line" p1) X.env) :: starEach [] X.env := by rfl)
    (hpl : (backTo pos (starEach [.Name "Line" p1] X.env)).any (·.1) = false := by rfl) : PEd X G (.Call (.Name "isinstance" p) [e, .Name "Line" p1] [] pos) (de1 rdIsLn de) :=
  PE.imp (pe_callB call_isi hg hm (by decide +kernel) (pa_cons he (pa_cons (pe_glob (v := .ref (He.ga X.K "Line")) hg1 hl rfl) pa_nil hs1) hs) (he := hs) (hpl := hpl)) fun σ H Q ⟨B, δ, P, s, h, q⟩ =>
    ⟨B, δ, _, s, h, fun v d B1 H1 m1 hd r1 => by
      rcases hd with ⟨xs, rfl, p⟩ | ⟨xs, rfl, p⟩
      · cases r1 with
        | ln h1 h2 hf ht ra => exact ⟨_, .ref (He.ga X.K "Line"), .ref (He.ga X.K "Line"), .ref (He.ga X.K "Line"), true, rfl, .own _, .base (.ins (m1.e _ _ h1) cl f.cc f.gt f.tk f.mr), f.kl, q _ _ B1 H1 m1 p (.bl _)⟩
      · have ty : TyX X.K H1 v (.type "tuple") := r1.ty m1.e (t := "tuple") rfl
        exact ⟨v, .ref (He.ga X.K "Line"), .type "tuple", .ref (He.ga X.K "Line"), false, rfl, .own _, ty, f.kt, q _ _ B1 H1 m1 p (.bl _)⟩⟩
/-! == and != -/
/-- a def run from below the body: k deep enough -/
theorem run_at {CX : CXT} {k : Nat} {f : Addr} {fd : FuncData} {ps : List Str} {sp : Sp} {E : XK} {A : Around} {pins : List (Addr × Obj)} {σ : L2.St} {H : Hp} {s : Shared} {Q : VK} {us : List Value} {vs : List V} (F : FnOk X.prog X.w X.K X.mg X.base CX k f fd ps sp) (hr : Room k A) (hA : A.frames = X.A.frames)
    (hb : Binds X.K fd ps []) (hx : Passes CX X E) (I : Inv X pins σ H s) (r : Vals vs us) (h : sp vs H Q E) : wpAny (model X.prog X.w) A (call (.ref f) us) (EP X pins σ Q) X.xe s := by
  have e := I.env0
  have e0 : Env0 X.prog X.w X.K X.mg X.base A X.stack s H := ⟨by rw [hA]; exact e.frames, e.mod, e.bs, e.bsz, e.funs, e.frf, e.hok, e.bare⟩
  have hl : us.length = ps.length := by rw [← r.length]; exact F.len _ _ _ _ h
  have bt := hb s us I.kIn (by rw [List.append_nil]; exact hl)
  rw [List.append_nil] at bt
  refine wpAny_call (codeAny_mono (F.run A X.stack s H ⟨us, []⟩ us vs Q E hr e0 bt r h) fun out s' hq => ?_)
  cases out with
  | error u => exact hx pins σ H s u s' I hq
  | ok fl =>
    cases fl with
    | ret u => exact I.after hq
    | next => exact False.elim hq
    | brk => exact False.elim hq
    | cont => exact False.elim hq
/-- Line.__eq__ -/
def sp_eqLine : DSp := fun _ ds O => ∃ xs d, ds = [.ln xs, d] ∧ ((∃ ys, d = .ln ys ∧ (D.tup xs).eqOk = true ∧ (D.tup ys).eqOk = true ∧ O (.ret (.bl ((D.tup xs).eqv (.tup ys))))) ∨ ∃ ys, d = .tup ys ∧ O (.ret (.bl false)))
structure LnEq (P : Program) (w : World) (K : PySem.W.Frag) (mg : Str → Option Value) (base : Heap) (k : Nat) : Prop where
  f : LnF K
  ex : ∃ fd : FuncData, FnOk P w K mg base (L2.CX P w) k (He.fAd K ("Line", some "__eq__")) fd ["self", "other"] (spD K sp_eqLine) ∧ Binds K fd ["self", "other"] []
def rdEqL : D → D → (D → Prop) → Prop := fun x y P => ∃ xs ys, x = .ln xs ∧ y = .ln ys ∧ (D.tup xs).eqOk = true ∧ (D.tup ys).eqOk = true ∧ P (.bl ((D.tup xs).eqv (.tup ys)))
def rdNeL : D → D → (D → Prop) → Prop := fun x y P => ∃ xs ys, x = .ln xs ∧ y = .tup ys ∧ P (.bl true)
theorem op_eqL {k : Nat} (c : LnEq X.prog X.w X.K X.mg X.base k) (hr : Room k X.A) : OpR X (compareOp .Eq) (fun x y H Q => ∃ a b dx dy fs gs, x = .ref a ∧ y = .ref b ∧ H a = some (.ins (He.ga X.K "Line") dx fs) ∧ H b = some (.ins (He.ga X.K "Line") dy gs) ∧ spD X.K sp_eqLine [x, y] H (fun v H' => (∃ r, v = .bl r) ∧ Q v H') E0) := by
  obtain ⟨fd, F, hb⟩ := c.ex
  intro pins s σ H x y v u Q I rx ry ⟨a, b, dx, dy, fs, gs, ex, ey, ha, hb', h⟩
  subst ex ey
  cases rx
  cases ry
  obtain ⟨mA, J, _⟩ := ins_get I.hok ha
  obtain ⟨mB, J', _⟩ := ins_get I.hok hb'
  obtain ⟨od, J, _⟩ := J.look
  obtain ⟨od', J', _⟩ := J'.look
  obtain ⟨m, hF⟩ := I.fr
  show wpAny (model X.prog X.w) X.A (richCompare .Eq (.ref a) (.ref b)) (EP X pins σ Q) X.xe s
  refine PySem.W.cmp_K (op := .Eq) (tb := .ref (He.ga X.K "Line")) hr.units0 hF I.ok.mod.kin J J'.type (by simp [PySem.W.notFirst]) c.f.eq c.f.fn ?_
  have rv : Vals [V.ref a, V.ref b] [Value.ref a, Value.ref b] := .cons rfl (.cons rfl .nil)
  refine wpAny_mono (run_at (A := X.A) F hr rfl hb (E := E0) passL I rv h) (fun w' s' ⟨z, H', I', rz, ⟨r, ez⟩, q⟩ => ?_) fun _ _ z => z
  subst ez
  cases rz
  exact ⟨.bl r, H', I', rfl, q⟩
theorem op_neL {k : Nat} (c : LnEq X.prog X.w X.K X.mg X.base k) (hr : Room (k + 1) X.A) : OpR X (compareOp .NotEq) (fun x y H Q => ∃ a b dx fs ys, x = .ref a ∧ y = .ref b ∧ H a = some (.ins (He.ga X.K "Line") dx fs) ∧ SqT X.K H b ys ∧ spD X.K sp_eqLine [x, y] H (fun v H' => ∃ r, v = .bl r ∧ Q (.bl (!r)) H') E0) := by
  obtain ⟨fd, F, hb⟩ := c.ex
  intro pins s σ H x y v u Q I rx ry ⟨a, b, dx, fs, ys, ex, ey, ha, hb', h⟩
  subst ex ey
  cases rx
  cases ry
  obtain ⟨mA, J, _⟩ := ins_get I.hok ha
  obtain ⟨od, J, _⟩ := J.look
  obtain ⟨its, _, ⟨o, e1, e2, _⟩, _⟩ := I.tuple hb'
  have LT : PySem.W.Looks (model X.prog X.w) s.heap (typeOf (.ref b)) (.type "tuple") := fun A Q E s' k q => wpAny_typeOf_ref (k _ _ e1) (by rw [e2]; exact q)
  show wpAny (model X.prog X.w) X.A (richCompare .NotEq (.ref a) (.ref b)) (EP X pins σ Q) X.xe s
  refine PySem.sdq_ne I.kIn J LT (.inr c.f.st) (by have := hr.un; omega) c.f.ne c.f.so c.f.eq c.f.fn ?_
  have rv : Vals [V.ref a, V.ref b] [Value.ref a, Value.ref b] := .cons rfl (.cons rfl .nil)
  refine wpAny_mono (run_at (A := X.A.in1) F hr.in1 rfl hb (E := E0) passL I rv h) (fun w' s' ⟨z, H', I', rz, r, ez, q⟩ => ?_) fun _ _ z => z
  subst ez
  cases rz
  exact ⟨r, rfl, .bl _, H', I', rfl, q⟩
theorem pd_eqL {k j : Nat} (c : LnEq X.prog X.w X.K X.mg X.base k) (hr : Room j X.A) (hk : k ≤ j) (ha : PEd X G a da) (hb : PEd X G b db) : PEd X G (.Compare a [.Eq] [b] pos) (de2 rdEqL da db) :=
  pd_cmp (op_eqL c (hr.mono hk)) (fun x y d e B H P Q he hf rx ry ⟨xs, ys, h1, h2, k1, k2, p⟩ q => by
    subst h1 h2
    have rx' := rx
    have ry' := ry
    cases rx with
    | ln a1 a2 a3 a4 a5 =>
    cases ry with
    | ln b1 b2 b3 b4 b5 =>
      exact ⟨_, _, _, _, _, _, rfl, rfl, he _ _ a1, he _ _ b1, G.F, B, [.ln xs, .ln ys], (fun o => o = .ret (.bl ((D.tup xs).eqv (.tup ys)))), he, hf, .cons rx' (.cons ry' .nil), ⟨xs, .ln ys, rfl, .inl ⟨ys, rfl, k1, k2, rfl⟩⟩, fun v d B' H' m o r => by
        cases o
        cases r
        exact ⟨⟨_, rfl⟩, q _ _ B' H' m p (.bl _)⟩, fun n d dd v B' H' o => by cases o⟩) ha hb (nomark _)
theorem pd_neL {k j : Nat} (c : LnEq X.prog X.w X.K X.mg X.base k) (hr : Room j X.A) (hk : k + 1 ≤ j) (ha : PEd X G a da) (hb : PEd X G b db) : PEd X G (.Compare a [.NotEq] [b] pos) (de2 rdNeL da db) :=
  pd_cmp (op_neL c (hr.mono hk)) (fun x y d e B H P Q he hf rx ry ⟨xs, ys, h1, h2, p⟩ q => by
    subst h1 h2
    have rx' := rx
    have ry' := ry
    cases rx with
    | ln a1 a2 a3 a4 a5 =>
    cases ry with
    | tup b1 b5 =>
      exact ⟨_, _, _, _, _, rfl, rfl, he _ _ a1, exT he b1, G.F, B, [.ln xs, .tup ys], (fun o => o = .ret (.bl false)), he, hf, .cons rx' (.cons ry' .nil), ⟨xs, .tup ys, rfl, .inr ⟨ys, rfl, rfl⟩⟩, fun v d B' H' m o r => by
        cases o
        cases r
        exact ⟨_, rfl, q _ _ B' H' m p (.bl _)⟩, fun n d dd v B' H' o => by cases o⟩) ha hb (nomark _)
end
end Sd
end
-- SdRepr
section
set_option Elab.async false
set_option linter.all false
set_option maxRecDepth 100000
set_option maxHeartbeats 4000000
set_option autoImplicit false
namespace Sd
open PySem PySem.Spec PyProof.Rows L2
open Evl (Ex)
/-! ### repr of small data -/
def D.rok : Nat → D → Bool
  | _, .non => true
  | _, .bl _ => true
  | _, .int i => decide (i.natAbs < 1000000)
  | _, .str s => PyData.strOk s && decide (s.cps.size ≤ 100)
  | n + 1, .lst xs => decide (xs.length ≤ 30) && xs.all (D.rok n)
  | n + 1, .tup xs => decide (xs.length ≤ 30) && xs.all (D.rok n)
  | _, _ => false
def wB : Nat → Nat
  | 0 => 100
  | n + 1 => 30 * (wB n + 1)
structure Shw (n : Nat) (d : D) : Prop where
  p : d.plain = true
  c : d.py.canLay0 = true
  t : d.py.depth ≤ n
  w : d.py.weight ≤ wB n
  i : d.py.intsShort 13 = true
  s : d.py.showable = true
  h : d.py.hasDict = false
theorem wB_le : ∀ n : Nat, 100 ≤ wB n
  | 0 => Nat.le_refl _
  | n + 1 => by
    have := wB_le n
    show 100 ≤ 30 * (wB n + 1)
    omega
theorem log_lt {i : Int} (h : i.natAbs < 1000000) : i.natAbs.log2 < 20 := by
  by_cases h0 : i.natAbs = 0
  · rw [h0]
    decide
  · exact (Nat.log2_lt h0).mpr (by omega)
theorem shw_leaf (n : Nat) (d : D) (h : d.rok n = true) (hl : d.seq = none) : Shw n d := by
  have w0 := wB_le n
  cases d with
  | non => exact ⟨rfl, rfl, Nat.zero_le _, Nat.zero_le _, rfl, rfl, rfl⟩
  | bl b => exact ⟨rfl, rfl, Nat.zero_le _, Nat.zero_le _, rfl, rfl, rfl⟩
  | int i =>
    have hi : i.natAbs < 1000000 := by cases n <;> simpa [D.rok] using h
    have hlog := log_lt hi
    refine ⟨rfl, rfl, Nat.zero_le _, ?_, ?_, ?_, rfl⟩
    · simp only [D.py, PyData.weight]
      split <;> omega
    · simp only [D.py, PyData.intsShort, decide_eq_true_eq]
      show (Str.ofString (toString i)).length ≤ 13
      rw [PySem.ofString_length]
      have := int_text_length_le10 (a := i) (k := 6) (by decide) (by omega)
      omega
    · simp only [D.py, PyData.showable, decide_eq_true_eq]
      omega
  | str z =>
    have hz : PyData.strOk z = true ∧ z.cps.size ≤ 100 := by cases n <;> simpa [D.rok] using h
    exact ⟨rfl, hz.1, Nat.zero_le _, Nat.le_trans hz.2 w0, rfl, rfl, rfl⟩
  | lst xs => cases hl
  | tup xs => cases hl
  | raw v => cases n <;> cases h
  | dct => cases n <;> cases h
  | ln xs => cases n <;> cases h
theorem shw : ∀ (n : Nat) (d : D), d.rok n = true → Shw n d := by
  intro n
  induction n with
  | zero =>
    intro d h
    refine shw_leaf 0 d h ?_
    cases d <;> first | rfl | cases h
  | succ n ih =>
    have all : ∀ xs : List D, xs.all (D.rok n) = true → D.plainA xs = true ∧ PyData.canLayAll0 (D.pyA xs) = true ∧ PyData.depthAll (D.pyA xs) ≤ n ∧ PyData.weightAll (D.pyA xs) ≤ xs.length * (wB n + 1) ∧ PyData.intsShortAll 13 (D.pyA xs) = true ∧ PyData.showableAll (D.pyA xs) = true ∧ PyData.hasDictAll (D.pyA xs) = false := by
      intro xs
      induction xs with
      | nil => exact fun _ => ⟨rfl, rfl, Nat.zero_le _, Nat.zero_le _, rfl, rfl, rfl⟩
      | cons x xs ihx =>
        intro h
        rw [List.all_cons, Bool.and_eq_true] at h
        have q := ih x h.1
        obtain ⟨g1, g2, g3, g4, g5, g6, g7⟩ := ihx h.2
        refine ⟨by rw [D.plainA, q.p, g1]; rfl, by rw [D.pyA, PyData.canLayAll0, q.c, g2]; rfl, ?_, ?_, by rw [D.pyA, PyData.intsShortAll, q.i, g5]; rfl, by rw [D.pyA, PyData.showableAll, q.s, g6]; rfl, by rw [D.pyA, PyData.hasDictAll, q.h, g7]; rfl⟩
        · rw [D.pyA, PyData.depthAll]
          exact Nat.max_le.mpr ⟨q.t, g3⟩
        · rw [D.pyA, PyData.weightAll, List.length_cons, Nat.add_mul]
          have := q.w
          omega
    intro d h
    cases d with
    | lst xs =>
      simp only [D.rok, Bool.and_eq_true, decide_eq_true_eq] at h
      obtain ⟨g1, g2, g3, g4, g5, g6, g7⟩ := all xs h.2
      have gw : xs.length * (wB n + 1) ≤ 30 * (wB n + 1) := Nat.mul_le_mul_right _ h.1
      exact ⟨by simpa [D.plain] using g1, by simpa [D.py, PyData.canLay0] using g2, by simpa [D.py, PyData.depth] using g3, by simp only [D.py, PyData.weight, wB]; omega, by simpa [D.py, PyData.intsShort] using g5, by simpa [D.py, PyData.showable] using g6, by simpa [D.py, PyData.hasDict] using g7⟩
    | tup xs =>
      simp only [D.rok, Bool.and_eq_true, decide_eq_true_eq] at h
      obtain ⟨g1, g2, g3, g4, g5, g6, g7⟩ := all xs h.2
      have gw : xs.length * (wB n + 1) ≤ 30 * (wB n + 1) := Nat.mul_le_mul_right _ h.1
      exact ⟨by simpa [D.plain] using g1, by simpa [D.py, PyData.canLay0] using g2, by simpa [D.py, PyData.depth] using g3, by simp only [D.py, PyData.weight, wB]; omega, by simpa [D.py, PyData.intsShort] using g5, by simpa [D.py, PyData.showable] using g6, by simpa [D.py, PyData.hasDict] using g7⟩
    | _ => exact shw_leaf (n + 1) _ h rfl
theorem Shw.len {n : Nat} {d : D} (q : Shw n d) (hn : n ≤ 2) : d.py.shown.length ≤ sizeLine := by
  have hw : wB n ≤ wB 2 := by
    have : n = 0 ∨ n = 1 ∨ n = 2 := by omega
    rcases this with rfl | rfl | rfl <;> decide
  have l0 : d.py.layable0 = true := by
    unfold PyData.layable0
    have h1 := q.t
    have h2 := q.w
    have h3 : wB 2 ≤ 2 ^ 20 := by decide
    rw [q.c, decide_eq_true (show d.py.depth ≤ 64 by omega), decide_eq_true (show d.py.weight ≤ 2 ^ 20 by omega)]
    rfl
  have := PyProof.Rows.shown_le13 l0 q.i
  rw [sizeLine_eq]
  omega
theorem call_repr {X : Cx} (hg : X.A.guards = some []) (hu : X.A.units + 64 < cLine) : CallR X (.builtin "repr") (fun xs H Q => ∃ (a : Addr) (d : PyData), xs = [.ref a] ∧ Dp X.K H (.ref a) d ∧ d.showable = true ∧ d.hasDict = false ∧ d.depth ≤ 60 ∧ d.shown.length ≤ sizeLine ∧ Q (.str d.shown) H) := by
  intro pins s σ H xs us Q I r ⟨a, d, e, hd, h1, h2, h3, h4, q⟩
  subst e
  rw [Vals.ref1 r]
  obtain ⟨as, rd⟩ := Dp.reads I d (.ref a) (.ref a) hd rfl
  exact repr_of_reads' rd h1 (PyData.noDict_hsm h2) hg (by omega) (fun b o e => e) (fun h' u tk hk => ⟨.str d.shown, H, I.kept hk, ⟨u, rfl⟩, q⟩) h4
def rdRepr : List D → (D → Prop) → Prop := fun ds P => ∃ d, ds = [d] ∧ (d.isL || d.isU) = true ∧ d.rok 2 = true ∧ P (.str d.py.shown)
section
variable {X : Cx} {G : Gx} {e : Expr} {es : List Expr} {da : DA} {a b : Expr} {x y : DE} {p pos : Pos}
theorem pd_repr (hgd : X.A.guards = some []) (hu : X.A.units + 64 < cLine) (hm : X.mg "repr" = none) (ha : PAd X G (e :: es) da) (hg : Gl X "repr" := by rfl) (he : starEach (e :: es) X.env = (false, eval e X.env) :: starEach es X.env := by rfl) (hpl : (backTo pos (starEach es X.env)).any (·.1) = false := by rfl) :
    PEd X G (.Call (.Name "repr" p) (e :: es) [] pos) (deB rdRepr da) :=
  PE.imp (pe_callB (call_repr hgd hu) hg hm (by decide +kernel) ha (by decide) (by decide) he hpl) (teB fun xs ds B H P Q hb hf r ⟨d, h1, h2, h3, p⟩ q => by
    subst h1
    have sh := shw 2 d h3
    cases r with
    | cons rv rn =>
    cases rn
    have dp := dp_ex hb (rv.dp sh.p)
    have key : ∀ a : Addr, rv = rv → True := fun _ _ => trivial
    cases d with
    | lst zs =>
      cases rv with
      | lst g1 g2 => exact ⟨_, _, rfl, dp, sh.s, sh.h, by have := sh.t; omega, sh.len (Nat.le_refl _), q _ _ B H (.refl hb hf) p (.str _)⟩
    | tup zs =>
      cases rv with
      | tup g1 g2 => exact ⟨_, _, rfl, dp, sh.s, sh.h, by have := sh.t; omega, sh.len (Nat.le_refl _), q _ _ B H (.refl hb hf) p (.str _)⟩
    | _ => cases h2)
theorem op_neS : OpR X (compareOp .NotEq) (fun x y H Q => ∃ i j, x = .str i ∧ y = .str j ∧ Q (.bl (i != j)) H) := by
  intro pins s σ H x y v u Q I rx ry ⟨i, j, e1, e2, q⟩
  subst e1 e2
  obtain ⟨t, rfl⟩ := rx
  obtain ⟨t', rfl⟩ := ry
  exact PyProof.Rows.ne_str ⟨.bl _, H, I, rfl, q⟩
def rdNeS : D → D → (D → Prop) → Prop := fun x y P => ∃ i j, x = .str i ∧ y = .str j ∧ P (.bl (i != j))
theorem pd_neS (ha : PEd X G a x) (hb : PEd X G b y) : PEd X G (.Compare a [.NotEq] [b] pos) (de2 rdNeS x y) := pd_cmp op_neS (fun x y d e B H P Q he hf rx ry ⟨i, j, h1, h2, p⟩ q => by
  subst h1 h2
  cases rx
  cases ry
  exact ⟨i, j, rfl, rfl, q _ _ B H (.refl he hf) p (.bl _)⟩) ha hb (nomark _)
theorem ptd_neS (ha : PEd X G a x) (hb : PEd X G b y) : PTd X G (.Compare a [.NotEq] [b] pos) (dtV (de2 rdNeS x y)) := ptd_cmp op_neS (fun x y d e B H P Q he hf rx ry ⟨i, j, h1, h2, p⟩ q => by
  subst h1 h2
  cases rx
  cases ry
  exact ⟨i, j, rfl, rfl, q _ _ B H (.refl he hf) p (.bl _)⟩) ha hb (nomark _)
end
end Sd
end
-- SdEnd
section
set_option Elab.async false
set_option linter.all false
set_option maxRecDepth 100000
set_option maxHeartbeats 4000000
set_option autoImplicit false
/-! the end of a law whose def is run at the first caller only -/
namespace Sd
open PySem PySem.Spec PyProof.Rows L2
open LamX (TabB)
/-- what the law's def is asked at its one call: the script at a, the tables cs still empty, nothing else in the abstract heap -/
structure AtCall (P : Program) (w : World) (K : PySem.W.Frag) (mg : Str → Option Value) (cs : List (Addr × Addr)) (s1 : Shared) (a : Addr) (ns : List Int) (base : Heap) (H : Hp) : Prop where
  kin : K.In base
  glo : base.Ns mainGlobals mg
  tab : ∀ p ∈ cs, TabB base mg p.1 p.2
  env : Env0 P w K mg base callerA [] s1 H
  emp : ∀ p ∈ cs, H p.2 = some (.tbl #[])
  only : ∀ b u, H b = some u → (∃ p ∈ cs, p.2 = b) ∨ ∃ o xs, u = .frz o (.lst xs)
  scr : SqL K H a (ns.map V.int)
/-- the abstract heap at the call -/
def H0 (K : PySem.W.Frag) (cs : List (Addr × Addr)) (a : Addr) (vs : List Value) (ns : List Int) : Hp := fun b => if b ∈ cs.map (·.2) then some (.tbl #[]) else if b = a ∧ K.lookup a = none then some (.frz { cls := .type "list", data := .seq vs.toArray } (.lst (ns.map V.int))) else none
section
variable {K : PySem.W.Frag} {cs : List (Addr × Addr)} {a : Addr} {vs : List Value} {ns : List Int}
theorem H0_tab {b : Addr} (h : b ∈ cs.map (·.2)) : H0 K cs a vs ns b = some (.tbl #[]) := if_pos h
theorem H0_some {b : Addr} {u : HO} (h : H0 K cs a vs ns b = some u) : (b ∈ cs.map (·.2) ∧ u = .tbl #[]) ∨ (b ∉ cs.map (·.2) ∧ b = a ∧ K.lookup a = none ∧ u = .frz { cls := .type "list", data := .seq vs.toArray } (.lst (ns.map V.int))) := by
  unfold H0 at h
  by_cases h1 : b ∈ cs.map (·.2)
  · rw [if_pos h1] at h
    exact .inl ⟨h1, (Option.some.inj h).symm⟩
  · rw [if_neg h1] at h
    by_cases h2 : b = a ∧ K.lookup a = none
    · rw [if_pos h2] at h
      exact .inr ⟨h1, h2.1, h2.2, (Option.some.inj h).symm⟩
    · rw [if_neg h2] at h
      cases h
end
theorem law_at {P : Program} {w : World} {K : PySem.W.Frag} {mg mb : Str → Option Value} {fa a : Addr} {cs : List (Addr × Addr)} {s1 : Shared} {vs : List Value} {ns : List Int}
    (KX : K.In s1.heap) (hg : s1.heap.Ns mainGlobals mg) (hb : s1.heap.Ns builtinsNs mb) (hbb : ∀ x : Str, x ≠ "__name__" → mb x = bootBuiltins x) (hlim : s1.heap.NoLimit) (hgen : s1.gens = #[])
    (hT : ∀ p ∈ cs, s1.heap.get? p.2 = some { cls := .none, data := .fields #[] }) (nT : ∀ p ∈ cs, K.lookup p.2 = none) (hC : ∀ p ∈ cs, PySem.W.CodeHd s1.heap p.1 p.2)
    (hbm : ∃ (bm : Addr) (ob : Obj), mg "__builtins__" = some (.ref bm) ∧ bm ≠ builtinsNs ∧ s1.heap.get? bm = some ob ∧ ob.cls = .type "module" ∧ ob.dict = some builtinsNs ∧ ob.data = .plain)
    (ha : s1.heap.get? a = some { cls := .type "list", data := .seq vs.toArray }) (hi : IntsAre vs ns) (hl : ns.length ≤ sizeLine)
    (F : ∀ (base : Heap) (H : Hp), AtCall P w K mg cs s1 a ns base H → codeAny (model P w) callerA (.call (.ref fa) ⟨[.ref a], []⟩) (CR (L2.CX P w) [] P w H s1 (fun v _ => v = .bl true) E0) s1) :
    codeAny (model P w) callerA (.call (.ref fa) ⟨[.ref a], []⟩) (fun r s' => r = .ok (.ret (.bool true)) ∧ OldK s1.heap s'.heap ∧ s'.os = s1.os ∧ AllBare s'.gens) s1 := by
  have rv := vals_ints hi
  have tabAt : ∀ b ∈ cs.map (·.2), s1.heap.get? b = some { cls := .none, data := .fields #[] } ∧ K.lookup b = none := fun b hm => by
    obtain ⟨p, hp, rfl⟩ := List.mem_map.mp hm
    exact ⟨hT p hp, nT p hp⟩
  have aN : a ∉ cs.map (·.2) := fun z => by
    have q := (tabAt a z).1
    rw [ha] at q
    have q2 : Data.seq vs.toArray _ = Data.fields #[] := congrArg Obj.data (Option.some.inj q)
    cases q2
  -- what is tracked is a list or an empty table
  have plain : ∀ {b : Addr} {o : Obj}, s1.heap.get? b = some o → (∀ us n, o.data ≠ .seq us n) → o.data ≠ .fields #[] → H0 K cs a vs ns b = none := fun {b o} e k1 k2 => by
    cases q : H0 K cs a vs ns b with
    | none => rfl
    | some u =>
      rcases H0_some q with ⟨h1, _⟩ | ⟨_, h2, _⟩
      · rw [(tabAt b h1).1] at e
        cases e
        exact (k2 rfl).elim
      · rw [h2, ha] at e
        cases e
        exact (k1 _ _ rfl).elim
  have seen : ∀ {b : Addr} {o : Obj}, s1.heap.get? b = some o → (∀ us n, o.data ≠ .seq us n) → o.data ≠ .fields #[] → (hidT s1.heap (H0 K cs a vs ns)).get? b = some o := fun e k1 k2 => hidT_get e (plain e k1 k2)
  have nsAt : ∀ {b : Addr} {m : Str → Option Value}, s1.heap.Ns b m → (hidT s1.heap (H0 K cs a vs ns)).Ns b m := fun {b m} ⟨o, es, ep, e, d, r⟩ => ⟨o, es, ep, seen e (fun us n z => by rw [d] at z; cases z) (fun z => by rw [d] at z; cases z), d, r⟩
  have kin : K.In (hidT s1.heap (H0 K cs a vs ns)) := fun b o e => hidT_get (KX b o e) (by
    cases q : H0 K cs a vs ns b with
    | none => rfl
    | some u =>
      rcases H0_some q with ⟨h1, _⟩ | ⟨_, h2, h3, _⟩
      · rw [(tabAt b h1).2] at e
        cases e
      · rw [h2, h3] at e
        cases e)
  have tbs : ∀ p ∈ cs, TabB (hidT s1.heap (H0 K cs a vs ns)) mg p.1 p.2 := fun p hp => by
    have e0 := hT p hp
    refine ⟨?_, ?_, fun z => ?_⟩
    · obtain ⟨o, us, file, tf, flags, tg, inF, text, tt, g1, g2, g3, g4, g5, g6, g7, g8, g9, g10⟩ := hC p hp
      exact ⟨o, us, file, tf, flags, tg, inF, text, tt, seen g1 (fun us' n z => by rw [g3] at z; cases z) (fun z => by
        rw [g3] at z
        cases z
        simp at g4), g2, g3, g4, g5, g6, g7, g8, g9, g10⟩
    · obtain ⟨bm, ob, g1, g2, g3, g4, g5, g6⟩ := hbm
      refine ⟨bm, ob, g1, g2, fun z => ?_, fun z => ?_, seen g3 (fun us' n z => by rw [g6] at z; cases z) (fun z => by rw [g6] at z; cases z), g4, g5, g6⟩
      · obtain ⟨o, es, ep, e, d, _⟩ := hg
        rw [z, e] at g3
        cases g3
        rw [d] at g6
        cases g6
      · rw [z, e0] at g3
        cases g3
        cases g6
    · obtain ⟨o, es, ep, e, d, _⟩ := hg
      rw [z, e0] at e
      cases e
      cases d
  have hok : HOk P w (H0 K cs a vs ns) s1.heap := fun b u q => by
    rcases H0_some q with ⟨h1, rfl⟩ | ⟨_, h2, _, rfl⟩
    · exact (tabAt b h1).1
    · rw [h2]
      exact ⟨ha, by rw [List.length_map]; exact hl, vs, _, rv, ha⟩
  have env : Env0 P w K mg (hidT s1.heap (H0 K cs a vs ns)) callerA [] s1 (H0 K cs a vs ns) :=
    ⟨rfl, ⟨kin, nsAt hg, ⟨mb, nsAt hb, hbb⟩, let ⟨mc, h1, h2⟩ := hlim; ⟨mc, nsAt h1, h2⟩⟩, fun b o e => of_hidT e, Nat.le_of_eq (hidT_size _ _), trivial, fun b z => absurd (show b ∈ ([] : List Addr) from z) (by simp), hok, .of_eq hgen⟩
  have scr : SqL K (H0 K cs a vs ns) a (ns.map V.int) := by
    cases hk : K.lookup a with
    | none => exact .inl (.inr ⟨_, (if_neg aN).trans (if_pos ⟨rfl, hk⟩)⟩)
    | some o =>
      have e := KX a o hk
      rw [ha] at e
      cases e
      exact .inr ⟨_, vs.toArray, _, hk, rfl, rfl, rfl, by rw [List.size_toArray, hi.length]; exact hl, by simpa using rv⟩
  refine codeAny_mono (F _ _ ⟨kin, nsAt hg, tbs, env, fun p hp => H0_tab (List.mem_map.mpr ⟨p, hp, rfl⟩), fun b u q => ?_, scr⟩) fun r s' out => ?_
  · rcases H0_some q with ⟨h1, _⟩ | ⟨_, _, _, h4⟩
    · obtain ⟨p, hp, e⟩ := List.mem_map.mp h1
      exact .inl ⟨p, hp, e⟩
    · exact .inr ⟨_, _, h4⟩
  cases r with
  | error e =>
    obtain ⟨_, _, _, _, _, _, _, _, _, _, _, _, z⟩ := out
    exact z.elim
  | ok fl =>
    cases fl with
    | next => exact False.elim out
    | brk => exact False.elim out
    | cont => exact False.elim out
    | ret u =>
      obtain ⟨v, H', os, bare, un, hok', rel, ev⟩ := out
      have ev : v = .bl true := ev
      subst ev
      obtain rfl : u = Value.bool true := rel
      have kept : ∀ b o, b ∉ cs.map (·.2) → s1.heap.get? b = some o → s'.heap.get? b = some o := fun b o nb e => by
        cases q : H0 K cs a vs ns b with
        | none => exact un.keep b o e q (fun z => absurd (show b ∈ ([] : List Addr) from z) (by simp)) (by simp)
        | some u =>
          rcases H0_some q with ⟨h1, _⟩ | ⟨_, h2, h3, rfl⟩
          · exact (nb h1).elim
          · obtain ⟨g1, _⟩ := hok' b _ (un.frzs b _ _ q)
            obtain ⟨g2, _⟩ := hok b _ q
            rw [e] at g2
            cases g2
            exact g1
      have grown : ∀ b ∈ cs.map (·.2), ∃ more : Array Value, s'.heap.get? b = some { cls := .none, data := .fields more } := fun b hm => by
        obtain ⟨more, q⟩ := un.tbls b #[] (H0_tab hm)
        exact ⟨_, hok' b _ q⟩
      refine ⟨rfl, ⟨fun b o e => ?_, fun b o e => ?_⟩, os, bare⟩
      · by_cases hm : b ∈ cs.map (·.2)
        · obtain ⟨more, g⟩ := grown b hm
          obtain ⟨p, hp, ep⟩ := List.mem_map.mp hm
          rw [(tabAt b hm).1] at e
          cases e
          rw [← ep] at g ⊢
          exact .inr (.inl ⟨((hC p hp).tab (hT p hp)).isCodeTable, rfl, #[], more, rfl, by rw [Array.empty_append]; exact g⟩)
        · exact .inl (kept b o hm e)
      · by_cases hm : b ∈ cs.map (·.2)
        · obtain ⟨more, g⟩ := grown b hm
          exact ⟨_, g⟩
        · exact ⟨o, kept b o hm e⟩
/-- the end -/
theorem walk_at {l : PySem.W.OpenLaw} {n : Nat} {q : Program} {loose : List Str} {XP : (Str → Option Value) → Heap → Prop} {YP : World → Heap → Prop} {d : DefRec}
    (hn : l.most = some n) (hn2 : n ≤ sizeLine) (hdf : d.params.defaults = [])
    (F : ∀ (w : World) (mg : Str → Option Value) (fa : Addr) (h : Heap), YP w h → h.Ns mainGlobals mg → mg d.name = some (.ref fa) → ∃ (K : PySem.W.Frag) (cs : List (Addr × Addr)), K.In h ∧ (∀ p ∈ cs, h.get? p.2 = some { cls := .none, data := .fields #[] }) ∧ (∀ p ∈ cs, K.lookup p.2 = none) ∧ (∀ p ∈ cs, PySem.W.CodeHd h p.1 p.2) ∧
      ∀ (s1 : Shared) (a : Addr) (ns : List Int) (base : Heap) (H : Hp), s1.heap = h → ns.length ≤ n → AtCall l.prog w K mg cs s1 a ns base H → codeAny (model l.prog w) callerA (.call (.ref fa) ⟨[.ref a], []⟩) (CR (L2.CX l.prog w) [] l.prog w H s1 (fun v _ => v = .bl true) E0) s1) :
    PySem.W.WalkO q loose XP YP l.row.toRowW d [] (fun f vs => PySem.call f vs) := by
  refine Att.attach_callB hn hdf fun w s0 s1 mg mb fa o pm cd doc a vs ns G Y ho hd hcd hmg hobj hints hlen hbits hg => ?_
  obtain ⟨K, cs, KX, hT, nT, hC, hF⟩ := F w mg fa _ Y G.T.g hmg
  exact law_at KX G.T.g G.T.b G.T.builtins G.T.nolimit hg hT nT hC G.T.bmain hobj hints (Nat.le_trans hlen hn2) fun base H c => hF s1 a ns base H rfl hlen c
end Sd
end
-- SdMore
section
set_option Elab.async false
set_option linter.all false
set_option maxRecDepth 100000
set_option maxHeartbeats 4000000
set_option autoImplicit false
namespace Sd
open PySem PySem.Spec PyProof.Rows L2
open AutoSeq1 (wpAny_loadPart')
open MeetsSeq MeetsSeq2 MeetsSeq3 SeqRoads2
/-! a tuple once -/
theorem tuple_mul1 (l : Addr) (items : Array Value) (n : Nat) (dd : Option Addr) (sl : Array (Option Value)) (x : Int) (u : Tok) (hx : x = 1) :
    Meets (Builtin.«tuple.__mul__» ⟨[.ref l, .int x u], []⟩) (fun _ R s => s.heap.get? l = some { cls := .type "tuple", dict := dd, data := .seq items n, slots := sl } ∧ R (.ok (.ret (Value.ref l))) s) :=
  .of_wp fun prog w A R s h => by
    obtain ⟨hp, g, d, tk, os⟩ := s
    obtain ⟨hl, h⟩ := h
    have f1 := AutoSeq1.idx_int
    wp_walk using wpAny_loadPart' hl
    repeat (first
      | (refine wpAny_ite_false (decide_eq_false (by rw [hx]; decide)) ?_; wp_walk using wpAny_loadPart' hl)
      | (refine wpAny_ite_true (decide_eq_true (by rw [hx]; simp)) ?_; wp_walk using wpAny_loadPart' hl))
    exact ⟨_, rfl, h⟩
section
variable {X : Cx} {G : Gx} {a b : Expr} {da db : DE} {pos : Pos}
theorem op_repT1 : OpR X (binaryOp .Mult) (fun x y H Q => ∃ l xs, x = .ref l ∧ y = .int 1 ∧ SqT X.K H l xs ∧ Q (.ref l) H) := by
  intro pins s σ H x y v u Q I rx ry ⟨l, xs, e1, e2, hT, q⟩
  subst e1 e2
  cases rx
  obtain ⟨t, rfl⟩ := ry
  obtain ⟨its, r, ⟨⟨cls, dd, data, sl⟩, ho, hc, n, hd⟩, hs⟩ := I.tuple hT
  simp only at hc hd
  subst hc hd
  exact wpAny_binaryOp_repeat_ref (T := "tuple") (U := "int") (by decide) ⟨_, ho, rfl⟩ (fun s' => typeIs_int s' 1 t) noFill_tuple_mul F.fills_int_mul F.slot_int_rmul repeat_tuple F.slot_int_index.lookup
    (call_meets F.slot_int_rmul (typeIs_int s 1 t) F.entry_int_rmul (F.args_int_rmul_2 _ _) (int_rmul_tuple 1 t l its.toArray n dd sl)
      ⟨ho, rfl, ⟨_, ho, rfl⟩, call_meets F.slot_tuple_mul ⟨_, ho, rfl⟩ F.entry_tuple_mul (F.args_tuple_mul_2 _ _) (tuple_mul1 l its.toArray n dd sl 1 t rfl) ⟨ho, ⟨V.ref l, H, I, (show L2.RelV (V.ref l) (Value.ref l) from rfl), q⟩⟩⟩)
theorem OpR.or2 {m : Sem Value} {op : Value → Value → Sem Value} {r r' : R2} (h : OpR X op r) (h' : OpR X op r') : OpR X op (fun x y H Q => r x y H Q ∨ r' x y H Q) := fun pins s σ H x y v u Q I rx ry z => z.elim (fun z => h pins s σ H x y v u Q I rx ry z) fun z => h' pins s σ H x y v u Q I rx ry z
def rdRepT : D → D → (D → Prop) → Prop := fun x y P => ∃ xs n, x = .tup xs ∧ y = .int n ∧ xs ≠ [] ∧ xs.length ≤ 1000 ∧ 1 ≤ n ∧ n ≤ 1000 ∧ P (.tup (repD n xs))
theorem pd_repT (ha : PEd X G a da) (hb : PEd X G b db) : PEd X G (.BinOp a .Mult b pos) (de2 rdRepT da db) :=
  pd_op (OpR.or2 (m := pure .none) op_repT op_repT1) (fun x y d e B H P Q he hf rx ry ⟨xs, n, h1, h2, h3, h4, h5, h6, p⟩ q => by
    subst h1; subst h2
    cases rx with
    | @tup a0 vs0 ds0 hx ra =>
      cases ry
      by_cases h1 : n = 1
      · subst h1
        refine .inr ⟨_, _, rfl, rfl, exT he hx, q _ _ B H (.refl he hf) p ?_⟩
        have e : repD 1 xs = xs := by simp [repD]
        rw [e]
        exact .tup hx ra
      · refine .inl ⟨_, n, _, rfl, rfl, exT he hx, fun z => h3 (by
          have := ra.length
          rw [z] at this
          exact List.eq_nil_of_length_eq_zero this.symm), by omega, h6, by rw [ra.length]; exact h4, fun p' hp => ?_⟩
        have m2 := Fm.new (o := .tup (List.replicate n.toNat vs0).flatten) he hf hp
        exact q _ _ _ _ m2 p (.tup (SqT.of upd_same) ((ra.rep _).mono m2.b))) ha hb
/-- {} -/
theorem pd_dct : PEd X G (.Dict [] [] pos) (deC .dct) := PE.imp pe_dnewK fun σ H Q ⟨B, δ, P, s, h, q⟩ p hp => by
  have m2 := Fm.new (o := .dK []) s.e s.f hp
  exact q _ _ _ _ m2 h (.dct upd_same)
end
/-! in a lambda's body -/
section
variable {Y : Cx} {F : Fs} {B0 H0 : Hp} {k j i : Nat} {x y : Str} {sp : DSp} {dn : List D} {e : Expr} {es : List Expr} {da : DA} {p pos : Pos} {Xc : Str → D → Prop} {E : XK}
theorem lam_of {db : (Str → D → Prop) → DE} {E : XK} {e : Expr} (h : ∀ (B0 H0 : Hp) (Xc : Str → D → Prop), DlvX Y.K ⟨F, B0, H0⟩ Xc E → PEd Y ⟨F, B0, H0⟩ e (db Xc)) : PE Y e (lamT Y.K F db E) := lam_body fun G' Xc e1 e2 => by
  obtain ⟨F', B0, H0⟩ := G'
  cases e1
  exact h B0 H0 Xc e2
theorem lam_callX (c : Cl Y.prog Y.w Y.K Y.mg Y.base k x sp dn) (hr : Room j Y.A) (hk : k ≤ j) (hE : DlvX Y.K ⟨F, B0, H0⟩ Xc E) (hx : Passes (L2.CX Y.prog Y.w) Y E) (ha : PAd Y ⟨F, B0, H0⟩ (e :: es) da) (hg : Gl Y x := by rfl) (hdb : (x == ("__debug__" : Str)) = false := by decide)
    (he : starEach (e :: es) Y.env = (false, eval e Y.env) :: starEach es Y.env := by rfl) (hpl : (backTo pos (starEach es Y.env)).any (·.1) = false := by rfl) : PEd Y ⟨F, B0, H0⟩ (.Call (.Name x p) (e :: es) [] pos) (deCall sp F Xc dn da) := pd_callX c hr hk hE hx ha hg hdb he hpl
theorem lam_call (c : Cl Y.prog Y.w Y.K Y.mg Y.base k x sp dn) (hr : Room j Y.A) (hk : k ≤ j) (ha : PAd Y ⟨F, B0, H0⟩ (e :: es) da) (hg : Gl Y x := by rfl) (hdb : (x == ("__debug__" : Str)) = false := by decide)
    (he : starEach (e :: es) Y.env = (false, eval e Y.env) :: starEach es Y.env := by rfl) (hpl : (backTo pos (starEach es Y.env)).any (·.1) = false := by rfl) : PEd Y ⟨F, B0, H0⟩ (.Call (.Name x p) (e :: es) [] pos) (deCall sp F noX dn da) := pd_call c hr hk ha hg hdb he hpl
theorem lam_callV {a : Addr} (c : Cl Y.prog Y.w Y.K Y.mg Y.base k y sp []) (hg : Y.mg y = some (.ref a)) (hr : Room j Y.A) (hk : k ≤ j) (hE : DlvX Y.K ⟨F, B0, H0⟩ Xc E) (hx : Passes (L2.CX Y.prog Y.w) Y E) (hN : Y.N[i]? = some x) (hv : Vis Y.env.scope x) (ha : PAd Y ⟨F, B0, H0⟩ (e :: es) da)
    (hdb : (x == ("__debug__" : Str)) = false := by decide) (hcd : (x == ("__classdict__" : Str)) = false := by decide) (he : starEach (e :: es) Y.env = (false, eval e Y.env) :: starEach es Y.env := by rfl) (hpl : (backTo pos (starEach es Y.env)).any (·.1) = false := by rfl) :
    PEd Y ⟨F, B0, H0⟩ (.Call (.Name x p) (e :: es) [] pos) (deCallV i a sp F Xc da) := pd_callV c hg hr hk hE hx hN hv ha hdb hcd he hpl
theorem lam_line (c : Ln Y.prog Y.w Y.K Y.mg Y.base k) (hr : Room j Y.A) (hk : k + 1 ≤ j) (hE : DlvX Y.K ⟨F, B0, H0⟩ Xc E) (hx : Passes (L2.CX Y.prog Y.w) Y E) (ha : PAd Y ⟨F, B0, H0⟩ (e :: es) da) (hg : Gl Y "Line" := by rfl)
    (he : starEach (e :: es) Y.env = (false, eval e Y.env) :: starEach es Y.env := by rfl) (hpl : (backTo pos (starEach es Y.env)).any (·.1) = false := by rfl) : PEd Y ⟨F, B0, H0⟩ (.Call (.Name "Line" p) (e :: es) [] pos) (deCall sp_Line F Xc [] da) := pd_line c hr hk hE hx ha hg he hpl
end
end Sd
end
-- SdSeq
section
set_option Elab.async false
set_option linter.all false
set_option maxRecDepth 100000
set_option maxHeartbeats 4000000
set_option autoImplicit false
/-! more of lists: index, max with a default, sorted pairs, two own lists at once -/
namespace Sd
open PySem PySem.Spec PyProof.Rows L2
open Evl (Ex)
/-! xs.index(k), ints -/
def deIndex (de : DE) (da : DA) : DE := fun δ P => de δ fun x => ∃ ns : List Int, x = .lst (ns.map .int) ∧ da δ fun ys => ∃ k : Int, ys = [.int k] ∧ k ∈ ns ∧ P (.int ((ns.idxOf k : Nat) : Int))
theorem eqV_int (i j : Int) : eqV (.int i) (.int j) = decide (i = j) := by
  first | rfl | (simp [eqV])
section
variable {X : Cx} {G : Gx} {o e : Expr} {es : List Expr} {de : DE} {da : DA} {apos cpos pos p : Pos}
theorem pd_index (ho : PEd X G o de) (ha : PAd X G (e :: es) da) (hbase : attributeBase o "index" X.env (eval o X.env) = eval o X.env := by rfl)
    (hfew : ((backTo cpos (starEach (e :: es) X.env)).all (fun x => !x.1) && (backToKw cpos (keywordEach [] X.env)).all (fun x => x.1.isSome) && decide ((e :: es).length + ([] : List Keyword).length + (if ([] : List Keyword).isEmpty then 0 else 1) < 30)) = true := by rfl)
    (hline : (apos.endLine == cpos.line) = true := by rfl) (hs : starEach (e :: es) X.env = (false, eval e X.env) :: starEach es X.env := by rfl) (hplain : (backTo cpos (starEach es X.env)).any (·.1) = false := by rfl) :
    PEd X G (.Call (.Attribute o "index" apos) (e :: es) [] cpos) (deIndex de da) :=
  PE.imp (pe_bm PySem.F.plainAttrs_list PySem.F.slot_list_index PySem.F.type_list_index mt_index ho ha hbase hfew hline hs hplain) fun σ H Q ⟨B, δ, P, s, h, q⟩ => ⟨B, δ, _, s, h, fun x d B1 H1 m1 ⟨ns, e, p1⟩ r1 => by
    subst e
    cases r1 with
    | lst h1 ra =>
      rw [ra.ints] at h1
      refine ⟨.inl ⟨rfl, _, SqL.of (m1.e _ _ h1)⟩, B1, δ, _, s.mono m1, p1, fun vs ys B2 H2 m2 ⟨k, e2, hk, p2⟩ r2 => ?_⟩
      subst e2
      cases r2 with
      | cons rk rn =>
      cases rn
      cases rk
      have hlt : ns.idxOf k < ns.length := List.idxOf_lt_length_iff.mpr hk
      refine ⟨_, _, .int k, ns.idxOf k, .int k, rfl, rfl, SqL.of ((m2.b.trans m2.e) _ _ h1), rfl, ?_, ?_, ?_, fun m z hm hz => ?_, q _ _ B2 H2 (m1.trans m2) p2 (.int _)⟩
      · rw [List.all_eq_true]
        intro y hy
        obtain ⟨n, _, rfl⟩ := List.mem_map.mp hy
        rfl
      · rw [List.getElem?_map, List.getElem?_eq_getElem hlt, List.getElem_idxOf]
        rfl
      · rw [eqV_int]
        simp
      · rw [List.getElem?_map, Option.map_eq_some_iff] at hz
        obtain ⟨n, hn, rfl⟩ := hz
        rw [eqV_int]
        refine decide_eq_false fun e => ?_
        subst e
        obtain ⟨hm', hn'⟩ := List.getElem?_eq_some_iff.mp hn
        have hx := List.not_of_lt_findIdx (p := (· == n)) (xs := ns) (i := m) (by simpa [List.idxOf] using hm)
        simp [hn'] at hx⟩
end
end Sd
end
-- SdSort
section
set_option Elab.async false
set_option linter.all false
set_option maxRecDepth 100000
set_option maxHeartbeats 4000000
set_option autoImplicit false
/-! sorted(xs), pairs of ints -/
namespace Sd
open PySem PySem.Spec PyProof.Rows L2
open Evl (Ex)
def intIn : Value → Int
  | .int i _ => i
  | _ => 0
def pairAt (h : Heap) : Value → Int × Int
  | .ref t => match h.get? t with
    | some o => match o.data with
      | .seq its _ => (intIn (its[0]?.getD .none), intIn (its[1]?.getD .none))
      | _ => (0, 0)
    | none => (0, 0)
  | _ => (0, 0)
inductive PrA (R : V → Int × Int → Prop) : List V → List (Int × Int) → Prop
  | nil : PrA R [] []
  | cons {x p xs ps} : R x p → PrA R xs ps → PrA R (x :: xs) (p :: ps)
def rSortedPT (K : PySem.W.Frag) : List V → Hp → VK → Prop := fun vs H Q => ∃ (a : Addr) (xs : List V) (ps : List (Int × Int)) (R : V → Int × Int → Prop), vs = [V.ref a] ∧ SqL K H a xs ∧ (∀ x p, R x p → ∃ t, x = V.ref t ∧ SqT K H t [.int p.1, .int p.2]) ∧ PrA R xs ps ∧
  ∀ (ys : List V) (qs : List (Int × Int)) (l : Addr), PrA R ys qs → qs.Perm ps → qs.Pairwise (fun p q => SrtO.lexB q p = false) → H l = none → Q (.ref l) (upd H l (.lst ys))
theorem PrA.ref {R : V → Int × Int → Prop} {P : V → Prop} (h : ∀ x p, R x p → P x) : ∀ {xs ps}, PrA R xs ps → ∀ x ∈ xs, P x
  | _, _, .nil, x, m => nomatch m
  | _, _, .cons h1 h2, x, m => by
    rcases List.mem_cons.mp m with rfl | m
    · exact h _ _ h1
    · exact PrA.ref h h2 x m
theorem PrA.back {R : V → Int × Int → Prop} {k : Value → Int × Int} : ∀ {us : List Value} {ps}, PrA R (us.map backV) ps → (∀ u p, u ∈ us → R (backV u) p → k u = p) → us.map k = ps ∧ ∀ u ∈ us, R (backV u) (k u)
  | [], _, .nil, _ => ⟨rfl, fun u m => nomatch m⟩
  | u :: us, _, .cons h1 h2, h => by
    obtain ⟨e1, e2⟩ := PrA.back (k := k) h2 fun u p m => h u p (List.mem_cons_of_mem _ m)
    have e := h u _ List.mem_cons_self h1
    refine ⟨by rw [List.map_cons, e, e1], fun w m => ?_⟩
    rcases List.mem_cons.mp m with rfl | m
    · rw [e]; exact h1
    · exact e2 w m
theorem PrA.of {R : V → Int × Int → Prop} {k : Value → Int × Int} : ∀ {us : List Value}, (∀ u ∈ us, R (backV u) (k u)) → PrA R (us.map backV) (us.map k)
  | [], _ => .nil
  | u :: us, h => .cons (h u List.mem_cons_self) (PrA.of fun w m => h w (List.mem_cons_of_mem _ m))
section
variable {X : Cx}
theorem sp_at {pins : List (Addr × Obj)} {s : Shared} {σ : L2.St} {H : Hp} {t : Addr} {p : Int × Int} (I : Inv X pins σ H s) (h : SqT X.K H t [.int p.1, .int p.2]) : pairAt s.heap (.ref t) = p ∧ Srt.IsPair s.heap (.ref t) p.1 p.2 := by
  obtain ⟨its2, r2, ⟨o, ho, hc, n, hd⟩, _⟩ := I.tuple h
  obtain ⟨u1, u2, rfl, ri, rj⟩ := vals2 r2
  obtain ⟨t1, rfl⟩ := ri
  obtain ⟨t2, rfl⟩ := rj
  refine ⟨?_, t, o, t1, t2, n, rfl, ho, hc, hd⟩
  show pairAt s.heap (.ref t) = (p.1, p.2)
  simp only [pairAt, ho, hd]
  rfl
theorem cr_sortedPT : CallR X (.builtin "sorted") (rSortedPT X.K) := by
  intro pins s σ H vs us Q I r h
  obtain ⟨a, xs, ps, R, rfl, hs, hR, hx, q⟩ := h
  obtain ⟨its, rv, hl, hz⟩ := I.list hs
  obtain ⟨u, rfl, ru⟩ := vals1 r
  obtain rfl : u = Value.ref a := ru
  obtain ⟨e1, e2⟩ := refs_back rv (hx.ref (P := fun x => ∃ t, x = V.ref t) fun x p h => by
    obtain ⟨t, e, _⟩ := hR x p h
    exact ⟨t, e⟩)
  have hat : ∀ u p, u ∈ its → R (backV u) p → pairAt s.heap u = p ∧ Srt.IsPair s.heap u p.1 p.2 := fun u p m h => by
    obtain ⟨t, rfl⟩ := e2 u m
    obtain ⟨t', e, ht⟩ := hR _ _ h
    cases e
    exact sp_at I ht
  rw [e1] at hx
  obtain ⟨ek, er⟩ := hx.back (k := pairAt s.heap) fun u p m h => (hat u p m h).1
  refine SrtO.sorted_pairsO (k := pairAt s.heap) hl.isList (by rw [← rv.length]; exact hz) (fun v hv => (hat v _ hv (er v hv)).2) fun h' d out h1 h2 kp hd hn => ?_
  have h3 : ∀ u ∈ out, ∃ a, u = Value.ref a := fun u hu => e2 u (h2.perm.mem_iff.mp hu)
  obtain ⟨n, hn⟩ := hn
  refine ⟨.ref d, upd H d (.lst (out.map backV)), I.laid (t' := s.toks) kp hd ⟨?_, out, n, vals_back h3, hn⟩, rfl, q _ (out.map (pairAt s.heap)) d (.of fun u hu => er u (h2.perm.mem_iff.mp hu)) (by rw [← ek]; exact h2.perm.map _) (List.pairwise_map.mpr h1) (I.hok.fresh hd)⟩
  rw [List.length_map, h2.perm.length_eq, ← rv.length]
  exact hz
end
/-! over data -/
def prD (p : Int × Int) : D := .tup [.int p.1, .int p.2]
def rdSortedP : List D → (D → Prop) → Prop := fun ds P => ∃ ps : List (Int × Int), ds = [.lst (ps.map prD)] ∧ ∀ qs : List (Int × Int), qs.Perm ps → qs.Pairwise (fun p q => SrtO.lexB q p = false) → P (.lst (qs.map prD))
theorem PrA.rp {K : PySem.W.Frag} {B : Hp} : ∀ {ps : List (Int × Int)} {vs}, RpA K B vs (ps.map prD) → PrA (fun v p => Rp K B v (prD p)) vs ps
  | [], _, .nil => .nil
  | p :: ps, _, .cons h1 h2 => .cons h1 (PrA.rp h2)
theorem PrA.pr {K : PySem.W.Frag} {B : Hp} : ∀ {ps : List (Int × Int)} {vs}, PrA (fun v p => Rp K B v (prD p)) vs ps → RpA K B vs (ps.map prD)
  | [], _, .nil => .nil
  | p :: ps, _, .cons h1 h2 => .cons h1 (PrA.pr h2)
theorem snd_sortedP {X : Cx} {F : Fs} : SndC X.K F (rSortedPT X.K) rdSortedP := fun xs ds B H P Q he hf r ⟨ps, h1, p⟩ q => by
  subst h1
  cases r with
  | cons rx rn =>
    cases rn
    cases rx with
    | lst h ra =>
      refine ⟨_, _, ps, fun v p => Rp X.K B v (prD p), rfl, SqL.of (he _ _ h), fun x p r => ?_, PrA.rp ra, fun ys qs l hr hp hs hn => newL q (.refl he hf) (PrA.pr hr) (p qs hp hs) hn⟩
      generalize hd : prD p = d at r
      cases r with
      | tup h ra =>
        cases hd
        cases ra with
        | cons r1 rn => cases rn with
          | cons r2 rn => cases rn; cases r1; cases r2; exact ⟨_, rfl, exT he h⟩
      | _ => cases hd
end Sd
end
-- SdMaxD
section
set_option Elab.async false
set_option linter.all false
set_option maxRecDepth 100000
set_option maxHeartbeats 4000000
set_option autoImplicit false
/-! max(xs, default=d), ints -/
namespace Sd
open PySem PySem.Spec PyProof.Rows L2
open PySem.W (HoldAll maxOf DatumOrd max_list_datum_default)
open Evl (Ex)
theorem holdAll_ints {h : Heap} : ∀ {its : List Value} {ns : List Int}, IntsAre its ns → HoldAll h its ns
  | _, _, .nil => ⟨_, .nil⟩
  | _, _, .cons n t r => by
    obtain ⟨as, ra⟩ := holdAll_ints (h := h) r
    exact ⟨_, .cons (.int n t) ra⟩
theorem maxOf_ok : ∀ (xs : List Int) (x : Int), (maxOf x xs) ∈ x :: xs ∧ ∀ y ∈ x :: xs, y ≤ maxOf x xs
  | [], x => ⟨List.mem_cons_self, fun y m => by
    have e : y = x := by simpa using m
    subst e
    exact Int.le_refl _⟩
  | z :: xs, x => by
    obtain ⟨h1, h2⟩ := maxOf_ok xs (if DatumOrd.lt x z = true then z else x)
    have e : maxOf x (z :: xs) = maxOf (if DatumOrd.lt x z = true then z else x) xs := rfl
    rw [e]
    have hl : DatumOrd.lt x z = decide (x < z) := rfl
    rw [hl] at h1 h2 ⊢
    have h3 := h2 _ List.mem_cons_self
    refine ⟨?_, fun y m => ?_⟩
    · rcases List.mem_cons.mp h1 with h | h
      · rw [h]
        split <;> simp
      · exact List.mem_cons_of_mem _ (List.mem_cons_of_mem _ h)
    · rcases List.mem_cons.mp m with rfl | m
      · refine Int.le_trans ?_ h3
        split
        · rename_i q
          exact Int.le_of_lt (of_decide_eq_true q)
        · exact Int.le_refl _
      · rcases List.mem_cons.mp m with rfl | m
        · refine Int.le_trans ?_ h3
          split
          · exact Int.le_refl _
          · rename_i q
            simpa using q
        · exact h2 _ (List.mem_cons_of_mem _ m)
def rMaxD0 (K : PySem.W.Frag) : List V → List V → Hp → VK → Prop := fun vs zs H Q => ∃ (a : Addr) (ns : List Int) (i : Int), vs = [V.ref a] ∧ zs = [.int i] ∧ SqL K H a (ns.map V.int) ∧ (ns = [] → Q (.int i) H) ∧ ∀ m, m ∈ ns → (∀ y, y ∈ ns → y ≤ m) → Q (.int m) H
section
variable {X : Cx} {G : Gx} {e d : Expr} {de dd : DE} {p pos kpos : Pos}
theorem cr_maxD0 (hc : X.calm = true) (hu : X.A.units + 64 < cLine) : CallRK X (.builtin "max") [Str.ofString "default"] (rMaxD0 X.K) := by
  intro pins s σ H vs zs us ws Q I r rz h
  obtain ⟨a, ns, i, rfl, rfl, hs, q0, q1⟩ := h
  obtain ⟨its, rv, hl, _⟩ := I.list hs
  obtain rfl := Vals.ref1 r
  obtain ⟨w1, rfl, t, rfl⟩ := vals1 rz
  refine max_list_datum_default (α := Int) (xs := ns) (I.ok.hd hc) hl.isList (holdAll_ints rv.ints) (by show _ + 1 + 0 < _; omega) (fun e h' tk hk => ⟨.int i, H, I.kept hk, ⟨_, rfl⟩, q0 e⟩) fun y ys j v h' tk e hj hv hk => ?_
  obtain ⟨as, ra⟩ := hv
  have ev : ∃ t, v = .int (maxOf y ys) t := by
    generalize hm : (maxOf y ys : Int) = m at ra
    have ra' : Reads h' v (.int m) as := ra
    cases ra' with
    | int _ t => exact ⟨t, rfl⟩
  obtain ⟨t', rfl⟩ := ev
  subst e
  obtain ⟨h1, h2⟩ := maxOf_ok ys y
  exact ⟨.int (maxOf y ys), H, I.kept hk, ⟨_, rfl⟩, q1 _ h1 h2⟩
def deMaxD (de dd : DE) : DE := fun δ P => de δ fun x => ∃ ns : List Int, x = .lst (ns.map .int) ∧ dd δ fun z => ∃ i, z = .int i ∧ (ns = [] → P (.int i)) ∧ ∀ m, m ∈ ns → (∀ y, y ∈ ns → y ≤ m) → P (.int m)
theorem pd_maxD (hc : X.calm = true) (hu : X.A.units + 64 < cLine) (hm : X.mg "max" = none) (ha : PEd X G e de) (hd : PEd X G d dd) (hg : Gl X "max" := by rfl) (hs : starEach [e] X.env = (false, eval e X.env) :: starEach [] X.env := by rfl)
    (he : backTo pos (starEach [e] X.env) = (false, eval e X.env) :: backTo pos (starEach [] X.env) := by rfl) (hpl : (backTo pos (starEach [e] X.env)).any (·.1) = false := by rfl)
    (hall : (backToKw pos (keywordEach [⟨some "default", d, kpos⟩] X.env)).all (·.1.isSome) = true := by rfl) (hnone : (backToKw pos (keywordEach [⟨some "default", d, kpos⟩] X.env)).any (·.1.isNone) = false := by rfl) (hks : (backToKw pos (keywordEach [⟨some "default", d, kpos⟩] X.env)).filterMap (·.1) = [Str.ofString "default"] := by rfl) :
    PEd X G (.Call (.Name "max" p) [e] [⟨some "default", d, kpos⟩] pos) (deMaxD de dd) :=
  PE.imp (pe_callBK (cr_maxD0 hc hu) hg hm (by decide +kernel) (pa_cons ha pa_nil hs) (pk_cons hd pk_nil) (by decide) (by decide) he hpl hall hnone hks) fun σ H Q ⟨B, δ, P, s, h, q⟩ => ⟨B, δ, _, s, h, fun x dx B1 H1 m1 ⟨ns, e1, p1⟩ r1 => by
    subst e1
    cases r1 with
    | lst h1 ra =>
      rw [ra.ints] at h1
      exact ⟨B1, δ, _, s.mono m1, p1, fun z dz B2 H2 m2 ⟨i, e2, p2, p3⟩ r2 => by
        subst e2
        cases r2
        exact ⟨_, ns, i, rfl, rfl, SqL.of ((m2.b.trans m2.e) _ _ h1), fun e => q _ _ B2 H2 (m1.trans m2) (p2 e) (.int _), fun m hm1 hm2 => q _ _ B2 H2 (m1.trans m2) (p3 m hm1 hm2) (.int _)⟩⟩⟩
end
end Sd
end
-- SdPar
section
set_option Elab.async false
set_option linter.all false
set_option maxRecDepth 100000
set_option maxHeartbeats 4000000
set_option autoImplicit false
/-! several names at once, of which some are own lists -/
namespace Sd
open PySem PySem.Spec PyProof.Rows L2
open Evl (Ex)
def dxRep (da db : DE) : DX := fun δ P => da δ fun x => db δ fun y => ∃ xs n, x = .lst xs ∧ y = .int n ∧ 0 ≤ n ∧ n ≤ 100000 ∧ xs.length * n.toNat ≤ 100000 ∧ P (repD n xs)
def dsParOO (i j : Nat) (dx dy : DX) : DS := fun D δ => dx δ fun xs => dy δ fun ys => D.nx ((δ.set i (.own xs)).set j (.own ys))
def dsParDO (i j : Nat) (dx : DE) (dy : DX) : DS := fun D δ => dx δ fun x => dy δ fun ys => D.nx ((δ.set i (.dat x)).set j (.own ys))
def dsParDDO (i j l : Nat) (dx dy : DE) (dz : DX) : DS := fun D δ => dx δ fun x => dy δ fun y => dz δ fun zs => D.nx (((δ.set i (.dat x)).set j (.dat y)).set l (.own zs))
section
variable {X : Cx} {G : Gx} {e1 e2 e3 : Expr} {de df : DE} {dx dy : DX} {pos : Pos}
theorem pxd_rep (ha : PEd X G e1 de) (hb : PEd X G e2 df) : PXd X G (.BinOp e1 .Mult e2 pos) (dxRep de df) := PE.imp (pe_op op_rep ha hb) fun σ H Q ⟨B, δ, P, s, h, q⟩ =>
  ⟨B, δ, _, s, h, fun x d B1 H1 m1 p1 r1 => ⟨B1, δ, _, s.mono m1, p1, fun y e B2 H2 m2 ⟨xs, n, h1, h2, h3, h4, hl, p⟩ r2 => by
    subst h1; subst h2
    cases r1 with
    | lst hx ra =>
      cases r2
      refine ⟨_, n, _, rfl, rfl, (m2.b.trans m2.e) _ _ hx, by omega, by omega, by rw [ra.length]; exact size_ok hl, fun p' hp => newX q s.e s.f (m1.trans m2) ((ra.mono m2.b).rep _) p hp⟩⟩⟩
section
variable {i j : Nat} {x y : Str} {px py pt : Pos} {kt k2 : Nat} {pt2 : Pos}
theorem psd_parOO (hN : X.N.Nodup) (hi : X.N[i]? = some x) (hj : X.N[j]? = some y) (hij : i ≠ j) (ha : PXd X G e1 dx) (hb : PXd X G e2 dy) (hc : X.calm = true := by rfl)
    (hx : X.env.scope.names.lookup x = some .local := by rfl) (hy : X.env.scope.names.lookup y = some .local := by rfl) (h1 : starEach [e1, e2] X.env = (false, eval e1 X.env) :: starEach [e2] X.env := by rfl) (h2 : starEach [e2] X.env = (false, eval e2 X.env) :: starEach [] X.env := by rfl)
    (hw : swappedStores [.Tuple [.Name x px, .Name y py] kt pt] (.Tuple [e1, e2] k2 pt2) X.env = pure (some [x, y]) := by rfl) (hs : swapsWithSole [.Tuple [.Name x px, .Name y py] kt pt] (.Tuple [e1, e2] k2 pt2) pos.line X.env = pure false := by rfl) :
    PSd X G (.Assign [.Tuple [.Name x px, .Name y py] kt pt] (.Tuple [e1, e2] k2 pt2) pos) (dsParOO i j dx dy) := PS.imp (ps_par hc hN hi hj hij hx hy (pa_cons ha (pa_cons hb pa_nil h2) h1) hw hs) fun D σ H ⟨B, δ, DD, s, h, q⟩ =>
  ⟨B, δ, _, s, h, fun p vs ds B1 H1 m1 hp ns hb hl p1 r1 => ⟨B1, δ, _, s.mono m1, p1, fun p2 vs2 ds2 B2 H2 m2 hp2 ns2 hb2 hl2 q1 r2 => by
    have S1 := (s.mono m1).putOwn (i := i) (s.fresh0 hp ns) hb hl ns (s.own_ne hp) r1
    exact ⟨_, _, rfl, q.nx _ B2 H2 _ (m1.b.trans m2.b) ((S1.mono m2).putOwn (i := j) (S1.fresh0 hp2 ns2) hb2 hl2 ns2 (S1.own_ne hp2) r2) q1⟩⟩⟩
theorem psd_parDO (hN : X.N.Nodup) (hi : X.N[i]? = some x) (hj : X.N[j]? = some y) (hij : i ≠ j) (ha : PEd X G e1 de) (hb : PXd X G e2 dy) (hc : X.calm = true := by rfl)
    (hx : X.env.scope.names.lookup x = some .local := by rfl) (hy : X.env.scope.names.lookup y = some .local := by rfl) (h1 : starEach [e1, e2] X.env = (false, eval e1 X.env) :: starEach [e2] X.env := by rfl) (h2 : starEach [e2] X.env = (false, eval e2 X.env) :: starEach [] X.env := by rfl)
    (hw : swappedStores [.Tuple [.Name x px, .Name y py] kt pt] (.Tuple [e1, e2] k2 pt2) X.env = pure (some [x, y]) := by rfl) (hs : swapsWithSole [.Tuple [.Name x px, .Name y py] kt pt] (.Tuple [e1, e2] k2 pt2) pos.line X.env = pure false := by rfl) :
    PSd X G (.Assign [.Tuple [.Name x px, .Name y py] kt pt] (.Tuple [e1, e2] k2 pt2) pos) (dsParDO i j de dy) := PS.imp (ps_par hc hN hi hj hij hx hy (pa_cons ha (pa_cons hb pa_nil h2) h1) hw hs) fun D σ H ⟨B, δ, DD, s, h, q⟩ =>
  ⟨B, δ, _, s, h, fun v d B1 H1 m1 p1 r1 => ⟨B1, δ, _, s.mono m1, p1, fun p2 vs2 ds2 B2 H2 m2 hp2 ns2 hb2 hl2 q1 r2 => by
    have S1 := (s.mono m1).put (i := i) r1
    exact ⟨_, _, rfl, q.nx _ B2 H2 _ (m1.b.trans m2.b) ((S1.mono m2).putOwn (i := j) (S1.fresh0 hp2 ns2) hb2 hl2 ns2 (S1.own_ne hp2) r2) q1⟩⟩⟩
end
theorem psd_parDDO {i j l : Nat} {x y z : Str} {px py pz pt : Pos} {kt k2 : Nat} {pt2 : Pos} (hN : X.N.Nodup) (hi : X.N[i]? = some x) (hj : X.N[j]? = some y) (hl : X.N[l]? = some z) (hij : i ≠ j) (hil : i ≠ l) (hjl : j ≠ l) (ha : PEd X G e1 de) (hb : PEd X G e2 df) (hd : PXd X G e3 dy) (hc : X.calm = true := by rfl)
    (hx : X.env.scope.names.lookup x = some .local := by rfl) (hy : X.env.scope.names.lookup y = some .local := by rfl) (hz : X.env.scope.names.lookup z = some .local := by rfl)
    (h1 : starEach [e1, e2, e3] X.env = (false, eval e1 X.env) :: starEach [e2, e3] X.env := by rfl) (h2 : starEach [e2, e3] X.env = (false, eval e2 X.env) :: starEach [e3] X.env := by rfl) (h3 : starEach [e3] X.env = (false, eval e3 X.env) :: starEach [] X.env := by rfl)
    (hw : swappedStores [.Tuple [.Name x px, .Name y py, .Name z pz] kt pt] (.Tuple [e1, e2, e3] k2 pt2) X.env = pure (some [x, y, z]) := by rfl) (hs : swapsWithSole [.Tuple [.Name x px, .Name y py, .Name z pz] kt pt] (.Tuple [e1, e2, e3] k2 pt2) pos.line X.env = pure false := by rfl) :
    PSd X G (.Assign [.Tuple [.Name x px, .Name y py, .Name z pz] kt pt] (.Tuple [e1, e2, e3] k2 pt2) pos) (dsParDDO i j l de df dy) := PS.imp (ps_par3 hc hN hi hj hl hij hil hjl hx hy hz (pa_cons ha (pa_cons hb (pa_cons hd pa_nil h3) h2) h1) hw hs) fun D σ H ⟨B, δ, DD, s, h, q⟩ =>
  ⟨B, δ, _, s, h, fun v d B1 H1 m1 p1 r1 => ⟨B1, δ, _, s.mono m1, p1, fun v2 d2 B2 H2 m2 p2 r2 => ⟨B2, δ, _, (s.mono m1).mono m2, p2, fun p3 vs3 ds3 B3 H3 m3 hp3 ns3 hb3 hl3 q1 r3 => by
    have S1 := ((((s.mono m1).put (i := i) r1).mono m2).put (i := j) r2)
    exact ⟨_, _, _, rfl, q.nx _ B3 H3 _ ((m1.b.trans m2.b).trans m3.b) ((S1.mono m3).putOwn (i := l) (S1.fresh0 hp3 ns3) hb3 hl3 ns3 (S1.own_ne hp3) r3) q1⟩⟩⟩⟩
/-- the same where a name is kept in a cell: by way of a tuple -/
theorem psd_asgOO {i j : Nat} {x y : Str} {px py pt : Pos} {kt k2 : Nat} {pt2 : Pos} (hN : X.N.Nodup) (hi : X.N[i]? = some x) (hj : X.N[j]? = some y) (hij : i ≠ j) (hx : Loc X.env.scope x) (hy : Loc X.env.scope y) (ha : PXd X G e1 dx) (hb : PXd X G e2 dy) (hc : X.calm = true := by rfl)
    (h1 : starEach [e1, e2] X.env = (false, eval e1 X.env) :: starEach [e2] X.env := by rfl) (h2 : starEach [e2] X.env = (false, eval e2 X.env) :: starEach [] X.env := by rfl)
    (hf : X.fn x = true ∨ X.env.scope.names.lookup x = some .local := by first | exact .inl rfl | exact .inr rfl | assumption) (hf2 : X.fn y = true ∨ X.env.scope.names.lookup y = some .local := by first | exact .inl rfl | exact .inr rfl | assumption)
    (hs : swapsWithSole [.Tuple [.Name x px, .Name y py] kt pt] (.Tuple [e1, e2] k2 pt2) pos.line X.env = pure false := by rfl) (hw : swappedStores [.Tuple [.Name x px, .Name y py] kt pt] (.Tuple [e1, e2] k2 pt2) X.env = pure none := by rfl)
    (h3 : (assignEach [.Tuple [.Name x px, .Name y py] kt pt] X.env).map (·.2) = [assign (.Tuple [.Name x px, .Name y py] kt pt) X.env] := by rfl) :
    PSd X G (.Assign [.Tuple [.Name x px, .Name y py] kt pt] (.Tuple [e1, e2] k2 pt2) pos) (dsParOO i j dx dy) := PS.imp (ps_asg (pe_tup (pa_cons ha (pa_cons hb pa_nil h2) h1)) (pg_tup (n := 2) hc (pgs_cons (pg_name hN hi hx hf) (pgs_cons (pg_name hN hj hy hf2) pgs_nil))) hs hw h3) fun D σ H ⟨B, δ, DD, s, h, q⟩ =>
  ⟨B, δ, _, s, h, fun p vs ds B1 H1 m1 hp ns hb hl p1 r1 => ⟨B1, δ, _, s.mono m1, p1, fun p2 vs2 ds2 B2 H2 m2 hp2 ns2 hb2 hl2 q1 r2 => by
    have S1 := (s.mono m1).putOwn (i := i) (s.fresh0 hp ns) hb hl ns (s.own_ne hp) r1
    have S2 := (S1.mono m2).putOwn (i := j) (S1.fresh0 hp2 ns2) hb2 hl2 ns2 (S1.own_ne hp2) r2
    unfold tNil
    refine ⟨by show 2 ≤ _; decide, fun p3 hp3 => ⟨p3, _, rfl, SqT.of (K := X.K) upd_same, rfl, _, _, rfl, _, _, rfl, rfl, ?_⟩⟩
    exact q.nx _ B2 _ _ (m1.b.trans m2.b) (S2.mono (Fm.newH S2.e S2.f hp3)) q1⟩⟩
end
section
variable {i j l : Nat} {x y z : Str} {px py pz pt : Pos} {kt k2 : Nat} {pt2 : Pos} {X : Cx} {G : Gx} {e1 e2 e3 : Expr} {de df : DE} {dz : DX} {pos : Pos}
theorem psd_asgDDO (hN : X.N.Nodup) (hi : X.N[i]? = some x) (hj : X.N[j]? = some y) (hl : X.N[l]? = some z) (hx : Loc X.env.scope x) (hy : Loc X.env.scope y) (hz : Loc X.env.scope z) (ha : PEd X G e1 de) (hb : PEd X G e2 df) (hd : PXd X G e3 dz) (hc : X.calm = true := by rfl)
    (h1 : starEach [e1, e2, e3] X.env = (false, eval e1 X.env) :: starEach [e2, e3] X.env := by rfl) (h2 : starEach [e2, e3] X.env = (false, eval e2 X.env) :: starEach [e3] X.env := by rfl) (h4 : starEach [e3] X.env = (false, eval e3 X.env) :: starEach [] X.env := by rfl)
    (hf : X.fn x = true ∨ X.env.scope.names.lookup x = some .local := by first | exact .inl rfl | exact .inr rfl | assumption) (hf2 : X.fn y = true ∨ X.env.scope.names.lookup y = some .local := by first | exact .inl rfl | exact .inr rfl | assumption) (hf3 : X.fn z = true ∨ X.env.scope.names.lookup z = some .local := by first | exact .inl rfl | exact .inr rfl | assumption)
    (hs : swapsWithSole [.Tuple [.Name x px, .Name y py, .Name z pz] kt pt] (.Tuple [e1, e2, e3] k2 pt2) pos.line X.env = pure false := by rfl) (hw : swappedStores [.Tuple [.Name x px, .Name y py, .Name z pz] kt pt] (.Tuple [e1, e2, e3] k2 pt2) X.env = pure none := by rfl)
    (h3 : (assignEach [.Tuple [.Name x px, .Name y py, .Name z pz] kt pt] X.env).map (·.2) = [assign (.Tuple [.Name x px, .Name y py, .Name z pz] kt pt) X.env] := by rfl) :
    PSd X G (.Assign [.Tuple [.Name x px, .Name y py, .Name z pz] kt pt] (.Tuple [e1, e2, e3] k2 pt2) pos) (dsParDDO i j l de df dz) := PS.imp (ps_asg (pe_tup (pa_cons ha (pa_cons hb (pa_cons hd pa_nil h4) h2) h1)) (pg_tup (n := 3) hc (pgs_cons (pg_name hN hi hx hf) (pgs_cons (pg_name hN hj hy hf2) (pgs_cons (pg_name hN hl hz hf3) pgs_nil)))) hs hw h3) fun D σ H ⟨B, δ, DD, s, h, q⟩ =>
  ⟨B, δ, _, s, h, fun v d B1 H1 m1 p1 r1 => ⟨B1, δ, _, s.mono m1, p1, fun v2 d2 B2 H2 m2 p2 r2 => ⟨B2, δ, _, (s.mono m1).mono m2, p2, fun p3 vs3 ds3 B3 H3 m3 hp3 ns3 hb3 hl3 q1 r3 => by
    have S1 := ((((s.mono m1).put (i := i) r1).mono m2).put (i := j) r2)
    have S2 := (S1.mono m3).putOwn (i := l) (S1.fresh0 hp3 ns3) hb3 hl3 ns3 (S1.own_ne hp3) r3
    unfold tNil
    refine ⟨by show 3 ≤ _; decide, fun p4 hp4 => ⟨p4, _, rfl, SqT.of (K := X.K) upd_same, rfl, _, _, rfl, _, _, rfl, _, _, rfl, rfl, ?_⟩⟩
    exact q.nx _ B3 _ _ ((m1.b.trans m2.b).trans m3.b) (S2.mono (Fm.newH S2.e S2.f hp4)) q1⟩⟩⟩
end
/-- a list that is an own one or already a value: a value from here on -/
def dsFrzA (i : Nat) (t : DS) : DS := fun D δ => (∃ ds, δ[i]? = some (.own ds) ∧ t D (δ.set i (.dat (.lst ds)))) ∨ (∃ d, δ[i]? = some (.dat d) ∧ t D δ)
section
variable {X : Cx} {G : Gx} {st : Stmt} {t : DS}
theorem psd_frzA (i : Nat) (h : PSd X G st t) : PSd X G st (dsFrzA i t) := PS.imp h fun D σ H ⟨B, δ, DD, s, p, q⟩ => by
  rcases p with ⟨ds, hd, p⟩ | ⟨d, hd, p⟩
  · obtain ⟨B', e, s'⟩ := s.freeze hd
    exact ⟨B', _, DD, s', p, q.up e⟩
  · exact ⟨B, δ, DD, s, p, q⟩
end
end Sd
end
-- SdLcO
section
set_option Elab.async false
set_option linter.all false
set_option maxRecDepth 100000
set_option maxHeartbeats 4000000
set_option autoImplicit false
/-! comprehensions over an own list -/
namespace Sd
open PySem PySem.Spec PyProof.Rows L2
open Evl (Ex)
section
variable (K : PySem.W.Frag) (G : Gx)
def WkF (J : It) (xs : List D) (B H : Hp) : Prop := ∀ B2 H2, Fm K G.F B H B2 H2 →
  (∀ i, i < xs.length → J.go i H2 ∧ ∀ x H3, J.yld i H2 x H3 → ∃ B3 d, xs[i]? = some d ∧ Fm K G.F B2 H2 B3 H3 ∧ Rp K B3 x d) ∧ J.stop xs.length H2
def tiOfF (di : DI) : TI := fun σ H R => ∃ (B : Hp) (δ : List Sl) (P : List D → Prop), Stt K G σ B H δ ∧ di δ P ∧ ∀ J xs B' H', Fm K G.F B H B' H' → P xs → WkF K G J xs B' H' → R J H'
end
abbrev PIdF (X : Cx) (G : Gx) (tg iter : Expr) (di : DI) : Prop := PI X tg iter (tiOfF X.K G di)
def diOwn (i : Nat) : DI := fun δ P => ∃ xs, δ[i]? = some (.own xs) ∧ P xs
section
variable {X : Cx} {G : Gx} {tg : Expr} {x : Str} {px : Pos} {i : Nat}
theorem pid_nmO (hx : PE X (.Name x px) (tVar i)) : PIdF X G tg (.Name x px) (diOwn i) := by
  refine ⟨fun pins s σ H R I ⟨B, δ, P, st, ⟨xs, hd, h⟩, q⟩ => ?_⟩
  obtain ⟨l, vs, hi, h0, hb, hl, ra, ns⟩ := st.own hd
  refine thn (hx.run pins s σ H (fun v H1 => v = .ref l ∧ H1 = H) I ⟨_, hi, rfl, rfl⟩) fun v s1 ⟨x, H1, I1, r1, e1, e2⟩ => ?_
  subst e1 e2
  cases r1
  have fr : ∀ c ∈ [s1.heap.objs.size], FpOk X pins H1 c := fun c hb => by
    rw [List.mem_singleton.mp hb]
    exact I1.fpOk (Nat.le_refl _) (I1.hok.fresh (Nat.le_refl _))
  obtain ⟨its, rv, p, hz⟩ := I1.list (SqL.of (K := X.K) hl)
  refine wpAny_pyIter_list p.isList ⟨s1.heap.objs.size, [s1.heap.objs.size], _, _, H1, rfl, I1.kept (t' := s1.toks) fun c o e => Heap.get?_push_of_some _ e, turn_list l _, ⟨_, Heap.get?_push_size _ rfl, rfl, rfl⟩, fr, q _ xs B H1 st.here h fun B2 H2 m => ?_⟩
  obtain ⟨hb2, hl2⟩ := own_same m hb hl ns
  have hq : SqL X.K H2 l vs := SqL.of hl2
  refine ⟨fun i hi => ?_, ⟨vs, hq, by rw [ra.length]; exact Nat.le_refl _⟩⟩
  obtain ⟨v, hv, rv⟩ := ra.at (List.getElem?_eq_getElem hi)
  refine ⟨⟨vs, v, hq, hv⟩, fun x H3 ⟨e3, hy⟩ => ?_⟩
  have hx := hy vs hq
  rw [hv] at hx
  cases hx
  subst e3
  exact ⟨B2, _, List.getElem?_eq_getElem hi, .refl m.e m.f, rv.mono m.b⟩
end
section
variable {X : Cx} {G : Gx} {elt tg iter : Expr} {ifs : List Expr} {scope : Scope} {own : List (Str × Nat)} {pos : Pos} {di : DI} {dg : DG} {tt : DT} {de : DE}
theorem lc_ofF {σ : L2.St} {H : Hp} {Q : VK} (h : txOf X.K G (dxLc di dg tt de (own.map (·.2))) σ H Q) : tLc (tiOfF X.K G di) (tgcOf X.K G (own.map (·.2)) dg) (ttOf X.K G tt) (teOf X.K G de) (own.map (·.2)) σ H Q := by
  obtain ⟨B, δ, P, s, h, q⟩ := h
  refine ⟨B, δ, _, s, h, fun It xs B1 H1 m1 ⟨hlen, J, j0, js, jd⟩ wk => fun p hp => ?_⟩
  have s1 := s.mono m1
  have nS : ¬ G.F.S p := s1.noS hp
  have hp0 : ¬ Hd H p := m1.back (not_hd hp) nS
  refine ⟨fun i m H' => i + m = xs.length ∧ ∃ B' acc ws, Fm X.K G.F B1 H1 B' H' ∧ B' p = none ∧ H' p = some (.lst ws) ∧ RpA X.K B' ws acc ∧ acc.length ≤ i ∧ J i acc,
    ⟨xs.length, by omega, B1, [], [], Fm.newH m1.e m1.f hp, Evl.fresh_back m1.e hp, upd_same, .nil, Nat.le_refl 0, j0⟩, fun i m H' ⟨hm, B', acc, ws, mf, hb, hl, ra, hle, hj⟩ => ?_⟩
  obtain ⟨w1, w2⟩ := wk B' H' mf
  cases m with
  | zero =>
    have z : i = xs.length := by omega
    subst z
    exact .inl ⟨w2, q p ws acc B' H' (m1.trans mf) hp0 nS hb hl (jd acc hj) ra⟩
  | succ m =>
    have lt : i < xs.length := by omega
    obtain ⟨g1, g2⟩ := w1 i lt
    refine .inr ⟨g1, fun H2 => i + 1 + m = xs.length ∧ ∃ B2 acc2 ws2, Fm X.K G.F B1 H1 B2 H2 ∧ B2 p = none ∧ H2 p = some (.lst ws2) ∧ RpA X.K B2 ws2 acc2 ∧ acc2.length ≤ i + 1 ∧ J (i + 1) acc2, fun H2 z => ⟨m, by omega, z⟩, fun x H2 hy => ?_⟩
    obtain ⟨B2, d, hd, m2, r2⟩ := g2 x H2 hy
    have keep : ∀ {Ba Ha Bb Hb : Hp}, Fm X.K G.F Ba Ha Bb Hb → Ba p = none → Ha p = some (.lst ws) → Bb p = none ∧ Hb p = some (.lst ws) := fun mm h1 h2 => by
      obtain ⟨h3, h4⟩ := mm.o p h1 (.of h2)
      exact ⟨h3, (h4 nS).trans h2⟩
    have mf2 := mf.trans m2
    obtain ⟨hb2, hl2⟩ := keep m2 hb hl
    have ss : Stt X.K G (L2.wipe σ (own.map (·.2))) B2 H2 (wipeD δ (own.map (·.2))) := (s1.mono mf2).wipe _
    refine ⟨B2, wipeD δ (own.map (·.2)), d, _, ss, r2, js i d acc hd hj hle, fun σ2 δ2 ew s2 p2 => ⟨?_, B2, δ2, _, s2, p2, fun b B3 H3 m3 p3 => ?_⟩⟩
    · rw [ew]
      apply List.ext_getElem?
      intro k
      rw [wipe_at, L2.wipe_length, wipe_at]
      split <;> rfl
    · have mf3 := mf2.trans m3
      obtain ⟨hb3, hl3⟩ := keep m3 hb2 hl2
      cases b with
      | false => exact ⟨by omega, B3, acc, ws, mf3, hb3, hl3, (ra.mono m2.b).mono m3.b, by omega, p3⟩
      | true =>
        refine ⟨B3, δ2, _, s2.mono m3, p3, fun y d4 B4 H4 m4 p4 r4 => ?_⟩
        obtain ⟨hb4, hl4⟩ := keep m4 hb3 hl3
        refine ⟨ws, hl4, ?_, by omega, B4, acc ++ [d4], ws ++ [y], (mf3.trans m4).updNew hp hb4 hl4 nS, hb4, upd_same, (((ra.mono m2.b).mono m3.b).mono m4.b).app (.one r4), by rw [List.length_append]; simp; omega, p4⟩
        rw [ra.length]
        exact size_lt (by omega)
theorem pxd_lcF (hN : X.N.Nodup) (hi : PIdF X G tg iter di) (ok : blkC X.N X.env.scope scope own = true) (hg : ∀ (s : Shared) (H : Hp) (C : Addr) (cl : List (Str × Addr)) (fp : List Addr), PGcd (X.blk s H scope (compEnvC scope cl C X.env) fp) G (own.map (·.2)) tg dg)
    (ht : ∀ (s : Shared) (H : Hp) (C : Addr) (cl : List (Str × Addr)) (fp : List Addr), PTsd (X.blk s H scope (compEnvC scope cl C X.env) fp) G ifs tt) (he : ∀ (s : Shared) (H : Hp) (C : Addr) (cl : List (Str × Addr)) (fp : List Addr), PEd (X.blk s H scope (compEnvC scope cl C X.env) fp) G elt de)
    (hc : X.calm = true := by rfl) (hs : ∀ x, foldedSetIterable iter X.env x = pure x := by intro _; rfl) : PXd X G (.ListComp elt [⟨tg, iter, ifs, 0⟩] scope pos) (dxLc di dg tt de (own.map (·.2))) :=
  PE.imp (pe_lc (own := own) hc hN hi (blkOk_by ok) hg ht he hs) fun σ H Q h => lc_ofF h
theorem psd_setLcF {i : Nat} {y : Str} {py spos : Pos} (hN : X.N.Nodup) (hy : X.N[i]? = some y) (hyl : X.env.scope.names.lookup y = some .local) (hsw : swapsWith (.ListComp elt [⟨tg, iter, ifs, 0⟩] scope pos) (some (.Name y py)) spos.line X.env = pure true) (hi : PIdF X G tg iter di) (ok : blkC X.N X.env.scope scope own = true)
    (hg : ∀ (s : Shared) (H : Hp) (C : Addr) (cl : List (Str × Addr)) (fp : List Addr), PGcd (X.blk s H scope (compEnvC scope cl C X.env) fp) G (own.map (·.2)) tg dg)
    (ht : ∀ (s : Shared) (H : Hp) (C : Addr) (cl : List (Str × Addr)) (fp : List Addr), PTsd (X.blk s H scope (compEnvC scope cl C X.env) fp) G ifs tt) (he : ∀ (s : Shared) (H : Hp) (C : Addr) (cl : List (Str × Addr)) (fp : List Addr), PEd (X.blk s H scope (compEnvC scope cl C X.env) fp) G elt de)
    (hc : X.calm = true := by rfl) (hs : ∀ x, foldedSetIterable iter X.env x = pure x := by intro _; rfl) : PSd X G (.Assign [.Name y py] (.ListComp elt [⟨tg, iter, ifs, 0⟩] scope pos) spos) (dsAsg (deX (dxLc di dg tt de (own.map (·.2)))) (dgName i)) :=
  PS.imp (ps_setLc (own := own) hc hN hy hyl hsw hi (blkOk_by ok) hg ht he hs) fun D σ H ⟨B, δ, DD, s, h, q⟩ => lc_ofF ⟨B, δ, _, s, h, fun p vs ds B' H' m hp ns hb hl pz r => by
    have e1 : Ex B' (upd B' p (.lst vs)) := Evl.Ex.new hb
    have e2 : Ex (upd B' p (.lst vs)) H' := fun a o h => by
      by_cases ha : a = p
      · subst ha
        rw [upd_same] at h
        rw [hl]
        exact h
      · rw [upd_ne ha] at h
        exact m.e a o h
    have mm : Fm X.K G.F B H (upd B' p (.lst vs)) H' := by
      refine ⟨m.b.trans e1, e2, fun a h1 h2 => ?_, m.f.ex e1 (fun a ha => ?_) (fun a o h => h) (nt_upd m.f.nt (fun _ z => by cases z))⟩
      · obtain ⟨h3, h4⟩ := m.o a h1 h2
        exact ⟨by rw [upd_ne (h2.nne hp)]; exact h3, h4⟩
      · have ne : a ≠ p := fun z => ns (by rw [← z]; exact ha)
        rw [upd_ne ne]
        exact (m.f.there ha).1
    exact q.nx _ _ H' _ mm.b ((s.mono mm).put (.lst upd_same (r.mono e1))) pz⟩
theorem psd_ownLcF {i : Nat} {y : Str} {py spos : Pos} (hN : X.N.Nodup) (hy : X.N[i]? = some y) (hyl : X.env.scope.names.lookup y = some .local) (hsw : swapsWith (.ListComp elt [⟨tg, iter, ifs, 0⟩] scope pos) (some (.Name y py)) spos.line X.env = pure true) (hi : PIdF X G tg iter di) (ok : blkC X.N X.env.scope scope own = true)
    (hg : ∀ (s : Shared) (H : Hp) (C : Addr) (cl : List (Str × Addr)) (fp : List Addr), PGcd (X.blk s H scope (compEnvC scope cl C X.env) fp) G (own.map (·.2)) tg dg)
    (ht : ∀ (s : Shared) (H : Hp) (C : Addr) (cl : List (Str × Addr)) (fp : List Addr), PTsd (X.blk s H scope (compEnvC scope cl C X.env) fp) G ifs tt) (he : ∀ (s : Shared) (H : Hp) (C : Addr) (cl : List (Str × Addr)) (fp : List Addr), PEd (X.blk s H scope (compEnvC scope cl C X.env) fp) G elt de)
    (hc : X.calm = true := by rfl) (hs : ∀ x, foldedSetIterable iter X.env x = pure x := by intro _; rfl) : PSd X G (.Assign [.Name y py] (.ListComp elt [⟨tg, iter, ifs, 0⟩] scope pos) spos) (dsOwn i (dxLc di dg tt de (own.map (·.2)))) :=
  PS.imp (ps_setLc (own := own) hc hN hy hyl hsw hi (blkOk_by ok) hg ht he hs) fun D σ H ⟨B, δ, DD, s, h, q⟩ => lc_ofF ⟨B, δ, _, s, h, fun p vs ds B1 H1 m1 hp ns hb hl p1 r1 =>
    q.nx _ B1 H1 _ m1.b ((s.mono m1).putOwn (s.fresh0 hp ns) hb hl ns (s.own_ne hp) r1) p1⟩
end
end Sd
end
-- SdGen
section
set_option Elab.async false
set_option linter.all false
set_option maxRecDepth 100000
set_option maxHeartbeats 4000000
set_option autoImplicit false
/-! small things for a law's own body -/
namespace Sd
open PySem PySem.Spec PyProof.Rows L2
theorem seq_gen {t u : DS} {D : DEnds} {δ : List Sl} (J : List Sl → Prop) (h1 : ∀ N : List Sl → Prop, (∀ δ', J δ' → N δ') → t { D with nx := N } δ) (h2 : ∀ δ', J δ' → u D δ') : dsSeq t u D δ := h1 (u D) h2
theorem okv_lst {xs : List D} (h : ∀ x ∈ xs, x.okv = true) : (D.lst xs).okv = true := by
  rw [D.okv]
  exact okvA_of h
theorem okv_tup {xs : List D} (h : ∀ x ∈ xs, x.okv = true) : (D.tup xs).okv = true := by
  rw [D.okv]
  exact okvA_of h
theorem okv_int {ms : List Int} : ∀ x ∈ ms.map D.int, x.okv = true := fun x hx => by
  obtain ⟨r, _, rfl⟩ := List.mem_map.mp hx
  rfl
theorem fb_id {g : DG} {t : DS} {D : DEnds} {δ : List Sl} (xs : List Sd.D) (J : Nat → List Sl → Prop) (h0 : J 0 δ)
    (hs : ∀ i x δ', x ∈ xs → J i δ' → g x δ' fun δ2 => t { D with nx := J (i + 1), ct := J (i + 1), bk := D.nx } δ2) (hd : ∀ δ', J xs.length δ' → D.nx δ') : fbB xs g t D δ :=
  ⟨J, h0, fun i x δ' h hj => hs i x δ' (List.mem_of_getElem? h) hj, hd⟩
theorem alike_i {F : Fs} {d : D} {O : Out → Prop} (h : d.alk 6 = true) (o : O (.ret (.bl true))) : spAlike 7 F [d, d] O := ⟨d, rfl, h, o⟩
theorem rep1 (n : Nat) (x : D) : repD (n : Int) [x] = List.replicate n x := by
  simp [repD]
theorem okv_rep {n : Nat} {x : D} (h : x.okv = true) : ∀ y ∈ List.replicate n x, y.okv = true := fun y hy => by
  rw [List.eq_of_mem_replicate hy]
  exact h
theorem cut_to {α : Type} (xs : List α) (k : Nat) (h : k ≤ xs.length) : cut xs none (some (k : Int)) = xs.take k := by
  unfold cut
  rw [HT.sIx_none, HT.sIx_nat, Nat.min_eq_left h]
  simp
theorem cut_from {α : Type} (xs : List α) (k : Nat) (h : k ≤ xs.length) : cut xs (some (k : Int)) none = xs.drop k := by
  unfold cut
  rw [HT.sIx_none, HT.sIx_nat, Nat.min_eq_left h]
  exact List.take_of_length_le (by simp)
theorem okv_bl {ms : List Bool} : ∀ x ∈ ms.map D.bl, x.okv = true := fun x hx => by
  obtain ⟨m, _, rfl⟩ := List.mem_map.mp hx
  rfl
theorem cut_toK {α : Type} (xs : List α) (k : Nat) : cut xs none (some (k : Int)) = xs.take k := by
  unfold cut
  rw [HT.sIx_none, HT.sIx_nat]
  simp
theorem rok_int {n : Nat} {i : Int} (h : i.natAbs < 1000000) : (D.int i).rok n = true := by cases n <;> simpa [D.rok] using h
theorem rok_lst {n : Nat} {ms : List Int} (hl : ms.length ≤ 30) (h : ∀ m ∈ ms, m.natAbs < 1000000) : (D.lst (ms.map D.int)).rok (n + 1) = true := by
  simp only [D.rok, List.length_map, Bool.and_eq_true, decide_eq_true_eq, List.all_eq_true]
  refine ⟨hl, fun x hx => ?_⟩
  obtain ⟨m, hm, rfl⟩ := List.mem_map.mp hx
  exact rok_int (h m hm)
theorem rok_tup {n : Nat} {ms : List Int} (hl : ms.length ≤ 30) (h : ∀ m ∈ ms, m.natAbs < 1000000) : (D.tup (ms.map D.int)).rok (n + 1) = true := by
  simp only [D.rok, List.length_map, Bool.and_eq_true, decide_eq_true_eq, List.all_eq_true]
  refine ⟨hl, fun x hx => ?_⟩
  obtain ⟨m, hm, rfl⟩ := List.mem_map.mp hx
  exact rok_int (h m hm)
theorem rok_pair {lab : Str} {d : D} (hl : (PyData.strOk lab && decide (lab.cps.size ≤ 100)) = true) (h : d.rok 1 = true) : (D.tup [.str lab, d]).rok 2 = true := by
  simp only [D.rok, List.length_cons, List.length_nil, List.all_cons, List.all_nil, h, hl]
  rfl
theorem rok_rep {n k : Nat} {x : D} (h : x.rok k = true) (hn : n ≤ 30) : (D.lst (List.replicate n x)).rok (k + 1) = true := by
  simp only [D.rok, List.length_replicate, Bool.and_eq_true, decide_eq_true_eq, List.all_eq_true]
  exact ⟨hn, fun y hy => by rw [List.eq_of_mem_replicate hy]; exact h⟩
theorem rok_repT {n k : Nat} {x : D} (h : x.rok k = true) (hn : n ≤ 30) : (D.tup (List.replicate n x)).rok (k + 1) = true := by
  simp only [D.rok, List.length_replicate, Bool.and_eq_true, decide_eq_true_eq, List.all_eq_true]
  exact ⟨hn, fun y hy => by rw [List.eq_of_mem_replicate hy]; exact h⟩
end Sd
end
-- SdStep
section
set_option Elab.async false
set_option linter.all false
set_option maxRecDepth 100000
set_option maxHeartbeats 4000000
set_option autoImplicit false
/-! ranges downwards; a tuple no times -/
namespace Sd
open PySem PySem.Spec PyProof.Rows L2
open AutoSeq1 (wpAny_loadPart')
open MeetsSeq MeetsSeq2 MeetsSeq3 SeqRoads2
/-- i, i - 1, .. down to above j -/
def downD (i : Int) (n : Nat) : List D := (List.range n).map fun k : Nat => .int (i - (k : Int))
def diR3 (da : DA) : DI := fun δ P => da δ fun ds => ∃ i j : Int, ds = [.int i, .int j, .int (-1)] ∧ -1000000 ≤ i ∧ i ≤ 1000000 ∧ -1000000 ≤ j ∧ j ≤ 1000000 ∧ P (downD i (i - j).toNat)
section
variable {X : Cx} {G : Gx} {tg e e2 e3 : Expr} {da : DA} {p pos : Pos}
theorem wk_down {K : PySem.W.Frag} {B : Hp} {lo : Int} {n : Nat} : Wk K G (Itc lo (-1) n) (downD lo n) B := fun B2 H2 e1 e2 f => by
  have hl : (downD lo n).length = n := by unfold downD; rw [List.length_map, List.length_range]
  refine ⟨fun i hi => ?_, by rw [hl]; exact Nat.le_refl n⟩
  rw [hl] at hi
  refine ⟨hi, fun x H3 ⟨e3, hx⟩ => ?_⟩
  subst e3 hx
  refine ⟨B2, .int (lo + (i : Int) * (-1)), ?_, .refl e2 f, .int _⟩
  unfold downD
  rw [List.getElem?_map, List.getElem?_range hi]
  show some (D.int (lo - (i : Int))) = _
  rw [show lo - (i : Int) = lo + (i : Int) * (-1) by omega]
theorem pid_r3 (hm : X.mg "range" = none) (ha : PAd X G [e, e2, e3] da) (hg : Gl X "range" := by rfl) (hs : starEach [e, e2, e3] X.env = (false, eval e X.env) :: starEach [e2, e3] X.env := by rfl) (hpl : (backTo pos (starEach [e2, e3] X.env)).any (·.1) = false := by rfl) :
    PId X G tg (.Call (.Name "range" p) [e, e2, e3] [] pos) (diR3 da) :=
  PI.imp (pi_range3 hg hm ha hs hpl) fun σ H R ⟨B, δ, P, st, h, q⟩ => ⟨B, δ, _, st, h, fun vs ds B1 H1 m1 ⟨i, j, e1, h1, h2, h3, h4, p⟩ r1 => by
    subst e1
    cases r1 with
    | cons rx rn =>
      cases rn with
      | cons ry rn =>
        cases rn with
        | cons rz rn =>
          cases rn
          cases rx
          cases ry
          cases rz
          exact ⟨i, j, -1, (i - j).toNat, rfl, RgC.neg (by omega) (by omega) (by omega) (by omega), q _ _ B1 H1 m1 p wk_down⟩⟩
end
/-! a tuple no times -/
theorem tuple_mul0 (l : Addr) (items : Array Value) (n : Nat) (dd : Option Addr) (sl : Array (Option Value)) (x : Int) (u : Tok) (hx : x = 0) (hne : items.isEmpty = false) :
    Meets (Builtin.«tuple.__mul__» ⟨[.ref l, .int x u], []⟩) (fun _ R s => s.heap.get? l = some { cls := .type "tuple", dict := dd, data := .seq items n, slots := sl } ∧
      R (.ok (.ret (Value.ref s.heap.objs.size))) { s with heap := s.heap.push { cls := Value.type "tuple", data := Data.seq #[] }, toks := s.toks }) :=
  .of_wp fun prog w A R s h => by
    obtain ⟨hp, g, d, tk, os⟩ := s
    obtain ⟨hl, h⟩ := h
    have f1 := AutoSeq1.idx_int
    wp_walk using wpAny_loadPart' hl
    repeat (first
      | (refine wpAny_ite_false (decide_eq_false (by rw [hx]; decide)) ?_; wp_walk using wpAny_loadPart' hl)
      | (refine wpAny_ite_false (decide_eq_false (by rw [hx, hne]; decide)) ?_; wp_walk using wpAny_loadPart' hl)
      | (refine wpAny_ite_true (decide_eq_true (by rw [hx]; simp)) ?_; wp_walk using wpAny_loadPart' hl))
    exact ⟨_, rfl, h⟩
section
variable {X : Cx} {G : Gx} {a b : Expr} {da db : DE} {pos : Pos}
theorem op_repT0 : OpR X (binaryOp .Mult) (fun x y H Q => ∃ l xs, x = .ref l ∧ y = .int 0 ∧ SqT X.K H l xs ∧ xs ≠ [] ∧ ∀ p, H p = none → Q (.ref p) (upd H p (.tup []))) := by
  intro pins s σ H x y v u Q I rx ry ⟨l, xs, e1, e2, hT, hne, q⟩
  subst e1 e2
  cases rx
  obtain ⟨t, rfl⟩ := ry
  obtain ⟨its, r, ⟨⟨cls, dd, data, sl⟩, ho, hc, n, hd⟩, hs⟩ := I.tuple hT
  simp only at hc hd
  subst hc hd
  have hle : its.length = xs.length := r.length.symm
  have hn : its ≠ [] := fun e => hne (by
    rw [e] at hle
    exact List.eq_nil_of_length_eq_zero hle.symm)
  have hi : its.toArray.isEmpty = false := by
    cases its with
    | nil => exact absurd rfl hn
    | cons a b => rfl
  refine wpAny_binaryOp_repeat_ref (T := "tuple") (U := "int") (by decide) ⟨_, ho, rfl⟩ (fun s' => typeIs_int s' 0 t) noFill_tuple_mul F.fills_int_mul F.slot_int_rmul repeat_tuple F.slot_int_index.lookup
    (call_meets F.slot_int_rmul (typeIs_int s 0 t) F.entry_int_rmul (F.args_int_rmul_2 _ _) (int_rmul_tuple 0 t l its.toArray n dd sl)
      ⟨ho, rfl, ⟨_, ho, rfl⟩, call_meets F.slot_tuple_mul ⟨_, ho, rfl⟩ F.entry_tuple_mul (F.args_tuple_mul_2 _ _) (tuple_mul0 l its.toArray n dd sl 0 t rfl hi) ⟨ho, ?_⟩⟩)
  refine ⟨.ref s.heap.objs.size, _, I.laid (t' := s.toks) (o := .tup []) (fun b ob q => Heap.get?_push_of_some _ q) (Nat.le_refl _) ?_, rfl, q _ (I.hok.fresh (Nat.le_refl _))⟩
  exact ⟨by decide, [], .nil, IsTup.new _ _⟩
def rdRepTz : D → D → (D → Prop) → Prop := fun x y P => ∃ xs n, x = .tup xs ∧ y = .int n ∧ xs ≠ [] ∧ xs.length ≤ 1000 ∧ 0 ≤ n ∧ n ≤ 1000 ∧ P (.tup (repD n xs))
theorem pd_repTz (ha : PEd X G a da) (hb : PEd X G b db) : PEd X G (.BinOp a .Mult b pos) (de2 rdRepTz da db) :=
  pd_op (OpR.or2 (m := pure .none) op_repT (OpR.or2 (m := pure .none) op_repT1 op_repT0)) (fun x y d e B H P Q he hf rx ry ⟨xs, n, h1, h2, h3, h4, h5, h6, p⟩ q => by
    subst h1; subst h2
    cases rx with
    | @tup a0 vs0 ds0 hx ra =>
      cases ry
      have vne : vs0 ≠ [] := fun z => h3 (by
        have := ra.length
        rw [z] at this
        exact List.eq_nil_of_length_eq_zero this.symm)
      by_cases h1 : n = 1
      · subst h1
        refine .inr (.inl ⟨_, _, rfl, rfl, exT he hx, q _ _ B H (.refl he hf) p ?_⟩)
        have e : repD 1 xs = xs := by simp [repD]
        rw [e]
        exact .tup hx ra
      · by_cases h0 : n = 0
        · subst h0
          refine .inr (.inr ⟨_, _, rfl, rfl, exT he hx, vne, fun p' hp => ?_⟩)
          have m2 := Fm.new (o := .tup []) he hf hp
          have e : repD 0 xs = [] := by simp [repD]
          rw [e] at p
          exact q _ _ _ _ m2 p (.tup (SqT.of upd_same) .nil)
        · refine .inl ⟨_, n, _, rfl, rfl, exT he hx, vne, by omega, h6, by rw [ra.length]; exact h4, fun p' hp => ?_⟩
          have m2 := Fm.new (o := .tup (List.replicate n.toNat vs0).flatten) he hf hp
          exact q _ _ _ _ m2 p (.tup (SqT.of upd_same) ((ra.rep _).mono m2.b))) ha hb
end
end Sd
end
-- SdP15
section
set_option Elab.async false
set_option linter.all false
set_option maxRecDepth 100000
set_option maxHeartbeats 4000000
set_option autoImplicit false
/-! k15: takings by limits, floods, plain -/
namespace Sd
def fa (F : List Int) (o : Nat) : Int := (F[o]?).getD 0
theorem fa_out {F : List Int} {o : Nat} (h : F.length ≤ o) : fa F o = 0 := by
  unfold fa
  rw [List.getElem?_eq_none h]
  rfl
theorem fa_in {F : List Int} {o : Nat} (h : o < F.length) : fa F o = F[o] := by
  unfold fa
  rw [List.getElem?_eq_getElem h]
  rfl
/-- whether each one is taken, m taken so far -/
def tookB (L : List Int) : Int → List Nat → List Bool
  | _, [] => []
  | m, o :: r => decide (m < fa L o) :: tookB L (if m < fa L o then m + 1 else m) r
/-- the classes of those that are taken -/
def tookL (L : List Int) : Int → List Nat → List Nat
  | _, [] => []
  | m, o :: r => if m < fa L o then o :: tookL L (m + 1) r else tookL L m r
theorem tookB_len (L : List Int) : ∀ (A : List Nat) (m : Int), (tookB L m A).length = A.length
  | [], _ => rfl
  | o :: r, m => by rw [tookB, List.length_cons, List.length_cons, tookB_len L r]
theorem tookL_zip (L : List Int) : ∀ (A : List Nat) (m : Int), ((A.zip (tookB L m A)).filter (·.2)).map (·.1) = tookL L m A
  | [], _ => rfl
  | o :: r, m => by
    rw [tookB, tookL, List.zip_cons_cons, List.filter_cons]
    by_cases c : m < fa L o
    · rw [if_pos (by simpa using c), if_pos c, if_pos c, List.map_cons, tookL_zip L r]
    · rw [if_neg (by simpa using c), if_neg c, if_neg c, tookL_zip L r]
theorem tookL_count (L : List Int) : ∀ (A : List Nat) (m : Int), ((tookB L m A).filter id).length = (tookL L m A).length
  | [], _ => rfl
  | o :: r, m => by
    rw [tookB, tookL, List.filter_cons]
    by_cases c : m < fa L o
    · rw [if_pos (by simpa using c), if_pos c, if_pos c, List.length_cons, List.length_cons, tookL_count L r]
    · rw [if_neg (by simpa using c), if_neg c, if_neg c, tookL_count L r]
def takeS (F L : List Int) (A : List Nat) : Int := ((tookL L 0 A).map (fa F)).sum
theorem tookL_sub (L : List Int) : ∀ (A : List Nat) (m : Int), ∀ o ∈ tookL L m A, o ∈ A
  | [], _, o, h => nomatch h
  | a :: r, m, o, h => by
    rw [tookL] at h
    split at h
    · rcases List.mem_cons.mp h with rfl | h
      · exact List.mem_cons_self
      · exact List.mem_cons_of_mem _ (tookL_sub L r _ o h)
    · exact List.mem_cons_of_mem _ (tookL_sub L r _ o h)
/-- what is not taken weighs nothing: the sums are alike -/
theorem took_sum {L : List Int} (g : Nat → Int) : ∀ (A : List Nat) (m : Int), (∀ o ∈ A, fa L o ≤ m + (tookL L m A).length → g o = 0) → ((tookL L m A).map g).sum = (A.map g).sum
  | [], _, _ => rfl
  | a :: r, m, h => by
    rw [tookL]
    by_cases c : m < fa L a
    · rw [if_pos c, List.map_cons, List.sum_cons, List.map_cons, List.sum_cons, took_sum g r (m + 1) (fun o ho hle => h o (List.mem_cons_of_mem _ ho) (by
        rw [tookL, if_pos c, List.length_cons]
        omega))]
    · rw [if_neg c, List.map_cons, List.sum_cons, took_sum g r m (fun o ho hle => h o (List.mem_cons_of_mem _ ho) (by
        rw [tookL, if_neg c]
        exact hle)), h a List.mem_cons_self (by
        rw [tookL, if_neg c]
        omega)]
      omega
def cntGe (j : Nat) (A : List Nat) : Int := ((A.filter fun o => decide (j ≤ o)).length : Nat)
theorem cntGe_cons (j o : Nat) (A : List Nat) : cntGe j (o :: A) = (if j ≤ o then 1 else 0) + cntGe j A := by
  unfold cntGe
  rw [List.filter_cons]
  by_cases c : j ≤ o
  · rw [if_pos (by simpa using c), if_pos c, List.length_cons]
    omega
  · rw [if_neg (by simpa using c), if_neg c]
    omega
/-- limits that do not rise -/
def Falls (L : List Int) : Prop := ∀ i j : Nat, i ≤ j → j < L.length → fa L j ≤ fa L i
/-- of the classes from j on no more are taken than j's limit -/
theorem took_cnt {L : List Int} (hL : Falls L) (j : Nat) : ∀ (A : List Nat) (m x : Int), (∀ o ∈ A, o < L.length) → x ≤ m → x ≤ fa L j → x + cntGe j (tookL L m A) ≤ fa L j
  | [], m, x, _, _, h => by
    have : cntGe j (tookL L m []) = 0 := rfl
    omega
  | o :: r, m, x, hA, h1, h2 => by
    rw [tookL]
    have hr : ∀ o ∈ r, o < L.length := fun o h => hA o (List.mem_cons_of_mem _ h)
    by_cases c : m < fa L o
    · rw [if_pos c, cntGe_cons]
      by_cases cj : j ≤ o
      · rw [if_pos cj]
        have := hL j o cj (hA o List.mem_cons_self)
        have := took_cnt hL j r (m + 1) (x + 1) hr (by omega) (by omega)
        omega
      · rw [if_neg cj]
        have := took_cnt hL j r (m + 1) x hr (by omega) h2
        omega
    · rw [if_neg c]
      exact took_cnt hL j r m x hr h1 h2
/-- what a flood from k on takes -/
def Uf (F L : List Int) : Nat → Nat → Int
  | _, 0 => 0
  | k, d + 1 => fa F k * (fa L k - fa L (k + 1)) + Uf F L (k + 1) d
theorem sum_zero {α : Type} : ∀ A : List α, (A.map fun _ => (0 : Int)).sum = 0
  | [] => rfl
  | _ :: r => by rw [List.map_cons, List.sum_cons, sum_zero r, Int.zero_add]
def vS (F : List Int) (k : Nat) (A : List Nat) : Int := (A.map fun o => fa F (max o k)).sum
theorem vS_step (F : List Int) (k : Nat) : ∀ A : List Nat, vS F k A = vS F (k + 1) A + ((A.length : Int) - cntGe (k + 1) A) * (fa F k - fa F (k + 1))
  | [] => by
    show (0 : Int) = 0 + (0 - 0) * _
    simp
  | o :: r => by
    have ih := vS_step F k r
    have e1 : ∀ j, vS F j (o :: r) = fa F (max o j) + vS F j r := fun j => by
      unfold vS
      rw [List.map_cons, List.sum_cons]
    rw [e1, e1, ih, cntGe_cons, List.length_cons]
    by_cases c : k + 1 ≤ o
    · rw [if_pos c, Nat.max_eq_left (by omega), Nat.max_eq_left (by omega)]
      have : (((r.length + 1 : Nat) : Int) - (1 + cntGe (k + 1) r)) = (r.length : Int) - cntGe (k + 1) r := by omega
      rw [this]
      omega
    · rw [if_neg c, Nat.max_eq_right (by omega), Nat.max_eq_right (by omega)]
      have : (((r.length + 1 : Nat) : Int) - (0 + cntGe (k + 1) r)) = ((r.length : Int) - cntGe (k + 1) r) + 1 := by omega
      rw [this, Int.add_mul]
      omega
theorem vS_low {F L : List Int} (hlen : F.length = L.length) (hF : Falls F) (hF0 : ∀ i, 0 ≤ fa F i) {A : List Nat} (hA : ∀ o ∈ A, o < L.length) (hc : ∀ j, j < L.length → cntGe j A ≤ fa L j) :
    ∀ (d k : Nat), k + d = L.length → Uf F L k d + ((A.length : Int) - fa L k) * fa F k ≤ vS F k A
  | 0, k, h => by
    have e : fa F k = 0 := fa_out (by omega)
    have e2 : vS F k A = 0 := by
      unfold vS
      have : A.map (fun o => fa F (max o k)) = A.map fun _ => 0 := List.map_congr_left fun o ho => by
        have := hA o ho
        rw [Nat.max_eq_right (by omega), e]
      rw [this, sum_zero]
    rw [e, e2, Uf]
    simp
  | d + 1, k, h => by
    have ih := vS_low hlen hF hF0 hA hc d (k + 1) (by omega)
    rw [vS_step, Uf]
    have hc1 : cntGe (k + 1) A ≤ fa L (k + 1) := by
      by_cases c : k + 1 < L.length
      · exact hc _ c
      · rw [fa_out (by omega)]
        have : A.filter (fun o => decide (k + 1 ≤ o)) = [] := List.filter_eq_nil_iff.mpr fun o ho => by
          have := hA o ho
          simp
          omega
        unfold cntGe
        rw [this]
        exact Int.le_refl _
    have hd : 0 ≤ fa F k - fa F (k + 1) := by
      by_cases c : k + 1 < F.length
      · have := hF k (k + 1) (by omega) c
        omega
      · rw [fa_out (o := k + 1) (by omega)]
        have := hF0 k
        omega
    have m1 : ((A.length : Int) - fa L (k + 1)) * (fa F k - fa F (k + 1)) ≤ ((A.length : Int) - cntGe (k + 1) A) * (fa F k - fa F (k + 1)) := Int.mul_le_mul_of_nonneg_right (by omega) hd
    have e1 : ((A.length : Int) - fa L (k + 1)) * (fa F k - fa F (k + 1)) = ((A.length : Int) - fa L (k + 1)) * fa F k - ((A.length : Int) - fa L (k + 1)) * fa F (k + 1) := Int.mul_sub ..
    have e2 : ((A.length : Int) - fa L (k + 1)) * fa F k = (A.length : Int) * fa F k - fa L (k + 1) * fa F k := Int.sub_mul ..
    have e3 : ((A.length : Int) - fa L k) * fa F k = (A.length : Int) * fa F k - fa L k * fa F k := Int.sub_mul ..
    have e4 : fa F k * (fa L k - fa L (k + 1)) = fa L k * fa F k - fa L (k + 1) * fa F k := by rw [Int.mul_sub, Int.mul_comm, Int.mul_comm (fa F k)]
    omega
def pos (i : Int) : Int := max i 0
/-- the greatest takings of n seats -/
def mostN (n : Nat) (F : List Int) (A : List Nat) : Int := (((A.map (fa F)).mergeSort fun a b => decide (a ≤ b)).reverse.take n).sum
theorem sum_pos_ge : ∀ (xs : List Int) (n : Nat) (v : Int), 0 ≤ v → xs.length ≤ n → xs.sum ≤ (n : Int) * v + (xs.map fun x => pos (x - v)).sum
  | [], n, v, h, _ => by
    have : (0 : Int) ≤ (n : Int) * v := Int.mul_nonneg (by omega) h
    simpa using this
  | x :: r, n, v, h, hl => by
    rw [List.length_cons] at hl
    obtain ⟨m, rfl⟩ : ∃ m, n = m + 1 := ⟨n - 1, by omega⟩
    have ih := sum_pos_ge r m v h (by omega)
    rw [List.sum_cons, List.map_cons, List.sum_cons]
    have e : ((m + 1 : Nat) : Int) * v = (m : Int) * v + v := by
      rw [show ((m + 1 : Nat) : Int) = (m : Int) + 1 by omega, Int.add_mul, Int.one_mul]
    have : x ≤ v + pos (x - v) := by unfold pos; omega
    omega
theorem sum_nonneg {xs : List Int} (h : ∀ x ∈ xs, 0 ≤ x) : 0 ≤ xs.sum := by
  induction xs with
  | nil => exact Int.le_refl _
  | cons x r ih =>
    rw [List.sum_cons]
    have := h x List.mem_cons_self
    have := ih fun y hy => h y (List.mem_cons_of_mem _ hy)
    omega
theorem sum_take_le {xs : List Int} (h : ∀ x ∈ xs, 0 ≤ x) (n : Nat) : (xs.take n).sum ≤ xs.sum := by
  have e : xs.sum = (xs.take n).sum + (xs.drop n).sum := by
    rw [← List.sum_append, List.take_append_drop]
  have := sum_nonneg (xs := xs.drop n) fun x hx => h x (List.mem_of_mem_drop hx)
  omega
theorem sum_perm {xs ys : List Int} (h : xs.Perm ys) : xs.sum = ys.sum := by
  induction h with
  | nil => rfl
  | cons x _ ih => rw [List.sum_cons, List.sum_cons, ih]
  | swap x y l =>
    rw [List.sum_cons, List.sum_cons, List.sum_cons, List.sum_cons]
    omega
  | trans _ _ h1 h2 => exact h1.trans h2
theorem most_perm (n : Nat) (F : List Int) (A : List Nat) : (((A.map (fa F)).mergeSort fun a b => decide (a ≤ b)).reverse).Perm (A.map (fa F)) := (List.reverse_perm _).trans (List.mergeSort_perm _ _)
theorem most_le (n : Nat) (F : List Int) (A : List Nat) {v : Int} (hv : 0 ≤ v) : mostN n F A ≤ (n : Int) * v + (A.map fun o => pos (fa F o - v)).sum := by
  have hp := most_perm n F A
  unfold mostN
  generalize (((A.map (fa F)).mergeSort fun a b => decide (a ≤ b)).reverse) = xs at hp
  have h1 := sum_pos_ge (xs.take n) n v hv (by rw [List.length_take]; omega)
  have h2 : ((xs.take n).map fun x => pos (x - v)).sum ≤ (xs.map fun x => pos (x - v)).sum := by
    rw [List.map_take]
    exact sum_take_le (fun y hy => by
      obtain ⟨x, _, rfl⟩ := List.mem_map.mp hy
      unfold pos
      omega) n
  have h3 : (xs.map fun x => pos (x - v)).sum = (A.map fun o => pos (fa F o - v)).sum := by
    rw [sum_perm (hp.map fun x => pos (x - v)), List.map_map]
    rfl
  omega
theorem most_all (n : Nat) {F : List Int} (hF0 : ∀ i, 0 ≤ fa F i) (A : List Nat) : mostN n F A ≤ (A.map (fa F)).sum := by
  have hp := most_perm n F A
  unfold mostN
  generalize (((A.map (fa F)).mergeSort fun a b => decide (a ≤ b)).reverse) = xs at hp
  rw [← sum_perm hp]
  exact sum_take_le (fun y hy => by
    obtain ⟨o, _, rfl⟩ := List.mem_map.mp (hp.mem_iff.mp hy)
    exact hF0 o) n
theorem most_nonneg (n : Nat) {F : List Int} (hF0 : ∀ i, 0 ≤ fa F i) (A : List Nat) : 0 ≤ mostN n F A := by
  have hp := most_perm n F A
  unfold mostN
  exact sum_nonneg fun y hy => by
    obtain ⟨o, _, rfl⟩ := List.mem_map.mp (hp.mem_iff.mp (List.mem_of_mem_take hy))
    exact hF0 o
/-- fares by classes; limits -/
structure FOk (F : List Int) : Prop where
  falls : Falls F
  lo : ∀ i, 0 ≤ fa F i
structure LOk (n : Nat) (L : List Int) : Prop where
  falls : Falls L
  lo : ∀ i, 0 ≤ fa L i
  hi : ∀ i, fa L i ≤ n
/-- THE FLOODS ARE THE WORST -/
theorem flood_least {n : Nat} {F L : List Int} (hF : FOk F) (hL : LOk n L) (hlen : F.length = L.length) {A : List Nat} (hA : ∀ o ∈ A, o < L.length) {tw mw : Int} (h0 : 0 ≤ tw) (h1 : tw ≤ mw)
    (hw : ∀ k, k < L.length → tw * ((n : Int) * fa F k) ≤ Uf F L k (L.length - k) * mw) : tw * mostN n F A ≤ takeS F L A * mw := by
  have hm0 : 0 ≤ mw := by omega
  have hmost := most_nonneg n hF.lo A
  have hT : ∀ o ∈ tookL L 0 A, o < L.length := fun o h => hA o (tookL_sub L A 0 o h)
  by_cases hk : ∃ k, k < L.length ∧ fa L k ≤ ((tookL L 0 A).length : Int)
  · have hfind : ∃ k, (k < L.length ∧ fa L k ≤ ((tookL L 0 A).length : Int)) ∧ ∀ i, i < k → ¬ (i < L.length ∧ fa L i ≤ ((tookL L 0 A).length : Int)) := by
      obtain ⟨k, hk⟩ := hk
      induction k using Nat.strongRecOn with
      | _ k ih =>
        by_cases c : ∃ i, i < k ∧ (i < L.length ∧ fa L i ≤ ((tookL L 0 A).length : Int))
        · obtain ⟨i, hi, hp⟩ := c
          exact ih i hi hp
        · exact ⟨k, hk, fun i hi hp => c ⟨i, hi, hp⟩⟩
    obtain ⟨k, ⟨hkc, hkl⟩, hmin⟩ := hfind
    have hsum : ((tookL L 0 A).map fun o => pos (fa F o - fa F k)).sum = (A.map fun o => pos (fa F o - fa F k)).sum := took_sum (fun o => pos (fa F o - fa F k)) A 0 fun o ho hle => by
      have hge : k ≤ o := by
        by_cases c : o < k
        · exact absurd ⟨hA o ho, by omega⟩ (hmin o c)
        · omega
      have := hF.falls k o hge (by rw [hlen]; exact hA o ho)
      show pos (fa F o - fa F k) = 0
      unfold pos
      omega
    have hcnt : ∀ j, j < L.length → cntGe j (tookL L 0 A) ≤ fa L j := fun j hj => by
      have := took_cnt hL.falls j A 0 0 hA (by omega) (hL.lo j)
      omega
    have hlow := vS_low hlen hF.falls hF.lo hT hcnt (L.length - k) k (by omega)
    have hge0 : 0 ≤ (((tookL L 0 A).length : Int) - fa L k) * fa F k := Int.mul_nonneg (by omega) (hF.lo k)
    have hsplit : takeS F L A = vS F k (tookL L 0 A) + ((tookL L 0 A).map fun o => pos (fa F o - fa F k)).sum := by
      unfold takeS vS
      have : ∀ T : List Nat, (∀ o ∈ T, o < L.length) → (T.map (fa F)).sum = (T.map fun o => fa F (max o k)).sum + (T.map fun o => pos (fa F o - fa F k)).sum := fun T => by
        induction T with
        | nil => intro _; rfl
        | cons o r ih =>
          intro hT
          have ih := ih fun x hx => hT x (List.mem_cons_of_mem _ hx)
          rw [List.map_cons, List.sum_cons, List.map_cons, List.sum_cons, List.map_cons, List.sum_cons, ih]
          have ho := hT o List.mem_cons_self
          have : fa F o = fa F (max o k) + pos (fa F o - fa F k) := by
            unfold pos
            by_cases c : k ≤ o
            · rw [Nat.max_eq_left c]
              have := hF.falls k o c (by omega)
              omega
            · rw [Nat.max_eq_right (by omega)]
              have := hF.falls o k (by omega) (by omega)
              omega
          omega
      exact this _ hT
    have hup := most_le n F A (hF.lo k)
    rw [hsum] at hsplit
    have hDD : 0 ≤ (A.map fun o => pos (fa F o - fa F k)).sum := sum_nonneg fun y hy => by
      obtain ⟨o, _, rfl⟩ := List.mem_map.mp hy
      unfold pos
      omega
    generalize (A.map fun o => pos (fa F o - fa F k)).sum = D at hsplit hup hDD
    generalize vS F k (tookL L 0 A) = V at hsplit hlow
    have a1 : tw * mostN n F A ≤ tw * ((n : Int) * fa F k + D) := Int.mul_le_mul_of_nonneg_left hup h0
    have a2 : tw * ((n : Int) * fa F k + D) = tw * ((n : Int) * fa F k) + tw * D := Int.mul_add ..
    have a3 := hw k hkc
    have a4 : tw * D ≤ mw * D := Int.mul_le_mul_of_nonneg_right h1 hDD
    have a5 : (Uf F L k (L.length - k) + D) * mw ≤ takeS F L A * mw := Int.mul_le_mul_of_nonneg_right (by omega) hm0
    have a6 : (Uf F L k (L.length - k) + D) * mw = Uf F L k (L.length - k) * mw + D * mw := Int.add_mul ..
    have a7 : D * mw = mw * D := Int.mul_comm ..
    omega
  · have hall : takeS F L A = (A.map (fa F)).sum := took_sum (fa F) A 0 fun o ho hle => absurd ⟨o, hA o ho, by omega⟩ hk
    have hm := most_all n hF.lo A
    have a1 : tw * mostN n F A ≤ mw * mostN n F A := Int.mul_le_mul_of_nonneg_right h1 hmost
    have a2 : mw * mostN n F A ≤ mw * takeS F L A := Int.mul_le_mul_of_nonneg_left (by omega) hm0
    have a3 : mw * takeS F L A = takeS F L A * mw := Int.mul_comm ..
    omega
/-! floods -/
/-- n of each class, the lowest fare first, up to k -/
def floodN (n c k : Nat) : List Nat := (List.range (c - k)).flatMap fun i => List.replicate n (c - 1 - i)
theorem floodN_end (n c : Nat) : floodN n c c = [] := by
  unfold floodN
  rw [Nat.sub_self]
  rfl
theorem floodN_step (n : Nat) {c k : Nat} (h : k < c) : floodN n c k = floodN n c (k + 1) ++ List.replicate n k := by
  unfold floodN
  rw [show c - k = (c - (k + 1)) + 1 by omega, List.range_succ, List.flatMap_append]
  congr 1
  rw [List.flatMap_cons, List.flatMap_nil, List.append_nil]
  congr 1
  omega
theorem floodN_mem {n c k o : Nat} (h : o ∈ floodN n c k) : k ≤ o ∧ o < c := by
  unfold floodN at h
  obtain ⟨i, hi, ho⟩ := List.mem_flatMap.mp h
  have := List.mem_range.mp hi
  have := List.eq_of_mem_replicate ho
  omega
theorem floodN_len (n c k : Nat) : (floodN n c k).length = n * (c - k) := by
  have key : ∀ d : Nat, ((List.range d).flatMap fun i => List.replicate n (c - 1 - i)).length = n * d := fun d => by
    induction d with
    | zero => rfl
    | succ d ih =>
      rw [List.range_succ, List.flatMap_append, List.length_append, ih, List.flatMap_cons, List.flatMap_nil, List.append_nil, List.length_replicate, Nat.mul_succ]
  exact key _
theorem tookL_app (L : List Int) : ∀ (A B : List Nat) (m : Int), tookL L m (A ++ B) = tookL L m A ++ tookL L (m + (tookL L m A).length) B
  | [], B, m => by
    show tookL L m B = tookL L (m + 0) B
    rw [Int.add_zero]
  | a :: A, B, m => by
    rw [List.cons_append, tookL, tookL]
    by_cases c : m < fa L a
    · rw [if_pos c, if_pos c, List.cons_append, tookL_app L A B, List.length_cons]
      congr 3
      omega
    · rw [if_neg c, if_neg c, tookL_app L A B]
theorem tookL_rep (L : List Int) (k : Nat) : ∀ (n : Nat) (m : Int), m ≤ fa L k → fa L k ≤ m + n → tookL L m (List.replicate n k) = List.replicate (fa L k - m).toNat k
  | 0, m, h1, h2 => by
    rw [show (fa L k - m).toNat = 0 by omega]
    rfl
  | n + 1, m, h1, h2 => by
    rw [List.replicate_succ, tookL]
    by_cases c : m < fa L k
    · rw [if_pos c, tookL_rep L k n (m + 1) (by omega) (by omega), show (fa L k - m).toNat = (fa L k - (m + 1)).toNat + 1 by omega, List.replicate_succ]
    · rw [if_neg c]
      have e : m = fa L k := by omega
      rw [show (fa L k - m).toNat = 0 by omega]
      have none : ∀ n : Nat, tookL L m (List.replicate n k) = [] := fun n => by
        induction n with
        | zero => rfl
        | succ n ih => rw [List.replicate_succ, tookL, if_neg c, ih]
      exact none n
theorem sum_rep (v : Int) : ∀ n : Nat, (List.replicate n v).sum = (n : Int) * v
  | 0 => by simp
  | n + 1 => by
    rw [List.replicate_succ, List.sum_cons, sum_rep v n, show ((n + 1 : Nat) : Int) = (n : Int) + 1 by omega, Int.add_mul, Int.one_mul]
    omega
theorem flood_took {n : Nat} {L : List Int} (hL : LOk n L) (F : List Int) : ∀ (d k : Nat), k + d = L.length → ((tookL L 0 (floodN n L.length k)).length : Int) = fa L k ∧ takeS F L (floodN n L.length k) = Uf F L k d
  | 0, k, h => by
    have : k = L.length := by omega
    subst this
    rw [floodN_end, fa_out (Nat.le_refl _)]
    exact ⟨rfl, rfl⟩
  | d + 1, k, h => by
    obtain ⟨h1, h2⟩ := flood_took hL F d (k + 1) (by omega)
    have hle : fa L (k + 1) ≤ fa L k := by
      by_cases c : k + 1 < L.length
      · exact hL.falls k (k + 1) (by omega) c
      · rw [fa_out (o := k + 1) (by omega)]
        exact hL.lo k
    have h0 := hL.lo (k + 1)
    have hn := hL.hi k
    have e : tookL L 0 (floodN n L.length k) = tookL L 0 (floodN n L.length (k + 1)) ++ List.replicate (fa L k - fa L (k + 1)).toNat k := by
      rw [floodN_step n (by omega), tookL_app, h1, Int.zero_add, tookL_rep L k n _ hle (by omega)]
    constructor
    · rw [e, List.length_append, List.length_replicate]
      omega
    · unfold takeS at h2 ⊢
      rw [e, List.map_append, List.sum_append, h2, List.map_replicate, sum_rep, Uf, show (((fa L k - fa L (k + 1)).toNat : Nat) : Int) = fa L k - fa L (k + 1) by omega, Int.mul_comm (fa F k)]
      omega
theorem flood_sorted {F : List Int} (hF : Falls F) (n : Nat) : ∀ (d k : Nat), k + d = F.length → ((floodN n F.length k).map (fa F)).Pairwise (fun a b => decide (a ≤ b) = true)
  | 0, k, h => by
    have : k = F.length := by omega
    subst this
    rw [floodN_end]
    exact List.Pairwise.nil
  | d + 1, k, h => by
    rw [floodN_step n (by omega), List.map_append, List.pairwise_append]
    refine ⟨flood_sorted hF n d (k + 1) (by omega), ?_, fun x hx y hy => ?_⟩
    · rw [List.map_replicate]
      exact List.pairwise_replicate.mpr (.inr (decide_eq_true (Int.le_refl _)))
    · obtain ⟨o, ho, rfl⟩ := List.mem_map.mp hx
      obtain ⟨q, hq, rfl⟩ := List.mem_map.mp hy
      rw [List.eq_of_mem_replicate hq]
      have := floodN_mem ho
      exact decide_eq_true (hF k o (by omega) this.2)
theorem flood_most {F : List Int} (hF : Falls F) (n : Nat) {k : Nat} (hk : k < F.length) : mostN n F (floodN n F.length k) = (n : Int) * fa F k := by
  unfold mostN
  rw [List.mergeSort_of_pairwise (flood_sorted hF n (F.length - k) k (by omega)), floodN_step n hk, List.map_append, List.reverse_append, List.map_replicate, List.reverse_replicate, List.take_left' (List.length_replicate ..), sum_rep]
/-! the worst flood -/
def downL (c : Nat) : List Nat := (List.range c).map fun i => c - 1 - i
def worstStep (T M : Nat → Int) (st : Option (Int × Int × Nat)) (k : Nat) : Option (Int × Int × Nat) := match st with
  | none => some (T k, M k, k)
  | some p => if T k * p.2.1 < p.1 * M k then some (T k, M k, k) else some p
def worstN (c : Nat) (T M : Nat → Int) : Option (Int × Int × Nat) := (downL c).foldl (worstStep T M) none
theorem worst_fold {T M : Nat → Int} : ∀ (ks : List Nat) (k0 : Nat) (S : Nat → Prop), (∀ k ∈ ks, 0 < M k) → 0 < M k0 → (∀ j, S j → 0 < M j) → (∀ j, S j → T k0 * M j ≤ T j * M k0) → S k0 →
    ∃ k, (k = k0 ∨ k ∈ ks) ∧ ks.foldl (worstStep T M) (some (T k0, M k0, k0)) = some (T k, M k, k) ∧ ∀ j, (S j ∨ j ∈ ks) → T k * M j ≤ T j * M k
  | [], k0, S, _, _, _, h, _ => ⟨k0, .inl rfl, rfl, fun j hj => hj.elim (h j) fun z => nomatch z⟩
  | a :: r, k0, S, hM, h0, hS, h, s0 => by
    rw [List.foldl_cons]
    have ha := hM a List.mem_cons_self
    have hr : ∀ k ∈ r, 0 < M k := fun k hk => hM k (List.mem_cons_of_mem _ hk)
    have hS2 : ∀ j, (S j ∨ j = a) → 0 < M j := fun j hj => hj.elim (hS j) fun z => z ▸ ha
    by_cases c : T a * M k0 < T k0 * M a
    · have e : worstStep T M (some (T k0, M k0, k0)) a = some (T a, M a, a) := if_pos c
      rw [e]
      obtain ⟨k, h1, h2, h3⟩ := worst_fold r a (fun j => S j ∨ j = a) hr ha hS2 (fun j hj => by
        rcases hj with hj | rfl
        · have g1 := h j hj
          have g2 := hS j hj
          have m1 : T a * M k0 * M j ≤ T k0 * M a * M j := Int.mul_le_mul_of_nonneg_right (by omega) (by omega)
          have m2 : T k0 * M j * M a ≤ T j * M k0 * M a := Int.mul_le_mul_of_nonneg_right g1 (by omega)
          have e1 : T k0 * M a * M j = T k0 * M j * M a := Int.mul_right_comm ..
          have e2 : T a * M k0 * M j = T a * M j * M k0 := Int.mul_right_comm ..
          have e3 : T j * M k0 * M a = T j * M a * M k0 := Int.mul_right_comm ..
          have fin : T a * M j * M k0 ≤ T j * M a * M k0 := by omega
          exact Int.le_of_mul_le_mul_right fin h0
        · exact Int.le_refl _) (.inr rfl)
      exact ⟨k, h1.elim (fun z => .inr (z ▸ List.mem_cons_self)) fun z => .inr (List.mem_cons_of_mem _ z), h2, fun j hj => h3 j (hj.elim (fun z => .inl (.inl z)) fun z => (List.mem_cons.mp z).elim (fun z => .inl (.inr z)) .inr)⟩
    · have e : worstStep T M (some (T k0, M k0, k0)) a = some (T k0, M k0, k0) := if_neg c
      rw [e]
      obtain ⟨k, h1, h2, h3⟩ := worst_fold r k0 (fun j => S j ∨ j = a) hr h0 hS2 (fun j hj => by
        rcases hj with hj | rfl
        · exact h j hj
        · omega) (.inl s0)
      exact ⟨k, h1.elim .inl fun z => .inr (List.mem_cons_of_mem _ z), h2, fun j hj => h3 j (hj.elim (fun z => .inl (.inl z)) fun z => (List.mem_cons.mp z).elim (fun z => .inl (.inr z)) .inr)⟩
theorem downL_mem {c k : Nat} : k ∈ downL c ↔ k < c := by
  unfold downL
  rw [List.mem_map]
  constructor
  · rintro ⟨i, hi, rfl⟩
    have := List.mem_range.mp hi
    omega
  · intro h
    exact ⟨c - 1 - k, List.mem_range.mpr (by omega), by omega⟩
theorem worst_spec {c : Nat} {T M : Nat → Int} (hc : 0 < c) (hM : ∀ k, k < c → 0 < M k) : ∃ k, k < c ∧ worstN c T M = some (T k, M k, k) ∧ ∀ j, j < c → T k * M j ≤ T j * M k := by
  unfold worstN
  have hm : ∀ k ∈ downL c, 0 < M k := fun k hk => hM k (downL_mem.mp hk)
  have hmem : ∀ k, k ∈ downL c ↔ k < c := fun k => downL_mem
  cases hd : downL c with
  | nil =>
    have := (hmem 0).mpr hc
    rw [hd] at this
    cases this
  | cons a r =>
    rw [hd] at hm hmem
    rw [List.foldl_cons]
    show ∃ k, k < c ∧ r.foldl (worstStep T M) (some (T a, M a, a)) = _ ∧ _
    obtain ⟨k, h1, h2, h3⟩ := worst_fold r a (fun j => j = a) (fun k hk => hm k (List.mem_cons_of_mem _ hk)) (hm a List.mem_cons_self) (fun j hj => hj ▸ hm a List.mem_cons_self) (fun j hj => by rw [show j = a from hj]; exact Int.le_refl _) rfl
    exact ⟨k, (hmem k).mp (h1.elim (fun z => z ▸ List.mem_cons_self) (List.mem_cons_of_mem _)), h2, fun j hj => h3 j ((List.mem_cons.mp ((hmem j).mpr hj)).elim .inl .inr)⟩
theorem mul4 (a b c d : Int) : a * b * (c * d) = a * c * (b * d) := by
  rw [Int.mul_assoc, Int.mul_assoc, Int.mul_left_comm b c d]
/-! lowest terms -/
def lowP (a b : Nat) : Int × Int := (((a / Nat.gcd a b : Nat) : Int), ((b / Nat.gcd a b : Nat) : Int))
theorem low_mul {a b : Nat} (hb : 0 < b) : ∃ g : Int, 0 < g ∧ (a : Int) = (lowP a b).1 * g ∧ (b : Int) = (lowP a b).2 * g := by
  have hg : 0 < Nat.gcd a b := Nat.gcd_pos_of_pos_right a hb
  refine ⟨(Nat.gcd a b : Nat), by omega, ?_, ?_⟩
  · show (a : Int) = ((a / Nat.gcd a b : Nat) : Int) * ((Nat.gcd a b : Nat) : Int)
    rw [← Int.natCast_mul, Nat.div_mul_cancel (Nat.gcd_dvd_left a b)]
  · show (b : Int) = ((b / Nat.gcd a b : Nat) : Int) * ((Nat.gcd a b : Nat) : Int)
    rw [← Int.natCast_mul, Nat.div_mul_cancel (Nat.gcd_dvd_right a b)]
theorem low_less {a b c d : Nat} (hb : 0 < b) (hd : 0 < d) : ((lowP a b).1 * (lowP c d).2 < (lowP c d).1 * (lowP a b).2) ↔ ((a : Int) * (d : Int) < (c : Int) * (b : Int)) := by
  obtain ⟨g, g0, e1, e2⟩ := low_mul (a := a) hb
  obtain ⟨h, h0, e3, e4⟩ := low_mul (a := c) hd
  generalize (lowP a b).1 = x at e1 ⊢
  generalize (lowP a b).2 = y at e2 ⊢
  generalize (lowP c d).1 = u at e3 ⊢
  generalize (lowP c d).2 = v at e4 ⊢
  rw [e1, e2, e3, e4]
  have m1 : x * g * (v * h) = x * v * (g * h) := mul4 ..
  have m2 : u * h * (y * g) = u * y * (g * h) := by rw [mul4, Int.mul_comm h g]
  rw [m1, m2]
  have gh : 0 < g * h := Int.mul_pos g0 h0
  exact ⟨fun z => Int.mul_lt_mul_of_pos_right z gh, fun z => Int.lt_of_mul_lt_mul_right z (by omega)⟩
/-- a step of Euclid's: the product of the two is halved -/
theorem euclid_half {a b : Nat} (h : b < a) (hb : 0 < b) : 2 * (b * (a % b)) ≤ a * b := by
  have h1 : a % b < b := Nat.mod_lt _ hb
  have h2 : a % b + b ≤ a := by
    have := Nat.div_add_mod a b
    have : 1 ≤ a / b := (Nat.one_le_div_iff hb).mpr (by omega)
    have : b * 1 ≤ b * (a / b) := Nat.mul_le_mul_left b this
    omega
  have h3 : 2 * (a % b) ≤ a := by omega
  calc 2 * (b * (a % b)) = b * (2 * (a % b)) := by rw [Nat.mul_left_comm]
    _ ≤ b * a := Nat.mul_le_mul_left b h3
    _ = a * b := Nat.mul_comm ..
/-! all limits -/
def lastI (l : List Int) : Int := (l.getLast?).getD 0
def stepL (ls : List (List Int)) : List (List Int) := ls.flatMap fun l => (List.range (lastI l + 1).toNat).map fun x : Nat => l ++ [(x : Int)]
def limsN (n : Nat) : Nat → List (List Int)
  | 0 => [[(n : Int)]]
  | k + 1 => stepL (limsN n k)
structure LimI (n k : Nat) (l : List Int) : Prop where
  len : l.length = k + 1
  head : fa l 0 = (n : Int)
  falls : Falls l
  lo : ∀ x ∈ l, 0 ≤ x
  hi : ∀ x ∈ l, x ≤ (n : Int)
theorem fa_app {l : List Int} {x : Int} {i : Nat} (h : i < l.length) : fa (l ++ [x]) i = fa l i := by
  unfold fa
  rw [List.getElem?_append_left h]
theorem fa_snoc (l : List Int) (x : Int) : fa (l ++ [x]) l.length = x := by
  unfold fa
  rw [List.getElem?_append_right (Nat.le_refl _), Nat.sub_self]
  rfl
theorem lastI_fa {l : List Int} (h : l ≠ []) : lastI l = fa l (l.length - 1) := by
  unfold lastI fa
  rw [List.getLast?_eq_getElem?]
theorem fa_mem {l : List Int} {i : Nat} (h : i < l.length) : fa l i ∈ l := by
  rw [fa_in h]
  exact List.getElem_mem h
theorem lims_ok (n : Nat) : ∀ k, ∀ l ∈ limsN n k, LimI n k l
  | 0, l, h => by
    rw [List.mem_singleton.mp h]
    refine ⟨rfl, rfl, fun i j hij hj => ?_, fun x hx => ?_, fun x hx => ?_⟩
    · have hj : j < 1 := hj
      have : i = j := by omega
      rw [this]
      exact Int.le_refl _
    · rw [List.mem_singleton.mp hx]
      omega
    · rw [List.mem_singleton.mp hx]
      exact Int.le_refl _
  | k + 1, l, h => by
    obtain ⟨l0, hl0, hx⟩ := List.mem_flatMap.mp h
    obtain ⟨x, hxr, rfl⟩ := List.mem_map.mp hx
    have I := lims_ok n k l0 hl0
    have hx := List.mem_range.mp hxr
    have hne : l0 ≠ [] := fun z => by
      have := I.len
      rw [z] at this
      cases this
    have hlast := lastI_fa hne
    have hlm := fa_mem (l := l0) (i := l0.length - 1) (by have := I.len; omega)
    have hl1 := I.hi _ hlm
    have hl2 := I.lo _ hlm
    refine ⟨by rw [List.length_append, I.len]; rfl, by rw [fa_app (by rw [I.len]; omega)]; exact I.head, fun i j hij hj => ?_, fun y hy => ?_, fun y hy => ?_⟩
    · rw [List.length_append] at hj
      have hj : j < l0.length + 1 := hj
      by_cases c : j < l0.length
      · rw [fa_app c, fa_app (by omega)]
        exact I.falls i j hij c
      · have ej : j = l0.length := by omega
        subst ej
        rw [fa_snoc]
        by_cases ci : i < l0.length
        · rw [fa_app ci]
          have := I.falls i (l0.length - 1) (by omega) (by omega)
          omega
        · have : i = l0.length := by omega
          subst this
          rw [fa_snoc]
          exact Int.le_refl _
    · rcases List.mem_append.mp hy with hy | hy
      · exact I.lo y hy
      · rw [List.mem_singleton.mp hy]
        omega
    · rcases List.mem_append.mp hy with hy | hy
      · exact I.hi y hy
      · rw [List.mem_singleton.mp hy]
        omega
theorem LimI.ok {n k : Nat} {l : List Int} (I : LimI n k l) : LOk n l := by
  refine ⟨I.falls, fun i => ?_, fun i => ?_⟩
  · by_cases c : i < l.length
    · exact I.lo _ (fa_mem c)
    · rw [fa_out (by omega)]
      exact Int.le_refl _
  · by_cases c : i < l.length
    · exact I.hi _ (fa_mem c)
    · rw [fa_out (by omega)]
      omega
theorem flatMap_le {α β : Type} {f : α → List β} {b : Nat} : ∀ {xs : List α}, (∀ x ∈ xs, (f x).length ≤ b) → (xs.flatMap f).length ≤ xs.length * b
  | [], _ => Nat.zero_le _
  | x :: r, h => by
    have := flatMap_le (xs := r) fun y hy => h y (List.mem_cons_of_mem _ hy)
    have := h x List.mem_cons_self
    rw [List.flatMap_cons, List.length_append, List.length_cons, Nat.succ_mul]
    omega
theorem lims_len (n : Nat) : ∀ k, (limsN n k).length ≤ (n + 1) ^ k
  | 0 => Nat.le_refl _
  | k + 1 => by
    have ih := lims_len n k
    have : (stepL (limsN n k)).length ≤ (limsN n k).length * (n + 1) := flatMap_le fun l hl => by
      have I := lims_ok n k l hl
      have hne : l ≠ [] := fun z => by
        have := I.len
        rw [z] at this
        cases this
      have := I.hi _ (fa_mem (l := l) (i := l.length - 1) (by have := I.len; omega))
      have := lastI_fa hne
      rw [List.length_map, List.length_range]
      omega
    rw [Nat.pow_succ]
    exact Nat.le_trans this (Nat.mul_le_mul_right _ ih)
theorem lims_pos (n : Nat) : ∀ k, limsN n k ≠ []
  | 0 => fun z => nomatch z
  | k + 1 => fun z => by
    have h := List.flatMap_eq_nil_iff.mp (show (limsN n k).flatMap _ = [] from z)
    cases hl : limsN n k with
    | nil => exact lims_pos n k hl
    | cons l r =>
      have hm : l ∈ limsN n k := by rw [hl]; exact List.mem_cons_self
      have I := lims_ok n k l hm
      have hne : l ≠ [] := fun z => by
        have := I.len
        rw [z] at this
        cases this
      have h0 := I.lo _ (fa_mem (l := l) (i := l.length - 1) (by have := I.len; omega))
      have h1 := lastI_fa hne
      have := congrArg List.length (h l hm)
      rw [List.length_map, List.length_range, List.length_nil] at this
      omega
/-! the best limits -/
def Tf (F L : List Int) (k : Nat) : Int := Uf F L k (L.length - k)
def Mf (n : Nat) (F : List Int) (k : Nat) : Int := (n : Int) * fa F k
def worstTM (n : Nat) (F l : List Int) : Int × Int := match worstN l.length (Tf F l) (Mf n F) with
  | none => (0, 1)
  | some p => (p.1, p.2.1)
def bestStep (W : List Int → Int × Int) (st : Option (Int × Int × List Int)) (l : List Int) : Option (Int × Int × List Int) := match st with
  | none => some ((W l).1, (W l).2, l)
  | some p => if p.1 * (W l).2 < (W l).1 * p.2.1 then some ((W l).1, (W l).2, l) else some p
def bestN (n : Nat) (F : List Int) : Option (Int × Int × List Int) := (limsN n (F.length - 1)).foldl (bestStep (worstTM n F)) none
theorem best_in {W : List Int → Int × Int} : ∀ (ls : List (List Int)) (st : Option (Int × Int × List Int)), (∀ p, st = some p → (p.1, p.2.1) = W p.2.2) → ∀ p, ls.foldl (bestStep W) st = some p → ((p.1, p.2.1) = W p.2.2) ∧ (p.2.2 ∈ ls ∨ st = some p)
  | [], st, h, p, hp => ⟨h p hp, .inr hp⟩
  | l :: r, st, h, p, hp => by
    rw [List.foldl_cons] at hp
    have key : ∀ q, bestStep W st l = some q → ((q.1, q.2.1) = W q.2.2) ∧ (q.2.2 = l ∨ st = some q) := fun q hq => by
      cases st with
      | none =>
        cases hq
        exact ⟨rfl, .inl rfl⟩
      | some s =>
        by_cases c : s.1 * (W l).2 < (W l).1 * s.2.1
        · rw [show bestStep W (some s) l = some ((W l).1, (W l).2, l) from if_pos c] at hq
          cases hq
          exact ⟨rfl, .inl rfl⟩
        · rw [show bestStep W (some s) l = some s from if_neg c] at hq
          cases hq
          exact ⟨h _ rfl, .inr rfl⟩
    obtain ⟨h1, h2⟩ := best_in r _ (fun q hq => (key q hq).1) p hp
    refine ⟨h1, ?_⟩
    rcases h2 with h2 | h2
    · exact .inl (List.mem_cons_of_mem _ h2)
    · rcases (key p h2).2 with h3 | h3
      · exact .inl (by rw [h3]; exact List.mem_cons_self)
      · exact .inr h3
theorem best_some {W : List Int → Int × Int} : ∀ (ls : List (List Int)) (st : Option (Int × Int × List Int)), (ls ≠ [] ∨ st ≠ none) → ∃ p, ls.foldl (bestStep W) st = some p
  | [], st, h => by
    cases st with
    | none => exact h.elim (fun z => absurd rfl z) (fun z => absurd rfl z)
    | some p => exact ⟨p, rfl⟩
  | l :: r, st, h => by
    rw [List.foldl_cons]
    refine best_some r _ (.inr fun z => ?_)
    cases st with
    | none => cases z
    | some s =>
      unfold bestStep at z
      simp only at z
      split at z <;> cases z
/-- all that the law asks of n, fares and limits -/
structure Good (n : Nat) (F L : List Int) : Prop where
  n1 : 1 ≤ n
  n12 : n ≤ 12
  c1 : 1 ≤ F.length
  c4 : F.length ≤ 4
  len : L.length = F.length
  fF : FOk F
  f1 : ∀ x ∈ F, 1 ≤ x ∧ x ≤ 1000
  fL : LOk n L
theorem Good.M {n : Nat} {F L : List Int} (g : Good n F L) {k : Nat} (hk : k < L.length) : 1 ≤ Mf n F k ∧ Mf n F k ≤ 12000 := by
  have h := g.f1 _ (fa_mem (l := F) (i := k) (by rw [← g.len]; exact hk))
  have := g.n1
  have := g.n12
  unfold Mf
  have m1 : (1 : Int) * 1 ≤ (n : Int) * fa F k := Int.mul_le_mul (by omega) h.1 (by omega) (by omega)
  have m2 : (n : Int) * fa F k ≤ 12 * 1000 := Int.mul_le_mul (by omega) h.2 (by omega) (by omega)
  omega
theorem Good.T {n : Nat} {F L : List Int} (g : Good n F L) {k : Nat} (hk : k < L.length) : 0 ≤ Tf F L k ∧ Tf F L k ≤ Mf n F k := by
  obtain ⟨h1, h2⟩ := flood_took (n := n) g.fL F (L.length - k) k (by omega)
  unfold Tf
  rw [← h2]
  constructor
  · exact sum_nonneg fun y hy => by
      obtain ⟨o, _, rfl⟩ := List.mem_map.mp hy
      exact g.fF.lo o
  · unfold takeS Mf
    have key : ∀ T : List Nat, (∀ o ∈ T, fa F o ≤ fa F k) → (T.map (fa F)).sum ≤ (T.length : Int) * fa F k := fun T => by
      induction T with
      | nil => intro _; simp
      | cons o r ih =>
        intro h
        have := ih fun x hx => h x (List.mem_cons_of_mem _ hx)
        have := h o List.mem_cons_self
        rw [List.map_cons, List.sum_cons, List.length_cons, show ((r.length + 1 : Nat) : Int) = (r.length : Int) + 1 by omega, Int.add_mul, Int.one_mul]
        omega
    have k1 := key (tookL L 0 (floodN n L.length k)) fun o ho => by
      have := floodN_mem (tookL_sub L _ _ o ho)
      exact g.fF.falls k o this.1 (by rw [← g.len]; exact this.2)
    rw [h1] at k1
    exact Int.le_trans k1 (Int.mul_le_mul_of_nonneg_right (g.fL.hi k) (g.fF.lo k))
theorem Good.worst {n : Nat} {F L : List Int} (g : Good n F L) : ∃ k, k < L.length ∧ worstN L.length (Tf F L) (Mf n F) = some (Tf F L k, Mf n F k, k) ∧ ∀ j, j < L.length → Tf F L k * Mf n F j ≤ Tf F L j * Mf n F k :=
  worst_spec (by rw [g.len]; exact g.c1) fun k hk => by have := (g.M hk).1; omega
theorem Good.least {n : Nat} {F L : List Int} (g : Good n F L) {k : Nat} (hk : k < L.length) (h : ∀ j, j < L.length → Tf F L k * Mf n F j ≤ Tf F L j * Mf n F k) {A : List Nat} (hA : ∀ o ∈ A, o < L.length) :
    Tf F L k * mostN n F A ≤ takeS F L A * Mf n F k :=
  flood_least g.fF g.fL g.len.symm hA (g.T hk).1 (g.T hk).2 h
/-- the same in lowest terms -/
theorem low_least {a b : Nat} {x y : Int} (hb : 0 < b) (h : (a : Int) * x ≤ y * (b : Int)) : (lowP a b).1 * x ≤ y * (lowP a b).2 := by
  obtain ⟨g, g0, e1, e2⟩ := low_mul (a := a) hb
  rw [e1, e2] at h
  have h1 : (lowP a b).1 * g * x = (lowP a b).1 * x * g := Int.mul_right_comm ..
  have h2 : y * ((lowP a b).2 * g) = y * (lowP a b).2 * g := (Int.mul_assoc ..).symm
  rw [h1, h2] at h
  exact Int.le_of_mul_le_mul_right h g0
theorem tookB_snoc (L : List Int) (o : Nat) : ∀ (A : List Nat) (m : Int), tookB L m (A ++ [o]) = tookB L m A ++ [decide (m + (tookL L m A).length < fa L o)]
  | [], m => by
    show [decide (m < fa L o)] = [decide (m + 0 < fa L o)]
    rw [Int.add_zero]
  | a :: A, m => by
    rw [List.cons_append, tookB, tookB, tookL, List.cons_append]
    by_cases c : m < fa L a
    · rw [if_pos c, if_pos c, tookB_snoc L o A, List.length_cons]
      have : (m + 1 + ((tookL L (m + 1) A).length : Int) < fa L o) = (m + (((tookL L (m + 1) A).length + 1 : Nat) : Int) < fa L o) := by
        rw [eq_iff_iff]
        omega
      simp only [this]
    · rw [if_neg c, if_neg c, tookB_snoc L o A]
theorem tookL_snoc (L : List Int) (o : Nat) (A : List Nat) (m : Int) : ((tookL L m (A ++ [o])).length : Int) = (tookL L m A).length + if m + (tookL L m A).length < fa L o then 1 else 0 := by
  rw [tookL_app, List.length_append, tookL]
  by_cases c : m + (tookL L m A).length < fa L o
  · rw [if_pos c, if_pos c]
    show _ = _
    simp [tookL]
  · rw [if_neg c, if_neg c]
    simp [tookL]
theorem lowP_le {a b : Nat} : 0 ≤ (lowP a b).1 ∧ (lowP a b).1 ≤ a ∧ 0 ≤ (lowP a b).2 ∧ (lowP a b).2 ≤ b := by
  exact ⟨Int.natCast_nonneg _, Int.ofNat_le.mpr (Nat.div_le_self a (Nat.gcd a b)), Int.natCast_nonneg _, Int.ofNat_le.mpr (Nat.div_le_self b (Nat.gcd a b))⟩
structure GoodF (n : Nat) (F : List Int) : Prop where
  n1 : 1 ≤ n
  n12 : n ≤ 12
  c1 : 1 ≤ F.length
  c4 : F.length ≤ 4
  fF : FOk F
  f1 : ∀ x ∈ F, 1 ≤ x ∧ x ≤ 1000
theorem GoodF.good {n : Nat} {F l : List Int} (g : GoodF n F) (h : l ∈ limsN n (F.length - 1)) : Good n F l := by
  have I := lims_ok n _ l h
  exact ⟨g.n1, g.n12, g.c1, g.c4, by rw [I.len]; have := g.c1; omega, g.fF, g.f1, I.ok⟩
theorem GoodF.worst {n : Nat} {F l : List Int} (g : GoodF n F) (h : l ∈ limsN n (F.length - 1)) : ∃ k, k < l.length ∧ worstN l.length (Tf F l) (Mf n F) = some (Tf F l k, Mf n F k, k) ∧ worstTM n F l = (Tf F l k, Mf n F k) := by
  obtain ⟨k, h1, h2, _⟩ := (g.good h).worst
  refine ⟨k, h1, h2, ?_⟩
  unfold worstTM
  rw [h2]
end Sd
end
-- SdK15
section
set_option Elab.async false
set_option linter.all false
set_option maxRecDepth 100000
set_option maxHeartbeats 4000000
set_option autoImplicit false
/-! k15: what its defs say -/
namespace Sd
open PySem PySem.Spec PyProof.Rows L2
def natD (k : Nat) : D := .int (k : Int)
def tupD (l : List Int) : D := .tup (l.map .int)
def lowD (t m : Int) : D := .tup [.int (lowP t.toNat m.toNat).1, .int (lowP t.toNat m.toNat).2]
def sp_lowest : DSp := fun _ ds O => ∃ t m : Nat, ds = [.int (t : Int), .int (m : Int)] ∧ t ≤ 100000 ∧ 1 ≤ m ∧ m ≤ 100000 ∧ O (.ret (.tup [.int (lowP t m).1, .int (lowP t m).2]))
def sp__law_lowest : DSp := sp_lowest
def sp_is_less : DSp := fun _ ds O => ∃ a b c d : Int, ds = [.tup [.int a, .int b], .tup [.int c, .int d]] ∧ (0 ≤ a ∧ a ≤ 100000) ∧ (0 ≤ c ∧ c ≤ 100000) ∧ O (.ret (.bl (decide (a * d < c * b))))
def sp_told_taken : DSp := fun _ ds O => ∃ (lt at_ : D) (L : List Int) (A : List Nat), ds = [lt, at_] ∧ lt.seq = some (L.map .int) ∧ at_.seq = some (A.map natD) ∧ (∀ o ∈ A, o < L.length) ∧ A.length ≤ 1000 ∧ O (.ret (.lst ((tookB L 0 A).map .bl)))
def sp__law_took : DSp := sp_told_taken
def sp_told_takingsL : DSp := fun _ ds O => ∃ (ft lt at_ : D) (F L : List Int) (A : List Nat), ds = [ft, lt, at_] ∧ ft.seq = some (F.map .int) ∧ lt.seq = some (L.map .int) ∧ at_.seq = some (A.map natD) ∧ F.length = L.length ∧ (∀ o ∈ A, o < L.length) ∧ A.length ≤ 1000 ∧ O (.ret (.int (takeS F L A)))
def sp_told_most : DSp := fun _ ds O => ∃ (n : Nat) (ft at_ : D) (F : List Int) (A : List Nat), ds = [.int (n : Int), ft, at_] ∧ n ≤ 1000 ∧ ft.seq = some (F.map .int) ∧ at_.seq = some (A.map natD) ∧ (∀ o ∈ A, o < F.length) ∧ A.length ≤ 1000 ∧ O (.ret (.int (mostN n F A)))
def sp__law_sums : DSp := fun _ ds O => ∃ (n : Nat) (ft lt at_ : D) (F L : List Int) (A : List Nat), ds = [.int (n : Int), ft, lt, at_] ∧ n ≤ 1000 ∧ ft.seq = some (F.map .int) ∧ lt.seq = some (L.map .int) ∧ at_.seq = some (A.map natD) ∧ F.length = L.length ∧ (∀ o ∈ A, o < L.length) ∧ A.length ≤ 1000 ∧ O (.ret (.tup [.int (takeS F L A), .int (mostN n F A)]))
def sp_told_flood : DSp := fun _ ds O => ∃ (n : Nat) (ft : D) (fs : List D) (k : Nat), ds = [.int (n : Int), ft, .int (k : Int)] ∧ n ≤ 12 ∧ ft.seq = some fs ∧ fs.length ≤ 4 ∧ k ≤ fs.length ∧ O (.ret (.lst ((floodN n fs.length k).map natD)))
def sp__law_flood : DSp := sp_told_flood
def sp_flood_share : DSp := fun _ ds O => ∃ (n : Nat) (ft lt : D) (F L : List Int) (k : Nat), ds = [.int (n : Int), ft, lt, .int (k : Int)] ∧ ft.seq = some (F.map .int) ∧ lt.seq = some (L.map .int) ∧ Good n F L ∧ k < L.length ∧ O (.ret (lowD (Tf F L k) (Mf n F k)))
def WorstOk (n : Nat) (F L : List Int) (P : Nat → Prop) : Prop := ∀ k, k < L.length → worstN L.length (Tf F L) (Mf n F) = some (Tf F L k, Mf n F k, k) → P k
def sp_worst_of : DSp := fun _ ds O => ∃ (n : Nat) (ft lt : D) (F L : List Int), ds = [.int (n : Int), ft, lt] ∧ ft.seq = some (F.map .int) ∧ lt.seq = some (L.map .int) ∧ Good n F L ∧ WorstOk n F L fun k => O (.ret (.tup [lowD (Tf F L k) (Mf n F k), .int (k : Int)]))
def sp__law_worst : DSp := fun _ ds O => ∃ (n : Nat) (ft lt : D) (F L : List Int), ds = [.int (n : Int), ft, lt] ∧ ft.seq = some (F.map .int) ∧ lt.seq = some (L.map .int) ∧ Good n F L ∧ WorstOk n F L fun k => O (.ret (.tup [.int (Tf F L k), .int (Mf n F k), .int (k : Int)]))
def sp_all_limits : DSp := fun _ ds O => ∃ n k : Nat, ds = [.int (n : Int), .int ((k : Int) + 1)] ∧ n ≤ 12 ∧ k ≤ 3 ∧ O (.ret (.lst ((limsN n k).map tupD)))
def sp__law_limits : DSp := sp_all_limits
def sp__law_rows : DSp := fun _ ds O => ∃ n k : Nat, ds = [.int (n : Int), .int (k : Int)] ∧ n ≤ 3 ∧ k ≤ 5 ∧ ∀ rows : List (List Nat), (∀ A ∈ rows, A.length ≤ 5 ∧ ∀ o ∈ A, o < n) → rows.length ≤ 2000 → O (.ret (.lst (rows.map fun A => .tup (A.map natD))))
def sp_told_best : DSp := fun _ ds O => ∃ (n : Nat) (ft : D) (F : List Int), ds = [.int (n : Int), ft] ∧ ft.seq = some (F.map .int) ∧ GoodF n F ∧ ∀ p, bestN n F = some p → O (.ret (.tup [lowD p.1 p.2.1, tupD p.2.2]))
/-! what is refused -/
def toI : D → Int
  | .int i => i
  | _ => 0
def lenD (t : D) : Nat := match t.seq with
  | none => 0
  | some xs => xs.length
def okN (n : D) : Bool := isWithin n 1 12
def okF (t : D) : Bool := match t.seq with
  | none => false
  | some xs => (decide (1 ≤ xs.length) && decide (xs.length ≤ 4)) && (xs.all (fun y => isWithin y 1 1000) && ((xs.map toI).zip ((xs.map toI).drop 1)).all fun p => decide (p.2 < p.1))
def spFares (n t : D) (O : Out → Prop) (P : Prop) : Prop := (okN n = false → O (.exc "BadN" n)) ∧ (okN n = true → okF t = false → O (.exc "BadFares" t)) ∧ (okN n = true → okF t = true → P)
def sp_check_fares : DSp := fun _ ds O => ∃ n t : D, ds = [n, t] ∧ n.okv = true ∧ t.okv = true ∧ spFares n t O (O (.ret .non))
def okL (n : D) (c : Nat) (l : D) : Bool := match l with
  | .tup xs => decide (xs.length = c) && (xs.all (fun y => isWithin y 0 (toI n)) && (decide (toI (xs[0]?.getD .non) = toI n) && ((xs.map toI).zip ((xs.map toI).drop 1)).all fun p => decide (p.2 ≤ p.1)))
  | _ => false
def spLims (n t l : D) (O : Out → Prop) (P : Prop) : Prop := (okL n (lenD t) l = false → O (.exc "BadLimits" l)) ∧ (okL n (lenD t) l = true → P)
def sp_check_limits : DSp := fun _ ds O => ∃ n t l : D, ds = [n, t, l] ∧ n.okv = true ∧ t.okv = true ∧ l.okv = true ∧ spFares n t O (spLims n t l O (O (.ret .non)))
def badAsked (c : Nat) (a : D) : Option Int := match a.seq with
  | none => some (-1)
  | some xs => if xs.length ≤ 40 then (xs.findIdx? fun x => !isWithin x 0 ((c : Int) - 1)).map Int.ofNat else some (-1)
def spAsked (t a : D) (O : Out → Prop) (P : Prop) : Prop := (∀ i, badAsked (lenD t) a = some i → O (.exc "BadAsked" (.int i))) ∧ (badAsked (lenD t) a = none → P)
def sp_check_asked : DSp := fun _ ds O => ∃ t a : D, ds = [t, a] ∧ t.okv = true ∧ a.okv = true ∧ okF t = true ∧ spAsked t a O (O (.ret .non))
def sp_taken : DSp := fun _ ds O => ∃ n t l a : D, ds = [n, t, l, a] ∧ n.okv = true ∧ t.okv = true ∧ l.okv = true ∧ a.okv = true ∧ spFares n t O (spLims n t l O (spAsked t a O (∃ (L : List Int) (A : List Nat), l.seq = some (L.map .int) ∧ a.seq = some (A.map natD) ∧ (∀ o ∈ A, o < L.length) ∧ A.length ≤ 1000 ∧ O (.ret (.lst ((tookB L 0 A).map .bl))))))
def sp_asked_takings : DSp := fun _ ds O => ∃ n t l a : D, ds = [n, t, l, a] ∧ n.okv = true ∧ t.okv = true ∧ l.okv = true ∧ a.okv = true ∧ spFares n t O (spLims n t l O (spAsked t a O (∃ (F L : List Int) (A : List Nat), t.seq = some (F.map .int) ∧ l.seq = some (L.map .int) ∧ a.seq = some (A.map natD) ∧ F.length = L.length ∧ (∀ o ∈ A, o < L.length) ∧ A.length ≤ 1000 ∧ O (.ret (.int (takeS F L A))))))
def sp_best_asked : DSp := fun _ ds O => ∃ n t a : D, ds = [n, t, a] ∧ n.okv = true ∧ t.okv = true ∧ a.okv = true ∧ spFares n t O (spAsked t a O (∃ (N : Nat) (F : List Int) (A : List Nat), n = .int (N : Int) ∧ N ≤ 1000 ∧ t.seq = some (F.map .int) ∧ a.seq = some (A.map natD) ∧ (∀ o ∈ A, o < F.length) ∧ A.length ≤ 1000 ∧ O (.ret (.int (mostN N F A)))))
def spShare (ds : List D) (O : Out → Prop) (P : Nat → List Int → List Int → Prop) : Prop := ∃ n t l : D, ds = [n, t, l] ∧ n.okv = true ∧ t.okv = true ∧ l.okv = true ∧ spFares n t O (spLims n t l O (∃ (N : Nat) (F L : List Int), n = .int (N : Int) ∧ t.seq = some (F.map .int) ∧ l.seq = some (L.map .int) ∧ Good N F L ∧ P N F L))
def sp_share : DSp := fun _ ds O => spShare ds O fun N F L => WorstOk N F L fun k => O (.ret (lowD (Tf F L k) (Mf N F k)))
def sp_worst_flood : DSp := fun _ ds O => spShare ds O fun N F L => WorstOk N F L fun k => O (.ret (.int (k : Int)))
def sp_flood : DSp := fun _ ds O => ∃ n t k : D, ds = [n, t, k] ∧ n.okv = true ∧ t.okv = true ∧ k.okv = true ∧ spFares n t O ((isWithin k 0 ((lenD t : Int) - 1) = false → O (.exc "BadLast" k)) ∧ (isWithin k 0 ((lenD t : Int) - 1) = true → ∃ (N K : Nat), n = .int (N : Int) ∧ k = .int (K : Int) ∧ N ≤ 12 ∧ K ≤ lenD t ∧ lenD t ≤ 4 ∧ O (.ret (.lst ((floodN N (lenD t) K).map natD)))))
def spBest (ds : List D) (O : Out → Prop) (P : Nat → List Int → Prop) : Prop := ∃ n t : D, ds = [n, t] ∧ n.okv = true ∧ t.okv = true ∧ spFares n t O (∃ (N : Nat) (F : List Int), n = .int (N : Int) ∧ t.seq = some (F.map .int) ∧ GoodF N F ∧ P N F)
def sp_best_limits : DSp := fun _ ds O => spBest ds O fun N F => ∀ p, bestN N F = some p → O (.ret (tupD p.2.2))
def sp_best_share : DSp := fun _ ds O => spBest ds O fun N F => ∀ p, bestN N F = some p → O (.ret (lowD p.1 p.2.1))
/-! small things -/
theorem most_of {n : Nat} {F : List Int} {A : List Nat} {ns : List Int} (hp : ns.Perm (A.map (fa F))) (hs : ns.Pairwise (· ≤ ·)) : (ns.reverse.take n).sum = mostN n F A := by
  have : ns = (A.map (fa F)).mergeSort fun a b => decide (a ≤ b) := by
    refine List.Perm.eq_of_pairwise (le := fun a b => a ≤ b) (fun a b _ _ h1 h2 => Int.le_antisymm h1 h2) hs ?_ (hp.trans (List.mergeSort_perm _ _).symm)
    refine (List.pairwise_mergeSort (le := fun a b : Int => decide (a ≤ b)) (fun a b c h1 h2 => ?_) (fun a b => ?_) (A.map (fa F))).imp fun {a b} h => of_decide_eq_true h
    · exact decide_eq_true (Int.le_trans (of_decide_eq_true h1) (of_decide_eq_true h2))
    · rw [Bool.or_eq_true, decide_eq_true_eq, decide_eq_true_eq]
      omega
  unfold mostN
  rw [this]
theorem fares_of {F : List Int} {A : List Nat} : A.map (fun o => D.int (fa F o)) = (A.map (fa F)).map D.int := by
  rw [List.map_map]
  rfl
theorem downD_nat {c m : Nat} (h : m ≤ c) : downD ((c : Int) - 1) m = (List.range m).map fun i => natD (c - 1 - i) := by
  unfold downD
  refine List.map_congr_left fun i hi => ?_
  have := List.mem_range.mp hi
  unfold natD
  rw [show (c : Int) - 1 - (i : Int) = ((c - 1 - i : Nat) : Int) by omega]
theorem ix_fa {d : D} {F : List Int} {o : Nat} (h : d.seq = some (F.map D.int)) (ho : o < F.length) : d.ix (natD o) = some (.int (fa F o)) := by
  unfold natD
  rw [ix_of h, atI_nat', List.getElem?_map, List.getElem?_eq_getElem ho, fa_in ho]
  rfl
theorem floodN_part (n c : Nat) : ∀ d : Nat, ((List.range d).flatMap fun i => List.replicate n (c - 1 - i)).length = n * d
  | 0 => rfl
  | d + 1 => by
    rw [List.range_succ, List.flatMap_append, List.length_append, floodN_part n c d, List.flatMap_cons, List.flatMap_nil, List.append_nil, List.length_replicate, Nat.mul_succ]
theorem zip_range {A : List Nat} {bs : List Bool} (h : bs.length = A.length) : A.zip bs = (List.range A.length).map fun i => ((A[i]?).getD 0, (bs[i]?).getD false) := by
  apply List.ext_getElem?
  intro i
  rw [List.getElem?_map]
  by_cases hi : i < A.length
  · rw [List.getElem?_range hi, List.getElem?_eq_getElem (by rw [List.length_zip]; omega)]
    simp [List.getElem?_eq_getElem hi, List.getElem?_eq_getElem (show i < bs.length by omega)]
  · rw [List.getElem?_eq_none (by rw [List.length_zip]; omega), List.getElem?_eq_none (by rw [List.length_range]; omega)]
    rfl
def flP (n c d : Nat) : List Nat := (List.range d).flatMap fun i => List.replicate n (c - 1 - i)
theorem flP_len (n c d : Nat) : (flP n c d).length = n * d := floodN_part n c d
theorem flP_succ (n c d : Nat) : flP n c (d + 1) = flP n c d ++ List.replicate n (c - 1 - d) := by
  unfold flP
  rw [List.range_succ, List.flatMap_append, List.flatMap_cons, List.flatMap_nil, List.append_nil]
theorem atI_neg1 {α : Type} {xs : List α} {x : α} (h : xs.getLast? = some x) : L2.atI xs (-1) = some x := by
  have hne : xs ≠ [] := fun z => by
    rw [z] at h
    cases h
  rw [List.getLast?_eq_some_getLast hne] at h
  cases h
  have := L2.atI_last (xs.dropLast) (xs.getLast hne)
  rwa [List.dropLast_concat_getLast] at this
theorem tup_last {l : List Int} (h : l ≠ []) : (tupD l).ix (.int (-1)) = some (.int (lastI l)) := by
  unfold tupD
  rw [qix_tup]
  refine atI_neg1 ?_
  rw [List.getLast?_map]
  unfold lastI
  rw [List.getLast?_eq_some_getLast h]
  rfl
theorem stepL_snoc (ls : List (List Int)) (l : List Int) : stepL (ls ++ [l]) = stepL ls ++ (List.range (lastI l + 1).toNat).map fun x : Nat => l ++ [(x : Int)] := by
  unfold stepL
  rw [List.flatMap_append, List.flatMap_cons, List.flatMap_nil, List.append_nil]
theorem LimI.ne {n k : Nat} {l : List Int} (I : LimI n k l) : l ≠ [] := fun z => by
  have := I.len
  rw [z] at this
  cases this
theorem LimI.last {n k : Nat} {l : List Int} (I : LimI n k l) : 0 ≤ lastI l ∧ lastI l ≤ n := by
  have hm := fa_mem (l := l) (i := l.length - 1) (by have := I.len; omega)
  rw [← lastI_fa I.ne] at hm
  exact ⟨I.lo _ hm, I.hi _ hm⟩
theorem step_len {n i : Nat} (hn : n ≤ 12) (hi : i ≤ 2) (j : Nat) : (stepL ((limsN n i).take j)).length ≤ 2197 := by
  have h1 : (stepL ((limsN n i).take j)).length ≤ ((limsN n i).take j).length * 13 := flatMap_le fun l hl => by
    have I := lims_ok n i l (List.mem_of_mem_take hl)
    have := I.last
    rw [List.length_map, List.length_range]
    omega
  have h2 : ((limsN n i).take j).length ≤ (limsN n i).length := by rw [List.length_take]; omega
  have h3 := lims_len n i
  have h4 : (n + 1) ^ i ≤ 13 ^ 2 := Nat.le_trans (Nat.pow_le_pow_left (by omega) i) (Nat.pow_le_pow_right (by decide) hi)
  have h5 : ((limsN n i).take j).length * 13 ≤ 13 ^ 2 * 13 := Nat.mul_le_mul_right 13 (by omega)
  omega
def rowT (A : List Nat) : D := .tup (A.map natD)
def wD : Option (Int × Int × Nat) → D
  | none => .non
  | some p => .tup [lowD p.1 p.2.1, natD p.2.2]
def wD2 : Option (Int × Int × Nat) → D
  | none => .non
  | some p => .tup [.int p.1, .int p.2.1, natD p.2.2]
def wP (c : Nat) (T M : Nat → Int) (i : Nat) : Option (Int × Int × Nat) := ((List.range i).map fun i => c - 1 - i).foldl (worstStep T M) none
theorem wP_succ (c : Nat) (T M : Nat → Int) (i : Nat) : wP c T M (i + 1) = worstStep T M (wP c T M i) (c - 1 - i) := by
  unfold wP
  rw [List.range_succ, List.map_append, List.foldl_append]
  rfl
theorem wP_is (c : Nat) (T M : Nat → Int) : ∀ i, i ≤ c → (i = 0 ∧ wP c T M i = none) ∨ ∃ k, k < c ∧ wP c T M i = some (T k, M k, k)
  | 0, _ => .inl ⟨rfl, rfl⟩
  | i + 1, h => by
    right
    rw [wP_succ]
    rcases wP_is c T M i (by omega) with ⟨_, e⟩ | ⟨k, hk, e⟩
    · rw [e]
      exact ⟨c - 1 - i, by omega, rfl⟩
    · rw [e]
      by_cases cc : T (c - 1 - i) * M k < T k * M (c - 1 - i)
      · exact ⟨c - 1 - i, by omega, if_pos cc⟩
      · exact ⟨k, hk, if_neg cc⟩
theorem low_lessI {a b c d : Int} (ha : 0 ≤ a) (hb : 1 ≤ b) (hc : 0 ≤ c) (hd : 1 ≤ d) : ((lowP a.toNat b.toNat).1 * (lowP c.toNat d.toNat).2 < (lowP c.toNat d.toNat).1 * (lowP a.toNat b.toNat).2) ↔ (a * d < c * b) := by
  have := low_less (a := a.toNat) (b := b.toNat) (c := c.toNat) (d := d.toNat) (by omega) (by omega)
  rw [this, show ((a.toNat : Nat) : Int) = a by omega, show ((b.toNat : Nat) : Int) = b by omega, show ((c.toNat : Nat) : Int) = c by omega, show ((d.toNat : Nat) : Int) = d by omega]
theorem low_in {a b : Int} (ha : 0 ≤ a) (ha2 : a ≤ 100000) (hb : 0 ≤ b) (hb2 : b ≤ 100000) : 0 ≤ (lowP a.toNat b.toNat).1 ∧ (lowP a.toNat b.toNat).1 ≤ 100000 ∧ 0 ≤ (lowP a.toNat b.toNat).2 ∧ (lowP a.toNat b.toNat).2 ≤ 100000 := by
  have := lowP_le (a := a.toNat) (b := b.toNat)
  omega
def bD : Option (Int × Int × List Int) → D
  | none => .non
  | some p => .tup [lowD p.1 p.2.1, tupD p.2.2]
def bP (n : Nat) (F : List Int) (i : Nat) : Option (Int × Int × List Int) := ((limsN n (F.length - 1)).take i).foldl (bestStep (worstTM n F)) none
theorem bP_succ {n : Nat} {F : List Int} {i : Nat} {l : List Int} (h : (limsN n (F.length - 1))[i]? = some l) : bP n F (i + 1) = bestStep (worstTM n F) (bP n F i) l := by
  unfold bP
  rw [take_snoc h, List.foldl_append]
  rfl
theorem bP_is {n : Nat} {F : List Int} (g : GoodF n F) (i : Nat) : bP n F i = none ∨ ∃ p, bP n F i = some p ∧ 0 ≤ p.1 ∧ p.1 ≤ 100000 ∧ 1 ≤ p.2.1 ∧ p.2.1 ≤ 100000 := by
  cases h : bP n F i with
  | none => exact .inl rfl
  | some p =>
    refine .inr ⟨p, rfl, ?_⟩
    obtain ⟨h1, h2⟩ := best_in _ none (fun p z => nomatch z) p h
    rcases h2 with h2 | h2
    · have hm := List.mem_of_mem_take h2
      obtain ⟨k, hk, _, hw⟩ := g.worst hm
      rw [hw, Prod.mk.injEq] at h1
      obtain ⟨e1, e2⟩ := h1
      rw [e1, e2]
      have a1 := (g.good hm).M hk
      have a2 := (g.good hm).T hk
      omega
    · cases h2
theorem ints_of_within {ys : List D} {lo hi : Int} (h : ys.all (fun y => isWithin y lo hi) = true) : (ys.map toI).map D.int = ys := by
  rw [List.map_map]
  refine (List.map_congr_left fun y hy => ?_).trans (List.map_id ys)
  obtain ⟨k, rfl, _, _⟩ := isWithin_int (List.all_eq_true.mp h y hy)
  rfl
theorem sl_of {t : D} {xs : List D} (h : t.seq = some xs) (lo hi : Option Int) : ∃ z, t.sl lo hi = some z ∧ z.seq = some (cut xs lo hi) := by
  cases t <;> first | (cases h; exact ⟨_, rfl, rfl⟩) | cases h
theorem cut_1 {α : Type} (xs : List α) : cut xs (some 1) none = xs.drop 1 := by
  unfold cut
  rw [HT.sIx_none, show (1 : Int) = ((1 : Nat) : Int) from rfl, HT.sIx_nat]
  cases xs with
  | nil => rfl
  | cons a r =>
    simp
theorem okF_is {t : D} (h : okF t = true) : ∃ F : List Int, t.seq = some (F.map .int) ∧ 1 ≤ F.length ∧ F.length ≤ 4 ∧ lenD t = F.length := by
  unfold okF at h
  cases hs : t.seq with
  | none =>
    rw [hs] at h
    cases h
  | some xs =>
    rw [hs] at h
    simp only [Bool.and_eq_true, decide_eq_true_eq] at h
    obtain ⟨⟨h1, h2⟩, h3, _⟩ := h
    refine ⟨xs.map toI, by rw [ints_of_within h3], by simpa using h1, by simpa using h2, ?_⟩
    unfold lenD
    rw [hs, List.length_map]
theorem lb_self {g : DG} {te : DE} {own : List Nat} {δ : List Sl} {P : List D → Prop} (xs : List D) (f : D → D) (hl : xs.length ≤ 100000) (hs : ∀ x ∈ xs, ∀ R : D → Prop, R (f x) → g x (wipeD δ own) fun δ2 => te δ2 R) (hp : P (xs.map f)) : lcB xs g dtYes te own δ P := by
  rw [map_idD xs]
  exact lb_on xs f hl hs hp
/-! good calls, bad calls -/
theorem fares_ok {n t : D} {O : Out → Prop} {P : Prop} (h1 : okN n = true) (h2 : okF t = true) (p : P) : spFares n t O P := ⟨fun z => (by rw [h1] at z; cases z), fun _ z => (by rw [h2] at z; cases z), fun _ _ => p⟩
theorem fares_badN {n t : D} {O : Out → Prop} {P : Prop} (h : okN n = false) (o : O (.exc "BadN" n)) : spFares n t O P := ⟨fun _ => o, fun z => (by rw [h] at z; cases z), fun z => (by rw [h] at z; cases z)⟩
theorem fares_badF {n t : D} {O : Out → Prop} {P : Prop} (h1 : okN n = true) (h2 : okF t = false) (o : O (.exc "BadFares" t)) : spFares n t O P := ⟨fun z => (by rw [h1] at z; cases z), fun _ _ => o, fun _ z => (by rw [h2] at z; cases z)⟩
theorem limits_ok {n t l : D} {O : Out → Prop} {P : Prop} (h : okL n (lenD t) l = true) (p : P) : spLims n t l O P := ⟨fun z => (by rw [h] at z; cases z), fun _ => p⟩
theorem limits_bad {n t l : D} {O : Out → Prop} {P : Prop} (h : okL n (lenD t) l = false) (o : O (.exc "BadLimits" l)) : spLims n t l O P := ⟨fun _ => o, fun z => (by rw [h] at z; cases z)⟩
theorem asked_ok {t a : D} {O : Out → Prop} {P : Prop} (h : badAsked (lenD t) a = none) (p : P) : spAsked t a O P := ⟨fun i z => (by rw [h] at z; cases z), fun _ => p⟩
theorem asked_bad {t a : D} {i : Int} {O : Out → Prop} {P : Prop} (h : badAsked (lenD t) a = some i) (o : O (.exc "BadAsked" (.int i))) : spAsked t a O P := ⟨fun j z => (by rw [h] at z; cases z; exact o), fun z => (by rw [h] at z; cases z)⟩
/-- fares: falling, in bounds -/
structure FI (F : List Int) : Prop where
  ne : F ≠ []
  falls : F.Pairwise (fun a b => b < a)
  rng : ∀ x ∈ F, 1 ≤ x ∧ x ≤ 1000
theorem toI_ints (F : List Int) : (F.map D.int).map toI = F := by
  rw [List.map_map]
  exact List.map_id F
theorem zip_adj {F : List Int} {r : Int → Int → Prop} (h : ∀ i : Nat, i + 1 < F.length → r (fa F i) (fa F (i + 1))) : ∀ p ∈ F.zip (F.drop 1), r p.1 p.2 := fun p hp => by
  obtain ⟨i, hi, rfl⟩ := List.getElem_of_mem hp
  rw [List.length_zip, List.length_drop] at hi
  rw [List.getElem_zip, List.getElem_drop]
  have := h i (by omega)
  rw [fa_in (by omega), fa_in (by omega)] at this
  simp only [Nat.add_comm 1 i]
  exact this
theorem FI.lt {F : List Int} (h : FI F) {i j : Nat} (hij : i < j) (hj : j < F.length) : fa F j < fa F i := by
  rw [fa_in hj, fa_in (by omega)]
  exact List.pairwise_iff_getElem.mp h.falls i j (by omega) hj hij
theorem FI.ok {F : List Int} (h : FI F) : FOk F := by
  refine ⟨fun i j hij hj => ?_, fun i => ?_⟩
  · by_cases c : i = j
    · rw [c]
      exact Int.le_refl _
    · have := h.lt (show i < j by omega) hj
      omega
  · by_cases c : i < F.length
    · have := h.rng _ (fa_mem c)
      omega
    · rw [fa_out (by omega)]
      exact Int.le_refl _
theorem FI.okF {t : D} {F : List Int} (h : FI F) (hs : t.seq = some (F.map .int)) (h4 : F.length ≤ 4) : okF t = true := by
  have h1 : 1 ≤ F.length := List.length_pos_iff.mpr h.ne
  unfold Sd.okF
  rw [hs]
  show ((decide (1 ≤ (F.map D.int).length) && decide ((F.map D.int).length ≤ 4)) && ((F.map D.int).all (fun y => isWithin y 1 1000) && (((F.map D.int).map toI).zip (((F.map D.int).map toI).drop 1)).all fun p => decide (p.2 < p.1))) = true
  rw [toI_ints, List.length_map, decide_eq_true h1, decide_eq_true h4, Bool.true_and, Bool.true_and, Bool.and_eq_true, List.all_eq_true, List.all_eq_true]
  refine ⟨fun y hy => ?_, fun p hp => decide_eq_true (zip_adj (r := fun a b => b < a) (fun i hi => h.lt (by omega) hi) p hp)⟩
  obtain ⟨x, hx, rfl⟩ := List.mem_map.mp hy
  have := h.rng x hx
  simp [isWithin]
  omega
theorem LimI.okL {n c : Nat} {l : List Int} (I : LimI n c l) : okL (.int (n : Int)) (c + 1) (tupD l) = true := by
  show (decide ((l.map D.int).length = c + 1) && ((l.map D.int).all (fun y => isWithin y 0 (n : Int)) && (decide (toI ((l.map D.int)[0]?.getD .non) = (n : Int)) && (((l.map D.int).map toI).zip (((l.map D.int).map toI).drop 1)).all fun p => decide (p.2 ≤ p.1)))) = true
  rw [toI_ints, List.length_map, decide_eq_true I.len, Bool.true_and, Bool.and_eq_true, Bool.and_eq_true, List.all_eq_true, List.all_eq_true]
  refine ⟨fun y hy => ?_, ?_, fun p hp => decide_eq_true (zip_adj (r := fun a b => b ≤ a) (fun i hi => I.falls i (i + 1) (by omega) hi) p hp)⟩
  · obtain ⟨x, hx, rfl⟩ := List.mem_map.mp hy
    have := I.lo x hx
    have := I.hi x hx
    simp [isWithin]
    omega
  · have h0 : 0 < l.length := by rw [I.len]; omega
    have := I.head
    rw [fa_in h0] at this
    rw [List.getElem?_map, List.getElem?_eq_getElem h0]
    exact decide_eq_true this
theorem FI.good {n : Nat} {F : List Int} (h : FI F) (h1 : 1 ≤ n) (h12 : n ≤ 12) (h4 : F.length ≤ 4) : GoodF n F := ⟨h1, h12, List.length_pos_iff.mpr h.ne, h4, h.ok, h.rng⟩
theorem asked_none {c : Nat} {a : D} {A : List Nat} (hs : a.seq = some (A.map natD)) (hl : A.length ≤ 40) (hA : ∀ o ∈ A, o < c) : badAsked c a = none := by
  unfold badAsked
  rw [hs]
  show (if (A.map natD).length ≤ 40 then Option.map Int.ofNat ((A.map natD).findIdx? fun x => !isWithin x 0 ((c : Int) - 1)) else some (-1)) = none
  rw [if_pos (by simpa using hl), findIdx_none]
  · rfl
  · rw [List.all_eq_true]
    intro x hx
    obtain ⟨o, ho, rfl⟩ := List.mem_map.mp hx
    have := hA o ho
    unfold natD
    simp [isWithin]
    omega
def SomeOk (c : Nat) (d : D) : Prop := d.okv = true ∧ ∃ A : List Nat, d.seq = some (A.map natD) ∧ A.length ≤ 40 ∧ ∀ o ∈ A, o < c
theorem okv_nats {A : List Nat} : ∀ x ∈ A.map natD, x.okv = true := fun x hx => by
  obtain ⟨m, _, rfl⟩ := List.mem_map.mp hx
  rfl
def bD2 : Option (Int × Int × List Int) → D
  | none => .non
  | some p => .tup [.int p.1, .int p.2.1, tupD p.2.2]
theorem alk_nats {A : List Nat} (h : A.length ≤ 100000) : (D.lst (A.map natD)).alk 6 = true := by
  have : A.map natD = (A.map fun o : Nat => (o : Int)).map D.int := by rw [List.map_map]; rfl
  rw [this]
  exact alk_ints _ (by rw [List.length_map]; exact h)
theorem alk_found {bs : List Bool} {a b : Int} (h : bs.length ≤ 100000) : (D.tup [.lst (bs.map .bl), .int a, .int b]).alk 6 = true := by
  simp [D.alk, alk_bl, h]
theorem most_tail {n : Nat} {F : List Int} (g : GoodF n F) : ∃ p, bP n F (limsN n (F.length - 1)).length = some p ∧ bestN n F = some p ∧ 0 ≤ p.1 ∧ p.1 ≤ 100000 ∧ 1 ≤ p.2.1 ∧ p.2.1 ≤ 100000 ∧ p.2.2 ∈ limsN n (F.length - 1) := by
  obtain ⟨p, hp⟩ := best_some (W := worstTM n F) (limsN n (F.length - 1)) none (.inl (lims_pos n _))
  have e : bP n F (limsN n (F.length - 1)).length = some p := by
    unfold bP
    rw [List.take_length]
    exact hp
  rcases bP_is g (limsN n (F.length - 1)).length with z | ⟨q, hq, b1, b2, b3, b4⟩
  · rw [z] at e
    cases e
  · rw [hq] at e
    cases e
    obtain ⟨_, h2⟩ := best_in _ none (fun p z => nomatch z) p hp
    exact ⟨p, hq, hp, b1, b2, b3, b4, h2.elim id fun z => nomatch z⟩
theorem okL_len {n : D} {c : Nat} {xs : List D} (h : xs.length ≠ c) : okL n c (.tup xs) = false := by
  show (decide (xs.length = c) && _) = false
  rw [decide_eq_false h]
  rfl
theorem okL_in {n : D} {c : Nat} {xs : List D} {x : D} (hx : x ∈ xs) (h : isWithin x 0 (toI n) = false) : okL n c (.tup xs) = false := by
  show (decide (xs.length = c) && (xs.all (fun y => isWithin y 0 (toI n)) && _)) = false
  have : xs.all (fun y => isWithin y 0 (toI n)) = false := by
    rw [List.all_eq_false]
    exact ⟨x, hx, by rw [h]; exact fun z => nomatch z⟩
  rw [this, Bool.false_and, Bool.and_false]
theorem okL_head {n : D} {c : Nat} {xs : List D} (h : toI (xs[0]?.getD .non) ≠ toI n) : okL n c (.tup xs) = false := by
  show (decide (xs.length = c) && (xs.all (fun y => isWithin y 0 (toI n)) && (decide (toI (xs[0]?.getD .non) = toI n) && _))) = false
  rw [decide_eq_false h, Bool.false_and, Bool.and_false, Bool.and_false]
theorem badAsked_1 {c : Nat} {d : D} (hc : 1 ≤ c) (h : isWithin d 0 ((c : Int) - 1) = false) : badAsked c (.lst [.int 0, d]) = some 1 := by
  unfold badAsked
  show (if ([D.int 0, d]).length ≤ 40 then Option.map Int.ofNat (([D.int 0, d]).findIdx? fun x => !isWithin x 0 ((c : Int) - 1)) else some (-1)) = _
  have h0 : isWithin (.int 0) 0 ((c : Int) - 1) = true := by simp [isWithin]; omega
  rw [if_pos (by simp), findIdx_at (i := 1) (x := d) (by simp [h0]) rfl h]
  rfl
end Sd
end
-- B_15
section
set_option Elab.async false
set_option linter.all false
set_option maxRecDepth 100000
set_option maxHeartbeats 4000000
set_option autoImplicit false
namespace K15
open PySem PySem.Spec PyProof.Rows L2 Sd
def top (i : Nat) : Stmt := PySem.Challenge.pw_seatsold_k15_whole_shares_of_limits.main.body.getD i (.Pass ⟨0, 0, 0, 0⟩)
abbrev s_is_integer : Stmt := top 1
abbrev s_is_within : Stmt := top 2
abbrev s_is_row : Stmt := top 3
abbrev s_is_tuple_of : Stmt := top 4
abbrev s_lowest : Stmt := top 5
abbrev s_is_less : Stmt := top 6
abbrev s_SeatError___init__ : Stmt := inClass (top 8) 0
abbrev s_check_fares : Stmt := top 19
abbrev s_check_limits : Stmt := top 20
abbrev s_check_asked : Stmt := top 21
abbrev s_told_taken : Stmt := top 22
abbrev s_told_takings : Stmt := top 23
abbrev s_told_most : Stmt := top 24
abbrev s_taken : Stmt := top 25
abbrev s_asked_takings : Stmt := top 26
abbrev s_best_asked : Stmt := top 27
abbrev s_told_flood : Stmt := top 29
abbrev s_flood_share : Stmt := top 30
abbrev s_worst_of : Stmt := top 31
abbrev s_share : Stmt := top 32
abbrev s_worst_flood : Stmt := top 33
abbrev s_flood : Stmt := top 34
abbrev s_all_limits : Stmt := top 35
abbrev s_told_best : Stmt := top 36
abbrev s_best_limits : Stmt := top 37
abbrev s_best_share : Stmt := top 38
abbrev s__law_taken : Stmt := top 40
abbrev s__law_pick : Stmt := top 41
abbrev s__law_alike : Stmt := top 42
abbrev s__law_took : Stmt := top 43
abbrev s__law_sums : Stmt := top 44
abbrev s__law_flood : Stmt := top 45
abbrev s__law_lowest : Stmt := top 46
abbrev s__law_worst : Stmt := top 47
abbrev s__law_limits : Stmt := top 48
abbrev s__law_rows : Stmt := top 49
abbrev s__law_refused : Stmt := top 50
abbrev s_law : Stmt := top 51
/-- what the walk asks of the names of the top -/
structure Txt (K : PySem.W.Frag) (mg : Str → Option Value) : Prop where
  b_all : mg "all" = none
  b_bool : mg "bool" = none
  b_dict : mg "dict" = none
  b_enumerate : mg "enumerate" = none
  b_int : mg "int" = none
  b_isinstance : mg "isinstance" = none
  b_len : mg "len" = none
  b_list : mg "list" = none
  b_min : mg "min" = none
  b_range : mg "range" = none
  b_repr : mg "repr" = none
  b_sorted : mg "sorted" = none
  b_str : mg "str" = none
  b_sum : mg "sum" = none
  b_tuple : mg "tuple" = none
  b_zip : mg "zip" = none
  c_MOST_ASKED : ∃ t, mg "MOST_ASKED" = some (.int 40 t)
  c_MOST_CLASSES : ∃ t, mg "MOST_CLASSES" = some (.int 4 t)
  c_MOST_FARE : ∃ t, mg "MOST_FARE" = some (.int 1000 t)
  c_MOST_N : ∃ t, mg "MOST_N" = some (.int 12 t)
  g_best_limits : mg "best_limits" = some (.ref (He.ga K "best_limits"))
  g_best_share : mg "best_share" = some (.ref (He.ga K "best_share"))
  g_share : mg "share" = some (.ref (He.ga K "share"))
  g_worst_flood : mg "worst_flood" = some (.ref (He.ga K "worst_flood"))
abbrev FnP (K : PySem.W.Frag) (x : Str) (st : Stmt) (f : Addr) (fd : FuncData) : Prop := FunD K x x (defArgs st) (defBody st) (defScope st) [] [] f fd
theorem sc_is_integer : FnScope ["thing"] ["thing"] (defScope s_is_integer) := ⟨rfl, rfl, rfl, by decide +kernel, rfl, by decide +kernel, by decide +kernel⟩
theorem sc_is_within : FnScope ["thing", "least", "most"] ["thing", "least", "most"] (defScope s_is_within) := ⟨rfl, rfl, rfl, by decide +kernel, rfl, by decide +kernel, by decide +kernel⟩
theorem sc_is_row : FnScope ["thing"] ["thing"] (defScope s_is_row) := ⟨rfl, rfl, rfl, by decide +kernel, rfl, by decide +kernel, by decide +kernel⟩
theorem sc_is_tuple_of : FnScope ["thing", "many"] ["thing", "many"] (defScope s_is_tuple_of) := ⟨rfl, rfl, rfl, by decide +kernel, rfl, by decide +kernel, by decide +kernel⟩
theorem sc_lowest : FnScope ["top", "bottom", "one", "other"] ["top", "bottom"] (defScope s_lowest) := ⟨rfl, rfl, rfl, by decide +kernel, rfl, by decide +kernel, by decide +kernel⟩
theorem sc_is_less : FnScope ["one", "other"] ["one", "other"] (defScope s_is_less) := ⟨rfl, rfl, rfl, by decide +kernel, rfl, by decide +kernel, by decide +kernel⟩
theorem sc_SeatError___init__ : FnScope ["self", "value"] ["self", "value"] (defScope s_SeatError___init__) := ⟨rfl, rfl, rfl, by decide +kernel, rfl, by decide +kernel, by decide +kernel⟩
theorem sc_check_fares : FnScope ["n", "fares", "fare", "one", "other"] ["n", "fares"] (defScope s_check_fares) := ⟨rfl, rfl, rfl, by decide +kernel, rfl, by decide +kernel, by decide +kernel⟩
theorem sc_check_limits : FnScope ["n", "fares", "limits", "one", "other"] ["n", "fares", "limits"] (defScope s_check_limits) := ⟨rfl, rfl, rfl, by decide +kernel, rfl, by decide +kernel, by decide +kernel⟩
theorem sc_check_asked : FnScope ["fares", "asked", "index", "one"] ["fares", "asked"] (defScope s_check_asked) := ⟨rfl, rfl, rfl, by decide +kernel, rfl, by decide +kernel, by decide +kernel⟩
theorem sc_told_taken : FnScope ["limits", "asked", "found", "many", "one"] ["limits", "asked"] (defScope s_told_taken) := ⟨rfl, rfl, rfl, by decide +kernel, rfl, by decide +kernel, by decide +kernel⟩
theorem sc_told_takings : FnScope ["fares", "limits", "asked", "one", "good"] ["fares", "limits", "asked"] (defScope s_told_takings) := ⟨rfl, rfl, rfl, by decide +kernel, rfl, by decide +kernel, by decide +kernel⟩
theorem sc_told_most : FnScope ["n", "fares", "asked", "one"] ["n", "fares", "asked"] (defScope s_told_most) := ⟨rfl, rfl, rfl, by decide +kernel, rfl, by decide +kernel, by decide +kernel⟩
theorem sc_taken : FnScope ["n", "fares", "limits", "asked"] ["n", "fares", "limits", "asked"] (defScope s_taken) := ⟨rfl, rfl, rfl, by decide +kernel, rfl, by decide +kernel, by decide +kernel⟩
theorem sc_asked_takings : FnScope ["n", "fares", "limits", "asked"] ["n", "fares", "limits", "asked"] (defScope s_asked_takings) := ⟨rfl, rfl, rfl, by decide +kernel, rfl, by decide +kernel, by decide +kernel⟩
theorem sc_best_asked : FnScope ["n", "fares", "asked"] ["n", "fares", "asked"] (defScope s_best_asked) := ⟨rfl, rfl, rfl, by decide +kernel, rfl, by decide +kernel, by decide +kernel⟩
theorem sc_told_flood : FnScope ["n", "fares", "last", "found", "one", "_"] ["n", "fares", "last"] (defScope s_told_flood) := ⟨rfl, rfl, rfl, by decide +kernel, rfl, by decide +kernel, by decide +kernel⟩
theorem sc_flood_share : FnScope ["n", "fares", "limits", "last", "asked"] ["n", "fares", "limits", "last"] (defScope s_flood_share) := ⟨rfl, rfl, rfl, by decide +kernel, rfl, by decide +kernel, by decide +kernel⟩
theorem sc_worst_of : FnScope ["n", "fares", "limits", "found", "last", "one"] ["n", "fares", "limits"] (defScope s_worst_of) := ⟨rfl, rfl, rfl, by decide +kernel, rfl, by decide +kernel, by decide +kernel⟩
theorem sc_share : FnScope ["n", "fares", "limits"] ["n", "fares", "limits"] (defScope s_share) := ⟨rfl, rfl, rfl, by decide +kernel, rfl, by decide +kernel, by decide +kernel⟩
theorem sc_worst_flood : FnScope ["n", "fares", "limits"] ["n", "fares", "limits"] (defScope s_worst_flood) := ⟨rfl, rfl, rfl, by decide +kernel, rfl, by decide +kernel, by decide +kernel⟩
theorem sc_flood : FnScope ["n", "fares", "last"] ["n", "fares", "last"] (defScope s_flood) := ⟨rfl, rfl, rfl, by decide +kernel, rfl, by decide +kernel, by decide +kernel⟩
theorem sc_all_limits : FnScope ["n", "many", "found", "_", "longer", "limits", "one"] ["n", "many"] (defScope s_all_limits) := ⟨rfl, rfl, rfl, by decide +kernel, rfl, by decide +kernel, by decide +kernel⟩
theorem sc_told_best : FnScope ["n", "fares", "found", "limits", "one"] ["n", "fares"] (defScope s_told_best) := ⟨rfl, rfl, rfl, by decide +kernel, rfl, by decide +kernel, by decide +kernel⟩
theorem sc_best_limits : FnScope ["n", "fares"] ["n", "fares"] (defScope s_best_limits) := ⟨rfl, rfl, rfl, by decide +kernel, rfl, by decide +kernel, by decide +kernel⟩
theorem sc_best_share : FnScope ["n", "fares"] ["n", "fares"] (defScope s_best_share) := ⟨rfl, rfl, rfl, by decide +kernel, rfl, by decide +kernel, by decide +kernel⟩
theorem sc__law_pick : FnScope ["row", "some"] ["row", "some"] (defScope s__law_pick) := ⟨rfl, rfl, rfl, by decide +kernel, rfl, by decide +kernel, by decide +kernel⟩
theorem sc__law_alike : FnScope ["found", "due", "k", "key"] ["found", "due"] (defScope s__law_alike) := ⟨rfl, rfl, rfl, by decide +kernel, rfl, by decide +kernel, by decide +kernel⟩
theorem sc__law_took : FnScope ["limits", "asked", "found", "one", "good"] ["limits", "asked"] (defScope s__law_took) := ⟨rfl, rfl, rfl, by decide +kernel, rfl, by decide +kernel, by decide +kernel⟩
theorem sc__law_sums : FnScope ["n", "fares", "limits", "asked", "took", "at", "one"] ["n", "fares", "limits", "asked"] (defScope s__law_sums) := ⟨rfl, rfl, rfl, by decide +kernel, rfl, by decide +kernel, by decide +kernel⟩
theorem sc__law_flood : FnScope ["n", "fares", "last", "found", "one"] ["n", "fares", "last"] (defScope s__law_flood) := ⟨rfl, rfl, rfl, by decide +kernel, rfl, by decide +kernel, by decide +kernel⟩
theorem sc__law_lowest : FnScope ["top", "bottom", "one", "other", "k"] ["top", "bottom"] (defScope s__law_lowest) := ⟨rfl, rfl, rfl, by decide +kernel, rfl, by decide +kernel, by decide +kernel⟩
theorem sc__law_worst : FnScope ["n", "fares", "limits", "best", "last", "took", "most"] ["n", "fares", "limits"] (defScope s__law_worst) := ⟨rfl, rfl, rfl, by decide +kernel, rfl, by decide +kernel, by decide +kernel⟩
theorem sc__law_limits : FnScope ["n", "many", "found", "k", "longer", "limits", "one"] ["n", "many"] (defScope s__law_limits) := ⟨rfl, rfl, rfl, by decide +kernel, rfl, by decide +kernel, by decide +kernel⟩
theorem sc__law_rows : FnScope ["many", "most", "found", "here", "k", "longer", "one", "number"] ["many", "most"] (defScope s__law_rows) := ⟨rfl, rfl, rfl, by decide +kernel, rfl, by decide +kernel, by decide +kernel⟩
theorem sc__law_refused : FnScope ["ask", "e"] ["ask"] (defScope s__law_refused) := ⟨rfl, rfl, rfl, by decide +kernel, rfl, by decide +kernel, by decide +kernel⟩
theorem sc_law : FnScope ["script", "row", "n", "fares", "k", "every", "limits", "worst", "due", "last", "some", "asked", "took", "most", "found", "best", "one", "told", "odd", "bad", "ask", "wrong", "j"] ["script"] (defScope s_law) := ⟨rfl, rfl, rfl, by decide +kernel, rfl, by decide +kernel, by decide +kernel⟩
end K15
end
-- F_15_is_integer
section
set_option Elab.async false
set_option linter.all false
set_option maxRecDepth 100000
set_option maxHeartbeats 4000000
set_option autoImplicit false
namespace K15
open PySem PySem.Spec PyProof.Rows L2 Sd
section
variable {P : Program} {w : World} {K : PySem.W.Frag} {mg : Str → Option Value} {base : Heap}
theorem ok_is_integer (T : Txt K mg) {f : Addr} {fd : FuncData} (F : FnP K "is_integer" s_is_integer f fd)   : FnOk P w K mg base (L2.CX P w) 1 f fd ["thing"] (spD K sp_is_integer) := by
  have sc := sc_is_integer
  refine fnD F sc (fun F ds O h => by
    obtain ⟨_, e, _⟩ := h
    rw [e] <;> rfl) (fun cdv A outer s G E ds O hr h hE => ⟨_, (pssd_one (psd_ret (pd_and (pd_is kit_int T.b_isinstance T.b_int (by decide +kernel) (pd_name (pv 0))) (pd_one (pd_not (pd_is kit_bool T.b_isinstance T.b_bool (by decide +kernel) (pd_name (pv 0)))))))), ?_⟩)
  obtain ⟨d, rfl, h⟩ := h
  obtain ⟨hd, o⟩ := h
  simp [startD, wipeD, dsRet, dsRetN, dsIf, dsSeq, dsNext, dsAsg, dsDrop, dsBreak, dsCont, dsPar, dsAug, dsFrz, dsApp, dsExt, dsPut, dsAugO, dsOwn, dsParOO, dsParDO, dsParDDO, diR3, rdRepTz, dsFrzA, dxRep, diOwn, dsRaise, deAnd, deOr, deNot, de1, de2, deB, deX, dxB, dxLst, deName, deC, deCall, deIxO, deLenO, deTup, deLst, daCons, daNil, daStar, deChain, dtChain, dtV, dtAnd, dtOr, dtNot, dtYes, deIf, deSl, doNone, doSome, rdAdd, rdSub, rdMul, rdMod, rdDiv, rdPow, rdI, rdIc, rdB, rdLt, rdLe, rdGt, rdGe, rdNeg, rdIs, rdEq, rdNe, rdIx, rdIsN, rdNotN, rdIsB, rdNotB, rdRev, rdSeats, rdCatL, rdCatT, rdRepL, rdLen, rdTuple, rdList, rxList, rdInt, rdMax2, rdMin2, dgName, dgTup, dgCons, dgNil, deRefused, rdRepr, rdNeS, rdEqL, rdNeL, rdRepT, rdIsLn, noOwn, diSeq, diEn, diZp, diR1, diR2, noX,  eqOk_int, eqOk_bl, eqOk_non, eqv_int, eqv_bl, eqv_non, atI_0, atI_1, atI_2, atI_3, qty_non, qisI_non, qisB_non, qisL_non, qisU_non, qisS_non, qisD_non, qisNon_non, qcooked_non, qseq_non, qty_bl, qisI_bl, qisB_bl, qisL_bl, qisU_bl, qisS_bl, qisD_bl, qisNon_bl, qcooked_bl, qseq_bl, qty_int, qisI_int, qisB_int, qisL_int, qisU_int, qisS_int, qisD_int, qisNon_int, qcooked_int, qseq_int, qty_str, qisI_str, qisB_str, qisL_str, qisU_str, qisS_str, qisD_str, qisNon_str, qcooked_str, qseq_str, qty_lst, qisI_lst, qisB_lst, qisL_lst, qisU_lst, qisS_lst, qisD_lst, qisNon_lst, qcooked_lst, qseq_lst, qty_tup, qisI_tup, qisB_tup, qisL_tup, qisU_tup, qisS_tup, qisD_tup, qisNon_tup, qcooked_tup, qseq_tup, qty_dct, qisI_dct, qisB_dct, qisL_dct, qisU_dct, qisS_dct, qisD_dct, qisNon_dct, qcooked_dct, qseq_dct, qix_lst, qsl_lst, qix_tup, qsl_tup, qisNon_ln, qcooked_ln, and_assoc, exists_and_left, exists_eq_left, exists_eq_left', exists_eq_right, hd]
  cases d <;> simp_all [dInt, D.isI, D.isB, no_raw, no_ln]
end
end K15
end
-- F_15_is_within
section
set_option Elab.async false
set_option linter.all false
set_option maxRecDepth 100000
set_option maxHeartbeats 4000000
set_option autoImplicit false
namespace K15
open PySem PySem.Spec PyProof.Rows L2 Sd
section
variable {P : Program} {w : World} {K : PySem.W.Frag} {mg : Str → Option Value} {base : Heap}
theorem ok_is_within (T : Txt K mg) {f : Addr} {fd : FuncData} (F : FnP K "is_within" s_is_within f fd) (c_is_integer : Cl P w K mg base 1 "is_integer" sp_is_integer [])  : FnOk P w K mg base (L2.CX P w) 2 f fd ["thing", "least", "most"] (spD K sp_is_within) := by
  have sc := sc_is_within
  refine fnD F sc (fun F ds O h => by
    obtain ⟨_, _, _, e, _⟩ := h
    rw [e] <;> rfl) (fun cdv A outer s G E ds O hr h hE => ⟨_, (pssd_one (psd_ret (pd_and (pd_call c_is_integer hr (by first | decide | omega) (pad_cons (pd_name (pv 0)) pad_nil)) (pd_one (pd_lele (pd_name (pv 1)) (pd_name (pv 0)) (pd_name (pv 2))))))), ?_⟩)
  obtain ⟨d, lo, hi, rfl, h⟩ := h
  obtain ⟨hd, o⟩ := h
  simp [startD, wipeD, dsRet, dsRetN, dsIf, dsSeq, dsNext, dsAsg, dsDrop, dsBreak, dsCont, dsPar, dsAug, dsFrz, dsApp, dsExt, dsPut, dsAugO, dsOwn, dsParOO, dsParDO, dsParDDO, diR3, rdRepTz, dsFrzA, dxRep, diOwn, dsRaise, deAnd, deOr, deNot, de1, de2, deB, deX, dxB, dxLst, deName, deC, deCall, deIxO, deLenO, deTup, deLst, daCons, daNil, daStar, deChain, dtChain, dtV, dtAnd, dtOr, dtNot, dtYes, deIf, deSl, doNone, doSome, rdAdd, rdSub, rdMul, rdMod, rdDiv, rdPow, rdI, rdIc, rdB, rdLt, rdLe, rdGt, rdGe, rdNeg, rdIs, rdEq, rdNe, rdIx, rdIsN, rdNotN, rdIsB, rdNotB, rdRev, rdSeats, rdCatL, rdCatT, rdRepL, rdLen, rdTuple, rdList, rxList, rdInt, rdMax2, rdMin2, dgName, dgTup, dgCons, dgNil, deRefused, rdRepr, rdNeS, rdEqL, rdNeL, rdRepT, rdIsLn, noOwn, diSeq, diEn, diZp, diR1, diR2, noX,  eqOk_int, eqOk_bl, eqOk_non, eqv_int, eqv_bl, eqv_non, atI_0, atI_1, atI_2, atI_3, qty_non, qisI_non, qisB_non, qisL_non, qisU_non, qisS_non, qisD_non, qisNon_non, qcooked_non, qseq_non, qty_bl, qisI_bl, qisB_bl, qisL_bl, qisU_bl, qisS_bl, qisD_bl, qisNon_bl, qcooked_bl, qseq_bl, qty_int, qisI_int, qisB_int, qisL_int, qisU_int, qisS_int, qisD_int, qisNon_int, qcooked_int, qseq_int, qty_str, qisI_str, qisB_str, qisL_str, qisU_str, qisS_str, qisD_str, qisNon_str, qcooked_str, qseq_str, qty_lst, qisI_lst, qisB_lst, qisL_lst, qisU_lst, qisS_lst, qisD_lst, qisNon_lst, qcooked_lst, qseq_lst, qty_tup, qisI_tup, qisB_tup, qisL_tup, qisU_tup, qisS_tup, qisD_tup, qisNon_tup, qcooked_tup, qseq_tup, qty_dct, qisI_dct, qisB_dct, qisL_dct, qisU_dct, qisS_dct, qisD_dct, qisNon_dct, qcooked_dct, qseq_dct, qix_lst, qsl_lst, qix_tup, qsl_tup, qisNon_ln, qcooked_ln, and_assoc, exists_and_left, exists_eq_left, exists_eq_left', exists_eq_right, sp_is_integer, hd]
  cases d <;> simp_all [dInt, isWithin]
  split <;> simp_all
end
end K15
end
-- F_15_is_row
section
set_option Elab.async false
set_option linter.all false
set_option maxRecDepth 100000
set_option maxHeartbeats 4000000
set_option autoImplicit false
namespace K15
open PySem PySem.Spec PyProof.Rows L2 Sd
section
variable {P : Program} {w : World} {K : PySem.W.Frag} {mg : Str → Option Value} {base : Heap}
theorem ok_is_row (T : Txt K mg) {f : Addr} {fd : FuncData} (F : FnP K "is_row" s_is_row f fd)   : FnOk P w K mg base (L2.CX P w) 1 f fd ["thing"] (spD K sp_is_row) := by
  have sc := sc_is_row
  refine fnD F sc (fun F ds O h => by
    obtain ⟨_, e, _⟩ := h
    rw [e] <;> rfl) (fun cdv A outer s G E ds O hr h hE => ⟨_, (pssd_one (psd_ret (pd_is2 kit_list kit_tuple T.b_isinstance T.b_list T.b_tuple (by decide +kernel) (by decide +kernel) (pd_name (pv 0))))), ?_⟩)
  obtain ⟨d, rfl, h⟩ := h
  simp [startD, wipeD, dsRet, dsRetN, dsIf, dsSeq, dsNext, dsAsg, dsDrop, dsBreak, dsCont, dsPar, dsAug, dsFrz, dsApp, dsExt, dsPut, dsAugO, dsOwn, dsParOO, dsParDO, dsParDDO, diR3, rdRepTz, dsFrzA, dxRep, diOwn, dsRaise, deAnd, deOr, deNot, de1, de2, deB, deX, dxB, dxLst, deName, deC, deCall, deIxO, deLenO, deTup, deLst, daCons, daNil, daStar, deChain, dtChain, dtV, dtAnd, dtOr, dtNot, dtYes, deIf, deSl, doNone, doSome, rdAdd, rdSub, rdMul, rdMod, rdDiv, rdPow, rdI, rdIc, rdB, rdLt, rdLe, rdGt, rdGe, rdNeg, rdIs, rdEq, rdNe, rdIx, rdIsN, rdNotN, rdIsB, rdNotB, rdRev, rdSeats, rdCatL, rdCatT, rdRepL, rdLen, rdTuple, rdList, rxList, rdInt, rdMax2, rdMin2, dgName, dgTup, dgCons, dgNil, deRefused, rdRepr, rdNeS, rdEqL, rdNeL, rdRepT, rdIsLn, noOwn, diSeq, diEn, diZp, diR1, diR2, noX,  eqOk_int, eqOk_bl, eqOk_non, eqv_int, eqv_bl, eqv_non, atI_0, atI_1, atI_2, atI_3, qty_non, qisI_non, qisB_non, qisL_non, qisU_non, qisS_non, qisD_non, qisNon_non, qcooked_non, qseq_non, qty_bl, qisI_bl, qisB_bl, qisL_bl, qisU_bl, qisS_bl, qisD_bl, qisNon_bl, qcooked_bl, qseq_bl, qty_int, qisI_int, qisB_int, qisL_int, qisU_int, qisS_int, qisD_int, qisNon_int, qcooked_int, qseq_int, qty_str, qisI_str, qisB_str, qisL_str, qisU_str, qisS_str, qisD_str, qisNon_str, qcooked_str, qseq_str, qty_lst, qisI_lst, qisB_lst, qisL_lst, qisU_lst, qisS_lst, qisD_lst, qisNon_lst, qcooked_lst, qseq_lst, qty_tup, qisI_tup, qisB_tup, qisL_tup, qisU_tup, qisS_tup, qisD_tup, qisNon_tup, qcooked_tup, qseq_tup, qty_dct, qisI_dct, qisB_dct, qisL_dct, qisU_dct, qisS_dct, qisD_dct, qisNon_dct, qcooked_dct, qseq_dct, qix_lst, qsl_lst, qix_tup, qsl_tup, qisNon_ln, qcooked_ln, and_assoc, exists_and_left, exists_eq_left, exists_eq_left', exists_eq_right, h.1]
  simpa using h.2
end
end K15
end
-- F_15_is_tuple_of
section
set_option Elab.async false
set_option linter.all false
set_option maxRecDepth 100000
set_option maxHeartbeats 4000000
set_option autoImplicit false
namespace K15
open PySem PySem.Spec PyProof.Rows L2 Sd
section
variable {P : Program} {w : World} {K : PySem.W.Frag} {mg : Str → Option Value} {base : Heap}
theorem ok_is_tuple_of (T : Txt K mg) {f : Addr} {fd : FuncData} (F : FnP K "is_tuple_of" s_is_tuple_of f fd)   : FnOk P w K mg base (L2.CX P w) 1 f fd ["thing", "many"] (spD K sp_is_tuple_of) := by
  have sc := sc_is_tuple_of
  refine fnD F sc (fun F ds O h => by
    obtain ⟨_, _, e, _⟩ := h
    rw [e] <;> rfl) (fun cdv A outer s G E ds O hr h hE => ⟨_, (pssd_one (psd_ret (pd_and (pd_is kit_tuple T.b_isinstance T.b_tuple (by decide +kernel) (pd_name (pv 0))) (pd_one (pd_eq hr.units (pd_callB call_len_seq snd_len T.b_len (pad_cons (pd_name (pv 0)) pad_nil)) (pd_name (pv 1))))))), ?_⟩)
  obtain ⟨d, n, rfl, h⟩ := h
  obtain ⟨hd, o⟩ := h
  simp [startD, wipeD, dsRet, dsRetN, dsIf, dsSeq, dsNext, dsAsg, dsDrop, dsBreak, dsCont, dsPar, dsAug, dsFrz, dsApp, dsExt, dsPut, dsAugO, dsOwn, dsParOO, dsParDO, dsParDDO, diR3, rdRepTz, dsFrzA, dxRep, diOwn, dsRaise, deAnd, deOr, deNot, de1, de2, deB, deX, dxB, dxLst, deName, deC, deCall, deIxO, deLenO, deTup, deLst, daCons, daNil, daStar, deChain, dtChain, dtV, dtAnd, dtOr, dtNot, dtYes, deIf, deSl, doNone, doSome, rdAdd, rdSub, rdMul, rdMod, rdDiv, rdPow, rdI, rdIc, rdB, rdLt, rdLe, rdGt, rdGe, rdNeg, rdIs, rdEq, rdNe, rdIx, rdIsN, rdNotN, rdIsB, rdNotB, rdRev, rdSeats, rdCatL, rdCatT, rdRepL, rdLen, rdTuple, rdList, rxList, rdInt, rdMax2, rdMin2, dgName, dgTup, dgCons, dgNil, deRefused, rdRepr, rdNeS, rdEqL, rdNeL, rdRepT, rdIsLn, noOwn, diSeq, diEn, diZp, diR1, diR2, noX,  eqOk_int, eqOk_bl, eqOk_non, eqv_int, eqv_bl, eqv_non, atI_0, atI_1, atI_2, atI_3, qty_non, qisI_non, qisB_non, qisL_non, qisU_non, qisS_non, qisD_non, qisNon_non, qcooked_non, qseq_non, qty_bl, qisI_bl, qisB_bl, qisL_bl, qisU_bl, qisS_bl, qisD_bl, qisNon_bl, qcooked_bl, qseq_bl, qty_int, qisI_int, qisB_int, qisL_int, qisU_int, qisS_int, qisD_int, qisNon_int, qcooked_int, qseq_int, qty_str, qisI_str, qisB_str, qisL_str, qisU_str, qisS_str, qisD_str, qisNon_str, qcooked_str, qseq_str, qty_lst, qisI_lst, qisB_lst, qisL_lst, qisU_lst, qisS_lst, qisD_lst, qisNon_lst, qcooked_lst, qseq_lst, qty_tup, qisI_tup, qisB_tup, qisL_tup, qisU_tup, qisS_tup, qisD_tup, qisNon_tup, qcooked_tup, qseq_tup, qty_dct, qisI_dct, qisB_dct, qisL_dct, qisU_dct, qisS_dct, qisD_dct, qisNon_dct, qcooked_dct, qseq_dct, qix_lst, qsl_lst, qix_tup, qsl_tup, qisNon_ln, qcooked_ln, and_assoc, exists_and_left, exists_eq_left, exists_eq_left', exists_eq_right, hd]
  cases d <;> simp_all [isTup, D.isU, D.seq, no_raw, no_ln, eqOk_int, eqv_int]
end
end K15
end
-- F_15_lowest
section
set_option Elab.async false
set_option linter.all false
set_option maxRecDepth 100000
set_option maxHeartbeats 4000000
set_option autoImplicit false
namespace K15
open PySem PySem.Spec PyProof.Rows L2 Sd
section
variable {P : Program} {w : World} {K : PySem.W.Frag} {mg : Str → Option Value} {base : Heap}
theorem ok_lowest (T : Txt K mg) {f : Addr} {fd : FuncData} (F : FnP K "lowest" s_lowest f fd)   : FnOk P w K mg base (L2.CX P w) 1 f fd ["top", "bottom"] (spD K sp_lowest) := by
  have sc := sc_lowest
  refine fnD F sc (fun F ds O h => by
    obtain ⟨_, _, e, _⟩ := h
    rw [e] <;> rfl) (fun cdv A outer s G E ds O hr h hE => ⟨_, (pssd_cons (psd_set (i := 2) sc.nd rfl (Or.inl rfl) (pd_name (pv 0)))
  (pssd_cons (psd_set (i := 3) sc.nd rfl (Or.inl rfl) (pd_name (pv 1)))
  (pssd_cons (psd_while (passes_of rfl) (ptd_gt (pd_name (pv 3)) pd_int)
  (pssd_one (psd_par (i := 2) (j := 3) sc.nd rfl rfl (by decide) (pad_cons (pd_name (pv 3)) (pad_cons (pd_mod (pd_name (pv 2)) (pd_name (pv 3))) pad_nil)))))
  (pssd_one (psd_ret (pd_tup (pad_cons (pd_div (pd_name (pv 0)) (pd_name (pv 2))) (pad_cons (pd_div (pd_name (pv 1)) (pd_name (pv 2))) pad_nil)))))))), ?_⟩)
  obtain ⟨t, m, rfl, h⟩ := h
  obtain ⟨ht, hm1, hm, o⟩ := h
  simp [startD, wipeD, dsRet, dsRetN, dsIf, dsSeq, dsNext, dsAsg, dsDrop, dsBreak, dsCont, dsPar, dsAug, dsFrz, dsApp, dsExt, dsPut, dsAugO, dsOwn, dsParOO, dsParDO, dsParDDO, diR3, rdRepTz, dsFrzA, dxRep, diOwn, dsRaise, deAnd, deOr, deNot, de1, de2, deB, deX, dxB, dxLst, deName, deC, deCall, deIxO, deLenO, deTup, deLst, daCons, daNil, daStar, deChain, dtChain, dtV, dtAnd, dtOr, dtNot, dtYes, deIf, deSl, doNone, doSome, rdAdd, rdSub, rdMul, rdMod, rdDiv, rdPow, rdI, rdIc, rdB, rdLt, rdLe, rdGt, rdGe, rdNeg, rdIs, rdEq, rdNe, rdIx, rdIsN, rdNotN, rdIsB, rdNotB, rdRev, rdSeats, rdCatL, rdCatT, rdRepL, rdLen, rdTuple, rdList, rxList, rdInt, rdMax2, rdMin2, dgName, dgTup, dgCons, dgNil, deRefused, rdRepr, rdNeS, rdEqL, rdNeL, rdRepT, rdIsLn, noOwn, diSeq, diEn, diZp, diR1, diR2, noX,  eqOk_int, eqOk_bl, eqOk_non, eqv_int, eqv_bl, eqv_non, atI_0, atI_1, atI_2, atI_3, qty_non, qisI_non, qisB_non, qisL_non, qisU_non, qisS_non, qisD_non, qisNon_non, qcooked_non, qseq_non, qty_bl, qisI_bl, qisB_bl, qisL_bl, qisU_bl, qisS_bl, qisD_bl, qisNon_bl, qcooked_bl, qseq_bl, qty_int, qisI_int, qisB_int, qisL_int, qisU_int, qisS_int, qisD_int, qisNon_int, qcooked_int, qseq_int, qty_str, qisI_str, qisB_str, qisL_str, qisU_str, qisS_str, qisD_str, qisNon_str, qcooked_str, qseq_str, qty_lst, qisI_lst, qisB_lst, qisL_lst, qisU_lst, qisS_lst, qisD_lst, qisNon_lst, qcooked_lst, qseq_lst, qty_tup, qisI_tup, qisB_tup, qisL_tup, qisU_tup, qisS_tup, qisD_tup, qisNon_tup, qcooked_tup, qseq_tup, qty_dct, qisI_dct, qisB_dct, qisL_dct, qisU_dct, qisS_dct, qisD_dct, qisNon_dct, qcooked_dct, qseq_dct, qix_lst, qsl_lst, qix_tup, qsl_tup, qisNon_ln, qcooked_ln, and_assoc, exists_and_left, exists_eq_left, exists_eq_left', exists_eq_right, dxLc_eq, dsFor_eq, rngD_0, rngD_eq, zipD_map, enumD_map0]
  refine while_of (fun k δ' => ∃ a b : Nat, δ' = [.dat (.int (t : Int)), .dat (.int (m : Int)), .dat (.int (a : Int)), .dat (.int (b : Int))] ∧ k = b ∧ Nat.gcd a b = Nat.gcd t m ∧ a ≤ 100000 ∧ b ≤ 100000) m ⟨t, m, rfl, rfl, rfl, ht, hm⟩ (fun k δ' hj => ?_)
  obtain ⟨a, b, rfl, rfl, hg, ha, hb⟩ := hj
  simp [startD, wipeD, dsRet, dsRetN, dsIf, dsSeq, dsNext, dsAsg, dsDrop, dsBreak, dsCont, dsPar, dsAug, dsFrz, dsApp, dsExt, dsPut, dsAugO, dsOwn, dsParOO, dsParDO, dsParDDO, diR3, rdRepTz, dsFrzA, dxRep, diOwn, dsRaise, deAnd, deOr, deNot, de1, de2, deB, deX, dxB, dxLst, deName, deC, deCall, deIxO, deLenO, deTup, deLst, daCons, daNil, daStar, deChain, dtChain, dtV, dtAnd, dtOr, dtNot, dtYes, deIf, deSl, doNone, doSome, rdAdd, rdSub, rdMul, rdMod, rdDiv, rdPow, rdI, rdIc, rdB, rdLt, rdLe, rdGt, rdGe, rdNeg, rdIs, rdEq, rdNe, rdIx, rdIsN, rdNotN, rdIsB, rdNotB, rdRev, rdSeats, rdCatL, rdCatT, rdRepL, rdLen, rdTuple, rdList, rxList, rdInt, rdMax2, rdMin2, dgName, dgTup, dgCons, dgNil, deRefused, rdRepr, rdNeS, rdEqL, rdNeL, rdRepT, rdIsLn, noOwn, diSeq, diEn, diZp, diR1, diR2, noX,  eqOk_int, eqOk_bl, eqOk_non, eqv_int, eqv_bl, eqv_non, atI_0, atI_1, atI_2, atI_3, qty_non, qisI_non, qisB_non, qisL_non, qisU_non, qisS_non, qisD_non, qisNon_non, qcooked_non, qseq_non, qty_bl, qisI_bl, qisB_bl, qisL_bl, qisU_bl, qisS_bl, qisD_bl, qisNon_bl, qcooked_bl, qseq_bl, qty_int, qisI_int, qisB_int, qisL_int, qisU_int, qisS_int, qisD_int, qisNon_int, qcooked_int, qseq_int, qty_str, qisI_str, qisB_str, qisL_str, qisU_str, qisS_str, qisD_str, qisNon_str, qcooked_str, qseq_str, qty_lst, qisI_lst, qisB_lst, qisL_lst, qisU_lst, qisS_lst, qisD_lst, qisNon_lst, qcooked_lst, qseq_lst, qty_tup, qisI_tup, qisB_tup, qisL_tup, qisU_tup, qisS_tup, qisD_tup, qisNon_tup, qcooked_tup, qseq_tup, qty_dct, qisI_dct, qisB_dct, qisL_dct, qisU_dct, qisS_dct, qisD_dct, qisNon_dct, qcooked_dct, qseq_dct, qix_lst, qsl_lst, qix_tup, qsl_tup, qisNon_ln, qcooked_ln, and_assoc, exists_and_left, exists_eq_left, exists_eq_left', exists_eq_right, dxLc_eq, dsFor_eq, rngD_0, rngD_eq, zipD_map, enumD_map0, CDiv]
  by_cases hb0 : 0 < k
  · rw [if_pos (by omega)]
    refine ⟨hb0, a % k, Nat.mod_lt _ hb0, k, rfl, a % k, rfl, rfl, ?_, hb, by have := Nat.mod_lt a hb0; omega⟩
    rw [← hg, Nat.gcd_comm a k, Nat.gcd_rec k a, Nat.gcd_comm]
  · rw [if_neg (by omega)]
    have e0 : k = 0 := by omega
    subst e0
    rw [Nat.gcd_zero_right] at hg
    have hgp : 0 < Nat.gcd t m := Nat.gcd_pos_of_pos_right t (by omega)
    subst hg
    exact ⟨hgp, by omega, hgp, by omega, o⟩
end
end K15
end
-- F_15_is_less
section
set_option Elab.async false
set_option linter.all false
set_option maxRecDepth 100000
set_option maxHeartbeats 4000000
set_option autoImplicit false
namespace K15
open PySem PySem.Spec PyProof.Rows L2 Sd
section
variable {P : Program} {w : World} {K : PySem.W.Frag} {mg : Str → Option Value} {base : Heap}
theorem ok_is_less (T : Txt K mg) {f : Addr} {fd : FuncData} (F : FnP K "is_less" s_is_less f fd)   : FnOk P w K mg base (L2.CX P w) 1 f fd ["one", "other"] (spD K sp_is_less) := by
  have sc := sc_is_less
  refine fnD F sc (fun F ds O h => by
    obtain ⟨_, _, _, _, e, _⟩ := h
    rw [e] <;> rfl) (fun cdv A outer s G E ds O hr h hE => ⟨_, (pssd_one (psd_ret (pd_lt (pd_mul (pd_item (pd_name (pv 0)) pd_int) (pd_item (pd_name (pv 1)) pd_int)) (pd_mul (pd_item (pd_name (pv 1)) pd_int) (pd_item (pd_name (pv 0)) pd_int))))), ?_⟩)
  obtain ⟨a, b, c, d, rfl, h⟩ := h
  obtain ⟨ha, hc, o⟩ := h
  simp [startD, wipeD, dsRet, dsRetN, dsIf, dsSeq, dsNext, dsAsg, dsDrop, dsBreak, dsCont, dsPar, dsAug, dsFrz, dsApp, dsExt, dsPut, dsAugO, dsOwn, dsParOO, dsParDO, dsParDDO, diR3, rdRepTz, dsFrzA, dxRep, diOwn, dsRaise, deAnd, deOr, deNot, de1, de2, deB, deX, dxB, dxLst, deName, deC, deCall, deIxO, deLenO, deTup, deLst, daCons, daNil, daStar, deChain, dtChain, dtV, dtAnd, dtOr, dtNot, dtYes, deIf, deSl, doNone, doSome, rdAdd, rdSub, rdMul, rdMod, rdDiv, rdPow, rdI, rdIc, rdB, rdLt, rdLe, rdGt, rdGe, rdNeg, rdIs, rdEq, rdNe, rdIx, rdIsN, rdNotN, rdIsB, rdNotB, rdRev, rdSeats, rdCatL, rdCatT, rdRepL, rdLen, rdTuple, rdList, rxList, rdInt, rdMax2, rdMin2, dgName, dgTup, dgCons, dgNil, deRefused, rdRepr, rdNeS, rdEqL, rdNeL, rdRepT, rdIsLn, noOwn, diSeq, diEn, diZp, diR1, diR2, noX,  eqOk_int, eqOk_bl, eqOk_non, eqv_int, eqv_bl, eqv_non, atI_0, atI_1, atI_2, atI_3, qty_non, qisI_non, qisB_non, qisL_non, qisU_non, qisS_non, qisD_non, qisNon_non, qcooked_non, qseq_non, qty_bl, qisI_bl, qisB_bl, qisL_bl, qisU_bl, qisS_bl, qisD_bl, qisNon_bl, qcooked_bl, qseq_bl, qty_int, qisI_int, qisB_int, qisL_int, qisU_int, qisS_int, qisD_int, qisNon_int, qcooked_int, qseq_int, qty_str, qisI_str, qisB_str, qisL_str, qisU_str, qisS_str, qisD_str, qisNon_str, qcooked_str, qseq_str, qty_lst, qisI_lst, qisB_lst, qisL_lst, qisU_lst, qisS_lst, qisD_lst, qisNon_lst, qcooked_lst, qseq_lst, qty_tup, qisI_tup, qisB_tup, qisL_tup, qisU_tup, qisS_tup, qisD_tup, qisNon_tup, qcooked_tup, qseq_tup, qty_dct, qisI_dct, qisB_dct, qisL_dct, qisU_dct, qisS_dct, qisD_dct, qisNon_dct, qcooked_dct, qseq_dct, qix_lst, qsl_lst, qix_tup, qsl_tup, qisNon_ln, qcooked_ln, and_assoc, exists_and_left, exists_eq_left, exists_eq_left', exists_eq_right, dxLc_eq, dsFor_eq, rngD_0, rngD_eq, zipD_map, enumD_map0, CMul]
  exact ⟨.inl (by omega), .inl (by omega), o⟩
end
end K15
end
-- F_15_SeatError___init__
section
set_option Elab.async false
set_option linter.all false
set_option maxRecDepth 100000
set_option maxHeartbeats 4000000
set_option autoImplicit false
namespace K15
open PySem PySem.Spec PyProof.Rows L2 Sd
section
variable {P : Program} {w : World} {K : PySem.W.Frag} {mg : Str → Option Value} {base : Heap}
theorem ok_SeatError_init {f : Addr} {fd : FuncData} {dvs : List V} (F : FunD K "__init__" "SeatError.__init__" (defArgs s_SeatError___init__) (defBody s_SeatError___init__) (defScope s_SeatError___init__) dvs [] f fd) : FnOk P w K mg base (L2.CX P w) 1 f fd ["self", "value"] (spErr K) := by
  have sc := sc_SeatError___init__
  refine F.ok sc (fun vs H Q E ⟨_, _, _, e, _⟩ => by rw [e] <;> rfl) fun cdv A outer s H vs Q E hr ⟨a, C, v, e, hO, hn, ha, q⟩ => ⟨_, pss_one (ps_ost (pv 0) (pv 1)), ?_⟩
  subst e
  refine ⟨v, rfl, .ref a, rfl, a, C, rfl, hO, hn, ?_⟩
  exact .inl ⟨ha, q⟩

end
end K15
end
-- F_15_check_fares
section
set_option Elab.async false
set_option linter.all false
set_option maxRecDepth 100000
set_option maxHeartbeats 4000000
set_option autoImplicit false
namespace K15
open PySem PySem.Spec PyProof.Rows L2 Sd
section
variable {P : Program} {w : World} {K : PySem.W.Frag} {mg : Str → Option Value} {base : Heap}
theorem ok_check_fares (T : Txt K mg) {f : Addr} {fd : FuncData} (F : FnP K "check_fares" s_check_fares f fd) (c_is_row : Cl P w K mg base 1 "is_row" sp_is_row []) (c_is_within : Cl P w K mg base 2 "is_within" sp_is_within []) (x_BadFares : Er P w K mg base 1 "BadFares") (x_BadN : Er P w K mg base 1 "BadN") : FnOk P w K mg base (L2.CX P w) 3 f fd ["n", "fares"] (spD K sp_check_fares) := by
  have sc := sc_check_fares
  refine fnD F sc (fun F ds O h => by
    obtain ⟨_, _, e, _⟩ := h
    rw [e] <;> rfl) (fun cdv A outer s G E ds O hr h hE => ⟨_, (pssd_cons (psd_if (ptd_not (ptd_val (pd_call c_is_within hr (by first | decide | omega) (pad_cons (pd_name (pv 0)) (pad_cons pd_int (pad_cons (pd_gint T.c_MOST_N) pad_nil))))))
  (pssd_one (psd_raise x_BadN hr hE (takes_of rfl rfl rfl rfl) (pad_cons (pd_name (pv 0)) pad_nil)))
  pssd_nil)
  (pssd_cons (psd_if (ptd_w (pwd_or (ptd_not (ptd_val (pd_call c_is_row hr (by first | decide | omega) (pad_cons (pd_name (pv 1)) pad_nil)))) (pwd_or1 (ptd_not (ptd_lele pd_int (pd_callB call_len_seq snd_len T.b_len (pad_cons (pd_name (pv 1)) pad_nil)) (pd_gint T.c_MOST_CLASSES))))))
  (pssd_one (psd_raise x_BadFares hr hE (takes_of rfl rfl rfl rfl) (pad_cons (pd_name (pv 1)) pad_nil)))
  pssd_nil)
  (pssd_cons (psd_if (ptd_not (ptd_val (pd_callB (cr_all rfl) snd_all T.b_all (pad_cons (pd_x (pxd_lc (own := [(("fare" : Str), 2)]) sc.nd (pid_seq (pd_name (pv 1))) (by kernel_rfl) (fun _ _ _ _ _ => (pgc_name (i := 2) sc.nd rfl (by first | exact Or.inl rfl | exact Or.inr rfl) (by decide))) (fun _ _ _ _ _ => ptsd_nil) (fun _ _ _ _ _ => (pd_call c_is_within hr (by first | decide | omega) (pad_cons (pd_name (pv 2)) (pad_cons pd_int (pad_cons (pd_gint T.c_MOST_FARE) pad_nil))))))) pad_nil))))
  (pssd_one (psd_raise x_BadFares hr hE (takes_of rfl rfl rfl rfl) (pad_cons (pd_name (pv 1)) pad_nil)))
  pssd_nil)
  (pssd_one (psd_if (ptd_not (ptd_val (pd_callB (cr_all rfl) snd_all T.b_all (pad_cons (pd_x (pxd_lc (own := [(("one" : Str), 3), (("other" : Str), 4)]) sc.nd (pid_zp T.b_zip (pad_cons (pd_name (pv 1)) (pad_cons (pd_slice (pd_name (pv 1)) (pod_some pd_int) pod_none) pad_nil))) (by kernel_rfl) (fun _ _ _ _ _ => (pgc_tup (n := 2) (pgcs_cons (pgc_name (i := 3) sc.nd rfl (by first | exact Or.inl rfl | exact Or.inr rfl) (by decide)) (pgcs_cons (pgc_name (i := 4) sc.nd rfl (by first | exact Or.inl rfl | exact Or.inr rfl) (by decide)) pgcs_nil)))) (fun _ _ _ _ _ => ptsd_nil) (fun _ _ _ _ _ => (pd_gt (pd_name (pv 3)) (pd_name (pv 4)))))) pad_nil))))
  (pssd_one (psd_raise x_BadFares hr hE (takes_of rfl rfl rfl rfl) (pad_cons (pd_name (pv 1)) pad_nil)))
  pssd_nil))))), ?_⟩)
  obtain ⟨n, t, rfl, h⟩ := h
  obtain ⟨hn, ht, o1, o2, o3⟩ := h
  simp [startD, wipeD, dsRet, dsRetN, dsIf, dsSeq, dsNext, dsAsg, dsDrop, dsBreak, dsCont, dsPar, dsAug, dsFrz, dsApp, dsExt, dsPut, dsAugO, dsOwn, dsParOO, dsParDO, dsParDDO, diR3, rdRepTz, dsFrzA, dxRep, diOwn, dsRaise, deAnd, deOr, deNot, de1, de2, deB, deX, dxB, dxLst, deName, deC, deCall, deIxO, deLenO, deTup, deLst, daCons, daNil, daStar, deChain, dtChain, dtV, dtAnd, dtOr, dtNot, dtYes, deIf, deSl, doNone, doSome, rdAdd, rdSub, rdMul, rdMod, rdDiv, rdPow, rdI, rdIc, rdB, rdLt, rdLe, rdGt, rdGe, rdNeg, rdIs, rdEq, rdNe, rdIx, rdIsN, rdNotN, rdIsB, rdNotB, rdRev, rdSeats, rdCatL, rdCatT, rdRepL, rdLen, rdTuple, rdList, rxList, rdInt, rdMax2, rdMin2, dgName, dgTup, dgCons, dgNil, deRefused, rdRepr, rdNeS, rdEqL, rdNeL, rdRepT, rdIsLn, noOwn, diSeq, diEn, diZp, diR1, diR2, noX,  eqOk_int, eqOk_bl, eqOk_non, eqv_int, eqv_bl, eqv_non, atI_0, atI_1, atI_2, atI_3, qty_non, qisI_non, qisB_non, qisL_non, qisU_non, qisS_non, qisD_non, qisNon_non, qcooked_non, qseq_non, qty_bl, qisI_bl, qisB_bl, qisL_bl, qisU_bl, qisS_bl, qisD_bl, qisNon_bl, qcooked_bl, qseq_bl, qty_int, qisI_int, qisB_int, qisL_int, qisU_int, qisS_int, qisD_int, qisNon_int, qcooked_int, qseq_int, qty_str, qisI_str, qisB_str, qisL_str, qisU_str, qisS_str, qisD_str, qisNon_str, qcooked_str, qseq_str, qty_lst, qisI_lst, qisB_lst, qisL_lst, qisU_lst, qisS_lst, qisD_lst, qisNon_lst, qcooked_lst, qseq_lst, qty_tup, qisI_tup, qisB_tup, qisL_tup, qisU_tup, qisS_tup, qisD_tup, qisNon_tup, qcooked_tup, qseq_tup, qty_dct, qisI_dct, qisB_dct, qisL_dct, qisU_dct, qisS_dct, qisD_dct, qisNon_dct, qcooked_dct, qseq_dct, qix_lst, qsl_lst, qix_tup, qsl_tup, qisNon_ln, qcooked_ln, and_assoc, exists_and_left, exists_eq_left, exists_eq_left', exists_eq_right, sp_is_row, sp_is_within, dxLc_eq, dsFor_eq, rngD_0, rngD_eq, zipD_map, enumD_map0, okv_ty hn, okv_ty ht]
  by_cases cn : isWithin n 1 12 = true
  · rw [if_pos cn]
    have o2 := o2 cn
    have o3 := o3 cn
    cases hs : t.seq with
    | none =>
      have e : (t.isL || t.isU) = false := by rw [← seq_isSome, hs]; rfl
      have eb : okF t = false := by unfold okF; rw [hs]
      rw [if_neg (by simpa using e)]
      exact o2 eb
    | some xs =>
      have e : (t.isL || t.isU) = true := by rw [← seq_isSome, hs]; rfl
      have hx := okv_seq ht hs
      have eb : okF t = ((decide (1 ≤ xs.length) && decide (xs.length ≤ 4)) && (xs.all (fun y => isWithin y 1 1000) && ((xs.map toI).zip ((xs.map toI).drop 1)).all fun p => decide (p.2 < p.1))) := by
        unfold okF
        rw [hs]
      rw [eb] at o2 o3
      rw [if_pos (by simpa using e)]
      refine ⟨xs, rfl, ?_⟩
      by_cases c1 : 1 ≤ xs.length
      · rw [if_pos (by omega)]
        by_cases c2 : xs.length ≤ 4
        · rw [if_pos (by omega)]
          rw [decide_eq_true c1, decide_eq_true c2, Bool.true_and, Bool.true_and] at o2 o3
          refine ⟨xs, rfl, ?_⟩
          refine lb_self xs (fun y => .bl (isWithin y 1 1000)) (by omega) (fun y hy R hR => ?_) ?_
          · simp [startD, wipeD, dsRet, dsRetN, dsIf, dsSeq, dsNext, dsAsg, dsDrop, dsBreak, dsCont, dsPar, dsAug, dsFrz, dsApp, dsExt, dsPut, dsAugO, dsOwn, dsParOO, dsParDO, dsParDDO, diR3, rdRepTz, dsFrzA, dxRep, diOwn, dsRaise, deAnd, deOr, deNot, de1, de2, deB, deX, dxB, dxLst, deName, deC, deCall, deIxO, deLenO, deTup, deLst, daCons, daNil, daStar, deChain, dtChain, dtV, dtAnd, dtOr, dtNot, dtYes, deIf, deSl, doNone, doSome, rdAdd, rdSub, rdMul, rdMod, rdDiv, rdPow, rdI, rdIc, rdB, rdLt, rdLe, rdGt, rdGe, rdNeg, rdIs, rdEq, rdNe, rdIx, rdIsN, rdNotN, rdIsB, rdNotB, rdRev, rdSeats, rdCatL, rdCatT, rdRepL, rdLen, rdTuple, rdList, rxList, rdInt, rdMax2, rdMin2, dgName, dgTup, dgCons, dgNil, deRefused, rdRepr, rdNeS, rdEqL, rdNeL, rdRepT, rdIsLn, noOwn, diSeq, diEn, diZp, diR1, diR2, noX,  eqOk_int, eqOk_bl, eqOk_non, eqv_int, eqv_bl, eqv_non, atI_0, atI_1, atI_2, atI_3, qty_non, qisI_non, qisB_non, qisL_non, qisU_non, qisS_non, qisD_non, qisNon_non, qcooked_non, qseq_non, qty_bl, qisI_bl, qisB_bl, qisL_bl, qisU_bl, qisS_bl, qisD_bl, qisNon_bl, qcooked_bl, qseq_bl, qty_int, qisI_int, qisB_int, qisL_int, qisU_int, qisS_int, qisD_int, qisNon_int, qcooked_int, qseq_int, qty_str, qisI_str, qisB_str, qisL_str, qisU_str, qisS_str, qisD_str, qisNon_str, qcooked_str, qseq_str, qty_lst, qisI_lst, qisB_lst, qisL_lst, qisU_lst, qisS_lst, qisD_lst, qisNon_lst, qcooked_lst, qseq_lst, qty_tup, qisI_tup, qisB_tup, qisL_tup, qisU_tup, qisS_tup, qisD_tup, qisNon_tup, qcooked_tup, qseq_tup, qty_dct, qisI_dct, qisB_dct, qisL_dct, qisU_dct, qisS_dct, qisD_dct, qisNon_dct, qcooked_dct, qseq_dct, qix_lst, qsl_lst, qix_tup, qsl_tup, qisNon_ln, qcooked_ln, and_assoc, exists_and_left, exists_eq_left, exists_eq_left', exists_eq_right, sp_is_row, sp_is_within, dxLc_eq, dsFor_eq, rngD_0, rngD_eq, zipD_map, enumD_map0, okv_ty (hx y hy)]
            exact hR
          refine ⟨xs.map fun y => isWithin y 1 1000, by rw [List.map_map]; rfl, ?_⟩
          have eall : (xs.map fun y => isWithin y 1 1000).all id = xs.all fun y => isWithin y 1 1000 := by
            rw [List.all_map]
            rfl
          rw [eall]
          cases hw : xs.all fun y => isWithin y 1 1000 with
          | false =>
            rw [hw] at o2
            exact .inl ⟨rfl, o2 rfl⟩
          | true =>
            rw [hw, Bool.true_and] at o2 o3
            refine .inr ⟨rfl, ?_⟩
            obtain ⟨z, hz1, hz2⟩ := sl_of hs (some 1) none
            refine ⟨z, hz1, xs, rfl, _, hz2, ?_⟩
            rw [cut_1]
            have ei := ints_of_within hw
            generalize xs.map toI = F at ei o2 o3
            subst ei
            rw [← List.map_drop, zipD_map]
            refine lb_on (F.zip (F.drop 1)) (fun p => .bl (decide (p.2 < p.1))) (by rw [List.length_zip]; rw [List.length_map] at c2; omega) (fun p hp R hR => ?_) ?_
            · simp [startD, wipeD, dsRet, dsRetN, dsIf, dsSeq, dsNext, dsAsg, dsDrop, dsBreak, dsCont, dsPar, dsAug, dsFrz, dsApp, dsExt, dsPut, dsAugO, dsOwn, dsParOO, dsParDO, dsParDDO, diR3, rdRepTz, dsFrzA, dxRep, diOwn, dsRaise, deAnd, deOr, deNot, de1, de2, deB, deX, dxB, dxLst, deName, deC, deCall, deIxO, deLenO, deTup, deLst, daCons, daNil, daStar, deChain, dtChain, dtV, dtAnd, dtOr, dtNot, dtYes, deIf, deSl, doNone, doSome, rdAdd, rdSub, rdMul, rdMod, rdDiv, rdPow, rdI, rdIc, rdB, rdLt, rdLe, rdGt, rdGe, rdNeg, rdIs, rdEq, rdNe, rdIx, rdIsN, rdNotN, rdIsB, rdNotB, rdRev, rdSeats, rdCatL, rdCatT, rdRepL, rdLen, rdTuple, rdList, rxList, rdInt, rdMax2, rdMin2, dgName, dgTup, dgCons, dgNil, deRefused, rdRepr, rdNeS, rdEqL, rdNeL, rdRepT, rdIsLn, noOwn, diSeq, diEn, diZp, diR1, diR2, noX,  eqOk_int, eqOk_bl, eqOk_non, eqv_int, eqv_bl, eqv_non, atI_0, atI_1, atI_2, atI_3, qty_non, qisI_non, qisB_non, qisL_non, qisU_non, qisS_non, qisD_non, qisNon_non, qcooked_non, qseq_non, qty_bl, qisI_bl, qisB_bl, qisL_bl, qisU_bl, qisS_bl, qisD_bl, qisNon_bl, qcooked_bl, qseq_bl, qty_int, qisI_int, qisB_int, qisL_int, qisU_int, qisS_int, qisD_int, qisNon_int, qcooked_int, qseq_int, qty_str, qisI_str, qisB_str, qisL_str, qisU_str, qisS_str, qisD_str, qisNon_str, qcooked_str, qseq_str, qty_lst, qisI_lst, qisB_lst, qisL_lst, qisU_lst, qisS_lst, qisD_lst, qisNon_lst, qcooked_lst, qseq_lst, qty_tup, qisI_tup, qisB_tup, qisL_tup, qisU_tup, qisS_tup, qisD_tup, qisNon_tup, qcooked_tup, qseq_tup, qty_dct, qisI_dct, qisB_dct, qisL_dct, qisU_dct, qisS_dct, qisD_dct, qisNon_dct, qcooked_dct, qseq_dct, qix_lst, qsl_lst, qix_tup, qsl_tup, qisNon_ln, qcooked_ln, and_assoc, exists_and_left, exists_eq_left, exists_eq_left', exists_eq_right, sp_is_row, sp_is_within, dxLc_eq, dsFor_eq, rngD_0, rngD_eq, zipD_map, enumD_map0]
              exact hR
            refine ⟨(F.zip (F.drop 1)).map fun p => decide (p.2 < p.1), by rw [List.map_map]; rfl, ?_⟩
            rw [List.all_map]
            cases hd : (F.zip (F.drop 1)).all (id ∘ fun p => decide (p.2 < p.1)) with
            | false => exact .inl ⟨rfl, o2 hd⟩
            | true => exact .inr ⟨rfl, o3 hd⟩
        · rw [if_neg (by omega)]
          rw [decide_eq_false c2, Bool.and_false, Bool.false_and] at o2
          exact o2 rfl
      · rw [if_neg (by omega)]
        rw [decide_eq_false c1, Bool.false_and, Bool.false_and] at o2
        exact o2 rfl
  · rw [if_neg cn]
    exact o1 (by unfold okN; simpa using cn)
end
end K15
end
-- F_15_check_limits
section
set_option Elab.async false
set_option linter.all false
set_option maxRecDepth 100000
set_option maxHeartbeats 4000000
set_option autoImplicit false
namespace K15
open PySem PySem.Spec PyProof.Rows L2 Sd
section
variable {P : Program} {w : World} {K : PySem.W.Frag} {mg : Str → Option Value} {base : Heap}
theorem ok_check_limits (T : Txt K mg) {f : Addr} {fd : FuncData} (F : FnP K "check_limits" s_check_limits f fd) (c_check_fares : Cl P w K mg base 3 "check_fares" sp_check_fares []) (c_is_tuple_of : Cl P w K mg base 1 "is_tuple_of" sp_is_tuple_of []) (c_is_within : Cl P w K mg base 2 "is_within" sp_is_within []) (x_BadLimits : Er P w K mg base 1 "BadLimits") : FnOk P w K mg base (L2.CX P w) 4 f fd ["n", "fares", "limits"] (spD K sp_check_limits) := by
  have sc := sc_check_limits
  refine fnD F sc (fun F ds O h => by
    obtain ⟨_, _, _, e, _⟩ := h
    rw [e] <;> rfl) (fun cdv A outer s G E ds O hr h hE => ⟨_, (pssd_cons (psd_drop (pd_callX c_check_fares hr (by first | decide | omega) hE (passes_call (takes_of rfl rfl rfl rfl) (fun _ _ _ _ z => z)) (pad_cons (pd_name (pv 0)) (pad_cons (pd_name (pv 1)) pad_nil))))
  (pssd_cons (psd_if (ptd_w (pwd_or (ptd_not (ptd_val (pd_call c_is_tuple_of hr (by first | decide | omega) (pad_cons (pd_name (pv 2)) (pad_cons (pd_callB call_len_seq snd_len T.b_len (pad_cons (pd_name (pv 1)) pad_nil)) pad_nil))))) (pwd_or1 (ptd_not (ptd_val (pd_callB (cr_all rfl) snd_all T.b_all (pad_cons (pd_x (pxd_lc (own := [(("one" : Str), 3)]) sc.nd (pid_seq (pd_name (pv 2))) (by kernel_rfl) (fun _ _ _ _ _ => (pgc_name (i := 3) sc.nd rfl (by first | exact Or.inl rfl | exact Or.inr rfl) (by decide))) (fun _ _ _ _ _ => ptsd_nil) (fun _ _ _ _ _ => (pd_call c_is_within hr (by first | decide | omega) (pad_cons (pd_name (pv 3)) (pad_cons pd_int (pad_cons (pd_name (pv 0)) pad_nil))))))) pad_nil)))))))
  (pssd_one (psd_raise x_BadLimits hr hE (takes_of rfl rfl rfl rfl) (pad_cons (pd_name (pv 2)) pad_nil)))
  pssd_nil)
  (pssd_one (psd_if (ptd_w (pwd_or (ptd_ne hr.units (pd_item (pd_name (pv 2)) pd_int) (pd_name (pv 0))) (pwd_or1 (ptd_not (ptd_val (pd_callB (cr_all rfl) snd_all T.b_all (pad_cons (pd_x (pxd_lc (own := [(("one" : Str), 3), (("other" : Str), 4)]) sc.nd (pid_zp T.b_zip (pad_cons (pd_name (pv 2)) (pad_cons (pd_slice (pd_name (pv 2)) (pod_some pd_int) pod_none) pad_nil))) (by kernel_rfl) (fun _ _ _ _ _ => (pgc_tup (n := 2) (pgcs_cons (pgc_name (i := 3) sc.nd rfl (by first | exact Or.inl rfl | exact Or.inr rfl) (by decide)) (pgcs_cons (pgc_name (i := 4) sc.nd rfl (by first | exact Or.inl rfl | exact Or.inr rfl) (by decide)) pgcs_nil)))) (fun _ _ _ _ _ => ptsd_nil) (fun _ _ _ _ _ => (pd_ge (pd_name (pv 3)) (pd_name (pv 4)))))) pad_nil)))))))
  (pssd_one (psd_raise x_BadLimits hr hE (takes_of rfl rfl rfl rfl) (pad_cons (pd_name (pv 2)) pad_nil)))
  pssd_nil)))), ?_⟩)
  obtain ⟨n, t, l, rfl, h⟩ := h
  obtain ⟨hn, ht, hl, o1, o2, o3⟩ := h
  simp [startD, wipeD, dsRet, dsRetN, dsIf, dsSeq, dsNext, dsAsg, dsDrop, dsBreak, dsCont, dsPar, dsAug, dsFrz, dsApp, dsExt, dsPut, dsAugO, dsOwn, dsParOO, dsParDO, dsParDDO, diR3, rdRepTz, dsFrzA, dxRep, diOwn, dsRaise, deAnd, deOr, deNot, de1, de2, deB, deX, dxB, dxLst, deName, deC, deCall, deIxO, deLenO, deTup, deLst, daCons, daNil, daStar, deChain, dtChain, dtV, dtAnd, dtOr, dtNot, dtYes, deIf, deSl, doNone, doSome, rdAdd, rdSub, rdMul, rdMod, rdDiv, rdPow, rdI, rdIc, rdB, rdLt, rdLe, rdGt, rdGe, rdNeg, rdIs, rdEq, rdNe, rdIx, rdIsN, rdNotN, rdIsB, rdNotB, rdRev, rdSeats, rdCatL, rdCatT, rdRepL, rdLen, rdTuple, rdList, rxList, rdInt, rdMax2, rdMin2, dgName, dgTup, dgCons, dgNil, deRefused, rdRepr, rdNeS, rdEqL, rdNeL, rdRepT, rdIsLn, noOwn, diSeq, diEn, diZp, diR1, diR2, noX,  eqOk_int, eqOk_bl, eqOk_non, eqv_int, eqv_bl, eqv_non, atI_0, atI_1, atI_2, atI_3, qty_non, qisI_non, qisB_non, qisL_non, qisU_non, qisS_non, qisD_non, qisNon_non, qcooked_non, qseq_non, qty_bl, qisI_bl, qisB_bl, qisL_bl, qisU_bl, qisS_bl, qisD_bl, qisNon_bl, qcooked_bl, qseq_bl, qty_int, qisI_int, qisB_int, qisL_int, qisU_int, qisS_int, qisD_int, qisNon_int, qcooked_int, qseq_int, qty_str, qisI_str, qisB_str, qisL_str, qisU_str, qisS_str, qisD_str, qisNon_str, qcooked_str, qseq_str, qty_lst, qisI_lst, qisB_lst, qisL_lst, qisU_lst, qisS_lst, qisD_lst, qisNon_lst, qcooked_lst, qseq_lst, qty_tup, qisI_tup, qisB_tup, qisL_tup, qisU_tup, qisS_tup, qisD_tup, qisNon_tup, qcooked_tup, qseq_tup, qty_dct, qisI_dct, qisB_dct, qisL_dct, qisU_dct, qisS_dct, qisD_dct, qisNon_dct, qcooked_dct, qseq_dct, qix_lst, qsl_lst, qix_tup, qsl_tup, qisNon_ln, qcooked_ln, and_assoc, exists_and_left, exists_eq_left, exists_eq_left', exists_eq_right, sp_check_fares, sp_is_tuple_of, sp_is_within, dxLc_eq, dsFor_eq, rngD_0, rngD_eq, zipD_map, enumD_map0, okv_ty hn, okv_ty ht, okv_ty hl]
  refine ⟨hn, ht, o1, o2, fun a1 a2 => ?_⟩
  obtain ⟨F, hsF, hc1, hc4, hlF⟩ := okF_is a2
  obtain ⟨p1, p2⟩ := o3 a1 a2
  rw [hlF] at p1 p2
  obtain ⟨N, rfl, _, _⟩ := isWithin_int a1
  refine ⟨_, hsF, ?_⟩
  rw [List.length_map]
  by_cases ct : isTup l (F.length : Int) = true
  · rw [if_pos ct]
    have hy : ∃ ys, l = .tup ys ∧ ys.length = F.length := by
      cases l with
      | tup zs => exact ⟨zs, rfl, by simp [isTup] at ct; omega⟩
      | _ => simp [isTup] at ct
    obtain ⟨ys, rfl, hyl⟩ := hy
    have hx := okv_seq hl (xs := ys) rfl
    have eb : okL (.int N) F.length (.tup ys) = (ys.all (fun y => isWithin y 0 N) && (decide (toI (ys[0]?.getD .non) = N) && ((ys.map toI).zip ((ys.map toI).drop 1)).all fun p => decide (p.2 ≤ p.1))) := by
      show (decide (ys.length = F.length) && _) = _
      rw [decide_eq_true hyl, Bool.true_and]
      rfl
    rw [eb] at p1 p2
    refine ⟨ys, rfl, ?_⟩
    refine lb_self ys (fun y => .bl (isWithin y 0 N)) (by omega) (fun y hy R hR => ?_) ?_
    · simp [startD, wipeD, dsRet, dsRetN, dsIf, dsSeq, dsNext, dsAsg, dsDrop, dsBreak, dsCont, dsPar, dsAug, dsFrz, dsApp, dsExt, dsPut, dsAugO, dsOwn, dsParOO, dsParDO, dsParDDO, diR3, rdRepTz, dsFrzA, dxRep, diOwn, dsRaise, deAnd, deOr, deNot, de1, de2, deB, deX, dxB, dxLst, deName, deC, deCall, deIxO, deLenO, deTup, deLst, daCons, daNil, daStar, deChain, dtChain, dtV, dtAnd, dtOr, dtNot, dtYes, deIf, deSl, doNone, doSome, rdAdd, rdSub, rdMul, rdMod, rdDiv, rdPow, rdI, rdIc, rdB, rdLt, rdLe, rdGt, rdGe, rdNeg, rdIs, rdEq, rdNe, rdIx, rdIsN, rdNotN, rdIsB, rdNotB, rdRev, rdSeats, rdCatL, rdCatT, rdRepL, rdLen, rdTuple, rdList, rxList, rdInt, rdMax2, rdMin2, dgName, dgTup, dgCons, dgNil, deRefused, rdRepr, rdNeS, rdEqL, rdNeL, rdRepT, rdIsLn, noOwn, diSeq, diEn, diZp, diR1, diR2, noX,  eqOk_int, eqOk_bl, eqOk_non, eqv_int, eqv_bl, eqv_non, atI_0, atI_1, atI_2, atI_3, qty_non, qisI_non, qisB_non, qisL_non, qisU_non, qisS_non, qisD_non, qisNon_non, qcooked_non, qseq_non, qty_bl, qisI_bl, qisB_bl, qisL_bl, qisU_bl, qisS_bl, qisD_bl, qisNon_bl, qcooked_bl, qseq_bl, qty_int, qisI_int, qisB_int, qisL_int, qisU_int, qisS_int, qisD_int, qisNon_int, qcooked_int, qseq_int, qty_str, qisI_str, qisB_str, qisL_str, qisU_str, qisS_str, qisD_str, qisNon_str, qcooked_str, qseq_str, qty_lst, qisI_lst, qisB_lst, qisL_lst, qisU_lst, qisS_lst, qisD_lst, qisNon_lst, qcooked_lst, qseq_lst, qty_tup, qisI_tup, qisB_tup, qisL_tup, qisU_tup, qisS_tup, qisD_tup, qisNon_tup, qcooked_tup, qseq_tup, qty_dct, qisI_dct, qisB_dct, qisL_dct, qisU_dct, qisS_dct, qisD_dct, qisNon_dct, qcooked_dct, qseq_dct, qix_lst, qsl_lst, qix_tup, qsl_tup, qisNon_ln, qcooked_ln, and_assoc, exists_and_left, exists_eq_left, exists_eq_left', exists_eq_right, sp_check_fares, sp_is_tuple_of, sp_is_within, dxLc_eq, dsFor_eq, rngD_0, rngD_eq, zipD_map, enumD_map0, okv_ty (hx y hy)]
      exact hR
    refine ⟨ys.map fun y => isWithin y 0 N, by rw [List.map_map]; rfl, ?_⟩
    have eall : (ys.map fun y => isWithin y 0 N).all id = ys.all fun y => isWithin y 0 N := by
      rw [List.all_map]
      rfl
    rw [eall]
    cases hw : ys.all fun y => isWithin y 0 N with
    | false =>
      rw [hw] at p1
      exact .inl ⟨rfl, p1 rfl⟩
    | true =>
      rw [hw, Bool.true_and] at p1 p2
      refine .inr ⟨rfl, ?_⟩
      have ei := ints_of_within hw
      generalize ys.map toI = L at ei p1 p2
      subst ei
      rw [List.length_map] at hyl
      have g0 := List.getElem?_eq_getElem (show 0 < L.length by omega)
      refine ⟨.int L[0], by rw [qix_tup, atI_0, List.getElem?_map, g0]; rfl, rfl, rfl, ?_⟩
      rw [List.getElem?_map, g0] at p1 p2
      rw [eqv_int]
      by_cases c0 : L[0] = N
      · refine .inl ⟨decide_eq_true c0, ?_⟩
        rw [show decide (toI ((Option.map D.int (some L[0])).getD .non) = N) = true from decide_eq_true c0, Bool.true_and] at p1 p2
        obtain ⟨z, hz1, hz2⟩ := sl_of (t := .tup (L.map D.int)) rfl (some 1) none
        refine ⟨z, hz1, _, rfl, _, hz2, ?_⟩
        rw [cut_1, ← List.map_drop, zipD_map]
        refine lb_on (L.zip (L.drop 1)) (fun p => .bl (decide (p.2 ≤ p.1))) (by rw [List.length_zip]; omega) (fun p hp R hR => ?_) ?_
        · simp [startD, wipeD, dsRet, dsRetN, dsIf, dsSeq, dsNext, dsAsg, dsDrop, dsBreak, dsCont, dsPar, dsAug, dsFrz, dsApp, dsExt, dsPut, dsAugO, dsOwn, dsParOO, dsParDO, dsParDDO, diR3, rdRepTz, dsFrzA, dxRep, diOwn, dsRaise, deAnd, deOr, deNot, de1, de2, deB, deX, dxB, dxLst, deName, deC, deCall, deIxO, deLenO, deTup, deLst, daCons, daNil, daStar, deChain, dtChain, dtV, dtAnd, dtOr, dtNot, dtYes, deIf, deSl, doNone, doSome, rdAdd, rdSub, rdMul, rdMod, rdDiv, rdPow, rdI, rdIc, rdB, rdLt, rdLe, rdGt, rdGe, rdNeg, rdIs, rdEq, rdNe, rdIx, rdIsN, rdNotN, rdIsB, rdNotB, rdRev, rdSeats, rdCatL, rdCatT, rdRepL, rdLen, rdTuple, rdList, rxList, rdInt, rdMax2, rdMin2, dgName, dgTup, dgCons, dgNil, deRefused, rdRepr, rdNeS, rdEqL, rdNeL, rdRepT, rdIsLn, noOwn, diSeq, diEn, diZp, diR1, diR2, noX,  eqOk_int, eqOk_bl, eqOk_non, eqv_int, eqv_bl, eqv_non, atI_0, atI_1, atI_2, atI_3, qty_non, qisI_non, qisB_non, qisL_non, qisU_non, qisS_non, qisD_non, qisNon_non, qcooked_non, qseq_non, qty_bl, qisI_bl, qisB_bl, qisL_bl, qisU_bl, qisS_bl, qisD_bl, qisNon_bl, qcooked_bl, qseq_bl, qty_int, qisI_int, qisB_int, qisL_int, qisU_int, qisS_int, qisD_int, qisNon_int, qcooked_int, qseq_int, qty_str, qisI_str, qisB_str, qisL_str, qisU_str, qisS_str, qisD_str, qisNon_str, qcooked_str, qseq_str, qty_lst, qisI_lst, qisB_lst, qisL_lst, qisU_lst, qisS_lst, qisD_lst, qisNon_lst, qcooked_lst, qseq_lst, qty_tup, qisI_tup, qisB_tup, qisL_tup, qisU_tup, qisS_tup, qisD_tup, qisNon_tup, qcooked_tup, qseq_tup, qty_dct, qisI_dct, qisB_dct, qisL_dct, qisU_dct, qisS_dct, qisD_dct, qisNon_dct, qcooked_dct, qseq_dct, qix_lst, qsl_lst, qix_tup, qsl_tup, qisNon_ln, qcooked_ln, and_assoc, exists_and_left, exists_eq_left, exists_eq_left', exists_eq_right, sp_check_fares, sp_is_tuple_of, sp_is_within, dxLc_eq, dsFor_eq, rngD_0, rngD_eq, zipD_map, enumD_map0]
          exact hR
        refine ⟨(L.zip (L.drop 1)).map fun p => decide (p.2 ≤ p.1), by rw [List.map_map]; rfl, ?_⟩
        rw [List.all_map]
        cases hd : (L.zip (L.drop 1)).all (id ∘ fun p => decide (p.2 ≤ p.1)) with
        | false => exact .inl ⟨rfl, p1 hd⟩
        | true => exact .inr ⟨rfl, p2 hd⟩
      · refine .inr ⟨decide_eq_false c0, p1 ?_⟩
        rw [show decide (toI ((Option.map D.int (some L[0])).getD .non) = N) = false from decide_eq_false c0]
        rfl
  · rw [if_neg ct]
    refine p1 ?_
    cases l with
    | tup zs =>
      show (decide (zs.length = F.length) && _) = false
      rw [decide_eq_false (by simp [isTup] at ct; omega)]
      rfl
    | _ => rfl
end
end K15
end
-- F_15_check_asked
section
set_option Elab.async false
set_option linter.all false
set_option maxRecDepth 100000
set_option maxHeartbeats 4000000
set_option autoImplicit false
namespace K15
open PySem PySem.Spec PyProof.Rows L2 Sd
section
variable {P : Program} {w : World} {K : PySem.W.Frag} {mg : Str → Option Value} {base : Heap}
theorem ok_check_asked (T : Txt K mg) {f : Addr} {fd : FuncData} (F : FnP K "check_asked" s_check_asked f fd) (c_is_row : Cl P w K mg base 1 "is_row" sp_is_row []) (c_is_within : Cl P w K mg base 2 "is_within" sp_is_within []) (x_BadAsked : Er P w K mg base 1 "BadAsked") : FnOk P w K mg base (L2.CX P w) 3 f fd ["fares", "asked"] (spD K sp_check_asked) := by
  have sc := sc_check_asked
  refine fnD F sc (fun F ds O h => by
    obtain ⟨_, _, e, _⟩ := h
    rw [e] <;> rfl) (fun cdv A outer s G E ds O hr h hE => ⟨_, (pssd_cons (psd_if (ptd_w (pwd_or (ptd_not (ptd_val (pd_call c_is_row hr (by first | decide | omega) (pad_cons (pd_name (pv 1)) pad_nil)))) (pwd_or1 (ptd_gt (pd_callB call_len_seq snd_len T.b_len (pad_cons (pd_name (pv 1)) pad_nil)) (pd_gint T.c_MOST_ASKED)))))
  (pssd_one (psd_raise x_BadAsked hr hE (takes_of rfl rfl rfl rfl) (pad_cons (pd_neg pd_int) pad_nil)))
  pssd_nil)
  (pssd_one (psd_for (passes_of rfl) (pid_en T.b_enumerate (pad_cons (pd_name (pv 1)) pad_nil)) (pgd_tup (n := 2) (pgsd_cons (pgd_name (i := 2) sc.nd rfl (Or.inl rfl)) (pgsd_cons (pgd_name (i := 3) sc.nd rfl (Or.inl rfl)) pgsd_nil)))
  (pssd_one (psd_if (ptd_not (ptd_val (pd_call c_is_within hr (by first | decide | omega) (pad_cons (pd_name (pv 3)) (pad_cons pd_int (pad_cons (pd_sub (pd_callB call_len_seq snd_len T.b_len (pad_cons (pd_name (pv 0)) pad_nil)) pd_int) pad_nil))))))
  (pssd_one (psd_raise x_BadAsked hr hE (takes_of rfl rfl rfl rfl) (pad_cons (pd_name (pv 2)) pad_nil)))
  pssd_nil))))), ?_⟩)
  obtain ⟨t, a, rfl, h⟩ := h
  obtain ⟨ht, hv, hf, o1, o2⟩ := h
  obtain ⟨F, hsF, _, _, hlF⟩ := okF_is hf
  rw [hlF] at o1 o2
  simp [startD, wipeD, dsRet, dsRetN, dsIf, dsSeq, dsNext, dsAsg, dsDrop, dsBreak, dsCont, dsPar, dsAug, dsFrz, dsApp, dsExt, dsPut, dsAugO, dsOwn, dsParOO, dsParDO, dsParDDO, diR3, rdRepTz, dsFrzA, dxRep, diOwn, dsRaise, deAnd, deOr, deNot, de1, de2, deB, deX, dxB, dxLst, deName, deC, deCall, deIxO, deLenO, deTup, deLst, daCons, daNil, daStar, deChain, dtChain, dtV, dtAnd, dtOr, dtNot, dtYes, deIf, deSl, doNone, doSome, rdAdd, rdSub, rdMul, rdMod, rdDiv, rdPow, rdI, rdIc, rdB, rdLt, rdLe, rdGt, rdGe, rdNeg, rdIs, rdEq, rdNe, rdIx, rdIsN, rdNotN, rdIsB, rdNotB, rdRev, rdSeats, rdCatL, rdCatT, rdRepL, rdLen, rdTuple, rdList, rxList, rdInt, rdMax2, rdMin2, dgName, dgTup, dgCons, dgNil, deRefused, rdRepr, rdNeS, rdEqL, rdNeL, rdRepT, rdIsLn, noOwn, diSeq, diEn, diZp, diR1, diR2, noX,  eqOk_int, eqOk_bl, eqOk_non, eqv_int, eqv_bl, eqv_non, atI_0, atI_1, atI_2, atI_3, qty_non, qisI_non, qisB_non, qisL_non, qisU_non, qisS_non, qisD_non, qisNon_non, qcooked_non, qseq_non, qty_bl, qisI_bl, qisB_bl, qisL_bl, qisU_bl, qisS_bl, qisD_bl, qisNon_bl, qcooked_bl, qseq_bl, qty_int, qisI_int, qisB_int, qisL_int, qisU_int, qisS_int, qisD_int, qisNon_int, qcooked_int, qseq_int, qty_str, qisI_str, qisB_str, qisL_str, qisU_str, qisS_str, qisD_str, qisNon_str, qcooked_str, qseq_str, qty_lst, qisI_lst, qisB_lst, qisL_lst, qisU_lst, qisS_lst, qisD_lst, qisNon_lst, qcooked_lst, qseq_lst, qty_tup, qisI_tup, qisB_tup, qisL_tup, qisU_tup, qisS_tup, qisD_tup, qisNon_tup, qcooked_tup, qseq_tup, qty_dct, qisI_dct, qisB_dct, qisL_dct, qisU_dct, qisS_dct, qisD_dct, qisNon_dct, qcooked_dct, qseq_dct, qix_lst, qsl_lst, qix_tup, qsl_tup, qisNon_ln, qcooked_ln, and_assoc, exists_and_left, exists_eq_left, exists_eq_left', exists_eq_right, sp_is_row, sp_is_within, dxLc_eq, dsFor_eq, rngD_0, rngD_eq, zipD_map, enumD_map0, okv_ty ht, okv_ty hv]
  cases hs : a.seq with
  | none =>
    have e : (a.isL || a.isU) = false := by rw [← seq_isSome, hs]; rfl
    have eb : badAsked F.length a = some (-1) := by unfold badAsked; rw [hs]
    rw [if_neg (by simpa using e)]
    exact o1 _ eb
  | some xs =>
    have e : (a.isL || a.isU) = true := by rw [← seq_isSome, hs]; rfl
    have hx := okv_seq hv hs
    rw [if_pos (by simpa using e)]
    refine ⟨xs, rfl, ?_⟩
    by_cases c1 : xs.length ≤ 40
    · rw [if_neg (by omega)]
      refine ⟨xs, rfl, ?_⟩
      rw [enumD_id]
      refine fb_on xs.zipIdx (fun i δ' => (xs.take i).all (fun y => isWithin y 0 ((F.length : Int) - 1)) = true ∧ ∃ x y, δ' = [.dat t, .dat a, x, y]) ⟨by simp, _, _, rfl⟩ (fun i x δ' hi hj => ?_) (fun δ' hj => ?_)
      · obtain ⟨ha, b, c, rfl⟩ := hj
        rw [List.getElem?_zipIdx, Option.map_eq_some_iff] at hi
        obtain ⟨y, hxi, rfl⟩ := hi
        rw [Nat.zero_add]
        have oy := hx y (List.mem_of_getElem? hxi)
        simp [startD, wipeD, dsRet, dsRetN, dsIf, dsSeq, dsNext, dsAsg, dsDrop, dsBreak, dsCont, dsPar, dsAug, dsFrz, dsApp, dsExt, dsPut, dsAugO, dsOwn, dsParOO, dsParDO, dsParDDO, diR3, rdRepTz, dsFrzA, dxRep, diOwn, dsRaise, deAnd, deOr, deNot, de1, de2, deB, deX, dxB, dxLst, deName, deC, deCall, deIxO, deLenO, deTup, deLst, daCons, daNil, daStar, deChain, dtChain, dtV, dtAnd, dtOr, dtNot, dtYes, deIf, deSl, doNone, doSome, rdAdd, rdSub, rdMul, rdMod, rdDiv, rdPow, rdI, rdIc, rdB, rdLt, rdLe, rdGt, rdGe, rdNeg, rdIs, rdEq, rdNe, rdIx, rdIsN, rdNotN, rdIsB, rdNotB, rdRev, rdSeats, rdCatL, rdCatT, rdRepL, rdLen, rdTuple, rdList, rxList, rdInt, rdMax2, rdMin2, dgName, dgTup, dgCons, dgNil, deRefused, rdRepr, rdNeS, rdEqL, rdNeL, rdRepT, rdIsLn, noOwn, diSeq, diEn, diZp, diR1, diR2, noX,  eqOk_int, eqOk_bl, eqOk_non, eqv_int, eqv_bl, eqv_non, atI_0, atI_1, atI_2, atI_3, qty_non, qisI_non, qisB_non, qisL_non, qisU_non, qisS_non, qisD_non, qisNon_non, qcooked_non, qseq_non, qty_bl, qisI_bl, qisB_bl, qisL_bl, qisU_bl, qisS_bl, qisD_bl, qisNon_bl, qcooked_bl, qseq_bl, qty_int, qisI_int, qisB_int, qisL_int, qisU_int, qisS_int, qisD_int, qisNon_int, qcooked_int, qseq_int, qty_str, qisI_str, qisB_str, qisL_str, qisU_str, qisS_str, qisD_str, qisNon_str, qcooked_str, qseq_str, qty_lst, qisI_lst, qisB_lst, qisL_lst, qisU_lst, qisS_lst, qisD_lst, qisNon_lst, qcooked_lst, qseq_lst, qty_tup, qisI_tup, qisB_tup, qisL_tup, qisU_tup, qisS_tup, qisD_tup, qisNon_tup, qcooked_tup, qseq_tup, qty_dct, qisI_dct, qisB_dct, qisL_dct, qisU_dct, qisS_dct, qisD_dct, qisNon_dct, qcooked_dct, qseq_dct, qix_lst, qsl_lst, qix_tup, qsl_tup, qisNon_ln, qcooked_ln, and_assoc, exists_and_left, exists_eq_left, exists_eq_left', exists_eq_right, sp_is_row, sp_is_within, dxLc_eq, dsFor_eq, rngD_0, rngD_eq, zipD_map, enumD_map0, okv_ty oy, hsF]
        by_cases cw : isWithin y 0 ((F.length : Int) - 1) = true
        · rw [if_pos cw]
          have := all_take ha hxi cw
          simpa using this
        · rw [if_neg cw]
          refine o1 _ ?_
          unfold badAsked
          rw [hs]
          show (if xs.length ≤ 40 then Option.map Int.ofNat (xs.findIdx? fun x => !isWithin x 0 ((F.length : Int) - 1)) else some (-1)) = _
          rw [if_pos c1, findIdx_at ha hxi (by simpa using cw)]
          rfl
      · obtain ⟨ha, _⟩ := hj
        rw [List.length_zipIdx, List.take_length] at ha
        refine o2 ?_
        unfold badAsked
        rw [hs]
        show (if xs.length ≤ 40 then Option.map Int.ofNat (xs.findIdx? fun x => !isWithin x 0 ((F.length : Int) - 1)) else some (-1)) = _
        rw [if_pos c1, findIdx_none ha]
        rfl
    · have eb : badAsked F.length a = some (-1) := by
        unfold badAsked
        rw [hs]
        exact if_neg c1
      rw [if_pos (by omega)]
      exact o1 _ eb
end
end K15
end
-- F_15_told_taken
section
set_option Elab.async false
set_option linter.all false
set_option maxRecDepth 100000
set_option maxHeartbeats 4000000
set_option autoImplicit false
namespace K15
open PySem PySem.Spec PyProof.Rows L2 Sd
section
variable {P : Program} {w : World} {K : PySem.W.Frag} {mg : Str → Option Value} {base : Heap}
theorem ok_told_taken (T : Txt K mg) {f : Addr} {fd : FuncData} (F : FnP K "told_taken" s_told_taken f fd)   : FnOk P w K mg base (L2.CX P w) 1 f fd ["limits", "asked"] (spD K sp_told_taken) := by
  have sc := sc_told_taken
  refine fnD F sc (fun F ds O h => by
    obtain ⟨_, _, _, _, e, _⟩ := h
    rw [e] <;> rfl) (fun cdv A outer s G E ds O hr h hE => ⟨_, (pssd_cons (psd_own (i := 2) sc.nd rfl (Or.inl rfl) (pxd_lst pad_nil))
  (pssd_cons (psd_set (i := 3) sc.nd rfl (Or.inl rfl) pd_int)
  (pssd_cons (psd_for (passes_of rfl) (pid_seq (pd_name (pv 1))) (pgd_name (i := 4) sc.nd rfl (Or.inl rfl))
  (pssd_cons (psd_app (i := 2) (pv 2) (pd_lt (pd_name (pv 3)) (pd_item (pd_name (pv 0)) (pd_name (pv 4)))))
  (pssd_one (psd_if (ptd_val (pd_ixO (i := 2) (pv 2) (pd_neg pd_int)))
  (pssd_one (psd_aug (i := 3) sc.nd rfl (Or.inl rfl) ip_add pd_int))
  pssd_nil))))
  (pssd_one (psd_frz 2 (psd_ret (pd_name (pv 2)))))))), ?_⟩)
  obtain ⟨lt, at_, L, A, rfl, h⟩ := h
  obtain ⟨h1, h2, hA, hl, o⟩ := h
  simp [startD, wipeD, dsRet, dsRetN, dsIf, dsSeq, dsNext, dsAsg, dsDrop, dsBreak, dsCont, dsPar, dsAug, dsFrz, dsApp, dsExt, dsPut, dsAugO, dsOwn, dsParOO, dsParDO, dsParDDO, diR3, rdRepTz, dsFrzA, dxRep, diOwn, dsRaise, deAnd, deOr, deNot, de1, de2, deB, deX, dxB, dxLst, deName, deC, deCall, deIxO, deLenO, deTup, deLst, daCons, daNil, daStar, deChain, dtChain, dtV, dtAnd, dtOr, dtNot, dtYes, deIf, deSl, doNone, doSome, rdAdd, rdSub, rdMul, rdMod, rdDiv, rdPow, rdI, rdIc, rdB, rdLt, rdLe, rdGt, rdGe, rdNeg, rdIs, rdEq, rdNe, rdIx, rdIsN, rdNotN, rdIsB, rdNotB, rdRev, rdSeats, rdCatL, rdCatT, rdRepL, rdLen, rdTuple, rdList, rxList, rdInt, rdMax2, rdMin2, dgName, dgTup, dgCons, dgNil, deRefused, rdRepr, rdNeS, rdEqL, rdNeL, rdRepT, rdIsLn, noOwn, diSeq, diEn, diZp, diR1, diR2, noX,  eqOk_int, eqOk_bl, eqOk_non, eqv_int, eqv_bl, eqv_non, atI_0, atI_1, atI_2, atI_3, qty_non, qisI_non, qisB_non, qisL_non, qisU_non, qisS_non, qisD_non, qisNon_non, qcooked_non, qseq_non, qty_bl, qisI_bl, qisB_bl, qisL_bl, qisU_bl, qisS_bl, qisD_bl, qisNon_bl, qcooked_bl, qseq_bl, qty_int, qisI_int, qisB_int, qisL_int, qisU_int, qisS_int, qisD_int, qisNon_int, qcooked_int, qseq_int, qty_str, qisI_str, qisB_str, qisL_str, qisU_str, qisS_str, qisD_str, qisNon_str, qcooked_str, qseq_str, qty_lst, qisI_lst, qisB_lst, qisL_lst, qisU_lst, qisS_lst, qisD_lst, qisNon_lst, qcooked_lst, qseq_lst, qty_tup, qisI_tup, qisB_tup, qisL_tup, qisU_tup, qisS_tup, qisD_tup, qisNon_tup, qcooked_tup, qseq_tup, qty_dct, qisI_dct, qisB_dct, qisL_dct, qisU_dct, qisS_dct, qisD_dct, qisNon_dct, qcooked_dct, qseq_dct, qix_lst, qsl_lst, qix_tup, qsl_tup, qisNon_ln, qcooked_ln, and_assoc, exists_and_left, exists_eq_left, exists_eq_left', exists_eq_right, dxLc_eq, dsFor_eq, rngD_0, rngD_eq, zipD_map, enumD_map0, h2]
  refine fb_on A (fun i δ' => ∃ a : Sl, δ' = [.dat lt, .dat at_, .own ((tookB L 0 (A.take i)).map .bl), .dat (.int ((tookL L 0 (A.take i)).length : Nat)), a]) ⟨_, rfl⟩ (fun i q δ' hi hj => ?_) (fun δ' hj => ?_)
  · obtain ⟨a, rfl⟩ := hj
    have hq := hA q (List.mem_of_getElem? hi)
    have e1 := tookB_snoc L q (A.take i) 0
    have e2 := tookL_snoc L q (A.take i) 0
    rw [← take_snoc hi, Int.zero_add] at e1 e2
    have e3 : (tookB L 0 (A.take i)).length ≤ 1000 := by rw [tookB_len, List.length_take]; omega
    simp [startD, wipeD, dsRet, dsRetN, dsIf, dsSeq, dsNext, dsAsg, dsDrop, dsBreak, dsCont, dsPar, dsAug, dsFrz, dsApp, dsExt, dsPut, dsAugO, dsOwn, dsParOO, dsParDO, dsParDDO, diR3, rdRepTz, dsFrzA, dxRep, diOwn, dsRaise, deAnd, deOr, deNot, de1, de2, deB, deX, dxB, dxLst, deName, deC, deCall, deIxO, deLenO, deTup, deLst, daCons, daNil, daStar, deChain, dtChain, dtV, dtAnd, dtOr, dtNot, dtYes, deIf, deSl, doNone, doSome, rdAdd, rdSub, rdMul, rdMod, rdDiv, rdPow, rdI, rdIc, rdB, rdLt, rdLe, rdGt, rdGe, rdNeg, rdIs, rdEq, rdNe, rdIx, rdIsN, rdNotN, rdIsB, rdNotB, rdRev, rdSeats, rdCatL, rdCatT, rdRepL, rdLen, rdTuple, rdList, rxList, rdInt, rdMax2, rdMin2, dgName, dgTup, dgCons, dgNil, deRefused, rdRepr, rdNeS, rdEqL, rdNeL, rdRepT, rdIsLn, noOwn, diSeq, diEn, diZp, diR1, diR2, noX,  eqOk_int, eqOk_bl, eqOk_non, eqv_int, eqv_bl, eqv_non, atI_0, atI_1, atI_2, atI_3, qty_non, qisI_non, qisB_non, qisL_non, qisU_non, qisS_non, qisD_non, qisNon_non, qcooked_non, qseq_non, qty_bl, qisI_bl, qisB_bl, qisL_bl, qisU_bl, qisS_bl, qisD_bl, qisNon_bl, qcooked_bl, qseq_bl, qty_int, qisI_int, qisB_int, qisL_int, qisU_int, qisS_int, qisD_int, qisNon_int, qcooked_int, qseq_int, qty_str, qisI_str, qisB_str, qisL_str, qisU_str, qisS_str, qisD_str, qisNon_str, qcooked_str, qseq_str, qty_lst, qisI_lst, qisB_lst, qisL_lst, qisU_lst, qisS_lst, qisD_lst, qisNon_lst, qcooked_lst, qseq_lst, qty_tup, qisI_tup, qisB_tup, qisL_tup, qisU_tup, qisS_tup, qisD_tup, qisNon_tup, qcooked_tup, qseq_tup, qty_dct, qisI_dct, qisB_dct, qisL_dct, qisU_dct, qisS_dct, qisD_dct, qisNon_dct, qcooked_dct, qseq_dct, qix_lst, qsl_lst, qix_tup, qsl_tup, qisNon_ln, qcooked_ln, and_assoc, exists_and_left, exists_eq_left, exists_eq_left', exists_eq_right, dxLc_eq, dsFor_eq, rngD_0, rngD_eq, zipD_map, enumD_map0, ix_fa h1 hq]
    refine ⟨by omega, _, atI_last _ _, ?_⟩
    rw [e1, e2]
    by_cases c : ((tookL L 0 (A.take i)).length : Int) < fa L q
    · exact .inr ⟨by rw [decide_eq_true c], by simp, by rw [if_pos c]⟩
    · exact .inl ⟨by rw [decide_eq_false c], by simp, by rw [if_neg c]; omega⟩
  · obtain ⟨a, rfl⟩ := hj
    rw [List.take_length]
    simp [startD, wipeD, dsRet, dsRetN, dsIf, dsSeq, dsNext, dsAsg, dsDrop, dsBreak, dsCont, dsPar, dsAug, dsFrz, dsApp, dsExt, dsPut, dsAugO, dsOwn, dsParOO, dsParDO, dsParDDO, diR3, rdRepTz, dsFrzA, dxRep, diOwn, dsRaise, deAnd, deOr, deNot, de1, de2, deB, deX, dxB, dxLst, deName, deC, deCall, deIxO, deLenO, deTup, deLst, daCons, daNil, daStar, deChain, dtChain, dtV, dtAnd, dtOr, dtNot, dtYes, deIf, deSl, doNone, doSome, rdAdd, rdSub, rdMul, rdMod, rdDiv, rdPow, rdI, rdIc, rdB, rdLt, rdLe, rdGt, rdGe, rdNeg, rdIs, rdEq, rdNe, rdIx, rdIsN, rdNotN, rdIsB, rdNotB, rdRev, rdSeats, rdCatL, rdCatT, rdRepL, rdLen, rdTuple, rdList, rxList, rdInt, rdMax2, rdMin2, dgName, dgTup, dgCons, dgNil, deRefused, rdRepr, rdNeS, rdEqL, rdNeL, rdRepT, rdIsLn, noOwn, diSeq, diEn, diZp, diR1, diR2, noX,  eqOk_int, eqOk_bl, eqOk_non, eqv_int, eqv_bl, eqv_non, atI_0, atI_1, atI_2, atI_3, qty_non, qisI_non, qisB_non, qisL_non, qisU_non, qisS_non, qisD_non, qisNon_non, qcooked_non, qseq_non, qty_bl, qisI_bl, qisB_bl, qisL_bl, qisU_bl, qisS_bl, qisD_bl, qisNon_bl, qcooked_bl, qseq_bl, qty_int, qisI_int, qisB_int, qisL_int, qisU_int, qisS_int, qisD_int, qisNon_int, qcooked_int, qseq_int, qty_str, qisI_str, qisB_str, qisL_str, qisU_str, qisS_str, qisD_str, qisNon_str, qcooked_str, qseq_str, qty_lst, qisI_lst, qisB_lst, qisL_lst, qisU_lst, qisS_lst, qisD_lst, qisNon_lst, qcooked_lst, qseq_lst, qty_tup, qisI_tup, qisB_tup, qisL_tup, qisU_tup, qisS_tup, qisD_tup, qisNon_tup, qcooked_tup, qseq_tup, qty_dct, qisI_dct, qisB_dct, qisL_dct, qisU_dct, qisS_dct, qisD_dct, qisNon_dct, qcooked_dct, qseq_dct, qix_lst, qsl_lst, qix_tup, qsl_tup, qisNon_ln, qcooked_ln, and_assoc, exists_and_left, exists_eq_left, exists_eq_left', exists_eq_right]
    exact o
end
end K15
end
-- F_15_told_takings
section
set_option Elab.async false
set_option linter.all false
set_option maxRecDepth 100000
set_option maxHeartbeats 4000000
set_option autoImplicit false
namespace K15
open PySem PySem.Spec PyProof.Rows L2 Sd
section
variable {P : Program} {w : World} {K : PySem.W.Frag} {mg : Str → Option Value} {base : Heap}
theorem ok_told_takings (T : Txt K mg) {f : Addr} {fd : FuncData} (F : FnP K "told_takings" s_told_takings f fd) (c_told_taken : Cl P w K mg base 1 "told_taken" sp_told_taken [])  : FnOk P w K mg base (L2.CX P w) 2 f fd ["fares", "limits", "asked"] (spD K sp_told_takingsL) := by
  have sc := sc_told_takings
  refine fnD F sc (fun F ds O h => by
    obtain ⟨_, _, _, _, _, _, e, _⟩ := h
    rw [e] <;> rfl) (fun cdv A outer s G E ds O hr h hE => ⟨_, (pssd_one (psd_ret (pd_callB (cr_sum rfl) snd_sum T.b_sum (pad_cons (pd_x (pxd_lc (own := [(("one" : Str), 3), (("good" : Str), 4)]) sc.nd (pid_zp T.b_zip (pad_cons (pd_name (pv 2)) (pad_cons (pd_call c_told_taken hr (by first | decide | omega) (pad_cons (pd_name (pv 1)) (pad_cons (pd_name (pv 2)) pad_nil))) pad_nil))) (by kernel_rfl) (fun _ _ _ _ _ => (pgc_tup (n := 2) (pgcs_cons (pgc_name (i := 3) sc.nd rfl (by first | exact Or.inl rfl | exact Or.inr rfl) (by decide)) (pgcs_cons (pgc_name (i := 4) sc.nd rfl (by first | exact Or.inl rfl | exact Or.inr rfl) (by decide)) pgcs_nil)))) (fun _ _ _ _ _ => (ptsd_one (ptd_val (pd_name (pv 4))))) (fun _ _ _ _ _ => (pd_item (pd_name (pv 0)) (pd_name (pv 3)))))) pad_nil)))), ?_⟩)
  obtain ⟨ft, lt, at_, F, L, A, rfl, h⟩ := h
  obtain ⟨hf, h1, h2, hlen, hA, hl, o⟩ := h
  simp [startD, wipeD, dsRet, dsRetN, dsIf, dsSeq, dsNext, dsAsg, dsDrop, dsBreak, dsCont, dsPar, dsAug, dsFrz, dsApp, dsExt, dsPut, dsAugO, dsOwn, dsParOO, dsParDO, dsParDDO, diR3, rdRepTz, dsFrzA, dxRep, diOwn, dsRaise, deAnd, deOr, deNot, de1, de2, deB, deX, dxB, dxLst, deName, deC, deCall, deIxO, deLenO, deTup, deLst, daCons, daNil, daStar, deChain, dtChain, dtV, dtAnd, dtOr, dtNot, dtYes, deIf, deSl, doNone, doSome, rdAdd, rdSub, rdMul, rdMod, rdDiv, rdPow, rdI, rdIc, rdB, rdLt, rdLe, rdGt, rdGe, rdNeg, rdIs, rdEq, rdNe, rdIx, rdIsN, rdNotN, rdIsB, rdNotB, rdRev, rdSeats, rdCatL, rdCatT, rdRepL, rdLen, rdTuple, rdList, rxList, rdInt, rdMax2, rdMin2, dgName, dgTup, dgCons, dgNil, deRefused, rdRepr, rdNeS, rdEqL, rdNeL, rdRepT, rdIsLn, noOwn, diSeq, diEn, diZp, diR1, diR2, noX,  eqOk_int, eqOk_bl, eqOk_non, eqv_int, eqv_bl, eqv_non, atI_0, atI_1, atI_2, atI_3, qty_non, qisI_non, qisB_non, qisL_non, qisU_non, qisS_non, qisD_non, qisNon_non, qcooked_non, qseq_non, qty_bl, qisI_bl, qisB_bl, qisL_bl, qisU_bl, qisS_bl, qisD_bl, qisNon_bl, qcooked_bl, qseq_bl, qty_int, qisI_int, qisB_int, qisL_int, qisU_int, qisS_int, qisD_int, qisNon_int, qcooked_int, qseq_int, qty_str, qisI_str, qisB_str, qisL_str, qisU_str, qisS_str, qisD_str, qisNon_str, qcooked_str, qseq_str, qty_lst, qisI_lst, qisB_lst, qisL_lst, qisU_lst, qisS_lst, qisD_lst, qisNon_lst, qcooked_lst, qseq_lst, qty_tup, qisI_tup, qisB_tup, qisL_tup, qisU_tup, qisS_tup, qisD_tup, qisNon_tup, qcooked_tup, qseq_tup, qty_dct, qisI_dct, qisB_dct, qisL_dct, qisU_dct, qisS_dct, qisD_dct, qisNon_dct, qcooked_dct, qseq_dct, qix_lst, qsl_lst, qix_tup, qsl_tup, qisNon_ln, qcooked_ln, and_assoc, exists_and_left, exists_eq_left, exists_eq_left', exists_eq_right, sp_told_taken, dxLc_eq, dsFor_eq, rngD_0, rngD_eq, zipD_map, enumD_map0, h1, h2]
  refine ⟨L, rfl, A, rfl, hA, hl, ?_⟩
  refine lb_onF (A.zip (tookB L 0 A)) (fun p => .int (fa F p.1)) (·.2) (by rw [List.length_zip]; omega) (fun p hp R1 R2 r1 r2 => ?_) ?_
  · have hq := hA p.1 (List.of_mem_zip hp).1
    obtain ⟨q, g⟩ := p
    simp [startD, wipeD, dsRet, dsRetN, dsIf, dsSeq, dsNext, dsAsg, dsDrop, dsBreak, dsCont, dsPar, dsAug, dsFrz, dsApp, dsExt, dsPut, dsAugO, dsOwn, dsParOO, dsParDO, dsParDDO, diR3, rdRepTz, dsFrzA, dxRep, diOwn, dsRaise, deAnd, deOr, deNot, de1, de2, deB, deX, dxB, dxLst, deName, deC, deCall, deIxO, deLenO, deTup, deLst, daCons, daNil, daStar, deChain, dtChain, dtV, dtAnd, dtOr, dtNot, dtYes, deIf, deSl, doNone, doSome, rdAdd, rdSub, rdMul, rdMod, rdDiv, rdPow, rdI, rdIc, rdB, rdLt, rdLe, rdGt, rdGe, rdNeg, rdIs, rdEq, rdNe, rdIx, rdIsN, rdNotN, rdIsB, rdNotB, rdRev, rdSeats, rdCatL, rdCatT, rdRepL, rdLen, rdTuple, rdList, rxList, rdInt, rdMax2, rdMin2, dgName, dgTup, dgCons, dgNil, deRefused, rdRepr, rdNeS, rdEqL, rdNeL, rdRepT, rdIsLn, noOwn, diSeq, diEn, diZp, diR1, diR2, noX,  eqOk_int, eqOk_bl, eqOk_non, eqv_int, eqv_bl, eqv_non, atI_0, atI_1, atI_2, atI_3, qty_non, qisI_non, qisB_non, qisL_non, qisU_non, qisS_non, qisD_non, qisNon_non, qcooked_non, qseq_non, qty_bl, qisI_bl, qisB_bl, qisL_bl, qisU_bl, qisS_bl, qisD_bl, qisNon_bl, qcooked_bl, qseq_bl, qty_int, qisI_int, qisB_int, qisL_int, qisU_int, qisS_int, qisD_int, qisNon_int, qcooked_int, qseq_int, qty_str, qisI_str, qisB_str, qisL_str, qisU_str, qisS_str, qisD_str, qisNon_str, qcooked_str, qseq_str, qty_lst, qisI_lst, qisB_lst, qisL_lst, qisU_lst, qisS_lst, qisD_lst, qisNon_lst, qcooked_lst, qseq_lst, qty_tup, qisI_tup, qisB_tup, qisL_tup, qisU_tup, qisS_tup, qisD_tup, qisNon_tup, qcooked_tup, qseq_tup, qty_dct, qisI_dct, qisB_dct, qisL_dct, qisU_dct, qisS_dct, qisD_dct, qisNon_dct, qcooked_dct, qseq_dct, qix_lst, qsl_lst, qix_tup, qsl_tup, qisNon_ln, qcooked_ln, and_assoc, exists_and_left, exists_eq_left, exists_eq_left', exists_eq_right, sp_told_taken, dxLc_eq, dsFor_eq, rngD_0, rngD_eq, zipD_map, enumD_map0, ix_fa hf (show q < F.length by rw [hlen]; exact hq)]
    cases g with
    | false => exact .inl ⟨rfl, r2 rfl⟩
    | true => exact .inr ⟨rfl, r1 rfl⟩
  · have e : ((A.zip (tookB L 0 A)).filter (·.2)).map (fun p => D.int (fa F p.1)) = ((tookL L 0 A).map (fa F)).map D.int := by
      rw [← tookL_zip, List.map_map, List.map_map]
      rfl
    rw [e]
    exact ⟨_, rfl, o⟩
end
end K15
end
-- F_15_told_most
section
set_option Elab.async false
set_option linter.all false
set_option maxRecDepth 100000
set_option maxHeartbeats 4000000
set_option autoImplicit false
namespace K15
open PySem PySem.Spec PyProof.Rows L2 Sd
section
variable {P : Program} {w : World} {K : PySem.W.Frag} {mg : Str → Option Value} {base : Heap}
theorem ok_told_most (T : Txt K mg) {f : Addr} {fd : FuncData} (F : FnP K "told_most" s_told_most f fd)   : FnOk P w K mg base (L2.CX P w) 1 f fd ["n", "fares", "asked"] (spD K sp_told_most) := by
  have sc := sc_told_most
  refine fnD F sc (fun F ds O h => by
    obtain ⟨_, _, _, _, _, e, _⟩ := h
    rw [e] <;> rfl) (fun cdv A outer s G E ds O hr h hE => ⟨_, (pssd_one (psd_ret (pd_callB (cr_sum rfl) snd_sum T.b_sum (pad_cons (pd_slice (pd_rev (pd_callB cr_sortedI snd_sorted T.b_sorted (pad_cons (pd_x (pxd_lc (own := [(("one" : Str), 3)]) sc.nd (pid_seq (pd_name (pv 2))) (by kernel_rfl) (fun _ _ _ _ _ => (pgc_name (i := 3) sc.nd rfl (by first | exact Or.inl rfl | exact Or.inr rfl) (by decide))) (fun _ _ _ _ _ => ptsd_nil) (fun _ _ _ _ _ => (pd_item (pd_name (pv 1)) (pd_name (pv 3)))))) pad_nil))) pod_none (pod_some (pd_name (pv 0)))) pad_nil)))), ?_⟩)
  obtain ⟨n, ft, at_, F, A, rfl, h⟩ := h
  obtain ⟨hn, hf, h2, hA, hl, o⟩ := h
  simp [startD, wipeD, dsRet, dsRetN, dsIf, dsSeq, dsNext, dsAsg, dsDrop, dsBreak, dsCont, dsPar, dsAug, dsFrz, dsApp, dsExt, dsPut, dsAugO, dsOwn, dsParOO, dsParDO, dsParDDO, diR3, rdRepTz, dsFrzA, dxRep, diOwn, dsRaise, deAnd, deOr, deNot, de1, de2, deB, deX, dxB, dxLst, deName, deC, deCall, deIxO, deLenO, deTup, deLst, daCons, daNil, daStar, deChain, dtChain, dtV, dtAnd, dtOr, dtNot, dtYes, deIf, deSl, doNone, doSome, rdAdd, rdSub, rdMul, rdMod, rdDiv, rdPow, rdI, rdIc, rdB, rdLt, rdLe, rdGt, rdGe, rdNeg, rdIs, rdEq, rdNe, rdIx, rdIsN, rdNotN, rdIsB, rdNotB, rdRev, rdSeats, rdCatL, rdCatT, rdRepL, rdLen, rdTuple, rdList, rxList, rdInt, rdMax2, rdMin2, dgName, dgTup, dgCons, dgNil, deRefused, rdRepr, rdNeS, rdEqL, rdNeL, rdRepT, rdIsLn, noOwn, diSeq, diEn, diZp, diR1, diR2, noX,  eqOk_int, eqOk_bl, eqOk_non, eqv_int, eqv_bl, eqv_non, atI_0, atI_1, atI_2, atI_3, qty_non, qisI_non, qisB_non, qisL_non, qisU_non, qisS_non, qisD_non, qisNon_non, qcooked_non, qseq_non, qty_bl, qisI_bl, qisB_bl, qisL_bl, qisU_bl, qisS_bl, qisD_bl, qisNon_bl, qcooked_bl, qseq_bl, qty_int, qisI_int, qisB_int, qisL_int, qisU_int, qisS_int, qisD_int, qisNon_int, qcooked_int, qseq_int, qty_str, qisI_str, qisB_str, qisL_str, qisU_str, qisS_str, qisD_str, qisNon_str, qcooked_str, qseq_str, qty_lst, qisI_lst, qisB_lst, qisL_lst, qisU_lst, qisS_lst, qisD_lst, qisNon_lst, qcooked_lst, qseq_lst, qty_tup, qisI_tup, qisB_tup, qisL_tup, qisU_tup, qisS_tup, qisD_tup, qisNon_tup, qcooked_tup, qseq_tup, qty_dct, qisI_dct, qisB_dct, qisL_dct, qisU_dct, qisS_dct, qisD_dct, qisNon_dct, qcooked_dct, qseq_dct, qix_lst, qsl_lst, qix_tup, qsl_tup, qisNon_ln, qcooked_ln, and_assoc, exists_and_left, exists_eq_left, exists_eq_left', exists_eq_right, dxLc_eq, dsFor_eq, rngD_0, rngD_eq, zipD_map, enumD_map0, h2]
  refine lb_on A (fun q => .int (fa F q)) (by omega) (fun q hq R hR => ?_) ?_
  · simp [startD, wipeD, dsRet, dsRetN, dsIf, dsSeq, dsNext, dsAsg, dsDrop, dsBreak, dsCont, dsPar, dsAug, dsFrz, dsApp, dsExt, dsPut, dsAugO, dsOwn, dsParOO, dsParDO, dsParDDO, diR3, rdRepTz, dsFrzA, dxRep, diOwn, dsRaise, deAnd, deOr, deNot, de1, de2, deB, deX, dxB, dxLst, deName, deC, deCall, deIxO, deLenO, deTup, deLst, daCons, daNil, daStar, deChain, dtChain, dtV, dtAnd, dtOr, dtNot, dtYes, deIf, deSl, doNone, doSome, rdAdd, rdSub, rdMul, rdMod, rdDiv, rdPow, rdI, rdIc, rdB, rdLt, rdLe, rdGt, rdGe, rdNeg, rdIs, rdEq, rdNe, rdIx, rdIsN, rdNotN, rdIsB, rdNotB, rdRev, rdSeats, rdCatL, rdCatT, rdRepL, rdLen, rdTuple, rdList, rxList, rdInt, rdMax2, rdMin2, dgName, dgTup, dgCons, dgNil, deRefused, rdRepr, rdNeS, rdEqL, rdNeL, rdRepT, rdIsLn, noOwn, diSeq, diEn, diZp, diR1, diR2, noX,  eqOk_int, eqOk_bl, eqOk_non, eqv_int, eqv_bl, eqv_non, atI_0, atI_1, atI_2, atI_3, qty_non, qisI_non, qisB_non, qisL_non, qisU_non, qisS_non, qisD_non, qisNon_non, qcooked_non, qseq_non, qty_bl, qisI_bl, qisB_bl, qisL_bl, qisU_bl, qisS_bl, qisD_bl, qisNon_bl, qcooked_bl, qseq_bl, qty_int, qisI_int, qisB_int, qisL_int, qisU_int, qisS_int, qisD_int, qisNon_int, qcooked_int, qseq_int, qty_str, qisI_str, qisB_str, qisL_str, qisU_str, qisS_str, qisD_str, qisNon_str, qcooked_str, qseq_str, qty_lst, qisI_lst, qisB_lst, qisL_lst, qisU_lst, qisS_lst, qisD_lst, qisNon_lst, qcooked_lst, qseq_lst, qty_tup, qisI_tup, qisB_tup, qisL_tup, qisU_tup, qisS_tup, qisD_tup, qisNon_tup, qcooked_tup, qseq_tup, qty_dct, qisI_dct, qisB_dct, qisL_dct, qisU_dct, qisS_dct, qisD_dct, qisNon_dct, qcooked_dct, qseq_dct, qix_lst, qsl_lst, qix_tup, qsl_tup, qisNon_ln, qcooked_ln, and_assoc, exists_and_left, exists_eq_left, exists_eq_left', exists_eq_right, dxLc_eq, dsFor_eq, rngD_0, rngD_eq, zipD_map, enumD_map0, ix_fa hf (hA q hq)]
    exact hR
  · rw [fares_of]
    refine ⟨_, rfl, fun ns hp hs => ⟨_, rfl, ns.reverse.take n, ?_, ?_⟩⟩
    · rw [cut_toK, List.map_take, List.map_reverse]
    · rw [most_of hp hs]
      exact o
end
end K15
end
-- F_15_taken
section
set_option Elab.async false
set_option linter.all false
set_option maxRecDepth 100000
set_option maxHeartbeats 4000000
set_option autoImplicit false
namespace K15
open PySem PySem.Spec PyProof.Rows L2 Sd
section
variable {P : Program} {w : World} {K : PySem.W.Frag} {mg : Str → Option Value} {base : Heap}
theorem ok_taken (T : Txt K mg) {f : Addr} {fd : FuncData} (F : FnP K "taken" s_taken f fd) (c_check_asked : Cl P w K mg base 3 "check_asked" sp_check_asked []) (c_check_limits : Cl P w K mg base 4 "check_limits" sp_check_limits []) (c_told_taken : Cl P w K mg base 1 "told_taken" sp_told_taken [])  : FnOk P w K mg base (L2.CX P w) 5 f fd ["n", "fares", "limits", "asked"] (spD K sp_taken) := by
  have sc := sc_taken
  refine fnD F sc (fun F ds O h => by
    obtain ⟨_, _, _, _, e, _⟩ := h
    rw [e] <;> rfl) (fun cdv A outer s G E ds O hr h hE => ⟨_, (pssd_cons (psd_drop (pd_callX c_check_limits hr (by first | decide | omega) hE (passes_call (takes_of rfl rfl rfl rfl) (fun _ _ _ _ z => z)) (pad_cons (pd_name (pv 0)) (pad_cons (pd_name (pv 1)) (pad_cons (pd_name (pv 2)) pad_nil)))))
  (pssd_cons (psd_drop (pd_callX c_check_asked hr (by first | decide | omega) hE (passes_call (takes_of rfl rfl rfl rfl) (fun _ _ _ _ z => z)) (pad_cons (pd_name (pv 1)) (pad_cons (pd_name (pv 3)) pad_nil))))
  (pssd_one (psd_ret (pd_call c_told_taken hr (by first | decide | omega) (pad_cons (pd_name (pv 2)) (pad_cons (pd_name (pv 3)) pad_nil))))))), ?_⟩)
  obtain ⟨n, t, l, a, rfl, h⟩ := h
  obtain ⟨hn, ht, hl, ha, o1, o2, o3⟩ := h
  simp [startD, wipeD, dsRet, dsRetN, dsIf, dsSeq, dsNext, dsAsg, dsDrop, dsBreak, dsCont, dsPar, dsAug, dsFrz, dsApp, dsExt, dsPut, dsAugO, dsOwn, dsParOO, dsParDO, dsParDDO, diR3, rdRepTz, dsFrzA, dxRep, diOwn, dsRaise, deAnd, deOr, deNot, de1, de2, deB, deX, dxB, dxLst, deName, deC, deCall, deIxO, deLenO, deTup, deLst, daCons, daNil, daStar, deChain, dtChain, dtV, dtAnd, dtOr, dtNot, dtYes, deIf, deSl, doNone, doSome, rdAdd, rdSub, rdMul, rdMod, rdDiv, rdPow, rdI, rdIc, rdB, rdLt, rdLe, rdGt, rdGe, rdNeg, rdIs, rdEq, rdNe, rdIx, rdIsN, rdNotN, rdIsB, rdNotB, rdRev, rdSeats, rdCatL, rdCatT, rdRepL, rdLen, rdTuple, rdList, rxList, rdInt, rdMax2, rdMin2, dgName, dgTup, dgCons, dgNil, deRefused, rdRepr, rdNeS, rdEqL, rdNeL, rdRepT, rdIsLn, noOwn, diSeq, diEn, diZp, diR1, diR2, noX,  eqOk_int, eqOk_bl, eqOk_non, eqv_int, eqv_bl, eqv_non, atI_0, atI_1, atI_2, atI_3, qty_non, qisI_non, qisB_non, qisL_non, qisU_non, qisS_non, qisD_non, qisNon_non, qcooked_non, qseq_non, qty_bl, qisI_bl, qisB_bl, qisL_bl, qisU_bl, qisS_bl, qisD_bl, qisNon_bl, qcooked_bl, qseq_bl, qty_int, qisI_int, qisB_int, qisL_int, qisU_int, qisS_int, qisD_int, qisNon_int, qcooked_int, qseq_int, qty_str, qisI_str, qisB_str, qisL_str, qisU_str, qisS_str, qisD_str, qisNon_str, qcooked_str, qseq_str, qty_lst, qisI_lst, qisB_lst, qisL_lst, qisU_lst, qisS_lst, qisD_lst, qisNon_lst, qcooked_lst, qseq_lst, qty_tup, qisI_tup, qisB_tup, qisL_tup, qisU_tup, qisS_tup, qisD_tup, qisNon_tup, qcooked_tup, qseq_tup, qty_dct, qisI_dct, qisB_dct, qisL_dct, qisU_dct, qisS_dct, qisD_dct, qisNon_dct, qcooked_dct, qseq_dct, qix_lst, qsl_lst, qix_tup, qsl_tup, qisNon_ln, qcooked_ln, and_assoc, exists_and_left, exists_eq_left, exists_eq_left', exists_eq_right, sp_check_asked, sp_check_limits, sp_told_taken, dxLc_eq, dsFor_eq, rngD_0, rngD_eq, zipD_map, enumD_map0, spFares, spLims, spAsked]
  refine ⟨hn, ht, hl, o1, o2, fun a1 a2 => ⟨(o3 a1 a2).1, fun a3 => ⟨ht, ha, a2, ((o3 a1 a2).2 a3).1, fun a4 => ?_⟩⟩⟩
  obtain ⟨L, A, h1, h2, h3, h4, o⟩ := ((o3 a1 a2).2 a3).2 a4
  exact ⟨L, h1, A, h2, h3, h4, o⟩
end
end K15
end
-- F_15_asked_takings
section
set_option Elab.async false
set_option linter.all false
set_option maxRecDepth 100000
set_option maxHeartbeats 4000000
set_option autoImplicit false
namespace K15
open PySem PySem.Spec PyProof.Rows L2 Sd
section
variable {P : Program} {w : World} {K : PySem.W.Frag} {mg : Str → Option Value} {base : Heap}
theorem ok_asked_takings (T : Txt K mg) {f : Addr} {fd : FuncData} (F : FnP K "asked_takings" s_asked_takings f fd) (c_check_asked : Cl P w K mg base 3 "check_asked" sp_check_asked []) (c_check_limits : Cl P w K mg base 4 "check_limits" sp_check_limits []) (c_told_takings : Cl P w K mg base 2 "told_takings" sp_told_takingsL [])  : FnOk P w K mg base (L2.CX P w) 5 f fd ["n", "fares", "limits", "asked"] (spD K sp_asked_takings) := by
  have sc := sc_asked_takings
  refine fnD F sc (fun F ds O h => by
    obtain ⟨_, _, _, _, e, _⟩ := h
    rw [e] <;> rfl) (fun cdv A outer s G E ds O hr h hE => ⟨_, (pssd_cons (psd_drop (pd_callX c_check_limits hr (by first | decide | omega) hE (passes_call (takes_of rfl rfl rfl rfl) (fun _ _ _ _ z => z)) (pad_cons (pd_name (pv 0)) (pad_cons (pd_name (pv 1)) (pad_cons (pd_name (pv 2)) pad_nil)))))
  (pssd_cons (psd_drop (pd_callX c_check_asked hr (by first | decide | omega) hE (passes_call (takes_of rfl rfl rfl rfl) (fun _ _ _ _ z => z)) (pad_cons (pd_name (pv 1)) (pad_cons (pd_name (pv 3)) pad_nil))))
  (pssd_one (psd_ret (pd_call c_told_takings hr (by first | decide | omega) (pad_cons (pd_name (pv 1)) (pad_cons (pd_name (pv 2)) (pad_cons (pd_name (pv 3)) pad_nil)))))))), ?_⟩)
  obtain ⟨n, t, l, a, rfl, h⟩ := h
  obtain ⟨hn, ht, hl, ha, o1, o2, o3⟩ := h
  simp [startD, wipeD, dsRet, dsRetN, dsIf, dsSeq, dsNext, dsAsg, dsDrop, dsBreak, dsCont, dsPar, dsAug, dsFrz, dsApp, dsExt, dsPut, dsAugO, dsOwn, dsParOO, dsParDO, dsParDDO, diR3, rdRepTz, dsFrzA, dxRep, diOwn, dsRaise, deAnd, deOr, deNot, de1, de2, deB, deX, dxB, dxLst, deName, deC, deCall, deIxO, deLenO, deTup, deLst, daCons, daNil, daStar, deChain, dtChain, dtV, dtAnd, dtOr, dtNot, dtYes, deIf, deSl, doNone, doSome, rdAdd, rdSub, rdMul, rdMod, rdDiv, rdPow, rdI, rdIc, rdB, rdLt, rdLe, rdGt, rdGe, rdNeg, rdIs, rdEq, rdNe, rdIx, rdIsN, rdNotN, rdIsB, rdNotB, rdRev, rdSeats, rdCatL, rdCatT, rdRepL, rdLen, rdTuple, rdList, rxList, rdInt, rdMax2, rdMin2, dgName, dgTup, dgCons, dgNil, deRefused, rdRepr, rdNeS, rdEqL, rdNeL, rdRepT, rdIsLn, noOwn, diSeq, diEn, diZp, diR1, diR2, noX,  eqOk_int, eqOk_bl, eqOk_non, eqv_int, eqv_bl, eqv_non, atI_0, atI_1, atI_2, atI_3, qty_non, qisI_non, qisB_non, qisL_non, qisU_non, qisS_non, qisD_non, qisNon_non, qcooked_non, qseq_non, qty_bl, qisI_bl, qisB_bl, qisL_bl, qisU_bl, qisS_bl, qisD_bl, qisNon_bl, qcooked_bl, qseq_bl, qty_int, qisI_int, qisB_int, qisL_int, qisU_int, qisS_int, qisD_int, qisNon_int, qcooked_int, qseq_int, qty_str, qisI_str, qisB_str, qisL_str, qisU_str, qisS_str, qisD_str, qisNon_str, qcooked_str, qseq_str, qty_lst, qisI_lst, qisB_lst, qisL_lst, qisU_lst, qisS_lst, qisD_lst, qisNon_lst, qcooked_lst, qseq_lst, qty_tup, qisI_tup, qisB_tup, qisL_tup, qisU_tup, qisS_tup, qisD_tup, qisNon_tup, qcooked_tup, qseq_tup, qty_dct, qisI_dct, qisB_dct, qisL_dct, qisU_dct, qisS_dct, qisD_dct, qisNon_dct, qcooked_dct, qseq_dct, qix_lst, qsl_lst, qix_tup, qsl_tup, qisNon_ln, qcooked_ln, and_assoc, exists_and_left, exists_eq_left, exists_eq_left', exists_eq_right, sp_check_asked, sp_check_limits, sp_told_takingsL, dxLc_eq, dsFor_eq, rngD_0, rngD_eq, zipD_map, enumD_map0, spFares, spLims, spAsked]
  refine ⟨hn, ht, hl, o1, o2, fun a1 a2 => ⟨(o3 a1 a2).1, fun a3 => ⟨ht, ha, a2, ((o3 a1 a2).2 a3).1, fun a4 => ?_⟩⟩⟩
  obtain ⟨F, L, A, h0, h1, h2, h5, h3, h4, o⟩ := ((o3 a1 a2).2 a3).2 a4
  exact ⟨F, h0, L, h1, A, h2, h5, h3, h4, o⟩
end
end K15
end
-- F_15_best_asked
section
set_option Elab.async false
set_option linter.all false
set_option maxRecDepth 100000
set_option maxHeartbeats 4000000
set_option autoImplicit false
namespace K15
open PySem PySem.Spec PyProof.Rows L2 Sd
section
variable {P : Program} {w : World} {K : PySem.W.Frag} {mg : Str → Option Value} {base : Heap}
theorem ok_best_asked (T : Txt K mg) {f : Addr} {fd : FuncData} (F : FnP K "best_asked" s_best_asked f fd) (c_check_asked : Cl P w K mg base 3 "check_asked" sp_check_asked []) (c_check_fares : Cl P w K mg base 3 "check_fares" sp_check_fares []) (c_told_most : Cl P w K mg base 1 "told_most" sp_told_most [])  : FnOk P w K mg base (L2.CX P w) 4 f fd ["n", "fares", "asked"] (spD K sp_best_asked) := by
  have sc := sc_best_asked
  refine fnD F sc (fun F ds O h => by
    obtain ⟨_, _, _, e, _⟩ := h
    rw [e] <;> rfl) (fun cdv A outer s G E ds O hr h hE => ⟨_, (pssd_cons (psd_drop (pd_callX c_check_fares hr (by first | decide | omega) hE (passes_call (takes_of rfl rfl rfl rfl) (fun _ _ _ _ z => z)) (pad_cons (pd_name (pv 0)) (pad_cons (pd_name (pv 1)) pad_nil))))
  (pssd_cons (psd_drop (pd_callX c_check_asked hr (by first | decide | omega) hE (passes_call (takes_of rfl rfl rfl rfl) (fun _ _ _ _ z => z)) (pad_cons (pd_name (pv 1)) (pad_cons (pd_name (pv 2)) pad_nil))))
  (pssd_one (psd_ret (pd_call c_told_most hr (by first | decide | omega) (pad_cons (pd_name (pv 0)) (pad_cons (pd_name (pv 1)) (pad_cons (pd_name (pv 2)) pad_nil)))))))), ?_⟩)
  obtain ⟨n, t, a, rfl, h⟩ := h
  obtain ⟨hn, ht, ha, o1, o2, o3⟩ := h
  simp [startD, wipeD, dsRet, dsRetN, dsIf, dsSeq, dsNext, dsAsg, dsDrop, dsBreak, dsCont, dsPar, dsAug, dsFrz, dsApp, dsExt, dsPut, dsAugO, dsOwn, dsParOO, dsParDO, dsParDDO, diR3, rdRepTz, dsFrzA, dxRep, diOwn, dsRaise, deAnd, deOr, deNot, de1, de2, deB, deX, dxB, dxLst, deName, deC, deCall, deIxO, deLenO, deTup, deLst, daCons, daNil, daStar, deChain, dtChain, dtV, dtAnd, dtOr, dtNot, dtYes, deIf, deSl, doNone, doSome, rdAdd, rdSub, rdMul, rdMod, rdDiv, rdPow, rdI, rdIc, rdB, rdLt, rdLe, rdGt, rdGe, rdNeg, rdIs, rdEq, rdNe, rdIx, rdIsN, rdNotN, rdIsB, rdNotB, rdRev, rdSeats, rdCatL, rdCatT, rdRepL, rdLen, rdTuple, rdList, rxList, rdInt, rdMax2, rdMin2, dgName, dgTup, dgCons, dgNil, deRefused, rdRepr, rdNeS, rdEqL, rdNeL, rdRepT, rdIsLn, noOwn, diSeq, diEn, diZp, diR1, diR2, noX,  eqOk_int, eqOk_bl, eqOk_non, eqv_int, eqv_bl, eqv_non, atI_0, atI_1, atI_2, atI_3, qty_non, qisI_non, qisB_non, qisL_non, qisU_non, qisS_non, qisD_non, qisNon_non, qcooked_non, qseq_non, qty_bl, qisI_bl, qisB_bl, qisL_bl, qisU_bl, qisS_bl, qisD_bl, qisNon_bl, qcooked_bl, qseq_bl, qty_int, qisI_int, qisB_int, qisL_int, qisU_int, qisS_int, qisD_int, qisNon_int, qcooked_int, qseq_int, qty_str, qisI_str, qisB_str, qisL_str, qisU_str, qisS_str, qisD_str, qisNon_str, qcooked_str, qseq_str, qty_lst, qisI_lst, qisB_lst, qisL_lst, qisU_lst, qisS_lst, qisD_lst, qisNon_lst, qcooked_lst, qseq_lst, qty_tup, qisI_tup, qisB_tup, qisL_tup, qisU_tup, qisS_tup, qisD_tup, qisNon_tup, qcooked_tup, qseq_tup, qty_dct, qisI_dct, qisB_dct, qisL_dct, qisU_dct, qisS_dct, qisD_dct, qisNon_dct, qcooked_dct, qseq_dct, qix_lst, qsl_lst, qix_tup, qsl_tup, qisNon_ln, qcooked_ln, and_assoc, exists_and_left, exists_eq_left, exists_eq_left', exists_eq_right, sp_check_asked, sp_check_fares, sp_told_most, dxLc_eq, dsFor_eq, rngD_0, rngD_eq, zipD_map, enumD_map0, spFares, spLims, spAsked]
  refine ⟨hn, ht, o1, o2, fun a1 a2 => ⟨ht, ha, a2, (o3 a1 a2).1, fun a4 => ?_⟩⟩
  obtain ⟨N, F, A, h0, h1, h2, h5, h3, h4, o⟩ := (o3 a1 a2).2 a4
  exact ⟨N, h0, h1, F, h2, A, h5, h3, h4, o⟩
end
end K15
end
-- F_15_told_flood
section
set_option Elab.async false
set_option linter.all false
set_option maxRecDepth 100000
set_option maxHeartbeats 4000000
set_option autoImplicit false
namespace K15
open PySem PySem.Spec PyProof.Rows L2 Sd
section
variable {P : Program} {w : World} {K : PySem.W.Frag} {mg : Str → Option Value} {base : Heap}
theorem ok_told_flood (T : Txt K mg) {f : Addr} {fd : FuncData} (F : FnP K "told_flood" s_told_flood f fd)   : FnOk P w K mg base (L2.CX P w) 1 f fd ["n", "fares", "last"] (spD K sp_told_flood) := by
  have sc := sc_told_flood
  refine fnD F sc (fun F ds O h => by
    obtain ⟨_, _, _, _, e, _⟩ := h
    rw [e] <;> rfl) (fun cdv A outer s G E ds O hr h hE => ⟨_, (pssd_cons (psd_own (i := 3) sc.nd rfl (Or.inl rfl) (pxd_lst pad_nil))
  (pssd_cons (psd_for (passes_of rfl) (pid_r3 T.b_range (pad_cons (pd_sub (pd_callB call_len_seq snd_len T.b_len (pad_cons (pd_name (pv 1)) pad_nil)) pd_int) (pad_cons (pd_sub (pd_name (pv 2)) pd_int) (pad_cons (pd_neg pd_int) pad_nil)))) (pgd_name (i := 4) sc.nd rfl (Or.inr rfl))
  (pssd_one (psd_ext (i := 3) (pv 3) (pd_x (pxd_lc (own := [(("_" : Str), 5)]) sc.nd (pid_r1 T.b_range (pad_cons (pd_name (pv 0)) pad_nil)) (by kernel_rfl) (fun _ _ _ _ _ => (pgc_name (i := 5) sc.nd rfl (by first | exact Or.inl rfl | exact Or.inr rfl) (by decide))) (fun _ _ _ _ _ => ptsd_nil) (fun _ _ _ _ _ => (pd_name (pv 4))))))))
  (pssd_one (psd_frz 3 (psd_ret (pd_name (pv 3))))))), ?_⟩)
  obtain ⟨n, ft, fs, k, rfl, h⟩ := h
  obtain ⟨hn, hf, h4, hk, o⟩ := h
  simp [startD, wipeD, dsRet, dsRetN, dsIf, dsSeq, dsNext, dsAsg, dsDrop, dsBreak, dsCont, dsPar, dsAug, dsFrz, dsApp, dsExt, dsPut, dsAugO, dsOwn, dsParOO, dsParDO, dsParDDO, diR3, rdRepTz, dsFrzA, dxRep, diOwn, dsRaise, deAnd, deOr, deNot, de1, de2, deB, deX, dxB, dxLst, deName, deC, deCall, deIxO, deLenO, deTup, deLst, daCons, daNil, daStar, deChain, dtChain, dtV, dtAnd, dtOr, dtNot, dtYes, deIf, deSl, doNone, doSome, rdAdd, rdSub, rdMul, rdMod, rdDiv, rdPow, rdI, rdIc, rdB, rdLt, rdLe, rdGt, rdGe, rdNeg, rdIs, rdEq, rdNe, rdIx, rdIsN, rdNotN, rdIsB, rdNotB, rdRev, rdSeats, rdCatL, rdCatT, rdRepL, rdLen, rdTuple, rdList, rxList, rdInt, rdMax2, rdMin2, dgName, dgTup, dgCons, dgNil, deRefused, rdRepr, rdNeS, rdEqL, rdNeL, rdRepT, rdIsLn, noOwn, diSeq, diEn, diZp, diR1, diR2, noX,  eqOk_int, eqOk_bl, eqOk_non, eqv_int, eqv_bl, eqv_non, atI_0, atI_1, atI_2, atI_3, qty_non, qisI_non, qisB_non, qisL_non, qisU_non, qisS_non, qisD_non, qisNon_non, qcooked_non, qseq_non, qty_bl, qisI_bl, qisB_bl, qisL_bl, qisU_bl, qisS_bl, qisD_bl, qisNon_bl, qcooked_bl, qseq_bl, qty_int, qisI_int, qisB_int, qisL_int, qisU_int, qisS_int, qisD_int, qisNon_int, qcooked_int, qseq_int, qty_str, qisI_str, qisB_str, qisL_str, qisU_str, qisS_str, qisD_str, qisNon_str, qcooked_str, qseq_str, qty_lst, qisI_lst, qisB_lst, qisL_lst, qisU_lst, qisS_lst, qisD_lst, qisNon_lst, qcooked_lst, qseq_lst, qty_tup, qisI_tup, qisB_tup, qisL_tup, qisU_tup, qisS_tup, qisD_tup, qisNon_tup, qcooked_tup, qseq_tup, qty_dct, qisI_dct, qisB_dct, qisL_dct, qisU_dct, qisS_dct, qisD_dct, qisNon_dct, qcooked_dct, qseq_dct, qix_lst, qsl_lst, qix_tup, qsl_tup, qisNon_ln, qcooked_ln, and_assoc, exists_and_left, exists_eq_left, exists_eq_left', exists_eq_right, dxLc_eq, dsFor_eq, rngD_0, rngD_eq, zipD_map, enumD_map0, hf]
  refine ⟨by omega, by omega, by omega, by omega, ?_⟩
  rw [show ((fs.length : Int) - 1 - ((k : Int) - 1)).toNat = fs.length - k by omega, downD_nat (by omega)]
  refine fb_on (List.range (fs.length - k)) (fun i δ' => ∃ a b : Sl, δ' = [.dat (.int (n : Int)), .dat ft, .dat (.int (k : Int)), .own ((flP n fs.length i).map natD), a, b]) ⟨_, _, rfl⟩ (fun i x δ' hi hj => ?_) (fun δ' hj => ?_)
  · obtain ⟨a, b, rfl⟩ := hj
    obtain ⟨hi1, rfl⟩ := range_at hi
    simp [startD, wipeD, dsRet, dsRetN, dsIf, dsSeq, dsNext, dsAsg, dsDrop, dsBreak, dsCont, dsPar, dsAug, dsFrz, dsApp, dsExt, dsPut, dsAugO, dsOwn, dsParOO, dsParDO, dsParDDO, diR3, rdRepTz, dsFrzA, dxRep, diOwn, dsRaise, deAnd, deOr, deNot, de1, de2, deB, deX, dxB, dxLst, deName, deC, deCall, deIxO, deLenO, deTup, deLst, daCons, daNil, daStar, deChain, dtChain, dtV, dtAnd, dtOr, dtNot, dtYes, deIf, deSl, doNone, doSome, rdAdd, rdSub, rdMul, rdMod, rdDiv, rdPow, rdI, rdIc, rdB, rdLt, rdLe, rdGt, rdGe, rdNeg, rdIs, rdEq, rdNe, rdIx, rdIsN, rdNotN, rdIsB, rdNotB, rdRev, rdSeats, rdCatL, rdCatT, rdRepL, rdLen, rdTuple, rdList, rxList, rdInt, rdMax2, rdMin2, dgName, dgTup, dgCons, dgNil, deRefused, rdRepr, rdNeS, rdEqL, rdNeL, rdRepT, rdIsLn, noOwn, diSeq, diEn, diZp, diR1, diR2, noX,  eqOk_int, eqOk_bl, eqOk_non, eqv_int, eqv_bl, eqv_non, atI_0, atI_1, atI_2, atI_3, qty_non, qisI_non, qisB_non, qisL_non, qisU_non, qisS_non, qisD_non, qisNon_non, qcooked_non, qseq_non, qty_bl, qisI_bl, qisB_bl, qisL_bl, qisU_bl, qisS_bl, qisD_bl, qisNon_bl, qcooked_bl, qseq_bl, qty_int, qisI_int, qisB_int, qisL_int, qisU_int, qisS_int, qisD_int, qisNon_int, qcooked_int, qseq_int, qty_str, qisI_str, qisB_str, qisL_str, qisU_str, qisS_str, qisD_str, qisNon_str, qcooked_str, qseq_str, qty_lst, qisI_lst, qisB_lst, qisL_lst, qisU_lst, qisS_lst, qisD_lst, qisNon_lst, qcooked_lst, qseq_lst, qty_tup, qisI_tup, qisB_tup, qisL_tup, qisU_tup, qisS_tup, qisD_tup, qisNon_tup, qcooked_tup, qseq_tup, qty_dct, qisI_dct, qisB_dct, qisL_dct, qisU_dct, qisS_dct, qisD_dct, qisNon_dct, qcooked_dct, qseq_dct, qix_lst, qsl_lst, qix_tup, qsl_tup, qisNon_ln, qcooked_ln, and_assoc, exists_and_left, exists_eq_left, exists_eq_left', exists_eq_right, dxLc_eq, dsFor_eq, rngD_0, rngD_eq, zipD_map, enumD_map0]
    refine ⟨by omega, lb_on (List.range n) (fun _ => natD (fs.length - 1 - x)) (by simp; omega) (fun q hq R hR => ?_) ?_⟩
    · simp [startD, wipeD, dsRet, dsRetN, dsIf, dsSeq, dsNext, dsAsg, dsDrop, dsBreak, dsCont, dsPar, dsAug, dsFrz, dsApp, dsExt, dsPut, dsAugO, dsOwn, dsParOO, dsParDO, dsParDDO, diR3, rdRepTz, dsFrzA, dxRep, diOwn, dsRaise, deAnd, deOr, deNot, de1, de2, deB, deX, dxB, dxLst, deName, deC, deCall, deIxO, deLenO, deTup, deLst, daCons, daNil, daStar, deChain, dtChain, dtV, dtAnd, dtOr, dtNot, dtYes, deIf, deSl, doNone, doSome, rdAdd, rdSub, rdMul, rdMod, rdDiv, rdPow, rdI, rdIc, rdB, rdLt, rdLe, rdGt, rdGe, rdNeg, rdIs, rdEq, rdNe, rdIx, rdIsN, rdNotN, rdIsB, rdNotB, rdRev, rdSeats, rdCatL, rdCatT, rdRepL, rdLen, rdTuple, rdList, rxList, rdInt, rdMax2, rdMin2, dgName, dgTup, dgCons, dgNil, deRefused, rdRepr, rdNeS, rdEqL, rdNeL, rdRepT, rdIsLn, noOwn, diSeq, diEn, diZp, diR1, diR2, noX,  eqOk_int, eqOk_bl, eqOk_non, eqv_int, eqv_bl, eqv_non, atI_0, atI_1, atI_2, atI_3, qty_non, qisI_non, qisB_non, qisL_non, qisU_non, qisS_non, qisD_non, qisNon_non, qcooked_non, qseq_non, qty_bl, qisI_bl, qisB_bl, qisL_bl, qisU_bl, qisS_bl, qisD_bl, qisNon_bl, qcooked_bl, qseq_bl, qty_int, qisI_int, qisB_int, qisL_int, qisU_int, qisS_int, qisD_int, qisNon_int, qcooked_int, qseq_int, qty_str, qisI_str, qisB_str, qisL_str, qisU_str, qisS_str, qisD_str, qisNon_str, qcooked_str, qseq_str, qty_lst, qisI_lst, qisB_lst, qisL_lst, qisU_lst, qisS_lst, qisD_lst, qisNon_lst, qcooked_lst, qseq_lst, qty_tup, qisI_tup, qisB_tup, qisL_tup, qisU_tup, qisS_tup, qisD_tup, qisNon_tup, qcooked_tup, qseq_tup, qty_dct, qisI_dct, qisB_dct, qisL_dct, qisU_dct, qisS_dct, qisD_dct, qisNon_dct, qcooked_dct, qseq_dct, qix_lst, qsl_lst, qix_tup, qsl_tup, qisNon_ln, qcooked_ln, and_assoc, exists_and_left, exists_eq_left, exists_eq_left', exists_eq_right]
      exact hR
    · have e1 : ((List.range n).map fun _ => natD (fs.length - 1 - x)) = (List.replicate n (fs.length - 1 - x)).map natD := by
        rw [List.map_const', List.length_range, List.map_replicate]
      have hlen := flP_len n fs.length x
      have hmul : n * x ≤ 12 * 4 := Nat.mul_le_mul hn (by omega)
      rw [e1]
      refine ⟨by simp; omega, ?_⟩
      rw [flP_succ, List.map_append]
  · obtain ⟨a, b, rfl⟩ := hj
    rw [List.length_range]
    simp [startD, wipeD, dsRet, dsRetN, dsIf, dsSeq, dsNext, dsAsg, dsDrop, dsBreak, dsCont, dsPar, dsAug, dsFrz, dsApp, dsExt, dsPut, dsAugO, dsOwn, dsParOO, dsParDO, dsParDDO, diR3, rdRepTz, dsFrzA, dxRep, diOwn, dsRaise, deAnd, deOr, deNot, de1, de2, deB, deX, dxB, dxLst, deName, deC, deCall, deIxO, deLenO, deTup, deLst, daCons, daNil, daStar, deChain, dtChain, dtV, dtAnd, dtOr, dtNot, dtYes, deIf, deSl, doNone, doSome, rdAdd, rdSub, rdMul, rdMod, rdDiv, rdPow, rdI, rdIc, rdB, rdLt, rdLe, rdGt, rdGe, rdNeg, rdIs, rdEq, rdNe, rdIx, rdIsN, rdNotN, rdIsB, rdNotB, rdRev, rdSeats, rdCatL, rdCatT, rdRepL, rdLen, rdTuple, rdList, rxList, rdInt, rdMax2, rdMin2, dgName, dgTup, dgCons, dgNil, deRefused, rdRepr, rdNeS, rdEqL, rdNeL, rdRepT, rdIsLn, noOwn, diSeq, diEn, diZp, diR1, diR2, noX,  eqOk_int, eqOk_bl, eqOk_non, eqv_int, eqv_bl, eqv_non, atI_0, atI_1, atI_2, atI_3, qty_non, qisI_non, qisB_non, qisL_non, qisU_non, qisS_non, qisD_non, qisNon_non, qcooked_non, qseq_non, qty_bl, qisI_bl, qisB_bl, qisL_bl, qisU_bl, qisS_bl, qisD_bl, qisNon_bl, qcooked_bl, qseq_bl, qty_int, qisI_int, qisB_int, qisL_int, qisU_int, qisS_int, qisD_int, qisNon_int, qcooked_int, qseq_int, qty_str, qisI_str, qisB_str, qisL_str, qisU_str, qisS_str, qisD_str, qisNon_str, qcooked_str, qseq_str, qty_lst, qisI_lst, qisB_lst, qisL_lst, qisU_lst, qisS_lst, qisD_lst, qisNon_lst, qcooked_lst, qseq_lst, qty_tup, qisI_tup, qisB_tup, qisL_tup, qisU_tup, qisS_tup, qisD_tup, qisNon_tup, qcooked_tup, qseq_tup, qty_dct, qisI_dct, qisB_dct, qisL_dct, qisU_dct, qisS_dct, qisD_dct, qisNon_dct, qcooked_dct, qseq_dct, qix_lst, qsl_lst, qix_tup, qsl_tup, qisNon_ln, qcooked_ln, and_assoc, exists_and_left, exists_eq_left, exists_eq_left', exists_eq_right]
    exact o
end
end K15
end
-- F_15_flood_share
section
set_option Elab.async false
set_option linter.all false
set_option maxRecDepth 100000
set_option maxHeartbeats 4000000
set_option autoImplicit false
namespace K15
open PySem PySem.Spec PyProof.Rows L2 Sd
section
variable {P : Program} {w : World} {K : PySem.W.Frag} {mg : Str → Option Value} {base : Heap}
theorem ok_flood_share (T : Txt K mg) {f : Addr} {fd : FuncData} (F : FnP K "flood_share" s_flood_share f fd) (c_lowest : Cl P w K mg base 1 "lowest" sp_lowest []) (c_told_flood : Cl P w K mg base 1 "told_flood" sp_told_flood []) (c_told_most : Cl P w K mg base 1 "told_most" sp_told_most []) (c_told_takings : Cl P w K mg base 2 "told_takings" sp_told_takingsL [])  : FnOk P w K mg base (L2.CX P w) 3 f fd ["n", "fares", "limits", "last"] (spD K sp_flood_share) := by
  have sc := sc_flood_share
  refine fnD F sc (fun F ds O h => by
    obtain ⟨_, _, _, _, _, _, e, _⟩ := h
    rw [e] <;> rfl) (fun cdv A outer s G E ds O hr h hE => ⟨_, (pssd_cons (psd_set (i := 4) sc.nd rfl (Or.inl rfl) (pd_call c_told_flood hr (by first | decide | omega) (pad_cons (pd_name (pv 0)) (pad_cons (pd_name (pv 1)) (pad_cons (pd_name (pv 3)) pad_nil)))))
  (pssd_one (psd_ret (pd_call c_lowest hr (by first | decide | omega) (pad_cons (pd_call c_told_takings hr (by first | decide | omega) (pad_cons (pd_name (pv 1)) (pad_cons (pd_name (pv 2)) (pad_cons (pd_name (pv 4)) pad_nil)))) (pad_cons (pd_call c_told_most hr (by first | decide | omega) (pad_cons (pd_name (pv 0)) (pad_cons (pd_name (pv 1)) (pad_cons (pd_name (pv 4)) pad_nil)))) pad_nil)))))), ?_⟩)
  obtain ⟨n, ft, lt, F, L, k, rfl, h⟩ := h
  obtain ⟨hf, h1, g, hk, o⟩ := h
  simp [startD, wipeD, dsRet, dsRetN, dsIf, dsSeq, dsNext, dsAsg, dsDrop, dsBreak, dsCont, dsPar, dsAug, dsFrz, dsApp, dsExt, dsPut, dsAugO, dsOwn, dsParOO, dsParDO, dsParDDO, diR3, rdRepTz, dsFrzA, dxRep, diOwn, dsRaise, deAnd, deOr, deNot, de1, de2, deB, deX, dxB, dxLst, deName, deC, deCall, deIxO, deLenO, deTup, deLst, daCons, daNil, daStar, deChain, dtChain, dtV, dtAnd, dtOr, dtNot, dtYes, deIf, deSl, doNone, doSome, rdAdd, rdSub, rdMul, rdMod, rdDiv, rdPow, rdI, rdIc, rdB, rdLt, rdLe, rdGt, rdGe, rdNeg, rdIs, rdEq, rdNe, rdIx, rdIsN, rdNotN, rdIsB, rdNotB, rdRev, rdSeats, rdCatL, rdCatT, rdRepL, rdLen, rdTuple, rdList, rxList, rdInt, rdMax2, rdMin2, dgName, dgTup, dgCons, dgNil, deRefused, rdRepr, rdNeS, rdEqL, rdNeL, rdRepT, rdIsLn, noOwn, diSeq, diEn, diZp, diR1, diR2, noX,  eqOk_int, eqOk_bl, eqOk_non, eqv_int, eqv_bl, eqv_non, atI_0, atI_1, atI_2, atI_3, qty_non, qisI_non, qisB_non, qisL_non, qisU_non, qisS_non, qisD_non, qisNon_non, qcooked_non, qseq_non, qty_bl, qisI_bl, qisB_bl, qisL_bl, qisU_bl, qisS_bl, qisD_bl, qisNon_bl, qcooked_bl, qseq_bl, qty_int, qisI_int, qisB_int, qisL_int, qisU_int, qisS_int, qisD_int, qisNon_int, qcooked_int, qseq_int, qty_str, qisI_str, qisB_str, qisL_str, qisU_str, qisS_str, qisD_str, qisNon_str, qcooked_str, qseq_str, qty_lst, qisI_lst, qisB_lst, qisL_lst, qisU_lst, qisS_lst, qisD_lst, qisNon_lst, qcooked_lst, qseq_lst, qty_tup, qisI_tup, qisB_tup, qisL_tup, qisU_tup, qisS_tup, qisD_tup, qisNon_tup, qcooked_tup, qseq_tup, qty_dct, qisI_dct, qisB_dct, qisL_dct, qisU_dct, qisS_dct, qisD_dct, qisNon_dct, qcooked_dct, qseq_dct, qix_lst, qsl_lst, qix_tup, qsl_tup, qisNon_ln, qcooked_ln, and_assoc, exists_and_left, exists_eq_left, exists_eq_left', exists_eq_right, sp_lowest, sp_told_flood, sp_told_most, sp_told_takingsL, dxLc_eq, dsFor_eq, rngD_0, rngD_eq, zipD_map, enumD_map0]
  have hlen := g.len
  have h4 := g.c4
  have hn := g.n12
  have hc : (F.map D.int).length = L.length := by rw [List.length_map, hlen]
  have hA : ∀ o ∈ floodN n L.length k, o < L.length := fun o ho => (floodN_mem ho).2
  have hl : (floodN n L.length k).length ≤ 1000 := by
    rw [floodN_len]
    have : n * (L.length - k) ≤ 12 * 4 := Nat.mul_le_mul hn (by omega)
    omega
  have eT := (flood_took (n := n) g.fL F (L.length - k) k (by omega)).2
  have eM : mostN n F (floodN n L.length k) = Mf n F k := by
    have := flood_most g.fF.falls n (k := k) (by omega)
    rw [← hlen] at this
    exact this
  have gT := g.T hk
  have gM := g.M hk
  refine ⟨n, rfl, F.map D.int, k, rfl, hn, hf, by rw [hc]; omega, by rw [hc]; omega, F, hf, L, h1, floodN n L.length k, by rw [hc], hlen.symm, hA, hl, n, rfl, by omega, F, hf, floodN n L.length k, by rw [hc], fun o ho => by rw [← hlen]; exact hA o ho, hl, (Tf F L k).toNat, ?_, (Mf n F k).toNat, ?_, by omega, by omega, by omega, o⟩
  · rw [eT]
    show Tf F L k = _
    omega
  · rw [eM]
    omega
end
end K15
end
-- F_15_worst_of
section
set_option Elab.async false
set_option linter.all false
set_option maxRecDepth 100000
set_option maxHeartbeats 4000000
set_option autoImplicit false
namespace K15
open PySem PySem.Spec PyProof.Rows L2 Sd
section
variable {P : Program} {w : World} {K : PySem.W.Frag} {mg : Str → Option Value} {base : Heap}
theorem ok_worst_of (T : Txt K mg) {f : Addr} {fd : FuncData} (F : FnP K "worst_of" s_worst_of f fd) (c_flood_share : Cl P w K mg base 3 "flood_share" sp_flood_share []) (c_is_less : Cl P w K mg base 1 "is_less" sp_is_less [])  : FnOk P w K mg base (L2.CX P w) 4 f fd ["n", "fares", "limits"] (spD K sp_worst_of) := by
  have sc := sc_worst_of
  refine fnD F sc (fun F ds O h => by
    obtain ⟨_, _, _, _, _, e, _⟩ := h
    rw [e] <;> rfl) (fun cdv A outer s G E ds O hr h hE => ⟨_, (pssd_cons (psd_set (i := 3) sc.nd rfl (Or.inl rfl) pd_non)
  (pssd_cons (psd_for (passes_of rfl) (pid_r3 T.b_range (pad_cons (pd_sub (pd_callB call_len_seq snd_len T.b_len (pad_cons (pd_name (pv 1)) pad_nil)) pd_int) (pad_cons (pd_neg pd_int) (pad_cons (pd_neg pd_int) pad_nil)))) (pgd_name (i := 4) sc.nd rfl (Or.inl rfl))
  (pssd_cons (psd_set (i := 5) sc.nd rfl (Or.inl rfl) (pd_call c_flood_share hr (by first | decide | omega) (pad_cons (pd_name (pv 0)) (pad_cons (pd_name (pv 1)) (pad_cons (pd_name (pv 2)) (pad_cons (pd_name (pv 4)) pad_nil))))))
  (pssd_one (psd_if (ptd_w (pwd_or (ptd_isN (pd_name (pv 3)) pd_non) (pwd_or1 (ptd_val (pd_call c_is_less hr (by first | decide | omega) (pad_cons (pd_name (pv 5)) (pad_cons (pd_item (pd_name (pv 3)) pd_int) pad_nil)))))))
  (pssd_one (psd_set (i := 3) sc.nd rfl (Or.inl rfl) (pd_tup (pad_cons (pd_name (pv 5)) (pad_cons (pd_name (pv 4)) pad_nil)))))
  pssd_nil))))
  (pssd_one (psd_ret (pd_name (pv 3)))))), ?_⟩)
  obtain ⟨n, ft, lt, F, L, rfl, h⟩ := h
  obtain ⟨hf, h1, g, o⟩ := h
  simp [startD, wipeD, dsRet, dsRetN, dsIf, dsSeq, dsNext, dsAsg, dsDrop, dsBreak, dsCont, dsPar, dsAug, dsFrz, dsApp, dsExt, dsPut, dsAugO, dsOwn, dsParOO, dsParDO, dsParDDO, diR3, rdRepTz, dsFrzA, dxRep, diOwn, dsRaise, deAnd, deOr, deNot, de1, de2, deB, deX, dxB, dxLst, deName, deC, deCall, deIxO, deLenO, deTup, deLst, daCons, daNil, daStar, deChain, dtChain, dtV, dtAnd, dtOr, dtNot, dtYes, deIf, deSl, doNone, doSome, rdAdd, rdSub, rdMul, rdMod, rdDiv, rdPow, rdI, rdIc, rdB, rdLt, rdLe, rdGt, rdGe, rdNeg, rdIs, rdEq, rdNe, rdIx, rdIsN, rdNotN, rdIsB, rdNotB, rdRev, rdSeats, rdCatL, rdCatT, rdRepL, rdLen, rdTuple, rdList, rxList, rdInt, rdMax2, rdMin2, dgName, dgTup, dgCons, dgNil, deRefused, rdRepr, rdNeS, rdEqL, rdNeL, rdRepT, rdIsLn, noOwn, diSeq, diEn, diZp, diR1, diR2, noX,  eqOk_int, eqOk_bl, eqOk_non, eqv_int, eqv_bl, eqv_non, atI_0, atI_1, atI_2, atI_3, qty_non, qisI_non, qisB_non, qisL_non, qisU_non, qisS_non, qisD_non, qisNon_non, qcooked_non, qseq_non, qty_bl, qisI_bl, qisB_bl, qisL_bl, qisU_bl, qisS_bl, qisD_bl, qisNon_bl, qcooked_bl, qseq_bl, qty_int, qisI_int, qisB_int, qisL_int, qisU_int, qisS_int, qisD_int, qisNon_int, qcooked_int, qseq_int, qty_str, qisI_str, qisB_str, qisL_str, qisU_str, qisS_str, qisD_str, qisNon_str, qcooked_str, qseq_str, qty_lst, qisI_lst, qisB_lst, qisL_lst, qisU_lst, qisS_lst, qisD_lst, qisNon_lst, qcooked_lst, qseq_lst, qty_tup, qisI_tup, qisB_tup, qisL_tup, qisU_tup, qisS_tup, qisD_tup, qisNon_tup, qcooked_tup, qseq_tup, qty_dct, qisI_dct, qisB_dct, qisL_dct, qisU_dct, qisS_dct, qisD_dct, qisNon_dct, qcooked_dct, qseq_dct, qix_lst, qsl_lst, qix_tup, qsl_tup, qisNon_ln, qcooked_ln, and_assoc, exists_and_left, exists_eq_left, exists_eq_left', exists_eq_right, sp_flood_share, sp_is_less, dxLc_eq, dsFor_eq, rngD_0, rngD_eq, zipD_map, enumD_map0, hf]
  have hlen := g.len
  have h4 := g.c4
  have hc1 := g.c1
  have hn := g.n12
  refine ⟨by omega, by omega, ?_⟩
  rw [downD_nat (Nat.le_refl _)]
  refine fb_on (List.range F.length) (fun i δ' => ∃ a b : Sl, δ' = [.dat (.int (n : Int)), .dat ft, .dat lt, .dat (wD (wP L.length (Tf F L) (Mf n F) i)), a, b]) ⟨_, _, rfl⟩ (fun i x δ' hi hj => ?_) (fun δ' hj => ?_)
  · obtain ⟨a, b, rfl⟩ := hj
    obtain ⟨hi1, rfl⟩ := range_at hi
    rw [wP_succ]
    have hx : F.length - 1 - x = L.length - 1 - x := by rw [hlen]
    rw [hx]
    have hk : L.length - 1 - x < L.length := by omega
    generalize L.length - 1 - x = k at hk
    have gT := g.T hk
    have gM := g.M hk
    rcases wP_is L.length (Tf F L) (Mf n F) x (by omega) with ⟨_, e⟩ | ⟨k2, hk2, e⟩
    · rw [e]
      simp [startD, wipeD, dsRet, dsRetN, dsIf, dsSeq, dsNext, dsAsg, dsDrop, dsBreak, dsCont, dsPar, dsAug, dsFrz, dsApp, dsExt, dsPut, dsAugO, dsOwn, dsParOO, dsParDO, dsParDDO, diR3, rdRepTz, dsFrzA, dxRep, diOwn, dsRaise, deAnd, deOr, deNot, de1, de2, deB, deX, dxB, dxLst, deName, deC, deCall, deIxO, deLenO, deTup, deLst, daCons, daNil, daStar, deChain, dtChain, dtV, dtAnd, dtOr, dtNot, dtYes, deIf, deSl, doNone, doSome, rdAdd, rdSub, rdMul, rdMod, rdDiv, rdPow, rdI, rdIc, rdB, rdLt, rdLe, rdGt, rdGe, rdNeg, rdIs, rdEq, rdNe, rdIx, rdIsN, rdNotN, rdIsB, rdNotB, rdRev, rdSeats, rdCatL, rdCatT, rdRepL, rdLen, rdTuple, rdList, rxList, rdInt, rdMax2, rdMin2, dgName, dgTup, dgCons, dgNil, deRefused, rdRepr, rdNeS, rdEqL, rdNeL, rdRepT, rdIsLn, noOwn, diSeq, diEn, diZp, diR1, diR2, noX,  eqOk_int, eqOk_bl, eqOk_non, eqv_int, eqv_bl, eqv_non, atI_0, atI_1, atI_2, atI_3, qty_non, qisI_non, qisB_non, qisL_non, qisU_non, qisS_non, qisD_non, qisNon_non, qcooked_non, qseq_non, qty_bl, qisI_bl, qisB_bl, qisL_bl, qisU_bl, qisS_bl, qisD_bl, qisNon_bl, qcooked_bl, qseq_bl, qty_int, qisI_int, qisB_int, qisL_int, qisU_int, qisS_int, qisD_int, qisNon_int, qcooked_int, qseq_int, qty_str, qisI_str, qisB_str, qisL_str, qisU_str, qisS_str, qisD_str, qisNon_str, qcooked_str, qseq_str, qty_lst, qisI_lst, qisB_lst, qisL_lst, qisU_lst, qisS_lst, qisD_lst, qisNon_lst, qcooked_lst, qseq_lst, qty_tup, qisI_tup, qisB_tup, qisL_tup, qisU_tup, qisS_tup, qisD_tup, qisNon_tup, qcooked_tup, qseq_tup, qty_dct, qisI_dct, qisB_dct, qisL_dct, qisU_dct, qisS_dct, qisD_dct, qisNon_dct, qcooked_dct, qseq_dct, qix_lst, qsl_lst, qix_tup, qsl_tup, qisNon_ln, qcooked_ln, and_assoc, exists_and_left, exists_eq_left, exists_eq_left', exists_eq_right, sp_flood_share, sp_is_less, dxLc_eq, dsFor_eq, rngD_0, rngD_eq, zipD_map, enumD_map0, wD, natD]
      exact ⟨n, rfl, F, L, k, rfl, hf, h1, g, hk, rfl⟩
    · rw [e]
      have gT2 := g.T hk2
      have gM2 := g.M hk2
      simp [startD, wipeD, dsRet, dsRetN, dsIf, dsSeq, dsNext, dsAsg, dsDrop, dsBreak, dsCont, dsPar, dsAug, dsFrz, dsApp, dsExt, dsPut, dsAugO, dsOwn, dsParOO, dsParDO, dsParDDO, diR3, rdRepTz, dsFrzA, dxRep, diOwn, dsRaise, deAnd, deOr, deNot, de1, de2, deB, deX, dxB, dxLst, deName, deC, deCall, deIxO, deLenO, deTup, deLst, daCons, daNil, daStar, deChain, dtChain, dtV, dtAnd, dtOr, dtNot, dtYes, deIf, deSl, doNone, doSome, rdAdd, rdSub, rdMul, rdMod, rdDiv, rdPow, rdI, rdIc, rdB, rdLt, rdLe, rdGt, rdGe, rdNeg, rdIs, rdEq, rdNe, rdIx, rdIsN, rdNotN, rdIsB, rdNotB, rdRev, rdSeats, rdCatL, rdCatT, rdRepL, rdLen, rdTuple, rdList, rxList, rdInt, rdMax2, rdMin2, dgName, dgTup, dgCons, dgNil, deRefused, rdRepr, rdNeS, rdEqL, rdNeL, rdRepT, rdIsLn, noOwn, diSeq, diEn, diZp, diR1, diR2, noX,  eqOk_int, eqOk_bl, eqOk_non, eqv_int, eqv_bl, eqv_non, atI_0, atI_1, atI_2, atI_3, qty_non, qisI_non, qisB_non, qisL_non, qisU_non, qisS_non, qisD_non, qisNon_non, qcooked_non, qseq_non, qty_bl, qisI_bl, qisB_bl, qisL_bl, qisU_bl, qisS_bl, qisD_bl, qisNon_bl, qcooked_bl, qseq_bl, qty_int, qisI_int, qisB_int, qisL_int, qisU_int, qisS_int, qisD_int, qisNon_int, qcooked_int, qseq_int, qty_str, qisI_str, qisB_str, qisL_str, qisU_str, qisS_str, qisD_str, qisNon_str, qcooked_str, qseq_str, qty_lst, qisI_lst, qisB_lst, qisL_lst, qisU_lst, qisS_lst, qisD_lst, qisNon_lst, qcooked_lst, qseq_lst, qty_tup, qisI_tup, qisB_tup, qisL_tup, qisU_tup, qisS_tup, qisD_tup, qisNon_tup, qcooked_tup, qseq_tup, qty_dct, qisI_dct, qisB_dct, qisL_dct, qisU_dct, qisS_dct, qisD_dct, qisNon_dct, qcooked_dct, qseq_dct, qix_lst, qsl_lst, qix_tup, qsl_tup, qisNon_ln, qcooked_ln, and_assoc, exists_and_left, exists_eq_left, exists_eq_left', exists_eq_right, sp_flood_share, sp_is_less, dxLc_eq, dsFor_eq, rngD_0, rngD_eq, zipD_map, enumD_map0, wD, natD]
      have l1 := low_in (a := Tf F L k) (b := Mf n F k) (by omega) (by omega) (by omega) (by omega)
      have l2 := low_in (a := Tf F L k2) (b := Mf n F k2) (by omega) (by omega) (by omega) (by omega)
      have ll := low_lessI (a := Tf F L k) (b := Mf n F k) (c := Tf F L k2) (d := Mf n F k2) (by omega) (by omega) (by omega) (by omega)
      refine ⟨n, rfl, F, L, k, rfl, hf, h1, g, hk, _, _, rfl, _, _, rfl, l1.1, l1.2.1, l2.1, l2.2.1, ?_⟩
      by_cases cc : Tf F L k * Mf n F k2 < Tf F L k2 * Mf n F k
      · rw [if_pos (ll.mpr cc), show worstStep (Tf F L) (Mf n F) (some (Tf F L k2, Mf n F k2, k2)) k = some (Tf F L k, Mf n F k, k) from if_pos cc]
      · rw [if_neg (fun z => cc (ll.mp z)), show worstStep (Tf F L) (Mf n F) (some (Tf F L k2, Mf n F k2, k2)) k = some (Tf F L k2, Mf n F k2, k2) from if_neg cc]
  · obtain ⟨a, b, rfl⟩ := hj
    rw [List.length_range]
    obtain ⟨k, hk, hw, _⟩ := g.worst
    have e : wP L.length (Tf F L) (Mf n F) L.length = some (Tf F L k, Mf n F k, k) := hw
    rw [← hlen, e]
    simp [startD, wipeD, dsRet, dsRetN, dsIf, dsSeq, dsNext, dsAsg, dsDrop, dsBreak, dsCont, dsPar, dsAug, dsFrz, dsApp, dsExt, dsPut, dsAugO, dsOwn, dsParOO, dsParDO, dsParDDO, diR3, rdRepTz, dsFrzA, dxRep, diOwn, dsRaise, deAnd, deOr, deNot, de1, de2, deB, deX, dxB, dxLst, deName, deC, deCall, deIxO, deLenO, deTup, deLst, daCons, daNil, daStar, deChain, dtChain, dtV, dtAnd, dtOr, dtNot, dtYes, deIf, deSl, doNone, doSome, rdAdd, rdSub, rdMul, rdMod, rdDiv, rdPow, rdI, rdIc, rdB, rdLt, rdLe, rdGt, rdGe, rdNeg, rdIs, rdEq, rdNe, rdIx, rdIsN, rdNotN, rdIsB, rdNotB, rdRev, rdSeats, rdCatL, rdCatT, rdRepL, rdLen, rdTuple, rdList, rxList, rdInt, rdMax2, rdMin2, dgName, dgTup, dgCons, dgNil, deRefused, rdRepr, rdNeS, rdEqL, rdNeL, rdRepT, rdIsLn, noOwn, diSeq, diEn, diZp, diR1, diR2, noX,  eqOk_int, eqOk_bl, eqOk_non, eqv_int, eqv_bl, eqv_non, atI_0, atI_1, atI_2, atI_3, qty_non, qisI_non, qisB_non, qisL_non, qisU_non, qisS_non, qisD_non, qisNon_non, qcooked_non, qseq_non, qty_bl, qisI_bl, qisB_bl, qisL_bl, qisU_bl, qisS_bl, qisD_bl, qisNon_bl, qcooked_bl, qseq_bl, qty_int, qisI_int, qisB_int, qisL_int, qisU_int, qisS_int, qisD_int, qisNon_int, qcooked_int, qseq_int, qty_str, qisI_str, qisB_str, qisL_str, qisU_str, qisS_str, qisD_str, qisNon_str, qcooked_str, qseq_str, qty_lst, qisI_lst, qisB_lst, qisL_lst, qisU_lst, qisS_lst, qisD_lst, qisNon_lst, qcooked_lst, qseq_lst, qty_tup, qisI_tup, qisB_tup, qisL_tup, qisU_tup, qisS_tup, qisD_tup, qisNon_tup, qcooked_tup, qseq_tup, qty_dct, qisI_dct, qisB_dct, qisL_dct, qisU_dct, qisS_dct, qisD_dct, qisNon_dct, qcooked_dct, qseq_dct, qix_lst, qsl_lst, qix_tup, qsl_tup, qisNon_ln, qcooked_ln, and_assoc, exists_and_left, exists_eq_left, exists_eq_left', exists_eq_right, sp_flood_share, sp_is_less]
    exact o k hk hw
end
end K15
end
-- F_15_share
section
set_option Elab.async false
set_option linter.all false
set_option maxRecDepth 100000
set_option maxHeartbeats 4000000
set_option autoImplicit false
namespace K15
open PySem PySem.Spec PyProof.Rows L2 Sd
section
variable {P : Program} {w : World} {K : PySem.W.Frag} {mg : Str → Option Value} {base : Heap}
theorem ok_share (T : Txt K mg) {f : Addr} {fd : FuncData} (F : FnP K "share" s_share f fd) (c_check_limits : Cl P w K mg base 4 "check_limits" sp_check_limits []) (c_worst_of : Cl P w K mg base 4 "worst_of" sp_worst_of [])  : FnOk P w K mg base (L2.CX P w) 5 f fd ["n", "fares", "limits"] (spD K sp_share) := by
  have sc := sc_share
  refine fnD F sc (fun F ds O h => by
    obtain ⟨_, _, _, e, _⟩ := h
    rw [e] <;> rfl) (fun cdv A outer s G E ds O hr h hE => ⟨_, (pssd_cons (psd_drop (pd_callX c_check_limits hr (by first | decide | omega) hE (passes_call (takes_of rfl rfl rfl rfl) (fun _ _ _ _ z => z)) (pad_cons (pd_name (pv 0)) (pad_cons (pd_name (pv 1)) (pad_cons (pd_name (pv 2)) pad_nil)))))
  (pssd_one (psd_ret (pd_item (pd_call c_worst_of hr (by first | decide | omega) (pad_cons (pd_name (pv 0)) (pad_cons (pd_name (pv 1)) (pad_cons (pd_name (pv 2)) pad_nil)))) pd_int)))), ?_⟩)
  obtain ⟨n, t, l, rfl, h⟩ := h
  obtain ⟨hn, ht, hl, o1, o2, o3⟩ := h
  simp [startD, wipeD, dsRet, dsRetN, dsIf, dsSeq, dsNext, dsAsg, dsDrop, dsBreak, dsCont, dsPar, dsAug, dsFrz, dsApp, dsExt, dsPut, dsAugO, dsOwn, dsParOO, dsParDO, dsParDDO, diR3, rdRepTz, dsFrzA, dxRep, diOwn, dsRaise, deAnd, deOr, deNot, de1, de2, deB, deX, dxB, dxLst, deName, deC, deCall, deIxO, deLenO, deTup, deLst, daCons, daNil, daStar, deChain, dtChain, dtV, dtAnd, dtOr, dtNot, dtYes, deIf, deSl, doNone, doSome, rdAdd, rdSub, rdMul, rdMod, rdDiv, rdPow, rdI, rdIc, rdB, rdLt, rdLe, rdGt, rdGe, rdNeg, rdIs, rdEq, rdNe, rdIx, rdIsN, rdNotN, rdIsB, rdNotB, rdRev, rdSeats, rdCatL, rdCatT, rdRepL, rdLen, rdTuple, rdList, rxList, rdInt, rdMax2, rdMin2, dgName, dgTup, dgCons, dgNil, deRefused, rdRepr, rdNeS, rdEqL, rdNeL, rdRepT, rdIsLn, noOwn, diSeq, diEn, diZp, diR1, diR2, noX,  eqOk_int, eqOk_bl, eqOk_non, eqv_int, eqv_bl, eqv_non, atI_0, atI_1, atI_2, atI_3, qty_non, qisI_non, qisB_non, qisL_non, qisU_non, qisS_non, qisD_non, qisNon_non, qcooked_non, qseq_non, qty_bl, qisI_bl, qisB_bl, qisL_bl, qisU_bl, qisS_bl, qisD_bl, qisNon_bl, qcooked_bl, qseq_bl, qty_int, qisI_int, qisB_int, qisL_int, qisU_int, qisS_int, qisD_int, qisNon_int, qcooked_int, qseq_int, qty_str, qisI_str, qisB_str, qisL_str, qisU_str, qisS_str, qisD_str, qisNon_str, qcooked_str, qseq_str, qty_lst, qisI_lst, qisB_lst, qisL_lst, qisU_lst, qisS_lst, qisD_lst, qisNon_lst, qcooked_lst, qseq_lst, qty_tup, qisI_tup, qisB_tup, qisL_tup, qisU_tup, qisS_tup, qisD_tup, qisNon_tup, qcooked_tup, qseq_tup, qty_dct, qisI_dct, qisB_dct, qisL_dct, qisU_dct, qisS_dct, qisD_dct, qisNon_dct, qcooked_dct, qseq_dct, qix_lst, qsl_lst, qix_tup, qsl_tup, qisNon_ln, qcooked_ln, and_assoc, exists_and_left, exists_eq_left, exists_eq_left', exists_eq_right, sp_check_limits, sp_worst_of, dxLc_eq, dsFor_eq, rngD_0, rngD_eq, zipD_map, enumD_map0, spFares, spLims, spAsked]
  refine ⟨hn, ht, hl, o1, o2, fun a1 a2 => ⟨(o3 a1 a2).1, fun a3 => ?_⟩⟩
  obtain ⟨N, F, L, h0, h1, h2, g, o⟩ := (o3 a1 a2).2 a3
  exact ⟨N, h0, F, h1, L, h2, g, o⟩
end
end K15
end
-- F_15_worst_flood
section
set_option Elab.async false
set_option linter.all false
set_option maxRecDepth 100000
set_option maxHeartbeats 4000000
set_option autoImplicit false
namespace K15
open PySem PySem.Spec PyProof.Rows L2 Sd
section
variable {P : Program} {w : World} {K : PySem.W.Frag} {mg : Str → Option Value} {base : Heap}
theorem ok_worst_flood (T : Txt K mg) {f : Addr} {fd : FuncData} (F : FnP K "worst_flood" s_worst_flood f fd) (c_check_limits : Cl P w K mg base 4 "check_limits" sp_check_limits []) (c_worst_of : Cl P w K mg base 4 "worst_of" sp_worst_of [])  : FnOk P w K mg base (L2.CX P w) 5 f fd ["n", "fares", "limits"] (spD K sp_worst_flood) := by
  have sc := sc_worst_flood
  refine fnD F sc (fun F ds O h => by
    obtain ⟨_, _, _, e, _⟩ := h
    rw [e] <;> rfl) (fun cdv A outer s G E ds O hr h hE => ⟨_, (pssd_cons (psd_drop (pd_callX c_check_limits hr (by first | decide | omega) hE (passes_call (takes_of rfl rfl rfl rfl) (fun _ _ _ _ z => z)) (pad_cons (pd_name (pv 0)) (pad_cons (pd_name (pv 1)) (pad_cons (pd_name (pv 2)) pad_nil)))))
  (pssd_one (psd_ret (pd_item (pd_call c_worst_of hr (by first | decide | omega) (pad_cons (pd_name (pv 0)) (pad_cons (pd_name (pv 1)) (pad_cons (pd_name (pv 2)) pad_nil)))) pd_int)))), ?_⟩)
  obtain ⟨n, t, l, rfl, h⟩ := h
  obtain ⟨hn, ht, hl, o1, o2, o3⟩ := h
  simp [startD, wipeD, dsRet, dsRetN, dsIf, dsSeq, dsNext, dsAsg, dsDrop, dsBreak, dsCont, dsPar, dsAug, dsFrz, dsApp, dsExt, dsPut, dsAugO, dsOwn, dsParOO, dsParDO, dsParDDO, diR3, rdRepTz, dsFrzA, dxRep, diOwn, dsRaise, deAnd, deOr, deNot, de1, de2, deB, deX, dxB, dxLst, deName, deC, deCall, deIxO, deLenO, deTup, deLst, daCons, daNil, daStar, deChain, dtChain, dtV, dtAnd, dtOr, dtNot, dtYes, deIf, deSl, doNone, doSome, rdAdd, rdSub, rdMul, rdMod, rdDiv, rdPow, rdI, rdIc, rdB, rdLt, rdLe, rdGt, rdGe, rdNeg, rdIs, rdEq, rdNe, rdIx, rdIsN, rdNotN, rdIsB, rdNotB, rdRev, rdSeats, rdCatL, rdCatT, rdRepL, rdLen, rdTuple, rdList, rxList, rdInt, rdMax2, rdMin2, dgName, dgTup, dgCons, dgNil, deRefused, rdRepr, rdNeS, rdEqL, rdNeL, rdRepT, rdIsLn, noOwn, diSeq, diEn, diZp, diR1, diR2, noX,  eqOk_int, eqOk_bl, eqOk_non, eqv_int, eqv_bl, eqv_non, atI_0, atI_1, atI_2, atI_3, qty_non, qisI_non, qisB_non, qisL_non, qisU_non, qisS_non, qisD_non, qisNon_non, qcooked_non, qseq_non, qty_bl, qisI_bl, qisB_bl, qisL_bl, qisU_bl, qisS_bl, qisD_bl, qisNon_bl, qcooked_bl, qseq_bl, qty_int, qisI_int, qisB_int, qisL_int, qisU_int, qisS_int, qisD_int, qisNon_int, qcooked_int, qseq_int, qty_str, qisI_str, qisB_str, qisL_str, qisU_str, qisS_str, qisD_str, qisNon_str, qcooked_str, qseq_str, qty_lst, qisI_lst, qisB_lst, qisL_lst, qisU_lst, qisS_lst, qisD_lst, qisNon_lst, qcooked_lst, qseq_lst, qty_tup, qisI_tup, qisB_tup, qisL_tup, qisU_tup, qisS_tup, qisD_tup, qisNon_tup, qcooked_tup, qseq_tup, qty_dct, qisI_dct, qisB_dct, qisL_dct, qisU_dct, qisS_dct, qisD_dct, qisNon_dct, qcooked_dct, qseq_dct, qix_lst, qsl_lst, qix_tup, qsl_tup, qisNon_ln, qcooked_ln, and_assoc, exists_and_left, exists_eq_left, exists_eq_left', exists_eq_right, sp_check_limits, sp_worst_of, dxLc_eq, dsFor_eq, rngD_0, rngD_eq, zipD_map, enumD_map0, spFares, spLims, spAsked]
  refine ⟨hn, ht, hl, o1, o2, fun a1 a2 => ⟨(o3 a1 a2).1, fun a3 => ?_⟩⟩
  obtain ⟨N, F, L, h0, h1, h2, g, o⟩ := (o3 a1 a2).2 a3
  exact ⟨N, h0, F, h1, L, h2, g, o⟩
end
end K15
end
-- F_15_flood
section
set_option Elab.async false
set_option linter.all false
set_option maxRecDepth 100000
set_option maxHeartbeats 4000000
set_option autoImplicit false
namespace K15
open PySem PySem.Spec PyProof.Rows L2 Sd
section
variable {P : Program} {w : World} {K : PySem.W.Frag} {mg : Str → Option Value} {base : Heap}
theorem ok_flood (T : Txt K mg) {f : Addr} {fd : FuncData} (F : FnP K "flood" s_flood f fd) (c_check_fares : Cl P w K mg base 3 "check_fares" sp_check_fares []) (c_is_within : Cl P w K mg base 2 "is_within" sp_is_within []) (c_told_flood : Cl P w K mg base 1 "told_flood" sp_told_flood []) (x_BadLast : Er P w K mg base 1 "BadLast") : FnOk P w K mg base (L2.CX P w) 4 f fd ["n", "fares", "last"] (spD K sp_flood) := by
  have sc := sc_flood
  refine fnD F sc (fun F ds O h => by
    obtain ⟨_, _, _, e, _⟩ := h
    rw [e] <;> rfl) (fun cdv A outer s G E ds O hr h hE => ⟨_, (pssd_cons (psd_drop (pd_callX c_check_fares hr (by first | decide | omega) hE (passes_call (takes_of rfl rfl rfl rfl) (fun _ _ _ _ z => z)) (pad_cons (pd_name (pv 0)) (pad_cons (pd_name (pv 1)) pad_nil))))
  (pssd_cons (psd_if (ptd_not (ptd_val (pd_call c_is_within hr (by first | decide | omega) (pad_cons (pd_name (pv 2)) (pad_cons pd_int (pad_cons (pd_sub (pd_callB call_len_seq snd_len T.b_len (pad_cons (pd_name (pv 1)) pad_nil)) pd_int) pad_nil))))))
  (pssd_one (psd_raise x_BadLast hr hE (takes_of rfl rfl rfl rfl) (pad_cons (pd_name (pv 2)) pad_nil)))
  pssd_nil)
  (pssd_one (psd_ret (pd_call c_told_flood hr (by first | decide | omega) (pad_cons (pd_name (pv 0)) (pad_cons (pd_name (pv 1)) (pad_cons (pd_name (pv 2)) pad_nil)))))))), ?_⟩)
  obtain ⟨n, t, k, rfl, h⟩ := h
  obtain ⟨hn, ht, hk, o1, o2, o3⟩ := h
  simp [startD, wipeD, dsRet, dsRetN, dsIf, dsSeq, dsNext, dsAsg, dsDrop, dsBreak, dsCont, dsPar, dsAug, dsFrz, dsApp, dsExt, dsPut, dsAugO, dsOwn, dsParOO, dsParDO, dsParDDO, diR3, rdRepTz, dsFrzA, dxRep, diOwn, dsRaise, deAnd, deOr, deNot, de1, de2, deB, deX, dxB, dxLst, deName, deC, deCall, deIxO, deLenO, deTup, deLst, daCons, daNil, daStar, deChain, dtChain, dtV, dtAnd, dtOr, dtNot, dtYes, deIf, deSl, doNone, doSome, rdAdd, rdSub, rdMul, rdMod, rdDiv, rdPow, rdI, rdIc, rdB, rdLt, rdLe, rdGt, rdGe, rdNeg, rdIs, rdEq, rdNe, rdIx, rdIsN, rdNotN, rdIsB, rdNotB, rdRev, rdSeats, rdCatL, rdCatT, rdRepL, rdLen, rdTuple, rdList, rxList, rdInt, rdMax2, rdMin2, dgName, dgTup, dgCons, dgNil, deRefused, rdRepr, rdNeS, rdEqL, rdNeL, rdRepT, rdIsLn, noOwn, diSeq, diEn, diZp, diR1, diR2, noX,  eqOk_int, eqOk_bl, eqOk_non, eqv_int, eqv_bl, eqv_non, atI_0, atI_1, atI_2, atI_3, qty_non, qisI_non, qisB_non, qisL_non, qisU_non, qisS_non, qisD_non, qisNon_non, qcooked_non, qseq_non, qty_bl, qisI_bl, qisB_bl, qisL_bl, qisU_bl, qisS_bl, qisD_bl, qisNon_bl, qcooked_bl, qseq_bl, qty_int, qisI_int, qisB_int, qisL_int, qisU_int, qisS_int, qisD_int, qisNon_int, qcooked_int, qseq_int, qty_str, qisI_str, qisB_str, qisL_str, qisU_str, qisS_str, qisD_str, qisNon_str, qcooked_str, qseq_str, qty_lst, qisI_lst, qisB_lst, qisL_lst, qisU_lst, qisS_lst, qisD_lst, qisNon_lst, qcooked_lst, qseq_lst, qty_tup, qisI_tup, qisB_tup, qisL_tup, qisU_tup, qisS_tup, qisD_tup, qisNon_tup, qcooked_tup, qseq_tup, qty_dct, qisI_dct, qisB_dct, qisL_dct, qisU_dct, qisS_dct, qisD_dct, qisNon_dct, qcooked_dct, qseq_dct, qix_lst, qsl_lst, qix_tup, qsl_tup, qisNon_ln, qcooked_ln, and_assoc, exists_and_left, exists_eq_left, exists_eq_left', exists_eq_right, sp_check_fares, sp_is_within, sp_told_flood, dxLc_eq, dsFor_eq, rngD_0, rngD_eq, zipD_map, enumD_map0, spFares, spLims, spAsked, okv_ty hk]
  refine ⟨hn, ht, o1, o2, fun a1 a2 => ?_⟩
  obtain ⟨F, hs, _, _, hl⟩ := okF_is a2
  have o4 := o3 a1 a2
  rw [hl] at o4
  refine ⟨_, hs, ?_⟩
  rw [List.length_map]
  by_cases c : isWithin k 0 ((F.length : Int) - 1) = true
  · rw [if_pos c]
    obtain ⟨N, K, h1, h2, h3, h4, h5, o⟩ := o4.2 c
    exact ⟨N, h1, F.map D.int, K, h2, h3, hs, by simpa using h5, by simpa using h4, by rw [List.length_map]; exact o⟩
  · rw [if_neg c]
    exact o4.1 (by simpa using c)
end
end K15
end
-- F_15_all_limits
section
set_option Elab.async false
set_option linter.all false
set_option maxRecDepth 100000
set_option maxHeartbeats 4000000
set_option autoImplicit false
namespace K15
open PySem PySem.Spec PyProof.Rows L2 Sd
section
variable {P : Program} {w : World} {K : PySem.W.Frag} {mg : Str → Option Value} {base : Heap}
theorem ok_all_limits (T : Txt K mg) {f : Addr} {fd : FuncData} (F : FnP K "all_limits" s_all_limits f fd)   : FnOk P w K mg base (L2.CX P w) 1 f fd ["n", "many"] (spD K sp_all_limits) := by
  have sc := sc_all_limits
  refine fnD F sc (fun F ds O h => by
    obtain ⟨_, _, e, _⟩ := h
    rw [e] <;> rfl) (fun cdv A outer s G E ds O hr h hE => ⟨_, (pssd_cons (psd_set (i := 2) sc.nd rfl (Or.inl rfl) (pd_lst (pad_cons (pd_tup (pad_cons (pd_name (pv 0)) pad_nil)) pad_nil)))
  (pssd_cons (psd_for (passes_of rfl) (pid_r1 T.b_range (pad_cons (pd_sub (pd_name (pv 1)) pd_int) pad_nil)) (pgd_name (i := 3) sc.nd rfl (Or.inl rfl))
  (pssd_cons (psd_own (i := 4) sc.nd rfl (Or.inl rfl) (pxd_lst pad_nil))
  (pssd_cons (psd_for (passes_of rfl) (pid_seq (pd_name (pv 2))) (pgd_name (i := 5) sc.nd rfl (Or.inr rfl))
  (pssd_one (psd_ext (i := 4) (pv 4) (pd_x (pxd_lc (own := [(("one" : Str), 6)]) sc.nd (pid_r1 T.b_range (pad_cons (pd_add (pd_item (pd_name (pv 5)) (pd_neg pd_int)) pd_int) pad_nil)) (by kernel_rfl) (fun _ _ _ _ _ => (pgc_name (i := 6) sc.nd rfl (by first | exact Or.inl rfl | exact Or.inr rfl) (by decide))) (fun _ _ _ _ _ => ptsd_nil) (fun _ _ _ _ _ => (pd_tup (pad_star (pd_name (pv 5)) (pad_cons (pd_name (pv 6)) pad_nil)))))))))
  (pssd_one (psd_frz 4 (psd_set (i := 2) sc.nd rfl (Or.inl rfl) (pd_name (pv 4))))))))
  (pssd_one (psd_ret (pd_name (pv 2)))))), ?_⟩)
  obtain ⟨n, k, rfl, h⟩ := h
  obtain ⟨hn, hk, o⟩ := h
  simp [startD, wipeD, dsRet, dsRetN, dsIf, dsSeq, dsNext, dsAsg, dsDrop, dsBreak, dsCont, dsPar, dsAug, dsFrz, dsApp, dsExt, dsPut, dsAugO, dsOwn, dsParOO, dsParDO, dsParDDO, diR3, rdRepTz, dsFrzA, dxRep, diOwn, dsRaise, deAnd, deOr, deNot, de1, de2, deB, deX, dxB, dxLst, deName, deC, deCall, deIxO, deLenO, deTup, deLst, daCons, daNil, daStar, deChain, dtChain, dtV, dtAnd, dtOr, dtNot, dtYes, deIf, deSl, doNone, doSome, rdAdd, rdSub, rdMul, rdMod, rdDiv, rdPow, rdI, rdIc, rdB, rdLt, rdLe, rdGt, rdGe, rdNeg, rdIs, rdEq, rdNe, rdIx, rdIsN, rdNotN, rdIsB, rdNotB, rdRev, rdSeats, rdCatL, rdCatT, rdRepL, rdLen, rdTuple, rdList, rxList, rdInt, rdMax2, rdMin2, dgName, dgTup, dgCons, dgNil, deRefused, rdRepr, rdNeS, rdEqL, rdNeL, rdRepT, rdIsLn, noOwn, diSeq, diEn, diZp, diR1, diR2, noX,  eqOk_int, eqOk_bl, eqOk_non, eqv_int, eqv_bl, eqv_non, atI_0, atI_1, atI_2, atI_3, qty_non, qisI_non, qisB_non, qisL_non, qisU_non, qisS_non, qisD_non, qisNon_non, qcooked_non, qseq_non, qty_bl, qisI_bl, qisB_bl, qisL_bl, qisU_bl, qisS_bl, qisD_bl, qisNon_bl, qcooked_bl, qseq_bl, qty_int, qisI_int, qisB_int, qisL_int, qisU_int, qisS_int, qisD_int, qisNon_int, qcooked_int, qseq_int, qty_str, qisI_str, qisB_str, qisL_str, qisU_str, qisS_str, qisD_str, qisNon_str, qcooked_str, qseq_str, qty_lst, qisI_lst, qisB_lst, qisL_lst, qisU_lst, qisS_lst, qisD_lst, qisNon_lst, qcooked_lst, qseq_lst, qty_tup, qisI_tup, qisB_tup, qisL_tup, qisU_tup, qisS_tup, qisD_tup, qisNon_tup, qcooked_tup, qseq_tup, qty_dct, qisI_dct, qisB_dct, qisL_dct, qisU_dct, qisS_dct, qisD_dct, qisNon_dct, qcooked_dct, qseq_dct, qix_lst, qsl_lst, qix_tup, qsl_tup, qisNon_ln, qcooked_ln, and_assoc, exists_and_left, exists_eq_left, exists_eq_left', exists_eq_right, dxLc_eq, dsFor_eq, rngD_0, rngD_eq, zipD_map, enumD_map0]
  refine ⟨by omega, ?_⟩
  refine fb_on (List.range k) (fun i δ' => ∃ a b c d : Sl, δ' = [.dat (.int (n : Int)), .dat (.int ((k : Int) + 1)), .dat (.lst ((limsN n i).map tupD)), a, b, c, d]) ⟨_, _, _, _, rfl⟩ (fun i x δ' hi hj => ?_) (fun δ' hj => ?_)
  · obtain ⟨a, b, c, d, rfl⟩ := hj
    obtain ⟨hi1, rfl⟩ := range_at hi
    simp [startD, wipeD, dsRet, dsRetN, dsIf, dsSeq, dsNext, dsAsg, dsDrop, dsBreak, dsCont, dsPar, dsAug, dsFrz, dsApp, dsExt, dsPut, dsAugO, dsOwn, dsParOO, dsParDO, dsParDDO, diR3, rdRepTz, dsFrzA, dxRep, diOwn, dsRaise, deAnd, deOr, deNot, de1, de2, deB, deX, dxB, dxLst, deName, deC, deCall, deIxO, deLenO, deTup, deLst, daCons, daNil, daStar, deChain, dtChain, dtV, dtAnd, dtOr, dtNot, dtYes, deIf, deSl, doNone, doSome, rdAdd, rdSub, rdMul, rdMod, rdDiv, rdPow, rdI, rdIc, rdB, rdLt, rdLe, rdGt, rdGe, rdNeg, rdIs, rdEq, rdNe, rdIx, rdIsN, rdNotN, rdIsB, rdNotB, rdRev, rdSeats, rdCatL, rdCatT, rdRepL, rdLen, rdTuple, rdList, rxList, rdInt, rdMax2, rdMin2, dgName, dgTup, dgCons, dgNil, deRefused, rdRepr, rdNeS, rdEqL, rdNeL, rdRepT, rdIsLn, noOwn, diSeq, diEn, diZp, diR1, diR2, noX,  eqOk_int, eqOk_bl, eqOk_non, eqv_int, eqv_bl, eqv_non, atI_0, atI_1, atI_2, atI_3, qty_non, qisI_non, qisB_non, qisL_non, qisU_non, qisS_non, qisD_non, qisNon_non, qcooked_non, qseq_non, qty_bl, qisI_bl, qisB_bl, qisL_bl, qisU_bl, qisS_bl, qisD_bl, qisNon_bl, qcooked_bl, qseq_bl, qty_int, qisI_int, qisB_int, qisL_int, qisU_int, qisS_int, qisD_int, qisNon_int, qcooked_int, qseq_int, qty_str, qisI_str, qisB_str, qisL_str, qisU_str, qisS_str, qisD_str, qisNon_str, qcooked_str, qseq_str, qty_lst, qisI_lst, qisB_lst, qisL_lst, qisU_lst, qisS_lst, qisD_lst, qisNon_lst, qcooked_lst, qseq_lst, qty_tup, qisI_tup, qisB_tup, qisL_tup, qisU_tup, qisS_tup, qisD_tup, qisNon_tup, qcooked_tup, qseq_tup, qty_dct, qisI_dct, qisB_dct, qisL_dct, qisU_dct, qisS_dct, qisD_dct, qisNon_dct, qcooked_dct, qseq_dct, qix_lst, qsl_lst, qix_tup, qsl_tup, qisNon_ln, qcooked_ln, and_assoc, exists_and_left, exists_eq_left, exists_eq_left', exists_eq_right, dxLc_eq, dsFor_eq, rngD_0, rngD_eq, zipD_map, enumD_map0]
    refine fb_on (limsN n x) (fun j δ' => ∃ c d : Sl, δ' = [.dat (.int (n : Int)), .dat (.int ((k : Int) + 1)), .dat (.lst ((limsN n x).map tupD)), .dat (.int (x : Int)), .own ((stepL ((limsN n x).take j)).map tupD), c, d]) ⟨_, _, rfl⟩ (fun j l δ' hj hp => ?_) (fun δ' hp => ?_)
    · obtain ⟨c, d, rfl⟩ := hp
      have I := lims_ok n x l (List.mem_of_getElem? hj)
      have hla := I.last
      simp [startD, wipeD, dsRet, dsRetN, dsIf, dsSeq, dsNext, dsAsg, dsDrop, dsBreak, dsCont, dsPar, dsAug, dsFrz, dsApp, dsExt, dsPut, dsAugO, dsOwn, dsParOO, dsParDO, dsParDDO, diR3, rdRepTz, dsFrzA, dxRep, diOwn, dsRaise, deAnd, deOr, deNot, de1, de2, deB, deX, dxB, dxLst, deName, deC, deCall, deIxO, deLenO, deTup, deLst, daCons, daNil, daStar, deChain, dtChain, dtV, dtAnd, dtOr, dtNot, dtYes, deIf, deSl, doNone, doSome, rdAdd, rdSub, rdMul, rdMod, rdDiv, rdPow, rdI, rdIc, rdB, rdLt, rdLe, rdGt, rdGe, rdNeg, rdIs, rdEq, rdNe, rdIx, rdIsN, rdNotN, rdIsB, rdNotB, rdRev, rdSeats, rdCatL, rdCatT, rdRepL, rdLen, rdTuple, rdList, rxList, rdInt, rdMax2, rdMin2, dgName, dgTup, dgCons, dgNil, deRefused, rdRepr, rdNeS, rdEqL, rdNeL, rdRepT, rdIsLn, noOwn, diSeq, diEn, diZp, diR1, diR2, noX,  eqOk_int, eqOk_bl, eqOk_non, eqv_int, eqv_bl, eqv_non, atI_0, atI_1, atI_2, atI_3, qty_non, qisI_non, qisB_non, qisL_non, qisU_non, qisS_non, qisD_non, qisNon_non, qcooked_non, qseq_non, qty_bl, qisI_bl, qisB_bl, qisL_bl, qisU_bl, qisS_bl, qisD_bl, qisNon_bl, qcooked_bl, qseq_bl, qty_int, qisI_int, qisB_int, qisL_int, qisU_int, qisS_int, qisD_int, qisNon_int, qcooked_int, qseq_int, qty_str, qisI_str, qisB_str, qisL_str, qisU_str, qisS_str, qisD_str, qisNon_str, qcooked_str, qseq_str, qty_lst, qisI_lst, qisB_lst, qisL_lst, qisU_lst, qisS_lst, qisD_lst, qisNon_lst, qcooked_lst, qseq_lst, qty_tup, qisI_tup, qisB_tup, qisL_tup, qisU_tup, qisS_tup, qisD_tup, qisNon_tup, qcooked_tup, qseq_tup, qty_dct, qisI_dct, qisB_dct, qisL_dct, qisU_dct, qisS_dct, qisD_dct, qisNon_dct, qcooked_dct, qseq_dct, qix_lst, qsl_lst, qix_tup, qsl_tup, qisNon_ln, qcooked_ln, and_assoc, exists_and_left, exists_eq_left, exists_eq_left', exists_eq_right, dxLc_eq, dsFor_eq, rngD_0, rngD_eq, zipD_map, enumD_map0, tup_last I.ne]
      refine ⟨by omega, by omega, lb_on (List.range (lastI l + 1).toNat) (fun y : Nat => tupD (l ++ [(y : Int)])) (by simp; omega) (fun y hy R hR => ?_) ?_⟩
      · simp [startD, wipeD, dsRet, dsRetN, dsIf, dsSeq, dsNext, dsAsg, dsDrop, dsBreak, dsCont, dsPar, dsAug, dsFrz, dsApp, dsExt, dsPut, dsAugO, dsOwn, dsParOO, dsParDO, dsParDDO, diR3, rdRepTz, dsFrzA, dxRep, diOwn, dsRaise, deAnd, deOr, deNot, de1, de2, deB, deX, dxB, dxLst, deName, deC, deCall, deIxO, deLenO, deTup, deLst, daCons, daNil, daStar, deChain, dtChain, dtV, dtAnd, dtOr, dtNot, dtYes, deIf, deSl, doNone, doSome, rdAdd, rdSub, rdMul, rdMod, rdDiv, rdPow, rdI, rdIc, rdB, rdLt, rdLe, rdGt, rdGe, rdNeg, rdIs, rdEq, rdNe, rdIx, rdIsN, rdNotN, rdIsB, rdNotB, rdRev, rdSeats, rdCatL, rdCatT, rdRepL, rdLen, rdTuple, rdList, rxList, rdInt, rdMax2, rdMin2, dgName, dgTup, dgCons, dgNil, deRefused, rdRepr, rdNeS, rdEqL, rdNeL, rdRepT, rdIsLn, noOwn, diSeq, diEn, diZp, diR1, diR2, noX,  eqOk_int, eqOk_bl, eqOk_non, eqv_int, eqv_bl, eqv_non, atI_0, atI_1, atI_2, atI_3, qty_non, qisI_non, qisB_non, qisL_non, qisU_non, qisS_non, qisD_non, qisNon_non, qcooked_non, qseq_non, qty_bl, qisI_bl, qisB_bl, qisL_bl, qisU_bl, qisS_bl, qisD_bl, qisNon_bl, qcooked_bl, qseq_bl, qty_int, qisI_int, qisB_int, qisL_int, qisU_int, qisS_int, qisD_int, qisNon_int, qcooked_int, qseq_int, qty_str, qisI_str, qisB_str, qisL_str, qisU_str, qisS_str, qisD_str, qisNon_str, qcooked_str, qseq_str, qty_lst, qisI_lst, qisB_lst, qisL_lst, qisU_lst, qisS_lst, qisD_lst, qisNon_lst, qcooked_lst, qseq_lst, qty_tup, qisI_tup, qisB_tup, qisL_tup, qisU_tup, qisS_tup, qisD_tup, qisNon_tup, qcooked_tup, qseq_tup, qty_dct, qisI_dct, qisB_dct, qisL_dct, qisU_dct, qisS_dct, qisD_dct, qisNon_dct, qcooked_dct, qseq_dct, qix_lst, qsl_lst, qix_tup, qsl_tup, qisNon_ln, qcooked_ln, and_assoc, exists_and_left, exists_eq_left, exists_eq_left', exists_eq_right, dxLc_eq, dsFor_eq, rngD_0, rngD_eq, zipD_map, enumD_map0, tupD]
        have e : tupD (l ++ [(y : Int)]) = .tup (l.map D.int ++ [.int (y : Int)]) := by unfold tupD; rw [List.map_append]; rfl
        rw [e] at hR
        exact ⟨by rw [I.len]; omega, hR⟩
      · have h1 := step_len (i := x) hn (by omega) j
        have h2 := step_len (i := x) hn (by omega) (j + 1)
        rw [take_snoc hj, stepL_snoc] at h2 ⊢
        rw [List.length_append] at h2
        have e : (List.range (lastI l + 1).toNat).map (fun y : Nat => tupD (l ++ [(y : Int)])) = ((List.range (lastI l + 1).toNat).map fun y : Nat => l ++ [(y : Int)]).map tupD := by rw [List.map_map]; rfl
        rw [e]
        exact ⟨by rw [List.length_map]; omega, by rw [List.map_append]⟩
    · obtain ⟨c, d, rfl⟩ := hp
      rw [List.take_length]
      simp [startD, wipeD, dsRet, dsRetN, dsIf, dsSeq, dsNext, dsAsg, dsDrop, dsBreak, dsCont, dsPar, dsAug, dsFrz, dsApp, dsExt, dsPut, dsAugO, dsOwn, dsParOO, dsParDO, dsParDDO, diR3, rdRepTz, dsFrzA, dxRep, diOwn, dsRaise, deAnd, deOr, deNot, de1, de2, deB, deX, dxB, dxLst, deName, deC, deCall, deIxO, deLenO, deTup, deLst, daCons, daNil, daStar, deChain, dtChain, dtV, dtAnd, dtOr, dtNot, dtYes, deIf, deSl, doNone, doSome, rdAdd, rdSub, rdMul, rdMod, rdDiv, rdPow, rdI, rdIc, rdB, rdLt, rdLe, rdGt, rdGe, rdNeg, rdIs, rdEq, rdNe, rdIx, rdIsN, rdNotN, rdIsB, rdNotB, rdRev, rdSeats, rdCatL, rdCatT, rdRepL, rdLen, rdTuple, rdList, rxList, rdInt, rdMax2, rdMin2, dgName, dgTup, dgCons, dgNil, deRefused, rdRepr, rdNeS, rdEqL, rdNeL, rdRepT, rdIsLn, noOwn, diSeq, diEn, diZp, diR1, diR2, noX,  eqOk_int, eqOk_bl, eqOk_non, eqv_int, eqv_bl, eqv_non, atI_0, atI_1, atI_2, atI_3, qty_non, qisI_non, qisB_non, qisL_non, qisU_non, qisS_non, qisD_non, qisNon_non, qcooked_non, qseq_non, qty_bl, qisI_bl, qisB_bl, qisL_bl, qisU_bl, qisS_bl, qisD_bl, qisNon_bl, qcooked_bl, qseq_bl, qty_int, qisI_int, qisB_int, qisL_int, qisU_int, qisS_int, qisD_int, qisNon_int, qcooked_int, qseq_int, qty_str, qisI_str, qisB_str, qisL_str, qisU_str, qisS_str, qisD_str, qisNon_str, qcooked_str, qseq_str, qty_lst, qisI_lst, qisB_lst, qisL_lst, qisU_lst, qisS_lst, qisD_lst, qisNon_lst, qcooked_lst, qseq_lst, qty_tup, qisI_tup, qisB_tup, qisL_tup, qisU_tup, qisS_tup, qisD_tup, qisNon_tup, qcooked_tup, qseq_tup, qty_dct, qisI_dct, qisB_dct, qisL_dct, qisU_dct, qisS_dct, qisD_dct, qisNon_dct, qcooked_dct, qseq_dct, qix_lst, qsl_lst, qix_tup, qsl_tup, qisNon_ln, qcooked_ln, and_assoc, exists_and_left, exists_eq_left, exists_eq_left', exists_eq_right]
      rfl
  · obtain ⟨a, b, c, d, rfl⟩ := hj
    rw [List.length_range]
    simp [startD, wipeD, dsRet, dsRetN, dsIf, dsSeq, dsNext, dsAsg, dsDrop, dsBreak, dsCont, dsPar, dsAug, dsFrz, dsApp, dsExt, dsPut, dsAugO, dsOwn, dsParOO, dsParDO, dsParDDO, diR3, rdRepTz, dsFrzA, dxRep, diOwn, dsRaise, deAnd, deOr, deNot, de1, de2, deB, deX, dxB, dxLst, deName, deC, deCall, deIxO, deLenO, deTup, deLst, daCons, daNil, daStar, deChain, dtChain, dtV, dtAnd, dtOr, dtNot, dtYes, deIf, deSl, doNone, doSome, rdAdd, rdSub, rdMul, rdMod, rdDiv, rdPow, rdI, rdIc, rdB, rdLt, rdLe, rdGt, rdGe, rdNeg, rdIs, rdEq, rdNe, rdIx, rdIsN, rdNotN, rdIsB, rdNotB, rdRev, rdSeats, rdCatL, rdCatT, rdRepL, rdLen, rdTuple, rdList, rxList, rdInt, rdMax2, rdMin2, dgName, dgTup, dgCons, dgNil, deRefused, rdRepr, rdNeS, rdEqL, rdNeL, rdRepT, rdIsLn, noOwn, diSeq, diEn, diZp, diR1, diR2, noX,  eqOk_int, eqOk_bl, eqOk_non, eqv_int, eqv_bl, eqv_non, atI_0, atI_1, atI_2, atI_3, qty_non, qisI_non, qisB_non, qisL_non, qisU_non, qisS_non, qisD_non, qisNon_non, qcooked_non, qseq_non, qty_bl, qisI_bl, qisB_bl, qisL_bl, qisU_bl, qisS_bl, qisD_bl, qisNon_bl, qcooked_bl, qseq_bl, qty_int, qisI_int, qisB_int, qisL_int, qisU_int, qisS_int, qisD_int, qisNon_int, qcooked_int, qseq_int, qty_str, qisI_str, qisB_str, qisL_str, qisU_str, qisS_str, qisD_str, qisNon_str, qcooked_str, qseq_str, qty_lst, qisI_lst, qisB_lst, qisL_lst, qisU_lst, qisS_lst, qisD_lst, qisNon_lst, qcooked_lst, qseq_lst, qty_tup, qisI_tup, qisB_tup, qisL_tup, qisU_tup, qisS_tup, qisD_tup, qisNon_tup, qcooked_tup, qseq_tup, qty_dct, qisI_dct, qisB_dct, qisL_dct, qisU_dct, qisS_dct, qisD_dct, qisNon_dct, qcooked_dct, qseq_dct, qix_lst, qsl_lst, qix_tup, qsl_tup, qisNon_ln, qcooked_ln, and_assoc, exists_and_left, exists_eq_left, exists_eq_left', exists_eq_right]
    exact o
end
end K15
end
-- F_15_told_best
section
set_option Elab.async false
set_option linter.all false
set_option maxRecDepth 100000
set_option maxHeartbeats 4000000
set_option autoImplicit false
namespace K15
open PySem PySem.Spec PyProof.Rows L2 Sd
section
variable {P : Program} {w : World} {K : PySem.W.Frag} {mg : Str → Option Value} {base : Heap}
theorem ok_told_best (T : Txt K mg) {f : Addr} {fd : FuncData} (F : FnP K "told_best" s_told_best f fd) (c_all_limits : Cl P w K mg base 1 "all_limits" sp_all_limits []) (c_is_less : Cl P w K mg base 1 "is_less" sp_is_less []) (c_worst_of : Cl P w K mg base 4 "worst_of" sp_worst_of [])  : FnOk P w K mg base (L2.CX P w) 5 f fd ["n", "fares"] (spD K sp_told_best) := by
  have sc := sc_told_best
  refine fnD F sc (fun F ds O h => by
    obtain ⟨_, _, _, e, _⟩ := h
    rw [e] <;> rfl) (fun cdv A outer s G E ds O hr h hE => ⟨_, (pssd_cons (psd_set (i := 2) sc.nd rfl (Or.inl rfl) pd_non)
  (pssd_cons (psd_for (passes_of rfl) (pid_seq (pd_call c_all_limits hr (by first | decide | omega) (pad_cons (pd_name (pv 0)) (pad_cons (pd_callB call_len_seq snd_len T.b_len (pad_cons (pd_name (pv 1)) pad_nil)) pad_nil)))) (pgd_name (i := 3) sc.nd rfl (Or.inl rfl))
  (pssd_cons (psd_set (i := 4) sc.nd rfl (Or.inl rfl) (pd_item (pd_call c_worst_of hr (by first | decide | omega) (pad_cons (pd_name (pv 0)) (pad_cons (pd_name (pv 1)) (pad_cons (pd_name (pv 3)) pad_nil)))) pd_int))
  (pssd_one (psd_if (ptd_w (pwd_or (ptd_isN (pd_name (pv 2)) pd_non) (pwd_or1 (ptd_val (pd_call c_is_less hr (by first | decide | omega) (pad_cons (pd_item (pd_name (pv 2)) pd_int) (pad_cons (pd_name (pv 4)) pad_nil)))))))
  (pssd_one (psd_set (i := 2) sc.nd rfl (Or.inl rfl) (pd_tup (pad_cons (pd_name (pv 4)) (pad_cons (pd_name (pv 3)) pad_nil)))))
  pssd_nil))))
  (pssd_one (psd_ret (pd_name (pv 2)))))), ?_⟩)
  obtain ⟨n, ft, F, rfl, h⟩ := h
  obtain ⟨hf, g, o⟩ := h
  simp [startD, wipeD, dsRet, dsRetN, dsIf, dsSeq, dsNext, dsAsg, dsDrop, dsBreak, dsCont, dsPar, dsAug, dsFrz, dsApp, dsExt, dsPut, dsAugO, dsOwn, dsParOO, dsParDO, dsParDDO, diR3, rdRepTz, dsFrzA, dxRep, diOwn, dsRaise, deAnd, deOr, deNot, de1, de2, deB, deX, dxB, dxLst, deName, deC, deCall, deIxO, deLenO, deTup, deLst, daCons, daNil, daStar, deChain, dtChain, dtV, dtAnd, dtOr, dtNot, dtYes, deIf, deSl, doNone, doSome, rdAdd, rdSub, rdMul, rdMod, rdDiv, rdPow, rdI, rdIc, rdB, rdLt, rdLe, rdGt, rdGe, rdNeg, rdIs, rdEq, rdNe, rdIx, rdIsN, rdNotN, rdIsB, rdNotB, rdRev, rdSeats, rdCatL, rdCatT, rdRepL, rdLen, rdTuple, rdList, rxList, rdInt, rdMax2, rdMin2, dgName, dgTup, dgCons, dgNil, deRefused, rdRepr, rdNeS, rdEqL, rdNeL, rdRepT, rdIsLn, noOwn, diSeq, diEn, diZp, diR1, diR2, noX,  eqOk_int, eqOk_bl, eqOk_non, eqv_int, eqv_bl, eqv_non, atI_0, atI_1, atI_2, atI_3, qty_non, qisI_non, qisB_non, qisL_non, qisU_non, qisS_non, qisD_non, qisNon_non, qcooked_non, qseq_non, qty_bl, qisI_bl, qisB_bl, qisL_bl, qisU_bl, qisS_bl, qisD_bl, qisNon_bl, qcooked_bl, qseq_bl, qty_int, qisI_int, qisB_int, qisL_int, qisU_int, qisS_int, qisD_int, qisNon_int, qcooked_int, qseq_int, qty_str, qisI_str, qisB_str, qisL_str, qisU_str, qisS_str, qisD_str, qisNon_str, qcooked_str, qseq_str, qty_lst, qisI_lst, qisB_lst, qisL_lst, qisU_lst, qisS_lst, qisD_lst, qisNon_lst, qcooked_lst, qseq_lst, qty_tup, qisI_tup, qisB_tup, qisL_tup, qisU_tup, qisS_tup, qisD_tup, qisNon_tup, qcooked_tup, qseq_tup, qty_dct, qisI_dct, qisB_dct, qisL_dct, qisU_dct, qisS_dct, qisD_dct, qisNon_dct, qcooked_dct, qseq_dct, qix_lst, qsl_lst, qix_tup, qsl_tup, qisNon_ln, qcooked_ln, and_assoc, exists_and_left, exists_eq_left, exists_eq_left', exists_eq_right, sp_all_limits, sp_is_less, sp_worst_of, dxLc_eq, dsFor_eq, rngD_0, rngD_eq, zipD_map, enumD_map0, hf]
  have h4 := g.c4
  have hc1 := g.c1
  refine ⟨n, rfl, F.length - 1, by omega, g.n12, by omega, ?_⟩
  refine fb_on (limsN n (F.length - 1)) (fun i δ' => ∃ a b : Sl, δ' = [.dat (.int (n : Int)), .dat ft, .dat (bD (bP n F i)), a, b]) ⟨_, _, rfl⟩ (fun i l δ' hi hj => ?_) (fun δ' hj => ?_)
  · obtain ⟨a, b, rfl⟩ := hj
    rw [bP_succ hi]
    have hm := List.mem_of_getElem? hi
    have gl := g.good hm
    obtain ⟨k, hk, hw, hw2⟩ := g.worst hm
    have gT := gl.T hk
    have gM := gl.M hk
    rcases bP_is g i with e | ⟨p, e, p1, p2, p3, p4⟩
    · rw [e]
      simp [startD, wipeD, dsRet, dsRetN, dsIf, dsSeq, dsNext, dsAsg, dsDrop, dsBreak, dsCont, dsPar, dsAug, dsFrz, dsApp, dsExt, dsPut, dsAugO, dsOwn, dsParOO, dsParDO, dsParDDO, diR3, rdRepTz, dsFrzA, dxRep, diOwn, dsRaise, deAnd, deOr, deNot, de1, de2, deB, deX, dxB, dxLst, deName, deC, deCall, deIxO, deLenO, deTup, deLst, daCons, daNil, daStar, deChain, dtChain, dtV, dtAnd, dtOr, dtNot, dtYes, deIf, deSl, doNone, doSome, rdAdd, rdSub, rdMul, rdMod, rdDiv, rdPow, rdI, rdIc, rdB, rdLt, rdLe, rdGt, rdGe, rdNeg, rdIs, rdEq, rdNe, rdIx, rdIsN, rdNotN, rdIsB, rdNotB, rdRev, rdSeats, rdCatL, rdCatT, rdRepL, rdLen, rdTuple, rdList, rxList, rdInt, rdMax2, rdMin2, dgName, dgTup, dgCons, dgNil, deRefused, rdRepr, rdNeS, rdEqL, rdNeL, rdRepT, rdIsLn, noOwn, diSeq, diEn, diZp, diR1, diR2, noX,  eqOk_int, eqOk_bl, eqOk_non, eqv_int, eqv_bl, eqv_non, atI_0, atI_1, atI_2, atI_3, qty_non, qisI_non, qisB_non, qisL_non, qisU_non, qisS_non, qisD_non, qisNon_non, qcooked_non, qseq_non, qty_bl, qisI_bl, qisB_bl, qisL_bl, qisU_bl, qisS_bl, qisD_bl, qisNon_bl, qcooked_bl, qseq_bl, qty_int, qisI_int, qisB_int, qisL_int, qisU_int, qisS_int, qisD_int, qisNon_int, qcooked_int, qseq_int, qty_str, qisI_str, qisB_str, qisL_str, qisU_str, qisS_str, qisD_str, qisNon_str, qcooked_str, qseq_str, qty_lst, qisI_lst, qisB_lst, qisL_lst, qisU_lst, qisS_lst, qisD_lst, qisNon_lst, qcooked_lst, qseq_lst, qty_tup, qisI_tup, qisB_tup, qisL_tup, qisU_tup, qisS_tup, qisD_tup, qisNon_tup, qcooked_tup, qseq_tup, qty_dct, qisI_dct, qisB_dct, qisL_dct, qisU_dct, qisS_dct, qisD_dct, qisNon_dct, qcooked_dct, qseq_dct, qix_lst, qsl_lst, qix_tup, qsl_tup, qisNon_ln, qcooked_ln, and_assoc, exists_and_left, exists_eq_left, exists_eq_left', exists_eq_right, sp_all_limits, sp_is_less, sp_worst_of, dxLc_eq, dsFor_eq, rngD_0, rngD_eq, zipD_map, enumD_map0, bD]
      refine ⟨n, rfl, F, hf, l, rfl, gl, fun k' hk' hw' => ?_⟩
      have ek : k' = k := by
        rw [hw] at hw'
        simp only [Option.some.injEq, Prod.mk.injEq] at hw'
        exact hw'.2.2.symm
      subst ek
      show _ = D.tup [lowD (worstTM n F l).1 (worstTM n F l).2, tupD l]
      rw [hw2]
    · rw [e]
      simp [startD, wipeD, dsRet, dsRetN, dsIf, dsSeq, dsNext, dsAsg, dsDrop, dsBreak, dsCont, dsPar, dsAug, dsFrz, dsApp, dsExt, dsPut, dsAugO, dsOwn, dsParOO, dsParDO, dsParDDO, diR3, rdRepTz, dsFrzA, dxRep, diOwn, dsRaise, deAnd, deOr, deNot, de1, de2, deB, deX, dxB, dxLst, deName, deC, deCall, deIxO, deLenO, deTup, deLst, daCons, daNil, daStar, deChain, dtChain, dtV, dtAnd, dtOr, dtNot, dtYes, deIf, deSl, doNone, doSome, rdAdd, rdSub, rdMul, rdMod, rdDiv, rdPow, rdI, rdIc, rdB, rdLt, rdLe, rdGt, rdGe, rdNeg, rdIs, rdEq, rdNe, rdIx, rdIsN, rdNotN, rdIsB, rdNotB, rdRev, rdSeats, rdCatL, rdCatT, rdRepL, rdLen, rdTuple, rdList, rxList, rdInt, rdMax2, rdMin2, dgName, dgTup, dgCons, dgNil, deRefused, rdRepr, rdNeS, rdEqL, rdNeL, rdRepT, rdIsLn, noOwn, diSeq, diEn, diZp, diR1, diR2, noX,  eqOk_int, eqOk_bl, eqOk_non, eqv_int, eqv_bl, eqv_non, atI_0, atI_1, atI_2, atI_3, qty_non, qisI_non, qisB_non, qisL_non, qisU_non, qisS_non, qisD_non, qisNon_non, qcooked_non, qseq_non, qty_bl, qisI_bl, qisB_bl, qisL_bl, qisU_bl, qisS_bl, qisD_bl, qisNon_bl, qcooked_bl, qseq_bl, qty_int, qisI_int, qisB_int, qisL_int, qisU_int, qisS_int, qisD_int, qisNon_int, qcooked_int, qseq_int, qty_str, qisI_str, qisB_str, qisL_str, qisU_str, qisS_str, qisD_str, qisNon_str, qcooked_str, qseq_str, qty_lst, qisI_lst, qisB_lst, qisL_lst, qisU_lst, qisS_lst, qisD_lst, qisNon_lst, qcooked_lst, qseq_lst, qty_tup, qisI_tup, qisB_tup, qisL_tup, qisU_tup, qisS_tup, qisD_tup, qisNon_tup, qcooked_tup, qseq_tup, qty_dct, qisI_dct, qisB_dct, qisL_dct, qisU_dct, qisS_dct, qisD_dct, qisNon_dct, qcooked_dct, qseq_dct, qix_lst, qsl_lst, qix_tup, qsl_tup, qisNon_ln, qcooked_ln, and_assoc, exists_and_left, exists_eq_left, exists_eq_left', exists_eq_right, sp_all_limits, sp_is_less, sp_worst_of, dxLc_eq, dsFor_eq, rngD_0, rngD_eq, zipD_map, enumD_map0, bD]
      refine ⟨n, rfl, F, hf, l, rfl, gl, fun k' hk' hw' => ?_⟩
      have ek : k' = k := by
        rw [hw] at hw'
        simp only [Option.some.injEq, Prod.mk.injEq] at hw'
        exact hw'.2.2.symm
      subst ek
      have l1 := low_in (a := p.1) (b := p.2.1) (by omega) (by omega) (by omega) (by omega)
      have l2 := low_in (a := Tf F l k') (b := Mf n F k') (by omega) (by omega) (by omega) (by omega)
      have ll := low_lessI (a := p.1) (b := p.2.1) (c := Tf F l k') (d := Mf n F k') (by omega) (by omega) (by omega) (by omega)
      refine ⟨_, _, rfl, _, _, rfl, l1.1, l1.2.1, l2.1, l2.2.1, ?_⟩
      have eb : bestStep (worstTM n F) (some p) l = if p.1 * (worstTM n F l).2 < (worstTM n F l).1 * p.2.1 then some ((worstTM n F l).1, (worstTM n F l).2, l) else some p := rfl
      rw [hw2] at eb
      rw [eb]
      by_cases cc : p.1 * Mf n F k' < Tf F l k' * p.2.1
      · rw [if_pos (ll.mpr cc), if_pos cc]
      · rw [if_neg (fun z => cc (ll.mp z)), if_neg cc]
  · obtain ⟨a, b, rfl⟩ := hj
    obtain ⟨p, hp⟩ := best_some (W := worstTM n F) (limsN n (F.length - 1)) none (.inl (lims_pos n _))
    have e : bP n F (limsN n (F.length - 1)).length = some p := by
      unfold bP
      rw [List.take_length]
      exact hp
    rw [e]
    simp [startD, wipeD, dsRet, dsRetN, dsIf, dsSeq, dsNext, dsAsg, dsDrop, dsBreak, dsCont, dsPar, dsAug, dsFrz, dsApp, dsExt, dsPut, dsAugO, dsOwn, dsParOO, dsParDO, dsParDDO, diR3, rdRepTz, dsFrzA, dxRep, diOwn, dsRaise, deAnd, deOr, deNot, de1, de2, deB, deX, dxB, dxLst, deName, deC, deCall, deIxO, deLenO, deTup, deLst, daCons, daNil, daStar, deChain, dtChain, dtV, dtAnd, dtOr, dtNot, dtYes, deIf, deSl, doNone, doSome, rdAdd, rdSub, rdMul, rdMod, rdDiv, rdPow, rdI, rdIc, rdB, rdLt, rdLe, rdGt, rdGe, rdNeg, rdIs, rdEq, rdNe, rdIx, rdIsN, rdNotN, rdIsB, rdNotB, rdRev, rdSeats, rdCatL, rdCatT, rdRepL, rdLen, rdTuple, rdList, rxList, rdInt, rdMax2, rdMin2, dgName, dgTup, dgCons, dgNil, deRefused, rdRepr, rdNeS, rdEqL, rdNeL, rdRepT, rdIsLn, noOwn, diSeq, diEn, diZp, diR1, diR2, noX,  eqOk_int, eqOk_bl, eqOk_non, eqv_int, eqv_bl, eqv_non, atI_0, atI_1, atI_2, atI_3, qty_non, qisI_non, qisB_non, qisL_non, qisU_non, qisS_non, qisD_non, qisNon_non, qcooked_non, qseq_non, qty_bl, qisI_bl, qisB_bl, qisL_bl, qisU_bl, qisS_bl, qisD_bl, qisNon_bl, qcooked_bl, qseq_bl, qty_int, qisI_int, qisB_int, qisL_int, qisU_int, qisS_int, qisD_int, qisNon_int, qcooked_int, qseq_int, qty_str, qisI_str, qisB_str, qisL_str, qisU_str, qisS_str, qisD_str, qisNon_str, qcooked_str, qseq_str, qty_lst, qisI_lst, qisB_lst, qisL_lst, qisU_lst, qisS_lst, qisD_lst, qisNon_lst, qcooked_lst, qseq_lst, qty_tup, qisI_tup, qisB_tup, qisL_tup, qisU_tup, qisS_tup, qisD_tup, qisNon_tup, qcooked_tup, qseq_tup, qty_dct, qisI_dct, qisB_dct, qisL_dct, qisU_dct, qisS_dct, qisD_dct, qisNon_dct, qcooked_dct, qseq_dct, qix_lst, qsl_lst, qix_tup, qsl_tup, qisNon_ln, qcooked_ln, and_assoc, exists_and_left, exists_eq_left, exists_eq_left', exists_eq_right, sp_all_limits, sp_is_less, sp_worst_of, bD]
    exact o p hp
end
end K15
end
-- F_15_best_limits
section
set_option Elab.async false
set_option linter.all false
set_option maxRecDepth 100000
set_option maxHeartbeats 4000000
set_option autoImplicit false
namespace K15
open PySem PySem.Spec PyProof.Rows L2 Sd
section
variable {P : Program} {w : World} {K : PySem.W.Frag} {mg : Str → Option Value} {base : Heap}
theorem ok_best_limits (T : Txt K mg) {f : Addr} {fd : FuncData} (F : FnP K "best_limits" s_best_limits f fd) (c_check_fares : Cl P w K mg base 3 "check_fares" sp_check_fares []) (c_told_best : Cl P w K mg base 5 "told_best" sp_told_best [])  : FnOk P w K mg base (L2.CX P w) 6 f fd ["n", "fares"] (spD K sp_best_limits) := by
  have sc := sc_best_limits
  refine fnD F sc (fun F ds O h => by
    obtain ⟨_, _, e, _⟩ := h
    rw [e] <;> rfl) (fun cdv A outer s G E ds O hr h hE => ⟨_, (pssd_cons (psd_drop (pd_callX c_check_fares hr (by first | decide | omega) hE (passes_call (takes_of rfl rfl rfl rfl) (fun _ _ _ _ z => z)) (pad_cons (pd_name (pv 0)) (pad_cons (pd_name (pv 1)) pad_nil))))
  (pssd_one (psd_ret (pd_item (pd_call c_told_best hr (by first | decide | omega) (pad_cons (pd_name (pv 0)) (pad_cons (pd_name (pv 1)) pad_nil))) pd_int)))), ?_⟩)
  obtain ⟨n, t, rfl, h⟩ := h
  obtain ⟨hn, ht, o1, o2, o3⟩ := h
  simp [startD, wipeD, dsRet, dsRetN, dsIf, dsSeq, dsNext, dsAsg, dsDrop, dsBreak, dsCont, dsPar, dsAug, dsFrz, dsApp, dsExt, dsPut, dsAugO, dsOwn, dsParOO, dsParDO, dsParDDO, diR3, rdRepTz, dsFrzA, dxRep, diOwn, dsRaise, deAnd, deOr, deNot, de1, de2, deB, deX, dxB, dxLst, deName, deC, deCall, deIxO, deLenO, deTup, deLst, daCons, daNil, daStar, deChain, dtChain, dtV, dtAnd, dtOr, dtNot, dtYes, deIf, deSl, doNone, doSome, rdAdd, rdSub, rdMul, rdMod, rdDiv, rdPow, rdI, rdIc, rdB, rdLt, rdLe, rdGt, rdGe, rdNeg, rdIs, rdEq, rdNe, rdIx, rdIsN, rdNotN, rdIsB, rdNotB, rdRev, rdSeats, rdCatL, rdCatT, rdRepL, rdLen, rdTuple, rdList, rxList, rdInt, rdMax2, rdMin2, dgName, dgTup, dgCons, dgNil, deRefused, rdRepr, rdNeS, rdEqL, rdNeL, rdRepT, rdIsLn, noOwn, diSeq, diEn, diZp, diR1, diR2, noX,  eqOk_int, eqOk_bl, eqOk_non, eqv_int, eqv_bl, eqv_non, atI_0, atI_1, atI_2, atI_3, qty_non, qisI_non, qisB_non, qisL_non, qisU_non, qisS_non, qisD_non, qisNon_non, qcooked_non, qseq_non, qty_bl, qisI_bl, qisB_bl, qisL_bl, qisU_bl, qisS_bl, qisD_bl, qisNon_bl, qcooked_bl, qseq_bl, qty_int, qisI_int, qisB_int, qisL_int, qisU_int, qisS_int, qisD_int, qisNon_int, qcooked_int, qseq_int, qty_str, qisI_str, qisB_str, qisL_str, qisU_str, qisS_str, qisD_str, qisNon_str, qcooked_str, qseq_str, qty_lst, qisI_lst, qisB_lst, qisL_lst, qisU_lst, qisS_lst, qisD_lst, qisNon_lst, qcooked_lst, qseq_lst, qty_tup, qisI_tup, qisB_tup, qisL_tup, qisU_tup, qisS_tup, qisD_tup, qisNon_tup, qcooked_tup, qseq_tup, qty_dct, qisI_dct, qisB_dct, qisL_dct, qisU_dct, qisS_dct, qisD_dct, qisNon_dct, qcooked_dct, qseq_dct, qix_lst, qsl_lst, qix_tup, qsl_tup, qisNon_ln, qcooked_ln, and_assoc, exists_and_left, exists_eq_left, exists_eq_left', exists_eq_right, sp_check_fares, sp_told_best, dxLc_eq, dsFor_eq, rngD_0, rngD_eq, zipD_map, enumD_map0, spFares, spLims, spAsked]
  refine ⟨hn, ht, o1, o2, fun a1 a2 => ?_⟩
  obtain ⟨N, F, h0, h1, g, o⟩ := o3 a1 a2
  exact ⟨N, h0, F, h1, g, fun a b c h => o (a, b, c) h⟩
end
end K15
end
-- F_15_best_share
section
set_option Elab.async false
set_option linter.all false
set_option maxRecDepth 100000
set_option maxHeartbeats 4000000
set_option autoImplicit false
namespace K15
open PySem PySem.Spec PyProof.Rows L2 Sd
section
variable {P : Program} {w : World} {K : PySem.W.Frag} {mg : Str → Option Value} {base : Heap}
theorem ok_best_share (T : Txt K mg) {f : Addr} {fd : FuncData} (F : FnP K "best_share" s_best_share f fd) (c_check_fares : Cl P w K mg base 3 "check_fares" sp_check_fares []) (c_told_best : Cl P w K mg base 5 "told_best" sp_told_best [])  : FnOk P w K mg base (L2.CX P w) 6 f fd ["n", "fares"] (spD K sp_best_share) := by
  have sc := sc_best_share
  refine fnD F sc (fun F ds O h => by
    obtain ⟨_, _, e, _⟩ := h
    rw [e] <;> rfl) (fun cdv A outer s G E ds O hr h hE => ⟨_, (pssd_cons (psd_drop (pd_callX c_check_fares hr (by first | decide | omega) hE (passes_call (takes_of rfl rfl rfl rfl) (fun _ _ _ _ z => z)) (pad_cons (pd_name (pv 0)) (pad_cons (pd_name (pv 1)) pad_nil))))
  (pssd_one (psd_ret (pd_item (pd_call c_told_best hr (by first | decide | omega) (pad_cons (pd_name (pv 0)) (pad_cons (pd_name (pv 1)) pad_nil))) pd_int)))), ?_⟩)
  obtain ⟨n, t, rfl, h⟩ := h
  obtain ⟨hn, ht, o1, o2, o3⟩ := h
  simp [startD, wipeD, dsRet, dsRetN, dsIf, dsSeq, dsNext, dsAsg, dsDrop, dsBreak, dsCont, dsPar, dsAug, dsFrz, dsApp, dsExt, dsPut, dsAugO, dsOwn, dsParOO, dsParDO, dsParDDO, diR3, rdRepTz, dsFrzA, dxRep, diOwn, dsRaise, deAnd, deOr, deNot, de1, de2, deB, deX, dxB, dxLst, deName, deC, deCall, deIxO, deLenO, deTup, deLst, daCons, daNil, daStar, deChain, dtChain, dtV, dtAnd, dtOr, dtNot, dtYes, deIf, deSl, doNone, doSome, rdAdd, rdSub, rdMul, rdMod, rdDiv, rdPow, rdI, rdIc, rdB, rdLt, rdLe, rdGt, rdGe, rdNeg, rdIs, rdEq, rdNe, rdIx, rdIsN, rdNotN, rdIsB, rdNotB, rdRev, rdSeats, rdCatL, rdCatT, rdRepL, rdLen, rdTuple, rdList, rxList, rdInt, rdMax2, rdMin2, dgName, dgTup, dgCons, dgNil, deRefused, rdRepr, rdNeS, rdEqL, rdNeL, rdRepT, rdIsLn, noOwn, diSeq, diEn, diZp, diR1, diR2, noX,  eqOk_int, eqOk_bl, eqOk_non, eqv_int, eqv_bl, eqv_non, atI_0, atI_1, atI_2, atI_3, qty_non, qisI_non, qisB_non, qisL_non, qisU_non, qisS_non, qisD_non, qisNon_non, qcooked_non, qseq_non, qty_bl, qisI_bl, qisB_bl, qisL_bl, qisU_bl, qisS_bl, qisD_bl, qisNon_bl, qcooked_bl, qseq_bl, qty_int, qisI_int, qisB_int, qisL_int, qisU_int, qisS_int, qisD_int, qisNon_int, qcooked_int, qseq_int, qty_str, qisI_str, qisB_str, qisL_str, qisU_str, qisS_str, qisD_str, qisNon_str, qcooked_str, qseq_str, qty_lst, qisI_lst, qisB_lst, qisL_lst, qisU_lst, qisS_lst, qisD_lst, qisNon_lst, qcooked_lst, qseq_lst, qty_tup, qisI_tup, qisB_tup, qisL_tup, qisU_tup, qisS_tup, qisD_tup, qisNon_tup, qcooked_tup, qseq_tup, qty_dct, qisI_dct, qisB_dct, qisL_dct, qisU_dct, qisS_dct, qisD_dct, qisNon_dct, qcooked_dct, qseq_dct, qix_lst, qsl_lst, qix_tup, qsl_tup, qisNon_ln, qcooked_ln, and_assoc, exists_and_left, exists_eq_left, exists_eq_left', exists_eq_right, sp_check_fares, sp_told_best, dxLc_eq, dsFor_eq, rngD_0, rngD_eq, zipD_map, enumD_map0, spFares, spLims, spAsked]
  refine ⟨hn, ht, o1, o2, fun a1 a2 => ?_⟩
  obtain ⟨N, F, h0, h1, g, o⟩ := o3 a1 a2
  exact ⟨N, h0, F, h1, g, fun a b c h => o (a, b, c) h⟩
end
end K15
end
-- F_15__law_taken
section
set_option Elab.async false
set_option linter.all false
set_option maxRecDepth 100000
set_option maxHeartbeats 4000000
set_option autoImplicit false
namespace K15
open PySem PySem.Spec PyProof.Rows L2 Sd
section
variable {P : Program} {w : World} {K : PySem.W.Frag} {mg : Str → Option Value} {base : Heap}
theorem sc__law_taken : FnScope ["row", "many", "found", "cell"] ["row", "many"] (defScope s__law_taken) := ⟨rfl, rfl, rfl, by decide +kernel, rfl, by decide +kernel, by decide +kernel⟩
theorem rdRow {σ : L2.St} {H : Hp} {Q : VK} {r : Addr} {xs : List V} {k : Int} {v : V} {i : Nat} (h0 : σ[i]? = some (some (.ref r))) (h : H r = some (.lst xs)) (hk : L2.atI xs k = some v) (q : Q v H) : tOp (rIxL K) (tVar i) (tC (.int k)) σ H Q := ⟨_, h0, r, xs, k, v, rfl, rfl, SqL.of h, hk, q⟩
theorem if_t {b : Bool} {p q : Prop} (h : b = true) (hp : p) : if b = true then p else q := by
  rw [if_pos h]
  exact hp
theorem if_f {b : Bool} {p q : Prop} (h : b = false) (hq : q) : if b = true then p else q := by
  rw [if_neg (by rw [h]; decide)]
  exact hq
theorem ok__law_taken (T : Txt K mg) {f : Addr} {fd : FuncData} (F : FnP K "_law_taken" s__law_taken f fd) : FnOk P w K mg base (L2.CX P w) 1 f fd ["row", "many"] (spD K sp__law_taken) := by
  have sc := sc__law_taken
  refine F.ok sc (fun vs H Q E ⟨Fs, B, ds, O, _, _, r, h, _⟩ => by
    obtain ⟨_, _, _, e, _⟩ := h
    rw [r.length, e] <;> rfl) fun cdv A outer s H vs Q E hr ⟨Fs, B, ds, O, he, hf, rp, h, q, qx⟩ => ?_
  obtain ⟨r, sa, many, rfl, hrow, hm0, hm1, o⟩ := h
  cases rp with
  | cons h1 rp =>
  cases rp with
  | cons h2 rp =>
  cases rp
  cases h1
  cases h2
  obtain ⟨hB, ⟨ns, hns⟩, i, sd, c, hr0, hi0, hs0, hs1⟩ := hf.row r sa hrow
  have exB : ∀ u : HO, Evl.Ex B (upd H r u) := fun u a o h => by
    have ha : a ≠ r := fun z => by
      rw [z, hB] at h
      cases h
    rw [upd_ne ha]
    exact he _ _ h
  have fin : ∀ (n : Int) (i' s' c' : Int) (H' : Hp), 0 ≤ n → n < many → H' = upd H r (.lst [.ref sa, .int i', .int s', .int c']) → 0 ≤ i' → 0 ≤ s' → s' < 2147483647 → Q (.int n) H' := by
    intro n i' s' c' H' n0 n1 e a1 a2 a3
    subst e
    have eB := exB (.lst [.ref sa, .int i', .int s', .int c'])
    have hne : ∀ a o, H a = some o → (∀ ps, o ≠ .lst ps) → a ≠ r := fun a o h1 h2 z => by
      rw [z, hr0] at h1
      cases h1
      exact h2 _ rfl
    refine q _ (.int n) B _ ⟨Evl.Ex.refl B, eB, fun a h1 h2 => ⟨h1, fun hs => upd_ne fun z => hs (.inl ⟨sa, by rw [z]; exact hrow⟩)⟩, ?_⟩ (o n n0 n1) (.int n)
    refine ⟨fun r' sa' h' => ?_, fun p hp => ?_, hf.tb, hf.nt⟩
    · rw [hrow] at h'
      cases h'
      exact ⟨hB, ⟨ns, hns⟩, i', s', c', upd_same, a1, a2, a3⟩
    · obtain ⟨ps, t1, t2, t3⟩ := hf.tab p hp
      refine ⟨ps, ?_, t2, fun pos cv hc => ?_⟩
      · rw [upd_ne (hne _ _ t1 fun _ z => by cases z)]
        exact t1
      · obtain ⟨c0, e1, e2⟩ := t3 pos cv hc
        refine ⟨c0, e1, ?_⟩
        rw [upd_ne (hne _ _ e2 fun _ z => by cases z)]
        exact e2
  have hL : SqL K H sa (ns.map V.int) := exL he hns
  refine ⟨_, pss_cons (ps_if (pt_cmpR op_gt (pe_ix ix_list (pv 0) pe_int (fun _ _ => rfl)) pe_int (nomark _))
      (pss_cons (ps_set (i := 2) sc.nd rfl (Or.inl rfl) (pe_op op_mod (pe_callTy call_int1 (by rfl) T.b_int (by decide +kernel) (pa_cons (pe_ix ix_list (pv 0) pe_int (fun _ _ => rfl)) pa_nil)) (pv 1)))
        (pss_cons (ps_asg (pe_op op_fdiv (pe_ix ix_list (pv 0) pe_int (fun _ _ => rfl)) (pv 1)) (pg_sub (pv 0) pe_int set_list))
          (pss_one (ps_ret (pv 2))))) pss_nil)
    (pss_cons (ps_asg (pe_op op_add (pe_ix ix_list (pv 0) pe_int (fun _ _ => rfl)) pe_int) (pg_sub (pv 0) pe_int set_list))
    (pss_cons (ps_if (pt_cmpR op_gt (pe_ix ix_list (pv 0) pe_int (fun _ _ => rfl)) (pe_callB call_len_seq (by rfl) T.b_len (by decide +kernel) (pa_cons (pe_ix ix_list (pv 0) pe_int (fun _ _ => rfl)) pa_nil)) (nomark _))
      (pss_cons (ps_asg (pe_op op_mod (pe_callTy call_int1 (by rfl) T.b_int (by decide +kernel) (pa_cons (pe_op op_add (pe_op op_mul (pe_ix ix_list (pv 0) pe_int (fun _ _ => rfl)) pe_int) pe_int) pa_nil)) pe_int) (pg_sub (pv 0) pe_int set_list))
        (pss_one (ps_ret (pe_op op_mod (pe_callTy call_int1 (by rfl) T.b_int (by decide +kernel) (pa_cons (pe_op op_fdiv (pe_ix ix_list (pv 0) pe_int (fun _ _ => rfl)) pe_int) pa_nil)) (pv 1))))) pss_nil)
    (pss_cons (ps_set (i := 3) sc.nd rfl (Or.inl rfl) (pe_ix ix_list (pe_ix ix_list (pv 0) pe_int (fun _ _ => rfl)) (pe_op op_sub (pe_ix ix_list (pv 0) pe_int (fun _ _ => rfl)) pe_int) (fun _ _ => rfl)))
    (pss_cons (ps_asg (pe_op op_mod (pe_callTy call_int1 (by rfl) T.b_int (by decide +kernel) (pa_cons (pe_op op_add (pe_op op_add (pe_op op_mul (pe_ix ix_list (pv 0) pe_int (fun _ _ => rfl)) pe_int) (pv 3)) pe_int) pa_nil)) pe_int) (pg_sub (pv 0) pe_int set_list))
    (pss_cons (ps_if (pt_cmpR op_ge (pv 3) (pe_op op_pow pe_int pe_int) (nomark _))
      (pss_one (ps_asg (pe_op op_fdiv (pv 3) (pv 1)) (pg_sub (pv 0) pe_int set_list))) pss_nil)
    (pss_one (ps_ret (pe_op op_mod (pe_callTy call_int1 (by rfl) T.b_int (by decide +kernel) (pa_cons (pv 3) pa_nil)) (pv 1))))))))), ?_⟩
  have hmod : ∀ x : Int, 0 ≤ x % many ∧ x % many < many := fun x => ⟨Int.emod_nonneg _ (by omega), Int.emod_lt_of_pos _ hm0⟩
  have hmod2 : ∀ x : Int, 0 ≤ x % 2147483647 ∧ x % 2147483647 < 2147483647 := fun x => ⟨Int.emod_nonneg _ (by omega), Int.emod_lt_of_pos _ (by omega)⟩
  refine rdRow (v := .int c) rfl hr0 rfl ⟨c, 0, rfl, rfl, _, rfl, ?_⟩
  by_cases hc : 0 < c
  · refine if_t (decide_eq_true hc) ?_
    refine rdRow (v := .int c) rfl hr0 rfl (.inl ⟨c, rfl, ?_⟩)
    refine ⟨_, rfl, c, many, rfl, rfl, hm0, ?_⟩
    refine rdRow (v := .int c) rfl hr0 rfl ⟨_, rfl, c, many, rfl, rfl, ⟨hm0, hm1⟩, ?_⟩
    refine ⟨_, rfl, r, _, 3, 3, rfl, rfl, hr0, rfl, ?_⟩
    exact ⟨_, rfl, fin _ i sd (c / many) _ (hmod c).1 (hmod c).2 rfl hi0 hs0 hs1⟩
  · refine if_f (decide_eq_false hc) ?_
    refine rdRow (v := .int i) rfl hr0 rfl ⟨i, 1, rfl, rfl, ?_⟩
    refine ⟨_, rfl, r, _, 1, 1, rfl, rfl, hr0, rfl, ?_⟩
    have hr1 : upd H r (.lst [.ref sa, .int (i + 1), .int sd, .int c]) r = some (.lst [.ref sa, .int (i + 1), .int sd, .int c]) := upd_same
    show tSeq _ _ _ _ (upd H r (.lst [.ref sa, .int (i + 1), .int sd, .int c]))
    generalize hH1 : upd H r (.lst [.ref sa, .int (i + 1), .int sd, .int c]) = H1 at hr1 ⊢
    have hL1 : SqL K H1 sa (ns.map V.int) := by
      rw [← hH1]
      exact exL (exB _) hns
    have up1 : ∀ u, upd H1 r u = upd H r u := fun u => by
      rw [← hH1]
      exact upd_upd
    refine rdRow (v := .int (i + 1)) rfl hr1 rfl ?_
    refine rdRow (v := .ref sa) rfl hr1 rfl ⟨sa, _, rfl, .inl hL1, ?_⟩
    refine ⟨i + 1, (ns.map V.int).length, rfl, rfl, _, rfl, ?_⟩
    by_cases hl : ((ns.map V.int).length : Int) < i + 1
    · refine if_t (decide_eq_true hl) ?_
      refine rdRow (v := .int sd) rfl hr1 rfl ⟨sd, 48271, rfl, rfl, .inr ⟨by decide, by decide⟩, ?_⟩
      refine ⟨_, 11, rfl, rfl, .inl ⟨_, rfl, ?_⟩⟩
      refine ⟨_, 2147483647, rfl, rfl, (show (0 : Int) < 2147483647 by decide), ?_⟩
      refine ⟨_, rfl, r, _, 2, 2, rfl, rfl, hr1, rfl, ?_⟩
      rw [up1]
      refine rdRow (v := .int ((sd * 48271 + 11) % 2147483647)) rfl upd_same rfl ⟨_, 7, rfl, rfl, ⟨by decide, by decide⟩, .inl ⟨_, rfl, ?_⟩⟩
      refine ⟨_, rfl, _, many, rfl, rfl, hm0, ?_⟩
      exact fin _ (i + 1) _ c _ (hmod _).1 (hmod _).2 rfl (by omega) (hmod2 _).1 (hmod2 _).2
    · refine if_f (decide_eq_false hl) ?_
      obtain ⟨cell, hcell⟩ : ∃ cell : Int, L2.atI (ns.map V.int) (i + 1 - 1) = some (.int cell) := by
        have h1 : i.toNat < ns.length := by
          rw [List.length_map] at hl
          omega
        refine ⟨ns[i.toNat], ?_⟩
        rw [show i + 1 - 1 = i by omega, atI_pos hi0, List.getElem?_map, List.getElem?_eq_getElem h1]
        rfl
      refine rdRow (v := .ref sa) rfl hr1 rfl ?_
      refine rdRow (v := .int (i + 1)) rfl hr1 rfl ⟨i + 1, 1, rfl, rfl, ?_⟩
      refine ⟨sa, _, _, _, rfl, rfl, hL1, hcell, ?_⟩
      refine rdRow (v := .int sd) rfl hr1 rfl ⟨sd, 48271, rfl, rfl, .inr ⟨by decide, by decide⟩, ?_⟩
      refine ⟨_, rfl, _, cell, rfl, rfl, ?_⟩
      refine ⟨_, 11, rfl, rfl, .inl ⟨_, rfl, ?_⟩⟩
      refine ⟨_, 2147483647, rfl, rfl, (show (0 : Int) < 2147483647 by decide), ?_⟩
      refine ⟨_, rfl, r, _, 2, 2, rfl, rfl, hr1, rfl, ?_⟩
      rw [up1]
      refine ⟨_, rfl, 10, 18, rfl, rfl, ⟨by decide, by decide, by decide⟩, ?_⟩
      refine ⟨cell, _, rfl, rfl, _, rfl, ?_⟩
      have last : ∀ c' : Int, ∀ H' : Hp, H' = upd H r (.lst [.ref sa, .int (i + 1), .int ((sd * 48271 + cell + 11) % 2147483647), .int c']) → Q (.int (cell % many)) H' := fun c' H' e =>
        fin _ (i + 1) _ c' _ (hmod _).1 (hmod _).2 e (by omega) (hmod2 _).1 (hmod2 _).2
      by_cases h18 : (10 : Int) ^ (18 : Int).toNat ≤ cell
      · refine if_t (decide_eq_true h18) ?_
        refine ⟨_, rfl, _, rfl, cell, many, rfl, rfl, ⟨hm0, hm1⟩, ?_⟩
        refine ⟨_, rfl, r, _, 3, 3, rfl, rfl, upd_same, rfl, ?_⟩
        refine ⟨_, rfl, .inl ⟨_, rfl, ?_⟩⟩
        refine ⟨_, rfl, _, many, rfl, rfl, hm0, ?_⟩
        exact last _ _ upd_upd
      · refine if_f (decide_eq_false h18) ?_
        refine ⟨_, rfl, .inl ⟨_, rfl, ?_⟩⟩
        refine ⟨_, rfl, _, many, rfl, rfl, hm0, ?_⟩
        exact last _ _ rfl

end
end K15
end
-- F_15__law_pick
section
set_option Elab.async false
set_option linter.all false
set_option maxRecDepth 100000
set_option maxHeartbeats 4000000
set_option autoImplicit false
namespace K15
open PySem PySem.Spec PyProof.Rows L2 Sd
section
variable {P : Program} {w : World} {K : PySem.W.Frag} {mg : Str → Option Value} {base : Heap}
theorem ok__law_pick (T : Txt K mg) {f : Addr} {fd : FuncData} (F : FnP K "_law_pick" s__law_pick f fd) (c__law_taken : Cl P w K mg base 1 "_law_taken" sp__law_taken [])  : FnOk P w K mg base (L2.CX P w) 2 f fd ["row", "some"] (spD K sp__law_pick) := by
  have sc := sc__law_pick
  refine fnD F sc (fun F ds O h => by
    obtain ⟨_, _, _, _, e, _⟩ := h
    rw [e] <;> rfl) (fun cdv A outer s G E ds O hr h hE => ⟨_, (pssd_one (psd_ret (pd_item (pd_name (pv 1)) (pd_call c__law_taken hr (by first | decide | omega) (pad_cons (pd_name (pv 0)) (pad_cons (pd_callB call_len_seq snd_len T.b_len (pad_cons (pd_name (pv 1)) pad_nil)) pad_nil)))))), ?_⟩)
  obtain ⟨r, sa, d, xs, rfl, h⟩ := h
  obtain ⟨hrow, hs, h0, h1, o⟩ := h
  simp [startD, wipeD, dsRet, dsRetN, dsIf, dsSeq, dsNext, dsAsg, dsDrop, dsBreak, dsCont, dsPar, dsAug, dsFrz, dsApp, dsExt, dsPut, dsAugO, dsOwn, dsParOO, dsParDO, dsParDDO, diR3, rdRepTz, dsFrzA, dxRep, diOwn, dsRaise, deAnd, deOr, deNot, de1, de2, deB, deX, dxB, dxLst, deName, deC, deCall, deIxO, deLenO, deTup, deLst, daCons, daNil, daStar, deChain, dtChain, dtV, dtAnd, dtOr, dtNot, dtYes, deIf, deSl, doNone, doSome, rdAdd, rdSub, rdMul, rdMod, rdDiv, rdPow, rdI, rdIc, rdB, rdLt, rdLe, rdGt, rdGe, rdNeg, rdIs, rdEq, rdNe, rdIx, rdIsN, rdNotN, rdIsB, rdNotB, rdRev, rdSeats, rdCatL, rdCatT, rdRepL, rdLen, rdTuple, rdList, rxList, rdInt, rdMax2, rdMin2, dgName, dgTup, dgCons, dgNil, deRefused, rdRepr, rdNeS, rdEqL, rdNeL, rdRepT, rdIsLn, noOwn, diSeq, diEn, diZp, diR1, diR2, noX,  eqOk_int, eqOk_bl, eqOk_non, eqv_int, eqv_bl, eqv_non, atI_0, atI_1, atI_2, atI_3, qty_non, qisI_non, qisB_non, qisL_non, qisU_non, qisS_non, qisD_non, qisNon_non, qcooked_non, qseq_non, qty_bl, qisI_bl, qisB_bl, qisL_bl, qisU_bl, qisS_bl, qisD_bl, qisNon_bl, qcooked_bl, qseq_bl, qty_int, qisI_int, qisB_int, qisL_int, qisU_int, qisS_int, qisD_int, qisNon_int, qcooked_int, qseq_int, qty_str, qisI_str, qisB_str, qisL_str, qisU_str, qisS_str, qisD_str, qisNon_str, qcooked_str, qseq_str, qty_lst, qisI_lst, qisB_lst, qisL_lst, qisU_lst, qisS_lst, qisD_lst, qisNon_lst, qcooked_lst, qseq_lst, qty_tup, qisI_tup, qisB_tup, qisL_tup, qisU_tup, qisS_tup, qisD_tup, qisNon_tup, qcooked_tup, qseq_tup, qty_dct, qisI_dct, qisB_dct, qisL_dct, qisU_dct, qisS_dct, qisD_dct, qisNon_dct, qcooked_dct, qseq_dct, qix_lst, qsl_lst, qix_tup, qsl_tup, qisNon_ln, qcooked_ln, and_assoc, exists_and_left, exists_eq_left, exists_eq_left', exists_eq_right, sp__law_taken, hs]
  refine ⟨⟨sa, hrow⟩, h0, by omega, fun n n0 n1 => ?_⟩
  have hn : n.toNat < xs.length := by omega
  exact ⟨xs[n.toNat], by rw [ix_of hs, atI_pos n0, List.getElem?_eq_getElem hn], o _ (List.getElem_mem hn)⟩
end
end K15
end
-- F_15__law_alike
section
set_option Elab.async false
set_option linter.all false
set_option maxRecDepth 100000
set_option maxHeartbeats 4000000
set_option autoImplicit false
namespace K15
open PySem PySem.Spec PyProof.Rows L2 Sd
section
variable {P : Program} {w : World} {K : PySem.W.Frag} {mg : Str → Option Value} {base : Heap}
theorem alike_step (T : Txt K mg) {f : Addr} {fd : FuncData} (F : FnP K "_law_alike" s__law_alike f fd) (n k : Nat) (c__law_alike : Cl P w K mg base k "_law_alike" (spAlike n) []) : FnOk P w K mg base (L2.CX P w) (k + 1) f fd ["found", "due"] (spD K (spAlike (n + 1))) := by
  have sc := sc__law_alike
  refine fnD F sc (fun F ds O h => by
    obtain ⟨_, e, _⟩ := h
    rw [e] <;> rfl) (fun cdv A outer s G E ds O hr h hE => ⟨_, (pssd_cons (psd_if (ptd_val (pd_is2 kit_tuple kit_list T.b_isinstance T.b_tuple T.b_list (by decide +kernel) (by decide +kernel) (pd_name (pv 1))))
  (pssd_cons (psd_if (ptd_w (pwd_or (ptd_not (ptd_val (pd_is2 kit_tuple kit_list T.b_isinstance T.b_tuple T.b_list (by decide +kernel) (by decide +kernel) (pd_name (pv 0))))) (pwd_or1 (ptd_ne hr.units (pd_is kit_list T.b_isinstance T.b_list (by decide +kernel) (pd_name (pv 0))) (pd_is kit_list T.b_isinstance T.b_list (by decide +kernel) (pd_name (pv 1)))))))
  (pssd_one (psd_ret pd_bl))
  pssd_nil)
  (pssd_cons (psd_if (ptd_ne hr.units (pd_callB call_len_seq snd_len T.b_len (pad_cons (pd_name (pv 0)) pad_nil)) (pd_callB call_len_seq snd_len T.b_len (pad_cons (pd_name (pv 1)) pad_nil)))
  (pssd_one (psd_ret pd_bl))
  pssd_nil)
  (pssd_one (psd_ret (pd_eq hr.units (pd_x (pxd_lc (own := [(("k" : Str), 2)]) sc.nd (pid_r1 T.b_range (pad_cons (pd_callB call_len_seq snd_len T.b_len (pad_cons (pd_name (pv 1)) pad_nil)) pad_nil)) (by kernel_rfl) (fun _ _ _ _ _ => (pgc_name (i := 2) sc.nd rfl (by first | exact Or.inl rfl | exact Or.inr rfl) (by decide))) (fun _ _ _ _ _ => (ptsd_one (ptd_not (ptd_val (pd_call c__law_alike hr (by first | decide | omega) (pad_cons (pd_item (pd_name (pv 0)) (pd_name (pv 2))) (pad_cons (pd_item (pd_name (pv 1)) (pd_name (pv 2))) pad_nil))))))) (fun _ _ _ _ _ => (pd_name (pv 2))))) (pd_lst pad_nil))))))
  pssd_nil)
  (pssd_cons (psd_if (ptd_val (pd_is kit_dict T.b_isinstance T.b_dict (by decide +kernel) (pd_name (pv 1))))
  (pssd_cons (psd_if (ptd_w (pwd_or (ptd_not (ptd_val (pd_is kit_dict T.b_isinstance T.b_dict (by decide +kernel) (pd_name (pv 0))))) (pwd_or1 (ptd_ne hr.units (pd_callTy call_list_of snd_list T.b_list (pad_cons (pd_name (pv 0)) pad_nil)) (pd_callTy call_list_of snd_list T.b_list (pad_cons (pd_name (pv 1)) pad_nil))))))
  (pssd_one (psd_ret pd_bl))
  pssd_nil)
  (pssd_one (psd_ret (pd_eq hr.units (pd_x (pxd_lc (own := [(("key" : Str), 3)]) sc.nd (pid_seq (pd_name (pv 1))) (by kernel_rfl) (fun _ _ _ _ _ => (pgc_name (i := 3) sc.nd rfl (by first | exact Or.inl rfl | exact Or.inr rfl) (by decide))) (fun _ _ _ _ _ => (ptsd_one (ptd_not (ptd_val (pd_call c__law_alike hr (by first | decide | omega) (pad_cons (pd_item (pd_name (pv 0)) (pd_name (pv 3))) (pad_cons (pd_item (pd_name (pv 1)) (pd_name (pv 3))) pad_nil))))))) (fun _ _ _ _ _ => (pd_name (pv 3))))) (pd_lst pad_nil)))))
  pssd_nil)
  (pssd_cons (psd_if (ptd_w (pwd_or (ptd_isN (pd_name (pv 1)) pd_non) (pwd_or1 (ptd_val (pd_is kit_str T.b_isinstance T.b_str (by decide +kernel) (pd_name (pv 1)))))))
  (pssd_one (psd_ret (pd_and (pd_eq hr.units (pd_name (pv 0)) (pd_name (pv 1))) (pd_one (pd_eq hr.units (pd_is kit_str T.b_isinstance T.b_str (by decide +kernel) (pd_name (pv 0))) (pd_is kit_str T.b_isinstance T.b_str (by decide +kernel) (pd_name (pv 1))))))))
  pssd_nil)
  (pssd_one (psd_ret (pd_and (pd_is kit_int T.b_isinstance T.b_int (by decide +kernel) (pd_name (pv 0))) (pd_and (pd_eq hr.units (pd_is kit_bool T.b_isinstance T.b_bool (by decide +kernel) (pd_name (pv 0))) (pd_is kit_bool T.b_isinstance T.b_bool (by decide +kernel) (pd_name (pv 1)))) (pd_one (pd_eq hr.units (pd_name (pv 0)) (pd_name (pv 1))))))))))), ?_⟩)
  obtain ⟨d, rfl, ha, o⟩ := h
  cases d with
  | non =>
    simp [startD, wipeD, dsRet, dsRetN, dsIf, dsSeq, dsNext, dsAsg, dsDrop, dsBreak, dsCont, dsPar, dsAug, dsFrz, dsApp, dsExt, dsPut, dsAugO, dsOwn, dsParOO, dsParDO, dsParDDO, diR3, rdRepTz, dsFrzA, dxRep, diOwn, dsRaise, deAnd, deOr, deNot, de1, de2, deB, deX, dxB, dxLst, deName, deC, deCall, deIxO, deLenO, deTup, deLst, daCons, daNil, daStar, deChain, dtChain, dtV, dtAnd, dtOr, dtNot, dtYes, deIf, deSl, doNone, doSome, rdAdd, rdSub, rdMul, rdMod, rdDiv, rdPow, rdI, rdIc, rdB, rdLt, rdLe, rdGt, rdGe, rdNeg, rdIs, rdEq, rdNe, rdIx, rdIsN, rdNotN, rdIsB, rdNotB, rdRev, rdSeats, rdCatL, rdCatT, rdRepL, rdLen, rdTuple, rdList, rxList, rdInt, rdMax2, rdMin2, dgName, dgTup, dgCons, dgNil, deRefused, rdRepr, rdNeS, rdEqL, rdNeL, rdRepT, rdIsLn, noOwn, diSeq, diEn, diZp, diR1, diR2, noX,  eqOk_int, eqOk_bl, eqOk_non, eqv_int, eqv_bl, eqv_non, atI_0, atI_1, atI_2, atI_3, qty_non, qisI_non, qisB_non, qisL_non, qisU_non, qisS_non, qisD_non, qisNon_non, qcooked_non, qseq_non, qty_bl, qisI_bl, qisB_bl, qisL_bl, qisU_bl, qisS_bl, qisD_bl, qisNon_bl, qcooked_bl, qseq_bl, qty_int, qisI_int, qisB_int, qisL_int, qisU_int, qisS_int, qisD_int, qisNon_int, qcooked_int, qseq_int, qty_str, qisI_str, qisB_str, qisL_str, qisU_str, qisS_str, qisD_str, qisNon_str, qcooked_str, qseq_str, qty_lst, qisI_lst, qisB_lst, qisL_lst, qisU_lst, qisS_lst, qisD_lst, qisNon_lst, qcooked_lst, qseq_lst, qty_tup, qisI_tup, qisB_tup, qisL_tup, qisU_tup, qisS_tup, qisD_tup, qisNon_tup, qcooked_tup, qseq_tup, qty_dct, qisI_dct, qisB_dct, qisL_dct, qisU_dct, qisS_dct, qisD_dct, qisNon_dct, qcooked_dct, qseq_dct, qix_lst, qsl_lst, qix_tup, qsl_tup, qisNon_ln, qcooked_ln, and_assoc, exists_and_left, exists_eq_left, exists_eq_left', exists_eq_right, dxLc_eq, dsFor_eq, rngD_0, rngD_eq, zipD_map, enumD_map0, D.isNon]
    exact o
  | bl b =>
    simp [startD, wipeD, dsRet, dsRetN, dsIf, dsSeq, dsNext, dsAsg, dsDrop, dsBreak, dsCont, dsPar, dsAug, dsFrz, dsApp, dsExt, dsPut, dsAugO, dsOwn, dsParOO, dsParDO, dsParDDO, diR3, rdRepTz, dsFrzA, dxRep, diOwn, dsRaise, deAnd, deOr, deNot, de1, de2, deB, deX, dxB, dxLst, deName, deC, deCall, deIxO, deLenO, deTup, deLst, daCons, daNil, daStar, deChain, dtChain, dtV, dtAnd, dtOr, dtNot, dtYes, deIf, deSl, doNone, doSome, rdAdd, rdSub, rdMul, rdMod, rdDiv, rdPow, rdI, rdIc, rdB, rdLt, rdLe, rdGt, rdGe, rdNeg, rdIs, rdEq, rdNe, rdIx, rdIsN, rdNotN, rdIsB, rdNotB, rdRev, rdSeats, rdCatL, rdCatT, rdRepL, rdLen, rdTuple, rdList, rxList, rdInt, rdMax2, rdMin2, dgName, dgTup, dgCons, dgNil, deRefused, rdRepr, rdNeS, rdEqL, rdNeL, rdRepT, rdIsLn, noOwn, diSeq, diEn, diZp, diR1, diR2, noX,  eqOk_int, eqOk_bl, eqOk_non, eqv_int, eqv_bl, eqv_non, atI_0, atI_1, atI_2, atI_3, qty_non, qisI_non, qisB_non, qisL_non, qisU_non, qisS_non, qisD_non, qisNon_non, qcooked_non, qseq_non, qty_bl, qisI_bl, qisB_bl, qisL_bl, qisU_bl, qisS_bl, qisD_bl, qisNon_bl, qcooked_bl, qseq_bl, qty_int, qisI_int, qisB_int, qisL_int, qisU_int, qisS_int, qisD_int, qisNon_int, qcooked_int, qseq_int, qty_str, qisI_str, qisB_str, qisL_str, qisU_str, qisS_str, qisD_str, qisNon_str, qcooked_str, qseq_str, qty_lst, qisI_lst, qisB_lst, qisL_lst, qisU_lst, qisS_lst, qisD_lst, qisNon_lst, qcooked_lst, qseq_lst, qty_tup, qisI_tup, qisB_tup, qisL_tup, qisU_tup, qisS_tup, qisD_tup, qisNon_tup, qcooked_tup, qseq_tup, qty_dct, qisI_dct, qisB_dct, qisL_dct, qisU_dct, qisS_dct, qisD_dct, qisNon_dct, qcooked_dct, qseq_dct, qix_lst, qsl_lst, qix_tup, qsl_tup, qisNon_ln, qcooked_ln, and_assoc, exists_and_left, exists_eq_left, exists_eq_left', exists_eq_right, dxLc_eq, dsFor_eq, rngD_0, rngD_eq, zipD_map, enumD_map0, D.isNon]
    exact o
  | int i =>
    simp [startD, wipeD, dsRet, dsRetN, dsIf, dsSeq, dsNext, dsAsg, dsDrop, dsBreak, dsCont, dsPar, dsAug, dsFrz, dsApp, dsExt, dsPut, dsAugO, dsOwn, dsParOO, dsParDO, dsParDDO, diR3, rdRepTz, dsFrzA, dxRep, diOwn, dsRaise, deAnd, deOr, deNot, de1, de2, deB, deX, dxB, dxLst, deName, deC, deCall, deIxO, deLenO, deTup, deLst, daCons, daNil, daStar, deChain, dtChain, dtV, dtAnd, dtOr, dtNot, dtYes, deIf, deSl, doNone, doSome, rdAdd, rdSub, rdMul, rdMod, rdDiv, rdPow, rdI, rdIc, rdB, rdLt, rdLe, rdGt, rdGe, rdNeg, rdIs, rdEq, rdNe, rdIx, rdIsN, rdNotN, rdIsB, rdNotB, rdRev, rdSeats, rdCatL, rdCatT, rdRepL, rdLen, rdTuple, rdList, rxList, rdInt, rdMax2, rdMin2, dgName, dgTup, dgCons, dgNil, deRefused, rdRepr, rdNeS, rdEqL, rdNeL, rdRepT, rdIsLn, noOwn, diSeq, diEn, diZp, diR1, diR2, noX,  eqOk_int, eqOk_bl, eqOk_non, eqv_int, eqv_bl, eqv_non, atI_0, atI_1, atI_2, atI_3, qty_non, qisI_non, qisB_non, qisL_non, qisU_non, qisS_non, qisD_non, qisNon_non, qcooked_non, qseq_non, qty_bl, qisI_bl, qisB_bl, qisL_bl, qisU_bl, qisS_bl, qisD_bl, qisNon_bl, qcooked_bl, qseq_bl, qty_int, qisI_int, qisB_int, qisL_int, qisU_int, qisS_int, qisD_int, qisNon_int, qcooked_int, qseq_int, qty_str, qisI_str, qisB_str, qisL_str, qisU_str, qisS_str, qisD_str, qisNon_str, qcooked_str, qseq_str, qty_lst, qisI_lst, qisB_lst, qisL_lst, qisU_lst, qisS_lst, qisD_lst, qisNon_lst, qcooked_lst, qseq_lst, qty_tup, qisI_tup, qisB_tup, qisL_tup, qisU_tup, qisS_tup, qisD_tup, qisNon_tup, qcooked_tup, qseq_tup, qty_dct, qisI_dct, qisB_dct, qisL_dct, qisU_dct, qisS_dct, qisD_dct, qisNon_dct, qcooked_dct, qseq_dct, qix_lst, qsl_lst, qix_tup, qsl_tup, qisNon_ln, qcooked_ln, and_assoc, exists_and_left, exists_eq_left, exists_eq_left', exists_eq_right, dxLc_eq, dsFor_eq, rngD_0, rngD_eq, zipD_map, enumD_map0, D.isNon]
    exact o
  | str z =>
    have hz : (D.str z).eqOk = true := eqOk_fit (n := 0) (by cases n <;> exact ha)
    simp [startD, wipeD, dsRet, dsRetN, dsIf, dsSeq, dsNext, dsAsg, dsDrop, dsBreak, dsCont, dsPar, dsAug, dsFrz, dsApp, dsExt, dsPut, dsAugO, dsOwn, dsParOO, dsParDO, dsParDDO, diR3, rdRepTz, dsFrzA, dxRep, diOwn, dsRaise, deAnd, deOr, deNot, de1, de2, deB, deX, dxB, dxLst, deName, deC, deCall, deIxO, deLenO, deTup, deLst, daCons, daNil, daStar, deChain, dtChain, dtV, dtAnd, dtOr, dtNot, dtYes, deIf, deSl, doNone, doSome, rdAdd, rdSub, rdMul, rdMod, rdDiv, rdPow, rdI, rdIc, rdB, rdLt, rdLe, rdGt, rdGe, rdNeg, rdIs, rdEq, rdNe, rdIx, rdIsN, rdNotN, rdIsB, rdNotB, rdRev, rdSeats, rdCatL, rdCatT, rdRepL, rdLen, rdTuple, rdList, rxList, rdInt, rdMax2, rdMin2, dgName, dgTup, dgCons, dgNil, deRefused, rdRepr, rdNeS, rdEqL, rdNeL, rdRepT, rdIsLn, noOwn, diSeq, diEn, diZp, diR1, diR2, noX,  eqOk_int, eqOk_bl, eqOk_non, eqv_int, eqv_bl, eqv_non, atI_0, atI_1, atI_2, atI_3, qty_non, qisI_non, qisB_non, qisL_non, qisU_non, qisS_non, qisD_non, qisNon_non, qcooked_non, qseq_non, qty_bl, qisI_bl, qisB_bl, qisL_bl, qisU_bl, qisS_bl, qisD_bl, qisNon_bl, qcooked_bl, qseq_bl, qty_int, qisI_int, qisB_int, qisL_int, qisU_int, qisS_int, qisD_int, qisNon_int, qcooked_int, qseq_int, qty_str, qisI_str, qisB_str, qisL_str, qisU_str, qisS_str, qisD_str, qisNon_str, qcooked_str, qseq_str, qty_lst, qisI_lst, qisB_lst, qisL_lst, qisU_lst, qisS_lst, qisD_lst, qisNon_lst, qcooked_lst, qseq_lst, qty_tup, qisI_tup, qisB_tup, qisL_tup, qisU_tup, qisS_tup, qisD_tup, qisNon_tup, qcooked_tup, qseq_tup, qty_dct, qisI_dct, qisB_dct, qisL_dct, qisU_dct, qisS_dct, qisD_dct, qisNon_dct, qcooked_dct, qseq_dct, qix_lst, qsl_lst, qix_tup, qsl_tup, qisNon_ln, qcooked_ln, and_assoc, exists_and_left, exists_eq_left, exists_eq_left', exists_eq_right, dxLc_eq, dsFor_eq, rngD_0, rngD_eq, zipD_map, enumD_map0, D.isNon, hz, D.eqv_refl hz]
    exact o
  | lst xs =>
    obtain ⟨hl, m, rfl, hx⟩ := alk_seq ha rfl
    simp [startD, wipeD, dsRet, dsRetN, dsIf, dsSeq, dsNext, dsAsg, dsDrop, dsBreak, dsCont, dsPar, dsAug, dsFrz, dsApp, dsExt, dsPut, dsAugO, dsOwn, dsParOO, dsParDO, dsParDDO, diR3, rdRepTz, dsFrzA, dxRep, diOwn, dsRaise, deAnd, deOr, deNot, de1, de2, deB, deX, dxB, dxLst, deName, deC, deCall, deIxO, deLenO, deTup, deLst, daCons, daNil, daStar, deChain, dtChain, dtV, dtAnd, dtOr, dtNot, dtYes, deIf, deSl, doNone, doSome, rdAdd, rdSub, rdMul, rdMod, rdDiv, rdPow, rdI, rdIc, rdB, rdLt, rdLe, rdGt, rdGe, rdNeg, rdIs, rdEq, rdNe, rdIx, rdIsN, rdNotN, rdIsB, rdNotB, rdRev, rdSeats, rdCatL, rdCatT, rdRepL, rdLen, rdTuple, rdList, rxList, rdInt, rdMax2, rdMin2, dgName, dgTup, dgCons, dgNil, deRefused, rdRepr, rdNeS, rdEqL, rdNeL, rdRepT, rdIsLn, noOwn, diSeq, diEn, diZp, diR1, diR2, noX,  eqOk_int, eqOk_bl, eqOk_non, eqv_int, eqv_bl, eqv_non, atI_0, atI_1, atI_2, atI_3, qty_non, qisI_non, qisB_non, qisL_non, qisU_non, qisS_non, qisD_non, qisNon_non, qcooked_non, qseq_non, qty_bl, qisI_bl, qisB_bl, qisL_bl, qisU_bl, qisS_bl, qisD_bl, qisNon_bl, qcooked_bl, qseq_bl, qty_int, qisI_int, qisB_int, qisL_int, qisU_int, qisS_int, qisD_int, qisNon_int, qcooked_int, qseq_int, qty_str, qisI_str, qisB_str, qisL_str, qisU_str, qisS_str, qisD_str, qisNon_str, qcooked_str, qseq_str, qty_lst, qisI_lst, qisB_lst, qisL_lst, qisU_lst, qisS_lst, qisD_lst, qisNon_lst, qcooked_lst, qseq_lst, qty_tup, qisI_tup, qisB_tup, qisL_tup, qisU_tup, qisS_tup, qisD_tup, qisNon_tup, qcooked_tup, qseq_tup, qty_dct, qisI_dct, qisB_dct, qisL_dct, qisU_dct, qisS_dct, qisD_dct, qisNon_dct, qcooked_dct, qseq_dct, qix_lst, qsl_lst, qix_tup, qsl_tup, qisNon_ln, qcooked_ln, and_assoc, exists_and_left, exists_eq_left, exists_eq_left', exists_eq_right, dxLc_eq, dsFor_eq, rngD_0, rngD_eq, zipD_map, enumD_map0, D.isNon]
    refine ⟨by omega, lb_onF (List.range xs.length) (fun i => .int (i : Int)) (fun _ => false) (by simp; omega) (fun i hi R1 R2 k1 k2 => ?_) ?_⟩
    · have hi' : i < xs.length := List.mem_range.mp hi
      simp [startD, wipeD, dsRet, dsRetN, dsIf, dsSeq, dsNext, dsAsg, dsDrop, dsBreak, dsCont, dsPar, dsAug, dsFrz, dsApp, dsExt, dsPut, dsAugO, dsOwn, dsParOO, dsParDO, dsParDDO, diR3, rdRepTz, dsFrzA, dxRep, diOwn, dsRaise, deAnd, deOr, deNot, de1, de2, deB, deX, dxB, dxLst, deName, deC, deCall, deIxO, deLenO, deTup, deLst, daCons, daNil, daStar, deChain, dtChain, dtV, dtAnd, dtOr, dtNot, dtYes, deIf, deSl, doNone, doSome, rdAdd, rdSub, rdMul, rdMod, rdDiv, rdPow, rdI, rdIc, rdB, rdLt, rdLe, rdGt, rdGe, rdNeg, rdIs, rdEq, rdNe, rdIx, rdIsN, rdNotN, rdIsB, rdNotB, rdRev, rdSeats, rdCatL, rdCatT, rdRepL, rdLen, rdTuple, rdList, rxList, rdInt, rdMax2, rdMin2, dgName, dgTup, dgCons, dgNil, deRefused, rdRepr, rdNeS, rdEqL, rdNeL, rdRepT, rdIsLn, noOwn, diSeq, diEn, diZp, diR1, diR2, noX,  eqOk_int, eqOk_bl, eqOk_non, eqv_int, eqv_bl, eqv_non, atI_0, atI_1, atI_2, atI_3, qty_non, qisI_non, qisB_non, qisL_non, qisU_non, qisS_non, qisD_non, qisNon_non, qcooked_non, qseq_non, qty_bl, qisI_bl, qisB_bl, qisL_bl, qisU_bl, qisS_bl, qisD_bl, qisNon_bl, qcooked_bl, qseq_bl, qty_int, qisI_int, qisB_int, qisL_int, qisU_int, qisS_int, qisD_int, qisNon_int, qcooked_int, qseq_int, qty_str, qisI_str, qisB_str, qisL_str, qisU_str, qisS_str, qisD_str, qisNon_str, qcooked_str, qseq_str, qty_lst, qisI_lst, qisB_lst, qisL_lst, qisU_lst, qisS_lst, qisD_lst, qisNon_lst, qcooked_lst, qseq_lst, qty_tup, qisI_tup, qisB_tup, qisL_tup, qisU_tup, qisS_tup, qisD_tup, qisNon_tup, qcooked_tup, qseq_tup, qty_dct, qisI_dct, qisB_dct, qisL_dct, qisU_dct, qisS_dct, qisD_dct, qisNon_dct, qcooked_dct, qseq_dct, qix_lst, qsl_lst, qix_tup, qsl_tup, qisNon_ln, qcooked_ln, and_assoc, exists_and_left, exists_eq_left, exists_eq_left', exists_eq_right, dxLc_eq, dsFor_eq, rngD_0, rngD_eq, zipD_map, enumD_map0, atI_nat', hi', spAlike, hx xs[i] (List.getElem_mem hi')]
      exact k2 rfl
    · rw [List.filter_eq_nil_iff.mpr (by simp)]
      simp [eqOk_lst0, eqv_lst0]
      exact o
  | tup xs =>
    obtain ⟨hl, m, rfl, hx⟩ := alk_seq ha rfl
    simp [startD, wipeD, dsRet, dsRetN, dsIf, dsSeq, dsNext, dsAsg, dsDrop, dsBreak, dsCont, dsPar, dsAug, dsFrz, dsApp, dsExt, dsPut, dsAugO, dsOwn, dsParOO, dsParDO, dsParDDO, diR3, rdRepTz, dsFrzA, dxRep, diOwn, dsRaise, deAnd, deOr, deNot, de1, de2, deB, deX, dxB, dxLst, deName, deC, deCall, deIxO, deLenO, deTup, deLst, daCons, daNil, daStar, deChain, dtChain, dtV, dtAnd, dtOr, dtNot, dtYes, deIf, deSl, doNone, doSome, rdAdd, rdSub, rdMul, rdMod, rdDiv, rdPow, rdI, rdIc, rdB, rdLt, rdLe, rdGt, rdGe, rdNeg, rdIs, rdEq, rdNe, rdIx, rdIsN, rdNotN, rdIsB, rdNotB, rdRev, rdSeats, rdCatL, rdCatT, rdRepL, rdLen, rdTuple, rdList, rxList, rdInt, rdMax2, rdMin2, dgName, dgTup, dgCons, dgNil, deRefused, rdRepr, rdNeS, rdEqL, rdNeL, rdRepT, rdIsLn, noOwn, diSeq, diEn, diZp, diR1, diR2, noX,  eqOk_int, eqOk_bl, eqOk_non, eqv_int, eqv_bl, eqv_non, atI_0, atI_1, atI_2, atI_3, qty_non, qisI_non, qisB_non, qisL_non, qisU_non, qisS_non, qisD_non, qisNon_non, qcooked_non, qseq_non, qty_bl, qisI_bl, qisB_bl, qisL_bl, qisU_bl, qisS_bl, qisD_bl, qisNon_bl, qcooked_bl, qseq_bl, qty_int, qisI_int, qisB_int, qisL_int, qisU_int, qisS_int, qisD_int, qisNon_int, qcooked_int, qseq_int, qty_str, qisI_str, qisB_str, qisL_str, qisU_str, qisS_str, qisD_str, qisNon_str, qcooked_str, qseq_str, qty_lst, qisI_lst, qisB_lst, qisL_lst, qisU_lst, qisS_lst, qisD_lst, qisNon_lst, qcooked_lst, qseq_lst, qty_tup, qisI_tup, qisB_tup, qisL_tup, qisU_tup, qisS_tup, qisD_tup, qisNon_tup, qcooked_tup, qseq_tup, qty_dct, qisI_dct, qisB_dct, qisL_dct, qisU_dct, qisS_dct, qisD_dct, qisNon_dct, qcooked_dct, qseq_dct, qix_lst, qsl_lst, qix_tup, qsl_tup, qisNon_ln, qcooked_ln, and_assoc, exists_and_left, exists_eq_left, exists_eq_left', exists_eq_right, dxLc_eq, dsFor_eq, rngD_0, rngD_eq, zipD_map, enumD_map0, D.isNon]
    refine ⟨by omega, lb_onF (List.range xs.length) (fun i => .int (i : Int)) (fun _ => false) (by simp; omega) (fun i hi R1 R2 k1 k2 => ?_) ?_⟩
    · have hi' : i < xs.length := List.mem_range.mp hi
      simp [startD, wipeD, dsRet, dsRetN, dsIf, dsSeq, dsNext, dsAsg, dsDrop, dsBreak, dsCont, dsPar, dsAug, dsFrz, dsApp, dsExt, dsPut, dsAugO, dsOwn, dsParOO, dsParDO, dsParDDO, diR3, rdRepTz, dsFrzA, dxRep, diOwn, dsRaise, deAnd, deOr, deNot, de1, de2, deB, deX, dxB, dxLst, deName, deC, deCall, deIxO, deLenO, deTup, deLst, daCons, daNil, daStar, deChain, dtChain, dtV, dtAnd, dtOr, dtNot, dtYes, deIf, deSl, doNone, doSome, rdAdd, rdSub, rdMul, rdMod, rdDiv, rdPow, rdI, rdIc, rdB, rdLt, rdLe, rdGt, rdGe, rdNeg, rdIs, rdEq, rdNe, rdIx, rdIsN, rdNotN, rdIsB, rdNotB, rdRev, rdSeats, rdCatL, rdCatT, rdRepL, rdLen, rdTuple, rdList, rxList, rdInt, rdMax2, rdMin2, dgName, dgTup, dgCons, dgNil, deRefused, rdRepr, rdNeS, rdEqL, rdNeL, rdRepT, rdIsLn, noOwn, diSeq, diEn, diZp, diR1, diR2, noX,  eqOk_int, eqOk_bl, eqOk_non, eqv_int, eqv_bl, eqv_non, atI_0, atI_1, atI_2, atI_3, qty_non, qisI_non, qisB_non, qisL_non, qisU_non, qisS_non, qisD_non, qisNon_non, qcooked_non, qseq_non, qty_bl, qisI_bl, qisB_bl, qisL_bl, qisU_bl, qisS_bl, qisD_bl, qisNon_bl, qcooked_bl, qseq_bl, qty_int, qisI_int, qisB_int, qisL_int, qisU_int, qisS_int, qisD_int, qisNon_int, qcooked_int, qseq_int, qty_str, qisI_str, qisB_str, qisL_str, qisU_str, qisS_str, qisD_str, qisNon_str, qcooked_str, qseq_str, qty_lst, qisI_lst, qisB_lst, qisL_lst, qisU_lst, qisS_lst, qisD_lst, qisNon_lst, qcooked_lst, qseq_lst, qty_tup, qisI_tup, qisB_tup, qisL_tup, qisU_tup, qisS_tup, qisD_tup, qisNon_tup, qcooked_tup, qseq_tup, qty_dct, qisI_dct, qisB_dct, qisL_dct, qisU_dct, qisS_dct, qisD_dct, qisNon_dct, qcooked_dct, qseq_dct, qix_lst, qsl_lst, qix_tup, qsl_tup, qisNon_ln, qcooked_ln, and_assoc, exists_and_left, exists_eq_left, exists_eq_left', exists_eq_right, dxLc_eq, dsFor_eq, rngD_0, rngD_eq, zipD_map, enumD_map0, atI_nat', hi', spAlike, hx xs[i] (List.getElem_mem hi')]
      exact k2 rfl
    · rw [List.filter_eq_nil_iff.mpr (by simp)]
      simp [eqOk_lst0, eqv_lst0]
      exact o
  | raw v => cases n <;> cases ha
  | dct => cases n <;> cases ha
  | ln xs => cases n <;> cases ha
theorem ok__law_alike (T : Txt K mg) {f : Addr} {fd : FuncData} (F : FnP K "_law_alike" s__law_alike f fd) (hm : mg "_law_alike" = some (.ref f)) (hb : Binds K fd ["found", "due"] []) : FnOk P w K mg base (L2.CX P w) 8 f fd ["found", "due"] (spD K sp__law_alike) := by
  have zero : FnOk P w K mg base (L2.CX P w) 1 f fd ["found", "due"] (spD K (spAlike 0)) :=
    fnD (k := 0) F sc__law_alike (fun F ds O h => h.elim) (fun cdv A outer s G E ds O hr h hE => h.elim)
  have all : ∀ n : Nat, FnOk P w K mg base (L2.CX P w) (n + 1) f fd ["found", "due"] (spD K (spAlike n)) := by
    intro n
    induction n with
    | zero => exact zero
    | succ n ih => exact alike_step T F n (n + 1) (Cl.mk' F ih hm hb)
  exact all 7

end
end K15
end
-- F_15__law_took
section
set_option Elab.async false
set_option linter.all false
set_option maxRecDepth 100000
set_option maxHeartbeats 4000000
set_option autoImplicit false
namespace K15
open PySem PySem.Spec PyProof.Rows L2 Sd
section
variable {P : Program} {w : World} {K : PySem.W.Frag} {mg : Str → Option Value} {base : Heap}
theorem ok__law_took (T : Txt K mg) {f : Addr} {fd : FuncData} (F : FnP K "_law_took" s__law_took f fd)   : FnOk P w K mg base (L2.CX P w) 1 f fd ["limits", "asked"] (spD K sp__law_took) := by
  have sc := sc__law_took
  refine fnD F sc (fun F ds O h => by
    obtain ⟨_, _, _, _, e, _⟩ := h
    rw [e] <;> rfl) (fun cdv A outer s G E ds O hr h hE => ⟨_, (pssd_cons (psd_own (i := 2) sc.nd rfl (Or.inl rfl) (pxd_lst pad_nil))
  (pssd_cons (psd_for (passes_of rfl) (pid_seq (pd_name (pv 1))) (pgd_name (i := 3) sc.nd rfl (Or.inl rfl))
  (pssd_one (psd_app (i := 2) (pv 2) (pd_lt (pd_callB call_len_seq snd_len T.b_len (pad_cons (pd_x (pxd_lcF (own := [(("good" : Str), 4)]) sc.nd (pid_nmO (i := 2) (pv 2)) (by kernel_rfl) (fun _ _ _ _ _ => (pgc_name (i := 4) sc.nd rfl (by first | exact Or.inl rfl | exact Or.inr rfl) (by decide))) (fun _ _ _ _ _ => (ptsd_one (ptd_val (pd_name (pv 4))))) (fun _ _ _ _ _ => (pd_name (pv 4))))) pad_nil)) (pd_item (pd_name (pv 0)) (pd_name (pv 3)))))))
  (pssd_one (psd_frz 2 (psd_ret (pd_name (pv 2))))))), ?_⟩)
  obtain ⟨lt, at_, L, A, rfl, h⟩ := h
  obtain ⟨h1, h2, hA, hl, o⟩ := h
  simp [startD, wipeD, dsRet, dsRetN, dsIf, dsSeq, dsNext, dsAsg, dsDrop, dsBreak, dsCont, dsPar, dsAug, dsFrz, dsApp, dsExt, dsPut, dsAugO, dsOwn, dsParOO, dsParDO, dsParDDO, diR3, rdRepTz, dsFrzA, dxRep, diOwn, dsRaise, deAnd, deOr, deNot, de1, de2, deB, deX, dxB, dxLst, deName, deC, deCall, deIxO, deLenO, deTup, deLst, daCons, daNil, daStar, deChain, dtChain, dtV, dtAnd, dtOr, dtNot, dtYes, deIf, deSl, doNone, doSome, rdAdd, rdSub, rdMul, rdMod, rdDiv, rdPow, rdI, rdIc, rdB, rdLt, rdLe, rdGt, rdGe, rdNeg, rdIs, rdEq, rdNe, rdIx, rdIsN, rdNotN, rdIsB, rdNotB, rdRev, rdSeats, rdCatL, rdCatT, rdRepL, rdLen, rdTuple, rdList, rxList, rdInt, rdMax2, rdMin2, dgName, dgTup, dgCons, dgNil, deRefused, rdRepr, rdNeS, rdEqL, rdNeL, rdRepT, rdIsLn, noOwn, diSeq, diEn, diZp, diR1, diR2, noX,  eqOk_int, eqOk_bl, eqOk_non, eqv_int, eqv_bl, eqv_non, atI_0, atI_1, atI_2, atI_3, qty_non, qisI_non, qisB_non, qisL_non, qisU_non, qisS_non, qisD_non, qisNon_non, qcooked_non, qseq_non, qty_bl, qisI_bl, qisB_bl, qisL_bl, qisU_bl, qisS_bl, qisD_bl, qisNon_bl, qcooked_bl, qseq_bl, qty_int, qisI_int, qisB_int, qisL_int, qisU_int, qisS_int, qisD_int, qisNon_int, qcooked_int, qseq_int, qty_str, qisI_str, qisB_str, qisL_str, qisU_str, qisS_str, qisD_str, qisNon_str, qcooked_str, qseq_str, qty_lst, qisI_lst, qisB_lst, qisL_lst, qisU_lst, qisS_lst, qisD_lst, qisNon_lst, qcooked_lst, qseq_lst, qty_tup, qisI_tup, qisB_tup, qisL_tup, qisU_tup, qisS_tup, qisD_tup, qisNon_tup, qcooked_tup, qseq_tup, qty_dct, qisI_dct, qisB_dct, qisL_dct, qisU_dct, qisS_dct, qisD_dct, qisNon_dct, qcooked_dct, qseq_dct, qix_lst, qsl_lst, qix_tup, qsl_tup, qisNon_ln, qcooked_ln, and_assoc, exists_and_left, exists_eq_left, exists_eq_left', exists_eq_right, dxLc_eq, dsFor_eq, rngD_0, rngD_eq, zipD_map, enumD_map0, h2]
  refine fb_on A (fun i δ' => ∃ a b : Sl, δ' = [.dat lt, .dat at_, .own ((tookB L 0 (A.take i)).map .bl), a, b]) ⟨_, _, rfl⟩ (fun i q δ' hi hj => ?_) (fun δ' hj => ?_)
  · obtain ⟨a, b, rfl⟩ := hj
    have hq := hA q (List.mem_of_getElem? hi)
    have e1 := tookB_snoc L q (A.take i) 0
    rw [← take_snoc hi, Int.zero_add] at e1
    have e3 : (tookB L 0 (A.take i)).length ≤ 1000 := by rw [tookB_len, List.length_take]; omega
    have e4 := tookL_count L (A.take i) 0
    simp [startD, wipeD, dsRet, dsRetN, dsIf, dsSeq, dsNext, dsAsg, dsDrop, dsBreak, dsCont, dsPar, dsAug, dsFrz, dsApp, dsExt, dsPut, dsAugO, dsOwn, dsParOO, dsParDO, dsParDDO, diR3, rdRepTz, dsFrzA, dxRep, diOwn, dsRaise, deAnd, deOr, deNot, de1, de2, deB, deX, dxB, dxLst, deName, deC, deCall, deIxO, deLenO, deTup, deLst, daCons, daNil, daStar, deChain, dtChain, dtV, dtAnd, dtOr, dtNot, dtYes, deIf, deSl, doNone, doSome, rdAdd, rdSub, rdMul, rdMod, rdDiv, rdPow, rdI, rdIc, rdB, rdLt, rdLe, rdGt, rdGe, rdNeg, rdIs, rdEq, rdNe, rdIx, rdIsN, rdNotN, rdIsB, rdNotB, rdRev, rdSeats, rdCatL, rdCatT, rdRepL, rdLen, rdTuple, rdList, rxList, rdInt, rdMax2, rdMin2, dgName, dgTup, dgCons, dgNil, deRefused, rdRepr, rdNeS, rdEqL, rdNeL, rdRepT, rdIsLn, noOwn, diSeq, diEn, diZp, diR1, diR2, noX,  eqOk_int, eqOk_bl, eqOk_non, eqv_int, eqv_bl, eqv_non, atI_0, atI_1, atI_2, atI_3, qty_non, qisI_non, qisB_non, qisL_non, qisU_non, qisS_non, qisD_non, qisNon_non, qcooked_non, qseq_non, qty_bl, qisI_bl, qisB_bl, qisL_bl, qisU_bl, qisS_bl, qisD_bl, qisNon_bl, qcooked_bl, qseq_bl, qty_int, qisI_int, qisB_int, qisL_int, qisU_int, qisS_int, qisD_int, qisNon_int, qcooked_int, qseq_int, qty_str, qisI_str, qisB_str, qisL_str, qisU_str, qisS_str, qisD_str, qisNon_str, qcooked_str, qseq_str, qty_lst, qisI_lst, qisB_lst, qisL_lst, qisU_lst, qisS_lst, qisD_lst, qisNon_lst, qcooked_lst, qseq_lst, qty_tup, qisI_tup, qisB_tup, qisL_tup, qisU_tup, qisS_tup, qisD_tup, qisNon_tup, qcooked_tup, qseq_tup, qty_dct, qisI_dct, qisB_dct, qisL_dct, qisU_dct, qisS_dct, qisD_dct, qisNon_dct, qcooked_dct, qseq_dct, qix_lst, qsl_lst, qix_tup, qsl_tup, qisNon_ln, qcooked_ln, and_assoc, exists_and_left, exists_eq_left, exists_eq_left', exists_eq_right, dxLc_eq, dsFor_eq, rngD_0, rngD_eq, zipD_map, enumD_map0, ix_fa h1 hq]
    refine lb_onF (tookB L 0 (A.take i)) D.bl id (by omega) (fun x hx R1 R2 r1 r2 => ?_) ?_
    · simp [startD, wipeD, dsRet, dsRetN, dsIf, dsSeq, dsNext, dsAsg, dsDrop, dsBreak, dsCont, dsPar, dsAug, dsFrz, dsApp, dsExt, dsPut, dsAugO, dsOwn, dsParOO, dsParDO, dsParDDO, diR3, rdRepTz, dsFrzA, dxRep, diOwn, dsRaise, deAnd, deOr, deNot, de1, de2, deB, deX, dxB, dxLst, deName, deC, deCall, deIxO, deLenO, deTup, deLst, daCons, daNil, daStar, deChain, dtChain, dtV, dtAnd, dtOr, dtNot, dtYes, deIf, deSl, doNone, doSome, rdAdd, rdSub, rdMul, rdMod, rdDiv, rdPow, rdI, rdIc, rdB, rdLt, rdLe, rdGt, rdGe, rdNeg, rdIs, rdEq, rdNe, rdIx, rdIsN, rdNotN, rdIsB, rdNotB, rdRev, rdSeats, rdCatL, rdCatT, rdRepL, rdLen, rdTuple, rdList, rxList, rdInt, rdMax2, rdMin2, dgName, dgTup, dgCons, dgNil, deRefused, rdRepr, rdNeS, rdEqL, rdNeL, rdRepT, rdIsLn, noOwn, diSeq, diEn, diZp, diR1, diR2, noX,  eqOk_int, eqOk_bl, eqOk_non, eqv_int, eqv_bl, eqv_non, atI_0, atI_1, atI_2, atI_3, qty_non, qisI_non, qisB_non, qisL_non, qisU_non, qisS_non, qisD_non, qisNon_non, qcooked_non, qseq_non, qty_bl, qisI_bl, qisB_bl, qisL_bl, qisU_bl, qisS_bl, qisD_bl, qisNon_bl, qcooked_bl, qseq_bl, qty_int, qisI_int, qisB_int, qisL_int, qisU_int, qisS_int, qisD_int, qisNon_int, qcooked_int, qseq_int, qty_str, qisI_str, qisB_str, qisL_str, qisU_str, qisS_str, qisD_str, qisNon_str, qcooked_str, qseq_str, qty_lst, qisI_lst, qisB_lst, qisL_lst, qisU_lst, qisS_lst, qisD_lst, qisNon_lst, qcooked_lst, qseq_lst, qty_tup, qisI_tup, qisB_tup, qisL_tup, qisU_tup, qisS_tup, qisD_tup, qisNon_tup, qcooked_tup, qseq_tup, qty_dct, qisI_dct, qisB_dct, qisL_dct, qisU_dct, qisS_dct, qisD_dct, qisNon_dct, qcooked_dct, qseq_dct, qix_lst, qsl_lst, qix_tup, qsl_tup, qisNon_ln, qcooked_ln, and_assoc, exists_and_left, exists_eq_left, exists_eq_left', exists_eq_right, dxLc_eq, dsFor_eq, rngD_0, rngD_eq, zipD_map, enumD_map0]
      cases x with
      | false => exact .inl ⟨rfl, r2 rfl⟩
      | true => exact .inr ⟨rfl, r1 rfl⟩
    · rw [List.length_map, e4]
      refine ⟨by omega, ?_⟩
      rw [e1, List.map_append]
      rfl
  · obtain ⟨a, b, rfl⟩ := hj
    rw [List.take_length]
    simp [startD, wipeD, dsRet, dsRetN, dsIf, dsSeq, dsNext, dsAsg, dsDrop, dsBreak, dsCont, dsPar, dsAug, dsFrz, dsApp, dsExt, dsPut, dsAugO, dsOwn, dsParOO, dsParDO, dsParDDO, diR3, rdRepTz, dsFrzA, dxRep, diOwn, dsRaise, deAnd, deOr, deNot, de1, de2, deB, deX, dxB, dxLst, deName, deC, deCall, deIxO, deLenO, deTup, deLst, daCons, daNil, daStar, deChain, dtChain, dtV, dtAnd, dtOr, dtNot, dtYes, deIf, deSl, doNone, doSome, rdAdd, rdSub, rdMul, rdMod, rdDiv, rdPow, rdI, rdIc, rdB, rdLt, rdLe, rdGt, rdGe, rdNeg, rdIs, rdEq, rdNe, rdIx, rdIsN, rdNotN, rdIsB, rdNotB, rdRev, rdSeats, rdCatL, rdCatT, rdRepL, rdLen, rdTuple, rdList, rxList, rdInt, rdMax2, rdMin2, dgName, dgTup, dgCons, dgNil, deRefused, rdRepr, rdNeS, rdEqL, rdNeL, rdRepT, rdIsLn, noOwn, diSeq, diEn, diZp, diR1, diR2, noX,  eqOk_int, eqOk_bl, eqOk_non, eqv_int, eqv_bl, eqv_non, atI_0, atI_1, atI_2, atI_3, qty_non, qisI_non, qisB_non, qisL_non, qisU_non, qisS_non, qisD_non, qisNon_non, qcooked_non, qseq_non, qty_bl, qisI_bl, qisB_bl, qisL_bl, qisU_bl, qisS_bl, qisD_bl, qisNon_bl, qcooked_bl, qseq_bl, qty_int, qisI_int, qisB_int, qisL_int, qisU_int, qisS_int, qisD_int, qisNon_int, qcooked_int, qseq_int, qty_str, qisI_str, qisB_str, qisL_str, qisU_str, qisS_str, qisD_str, qisNon_str, qcooked_str, qseq_str, qty_lst, qisI_lst, qisB_lst, qisL_lst, qisU_lst, qisS_lst, qisD_lst, qisNon_lst, qcooked_lst, qseq_lst, qty_tup, qisI_tup, qisB_tup, qisL_tup, qisU_tup, qisS_tup, qisD_tup, qisNon_tup, qcooked_tup, qseq_tup, qty_dct, qisI_dct, qisB_dct, qisL_dct, qisU_dct, qisS_dct, qisD_dct, qisNon_dct, qcooked_dct, qseq_dct, qix_lst, qsl_lst, qix_tup, qsl_tup, qisNon_ln, qcooked_ln, and_assoc, exists_and_left, exists_eq_left, exists_eq_left', exists_eq_right]
    exact o
end
end K15
end
-- F_15__law_sums
section
set_option Elab.async false
set_option linter.all false
set_option maxRecDepth 100000
set_option maxHeartbeats 4000000
set_option autoImplicit false
namespace K15
open PySem PySem.Spec PyProof.Rows L2 Sd
section
variable {P : Program} {w : World} {K : PySem.W.Frag} {mg : Str → Option Value} {base : Heap}
theorem ok__law_sums (T : Txt K mg) {f : Addr} {fd : FuncData} (F : FnP K "_law_sums" s__law_sums f fd) (c__law_took : Cl P w K mg base 1 "_law_took" sp__law_took [])  : FnOk P w K mg base (L2.CX P w) 2 f fd ["n", "fares", "limits", "asked"] (spD K sp__law_sums) := by
  have sc := sc__law_sums
  refine fnD F sc (fun F ds O h => by
    obtain ⟨_, _, _, _, _, _, _, e, _⟩ := h
    rw [e] <;> rfl) (fun cdv A outer s G E ds O hr h hE => ⟨_, (pssd_cons (psd_set (i := 4) sc.nd rfl (Or.inr rfl) (pd_call c__law_took hr (by first | decide | omega) (pad_cons (pd_name (pv 2)) (pad_cons (pd_name (pv 3)) pad_nil))))
  (pssd_one (psd_ret (pd_tup (pad_cons (pd_callB (cr_sum rfl) snd_sum T.b_sum (pad_cons (pd_x (pxd_lc (own := [(("at" : Str), 5)]) sc.nd (pid_r1 T.b_range (pad_cons (pd_callB call_len_seq snd_len T.b_len (pad_cons (pd_name (pv 3)) pad_nil)) pad_nil)) (by kernel_rfl) (fun _ _ _ _ _ => (pgc_name (i := 5) sc.nd rfl (by first | exact Or.inl rfl | exact Or.inr rfl) (by decide))) (fun _ _ _ _ _ => (ptsd_one (ptd_val (pd_item (pd_name (pv 4)) (pd_name (pv 5)))))) (fun _ _ _ _ _ => (pd_item (pd_name (pv 1)) (pd_item (pd_name (pv 3)) (pd_name (pv 5))))))) pad_nil)) (pad_cons (pd_callB (cr_sum rfl) snd_sum T.b_sum (pad_cons (pd_slice (pd_rev (pd_callB cr_sortedI snd_sorted T.b_sorted (pad_cons (pd_x (pxd_lc (own := [(("one" : Str), 6)]) sc.nd (pid_seq (pd_name (pv 3))) (by kernel_rfl) (fun _ _ _ _ _ => (pgc_name (i := 6) sc.nd rfl (by first | exact Or.inl rfl | exact Or.inr rfl) (by decide))) (fun _ _ _ _ _ => ptsd_nil) (fun _ _ _ _ _ => (pd_item (pd_name (pv 1)) (pd_name (pv 6)))))) pad_nil))) pod_none (pod_some (pd_name (pv 0)))) pad_nil)) pad_nil)))))), ?_⟩)
  obtain ⟨n, ft, lt, at_, F, L, A, rfl, h⟩ := h
  obtain ⟨hn, hf, h1, h2, hlen, hA, hl, o⟩ := h
  simp [startD, wipeD, dsRet, dsRetN, dsIf, dsSeq, dsNext, dsAsg, dsDrop, dsBreak, dsCont, dsPar, dsAug, dsFrz, dsApp, dsExt, dsPut, dsAugO, dsOwn, dsParOO, dsParDO, dsParDDO, diR3, rdRepTz, dsFrzA, dxRep, diOwn, dsRaise, deAnd, deOr, deNot, de1, de2, deB, deX, dxB, dxLst, deName, deC, deCall, deIxO, deLenO, deTup, deLst, daCons, daNil, daStar, deChain, dtChain, dtV, dtAnd, dtOr, dtNot, dtYes, deIf, deSl, doNone, doSome, rdAdd, rdSub, rdMul, rdMod, rdDiv, rdPow, rdI, rdIc, rdB, rdLt, rdLe, rdGt, rdGe, rdNeg, rdIs, rdEq, rdNe, rdIx, rdIsN, rdNotN, rdIsB, rdNotB, rdRev, rdSeats, rdCatL, rdCatT, rdRepL, rdLen, rdTuple, rdList, rxList, rdInt, rdMax2, rdMin2, dgName, dgTup, dgCons, dgNil, deRefused, rdRepr, rdNeS, rdEqL, rdNeL, rdRepT, rdIsLn, noOwn, diSeq, diEn, diZp, diR1, diR2, noX,  eqOk_int, eqOk_bl, eqOk_non, eqv_int, eqv_bl, eqv_non, atI_0, atI_1, atI_2, atI_3, qty_non, qisI_non, qisB_non, qisL_non, qisU_non, qisS_non, qisD_non, qisNon_non, qcooked_non, qseq_non, qty_bl, qisI_bl, qisB_bl, qisL_bl, qisU_bl, qisS_bl, qisD_bl, qisNon_bl, qcooked_bl, qseq_bl, qty_int, qisI_int, qisB_int, qisL_int, qisU_int, qisS_int, qisD_int, qisNon_int, qcooked_int, qseq_int, qty_str, qisI_str, qisB_str, qisL_str, qisU_str, qisS_str, qisD_str, qisNon_str, qcooked_str, qseq_str, qty_lst, qisI_lst, qisB_lst, qisL_lst, qisU_lst, qisS_lst, qisD_lst, qisNon_lst, qcooked_lst, qseq_lst, qty_tup, qisI_tup, qisB_tup, qisL_tup, qisU_tup, qisS_tup, qisD_tup, qisNon_tup, qcooked_tup, qseq_tup, qty_dct, qisI_dct, qisB_dct, qisL_dct, qisU_dct, qisS_dct, qisD_dct, qisNon_dct, qcooked_dct, qseq_dct, qix_lst, qsl_lst, qix_tup, qsl_tup, qisNon_ln, qcooked_ln, and_assoc, exists_and_left, exists_eq_left, exists_eq_left', exists_eq_right, sp__law_took, dxLc_eq, dsFor_eq, rngD_0, rngD_eq, zipD_map, enumD_map0, h2]
  refine ⟨lt, at_, L, A, rfl, h1, h2, hA, hl, by omega, ?_⟩
  refine lb_onF (List.range A.length) (fun i => .int (fa F ((A[i]?).getD 0))) (fun i => ((tookB L 0 A)[i]?).getD false) (by simp; omega) (fun i hi R1 R2 r1 r2 => ?_) ?_
  · have hi' := List.mem_range.mp hi
    have g1 := List.getElem?_eq_getElem hi'
    have g2 := List.getElem?_eq_getElem (show i < (tookB L 0 A).length by rw [tookB_len]; exact hi')
    have hq := hA _ (List.getElem_mem hi')
    have e2 : at_.ix (.int (i : Int)) = some (natD A[i]) := by rw [ix_of h2, atI_nat', List.getElem?_map, g1]; rfl
    have e3 : atI (List.map D.bl (tookB L 0 A)) (i : Int) = some (D.bl ((tookB L 0 A)[i]'(by rw [tookB_len]; exact hi'))) := by rw [atI_nat', List.getElem?_map, g2]; rfl
    rw [g1] at r1
    rw [g2] at r1 r2
    simp [startD, wipeD, dsRet, dsRetN, dsIf, dsSeq, dsNext, dsAsg, dsDrop, dsBreak, dsCont, dsPar, dsAug, dsFrz, dsApp, dsExt, dsPut, dsAugO, dsOwn, dsParOO, dsParDO, dsParDDO, diR3, rdRepTz, dsFrzA, dxRep, diOwn, dsRaise, deAnd, deOr, deNot, de1, de2, deB, deX, dxB, dxLst, deName, deC, deCall, deIxO, deLenO, deTup, deLst, daCons, daNil, daStar, deChain, dtChain, dtV, dtAnd, dtOr, dtNot, dtYes, deIf, deSl, doNone, doSome, rdAdd, rdSub, rdMul, rdMod, rdDiv, rdPow, rdI, rdIc, rdB, rdLt, rdLe, rdGt, rdGe, rdNeg, rdIs, rdEq, rdNe, rdIx, rdIsN, rdNotN, rdIsB, rdNotB, rdRev, rdSeats, rdCatL, rdCatT, rdRepL, rdLen, rdTuple, rdList, rxList, rdInt, rdMax2, rdMin2, dgName, dgTup, dgCons, dgNil, deRefused, rdRepr, rdNeS, rdEqL, rdNeL, rdRepT, rdIsLn, noOwn, diSeq, diEn, diZp, diR1, diR2, noX,  eqOk_int, eqOk_bl, eqOk_non, eqv_int, eqv_bl, eqv_non, atI_0, atI_1, atI_2, atI_3, qty_non, qisI_non, qisB_non, qisL_non, qisU_non, qisS_non, qisD_non, qisNon_non, qcooked_non, qseq_non, qty_bl, qisI_bl, qisB_bl, qisL_bl, qisU_bl, qisS_bl, qisD_bl, qisNon_bl, qcooked_bl, qseq_bl, qty_int, qisI_int, qisB_int, qisL_int, qisU_int, qisS_int, qisD_int, qisNon_int, qcooked_int, qseq_int, qty_str, qisI_str, qisB_str, qisL_str, qisU_str, qisS_str, qisD_str, qisNon_str, qcooked_str, qseq_str, qty_lst, qisI_lst, qisB_lst, qisL_lst, qisU_lst, qisS_lst, qisD_lst, qisNon_lst, qcooked_lst, qseq_lst, qty_tup, qisI_tup, qisB_tup, qisL_tup, qisU_tup, qisS_tup, qisD_tup, qisNon_tup, qcooked_tup, qseq_tup, qty_dct, qisI_dct, qisB_dct, qisL_dct, qisU_dct, qisS_dct, qisD_dct, qisNon_dct, qcooked_dct, qseq_dct, qix_lst, qsl_lst, qix_tup, qsl_tup, qisNon_ln, qcooked_ln, and_assoc, exists_and_left, exists_eq_left, exists_eq_left', exists_eq_right, sp__law_took, dxLc_eq, dsFor_eq, rngD_0, rngD_eq, zipD_map, enumD_map0, e2, ix_fa hf (show A[i] < F.length by rw [hlen]; exact hq)]
    refine ⟨_, e3, ?_⟩
    simp only [Option.getD_some] at r1 r2
    cases hg : (tookB L 0 A)[i]'(by rw [tookB_len]; exact hi') with
    | false => exact .inl ⟨rfl, r2 hg⟩
    | true => exact .inr ⟨rfl, r1 hg⟩
  · have e : ((List.range A.length).filter (fun i => ((tookB L 0 A)[i]?).getD false)).map (fun i => D.int (fa F ((A[i]?).getD 0))) = ((tookL L 0 A).map (fa F)).map D.int := by
      rw [← tookL_zip, zip_range (tookB_len L A 0), List.map_map, List.map_map, List.filter_map, List.map_map]
      rfl
    rw [e]
    refine ⟨_, rfl, ?_⟩
    refine lb_on A (fun q => .int (fa F q)) (by omega) (fun q hq R hR => ?_) ?_
    · simp [startD, wipeD, dsRet, dsRetN, dsIf, dsSeq, dsNext, dsAsg, dsDrop, dsBreak, dsCont, dsPar, dsAug, dsFrz, dsApp, dsExt, dsPut, dsAugO, dsOwn, dsParOO, dsParDO, dsParDDO, diR3, rdRepTz, dsFrzA, dxRep, diOwn, dsRaise, deAnd, deOr, deNot, de1, de2, deB, deX, dxB, dxLst, deName, deC, deCall, deIxO, deLenO, deTup, deLst, daCons, daNil, daStar, deChain, dtChain, dtV, dtAnd, dtOr, dtNot, dtYes, deIf, deSl, doNone, doSome, rdAdd, rdSub, rdMul, rdMod, rdDiv, rdPow, rdI, rdIc, rdB, rdLt, rdLe, rdGt, rdGe, rdNeg, rdIs, rdEq, rdNe, rdIx, rdIsN, rdNotN, rdIsB, rdNotB, rdRev, rdSeats, rdCatL, rdCatT, rdRepL, rdLen, rdTuple, rdList, rxList, rdInt, rdMax2, rdMin2, dgName, dgTup, dgCons, dgNil, deRefused, rdRepr, rdNeS, rdEqL, rdNeL, rdRepT, rdIsLn, noOwn, diSeq, diEn, diZp, diR1, diR2, noX,  eqOk_int, eqOk_bl, eqOk_non, eqv_int, eqv_bl, eqv_non, atI_0, atI_1, atI_2, atI_3, qty_non, qisI_non, qisB_non, qisL_non, qisU_non, qisS_non, qisD_non, qisNon_non, qcooked_non, qseq_non, qty_bl, qisI_bl, qisB_bl, qisL_bl, qisU_bl, qisS_bl, qisD_bl, qisNon_bl, qcooked_bl, qseq_bl, qty_int, qisI_int, qisB_int, qisL_int, qisU_int, qisS_int, qisD_int, qisNon_int, qcooked_int, qseq_int, qty_str, qisI_str, qisB_str, qisL_str, qisU_str, qisS_str, qisD_str, qisNon_str, qcooked_str, qseq_str, qty_lst, qisI_lst, qisB_lst, qisL_lst, qisU_lst, qisS_lst, qisD_lst, qisNon_lst, qcooked_lst, qseq_lst, qty_tup, qisI_tup, qisB_tup, qisL_tup, qisU_tup, qisS_tup, qisD_tup, qisNon_tup, qcooked_tup, qseq_tup, qty_dct, qisI_dct, qisB_dct, qisL_dct, qisU_dct, qisS_dct, qisD_dct, qisNon_dct, qcooked_dct, qseq_dct, qix_lst, qsl_lst, qix_tup, qsl_tup, qisNon_ln, qcooked_ln, and_assoc, exists_and_left, exists_eq_left, exists_eq_left', exists_eq_right, sp__law_took, dxLc_eq, dsFor_eq, rngD_0, rngD_eq, zipD_map, enumD_map0, ix_fa hf (show q < F.length by rw [hlen]; exact hA q hq)]
      exact hR
    · rw [fares_of]
      refine ⟨_, rfl, fun ns hp hs => ⟨_, rfl, ns.reverse.take n, ?_, ?_⟩⟩
      · rw [cut_toK, List.map_take, List.map_reverse]
      · rw [most_of hp hs]
        exact o
end
end K15
end
-- F_15__law_flood
section
set_option Elab.async false
set_option linter.all false
set_option maxRecDepth 100000
set_option maxHeartbeats 4000000
set_option autoImplicit false
namespace K15
open PySem PySem.Spec PyProof.Rows L2 Sd
section
variable {P : Program} {w : World} {K : PySem.W.Frag} {mg : Str → Option Value} {base : Heap}
theorem ok__law_flood (T : Txt K mg) {f : Addr} {fd : FuncData} (F : FnP K "_law_flood" s__law_flood f fd)   : FnOk P w K mg base (L2.CX P w) 1 f fd ["n", "fares", "last"] (spD K sp__law_flood) := by
  have sc := sc__law_flood
  refine fnD F sc (fun F ds O h => by
    obtain ⟨_, _, _, _, e, _⟩ := h
    rw [e] <;> rfl) (fun cdv A outer s G E ds O hr h hE => ⟨_, (pssd_cons (psd_set (i := 3) sc.nd rfl (Or.inl rfl) (pd_lst pad_nil))
  (pssd_cons (psd_for (passes_of rfl) (pid_r3 T.b_range (pad_cons (pd_sub (pd_callB call_len_seq snd_len T.b_len (pad_cons (pd_name (pv 1)) pad_nil)) pd_int) (pad_cons (pd_sub (pd_name (pv 2)) pd_int) (pad_cons (pd_neg pd_int) pad_nil)))) (pgd_name (i := 4) sc.nd rfl (Or.inl rfl))
  (pssd_one (psd_set (i := 3) sc.nd rfl (Or.inl rfl) (pd_catL (pd_name (pv 3)) (pd_repL (pd_lst (pad_cons (pd_name (pv 4)) pad_nil)) (pd_name (pv 0)))))))
  (pssd_one (psd_ret (pd_name (pv 3)))))), ?_⟩)
  obtain ⟨n, ft, fs, k, rfl, h⟩ := h
  obtain ⟨hn, hf, h4, hk, o⟩ := h
  simp [startD, wipeD, dsRet, dsRetN, dsIf, dsSeq, dsNext, dsAsg, dsDrop, dsBreak, dsCont, dsPar, dsAug, dsFrz, dsApp, dsExt, dsPut, dsAugO, dsOwn, dsParOO, dsParDO, dsParDDO, diR3, rdRepTz, dsFrzA, dxRep, diOwn, dsRaise, deAnd, deOr, deNot, de1, de2, deB, deX, dxB, dxLst, deName, deC, deCall, deIxO, deLenO, deTup, deLst, daCons, daNil, daStar, deChain, dtChain, dtV, dtAnd, dtOr, dtNot, dtYes, deIf, deSl, doNone, doSome, rdAdd, rdSub, rdMul, rdMod, rdDiv, rdPow, rdI, rdIc, rdB, rdLt, rdLe, rdGt, rdGe, rdNeg, rdIs, rdEq, rdNe, rdIx, rdIsN, rdNotN, rdIsB, rdNotB, rdRev, rdSeats, rdCatL, rdCatT, rdRepL, rdLen, rdTuple, rdList, rxList, rdInt, rdMax2, rdMin2, dgName, dgTup, dgCons, dgNil, deRefused, rdRepr, rdNeS, rdEqL, rdNeL, rdRepT, rdIsLn, noOwn, diSeq, diEn, diZp, diR1, diR2, noX,  eqOk_int, eqOk_bl, eqOk_non, eqv_int, eqv_bl, eqv_non, atI_0, atI_1, atI_2, atI_3, qty_non, qisI_non, qisB_non, qisL_non, qisU_non, qisS_non, qisD_non, qisNon_non, qcooked_non, qseq_non, qty_bl, qisI_bl, qisB_bl, qisL_bl, qisU_bl, qisS_bl, qisD_bl, qisNon_bl, qcooked_bl, qseq_bl, qty_int, qisI_int, qisB_int, qisL_int, qisU_int, qisS_int, qisD_int, qisNon_int, qcooked_int, qseq_int, qty_str, qisI_str, qisB_str, qisL_str, qisU_str, qisS_str, qisD_str, qisNon_str, qcooked_str, qseq_str, qty_lst, qisI_lst, qisB_lst, qisL_lst, qisU_lst, qisS_lst, qisD_lst, qisNon_lst, qcooked_lst, qseq_lst, qty_tup, qisI_tup, qisB_tup, qisL_tup, qisU_tup, qisS_tup, qisD_tup, qisNon_tup, qcooked_tup, qseq_tup, qty_dct, qisI_dct, qisB_dct, qisL_dct, qisU_dct, qisS_dct, qisD_dct, qisNon_dct, qcooked_dct, qseq_dct, qix_lst, qsl_lst, qix_tup, qsl_tup, qisNon_ln, qcooked_ln, and_assoc, exists_and_left, exists_eq_left, exists_eq_left', exists_eq_right, dxLc_eq, dsFor_eq, rngD_0, rngD_eq, zipD_map, enumD_map0, hf]
  refine ⟨by omega, by omega, by omega, by omega, ?_⟩
  rw [show ((fs.length : Int) - 1 - ((k : Int) - 1)).toNat = fs.length - k by omega, downD_nat (by omega)]
  refine fb_on (List.range (fs.length - k)) (fun i δ' => ∃ a : Sl, δ' = [.dat (.int (n : Int)), .dat ft, .dat (.int (k : Int)), .dat (.lst ((flP n fs.length i).map natD)), a]) ⟨_, rfl⟩ (fun i x δ' hi hj => ?_) (fun δ' hj => ?_)
  · obtain ⟨a, rfl⟩ := hj
    obtain ⟨hi1, rfl⟩ := range_at hi
    have hlen := flP_len n fs.length x
    have hmul : n * x ≤ 12 * 4 := Nat.mul_le_mul hn (by omega)
    simp [startD, wipeD, dsRet, dsRetN, dsIf, dsSeq, dsNext, dsAsg, dsDrop, dsBreak, dsCont, dsPar, dsAug, dsFrz, dsApp, dsExt, dsPut, dsAugO, dsOwn, dsParOO, dsParDO, dsParDDO, diR3, rdRepTz, dsFrzA, dxRep, diOwn, dsRaise, deAnd, deOr, deNot, de1, de2, deB, deX, dxB, dxLst, deName, deC, deCall, deIxO, deLenO, deTup, deLst, daCons, daNil, daStar, deChain, dtChain, dtV, dtAnd, dtOr, dtNot, dtYes, deIf, deSl, doNone, doSome, rdAdd, rdSub, rdMul, rdMod, rdDiv, rdPow, rdI, rdIc, rdB, rdLt, rdLe, rdGt, rdGe, rdNeg, rdIs, rdEq, rdNe, rdIx, rdIsN, rdNotN, rdIsB, rdNotB, rdRev, rdSeats, rdCatL, rdCatT, rdRepL, rdLen, rdTuple, rdList, rxList, rdInt, rdMax2, rdMin2, dgName, dgTup, dgCons, dgNil, deRefused, rdRepr, rdNeS, rdEqL, rdNeL, rdRepT, rdIsLn, noOwn, diSeq, diEn, diZp, diR1, diR2, noX,  eqOk_int, eqOk_bl, eqOk_non, eqv_int, eqv_bl, eqv_non, atI_0, atI_1, atI_2, atI_3, qty_non, qisI_non, qisB_non, qisL_non, qisU_non, qisS_non, qisD_non, qisNon_non, qcooked_non, qseq_non, qty_bl, qisI_bl, qisB_bl, qisL_bl, qisU_bl, qisS_bl, qisD_bl, qisNon_bl, qcooked_bl, qseq_bl, qty_int, qisI_int, qisB_int, qisL_int, qisU_int, qisS_int, qisD_int, qisNon_int, qcooked_int, qseq_int, qty_str, qisI_str, qisB_str, qisL_str, qisU_str, qisS_str, qisD_str, qisNon_str, qcooked_str, qseq_str, qty_lst, qisI_lst, qisB_lst, qisL_lst, qisU_lst, qisS_lst, qisD_lst, qisNon_lst, qcooked_lst, qseq_lst, qty_tup, qisI_tup, qisB_tup, qisL_tup, qisU_tup, qisS_tup, qisD_tup, qisNon_tup, qcooked_tup, qseq_tup, qty_dct, qisI_dct, qisB_dct, qisL_dct, qisU_dct, qisS_dct, qisD_dct, qisNon_dct, qcooked_dct, qseq_dct, qix_lst, qsl_lst, qix_tup, qsl_tup, qisNon_ln, qcooked_ln, and_assoc, exists_and_left, exists_eq_left, exists_eq_left', exists_eq_right, dxLc_eq, dsFor_eq, rngD_0, rngD_eq, zipD_map, enumD_map0, rep1]
    refine ⟨by omega, by omega, ?_⟩
    rw [flP_succ, List.map_append, List.map_replicate]
  · obtain ⟨a, rfl⟩ := hj
    rw [List.length_range]
    simp [startD, wipeD, dsRet, dsRetN, dsIf, dsSeq, dsNext, dsAsg, dsDrop, dsBreak, dsCont, dsPar, dsAug, dsFrz, dsApp, dsExt, dsPut, dsAugO, dsOwn, dsParOO, dsParDO, dsParDDO, diR3, rdRepTz, dsFrzA, dxRep, diOwn, dsRaise, deAnd, deOr, deNot, de1, de2, deB, deX, dxB, dxLst, deName, deC, deCall, deIxO, deLenO, deTup, deLst, daCons, daNil, daStar, deChain, dtChain, dtV, dtAnd, dtOr, dtNot, dtYes, deIf, deSl, doNone, doSome, rdAdd, rdSub, rdMul, rdMod, rdDiv, rdPow, rdI, rdIc, rdB, rdLt, rdLe, rdGt, rdGe, rdNeg, rdIs, rdEq, rdNe, rdIx, rdIsN, rdNotN, rdIsB, rdNotB, rdRev, rdSeats, rdCatL, rdCatT, rdRepL, rdLen, rdTuple, rdList, rxList, rdInt, rdMax2, rdMin2, dgName, dgTup, dgCons, dgNil, deRefused, rdRepr, rdNeS, rdEqL, rdNeL, rdRepT, rdIsLn, noOwn, diSeq, diEn, diZp, diR1, diR2, noX,  eqOk_int, eqOk_bl, eqOk_non, eqv_int, eqv_bl, eqv_non, atI_0, atI_1, atI_2, atI_3, qty_non, qisI_non, qisB_non, qisL_non, qisU_non, qisS_non, qisD_non, qisNon_non, qcooked_non, qseq_non, qty_bl, qisI_bl, qisB_bl, qisL_bl, qisU_bl, qisS_bl, qisD_bl, qisNon_bl, qcooked_bl, qseq_bl, qty_int, qisI_int, qisB_int, qisL_int, qisU_int, qisS_int, qisD_int, qisNon_int, qcooked_int, qseq_int, qty_str, qisI_str, qisB_str, qisL_str, qisU_str, qisS_str, qisD_str, qisNon_str, qcooked_str, qseq_str, qty_lst, qisI_lst, qisB_lst, qisL_lst, qisU_lst, qisS_lst, qisD_lst, qisNon_lst, qcooked_lst, qseq_lst, qty_tup, qisI_tup, qisB_tup, qisL_tup, qisU_tup, qisS_tup, qisD_tup, qisNon_tup, qcooked_tup, qseq_tup, qty_dct, qisI_dct, qisB_dct, qisL_dct, qisU_dct, qisS_dct, qisD_dct, qisNon_dct, qcooked_dct, qseq_dct, qix_lst, qsl_lst, qix_tup, qsl_tup, qisNon_ln, qcooked_ln, and_assoc, exists_and_left, exists_eq_left, exists_eq_left', exists_eq_right]
    exact o
end
end K15
end
-- F_15__law_lowest
section
set_option Elab.async false
set_option linter.all false
set_option maxRecDepth 100000
set_option maxHeartbeats 4000000
set_option autoImplicit false
namespace K15
open PySem PySem.Spec PyProof.Rows L2 Sd
section
variable {P : Program} {w : World} {K : PySem.W.Frag} {mg : Str → Option Value} {base : Heap}
theorem ok__law_lowest (T : Txt K mg) {f : Addr} {fd : FuncData} (F : FnP K "_law_lowest" s__law_lowest f fd)   : FnOk P w K mg base (L2.CX P w) 1 f fd ["top", "bottom"] (spD K sp__law_lowest) := by
  have sc := sc__law_lowest
  refine fnD F sc (fun F ds O h => by
    obtain ⟨_, _, e, _⟩ := h
    rw [e] <;> rfl) (fun cdv A outer s G E ds O hr h hE => ⟨_, (pssd_cons (psd_par (i := 2) (j := 3) sc.nd rfl rfl (by decide) (pad_cons (pd_name (pv 0)) (pad_cons (pd_name (pv 1)) pad_nil)))
  (pssd_cons (psd_for (passes_of rfl) (pid_r1 T.b_range (pad_cons pd_int pad_nil)) (pgd_name (i := 4) sc.nd rfl (Or.inl rfl))
  (pssd_cons (psd_if (ptd_eq hr.units (pd_name (pv 3)) pd_int)
  (pssd_one psd_break)
  pssd_nil)
  (pssd_one (psd_par (i := 2) (j := 3) sc.nd rfl rfl (by decide) (pad_cons (pd_name (pv 3)) (pad_cons (pd_mod (pd_callTy call_int1 snd_int T.b_int (pad_cons (pd_name (pv 2)) pad_nil)) (pd_name (pv 3))) pad_nil))))))
  (pssd_one (psd_ret (pd_tup (pad_cons (pd_div (pd_name (pv 0)) (pd_name (pv 2))) (pad_cons (pd_div (pd_name (pv 1)) (pd_name (pv 2))) pad_nil))))))), ?_⟩)
  obtain ⟨t, m, rfl, h⟩ := h
  obtain ⟨ht, hm1, hm, o⟩ := h
  have fin : ∀ (a : Nat), Nat.gcd t m = a → 0 < a ∧ (a : Int) < 1073741824 ∧ 0 < a ∧ (a : Int) < 1073741824 ∧ O (.ret (.tup [.int ((t : Int) / (a : Int)), .int ((m : Int) / (a : Int))])) := fun a ha => by
    have hgp : 0 < Nat.gcd t m := Nat.gcd_pos_of_pos_right t (by omega)
    have hle : Nat.gcd t m ≤ m := Nat.gcd_le_right t (by omega)
    subst ha
    exact ⟨hgp, by omega, hgp, by omega, o⟩
  simp [startD, wipeD, dsRet, dsRetN, dsIf, dsSeq, dsNext, dsAsg, dsDrop, dsBreak, dsCont, dsPar, dsAug, dsFrz, dsApp, dsExt, dsPut, dsAugO, dsOwn, dsParOO, dsParDO, dsParDDO, diR3, rdRepTz, dsFrzA, dxRep, diOwn, dsRaise, deAnd, deOr, deNot, de1, de2, deB, deX, dxB, dxLst, deName, deC, deCall, deIxO, deLenO, deTup, deLst, daCons, daNil, daStar, deChain, dtChain, dtV, dtAnd, dtOr, dtNot, dtYes, deIf, deSl, doNone, doSome, rdAdd, rdSub, rdMul, rdMod, rdDiv, rdPow, rdI, rdIc, rdB, rdLt, rdLe, rdGt, rdGe, rdNeg, rdIs, rdEq, rdNe, rdIx, rdIsN, rdNotN, rdIsB, rdNotB, rdRev, rdSeats, rdCatL, rdCatT, rdRepL, rdLen, rdTuple, rdList, rxList, rdInt, rdMax2, rdMin2, dgName, dgTup, dgCons, dgNil, deRefused, rdRepr, rdNeS, rdEqL, rdNeL, rdRepT, rdIsLn, noOwn, diSeq, diEn, diZp, diR1, diR2, noX,  eqOk_int, eqOk_bl, eqOk_non, eqv_int, eqv_bl, eqv_non, atI_0, atI_1, atI_2, atI_3, qty_non, qisI_non, qisB_non, qisL_non, qisU_non, qisS_non, qisD_non, qisNon_non, qcooked_non, qseq_non, qty_bl, qisI_bl, qisB_bl, qisL_bl, qisU_bl, qisS_bl, qisD_bl, qisNon_bl, qcooked_bl, qseq_bl, qty_int, qisI_int, qisB_int, qisL_int, qisU_int, qisS_int, qisD_int, qisNon_int, qcooked_int, qseq_int, qty_str, qisI_str, qisB_str, qisL_str, qisU_str, qisS_str, qisD_str, qisNon_str, qcooked_str, qseq_str, qty_lst, qisI_lst, qisB_lst, qisL_lst, qisU_lst, qisS_lst, qisD_lst, qisNon_lst, qcooked_lst, qseq_lst, qty_tup, qisI_tup, qisB_tup, qisL_tup, qisU_tup, qisS_tup, qisD_tup, qisNon_tup, qcooked_tup, qseq_tup, qty_dct, qisI_dct, qisB_dct, qisL_dct, qisU_dct, qisS_dct, qisD_dct, qisNon_dct, qcooked_dct, qseq_dct, qix_lst, qsl_lst, qix_tup, qsl_tup, qisNon_ln, qcooked_ln, and_assoc, exists_and_left, exists_eq_left, exists_eq_left', exists_eq_right, dxLc_eq, dsFor_eq, rngD_0, rngD_eq, zipD_map, enumD_map0]
  refine fb_on (List.range 400) (fun i δ' => ∃ (a b : Nat) (x : Sl), δ' = [.dat (.int (t : Int)), .dat (.int (m : Int)), .dat (.int (a : Int)), .dat (.int (b : Int)), x] ∧ Nat.gcd a b = Nat.gcd t m ∧ a ≤ 100000 ∧ b ≤ 100000 ∧ (0 < i → b < a ∧ a * b * 2 ^ i ≤ 20000000000)) ⟨t, m, _, rfl, rfl, ht, hm, fun z => absurd z (by decide)⟩ (fun i x δ' hi hj => ?_) (fun δ' hj => ?_)
  · obtain ⟨a, b, x2, rfl, hg, ha, hb, hp⟩ := hj
    simp [startD, wipeD, dsRet, dsRetN, dsIf, dsSeq, dsNext, dsAsg, dsDrop, dsBreak, dsCont, dsPar, dsAug, dsFrz, dsApp, dsExt, dsPut, dsAugO, dsOwn, dsParOO, dsParDO, dsParDDO, diR3, rdRepTz, dsFrzA, dxRep, diOwn, dsRaise, deAnd, deOr, deNot, de1, de2, deB, deX, dxB, dxLst, deName, deC, deCall, deIxO, deLenO, deTup, deLst, daCons, daNil, daStar, deChain, dtChain, dtV, dtAnd, dtOr, dtNot, dtYes, deIf, deSl, doNone, doSome, rdAdd, rdSub, rdMul, rdMod, rdDiv, rdPow, rdI, rdIc, rdB, rdLt, rdLe, rdGt, rdGe, rdNeg, rdIs, rdEq, rdNe, rdIx, rdIsN, rdNotN, rdIsB, rdNotB, rdRev, rdSeats, rdCatL, rdCatT, rdRepL, rdLen, rdTuple, rdList, rxList, rdInt, rdMax2, rdMin2, dgName, dgTup, dgCons, dgNil, deRefused, rdRepr, rdNeS, rdEqL, rdNeL, rdRepT, rdIsLn, noOwn, diSeq, diEn, diZp, diR1, diR2, noX,  eqOk_int, eqOk_bl, eqOk_non, eqv_int, eqv_bl, eqv_non, atI_0, atI_1, atI_2, atI_3, qty_non, qisI_non, qisB_non, qisL_non, qisU_non, qisS_non, qisD_non, qisNon_non, qcooked_non, qseq_non, qty_bl, qisI_bl, qisB_bl, qisL_bl, qisU_bl, qisS_bl, qisD_bl, qisNon_bl, qcooked_bl, qseq_bl, qty_int, qisI_int, qisB_int, qisL_int, qisU_int, qisS_int, qisD_int, qisNon_int, qcooked_int, qseq_int, qty_str, qisI_str, qisB_str, qisL_str, qisU_str, qisS_str, qisD_str, qisNon_str, qcooked_str, qseq_str, qty_lst, qisI_lst, qisB_lst, qisL_lst, qisU_lst, qisS_lst, qisD_lst, qisNon_lst, qcooked_lst, qseq_lst, qty_tup, qisI_tup, qisB_tup, qisL_tup, qisU_tup, qisS_tup, qisD_tup, qisNon_tup, qcooked_tup, qseq_tup, qty_dct, qisI_dct, qisB_dct, qisL_dct, qisU_dct, qisS_dct, qisD_dct, qisNon_dct, qcooked_dct, qseq_dct, qix_lst, qsl_lst, qix_tup, qsl_tup, qisNon_ln, qcooked_ln, and_assoc, exists_and_left, exists_eq_left, exists_eq_left', exists_eq_right, dxLc_eq, dsFor_eq, rngD_0, rngD_eq, zipD_map, enumD_map0, CDiv]
    by_cases hb0 : b = 0
    · subst hb0
      rw [Nat.gcd_zero_right] at hg
      rw [if_pos rfl]
      exact fin a hg.symm
    · rw [if_neg hb0]
      have hml := Nat.mod_lt a (show 0 < b by omega)
      refine ⟨by omega, b, rfl, a % b, rfl, ?_, hb, by omega, hml, ?_⟩
      · rw [← hg, Nat.gcd_comm a b, Nat.gcd_rec b a, Nat.gcd_comm]
      · by_cases hi0 : 0 < i
        · obtain ⟨h1, h2⟩ := hp hi0
          have h3 := euclid_half h1 (show 0 < b by omega)
          have h4 : 2 * (b * (a % b)) * 2 ^ i ≤ a * b * 2 ^ i := Nat.mul_le_mul_right _ h3
          have h5 : b * (a % b) * 2 ^ (i + 1) = 2 * (b * (a % b)) * 2 ^ i := by
            rw [Nat.pow_succ, Nat.mul_comm (2 ^ i) 2, ← Nat.mul_assoc, Nat.mul_comm (b * (a % b)) 2]
          omega
        · have hz : i = 0 := by omega
          subst hz
          have h3 : b * (a % b) ≤ 100000 * 100000 := Nat.mul_le_mul hb (by omega)
          have h4 : b * (a % b) * 2 ^ (0 + 1) = b * (a % b) * 2 := rfl
          omega
  · obtain ⟨a, b, x2, rfl, hg, ha, hb, hp⟩ := hj
    rw [List.length_range] at hp
    obtain ⟨h1, h2⟩ := hp (by decide)
    have hb0 : b = 0 := by
      by_cases c : b = 0
      · exact c
      · exfalso
        have h3 : 1 ≤ a * b := Nat.mul_pos (by omega) (by omega)
        have h4 : 1 * 2 ^ 400 ≤ a * b * 2 ^ 400 := Nat.mul_le_mul_right _ h3
        have h5 : 20000000000 < 2 ^ 400 := by decide +kernel
        omega
    subst hb0
    rw [Nat.gcd_zero_right] at hg
    simp [startD, wipeD, dsRet, dsRetN, dsIf, dsSeq, dsNext, dsAsg, dsDrop, dsBreak, dsCont, dsPar, dsAug, dsFrz, dsApp, dsExt, dsPut, dsAugO, dsOwn, dsParOO, dsParDO, dsParDDO, diR3, rdRepTz, dsFrzA, dxRep, diOwn, dsRaise, deAnd, deOr, deNot, de1, de2, deB, deX, dxB, dxLst, deName, deC, deCall, deIxO, deLenO, deTup, deLst, daCons, daNil, daStar, deChain, dtChain, dtV, dtAnd, dtOr, dtNot, dtYes, deIf, deSl, doNone, doSome, rdAdd, rdSub, rdMul, rdMod, rdDiv, rdPow, rdI, rdIc, rdB, rdLt, rdLe, rdGt, rdGe, rdNeg, rdIs, rdEq, rdNe, rdIx, rdIsN, rdNotN, rdIsB, rdNotB, rdRev, rdSeats, rdCatL, rdCatT, rdRepL, rdLen, rdTuple, rdList, rxList, rdInt, rdMax2, rdMin2, dgName, dgTup, dgCons, dgNil, deRefused, rdRepr, rdNeS, rdEqL, rdNeL, rdRepT, rdIsLn, noOwn, diSeq, diEn, diZp, diR1, diR2, noX,  eqOk_int, eqOk_bl, eqOk_non, eqv_int, eqv_bl, eqv_non, atI_0, atI_1, atI_2, atI_3, qty_non, qisI_non, qisB_non, qisL_non, qisU_non, qisS_non, qisD_non, qisNon_non, qcooked_non, qseq_non, qty_bl, qisI_bl, qisB_bl, qisL_bl, qisU_bl, qisS_bl, qisD_bl, qisNon_bl, qcooked_bl, qseq_bl, qty_int, qisI_int, qisB_int, qisL_int, qisU_int, qisS_int, qisD_int, qisNon_int, qcooked_int, qseq_int, qty_str, qisI_str, qisB_str, qisL_str, qisU_str, qisS_str, qisD_str, qisNon_str, qcooked_str, qseq_str, qty_lst, qisI_lst, qisB_lst, qisL_lst, qisU_lst, qisS_lst, qisD_lst, qisNon_lst, qcooked_lst, qseq_lst, qty_tup, qisI_tup, qisB_tup, qisL_tup, qisU_tup, qisS_tup, qisD_tup, qisNon_tup, qcooked_tup, qseq_tup, qty_dct, qisI_dct, qisB_dct, qisL_dct, qisU_dct, qisS_dct, qisD_dct, qisNon_dct, qcooked_dct, qseq_dct, qix_lst, qsl_lst, qix_tup, qsl_tup, qisNon_ln, qcooked_ln, and_assoc, exists_and_left, exists_eq_left, exists_eq_left', exists_eq_right, dxLc_eq, dsFor_eq, rngD_0, rngD_eq, zipD_map, enumD_map0, CDiv]
    exact fin a hg.symm
end
end K15
end
-- F_15__law_worst
section
set_option Elab.async false
set_option linter.all false
set_option maxRecDepth 100000
set_option maxHeartbeats 4000000
set_option autoImplicit false
namespace K15
open PySem PySem.Spec PyProof.Rows L2 Sd
section
variable {P : Program} {w : World} {K : PySem.W.Frag} {mg : Str → Option Value} {base : Heap}
theorem ok__law_worst (T : Txt K mg) {f : Addr} {fd : FuncData} (F : FnP K "_law_worst" s__law_worst f fd) (c__law_flood : Cl P w K mg base 1 "_law_flood" sp__law_flood []) (c__law_sums : Cl P w K mg base 2 "_law_sums" sp__law_sums [])  : FnOk P w K mg base (L2.CX P w) 3 f fd ["n", "fares", "limits"] (spD K sp__law_worst) := by
  have sc := sc__law_worst
  refine fnD F sc (fun F ds O h => by
    obtain ⟨_, _, _, _, _, e, _⟩ := h
    rw [e] <;> rfl) (fun cdv A outer s G E ds O hr h hE => ⟨_, (pssd_cons (psd_set (i := 3) sc.nd rfl (Or.inl rfl) pd_non)
  (pssd_cons (psd_for (passes_of rfl) (pid_r3 T.b_range (pad_cons (pd_sub (pd_callB call_len_seq snd_len T.b_len (pad_cons (pd_name (pv 1)) pad_nil)) pd_int) (pad_cons (pd_neg pd_int) (pad_cons (pd_neg pd_int) pad_nil)))) (pgd_name (i := 4) sc.nd rfl (Or.inl rfl))
  (pssd_cons (psd_asg (pd_call c__law_sums hr (by first | decide | omega) (pad_cons (pd_name (pv 0)) (pad_cons (pd_name (pv 1)) (pad_cons (pd_name (pv 2)) (pad_cons (pd_call c__law_flood hr (by first | decide | omega) (pad_cons (pd_name (pv 0)) (pad_cons (pd_name (pv 1)) (pad_cons (pd_name (pv 4)) pad_nil)))) pad_nil))))) (pgd_tup (n := 2) (pgsd_cons (pgd_name (i := 5) sc.nd rfl (Or.inl rfl)) (pgsd_cons (pgd_name (i := 6) sc.nd rfl (Or.inl rfl)) pgsd_nil))))
  (pssd_one (psd_if (ptd_w (pwd_or (ptd_isN (pd_name (pv 3)) pd_non) (pwd_or1 (ptd_lt (pd_mul (pd_name (pv 5)) (pd_item (pd_name (pv 3)) pd_int)) (pd_mul (pd_item (pd_name (pv 3)) pd_int) (pd_name (pv 6)))))))
  (pssd_one (psd_set (i := 3) sc.nd rfl (Or.inl rfl) (pd_tup (pad_cons (pd_name (pv 5)) (pad_cons (pd_name (pv 6)) (pad_cons (pd_name (pv 4)) pad_nil))))))
  pssd_nil))))
  (pssd_one (psd_ret (pd_name (pv 3)))))), ?_⟩)
  obtain ⟨n, ft, lt, F, L, rfl, h⟩ := h
  obtain ⟨hf, h1, g, o⟩ := h
  simp [startD, wipeD, dsRet, dsRetN, dsIf, dsSeq, dsNext, dsAsg, dsDrop, dsBreak, dsCont, dsPar, dsAug, dsFrz, dsApp, dsExt, dsPut, dsAugO, dsOwn, dsParOO, dsParDO, dsParDDO, diR3, rdRepTz, dsFrzA, dxRep, diOwn, dsRaise, deAnd, deOr, deNot, de1, de2, deB, deX, dxB, dxLst, deName, deC, deCall, deIxO, deLenO, deTup, deLst, daCons, daNil, daStar, deChain, dtChain, dtV, dtAnd, dtOr, dtNot, dtYes, deIf, deSl, doNone, doSome, rdAdd, rdSub, rdMul, rdMod, rdDiv, rdPow, rdI, rdIc, rdB, rdLt, rdLe, rdGt, rdGe, rdNeg, rdIs, rdEq, rdNe, rdIx, rdIsN, rdNotN, rdIsB, rdNotB, rdRev, rdSeats, rdCatL, rdCatT, rdRepL, rdLen, rdTuple, rdList, rxList, rdInt, rdMax2, rdMin2, dgName, dgTup, dgCons, dgNil, deRefused, rdRepr, rdNeS, rdEqL, rdNeL, rdRepT, rdIsLn, noOwn, diSeq, diEn, diZp, diR1, diR2, noX,  eqOk_int, eqOk_bl, eqOk_non, eqv_int, eqv_bl, eqv_non, atI_0, atI_1, atI_2, atI_3, qty_non, qisI_non, qisB_non, qisL_non, qisU_non, qisS_non, qisD_non, qisNon_non, qcooked_non, qseq_non, qty_bl, qisI_bl, qisB_bl, qisL_bl, qisU_bl, qisS_bl, qisD_bl, qisNon_bl, qcooked_bl, qseq_bl, qty_int, qisI_int, qisB_int, qisL_int, qisU_int, qisS_int, qisD_int, qisNon_int, qcooked_int, qseq_int, qty_str, qisI_str, qisB_str, qisL_str, qisU_str, qisS_str, qisD_str, qisNon_str, qcooked_str, qseq_str, qty_lst, qisI_lst, qisB_lst, qisL_lst, qisU_lst, qisS_lst, qisD_lst, qisNon_lst, qcooked_lst, qseq_lst, qty_tup, qisI_tup, qisB_tup, qisL_tup, qisU_tup, qisS_tup, qisD_tup, qisNon_tup, qcooked_tup, qseq_tup, qty_dct, qisI_dct, qisB_dct, qisL_dct, qisU_dct, qisS_dct, qisD_dct, qisNon_dct, qcooked_dct, qseq_dct, qix_lst, qsl_lst, qix_tup, qsl_tup, qisNon_ln, qcooked_ln, and_assoc, exists_and_left, exists_eq_left, exists_eq_left', exists_eq_right, sp__law_flood, sp__law_sums, dxLc_eq, dsFor_eq, rngD_0, rngD_eq, zipD_map, enumD_map0, hf]
  have hlen := g.len
  have h4 := g.c4
  have hc1 := g.c1
  have hn := g.n12
  refine ⟨by omega, by omega, ?_⟩
  rw [downD_nat (Nat.le_refl _)]
  refine fb_on (List.range F.length) (fun i δ' => ∃ a b c : Sl, δ' = [.dat (.int (n : Int)), .dat ft, .dat lt, .dat (wD2 (wP L.length (Tf F L) (Mf n F) i)), a, b, c]) ⟨_, _, _, rfl⟩ (fun i x δ' hi hj => ?_) (fun δ' hj => ?_)
  · obtain ⟨a, b, c, rfl⟩ := hj
    obtain ⟨hi1, rfl⟩ := range_at hi
    rw [wP_succ]
    have hx : F.length - 1 - x = L.length - 1 - x := by rw [hlen]
    rw [hx]
    have hk : L.length - 1 - x < L.length := by omega
    generalize L.length - 1 - x = k at hk
    have hc : (F.map D.int).length = L.length := by rw [List.length_map, hlen]
    have hA : ∀ o ∈ floodN n L.length k, o < L.length := fun o ho => (floodN_mem ho).2
    have hl : (floodN n L.length k).length ≤ 1000 := by
      rw [floodN_len]
      have : n * (L.length - k) ≤ 12 * 4 := Nat.mul_le_mul hn (by omega)
      omega
    have eT : takeS F L (floodN n L.length k) = Tf F L k := (flood_took (n := n) g.fL F (L.length - k) k (by omega)).2
    have eM : mostN n F (floodN n L.length k) = Mf n F k := by
      have := flood_most g.fF.falls n (k := k) (by omega)
      rw [← hlen] at this
      exact this
    have gT := g.T hk
    have gM := g.M hk
    rcases wP_is L.length (Tf F L) (Mf n F) x (by omega) with ⟨_, e⟩ | ⟨k2, hk2, e⟩
    · rw [e]
      simp [startD, wipeD, dsRet, dsRetN, dsIf, dsSeq, dsNext, dsAsg, dsDrop, dsBreak, dsCont, dsPar, dsAug, dsFrz, dsApp, dsExt, dsPut, dsAugO, dsOwn, dsParOO, dsParDO, dsParDDO, diR3, rdRepTz, dsFrzA, dxRep, diOwn, dsRaise, deAnd, deOr, deNot, de1, de2, deB, deX, dxB, dxLst, deName, deC, deCall, deIxO, deLenO, deTup, deLst, daCons, daNil, daStar, deChain, dtChain, dtV, dtAnd, dtOr, dtNot, dtYes, deIf, deSl, doNone, doSome, rdAdd, rdSub, rdMul, rdMod, rdDiv, rdPow, rdI, rdIc, rdB, rdLt, rdLe, rdGt, rdGe, rdNeg, rdIs, rdEq, rdNe, rdIx, rdIsN, rdNotN, rdIsB, rdNotB, rdRev, rdSeats, rdCatL, rdCatT, rdRepL, rdLen, rdTuple, rdList, rxList, rdInt, rdMax2, rdMin2, dgName, dgTup, dgCons, dgNil, deRefused, rdRepr, rdNeS, rdEqL, rdNeL, rdRepT, rdIsLn, noOwn, diSeq, diEn, diZp, diR1, diR2, noX,  eqOk_int, eqOk_bl, eqOk_non, eqv_int, eqv_bl, eqv_non, atI_0, atI_1, atI_2, atI_3, qty_non, qisI_non, qisB_non, qisL_non, qisU_non, qisS_non, qisD_non, qisNon_non, qcooked_non, qseq_non, qty_bl, qisI_bl, qisB_bl, qisL_bl, qisU_bl, qisS_bl, qisD_bl, qisNon_bl, qcooked_bl, qseq_bl, qty_int, qisI_int, qisB_int, qisL_int, qisU_int, qisS_int, qisD_int, qisNon_int, qcooked_int, qseq_int, qty_str, qisI_str, qisB_str, qisL_str, qisU_str, qisS_str, qisD_str, qisNon_str, qcooked_str, qseq_str, qty_lst, qisI_lst, qisB_lst, qisL_lst, qisU_lst, qisS_lst, qisD_lst, qisNon_lst, qcooked_lst, qseq_lst, qty_tup, qisI_tup, qisB_tup, qisL_tup, qisU_tup, qisS_tup, qisD_tup, qisNon_tup, qcooked_tup, qseq_tup, qty_dct, qisI_dct, qisB_dct, qisL_dct, qisU_dct, qisS_dct, qisD_dct, qisNon_dct, qcooked_dct, qseq_dct, qix_lst, qsl_lst, qix_tup, qsl_tup, qisNon_ln, qcooked_ln, and_assoc, exists_and_left, exists_eq_left, exists_eq_left', exists_eq_right, sp__law_flood, sp__law_sums, dxLc_eq, dsFor_eq, rngD_0, rngD_eq, zipD_map, enumD_map0, wD2, natD]
      refine ⟨n, ft, F.map D.int, k, rfl, by omega, hf, by rw [hc]; omega, by rw [hc]; omega, n, rfl, by omega, F, hf, L, h1, floodN n L.length k, by rw [hc]; rfl, hlen.symm, hA, hl, ?_⟩
      rw [eT, eM]
      rfl
    · rw [e]
      have gT2 := g.T hk2
      have gM2 := g.M hk2
      simp [startD, wipeD, dsRet, dsRetN, dsIf, dsSeq, dsNext, dsAsg, dsDrop, dsBreak, dsCont, dsPar, dsAug, dsFrz, dsApp, dsExt, dsPut, dsAugO, dsOwn, dsParOO, dsParDO, dsParDDO, diR3, rdRepTz, dsFrzA, dxRep, diOwn, dsRaise, deAnd, deOr, deNot, de1, de2, deB, deX, dxB, dxLst, deName, deC, deCall, deIxO, deLenO, deTup, deLst, daCons, daNil, daStar, deChain, dtChain, dtV, dtAnd, dtOr, dtNot, dtYes, deIf, deSl, doNone, doSome, rdAdd, rdSub, rdMul, rdMod, rdDiv, rdPow, rdI, rdIc, rdB, rdLt, rdLe, rdGt, rdGe, rdNeg, rdIs, rdEq, rdNe, rdIx, rdIsN, rdNotN, rdIsB, rdNotB, rdRev, rdSeats, rdCatL, rdCatT, rdRepL, rdLen, rdTuple, rdList, rxList, rdInt, rdMax2, rdMin2, dgName, dgTup, dgCons, dgNil, deRefused, rdRepr, rdNeS, rdEqL, rdNeL, rdRepT, rdIsLn, noOwn, diSeq, diEn, diZp, diR1, diR2, noX,  eqOk_int, eqOk_bl, eqOk_non, eqv_int, eqv_bl, eqv_non, atI_0, atI_1, atI_2, atI_3, qty_non, qisI_non, qisB_non, qisL_non, qisU_non, qisS_non, qisD_non, qisNon_non, qcooked_non, qseq_non, qty_bl, qisI_bl, qisB_bl, qisL_bl, qisU_bl, qisS_bl, qisD_bl, qisNon_bl, qcooked_bl, qseq_bl, qty_int, qisI_int, qisB_int, qisL_int, qisU_int, qisS_int, qisD_int, qisNon_int, qcooked_int, qseq_int, qty_str, qisI_str, qisB_str, qisL_str, qisU_str, qisS_str, qisD_str, qisNon_str, qcooked_str, qseq_str, qty_lst, qisI_lst, qisB_lst, qisL_lst, qisU_lst, qisS_lst, qisD_lst, qisNon_lst, qcooked_lst, qseq_lst, qty_tup, qisI_tup, qisB_tup, qisL_tup, qisU_tup, qisS_tup, qisD_tup, qisNon_tup, qcooked_tup, qseq_tup, qty_dct, qisI_dct, qisB_dct, qisL_dct, qisU_dct, qisS_dct, qisD_dct, qisNon_dct, qcooked_dct, qseq_dct, qix_lst, qsl_lst, qix_tup, qsl_tup, qisNon_ln, qcooked_ln, and_assoc, exists_and_left, exists_eq_left, exists_eq_left', exists_eq_right, sp__law_flood, sp__law_sums, dxLc_eq, dsFor_eq, rngD_0, rngD_eq, zipD_map, enumD_map0, wD2, natD]
      refine ⟨n, ft, F.map D.int, k, rfl, by omega, hf, by rw [hc]; omega, by rw [hc]; omega, n, rfl, by omega, F, hf, L, h1, floodN n L.length k, by rw [hc]; rfl, hlen.symm, hA, hl, ?_⟩
      rw [eT, eM]
      refine ⟨.inl ⟨by omega, by omega⟩, .inl ⟨by omega, by omega⟩, ?_⟩
      by_cases cc : Tf F L k * Mf n F k2 < Tf F L k2 * Mf n F k
      · rw [if_pos cc, show worstStep (Tf F L) (Mf n F) (some (Tf F L k2, Mf n F k2, k2)) k = some (Tf F L k, Mf n F k, k) from if_pos cc]
      · rw [if_neg cc, show worstStep (Tf F L) (Mf n F) (some (Tf F L k2, Mf n F k2, k2)) k = some (Tf F L k2, Mf n F k2, k2) from if_neg cc]
  · obtain ⟨a, b, c, rfl⟩ := hj
    rw [List.length_range]
    obtain ⟨k, hk, hw, _⟩ := g.worst
    have e : wP L.length (Tf F L) (Mf n F) L.length = some (Tf F L k, Mf n F k, k) := hw
    rw [← hlen, e]
    simp [startD, wipeD, dsRet, dsRetN, dsIf, dsSeq, dsNext, dsAsg, dsDrop, dsBreak, dsCont, dsPar, dsAug, dsFrz, dsApp, dsExt, dsPut, dsAugO, dsOwn, dsParOO, dsParDO, dsParDDO, diR3, rdRepTz, dsFrzA, dxRep, diOwn, dsRaise, deAnd, deOr, deNot, de1, de2, deB, deX, dxB, dxLst, deName, deC, deCall, deIxO, deLenO, deTup, deLst, daCons, daNil, daStar, deChain, dtChain, dtV, dtAnd, dtOr, dtNot, dtYes, deIf, deSl, doNone, doSome, rdAdd, rdSub, rdMul, rdMod, rdDiv, rdPow, rdI, rdIc, rdB, rdLt, rdLe, rdGt, rdGe, rdNeg, rdIs, rdEq, rdNe, rdIx, rdIsN, rdNotN, rdIsB, rdNotB, rdRev, rdSeats, rdCatL, rdCatT, rdRepL, rdLen, rdTuple, rdList, rxList, rdInt, rdMax2, rdMin2, dgName, dgTup, dgCons, dgNil, deRefused, rdRepr, rdNeS, rdEqL, rdNeL, rdRepT, rdIsLn, noOwn, diSeq, diEn, diZp, diR1, diR2, noX,  eqOk_int, eqOk_bl, eqOk_non, eqv_int, eqv_bl, eqv_non, atI_0, atI_1, atI_2, atI_3, qty_non, qisI_non, qisB_non, qisL_non, qisU_non, qisS_non, qisD_non, qisNon_non, qcooked_non, qseq_non, qty_bl, qisI_bl, qisB_bl, qisL_bl, qisU_bl, qisS_bl, qisD_bl, qisNon_bl, qcooked_bl, qseq_bl, qty_int, qisI_int, qisB_int, qisL_int, qisU_int, qisS_int, qisD_int, qisNon_int, qcooked_int, qseq_int, qty_str, qisI_str, qisB_str, qisL_str, qisU_str, qisS_str, qisD_str, qisNon_str, qcooked_str, qseq_str, qty_lst, qisI_lst, qisB_lst, qisL_lst, qisU_lst, qisS_lst, qisD_lst, qisNon_lst, qcooked_lst, qseq_lst, qty_tup, qisI_tup, qisB_tup, qisL_tup, qisU_tup, qisS_tup, qisD_tup, qisNon_tup, qcooked_tup, qseq_tup, qty_dct, qisI_dct, qisB_dct, qisL_dct, qisU_dct, qisS_dct, qisD_dct, qisNon_dct, qcooked_dct, qseq_dct, qix_lst, qsl_lst, qix_tup, qsl_tup, qisNon_ln, qcooked_ln, and_assoc, exists_and_left, exists_eq_left, exists_eq_left', exists_eq_right, sp__law_flood, sp__law_sums]
    exact o k hk hw
end
end K15
end
-- F_15__law_limits
section
set_option Elab.async false
set_option linter.all false
set_option maxRecDepth 100000
set_option maxHeartbeats 4000000
set_option autoImplicit false
namespace K15
open PySem PySem.Spec PyProof.Rows L2 Sd
section
variable {P : Program} {w : World} {K : PySem.W.Frag} {mg : Str → Option Value} {base : Heap}
theorem ok__law_limits (T : Txt K mg) {f : Addr} {fd : FuncData} (F : FnP K "_law_limits" s__law_limits f fd)   : FnOk P w K mg base (L2.CX P w) 1 f fd ["n", "many"] (spD K sp__law_limits) := by
  have sc := sc__law_limits
  refine fnD F sc (fun F ds O h => by
    obtain ⟨_, _, e, _⟩ := h
    rw [e] <;> rfl) (fun cdv A outer s G E ds O hr h hE => ⟨_, (pssd_cons (psd_set (i := 2) sc.nd rfl (Or.inl rfl) (pd_lst (pad_cons (pd_tup (pad_cons (pd_name (pv 0)) pad_nil)) pad_nil)))
  (pssd_cons (psd_for (passes_of rfl) (pid_r1 T.b_range (pad_cons (pd_sub (pd_name (pv 1)) pd_int) pad_nil)) (pgd_name (i := 3) sc.nd rfl (Or.inl rfl))
  (pssd_cons (psd_set (i := 4) sc.nd rfl (Or.inl rfl) (pd_lst pad_nil))
  (pssd_cons (psd_for (passes_of rfl) (pid_seq (pd_name (pv 2))) (pgd_name (i := 5) sc.nd rfl (Or.inr rfl))
  (pssd_one (psd_set (i := 4) sc.nd rfl (Or.inl rfl) (pd_catL (pd_name (pv 4)) (pd_x (pxd_lc (own := [(("one" : Str), 6)]) sc.nd (pid_r1 T.b_range (pad_cons (pd_add (pd_item (pd_name (pv 5)) (pd_neg pd_int)) pd_int) pad_nil)) (by kernel_rfl) (fun _ _ _ _ _ => (pgc_name (i := 6) sc.nd rfl (by first | exact Or.inl rfl | exact Or.inr rfl) (by decide))) (fun _ _ _ _ _ => ptsd_nil) (fun _ _ _ _ _ => (pd_catT (pd_name (pv 5)) (pd_tup (pad_cons (pd_name (pv 6)) pad_nil))))))))))
  (pssd_one (psd_set (i := 2) sc.nd rfl (Or.inl rfl) (pd_name (pv 4)))))))
  (pssd_one (psd_ret (pd_name (pv 2)))))), ?_⟩)
  obtain ⟨n, k, rfl, h⟩ := h
  obtain ⟨hn, hk, o⟩ := h
  simp [startD, wipeD, dsRet, dsRetN, dsIf, dsSeq, dsNext, dsAsg, dsDrop, dsBreak, dsCont, dsPar, dsAug, dsFrz, dsApp, dsExt, dsPut, dsAugO, dsOwn, dsParOO, dsParDO, dsParDDO, diR3, rdRepTz, dsFrzA, dxRep, diOwn, dsRaise, deAnd, deOr, deNot, de1, de2, deB, deX, dxB, dxLst, deName, deC, deCall, deIxO, deLenO, deTup, deLst, daCons, daNil, daStar, deChain, dtChain, dtV, dtAnd, dtOr, dtNot, dtYes, deIf, deSl, doNone, doSome, rdAdd, rdSub, rdMul, rdMod, rdDiv, rdPow, rdI, rdIc, rdB, rdLt, rdLe, rdGt, rdGe, rdNeg, rdIs, rdEq, rdNe, rdIx, rdIsN, rdNotN, rdIsB, rdNotB, rdRev, rdSeats, rdCatL, rdCatT, rdRepL, rdLen, rdTuple, rdList, rxList, rdInt, rdMax2, rdMin2, dgName, dgTup, dgCons, dgNil, deRefused, rdRepr, rdNeS, rdEqL, rdNeL, rdRepT, rdIsLn, noOwn, diSeq, diEn, diZp, diR1, diR2, noX,  eqOk_int, eqOk_bl, eqOk_non, eqv_int, eqv_bl, eqv_non, atI_0, atI_1, atI_2, atI_3, qty_non, qisI_non, qisB_non, qisL_non, qisU_non, qisS_non, qisD_non, qisNon_non, qcooked_non, qseq_non, qty_bl, qisI_bl, qisB_bl, qisL_bl, qisU_bl, qisS_bl, qisD_bl, qisNon_bl, qcooked_bl, qseq_bl, qty_int, qisI_int, qisB_int, qisL_int, qisU_int, qisS_int, qisD_int, qisNon_int, qcooked_int, qseq_int, qty_str, qisI_str, qisB_str, qisL_str, qisU_str, qisS_str, qisD_str, qisNon_str, qcooked_str, qseq_str, qty_lst, qisI_lst, qisB_lst, qisL_lst, qisU_lst, qisS_lst, qisD_lst, qisNon_lst, qcooked_lst, qseq_lst, qty_tup, qisI_tup, qisB_tup, qisL_tup, qisU_tup, qisS_tup, qisD_tup, qisNon_tup, qcooked_tup, qseq_tup, qty_dct, qisI_dct, qisB_dct, qisL_dct, qisU_dct, qisS_dct, qisD_dct, qisNon_dct, qcooked_dct, qseq_dct, qix_lst, qsl_lst, qix_tup, qsl_tup, qisNon_ln, qcooked_ln, and_assoc, exists_and_left, exists_eq_left, exists_eq_left', exists_eq_right, dxLc_eq, dsFor_eq, rngD_0, rngD_eq, zipD_map, enumD_map0]
  refine ⟨by omega, ?_⟩
  refine fb_on (List.range k) (fun i δ' => ∃ a b c d : Sl, δ' = [.dat (.int (n : Int)), .dat (.int ((k : Int) + 1)), .dat (.lst ((limsN n i).map tupD)), a, b, c, d]) ⟨_, _, _, _, rfl⟩ (fun i x δ' hi hj => ?_) (fun δ' hj => ?_)
  · obtain ⟨a, b, c, d, rfl⟩ := hj
    obtain ⟨hi1, rfl⟩ := range_at hi
    simp [startD, wipeD, dsRet, dsRetN, dsIf, dsSeq, dsNext, dsAsg, dsDrop, dsBreak, dsCont, dsPar, dsAug, dsFrz, dsApp, dsExt, dsPut, dsAugO, dsOwn, dsParOO, dsParDO, dsParDDO, diR3, rdRepTz, dsFrzA, dxRep, diOwn, dsRaise, deAnd, deOr, deNot, de1, de2, deB, deX, dxB, dxLst, deName, deC, deCall, deIxO, deLenO, deTup, deLst, daCons, daNil, daStar, deChain, dtChain, dtV, dtAnd, dtOr, dtNot, dtYes, deIf, deSl, doNone, doSome, rdAdd, rdSub, rdMul, rdMod, rdDiv, rdPow, rdI, rdIc, rdB, rdLt, rdLe, rdGt, rdGe, rdNeg, rdIs, rdEq, rdNe, rdIx, rdIsN, rdNotN, rdIsB, rdNotB, rdRev, rdSeats, rdCatL, rdCatT, rdRepL, rdLen, rdTuple, rdList, rxList, rdInt, rdMax2, rdMin2, dgName, dgTup, dgCons, dgNil, deRefused, rdRepr, rdNeS, rdEqL, rdNeL, rdRepT, rdIsLn, noOwn, diSeq, diEn, diZp, diR1, diR2, noX,  eqOk_int, eqOk_bl, eqOk_non, eqv_int, eqv_bl, eqv_non, atI_0, atI_1, atI_2, atI_3, qty_non, qisI_non, qisB_non, qisL_non, qisU_non, qisS_non, qisD_non, qisNon_non, qcooked_non, qseq_non, qty_bl, qisI_bl, qisB_bl, qisL_bl, qisU_bl, qisS_bl, qisD_bl, qisNon_bl, qcooked_bl, qseq_bl, qty_int, qisI_int, qisB_int, qisL_int, qisU_int, qisS_int, qisD_int, qisNon_int, qcooked_int, qseq_int, qty_str, qisI_str, qisB_str, qisL_str, qisU_str, qisS_str, qisD_str, qisNon_str, qcooked_str, qseq_str, qty_lst, qisI_lst, qisB_lst, qisL_lst, qisU_lst, qisS_lst, qisD_lst, qisNon_lst, qcooked_lst, qseq_lst, qty_tup, qisI_tup, qisB_tup, qisL_tup, qisU_tup, qisS_tup, qisD_tup, qisNon_tup, qcooked_tup, qseq_tup, qty_dct, qisI_dct, qisB_dct, qisL_dct, qisU_dct, qisS_dct, qisD_dct, qisNon_dct, qcooked_dct, qseq_dct, qix_lst, qsl_lst, qix_tup, qsl_tup, qisNon_ln, qcooked_ln, and_assoc, exists_and_left, exists_eq_left, exists_eq_left', exists_eq_right, dxLc_eq, dsFor_eq, rngD_0, rngD_eq, zipD_map, enumD_map0]
    refine fb_on (limsN n x) (fun j δ' => ∃ c d : Sl, δ' = [.dat (.int (n : Int)), .dat (.int ((k : Int) + 1)), .dat (.lst ((limsN n x).map tupD)), .dat (.int (x : Int)), .dat (.lst ((stepL ((limsN n x).take j)).map tupD)), c, d]) ⟨_, _, rfl⟩ (fun j l δ' hj hp => ?_) (fun δ' hp => ?_)
    · obtain ⟨c, d, rfl⟩ := hp
      have I := lims_ok n x l (List.mem_of_getElem? hj)
      have hla := I.last
      simp [startD, wipeD, dsRet, dsRetN, dsIf, dsSeq, dsNext, dsAsg, dsDrop, dsBreak, dsCont, dsPar, dsAug, dsFrz, dsApp, dsExt, dsPut, dsAugO, dsOwn, dsParOO, dsParDO, dsParDDO, diR3, rdRepTz, dsFrzA, dxRep, diOwn, dsRaise, deAnd, deOr, deNot, de1, de2, deB, deX, dxB, dxLst, deName, deC, deCall, deIxO, deLenO, deTup, deLst, daCons, daNil, daStar, deChain, dtChain, dtV, dtAnd, dtOr, dtNot, dtYes, deIf, deSl, doNone, doSome, rdAdd, rdSub, rdMul, rdMod, rdDiv, rdPow, rdI, rdIc, rdB, rdLt, rdLe, rdGt, rdGe, rdNeg, rdIs, rdEq, rdNe, rdIx, rdIsN, rdNotN, rdIsB, rdNotB, rdRev, rdSeats, rdCatL, rdCatT, rdRepL, rdLen, rdTuple, rdList, rxList, rdInt, rdMax2, rdMin2, dgName, dgTup, dgCons, dgNil, deRefused, rdRepr, rdNeS, rdEqL, rdNeL, rdRepT, rdIsLn, noOwn, diSeq, diEn, diZp, diR1, diR2, noX,  eqOk_int, eqOk_bl, eqOk_non, eqv_int, eqv_bl, eqv_non, atI_0, atI_1, atI_2, atI_3, qty_non, qisI_non, qisB_non, qisL_non, qisU_non, qisS_non, qisD_non, qisNon_non, qcooked_non, qseq_non, qty_bl, qisI_bl, qisB_bl, qisL_bl, qisU_bl, qisS_bl, qisD_bl, qisNon_bl, qcooked_bl, qseq_bl, qty_int, qisI_int, qisB_int, qisL_int, qisU_int, qisS_int, qisD_int, qisNon_int, qcooked_int, qseq_int, qty_str, qisI_str, qisB_str, qisL_str, qisU_str, qisS_str, qisD_str, qisNon_str, qcooked_str, qseq_str, qty_lst, qisI_lst, qisB_lst, qisL_lst, qisU_lst, qisS_lst, qisD_lst, qisNon_lst, qcooked_lst, qseq_lst, qty_tup, qisI_tup, qisB_tup, qisL_tup, qisU_tup, qisS_tup, qisD_tup, qisNon_tup, qcooked_tup, qseq_tup, qty_dct, qisI_dct, qisB_dct, qisL_dct, qisU_dct, qisS_dct, qisD_dct, qisNon_dct, qcooked_dct, qseq_dct, qix_lst, qsl_lst, qix_tup, qsl_tup, qisNon_ln, qcooked_ln, and_assoc, exists_and_left, exists_eq_left, exists_eq_left', exists_eq_right, dxLc_eq, dsFor_eq, rngD_0, rngD_eq, zipD_map, enumD_map0, tup_last I.ne]
      refine ⟨by omega, by omega, lb_on (List.range (lastI l + 1).toNat) (fun y : Nat => tupD (l ++ [(y : Int)])) (by simp; omega) (fun y hy R hR => ?_) ?_⟩
      · simp [startD, wipeD, dsRet, dsRetN, dsIf, dsSeq, dsNext, dsAsg, dsDrop, dsBreak, dsCont, dsPar, dsAug, dsFrz, dsApp, dsExt, dsPut, dsAugO, dsOwn, dsParOO, dsParDO, dsParDDO, diR3, rdRepTz, dsFrzA, dxRep, diOwn, dsRaise, deAnd, deOr, deNot, de1, de2, deB, deX, dxB, dxLst, deName, deC, deCall, deIxO, deLenO, deTup, deLst, daCons, daNil, daStar, deChain, dtChain, dtV, dtAnd, dtOr, dtNot, dtYes, deIf, deSl, doNone, doSome, rdAdd, rdSub, rdMul, rdMod, rdDiv, rdPow, rdI, rdIc, rdB, rdLt, rdLe, rdGt, rdGe, rdNeg, rdIs, rdEq, rdNe, rdIx, rdIsN, rdNotN, rdIsB, rdNotB, rdRev, rdSeats, rdCatL, rdCatT, rdRepL, rdLen, rdTuple, rdList, rxList, rdInt, rdMax2, rdMin2, dgName, dgTup, dgCons, dgNil, deRefused, rdRepr, rdNeS, rdEqL, rdNeL, rdRepT, rdIsLn, noOwn, diSeq, diEn, diZp, diR1, diR2, noX,  eqOk_int, eqOk_bl, eqOk_non, eqv_int, eqv_bl, eqv_non, atI_0, atI_1, atI_2, atI_3, qty_non, qisI_non, qisB_non, qisL_non, qisU_non, qisS_non, qisD_non, qisNon_non, qcooked_non, qseq_non, qty_bl, qisI_bl, qisB_bl, qisL_bl, qisU_bl, qisS_bl, qisD_bl, qisNon_bl, qcooked_bl, qseq_bl, qty_int, qisI_int, qisB_int, qisL_int, qisU_int, qisS_int, qisD_int, qisNon_int, qcooked_int, qseq_int, qty_str, qisI_str, qisB_str, qisL_str, qisU_str, qisS_str, qisD_str, qisNon_str, qcooked_str, qseq_str, qty_lst, qisI_lst, qisB_lst, qisL_lst, qisU_lst, qisS_lst, qisD_lst, qisNon_lst, qcooked_lst, qseq_lst, qty_tup, qisI_tup, qisB_tup, qisL_tup, qisU_tup, qisS_tup, qisD_tup, qisNon_tup, qcooked_tup, qseq_tup, qty_dct, qisI_dct, qisB_dct, qisL_dct, qisU_dct, qisS_dct, qisD_dct, qisNon_dct, qcooked_dct, qseq_dct, qix_lst, qsl_lst, qix_tup, qsl_tup, qisNon_ln, qcooked_ln, and_assoc, exists_and_left, exists_eq_left, exists_eq_left', exists_eq_right, dxLc_eq, dsFor_eq, rngD_0, rngD_eq, zipD_map, enumD_map0, tupD]
        have e : tupD (l ++ [(y : Int)]) = .tup (l.map D.int ++ [.int (y : Int)]) := by unfold tupD; rw [List.map_append]; rfl
        rw [e] at hR
        refine ⟨by rw [I.len]; omega, hR⟩
      · have h1 := step_len (i := x) hn (by omega) j
        have h2 := step_len (i := x) hn (by omega) (j + 1)
        rw [take_snoc hj, stepL_snoc] at h2 ⊢
        rw [List.length_append] at h2
        have e : (List.range (lastI l + 1).toNat).map (fun y : Nat => tupD (l ++ [(y : Int)])) = ((List.range (lastI l + 1).toNat).map fun y : Nat => l ++ [(y : Int)]).map tupD := by rw [List.map_map]; rfl
        rw [e]
        exact ⟨by rw [List.length_map]; omega, by rw [List.map_append]⟩
    · obtain ⟨c, d, rfl⟩ := hp
      rw [List.take_length]
      simp [startD, wipeD, dsRet, dsRetN, dsIf, dsSeq, dsNext, dsAsg, dsDrop, dsBreak, dsCont, dsPar, dsAug, dsFrz, dsApp, dsExt, dsPut, dsAugO, dsOwn, dsParOO, dsParDO, dsParDDO, diR3, rdRepTz, dsFrzA, dxRep, diOwn, dsRaise, deAnd, deOr, deNot, de1, de2, deB, deX, dxB, dxLst, deName, deC, deCall, deIxO, deLenO, deTup, deLst, daCons, daNil, daStar, deChain, dtChain, dtV, dtAnd, dtOr, dtNot, dtYes, deIf, deSl, doNone, doSome, rdAdd, rdSub, rdMul, rdMod, rdDiv, rdPow, rdI, rdIc, rdB, rdLt, rdLe, rdGt, rdGe, rdNeg, rdIs, rdEq, rdNe, rdIx, rdIsN, rdNotN, rdIsB, rdNotB, rdRev, rdSeats, rdCatL, rdCatT, rdRepL, rdLen, rdTuple, rdList, rxList, rdInt, rdMax2, rdMin2, dgName, dgTup, dgCons, dgNil, deRefused, rdRepr, rdNeS, rdEqL, rdNeL, rdRepT, rdIsLn, noOwn, diSeq, diEn, diZp, diR1, diR2, noX,  eqOk_int, eqOk_bl, eqOk_non, eqv_int, eqv_bl, eqv_non, atI_0, atI_1, atI_2, atI_3, qty_non, qisI_non, qisB_non, qisL_non, qisU_non, qisS_non, qisD_non, qisNon_non, qcooked_non, qseq_non, qty_bl, qisI_bl, qisB_bl, qisL_bl, qisU_bl, qisS_bl, qisD_bl, qisNon_bl, qcooked_bl, qseq_bl, qty_int, qisI_int, qisB_int, qisL_int, qisU_int, qisS_int, qisD_int, qisNon_int, qcooked_int, qseq_int, qty_str, qisI_str, qisB_str, qisL_str, qisU_str, qisS_str, qisD_str, qisNon_str, qcooked_str, qseq_str, qty_lst, qisI_lst, qisB_lst, qisL_lst, qisU_lst, qisS_lst, qisD_lst, qisNon_lst, qcooked_lst, qseq_lst, qty_tup, qisI_tup, qisB_tup, qisL_tup, qisU_tup, qisS_tup, qisD_tup, qisNon_tup, qcooked_tup, qseq_tup, qty_dct, qisI_dct, qisB_dct, qisL_dct, qisU_dct, qisS_dct, qisD_dct, qisNon_dct, qcooked_dct, qseq_dct, qix_lst, qsl_lst, qix_tup, qsl_tup, qisNon_ln, qcooked_ln, and_assoc, exists_and_left, exists_eq_left, exists_eq_left', exists_eq_right]
      rfl
  · obtain ⟨a, b, c, d, rfl⟩ := hj
    rw [List.length_range]
    simp [startD, wipeD, dsRet, dsRetN, dsIf, dsSeq, dsNext, dsAsg, dsDrop, dsBreak, dsCont, dsPar, dsAug, dsFrz, dsApp, dsExt, dsPut, dsAugO, dsOwn, dsParOO, dsParDO, dsParDDO, diR3, rdRepTz, dsFrzA, dxRep, diOwn, dsRaise, deAnd, deOr, deNot, de1, de2, deB, deX, dxB, dxLst, deName, deC, deCall, deIxO, deLenO, deTup, deLst, daCons, daNil, daStar, deChain, dtChain, dtV, dtAnd, dtOr, dtNot, dtYes, deIf, deSl, doNone, doSome, rdAdd, rdSub, rdMul, rdMod, rdDiv, rdPow, rdI, rdIc, rdB, rdLt, rdLe, rdGt, rdGe, rdNeg, rdIs, rdEq, rdNe, rdIx, rdIsN, rdNotN, rdIsB, rdNotB, rdRev, rdSeats, rdCatL, rdCatT, rdRepL, rdLen, rdTuple, rdList, rxList, rdInt, rdMax2, rdMin2, dgName, dgTup, dgCons, dgNil, deRefused, rdRepr, rdNeS, rdEqL, rdNeL, rdRepT, rdIsLn, noOwn, diSeq, diEn, diZp, diR1, diR2, noX,  eqOk_int, eqOk_bl, eqOk_non, eqv_int, eqv_bl, eqv_non, atI_0, atI_1, atI_2, atI_3, qty_non, qisI_non, qisB_non, qisL_non, qisU_non, qisS_non, qisD_non, qisNon_non, qcooked_non, qseq_non, qty_bl, qisI_bl, qisB_bl, qisL_bl, qisU_bl, qisS_bl, qisD_bl, qisNon_bl, qcooked_bl, qseq_bl, qty_int, qisI_int, qisB_int, qisL_int, qisU_int, qisS_int, qisD_int, qisNon_int, qcooked_int, qseq_int, qty_str, qisI_str, qisB_str, qisL_str, qisU_str, qisS_str, qisD_str, qisNon_str, qcooked_str, qseq_str, qty_lst, qisI_lst, qisB_lst, qisL_lst, qisU_lst, qisS_lst, qisD_lst, qisNon_lst, qcooked_lst, qseq_lst, qty_tup, qisI_tup, qisB_tup, qisL_tup, qisU_tup, qisS_tup, qisD_tup, qisNon_tup, qcooked_tup, qseq_tup, qty_dct, qisI_dct, qisB_dct, qisL_dct, qisU_dct, qisS_dct, qisD_dct, qisNon_dct, qcooked_dct, qseq_dct, qix_lst, qsl_lst, qix_tup, qsl_tup, qisNon_ln, qcooked_ln, and_assoc, exists_and_left, exists_eq_left, exists_eq_left', exists_eq_right]
    exact o
end
end K15
end
-- F_15__law_rows
section
set_option Elab.async false
set_option linter.all false
set_option maxRecDepth 100000
set_option maxHeartbeats 4000000
set_option autoImplicit false
namespace K15
open PySem PySem.Spec PyProof.Rows L2 Sd
section
variable {P : Program} {w : World} {K : PySem.W.Frag} {mg : Str → Option Value} {base : Heap}
theorem ok__law_rows (T : Txt K mg) {f : Addr} {fd : FuncData} (F : FnP K "_law_rows" s__law_rows f fd)   : FnOk P w K mg base (L2.CX P w) 1 f fd ["many", "most"] (spD K sp__law_rows) := by
  have sc := sc__law_rows
  refine fnD F sc (fun F ds O h => by
    obtain ⟨_, _, e, _⟩ := h
    rw [e] <;> rfl) (fun cdv A outer s G E ds O hr h hE => ⟨_, (pssd_cons (psd_par (i := 2) (j := 3) sc.nd rfl rfl (by decide) (pad_cons (pd_lst pad_nil) (pad_cons (pd_lst (pad_cons (pd_tup pad_nil) pad_nil)) pad_nil)))
  (pssd_cons (psd_for (passes_of rfl) (pid_r1 T.b_range (pad_cons (pd_name (pv 1)) pad_nil)) (pgd_name (i := 4) sc.nd rfl (Or.inl rfl))
  (pssd_cons (psd_set (i := 5) sc.nd rfl (Or.inl rfl) (pd_lst pad_nil))
  (pssd_cons (psd_for (passes_of rfl) (pid_seq (pd_name (pv 3))) (pgd_name (i := 6) sc.nd rfl (Or.inr rfl))
  (pssd_one (psd_set (i := 5) sc.nd rfl (Or.inl rfl) (pd_catL (pd_name (pv 5)) (pd_x (pxd_lc (own := [(("number" : Str), 7)]) sc.nd (pid_r1 T.b_range (pad_cons (pd_name (pv 0)) pad_nil)) (by kernel_rfl) (fun _ _ _ _ _ => (pgc_name (i := 7) sc.nd rfl (by first | exact Or.inl rfl | exact Or.inr rfl) (by decide))) (fun _ _ _ _ _ => ptsd_nil) (fun _ _ _ _ _ => (pd_catT (pd_name (pv 6)) (pd_tup (pad_cons (pd_name (pv 7)) pad_nil))))))))))
  (pssd_cons (psd_set (i := 3) sc.nd rfl (Or.inl rfl) (pd_name (pv 5)))
  (pssd_one (psd_set (i := 2) sc.nd rfl (Or.inl rfl) (pd_catL (pd_name (pv 2)) (pd_name (pv 3)))))))))
  (pssd_one (psd_ret (pd_name (pv 2)))))), ?_⟩)
  obtain ⟨n, k, rfl, h⟩ := h
  obtain ⟨hn, hk, o⟩ := h
  simp [startD, wipeD, dsRet, dsRetN, dsIf, dsSeq, dsNext, dsAsg, dsDrop, dsBreak, dsCont, dsPar, dsAug, dsFrz, dsApp, dsExt, dsPut, dsAugO, dsOwn, dsParOO, dsParDO, dsParDDO, diR3, rdRepTz, dsFrzA, dxRep, diOwn, dsRaise, deAnd, deOr, deNot, de1, de2, deB, deX, dxB, dxLst, deName, deC, deCall, deIxO, deLenO, deTup, deLst, daCons, daNil, daStar, deChain, dtChain, dtV, dtAnd, dtOr, dtNot, dtYes, deIf, deSl, doNone, doSome, rdAdd, rdSub, rdMul, rdMod, rdDiv, rdPow, rdI, rdIc, rdB, rdLt, rdLe, rdGt, rdGe, rdNeg, rdIs, rdEq, rdNe, rdIx, rdIsN, rdNotN, rdIsB, rdNotB, rdRev, rdSeats, rdCatL, rdCatT, rdRepL, rdLen, rdTuple, rdList, rxList, rdInt, rdMax2, rdMin2, dgName, dgTup, dgCons, dgNil, deRefused, rdRepr, rdNeS, rdEqL, rdNeL, rdRepT, rdIsLn, noOwn, diSeq, diEn, diZp, diR1, diR2, noX,  eqOk_int, eqOk_bl, eqOk_non, eqv_int, eqv_bl, eqv_non, atI_0, atI_1, atI_2, atI_3, qty_non, qisI_non, qisB_non, qisL_non, qisU_non, qisS_non, qisD_non, qisNon_non, qcooked_non, qseq_non, qty_bl, qisI_bl, qisB_bl, qisL_bl, qisU_bl, qisS_bl, qisD_bl, qisNon_bl, qcooked_bl, qseq_bl, qty_int, qisI_int, qisB_int, qisL_int, qisU_int, qisS_int, qisD_int, qisNon_int, qcooked_int, qseq_int, qty_str, qisI_str, qisB_str, qisL_str, qisU_str, qisS_str, qisD_str, qisNon_str, qcooked_str, qseq_str, qty_lst, qisI_lst, qisB_lst, qisL_lst, qisU_lst, qisS_lst, qisD_lst, qisNon_lst, qcooked_lst, qseq_lst, qty_tup, qisI_tup, qisB_tup, qisL_tup, qisU_tup, qisS_tup, qisD_tup, qisNon_tup, qcooked_tup, qseq_tup, qty_dct, qisI_dct, qisB_dct, qisL_dct, qisU_dct, qisS_dct, qisD_dct, qisNon_dct, qcooked_dct, qseq_dct, qix_lst, qsl_lst, qix_tup, qsl_tup, qisNon_ln, qcooked_ln, and_assoc, exists_and_left, exists_eq_left, exists_eq_left', exists_eq_right, dxLc_eq, dsFor_eq, rngD_0, rngD_eq, zipD_map, enumD_map0]
  refine ⟨by omega, ?_⟩
  refine fb_on (List.range k) (fun i δ' => ∃ (R H : List (List Nat)) (a b c d : Sl), δ' = [.dat (.int (n : Int)), .dat (.int (k : Int)), .dat (.lst (R.map rowT)), .dat (.lst (H.map rowT)), a, b, c, d] ∧ (∀ A ∈ R, A.length ≤ i ∧ ∀ o ∈ A, o < n) ∧ R.length ≤ 3 ^ (i + 1) ∧ (∀ A ∈ H, A.length = i ∧ ∀ o ∈ A, o < n) ∧ H.length ≤ 3 ^ i) ⟨[], [[]], _, _, _, _, rfl, fun A h => (List.not_mem_nil h).elim, by decide, fun A h => by rw [List.mem_singleton.mp h]; exact ⟨rfl, fun o h => (List.not_mem_nil h).elim⟩, by decide⟩ (fun i x δ' hi hj => ?_) (fun δ' hj => ?_)
  · obtain ⟨R, H, a, b, c, d, rfl, hR, hRl, hH, hHl⟩ := hj
    obtain ⟨hi1, rfl⟩ := range_at hi
    have h3 : 3 ^ (x + 1) ≤ 3 ^ 5 := Nat.pow_le_pow_right (by decide) (by omega)
    have h3s : 3 ^ (x + 1) = 3 ^ x * 3 := Nat.pow_succ ..
    have h3t : 3 ^ (x + 1 + 1) = 3 ^ (x + 1) * 3 := Nat.pow_succ ..
    simp [startD, wipeD, dsRet, dsRetN, dsIf, dsSeq, dsNext, dsAsg, dsDrop, dsBreak, dsCont, dsPar, dsAug, dsFrz, dsApp, dsExt, dsPut, dsAugO, dsOwn, dsParOO, dsParDO, dsParDDO, diR3, rdRepTz, dsFrzA, dxRep, diOwn, dsRaise, deAnd, deOr, deNot, de1, de2, deB, deX, dxB, dxLst, deName, deC, deCall, deIxO, deLenO, deTup, deLst, daCons, daNil, daStar, deChain, dtChain, dtV, dtAnd, dtOr, dtNot, dtYes, deIf, deSl, doNone, doSome, rdAdd, rdSub, rdMul, rdMod, rdDiv, rdPow, rdI, rdIc, rdB, rdLt, rdLe, rdGt, rdGe, rdNeg, rdIs, rdEq, rdNe, rdIx, rdIsN, rdNotN, rdIsB, rdNotB, rdRev, rdSeats, rdCatL, rdCatT, rdRepL, rdLen, rdTuple, rdList, rxList, rdInt, rdMax2, rdMin2, dgName, dgTup, dgCons, dgNil, deRefused, rdRepr, rdNeS, rdEqL, rdNeL, rdRepT, rdIsLn, noOwn, diSeq, diEn, diZp, diR1, diR2, noX,  eqOk_int, eqOk_bl, eqOk_non, eqv_int, eqv_bl, eqv_non, atI_0, atI_1, atI_2, atI_3, qty_non, qisI_non, qisB_non, qisL_non, qisU_non, qisS_non, qisD_non, qisNon_non, qcooked_non, qseq_non, qty_bl, qisI_bl, qisB_bl, qisL_bl, qisU_bl, qisS_bl, qisD_bl, qisNon_bl, qcooked_bl, qseq_bl, qty_int, qisI_int, qisB_int, qisL_int, qisU_int, qisS_int, qisD_int, qisNon_int, qcooked_int, qseq_int, qty_str, qisI_str, qisB_str, qisL_str, qisU_str, qisS_str, qisD_str, qisNon_str, qcooked_str, qseq_str, qty_lst, qisI_lst, qisB_lst, qisL_lst, qisU_lst, qisS_lst, qisD_lst, qisNon_lst, qcooked_lst, qseq_lst, qty_tup, qisI_tup, qisB_tup, qisL_tup, qisU_tup, qisS_tup, qisD_tup, qisNon_tup, qcooked_tup, qseq_tup, qty_dct, qisI_dct, qisB_dct, qisL_dct, qisU_dct, qisS_dct, qisD_dct, qisNon_dct, qcooked_dct, qseq_dct, qix_lst, qsl_lst, qix_tup, qsl_tup, qisNon_ln, qcooked_ln, and_assoc, exists_and_left, exists_eq_left, exists_eq_left', exists_eq_right, dxLc_eq, dsFor_eq, rngD_0, rngD_eq, zipD_map, enumD_map0]
    refine fb_on H (fun j δ' => ∃ (Q : List (List Nat)) (c d : Sl), δ' = [.dat (.int (n : Int)), .dat (.int (k : Int)), .dat (.lst (R.map rowT)), .dat (.lst (H.map rowT)), .dat (.int (x : Int)), .dat (.lst (Q.map rowT)), c, d] ∧ (∀ A ∈ Q, A.length = x + 1 ∧ ∀ o ∈ A, o < n) ∧ Q.length ≤ j * 3) ⟨[], _, _, rfl, fun A h => (List.not_mem_nil h).elim, by decide⟩ (fun j A δ' hj hp => ?_) (fun δ' hp => ?_)
    · obtain ⟨Q, c, d, rfl, hQ, hQl⟩ := hp
      have hA := hH A (List.mem_of_getElem? hj)
      have hjl := (List.getElem?_eq_some_iff.mp hj).1
      simp [startD, wipeD, dsRet, dsRetN, dsIf, dsSeq, dsNext, dsAsg, dsDrop, dsBreak, dsCont, dsPar, dsAug, dsFrz, dsApp, dsExt, dsPut, dsAugO, dsOwn, dsParOO, dsParDO, dsParDDO, diR3, rdRepTz, dsFrzA, dxRep, diOwn, dsRaise, deAnd, deOr, deNot, de1, de2, deB, deX, dxB, dxLst, deName, deC, deCall, deIxO, deLenO, deTup, deLst, daCons, daNil, daStar, deChain, dtChain, dtV, dtAnd, dtOr, dtNot, dtYes, deIf, deSl, doNone, doSome, rdAdd, rdSub, rdMul, rdMod, rdDiv, rdPow, rdI, rdIc, rdB, rdLt, rdLe, rdGt, rdGe, rdNeg, rdIs, rdEq, rdNe, rdIx, rdIsN, rdNotN, rdIsB, rdNotB, rdRev, rdSeats, rdCatL, rdCatT, rdRepL, rdLen, rdTuple, rdList, rxList, rdInt, rdMax2, rdMin2, dgName, dgTup, dgCons, dgNil, deRefused, rdRepr, rdNeS, rdEqL, rdNeL, rdRepT, rdIsLn, noOwn, diSeq, diEn, diZp, diR1, diR2, noX,  eqOk_int, eqOk_bl, eqOk_non, eqv_int, eqv_bl, eqv_non, atI_0, atI_1, atI_2, atI_3, qty_non, qisI_non, qisB_non, qisL_non, qisU_non, qisS_non, qisD_non, qisNon_non, qcooked_non, qseq_non, qty_bl, qisI_bl, qisB_bl, qisL_bl, qisU_bl, qisS_bl, qisD_bl, qisNon_bl, qcooked_bl, qseq_bl, qty_int, qisI_int, qisB_int, qisL_int, qisU_int, qisS_int, qisD_int, qisNon_int, qcooked_int, qseq_int, qty_str, qisI_str, qisB_str, qisL_str, qisU_str, qisS_str, qisD_str, qisNon_str, qcooked_str, qseq_str, qty_lst, qisI_lst, qisB_lst, qisL_lst, qisU_lst, qisS_lst, qisD_lst, qisNon_lst, qcooked_lst, qseq_lst, qty_tup, qisI_tup, qisB_tup, qisL_tup, qisU_tup, qisS_tup, qisD_tup, qisNon_tup, qcooked_tup, qseq_tup, qty_dct, qisI_dct, qisB_dct, qisL_dct, qisU_dct, qisS_dct, qisD_dct, qisNon_dct, qcooked_dct, qseq_dct, qix_lst, qsl_lst, qix_tup, qsl_tup, qisNon_ln, qcooked_ln, and_assoc, exists_and_left, exists_eq_left, exists_eq_left', exists_eq_right, dxLc_eq, dsFor_eq, rngD_0, rngD_eq, zipD_map, enumD_map0, rowT]
      refine ⟨by omega, lb_on (List.range n) (fun y : Nat => rowT (A ++ [y])) (by simp; omega) (fun y hy R hR => ?_) ?_⟩
      · simp [startD, wipeD, dsRet, dsRetN, dsIf, dsSeq, dsNext, dsAsg, dsDrop, dsBreak, dsCont, dsPar, dsAug, dsFrz, dsApp, dsExt, dsPut, dsAugO, dsOwn, dsParOO, dsParDO, dsParDDO, diR3, rdRepTz, dsFrzA, dxRep, diOwn, dsRaise, deAnd, deOr, deNot, de1, de2, deB, deX, dxB, dxLst, deName, deC, deCall, deIxO, deLenO, deTup, deLst, daCons, daNil, daStar, deChain, dtChain, dtV, dtAnd, dtOr, dtNot, dtYes, deIf, deSl, doNone, doSome, rdAdd, rdSub, rdMul, rdMod, rdDiv, rdPow, rdI, rdIc, rdB, rdLt, rdLe, rdGt, rdGe, rdNeg, rdIs, rdEq, rdNe, rdIx, rdIsN, rdNotN, rdIsB, rdNotB, rdRev, rdSeats, rdCatL, rdCatT, rdRepL, rdLen, rdTuple, rdList, rxList, rdInt, rdMax2, rdMin2, dgName, dgTup, dgCons, dgNil, deRefused, rdRepr, rdNeS, rdEqL, rdNeL, rdRepT, rdIsLn, noOwn, diSeq, diEn, diZp, diR1, diR2, noX,  eqOk_int, eqOk_bl, eqOk_non, eqv_int, eqv_bl, eqv_non, atI_0, atI_1, atI_2, atI_3, qty_non, qisI_non, qisB_non, qisL_non, qisU_non, qisS_non, qisD_non, qisNon_non, qcooked_non, qseq_non, qty_bl, qisI_bl, qisB_bl, qisL_bl, qisU_bl, qisS_bl, qisD_bl, qisNon_bl, qcooked_bl, qseq_bl, qty_int, qisI_int, qisB_int, qisL_int, qisU_int, qisS_int, qisD_int, qisNon_int, qcooked_int, qseq_int, qty_str, qisI_str, qisB_str, qisL_str, qisU_str, qisS_str, qisD_str, qisNon_str, qcooked_str, qseq_str, qty_lst, qisI_lst, qisB_lst, qisL_lst, qisU_lst, qisS_lst, qisD_lst, qisNon_lst, qcooked_lst, qseq_lst, qty_tup, qisI_tup, qisB_tup, qisL_tup, qisU_tup, qisS_tup, qisD_tup, qisNon_tup, qcooked_tup, qseq_tup, qty_dct, qisI_dct, qisB_dct, qisL_dct, qisU_dct, qisS_dct, qisD_dct, qisNon_dct, qcooked_dct, qseq_dct, qix_lst, qsl_lst, qix_tup, qsl_tup, qisNon_ln, qcooked_ln, and_assoc, exists_and_left, exists_eq_left, exists_eq_left', exists_eq_right, dxLc_eq, dsFor_eq, rngD_0, rngD_eq, zipD_map, enumD_map0]
        have e : rowT (A ++ [y]) = .tup (A.map natD ++ [.int (y : Int)]) := by unfold rowT; rw [List.map_append]; rfl
        rw [e] at hR
        exact ⟨by omega, hR⟩
      · have e : (List.range n).map (fun y : Nat => rowT (A ++ [y])) = ((List.range n).map fun y : Nat => A ++ [y]).map rowT := by rw [List.map_map]; rfl
        rw [e]
        refine ⟨by simp; omega, Q ++ (List.range n).map (fun y => A ++ [y]), by rw [List.map_append], fun B hB => ?_, by simp; omega⟩
        rcases List.mem_append.mp hB with hB | hB
        · exact hQ B hB
        · obtain ⟨y, hy, rfl⟩ := List.mem_map.mp hB
          refine ⟨by rw [List.length_append, hA.1]; rfl, fun o ho => ?_⟩
          rcases List.mem_append.mp ho with ho | ho
          · exact hA.2 o ho
          · rw [List.mem_singleton.mp ho]
            exact List.mem_range.mp hy
    · obtain ⟨Q, c, d, rfl, hQ, hQl⟩ := hp
      simp [startD, wipeD, dsRet, dsRetN, dsIf, dsSeq, dsNext, dsAsg, dsDrop, dsBreak, dsCont, dsPar, dsAug, dsFrz, dsApp, dsExt, dsPut, dsAugO, dsOwn, dsParOO, dsParDO, dsParDDO, diR3, rdRepTz, dsFrzA, dxRep, diOwn, dsRaise, deAnd, deOr, deNot, de1, de2, deB, deX, dxB, dxLst, deName, deC, deCall, deIxO, deLenO, deTup, deLst, daCons, daNil, daStar, deChain, dtChain, dtV, dtAnd, dtOr, dtNot, dtYes, deIf, deSl, doNone, doSome, rdAdd, rdSub, rdMul, rdMod, rdDiv, rdPow, rdI, rdIc, rdB, rdLt, rdLe, rdGt, rdGe, rdNeg, rdIs, rdEq, rdNe, rdIx, rdIsN, rdNotN, rdIsB, rdNotB, rdRev, rdSeats, rdCatL, rdCatT, rdRepL, rdLen, rdTuple, rdList, rxList, rdInt, rdMax2, rdMin2, dgName, dgTup, dgCons, dgNil, deRefused, rdRepr, rdNeS, rdEqL, rdNeL, rdRepT, rdIsLn, noOwn, diSeq, diEn, diZp, diR1, diR2, noX,  eqOk_int, eqOk_bl, eqOk_non, eqv_int, eqv_bl, eqv_non, atI_0, atI_1, atI_2, atI_3, qty_non, qisI_non, qisB_non, qisL_non, qisU_non, qisS_non, qisD_non, qisNon_non, qcooked_non, qseq_non, qty_bl, qisI_bl, qisB_bl, qisL_bl, qisU_bl, qisS_bl, qisD_bl, qisNon_bl, qcooked_bl, qseq_bl, qty_int, qisI_int, qisB_int, qisL_int, qisU_int, qisS_int, qisD_int, qisNon_int, qcooked_int, qseq_int, qty_str, qisI_str, qisB_str, qisL_str, qisU_str, qisS_str, qisD_str, qisNon_str, qcooked_str, qseq_str, qty_lst, qisI_lst, qisB_lst, qisL_lst, qisU_lst, qisS_lst, qisD_lst, qisNon_lst, qcooked_lst, qseq_lst, qty_tup, qisI_tup, qisB_tup, qisL_tup, qisU_tup, qisS_tup, qisD_tup, qisNon_tup, qcooked_tup, qseq_tup, qty_dct, qisI_dct, qisB_dct, qisL_dct, qisU_dct, qisS_dct, qisD_dct, qisNon_dct, qcooked_dct, qseq_dct, qix_lst, qsl_lst, qix_tup, qsl_tup, qisNon_ln, qcooked_ln, and_assoc, exists_and_left, exists_eq_left, exists_eq_left', exists_eq_right]
      refine ⟨by omega, R ++ Q, by rw [List.map_append], Q, rfl, fun A hA => ?_, by rw [List.length_append]; omega, hQ, by omega⟩
      rcases List.mem_append.mp hA with hA | hA
      · exact ⟨by have := (hR A hA).1; omega, (hR A hA).2⟩
      · exact ⟨by have := (hQ A hA).1; omega, (hQ A hA).2⟩
  · obtain ⟨R, H, a, b, c, d, rfl, hR, hRl, _⟩ := hj
    rw [List.length_range] at hR hRl
    simp [startD, wipeD, dsRet, dsRetN, dsIf, dsSeq, dsNext, dsAsg, dsDrop, dsBreak, dsCont, dsPar, dsAug, dsFrz, dsApp, dsExt, dsPut, dsAugO, dsOwn, dsParOO, dsParDO, dsParDDO, diR3, rdRepTz, dsFrzA, dxRep, diOwn, dsRaise, deAnd, deOr, deNot, de1, de2, deB, deX, dxB, dxLst, deName, deC, deCall, deIxO, deLenO, deTup, deLst, daCons, daNil, daStar, deChain, dtChain, dtV, dtAnd, dtOr, dtNot, dtYes, deIf, deSl, doNone, doSome, rdAdd, rdSub, rdMul, rdMod, rdDiv, rdPow, rdI, rdIc, rdB, rdLt, rdLe, rdGt, rdGe, rdNeg, rdIs, rdEq, rdNe, rdIx, rdIsN, rdNotN, rdIsB, rdNotB, rdRev, rdSeats, rdCatL, rdCatT, rdRepL, rdLen, rdTuple, rdList, rxList, rdInt, rdMax2, rdMin2, dgName, dgTup, dgCons, dgNil, deRefused, rdRepr, rdNeS, rdEqL, rdNeL, rdRepT, rdIsLn, noOwn, diSeq, diEn, diZp, diR1, diR2, noX,  eqOk_int, eqOk_bl, eqOk_non, eqv_int, eqv_bl, eqv_non, atI_0, atI_1, atI_2, atI_3, qty_non, qisI_non, qisB_non, qisL_non, qisU_non, qisS_non, qisD_non, qisNon_non, qcooked_non, qseq_non, qty_bl, qisI_bl, qisB_bl, qisL_bl, qisU_bl, qisS_bl, qisD_bl, qisNon_bl, qcooked_bl, qseq_bl, qty_int, qisI_int, qisB_int, qisL_int, qisU_int, qisS_int, qisD_int, qisNon_int, qcooked_int, qseq_int, qty_str, qisI_str, qisB_str, qisL_str, qisU_str, qisS_str, qisD_str, qisNon_str, qcooked_str, qseq_str, qty_lst, qisI_lst, qisB_lst, qisL_lst, qisU_lst, qisS_lst, qisD_lst, qisNon_lst, qcooked_lst, qseq_lst, qty_tup, qisI_tup, qisB_tup, qisL_tup, qisU_tup, qisS_tup, qisD_tup, qisNon_tup, qcooked_tup, qseq_tup, qty_dct, qisI_dct, qisB_dct, qisL_dct, qisU_dct, qisS_dct, qisD_dct, qisNon_dct, qcooked_dct, qseq_dct, qix_lst, qsl_lst, qix_tup, qsl_tup, qisNon_ln, qcooked_ln, and_assoc, exists_and_left, exists_eq_left, exists_eq_left', exists_eq_right]
    have h3 : 3 ^ (k + 1) ≤ 3 ^ 6 := Nat.pow_le_pow_right (by decide) (by omega)
    exact o R (fun A hA => ⟨by have := (hR A hA).1; omega, (hR A hA).2⟩) (by omega)
end
end K15
end
-- F_15__law_refused
section
set_option Elab.async false
set_option linter.all false
set_option maxRecDepth 100000
set_option maxHeartbeats 4000000
set_option autoImplicit false
namespace K15
open PySem PySem.Spec PyProof.Rows L2 Sd
section
variable {P : Program} {w : World} {K : PySem.W.Frag} {mg : Str → Option Value} {base : Heap}
def refTab : List (Str × Str) := [("BadAsked", "asked"), ("BadFares", "fares"), ("BadLast", "last"), ("BadLimits", "limits"), ("BadN", "n")]
theorem gives__law_refused {X : Cx} (x_BadAsked : Er X.prog X.w X.K X.mg X.base 1 "BadAsked") (x_BadFares : Er X.prog X.w X.K X.mg X.base 1 "BadFares") (x_BadLast : Er X.prog X.w X.K X.mg X.base 1 "BadLast") (x_BadLimits : Er X.prog X.w X.K X.mg X.base 1 "BadLimits") (x_BadN : Er X.prog X.w X.K X.mg X.base 1 "BadN") (hx : exmAll X.K refTab) (g : Addr) (cdg : Value) (q : Str) : LamX.GivesTo X ["ask", "e"] "_law_refused" (defScope s__law_refused) g cdg (defBody s__law_refused) "ask" q (TRef X.K refTab) :=
  have sc := sc__law_refused
  ref_gives (l := refTab) hx (by decide) (fun f s H => (does_cons rfl sc.nd rfl rfl ⟨by rfl, by decide, .inl x_BadAsked.g⟩ (fun a oe cls d pn hz hd => pss_one (ps_ret (pe_tup (pa_cons pe_str (pa_cons (pe_xf x_BadAsked.f.xf x_BadAsked.f.noV hz hd (pv 1)) pa_nil))))) (does_cons rfl sc.nd rfl rfl ⟨by rfl, by decide, .inl x_BadFares.g⟩ (fun a oe cls d pn hz hd => pss_one (ps_ret (pe_tup (pa_cons pe_str (pa_cons (pe_xf x_BadFares.f.xf x_BadFares.f.noV hz hd (pv 1)) pa_nil))))) (does_cons rfl sc.nd rfl rfl ⟨by rfl, by decide, .inl x_BadLast.g⟩ (fun a oe cls d pn hz hd => pss_one (ps_ret (pe_tup (pa_cons pe_str (pa_cons (pe_xf x_BadLast.f.xf x_BadLast.f.noV hz hd (pv 1)) pa_nil))))) (does_cons rfl sc.nd rfl rfl ⟨by rfl, by decide, .inl x_BadLimits.g⟩ (fun a oe cls d pn hz hd => pss_one (ps_ret (pe_tup (pa_cons pe_str (pa_cons (pe_xf x_BadLimits.f.xf x_BadLimits.f.noV hz hd (pv 1)) pa_nil))))) (does_cons rfl sc.nd rfl rfl ⟨by rfl, by decide, .inl x_BadN.g⟩ (fun a oe cls d pn hz hd => pss_one (ps_ret (pe_tup (pa_cons pe_str (pa_cons (pe_xf x_BadN.f.xf x_BadN.f.noV hz hd (pv 1)) pa_nil))))) (does_nil rfl rfl LamX.takes0)))))))

end
end K15
end
-- F_15_law
section
set_option Elab.async false
set_option linter.all false
set_option maxRecDepth 100000
set_option maxHeartbeats 4000000
set_option autoImplicit false
namespace K15
open PySem PySem.Spec PyProof.Rows L2 Sd
section
variable {P : Program} {w : World} {K : PySem.W.Frag} {mg : Str → Option Value} {base : Heap}
abbrev cxLaw (P : Program) (w : World) (K : PySem.W.Frag) (mg : Str → Option Value) (base : Heap) (f c : Addr) (A : Around) (s : Shared) (H : Hp) : Cx := cxOf (L2.CX P w) P w K mg base ["script", "row", "n", "fares", "k", "every", "limits", "worst", "due", "last", "some", "asked", "took", "most", "found", "best", "one", "told", "odd", "bad", "ask", "wrong", "j"] "law" (defScope s_law) f (.ref c) A [] s H E0
def tabsL (Pt : Addr) : List (Addr × Str) := [(Pt, (envOfC "law" (defScope s_law) 0 0 .none).qual ++ "<lambda>")]
theorem lam_law {f c Pt gR : Addr} {fdR : FuncData} {A : Around} {s : Shared} {H : Hp} (FR : FnP K "_law_refused" s__law_refused gR fdR) (bR : Binds K fdR ["ask"] []) (hmR : mg "_law_refused" = some (.ref gR)) (hx : exmAll K refTab) (x_BadAsked : Er P w K mg base 1 "BadAsked") (x_BadFares : Er P w K mg base 1 "BadFares") (x_BadLast : Er P w K mg base 1 "BadLast") (x_BadLimits : Er P w K mg base 1 "BadLimits") (x_BadN : Er P w K mg base 1 "BadN") (TB : LamX.TabB base mg c Pt) (hr : Room 13 (cxLaw P w K mg base f c A s H).A) :
    ∀ (G : Gx), G.F.tabs = tabsL Pt → ∀ {db : (Str → D → Prop) → DE} {params : Arguments} {body : Expr} {scope : Scope} {lpos p pos : Pos}, LamX.LamS (cxLaw P w K mg base f c A s H).env.scope scope → defaultsOf params (cxLaw P w K mg base f c A s H).env = ([], []) →
    (∀ (q : Str) (cl : List (Str × Addr)) (pm cv ctv : Value), bindArgs (PySem.W.kla_fn "<lambda>" q params body scope cl pm cv ctv) ⟨[], []⟩ = pure []) →
    (∀ (A2 : Around) (outer2 : List Env) (s2 : Shared) (H2 : Hp) (E2 : XK) (f2 c2 : Addr), Room 11 (A2.deeper (LamX.lamEnv (cxLaw P w K mg base f c A s H) scope s2.heap.objs.size f2 c2)) → PE (LamX.lamCx (cxLaw P w K mg base f c A s H) A2 outer2 s2 H2 E2 scope f2 c2) body (lamT K G.F db E2)) →
    PE (cxLaw P w K mg base f c A s H) (.Call (.Name "_law_refused" p) [.Lambda params body scope lpos] [] pos) (LamX.tLam G.F.tabs (TRef K refTab) (lamT K G.F db)) := by
  intro G hG db params body scope lpos p pos L hdef hbind hbody
  obtain ⟨oc, od, dV, kV, doc, pm, an, cdv, ct, osl, rfl, lk, hcd, _, _⟩ := FR.ex
  rw [hG]
  exact LamX.pe_lamcall (X := cxLaw P w K mg base f c A s H) (Ng := ["ask", "e"]) (a := "ask") (by rfl) hmR FR.kp lk hcd bR sc__law_refused rfl (Or.inl rfl) (gives__law_refused x_BadAsked x_BadFares x_BadLast x_BadLimits x_BadN hx gR cdv _) TB rfl (List.mem_singleton.mpr rfl) (fun q hq _ => by rw [List.mem_singleton.mp hq] <;> rfl) hr L hdef hbind hbody
theorem law_data (T : Txt K mg) {f c Pt gR r sa : Addr} {fdR : FuncData} {s0 : Shared} {H0 : Hp} (c__law_alike : Cl P w K mg base 8 "_law_alike" sp__law_alike []) (c__law_flood : Cl P w K mg base 1 "_law_flood" sp__law_flood []) (c__law_limits : Cl P w K mg base 1 "_law_limits" sp__law_limits []) (c__law_lowest : Cl P w K mg base 1 "_law_lowest" sp__law_lowest []) (c__law_pick : Cl P w K mg base 2 "_law_pick" sp__law_pick []) (c__law_rows : Cl P w K mg base 1 "_law_rows" sp__law_rows []) (c__law_sums : Cl P w K mg base 2 "_law_sums" sp__law_sums []) (c__law_taken : Cl P w K mg base 1 "_law_taken" sp__law_taken []) (c__law_took : Cl P w K mg base 1 "_law_took" sp__law_took []) (c__law_worst : Cl P w K mg base 3 "_law_worst" sp__law_worst []) (c_asked_takings : Cl P w K mg base 5 "asked_takings" sp_asked_takings []) (c_best_asked : Cl P w K mg base 4 "best_asked" sp_best_asked []) (c_best_limits : Cl P w K mg base 6 "best_limits" sp_best_limits []) (c_best_share : Cl P w K mg base 6 "best_share" sp_best_share []) (c_flood : Cl P w K mg base 4 "flood" sp_flood []) (c_share : Cl P w K mg base 5 "share" sp_share []) (c_taken : Cl P w K mg base 5 "taken" sp_taken []) (c_worst_flood : Cl P w K mg base 5 "worst_flood" sp_worst_flood [])  (FR : FnP K "_law_refused" s__law_refused gR fdR) (bR : Binds K fdR ["ask"] []) (hmR : mg "_law_refused" = some (.ref gR)) (hx : exmAll K refTab) (x_BadAsked : Er P w K mg base 1 "BadAsked") (x_BadFares : Er P w K mg base 1 "BadFares") (x_BadLast : Er P w K mg base 1 "BadLast") (x_BadLimits : Er P w K mg base 1 "BadLimits") (x_BadN : Er P w K mg base 1 "BadN")
    (TB : LamX.TabB base mg c Pt) {A : Around} (hgd : (cxLaw P w K mg base f c A s0 H0).A.guards = some []) (hr : Room 13 (cxLaw P w K mg base f c A s0 H0).A) (G : Gx) (hG : G.F.tabs = tabsL Pt) (hrow : G.F.row = some (r, sa)) :
    ∃ t : DS, PSsd (cxLaw P w K mg base f c A s0 H0) G (defBody s_law).tail t ∧ t { nx := fun _ => False, rt := fun d => d = .bl true } (startD ["script", "row", "n", "fares", "k", "every", "limits", "worst", "due", "last", "some", "asked", "took", "most", "found", "best", "one", "told", "odd", "bad", "ask", "wrong", "j"] [.raw (.ref sa), .raw (.ref r)]) := by
  have sc := sc_law
  have lam := lam_law (P := P) (w := w) (K := K) (mg := mg) (base := base) (f := f) (c := c) (A := A) (s := s0) (H := H0) (Pt := Pt) FR bR hmR hx x_BadAsked x_BadFares x_BadLast x_BadLimits x_BadN TB hr
  have lps : ∀ (A2 : Around) (outer2 : List Env) (s2 : Shared) (H2 : Hp) (E2 : XK) (scope : Scope) (f2 c2 : Addr), Passes (L2.CX P w) (LamX.lamCx (cxLaw P w K mg base f c A s0 H0) A2 outer2 s2 H2 E2 scope f2 c2) E2 := fun A2 outer2 s2 H2 E2 scope f2 c2 => lam_passes (X := cxLaw P w K mg base f c A s0 H0)
  refine ⟨_, (pssd_cons (psd_asg (pd_tup (pad_cons (pd_call c__law_pick hr (by first | decide | omega) (pad_cons (pd_name (pv 1)) (pad_cons (pd_lst (pad_cons pd_int (pad_cons pd_int (pad_cons pd_int (pad_cons (pd_add pd_int (pd_call c__law_taken hr (by first | decide | omega) (pad_cons (pd_name (pv 1)) (pad_cons pd_int pad_nil)))) pad_nil))))) pad_nil))) (pad_cons (pd_lst (pad_cons (pd_add pd_int (pd_call c__law_taken hr (by first | decide | omega) (pad_cons (pd_name (pv 1)) (pad_cons (pd_call c__law_pick hr (by first | decide | omega) (pad_cons (pd_name (pv 1)) (pad_cons (pd_lst (pad_cons pd_int (pad_cons pd_int pad_nil))) pad_nil))) pad_nil)))) pad_nil)) pad_nil))) (pgd_tup (n := 2) (pgsd_cons (pgd_name (i := 2) sc.nd rfl (Or.inr rfl)) (pgsd_cons (pgd_name (i := 3) sc.nd rfl (Or.inr rfl)) pgsd_nil))))
  (pssd_cons (psd_for (passes_of rfl) (pid_r1 T.b_range (pad_cons (pd_call c__law_taken hr (by first | decide | omega) (pad_cons (pd_name (pv 1)) (pad_cons pd_int pad_nil))) pad_nil)) (pgd_name (i := 4) sc.nd rfl (Or.inl rfl))
  (pssd_one (psd_set (i := 3) sc.nd rfl (Or.inr rfl) (pd_ifExp (ptd_lt (pd_item (pd_name (pv 3)) pd_int) pd_int) (pd_catL (pd_lst (pad_cons (pd_callB (call_min2 rfl) snd_min2 T.b_min (pad_cons pd_int (pad_cons (pd_add (pd_add (pd_item (pd_name (pv 3)) pd_int) pd_int) (pd_call c__law_taken hr (by first | decide | omega) (pad_cons (pd_name (pv 1)) (pad_cons pd_int pad_nil)))) pad_nil))) pad_nil)) (pd_name (pv 3))) (pd_name (pv 3))))))
  (pssd_cons (psd_set (i := 5) sc.nd rfl (Or.inl rfl) (pd_call c__law_limits hr (by first | decide | omega) (pad_cons (pd_name (pv 2)) (pad_cons (pd_callB call_len_seq snd_len T.b_len (pad_cons (pd_name (pv 3)) pad_nil)) pad_nil))))
  (pssd_cons (psd_set (i := 6) sc.nd rfl (Or.inr rfl) (pd_call c__law_pick hr (by first | decide | omega) (pad_cons (pd_name (pv 1)) (pad_cons (pd_name (pv 5)) pad_nil))))
  (pssd_cons (psd_set (i := 7) sc.nd rfl (Or.inl rfl) (pd_call c__law_worst hr (by first | decide | omega) (pad_cons (pd_name (pv 2)) (pad_cons (pd_name (pv 3)) (pad_cons (pd_name (pv 6)) pad_nil)))))
  (pssd_cons (psd_set (i := 8) sc.nd rfl (Or.inl rfl) (pd_call c__law_lowest hr (by first | decide | omega) (pad_cons (pd_item (pd_name (pv 7)) pd_int) (pad_cons (pd_item (pd_name (pv 7)) pd_int) pad_nil))))
  (pssd_cons (psd_if (ptd_w (pwd_or (ptd_not (ptd_val (pd_call c__law_alike hr (by first | decide | omega) (pad_cons (pd_call c_share hr (by first | decide | omega) (pad_cons (pd_name (pv 2)) (pad_cons (pd_callTy call_tuple_of snd_tuple T.b_tuple (pad_cons (pd_name (pv 3)) pad_nil)) (pad_cons (pd_name (pv 6)) pad_nil)))) (pad_cons (pd_name (pv 8)) pad_nil))))) (pwd_or1 (ptd_not (ptd_val (pd_call c__law_alike hr (by first | decide | omega) (pad_cons (pd_call c_worst_flood hr (by first | decide | omega) (pad_cons (pd_name (pv 2)) (pad_cons (pd_name (pv 3)) (pad_cons (pd_name (pv 6)) pad_nil)))) (pad_cons (pd_item (pd_name (pv 7)) pd_int) pad_nil))))))))
  (pssd_one (psd_ret pd_bl))
  pssd_nil)
  (pssd_cons (psd_set (i := 9) sc.nd rfl (Or.inl rfl) (pd_call c__law_taken hr (by first | decide | omega) (pad_cons (pd_name (pv 1)) (pad_cons (pd_callB call_len_seq snd_len T.b_len (pad_cons (pd_name (pv 3)) pad_nil)) pad_nil))))
  (pssd_cons (psd_if (ptd_not (ptd_val (pd_call c__law_alike hr (by first | decide | omega) (pad_cons (pd_call c_flood hr (by first | decide | omega) (pad_cons (pd_name (pv 2)) (pad_cons (pd_name (pv 3)) (pad_cons (pd_name (pv 9)) pad_nil)))) (pad_cons (pd_call c__law_flood hr (by first | decide | omega) (pad_cons (pd_name (pv 2)) (pad_cons (pd_name (pv 3)) (pad_cons (pd_name (pv 9)) pad_nil)))) pad_nil)))))
  (pssd_one (psd_ret pd_bl))
  pssd_nil)
  (pssd_cons (psd_setLc (i := 10) sc.nd rfl rfl (sw_true rfl rfl rfl (by kernel_rfl)) (own := [(("j" : Str), 22)]) (pid_r1 T.b_range (pad_cons pd_int pad_nil)) (by kernel_rfl) (fun _ _ _ _ _ => (pgc_name (i := 22) sc.nd rfl (by first | exact Or.inl rfl | exact Or.inr rfl) (by decide))) (fun _ _ _ _ _ => ptsd_nil) (fun _ _ _ _ _ => (pd_x (pxd_lc (own := [(("k" : Str), 4)]) sc.nd (pid_r1 T.b_range (pad_cons (pd_add pd_int (pd_call c__law_taken hr (by first | decide | omega) (pad_cons (pd_name (pv 1)) (pad_cons pd_int pad_nil)))) pad_nil)) (by kernel_rfl) (fun _ _ _ _ _ => (pgc_name (i := 4) sc.nd rfl (by first | exact Or.inl rfl | exact Or.inr rfl) (by decide))) (fun _ _ _ _ _ => ptsd_nil) (fun _ _ _ _ _ => (pd_call c__law_taken hr (by first | decide | omega) (pad_cons (pd_name (pv 1)) (pad_cons (pd_callB call_len_seq snd_len T.b_len (pad_cons (pd_name (pv 3)) pad_nil)) pad_nil))))))))
  (pssd_cons (psd_if (ptd_w (pwd_and (ptd_lt (pd_name (pv 2)) pd_int) (pwd_and1 (ptd_lt (pd_callB call_len_seq snd_len T.b_len (pad_cons (pd_name (pv 3)) pad_nil)) pd_int))))
  (pssd_one (psd_set (i := 10) sc.nd rfl (Or.inl rfl) (pd_catL (pd_name (pv 10)) (pd_call c__law_rows hr (by first | decide | omega) (pad_cons (pd_callB call_len_seq snd_len T.b_len (pad_cons (pd_name (pv 3)) pad_nil)) (pad_cons pd_int pad_nil))))))
  pssd_nil)
  (pssd_cons (psd_for (passes_of rfl) (pid_seq (pd_name (pv 10))) (pgd_name (i := 11) sc.nd rfl (Or.inl rfl))
  (pssd_cons (psd_asg (pd_call c__law_sums hr (by first | decide | omega) (pad_cons (pd_name (pv 2)) (pad_cons (pd_name (pv 3)) (pad_cons (pd_name (pv 6)) (pad_cons (pd_name (pv 11)) pad_nil))))) (pgd_tup (n := 2) (pgsd_cons (pgd_name (i := 12) sc.nd rfl (Or.inl rfl)) (pgsd_cons (pgd_name (i := 13) sc.nd rfl (Or.inl rfl)) pgsd_nil))))
  (pssd_one (psd_if (ptd_lt (pd_mul (pd_name (pv 12)) (pd_item (pd_name (pv 8)) pd_int)) (pd_mul (pd_item (pd_name (pv 8)) pd_int) (pd_name (pv 13))))
  (pssd_one (psd_ret pd_bl))
  pssd_nil))))
  (pssd_cons (psd_for (passes_of rfl) (pid_seq (pd_slice (pd_name (pv 10)) pod_none (pod_some pd_int))) (pgd_name (i := 11) sc.nd rfl (Or.inl rfl))
  (pssd_cons (psd_asg (pd_call c__law_sums hr (by first | decide | omega) (pad_cons (pd_name (pv 2)) (pad_cons (pd_name (pv 3)) (pad_cons (pd_name (pv 6)) (pad_cons (pd_name (pv 11)) pad_nil))))) (pgd_tup (n := 2) (pgsd_cons (pgd_name (i := 12) sc.nd rfl (Or.inl rfl)) (pgsd_cons (pgd_name (i := 13) sc.nd rfl (Or.inl rfl)) pgsd_nil))))
  (pssd_cons (psd_set (i := 14) sc.nd rfl (Or.inl rfl) (pd_tup (pad_cons (pd_call c_taken hr (by first | decide | omega) (pad_cons (pd_name (pv 2)) (pad_cons (pd_name (pv 3)) (pad_cons (pd_name (pv 6)) (pad_cons (pd_callTy call_tuple_of snd_tuple T.b_tuple (pad_cons (pd_name (pv 11)) pad_nil)) pad_nil))))) (pad_cons (pd_call c_asked_takings hr (by first | decide | omega) (pad_cons (pd_name (pv 2)) (pad_cons (pd_name (pv 3)) (pad_cons (pd_name (pv 6)) (pad_cons (pd_name (pv 11)) pad_nil))))) (pad_cons (pd_call c_best_asked hr (by first | decide | omega) (pad_cons (pd_name (pv 2)) (pad_cons (pd_name (pv 3)) (pad_cons (pd_name (pv 11)) pad_nil)))) pad_nil)))))
  (pssd_one (psd_if (ptd_not (ptd_val (pd_call c__law_alike hr (by first | decide | omega) (pad_cons (pd_name (pv 14)) (pad_cons (pd_tup (pad_cons (pd_call c__law_took hr (by first | decide | omega) (pad_cons (pd_name (pv 6)) (pad_cons (pd_name (pv 11)) pad_nil))) (pad_cons (pd_name (pv 12)) (pad_cons (pd_name (pv 13)) pad_nil)))) pad_nil)))))
  (pssd_one (psd_ret pd_bl))
  pssd_nil)))))
  (pssd_cons (psd_set (i := 15) sc.nd rfl (Or.inl rfl) pd_non)
  (pssd_cons (psd_for (passes_of rfl) (pid_seq (pd_name (pv 5))) (pgd_name (i := 16) sc.nd rfl (Or.inl rfl))
  (pssd_cons (psd_set (i := 17) sc.nd rfl (Or.inl rfl) (pd_call c__law_worst hr (by first | decide | omega) (pad_cons (pd_name (pv 2)) (pad_cons (pd_name (pv 3)) (pad_cons (pd_name (pv 16)) pad_nil)))))
  (pssd_one (psd_if (ptd_w (pwd_or (ptd_isN (pd_name (pv 15)) pd_non) (pwd_or1 (ptd_gt (pd_mul (pd_item (pd_name (pv 17)) pd_int) (pd_item (pd_name (pv 15)) pd_int)) (pd_mul (pd_item (pd_name (pv 15)) pd_int) (pd_item (pd_name (pv 17)) pd_int))))))
  (pssd_one (psd_set (i := 15) sc.nd rfl (Or.inl rfl) (pd_tup (pad_cons (pd_item (pd_name (pv 17)) pd_int) (pad_cons (pd_item (pd_name (pv 17)) pd_int) (pad_cons (pd_name (pv 16)) pad_nil))))))
  pssd_nil))))
  (pssd_cons (psd_if (ptd_w (pwd_or (ptd_not (ptd_val (pd_call c__law_alike hr (by first | decide | omega) (pad_cons (pd_call c_best_limits hr (by first | decide | omega) (pad_cons (pd_name (pv 2)) (pad_cons (pd_name (pv 3)) pad_nil))) (pad_cons (pd_item (pd_name (pv 15)) pd_int) pad_nil))))) (pwd_or1 (ptd_not (ptd_val (pd_call c__law_alike hr (by first | decide | omega) (pad_cons (pd_call c_best_share hr (by first | decide | omega) (pad_cons (pd_name (pv 2)) (pad_cons (pd_name (pv 3)) pad_nil))) (pad_cons (pd_call c__law_lowest hr (by first | decide | omega) (pad_cons (pd_item (pd_name (pv 15)) pd_int) (pad_cons (pd_item (pd_name (pv 15)) pd_int) pad_nil))) pad_nil))))))))
  (pssd_one (psd_ret pd_bl))
  pssd_nil)
  (pssd_cons (psd_asg (pd_tup (pad_cons (pd_call c__law_pick hr (by first | decide | omega) (pad_cons (pd_name (pv 1)) (pad_cons (pd_lst (pad_cons pd_int (pad_cons pd_int (pad_cons pd_non (pad_cons pd_bl pad_nil))))) pad_nil))) (pad_cons (pd_call c__law_pick hr (by first | decide | omega) (pad_cons (pd_name (pv 1)) (pad_cons (pd_lst (pad_cons pd_non (pad_cons (pd_lst pad_nil) (pad_cons (pd_lst (pad_cons pd_int (pad_cons pd_int pad_nil))) (pad_cons (pd_lst (pad_cons pd_int (pad_cons pd_int pad_nil))) (pad_cons (pd_lst (pad_cons pd_int pad_nil)) (pad_cons (pd_lst (pad_cons pd_int pad_nil)) (pad_cons (pd_lst (pad_cons pd_bl pad_nil)) (pad_cons (pd_lst (pad_cons pd_int (pad_cons pd_int (pad_cons pd_int (pad_cons pd_int (pad_cons pd_int pad_nil)))))) (pad_cons pd_int pad_nil)))))))))) pad_nil))) pad_nil))) (pgd_tup (n := 2) (pgsd_cons (pgd_name (i := 18) sc.nd rfl (Or.inr rfl)) (pgsd_cons (pgd_name (i := 19) sc.nd rfl (Or.inr rfl)) pgsd_nil))))
  (pssd_cons (psd_for (passes_of rfl) (pid_seq (pd_lst (pad_cons (pd_gref T.g_best_limits) (pad_cons (pd_gref T.g_best_share) pad_nil)))) (pgd_name (i := 20) sc.nd rfl (Or.inr rfl))
  (pssd_cons (psd_if (ptd_neS (pd_repr hgd hr.units T.b_repr (pad_cons (pd_refused (lam G hG (LamX.lamS_by (by kernel_rfl)) rfl (fun _ _ _ _ _ => rfl) (fun A2 outer2 s2 H2 E2 f2 c2 hr2 => lam_of (fun B0 H0 Xc hE2 => (pd_orE (lam_callV (i := 20) c_best_limits T.g_best_limits hr2 (by first | decide | omega) hE2 (lps A2 outer2 s2 H2 E2 _ f2 c2) rfl (by first | exact Or.inl rfl | exact Or.inr (Or.inl rfl) | exact Or.inr (Or.inr rfl)) (pad_cons (pd_name (pv 18)) (pad_cons pd_non pad_nil)))
    (lam_callV (i := 20) c_best_share T.g_best_share hr2 (by first | decide | omega) hE2 (lps A2 outer2 s2 H2 E2 _ f2 c2) rfl (by first | exact Or.inl rfl | exact Or.inr (Or.inl rfl) | exact Or.inr (Or.inr rfl)) (pad_cons (pd_name (pv 18)) (pad_cons pd_non pad_nil)))))))) pad_nil)) (pd_repr hgd hr.units T.b_repr (pad_cons (pd_tup (pad_cons pd_str (pad_cons (pd_name (pv 18)) pad_nil))) pad_nil)))
  (pssd_one (psd_ret pd_bl))
  pssd_nil)
  (pssd_one (psd_if (ptd_neS (pd_repr hgd hr.units T.b_repr (pad_cons (pd_refused (lam G hG (LamX.lamS_by (by kernel_rfl)) rfl (fun _ _ _ _ _ => rfl) (fun A2 outer2 s2 H2 E2 f2 c2 hr2 => lam_of (fun B0 H0 Xc hE2 => (pd_orE (lam_callV (i := 20) c_best_limits T.g_best_limits hr2 (by first | decide | omega) hE2 (lps A2 outer2 s2 H2 E2 _ f2 c2) rfl (by first | exact Or.inl rfl | exact Or.inr (Or.inl rfl) | exact Or.inr (Or.inr rfl)) (pad_cons (pd_name (pv 2)) (pad_cons (pd_name (pv 19)) pad_nil)))
    (lam_callV (i := 20) c_best_share T.g_best_share hr2 (by first | decide | omega) hE2 (lps A2 outer2 s2 H2 E2 _ f2 c2) rfl (by first | exact Or.inl rfl | exact Or.inr (Or.inl rfl) | exact Or.inr (Or.inr rfl)) (pad_cons (pd_name (pv 2)) (pad_cons (pd_name (pv 19)) pad_nil)))))))) pad_nil)) (pd_repr hgd hr.units T.b_repr (pad_cons (pd_tup (pad_cons pd_str (pad_cons (pd_name (pv 19)) pad_nil))) pad_nil)))
  (pssd_one (psd_ret pd_bl))
  pssd_nil))))
  (pssd_cons (psd_set (i := 21) sc.nd rfl (Or.inr rfl) (pd_call c__law_pick hr (by first | decide | omega) (pad_cons (pd_name (pv 1)) (pad_cons (pd_lst (pad_cons pd_non (pad_cons (pd_callTy call_list_of snd_list T.b_list (pad_cons (pd_name (pv 6)) pad_nil)) (pad_cons (pd_catT (pd_name (pv 6)) (pd_tup (pad_cons pd_int pad_nil))) (pad_cons (pd_repTz (pd_tup (pad_cons (pd_add (pd_name (pv 2)) pd_int) pad_nil)) (pd_callB call_len_seq snd_len T.b_len (pad_cons (pd_name (pv 3)) pad_nil))) (pad_cons (pd_catT (pd_tup (pad_cons (pd_sub (pd_name (pv 2)) pd_int) pad_nil)) (pd_slice (pd_name (pv 6)) (pod_some pd_int) pod_none)) (pad_cons (pd_catT (pd_repTz (pd_tup (pad_cons (pd_name (pv 2)) pad_nil)) (pd_sub (pd_callB call_len_seq snd_len T.b_len (pad_cons (pd_name (pv 3)) pad_nil)) pd_int)) (pd_tup (pad_cons (pd_neg pd_int) pad_nil))) (pad_cons (pd_repTz (pd_tup (pad_cons pd_non pad_nil)) (pd_callB call_len_seq snd_len T.b_len (pad_cons (pd_name (pv 3)) pad_nil))) pad_nil)))))))) pad_nil))))
  (pssd_cons (psd_for (passes_of rfl) (pid_seq (pd_lst (pad_cons (pd_gref T.g_share) (pad_cons (pd_gref T.g_worst_flood) pad_nil)))) (pgd_name (i := 20) sc.nd rfl (Or.inr rfl))
  (pssd_one (psd_if (ptd_neS (pd_repr hgd hr.units T.b_repr (pad_cons (pd_refused (lam G hG (LamX.lamS_by (by kernel_rfl)) rfl (fun _ _ _ _ _ => rfl) (fun A2 outer2 s2 H2 E2 f2 c2 hr2 => lam_of (fun B0 H0 Xc hE2 => (pd_orE (lam_callV (i := 20) c_share T.g_share hr2 (by first | decide | omega) hE2 (lps A2 outer2 s2 H2 E2 _ f2 c2) rfl (by first | exact Or.inl rfl | exact Or.inr (Or.inl rfl) | exact Or.inr (Or.inr rfl)) (pad_cons (pd_name (pv 2)) (pad_cons (pd_name (pv 3)) (pad_cons (pd_name (pv 21)) pad_nil))))
    (lam_callV (i := 20) c_worst_flood T.g_worst_flood hr2 (by first | decide | omega) hE2 (lps A2 outer2 s2 H2 E2 _ f2 c2) rfl (by first | exact Or.inl rfl | exact Or.inr (Or.inl rfl) | exact Or.inr (Or.inr rfl)) (pad_cons (pd_name (pv 2)) (pad_cons (pd_name (pv 3)) (pad_cons (pd_name (pv 21)) pad_nil))))))))) pad_nil)) (pd_repr hgd hr.units T.b_repr (pad_cons (pd_tup (pad_cons pd_str (pad_cons (pd_name (pv 21)) pad_nil))) pad_nil)))
  (pssd_one (psd_ret pd_bl))
  pssd_nil)))
  (pssd_cons (psd_if (ptd_ne hr.units (pd_refused (lam G hG (LamX.lamS_by (by kernel_rfl)) rfl (fun _ _ _ _ _ => rfl) (fun A2 outer2 s2 H2 E2 f2 c2 hr2 => lam_of (fun B0 H0 Xc hE2 => (lam_callX c_taken hr2 (by first | decide | omega) hE2 (lps A2 outer2 s2 H2 E2 _ f2 c2) (pad_cons (pd_name (pv 2)) (pad_cons (pd_name (pv 3)) (pad_cons (pd_name (pv 6)) (pad_cons (pd_lst (pad_cons pd_int (pad_cons (lam_call c__law_pick hr2 (by first | decide | omega) (pad_cons (pd_name (pv 1)) (pad_cons (pd_lst (pad_cons (pd_neg pd_int) (pad_cons (pd_callB call_len_seq snd_len T.b_len (pad_cons (pd_name (pv 3)) pad_nil)) (pad_cons pd_non (pad_cons pd_bl pad_nil))))) pad_nil))) pad_nil))) pad_nil))))))))) (pd_tup (pad_cons pd_str (pad_cons pd_int pad_nil))))
  (pssd_one (psd_ret pd_bl))
  pssd_nil)
  (pssd_cons (psd_if (ptd_ne hr.units (pd_refused (lam G hG (LamX.lamS_by (by kernel_rfl)) rfl (fun _ _ _ _ _ => rfl) (fun A2 outer2 s2 H2 E2 f2 c2 hr2 => lam_of (fun B0 H0 Xc hE2 => (lam_callX c_best_asked hr2 (by first | decide | omega) hE2 (lps A2 outer2 s2 H2 E2 _ f2 c2) (pad_cons (pd_name (pv 2)) (pad_cons (pd_name (pv 3)) (pad_cons (lam_call c__law_pick hr2 (by first | decide | omega) (pad_cons (pd_name (pv 1)) (pad_cons (pd_lst (pad_cons pd_non (pad_cons (pd_repL (pd_lst (pad_cons pd_int pad_nil)) pd_int) (pad_cons pd_int pad_nil)))) pad_nil))) pad_nil)))))))) (pd_tup (pad_cons pd_str (pad_cons (pd_neg pd_int) pad_nil))))
  (pssd_one (psd_ret pd_bl))
  pssd_nil)
  (pssd_one (psd_ret (pd_eq hr.units (pd_refused (lam G hG (LamX.lamS_by (by kernel_rfl)) rfl (fun _ _ _ _ _ => rfl) (fun A2 outer2 s2 H2 E2 f2 c2 hr2 => lam_of (fun B0 H0 Xc hE2 => (lam_callX c_flood hr2 (by first | decide | omega) hE2 (lps A2 outer2 s2 H2 E2 _ f2 c2) (pad_cons (pd_name (pv 2)) (pad_cons (pd_name (pv 3)) (pad_cons (pd_callB call_len_seq snd_len T.b_len (pad_cons (pd_name (pv 3)) pad_nil)) pad_nil)))))))) (pd_tup (pad_cons pd_str (pad_cons (pd_callB call_len_seq snd_len T.b_len (pad_cons (pd_name (pv 3)) pad_nil)) pad_nil)))))))))))))))))))))))))))), ?_⟩
  have lkA : refTab.lookup ("BadAsked" : Str) = some "asked" := rfl
  have lkF : refTab.lookup ("BadFares" : Str) = some "fares" := rfl
  have lkLa : refTab.lookup ("BadLast" : Str) = some "last" := rfl
  have lkLi : refTab.lookup ("BadLimits" : Str) = some "limits" := rfl
  have lkN : refTab.lookup ("BadN" : Str) = some "n" := rfl
  have rkN : ∀ {d : D}, d.rok 1 = true → D.rok 2 (.tup [.str "n", d]) = true := fun h => rok_pair (by decide +kernel) h
  have rkF : ∀ {d : D}, d.rok 1 = true → D.rok 2 (.tup [.str "fares", d]) = true := fun h => rok_pair (by decide +kernel) h
  have rkL : ∀ {d : D}, d.rok 1 = true → D.rok 2 (.tup [.str "limits", d]) = true := fun h => rok_pair (by decide +kernel) h
  -- n, fares
  refine seq_gen (fun δ' => ∃ (n : Nat) (f0 : Int), (1 ≤ n ∧ n ≤ 12 ∧ 1 ≤ f0 ∧ f0 ≤ 300) ∧ δ' = [.dat (.raw (.ref sa)), .dat (.raw (.ref r)), .dat (.int (n : Int)), .dat (.lst [.int f0]), .un, .un, .un, .un, .un, .un, .un, .un, .un, .un, .un, .un, .un, .un, .un, .un, .un, .un, .un]) (fun N hN => ?_) (fun δ' hj => ?_)
  · have key : ∀ (m f0 : Int), 1 ≤ m → m ≤ 12 → 1 ≤ f0 → f0 ≤ 300 → N [.dat (.raw (.ref sa)), .dat (.raw (.ref r)), .dat (.int m), .dat (.lst [.int f0]), .un, .un, .un, .un, .un, .un, .un, .un, .un, .un, .un, .un, .un, .un, .un, .un, .un, .un, .un] := fun m f0 h1 h2 h3 h4 => by
      obtain ⟨n, rfl⟩ := Int.eq_ofNat_of_zero_le (show 0 ≤ m by omega)
      exact hN _ ⟨n, f0, ⟨by omega, by omega, h3, h4⟩, rfl⟩
    simp [startD, wipeD, dsRet, dsRetN, dsIf, dsSeq, dsNext, dsAsg, dsDrop, dsBreak, dsCont, dsPar, dsAug, dsFrz, dsApp, dsExt, dsPut, dsAugO, dsOwn, dsParOO, dsParDO, dsParDDO, diR3, rdRepTz, dsFrzA, dxRep, diOwn, dsRaise, deAnd, deOr, deNot, de1, de2, deB, deX, dxB, dxLst, deName, deC, deCall, deIxO, deLenO, deTup, deLst, daCons, daNil, daStar, deChain, dtChain, dtV, dtAnd, dtOr, dtNot, dtYes, deIf, deSl, doNone, doSome, rdAdd, rdSub, rdMul, rdMod, rdDiv, rdPow, rdI, rdIc, rdB, rdLt, rdLe, rdGt, rdGe, rdNeg, rdIs, rdEq, rdNe, rdIx, rdIsN, rdNotN, rdIsB, rdNotB, rdRev, rdSeats, rdCatL, rdCatT, rdRepL, rdLen, rdTuple, rdList, rxList, rdInt, rdMax2, rdMin2, dgName, dgTup, dgCons, dgNil, deRefused, rdRepr, rdNeS, rdEqL, rdNeL, rdRepT, rdIsLn, noOwn, diSeq, diEn, diZp, diR1, diR2, noX,  eqOk_int, eqOk_bl, eqOk_non, eqv_int, eqv_bl, eqv_non, atI_0, atI_1, atI_2, atI_3, qty_non, qisI_non, qisB_non, qisL_non, qisU_non, qisS_non, qisD_non, qisNon_non, qcooked_non, qseq_non, qty_bl, qisI_bl, qisB_bl, qisL_bl, qisU_bl, qisS_bl, qisD_bl, qisNon_bl, qcooked_bl, qseq_bl, qty_int, qisI_int, qisB_int, qisL_int, qisU_int, qisS_int, qisD_int, qisNon_int, qcooked_int, qseq_int, qty_str, qisI_str, qisB_str, qisL_str, qisU_str, qisS_str, qisD_str, qisNon_str, qcooked_str, qseq_str, qty_lst, qisI_lst, qisB_lst, qisL_lst, qisU_lst, qisS_lst, qisD_lst, qisNon_lst, qcooked_lst, qseq_lst, qty_tup, qisI_tup, qisB_tup, qisL_tup, qisU_tup, qisS_tup, qisD_tup, qisNon_tup, qcooked_tup, qseq_tup, qty_dct, qisI_dct, qisB_dct, qisL_dct, qisU_dct, qisS_dct, qisD_dct, qisNon_dct, qcooked_dct, qseq_dct, qix_lst, qsl_lst, qix_tup, qsl_tup, qisNon_ln, qcooked_ln, and_assoc, exists_and_left, exists_eq_left, exists_eq_left', exists_eq_right, dxLc_eq, dsFor_eq, rngD_0, rngD_eq, zipD_map, enumD_map0, sp__law_pick, sp__law_taken]
    (repeat' first | (with_reducible exact ⟨_, hrow⟩) | (with_reducible apply And.intro) | intro _) <;> (try omega)
    all_goals (refine key _ _ ?_ ?_ ?_ ?_ <;> omega)
  obtain ⟨n, f0, ⟨n1, n12, hf1, hf2⟩, rfl⟩ := hj
  -- more fares
  refine seq_gen (fun δ' => ∃ (F : List Int) (x4 : Sl), (FI F ∧ F.length ≤ 4) ∧ δ' = [.dat (.raw (.ref sa)), .dat (.raw (.ref r)), .dat (.int (n : Int)), .dat (.lst (F.map D.int)), x4, .un, .un, .un, .un, .un, .un, .un, .un, .un, .un, .un, .un, .un, .un, .un, .un, .un, .un]) (fun N hN => ?_) (fun δ' hj => ?_)
  · simp [startD, wipeD, dsRet, dsRetN, dsIf, dsSeq, dsNext, dsAsg, dsDrop, dsBreak, dsCont, dsPar, dsAug, dsFrz, dsApp, dsExt, dsPut, dsAugO, dsOwn, dsParOO, dsParDO, dsParDDO, diR3, rdRepTz, dsFrzA, dxRep, diOwn, dsRaise, deAnd, deOr, deNot, de1, de2, deB, deX, dxB, dxLst, deName, deC, deCall, deIxO, deLenO, deTup, deLst, daCons, daNil, daStar, deChain, dtChain, dtV, dtAnd, dtOr, dtNot, dtYes, deIf, deSl, doNone, doSome, rdAdd, rdSub, rdMul, rdMod, rdDiv, rdPow, rdI, rdIc, rdB, rdLt, rdLe, rdGt, rdGe, rdNeg, rdIs, rdEq, rdNe, rdIx, rdIsN, rdNotN, rdIsB, rdNotB, rdRev, rdSeats, rdCatL, rdCatT, rdRepL, rdLen, rdTuple, rdList, rxList, rdInt, rdMax2, rdMin2, dgName, dgTup, dgCons, dgNil, deRefused, rdRepr, rdNeS, rdEqL, rdNeL, rdRepT, rdIsLn, noOwn, diSeq, diEn, diZp, diR1, diR2, noX,  eqOk_int, eqOk_bl, eqOk_non, eqv_int, eqv_bl, eqv_non, atI_0, atI_1, atI_2, atI_3, qty_non, qisI_non, qisB_non, qisL_non, qisU_non, qisS_non, qisD_non, qisNon_non, qcooked_non, qseq_non, qty_bl, qisI_bl, qisB_bl, qisL_bl, qisU_bl, qisS_bl, qisD_bl, qisNon_bl, qcooked_bl, qseq_bl, qty_int, qisI_int, qisB_int, qisL_int, qisU_int, qisS_int, qisD_int, qisNon_int, qcooked_int, qseq_int, qty_str, qisI_str, qisB_str, qisL_str, qisU_str, qisS_str, qisD_str, qisNon_str, qcooked_str, qseq_str, qty_lst, qisI_lst, qisB_lst, qisL_lst, qisU_lst, qisS_lst, qisD_lst, qisNon_lst, qcooked_lst, qseq_lst, qty_tup, qisI_tup, qisB_tup, qisL_tup, qisU_tup, qisS_tup, qisD_tup, qisNon_tup, qcooked_tup, qseq_tup, qty_dct, qisI_dct, qisB_dct, qisL_dct, qisU_dct, qisS_dct, qisD_dct, qisNon_dct, qcooked_dct, qseq_dct, qix_lst, qsl_lst, qix_tup, qsl_tup, qisNon_ln, qcooked_ln, and_assoc, exists_and_left, exists_eq_left, exists_eq_left', exists_eq_right, dxLc_eq, dsFor_eq, rngD_0, rngD_eq, zipD_map, enumD_map0, sp__law_taken]
    refine ⟨⟨sa, hrow⟩, fun q q0 q1 => ⟨by omega, by omega, ?_⟩⟩
    refine fb_on (List.range q.toNat) (fun i δ' => ∃ (F : List Int) (x4 : Sl), (FI F ∧ F.length ≤ i + 1) ∧ δ' = [.dat (.raw (.ref sa)), .dat (.raw (.ref r)), .dat (.int (n : Int)), .dat (.lst (F.map D.int)), x4, .un, .un, .un, .un, .un, .un, .un, .un, .un, .un, .un, .un, .un, .un, .un, .un, .un, .un]) ⟨[f0], .un, ⟨⟨(fun z => nomatch z), List.pairwise_singleton _ _, (fun x hx => by rw [List.mem_singleton.mp hx]; omega)⟩, Nat.le_refl _⟩, rfl⟩ (fun i x δ' hi hj => ?_) (fun δ' hj => ?_)
    · obtain ⟨F, x4, ⟨fi, fl⟩, rfl⟩ := hj
      obtain ⟨hi1, rfl⟩ := range_at hi
      obtain ⟨a, F, rfl⟩ : ∃ a G, F = a :: G := by
        cases F with
        | nil => exact absurd rfl fi.ne
        | cons a G => exact ⟨a, G, rfl⟩
      have ha := fi.rng a List.mem_cons_self
      simp [startD, wipeD, dsRet, dsRetN, dsIf, dsSeq, dsNext, dsAsg, dsDrop, dsBreak, dsCont, dsPar, dsAug, dsFrz, dsApp, dsExt, dsPut, dsAugO, dsOwn, dsParOO, dsParDO, dsParDDO, diR3, rdRepTz, dsFrzA, dxRep, diOwn, dsRaise, deAnd, deOr, deNot, de1, de2, deB, deX, dxB, dxLst, deName, deC, deCall, deIxO, deLenO, deTup, deLst, daCons, daNil, daStar, deChain, dtChain, dtV, dtAnd, dtOr, dtNot, dtYes, deIf, deSl, doNone, doSome, rdAdd, rdSub, rdMul, rdMod, rdDiv, rdPow, rdI, rdIc, rdB, rdLt, rdLe, rdGt, rdGe, rdNeg, rdIs, rdEq, rdNe, rdIx, rdIsN, rdNotN, rdIsB, rdNotB, rdRev, rdSeats, rdCatL, rdCatT, rdRepL, rdLen, rdTuple, rdList, rxList, rdInt, rdMax2, rdMin2, dgName, dgTup, dgCons, dgNil, deRefused, rdRepr, rdNeS, rdEqL, rdNeL, rdRepT, rdIsLn, noOwn, diSeq, diEn, diZp, diR1, diR2, noX,  eqOk_int, eqOk_bl, eqOk_non, eqv_int, eqv_bl, eqv_non, atI_0, atI_1, atI_2, atI_3, qty_non, qisI_non, qisB_non, qisL_non, qisU_non, qisS_non, qisD_non, qisNon_non, qcooked_non, qseq_non, qty_bl, qisI_bl, qisB_bl, qisL_bl, qisU_bl, qisS_bl, qisD_bl, qisNon_bl, qcooked_bl, qseq_bl, qty_int, qisI_int, qisB_int, qisL_int, qisU_int, qisS_int, qisD_int, qisNon_int, qcooked_int, qseq_int, qty_str, qisI_str, qisB_str, qisL_str, qisU_str, qisS_str, qisD_str, qisNon_str, qcooked_str, qseq_str, qty_lst, qisI_lst, qisB_lst, qisL_lst, qisU_lst, qisS_lst, qisD_lst, qisNon_lst, qcooked_lst, qseq_lst, qty_tup, qisI_tup, qisB_tup, qisL_tup, qisU_tup, qisS_tup, qisD_tup, qisNon_tup, qcooked_tup, qseq_tup, qty_dct, qisI_dct, qisB_dct, qisL_dct, qisU_dct, qisS_dct, qisD_dct, qisNon_dct, qcooked_dct, qseq_dct, qix_lst, qsl_lst, qix_tup, qsl_tup, qisNon_ln, qcooked_ln, and_assoc, exists_and_left, exists_eq_left, exists_eq_left', exists_eq_right, dxLc_eq, dsFor_eq, rngD_0, rngD_eq, zipD_map, enumD_map0, sp__law_taken]
      rw [List.length_cons] at fl
      by_cases ca : a < 1000
      · rw [if_pos ca]
        refine ⟨⟨sa, hrow⟩, fun q2 q20 q21 => ⟨by omega, min 1000 (a + 1 + q2) :: a :: F, ⟨(fun z => nomatch z), ?_, ?_⟩, by rw [List.length_cons, List.length_cons]; omega, rfl⟩⟩
        · rw [List.pairwise_cons]
          refine ⟨fun y hy => ?_, fi.falls⟩
          rcases List.mem_cons.mp hy with rfl | hy
          · omega
          · have := (List.pairwise_cons.mp fi.falls).1 y hy
            omega
        · intro y hy
          rcases List.mem_cons.mp hy with rfl | hy
          · omega
          · exact fi.rng y hy
      · rw [if_neg ca]
        exact ⟨a :: F, fi, by rw [List.length_cons]; omega, rfl⟩
    · obtain ⟨F, x4, ⟨fi, fl⟩, rfl⟩ := hj
      rw [List.length_range] at fl
      exact hN _ ⟨F, x4, ⟨fi, by omega⟩, rfl⟩
  obtain ⟨F, x4, ⟨fi, f4⟩, rfl⟩ := hj
  have g := fi.good n1 n12 f4
  have c1 := g.c1
  have okn : okN (.int (n : Int)) = true := by
    unfold okN
    simp [isWithin]
    omega
  have okf : okF (.lst (F.map D.int)) = true := fi.okF rfl f4
  have okft : okF (.tup (F.map D.int)) = true := fi.okF rfl f4
  have lf : lenD (.lst (F.map D.int)) = F.length := by show (F.map D.int).length = _; rw [List.length_map]
  have lft : lenD (.tup (F.map D.int)) = F.length := by show (F.map D.int).length = _; rw [List.length_map]
  -- every
  refine seq_gen (fun δ' => δ' = [.dat (.raw (.ref sa)), .dat (.raw (.ref r)), .dat (.int (n : Int)), .dat (.lst (F.map D.int)), x4, .dat (.lst ((limsN n (F.length - 1)).map tupD)), .un, .un, .un, .un, .un, .un, .un, .un, .un, .un, .un, .un, .un, .un, .un, .un, .un]) (fun N hN => ?_) (fun δ' hj => ?_)
  · simp [startD, wipeD, dsRet, dsRetN, dsIf, dsSeq, dsNext, dsAsg, dsDrop, dsBreak, dsCont, dsPar, dsAug, dsFrz, dsApp, dsExt, dsPut, dsAugO, dsOwn, dsParOO, dsParDO, dsParDDO, diR3, rdRepTz, dsFrzA, dxRep, diOwn, dsRaise, deAnd, deOr, deNot, de1, de2, deB, deX, dxB, dxLst, deName, deC, deCall, deIxO, deLenO, deTup, deLst, daCons, daNil, daStar, deChain, dtChain, dtV, dtAnd, dtOr, dtNot, dtYes, deIf, deSl, doNone, doSome, rdAdd, rdSub, rdMul, rdMod, rdDiv, rdPow, rdI, rdIc, rdB, rdLt, rdLe, rdGt, rdGe, rdNeg, rdIs, rdEq, rdNe, rdIx, rdIsN, rdNotN, rdIsB, rdNotB, rdRev, rdSeats, rdCatL, rdCatT, rdRepL, rdLen, rdTuple, rdList, rxList, rdInt, rdMax2, rdMin2, dgName, dgTup, dgCons, dgNil, deRefused, rdRepr, rdNeS, rdEqL, rdNeL, rdRepT, rdIsLn, noOwn, diSeq, diEn, diZp, diR1, diR2, noX,  eqOk_int, eqOk_bl, eqOk_non, eqv_int, eqv_bl, eqv_non, atI_0, atI_1, atI_2, atI_3, qty_non, qisI_non, qisB_non, qisL_non, qisU_non, qisS_non, qisD_non, qisNon_non, qcooked_non, qseq_non, qty_bl, qisI_bl, qisB_bl, qisL_bl, qisU_bl, qisS_bl, qisD_bl, qisNon_bl, qcooked_bl, qseq_bl, qty_int, qisI_int, qisB_int, qisL_int, qisU_int, qisS_int, qisD_int, qisNon_int, qcooked_int, qseq_int, qty_str, qisI_str, qisB_str, qisL_str, qisU_str, qisS_str, qisD_str, qisNon_str, qcooked_str, qseq_str, qty_lst, qisI_lst, qisB_lst, qisL_lst, qisU_lst, qisS_lst, qisD_lst, qisNon_lst, qcooked_lst, qseq_lst, qty_tup, qisI_tup, qisB_tup, qisL_tup, qisU_tup, qisS_tup, qisD_tup, qisNon_tup, qcooked_tup, qseq_tup, qty_dct, qisI_dct, qisB_dct, qisL_dct, qisU_dct, qisS_dct, qisD_dct, qisNon_dct, qcooked_dct, qseq_dct, qix_lst, qsl_lst, qix_tup, qsl_tup, qisNon_ln, qcooked_ln, and_assoc, exists_and_left, exists_eq_left, exists_eq_left', exists_eq_right, dxLc_eq, dsFor_eq, rngD_0, rngD_eq, zipD_map, enumD_map0]
    exact ⟨n, F.length - 1, by rw [show (F.length : Int) = ((F.length - 1 : Nat) : Int) + 1 by omega], n12, by omega, hN _ rfl⟩
  subst hj
  -- limits
  have hll := lims_len n (F.length - 1)
  have hlb : (limsN n (F.length - 1)).length ≤ 2197 := by
    have h2 : (n + 1) ^ (F.length - 1) ≤ 13 ^ 3 := Nat.le_trans (Nat.pow_le_pow_left (by omega) _) (Nat.pow_le_pow_right (by decide) (by omega))
    omega
  have hlp : 0 < (limsN n (F.length - 1)).length := List.length_pos_iff.mpr (lims_pos n _)
  refine seq_gen (fun δ' => ∃ L, L ∈ limsN n (F.length - 1) ∧ δ' = [.dat (.raw (.ref sa)), .dat (.raw (.ref r)), .dat (.int (n : Int)), .dat (.lst (F.map D.int)), x4, .dat (.lst ((limsN n (F.length - 1)).map tupD)), .dat (tupD L), .un, .un, .un, .un, .un, .un, .un, .un, .un, .un, .un, .un, .un, .un, .un, .un]) (fun N hN => ?_) (fun δ' hj => ?_)
  · simp [startD, wipeD, dsRet, dsRetN, dsIf, dsSeq, dsNext, dsAsg, dsDrop, dsBreak, dsCont, dsPar, dsAug, dsFrz, dsApp, dsExt, dsPut, dsAugO, dsOwn, dsParOO, dsParDO, dsParDDO, diR3, rdRepTz, dsFrzA, dxRep, diOwn, dsRaise, deAnd, deOr, deNot, de1, de2, deB, deX, dxB, dxLst, deName, deC, deCall, deIxO, deLenO, deTup, deLst, daCons, daNil, daStar, deChain, dtChain, dtV, dtAnd, dtOr, dtNot, dtYes, deIf, deSl, doNone, doSome, rdAdd, rdSub, rdMul, rdMod, rdDiv, rdPow, rdI, rdIc, rdB, rdLt, rdLe, rdGt, rdGe, rdNeg, rdIs, rdEq, rdNe, rdIx, rdIsN, rdNotN, rdIsB, rdNotB, rdRev, rdSeats, rdCatL, rdCatT, rdRepL, rdLen, rdTuple, rdList, rxList, rdInt, rdMax2, rdMin2, dgName, dgTup, dgCons, dgNil, deRefused, rdRepr, rdNeS, rdEqL, rdNeL, rdRepT, rdIsLn, noOwn, diSeq, diEn, diZp, diR1, diR2, noX,  eqOk_int, eqOk_bl, eqOk_non, eqv_int, eqv_bl, eqv_non, atI_0, atI_1, atI_2, atI_3, qty_non, qisI_non, qisB_non, qisL_non, qisU_non, qisS_non, qisD_non, qisNon_non, qcooked_non, qseq_non, qty_bl, qisI_bl, qisB_bl, qisL_bl, qisU_bl, qisS_bl, qisD_bl, qisNon_bl, qcooked_bl, qseq_bl, qty_int, qisI_int, qisB_int, qisL_int, qisU_int, qisS_int, qisD_int, qisNon_int, qcooked_int, qseq_int, qty_str, qisI_str, qisB_str, qisL_str, qisU_str, qisS_str, qisD_str, qisNon_str, qcooked_str, qseq_str, qty_lst, qisI_lst, qisB_lst, qisL_lst, qisU_lst, qisS_lst, qisD_lst, qisNon_lst, qcooked_lst, qseq_lst, qty_tup, qisI_tup, qisB_tup, qisL_tup, qisU_tup, qisS_tup, qisD_tup, qisNon_tup, qcooked_tup, qseq_tup, qty_dct, qisI_dct, qisB_dct, qisL_dct, qisU_dct, qisS_dct, qisD_dct, qisNon_dct, qcooked_dct, qseq_dct, qix_lst, qsl_lst, qix_tup, qsl_tup, qisNon_ln, qcooked_ln, and_assoc, exists_and_left, exists_eq_left, exists_eq_left', exists_eq_right, dxLc_eq, dsFor_eq, rngD_0, rngD_eq, zipD_map, enumD_map0, sp__law_pick]
    exact ⟨⟨sa, hrow⟩, hlp, by omega, fun l hl => hN _ ⟨l, hl, rfl⟩⟩
  obtain ⟨L, hL, rfl⟩ := hj
  have gl := g.good hL
  have I := lims_ok n _ L hL
  have okl : okL (.int (n : Int)) F.length (tupD L) = true := by
    have := I.okL
    rwa [show F.length - 1 + 1 = F.length by omega] at this
  have hLl : L.length = F.length := gl.len
  obtain ⟨kw, hkw, hw, hleast⟩ := gl.worst
  have gT := gl.T hkw
  have gM := gl.M hkw
  -- worst
  refine seq_gen (fun δ' => δ' = [.dat (.raw (.ref sa)), .dat (.raw (.ref r)), .dat (.int (n : Int)), .dat (.lst (F.map D.int)), x4, .dat (.lst ((limsN n (F.length - 1)).map tupD)), .dat (tupD L), .dat (.tup [.int (Tf F L kw), .int (Mf n F kw), .int (kw : Int)]), .un, .un, .un, .un, .un, .un, .un, .un, .un, .un, .un, .un, .un, .un, .un]) (fun N hN => ?_) (fun δ' hj => ?_)
  · simp [startD, wipeD, dsRet, dsRetN, dsIf, dsSeq, dsNext, dsAsg, dsDrop, dsBreak, dsCont, dsPar, dsAug, dsFrz, dsApp, dsExt, dsPut, dsAugO, dsOwn, dsParOO, dsParDO, dsParDDO, diR3, rdRepTz, dsFrzA, dxRep, diOwn, dsRaise, deAnd, deOr, deNot, de1, de2, deB, deX, dxB, dxLst, deName, deC, deCall, deIxO, deLenO, deTup, deLst, daCons, daNil, daStar, deChain, dtChain, dtV, dtAnd, dtOr, dtNot, dtYes, deIf, deSl, doNone, doSome, rdAdd, rdSub, rdMul, rdMod, rdDiv, rdPow, rdI, rdIc, rdB, rdLt, rdLe, rdGt, rdGe, rdNeg, rdIs, rdEq, rdNe, rdIx, rdIsN, rdNotN, rdIsB, rdNotB, rdRev, rdSeats, rdCatL, rdCatT, rdRepL, rdLen, rdTuple, rdList, rxList, rdInt, rdMax2, rdMin2, dgName, dgTup, dgCons, dgNil, deRefused, rdRepr, rdNeS, rdEqL, rdNeL, rdRepT, rdIsLn, noOwn, diSeq, diEn, diZp, diR1, diR2, noX,  eqOk_int, eqOk_bl, eqOk_non, eqv_int, eqv_bl, eqv_non, atI_0, atI_1, atI_2, atI_3, qty_non, qisI_non, qisB_non, qisL_non, qisU_non, qisS_non, qisD_non, qisNon_non, qcooked_non, qseq_non, qty_bl, qisI_bl, qisB_bl, qisL_bl, qisU_bl, qisS_bl, qisD_bl, qisNon_bl, qcooked_bl, qseq_bl, qty_int, qisI_int, qisB_int, qisL_int, qisU_int, qisS_int, qisD_int, qisNon_int, qcooked_int, qseq_int, qty_str, qisI_str, qisB_str, qisL_str, qisU_str, qisS_str, qisD_str, qisNon_str, qcooked_str, qseq_str, qty_lst, qisI_lst, qisB_lst, qisL_lst, qisU_lst, qisS_lst, qisD_lst, qisNon_lst, qcooked_lst, qseq_lst, qty_tup, qisI_tup, qisB_tup, qisL_tup, qisU_tup, qisS_tup, qisD_tup, qisNon_tup, qcooked_tup, qseq_tup, qty_dct, qisI_dct, qisB_dct, qisL_dct, qisU_dct, qisS_dct, qisD_dct, qisNon_dct, qcooked_dct, qseq_dct, qix_lst, qsl_lst, qix_tup, qsl_tup, qisNon_ln, qcooked_ln, and_assoc, exists_and_left, exists_eq_left, exists_eq_left', exists_eq_right, dxLc_eq, dsFor_eq, rngD_0, rngD_eq, zipD_map, enumD_map0]
    refine ⟨n, .lst (F.map D.int), tupD L, F, L, rfl, rfl, rfl, gl, fun k hk hw2 => ?_⟩
    have ek : k = kw := by
      rw [hw] at hw2
      simp only [Option.some.injEq, Prod.mk.injEq] at hw2
      exact hw2.2.2.symm
    subst ek
    exact hN _ rfl
  subst hj
  have wst : ∀ {P : Nat → Prop}, P kw → WorstOk n F L P := fun p k hk hw2 => by
    have ek : k = kw := by
      rw [hw] at hw2
      simp only [Option.some.injEq, Prod.mk.injEq] at hw2
      exact hw2.2.2.symm
    rw [ek]
    exact p
  -- due
  have sT : Tf F L kw = (((Tf F L kw).toNat : Nat) : Int) := by omega
  have sM : Mf n F kw = (((Mf n F kw).toNat : Nat) : Int) := by omega
  refine seq_gen (fun δ' => δ' = [.dat (.raw (.ref sa)), .dat (.raw (.ref r)), .dat (.int (n : Int)), .dat (.lst (F.map D.int)), x4, .dat (.lst ((limsN n (F.length - 1)).map tupD)), .dat (tupD L), .dat (.tup [.int (Tf F L kw), .int (Mf n F kw), .int (kw : Int)]), .dat (lowD (Tf F L kw) (Mf n F kw)), .un, .un, .un, .un, .un, .un, .un, .un, .un, .un, .un, .un, .un, .un]) (fun N hN => ?_) (fun δ' hj => ?_)
  · simp [startD, wipeD, dsRet, dsRetN, dsIf, dsSeq, dsNext, dsAsg, dsDrop, dsBreak, dsCont, dsPar, dsAug, dsFrz, dsApp, dsExt, dsPut, dsAugO, dsOwn, dsParOO, dsParDO, dsParDDO, diR3, rdRepTz, dsFrzA, dxRep, diOwn, dsRaise, deAnd, deOr, deNot, de1, de2, deB, deX, dxB, dxLst, deName, deC, deCall, deIxO, deLenO, deTup, deLst, daCons, daNil, daStar, deChain, dtChain, dtV, dtAnd, dtOr, dtNot, dtYes, deIf, deSl, doNone, doSome, rdAdd, rdSub, rdMul, rdMod, rdDiv, rdPow, rdI, rdIc, rdB, rdLt, rdLe, rdGt, rdGe, rdNeg, rdIs, rdEq, rdNe, rdIx, rdIsN, rdNotN, rdIsB, rdNotB, rdRev, rdSeats, rdCatL, rdCatT, rdRepL, rdLen, rdTuple, rdList, rxList, rdInt, rdMax2, rdMin2, dgName, dgTup, dgCons, dgNil, deRefused, rdRepr, rdNeS, rdEqL, rdNeL, rdRepT, rdIsLn, noOwn, diSeq, diEn, diZp, diR1, diR2, noX,  eqOk_int, eqOk_bl, eqOk_non, eqv_int, eqv_bl, eqv_non, atI_0, atI_1, atI_2, atI_3, qty_non, qisI_non, qisB_non, qisL_non, qisU_non, qisS_non, qisD_non, qisNon_non, qcooked_non, qseq_non, qty_bl, qisI_bl, qisB_bl, qisL_bl, qisU_bl, qisS_bl, qisD_bl, qisNon_bl, qcooked_bl, qseq_bl, qty_int, qisI_int, qisB_int, qisL_int, qisU_int, qisS_int, qisD_int, qisNon_int, qcooked_int, qseq_int, qty_str, qisI_str, qisB_str, qisL_str, qisU_str, qisS_str, qisD_str, qisNon_str, qcooked_str, qseq_str, qty_lst, qisI_lst, qisB_lst, qisL_lst, qisU_lst, qisS_lst, qisD_lst, qisNon_lst, qcooked_lst, qseq_lst, qty_tup, qisI_tup, qisB_tup, qisL_tup, qisU_tup, qisS_tup, qisD_tup, qisNon_tup, qcooked_tup, qseq_tup, qty_dct, qisI_dct, qisB_dct, qisL_dct, qisU_dct, qisS_dct, qisD_dct, qisNon_dct, qcooked_dct, qseq_dct, qix_lst, qsl_lst, qix_tup, qsl_tup, qisNon_ln, qcooked_ln, and_assoc, exists_and_left, exists_eq_left, exists_eq_left', exists_eq_right, dxLc_eq, dsFor_eq, rngD_0, rngD_eq, zipD_map, enumD_map0]
    exact ⟨(Tf F L kw).toNat, (Mf n F kw).toNat, by rw [← sT, ← sM], by omega, by omega, by omega, hN _ rfl⟩
  subst hj
  have alkL : ∀ a b : Int, (lowD a b).alk 6 = true := fun a b => alk_tints [(lowP a.toNat b.toNat).1, (lowP a.toNat b.toNat).2] (by simp)
  have okvF : (D.lst (F.map D.int)).okv = true := okv_lst okv_int
  have okvFt : (D.tup (F.map D.int)).okv = true := okv_tup okv_int
  have okvL : (tupD L).okv = true := okv_tup okv_int
  -- share, worst_flood
  refine seq_gen (fun δ' => δ' = [.dat (.raw (.ref sa)), .dat (.raw (.ref r)), .dat (.int (n : Int)), .dat (.lst (F.map D.int)), x4, .dat (.lst ((limsN n (F.length - 1)).map tupD)), .dat (tupD L), .dat (.tup [.int (Tf F L kw), .int (Mf n F kw), .int (kw : Int)]), .dat (lowD (Tf F L kw) (Mf n F kw)), .un, .un, .un, .un, .un, .un, .un, .un, .un, .un, .un, .un, .un, .un]) (fun N hN => ?_) (fun δ' hj => ?_)
  · simp [startD, wipeD, dsRet, dsRetN, dsIf, dsSeq, dsNext, dsAsg, dsDrop, dsBreak, dsCont, dsPar, dsAug, dsFrz, dsApp, dsExt, dsPut, dsAugO, dsOwn, dsParOO, dsParDO, dsParDDO, diR3, rdRepTz, dsFrzA, dxRep, diOwn, dsRaise, deAnd, deOr, deNot, de1, de2, deB, deX, dxB, dxLst, deName, deC, deCall, deIxO, deLenO, deTup, deLst, daCons, daNil, daStar, deChain, dtChain, dtV, dtAnd, dtOr, dtNot, dtYes, deIf, deSl, doNone, doSome, rdAdd, rdSub, rdMul, rdMod, rdDiv, rdPow, rdI, rdIc, rdB, rdLt, rdLe, rdGt, rdGe, rdNeg, rdIs, rdEq, rdNe, rdIx, rdIsN, rdNotN, rdIsB, rdNotB, rdRev, rdSeats, rdCatL, rdCatT, rdRepL, rdLen, rdTuple, rdList, rxList, rdInt, rdMax2, rdMin2, dgName, dgTup, dgCons, dgNil, deRefused, rdRepr, rdNeS, rdEqL, rdNeL, rdRepT, rdIsLn, noOwn, diSeq, diEn, diZp, diR1, diR2, noX,  eqOk_int, eqOk_bl, eqOk_non, eqv_int, eqv_bl, eqv_non, atI_0, atI_1, atI_2, atI_3, qty_non, qisI_non, qisB_non, qisL_non, qisU_non, qisS_non, qisD_non, qisNon_non, qcooked_non, qseq_non, qty_bl, qisI_bl, qisB_bl, qisL_bl, qisU_bl, qisS_bl, qisD_bl, qisNon_bl, qcooked_bl, qseq_bl, qty_int, qisI_int, qisB_int, qisL_int, qisU_int, qisS_int, qisD_int, qisNon_int, qcooked_int, qseq_int, qty_str, qisI_str, qisB_str, qisL_str, qisU_str, qisS_str, qisD_str, qisNon_str, qcooked_str, qseq_str, qty_lst, qisI_lst, qisB_lst, qisL_lst, qisU_lst, qisS_lst, qisD_lst, qisNon_lst, qcooked_lst, qseq_lst, qty_tup, qisI_tup, qisB_tup, qisL_tup, qisU_tup, qisS_tup, qisD_tup, qisNon_tup, qcooked_tup, qseq_tup, qty_dct, qisI_dct, qisB_dct, qisL_dct, qisU_dct, qisS_dct, qisD_dct, qisNon_dct, qcooked_dct, qseq_dct, qix_lst, qsl_lst, qix_tup, qsl_tup, qisNon_ln, qcooked_ln, and_assoc, exists_and_left, exists_eq_left, exists_eq_left', exists_eq_right, dxLc_eq, dsFor_eq, rngD_0, rngD_eq, zipD_map, enumD_map0]
    refine ⟨.int (n : Int), .tup (F.map D.int), tupD L, rfl, rfl, okvFt, okvL, fares_ok okn okft (limits_ok (by rw [lft]; exact okl) ⟨n, F, L, rfl, rfl, rfl, gl, wst ?_⟩)⟩
    refine alike_i (alkL _ _) ⟨rfl, ?_⟩
    refine ⟨.int (n : Int), .lst (F.map D.int), tupD L, rfl, rfl, okvF, okvL, fares_ok okn okf (limits_ok (by rw [lf]; exact okl) ⟨n, F, L, rfl, rfl, rfl, gl, wst ?_⟩)⟩
    exact alike_i alk_int ⟨rfl, hN _ rfl⟩
  subst hj
  -- last
  refine seq_gen (fun δ' => ∃ la : Nat, la < F.length ∧ δ' = [.dat (.raw (.ref sa)), .dat (.raw (.ref r)), .dat (.int (n : Int)), .dat (.lst (F.map D.int)), x4, .dat (.lst ((limsN n (F.length - 1)).map tupD)), .dat (tupD L), .dat (.tup [.int (Tf F L kw), .int (Mf n F kw), .int (kw : Int)]), .dat (lowD (Tf F L kw) (Mf n F kw)), .dat (.int (la : Int)), .un, .un, .un, .un, .un, .un, .un, .un, .un, .un, .un, .un, .un]) (fun N hN => ?_) (fun δ' hj => ?_)
  · simp [startD, wipeD, dsRet, dsRetN, dsIf, dsSeq, dsNext, dsAsg, dsDrop, dsBreak, dsCont, dsPar, dsAug, dsFrz, dsApp, dsExt, dsPut, dsAugO, dsOwn, dsParOO, dsParDO, dsParDDO, diR3, rdRepTz, dsFrzA, dxRep, diOwn, dsRaise, deAnd, deOr, deNot, de1, de2, deB, deX, dxB, dxLst, deName, deC, deCall, deIxO, deLenO, deTup, deLst, daCons, daNil, daStar, deChain, dtChain, dtV, dtAnd, dtOr, dtNot, dtYes, deIf, deSl, doNone, doSome, rdAdd, rdSub, rdMul, rdMod, rdDiv, rdPow, rdI, rdIc, rdB, rdLt, rdLe, rdGt, rdGe, rdNeg, rdIs, rdEq, rdNe, rdIx, rdIsN, rdNotN, rdIsB, rdNotB, rdRev, rdSeats, rdCatL, rdCatT, rdRepL, rdLen, rdTuple, rdList, rxList, rdInt, rdMax2, rdMin2, dgName, dgTup, dgCons, dgNil, deRefused, rdRepr, rdNeS, rdEqL, rdNeL, rdRepT, rdIsLn, noOwn, diSeq, diEn, diZp, diR1, diR2, noX,  eqOk_int, eqOk_bl, eqOk_non, eqv_int, eqv_bl, eqv_non, atI_0, atI_1, atI_2, atI_3, qty_non, qisI_non, qisB_non, qisL_non, qisU_non, qisS_non, qisD_non, qisNon_non, qcooked_non, qseq_non, qty_bl, qisI_bl, qisB_bl, qisL_bl, qisU_bl, qisS_bl, qisD_bl, qisNon_bl, qcooked_bl, qseq_bl, qty_int, qisI_int, qisB_int, qisL_int, qisU_int, qisS_int, qisD_int, qisNon_int, qcooked_int, qseq_int, qty_str, qisI_str, qisB_str, qisL_str, qisU_str, qisS_str, qisD_str, qisNon_str, qcooked_str, qseq_str, qty_lst, qisI_lst, qisB_lst, qisL_lst, qisU_lst, qisS_lst, qisD_lst, qisNon_lst, qcooked_lst, qseq_lst, qty_tup, qisI_tup, qisB_tup, qisL_tup, qisU_tup, qisS_tup, qisD_tup, qisNon_tup, qcooked_tup, qseq_tup, qty_dct, qisI_dct, qisB_dct, qisL_dct, qisU_dct, qisS_dct, qisD_dct, qisNon_dct, qcooked_dct, qseq_dct, qix_lst, qsl_lst, qix_tup, qsl_tup, qisNon_ln, qcooked_ln, and_assoc, exists_and_left, exists_eq_left, exists_eq_left', exists_eq_right, dxLc_eq, dsFor_eq, rngD_0, rngD_eq, zipD_map, enumD_map0, sp__law_taken]
    refine ⟨⟨sa, hrow⟩, by omega, by omega, fun q h0 h1 => ?_⟩
    obtain ⟨k, rfl⟩ := Int.eq_ofNat_of_zero_le h0
    exact hN _ ⟨k, by omega, rfl⟩
  obtain ⟨la, hla, rfl⟩ := hj
  -- flood
  refine seq_gen (fun δ' => δ' = [.dat (.raw (.ref sa)), .dat (.raw (.ref r)), .dat (.int (n : Int)), .dat (.lst (F.map D.int)), x4, .dat (.lst ((limsN n (F.length - 1)).map tupD)), .dat (tupD L), .dat (.tup [.int (Tf F L kw), .int (Mf n F kw), .int (kw : Int)]), .dat (lowD (Tf F L kw) (Mf n F kw)), .dat (.int (la : Int)), .un, .un, .un, .un, .un, .un, .un, .un, .un, .un, .un, .un, .un]) (fun N hN => ?_) (fun δ' hj => ?_)
  · simp [startD, wipeD, dsRet, dsRetN, dsIf, dsSeq, dsNext, dsAsg, dsDrop, dsBreak, dsCont, dsPar, dsAug, dsFrz, dsApp, dsExt, dsPut, dsAugO, dsOwn, dsParOO, dsParDO, dsParDDO, diR3, rdRepTz, dsFrzA, dxRep, diOwn, dsRaise, deAnd, deOr, deNot, de1, de2, deB, deX, dxB, dxLst, deName, deC, deCall, deIxO, deLenO, deTup, deLst, daCons, daNil, daStar, deChain, dtChain, dtV, dtAnd, dtOr, dtNot, dtYes, deIf, deSl, doNone, doSome, rdAdd, rdSub, rdMul, rdMod, rdDiv, rdPow, rdI, rdIc, rdB, rdLt, rdLe, rdGt, rdGe, rdNeg, rdIs, rdEq, rdNe, rdIx, rdIsN, rdNotN, rdIsB, rdNotB, rdRev, rdSeats, rdCatL, rdCatT, rdRepL, rdLen, rdTuple, rdList, rxList, rdInt, rdMax2, rdMin2, dgName, dgTup, dgCons, dgNil, deRefused, rdRepr, rdNeS, rdEqL, rdNeL, rdRepT, rdIsLn, noOwn, diSeq, diEn, diZp, diR1, diR2, noX,  eqOk_int, eqOk_bl, eqOk_non, eqv_int, eqv_bl, eqv_non, atI_0, atI_1, atI_2, atI_3, qty_non, qisI_non, qisB_non, qisL_non, qisU_non, qisS_non, qisD_non, qisNon_non, qcooked_non, qseq_non, qty_bl, qisI_bl, qisB_bl, qisL_bl, qisU_bl, qisS_bl, qisD_bl, qisNon_bl, qcooked_bl, qseq_bl, qty_int, qisI_int, qisB_int, qisL_int, qisU_int, qisS_int, qisD_int, qisNon_int, qcooked_int, qseq_int, qty_str, qisI_str, qisB_str, qisL_str, qisU_str, qisS_str, qisD_str, qisNon_str, qcooked_str, qseq_str, qty_lst, qisI_lst, qisB_lst, qisL_lst, qisU_lst, qisS_lst, qisD_lst, qisNon_lst, qcooked_lst, qseq_lst, qty_tup, qisI_tup, qisB_tup, qisL_tup, qisU_tup, qisS_tup, qisD_tup, qisNon_tup, qcooked_tup, qseq_tup, qty_dct, qisI_dct, qisB_dct, qisL_dct, qisU_dct, qisS_dct, qisD_dct, qisNon_dct, qcooked_dct, qseq_dct, qix_lst, qsl_lst, qix_tup, qsl_tup, qisNon_ln, qcooked_ln, and_assoc, exists_and_left, exists_eq_left, exists_eq_left', exists_eq_right, dxLc_eq, dsFor_eq, rngD_0, rngD_eq, zipD_map, enumD_map0]
    have hwi : isWithin (.int (la : Int)) 0 ((lenD (.lst (F.map D.int)) : Int) - 1) = true := by
      rw [lf]
      simp [isWithin]
      omega
    have hfl : n * (F.length - la) ≤ 12 * 4 := Nat.mul_le_mul n12 (by omega)
    refine ⟨.int (n : Int), .lst (F.map D.int), .int (la : Int), rfl, rfl, okvF, rfl, fares_ok okn okf ⟨fun z => (by rw [hwi] at z; cases z), fun _ => ⟨n, la, rfl, rfl, n12, by rw [lf]; omega, by rw [lf]; exact f4, ?_⟩⟩⟩
    refine ⟨n, .lst (F.map D.int), F.map D.int, la, rfl, n12, rfl, by rw [List.length_map]; exact f4, by rw [List.length_map]; omega, ?_⟩
    exact alike_i (alk_nats (by rw [floodN_len, lf]; omega)) ⟨rfl, hN _ rfl⟩
  subst hj
  -- some
  refine seq_gen (fun δ' => ∃ sm : List D, (sm.length ≤ 4 ∧ ∀ d ∈ sm, SomeOk F.length d) ∧ δ' = [.dat (.raw (.ref sa)), .dat (.raw (.ref r)), .dat (.int (n : Int)), .dat (.lst (F.map D.int)), x4, .dat (.lst ((limsN n (F.length - 1)).map tupD)), .dat (tupD L), .dat (.tup [.int (Tf F L kw), .int (Mf n F kw), .int (kw : Int)]), .dat (lowD (Tf F L kw) (Mf n F kw)), .dat (.int (la : Int)), .dat (.lst sm), .un, .un, .un, .un, .un, .un, .un, .un, .un, .un, .un, .un]) (fun N hN => ?_) (fun δ' hj => ?_)
  · simp [startD, wipeD, dsRet, dsRetN, dsIf, dsSeq, dsNext, dsAsg, dsDrop, dsBreak, dsCont, dsPar, dsAug, dsFrz, dsApp, dsExt, dsPut, dsAugO, dsOwn, dsParOO, dsParDO, dsParDDO, diR3, rdRepTz, dsFrzA, dxRep, diOwn, dsRaise, deAnd, deOr, deNot, de1, de2, deB, deX, dxB, dxLst, deName, deC, deCall, deIxO, deLenO, deTup, deLst, daCons, daNil, daStar, deChain, dtChain, dtV, dtAnd, dtOr, dtNot, dtYes, deIf, deSl, doNone, doSome, rdAdd, rdSub, rdMul, rdMod, rdDiv, rdPow, rdI, rdIc, rdB, rdLt, rdLe, rdGt, rdGe, rdNeg, rdIs, rdEq, rdNe, rdIx, rdIsN, rdNotN, rdIsB, rdNotB, rdRev, rdSeats, rdCatL, rdCatT, rdRepL, rdLen, rdTuple, rdList, rxList, rdInt, rdMax2, rdMin2, dgName, dgTup, dgCons, dgNil, deRefused, rdRepr, rdNeS, rdEqL, rdNeL, rdRepT, rdIsLn, noOwn, diSeq, diEn, diZp, diR1, diR2, noX,  eqOk_int, eqOk_bl, eqOk_non, eqv_int, eqv_bl, eqv_non, atI_0, atI_1, atI_2, atI_3, qty_non, qisI_non, qisB_non, qisL_non, qisU_non, qisS_non, qisD_non, qisNon_non, qcooked_non, qseq_non, qty_bl, qisI_bl, qisB_bl, qisL_bl, qisU_bl, qisS_bl, qisD_bl, qisNon_bl, qcooked_bl, qseq_bl, qty_int, qisI_int, qisB_int, qisL_int, qisU_int, qisS_int, qisD_int, qisNon_int, qcooked_int, qseq_int, qty_str, qisI_str, qisB_str, qisL_str, qisU_str, qisS_str, qisD_str, qisNon_str, qcooked_str, qseq_str, qty_lst, qisI_lst, qisB_lst, qisL_lst, qisU_lst, qisS_lst, qisD_lst, qisNon_lst, qcooked_lst, qseq_lst, qty_tup, qisI_tup, qisB_tup, qisL_tup, qisU_tup, qisS_tup, qisD_tup, qisNon_tup, qcooked_tup, qseq_tup, qty_dct, qisI_dct, qisB_dct, qisL_dct, qisU_dct, qisS_dct, qisD_dct, qisNon_dct, qcooked_dct, qseq_dct, qix_lst, qsl_lst, qix_tup, qsl_tup, qisNon_ln, qcooked_ln, and_assoc, exists_and_left, exists_eq_left, exists_eq_left', exists_eq_right, dxLc_eq, dsFor_eq, rngD_0, rngD_eq, zipD_map, enumD_map0]
    refine lb_onA (List.range 4) (fun A : List Nat => .lst (A.map natD)) (fun _ A => A.length ≤ 40 ∧ ∀ o ∈ A, o < F.length) (by simp) (fun x hx R hR => ?_) (fun As hl hm => ?_)
    · simp [startD, wipeD, dsRet, dsRetN, dsIf, dsSeq, dsNext, dsAsg, dsDrop, dsBreak, dsCont, dsPar, dsAug, dsFrz, dsApp, dsExt, dsPut, dsAugO, dsOwn, dsParOO, dsParDO, dsParDDO, diR3, rdRepTz, dsFrzA, dxRep, diOwn, dsRaise, deAnd, deOr, deNot, de1, de2, deB, deX, dxB, dxLst, deName, deC, deCall, deIxO, deLenO, deTup, deLst, daCons, daNil, daStar, deChain, dtChain, dtV, dtAnd, dtOr, dtNot, dtYes, deIf, deSl, doNone, doSome, rdAdd, rdSub, rdMul, rdMod, rdDiv, rdPow, rdI, rdIc, rdB, rdLt, rdLe, rdGt, rdGe, rdNeg, rdIs, rdEq, rdNe, rdIx, rdIsN, rdNotN, rdIsB, rdNotB, rdRev, rdSeats, rdCatL, rdCatT, rdRepL, rdLen, rdTuple, rdList, rxList, rdInt, rdMax2, rdMin2, dgName, dgTup, dgCons, dgNil, deRefused, rdRepr, rdNeS, rdEqL, rdNeL, rdRepT, rdIsLn, noOwn, diSeq, diEn, diZp, diR1, diR2, noX,  eqOk_int, eqOk_bl, eqOk_non, eqv_int, eqv_bl, eqv_non, atI_0, atI_1, atI_2, atI_3, qty_non, qisI_non, qisB_non, qisL_non, qisU_non, qisS_non, qisD_non, qisNon_non, qcooked_non, qseq_non, qty_bl, qisI_bl, qisB_bl, qisL_bl, qisU_bl, qisS_bl, qisD_bl, qisNon_bl, qcooked_bl, qseq_bl, qty_int, qisI_int, qisB_int, qisL_int, qisU_int, qisS_int, qisD_int, qisNon_int, qcooked_int, qseq_int, qty_str, qisI_str, qisB_str, qisL_str, qisU_str, qisS_str, qisD_str, qisNon_str, qcooked_str, qseq_str, qty_lst, qisI_lst, qisB_lst, qisL_lst, qisU_lst, qisS_lst, qisD_lst, qisNon_lst, qcooked_lst, qseq_lst, qty_tup, qisI_tup, qisB_tup, qisL_tup, qisU_tup, qisS_tup, qisD_tup, qisNon_tup, qcooked_tup, qseq_tup, qty_dct, qisI_dct, qisB_dct, qisL_dct, qisU_dct, qisS_dct, qisD_dct, qisNon_dct, qcooked_dct, qseq_dct, qix_lst, qsl_lst, qix_tup, qsl_tup, qisNon_ln, qcooked_ln, and_assoc, exists_and_left, exists_eq_left, exists_eq_left', exists_eq_right, dxLc_eq, dsFor_eq, rngD_0, rngD_eq, zipD_map, enumD_map0, sp__law_taken]
      refine ⟨⟨sa, hrow⟩, fun q h0 h1 => ⟨by omega, by omega, ?_⟩⟩
      refine lb_onA (List.range _) natD (fun _ o => o < F.length) (by simp; omega) (fun x hx R hR => ?_) (fun A hl hm => ?_)
      · simp [startD, wipeD, dsRet, dsRetN, dsIf, dsSeq, dsNext, dsAsg, dsDrop, dsBreak, dsCont, dsPar, dsAug, dsFrz, dsApp, dsExt, dsPut, dsAugO, dsOwn, dsParOO, dsParDO, dsParDDO, diR3, rdRepTz, dsFrzA, dxRep, diOwn, dsRaise, deAnd, deOr, deNot, de1, de2, deB, deX, dxB, dxLst, deName, deC, deCall, deIxO, deLenO, deTup, deLst, daCons, daNil, daStar, deChain, dtChain, dtV, dtAnd, dtOr, dtNot, dtYes, deIf, deSl, doNone, doSome, rdAdd, rdSub, rdMul, rdMod, rdDiv, rdPow, rdI, rdIc, rdB, rdLt, rdLe, rdGt, rdGe, rdNeg, rdIs, rdEq, rdNe, rdIx, rdIsN, rdNotN, rdIsB, rdNotB, rdRev, rdSeats, rdCatL, rdCatT, rdRepL, rdLen, rdTuple, rdList, rxList, rdInt, rdMax2, rdMin2, dgName, dgTup, dgCons, dgNil, deRefused, rdRepr, rdNeS, rdEqL, rdNeL, rdRepT, rdIsLn, noOwn, diSeq, diEn, diZp, diR1, diR2, noX,  eqOk_int, eqOk_bl, eqOk_non, eqv_int, eqv_bl, eqv_non, atI_0, atI_1, atI_2, atI_3, qty_non, qisI_non, qisB_non, qisL_non, qisU_non, qisS_non, qisD_non, qisNon_non, qcooked_non, qseq_non, qty_bl, qisI_bl, qisB_bl, qisL_bl, qisU_bl, qisS_bl, qisD_bl, qisNon_bl, qcooked_bl, qseq_bl, qty_int, qisI_int, qisB_int, qisL_int, qisU_int, qisS_int, qisD_int, qisNon_int, qcooked_int, qseq_int, qty_str, qisI_str, qisB_str, qisL_str, qisU_str, qisS_str, qisD_str, qisNon_str, qcooked_str, qseq_str, qty_lst, qisI_lst, qisB_lst, qisL_lst, qisU_lst, qisS_lst, qisD_lst, qisNon_lst, qcooked_lst, qseq_lst, qty_tup, qisI_tup, qisB_tup, qisL_tup, qisU_tup, qisS_tup, qisD_tup, qisNon_tup, qcooked_tup, qseq_tup, qty_dct, qisI_dct, qisB_dct, qisL_dct, qisU_dct, qisS_dct, qisD_dct, qisNon_dct, qcooked_dct, qseq_dct, qix_lst, qsl_lst, qix_tup, qsl_tup, qisNon_ln, qcooked_ln, and_assoc, exists_and_left, exists_eq_left, exists_eq_left', exists_eq_right, dxLc_eq, dsFor_eq, rngD_0, rngD_eq, zipD_map, enumD_map0, sp__law_taken]
        refine ⟨⟨sa, hrow⟩, by omega, by omega, fun q h0 h1 => ?_⟩
        obtain ⟨k, rfl⟩ := Int.eq_ofNat_of_zero_le h0
        exact hR k (by omega)
      · rw [List.length_range] at hl
        refine hR A ⟨by omega, fun o ho => ?_⟩
        obtain ⟨i, hi, e1⟩ := List.getElem_of_mem ho
        exact hm i i o (List.getElem?_range (by omega)) (by rw [← e1]; exact List.getElem?_eq_getElem hi)
    · rw [List.length_range] at hl
      refine hN _ ⟨_, ⟨by simp; omega, fun d hd => ?_⟩, rfl⟩
      obtain ⟨A, hA, rfl⟩ := List.mem_map.mp hd
      obtain ⟨i, hi, e1⟩ := List.getElem_of_mem hA
      have := hm i i A (List.getElem?_range (by omega)) (by rw [← e1]; exact List.getElem?_eq_getElem hi)
      exact ⟨okv_lst okv_nats, A, rfl, this⟩
  obtain ⟨sm, ⟨sl, sok⟩, rfl⟩ := hj
  -- rows
  refine seq_gen (fun δ' => ∃ sm : List D, (sm.length ≤ 5000 ∧ ∀ d ∈ sm, SomeOk F.length d) ∧ δ' = [.dat (.raw (.ref sa)), .dat (.raw (.ref r)), .dat (.int (n : Int)), .dat (.lst (F.map D.int)), x4, .dat (.lst ((limsN n (F.length - 1)).map tupD)), .dat (tupD L), .dat (.tup [.int (Tf F L kw), .int (Mf n F kw), .int (kw : Int)]), .dat (lowD (Tf F L kw) (Mf n F kw)), .dat (.int (la : Int)), .dat (.lst sm), .un, .un, .un, .un, .un, .un, .un, .un, .un, .un, .un, .un]) (fun N hN => ?_) (fun δ' hj => ?_)
  · simp [startD, wipeD, dsRet, dsRetN, dsIf, dsSeq, dsNext, dsAsg, dsDrop, dsBreak, dsCont, dsPar, dsAug, dsFrz, dsApp, dsExt, dsPut, dsAugO, dsOwn, dsParOO, dsParDO, dsParDDO, diR3, rdRepTz, dsFrzA, dxRep, diOwn, dsRaise, deAnd, deOr, deNot, de1, de2, deB, deX, dxB, dxLst, deName, deC, deCall, deIxO, deLenO, deTup, deLst, daCons, daNil, daStar, deChain, dtChain, dtV, dtAnd, dtOr, dtNot, dtYes, deIf, deSl, doNone, doSome, rdAdd, rdSub, rdMul, rdMod, rdDiv, rdPow, rdI, rdIc, rdB, rdLt, rdLe, rdGt, rdGe, rdNeg, rdIs, rdEq, rdNe, rdIx, rdIsN, rdNotN, rdIsB, rdNotB, rdRev, rdSeats, rdCatL, rdCatT, rdRepL, rdLen, rdTuple, rdList, rxList, rdInt, rdMax2, rdMin2, dgName, dgTup, dgCons, dgNil, deRefused, rdRepr, rdNeS, rdEqL, rdNeL, rdRepT, rdIsLn, noOwn, diSeq, diEn, diZp, diR1, diR2, noX,  eqOk_int, eqOk_bl, eqOk_non, eqv_int, eqv_bl, eqv_non, atI_0, atI_1, atI_2, atI_3, qty_non, qisI_non, qisB_non, qisL_non, qisU_non, qisS_non, qisD_non, qisNon_non, qcooked_non, qseq_non, qty_bl, qisI_bl, qisB_bl, qisL_bl, qisU_bl, qisS_bl, qisD_bl, qisNon_bl, qcooked_bl, qseq_bl, qty_int, qisI_int, qisB_int, qisL_int, qisU_int, qisS_int, qisD_int, qisNon_int, qcooked_int, qseq_int, qty_str, qisI_str, qisB_str, qisL_str, qisU_str, qisS_str, qisD_str, qisNon_str, qcooked_str, qseq_str, qty_lst, qisI_lst, qisB_lst, qisL_lst, qisU_lst, qisS_lst, qisD_lst, qisNon_lst, qcooked_lst, qseq_lst, qty_tup, qisI_tup, qisB_tup, qisL_tup, qisU_tup, qisS_tup, qisD_tup, qisNon_tup, qcooked_tup, qseq_tup, qty_dct, qisI_dct, qisB_dct, qisL_dct, qisU_dct, qisS_dct, qisD_dct, qisNon_dct, qcooked_dct, qseq_dct, qix_lst, qsl_lst, qix_tup, qsl_tup, qisNon_ln, qcooked_ln, and_assoc, exists_and_left, exists_eq_left, exists_eq_left', exists_eq_right, dxLc_eq, dsFor_eq, rngD_0, rngD_eq, zipD_map, enumD_map0]
    by_cases c3 : n < 3
    · rw [if_pos (by omega)]
      by_cases c4 : F.length < 4
      · rw [if_pos (by omega)]
        refine ⟨F.length, 5, rfl, by omega, by decide, fun rows hr hrl => ⟨_, rfl, by rw [List.length_map]; omega, hN _ ⟨_, ⟨by rw [List.length_append, List.length_map]; omega, fun d hd => ?_⟩, rfl⟩⟩⟩
        rcases List.mem_append.mp hd with hd | hd
        · exact sok d hd
        · obtain ⟨A, hA, rfl⟩ := List.mem_map.mp hd
          have := hr A hA
          exact ⟨okv_tup okv_nats, A, rfl, by omega, this.2⟩
      · rw [if_neg (by omega)]
        exact hN _ ⟨sm, ⟨by omega, sok⟩, rfl⟩
    · rw [if_neg (by omega)]
      exact hN _ ⟨sm, ⟨by omega, sok⟩, rfl⟩
  clear sl sok
  obtain ⟨sm, ⟨sl, sok⟩, rfl⟩ := hj
  -- no row has less
  refine seq_gen (fun δ' => ∃ x11 x12 x13 : Sl, δ' = [.dat (.raw (.ref sa)), .dat (.raw (.ref r)), .dat (.int (n : Int)), .dat (.lst (F.map D.int)), x4, .dat (.lst ((limsN n (F.length - 1)).map tupD)), .dat (tupD L), .dat (.tup [.int (Tf F L kw), .int (Mf n F kw), .int (kw : Int)]), .dat (lowD (Tf F L kw) (Mf n F kw)), .dat (.int (la : Int)), .dat (.lst sm), x11, x12, x13, .un, .un, .un, .un, .un, .un, .un, .un, .un]) (fun N hN => ?_) (fun δ' hj => ?_)
  · simp [startD, wipeD, dsRet, dsRetN, dsIf, dsSeq, dsNext, dsAsg, dsDrop, dsBreak, dsCont, dsPar, dsAug, dsFrz, dsApp, dsExt, dsPut, dsAugO, dsOwn, dsParOO, dsParDO, dsParDDO, diR3, rdRepTz, dsFrzA, dxRep, diOwn, dsRaise, deAnd, deOr, deNot, de1, de2, deB, deX, dxB, dxLst, deName, deC, deCall, deIxO, deLenO, deTup, deLst, daCons, daNil, daStar, deChain, dtChain, dtV, dtAnd, dtOr, dtNot, dtYes, deIf, deSl, doNone, doSome, rdAdd, rdSub, rdMul, rdMod, rdDiv, rdPow, rdI, rdIc, rdB, rdLt, rdLe, rdGt, rdGe, rdNeg, rdIs, rdEq, rdNe, rdIx, rdIsN, rdNotN, rdIsB, rdNotB, rdRev, rdSeats, rdCatL, rdCatT, rdRepL, rdLen, rdTuple, rdList, rxList, rdInt, rdMax2, rdMin2, dgName, dgTup, dgCons, dgNil, deRefused, rdRepr, rdNeS, rdEqL, rdNeL, rdRepT, rdIsLn, noOwn, diSeq, diEn, diZp, diR1, diR2, noX,  eqOk_int, eqOk_bl, eqOk_non, eqv_int, eqv_bl, eqv_non, atI_0, atI_1, atI_2, atI_3, qty_non, qisI_non, qisB_non, qisL_non, qisU_non, qisS_non, qisD_non, qisNon_non, qcooked_non, qseq_non, qty_bl, qisI_bl, qisB_bl, qisL_bl, qisU_bl, qisS_bl, qisD_bl, qisNon_bl, qcooked_bl, qseq_bl, qty_int, qisI_int, qisB_int, qisL_int, qisU_int, qisS_int, qisD_int, qisNon_int, qcooked_int, qseq_int, qty_str, qisI_str, qisB_str, qisL_str, qisU_str, qisS_str, qisD_str, qisNon_str, qcooked_str, qseq_str, qty_lst, qisI_lst, qisB_lst, qisL_lst, qisU_lst, qisS_lst, qisD_lst, qisNon_lst, qcooked_lst, qseq_lst, qty_tup, qisI_tup, qisB_tup, qisL_tup, qisU_tup, qisS_tup, qisD_tup, qisNon_tup, qcooked_tup, qseq_tup, qty_dct, qisI_dct, qisB_dct, qisL_dct, qisU_dct, qisS_dct, qisD_dct, qisNon_dct, qcooked_dct, qseq_dct, qix_lst, qsl_lst, qix_tup, qsl_tup, qisNon_ln, qcooked_ln, and_assoc, exists_and_left, exists_eq_left, exists_eq_left', exists_eq_right, dxLc_eq, dsFor_eq, rngD_0, rngD_eq, zipD_map, enumD_map0]
    refine fb_id _ (fun _ δ' => ∃ x11 x12 x13 : Sl, δ' = [.dat (.raw (.ref sa)), .dat (.raw (.ref r)), .dat (.int (n : Int)), .dat (.lst (F.map D.int)), x4, .dat (.lst ((limsN n (F.length - 1)).map tupD)), .dat (tupD L), .dat (.tup [.int (Tf F L kw), .int (Mf n F kw), .int (kw : Int)]), .dat (lowD (Tf F L kw) (Mf n F kw)), .dat (.int (la : Int)), .dat (.lst sm), x11, x12, x13, .un, .un, .un, .un, .un, .un, .un, .un, .un]) ⟨_, _, _, rfl⟩ (fun i z δ' hz hj => ?_) (fun δ' hj => hN _ hj)
    obtain ⟨x11, x12, x13, rfl⟩ := hj
    obtain ⟨zv, A, hzs, hzl, hzA⟩ := sok z hz
    simp [startD, wipeD, dsRet, dsRetN, dsIf, dsSeq, dsNext, dsAsg, dsDrop, dsBreak, dsCont, dsPar, dsAug, dsFrz, dsApp, dsExt, dsPut, dsAugO, dsOwn, dsParOO, dsParDO, dsParDDO, diR3, rdRepTz, dsFrzA, dxRep, diOwn, dsRaise, deAnd, deOr, deNot, de1, de2, deB, deX, dxB, dxLst, deName, deC, deCall, deIxO, deLenO, deTup, deLst, daCons, daNil, daStar, deChain, dtChain, dtV, dtAnd, dtOr, dtNot, dtYes, deIf, deSl, doNone, doSome, rdAdd, rdSub, rdMul, rdMod, rdDiv, rdPow, rdI, rdIc, rdB, rdLt, rdLe, rdGt, rdGe, rdNeg, rdIs, rdEq, rdNe, rdIx, rdIsN, rdNotN, rdIsB, rdNotB, rdRev, rdSeats, rdCatL, rdCatT, rdRepL, rdLen, rdTuple, rdList, rxList, rdInt, rdMax2, rdMin2, dgName, dgTup, dgCons, dgNil, deRefused, rdRepr, rdNeS, rdEqL, rdNeL, rdRepT, rdIsLn, noOwn, diSeq, diEn, diZp, diR1, diR2, noX,  eqOk_int, eqOk_bl, eqOk_non, eqv_int, eqv_bl, eqv_non, atI_0, atI_1, atI_2, atI_3, qty_non, qisI_non, qisB_non, qisL_non, qisU_non, qisS_non, qisD_non, qisNon_non, qcooked_non, qseq_non, qty_bl, qisI_bl, qisB_bl, qisL_bl, qisU_bl, qisS_bl, qisD_bl, qisNon_bl, qcooked_bl, qseq_bl, qty_int, qisI_int, qisB_int, qisL_int, qisU_int, qisS_int, qisD_int, qisNon_int, qcooked_int, qseq_int, qty_str, qisI_str, qisB_str, qisL_str, qisU_str, qisS_str, qisD_str, qisNon_str, qcooked_str, qseq_str, qty_lst, qisI_lst, qisB_lst, qisL_lst, qisU_lst, qisS_lst, qisD_lst, qisNon_lst, qcooked_lst, qseq_lst, qty_tup, qisI_tup, qisB_tup, qisL_tup, qisU_tup, qisS_tup, qisD_tup, qisNon_tup, qcooked_tup, qseq_tup, qty_dct, qisI_dct, qisB_dct, qisL_dct, qisU_dct, qisS_dct, qisD_dct, qisNon_dct, qcooked_dct, qseq_dct, qix_lst, qsl_lst, qix_tup, qsl_tup, qisNon_ln, qcooked_ln, and_assoc, exists_and_left, exists_eq_left, exists_eq_left', exists_eq_right, dxLc_eq, dsFor_eq, rngD_0, rngD_eq, zipD_map, enumD_map0]
    have hzL : ∀ o ∈ A, o < L.length := fun o ho => by rw [hLl]; exact hzA o ho
    have li := low_in (a := Tf F L kw) (b := Mf n F kw) (by omega) (by omega) (by omega) (by omega)
    refine ⟨n, .lst (F.map D.int), tupD L, z, F, L, A, rfl, by omega, rfl, rfl, hzs, hLl.symm, hzL, by omega, ?_⟩
    refine ⟨_, rfl, rfl, _, _, rfl, _, _, rfl, rfl, .int (lowP (Tf F L kw).toNat (Mf n F kw).toNat).2, by rw [lowD, qix_tup, atI_1]; rfl, _, rfl, _, rfl, .inr ⟨by omega, by omega⟩, .int (lowP (Tf F L kw).toNat (Mf n F kw).toNat).1, by rw [lowD, qix_tup, atI_0]; rfl, _, rfl, _, rfl, .inl ⟨by omega, by omega⟩, ?_⟩
    refine low_least (by omega) ?_
    rw [← sT, ← sM]
    exact gl.least hkw hleast hzL
  obtain ⟨x11, x12, x13, rfl⟩ := hj
  -- the program's answers
  refine seq_gen (fun δ' => ∃ x11 x12 x13 x14 : Sl, δ' = [.dat (.raw (.ref sa)), .dat (.raw (.ref r)), .dat (.int (n : Int)), .dat (.lst (F.map D.int)), x4, .dat (.lst ((limsN n (F.length - 1)).map tupD)), .dat (tupD L), .dat (.tup [.int (Tf F L kw), .int (Mf n F kw), .int (kw : Int)]), .dat (lowD (Tf F L kw) (Mf n F kw)), .dat (.int (la : Int)), .dat (.lst sm), x11, x12, x13, x14, .un, .un, .un, .un, .un, .un, .un, .un]) (fun N hN => ?_) (fun δ' hj => ?_)
  · simp [startD, wipeD, dsRet, dsRetN, dsIf, dsSeq, dsNext, dsAsg, dsDrop, dsBreak, dsCont, dsPar, dsAug, dsFrz, dsApp, dsExt, dsPut, dsAugO, dsOwn, dsParOO, dsParDO, dsParDDO, diR3, rdRepTz, dsFrzA, dxRep, diOwn, dsRaise, deAnd, deOr, deNot, de1, de2, deB, deX, dxB, dxLst, deName, deC, deCall, deIxO, deLenO, deTup, deLst, daCons, daNil, daStar, deChain, dtChain, dtV, dtAnd, dtOr, dtNot, dtYes, deIf, deSl, doNone, doSome, rdAdd, rdSub, rdMul, rdMod, rdDiv, rdPow, rdI, rdIc, rdB, rdLt, rdLe, rdGt, rdGe, rdNeg, rdIs, rdEq, rdNe, rdIx, rdIsN, rdNotN, rdIsB, rdNotB, rdRev, rdSeats, rdCatL, rdCatT, rdRepL, rdLen, rdTuple, rdList, rxList, rdInt, rdMax2, rdMin2, dgName, dgTup, dgCons, dgNil, deRefused, rdRepr, rdNeS, rdEqL, rdNeL, rdRepT, rdIsLn, noOwn, diSeq, diEn, diZp, diR1, diR2, noX,  eqOk_int, eqOk_bl, eqOk_non, eqv_int, eqv_bl, eqv_non, atI_0, atI_1, atI_2, atI_3, qty_non, qisI_non, qisB_non, qisL_non, qisU_non, qisS_non, qisD_non, qisNon_non, qcooked_non, qseq_non, qty_bl, qisI_bl, qisB_bl, qisL_bl, qisU_bl, qisS_bl, qisD_bl, qisNon_bl, qcooked_bl, qseq_bl, qty_int, qisI_int, qisB_int, qisL_int, qisU_int, qisS_int, qisD_int, qisNon_int, qcooked_int, qseq_int, qty_str, qisI_str, qisB_str, qisL_str, qisU_str, qisS_str, qisD_str, qisNon_str, qcooked_str, qseq_str, qty_lst, qisI_lst, qisB_lst, qisL_lst, qisU_lst, qisS_lst, qisD_lst, qisNon_lst, qcooked_lst, qseq_lst, qty_tup, qisI_tup, qisB_tup, qisL_tup, qisU_tup, qisS_tup, qisD_tup, qisNon_tup, qcooked_tup, qseq_tup, qty_dct, qisI_dct, qisB_dct, qisL_dct, qisU_dct, qisS_dct, qisD_dct, qisNon_dct, qcooked_dct, qseq_dct, qix_lst, qsl_lst, qix_tup, qsl_tup, qisNon_ln, qcooked_ln, and_assoc, exists_and_left, exists_eq_left, exists_eq_left', exists_eq_right, dxLc_eq, dsFor_eq, rngD_0, rngD_eq, zipD_map, enumD_map0]
    rw [show (some (4 : Int)) = some ((4 : Nat) : Int) from rfl, cut_toK]
    refine fb_id _ (fun _ δ' => ∃ x11 x12 x13 x14 : Sl, δ' = [.dat (.raw (.ref sa)), .dat (.raw (.ref r)), .dat (.int (n : Int)), .dat (.lst (F.map D.int)), x4, .dat (.lst ((limsN n (F.length - 1)).map tupD)), .dat (tupD L), .dat (.tup [.int (Tf F L kw), .int (Mf n F kw), .int (kw : Int)]), .dat (lowD (Tf F L kw) (Mf n F kw)), .dat (.int (la : Int)), .dat (.lst sm), x11, x12, x13, x14, .un, .un, .un, .un, .un, .un, .un, .un]) ⟨_, _, _, _, rfl⟩ (fun i z δ' hz hj => ?_) (fun δ' hj => hN _ hj)
    obtain ⟨x11, x12, x13, x14, rfl⟩ := hj
    obtain ⟨zv, A, hzs, hzl, hzA⟩ := sok z (List.mem_of_mem_take hz)
    have hzL : ∀ o ∈ A, o < L.length := fun o ho => by rw [hLl]; exact hzA o ho
    have bl : (tookB L 0 A).length ≤ 100000 := by rw [tookB_len]; omega
    show dsSeq _ _ _ [.dat (.raw (.ref sa)), .dat (.raw (.ref r)), .dat (.int (n : Int)), .dat (.lst (F.map D.int)), x4, .dat (.lst ((limsN n (F.length - 1)).map tupD)), .dat (tupD L), .dat (.tup [.int (Tf F L kw), .int (Mf n F kw), .int (kw : Int)]), .dat (lowD (Tf F L kw) (Mf n F kw)), .dat (.int (la : Int)), .dat (.lst sm), .dat z, x12, x13, x14, .un, .un, .un, .un, .un, .un, .un, .un]
    refine seq_gen (fun δ' => δ' = [.dat (.raw (.ref sa)), .dat (.raw (.ref r)), .dat (.int (n : Int)), .dat (.lst (F.map D.int)), x4, .dat (.lst ((limsN n (F.length - 1)).map tupD)), .dat (tupD L), .dat (.tup [.int (Tf F L kw), .int (Mf n F kw), .int (kw : Int)]), .dat (lowD (Tf F L kw) (Mf n F kw)), .dat (.int (la : Int)), .dat (.lst sm), .dat z, .dat (.int (takeS F L A)), .dat (.int (mostN n F A)), x14, .un, .un, .un, .un, .un, .un, .un, .un]) (fun N2 hN2 => ?_) (fun δ' hj => ?_)
    · simp [startD, wipeD, dsRet, dsRetN, dsIf, dsSeq, dsNext, dsAsg, dsDrop, dsBreak, dsCont, dsPar, dsAug, dsFrz, dsApp, dsExt, dsPut, dsAugO, dsOwn, dsParOO, dsParDO, dsParDDO, diR3, rdRepTz, dsFrzA, dxRep, diOwn, dsRaise, deAnd, deOr, deNot, de1, de2, deB, deX, dxB, dxLst, deName, deC, deCall, deIxO, deLenO, deTup, deLst, daCons, daNil, daStar, deChain, dtChain, dtV, dtAnd, dtOr, dtNot, dtYes, deIf, deSl, doNone, doSome, rdAdd, rdSub, rdMul, rdMod, rdDiv, rdPow, rdI, rdIc, rdB, rdLt, rdLe, rdGt, rdGe, rdNeg, rdIs, rdEq, rdNe, rdIx, rdIsN, rdNotN, rdIsB, rdNotB, rdRev, rdSeats, rdCatL, rdCatT, rdRepL, rdLen, rdTuple, rdList, rxList, rdInt, rdMax2, rdMin2, dgName, dgTup, dgCons, dgNil, deRefused, rdRepr, rdNeS, rdEqL, rdNeL, rdRepT, rdIsLn, noOwn, diSeq, diEn, diZp, diR1, diR2, noX,  eqOk_int, eqOk_bl, eqOk_non, eqv_int, eqv_bl, eqv_non, atI_0, atI_1, atI_2, atI_3, qty_non, qisI_non, qisB_non, qisL_non, qisU_non, qisS_non, qisD_non, qisNon_non, qcooked_non, qseq_non, qty_bl, qisI_bl, qisB_bl, qisL_bl, qisU_bl, qisS_bl, qisD_bl, qisNon_bl, qcooked_bl, qseq_bl, qty_int, qisI_int, qisB_int, qisL_int, qisU_int, qisS_int, qisD_int, qisNon_int, qcooked_int, qseq_int, qty_str, qisI_str, qisB_str, qisL_str, qisU_str, qisS_str, qisD_str, qisNon_str, qcooked_str, qseq_str, qty_lst, qisI_lst, qisB_lst, qisL_lst, qisU_lst, qisS_lst, qisD_lst, qisNon_lst, qcooked_lst, qseq_lst, qty_tup, qisI_tup, qisB_tup, qisL_tup, qisU_tup, qisS_tup, qisD_tup, qisNon_tup, qcooked_tup, qseq_tup, qty_dct, qisI_dct, qisB_dct, qisL_dct, qisU_dct, qisS_dct, qisD_dct, qisNon_dct, qcooked_dct, qseq_dct, qix_lst, qsl_lst, qix_tup, qsl_tup, qisNon_ln, qcooked_ln, and_assoc, exists_and_left, exists_eq_left, exists_eq_left', exists_eq_right, dxLc_eq, dsFor_eq, rngD_0, rngD_eq, zipD_map, enumD_map0]
      refine ⟨n, .lst (F.map D.int), tupD L, z, F, L, A, rfl, by omega, rfl, rfl, hzs, hLl.symm, hzL, by omega, ?_⟩
      exact ⟨_, rfl, rfl, _, _, rfl, _, _, rfl, rfl, hN2 _ rfl⟩
    subst hj
    refine seq_gen (fun δ' => δ' = [.dat (.raw (.ref sa)), .dat (.raw (.ref r)), .dat (.int (n : Int)), .dat (.lst (F.map D.int)), x4, .dat (.lst ((limsN n (F.length - 1)).map tupD)), .dat (tupD L), .dat (.tup [.int (Tf F L kw), .int (Mf n F kw), .int (kw : Int)]), .dat (lowD (Tf F L kw) (Mf n F kw)), .dat (.int (la : Int)), .dat (.lst sm), .dat z, .dat (.int (takeS F L A)), .dat (.int (mostN n F A)), .dat (.tup [.lst ((tookB L 0 A).map D.bl), .int (takeS F L A), .int (mostN n F A)]), .un, .un, .un, .un, .un, .un, .un, .un]) (fun N2 hN2 => ?_) (fun δ' hj => ?_)
    · have a1 : badAsked (lenD (.lst (F.map D.int))) (.tup (A.map natD)) = none := by rw [lf]; exact asked_none rfl hzl hzA
      have a2 : badAsked (lenD (.lst (F.map D.int))) z = none := by rw [lf]; exact asked_none hzs hzl hzA
      simp [startD, wipeD, dsRet, dsRetN, dsIf, dsSeq, dsNext, dsAsg, dsDrop, dsBreak, dsCont, dsPar, dsAug, dsFrz, dsApp, dsExt, dsPut, dsAugO, dsOwn, dsParOO, dsParDO, dsParDDO, diR3, rdRepTz, dsFrzA, dxRep, diOwn, dsRaise, deAnd, deOr, deNot, de1, de2, deB, deX, dxB, dxLst, deName, deC, deCall, deIxO, deLenO, deTup, deLst, daCons, daNil, daStar, deChain, dtChain, dtV, dtAnd, dtOr, dtNot, dtYes, deIf, deSl, doNone, doSome, rdAdd, rdSub, rdMul, rdMod, rdDiv, rdPow, rdI, rdIc, rdB, rdLt, rdLe, rdGt, rdGe, rdNeg, rdIs, rdEq, rdNe, rdIx, rdIsN, rdNotN, rdIsB, rdNotB, rdRev, rdSeats, rdCatL, rdCatT, rdRepL, rdLen, rdTuple, rdList, rxList, rdInt, rdMax2, rdMin2, dgName, dgTup, dgCons, dgNil, deRefused, rdRepr, rdNeS, rdEqL, rdNeL, rdRepT, rdIsLn, noOwn, diSeq, diEn, diZp, diR1, diR2, noX,  eqOk_int, eqOk_bl, eqOk_non, eqv_int, eqv_bl, eqv_non, atI_0, atI_1, atI_2, atI_3, qty_non, qisI_non, qisB_non, qisL_non, qisU_non, qisS_non, qisD_non, qisNon_non, qcooked_non, qseq_non, qty_bl, qisI_bl, qisB_bl, qisL_bl, qisU_bl, qisS_bl, qisD_bl, qisNon_bl, qcooked_bl, qseq_bl, qty_int, qisI_int, qisB_int, qisL_int, qisU_int, qisS_int, qisD_int, qisNon_int, qcooked_int, qseq_int, qty_str, qisI_str, qisB_str, qisL_str, qisU_str, qisS_str, qisD_str, qisNon_str, qcooked_str, qseq_str, qty_lst, qisI_lst, qisB_lst, qisL_lst, qisU_lst, qisS_lst, qisD_lst, qisNon_lst, qcooked_lst, qseq_lst, qty_tup, qisI_tup, qisB_tup, qisL_tup, qisU_tup, qisS_tup, qisD_tup, qisNon_tup, qcooked_tup, qseq_tup, qty_dct, qisI_dct, qisB_dct, qisL_dct, qisU_dct, qisS_dct, qisD_dct, qisNon_dct, qcooked_dct, qseq_dct, qix_lst, qsl_lst, qix_tup, qsl_tup, qisNon_ln, qcooked_ln, and_assoc, exists_and_left, exists_eq_left, exists_eq_left', exists_eq_right, dxLc_eq, dsFor_eq, rngD_0, rngD_eq, zipD_map, enumD_map0, hzs]
      refine ⟨.int (n : Int), .lst (F.map D.int), tupD L, .tup (A.map natD), rfl, rfl, okvF, okvL, okv_tup okv_nats, fares_ok okn okf (limits_ok (by rw [lf]; exact okl) (asked_ok a1 ⟨L, A, rfl, rfl, hzL, by omega, ?_⟩))⟩
      refine ⟨.int (n : Int), .lst (F.map D.int), tupD L, z, rfl, rfl, okvF, okvL, zv, fares_ok okn okf (limits_ok (by rw [lf]; exact okl) (asked_ok a2 ⟨F, L, A, rfl, rfl, hzs, hLl.symm, hzL, by omega, ?_⟩))⟩
      refine ⟨.int (n : Int), .lst (F.map D.int), z, rfl, rfl, okvF, zv, fares_ok okn okf (asked_ok a2 ⟨n, F, A, rfl, by omega, rfl, hzs, hzA, by omega, ?_⟩)⟩
      exact hN2 _ rfl
    subst hj
    simp [startD, wipeD, dsRet, dsRetN, dsIf, dsSeq, dsNext, dsAsg, dsDrop, dsBreak, dsCont, dsPar, dsAug, dsFrz, dsApp, dsExt, dsPut, dsAugO, dsOwn, dsParOO, dsParDO, dsParDDO, diR3, rdRepTz, dsFrzA, dxRep, diOwn, dsRaise, deAnd, deOr, deNot, de1, de2, deB, deX, dxB, dxLst, deName, deC, deCall, deIxO, deLenO, deTup, deLst, daCons, daNil, daStar, deChain, dtChain, dtV, dtAnd, dtOr, dtNot, dtYes, deIf, deSl, doNone, doSome, rdAdd, rdSub, rdMul, rdMod, rdDiv, rdPow, rdI, rdIc, rdB, rdLt, rdLe, rdGt, rdGe, rdNeg, rdIs, rdEq, rdNe, rdIx, rdIsN, rdNotN, rdIsB, rdNotB, rdRev, rdSeats, rdCatL, rdCatT, rdRepL, rdLen, rdTuple, rdList, rxList, rdInt, rdMax2, rdMin2, dgName, dgTup, dgCons, dgNil, deRefused, rdRepr, rdNeS, rdEqL, rdNeL, rdRepT, rdIsLn, noOwn, diSeq, diEn, diZp, diR1, diR2, noX,  eqOk_int, eqOk_bl, eqOk_non, eqv_int, eqv_bl, eqv_non, atI_0, atI_1, atI_2, atI_3, qty_non, qisI_non, qisB_non, qisL_non, qisU_non, qisS_non, qisD_non, qisNon_non, qcooked_non, qseq_non, qty_bl, qisI_bl, qisB_bl, qisL_bl, qisU_bl, qisS_bl, qisD_bl, qisNon_bl, qcooked_bl, qseq_bl, qty_int, qisI_int, qisB_int, qisL_int, qisU_int, qisS_int, qisD_int, qisNon_int, qcooked_int, qseq_int, qty_str, qisI_str, qisB_str, qisL_str, qisU_str, qisS_str, qisD_str, qisNon_str, qcooked_str, qseq_str, qty_lst, qisI_lst, qisB_lst, qisL_lst, qisU_lst, qisS_lst, qisD_lst, qisNon_lst, qcooked_lst, qseq_lst, qty_tup, qisI_tup, qisB_tup, qisL_tup, qisU_tup, qisS_tup, qisD_tup, qisNon_tup, qcooked_tup, qseq_tup, qty_dct, qisI_dct, qisB_dct, qisL_dct, qisU_dct, qisS_dct, qisD_dct, qisNon_dct, qcooked_dct, qseq_dct, qix_lst, qsl_lst, qix_tup, qsl_tup, qisNon_ln, qcooked_ln, and_assoc, exists_and_left, exists_eq_left, exists_eq_left', exists_eq_right, dxLc_eq, dsFor_eq, rngD_0, rngD_eq, zipD_map, enumD_map0]
    refine ⟨tupD L, z, L, A, rfl, rfl, hzs, hzL, by omega, ?_⟩
    exact alike_i (alk_found bl) rfl
  clear x11 x12 x13
  obtain ⟨x11, x12, x13, x14, rfl⟩ := hj
  -- best
  refine seq_gen (fun δ' => δ' = [.dat (.raw (.ref sa)), .dat (.raw (.ref r)), .dat (.int (n : Int)), .dat (.lst (F.map D.int)), x4, .dat (.lst ((limsN n (F.length - 1)).map tupD)), .dat (tupD L), .dat (.tup [.int (Tf F L kw), .int (Mf n F kw), .int (kw : Int)]), .dat (lowD (Tf F L kw) (Mf n F kw)), .dat (.int (la : Int)), .dat (.lst sm), x11, x12, x13, x14, .dat .non, .un, .un, .un, .un, .un, .un, .un]) (fun N hN => ?_) (fun δ' hj => ?_)
  · simp [startD, wipeD, dsRet, dsRetN, dsIf, dsSeq, dsNext, dsAsg, dsDrop, dsBreak, dsCont, dsPar, dsAug, dsFrz, dsApp, dsExt, dsPut, dsAugO, dsOwn, dsParOO, dsParDO, dsParDDO, diR3, rdRepTz, dsFrzA, dxRep, diOwn, dsRaise, deAnd, deOr, deNot, de1, de2, deB, deX, dxB, dxLst, deName, deC, deCall, deIxO, deLenO, deTup, deLst, daCons, daNil, daStar, deChain, dtChain, dtV, dtAnd, dtOr, dtNot, dtYes, deIf, deSl, doNone, doSome, rdAdd, rdSub, rdMul, rdMod, rdDiv, rdPow, rdI, rdIc, rdB, rdLt, rdLe, rdGt, rdGe, rdNeg, rdIs, rdEq, rdNe, rdIx, rdIsN, rdNotN, rdIsB, rdNotB, rdRev, rdSeats, rdCatL, rdCatT, rdRepL, rdLen, rdTuple, rdList, rxList, rdInt, rdMax2, rdMin2, dgName, dgTup, dgCons, dgNil, deRefused, rdRepr, rdNeS, rdEqL, rdNeL, rdRepT, rdIsLn, noOwn, diSeq, diEn, diZp, diR1, diR2, noX,  eqOk_int, eqOk_bl, eqOk_non, eqv_int, eqv_bl, eqv_non, atI_0, atI_1, atI_2, atI_3, qty_non, qisI_non, qisB_non, qisL_non, qisU_non, qisS_non, qisD_non, qisNon_non, qcooked_non, qseq_non, qty_bl, qisI_bl, qisB_bl, qisL_bl, qisU_bl, qisS_bl, qisD_bl, qisNon_bl, qcooked_bl, qseq_bl, qty_int, qisI_int, qisB_int, qisL_int, qisU_int, qisS_int, qisD_int, qisNon_int, qcooked_int, qseq_int, qty_str, qisI_str, qisB_str, qisL_str, qisU_str, qisS_str, qisD_str, qisNon_str, qcooked_str, qseq_str, qty_lst, qisI_lst, qisB_lst, qisL_lst, qisU_lst, qisS_lst, qisD_lst, qisNon_lst, qcooked_lst, qseq_lst, qty_tup, qisI_tup, qisB_tup, qisL_tup, qisU_tup, qisS_tup, qisD_tup, qisNon_tup, qcooked_tup, qseq_tup, qty_dct, qisI_dct, qisB_dct, qisL_dct, qisU_dct, qisS_dct, qisD_dct, qisNon_dct, qcooked_dct, qseq_dct, qix_lst, qsl_lst, qix_tup, qsl_tup, qisNon_ln, qcooked_ln, and_assoc, exists_and_left, exists_eq_left, exists_eq_left', exists_eq_right, dxLc_eq, dsFor_eq, rngD_0, rngD_eq, zipD_map, enumD_map0]
    exact hN _ rfl
  subst hj
  obtain ⟨p, hp1, hp2, p1, p2, p3, p4, hpm⟩ := most_tail g
  refine seq_gen (fun δ' => ∃ x16 x17 : Sl, δ' = [.dat (.raw (.ref sa)), .dat (.raw (.ref r)), .dat (.int (n : Int)), .dat (.lst (F.map D.int)), x4, .dat (.lst ((limsN n (F.length - 1)).map tupD)), .dat (tupD L), .dat (.tup [.int (Tf F L kw), .int (Mf n F kw), .int (kw : Int)]), .dat (lowD (Tf F L kw) (Mf n F kw)), .dat (.int (la : Int)), .dat (.lst sm), x11, x12, x13, x14, .dat (bD2 (some p)), x16, x17, .un, .un, .un, .un, .un]) (fun N hN => ?_) (fun δ' hj => ?_)
  · simp [startD, wipeD, dsRet, dsRetN, dsIf, dsSeq, dsNext, dsAsg, dsDrop, dsBreak, dsCont, dsPar, dsAug, dsFrz, dsApp, dsExt, dsPut, dsAugO, dsOwn, dsParOO, dsParDO, dsParDDO, diR3, rdRepTz, dsFrzA, dxRep, diOwn, dsRaise, deAnd, deOr, deNot, de1, de2, deB, deX, dxB, dxLst, deName, deC, deCall, deIxO, deLenO, deTup, deLst, daCons, daNil, daStar, deChain, dtChain, dtV, dtAnd, dtOr, dtNot, dtYes, deIf, deSl, doNone, doSome, rdAdd, rdSub, rdMul, rdMod, rdDiv, rdPow, rdI, rdIc, rdB, rdLt, rdLe, rdGt, rdGe, rdNeg, rdIs, rdEq, rdNe, rdIx, rdIsN, rdNotN, rdIsB, rdNotB, rdRev, rdSeats, rdCatL, rdCatT, rdRepL, rdLen, rdTuple, rdList, rxList, rdInt, rdMax2, rdMin2, dgName, dgTup, dgCons, dgNil, deRefused, rdRepr, rdNeS, rdEqL, rdNeL, rdRepT, rdIsLn, noOwn, diSeq, diEn, diZp, diR1, diR2, noX,  eqOk_int, eqOk_bl, eqOk_non, eqv_int, eqv_bl, eqv_non, atI_0, atI_1, atI_2, atI_3, qty_non, qisI_non, qisB_non, qisL_non, qisU_non, qisS_non, qisD_non, qisNon_non, qcooked_non, qseq_non, qty_bl, qisI_bl, qisB_bl, qisL_bl, qisU_bl, qisS_bl, qisD_bl, qisNon_bl, qcooked_bl, qseq_bl, qty_int, qisI_int, qisB_int, qisL_int, qisU_int, qisS_int, qisD_int, qisNon_int, qcooked_int, qseq_int, qty_str, qisI_str, qisB_str, qisL_str, qisU_str, qisS_str, qisD_str, qisNon_str, qcooked_str, qseq_str, qty_lst, qisI_lst, qisB_lst, qisL_lst, qisU_lst, qisS_lst, qisD_lst, qisNon_lst, qcooked_lst, qseq_lst, qty_tup, qisI_tup, qisB_tup, qisL_tup, qisU_tup, qisS_tup, qisD_tup, qisNon_tup, qcooked_tup, qseq_tup, qty_dct, qisI_dct, qisB_dct, qisL_dct, qisU_dct, qisS_dct, qisD_dct, qisNon_dct, qcooked_dct, qseq_dct, qix_lst, qsl_lst, qix_tup, qsl_tup, qisNon_ln, qcooked_ln, and_assoc, exists_and_left, exists_eq_left, exists_eq_left', exists_eq_right, dxLc_eq, dsFor_eq, rngD_0, rngD_eq, zipD_map, enumD_map0]
    refine fb_on (limsN n (F.length - 1)) (fun i δ' => ∃ x16 x17 : Sl, δ' = [.dat (.raw (.ref sa)), .dat (.raw (.ref r)), .dat (.int (n : Int)), .dat (.lst (F.map D.int)), x4, .dat (.lst ((limsN n (F.length - 1)).map tupD)), .dat (tupD L), .dat (.tup [.int (Tf F L kw), .int (Mf n F kw), .int (kw : Int)]), .dat (lowD (Tf F L kw) (Mf n F kw)), .dat (.int (la : Int)), .dat (.lst sm), x11, x12, x13, x14, .dat (bD2 (bP n F i)), x16, x17, .un, .un, .un, .un, .un]) ⟨.un, .un, rfl⟩ (fun i l δ' hi hj => ?_) (fun δ' hj => ?_)
    · obtain ⟨x16, x17, rfl⟩ := hj
      rw [bP_succ hi]
      have hm := List.mem_of_getElem? hi
      have gl2 := g.good hm
      obtain ⟨k, hk, hw1, hw2⟩ := g.worst hm
      have gT2 := gl2.T hk
      have gM2 := gl2.M hk
      show dsSeq _ _ _ [.dat (.raw (.ref sa)), .dat (.raw (.ref r)), .dat (.int (n : Int)), .dat (.lst (F.map D.int)), x4, .dat (.lst ((limsN n (F.length - 1)).map tupD)), .dat (tupD L), .dat (.tup [.int (Tf F L kw), .int (Mf n F kw), .int (kw : Int)]), .dat (lowD (Tf F L kw) (Mf n F kw)), .dat (.int (la : Int)), .dat (.lst sm), x11, x12, x13, x14, .dat (bD2 (bP n F i)), .dat (tupD l), x17, .un, .un, .un, .un, .un]
      refine seq_gen (fun δ' => δ' = [.dat (.raw (.ref sa)), .dat (.raw (.ref r)), .dat (.int (n : Int)), .dat (.lst (F.map D.int)), x4, .dat (.lst ((limsN n (F.length - 1)).map tupD)), .dat (tupD L), .dat (.tup [.int (Tf F L kw), .int (Mf n F kw), .int (kw : Int)]), .dat (lowD (Tf F L kw) (Mf n F kw)), .dat (.int (la : Int)), .dat (.lst sm), x11, x12, x13, x14, .dat (bD2 (bP n F i)), .dat (tupD l), .dat (.tup [.int (Tf F l k), .int (Mf n F k), .int (k : Int)]), .un, .un, .un, .un, .un]) (fun N2 hN2 => ?_) (fun δ' hj => ?_)
      · simp [startD, wipeD, dsRet, dsRetN, dsIf, dsSeq, dsNext, dsAsg, dsDrop, dsBreak, dsCont, dsPar, dsAug, dsFrz, dsApp, dsExt, dsPut, dsAugO, dsOwn, dsParOO, dsParDO, dsParDDO, diR3, rdRepTz, dsFrzA, dxRep, diOwn, dsRaise, deAnd, deOr, deNot, de1, de2, deB, deX, dxB, dxLst, deName, deC, deCall, deIxO, deLenO, deTup, deLst, daCons, daNil, daStar, deChain, dtChain, dtV, dtAnd, dtOr, dtNot, dtYes, deIf, deSl, doNone, doSome, rdAdd, rdSub, rdMul, rdMod, rdDiv, rdPow, rdI, rdIc, rdB, rdLt, rdLe, rdGt, rdGe, rdNeg, rdIs, rdEq, rdNe, rdIx, rdIsN, rdNotN, rdIsB, rdNotB, rdRev, rdSeats, rdCatL, rdCatT, rdRepL, rdLen, rdTuple, rdList, rxList, rdInt, rdMax2, rdMin2, dgName, dgTup, dgCons, dgNil, deRefused, rdRepr, rdNeS, rdEqL, rdNeL, rdRepT, rdIsLn, noOwn, diSeq, diEn, diZp, diR1, diR2, noX,  eqOk_int, eqOk_bl, eqOk_non, eqv_int, eqv_bl, eqv_non, atI_0, atI_1, atI_2, atI_3, qty_non, qisI_non, qisB_non, qisL_non, qisU_non, qisS_non, qisD_non, qisNon_non, qcooked_non, qseq_non, qty_bl, qisI_bl, qisB_bl, qisL_bl, qisU_bl, qisS_bl, qisD_bl, qisNon_bl, qcooked_bl, qseq_bl, qty_int, qisI_int, qisB_int, qisL_int, qisU_int, qisS_int, qisD_int, qisNon_int, qcooked_int, qseq_int, qty_str, qisI_str, qisB_str, qisL_str, qisU_str, qisS_str, qisD_str, qisNon_str, qcooked_str, qseq_str, qty_lst, qisI_lst, qisB_lst, qisL_lst, qisU_lst, qisS_lst, qisD_lst, qisNon_lst, qcooked_lst, qseq_lst, qty_tup, qisI_tup, qisB_tup, qisL_tup, qisU_tup, qisS_tup, qisD_tup, qisNon_tup, qcooked_tup, qseq_tup, qty_dct, qisI_dct, qisB_dct, qisL_dct, qisU_dct, qisS_dct, qisD_dct, qisNon_dct, qcooked_dct, qseq_dct, qix_lst, qsl_lst, qix_tup, qsl_tup, qisNon_ln, qcooked_ln, and_assoc, exists_and_left, exists_eq_left, exists_eq_left', exists_eq_right, dxLc_eq, dsFor_eq, rngD_0, rngD_eq, zipD_map, enumD_map0]
        refine ⟨n, .lst (F.map D.int), tupD l, F, l, rfl, rfl, rfl, gl2, fun k' hk' hw' => ?_⟩
        have ek : k' = k := by
          rw [hw1] at hw'
          simp only [Option.some.injEq, Prod.mk.injEq] at hw'
          exact hw'.2.2.symm
        subst ek
        exact hN2 _ rfl
      subst hj
      rcases bP_is g i with e | ⟨p, e, q1, q2, q3, q4⟩
      · rw [e]
        have eb : bestStep (worstTM n F) none l = some ((worstTM n F l).1, (worstTM n F l).2, l) := rfl
        rw [hw2] at eb
        rw [eb]
        simp [startD, wipeD, dsRet, dsRetN, dsIf, dsSeq, dsNext, dsAsg, dsDrop, dsBreak, dsCont, dsPar, dsAug, dsFrz, dsApp, dsExt, dsPut, dsAugO, dsOwn, dsParOO, dsParDO, dsParDDO, diR3, rdRepTz, dsFrzA, dxRep, diOwn, dsRaise, deAnd, deOr, deNot, de1, de2, deB, deX, dxB, dxLst, deName, deC, deCall, deIxO, deLenO, deTup, deLst, daCons, daNil, daStar, deChain, dtChain, dtV, dtAnd, dtOr, dtNot, dtYes, deIf, deSl, doNone, doSome, rdAdd, rdSub, rdMul, rdMod, rdDiv, rdPow, rdI, rdIc, rdB, rdLt, rdLe, rdGt, rdGe, rdNeg, rdIs, rdEq, rdNe, rdIx, rdIsN, rdNotN, rdIsB, rdNotB, rdRev, rdSeats, rdCatL, rdCatT, rdRepL, rdLen, rdTuple, rdList, rxList, rdInt, rdMax2, rdMin2, dgName, dgTup, dgCons, dgNil, deRefused, rdRepr, rdNeS, rdEqL, rdNeL, rdRepT, rdIsLn, noOwn, diSeq, diEn, diZp, diR1, diR2, noX,  eqOk_int, eqOk_bl, eqOk_non, eqv_int, eqv_bl, eqv_non, atI_0, atI_1, atI_2, atI_3, qty_non, qisI_non, qisB_non, qisL_non, qisU_non, qisS_non, qisD_non, qisNon_non, qcooked_non, qseq_non, qty_bl, qisI_bl, qisB_bl, qisL_bl, qisU_bl, qisS_bl, qisD_bl, qisNon_bl, qcooked_bl, qseq_bl, qty_int, qisI_int, qisB_int, qisL_int, qisU_int, qisS_int, qisD_int, qisNon_int, qcooked_int, qseq_int, qty_str, qisI_str, qisB_str, qisL_str, qisU_str, qisS_str, qisD_str, qisNon_str, qcooked_str, qseq_str, qty_lst, qisI_lst, qisB_lst, qisL_lst, qisU_lst, qisS_lst, qisD_lst, qisNon_lst, qcooked_lst, qseq_lst, qty_tup, qisI_tup, qisB_tup, qisL_tup, qisU_tup, qisS_tup, qisD_tup, qisNon_tup, qcooked_tup, qseq_tup, qty_dct, qisI_dct, qisB_dct, qisL_dct, qisU_dct, qisS_dct, qisD_dct, qisNon_dct, qcooked_dct, qseq_dct, qix_lst, qsl_lst, qix_tup, qsl_tup, qisNon_ln, qcooked_ln, and_assoc, exists_and_left, exists_eq_left, exists_eq_left', exists_eq_right, dxLc_eq, dsFor_eq, rngD_0, rngD_eq, zipD_map, enumD_map0, bD2]
      · rw [e]
        have eb : bestStep (worstTM n F) (some p) l = if p.1 * (worstTM n F l).2 < (worstTM n F l).1 * p.2.1 then some ((worstTM n F l).1, (worstTM n F l).2, l) else some p := rfl
        rw [hw2] at eb
        rw [eb]
        simp [startD, wipeD, dsRet, dsRetN, dsIf, dsSeq, dsNext, dsAsg, dsDrop, dsBreak, dsCont, dsPar, dsAug, dsFrz, dsApp, dsExt, dsPut, dsAugO, dsOwn, dsParOO, dsParDO, dsParDDO, diR3, rdRepTz, dsFrzA, dxRep, diOwn, dsRaise, deAnd, deOr, deNot, de1, de2, deB, deX, dxB, dxLst, deName, deC, deCall, deIxO, deLenO, deTup, deLst, daCons, daNil, daStar, deChain, dtChain, dtV, dtAnd, dtOr, dtNot, dtYes, deIf, deSl, doNone, doSome, rdAdd, rdSub, rdMul, rdMod, rdDiv, rdPow, rdI, rdIc, rdB, rdLt, rdLe, rdGt, rdGe, rdNeg, rdIs, rdEq, rdNe, rdIx, rdIsN, rdNotN, rdIsB, rdNotB, rdRev, rdSeats, rdCatL, rdCatT, rdRepL, rdLen, rdTuple, rdList, rxList, rdInt, rdMax2, rdMin2, dgName, dgTup, dgCons, dgNil, deRefused, rdRepr, rdNeS, rdEqL, rdNeL, rdRepT, rdIsLn, noOwn, diSeq, diEn, diZp, diR1, diR2, noX,  eqOk_int, eqOk_bl, eqOk_non, eqv_int, eqv_bl, eqv_non, atI_0, atI_1, atI_2, atI_3, qty_non, qisI_non, qisB_non, qisL_non, qisU_non, qisS_non, qisD_non, qisNon_non, qcooked_non, qseq_non, qty_bl, qisI_bl, qisB_bl, qisL_bl, qisU_bl, qisS_bl, qisD_bl, qisNon_bl, qcooked_bl, qseq_bl, qty_int, qisI_int, qisB_int, qisL_int, qisU_int, qisS_int, qisD_int, qisNon_int, qcooked_int, qseq_int, qty_str, qisI_str, qisB_str, qisL_str, qisU_str, qisS_str, qisD_str, qisNon_str, qcooked_str, qseq_str, qty_lst, qisI_lst, qisB_lst, qisL_lst, qisU_lst, qisS_lst, qisD_lst, qisNon_lst, qcooked_lst, qseq_lst, qty_tup, qisI_tup, qisB_tup, qisL_tup, qisU_tup, qisS_tup, qisD_tup, qisNon_tup, qcooked_tup, qseq_tup, qty_dct, qisI_dct, qisB_dct, qisL_dct, qisU_dct, qisS_dct, qisD_dct, qisNon_dct, qcooked_dct, qseq_dct, qix_lst, qsl_lst, qix_tup, qsl_tup, qisNon_ln, qcooked_ln, and_assoc, exists_and_left, exists_eq_left, exists_eq_left', exists_eq_right, dxLc_eq, dsFor_eq, rngD_0, rngD_eq, zipD_map, enumD_map0, bD2]
        refine ⟨.inl ⟨by omega, by omega⟩, .inl ⟨by omega, by omega⟩, ?_⟩
        by_cases cc : p.1 * Mf n F k < Tf F l k * p.2.1
        · rw [if_pos cc, if_pos cc]
        · rw [if_neg cc, if_neg cc]
    · obtain ⟨x16, x17, rfl⟩ := hj
      rw [hp1]
      exact hN _ ⟨x16, x17, rfl⟩
  obtain ⟨x16, x17, rfl⟩ := hj
  -- best_limits, best_share
  refine seq_gen (fun δ' => δ' = [.dat (.raw (.ref sa)), .dat (.raw (.ref r)), .dat (.int (n : Int)), .dat (.lst (F.map D.int)), x4, .dat (.lst ((limsN n (F.length - 1)).map tupD)), .dat (tupD L), .dat (.tup [.int (Tf F L kw), .int (Mf n F kw), .int (kw : Int)]), .dat (lowD (Tf F L kw) (Mf n F kw)), .dat (.int (la : Int)), .dat (.lst sm), x11, x12, x13, x14, .dat (bD2 (some p)), x16, x17, .un, .un, .un, .un, .un]) (fun N hN => ?_) (fun δ' hj => ?_)
  · have sp1 : p.1 = ((p.1.toNat : Nat) : Int) := by omega
    have sp2 : p.2.1 = ((p.2.1.toNat : Nat) : Int) := by omega
    have Ip := lims_ok n _ p.2.2 hpm
    simp [startD, wipeD, dsRet, dsRetN, dsIf, dsSeq, dsNext, dsAsg, dsDrop, dsBreak, dsCont, dsPar, dsAug, dsFrz, dsApp, dsExt, dsPut, dsAugO, dsOwn, dsParOO, dsParDO, dsParDDO, diR3, rdRepTz, dsFrzA, dxRep, diOwn, dsRaise, deAnd, deOr, deNot, de1, de2, deB, deX, dxB, dxLst, deName, deC, deCall, deIxO, deLenO, deTup, deLst, daCons, daNil, daStar, deChain, dtChain, dtV, dtAnd, dtOr, dtNot, dtYes, deIf, deSl, doNone, doSome, rdAdd, rdSub, rdMul, rdMod, rdDiv, rdPow, rdI, rdIc, rdB, rdLt, rdLe, rdGt, rdGe, rdNeg, rdIs, rdEq, rdNe, rdIx, rdIsN, rdNotN, rdIsB, rdNotB, rdRev, rdSeats, rdCatL, rdCatT, rdRepL, rdLen, rdTuple, rdList, rxList, rdInt, rdMax2, rdMin2, dgName, dgTup, dgCons, dgNil, deRefused, rdRepr, rdNeS, rdEqL, rdNeL, rdRepT, rdIsLn, noOwn, diSeq, diEn, diZp, diR1, diR2, noX,  eqOk_int, eqOk_bl, eqOk_non, eqv_int, eqv_bl, eqv_non, atI_0, atI_1, atI_2, atI_3, qty_non, qisI_non, qisB_non, qisL_non, qisU_non, qisS_non, qisD_non, qisNon_non, qcooked_non, qseq_non, qty_bl, qisI_bl, qisB_bl, qisL_bl, qisU_bl, qisS_bl, qisD_bl, qisNon_bl, qcooked_bl, qseq_bl, qty_int, qisI_int, qisB_int, qisL_int, qisU_int, qisS_int, qisD_int, qisNon_int, qcooked_int, qseq_int, qty_str, qisI_str, qisB_str, qisL_str, qisU_str, qisS_str, qisD_str, qisNon_str, qcooked_str, qseq_str, qty_lst, qisI_lst, qisB_lst, qisL_lst, qisU_lst, qisS_lst, qisD_lst, qisNon_lst, qcooked_lst, qseq_lst, qty_tup, qisI_tup, qisB_tup, qisL_tup, qisU_tup, qisS_tup, qisD_tup, qisNon_tup, qcooked_tup, qseq_tup, qty_dct, qisI_dct, qisB_dct, qisL_dct, qisU_dct, qisS_dct, qisD_dct, qisNon_dct, qcooked_dct, qseq_dct, qix_lst, qsl_lst, qix_tup, qsl_tup, qisNon_ln, qcooked_ln, and_assoc, exists_and_left, exists_eq_left, exists_eq_left', exists_eq_right, dxLc_eq, dsFor_eq, rngD_0, rngD_eq, zipD_map, enumD_map0, bD2]
    refine ⟨.int (n : Int), .lst (F.map D.int), rfl, rfl, okvF, fares_ok okn okf ⟨n, F, rfl, rfl, g, fun q hq => ?_⟩⟩
    rw [hp2] at hq
    cases hq
    refine alike_i (alk_tints _ (by rw [Ip.len]; omega)) ⟨rfl, ?_⟩
    refine ⟨.int (n : Int), .lst (F.map D.int), rfl, rfl, okvF, fares_ok okn okf ⟨n, F, rfl, rfl, g, fun q hq => ?_⟩⟩
    rw [hp2] at hq
    cases hq
    refine ⟨p.1.toNat, p.2.1.toNat, by rw [← sp1, ← sp2], by omega, by omega, by omega, ?_⟩
    exact alike_i (alkL _ _) ⟨rfl, hN _ rfl⟩
  subst hj
  -- odd, bad
  refine seq_gen (fun δ' => ∃ od bd : D, ((od.okv = true ∧ od.rok 1 = true ∧ okN od = false) ∧ (bd.okv = true ∧ bd.rok 1 = true ∧ okF bd = false)) ∧ δ' = [.dat (.raw (.ref sa)), .dat (.raw (.ref r)), .dat (.int (n : Int)), .dat (.lst (F.map D.int)), x4, .dat (.lst ((limsN n (F.length - 1)).map tupD)), .dat (tupD L), .dat (.tup [.int (Tf F L kw), .int (Mf n F kw), .int (kw : Int)]), .dat (lowD (Tf F L kw) (Mf n F kw)), .dat (.int (la : Int)), .dat (.lst sm), x11, x12, x13, x14, .dat (bD2 (some p)), x16, x17, .dat od, .dat bd, .un, .un, .un]) (fun N hN => ?_) (fun δ' hj => ?_)
  · simp [startD, wipeD, dsRet, dsRetN, dsIf, dsSeq, dsNext, dsAsg, dsDrop, dsBreak, dsCont, dsPar, dsAug, dsFrz, dsApp, dsExt, dsPut, dsAugO, dsOwn, dsParOO, dsParDO, dsParDDO, diR3, rdRepTz, dsFrzA, dxRep, diOwn, dsRaise, deAnd, deOr, deNot, de1, de2, deB, deX, dxB, dxLst, deName, deC, deCall, deIxO, deLenO, deTup, deLst, daCons, daNil, daStar, deChain, dtChain, dtV, dtAnd, dtOr, dtNot, dtYes, deIf, deSl, doNone, doSome, rdAdd, rdSub, rdMul, rdMod, rdDiv, rdPow, rdI, rdIc, rdB, rdLt, rdLe, rdGt, rdGe, rdNeg, rdIs, rdEq, rdNe, rdIx, rdIsN, rdNotN, rdIsB, rdNotB, rdRev, rdSeats, rdCatL, rdCatT, rdRepL, rdLen, rdTuple, rdList, rxList, rdInt, rdMax2, rdMin2, dgName, dgTup, dgCons, dgNil, deRefused, rdRepr, rdNeS, rdEqL, rdNeL, rdRepT, rdIsLn, noOwn, diSeq, diEn, diZp, diR1, diR2, noX,  eqOk_int, eqOk_bl, eqOk_non, eqv_int, eqv_bl, eqv_non, atI_0, atI_1, atI_2, atI_3, qty_non, qisI_non, qisB_non, qisL_non, qisU_non, qisS_non, qisD_non, qisNon_non, qcooked_non, qseq_non, qty_bl, qisI_bl, qisB_bl, qisL_bl, qisU_bl, qisS_bl, qisD_bl, qisNon_bl, qcooked_bl, qseq_bl, qty_int, qisI_int, qisB_int, qisL_int, qisU_int, qisS_int, qisD_int, qisNon_int, qcooked_int, qseq_int, qty_str, qisI_str, qisB_str, qisL_str, qisU_str, qisS_str, qisD_str, qisNon_str, qcooked_str, qseq_str, qty_lst, qisI_lst, qisB_lst, qisL_lst, qisU_lst, qisS_lst, qisD_lst, qisNon_lst, qcooked_lst, qseq_lst, qty_tup, qisI_tup, qisB_tup, qisL_tup, qisU_tup, qisS_tup, qisD_tup, qisNon_tup, qcooked_tup, qseq_tup, qty_dct, qisI_dct, qisB_dct, qisL_dct, qisU_dct, qisS_dct, qisD_dct, qisNon_dct, qcooked_dct, qseq_dct, qix_lst, qsl_lst, qix_tup, qsl_tup, qisNon_ln, qcooked_ln, and_assoc, exists_and_left, exists_eq_left, exists_eq_left', exists_eq_right, dxLc_eq, dsFor_eq, rngD_0, rngD_eq, zipD_map, enumD_map0]
    refine ⟨r, sa, _, _, rfl, hrow, rfl, by simp, by simp, fun od hod => ?_⟩
    refine ⟨r, sa, _, _, rfl, hrow, rfl, by simp, by simp, fun bd hbd => ?_⟩
    refine hN _ ⟨od, bd, ⟨?_, ?_⟩, rfl⟩
    · simp only [List.mem_cons, List.not_mem_nil, or_false] at hod
      rcases hod with rfl | rfl | rfl | rfl <;> exact ⟨rfl, rfl, rfl⟩
    · simp only [List.mem_cons, List.not_mem_nil, or_false] at hbd
      rcases hbd with rfl | rfl | rfl | rfl | rfl | rfl | rfl | rfl | rfl <;> exact ⟨rfl, rfl, rfl⟩
  obtain ⟨od, bd, ⟨⟨od1, od2, od3⟩, bd1, bd2, bd3⟩, rfl⟩ := hj
  -- refused: n, fares
  refine seq_gen (fun δ' => ∃ x20, δ' = [.dat (.raw (.ref sa)), .dat (.raw (.ref r)), .dat (.int (n : Int)), .dat (.lst (F.map D.int)), x4, .dat (.lst ((limsN n (F.length - 1)).map tupD)), .dat (tupD L), .dat (.tup [.int (Tf F L kw), .int (Mf n F kw), .int (kw : Int)]), .dat (lowD (Tf F L kw) (Mf n F kw)), .dat (.int (la : Int)), .dat (.lst sm), x11, x12, x13, x14, .dat (bD2 (some p)), x16, x17, .dat od, .dat bd, x20, .un, .un]) (fun N hN => ?_) (fun δ' hj => ?_)
  · simp [startD, wipeD, dsRet, dsRetN, dsIf, dsSeq, dsNext, dsAsg, dsDrop, dsBreak, dsCont, dsPar, dsAug, dsFrz, dsApp, dsExt, dsPut, dsAugO, dsOwn, dsParOO, dsParDO, dsParDDO, diR3, rdRepTz, dsFrzA, dxRep, diOwn, dsRaise, deAnd, deOr, deNot, de1, de2, deB, deX, dxB, dxLst, deName, deC, deCall, deIxO, deLenO, deTup, deLst, daCons, daNil, daStar, deChain, dtChain, dtV, dtAnd, dtOr, dtNot, dtYes, deIf, deSl, doNone, doSome, rdAdd, rdSub, rdMul, rdMod, rdDiv, rdPow, rdI, rdIc, rdB, rdLt, rdLe, rdGt, rdGe, rdNeg, rdIs, rdEq, rdNe, rdIx, rdIsN, rdNotN, rdIsB, rdNotB, rdRev, rdSeats, rdCatL, rdCatT, rdRepL, rdLen, rdTuple, rdList, rxList, rdInt, rdMax2, rdMin2, dgName, dgTup, dgCons, dgNil, deRefused, rdRepr, rdNeS, rdEqL, rdNeL, rdRepT, rdIsLn, noOwn, diSeq, diEn, diZp, diR1, diR2, noX,  eqOk_int, eqOk_bl, eqOk_non, eqv_int, eqv_bl, eqv_non, atI_0, atI_1, atI_2, atI_3, qty_non, qisI_non, qisB_non, qisL_non, qisU_non, qisS_non, qisD_non, qisNon_non, qcooked_non, qseq_non, qty_bl, qisI_bl, qisB_bl, qisL_bl, qisU_bl, qisS_bl, qisD_bl, qisNon_bl, qcooked_bl, qseq_bl, qty_int, qisI_int, qisB_int, qisL_int, qisU_int, qisS_int, qisD_int, qisNon_int, qcooked_int, qseq_int, qty_str, qisI_str, qisB_str, qisL_str, qisU_str, qisS_str, qisD_str, qisNon_str, qcooked_str, qseq_str, qty_lst, qisI_lst, qisB_lst, qisL_lst, qisU_lst, qisS_lst, qisD_lst, qisNon_lst, qcooked_lst, qseq_lst, qty_tup, qisI_tup, qisB_tup, qisL_tup, qisU_tup, qisS_tup, qisD_tup, qisNon_tup, qcooked_tup, qseq_tup, qty_dct, qisI_dct, qisB_dct, qisL_dct, qisU_dct, qisS_dct, qisD_dct, qisNon_dct, qcooked_dct, qseq_dct, qix_lst, qsl_lst, qix_tup, qsl_tup, qisNon_ln, qcooked_ln, and_assoc, exists_and_left, exists_eq_left, exists_eq_left', exists_eq_right, dxLc_eq, dsFor_eq, rngD_0, rngD_eq, zipD_map, enumD_map0]
    refine fb_id _ (fun _ δ' => ∃ x20, δ' = [.dat (.raw (.ref sa)), .dat (.raw (.ref r)), .dat (.int (n : Int)), .dat (.lst (F.map D.int)), x4, .dat (.lst ((limsN n (F.length - 1)).map tupD)), .dat (tupD L), .dat (.tup [.int (Tf F L kw), .int (Mf n F kw), .int (kw : Int)]), .dat (lowD (Tf F L kw) (Mf n F kw)), .dat (.int (la : Int)), .dat (.lst sm), x11, x12, x13, x14, .dat (bD2 (some p)), x16, x17, .dat od, .dat bd, x20, .un, .un]) ⟨_, rfl⟩ (fun i z δ' hz hj => ?_) (fun δ' hj => hN _ hj)
    obtain ⟨x20, rfl⟩ := hj
    have hz : z = .raw (.ref (He.ga K "best_limits")) ∨ z = .raw (.ref (He.ga K "best_share")) := by simpa using hz
    show dsSeq _ _ _ [.dat (.raw (.ref sa)), .dat (.raw (.ref r)), .dat (.int (n : Int)), .dat (.lst (F.map D.int)), x4, .dat (.lst ((limsN n (F.length - 1)).map tupD)), .dat (tupD L), .dat (.tup [.int (Tf F L kw), .int (Mf n F kw), .int (kw : Int)]), .dat (lowD (Tf F L kw) (Mf n F kw)), .dat (.int (la : Int)), .dat (.lst sm), x11, x12, x13, x14, .dat (bD2 (some p)), x16, x17, .dat od, .dat bd, .dat z, .un, .un]
    refine seq_gen (fun δ' => δ' = [.dat (.raw (.ref sa)), .dat (.raw (.ref r)), .dat (.int (n : Int)), .dat (.lst (F.map D.int)), x4, .dat (.lst ((limsN n (F.length - 1)).map tupD)), .dat (tupD L), .dat (.tup [.int (Tf F L kw), .int (Mf n F kw), .int (kw : Int)]), .dat (lowD (Tf F L kw) (Mf n F kw)), .dat (.int (la : Int)), .dat (.lst sm), x11, x12, x13, x14, .dat (bD2 (some p)), x16, x17, .dat od, .dat bd, .dat z, .un, .un]) (fun N2 hN2 => ?_) (fun δ' hj => ?_)
    · simp [startD, wipeD, dsRet, dsRetN, dsIf, dsSeq, dsNext, dsAsg, dsDrop, dsBreak, dsCont, dsPar, dsAug, dsFrz, dsApp, dsExt, dsPut, dsAugO, dsOwn, dsParOO, dsParDO, dsParDDO, diR3, rdRepTz, dsFrzA, dxRep, diOwn, dsRaise, deAnd, deOr, deNot, de1, de2, deB, deX, dxB, dxLst, deName, deC, deCall, deIxO, deLenO, deTup, deLst, daCons, daNil, daStar, deChain, dtChain, dtV, dtAnd, dtOr, dtNot, dtYes, deIf, deSl, doNone, doSome, rdAdd, rdSub, rdMul, rdMod, rdDiv, rdPow, rdI, rdIc, rdB, rdLt, rdLe, rdGt, rdGe, rdNeg, rdIs, rdEq, rdNe, rdIx, rdIsN, rdNotN, rdIsB, rdNotB, rdRev, rdSeats, rdCatL, rdCatT, rdRepL, rdLen, rdTuple, rdList, rxList, rdInt, rdMax2, rdMin2, dgName, dgTup, dgCons, dgNil, deRefused, rdRepr, rdNeS, rdEqL, rdNeL, rdRepT, rdIsLn, noOwn, diSeq, diEn, diZp, diR1, diR2, noX,  eqOk_int, eqOk_bl, eqOk_non, eqv_int, eqv_bl, eqv_non, atI_0, atI_1, atI_2, atI_3, qty_non, qisI_non, qisB_non, qisL_non, qisU_non, qisS_non, qisD_non, qisNon_non, qcooked_non, qseq_non, qty_bl, qisI_bl, qisB_bl, qisL_bl, qisU_bl, qisS_bl, qisD_bl, qisNon_bl, qcooked_bl, qseq_bl, qty_int, qisI_int, qisB_int, qisL_int, qisU_int, qisS_int, qisD_int, qisNon_int, qcooked_int, qseq_int, qty_str, qisI_str, qisB_str, qisL_str, qisU_str, qisS_str, qisD_str, qisNon_str, qcooked_str, qseq_str, qty_lst, qisI_lst, qisB_lst, qisL_lst, qisU_lst, qisS_lst, qisD_lst, qisNon_lst, qcooked_lst, qseq_lst, qty_tup, qisI_tup, qisB_tup, qisL_tup, qisU_tup, qisS_tup, qisD_tup, qisNon_tup, qcooked_tup, qseq_tup, qty_dct, qisI_dct, qisB_dct, qisL_dct, qisU_dct, qisS_dct, qisD_dct, qisNon_dct, qcooked_dct, qseq_dct, qix_lst, qsl_lst, qix_tup, qsl_tup, qisNon_ln, qcooked_ln, and_assoc, exists_and_left, exists_eq_left, exists_eq_left', exists_eq_right, dxLc_eq, dsFor_eq, rngD_0, rngD_eq, zipD_map, enumD_map0]
      rcases hz with rfl | rfl
      · refine .inl ⟨rfl, ?_⟩
        simp [startD, wipeD, dsRet, dsRetN, dsIf, dsSeq, dsNext, dsAsg, dsDrop, dsBreak, dsCont, dsPar, dsAug, dsFrz, dsApp, dsExt, dsPut, dsAugO, dsOwn, dsParOO, dsParDO, dsParDDO, diR3, rdRepTz, dsFrzA, dxRep, diOwn, dsRaise, deAnd, deOr, deNot, de1, de2, deB, deX, dxB, dxLst, deName, deC, deCall, deIxO, deLenO, deTup, deLst, daCons, daNil, daStar, deChain, dtChain, dtV, dtAnd, dtOr, dtNot, dtYes, deIf, deSl, doNone, doSome, rdAdd, rdSub, rdMul, rdMod, rdDiv, rdPow, rdI, rdIc, rdB, rdLt, rdLe, rdGt, rdGe, rdNeg, rdIs, rdEq, rdNe, rdIx, rdIsN, rdNotN, rdIsB, rdNotB, rdRev, rdSeats, rdCatL, rdCatT, rdRepL, rdLen, rdTuple, rdList, rxList, rdInt, rdMax2, rdMin2, dgName, dgTup, dgCons, dgNil, deRefused, rdRepr, rdNeS, rdEqL, rdNeL, rdRepT, rdIsLn, noOwn, diSeq, diEn, diZp, diR1, diR2, noX,  eqOk_int, eqOk_bl, eqOk_non, eqv_int, eqv_bl, eqv_non, atI_0, atI_1, atI_2, atI_3, qty_non, qisI_non, qisB_non, qisL_non, qisU_non, qisS_non, qisD_non, qisNon_non, qcooked_non, qseq_non, qty_bl, qisI_bl, qisB_bl, qisL_bl, qisU_bl, qisS_bl, qisD_bl, qisNon_bl, qcooked_bl, qseq_bl, qty_int, qisI_int, qisB_int, qisL_int, qisU_int, qisS_int, qisD_int, qisNon_int, qcooked_int, qseq_int, qty_str, qisI_str, qisB_str, qisL_str, qisU_str, qisS_str, qisD_str, qisNon_str, qcooked_str, qseq_str, qty_lst, qisI_lst, qisB_lst, qisL_lst, qisU_lst, qisS_lst, qisD_lst, qisNon_lst, qcooked_lst, qseq_lst, qty_tup, qisI_tup, qisB_tup, qisL_tup, qisU_tup, qisS_tup, qisD_tup, qisNon_tup, qcooked_tup, qseq_tup, qty_dct, qisI_dct, qisB_dct, qisL_dct, qisU_dct, qisS_dct, qisD_dct, qisNon_dct, qcooked_dct, qseq_dct, qix_lst, qsl_lst, qix_tup, qsl_tup, qisNon_ln, qcooked_ln, and_assoc, exists_and_left, exists_eq_left, exists_eq_left', exists_eq_right, dxLc_eq, dsFor_eq, rngD_0, rngD_eq, zipD_map, enumD_map0]
        refine ⟨od, .non, rfl, od1, rfl, fares_badN od3 ⟨"n", lkN, ?_⟩⟩
        simp [rkN od2]
        exact hN2 _ rfl
      · refine .inr ⟨rfl, ?_⟩
        simp [startD, wipeD, dsRet, dsRetN, dsIf, dsSeq, dsNext, dsAsg, dsDrop, dsBreak, dsCont, dsPar, dsAug, dsFrz, dsApp, dsExt, dsPut, dsAugO, dsOwn, dsParOO, dsParDO, dsParDDO, diR3, rdRepTz, dsFrzA, dxRep, diOwn, dsRaise, deAnd, deOr, deNot, de1, de2, deB, deX, dxB, dxLst, deName, deC, deCall, deIxO, deLenO, deTup, deLst, daCons, daNil, daStar, deChain, dtChain, dtV, dtAnd, dtOr, dtNot, dtYes, deIf, deSl, doNone, doSome, rdAdd, rdSub, rdMul, rdMod, rdDiv, rdPow, rdI, rdIc, rdB, rdLt, rdLe, rdGt, rdGe, rdNeg, rdIs, rdEq, rdNe, rdIx, rdIsN, rdNotN, rdIsB, rdNotB, rdRev, rdSeats, rdCatL, rdCatT, rdRepL, rdLen, rdTuple, rdList, rxList, rdInt, rdMax2, rdMin2, dgName, dgTup, dgCons, dgNil, deRefused, rdRepr, rdNeS, rdEqL, rdNeL, rdRepT, rdIsLn, noOwn, diSeq, diEn, diZp, diR1, diR2, noX,  eqOk_int, eqOk_bl, eqOk_non, eqv_int, eqv_bl, eqv_non, atI_0, atI_1, atI_2, atI_3, qty_non, qisI_non, qisB_non, qisL_non, qisU_non, qisS_non, qisD_non, qisNon_non, qcooked_non, qseq_non, qty_bl, qisI_bl, qisB_bl, qisL_bl, qisU_bl, qisS_bl, qisD_bl, qisNon_bl, qcooked_bl, qseq_bl, qty_int, qisI_int, qisB_int, qisL_int, qisU_int, qisS_int, qisD_int, qisNon_int, qcooked_int, qseq_int, qty_str, qisI_str, qisB_str, qisL_str, qisU_str, qisS_str, qisD_str, qisNon_str, qcooked_str, qseq_str, qty_lst, qisI_lst, qisB_lst, qisL_lst, qisU_lst, qisS_lst, qisD_lst, qisNon_lst, qcooked_lst, qseq_lst, qty_tup, qisI_tup, qisB_tup, qisL_tup, qisU_tup, qisS_tup, qisD_tup, qisNon_tup, qcooked_tup, qseq_tup, qty_dct, qisI_dct, qisB_dct, qisL_dct, qisU_dct, qisS_dct, qisD_dct, qisNon_dct, qcooked_dct, qseq_dct, qix_lst, qsl_lst, qix_tup, qsl_tup, qisNon_ln, qcooked_ln, and_assoc, exists_and_left, exists_eq_left, exists_eq_left', exists_eq_right, dxLc_eq, dsFor_eq, rngD_0, rngD_eq, zipD_map, enumD_map0]
        refine ⟨od, .non, rfl, od1, rfl, fares_badN od3 ⟨"n", lkN, ?_⟩⟩
        simp [rkN od2]
        exact hN2 _ rfl
    subst hj
    simp [startD, wipeD, dsRet, dsRetN, dsIf, dsSeq, dsNext, dsAsg, dsDrop, dsBreak, dsCont, dsPar, dsAug, dsFrz, dsApp, dsExt, dsPut, dsAugO, dsOwn, dsParOO, dsParDO, dsParDDO, diR3, rdRepTz, dsFrzA, dxRep, diOwn, dsRaise, deAnd, deOr, deNot, de1, de2, deB, deX, dxB, dxLst, deName, deC, deCall, deIxO, deLenO, deTup, deLst, daCons, daNil, daStar, deChain, dtChain, dtV, dtAnd, dtOr, dtNot, dtYes, deIf, deSl, doNone, doSome, rdAdd, rdSub, rdMul, rdMod, rdDiv, rdPow, rdI, rdIc, rdB, rdLt, rdLe, rdGt, rdGe, rdNeg, rdIs, rdEq, rdNe, rdIx, rdIsN, rdNotN, rdIsB, rdNotB, rdRev, rdSeats, rdCatL, rdCatT, rdRepL, rdLen, rdTuple, rdList, rxList, rdInt, rdMax2, rdMin2, dgName, dgTup, dgCons, dgNil, deRefused, rdRepr, rdNeS, rdEqL, rdNeL, rdRepT, rdIsLn, noOwn, diSeq, diEn, diZp, diR1, diR2, noX,  eqOk_int, eqOk_bl, eqOk_non, eqv_int, eqv_bl, eqv_non, atI_0, atI_1, atI_2, atI_3, qty_non, qisI_non, qisB_non, qisL_non, qisU_non, qisS_non, qisD_non, qisNon_non, qcooked_non, qseq_non, qty_bl, qisI_bl, qisB_bl, qisL_bl, qisU_bl, qisS_bl, qisD_bl, qisNon_bl, qcooked_bl, qseq_bl, qty_int, qisI_int, qisB_int, qisL_int, qisU_int, qisS_int, qisD_int, qisNon_int, qcooked_int, qseq_int, qty_str, qisI_str, qisB_str, qisL_str, qisU_str, qisS_str, qisD_str, qisNon_str, qcooked_str, qseq_str, qty_lst, qisI_lst, qisB_lst, qisL_lst, qisU_lst, qisS_lst, qisD_lst, qisNon_lst, qcooked_lst, qseq_lst, qty_tup, qisI_tup, qisB_tup, qisL_tup, qisU_tup, qisS_tup, qisD_tup, qisNon_tup, qcooked_tup, qseq_tup, qty_dct, qisI_dct, qisB_dct, qisL_dct, qisU_dct, qisS_dct, qisD_dct, qisNon_dct, qcooked_dct, qseq_dct, qix_lst, qsl_lst, qix_tup, qsl_tup, qisNon_ln, qcooked_ln, and_assoc, exists_and_left, exists_eq_left, exists_eq_left', exists_eq_right, dxLc_eq, dsFor_eq, rngD_0, rngD_eq, zipD_map, enumD_map0]
    rcases hz with rfl | rfl
    · refine .inl ⟨rfl, ?_⟩
      simp [startD, wipeD, dsRet, dsRetN, dsIf, dsSeq, dsNext, dsAsg, dsDrop, dsBreak, dsCont, dsPar, dsAug, dsFrz, dsApp, dsExt, dsPut, dsAugO, dsOwn, dsParOO, dsParDO, dsParDDO, diR3, rdRepTz, dsFrzA, dxRep, diOwn, dsRaise, deAnd, deOr, deNot, de1, de2, deB, deX, dxB, dxLst, deName, deC, deCall, deIxO, deLenO, deTup, deLst, daCons, daNil, daStar, deChain, dtChain, dtV, dtAnd, dtOr, dtNot, dtYes, deIf, deSl, doNone, doSome, rdAdd, rdSub, rdMul, rdMod, rdDiv, rdPow, rdI, rdIc, rdB, rdLt, rdLe, rdGt, rdGe, rdNeg, rdIs, rdEq, rdNe, rdIx, rdIsN, rdNotN, rdIsB, rdNotB, rdRev, rdSeats, rdCatL, rdCatT, rdRepL, rdLen, rdTuple, rdList, rxList, rdInt, rdMax2, rdMin2, dgName, dgTup, dgCons, dgNil, deRefused, rdRepr, rdNeS, rdEqL, rdNeL, rdRepT, rdIsLn, noOwn, diSeq, diEn, diZp, diR1, diR2, noX,  eqOk_int, eqOk_bl, eqOk_non, eqv_int, eqv_bl, eqv_non, atI_0, atI_1, atI_2, atI_3, qty_non, qisI_non, qisB_non, qisL_non, qisU_non, qisS_non, qisD_non, qisNon_non, qcooked_non, qseq_non, qty_bl, qisI_bl, qisB_bl, qisL_bl, qisU_bl, qisS_bl, qisD_bl, qisNon_bl, qcooked_bl, qseq_bl, qty_int, qisI_int, qisB_int, qisL_int, qisU_int, qisS_int, qisD_int, qisNon_int, qcooked_int, qseq_int, qty_str, qisI_str, qisB_str, qisL_str, qisU_str, qisS_str, qisD_str, qisNon_str, qcooked_str, qseq_str, qty_lst, qisI_lst, qisB_lst, qisL_lst, qisU_lst, qisS_lst, qisD_lst, qisNon_lst, qcooked_lst, qseq_lst, qty_tup, qisI_tup, qisB_tup, qisL_tup, qisU_tup, qisS_tup, qisD_tup, qisNon_tup, qcooked_tup, qseq_tup, qty_dct, qisI_dct, qisB_dct, qisL_dct, qisU_dct, qisS_dct, qisD_dct, qisNon_dct, qcooked_dct, qseq_dct, qix_lst, qsl_lst, qix_tup, qsl_tup, qisNon_ln, qcooked_ln, and_assoc, exists_and_left, exists_eq_left, exists_eq_left', exists_eq_right, dxLc_eq, dsFor_eq, rngD_0, rngD_eq, zipD_map, enumD_map0]
      refine ⟨.int (n : Int), bd, rfl, rfl, bd1, fares_badF okn bd3 ⟨"fares", lkF, ?_⟩⟩
      simp [rkF bd2]
    · refine .inr ⟨rfl, ?_⟩
      simp [startD, wipeD, dsRet, dsRetN, dsIf, dsSeq, dsNext, dsAsg, dsDrop, dsBreak, dsCont, dsPar, dsAug, dsFrz, dsApp, dsExt, dsPut, dsAugO, dsOwn, dsParOO, dsParDO, dsParDDO, diR3, rdRepTz, dsFrzA, dxRep, diOwn, dsRaise, deAnd, deOr, deNot, de1, de2, deB, deX, dxB, dxLst, deName, deC, deCall, deIxO, deLenO, deTup, deLst, daCons, daNil, daStar, deChain, dtChain, dtV, dtAnd, dtOr, dtNot, dtYes, deIf, deSl, doNone, doSome, rdAdd, rdSub, rdMul, rdMod, rdDiv, rdPow, rdI, rdIc, rdB, rdLt, rdLe, rdGt, rdGe, rdNeg, rdIs, rdEq, rdNe, rdIx, rdIsN, rdNotN, rdIsB, rdNotB, rdRev, rdSeats, rdCatL, rdCatT, rdRepL, rdLen, rdTuple, rdList, rxList, rdInt, rdMax2, rdMin2, dgName, dgTup, dgCons, dgNil, deRefused, rdRepr, rdNeS, rdEqL, rdNeL, rdRepT, rdIsLn, noOwn, diSeq, diEn, diZp, diR1, diR2, noX,  eqOk_int, eqOk_bl, eqOk_non, eqv_int, eqv_bl, eqv_non, atI_0, atI_1, atI_2, atI_3, qty_non, qisI_non, qisB_non, qisL_non, qisU_non, qisS_non, qisD_non, qisNon_non, qcooked_non, qseq_non, qty_bl, qisI_bl, qisB_bl, qisL_bl, qisU_bl, qisS_bl, qisD_bl, qisNon_bl, qcooked_bl, qseq_bl, qty_int, qisI_int, qisB_int, qisL_int, qisU_int, qisS_int, qisD_int, qisNon_int, qcooked_int, qseq_int, qty_str, qisI_str, qisB_str, qisL_str, qisU_str, qisS_str, qisD_str, qisNon_str, qcooked_str, qseq_str, qty_lst, qisI_lst, qisB_lst, qisL_lst, qisU_lst, qisS_lst, qisD_lst, qisNon_lst, qcooked_lst, qseq_lst, qty_tup, qisI_tup, qisB_tup, qisL_tup, qisU_tup, qisS_tup, qisD_tup, qisNon_tup, qcooked_tup, qseq_tup, qty_dct, qisI_dct, qisB_dct, qisL_dct, qisU_dct, qisS_dct, qisD_dct, qisNon_dct, qcooked_dct, qseq_dct, qix_lst, qsl_lst, qix_tup, qsl_tup, qisNon_ln, qcooked_ln, and_assoc, exists_and_left, exists_eq_left, exists_eq_left', exists_eq_right, dxLc_eq, dsFor_eq, rngD_0, rngD_eq, zipD_map, enumD_map0]
      refine ⟨.int (n : Int), bd, rfl, rfl, bd1, fares_badF okn bd3 ⟨"fares", lkF, ?_⟩⟩
      simp [rkF bd2]
  obtain ⟨x20, rfl⟩ := hj
  -- wrong
  refine seq_gen (fun δ' => ∃ wr : D, (wr.okv = true ∧ wr.rok 1 = true ∧ okL (.int (n : Int)) F.length wr = false) ∧ δ' = [.dat (.raw (.ref sa)), .dat (.raw (.ref r)), .dat (.int (n : Int)), .dat (.lst (F.map D.int)), x4, .dat (.lst ((limsN n (F.length - 1)).map tupD)), .dat (tupD L), .dat (.tup [.int (Tf F L kw), .int (Mf n F kw), .int (kw : Int)]), .dat (lowD (Tf F L kw) (Mf n F kw)), .dat (.int (la : Int)), .dat (.lst sm), x11, x12, x13, x14, .dat (bD2 (some p)), x16, x17, .dat od, .dat bd, x20, .dat wr, .un]) (fun N hN => ?_) (fun δ' hj => ?_)
  · have hcut : cut (L.map D.int) (some 1) none = (L.drop 1).map D.int := by rw [cut_1, List.map_drop]
    have er1 : repD ((F.length : Int) - 1) [D.int (n : Int)] = List.replicate (F.length - 1) (D.int (n : Int)) := by rw [show (F.length : Int) - 1 = ((F.length - 1 : Nat) : Int) by omega, rep1]
    have hB : ∀ m ∈ L, m.natAbs < 1000000 := fun m hm => by
      have := I.lo m hm
      have := I.hi m hm
      omega
    simp [startD, wipeD, dsRet, dsRetN, dsIf, dsSeq, dsNext, dsAsg, dsDrop, dsBreak, dsCont, dsPar, dsAug, dsFrz, dsApp, dsExt, dsPut, dsAugO, dsOwn, dsParOO, dsParDO, dsParDDO, diR3, rdRepTz, dsFrzA, dxRep, diOwn, dsRaise, deAnd, deOr, deNot, de1, de2, deB, deX, dxB, dxLst, deName, deC, deCall, deIxO, deLenO, deTup, deLst, daCons, daNil, daStar, deChain, dtChain, dtV, dtAnd, dtOr, dtNot, dtYes, deIf, deSl, doNone, doSome, rdAdd, rdSub, rdMul, rdMod, rdDiv, rdPow, rdI, rdIc, rdB, rdLt, rdLe, rdGt, rdGe, rdNeg, rdIs, rdEq, rdNe, rdIx, rdIsN, rdNotN, rdIsB, rdNotB, rdRev, rdSeats, rdCatL, rdCatT, rdRepL, rdLen, rdTuple, rdList, rxList, rdInt, rdMax2, rdMin2, dgName, dgTup, dgCons, dgNil, deRefused, rdRepr, rdNeS, rdEqL, rdNeL, rdRepT, rdIsLn, noOwn, diSeq, diEn, diZp, diR1, diR2, noX,  eqOk_int, eqOk_bl, eqOk_non, eqv_int, eqv_bl, eqv_non, atI_0, atI_1, atI_2, atI_3, qty_non, qisI_non, qisB_non, qisL_non, qisU_non, qisS_non, qisD_non, qisNon_non, qcooked_non, qseq_non, qty_bl, qisI_bl, qisB_bl, qisL_bl, qisU_bl, qisS_bl, qisD_bl, qisNon_bl, qcooked_bl, qseq_bl, qty_int, qisI_int, qisB_int, qisL_int, qisU_int, qisS_int, qisD_int, qisNon_int, qcooked_int, qseq_int, qty_str, qisI_str, qisB_str, qisL_str, qisU_str, qisS_str, qisD_str, qisNon_str, qcooked_str, qseq_str, qty_lst, qisI_lst, qisB_lst, qisL_lst, qisU_lst, qisS_lst, qisD_lst, qisNon_lst, qcooked_lst, qseq_lst, qty_tup, qisI_tup, qisB_tup, qisL_tup, qisU_tup, qisS_tup, qisD_tup, qisNon_tup, qcooked_tup, qseq_tup, qty_dct, qisI_dct, qisB_dct, qisL_dct, qisU_dct, qisS_dct, qisD_dct, qisNon_dct, qcooked_dct, qseq_dct, qix_lst, qsl_lst, qix_tup, qsl_tup, qisNon_ln, qcooked_ln, and_assoc, exists_and_left, exists_eq_left, exists_eq_left', exists_eq_right, dxLc_eq, dsFor_eq, rngD_0, rngD_eq, zipD_map, enumD_map0, er1, rep1]
    refine ⟨L.map D.int, rfl, L.map D.int, rfl, by rw [List.length_map]; omega, by omega, .tup ((L.drop 1).map D.int), by rw [tupD, qsl_tup, hcut], _, rfl, by rw [List.length_map, List.length_drop]; omega, by omega, by omega, by omega, by omega, ?_⟩
    refine ⟨r, sa, _, _, rfl, hrow, rfl, by simp, by simp, fun wr hwr => ?_⟩
    refine hN _ ⟨wr, ?_, rfl⟩
    simp only [List.mem_cons, List.not_mem_nil, or_false] at hwr
    rcases hwr with rfl | rfl | rfl | rfl | rfl | rfl | rfl
    · exact ⟨rfl, rfl, rfl⟩
    · exact ⟨okv_lst okv_int, rok_lst (by omega) hB, rfl⟩
    · rw [show List.map D.int L ++ [D.int 0] = (L ++ [0]).map D.int by simp]
      refine ⟨okv_tup okv_int, rok_tup (by simp; omega) (fun m hm => ?_), okL_len (by simp; omega)⟩
      rcases List.mem_append.mp hm with hm | hm
      · exact hB m hm
      · rw [List.mem_singleton.mp hm]
        decide
    · exact ⟨okv_tup (okv_rep rfl), rok_repT (rok_int (by omega)) (by omega), okL_in (List.mem_replicate.mpr ⟨by omega, rfl⟩) (by simp [isWithin, toI]; intro _; exact decide_eq_false (by omega))⟩
    · rw [show D.int ((n : Int) - 1) :: List.map D.int (L.drop 1) = (((n : Int) - 1) :: L.drop 1).map D.int by simp]
      refine ⟨okv_tup okv_int, rok_tup (by simp; omega) (fun m hm => ?_), okL_head (by simp [toI]; omega)⟩
      rcases List.mem_cons.mp hm with rfl | hm
      · omega
      · exact hB m (List.mem_of_mem_drop hm)
    · rw [show List.replicate (F.length - 1) (D.int (n : Int)) ++ [D.int (-1)] = (List.replicate (F.length - 1) (n : Int) ++ [-1]).map D.int by simp]
      refine ⟨okv_tup okv_int, rok_tup (by simp; omega) (fun m hm => ?_), okL_in (x := .int (-1)) (by simp) rfl⟩
      rcases List.mem_append.mp hm with hm | hm
      · rw [List.eq_of_mem_replicate hm]
        omega
      · rw [List.mem_singleton.mp hm]
        decide
    · exact ⟨okv_tup (okv_rep rfl), rok_repT rfl (by omega), okL_in (List.mem_replicate.mpr ⟨by omega, rfl⟩) rfl⟩
  obtain ⟨wr, ⟨wr1, wr2, wr3⟩, rfl⟩ := hj
  refine seq_gen (fun δ' => ∃ x20, δ' = [.dat (.raw (.ref sa)), .dat (.raw (.ref r)), .dat (.int (n : Int)), .dat (.lst (F.map D.int)), x4, .dat (.lst ((limsN n (F.length - 1)).map tupD)), .dat (tupD L), .dat (.tup [.int (Tf F L kw), .int (Mf n F kw), .int (kw : Int)]), .dat (lowD (Tf F L kw) (Mf n F kw)), .dat (.int (la : Int)), .dat (.lst sm), x11, x12, x13, x14, .dat (bD2 (some p)), x16, x17, .dat od, .dat bd, x20, .dat wr, .un]) (fun N hN => ?_) (fun δ' hj => ?_)
  · simp [startD, wipeD, dsRet, dsRetN, dsIf, dsSeq, dsNext, dsAsg, dsDrop, dsBreak, dsCont, dsPar, dsAug, dsFrz, dsApp, dsExt, dsPut, dsAugO, dsOwn, dsParOO, dsParDO, dsParDDO, diR3, rdRepTz, dsFrzA, dxRep, diOwn, dsRaise, deAnd, deOr, deNot, de1, de2, deB, deX, dxB, dxLst, deName, deC, deCall, deIxO, deLenO, deTup, deLst, daCons, daNil, daStar, deChain, dtChain, dtV, dtAnd, dtOr, dtNot, dtYes, deIf, deSl, doNone, doSome, rdAdd, rdSub, rdMul, rdMod, rdDiv, rdPow, rdI, rdIc, rdB, rdLt, rdLe, rdGt, rdGe, rdNeg, rdIs, rdEq, rdNe, rdIx, rdIsN, rdNotN, rdIsB, rdNotB, rdRev, rdSeats, rdCatL, rdCatT, rdRepL, rdLen, rdTuple, rdList, rxList, rdInt, rdMax2, rdMin2, dgName, dgTup, dgCons, dgNil, deRefused, rdRepr, rdNeS, rdEqL, rdNeL, rdRepT, rdIsLn, noOwn, diSeq, diEn, diZp, diR1, diR2, noX,  eqOk_int, eqOk_bl, eqOk_non, eqv_int, eqv_bl, eqv_non, atI_0, atI_1, atI_2, atI_3, qty_non, qisI_non, qisB_non, qisL_non, qisU_non, qisS_non, qisD_non, qisNon_non, qcooked_non, qseq_non, qty_bl, qisI_bl, qisB_bl, qisL_bl, qisU_bl, qisS_bl, qisD_bl, qisNon_bl, qcooked_bl, qseq_bl, qty_int, qisI_int, qisB_int, qisL_int, qisU_int, qisS_int, qisD_int, qisNon_int, qcooked_int, qseq_int, qty_str, qisI_str, qisB_str, qisL_str, qisU_str, qisS_str, qisD_str, qisNon_str, qcooked_str, qseq_str, qty_lst, qisI_lst, qisB_lst, qisL_lst, qisU_lst, qisS_lst, qisD_lst, qisNon_lst, qcooked_lst, qseq_lst, qty_tup, qisI_tup, qisB_tup, qisL_tup, qisU_tup, qisS_tup, qisD_tup, qisNon_tup, qcooked_tup, qseq_tup, qty_dct, qisI_dct, qisB_dct, qisL_dct, qisU_dct, qisS_dct, qisD_dct, qisNon_dct, qcooked_dct, qseq_dct, qix_lst, qsl_lst, qix_tup, qsl_tup, qisNon_ln, qcooked_ln, and_assoc, exists_and_left, exists_eq_left, exists_eq_left', exists_eq_right, dxLc_eq, dsFor_eq, rngD_0, rngD_eq, zipD_map, enumD_map0]
    refine fb_id _ (fun _ δ' => ∃ x20, δ' = [.dat (.raw (.ref sa)), .dat (.raw (.ref r)), .dat (.int (n : Int)), .dat (.lst (F.map D.int)), x4, .dat (.lst ((limsN n (F.length - 1)).map tupD)), .dat (tupD L), .dat (.tup [.int (Tf F L kw), .int (Mf n F kw), .int (kw : Int)]), .dat (lowD (Tf F L kw) (Mf n F kw)), .dat (.int (la : Int)), .dat (.lst sm), x11, x12, x13, x14, .dat (bD2 (some p)), x16, x17, .dat od, .dat bd, x20, .dat wr, .un]) ⟨_, rfl⟩ (fun i z δ' hz hj => ?_) (fun δ' hj => hN _ hj)
    obtain ⟨x20, rfl⟩ := hj
    have hz : z = .raw (.ref (He.ga K "share")) ∨ z = .raw (.ref (He.ga K "worst_flood")) := by simpa using hz
    simp [startD, wipeD, dsRet, dsRetN, dsIf, dsSeq, dsNext, dsAsg, dsDrop, dsBreak, dsCont, dsPar, dsAug, dsFrz, dsApp, dsExt, dsPut, dsAugO, dsOwn, dsParOO, dsParDO, dsParDDO, diR3, rdRepTz, dsFrzA, dxRep, diOwn, dsRaise, deAnd, deOr, deNot, de1, de2, deB, deX, dxB, dxLst, deName, deC, deCall, deIxO, deLenO, deTup, deLst, daCons, daNil, daStar, deChain, dtChain, dtV, dtAnd, dtOr, dtNot, dtYes, deIf, deSl, doNone, doSome, rdAdd, rdSub, rdMul, rdMod, rdDiv, rdPow, rdI, rdIc, rdB, rdLt, rdLe, rdGt, rdGe, rdNeg, rdIs, rdEq, rdNe, rdIx, rdIsN, rdNotN, rdIsB, rdNotB, rdRev, rdSeats, rdCatL, rdCatT, rdRepL, rdLen, rdTuple, rdList, rxList, rdInt, rdMax2, rdMin2, dgName, dgTup, dgCons, dgNil, deRefused, rdRepr, rdNeS, rdEqL, rdNeL, rdRepT, rdIsLn, noOwn, diSeq, diEn, diZp, diR1, diR2, noX,  eqOk_int, eqOk_bl, eqOk_non, eqv_int, eqv_bl, eqv_non, atI_0, atI_1, atI_2, atI_3, qty_non, qisI_non, qisB_non, qisL_non, qisU_non, qisS_non, qisD_non, qisNon_non, qcooked_non, qseq_non, qty_bl, qisI_bl, qisB_bl, qisL_bl, qisU_bl, qisS_bl, qisD_bl, qisNon_bl, qcooked_bl, qseq_bl, qty_int, qisI_int, qisB_int, qisL_int, qisU_int, qisS_int, qisD_int, qisNon_int, qcooked_int, qseq_int, qty_str, qisI_str, qisB_str, qisL_str, qisU_str, qisS_str, qisD_str, qisNon_str, qcooked_str, qseq_str, qty_lst, qisI_lst, qisB_lst, qisL_lst, qisU_lst, qisS_lst, qisD_lst, qisNon_lst, qcooked_lst, qseq_lst, qty_tup, qisI_tup, qisB_tup, qisL_tup, qisU_tup, qisS_tup, qisD_tup, qisNon_tup, qcooked_tup, qseq_tup, qty_dct, qisI_dct, qisB_dct, qisL_dct, qisU_dct, qisS_dct, qisD_dct, qisNon_dct, qcooked_dct, qseq_dct, qix_lst, qsl_lst, qix_tup, qsl_tup, qisNon_ln, qcooked_ln, and_assoc, exists_and_left, exists_eq_left, exists_eq_left', exists_eq_right, dxLc_eq, dsFor_eq, rngD_0, rngD_eq, zipD_map, enumD_map0]
    rcases hz with rfl | rfl
    · refine .inl ⟨rfl, ?_⟩
      simp [startD, wipeD, dsRet, dsRetN, dsIf, dsSeq, dsNext, dsAsg, dsDrop, dsBreak, dsCont, dsPar, dsAug, dsFrz, dsApp, dsExt, dsPut, dsAugO, dsOwn, dsParOO, dsParDO, dsParDDO, diR3, rdRepTz, dsFrzA, dxRep, diOwn, dsRaise, deAnd, deOr, deNot, de1, de2, deB, deX, dxB, dxLst, deName, deC, deCall, deIxO, deLenO, deTup, deLst, daCons, daNil, daStar, deChain, dtChain, dtV, dtAnd, dtOr, dtNot, dtYes, deIf, deSl, doNone, doSome, rdAdd, rdSub, rdMul, rdMod, rdDiv, rdPow, rdI, rdIc, rdB, rdLt, rdLe, rdGt, rdGe, rdNeg, rdIs, rdEq, rdNe, rdIx, rdIsN, rdNotN, rdIsB, rdNotB, rdRev, rdSeats, rdCatL, rdCatT, rdRepL, rdLen, rdTuple, rdList, rxList, rdInt, rdMax2, rdMin2, dgName, dgTup, dgCons, dgNil, deRefused, rdRepr, rdNeS, rdEqL, rdNeL, rdRepT, rdIsLn, noOwn, diSeq, diEn, diZp, diR1, diR2, noX,  eqOk_int, eqOk_bl, eqOk_non, eqv_int, eqv_bl, eqv_non, atI_0, atI_1, atI_2, atI_3, qty_non, qisI_non, qisB_non, qisL_non, qisU_non, qisS_non, qisD_non, qisNon_non, qcooked_non, qseq_non, qty_bl, qisI_bl, qisB_bl, qisL_bl, qisU_bl, qisS_bl, qisD_bl, qisNon_bl, qcooked_bl, qseq_bl, qty_int, qisI_int, qisB_int, qisL_int, qisU_int, qisS_int, qisD_int, qisNon_int, qcooked_int, qseq_int, qty_str, qisI_str, qisB_str, qisL_str, qisU_str, qisS_str, qisD_str, qisNon_str, qcooked_str, qseq_str, qty_lst, qisI_lst, qisB_lst, qisL_lst, qisU_lst, qisS_lst, qisD_lst, qisNon_lst, qcooked_lst, qseq_lst, qty_tup, qisI_tup, qisB_tup, qisL_tup, qisU_tup, qisS_tup, qisD_tup, qisNon_tup, qcooked_tup, qseq_tup, qty_dct, qisI_dct, qisB_dct, qisL_dct, qisU_dct, qisS_dct, qisD_dct, qisNon_dct, qcooked_dct, qseq_dct, qix_lst, qsl_lst, qix_tup, qsl_tup, qisNon_ln, qcooked_ln, and_assoc, exists_and_left, exists_eq_left, exists_eq_left', exists_eq_right, dxLc_eq, dsFor_eq, rngD_0, rngD_eq, zipD_map, enumD_map0]
      refine ⟨.int (n : Int), .lst (F.map D.int), wr, rfl, rfl, okvF, wr1, fares_ok okn okf (limits_bad (by rw [lf]; exact wr3) ⟨"limits", lkLi, ?_⟩)⟩
      simp [rkL wr2]
    · refine .inr ⟨rfl, ?_⟩
      simp [startD, wipeD, dsRet, dsRetN, dsIf, dsSeq, dsNext, dsAsg, dsDrop, dsBreak, dsCont, dsPar, dsAug, dsFrz, dsApp, dsExt, dsPut, dsAugO, dsOwn, dsParOO, dsParDO, dsParDDO, diR3, rdRepTz, dsFrzA, dxRep, diOwn, dsRaise, deAnd, deOr, deNot, de1, de2, deB, deX, dxB, dxLst, deName, deC, deCall, deIxO, deLenO, deTup, deLst, daCons, daNil, daStar, deChain, dtChain, dtV, dtAnd, dtOr, dtNot, dtYes, deIf, deSl, doNone, doSome, rdAdd, rdSub, rdMul, rdMod, rdDiv, rdPow, rdI, rdIc, rdB, rdLt, rdLe, rdGt, rdGe, rdNeg, rdIs, rdEq, rdNe, rdIx, rdIsN, rdNotN, rdIsB, rdNotB, rdRev, rdSeats, rdCatL, rdCatT, rdRepL, rdLen, rdTuple, rdList, rxList, rdInt, rdMax2, rdMin2, dgName, dgTup, dgCons, dgNil, deRefused, rdRepr, rdNeS, rdEqL, rdNeL, rdRepT, rdIsLn, noOwn, diSeq, diEn, diZp, diR1, diR2, noX,  eqOk_int, eqOk_bl, eqOk_non, eqv_int, eqv_bl, eqv_non, atI_0, atI_1, atI_2, atI_3, qty_non, qisI_non, qisB_non, qisL_non, qisU_non, qisS_non, qisD_non, qisNon_non, qcooked_non, qseq_non, qty_bl, qisI_bl, qisB_bl, qisL_bl, qisU_bl, qisS_bl, qisD_bl, qisNon_bl, qcooked_bl, qseq_bl, qty_int, qisI_int, qisB_int, qisL_int, qisU_int, qisS_int, qisD_int, qisNon_int, qcooked_int, qseq_int, qty_str, qisI_str, qisB_str, qisL_str, qisU_str, qisS_str, qisD_str, qisNon_str, qcooked_str, qseq_str, qty_lst, qisI_lst, qisB_lst, qisL_lst, qisU_lst, qisS_lst, qisD_lst, qisNon_lst, qcooked_lst, qseq_lst, qty_tup, qisI_tup, qisB_tup, qisL_tup, qisU_tup, qisS_tup, qisD_tup, qisNon_tup, qcooked_tup, qseq_tup, qty_dct, qisI_dct, qisB_dct, qisL_dct, qisU_dct, qisS_dct, qisD_dct, qisNon_dct, qcooked_dct, qseq_dct, qix_lst, qsl_lst, qix_tup, qsl_tup, qisNon_ln, qcooked_ln, and_assoc, exists_and_left, exists_eq_left, exists_eq_left', exists_eq_right, dxLc_eq, dsFor_eq, rngD_0, rngD_eq, zipD_map, enumD_map0]
      refine ⟨.int (n : Int), .lst (F.map D.int), wr, rfl, rfl, okvF, wr1, fares_ok okn okf (limits_bad (by rw [lf]; exact wr3) ⟨"limits", lkLi, ?_⟩)⟩
      simp [rkL wr2]
  clear x20
  obtain ⟨x20, rfl⟩ := hj
  have eqA : ∀ i : Int, (D.tup [.str "asked", .int i]).eqOk = true := fun i => eqOk_fit (n := 1) (by rw [fit_tup]; simp [fit_int]; decide +kernel)
  have eqL : ∀ i : Int, (D.tup [.str "last", .int i]).eqOk = true := fun i => eqOk_fit (n := 1) (by rw [fit_tup]; simp [fit_int]; decide +kernel)
  -- asked 1
  refine seq_gen (fun δ' => δ' = [.dat (.raw (.ref sa)), .dat (.raw (.ref r)), .dat (.int (n : Int)), .dat (.lst (F.map D.int)), x4, .dat (.lst ((limsN n (F.length - 1)).map tupD)), .dat (tupD L), .dat (.tup [.int (Tf F L kw), .int (Mf n F kw), .int (kw : Int)]), .dat (lowD (Tf F L kw) (Mf n F kw)), .dat (.int (la : Int)), .dat (.lst sm), x11, x12, x13, x14, .dat (bD2 (some p)), x16, x17, .dat od, .dat bd, x20, .dat wr, .un]) (fun N hN => ?_) (fun δ' hj => ?_)
  · simp [startD, wipeD, dsRet, dsRetN, dsIf, dsSeq, dsNext, dsAsg, dsDrop, dsBreak, dsCont, dsPar, dsAug, dsFrz, dsApp, dsExt, dsPut, dsAugO, dsOwn, dsParOO, dsParDO, dsParDDO, diR3, rdRepTz, dsFrzA, dxRep, diOwn, dsRaise, deAnd, deOr, deNot, de1, de2, deB, deX, dxB, dxLst, deName, deC, deCall, deIxO, deLenO, deTup, deLst, daCons, daNil, daStar, deChain, dtChain, dtV, dtAnd, dtOr, dtNot, dtYes, deIf, deSl, doNone, doSome, rdAdd, rdSub, rdMul, rdMod, rdDiv, rdPow, rdI, rdIc, rdB, rdLt, rdLe, rdGt, rdGe, rdNeg, rdIs, rdEq, rdNe, rdIx, rdIsN, rdNotN, rdIsB, rdNotB, rdRev, rdSeats, rdCatL, rdCatT, rdRepL, rdLen, rdTuple, rdList, rxList, rdInt, rdMax2, rdMin2, dgName, dgTup, dgCons, dgNil, deRefused, rdRepr, rdNeS, rdEqL, rdNeL, rdRepT, rdIsLn, noOwn, diSeq, diEn, diZp, diR1, diR2, noX,  eqOk_int, eqOk_bl, eqOk_non, eqv_int, eqv_bl, eqv_non, atI_0, atI_1, atI_2, atI_3, qty_non, qisI_non, qisB_non, qisL_non, qisU_non, qisS_non, qisD_non, qisNon_non, qcooked_non, qseq_non, qty_bl, qisI_bl, qisB_bl, qisL_bl, qisU_bl, qisS_bl, qisD_bl, qisNon_bl, qcooked_bl, qseq_bl, qty_int, qisI_int, qisB_int, qisL_int, qisU_int, qisS_int, qisD_int, qisNon_int, qcooked_int, qseq_int, qty_str, qisI_str, qisB_str, qisL_str, qisU_str, qisS_str, qisD_str, qisNon_str, qcooked_str, qseq_str, qty_lst, qisI_lst, qisB_lst, qisL_lst, qisU_lst, qisS_lst, qisD_lst, qisNon_lst, qcooked_lst, qseq_lst, qty_tup, qisI_tup, qisB_tup, qisL_tup, qisU_tup, qisS_tup, qisD_tup, qisNon_tup, qcooked_tup, qseq_tup, qty_dct, qisI_dct, qisB_dct, qisL_dct, qisU_dct, qisS_dct, qisD_dct, qisNon_dct, qcooked_dct, qseq_dct, qix_lst, qsl_lst, qix_tup, qsl_tup, qisNon_ln, qcooked_ln, and_assoc, exists_and_left, exists_eq_left, exists_eq_left', exists_eq_right, dxLc_eq, dsFor_eq, rngD_0, rngD_eq, zipD_map, enumD_map0]
    refine ⟨r, sa, _, _, rfl, hrow, rfl, by simp, by simp, fun d hd => ?_⟩
    have hd2 : d.okv = true ∧ isWithin d 0 ((F.length : Int) - 1) = false := by
      simp only [List.mem_cons, List.not_mem_nil, or_false] at hd
      rcases hd with rfl | rfl | rfl | rfl
      · exact ⟨rfl, by simp [isWithin]⟩
      · exact ⟨rfl, by simp [isWithin]; omega⟩
      · exact ⟨rfl, rfl⟩
      · exact ⟨rfl, rfl⟩
    refine ⟨.int (n : Int), .lst (F.map D.int), tupD L, .lst [.int 0, d], rfl, rfl, okvF, okvL, okv_lst (fun y hy => ?_), fares_ok okn okf (limits_ok (by rw [lf]; exact okl) (asked_bad (i := 1) (by rw [lf]; exact badAsked_1 c1 hd2.2) ⟨"asked", lkA, eqA _, eqA _, D.eqv_refl (eqA _), hN _ rfl⟩))⟩
    simp only [List.mem_cons, List.not_mem_nil, or_false] at hy
    rcases hy with rfl | rfl
    · rfl
    · exact hd2.1
  subst hj
  refine seq_gen (fun δ' => δ' = [.dat (.raw (.ref sa)), .dat (.raw (.ref r)), .dat (.int (n : Int)), .dat (.lst (F.map D.int)), x4, .dat (.lst ((limsN n (F.length - 1)).map tupD)), .dat (tupD L), .dat (.tup [.int (Tf F L kw), .int (Mf n F kw), .int (kw : Int)]), .dat (lowD (Tf F L kw) (Mf n F kw)), .dat (.int (la : Int)), .dat (.lst sm), x11, x12, x13, x14, .dat (bD2 (some p)), x16, x17, .dat od, .dat bd, x20, .dat wr, .un]) (fun N hN => ?_) (fun δ' hj => ?_)
  · have e41 : repD (41 : Int) [D.int 0] = List.replicate 41 (D.int 0) := rep1 41 _
    simp [startD, wipeD, dsRet, dsRetN, dsIf, dsSeq, dsNext, dsAsg, dsDrop, dsBreak, dsCont, dsPar, dsAug, dsFrz, dsApp, dsExt, dsPut, dsAugO, dsOwn, dsParOO, dsParDO, dsParDDO, diR3, rdRepTz, dsFrzA, dxRep, diOwn, dsRaise, deAnd, deOr, deNot, de1, de2, deB, deX, dxB, dxLst, deName, deC, deCall, deIxO, deLenO, deTup, deLst, daCons, daNil, daStar, deChain, dtChain, dtV, dtAnd, dtOr, dtNot, dtYes, deIf, deSl, doNone, doSome, rdAdd, rdSub, rdMul, rdMod, rdDiv, rdPow, rdI, rdIc, rdB, rdLt, rdLe, rdGt, rdGe, rdNeg, rdIs, rdEq, rdNe, rdIx, rdIsN, rdNotN, rdIsB, rdNotB, rdRev, rdSeats, rdCatL, rdCatT, rdRepL, rdLen, rdTuple, rdList, rxList, rdInt, rdMax2, rdMin2, dgName, dgTup, dgCons, dgNil, deRefused, rdRepr, rdNeS, rdEqL, rdNeL, rdRepT, rdIsLn, noOwn, diSeq, diEn, diZp, diR1, diR2, noX,  eqOk_int, eqOk_bl, eqOk_non, eqv_int, eqv_bl, eqv_non, atI_0, atI_1, atI_2, atI_3, qty_non, qisI_non, qisB_non, qisL_non, qisU_non, qisS_non, qisD_non, qisNon_non, qcooked_non, qseq_non, qty_bl, qisI_bl, qisB_bl, qisL_bl, qisU_bl, qisS_bl, qisD_bl, qisNon_bl, qcooked_bl, qseq_bl, qty_int, qisI_int, qisB_int, qisL_int, qisU_int, qisS_int, qisD_int, qisNon_int, qcooked_int, qseq_int, qty_str, qisI_str, qisB_str, qisL_str, qisU_str, qisS_str, qisD_str, qisNon_str, qcooked_str, qseq_str, qty_lst, qisI_lst, qisB_lst, qisL_lst, qisU_lst, qisS_lst, qisD_lst, qisNon_lst, qcooked_lst, qseq_lst, qty_tup, qisI_tup, qisB_tup, qisL_tup, qisU_tup, qisS_tup, qisD_tup, qisNon_tup, qcooked_tup, qseq_tup, qty_dct, qisI_dct, qisB_dct, qisL_dct, qisU_dct, qisS_dct, qisD_dct, qisNon_dct, qcooked_dct, qseq_dct, qix_lst, qsl_lst, qix_tup, qsl_tup, qisNon_ln, qcooked_ln, and_assoc, exists_and_left, exists_eq_left, exists_eq_left', exists_eq_right, dxLc_eq, dsFor_eq, rngD_0, rngD_eq, zipD_map, enumD_map0, e41]
    refine ⟨r, sa, _, _, rfl, hrow, rfl, by simp, by simp, fun d hd => ?_⟩
    have hd2 : d.okv = true ∧ badAsked (lenD (.lst (F.map D.int))) d = some (-1) := by
      simp only [List.mem_cons, List.not_mem_nil, or_false] at hd
      rcases hd with rfl | rfl | rfl
      · exact ⟨rfl, rfl⟩
      · exact ⟨rfl, rfl⟩
      · exact ⟨rfl, rfl⟩
    exact ⟨.int (n : Int), .lst (F.map D.int), d, rfl, rfl, okvF, hd2.1, fares_ok okn okf (asked_bad hd2.2 ⟨"asked", lkA, eqA _, eqA _, D.eqv_refl (eqA _), hN _ rfl⟩)⟩
  subst hj
  simp [startD, wipeD, dsRet, dsRetN, dsIf, dsSeq, dsNext, dsAsg, dsDrop, dsBreak, dsCont, dsPar, dsAug, dsFrz, dsApp, dsExt, dsPut, dsAugO, dsOwn, dsParOO, dsParDO, dsParDDO, diR3, rdRepTz, dsFrzA, dxRep, diOwn, dsRaise, deAnd, deOr, deNot, de1, de2, deB, deX, dxB, dxLst, deName, deC, deCall, deIxO, deLenO, deTup, deLst, daCons, daNil, daStar, deChain, dtChain, dtV, dtAnd, dtOr, dtNot, dtYes, deIf, deSl, doNone, doSome, rdAdd, rdSub, rdMul, rdMod, rdDiv, rdPow, rdI, rdIc, rdB, rdLt, rdLe, rdGt, rdGe, rdNeg, rdIs, rdEq, rdNe, rdIx, rdIsN, rdNotN, rdIsB, rdNotB, rdRev, rdSeats, rdCatL, rdCatT, rdRepL, rdLen, rdTuple, rdList, rxList, rdInt, rdMax2, rdMin2, dgName, dgTup, dgCons, dgNil, deRefused, rdRepr, rdNeS, rdEqL, rdNeL, rdRepT, rdIsLn, noOwn, diSeq, diEn, diZp, diR1, diR2, noX,  eqOk_int, eqOk_bl, eqOk_non, eqv_int, eqv_bl, eqv_non, atI_0, atI_1, atI_2, atI_3, qty_non, qisI_non, qisB_non, qisL_non, qisU_non, qisS_non, qisD_non, qisNon_non, qcooked_non, qseq_non, qty_bl, qisI_bl, qisB_bl, qisL_bl, qisU_bl, qisS_bl, qisD_bl, qisNon_bl, qcooked_bl, qseq_bl, qty_int, qisI_int, qisB_int, qisL_int, qisU_int, qisS_int, qisD_int, qisNon_int, qcooked_int, qseq_int, qty_str, qisI_str, qisB_str, qisL_str, qisU_str, qisS_str, qisD_str, qisNon_str, qcooked_str, qseq_str, qty_lst, qisI_lst, qisB_lst, qisL_lst, qisU_lst, qisS_lst, qisD_lst, qisNon_lst, qcooked_lst, qseq_lst, qty_tup, qisI_tup, qisB_tup, qisL_tup, qisU_tup, qisS_tup, qisD_tup, qisNon_tup, qcooked_tup, qseq_tup, qty_dct, qisI_dct, qisB_dct, qisL_dct, qisU_dct, qisS_dct, qisD_dct, qisNon_dct, qcooked_dct, qseq_dct, qix_lst, qsl_lst, qix_tup, qsl_tup, qisNon_ln, qcooked_ln, and_assoc, exists_and_left, exists_eq_left, exists_eq_left', exists_eq_right, dxLc_eq, dsFor_eq, rngD_0, rngD_eq, zipD_map, enumD_map0]
  have hwi : isWithin (.int (F.length : Int)) 0 ((lenD (.lst (F.map D.int)) : Int) - 1) = false := by
    rw [lf]
    simp [isWithin]
    omega
  exact ⟨.int (n : Int), .lst (F.map D.int), .int (F.length : Int), rfl, rfl, okvF, rfl, fares_ok okn okf ⟨fun _ => ⟨"last", lkLa, eqL _, eqL _, D.eqv_refl (eqL _)⟩, fun z => (by rw [hwi] at z; cases z)⟩⟩
theorem run_law (T : Txt K mg) {f c Pt gR a : Addr} {fd fdR : FuncData} {ns : List Int} (F : FnP K "law" s_law f fd) (c__law_alike : Cl P w K mg base 8 "_law_alike" sp__law_alike []) (c__law_flood : Cl P w K mg base 1 "_law_flood" sp__law_flood []) (c__law_limits : Cl P w K mg base 1 "_law_limits" sp__law_limits []) (c__law_lowest : Cl P w K mg base 1 "_law_lowest" sp__law_lowest []) (c__law_pick : Cl P w K mg base 2 "_law_pick" sp__law_pick []) (c__law_rows : Cl P w K mg base 1 "_law_rows" sp__law_rows []) (c__law_sums : Cl P w K mg base 2 "_law_sums" sp__law_sums []) (c__law_taken : Cl P w K mg base 1 "_law_taken" sp__law_taken []) (c__law_took : Cl P w K mg base 1 "_law_took" sp__law_took []) (c__law_worst : Cl P w K mg base 3 "_law_worst" sp__law_worst []) (c_asked_takings : Cl P w K mg base 5 "asked_takings" sp_asked_takings []) (c_best_asked : Cl P w K mg base 4 "best_asked" sp_best_asked []) (c_best_limits : Cl P w K mg base 6 "best_limits" sp_best_limits []) (c_best_share : Cl P w K mg base 6 "best_share" sp_best_share []) (c_flood : Cl P w K mg base 4 "flood" sp_flood []) (c_share : Cl P w K mg base 5 "share" sp_share []) (c_taken : Cl P w K mg base 5 "taken" sp_taken []) (c_worst_flood : Cl P w K mg base 5 "worst_flood" sp_worst_flood [])  (FR : FnP K "_law_refused" s__law_refused gR fdR) (bR : Binds K fdR ["ask"] []) (hmR : mg "_law_refused" = some (.ref gR)) (hx : exmAll K refTab) (x_BadAsked : Er P w K mg base 1 "BadAsked") (x_BadFares : Er P w K mg base 1 "BadFares") (x_BadLast : Er P w K mg base 1 "BadLast") (x_BadLimits : Er P w K mg base 1 "BadLimits") (x_BadN : Er P w K mg base 1 "BadN")
    (TB : LamX.TabB base mg c Pt) (hcode : fd.code = .ref c) {s : Shared} {H : Hp} (e0 : Env0 P w K mg base callerA [] s H) (bt : BindsTo s fd ⟨[.ref a], []⟩ [("script", .ref a)]) (scr : SqL K H a (ns.map V.int)) (hP : H Pt = some (.tbl #[])) (only : ∀ b ps, H b = some (.tbl ps) → b = Pt) :
    codeAny (model P w) callerA (.call (.ref f) ⟨[.ref a], []⟩) (CR (L2.CX P w) [] P w H s (fun v _ => v = .bl true) E0) s := by
  have sc := sc_law
  have hr0 : Room 14 callerA := ⟨rfl, by decide, by decide⟩
  obtain ⟨oc, od, dV, kV, doc, pm, an, cdv, ct, osl, efd, lk, hcd, _, _⟩ := F.ex
  have ec : cdv = .ref c := by
    rw [efd] at hcode
    exact hcode
  subst ec
  subst efd
  refine LamX.run_ofS (N := ["script", "row", "n", "fares", "k", "every", "limits", "worst", "due", "last", "some", "asked", "took", "most", "found", "best", "one", "told", "odd", "bad", "ask", "wrong", "j"]) (ps := ["script"]) (us := [.ref a]) (vs := [.ref a]) lk hcd sc hr0 e0 bt (.cons rfl .nil) rfl (fun hr => ?_)
  refine ⟨_, pss_cons (ps_set (i := 1) sc.nd rfl (Or.inr rfl) (pe_lst (pa_cons (pv 0) (pa_cons pe_int (pa_cons pe_int (pa_cons pe_int pa_nil))))))
    (show PSs (cxLaw P w K mg base f c callerA s H) (defBody s_law).tail (fun D σ H' => ∃ (G : Gx) (t : DS), PSsd (cxLaw P w K mg base f c callerA s H) G (defBody s_law).tail t ∧ tsOf K G t D σ H') from ⟨fun pins s' σ H' D I ⟨G, t, h, z⟩ => h.run pins s' σ H' D I z⟩), ?_⟩
  refine ⟨.ref a, rfl, by show 4 ≤ sizeLine; decide, fun p hp => ?_⟩
  have pne : Pt ≠ p := fun z => by
    rw [← z, hP] at hp
    cases hp
  let B : Hp := fun b => if b = Pt then none else H b
  let H1 : Hp := upd H p (.lst [.ref a, .int 0, .int 1515, .int 0])
  let Fr : Fs := ⟨some (p, a), tabsL Pt⟩
  have eB : Evl.Ex B H1 := fun b o h => by
    have h : (if b = Pt then none else H b) = some o := h
    by_cases hb : b = Pt
    · rw [if_pos hb] at h
      cases h
    · rw [if_neg hb] at h
      have hbp : b ≠ p := fun z => by
        rw [z, hp] at h
        cases h
      show upd H p _ b = some o
      rw [upd_ne hbp]
      exact h
  have sB : SqL K B a (ns.map V.int) := by
    have keep : ∀ u, H a = some u → (∀ ps, u ≠ .tbl ps) → B a = some u := fun u h hn => by
      show (if a = Pt then none else H a) = some u
      rw [if_neg fun z => ?_]
      · exact h
      · rw [z, hP] at h
        exact hn _ (Option.some.inj h).symm
    rcases scr with (h | ⟨o, h⟩) | h
    · exact .inl (.inl (keep _ h fun _ z => by cases z))
    · exact .inl (.inr ⟨o, keep _ h fun _ z => by cases z⟩)
    · exact .inr h
  have fk : Fok K Fr B H1 := by
    refine ⟨fun r sa h => ?_, fun q hq => ?_, fun q hq => ?_, fun b ps h => ?_⟩
    · cases h
      refine ⟨?_, ⟨ns, sB⟩, 0, 1515, 0, upd_same, by decide, by decide, by decide⟩
      show (if p = Pt then none else H p) = none
      split
      · rfl
      · exact hp
    · rw [List.mem_singleton.mp hq]
      exact LamX.TabS.nil (show upd H p _ Pt = _ by rw [upd_ne pne]; exact hP)
    · rw [List.mem_singleton.mp hq]
      exact if_pos rfl
    · have h : (if b = Pt then none else H b) = some (.tbl ps) := h
      by_cases hb : b = Pt
      · rw [if_pos hb] at h
        cases h
      · rw [if_neg hb] at h
        exact hb (only b ps h)
  obtain ⟨t, ht, hread⟩ := law_data (P := P) (w := w) (K := K) (mg := mg) (base := base) (f := f) (c := c) (Pt := Pt) (gR := gR) (r := p) (sa := a) (fdR := fdR) (s0 := s) (H0 := H) T c__law_alike c__law_flood c__law_limits c__law_lowest c__law_pick c__law_rows c__law_sums c__law_taken c__law_took c__law_worst c_asked_takings c_best_asked c_best_limits c_best_share c_flood c_share c_taken c_worst_flood FR bR hmR hx x_BadAsked x_BadFares x_BadLast x_BadLimits x_BadN TB (A := callerA) rfl hr ⟨Fr, B, H1⟩ rfl rfl
  have st0 : Stt K ⟨Fr, B, H1⟩ (L2.start ["script", "row", "n", "fares", "k", "every", "limits", "worst", "due", "last", "some", "asked", "took", "most", "found", "best", "one", "told", "odd", "bad", "ask", "wrong", "j"] [.ref a]) B H1 (startD ["script", "row", "n", "fares", "k", "every", "limits", "worst", "due", "last", "some", "asked", "took", "most", "found", "best", "one", "told", "odd", "bad", "ask", "wrong", "j"] [.raw (.ref a)]) := RpA.start eB fk (.cons (.raw _) .nil)
  have st1 := st0.put (i := 1) (v := .ref p) (d := .raw (.ref p)) (.raw _)
  exact ⟨⟨Fr, B, H1⟩, t, ht, B, _, _, st1, hread, ⟨fun _ _ _ _ _ _ z => z.elim, fun v d B' H' m e r => by
    have e : d = .bl true := e
    subst e
    cases r
    rfl, fun _ _ _ _ _ _ z => z.elim, fun _ _ _ _ _ _ z => z.elim⟩⟩

end
end K15
end
-- H_15
section
set_option Elab.async false
set_option linter.all false
set_option maxRecDepth 100000
set_option maxHeartbeats 0
set_option autoImplicit false
namespace K15
open PySem PySem.Spec PyProof.Rows L2 Sd
def dd_is_integer : He.DefD := ⟨("is_integer", none), "is_integer", "is_integer", defArgs s_is_integer, defBody s_is_integer, defScope s_is_integer, [], []⟩
def dd_is_within : He.DefD := ⟨("is_within", none), "is_within", "is_within", defArgs s_is_within, defBody s_is_within, defScope s_is_within, [], []⟩
def dd_is_row : He.DefD := ⟨("is_row", none), "is_row", "is_row", defArgs s_is_row, defBody s_is_row, defScope s_is_row, [], []⟩
def dd_is_tuple_of : He.DefD := ⟨("is_tuple_of", none), "is_tuple_of", "is_tuple_of", defArgs s_is_tuple_of, defBody s_is_tuple_of, defScope s_is_tuple_of, [], []⟩
def dd_lowest : He.DefD := ⟨("lowest", none), "lowest", "lowest", defArgs s_lowest, defBody s_lowest, defScope s_lowest, [], []⟩
def dd_is_less : He.DefD := ⟨("is_less", none), "is_less", "is_less", defArgs s_is_less, defBody s_is_less, defScope s_is_less, [], []⟩
def dd_SeatError___init__ : He.DefD := ⟨("SeatError", some "__init__"), "__init__", "SeatError.__init__", defArgs s_SeatError___init__, defBody s_SeatError___init__, defScope s_SeatError___init__, [.non], []⟩
def dd_check_fares : He.DefD := ⟨("check_fares", none), "check_fares", "check_fares", defArgs s_check_fares, defBody s_check_fares, defScope s_check_fares, [], []⟩
def dd_check_limits : He.DefD := ⟨("check_limits", none), "check_limits", "check_limits", defArgs s_check_limits, defBody s_check_limits, defScope s_check_limits, [], []⟩
def dd_check_asked : He.DefD := ⟨("check_asked", none), "check_asked", "check_asked", defArgs s_check_asked, defBody s_check_asked, defScope s_check_asked, [], []⟩
def dd_told_taken : He.DefD := ⟨("told_taken", none), "told_taken", "told_taken", defArgs s_told_taken, defBody s_told_taken, defScope s_told_taken, [], []⟩
def dd_told_takings : He.DefD := ⟨("told_takings", none), "told_takings", "told_takings", defArgs s_told_takings, defBody s_told_takings, defScope s_told_takings, [], []⟩
def dd_told_most : He.DefD := ⟨("told_most", none), "told_most", "told_most", defArgs s_told_most, defBody s_told_most, defScope s_told_most, [], []⟩
def dd_taken : He.DefD := ⟨("taken", none), "taken", "taken", defArgs s_taken, defBody s_taken, defScope s_taken, [], []⟩
def dd_asked_takings : He.DefD := ⟨("asked_takings", none), "asked_takings", "asked_takings", defArgs s_asked_takings, defBody s_asked_takings, defScope s_asked_takings, [], []⟩
def dd_best_asked : He.DefD := ⟨("best_asked", none), "best_asked", "best_asked", defArgs s_best_asked, defBody s_best_asked, defScope s_best_asked, [], []⟩
def dd_told_flood : He.DefD := ⟨("told_flood", none), "told_flood", "told_flood", defArgs s_told_flood, defBody s_told_flood, defScope s_told_flood, [], []⟩
def dd_flood_share : He.DefD := ⟨("flood_share", none), "flood_share", "flood_share", defArgs s_flood_share, defBody s_flood_share, defScope s_flood_share, [], []⟩
def dd_worst_of : He.DefD := ⟨("worst_of", none), "worst_of", "worst_of", defArgs s_worst_of, defBody s_worst_of, defScope s_worst_of, [], []⟩
def dd_share : He.DefD := ⟨("share", none), "share", "share", defArgs s_share, defBody s_share, defScope s_share, [], []⟩
def dd_worst_flood : He.DefD := ⟨("worst_flood", none), "worst_flood", "worst_flood", defArgs s_worst_flood, defBody s_worst_flood, defScope s_worst_flood, [], []⟩
def dd_flood : He.DefD := ⟨("flood", none), "flood", "flood", defArgs s_flood, defBody s_flood, defScope s_flood, [], []⟩
def dd_all_limits : He.DefD := ⟨("all_limits", none), "all_limits", "all_limits", defArgs s_all_limits, defBody s_all_limits, defScope s_all_limits, [], []⟩
def dd_told_best : He.DefD := ⟨("told_best", none), "told_best", "told_best", defArgs s_told_best, defBody s_told_best, defScope s_told_best, [], []⟩
def dd_best_limits : He.DefD := ⟨("best_limits", none), "best_limits", "best_limits", defArgs s_best_limits, defBody s_best_limits, defScope s_best_limits, [], []⟩
def dd_best_share : He.DefD := ⟨("best_share", none), "best_share", "best_share", defArgs s_best_share, defBody s_best_share, defScope s_best_share, [], []⟩
def dd__law_taken : He.DefD := ⟨("_law_taken", none), "_law_taken", "_law_taken", defArgs s__law_taken, defBody s__law_taken, defScope s__law_taken, [], []⟩
def dd__law_pick : He.DefD := ⟨("_law_pick", none), "_law_pick", "_law_pick", defArgs s__law_pick, defBody s__law_pick, defScope s__law_pick, [], []⟩
def dd__law_alike : He.DefD := ⟨("_law_alike", none), "_law_alike", "_law_alike", defArgs s__law_alike, defBody s__law_alike, defScope s__law_alike, [], []⟩
def dd__law_took : He.DefD := ⟨("_law_took", none), "_law_took", "_law_took", defArgs s__law_took, defBody s__law_took, defScope s__law_took, [], []⟩
def dd__law_sums : He.DefD := ⟨("_law_sums", none), "_law_sums", "_law_sums", defArgs s__law_sums, defBody s__law_sums, defScope s__law_sums, [], []⟩
def dd__law_flood : He.DefD := ⟨("_law_flood", none), "_law_flood", "_law_flood", defArgs s__law_flood, defBody s__law_flood, defScope s__law_flood, [], []⟩
def dd__law_lowest : He.DefD := ⟨("_law_lowest", none), "_law_lowest", "_law_lowest", defArgs s__law_lowest, defBody s__law_lowest, defScope s__law_lowest, [], []⟩
def dd__law_worst : He.DefD := ⟨("_law_worst", none), "_law_worst", "_law_worst", defArgs s__law_worst, defBody s__law_worst, defScope s__law_worst, [], []⟩
def dd__law_limits : He.DefD := ⟨("_law_limits", none), "_law_limits", "_law_limits", defArgs s__law_limits, defBody s__law_limits, defScope s__law_limits, [], []⟩
def dd__law_rows : He.DefD := ⟨("_law_rows", none), "_law_rows", "_law_rows", defArgs s__law_rows, defBody s__law_rows, defScope s__law_rows, [], []⟩
def dd__law_refused : He.DefD := ⟨("_law_refused", none), "_law_refused", "_law_refused", defArgs s__law_refused, defBody s__law_refused, defScope s__law_refused, [], []⟩
def dd_law : He.DefD := ⟨("law", none), "law", "law", defArgs s_law, defBody s_law, defScope s_law, [], []⟩
def fn : List He.DefD := [dd_is_integer, dd_is_within, dd_is_row, dd_is_tuple_of, dd_lowest, dd_is_less, dd_SeatError___init__, dd_check_fares, dd_check_limits, dd_check_asked, dd_told_taken, dd_told_takings, dd_told_most, dd_taken, dd_asked_takings, dd_best_asked, dd_told_flood, dd_flood_share, dd_worst_of, dd_share, dd_worst_flood, dd_flood, dd_all_limits, dd_told_best, dd_best_limits, dd_best_share, dd__law_taken, dd__law_pick, dd__law_alike, dd__law_took] ++ [dd__law_sums, dd__law_flood, dd__law_lowest, dd__law_worst, dd__law_limits, dd__law_rows, dd__law_refused, dd_law]
def fa : List He.Fa := [.free "all", .free "bool", .free "dict", .free "enumerate", .free "int", .free "isinstance", .free "len", .free "list", .free "min", .free "range", .free "repr", .free "sorted", .free "str", .free "sum", .free "tuple", .free "zip", .int "MOST_ASKED" 40, .int "MOST_CLASSES" 4, .int "MOST_FARE" 1000, .int "MOST_N" 12, .glo "best_limits", .glo "best_share", .glo "share", .glo "worst_flood", .glo "is_integer", .glo "is_within", .glo "is_row", .glo "is_tuple_of", .glo "lowest", .glo "is_less"] ++ [.glo "check_fares", .glo "check_limits", .glo "check_asked", .glo "told_taken", .glo "told_takings", .glo "told_most", .glo "taken", .glo "asked_takings", .glo "best_asked", .glo "told_flood", .glo "flood_share", .glo "worst_of", .glo "flood", .glo "all_limits", .glo "told_best", .glo "_law_taken", .glo "_law_pick", .glo "_law_alike", .glo "_law_took", .glo "_law_sums", .glo "_law_flood", .glo "_law_lowest", .glo "_law_worst", .glo "_law_limits", .glo "_law_rows", .glo "_law_refused", .glo "law", .glo "BadAsked", .glo "BadFares", .glo "BadLast"] ++ [.glo "BadLimits", .glo "BadN"]
def tf : List He.Defn := [("law", none)]
def exmB (K : PySem.W.Frag) : Bool := refTab.all fun p => refTab.all fun q => decide (PySem.W.exmOne K (.ref (He.ga K p.1)) (.ref (He.ga K q.1)) = some (decide (p.1 = q.1)))
theorem exmB_ok {K : PySem.W.Frag} (h : exmB K = true) : exmAll K refTab := fun p hp q hq => of_decide_eq_true (List.all_eq_true.mp (List.all_eq_true.mp h p hp) q hq)
def ex (K : PySem.W.Frag) : Bool := errB K "BadAsked" && errB K "BadFares" && errB K "BadLast" && errB K "BadLimits" && errB K "BadN" && (true && exmB K)
abbrev R : PySem.W.OpenRow := PySem.W.OpenLaw.row PySem.Challenge.rw_seatsold_k15_whole_shares_of_limits
abbrev hk : PySem.W.Hook := He.hookX 5 fa fn [] tf ex
def ob (s : PySem.W.SharedT) : He.AlX := He.obsX 5 fa fn [] tf ex (HandSHeadRun.getT s)
theorem ob_eq (s : PySem.W.SharedT) : ob s = hk.obs s.abs := He.obsX_eq (HandSHeadRun.getT_eq s)
def n1 : List Str := ["is_integer", "is_within", "is_row", "is_tuple_of", "lowest", "is_less", "SeatError", "BadN", "BadFares", "BadLimits", "BadAsked", "BadLast", "MOST_N", "MOST_CLASSES", "MOST_FARE", "MOST_ASKED", "check_fares", "check_limits", "check_asked", "told_taken", "told_takings"]
def n2 : List Str := ["told_most", "taken", "asked_takings", "best_asked", "told_flood", "flood_share", "worst_of", "share", "worst_flood", "flood", "all_limits", "told_best", "best_limits", "best_share", "_law_taken", "_law_pick", "_law_alike", "_law_took", "_law_sums", "_law_flood", "_law_lowest"]
def n3 : List Str := ["_law_worst", "_law_limits", "_law_rows", "_law_refused", "__name__"]
theorem run (w : World) : HandSHeadRun.RunEq R (PySem.W.view R.prog [51]) hk ob 4000 (n1 ++ n2 ++ n3) w := by
  intro os
  kernel_rfl
theorem txt_ok {K : PySem.W.Frag} {h : Heap} {mg : Str → Option Value} (X : K.In h) (G : h.Ns mainGlobals mg) (c : He.SaysD fa fn K) (m : ex K = true) : Txt K mg where
  b_all := He.free_ok X G (c.fact 0 (f := .free "all") rfl)
  b_bool := He.free_ok X G (c.fact 1 (f := .free "bool") rfl)
  b_dict := He.free_ok X G (c.fact 2 (f := .free "dict") rfl)
  b_enumerate := He.free_ok X G (c.fact 3 (f := .free "enumerate") rfl)
  b_int := He.free_ok X G (c.fact 4 (f := .free "int") rfl)
  b_isinstance := He.free_ok X G (c.fact 5 (f := .free "isinstance") rfl)
  b_len := He.free_ok X G (c.fact 6 (f := .free "len") rfl)
  b_list := He.free_ok X G (c.fact 7 (f := .free "list") rfl)
  b_min := He.free_ok X G (c.fact 8 (f := .free "min") rfl)
  b_range := He.free_ok X G (c.fact 9 (f := .free "range") rfl)
  b_repr := He.free_ok X G (c.fact 10 (f := .free "repr") rfl)
  b_sorted := He.free_ok X G (c.fact 11 (f := .free "sorted") rfl)
  b_str := He.free_ok X G (c.fact 12 (f := .free "str") rfl)
  b_sum := He.free_ok X G (c.fact 13 (f := .free "sum") rfl)
  b_tuple := He.free_ok X G (c.fact 14 (f := .free "tuple") rfl)
  b_zip := He.free_ok X G (c.fact 15 (f := .free "zip") rfl)
  c_MOST_ASKED := He.int_ok X G (c.fact 16 (f := .int "MOST_ASKED" 40) rfl)
  c_MOST_CLASSES := He.int_ok X G (c.fact 17 (f := .int "MOST_CLASSES" 4) rfl)
  c_MOST_FARE := He.int_ok X G (c.fact 18 (f := .int "MOST_FARE" 1000) rfl)
  c_MOST_N := He.int_ok X G (c.fact 19 (f := .int "MOST_N" 12) rfl)
  g_best_limits := He.glo_ok X G (c.fact 20 (f := .glo "best_limits") rfl)
  g_best_share := He.glo_ok X G (c.fact 21 (f := .glo "best_share") rfl)
  g_share := He.glo_ok X G (c.fact 22 (f := .glo "share") rfl)
  g_worst_flood := He.glo_ok X G (c.fact 23 (f := .glo "worst_flood") rfl)
theorem errs_ok {K : PySem.W.Frag} (m : ex K = true) : (ErrF K "BadAsked" ∧ ErrF K "BadFares" ∧ ErrF K "BadLast" ∧ ErrF K "BadLimits" ∧ ErrF K "BadN") ∧ exmAll K refTab := by
  unfold ex at m
  simp only [Bool.and_eq_true] at m
  obtain ⟨m, _, m2⟩ := m
  obtain ⟨⟨⟨⟨e0, e1⟩, e2⟩, e3⟩, e4⟩ := m
  exact ⟨⟨errB_ok e0, errB_ok e1, errB_ok e2, errB_ok e3, errB_ok e4⟩, exmB_ok m2⟩
theorem at_law {P : Program} {w : World} {K : PySem.W.Frag} {mg : Str → Option Value} {s1 : Shared} {a : Addr} {ns : List Int} {base : Heap} {H : Hp} (A : AtCall P w K mg [He.cT K ("law", none)] s1 a ns base H) (c : He.SaysD fa fn K) (m : ex K = true) :
    codeAny (model P w) callerA (.call (.ref (He.ga K "law")) ⟨[.ref a], []⟩) (CR (L2.CX P w) [] P w H s1 (fun v _ => v = .bl true) E0) s1 := by
  have X := A.kin
  have G := A.glo
  have T := txt_ok X G c m
  obtain ⟨⟨er0, er1, er2, er3, er4⟩, hx⟩ := errs_ok m
  obtain ⟨fd_SeatError___init__, F_SeatError___init__⟩ : ∃ fd, FunD K "__init__" "SeatError.__init__" (defArgs s_SeatError___init__) (defBody s_SeatError___init__) (defScope s_SeatError___init__) [.non] [] (He.fAd K ("SeatError", some "__init__")) fd := c.def_ 6 (d := dd_SeatError___init__) rfl
  obtain ⟨d0, v0, b0⟩ := F_SeatError___init__.binds1 (ps := ["self", "value"]) 2 1 (by simp) rfl (fun _ _ _ _ _ _ _ us its h1 h2 => match us, its, h1, h2 with | [_, _], [_], _, _ => ⟨_, rfl, rfl⟩)
  obtain ⟨d1, v1, b1⟩ := F_SeatError___init__.binds1 (ps := ["self", "value"]) 1 0 (by simp) rfl (fun _ _ _ _ _ _ _ us its h1 h2 => match us, its, h1, h2 with | [_], [_], _, _ => ⟨_, rfl, rfl⟩)
  cases v0
  obtain ⟨u1, rfl, r1⟩ := vals1 v1
  cases r1
  have x_BadAsked : Er P w K mg base 1 "BadAsked" := ⟨er0, He.glo_ok X G (c.fact 57 (f := .glo "BadAsked") rfl), fd_SeatError___init__, [], ok_SeatError_init F_SeatError___init__, b0, b1⟩
  have x_BadFares : Er P w K mg base 1 "BadFares" := ⟨er1, He.glo_ok X G (c.fact 58 (f := .glo "BadFares") rfl), fd_SeatError___init__, [], ok_SeatError_init F_SeatError___init__, b0, b1⟩
  have x_BadLast : Er P w K mg base 1 "BadLast" := ⟨er2, He.glo_ok X G (c.fact 59 (f := .glo "BadLast") rfl), fd_SeatError___init__, [], ok_SeatError_init F_SeatError___init__, b0, b1⟩
  have x_BadLimits : Er P w K mg base 1 "BadLimits" := ⟨er3, He.glo_ok X G (c.fact 60 (f := .glo "BadLimits") rfl), fd_SeatError___init__, [], ok_SeatError_init F_SeatError___init__, b0, b1⟩
  have x_BadN : Er P w K mg base 1 "BadN" := ⟨er4, He.glo_ok X G (c.fact 61 (f := .glo "BadN") rfl), fd_SeatError___init__, [], ok_SeatError_init F_SeatError___init__, b0, b1⟩
  obtain ⟨fd_is_integer, F_is_integer⟩ : ∃ fd, FnP K "is_integer" s_is_integer (He.ga K "is_integer") fd := c.def_ 0 (d := dd_is_integer) rfl
  have b_is_integer : Binds K fd_is_integer ["thing"] [] := F_is_integer.bindsN fun _ _ _ _ _ _ us hl => match us, hl with | [_], _ => rfl
  have c_is_integer : Sd.Cl P w K mg base 1 "is_integer" sp_is_integer [] := Cl.mk' F_is_integer (ok_is_integer T F_is_integer  ) (He.glo_ok X G (c.fact 24 (f := .glo "is_integer") rfl)) b_is_integer
  obtain ⟨fd_is_within, F_is_within⟩ : ∃ fd, FnP K "is_within" s_is_within (He.ga K "is_within") fd := c.def_ 1 (d := dd_is_within) rfl
  have b_is_within : Binds K fd_is_within ["thing", "least", "most"] [] := F_is_within.bindsN fun _ _ _ _ _ _ us hl => match us, hl with | [_, _, _], _ => rfl
  have c_is_within : Sd.Cl P w K mg base 2 "is_within" sp_is_within [] := Cl.mk' F_is_within (ok_is_within T F_is_within (c_is_integer := c_is_integer) ) (He.glo_ok X G (c.fact 25 (f := .glo "is_within") rfl)) b_is_within
  obtain ⟨fd_is_row, F_is_row⟩ : ∃ fd, FnP K "is_row" s_is_row (He.ga K "is_row") fd := c.def_ 2 (d := dd_is_row) rfl
  have b_is_row : Binds K fd_is_row ["thing"] [] := F_is_row.bindsN fun _ _ _ _ _ _ us hl => match us, hl with | [_], _ => rfl
  have c_is_row : Sd.Cl P w K mg base 1 "is_row" sp_is_row [] := Cl.mk' F_is_row (ok_is_row T F_is_row  ) (He.glo_ok X G (c.fact 26 (f := .glo "is_row") rfl)) b_is_row
  obtain ⟨fd_is_tuple_of, F_is_tuple_of⟩ : ∃ fd, FnP K "is_tuple_of" s_is_tuple_of (He.ga K "is_tuple_of") fd := c.def_ 3 (d := dd_is_tuple_of) rfl
  have b_is_tuple_of : Binds K fd_is_tuple_of ["thing", "many"] [] := F_is_tuple_of.bindsN fun _ _ _ _ _ _ us hl => match us, hl with | [_, _], _ => rfl
  have c_is_tuple_of : Sd.Cl P w K mg base 1 "is_tuple_of" sp_is_tuple_of [] := Cl.mk' F_is_tuple_of (ok_is_tuple_of T F_is_tuple_of  ) (He.glo_ok X G (c.fact 27 (f := .glo "is_tuple_of") rfl)) b_is_tuple_of
  obtain ⟨fd_lowest, F_lowest⟩ : ∃ fd, FnP K "lowest" s_lowest (He.ga K "lowest") fd := c.def_ 4 (d := dd_lowest) rfl
  have b_lowest : Binds K fd_lowest ["top", "bottom"] [] := F_lowest.bindsN fun _ _ _ _ _ _ us hl => match us, hl with | [_, _], _ => rfl
  have c_lowest : Sd.Cl P w K mg base 1 "lowest" sp_lowest [] := Cl.mk' F_lowest (ok_lowest T F_lowest  ) (He.glo_ok X G (c.fact 28 (f := .glo "lowest") rfl)) b_lowest
  obtain ⟨fd_is_less, F_is_less⟩ : ∃ fd, FnP K "is_less" s_is_less (He.ga K "is_less") fd := c.def_ 5 (d := dd_is_less) rfl
  have b_is_less : Binds K fd_is_less ["one", "other"] [] := F_is_less.bindsN fun _ _ _ _ _ _ us hl => match us, hl with | [_, _], _ => rfl
  have c_is_less : Sd.Cl P w K mg base 1 "is_less" sp_is_less [] := Cl.mk' F_is_less (ok_is_less T F_is_less  ) (He.glo_ok X G (c.fact 29 (f := .glo "is_less") rfl)) b_is_less
  obtain ⟨fd_check_fares, F_check_fares⟩ : ∃ fd, FnP K "check_fares" s_check_fares (He.ga K "check_fares") fd := c.def_ 7 (d := dd_check_fares) rfl
  have b_check_fares : Binds K fd_check_fares ["n", "fares"] [] := F_check_fares.bindsN fun _ _ _ _ _ _ us hl => match us, hl with | [_, _], _ => rfl
  have c_check_fares : Sd.Cl P w K mg base 3 "check_fares" sp_check_fares [] := Cl.mk' F_check_fares (ok_check_fares T F_check_fares (c_is_row := c_is_row) (c_is_within := c_is_within) (x_BadFares := x_BadFares) (x_BadN := x_BadN)) (He.glo_ok X G (c.fact 30 (f := .glo "check_fares") rfl)) b_check_fares
  obtain ⟨fd_check_limits, F_check_limits⟩ : ∃ fd, FnP K "check_limits" s_check_limits (He.ga K "check_limits") fd := c.def_ 8 (d := dd_check_limits) rfl
  have b_check_limits : Binds K fd_check_limits ["n", "fares", "limits"] [] := F_check_limits.bindsN fun _ _ _ _ _ _ us hl => match us, hl with | [_, _, _], _ => rfl
  have c_check_limits : Sd.Cl P w K mg base 4 "check_limits" sp_check_limits [] := Cl.mk' F_check_limits (ok_check_limits T F_check_limits (c_check_fares := c_check_fares) (c_is_tuple_of := c_is_tuple_of) (c_is_within := c_is_within) (x_BadLimits := x_BadLimits)) (He.glo_ok X G (c.fact 31 (f := .glo "check_limits") rfl)) b_check_limits
  obtain ⟨fd_check_asked, F_check_asked⟩ : ∃ fd, FnP K "check_asked" s_check_asked (He.ga K "check_asked") fd := c.def_ 9 (d := dd_check_asked) rfl
  have b_check_asked : Binds K fd_check_asked ["fares", "asked"] [] := F_check_asked.bindsN fun _ _ _ _ _ _ us hl => match us, hl with | [_, _], _ => rfl
  have c_check_asked : Sd.Cl P w K mg base 3 "check_asked" sp_check_asked [] := Cl.mk' F_check_asked (ok_check_asked T F_check_asked (c_is_row := c_is_row) (c_is_within := c_is_within) (x_BadAsked := x_BadAsked)) (He.glo_ok X G (c.fact 32 (f := .glo "check_asked") rfl)) b_check_asked
  obtain ⟨fd_told_taken, F_told_taken⟩ : ∃ fd, FnP K "told_taken" s_told_taken (He.ga K "told_taken") fd := c.def_ 10 (d := dd_told_taken) rfl
  have b_told_taken : Binds K fd_told_taken ["limits", "asked"] [] := F_told_taken.bindsN fun _ _ _ _ _ _ us hl => match us, hl with | [_, _], _ => rfl
  have c_told_taken : Sd.Cl P w K mg base 1 "told_taken" sp_told_taken [] := Cl.mk' F_told_taken (ok_told_taken T F_told_taken  ) (He.glo_ok X G (c.fact 33 (f := .glo "told_taken") rfl)) b_told_taken
  obtain ⟨fd_told_takings, F_told_takings⟩ : ∃ fd, FnP K "told_takings" s_told_takings (He.ga K "told_takings") fd := c.def_ 11 (d := dd_told_takings) rfl
  have b_told_takings : Binds K fd_told_takings ["fares", "limits", "asked"] [] := F_told_takings.bindsN fun _ _ _ _ _ _ us hl => match us, hl with | [_, _, _], _ => rfl
  have c_told_takings : Sd.Cl P w K mg base 2 "told_takings" sp_told_takingsL [] := Cl.mk' F_told_takings (ok_told_takings T F_told_takings (c_told_taken := c_told_taken) ) (He.glo_ok X G (c.fact 34 (f := .glo "told_takings") rfl)) b_told_takings
  obtain ⟨fd_told_most, F_told_most⟩ : ∃ fd, FnP K "told_most" s_told_most (He.ga K "told_most") fd := c.def_ 12 (d := dd_told_most) rfl
  have b_told_most : Binds K fd_told_most ["n", "fares", "asked"] [] := F_told_most.bindsN fun _ _ _ _ _ _ us hl => match us, hl with | [_, _, _], _ => rfl
  have c_told_most : Sd.Cl P w K mg base 1 "told_most" sp_told_most [] := Cl.mk' F_told_most (ok_told_most T F_told_most  ) (He.glo_ok X G (c.fact 35 (f := .glo "told_most") rfl)) b_told_most
  obtain ⟨fd_taken, F_taken⟩ : ∃ fd, FnP K "taken" s_taken (He.ga K "taken") fd := c.def_ 13 (d := dd_taken) rfl
  have b_taken : Binds K fd_taken ["n", "fares", "limits", "asked"] [] := F_taken.bindsN fun _ _ _ _ _ _ us hl => match us, hl with | [_, _, _, _], _ => rfl
  have c_taken : Sd.Cl P w K mg base 5 "taken" sp_taken [] := Cl.mk' F_taken (ok_taken T F_taken (c_check_asked := c_check_asked) (c_check_limits := c_check_limits) (c_told_taken := c_told_taken) ) (He.glo_ok X G (c.fact 36 (f := .glo "taken") rfl)) b_taken
  obtain ⟨fd_asked_takings, F_asked_takings⟩ : ∃ fd, FnP K "asked_takings" s_asked_takings (He.ga K "asked_takings") fd := c.def_ 14 (d := dd_asked_takings) rfl
  have b_asked_takings : Binds K fd_asked_takings ["n", "fares", "limits", "asked"] [] := F_asked_takings.bindsN fun _ _ _ _ _ _ us hl => match us, hl with | [_, _, _, _], _ => rfl
  have c_asked_takings : Sd.Cl P w K mg base 5 "asked_takings" sp_asked_takings [] := Cl.mk' F_asked_takings (ok_asked_takings T F_asked_takings (c_check_asked := c_check_asked) (c_check_limits := c_check_limits) (c_told_takings := c_told_takings) ) (He.glo_ok X G (c.fact 37 (f := .glo "asked_takings") rfl)) b_asked_takings
  obtain ⟨fd_best_asked, F_best_asked⟩ : ∃ fd, FnP K "best_asked" s_best_asked (He.ga K "best_asked") fd := c.def_ 15 (d := dd_best_asked) rfl
  have b_best_asked : Binds K fd_best_asked ["n", "fares", "asked"] [] := F_best_asked.bindsN fun _ _ _ _ _ _ us hl => match us, hl with | [_, _, _], _ => rfl
  have c_best_asked : Sd.Cl P w K mg base 4 "best_asked" sp_best_asked [] := Cl.mk' F_best_asked (ok_best_asked T F_best_asked (c_check_asked := c_check_asked) (c_check_fares := c_check_fares) (c_told_most := c_told_most) ) (He.glo_ok X G (c.fact 38 (f := .glo "best_asked") rfl)) b_best_asked
  obtain ⟨fd_told_flood, F_told_flood⟩ : ∃ fd, FnP K "told_flood" s_told_flood (He.ga K "told_flood") fd := c.def_ 16 (d := dd_told_flood) rfl
  have b_told_flood : Binds K fd_told_flood ["n", "fares", "last"] [] := F_told_flood.bindsN fun _ _ _ _ _ _ us hl => match us, hl with | [_, _, _], _ => rfl
  have c_told_flood : Sd.Cl P w K mg base 1 "told_flood" sp_told_flood [] := Cl.mk' F_told_flood (ok_told_flood T F_told_flood  ) (He.glo_ok X G (c.fact 39 (f := .glo "told_flood") rfl)) b_told_flood
  obtain ⟨fd_flood_share, F_flood_share⟩ : ∃ fd, FnP K "flood_share" s_flood_share (He.ga K "flood_share") fd := c.def_ 17 (d := dd_flood_share) rfl
  have b_flood_share : Binds K fd_flood_share ["n", "fares", "limits", "last"] [] := F_flood_share.bindsN fun _ _ _ _ _ _ us hl => match us, hl with | [_, _, _, _], _ => rfl
  have c_flood_share : Sd.Cl P w K mg base 3 "flood_share" sp_flood_share [] := Cl.mk' F_flood_share (ok_flood_share T F_flood_share (c_lowest := c_lowest) (c_told_flood := c_told_flood) (c_told_most := c_told_most) (c_told_takings := c_told_takings) ) (He.glo_ok X G (c.fact 40 (f := .glo "flood_share") rfl)) b_flood_share
  obtain ⟨fd_worst_of, F_worst_of⟩ : ∃ fd, FnP K "worst_of" s_worst_of (He.ga K "worst_of") fd := c.def_ 18 (d := dd_worst_of) rfl
  have b_worst_of : Binds K fd_worst_of ["n", "fares", "limits"] [] := F_worst_of.bindsN fun _ _ _ _ _ _ us hl => match us, hl with | [_, _, _], _ => rfl
  have c_worst_of : Sd.Cl P w K mg base 4 "worst_of" sp_worst_of [] := Cl.mk' F_worst_of (ok_worst_of T F_worst_of (c_flood_share := c_flood_share) (c_is_less := c_is_less) ) (He.glo_ok X G (c.fact 41 (f := .glo "worst_of") rfl)) b_worst_of
  obtain ⟨fd_share, F_share⟩ : ∃ fd, FnP K "share" s_share (He.ga K "share") fd := c.def_ 19 (d := dd_share) rfl
  have b_share : Binds K fd_share ["n", "fares", "limits"] [] := F_share.bindsN fun _ _ _ _ _ _ us hl => match us, hl with | [_, _, _], _ => rfl
  have c_share : Sd.Cl P w K mg base 5 "share" sp_share [] := Cl.mk' F_share (ok_share T F_share (c_check_limits := c_check_limits) (c_worst_of := c_worst_of) ) (He.glo_ok X G (c.fact 22 (f := .glo "share") rfl)) b_share
  obtain ⟨fd_worst_flood, F_worst_flood⟩ : ∃ fd, FnP K "worst_flood" s_worst_flood (He.ga K "worst_flood") fd := c.def_ 20 (d := dd_worst_flood) rfl
  have b_worst_flood : Binds K fd_worst_flood ["n", "fares", "limits"] [] := F_worst_flood.bindsN fun _ _ _ _ _ _ us hl => match us, hl with | [_, _, _], _ => rfl
  have c_worst_flood : Sd.Cl P w K mg base 5 "worst_flood" sp_worst_flood [] := Cl.mk' F_worst_flood (ok_worst_flood T F_worst_flood (c_check_limits := c_check_limits) (c_worst_of := c_worst_of) ) (He.glo_ok X G (c.fact 23 (f := .glo "worst_flood") rfl)) b_worst_flood
  obtain ⟨fd_flood, F_flood⟩ : ∃ fd, FnP K "flood" s_flood (He.ga K "flood") fd := c.def_ 21 (d := dd_flood) rfl
  have b_flood : Binds K fd_flood ["n", "fares", "last"] [] := F_flood.bindsN fun _ _ _ _ _ _ us hl => match us, hl with | [_, _, _], _ => rfl
  have c_flood : Sd.Cl P w K mg base 4 "flood" sp_flood [] := Cl.mk' F_flood (ok_flood T F_flood (c_check_fares := c_check_fares) (c_is_within := c_is_within) (c_told_flood := c_told_flood) (x_BadLast := x_BadLast)) (He.glo_ok X G (c.fact 42 (f := .glo "flood") rfl)) b_flood
  obtain ⟨fd_all_limits, F_all_limits⟩ : ∃ fd, FnP K "all_limits" s_all_limits (He.ga K "all_limits") fd := c.def_ 22 (d := dd_all_limits) rfl
  have b_all_limits : Binds K fd_all_limits ["n", "many"] [] := F_all_limits.bindsN fun _ _ _ _ _ _ us hl => match us, hl with | [_, _], _ => rfl
  have c_all_limits : Sd.Cl P w K mg base 1 "all_limits" sp_all_limits [] := Cl.mk' F_all_limits (ok_all_limits T F_all_limits  ) (He.glo_ok X G (c.fact 43 (f := .glo "all_limits") rfl)) b_all_limits
  obtain ⟨fd_told_best, F_told_best⟩ : ∃ fd, FnP K "told_best" s_told_best (He.ga K "told_best") fd := c.def_ 23 (d := dd_told_best) rfl
  have b_told_best : Binds K fd_told_best ["n", "fares"] [] := F_told_best.bindsN fun _ _ _ _ _ _ us hl => match us, hl with | [_, _], _ => rfl
  have c_told_best : Sd.Cl P w K mg base 5 "told_best" sp_told_best [] := Cl.mk' F_told_best (ok_told_best T F_told_best (c_all_limits := c_all_limits) (c_is_less := c_is_less) (c_worst_of := c_worst_of) ) (He.glo_ok X G (c.fact 44 (f := .glo "told_best") rfl)) b_told_best
  obtain ⟨fd_best_limits, F_best_limits⟩ : ∃ fd, FnP K "best_limits" s_best_limits (He.ga K "best_limits") fd := c.def_ 24 (d := dd_best_limits) rfl
  have b_best_limits : Binds K fd_best_limits ["n", "fares"] [] := F_best_limits.bindsN fun _ _ _ _ _ _ us hl => match us, hl with | [_, _], _ => rfl
  have c_best_limits : Sd.Cl P w K mg base 6 "best_limits" sp_best_limits [] := Cl.mk' F_best_limits (ok_best_limits T F_best_limits (c_check_fares := c_check_fares) (c_told_best := c_told_best) ) (He.glo_ok X G (c.fact 20 (f := .glo "best_limits") rfl)) b_best_limits
  obtain ⟨fd_best_share, F_best_share⟩ : ∃ fd, FnP K "best_share" s_best_share (He.ga K "best_share") fd := c.def_ 25 (d := dd_best_share) rfl
  have b_best_share : Binds K fd_best_share ["n", "fares"] [] := F_best_share.bindsN fun _ _ _ _ _ _ us hl => match us, hl with | [_, _], _ => rfl
  have c_best_share : Sd.Cl P w K mg base 6 "best_share" sp_best_share [] := Cl.mk' F_best_share (ok_best_share T F_best_share (c_check_fares := c_check_fares) (c_told_best := c_told_best) ) (He.glo_ok X G (c.fact 21 (f := .glo "best_share") rfl)) b_best_share
  obtain ⟨fd__law_taken, F__law_taken⟩ : ∃ fd, FnP K "_law_taken" s__law_taken (He.ga K "_law_taken") fd := c.def_ 26 (d := dd__law_taken) rfl
  have b__law_taken : Binds K fd__law_taken ["row", "many"] [] := F__law_taken.bindsN fun _ _ _ _ _ _ us hl => match us, hl with | [_, _], _ => rfl
  have c__law_taken : Sd.Cl P w K mg base 1 "_law_taken" sp__law_taken [] := Cl.mk' F__law_taken (ok__law_taken T F__law_taken  ) (He.glo_ok X G (c.fact 45 (f := .glo "_law_taken") rfl)) b__law_taken
  obtain ⟨fd__law_pick, F__law_pick⟩ : ∃ fd, FnP K "_law_pick" s__law_pick (He.ga K "_law_pick") fd := c.def_ 27 (d := dd__law_pick) rfl
  have b__law_pick : Binds K fd__law_pick ["row", "some"] [] := F__law_pick.bindsN fun _ _ _ _ _ _ us hl => match us, hl with | [_, _], _ => rfl
  have c__law_pick : Sd.Cl P w K mg base 2 "_law_pick" sp__law_pick [] := Cl.mk' F__law_pick (ok__law_pick T F__law_pick (c__law_taken := c__law_taken) ) (He.glo_ok X G (c.fact 46 (f := .glo "_law_pick") rfl)) b__law_pick
  obtain ⟨fd__law_alike, F__law_alike⟩ : ∃ fd, FnP K "_law_alike" s__law_alike (He.ga K "_law_alike") fd := c.def_ 28 (d := dd__law_alike) rfl
  have b__law_alike : Binds K fd__law_alike ["found", "due"] [] := F__law_alike.bindsN fun _ _ _ _ _ _ us hl => match us, hl with | [_, _], _ => rfl
  have gl__law_alike := He.glo_ok X G (c.fact 47 (f := .glo "_law_alike") rfl)
  have c__law_alike : Sd.Cl P w K mg base 8 "_law_alike" sp__law_alike [] := Cl.mk' F__law_alike (ok__law_alike T F__law_alike gl__law_alike b__law_alike) gl__law_alike b__law_alike
  obtain ⟨fd__law_took, F__law_took⟩ : ∃ fd, FnP K "_law_took" s__law_took (He.ga K "_law_took") fd := c.def_ 29 (d := dd__law_took) rfl
  have b__law_took : Binds K fd__law_took ["limits", "asked"] [] := F__law_took.bindsN fun _ _ _ _ _ _ us hl => match us, hl with | [_, _], _ => rfl
  have c__law_took : Sd.Cl P w K mg base 1 "_law_took" sp__law_took [] := Cl.mk' F__law_took (ok__law_took T F__law_took  ) (He.glo_ok X G (c.fact 48 (f := .glo "_law_took") rfl)) b__law_took
  obtain ⟨fd__law_sums, F__law_sums⟩ : ∃ fd, FnP K "_law_sums" s__law_sums (He.ga K "_law_sums") fd := c.def_ 30 (d := dd__law_sums) rfl
  have b__law_sums : Binds K fd__law_sums ["n", "fares", "limits", "asked"] [] := F__law_sums.bindsN fun _ _ _ _ _ _ us hl => match us, hl with | [_, _, _, _], _ => rfl
  have c__law_sums : Sd.Cl P w K mg base 2 "_law_sums" sp__law_sums [] := Cl.mk' F__law_sums (ok__law_sums T F__law_sums (c__law_took := c__law_took) ) (He.glo_ok X G (c.fact 49 (f := .glo "_law_sums") rfl)) b__law_sums
  obtain ⟨fd__law_flood, F__law_flood⟩ : ∃ fd, FnP K "_law_flood" s__law_flood (He.ga K "_law_flood") fd := c.def_ 31 (d := dd__law_flood) rfl
  have b__law_flood : Binds K fd__law_flood ["n", "fares", "last"] [] := F__law_flood.bindsN fun _ _ _ _ _ _ us hl => match us, hl with | [_, _, _], _ => rfl
  have c__law_flood : Sd.Cl P w K mg base 1 "_law_flood" sp__law_flood [] := Cl.mk' F__law_flood (ok__law_flood T F__law_flood  ) (He.glo_ok X G (c.fact 50 (f := .glo "_law_flood") rfl)) b__law_flood
  obtain ⟨fd__law_lowest, F__law_lowest⟩ : ∃ fd, FnP K "_law_lowest" s__law_lowest (He.ga K "_law_lowest") fd := c.def_ 32 (d := dd__law_lowest) rfl
  have b__law_lowest : Binds K fd__law_lowest ["top", "bottom"] [] := F__law_lowest.bindsN fun _ _ _ _ _ _ us hl => match us, hl with | [_, _], _ => rfl
  have c__law_lowest : Sd.Cl P w K mg base 1 "_law_lowest" sp__law_lowest [] := Cl.mk' F__law_lowest (ok__law_lowest T F__law_lowest  ) (He.glo_ok X G (c.fact 51 (f := .glo "_law_lowest") rfl)) b__law_lowest
  obtain ⟨fd__law_worst, F__law_worst⟩ : ∃ fd, FnP K "_law_worst" s__law_worst (He.ga K "_law_worst") fd := c.def_ 33 (d := dd__law_worst) rfl
  have b__law_worst : Binds K fd__law_worst ["n", "fares", "limits"] [] := F__law_worst.bindsN fun _ _ _ _ _ _ us hl => match us, hl with | [_, _, _], _ => rfl
  have c__law_worst : Sd.Cl P w K mg base 3 "_law_worst" sp__law_worst [] := Cl.mk' F__law_worst (ok__law_worst T F__law_worst (c__law_flood := c__law_flood) (c__law_sums := c__law_sums) ) (He.glo_ok X G (c.fact 52 (f := .glo "_law_worst") rfl)) b__law_worst
  obtain ⟨fd__law_limits, F__law_limits⟩ : ∃ fd, FnP K "_law_limits" s__law_limits (He.ga K "_law_limits") fd := c.def_ 34 (d := dd__law_limits) rfl
  have b__law_limits : Binds K fd__law_limits ["n", "many"] [] := F__law_limits.bindsN fun _ _ _ _ _ _ us hl => match us, hl with | [_, _], _ => rfl
  have c__law_limits : Sd.Cl P w K mg base 1 "_law_limits" sp__law_limits [] := Cl.mk' F__law_limits (ok__law_limits T F__law_limits  ) (He.glo_ok X G (c.fact 53 (f := .glo "_law_limits") rfl)) b__law_limits
  obtain ⟨fd__law_rows, F__law_rows⟩ : ∃ fd, FnP K "_law_rows" s__law_rows (He.ga K "_law_rows") fd := c.def_ 35 (d := dd__law_rows) rfl
  have b__law_rows : Binds K fd__law_rows ["many", "most"] [] := F__law_rows.bindsN fun _ _ _ _ _ _ us hl => match us, hl with | [_, _], _ => rfl
  have c__law_rows : Sd.Cl P w K mg base 1 "_law_rows" sp__law_rows [] := Cl.mk' F__law_rows (ok__law_rows T F__law_rows  ) (He.glo_ok X G (c.fact 54 (f := .glo "_law_rows") rfl)) b__law_rows
  obtain ⟨fd__law_refused, F__law_refused⟩ : ∃ fd, FnP K "_law_refused" s__law_refused (He.ga K "_law_refused") fd := c.def_ 36 (d := dd__law_refused) rfl
  have b__law_refused : Binds K fd__law_refused ["ask"] [] := F__law_refused.bindsN fun _ _ _ _ _ _ us hl => match us, hl with | [_], _ => rfl
  obtain ⟨fd_law, F_law⟩ : ∃ fd, FnP K "law" s_law (He.ga K "law") fd := c.def_ 37 (d := dd_law) rfl
  have b_law : Binds K fd_law ["script"] [] := F_law.bindsN fun _ _ _ _ _ _ us hl => match us, hl with | [_], _ => rfl
  obtain ⟨oc, od, dV, kV, doc, pm, an, cdv, ct, osl, efd, lk, hcd, _, _⟩ := id F_law.ex
  obtain ⟨cc, ecc⟩ := He.codeIn_ref hcd
  have hcode : fd_law.code = .ref cc := by
    rw [efd]
    exact ecc
  have ec : He.codeOf K ("law", none) = cc := He.codeOf_eq lk hcode
  have hmem : He.cT K ("law", none) ∈ [He.cT K ("law", none)] := List.mem_singleton.mpr rfl
  have TB : LamX.TabB base mg cc (He.cT K ("law", none)).2 := by
    have := A.tab _ hmem
    rw [show (He.cT K ("law", none)).1 = cc from ec] at this
    exact this
  refine run_law T F_law c__law_alike c__law_flood c__law_limits c__law_lowest c__law_pick c__law_rows c__law_sums c__law_taken c__law_took c__law_worst c_asked_takings c_best_asked c_best_limits c_best_share c_flood c_share c_taken c_worst_flood F__law_refused b__law_refused (He.glo_ok X G (c.fact 55 (f := .glo "_law_refused") rfl)) hx x_BadAsked x_BadFares x_BadLast x_BadLimits x_BadN TB hcode A.env (FunD.bindsA (ps := ["script"]) F_law (fun _ _ _ _ _ _ us hl => match us, hl with | [_], _ => rfl) s1 [.ref a] rfl) A.scr (A.emp _ hmem) (fun b ps hb => ?_)
  rcases A.only b _ hb with ⟨p, hp, e⟩ | ⟨o, xs, e⟩
  · rw [List.mem_singleton.mp hp] at e
    exact e.symm
  · cases e
end K15
open PySem PySem.W PySem.Calls PyProof.Rows
theorem PySem.Challenge.cw_seatsold_k15_whole_shares_of_limits_holds : PySem.Challenge.rw_seatsold_k15_whole_shares_of_limits.Holds := by
  w_on; o_law
  refine HandSHeadRun.head_any (r := OpenLaw.row PySem.Challenge.rw_seatsold_k15_whole_shares_of_limits) (q := view (OpenLaw.row PySem.Challenge.rw_seatsold_k15_whole_shares_of_limits).prog [51]) (H := K15.hk) (ob := K15.ob) (M := 4000) (loose := (K15.n1 ++ K15.n2 ++ K15.n3)) (d := HandSHeadRun.topDef (OpenLaw.row PySem.Challenge.rw_seatsold_k15_whole_shares_of_limits).prog 51) (kwd := []) K15.ob_eq
    (by kernel_rfl) (fun s => by kernel_rfl) K15.run (by kernel_rfl) (by kernel_rfl) (by kernel_rfl) (by rfl) (by first | assumption | decide +kernel) (by decide +kernel) ⟨rfl, rfl, rfl, rfl, rfl, by decide +kernel⟩ ?hw ?hc
  case hw => w_witness2
  case hc =>
    refine Sd.walk_at (l := PySem.Challenge.rw_seatsold_k15_whole_shares_of_limits) rfl (by decide) (by kernel_rfl) ?F
    intro w mg fa h Y G hmg0
    obtain ⟨K, KX, c⟩ := Y
    have hmg : mg ("law" : PySem.Str) = some (.ref fa) := by
      have e : (HandSHeadRun.topDef (OpenLaw.row PySem.Challenge.rw_seatsold_k15_whole_shares_of_limits).prog 51).name = ("law" : PySem.Str) := by kernel_rfl
      rw [← e]
      exact hmg0
    have e := hmg.symm.trans (He.glo_ok KX G (c.t.d.fact 56 (f := .glo "law") rfl))
    cases e
    refine ⟨K, [He.cT K ("law", none)], KX, fun p hp => (by rw [List.mem_singleton.mp hp]; exact c.empty _ (List.mem_singleton.mpr rfl)), fun p hp => (by rw [List.mem_singleton.mp hp]; exact c.out _ (List.mem_singleton.mpr rfl)), fun p hp => (by rw [List.mem_singleton.mp hp]; exact PySem.W.codeHd_of_K KX (c.hd _ (List.mem_singleton.mpr rfl))), fun s1 a ns base H _ _ A => ?_⟩
    exact K15.at_law A c.t.d c.more
end
