import PyProof.Rows.All
import Wide.All
import OpenK.AllK
import Wide.FinOn
import HandS.ForMost
import HandS.ForExc
import HandS.Evl
import HandS.Walk
import HandS.IsInst
import HandS.Flow
import HandS.Style
import HandS.TupAny
import HandS.TupMul
import HandS.Star
import HandS.SortInts
import HandS.SortRule
import HandS.Zip
import HandS.TryMany
import HandS.ExcInit
import HandS.ExcField
import HandS.Lambda
import HandS.EndTab
import HandS.HeadHook1
import HandS.RaiseMore
import KE.KTupSum
import KE.GoesMore
import KE.GoesEnumKw
import KE.GoesEnum
import KE.GoesZip
import KE.GoesNew
import HandS.Defaults
import HandS.CallLocal
import HandS.OwnEq
import PyProof.InstNe
import PyProof.ReprRoads
import PyProof.Rows.RegFStrParts
import HandS.HeadWalk
import KE.DatumOrd
import HandS.SortKw
import PySem.Challenge.RW_seatsold_k12_whole_one_seat_more
import HandS.Head2
import HandS.HeadEnd
import HandS.HeadHook4
-- SdCore
section
set_option Elab.async false
set_option linter.all false
set_option maxRecDepth 100000
set_option maxHeartbeats 4000000
set_option autoImplicit false
/-! The data layer: what a def does is told over plain data (D), no heap in sight. -/
namespace Sd
open PySem PySem.Spec PyProof.Rows L2
open Evl (Ex)

/-! ### data -/
/-- what a value stands for; raw: a value as it is; ln: a line with its seats -/
inductive D where
  | non | bl (b : Bool) | int (i : Int) | str (s : Str) | lst (xs : List D) | tup (xs : List D) | raw (v : V) | dct | ln (xs : List D)
mutual
/-- v stands for the data in the part B of the heap, which no one changes -/
inductive Rp (K : PySem.W.Frag) (B : Hp) : V → D → Prop
  | non : Rp K B .non .non
  | bl (b : Bool) : Rp K B (.bl b) (.bl b)
  | int (i : Int) : Rp K B (.int i) (.int i)
  | str (s : Str) : Rp K B (.str s) (.str s)
  | lst {a : Addr} {vs : List V} {ds : List D} (h : B a = some (.lst vs)) (r : RpA K B vs ds) : Rp K B (.ref a) (.lst ds)
  | tup {a : Addr} {vs : List V} {ds : List D} (h : SqT K B a vs) (r : RpA K B vs ds) : Rp K B (.ref a) (.tup ds)
  | raw (v : V) : Rp K B v (.raw v)
  | dct {a : Addr} (h : B a = some (.dK [])) : Rp K B (.ref a) .dct
  | ln {a dx t : Addr} {fs : List (Str × V)} {vs : List V} {ds : List D} (h : B a = some (.ins (He.ga K "Line") dx fs)) (h2 : B dx = some (.own a)) (hf : fs.lookup ("seats" : Str) = some (V.ref t)) (ht : SqT K B t vs) (r : RpA K B vs ds) : Rp K B (.ref a) (.ln ds)
inductive RpA (K : PySem.W.Frag) (B : Hp) : List V → List D → Prop
  | nil : RpA K B [] []
  | cons {v : V} {vs : List V} {d : D} {ds : List D} (h : Rp K B v d) (r : RpA K B vs ds) : RpA K B (v :: vs) (d :: ds)
end
section
variable {K : PySem.W.Frag} {B B' : Hp}
theorem exL {a : Addr} {xs : List V} (e : Ex B B') (h : SqL K B a xs) : SqL K B' a xs := Evl.ex_l e h
theorem exT {a : Addr} {xs : List V} (e : Ex B B') (h : SqT K B a xs) : SqT K B' a xs := Evl.ex_t e h
mutual
theorem Rp.mono (e : Ex B B') : ∀ {v : V} {d : D}, Rp K B v d → Rp K B' v d
  | _, _, .non => .non
  | _, _, .bl b => .bl b
  | _, _, .int i => .int i
  | _, _, .str s => .str s
  | _, _, .lst h r => .lst (e _ _ h) (RpA.mono e r)
  | _, _, .tup h r => .tup (exT e h) (RpA.mono e r)
  | _, _, .raw v => .raw v
  | _, _, .dct h => .dct (e _ _ h)
  | _, _, .ln h h2 hf ht r => .ln (e _ _ h) (e _ _ h2) hf (exT e ht) (RpA.mono e r)
theorem RpA.mono (e : Ex B B') : ∀ {vs : List V} {ds : List D}, RpA K B vs ds → RpA K B' vs ds
  | _, _, .nil => .nil
  | _, _, .cons h r => .cons (Rp.mono e h) (RpA.mono e r)
end
theorem RpA.length : ∀ {vs : List V} {ds : List D}, RpA K B vs ds → vs.length = ds.length
  | _, _, .nil => rfl
  | _, _, .cons _ r => congrArg (· + 1) (RpA.length r)
theorem RpA.get : ∀ {vs : List V} {ds : List D} {i : Nat} {v : V}, RpA K B vs ds → vs[i]? = some v → ∃ d, ds[i]? = some d ∧ Rp K B v d
  | _, _, i, v, .nil, h => by simp at h
  | _, _, 0, v, .cons h r, e => by
    have e' := Option.some.inj e
    subst e'
    exact ⟨_, rfl, h⟩
  | _, _, i + 1, v, .cons h r, e => by
    have q := RpA.get (i := i) (v := v) r (by simpa using e)
    simpa using q
theorem RpA.at : ∀ {vs : List V} {ds : List D} {i : Nat} {d : D}, RpA K B vs ds → ds[i]? = some d → ∃ v, vs[i]? = some v ∧ Rp K B v d
  | _, _, i, v, .nil, h => by simp at h
  | _, _, 0, v, .cons h r, e => by
    have e' := Option.some.inj e
    subst e'
    exact ⟨_, rfl, h⟩
  | _, _, i + 1, v, .cons h r, e => by
    have q := RpA.at (i := i) (d := v) r (by simpa using e)
    simpa using q
theorem RpA.app : ∀ {vs ws : List V} {ds es : List D}, RpA K B vs ds → RpA K B ws es → RpA K B (vs ++ ws) (ds ++ es)
  | _, _, _, _, .nil, r => r
  | _, _, _, _, .cons h r, r' => .cons h (RpA.app r r')
theorem RpA.one {v : V} {d : D} (h : Rp K B v d) : RpA K B [v] [d] := .cons h .nil
theorem RpA.set : ∀ {vs : List V} {ds : List D} {i : Nat} {v : V} {d : D}, RpA K B vs ds → Rp K B v d → RpA K B (vs.set i v) (ds.set i d)
  | _, _, _, _, _, .nil, _ => .nil
  | _, _, 0, _, _, .cons _ r, h => .cons h r
  | _, _, i + 1, _, _, .cons h' r, h => .cons h' (RpA.set r h)
theorem RpA.take : ∀ {vs : List V} {ds : List D} (n : Nat), RpA K B vs ds → RpA K B (vs.take n) (ds.take n)
  | _, _, 0, _ => by simpa using .nil
  | _, _, n + 1, .nil => by simpa using .nil
  | _, _, n + 1, .cons h r => .cons h (RpA.take n r)
theorem RpA.drop : ∀ {vs : List V} {ds : List D} (n : Nat), RpA K B vs ds → RpA K B (vs.drop n) (ds.drop n)
  | _, _, 0, r => r
  | _, _, n + 1, .nil => .nil
  | _, _, n + 1, .cons _ r => RpA.drop n r
theorem RpA.rev {vs : List V} {ds : List D} (r : RpA K B vs ds) : RpA K B vs.reverse ds.reverse := by
  induction vs generalizing ds with
  | nil => cases r; exact .nil
  | cons v vs ih =>
    cases r with
    | cons h r =>
      rw [List.reverse_cons, List.reverse_cons]
      exact (ih r).app (.one h)
theorem RpA.rep {vs : List V} {ds : List D} (r : RpA K B vs ds) : ∀ n : Nat, RpA K B (List.replicate n vs).flatten (List.replicate n ds).flatten
  | 0 => .nil
  | n + 1 => by
    rw [List.replicate_succ, List.flatten_cons, List.replicate_succ, List.flatten_cons]
    exact r.app (RpA.rep r n)
theorem RpA.ints {vs : List V} : ∀ {ns : List Int}, RpA K B vs (ns.map D.int) → vs = ns.map V.int := by
  induction vs with
  | nil => intro ns r; cases ns with
    | nil => rfl
    | cons n ns => cases r
  | cons v vs ih => intro ns r; cases ns with
    | nil => cases r
    | cons n ns => cases r with
      | cons h r => cases h; rw [ih r]; rfl
theorem RpA.ofInts : ∀ (ns : List Int), RpA K B (ns.map V.int) (ns.map D.int)
  | [] => .nil
  | n :: ns => .cons (.int n) (RpA.ofInts ns)
theorem RpA.bls {vs : List V} : ∀ {ns : List Bool}, RpA K B vs (ns.map D.bl) → vs = ns.map V.bl := by
  induction vs with
  | nil => intro ns r; cases ns with
    | nil => rfl
    | cons n ns => cases r
  | cons v vs ih => intro ns r; cases ns with
    | nil => cases r
    | cons n ns => cases r with
      | cons h r => cases h; rw [ih r]; rfl
theorem RpA.ofBls : ∀ (ns : List Bool), RpA K B (ns.map V.bl) (ns.map D.bl)
  | [] => .nil
  | n :: ns => .cons (.bl n) (RpA.ofBls ns)
theorem RpA.strs {vs : List V} : ∀ {ns : List Str}, RpA K B vs (ns.map D.str) → vs = ns.map V.str := by
  induction vs with
  | nil => intro ns r; cases ns with
    | nil => rfl
    | cons n ns => cases r
  | cons v vs ih => intro ns r; cases ns with
    | nil => cases r
    | cons n ns => cases r with
      | cons h r => cases h; rw [ih r]; rfl
theorem RpA.ofStrs : ∀ (ns : List Str), RpA K B (ns.map V.str) (ns.map D.str)
  | [] => .nil
  | n :: ns => .cons (.str n) (RpA.ofStrs ns)
theorem RpA.raws {vs : List V} : ∀ {ns : List V}, RpA K B vs (ns.map D.raw) → vs = ns := by
  induction vs with
  | nil => intro ns r; cases ns with
    | nil => rfl
    | cons n ns => cases r
  | cons v vs ih => intro ns r; cases ns with
    | nil => cases r
    | cons n ns => cases r with
      | cons h r => cases h; rw [ih r]
theorem RpA.ofRaws : ∀ (ns : List V), RpA K B ns (ns.map D.raw)
  | [] => .nil
  | n :: ns => .cons (.raw n) (RpA.ofRaws ns)
end

/-! ### what changes -/
/-- the row of draws (its address, the script's), the tables of code objects -/
structure Fs where
  row : Option (Addr × Addr) := none
  tabs : List (Addr × Str) := []
def Fs.S (F : Fs) (a : Addr) : Prop := (∃ s, F.row = some (a, s)) ∨ ∃ q, (a, q) ∈ F.tabs
/-- the row of draws: the script, how many are taken, the mixed number, the rest of a cell -/
def RowAt (K : PySem.W.Frag) (B H : Hp) (r sa : Addr) : Prop := B r = none ∧ (∃ ns : List Int, SqL K B sa (ns.map V.int)) ∧ ∃ i s c : Int, H r = some (.lst [.ref sa, .int i, .int s, .int c]) ∧ 0 ≤ i ∧ 0 ≤ s ∧ s < 2147483647
structure Fok (K : PySem.W.Frag) (F : Fs) (B H : Hp) : Prop where
  row : ∀ r sa, F.row = some (r, sa) → RowAt K B H r sa
  tab : LamX.Tabs F.tabs H
  tb : ∀ p ∈ F.tabs, B p.1 = none
  nt : ∀ a ps, B a ≠ some (.tbl ps)
theorem nt_upd {B : Hp} {p : Addr} {o : HO} (h : ∀ a ps, B a ≠ some (.tbl ps)) (ho : ∀ ps, o ≠ .tbl ps) : ∀ a ps, upd B p o a ≠ some (.tbl ps) := fun a ps z => by
  by_cases e : a = p
  · rw [e, upd_same] at z
    exact ho ps (Option.some.inj z)
  · rw [upd_ne e] at z
    exact h a ps z
/-- something stands at a that is no table of code objects -/
def Hd (H : Hp) (a : Addr) : Prop := ∃ u, H a = some u ∧ ∀ ps, u ≠ .tbl ps
theorem Hd.of {H : Hp} {a : Addr} {u : HO} (h : H a = some u) (hu : ∀ ps, u ≠ .tbl ps := by intro _ z; cases z) : Hd H a := ⟨u, h, hu⟩
theorem Hd.ne {H : Hp} {a p : Addr} (h : Hd H a) (hp : H p = none) : a ≠ p := fun z => by
  obtain ⟨u, e, _⟩ := h
  rw [z, hp] at e
  cases e
theorem Hd.nne {H : Hp} {a p : Addr} (h : Hd H a) (hp : ¬ Hd H p) : a ≠ p := fun z => hp (by rw [← z]; exact h)
theorem Hd.eq {H H' : Hp} {a : Addr} (h : Hd H a) (e : H' a = H a) : Hd H' a := by
  obtain ⟨u, e1, e2⟩ := h
  exact ⟨u, e.trans e1, e2⟩
theorem not_hd {H : Hp} {a : Addr} (h : H a = none) : ¬ Hd H a := fun ⟨u, e, _⟩ => by
  rw [h] at e
  cases e
/-- from (B, H) to (B', H'): what stood stands, but for what F says -/
structure Fm (K : PySem.W.Frag) (F : Fs) (B H B' H' : Hp) : Prop where
  b : Ex B B'
  e : Ex B' H'
  o : ∀ a, B a = none → Hd H a → B' a = none ∧ (¬ F.S a → H' a = H a)
  f : Fok K F B' H'
section
variable {K : PySem.W.Frag} {F : Fs} {B H B1 H1 B2 H2 : Hp}
theorem Fok.there (f : Fok K F B H) {a : Addr} (h : F.S a) : B a = none ∧ H a ≠ none := by
  rcases h with ⟨s, h⟩ | ⟨q, h⟩
  · obtain ⟨h1, _, i, t, c, h2, _⟩ := f.row a s h
    exact ⟨h1, by rw [h2]; simp⟩
  · obtain ⟨ps, h1, _⟩ := f.tab _ h
    refine ⟨f.tb _ h, ?_⟩
    rw [show H a = _ from h1]
    simp
theorem Fm.refl (e : Ex B H) (f : Fok K F B H) : Fm K F B H B H := ⟨Ex.refl B, e, fun a h _ => ⟨h, fun _ => rfl⟩, f⟩
theorem Fm.trans (m1 : Fm K F B H B1 H1) (m2 : Fm K F B1 H1 B2 H2) : Fm K F B H B2 H2 := by
  refine ⟨m1.b.trans m2.b, m2.e, fun a h1 h2 => ?_, m2.f⟩
  obtain ⟨h3, h4⟩ := m1.o a h1 h2
  by_cases hs : F.S a
  · exact ⟨(m2.f.there hs).1, fun z => (z hs).elim⟩
  · have e1 := h4 hs
    obtain ⟨h5, h6⟩ := m2.o a h3 (h2.eq e1)
    exact ⟨h5, fun z => (h6 z).trans e1⟩
/-- what is not there now was not there before -/
theorem Fm.back (m : Fm K F B H B1 H1) {p : Addr} (h : ¬ Hd H1 p) (ns : ¬ F.S p) : ¬ Hd H p := fun z => by
  cases hb : B p with
  | none => exact h (z.eq ((m.o p hb z).2 ns))
  | some u =>
    have q := m.b _ _ hb
    exact h (.of (m.e _ _ q) fun ps e => m.f.nt p ps (by rw [← e]; exact q))
/-- the heap grows beside: an object that no one knows -/
theorem Fok.ex (f : Fok K F B H) (b : Ex B B1) (h : ∀ a, F.S a → B1 a = none) (e : ∀ a o, H a = some o → H1 a = some o) (t : ∀ a ps, B1 a ≠ some (.tbl ps)) : Fok K F B1 H1 := by
  refine ⟨fun r sa hr => ?_, f.tab.ext e, fun p hp => h _ (.inr ⟨p.2, hp⟩), t⟩
  obtain ⟨h1, ⟨ns, h2⟩, i, s, c, h3, h4⟩ := f.row r sa hr
  exact ⟨h _ (.inl ⟨sa, hr⟩), ⟨ns, exL b h2⟩, i, s, c, e _ _ h3, h4⟩
/-- a new object, known as data -/
theorem Fm.new {p : Addr} {o : HO} (e : Ex B H) (f : Fok K F B H) (hp : H p = none) (ho : ∀ ps, o ≠ .tbl ps := by intro _ z; cases z) : Fm K F B H (upd B p o) (upd H p o) := by
  have bp : B p = none := Evl.fresh_back e hp
  refine ⟨Evl.Ex.new bp, fun a u h => ?_, fun a h1 h2 => ?_, ?_⟩
  · by_cases ha : a = p
    · rw [ha, upd_same] at h ⊢
      exact h
    · rw [upd_ne ha] at h ⊢
      exact e _ _ h
  · have ha : a ≠ p := h2.ne hp
    exact ⟨by rw [upd_ne ha]; exact h1, fun _ => upd_ne ha⟩
  · refine f.ex (Evl.Ex.new bp) (fun a hs => ?_) (fun a u h => ?_) (nt_upd f.nt ho)
    · have := f.there hs
      rw [upd_ne (fun z => this.2 (by rw [z]; exact hp))]
      exact this.1
    · rw [upd_ne (ne_of_none h hp)]
      exact h
/-- .. not known as data -/
theorem Fm.newH {p : Addr} {o : HO} (e : Ex B H) (f : Fok K F B H) (hp : H p = none) : Fm K F B H B (upd H p o) := by
  refine ⟨Ex.refl B, e.trans (Evl.Ex.new hp), fun a h1 h2 => ?_, f.ex (Ex.refl B) (fun a hs => (f.there hs).1) (fun a u h => ?_) f.nt⟩
  · have ha : a ≠ p := h2.ne hp
    exact ⟨h1, fun _ => upd_ne ha⟩
  · rw [upd_ne (ne_of_none h hp)]
    exact h
theorem Fok.s_ne (f : Fok K F B H) {l : Addr} (h : ¬ F.S l) : ∀ a, F.S a → a ≠ l := fun a ha z => h (by rw [← z]; exact ha)
end

/-! ### slots -/
/-- obj: an object of the class C at m, its dict at dx, its attributes; ms: the list at s that it alone knows -/
inductive Sl where
  | un | dat (d : D) | own (ds : List D) | obj (m dx : Addr) (C : Str) (s : Addr) (fs : List (Str × D)) (ms : Option (List D))
inductive RpF (K : PySem.W.Frag) (B : Hp) : List (Str × V) → List (Str × D) → Prop
  | nil : RpF K B [] []
  | cons {f : Str} {v : V} {d : D} {vs : List (Str × V)} {ds : List (Str × D)} (h : Rp K B v d) (r : RpF K B vs ds) : RpF K B ((f, v) :: vs) ((f, d) :: ds)
theorem RpF.mono {K : PySem.W.Frag} {B B' : Hp} (e : Ex B B') : ∀ {vs : List (Str × V)} {ds : List (Str × D)}, RpF K B vs ds → RpF K B' vs ds
  | _, _, .nil => .nil
  | _, _, .cons h r => .cons (h.mono e) (r.mono e)
structure ObOk (K : PySem.W.Frag) (F : Fs) (H0 B H : Hp) (m dx : Addr) (C : Str) (s : Addr) (fs : List (Str × D)) (ms : Option (List D)) : Prop where
  m0 : ¬ Hd H0 m
  x0 : ¬ Hd H0 dx
  mb : B m = none
  xb : B dx = none
  mS : ¬ F.S m
  xS : ¬ F.S dx
  hx : H dx = some (.own m)
  hm : ∃ vs, H m = some (.ins (He.ga K C) dx vs) ∧ RpF K B vs fs
  hs : ∀ xs, ms = some xs → ¬ Hd H0 s ∧ B s = none ∧ ¬ F.S s ∧ ∃ ws, H s = some (.lst ws) ∧ RpA K B ws xs
def SlOk (K : PySem.W.Frag) (F : Fs) (H0 B H : Hp) : Option V → Sl → Prop
  | _, .un => True
  | o, .dat d => ∃ v, o = some v ∧ Rp K B v d
  | o, .own ds => ∃ l vs, o = some (.ref l) ∧ ¬ Hd H0 l ∧ B l = none ∧ H l = some (.lst vs) ∧ RpA K B vs ds ∧ ¬ F.S l
  | o, .obj m dx C s fs ms => o = some (.ref m) ∧ ObOk K F H0 B H m dx C s fs ms
/-- where a run of a def stands: what changes, the entry -/
structure Gx where
  F : Fs
  B0 : Hp
  H0 : Hp
structure Stt (K : PySem.W.Frag) (G : Gx) (σ : L2.St) (B H : Hp) (δ : List Sl) : Prop where
  fm : Fm K G.F G.B0 G.H0 B H
  len : σ.length = δ.length
  sl : ∀ (i : Nat) (s : Sl), δ[i]? = some s → ∃ o, σ[i]? = some o ∧ SlOk K G.F G.H0 B H o s
  sep : ∀ (i j : Nat) (ds es : List D), i ≠ j → δ[i]? = some (.own ds) → δ[j]? = some (.own es) → σ[i]? ≠ σ[j]?
  ob : ∀ (i : Nat) (m dx : Addr) (C : Str) (s : Addr) (fs : List (Str × D)) (ms : Option (List D)), δ[i]? = some (.obj m dx C s fs ms) → ∀ j : Nat, (∀ ds xs, δ[j]? = some (.own ds) → ms = some xs → σ[j]? ≠ some (some (.ref s))) ∧
    ∀ m' dx' C' s' fs' ms', δ[j]? = some (.obj m' dx' C' s' fs' ms') → i = j
theorem set_at {δ : List Sl} {i j : Nat} {t u : Sl} (h : (δ.set i t)[j]? = some u) (hne : t ≠ u) : i ≠ j ∧ δ[j]? = some u := by
  rw [List.getElem?_set] at h
  by_cases e : i = j
  · rw [if_pos e] at h
    split at h
    · exact absurd (Option.some.inj h) hne
    · cases h
  · rw [if_neg e] at h
    exact ⟨e, h⟩
section
variable {K : PySem.W.Frag} {G : Gx} {σ : L2.St} {B H B' H' : Hp} {δ : List Sl}
theorem SlOk.mono {F : Fs} {H0 : Hp} {o : Option V} {s : Sl} (m : Fm K F B H B' H') (h : SlOk K F H0 B H o s) : SlOk K F H0 B' H' o s := by
  cases s with
  | un => exact h
  | dat d =>
    obtain ⟨v, e, r⟩ := h
    exact ⟨v, e, r.mono m.b⟩
  | own ds =>
    obtain ⟨l, vs, e, h0, hb, hl, r, ns⟩ := h
    obtain ⟨h1, h2⟩ := m.o l hb (.of hl)
    exact ⟨l, vs, e, h0, h1, (h2 ns).trans hl, r.mono m.b, ns⟩
  | obj a dx C s fs ms =>
    obtain ⟨e, k⟩ := h
    obtain ⟨vs, hm, rf⟩ := k.hm
    obtain ⟨m1, m2⟩ := m.o a k.mb (.of hm)
    obtain ⟨x1, x2⟩ := m.o dx k.xb (.of k.hx)
    refine ⟨e, k.m0, k.x0, m1, x1, k.mS, k.xS, (x2 k.xS).trans k.hx, ⟨vs, (m2 k.mS).trans hm, rf.mono m.b⟩, fun xs ex => ?_⟩
    obtain ⟨s0, sb, ss, ws, hs, ra⟩ := k.hs xs ex
    obtain ⟨s1, s2⟩ := m.o s sb (.of hs)
    exact ⟨s0, s1, ss, ws, (s2 ss).trans hs, ra.mono m.b⟩
theorem Stt.mono (s : Stt K G σ B H δ) (m : Fm K G.F B H B' H') : Stt K G σ B' H' δ :=
  ⟨s.fm.trans m, s.len, fun i t h => let ⟨o, e, k⟩ := s.sl i t h; ⟨o, e, k.mono m⟩, s.sep, s.ob⟩
theorem Stt.e (s : Stt K G σ B H δ) : Ex B H := s.fm.e
theorem Stt.f (s : Stt K G σ B H δ) : Fok K G.F B H := s.fm.f
theorem Stt.here (s : Stt K G σ B H δ) : Fm K G.F B H B H := .refl s.e s.f
/-- a slot is stored -/
theorem Stt.put {i : Nat} {v : V} {d : D} (s : Stt K G σ B H δ) (r : Rp K B v d) : Stt K G (σ.set i (some v)) B H (δ.set i (.dat d)) := by
  refine ⟨s.fm, by rw [List.length_set, List.length_set]; exact s.len, fun j t h => ?_, fun j k ds es hn h1 h2 => ?_, fun a m dx C t fs ms h b => ?_⟩
  · by_cases hj : i = j
    · subst hj
      rw [List.getElem?_set] at h
      by_cases hi : i < δ.length
      · rw [if_pos rfl, if_pos hi] at h
        cases h
        refine ⟨some v, ?_, v, rfl, r⟩
        rw [List.getElem?_set, if_pos rfl, if_pos (by rw [s.len]; exact hi)]
      · rw [if_pos rfl, if_neg hi] at h
        cases h
    · rw [List.getElem?_set, if_neg hj] at h
      rw [List.getElem?_set, if_neg hj]
      exact s.sl j t h
  · have a : i ≠ j := fun z => by
      subst z
      rw [List.getElem?_set, if_pos rfl] at h1
      split at h1 <;> cases h1
    have b : i ≠ k := fun z => by
      subst z
      rw [List.getElem?_set, if_pos rfl] at h2
      split at h2 <;> cases h2
    rw [List.getElem?_set, if_neg a] at h1 ⊢
    rw [List.getElem?_set, if_neg b] at h2 ⊢
    exact s.sep j k ds es hn h1 h2
  · obtain ⟨n1, h1⟩ := set_at h (fun z => by cases z)
    refine ⟨fun ds xs h2 e2 => ?_, fun m' dx' C' s' fs' ms' h2 => ?_⟩
    · obtain ⟨n2, h2⟩ := set_at h2 (fun z => by cases z)
      rw [List.getElem?_set, if_neg n2]
      exact (s.ob a m dx C t fs ms h1 b).1 ds xs h2 e2
    · obtain ⟨n2, h2⟩ := set_at h2 (fun z => by cases z)
      exact (s.ob a m dx C t fs ms h1 b).2 _ _ _ _ _ _ h2
/-- slots are forgotten -/
def wipeD (δ : List Sl) : List Nat → List Sl
  | [] => δ
  | v :: vs => (wipeD δ vs).set v .un
theorem Stt.forget {i : Nat} (s : Stt K G σ B H δ) : Stt K G (σ.set i none) B H (δ.set i .un) := by
  refine ⟨s.fm, by rw [List.length_set, List.length_set]; exact s.len, fun j t h => ?_, fun j k ds es hn h1 h2 => ?_, fun a m dx C t fs ms h b => ?_⟩
  · by_cases hj : i = j
    · subst hj
      rw [List.getElem?_set] at h
      by_cases hi : i < δ.length
      · rw [if_pos rfl, if_pos hi] at h
        cases h
        refine ⟨none, ?_, True.intro⟩
        rw [List.getElem?_set, if_pos rfl, if_pos (by rw [s.len]; exact hi)]
      · rw [if_pos rfl, if_neg hi] at h
        cases h
    · rw [List.getElem?_set, if_neg hj] at h
      rw [List.getElem?_set, if_neg hj]
      exact s.sl j t h
  · have a : i ≠ j := fun z => by
      subst z
      rw [List.getElem?_set, if_pos rfl] at h1
      split at h1 <;> cases h1
    have b : i ≠ k := fun z => by
      subst z
      rw [List.getElem?_set, if_pos rfl] at h2
      split at h2 <;> cases h2
    rw [List.getElem?_set, if_neg a] at h1 ⊢
    rw [List.getElem?_set, if_neg b] at h2 ⊢
    exact s.sep j k ds es hn h1 h2
  · obtain ⟨n1, h1⟩ := set_at h (fun z => by cases z)
    refine ⟨fun ds xs h2 e2 => ?_, fun m' dx' C' s' fs' ms' h2 => ?_⟩
    · obtain ⟨n2, h2⟩ := set_at h2 (fun z => by cases z)
      rw [List.getElem?_set, if_neg n2]
      exact (s.ob a m dx C t fs ms h1 b).1 ds xs h2 e2
    · obtain ⟨n2, h2⟩ := set_at h2 (fun z => by cases z)
      exact (s.ob a m dx C t fs ms h1 b).2 _ _ _ _ _ _ h2
theorem Stt.wipe (s : Stt K G σ B H δ) : ∀ vs : List Nat, Stt K G (L2.wipe σ vs) B H (wipeD δ vs)
  | [] => s
  | _ :: vs => (Stt.wipe s vs).forget
theorem Stt.dat {i : Nat} {d : D} (s : Stt K G σ B H δ) (h : δ[i]? = some (.dat d)) : ∃ v, σ[i]? = some (some v) ∧ Rp K B v d := by
  obtain ⟨o, e, v, rfl, r⟩ := s.sl i _ h
  exact ⟨v, e, r⟩
theorem Stt.own {i : Nat} {ds : List D} (s : Stt K G σ B H δ) (h : δ[i]? = some (.own ds)) : ∃ l vs, σ[i]? = some (some (.ref l)) ∧ ¬ Hd G.H0 l ∧ B l = none ∧ H l = some (.lst vs) ∧ RpA K B vs ds ∧ ¬ G.F.S l := by
  obtain ⟨o, e, l, vs, rfl, r⟩ := s.sl i _ h
  exact ⟨l, vs, e, r⟩
end
end Sd
end
-- SdRules
section
set_option Elab.async false
set_option linter.all false
set_option maxRecDepth 100000
set_option maxHeartbeats 4000000
set_option autoImplicit false
namespace Sd
open PySem PySem.Spec PyProof.Rows L2
open Evl (Ex)

/-! ### judgements over data -/
abbrev DE := List Sl → (D → Prop) → Prop
abbrev DT := List Sl → (Bool → Prop) → Prop
abbrev DA := List Sl → (List D → Prop) → Prop
abbrev DO := List Sl → (Option Int → Prop) → Prop
structure DEnds where
  nx : List Sl → Prop
  rt : D → Prop
  bk : List Sl → Prop := fun _ => False
  ct : List Sl → Prop := fun _ => False
abbrev DS := DEnds → List Sl → Prop
abbrev DG := D → List Sl → (List Sl → Prop) → Prop
abbrev DGs := List D → List Sl → (List Sl → Prop) → Prop
abbrev DI := List Sl → (List D → Prop) → Prop
section
variable (K : PySem.W.Frag) (G : Gx)
def teOf (de : DE) : TE := fun σ H Q => ∃ (B : Hp) (δ : List Sl) (P : D → Prop), Stt K G σ B H δ ∧ de δ P ∧ ∀ v d B' H', Fm K G.F B H B' H' → P d → Rp K B' v d → Q v H'
def ttOf (dt : DT) : TT := fun σ H Q => ∃ (B : Hp) (δ : List Sl) (P : Bool → Prop), Stt K G σ B H δ ∧ dt δ P ∧ ∀ b B' H', Fm K G.F B H B' H' → P b → Q b H'
def taOf (da : DA) : TA := fun σ H Q => ∃ (B : Hp) (δ : List Sl) (P : List D → Prop), Stt K G σ B H δ ∧ da δ P ∧ ∀ vs ds B' H', Fm K G.F B H B' H' → P ds → RpA K B' vs ds → Q vs H'
def toOf (d : DO) : TO := fun σ H Q => ∃ (B : Hp) (δ : List Sl) (P : Option Int → Prop), Stt K G σ B H δ ∧ d δ P ∧ ∀ o B' H', Fm K G.F B H B' H' → P o → Q o H'
/-- what is wanted over data behind a statement that began at B, and over the heap -/
structure Dlv (B : Hp) (DD : DEnds) (D : Ends) : Prop where
  nx : ∀ σ' B' H' δ', Ex B B' → Stt K G σ' B' H' δ' → DD.nx δ' → D.nx σ' H'
  rt : ∀ v d B' H', Fm K G.F G.B0 G.H0 B' H' → DD.rt d → Rp K B' v d → D.rt v H'
  bk : ∀ σ' B' H' δ', Ex B B' → Stt K G σ' B' H' δ' → DD.bk δ' → D.bk σ' H'
  ct : ∀ σ' B' H' δ', Ex B B' → Stt K G σ' B' H' δ' → DD.ct δ' → D.ct σ' H'
def tsOf (ds : DS) : TS := fun D σ H => ∃ (B : Hp) (δ : List Sl) (DD : DEnds), Stt K G σ B H δ ∧ ds DD δ ∧ Dlv K G B DD D
def tgOf (dg : DG) : TG := fun v σ H Q => ∃ (B : Hp) (δ : List Sl) (d : D) (P : List Sl → Prop), Stt K G σ B H δ ∧ Rp K B v d ∧ dg d δ P ∧ ∀ σ' B' H' δ', Ex B B' → Stt K G σ' B' H' δ' → P δ' → Q σ' H'
def tgsOf (dg : DGs) : TGs := fun vs σ H Q => ∃ (B : Hp) (δ : List Sl) (ds : List D) (P : List Sl → Prop), Stt K G σ B H δ ∧ RpA K B vs ds ∧ dg ds δ P ∧ ∀ σ' B' H' δ', Ex B B' → Stt K G σ' B' H' δ' → P δ' → Q σ' H'
/-- J walks the data xs while the heap grows from B -/
def Wk (J : It) (xs : List D) (B : Hp) : Prop := ∀ B2 H2, Ex B B2 → Ex B2 H2 → Fok K G.F B2 H2 →
  (∀ i, i < xs.length → J.go i H2 ∧ ∀ x H3, J.yld i H2 x H3 → ∃ B3 d, xs[i]? = some d ∧ Fm K G.F B2 H2 B3 H3 ∧ Rp K B3 x d) ∧ J.stop xs.length H2
def tiOf (di : DI) : TI := fun σ H R => ∃ (B : Hp) (δ : List Sl) (P : List D → Prop), Stt K G σ B H δ ∧ di δ P ∧ ∀ J xs B' H', Fm K G.F B H B' H' → P xs → Wk K G J xs B' → R J H'
end
abbrev PEd (X : Cx) (G : Gx) (e : Expr) (de : DE) : Prop := PE X e (teOf X.K G de)
abbrev PTd (X : Cx) (G : Gx) (e : Expr) (dt : DT) : Prop := PT X e (ttOf X.K G dt)
abbrev PWd (X : Cx) (G : Gx) (e : Expr) (dt : DT) : Prop := PW X e (ttOf X.K G dt)
abbrev PAd (X : Cx) (G : Gx) (es : List Expr) (da : DA) : Prop := PA X es (taOf X.K G da)
abbrev POd (X : Cx) (G : Gx) (e : Option Expr) (d : DO) : Prop := PO X e (toOf X.K G d)
abbrev PSd (X : Cx) (G : Gx) (st : Stmt) (ds : DS) : Prop := PS X st (tsOf X.K G ds)
abbrev PSsd (X : Cx) (G : Gx) (sts : List Stmt) (ds : DS) : Prop := PSs X sts (tsOf X.K G ds)
abbrev PGd (X : Cx) (G : Gx) (tg : Expr) (dg : DG) : Prop := PG X tg (tgOf X.K G dg)
abbrev PGsd (X : Cx) (G : Gx) (tgs : List Expr) (dg : DGs) : Prop := PGs X tgs (tgsOf X.K G dg)
abbrev PId (X : Cx) (G : Gx) (tg iter : Expr) (di : DI) : Prop := PI X tg iter (tiOf X.K G di)

section
variable {X : Cx}
theorem PE.imp {e : Expr} {t t' : TE} (h : PE X e t) (w : ∀ σ H Q, t' σ H Q → t σ H Q) : PE X e t' := ⟨fun pins s σ H Q I q => h.run pins s σ H Q I (w σ H Q q)⟩
theorem PT.imp {e : Expr} {t t' : TT} (h : PT X e t) (w : ∀ σ H Q, t' σ H Q → t σ H Q) : PT X e t' := ⟨fun pins s σ H Q I q => h.run pins s σ H Q I (w σ H Q q)⟩
theorem PW.imp {e : Expr} {t t' : TT} (h : PW X e t) (w : ∀ σ H Q, t' σ H Q → t σ H Q) : PW X e t' := ⟨fun whole pins s σ H Q I q => h.run whole pins s σ H Q I (w σ H Q q)⟩
theorem PA.imp {e : List Expr} {t t' : TA} (h : PA X e t) (w : ∀ σ H Q, t' σ H Q → t σ H Q) : PA X e t' := ⟨fun pos pins s σ H Q I q => h.run pos pins s σ H Q I (w σ H Q q)⟩
theorem PO.imp {e : Option Expr} {t t' : TO} (h : PO X e t) (w : ∀ σ H Q, t' σ H Q → t σ H Q) : PO X e t' := ⟨fun pins s σ H Q I q => h.run pins s σ H Q I (w σ H Q q)⟩
theorem PS.imp {e : Stmt} {t t' : TS} (h : PS X e t) (w : ∀ D σ H, t' D σ H → t D σ H) : PS X e t' := ⟨fun pins s σ H D I q => h.run pins s σ H D I (w D σ H q)⟩
theorem PSs.imp {e : List Stmt} {t t' : TS} (h : PSs X e t) (w : ∀ D σ H, t' D σ H → t D σ H) : PSs X e t' := ⟨fun pins s σ H D I q => h.run pins s σ H D I (w D σ H q)⟩
theorem PG.imp {e : Expr} {t t' : TG} (h : PG X e t) (w : ∀ v σ H Q, t' v σ H Q → t v σ H Q) : PG X e t' := ⟨fun pins s σ H v u Q I r q => h.run pins s σ H v u Q I r (w v σ H Q q)⟩
theorem PGs.imp {e : List Expr} {t t' : TGs} (h : PGs X e t) (w : ∀ v σ H Q, t' v σ H Q → t v σ H Q) : PGs X e t' := ⟨fun pins s σ H v u Q I r q => h.run pins s σ H v u Q I r (w v σ H Q q)⟩
theorem PI.imp {tg e : Expr} {t t' : TI} (h : PI X tg e t) (w : ∀ σ H Q, t' σ H Q → t σ H Q) : PI X tg e t' := ⟨fun pins s σ H Q I q => h.run pins s σ H Q I (w σ H Q q)⟩
end

/-! ### names, constants -/
def deName (i : Nat) : DE := fun δ P => ∃ d, δ[i]? = some (.dat d) ∧ P d
def deC (d : D) : DE := fun _ P => P d
section
variable {X : Cx} {G : Gx}
theorem pd_name {i : Nat} {x : Str} {pos : Pos} (h : PE X (.Name x pos) (tVar i)) : PEd X G (.Name x pos) (deName i) := PE.imp h fun σ H Q ⟨B, δ, P, s, ⟨d, hd, p⟩, q⟩ => by
  obtain ⟨v, e, r⟩ := s.dat hd
  exact ⟨v, e, q v d B H s.here p r⟩
theorem pd_c {e : Expr} {v : V} {d : D} (h : PE X e (tC v)) (r : ∀ B, Rp X.K B v d) : PEd X G e (deC d) := PE.imp h fun σ H Q ⟨B, δ, P, s, p, q⟩ => q v d B H s.here p (r B)
theorem pd_int {i : Int} {j : Nat} {pos : Pos} : PEd X G (.Constant (.int i) j pos) (deC (.int i)) := pd_c pe_int fun _ => .int i
theorem pd_bl {b : Bool} {j : Nat} {pos : Pos} : PEd X G (.Constant (.bool b) j pos) (deC (.bl b)) := pd_c pe_bl fun _ => .bl b
theorem pd_non {j : Nat} {pos : Pos} : PEd X G (.Constant .none j pos) (deC .non) := pd_c pe_non fun _ => .non
theorem pd_str {x : Str} {j : Nat} {pos : Pos} : PEd X G (.Constant (.str x) j pos) (deC (.str x)) := pd_c pe_str fun _ => .str x
/-- a constant of the module -/
theorem pd_gint {x : Str} {i : Int} {pos : Pos} (hm : ∃ t, X.mg x = some (.int i t)) (hg : Gl X x := by rfl) (hd : (x == ("__debug__" : Str)) = false := by decide) : PEd X G (.Name x pos) (deC (.int i)) := by
  obtain ⟨t, hm⟩ := hm
  exact pd_c (pe_glob (v := .int i) hg hm ⟨t, rfl⟩ hd) fun _ => .int i
/-- a def of the module, a class, as a value -/
theorem pd_gref {x : Str} {f : Addr} {pos : Pos} (hm : X.mg x = some (.ref f)) (hg : Gl X x := by rfl) (hd : (x == ("__debug__" : Str)) = false := by decide) : PEd X G (.Name x pos) (deC (.raw (.ref f))) :=
  pd_c (pe_glob (v := .ref f) hg hm rfl hd) fun _ => .raw _
/-- a built-in class, as a value -/
theorem pd_ty {x : Str} {n : String} {pos : Pos} (hm : X.mg x = none) (hv : bootBuiltins x = some (.type n)) (hg : Gl X x := by rfl) (hn : x ≠ "__name__" := by decide) (hd : (x == ("__debug__" : Str)) = false := by decide) : PEd X G (.Name x pos) (deC (.raw (.ty n))) :=
  pd_c (pe_bltn (v := .ty n) hg hm hv rfl hn hd) fun _ => .raw _
end

/-! ### operators -/
def Snd2 (K : PySem.W.Frag) (F : Fs) (r : R2) (rd : D → D → (D → Prop) → Prop) : Prop := ∀ (x y : V) (d e : D) (B H : Hp) (P : D → Prop) (Q : VK), Ex B H → Fok K F B H → Rp K B x d → Rp K B y e → rd d e P →
  (∀ v z B' H', Fm K F B H B' H' → P z → Rp K B' v z → Q v H') → r x y H Q
def Snd1 (K : PySem.W.Frag) (F : Fs) (r : V → Hp → VK → Prop) (rd : D → (D → Prop) → Prop) : Prop := ∀ (x : V) (d : D) (B H : Hp) (P : D → Prop) (Q : VK), Ex B H → Fok K F B H → Rp K B x d → rd d P →
  (∀ v z B' H', Fm K F B H B' H' → P z → Rp K B' v z → Q v H') → r x H Q
def SndC (K : PySem.W.Frag) (F : Fs) (r : List V → Hp → VK → Prop) (rd : List D → (D → Prop) → Prop) : Prop := ∀ (xs : List V) (ds : List D) (B H : Hp) (P : D → Prop) (Q : VK), Ex B H → Fok K F B H → RpA K B xs ds → rd ds P →
  (∀ v z B' H', Fm K F B H B' H' → P z → Rp K B' v z → Q v H') → r xs H Q
def de2 (rd : D → D → (D → Prop) → Prop) (da db : DE) : DE := fun δ P => da δ fun x => db δ fun y => rd x y P
def de1 (rd : D → (D → Prop) → Prop) (da : DE) : DE := fun δ P => da δ fun x => rd x P
def deB (rd : List D → (D → Prop) → Prop) (da : DA) : DE := fun δ P => da δ fun ds => rd ds P
section
variable {X : Cx} {G : Gx} {a b c : Expr} {da db dc : DE} {pos : Pos} {rd : D → D → (D → Prop) → Prop} {r : R2}
theorem te2 {K : PySem.W.Frag} (sd : Snd2 K G.F r rd) : ∀ σ H Q, teOf K G (de2 rd da db) σ H Q → tOp r (teOf K G da) (teOf K G db) σ H Q := fun σ H Q ⟨B, δ, P, s, h, q⟩ =>
  ⟨B, δ, _, s, h, fun x d B1 H1 m1 p1 r1 => ⟨B1, δ, _, s.mono m1, p1, fun y e B2 H2 m2 p2 r2 => sd x y d e B2 H2 P Q m2.e m2.f (r1.mono m2.b) r2 p2 fun v z B' H' m3 p3 r3 => q v z B' H' ((m1.trans m2).trans m3) p3 r3⟩⟩
theorem pd_op {op : Operator} (ho : OpR X (binaryOp op) r) (sd : Snd2 X.K G.F r rd) (ha : PEd X G a da) (hb : PEd X G b db) : PEd X G (.BinOp a op b pos) (de2 rd da db) := PE.imp (pe_op ho ha hb) (te2 sd)
theorem pd_cmp {op : CmpOp} (ho : OpR X (compareOp op) r) (sd : Snd2 X.K G.F r rd) (ha : PEd X G a da) (hb : PEd X G b db) (hm : behindInMarks op b = false) : PEd X G (.Compare a [op] [b] pos) (de2 rd da db) := PE.imp (pe_cmpR ho ha hb hm) (te2 sd)
theorem pd_ix {r' : R2} (ho : IxR X r') (sd : Snd2 X.K G.F r' rd) (ha : PEd X G a da) (hb : PEd X G b db) (hs : PlainIx b := by exact fun _ _ => rfl) : PEd X G (.Subscript a b pos) (de2 rd da db) := PE.imp (pe_ix ho ha hb hs) (te2 sd)
/-- a op1 b op2 c -/
def deChain (rd rd' : D → D → (D → Prop) → Prop) (da db dc : DE) : DE := fun δ P => da δ fun x => db δ fun y => rd x y fun z => ∃ k, z = .bl k ∧ if k = true then dc δ fun w => rd' y w P else P (.bl false)
theorem pd_chain {op op' : CmpOp} {r' : R2} {rd' : D → D → (D → Prop) → Prop} (ho : OpR X (compareOp op) r) (ho' : OpR X (compareOp op') r') (sd : Snd2 X.K G.F r rd) (sd' : Snd2 X.K G.F r' rd') (ha : PEd X G a da) (hb : PEd X G b db) (hc : PEd X G c dc)
    (hm : lastMarks [op, op'] [b, c] = false := by with_unfolding_all rfl) : PEd X G (.Compare a [op, op'] [b, c] pos) (deChain rd rd' da db dc) :=
  PE.imp (pe_chain ho ho' ha hb hc hm) fun σ H Q ⟨B, δ, P, s, h, q⟩ =>
    ⟨B, δ, _, s, h, fun x d B1 H1 m1 p1 r1 => ⟨B1, δ, _, s.mono m1, p1, fun y e B2 H2 m2 p2 r2 => sd x y d e B2 H2 _ _ m2.e m2.f (r1.mono m2.b) r2 p2 fun v z B3 H3 m3 p3 r3 => by
      obtain ⟨k, rfl, p4⟩ := p3
      cases r3
      have m13 := (m1.trans m2).trans m3
      refine ⟨k, rfl, ?_⟩
      cases k with
      | true =>
        exact ⟨B3, δ, _, s.mono m13, p4, fun w f B4 H4 m4 p5 r5 => sd' y w e f B4 H4 P Q m4.e m4.f (r2.mono (m3.b.trans m4.b)) r5 p5 fun v z B' H' m5 p6 r6 => q v z B' H' ((m13.trans m4).trans m5) p6 r6⟩
      | false => exact q _ _ B3 H3 m13 p4 (.bl false)⟩⟩
/-! ints -/
def rdI (g : Int → Int → Int) : D → D → (D → Prop) → Prop := fun x y P => ∃ i j, x = .int i ∧ y = .int j ∧ P (.int (g i j))
def rdIc (C : Int → Int → Prop) (g : Int → Int → Int) : D → D → (D → Prop) → Prop := fun x y P => ∃ i j, x = .int i ∧ y = .int j ∧ C i j ∧ P (.int (g i j))
def rdB (g : Int → Int → Bool) : D → D → (D → Prop) → Prop := fun x y P => ∃ i j, x = .int i ∧ y = .int j ∧ P (.bl (g i j))
theorem snd_I {K : PySem.W.Frag} {F : Fs} {g : Int → Int → Int} : Snd2 K F (rI0 fun i j => .int (g i j)) (rdI g) := fun x y d e B H P Q he hf rx ry ⟨i, j, h1, h2, p⟩ q => by
  subst h1; subst h2; cases rx; cases ry
  exact ⟨i, j, rfl, rfl, q _ _ B H (.refl he hf) p (.int _)⟩
theorem snd_Ic {K : PySem.W.Frag} {F : Fs} {C : Int → Int → Prop} {g : Int → Int → Int} : Snd2 K F (rI C fun i j => .int (g i j)) (rdIc C g) := fun x y d e B H P Q he hf rx ry ⟨i, j, h1, h2, c, p⟩ q => by
  subst h1; subst h2; cases rx; cases ry
  exact ⟨i, j, rfl, rfl, c, q _ _ B H (.refl he hf) p (.int _)⟩
theorem snd_B {K : PySem.W.Frag} {F : Fs} {g : Int → Int → Bool} : Snd2 K F (rI0 fun i j => .bl (g i j)) (rdB g) := fun x y d e B H P Q he hf rx ry ⟨i, j, h1, h2, p⟩ q => by
  subst h1; subst h2; cases rx; cases ry
  exact ⟨i, j, rfl, rfl, q _ _ B H (.refl he hf) p (.bl _)⟩
def rdAdd := rdI fun i j => i + j
def rdSub := rdI fun i j => i - j
def rdMul := rdIc CMul fun i j => i * j
def rdMod := rdIc (fun _ j => 0 < j) fun i j => i % j
def rdDiv := rdIc CDiv fun i j => i / j
def rdPow := rdIc CPow fun i j => i ^ j.toNat
def rdLt := rdB fun i j => decide (i < j)
def rdLe := rdB fun i j => decide (i ≤ j)
def rdGt := rdB fun i j => decide (j < i)
def rdGe := rdB fun i j => decide (j ≤ i)
theorem pd_add (ha : PEd X G a da) (hb : PEd X G b db) : PEd X G (.BinOp a .Add b pos) (de2 rdAdd da db) := pd_op op_add snd_I ha hb
theorem pd_sub (ha : PEd X G a da) (hb : PEd X G b db) : PEd X G (.BinOp a .Sub b pos) (de2 rdSub da db) := pd_op op_sub snd_I ha hb
theorem pd_mul (ha : PEd X G a da) (hb : PEd X G b db) : PEd X G (.BinOp a .Mult b pos) (de2 rdMul da db) := pd_op op_mul snd_Ic ha hb
theorem pd_mod (ha : PEd X G a da) (hb : PEd X G b db) : PEd X G (.BinOp a .Mod b pos) (de2 rdMod da db) := pd_op op_mod snd_Ic ha hb
theorem pd_div (ha : PEd X G a da) (hb : PEd X G b db) : PEd X G (.BinOp a .FloorDiv b pos) (de2 rdDiv da db) := pd_op op_fdiv snd_Ic ha hb
theorem pd_pow (ha : PEd X G a da) (hb : PEd X G b db) : PEd X G (.BinOp a .Pow b pos) (de2 rdPow da db) := pd_op op_pow snd_Ic ha hb
theorem pd_lt (ha : PEd X G a da) (hb : PEd X G b db) : PEd X G (.Compare a [.Lt] [b] pos) (de2 rdLt da db) := pd_cmp op_lt snd_B ha hb (nomark _)
theorem pd_le (ha : PEd X G a da) (hb : PEd X G b db) : PEd X G (.Compare a [.LtE] [b] pos) (de2 rdLe da db) := pd_cmp op_le snd_B ha hb (nomark _)
theorem pd_gt (ha : PEd X G a da) (hb : PEd X G b db) : PEd X G (.Compare a [.Gt] [b] pos) (de2 rdGt da db) := pd_cmp op_gt snd_B ha hb (nomark _)
theorem pd_ge (ha : PEd X G a da) (hb : PEd X G b db) : PEd X G (.Compare a [.GtE] [b] pos) (de2 rdGe da db) := pd_cmp op_ge snd_B ha hb (nomark _)
theorem pd_lele (ha : PEd X G a da) (hb : PEd X G b db) (hc : PEd X G c dc) (hm : lastMarks [CmpOp.LtE, CmpOp.LtE] [b, c] = false := by with_unfolding_all rfl) : PEd X G (.Compare a [.LtE, .LtE] [b, c] pos) (deChain rdLe rdLe da db dc) := pd_chain op_le op_le snd_B snd_B ha hb hc hm
theorem pd_lelt (ha : PEd X G a da) (hb : PEd X G b db) (hc : PEd X G c dc) (hm : lastMarks [CmpOp.LtE, CmpOp.Lt] [b, c] = false := by with_unfolding_all rfl) : PEd X G (.Compare a [.LtE, .Lt] [b, c] pos) (deChain rdLe rdLt da db dc) := pd_chain op_le op_lt snd_B snd_B ha hb hc hm
theorem pd_ltle (ha : PEd X G a da) (hb : PEd X G b db) (hc : PEd X G c dc) (hm : lastMarks [CmpOp.Lt, CmpOp.LtE] [b, c] = false := by with_unfolding_all rfl) : PEd X G (.Compare a [.Lt, .LtE] [b, c] pos) (deChain rdLt rdLe da db dc) := pd_chain op_lt op_le snd_B snd_B ha hb hc hm
/-! -a -/
def rdNeg : D → (D → Prop) → Prop := fun x P => ∃ i, x = .int i ∧ P (.int (-i))
theorem pd_neg (ha : PEd X G a da) : PEd X G (.UnaryOp .USub a pos) (de1 rdNeg da) := PE.imp (pe_un un_neg ha) fun σ H Q ⟨B, δ, P, s, h, q⟩ =>
  ⟨B, δ, _, s, h, fun x d B1 H1 m1 ⟨i, e, p⟩ r1 => by
    subst e; cases r1
    exact ⟨i, rfl, q _ _ B1 H1 m1 p (.int _)⟩⟩
/-! is None, is True -/
def D.isNon : D → Bool
  | .non => true
  | _ => false
/-- no raw value -/
def D.cooked : D → Bool
  | .raw _ => false
  | _ => true
theorem Rp.isNon {K : PySem.W.Frag} {B : Hp} {v : V} {d : D} (r : Rp K B v d) (c : d.cooked = true) : decide (v = V.non) = d.isNon := by
  cases r <;> first | rfl | cases c
def rdIsN : D → D → (D → Prop) → Prop := fun x y P => y = .non ∧ x.cooked = true ∧ P (.bl x.isNon)
def rdNotN : D → D → (D → Prop) → Prop := fun x y P => y = .non ∧ x.cooked = true ∧ P (.bl (!x.isNon))
theorem pd_isN (ha : PEd X G a da) (hb : PEd X G b db) : PEd X G (.Compare a [.Is] [b] pos) (de2 rdIsN da db) :=
  pd_cmp op_isN (fun x y d e B H P Q he hf rx ry ⟨h1, h2, p⟩ q => by
    subst h1; cases ry
    refine ⟨rfl, ?_⟩
    rw [rx.isNon h2]
    exact q _ _ B H (.refl he hf) p (.bl _)) ha hb (nomark _)
theorem pd_notN (ha : PEd X G a da) (hb : PEd X G b db) : PEd X G (.Compare a [.IsNot] [b] pos) (de2 rdNotN da db) :=
  pd_cmp op_notN (fun x y d e B H P Q he hf rx ry ⟨h1, h2, p⟩ q => by
    subst h1; cases ry
    refine ⟨rfl, ?_⟩
    rw [rx.isNon h2]
    exact q _ _ B H (.refl he hf) p (.bl _)) ha hb (nomark _)
def rdIsB : D → D → (D → Prop) → Prop := fun x y P => ∃ i j, x = .bl i ∧ y = .bl j ∧ P (.bl (decide (i = j)))
def rdNotB : D → D → (D → Prop) → Prop := fun x y P => ∃ i j, x = .bl i ∧ y = .bl j ∧ P (.bl (!decide (i = j)))
theorem pd_isB (ha : PEd X G a da) (hb : PEd X G b db) : PEd X G (.Compare a [.Is] [b] pos) (de2 rdIsB da db) :=
  pd_cmp op_isBl (fun x y d e B H P Q he hf rx ry ⟨i, j, h1, h2, p⟩ q => by
    subst h1; subst h2; cases rx; cases ry
    exact ⟨i, j, rfl, rfl, q _ _ B H (.refl he hf) p (.bl _)⟩) ha hb (nomark _)
theorem pd_notB (ha : PEd X G a da) (hb : PEd X G b db) : PEd X G (.Compare a [.IsNot] [b] pos) (de2 rdNotB da db) :=
  pd_cmp op_notBl (fun x y d e B H P Q he hf rx ry ⟨i, j, h1, h2, p⟩ q => by
    subst h1; subst h2; cases rx; cases ry
    exact ⟨i, j, rfl, rfl, q _ _ B H (.refl he hf) p (.bl _)⟩) ha hb (nomark _)
end

/-! ### == of data -/
mutual
def D.py : D → PyData
  | .non => .none
  | .bl b => .bool b
  | .int i => .int i
  | .str s => .str s
  | .lst xs => .list (D.pyA xs)
  | .tup xs => .tuple (D.pyA xs)
  | _ => .none
def D.pyA : List D → List PyData
  | [] => []
  | d :: ds => D.py d :: D.pyA ds
end
mutual
/-- plain data: None, bools, ints, texts, lists, tuples -/
def D.plain : D → Bool
  | .non => true
  | .bl _ => true
  | .int _ => true
  | .str _ => true
  | .lst xs => D.plainA xs
  | .tup xs => D.plainA xs
  | _ => false
def D.plainA : List D → Bool
  | [] => true
  | d :: ds => D.plain d && D.plainA ds
end
section
variable {K : PySem.W.Frag} {B : Hp}
mutual
theorem Rp.dp : ∀ {v : V} {d : D}, Rp K B v d → d.plain = true → Dp K B v d.py
  | _, _, .non, _ => .non
  | _, _, .bl b, _ => .bl b
  | _, _, .int i, _ => .int i
  | _, _, .str s, _ => .str s
  | _, _, .lst h r, p => .lst (SqL.of h) (RpA.dp r (by simpa [D.plain] using p))
  | _, _, .tup h r, p => .tup h (RpA.dp r (by simpa [D.plain] using p))
  | _, _, .raw v, p => by cases p
  | _, _, .dct h, p => by cases p
  | _, _, .ln h h2 hf ht r, p => by cases p
theorem RpA.dp : ∀ {vs : List V} {ds : List D}, RpA K B vs ds → D.plainA ds = true → DpAll K B vs (D.pyA ds)
  | _, _, .nil, _ => .nil
  | _, _, .cons h r, p => by
    have p' := Bool.and_eq_true_iff.mp (by simpa only [D.plainA] using p)
    exact .cons (Rp.dp h p'.1) (RpA.dp r p'.2)
end
end
mutual
theorem dp_ex {K : PySem.W.Frag} {H H' : Hp} (e : Ex H H') : ∀ {v : V} {d : PyData}, Dp K H v d → Dp K H' v d
  | _, _, .non => .non
  | _, _, .bl b => .bl b
  | _, _, .int i => .int i
  | _, _, .str s => .str s
  | _, _, .lst h r => .lst (exL e h) (dpA_ex e r)
  | _, _, .tup h r => .tup (exT e h) (dpA_ex e r)
theorem dpA_ex {K : PySem.W.Frag} {H H' : Hp} (e : Ex H H') : ∀ {v : List V} {d : List PyData}, DpAll K H v d → DpAll K H' v d
  | _, _, .nil => .nil
  | _, _, .cons h r => .cons (dp_ex e h) (dpA_ex e r)
end
/-- plain, and of a form that == takes -/
def D.eqOk (d : D) : Bool := d.plain && SeqAt.shaped d.py
def D.eqv (d e : D) : Bool := PyData.eqv d.py e.py
theorem D.eqv_refl {d : D} (h : d.eqOk = true) : d.eqv d = true := SeqAt.eqv_refl _ (SeqAt.canLay_of_shaped (Bool.and_eq_true_iff.mp h).2)
section
variable {X : Cx} {G : Gx} {a b c : Expr} {da db dc : DE} {pos : Pos}
def rdEq : D → D → (D → Prop) → Prop := fun x y P => x.eqOk = true ∧ y.eqOk = true ∧ P (.bl (x.eqv y))
def rdNe : D → D → (D → Prop) → Prop := fun x y P => x.eqOk = true ∧ y.eqOk = true ∧ P (.bl (!x.eqv y))
theorem pd_eq (hu : X.A.units + 64 < cLine) (ha : PEd X G a da) (hb : PEd X G b db) : PEd X G (.Compare a [.Eq] [b] pos) (de2 rdEq da db) :=
  pd_cmp (op_eqD hu) (fun x y d e B H P Q he hf rx ry ⟨h1, h2, p⟩ q => by
    have p1 := Bool.and_eq_true_iff.mp h1
    have p2 := Bool.and_eq_true_iff.mp h2
    exact ⟨d.py, e.py, dp_ex he (rx.dp p1.1), dp_ex he (ry.dp p2.1), p1.2, p2.2, q _ _ B H (.refl he hf) p (.bl _)⟩) ha hb (nomark _)
theorem pd_ne (hu : X.A.units + 64 < cLine) (ha : PEd X G a da) (hb : PEd X G b db) : PEd X G (.Compare a [.NotEq] [b] pos) (de2 rdNe da db) :=
  pd_cmp (op_neD hu) (fun x y d e B H P Q he hf rx ry ⟨h1, h2, p⟩ q => by
    have p1 := Bool.and_eq_true_iff.mp h1
    have p2 := Bool.and_eq_true_iff.mp h2
    exact ⟨d.py, e.py, dp_ex he (rx.dp p1.1), dp_ex he (ry.dp p2.1), p1.2, p2.2, q _ _ B H (.refl he hf) p (.bl _)⟩) ha hb (nomark _)
end

/-! ### and, or, not, if -/
section
variable {X : Cx} {G : Gx} {a b c e : Expr} {rest : List Expr} {da db dc : DE} {ta tb : DT} {pos : Pos}
def deAnd (da db : DE) : DE := fun δ P => da δ fun x => ∃ k, x = .bl k ∧ if k = true then db δ P else P (.bl false)
def deOr (da db : DE) : DE := fun δ P => da δ fun x => ∃ k, x = .bl k ∧ if k = true then P (.bl true) else db δ P
def deNot (da : DE) : DE := fun δ P => da δ fun x => ∃ k, x = .bl k ∧ P (.bl (!k))
theorem pd_one {op : BoolOp} (h : PEd X G a da) : PEd X G (.BoolOp op [a] pos) da := pe_one h
theorem pd_and (ha : PEd X G a da) (hb : PEd X G (.BoolOp .And (b :: rest) pos) db) : PEd X G (.BoolOp .And (a :: b :: rest) pos) (deAnd da db) := PE.imp (pe_and ha hb) fun σ H Q ⟨B, δ, P, s, h, q⟩ =>
  ⟨B, δ, _, s, h, fun x d B1 H1 m1 ⟨k, e, p⟩ r1 => by
    subst e; cases r1
    refine ⟨k, rfl, ?_⟩
    cases k with
    | true => exact ⟨B1, δ, P, s.mono m1, p, fun v d B' H' m => q v d B' H' (m1.trans m)⟩
    | false => exact q _ _ B1 H1 m1 p (.bl _)⟩
theorem pd_or (ha : PEd X G a da) (hb : PEd X G (.BoolOp .Or (b :: rest) pos) db) : PEd X G (.BoolOp .Or (a :: b :: rest) pos) (deOr da db) := PE.imp (pe_or ha hb) fun σ H Q ⟨B, δ, P, s, h, q⟩ =>
  ⟨B, δ, _, s, h, fun x d B1 H1 m1 ⟨k, e, p⟩ r1 => by
    subst e; cases r1
    refine ⟨k, rfl, ?_⟩
    cases k with
    | false => exact ⟨B1, δ, P, s.mono m1, p, fun v d B' H' m => q v d B' H' (m1.trans m)⟩
    | true => exact q _ _ B1 H1 m1 p (.bl _)⟩
theorem pd_not (ha : PEd X G a da) : PEd X G (.UnaryOp .Not a pos) (deNot da) := PE.imp (pe_not ha) fun σ H Q ⟨B, δ, P, s, h, q⟩ =>
  ⟨B, δ, _, s, h, fun x d B1 H1 m1 ⟨k, e, p⟩ r1 => by
    subst e; cases r1
    exact ⟨k, rfl, q _ _ B1 H1 m1 p (.bl _)⟩⟩
/-! tests -/
def dtV (da : DE) : DT := fun δ P => da δ fun x => ∃ k, x = .bl k ∧ P k
theorem ptd_val (h : PEd X G e da) (he : ∀ whole, isTrue e X.env whole = (do let v ← whole; standAt e.pos; holding [v] (truthy v)) := by intro _; rfl) : PTd X G e (dtV da) := PT.imp (pt_val h he) fun σ H Q ⟨B, δ, P, s, h, q⟩ =>
  ⟨B, δ, _, s, h, fun x d B1 H1 m1 ⟨k, e, p⟩ r1 => by
    subst e; cases r1
    exact ⟨k, rfl, q _ B1 H1 m1 p⟩⟩
def dtAnd (ta tb : DT) : DT := fun δ P => ta δ fun k => if k = true then tb δ P else P false
def dtOr (ta tb : DT) : DT := fun δ P => ta δ fun k => if k = true then P true else tb δ P
def dtNot (ta : DT) : DT := fun δ P => ta δ fun k => P (!k)
theorem pwd_and1 (ha : PTd X G a ta) : PWd X G (.BoolOp .And [a] pos) ta := pw_and1 ha
theorem pwd_or1 (ha : PTd X G a ta) : PWd X G (.BoolOp .Or [a] pos) ta := pw_or1 ha
theorem pwd_and (ha : PTd X G a ta) (hb : PWd X G (.BoolOp .And (b :: rest) pos) tb) : PWd X G (.BoolOp .And (a :: b :: rest) pos) (dtAnd ta tb) := PW.imp (pw_and ha hb) fun σ H Q ⟨B, δ, P, s, h, q⟩ =>
  ⟨B, δ, _, s, h, fun k B1 H1 m1 p => by
    cases k with
    | true => exact ⟨B1, δ, P, s.mono m1, p, fun b B' H' m => q b B' H' (m1.trans m)⟩
    | false => exact q _ B1 H1 m1 p⟩
theorem pwd_or (ha : PTd X G a ta) (hb : PWd X G (.BoolOp .Or (b :: rest) pos) tb) : PWd X G (.BoolOp .Or (a :: b :: rest) pos) (dtOr ta tb) := PW.imp (pw_or ha hb) fun σ H Q ⟨B, δ, P, s, h, q⟩ =>
  ⟨B, δ, _, s, h, fun k B1 H1 m1 p => by
    cases k with
    | false => exact ⟨B1, δ, P, s.mono m1, p, fun b B' H' m => q b B' H' (m1.trans m)⟩
    | true => exact q _ B1 H1 m1 p⟩
theorem ptd_w (h : PWd X G e ta) : PTd X G e ta := PW.pt h
theorem ptd_not (ha : PTd X G a ta) : PTd X G (.UnaryOp .Not a pos) (dtNot ta) := PT.imp (pt_not ha) fun σ H Q ⟨B, δ, P, s, h, q⟩ => ⟨B, δ, _, s, h, fun k B1 H1 m1 p => q _ B1 H1 m1 p⟩
def deIf (tc : DT) (da db : DE) : DE := fun δ P => tc δ fun k => if k = true then da δ P else db δ P
theorem pd_ifExp (hc : PTd X G c ta) (ha : PEd X G a da) (hb : PEd X G b db) : PEd X G (.IfExp c a b pos) (deIf ta da db) := PE.imp (pe_ifExp hc ha hb) fun σ H Q ⟨B, δ, P, s, h, q⟩ =>
  ⟨B, δ, _, s, h, fun k B1 H1 m1 p => by
    cases k with
    | true => exact ⟨B1, δ, P, s.mono m1, p, fun v d B' H' m => q v d B' H' (m1.trans m)⟩
    | false => exact ⟨B1, δ, P, s.mono m1, p, fun v d B' H' m => q v d B' H' (m1.trans m)⟩⟩
end
end Sd
end
-- SdCalls
section
set_option Elab.async false
set_option linter.all false
set_option maxRecDepth 100000
set_option maxHeartbeats 4000000
set_option autoImplicit false
namespace Sd
open PySem PySem.Spec PyProof.Rows L2
open Evl (Ex)

theorem size_ok {n : Nat} (h : n ≤ 100000) : n ≤ sizeLine := Evl.sz_of h
theorem size_lt {n : Nat} (h : n < 100000) : n < sizeLine := Evl.sz_lt h

/-! ### arguments, displays -/
def D.seq : D → Option (List D)
  | .lst xs => some xs
  | .tup xs => some xs
  | _ => none
def daNil : DA := fun _ P => P []
def daCons (de : DE) (da : DA) : DA := fun δ P => de δ fun x => da δ fun xs => P (x :: xs)
def daStar (de : DE) (da : DA) : DA := fun δ P => de δ fun x => ∃ xs, x.seq = some xs ∧ da δ fun ys => P (xs ++ ys)
def deTup (da : DA) : DE := fun δ P => da δ fun ds => ds.length ≤ 100000 ∧ P (.tup ds)
def deLst (da : DA) : DE := fun δ P => da δ fun ds => ds.length ≤ 100000 ∧ P (.lst ds)
section
variable {X : Cx} {G : Gx} {e : Expr} {es : List Expr} {de : DE} {da : DA} {pos p : Pos}
theorem seq_any {K : PySem.W.Frag} {B H : Hp} {v : V} {d : D} {xs : List D} (e : Ex B H) (r : Rp K B v d) (h : d.seq = some xs) : ∃ a vs, v = .ref a ∧ (SqL K H a vs ∨ SqT K H a vs) ∧ RpA K B vs xs := by
  cases r with
  | lst h1 r => cases h; exact ⟨_, _, rfl, .inl (SqL.of (e _ _ h1)), r⟩
  | tup h1 r => cases h; exact ⟨_, _, rfl, .inr (exT e h1), r⟩
  | _ => cases h
/-- the end where a new list, a new tuple is made -/
theorem newL {K : PySem.W.Frag} {F : Fs} {B H B1 H1 : Hp} {P : D → Prop} {Q : VK} {vs : List V} {ds : List D} {p : Addr} (q : ∀ v z B' H', Fm K F B H B' H' → P z → Rp K B' v z → Q v H') (m1 : Fm K F B H B1 H1) (ra : RpA K B1 vs ds) (pz : P (.lst ds)) (hp : H1 p = none) : Q (.ref p) (upd H1 p (.lst vs)) := by
  have m2 := Fm.new (o := .lst vs) m1.e m1.f hp
  exact q _ _ _ _ (m1.trans m2) pz (.lst upd_same (ra.mono m2.b))
theorem newT {K : PySem.W.Frag} {F : Fs} {B H B1 H1 : Hp} {P : D → Prop} {Q : VK} {vs : List V} {ds : List D} {p : Addr} (q : ∀ v z B' H', Fm K F B H B' H' → P z → Rp K B' v z → Q v H') (m1 : Fm K F B H B1 H1) (ra : RpA K B1 vs ds) (pz : P (.tup ds)) (hp : H1 p = none) : Q (.ref p) (upd H1 p (.tup vs)) := by
  have m2 := Fm.new (o := .tup vs) m1.e m1.f hp
  exact q _ _ _ _ (m1.trans m2) pz (.tup (SqT.of upd_same) (ra.mono m2.b))
theorem pad_nil : PAd X G [] daNil := PA.imp pa_nil fun σ H Q ⟨B, δ, P, s, p, q⟩ => q [] [] B H s.here p .nil
theorem pad_cons (he : PEd X G e de) (hr : PAd X G es da) (hs : starEach (e :: es) X.env = (false, eval e X.env) :: starEach es X.env := by rfl) : PAd X G (e :: es) (daCons de da) := PA.imp (pa_cons he hr hs) fun σ H Q ⟨B, δ, P, s, h, q⟩ =>
  ⟨B, δ, _, s, h, fun x d B1 H1 m1 p1 r1 => ⟨B1, δ, _, s.mono m1, p1, fun xs ds B2 H2 m2 p2 r2 => q _ _ B2 H2 (m1.trans m2) p2 (.cons (r1.mono m2.b) r2)⟩⟩
theorem pad_star (he : PEd X G e de) (hr : PAd X G es da) (hs : starEach (.Starred e p :: es) X.env = (true, eval e X.env) :: starEach es X.env := by rfl) : PAd X G (.Starred e p :: es) (daStar de da) := PA.imp (StX.pa_star he hr hs) fun σ H Q ⟨B, δ, P, s, h, q⟩ =>
  ⟨B, δ, _, s, h, fun x d B1 H1 m1 ⟨xs, e, p1⟩ r1 => by
    obtain ⟨a, vs, rfl, hq, ra⟩ := seq_any m1.e r1 e
    exact ⟨a, vs, rfl, hq.symm, B1, δ, _, s.mono m1, p1, fun ws ds B2 H2 m2 p2 r2 => q _ _ B2 H2 (m1.trans m2) p2 ((ra.mono m2.b).app r2)⟩⟩
theorem pd_tup {k : Nat} (h : PAd X G es da) : PEd X G (.Tuple es k pos) (deTup da) := PE.imp (pe_tup h) fun σ H Q ⟨B, δ, P, s, h, q⟩ =>
  ⟨B, δ, _, s, h, fun xs ds B1 H1 m1 ⟨hl, p1⟩ r1 => ⟨by rw [r1.length]; exact size_ok hl, fun p hp => newT q m1 r1 p1 hp⟩⟩
theorem pd_lst (h : PAd X G es da) : PEd X G (.List es pos) (deLst da) := PE.imp (pe_lst h) fun σ H Q ⟨B, δ, P, s, h, q⟩ =>
  ⟨B, δ, _, s, h, fun xs ds B1 H1 m1 ⟨hl, p1⟩ r1 => ⟨by rw [r1.length]; exact size_ok hl, fun p hp => newL q m1 r1 p1 hp⟩⟩
end

/-! ### items, slices -/
theorem RpA.atI {K : PySem.W.Frag} {B : Hp} {vs : List V} {ds : List D} {i : Int} {d : D} (r : RpA K B vs ds) (h : L2.atI ds i = some d) : ∃ v, L2.atI vs i = some v ∧ Rp K B v d := by
  unfold L2.atI at h ⊢
  rw [r.length]
  cases e : ixN ds.length i with
  | none => rw [e] at h; cases h
  | some j =>
    rw [e] at h
    exact r.at h
def D.ix (x y : D) : Option D := match x.seq, y with
  | some xs, .int i => L2.atI xs i
  | _, _ => none
def rdIx : D → D → (D → Prop) → Prop := fun x y P => ∃ z, x.ix y = some z ∧ P z
def cut {α : Type} (xs : List α) (lo hi : Option Int) : List α := (xs.drop (HT.sIx xs.length 0 lo)).take (HT.sIx xs.length xs.length hi - HT.sIx xs.length 0 lo)
theorem RpA.cut {K : PySem.W.Frag} {B : Hp} {vs : List V} {ds : List D} (r : RpA K B vs ds) (lo hi : Option Int) : RpA K B (cutV vs lo hi) (Sd.cut ds lo hi) := by
  unfold cutV Sd.cut
  rw [r.length]
  exact (r.drop _).take _
theorem cut_whole {α : Type} {xs : List α} {lo hi : Option Int} (h : HT.sIx xs.length 0 lo = 0 ∧ HT.sIx xs.length xs.length hi = xs.length) : cut xs lo hi = xs := by
  unfold cut
  rw [h.1, h.2]
  simp
def D.sl (x : D) (lo hi : Option Int) : Option D := match x with
  | .lst xs => some (.lst (cut xs lo hi))
  | .tup xs => some (.tup (cut xs lo hi))
  | _ => none
def doNone : DO := fun _ P => P none
def doSome (de : DE) : DO := fun δ P => de δ fun x => ∃ i, x = .int i ∧ P (some i)
def deSl (de : DE) (l u : DO) : DE := fun δ P => de δ fun x => l δ fun lo => u δ fun hi => ∃ z, x.sl lo hi = some z ∧ P z
section
variable {X : Cx} {G : Gx} {a b e : Expr} {da db de : DE} {pos p2 : Pos} {lo hi : Option Expr} {dl dh : DO}
theorem pd_item (ha : PEd X G a da) (hb : PEd X G b db) (hs : PlainIx b := by exact fun _ _ => rfl) : PEd X G (.Subscript a b pos) (de2 rdIx da db) :=
  pd_ix ix_seq (fun x y d e B H P Q he hf rx ry ⟨z, h, p⟩ q => by
    unfold D.ix at h
    cases hq : d.seq with
    | none => rw [hq] at h; cases h
    | some xs =>
      rw [hq] at h
      cases e with
      | int i =>
        cases ry
        obtain ⟨t, vs, rfl, hs, ra⟩ := seq_any he rx hq
        obtain ⟨v, ev, rv⟩ := ra.atI h
        rcases hs with hs | hs
        · exact .inl ⟨t, vs, i, v, rfl, rfl, hs, ev, q _ _ B H (.refl he hf) p rv⟩
        · exact .inr (.inl ⟨t, vs, i, v, rfl, rfl, hs, ev, q _ _ B H (.refl he hf) p rv⟩)
      | _ => cases h) ha hb hs
theorem pod_none : POd X G none doNone := PO.imp po_none fun σ H Q ⟨B, δ, P, s, p, q⟩ => q none B H s.here p
theorem pod_some (h : PEd X G e de) : POd X G (some e) (doSome de) := PO.imp (po_some h) fun σ H Q ⟨B, δ, P, s, h, q⟩ =>
  ⟨B, δ, _, s, h, fun x d B1 H1 m1 ⟨i, e, p⟩ r1 => by
    subst e; cases r1
    exact ⟨i, rfl, q _ B1 H1 m1 p⟩⟩
theorem pd_slice (he : PEd X G e de) (hl : POd X G lo dl) (hu : POd X G hi dh) : PEd X G (.Subscript e (.Slice lo hi none p2) pos) (deSl de dl dh) := PE.imp (pe_slice (SlR.or sl_list sl_tupA) he hl hu) fun σ H Q ⟨B, δ, P, s, h, q⟩ =>
  ⟨B, δ, _, s, h, fun x d B1 H1 m1 p1 r1 => ⟨B1, δ, _, s.mono m1, p1, fun o B2 H2 m2 p2 => ⟨B2, δ, _, s.mono (m1.trans m2), p2, fun o' B3 H3 m3 ⟨z, ez, p3⟩ => by
    have m := (m1.trans m2).trans m3
    have r3 := r1.mono (m2.b.trans m3.b)
    cases r3 with
    | lst h1 ra =>
      cases ez
      refine .inl ⟨_, _, rfl, SqL.of (m3.e _ _ h1), fun p hp => newL q m (ra.cut o o') p3 hp⟩
    | tup h1 ra =>
      cases ez
      refine .inr ⟨_, _, rfl, exT m3.e h1, fun w => ?_, fun w p hp => newT q m (ra.cut o o') p3 hp⟩
      · rw [ra.length] at w
        refine q _ _ B3 H3 m p3 ?_
        rw [cut_whole w]
        exact .tup h1 ra
    | _ => cases ez⟩⟩⟩
/-- xs[::-1] -/
def rdRev : D → (D → Prop) → Prop := fun x P => ∃ xs, x = .lst xs ∧ P (.lst xs.reverse)
theorem pd_rev {k : Nat} {p1 p2 p3 : Pos} (he : PEd X G e de) : PEd X G (.Subscript e (.Slice none none (some (.UnaryOp .USub (.Constant (.int 1) k p1) p2)) p3) pos) (de1 rdRev de) := PE.imp (pe_revL he) fun σ H Q ⟨B, δ, P, s, h, q⟩ =>
  ⟨B, δ, _, s, h, fun x d B1 H1 m1 ⟨xs, e, p⟩ r1 => by
    subst e
    cases r1 with
    | lst h1 ra =>
      refine ⟨_, _, rfl, SqL.of (m1.e _ _ h1), fun p' hp => newL q m1 ra.rev p hp⟩⟩
/-- line.seats -/
def rdSeats : D → (D → Prop) → Prop := fun x P => ∃ xs, x = .ln xs ∧ P (.tup xs)
theorem pd_seats (c : Cls X.K (He.ga X.K "Line")) (n : NoAttr X.K (He.ga X.K "Line") "seats") (he : PEd X G e de) (hb : attributeBase e "seats" X.env (eval e X.env) = eval e X.env := by rfl) : PEd X G (.Attribute e "seats" pos) (de1 rdSeats de) := PE.imp (pe_fld he hb) fun σ H Q ⟨B, δ, P, s, h, q⟩ =>
  ⟨B, δ, _, s, h, fun x d B1 H1 m1 ⟨xs, e, p⟩ r1 => by
    subst e
    cases r1 with
    | ln h1 h2 hf ht ra => exact ⟨_, _, _, _, _, rfl, m1.e _ _ h1, c, n, hf, q _ _ B1 H1 m1 p (.tup ht ra)⟩⟩
/-! + of lists, of tuples; * -/
def rdCatL : D → D → (D → Prop) → Prop := fun x y P => ∃ xs ys, x = .lst xs ∧ y = .lst ys ∧ xs.length + ys.length ≤ 100000 ∧ P (.lst (xs ++ ys))
def rdCatT : D → D → (D → Prop) → Prop := fun x y P => ∃ xs ys, x = .tup xs ∧ y = .tup ys ∧ xs.length + ys.length ≤ 100000 ∧ P (.tup (xs ++ ys))
theorem pd_catL (ha : PEd X G a da) (hb : PEd X G b db) : PEd X G (.BinOp a .Add b pos) (de2 rdCatL da db) :=
  pd_op op_cat (fun x y d e B H P Q he hf rx ry ⟨xs, ys, h1, h2, hl, p⟩ q => by
    subst h1; subst h2
    cases rx with
    | lst hx ra =>
      cases ry with
      | lst hy rb =>
        refine ⟨_, _, _, _, rfl, rfl, he _ _ hx, he _ _ hy, by rw [ra.length, rb.length]; exact size_ok hl, fun p' hp => newL q (.refl he hf) (ra.app rb) p hp⟩) ha hb
theorem pd_catT (ha : PEd X G a da) (hb : PEd X G b db) : PEd X G (.BinOp a .Add b pos) (de2 rdCatT da db) :=
  pd_op op_catA (fun x y d e B H P Q he hf rx ry ⟨xs, ys, h1, h2, hl, p⟩ q => by
    subst h1; subst h2
    cases rx with
    | tup hx ra =>
      cases ry with
      | tup hy rb =>
        refine ⟨_, _, _, _, rfl, rfl, exT he hx, exT he hy, by rw [ra.length, rb.length]; exact size_ok hl, fun z => ?_, fun z1 z2 => ?_, fun z1 z2 p' hp => newT q (.refl he hf) (ra.app rb) p hp⟩
        · subst z
          cases ra
          exact q _ _ B H (.refl he hf) p (.tup hy rb)
        · subst z2
          cases rb
          rw [List.append_nil] at p
          exact q _ _ B H (.refl he hf) p (.tup hx ra)) ha hb
def repD {α : Type} (n : Int) (xs : List α) : List α := (List.replicate n.toNat xs).flatten
def rdRepL : D → D → (D → Prop) → Prop := fun x y P => ∃ xs n, x = .lst xs ∧ y = .int n ∧ 0 ≤ n ∧ n ≤ 100000 ∧ xs.length * n.toNat ≤ 100000 ∧ P (.lst (repD n xs))
theorem pd_repL (ha : PEd X G a da) (hb : PEd X G b db) : PEd X G (.BinOp a .Mult b pos) (de2 rdRepL da db) :=
  pd_op op_rep (fun x y d e B H P Q he hf rx ry ⟨xs, n, h1, h2, h3, h4, hl, p⟩ q => by
    subst h1; subst h2
    cases rx with
    | lst hx ra =>
      cases ry
      refine ⟨_, n, _, rfl, rfl, he _ _ hx, by omega, by omega, by rw [ra.length]; exact size_ok hl, fun p' hp => newL q (.refl he hf) (ra.rep _) p hp⟩) ha hb
end

/-! ### built-in functions -/
section
variable {X : Cx} {G : Gx} {e : Expr} {es : List Expr} {da : DA} {x : Str} {p pos : Pos} {id T : String} {r : List V → Hp → VK → Prop} {rd : List D → (D → Prop) → Prop}
theorem teB {K : PySem.W.Frag} (sd : SndC K G.F r rd) : ∀ σ H Q, teOf K G (deB rd da) σ H Q → tCB r (taOf K G da) σ H Q := fun σ H Q ⟨B, δ, P, s, h, q⟩ =>
  ⟨B, δ, _, s, h, fun xs ds B1 H1 m1 p1 r1 => sd xs ds B1 H1 P Q m1.e m1.f r1 p1 fun v z B' H' m2 => q v z B' H' (m1.trans m2)⟩
theorem pd_callB (hc : CallR X (.builtin id) r) (sd : SndC X.K G.F r rd) (hm : X.mg x = none) (ha : PAd X G (e :: es) da) (hv : bootBuiltins x = some (.builtin id) := by decide +kernel) (hg : Gl X x := by rfl) (hn : x ≠ "__name__" := by decide) (hdb : (x == ("__debug__" : Str)) = false := by decide)
    (he : starEach (e :: es) X.env = (false, eval e X.env) :: starEach es X.env := by rfl) (hpl : (backTo pos (starEach es X.env)).any (·.1) = false := by rfl) : PEd X G (.Call (.Name x p) (e :: es) [] pos) (deB rd da) :=
  PE.imp (pe_callB hc hg hm hv ha hn hdb he hpl) (teB sd)
theorem pd_callTy (hc : CallR X (.type T) r) (sd : SndC X.K G.F r rd) (hm : X.mg x = none) (ha : PAd X G (e :: es) da) (hv : bootBuiltins x = some (.type T) := by decide +kernel) (hg : Gl X x := by rfl) (hn : x ≠ "__name__" := by decide) (hdb : (x == ("__debug__" : Str)) = false := by decide)
    (he : starEach (e :: es) X.env = (false, eval e X.env) :: starEach es X.env := by rfl) (hpl : (backTo pos (starEach es X.env)).any (·.1) = false := by rfl) : PEd X G (.Call (.Name x p) (e :: es) [] pos) (deB rd da) :=
  PE.imp (pe_callTy hc hg hm hv ha hn hdb he hpl) (teB sd)
end
def rdLen : List D → (D → Prop) → Prop := fun ds P => ∃ x xs, ds = [x] ∧ x.seq = some xs ∧ P (.int xs.length)
theorem snd_len {X : Cx} {F : Fs} : SndC X.K F (fun xs H Q => ∃ p ys, xs = [.ref p] ∧ (SqL X.K H p ys ∨ SqT X.K H p ys) ∧ Q (.int ys.length) H) rdLen := fun xs ds B H P Q he hf r ⟨x, ys, h1, h2, p⟩ q => by
  subst h1
  cases r with
  | cons rx rn =>
    cases rn
    obtain ⟨a, vs, rfl, hs, ra⟩ := seq_any he rx h2
    refine ⟨a, vs, rfl, hs, ?_⟩
    rw [ra.length]
    exact q _ _ B H (.refl he hf) p (.int _)
def rdSum : List D → (D → Prop) → Prop := fun ds P => ∃ ns : List Int, ds = [.lst (ns.map .int)] ∧ P (.int ns.sum)
theorem snd_sum {X : Cx} {F : Fs} : SndC X.K F (rSum X.K) rdSum := fun xs ds B H P Q he hf r ⟨ns, h1, p⟩ q => by
  subst h1
  cases r with
  | cons rx rn =>
    cases rn
    cases rx with
    | lst h ra =>
      have e := ra.ints
      subst e
      exact ⟨_, ns, rfl, SqL.of (he _ _ h), q _ _ B H (.refl he hf) p (.int _)⟩
/-- sum of a tuple of ints -/
def rSumT (K : PySem.W.Frag) : List V → Hp → VK → Prop := fun vs H Q => ∃ (a : Addr) (ns : List Int), vs = [V.ref a] ∧ SqT K H a (ns.map V.int) ∧ Q (.int ns.sum) H
theorem cr_sumT {X : Cx} (hc : X.calm = true) : CallR X (.builtin "sum") (rSumT X.K) := fun pins s σ H xs us Q I r h => by
  obtain ⟨a, ns, rfl, hq, q⟩ := h
  obtain rfl := r.ref1
  obtain ⟨its, rv, ⟨o, ho, hcl, n, hd⟩, hz⟩ := I.tuple hq
  have hl : s.heap.IsTuple a its.toArray := ⟨o, ho, hcl, n, hd⟩
  have hi := rv.ints
  obtain ⟨zs, hx⟩ := hi.allInts.items
  have hn : numsOf its.toArray.toList = ns := hi.numsOf
  rw [hx] at hl
  rw [hx, nums_intItems] at hn
  refine PySem.W.ktm_sumG (I.ok.hd hc) hl fun h' tk t' hk => ?_
  refine ⟨.int ns.sum, H, I.kept (t' := tk) hk, ⟨t', ?_⟩, q⟩
  rw [preSum_eq, List.take_of_length_le (by simp), hn]
def rdSumT : List D → (D → Prop) → Prop := fun ds P => ∃ ns : List Int, ds = [.tup (ns.map .int)] ∧ P (.int ns.sum)
theorem snd_sumT {X : Cx} {F : Fs} : SndC X.K F (rSumT X.K) rdSumT := fun xs ds B H P Q he hf r ⟨ns, h1, p⟩ q => by
  subst h1
  cases r with
  | cons rx rn =>
    cases rn
    cases rx with
    | tup h ra =>
      have e := ra.ints
      subst e
      exact ⟨_, ns, rfl, exT he h, q _ _ B H (.refl he hf) p (.int _)⟩
def rdMax : List D → (D → Prop) → Prop := fun ds P => ∃ ns : List Int, ds = [.lst (ns.map .int)] ∧ 0 < ns.length ∧ ∀ m, m ∈ ns → (∀ y, y ∈ ns → y ≤ m) → P (.int m)
def rdMin : List D → (D → Prop) → Prop := fun ds P => ∃ ns : List Int, ds = [.lst (ns.map .int)] ∧ 0 < ns.length ∧ ∀ m, m ∈ ns → (∀ y, y ∈ ns → m ≤ y) → P (.int m)
theorem snd_max {X : Cx} {F : Fs} : SndC X.K F (rMax X.K) rdMax := fun xs ds B H P Q he hf r ⟨ns, h1, hl, p⟩ q => by
  subst h1
  cases r with
  | cons rx rn =>
    cases rn
    cases rx with
    | lst h ra =>
      have e := ra.ints
      subst e
      exact ⟨_, ns, rfl, SqL.of (he _ _ h), hl, fun m h1 h2 => q _ _ B H (.refl he hf) (p m h1 h2) (.int _)⟩
theorem snd_min {X : Cx} {F : Fs} : SndC X.K F (rMin X.K) rdMin := fun xs ds B H P Q he hf r ⟨ns, h1, hl, p⟩ q => by
  subst h1
  cases r with
  | cons rx rn =>
    cases rn
    cases rx with
    | lst h ra =>
      have e := ra.ints
      subst e
      exact ⟨_, ns, rfl, SqL.of (he _ _ h), hl, fun m h1 h2 => q _ _ B H (.refl he hf) (p m h1 h2) (.int _)⟩
def rdMax2 : List D → (D → Prop) → Prop := fun ds P => ∃ i j, ds = [.int i, .int j] ∧ P (.int (max i j))
def rdMin2 : List D → (D → Prop) → Prop := fun ds P => ∃ i j, ds = [.int i, .int j] ∧ P (.int (min i j))
theorem max_if (i j : Int) : (if j > i then j else i) = max i j := by split <;> omega
theorem min_if (i j : Int) : (if j < i then j else i) = min i j := by split <;> omega
theorem snd_max2 {K : PySem.W.Frag} {F : Fs} : SndC K F (fun xs H Q => ∃ i j, xs = [.int i, .int j] ∧ Q (.int (if j > i then j else i)) H) rdMax2 := fun xs ds B H P Q he hf r ⟨i, j, h1, p⟩ q => by
  subst h1
  cases r with
  | cons r1 rn => cases rn with
    | cons r2 rn => cases rn; cases r1; cases r2; exact ⟨i, j, rfl, by rw [max_if]; exact q _ _ B H (.refl he hf) p (.int _)⟩
theorem snd_min2 {K : PySem.W.Frag} {F : Fs} : SndC K F (fun xs H Q => ∃ i j, xs = [.int i, .int j] ∧ Q (.int (if j < i then j else i)) H) rdMin2 := fun xs ds B H P Q he hf r ⟨i, j, h1, p⟩ q => by
  subst h1
  cases r with
  | cons r1 rn => cases rn with
    | cons r2 rn => cases rn; cases r1; cases r2; exact ⟨i, j, rfl, by rw [min_if]; exact q _ _ B H (.refl he hf) p (.int _)⟩
def rdAll : List D → (D → Prop) → Prop := fun ds P => ∃ bs : List Bool, ds = [.lst (bs.map .bl)] ∧ P (.bl (bs.all id))
theorem snd_all {X : Cx} {F : Fs} : SndC X.K F (rAll X.K) rdAll := fun xs ds B H P Q he hf r ⟨ns, h1, p⟩ q => by
  subst h1
  cases r with
  | cons rx rn =>
    cases rn
    cases rx with
    | lst h ra =>
      have e := ra.bls
      subst e
      exact ⟨_, ns, rfl, SqL.of (he _ _ h), q _ _ B H (.refl he hf) p (.bl _)⟩
def rdInt : List D → (D → Prop) → Prop := fun ds P => ∃ i, ds = [.int i] ∧ P (.int i)
theorem snd_int {K : PySem.W.Frag} {F : Fs} : SndC K F (fun xs H Q => (∃ i, xs = [.int i] ∧ Q (.int i) H) ∨ ∃ k, xs = [.bl k] ∧ Q (.int (if k then 1 else 0)) H) rdInt := fun xs ds B H P Q he hf r ⟨i, h1, p⟩ q => by
  subst h1
  cases r with
  | cons rx rn => cases rn; cases rx; exact .inl ⟨i, rfl, q _ _ B H (.refl he hf) p (.int _)⟩
def rdTuple : List D → (D → Prop) → Prop := fun ds P => ∃ x xs, ds = [x] ∧ x.seq = some xs ∧ P (.tup xs)
theorem snd_tuple {X : Cx} {F : Fs} : SndC X.K F (fun xs H Q => ∃ p ys, xs = [.ref p] ∧ ((SqL X.K H p ys ∧ ∀ l, H l = none → Q (.ref l) (upd H l (.tup ys))) ∨ (SqT X.K H p ys ∧ Q (.ref p) H))) rdTuple := fun xs ds B H P Q he hf r ⟨x, ys, h1, h2, p⟩ q => by
  subst h1
  cases r with
  | cons rx rn =>
    cases rn
    cases rx with
    | lst h ra =>
      cases h2
      refine ⟨_, _, rfl, .inl ⟨SqL.of (he _ _ h), fun l hl => newT q (.refl he hf) ra p hl⟩⟩
    | tup h ra =>
      cases h2
      exact ⟨_, _, rfl, .inr ⟨exT he h, q _ _ B H (.refl he hf) p (.tup h ra)⟩⟩
    | _ => cases h2
def rdList : List D → (D → Prop) → Prop := fun ds P => ∃ x xs, ds = [x] ∧ x.seq = some xs ∧ P (.lst xs)
theorem snd_list {X : Cx} {F : Fs} : SndC X.K F (fun xs H Q => ∃ p ys, xs = [.ref p] ∧ (SqL X.K H p ys ∨ SqT X.K H p ys) ∧ ∀ l, H l = none → Q (.ref l) (upd H l (.lst ys))) rdList := fun xs ds B H P Q he hf r ⟨x, ys, h1, h2, p⟩ q => by
  subst h1
  cases r with
  | cons rx rn =>
    cases rn
    obtain ⟨a, vs, rfl, hs, ra⟩ := seq_any he rx h2
    refine ⟨a, vs, rfl, hs, fun l hl => newL q (.refl he hf) ra p hl⟩
/-! ### isinstance -/
/-- the built-in type's name -/
def D.ty : D → Option String
  | .non => some "NoneType"
  | .bl _ => some "bool"
  | .int _ => some "int"
  | .str _ => some "str"
  | .lst _ => some "list"
  | .tup _ => some "tuple"
  | .dct => some "dict"
  | _ => none
theorem Rp.ty {K : PySem.W.Frag} {B H : Hp} {v : V} {d : D} {t : String} (e : Ex B H) (r : Rp K B v d) (h : d.ty = some t) : TyX K H v (.type t) := by
  cases r with
  | non => cases h; exact .base .non
  | bl b => cases h; exact .base (.bl b)
  | int i => cases h; exact .base (.int i)
  | str s => cases h; exact .base (.str s)
  | lst h1 r => cases h; exact .base (.lst (e _ _ h1))
  | tup h1 r =>
    cases h
    rcases exT e h1 with (h2 | ⟨o, h2⟩) | ⟨o, its, n, h2, h3, _⟩
    · exact .base (.tup h2)
    · exact .fTuple h2
    · exact .kTuple h2 h3
  | dct h1 => cases h; exact .base (.dK (e _ _ h1))
  | _ => cases h
def D.isI : D → Bool
  | .int _ => true
  | .bl _ => true
  | _ => false
def D.isB : D → Bool
  | .bl _ => true
  | _ => false
def D.isL : D → Bool
  | .lst _ => true
  | _ => false
def D.isU : D → Bool
  | .tup _ => true
  | _ => false
def D.isS : D → Bool
  | .str _ => true
  | _ => false
def D.isD : D → Bool
  | .dct => true
  | _ => false
theorem kit_int {d : D} {t : String} (h : d.ty = some t) : kitB t "int" = some d.isI := by cases d <;> cases h <;> simp only [D.isI] <;> decide +kernel
theorem kit_bool {d : D} {t : String} (h : d.ty = some t) : kitB t "bool" = some d.isB := by cases d <;> cases h <;> simp only [D.isB] <;> decide +kernel
theorem kit_list {d : D} {t : String} (h : d.ty = some t) : kitB t "list" = some d.isL := by cases d <;> cases h <;> simp only [D.isL] <;> decide +kernel
theorem kit_tuple {d : D} {t : String} (h : d.ty = some t) : kitB t "tuple" = some d.isU := by cases d <;> cases h <;> simp only [D.isU] <;> decide +kernel
theorem kit_str {d : D} {t : String} (h : d.ty = some t) : kitB t "str" = some d.isS := by cases d <;> cases h <;> simp only [D.isS] <;> decide +kernel
theorem kit_dict {d : D} {t : String} (h : d.ty = some t) : kitB t "dict" = some d.isD := by cases d <;> cases h <;> simp only [D.isD] <;> decide +kernel
/-- isinstance(x, T): f tells it -/
def rdIs (f : D → Bool) : D → (D → Prop) → Prop := fun d P => d.ty.isSome = true ∧ P (.bl (f d))
section
variable {X : Cx} {G : Gx} {e : Expr} {de : DE} {p p1 p2 p3 pos : Pos} {k : Nat} {x1 x2 : Str} {T1 T2 : String} {f g : D → Bool}
theorem ty_some {d : D} (h : d.ty.isSome = true) : ∃ t, d.ty = some t := Option.isSome_iff_exists.mp h
theorem pd_is (hk : ∀ {d : D} {t : String}, d.ty = some t → kitB t T1 = some (f d)) (hm : X.mg "isinstance" = none) (hm1 : X.mg x1 = none) (hv1 : bootBuiltins x1 = some (.type T1)) (he : PEd X G e de) (hg : Gl X "isinstance" := by rfl) (hg1 : Gl X x1 := by rfl)
    (hn1 : x1 ≠ "__name__" := by decide) (hd1 : (x1 == ("__debug__" : Str)) = false := by decide)
    (hs : starEach [e, .Name x1 p1] X.env = (false, eval e X.env) :: starEach [.Name x1 p1] X.env := by rfl) (hs1 : starEach [.Name x1 p1] X.env = (false, eval (.Name x1 p1) X.env) :: starEach [] X.env := by rfl)
    (hpl : (backTo pos (starEach [.Name x1 p1] X.env)).any (·.1) = false := by rfl) : PEd X G (.Call (.Name "isinstance" p) [e, .Name x1 p1] [] pos) (de1 (rdIs f) de) :=
  PE.imp (pe_callB call_isi hg hm (by decide +kernel) (pa_cons he (pa_cons (pe_bltn (v := .ty T1) hg1 hm1 hv1 rfl hn1 hd1) pa_nil hs1) hs) (he := hs) (hpl := hpl)) fun σ H Q ⟨B, δ, P, s, h, q⟩ =>
    ⟨B, δ, _, s, h, fun v d B1 H1 m1 ⟨h1, p⟩ r1 => by
      obtain ⟨t, ht⟩ := ty_some h1
      exact ⟨v, .ty T1, .type t, .type T1, f d, rfl, .ty T1, r1.ty m1.e ht, kit_ty (hk ht), q _ _ B1 H1 m1 p (.bl _)⟩⟩
theorem pd_is2 (hk1 : ∀ {d : D} {t : String}, d.ty = some t → kitB t T1 = some (f d)) (hk2 : ∀ {d : D} {t : String}, d.ty = some t → kitB t T2 = some (g d)) (hm : X.mg "isinstance" = none) (hm1 : X.mg x1 = none) (hm2 : X.mg x2 = none) (hv1 : bootBuiltins x1 = some (.type T1)) (hv2 : bootBuiltins x2 = some (.type T2)) (he : PEd X G e de)
    (hg : Gl X "isinstance" := by rfl) (hg1 : Gl X x1 := by rfl) (hg2 : Gl X x2 := by rfl)
    (hn1 : x1 ≠ "__name__" := by decide) (hn2 : x2 ≠ "__name__" := by decide) (hd1 : (x1 == ("__debug__" : Str)) = false := by decide) (hd2 : (x2 == ("__debug__" : Str)) = false := by decide)
    (hs1 : starEach [.Name x1 p1, .Name x2 p2] X.env = (false, eval (.Name x1 p1) X.env) :: starEach [.Name x2 p2] X.env := by rfl) (hs2 : starEach [.Name x2 p2] X.env = (false, eval (.Name x2 p2) X.env) :: starEach [] X.env := by rfl)
    (hs : starEach [e, .Tuple [.Name x1 p1, .Name x2 p2] k p3] X.env = (false, eval e X.env) :: starEach [.Tuple [.Name x1 p1, .Name x2 p2] k p3] X.env := by rfl)
    (hs3 : starEach [.Tuple [.Name x1 p1, .Name x2 p2] k p3] X.env = (false, eval (.Tuple [.Name x1 p1, .Name x2 p2] k p3) X.env) :: starEach [] X.env := by rfl)
    (hpl : (backTo pos (starEach [.Tuple [.Name x1 p1, .Name x2 p2] k p3] X.env)).any (·.1) = false := by rfl) :
    PEd X G (.Call (.Name "isinstance" p) [e, .Tuple [.Name x1 p1, .Name x2 p2] k p3] [] pos) (de1 (rdIs fun d => f d || g d) de) :=
  PE.imp (pe_callB call_isiT hg hm (by decide +kernel) (pa_cons he (pa_cons (pe_tup (pa_cons (pe_bltn (v := .ty T1) hg1 hm1 hv1 rfl hn1 hd1) (pa_cons (pe_bltn (v := .ty T2) hg2 hm2 hv2 rfl hn2 hd2) pa_nil hs2) hs1)) pa_nil hs3) hs) (he := hs) (hpl := hpl)) fun σ H Q ⟨B, δ, P, s, h, q⟩ =>
    ⟨B, δ, _, s, h, fun v d B1 H1 m1 ⟨h1, p⟩ r1 => ⟨by show 2 ≤ sizeLine; decide, fun p' hp => by
      obtain ⟨t, ht⟩ := ty_some h1
      have m2 := Fm.newH (o := .tup [.ty T1, .ty T2]) m1.e m1.f hp
      refine ⟨v, p', _, .type t, [.type T1, .type T2], (f d || g d), rfl, upd_same, .cons (.ty T1) (.cons (.ty T2) .nil), r1.ty m2.e ht, ?_, q _ _ B1 _ (m1.trans m2) p (.bl _)⟩
      refine kitAny_cons (kit_ty (hk1 ht)) (fun z => ?_) (fun z => by rw [z]; rfl)
      rw [z, Bool.false_or]
      exact kitAny_cons (kit_ty (hk2 ht)) (fun z => by rw [z]; exact kitAny_nil) (fun z => z)⟩⟩
end

/-! ### sorted -/
def rdSorted : List D → (D → Prop) → Prop := fun ds P => ∃ ns : List Int, ds = [.lst (ns.map .int)] ∧ ∀ ns' : List Int, ns'.Perm ns → ns'.Pairwise (· ≤ ·) → P (.lst (ns'.map .int))
theorem snd_sorted {X : Cx} {F : Fs} : SndC X.K F (rSortedI X.K) rdSorted := fun xs ds B H P Q he hf r ⟨ns, h1, p⟩ q => by
  subst h1
  cases r with
  | cons rx rn =>
    cases rn
    cases rx with
    | lst h ra =>
      have e := ra.ints
      subst e
      refine ⟨_, ns, rfl, SqL.of (he _ _ h), fun ns' p' hp hs hn => newL q (.refl he hf) (.ofInts ns') (p ns' hp hs) hn⟩
end Sd
end
-- SdIter
section
set_option Elab.async false
set_option linter.all false
set_option maxRecDepth 100000
set_option maxHeartbeats 4000000
set_option autoImplicit false
namespace Sd
open PySem PySem.Spec PyProof.Rows L2
open Evl (Ex)

/-! ### lists and tuples alike -/
def Sq (K : PySem.W.Frag) (H : Hp) (b : Bool) (a : Addr) (xs : List V) : Prop := (b = true ∧ SqL K H a xs) ∨ (b = false ∧ SqT K H a xs)
def ItAt (b : Bool) (h : Heap) (it a : Addr) (i : Nat) : Prop := (b = true ∧ h.IsListIter it a i) ∨ (b = false ∧ h.IsTupleIter it a i)
def SeqIn (b : Bool) (h : Heap) (a : Addr) (its : Array Value) : Prop := (b = true ∧ h.IsList a its) ∨ (b = false ∧ h.IsTuple a its)
theorem ItAt.at_ {b : Bool} {h h' : Heap} {it a : Addr} {i : Nat} (x : ItAt b h it a i) (k : ∀ o, h.get? it = some o → h'.get? it = some o) : ItAt b h' it a i := by
  rcases x with ⟨e, x⟩ | ⟨e, x⟩
  · exact .inl ⟨e, x.at k⟩
  · exact .inr ⟨e, x.at k⟩
theorem ItAt.obj {b : Bool} {h : Heap} {it a : Addr} {i : Nat} (x : ItAt b h it a i) : ∃ o, h.get? it = some o ∧ ∀ v, o.data ≠ .cell v := by
  rcases x with ⟨e, o, h1, h2, h3⟩ | ⟨e, o, h1, h2, h3⟩
  · exact ⟨o, h1, fun v q => by rw [h3] at q; cases q⟩
  · exact ⟨o, h1, fun v q => by rw [h3] at q; cases q⟩
section
variable {X : Cx} {pins : List (Addr × Obj)} {σ : L2.St} {H : Hp} {s : Shared} {b : Bool} {a it : Addr} {xs ys : List V}
theorem Sq.inj (I : Inv X pins σ H s) (h : Sq X.K H b a xs) (h' : Sq X.K H b a ys) : xs = ys := by
  rcases h with ⟨e, h⟩ | ⟨e, h⟩
  · rcases h' with ⟨e', h'⟩ | ⟨e', h'⟩
    · exact I.list_inj h h'
    · rw [e] at e'; cases e'
  · rcases h' with ⟨e', h'⟩ | ⟨e', h'⟩
    · rw [e] at e'; cases e'
    · exact I.tuple_inj h h'
theorem Sq.lays (I : Inv X pins σ H s) (h : Sq X.K H b a xs) : ∃ its : List Value, Vals xs its ∧ SeqIn b s.heap a its.toArray ∧ a < s.heap.objs.size := by
  rcases h with ⟨e, h⟩ | ⟨e, h⟩
  · obtain ⟨its, r, p, _⟩ := I.list h
    exact ⟨its, r, .inl ⟨e, p.isList⟩, p.lt⟩
  · obtain ⟨its, r, p, _⟩ := I.tuple h
    obtain ⟨o, ho, hc, n, hd⟩ := id p
    exact ⟨its, r, .inr ⟨e, o, ho, hc, n, hd⟩, Heap.lt_size ho⟩
theorem drawsOf {P : Program} {w : World} {A : Around} (hh : A.handled = none) (b : Bool) (hne : a ≠ it) (items : Array Value) :
    Draws P w A it [it, a] items.size (fun i v => items[i]? = some v) (fun i h => ItAt b h it a i ∧ SeqIn b h a items) := by
  cases b with
  | true =>
    have d := Draws.list (prog := P) (w := w) (A := A) hh it a hne items
    have e : ∀ i h, (ItAt true h it a i ∧ SeqIn true h a items) ↔ (h.IsListIter it a i ∧ h.IsList a items) := fun i h =>
      ⟨fun ⟨x, y⟩ => ⟨x.elim (fun z => z.2) (fun z => nomatch z.1), y.elim (fun z => z.2) (fun z => nomatch z.1)⟩, fun ⟨x, y⟩ => ⟨.inl ⟨rfl, x⟩, .inl ⟨rfl, y⟩⟩⟩
    have e' : (fun i h => ItAt true h it a i ∧ SeqIn true h a items) = fun i h => h.IsListIter it a i ∧ h.IsList a items := funext fun i => funext fun h => propext (e i h)
    rw [e']
    exact d
  | false =>
    have d := Draws.tuple (prog := P) (w := w) (A := A) hh it a hne items
    have e : ∀ i h, (ItAt false h it a i ∧ SeqIn false h a items) ↔ (h.IsTupleIter it a i ∧ h.IsTuple a items) := fun i h =>
      ⟨fun ⟨x, y⟩ => ⟨x.elim (fun z => nomatch z.1) (fun z => z.2), y.elim (fun z => nomatch z.1) (fun z => z.2)⟩, fun ⟨x, y⟩ => ⟨.inr ⟨rfl, x⟩, .inr ⟨rfl, y⟩⟩⟩
    have e' : (fun i h => ItAt false h it a i ∧ SeqIn false h a items) = fun i h => h.IsTupleIter it a i ∧ h.IsTuple a items := funext fun i => funext fun h => propext (e i h)
    rw [e']
    exact d
/-- the iterator's object as it is made -/
def itObj (b : Bool) (a : Addr) : Obj := { cls := .type (if b then "list_iterator" else "tuple_iterator"), data := .fields #[.ref a, .int 0 0] }
theorem beginsOf (b : Bool) (items : Array Value) : Begins (.ref a) (itObj b a) (fun h => SeqIn b h a items) := by
  cases b with
  | true =>
    have e' : (fun h => SeqIn true h a items) = fun h => h.IsList a items := funext fun h => propext ⟨fun y => y.elim (fun z => z.2) (fun z => nomatch z.1), fun y => .inl ⟨rfl, y⟩⟩
    rw [e']
    exact begins_list a items
  | false =>
    have e' : (fun h => SeqIn false h a items) = fun h => h.IsTuple a items := funext fun h => propext ⟨fun y => y.elim (fun z => nomatch z.1) (fun z => z.2), fun y => .inr ⟨rfl, y⟩⟩
    rw [e']
    exact begins_tuple a items
theorem itObj_at {h : Heap} (e : h.get? it = some (itObj b a)) : ItAt b h it a 0 := by
  cases b with
  | true => exact .inl ⟨rfl, _, e, rfl, rfl⟩
  | false => exact .inr ⟨rfl, _, e, rfl, rfl⟩
end

/-! ### enumerate(x, k) -/
/-- the list or tuple at a as it stands at each turn, each item in a new pair, counted from k -/
def Iten (K : PySem.W.Frag) (b : Bool) (a : Addr) (k : Int) : It :=
  ⟨fun i H => ∃ (xs : List V) (x : V), Sq K H b a xs ∧ xs[i]? = some x, fun i H v H' => ∃ T x, v = .ref T ∧ H T = none ∧ H' = upd H T (.tup [.int (k + (i : Int)), x]) ∧ ∀ xs, Sq K H b a xs → xs[i]? = some x,
    fun i H => ∃ xs : List V, Sq K H b a xs ∧ xs.length = i⟩
theorem turn_en {P : Program} {w : World} {K : PySem.W.Frag} {elts : List Expr} {kk : Nat} {tpos : Pos} (b : Bool) (a e it : Addr) (k : Int) :
    Turn P w K (.Tuple elts kk tpos) (Iten K b a k) [e, it] e (fun i h => (∃ old, IsEnum h e it (k + (i : Int)) old) ∧ ItAt b h it a i ∧ e ≠ it ∧ a ≠ it ∧ a ≠ e) where
  mem := by simp
  obj := fun i h st c hc => by
    obtain ⟨⟨old, he⟩, hi, _⟩ := st
    have e' : c = e ∨ c = it := by simpa using hc
    rcases e' with z | z
    · subst z; exact ⟨_, he, fun v q => nomatch q⟩
    · subst z; exact hi.obj
  keep := fun i h h' st kp => by
    obtain ⟨⟨old, he⟩, hi, hn⟩ := st
    exact ⟨⟨old, kp e (by simp) _ he⟩, hi.at_ fun o q => kp it (by simp) o q, hn⟩
  item := by
    intro X hP hw hK hc i pins s σ H E I hf st hg
    subst hP hw hK
    obtain ⟨⟨old, he⟩, hit, n1, n2, n3⟩ := st
    obtain ⟨xs, x, hq, hx⟩ := hg
    obtain ⟨its, rv, hin, hlt⟩ := hq.lays I
    have el : e < s.heap.objs.size := Heap.lt_size he
    have il : it < s.heap.objs.size := let ⟨o, q, _⟩ := hit.obj; Heap.lt_size q
    have hi : i < its.toArray.size := by
      have q := (List.getElem?_eq_some_iff.mp hx).1
      rw [rv.length] at q
      simpa using q
    refine wpAny_pyNext_enum_itemC (drawsOf (P := X.prog) (w := X.w) (A := X.A.in1) (I.ok.hd hc) b n2 its.toArray) he ⟨hit, hin⟩ hi n1 (by simp [n1, n3.symm]) fun u h' tk hu ho hst hT hsz hk => ?_
    refine ⟨_, rfl, wpAny_letOwnedTupleGo_enum (s := { s with heap := h', toks := tk + 1 }) ho fun h2 he2 sb => ?_⟩
    obtain ⟨u', hu', ru⟩ := rv.get hx
    have eu : u = u' := by
      have q : its[i]? = some u := by simpa using hu
      rw [q] at hu'
      exact Option.some.inj hu'
    subst eu
    have hT2 : h2.get? s.heap.objs.size = some { cls := .type "tuple", data := .seq #[.int (k + (i : Int)) tk, u] } := (sb.2 _ (Nat.ne_of_gt el)).trans hT
    have new : ObjOk X.prog X.w (upd H s.heap.objs.size (.tup [.int (k + (i : Int)), x])) h2 s.heap.objs.size (.tup [.int (k + (i : Int)), x]) :=
      ⟨by show 2 ≤ sizeLine; decide, [.int (k + (i : Int)) tk, u], .cons ⟨_, rfl⟩ (.cons ru .nil), ⟨_, hT2, rfl, _, rfl⟩⟩
    have I1 : Inv X pins σ (upd H s.heap.objs.size (.tup [.int (k + (i : Int)), x])) { s with heap := h2, toks := tk + 1 } :=
      I.turnedNew (ch := [e, it]) (fun c ob hb q => (sb.2 c (fun z => hb (by simp [z]))).trans (hk c ob (fun z => hb (by simp [z])) (fun z => hb (by simp [z])) q)) hf (Nat.le_refl _) new
    refine ⟨.ref s.heap.objs.size, _, I1, rfl, ⟨_, x, rfl, I.hok.fresh (Nat.le_refl _), rfl, fun zs hz => by rw [hz.inj I hq]; exact hx⟩, ⟨⟨u, ?_⟩, hst.1.at_ fun o q => (sb.2 it (Ne.symm n1)).trans q, n1, n2, n3⟩, fun c hb => ?_⟩
    · have e1 : k + ((i + 1 : Nat) : Int) = k + (i : Int) + 1 := by omega
      rw [e1]
      exact he2
    · have hb' : c < s.heap.objs.size := by
        have e' : c = e ∨ c = it := by simpa using hb
        rcases e' with z | z
        · rw [z]; exact el
        · rw [z]; exact il
      rw [upd_ne (Nat.ne_of_lt hb')]
      exact (hf c hb).1
  done := by
    intro X hP hw hK hc i pins s σ H E I hf st hg
    subst hP hw hK
    obtain ⟨⟨old, he⟩, hit, n1, n2, n3⟩ := st
    obtain ⟨xs, hq, hx⟩ := hg
    obtain ⟨its, rv, hin, hlt⟩ := hq.lays I
    have hn : its.toArray.size = i := by
      rw [← hx, rv.length]
      simp
    obtain ⟨f0, f1, f2, f3, f4, f5⟩ := hf it (by simp)
    refine wpAny_pyNext_enum_endD (drawsOf (P := X.prog) (w := X.w) (A := X.A.in1) (I.ok.hd hc) b n2 its.toArray) he (by rw [hn]; exact ⟨hit, hin⟩) fun h' eb => ⟨rfl, I.turned (t' := s.toks) (fun c o hb q => eb c o hb q) f0 f1 f3 f4 f5⟩
  self := fun A i s Q E st h => let ⟨⟨_, he⟩, _⟩ := st; wpAny_pyIter_enum he h
/-- enumerate(x): its iterator -/
theorem en_it {X : Cx} {elts : List Expr} {kk : Nat} {tpos : Pos} {pins : List (Addr × Obj)} {σ : L2.St} {H : Hp} {s : Shared} {R : It → Hp → Prop} {E : Value → Shared → Prop} {b : Bool} {a : Addr} {k : Int} {h' : Heap} (I : Inv X pins σ H s) (ha : a < s.heap.objs.size)
    (he : IsEnum h' (s.heap.objs.size + 1) s.heap.objs.size k .none) (hit : h'.get? s.heap.objs.size = some (itObj b a)) (hk : ∀ c o, s.heap.get? c = some o → h'.get? c = some o) (q : R (Iten X.K b a k) H) :
    wpAny (model X.prog X.w) X.A (pyIter (.ref (s.heap.objs.size + 1))) (PIE X pins σ (.Tuple elts kk tpos) R) E { s with heap := h' } := by
  refine wpAny_pyIter_enum (s := { s with heap := h' }) he ?_
  have I2 : Inv X pins σ H { s with heap := h' } := I.kept (t' := s.toks) hk
  refine ⟨s.heap.objs.size + 1, [s.heap.objs.size + 1, s.heap.objs.size], _, _, H, rfl, I2, turn_en b a (s.heap.objs.size + 1) s.heap.objs.size k, ⟨⟨.none, ?_⟩, itObj_at hit, Nat.succ_ne_self _, Nat.ne_of_lt ha, Nat.ne_of_lt (Nat.lt_succ_of_lt ha)⟩, fun c hb => ?_, q⟩
  · have e1 : k + ((0 : Nat) : Int) = k := by omega
    rw [e1]
    exact he
  · have e' : c = s.heap.objs.size + 1 ∨ c = s.heap.objs.size := by simpa using hb
    have hle : s.heap.objs.size ≤ c := by
      rcases e' with z | z
      · rw [z]; exact Nat.le_add_right _ _
      · rw [z]; exact Nat.le_refl _
    exact I.fpOk hle (I.hok.fresh hle)
/-- enumerate(v) of anything that an iterator is made of -/
theorem en_new {v : Value} {o : Obj} {S : Heap → Prop} (B : Begins v o S) :
    Meets (Builtin.«enumerate.__new__» ⟨[.type "enumerate", v], []⟩) (fun _ R s => S s.heap ∧
      R (.ok (.ret (.ref (s.heap.push o).objs.size))) { s with heap := (s.heap.push o).push { cls := .type "enumerate", data := .fields #[.none, .bool false, .ref s.heap.objs.size, rawInt 0, .none, .none] } }) := by
  refine .of_wp fun P w A R st q => ?_
  obtain ⟨h, gs, dr, tk, os⟩ := st
  have sub := sub_enumerate
  have go : ∀ {A2 : Around} {E : Value → Shared → Prop} {Q : Value → Shared → Prop}, Q (.ref h.objs.size) ⟨h.push o, gs, dr, tk, os⟩ → wpAny (model P w) A2 (pyIter v) Q E ⟨h, gs, dr, tk, os⟩ := fun z => B.iter P w _ _ ⟨h, gs, dr, tk, os⟩ _ q.1 z
  wp_walk using go
  refine wpAny_stack_any (fun _ => wpAny_pure ?_)
  split
  · rename_i c _ _ _ _ _
    cases (c == Value.type "enumerate") <;> (wp_walk using go; exact ⟨_, rfl, q.2⟩)
  · wp_walk using go
    exact ⟨_, rfl, q.2⟩
theorem en_call {P : Program} {w : World} {A : Around} {E : Value → Shared → Prop} {s : Shared} {v : Value} {o : Obj} {S : Heap → Prop} {Q : Value → Shared → Prop} (B : Begins v o S) (h1 : S s.heap)
    (h : ∀ h', IsEnum h' (s.heap.objs.size + 1) s.heap.objs.size 0 .none → h'.get? s.heap.objs.size = some o → (∀ c u, s.heap.get? c = some u → h'.get? c = some u) → Q (.ref (s.heap.objs.size + 1)) { s with heap := h' }) :
    wpAny (model P w) A (call (.type "enumerate") [v]) Q E s := by
  refine callType_new F.called_enumerate (by decide) (F.typeCall_enumerate_1 _) (F.newCall_enumerate_1 _) (fun u => F.args_object_init_2 u _) F.entry_enumerate_new (en_new B) ⟨h1, ?_⟩
  have z : (s.heap.push o).objs.size = s.heap.objs.size + 1 := Heap.size_push ..
  show _ ∧ _
  rw [z]
  have he : IsEnum ((s.heap.push o).push { cls := .type "enumerate", data := .fields #[.none, .bool false, .ref s.heap.objs.size, rawInt 0, .none, .none] }) (s.heap.objs.size + 1) s.heap.objs.size 0 .none := by
    have q := Heap.get?_push_size (s.heap.push o) (o := { cls := .type "enumerate", data := .fields #[.none, .bool false, .ref s.heap.objs.size, rawInt 0, .none, .none] }) rfl
    rw [z] at q
    exact q
  exact ⟨⟨_, he, rfl⟩, h _ he (Heap.get?_push_of_some _ (Heap.get?_push_size _ B.free)) fun c u x => Heap.get?_push_of_some _ (Heap.get?_push_of_some _ x)⟩
def iEn (K : PySem.W.Frag) (k : Int) (ta : TA) : TI := fun σ H R => ta σ H fun vs H1 => ∃ b a xs, vs = [.ref a] ∧ Sq K H1 b a xs ∧ R (Iten K b a k) H1
theorem pi_en {X : Cx} {e : Expr} {ta : TA} {p pos tpos : Pos} {elts : List Expr} {kk : Nat} (hm : X.mg "enumerate" = none) (ha : PA X [e] ta) (hg : Gl X "enumerate" := by rfl) (hs : starEach [e] X.env = [(false, eval e X.env)] := by rfl) :
    PI X (.Tuple elts kk tpos) (.Call (.Name "enumerate" p) [e] [] pos) (iEn X.K 0 ta) := by
  refine ⟨fun pins s σ H R I h => ?_⟩
  refine Call_ (ld_blt I hg hm boot_enumerate (PyProof.Rows.callWith_type1 (thn (ha.run pos pins s σ H _ I h) fun us s1 ⟨vs, H1, I1, r1, q1⟩ => ?_) hs rfl))
  obtain ⟨b, a, xs, rfl, hq, q⟩ := q1
  obtain rfl := r1.ref1
  obtain ⟨its, rv, hin, hlt⟩ := hq.lays I1
  exact en_call (beginsOf b its.toArray) hin fun h' he hit hk => en_it I1 hlt he hit hk q

/-! ### zip(x, y) -/
def Itzp (K : PySem.W.Frag) (b1 : Bool) (a1 : Addr) (b2 : Bool) (a2 : Addr) : It :=
  ⟨fun i H => ∃ (xs ys : List V) (x y : V), Sq K H b1 a1 xs ∧ Sq K H b2 a2 ys ∧ xs[i]? = some x ∧ ys[i]? = some y,
    fun i H v H' => ∃ T x y, v = .ref T ∧ H T = none ∧ H' = upd H T (.tup [x, y]) ∧ (∀ xs, Sq K H b1 a1 xs → xs[i]? = some x) ∧ ∀ ys, Sq K H b2 a2 ys → ys[i]? = some y,
    fun i H => ∃ xs ys : List V, Sq K H b1 a1 xs ∧ Sq K H b2 a2 ys ∧ i ≤ xs.length ∧ i ≤ ys.length ∧ (i = xs.length ∨ i = ys.length)⟩
theorem turn_zp {P : Program} {w : World} {K : PySem.W.Frag} {elts : List Expr} {kk : Nat} {tpos : Pos} {b1 b2 : Bool} {a1 a2 z TI TO i1 i2 : Addr} (S : ZipSep2 z TI TO i1 i2 [i1, a1] [i2, a2]) (n1 : a1 ≠ i1) (n2 : a2 ≠ i2) :
    Turn P w K (.Tuple elts kk tpos) (Itzp K b1 a1 b2 a2) [z, TI, TO, i1, i2] z (fun i h => IsZip h z TI TO .none ∧ IsTupOf2 h TI (.ref i1) (.ref i2) ∧ (∃ x y, IsTupOf2 h TO x y) ∧ ItAt b1 h i1 a1 i ∧ ItAt b2 h i2 a2 i) where
  mem := by simp
  obj := fun i h st c hc => by
    obtain ⟨hz, hTI, ⟨x, y, hTO⟩, h1, h2⟩ := st
    have e' : c = z ∨ c = TI ∨ c = TO ∨ c = i1 ∨ c = i2 := by simpa using hc
    rcases e' with q | q | q | q | q <;> subst q
    · exact ⟨_, hz, fun v q => nomatch q⟩
    · exact ⟨_, hTI, fun v q => nomatch q⟩
    · exact ⟨_, hTO, fun v q => nomatch q⟩
    · exact h1.obj
    · exact h2.obj
  keep := fun i h h' st k => by
    obtain ⟨hz, hTI, ⟨x, y, hTO⟩, h1, h2⟩ := st
    exact ⟨k z (by simp) _ hz, k TI (by simp) _ hTI, ⟨x, y, k TO (by simp) _ hTO⟩, h1.at_ fun o q => k i1 (by simp) o q, h2.at_ fun o q => k i2 (by simp) o q⟩
  item := by
    intro X hP hw hK hc i pins s σ H E I hf st hg
    subst hP hw hK
    obtain ⟨hz, hTI, ⟨x0, y0, hTO⟩, h1, h2⟩ := st
    obtain ⟨xs, ys, x, y, q1, q2, hx, hy⟩ := hg
    obtain ⟨its, rv, in1, lt1⟩ := q1.lays I
    obtain ⟨its2, rv2, in2, lt2⟩ := q2.lays I
    obtain ⟨u, hu, ru⟩ := rv.get hx
    obtain ⟨u2, hu2, ru2⟩ := rv2.get hy
    have zl : z < s.heap.objs.size := Heap.lt_size hz
    have l1 : i < its.toArray.size := by simpa using (List.getElem?_eq_some_iff.mp hu).1
    have l2 : i < its2.toArray.size := by simpa using (List.getElem?_eq_some_iff.mp hu2).1
    have hh := I.ok.hd hc
    refine wpAny_pyNext_zipD2_item S (drawsOf (P := X.prog) (w := X.w) (A := X.A.in1) hh b1 n1 its.toArray) (drawsOf (P := X.prog) (w := X.w) (A := X.A.in1) hh b2 n2 its2.toArray) hz hTI hTO ⟨h1, in1⟩ ⟨h2, in2⟩ l1 l2
      fun v1 v2 h' tk p1 p2 z' TO' s1 s2 hT hsz hk => ?_
    refine ⟨_, rfl, wpAny_letOwnedTupleGo_zip (s := { s with heap := h', toks := tk }) z' fun h2' z2 sb => ?_⟩
    have e1 : v1 = u := by
      have q : its[i]? = some v1 := by simpa using p1
      rw [q] at hu
      exact Option.some.inj hu
    have e2 : v2 = u2 := by
      have q : its2[i]? = some v2 := by simpa using p2
      rw [q] at hu2
      exact Option.some.inj hu2
    subst e1 e2
    have hT2 : h2'.get? s.heap.objs.size = some { cls := .type "tuple", data := .seq #[v1, v2] } := (sb.2 _ (Nat.ne_of_gt zl)).trans hT
    have new : ObjOk X.prog X.w (upd H s.heap.objs.size (.tup [x, y])) h2' s.heap.objs.size (.tup [x, y]) := ⟨by show 2 ≤ sizeLine; decide, [v1, v2], .cons ru (.cons ru2 .nil), ⟨_, hT2, rfl, _, rfl⟩⟩
    have I1 : Inv X pins σ (upd H s.heap.objs.size (.tup [x, y])) { s with heap := h2', toks := tk } :=
      I.turnedNew (t' := tk) (ch := [z, TI, TO, i1, i2]) (fun c o hb q => (sb.2 c (fun q' => hb (by simp [q']))).trans (hk c o (fun q' => hb (by simp [q'])) (fun q' => hb (by simp [q'])) (fun q' => hb (by simp [q'])) (fun q' => hb (by simp [q'])) q)) hf (Nat.le_refl _) new
    have h1z : i1 ≠ z := fun q => S.zf1 (by rw [← q]; exact S.mem1)
    have h2z : i2 ≠ z := fun q => S.zf2 (by rw [← q]; exact S.mem2)
    have hTO1 : TO ≠ i1 := fun q => S.Tf1 (by rw [q]; exact S.mem1)
    have hTO2 : TO ≠ i2 := fun q => S.Tf2 (by rw [q]; exact S.mem2)
    refine ⟨.ref s.heap.objs.size, _, I1, rfl, ⟨_, x, y, rfl, I.hok.fresh (Nat.le_refl _), rfl, fun l hl => by rw [hl.inj I q1]; exact hx, fun l hl => by rw [hl.inj I q2]; exact hy⟩, ⟨z2, ?_, ⟨v1, v2, ?_⟩, ?_, ?_⟩, fun c hcm => ?_⟩
    · exact (sb.2 _ S.TIz).trans (hk _ _ S.TIz S.TITO S.TIi1 S.TIi2 hTI)
    · exact (sb.2 _ S.TOz).trans TO'
    · exact s1.1.at_ fun o q => (sb.2 _ h1z).trans q
    · exact s2.1.at_ fun o q => (sb.2 _ h2z).trans q
    · have lt : c < s.heap.objs.size := by
        have e' : c = z ∨ c = TI ∨ c = TO ∨ c = i1 ∨ c = i2 := by simpa using hcm
        rcases e' with q | q | q | q | q <;> subst q
        · exact zl
        · exact Heap.lt_size hTI
        · exact Heap.lt_size hTO
        · exact let ⟨_, q, _⟩ := h1.obj; Heap.lt_size q
        · exact let ⟨_, q, _⟩ := h2.obj; Heap.lt_size q
      rw [upd_ne (Nat.ne_of_lt lt)]
      exact (hf c hcm).1
  done := by
    intro X hP hw hK hc i pins s σ H E I hf st hg
    subst hP hw hK
    obtain ⟨hz, hTI, ⟨x0, y0, hTO⟩, h1, h2⟩ := st
    obtain ⟨xs, ys, q1, q2, le1, le2, hend⟩ := hg
    obtain ⟨its, rv, in1, lt1⟩ := q1.lays I
    obtain ⟨its2, rv2, in2, lt2⟩ := q2.lays I
    have r1 := rv.length
    have r2 := rv2.length
    have hh := I.ok.hd hc
    exact wpAny_pyNext_zipD2_end S (drawsOf (P := X.prog) (w := X.w) (A := X.A.in1) hh b1 n1 its.toArray) (drawsOf (P := X.prog) (w := X.w) (A := X.A.in1) hh b2 n2 its2.toArray) hz hTI hTO ⟨h1, in1⟩ ⟨h2, in2⟩ (by simp; omega) (by simp; omega) (by simp; omega)
      fun h' tk hk => ⟨rfl, I.turnedL (t' := tk) (ch := [z, TI, TO, i1, i2]) (fun c o hb q => hk c o (fun q' => hb (by simp [q'])) (fun q' => hb (by simp [q'])) (fun q' => hb (by simp [q'])) (fun q' => hb (by simp [q'])) q) hf⟩
  self := fun A i s Q E st h => wpAny_pyIter_zip st.1 h
def iZp (K : PySem.W.Frag) (ta : TA) : TI := fun σ H R => ta σ H fun vs H1 => ∃ b1 a1 xs b2 a2 ys, vs = [.ref a1, .ref a2] ∧ Sq K H1 b1 a1 xs ∧ Sq K H1 b2 a2 ys ∧ R (Itzp K b1 a1 b2 a2) H1
theorem pi_zp {X : Cx} {e e2 : Expr} {ta : TA} {p pos tpos : Pos} {elts : List Expr} {kk : Nat} (hm : X.mg "zip" = none) (ha : PA X [e, e2] ta) (hg : Gl X "zip" := by rfl)
    (hs : starEach [e, e2] X.env = (false, eval e X.env) :: starEach [e2] X.env := by rfl) (hpl : (backTo pos (starEach [e2] X.env)).any (·.1) = false := by rfl) :
    PI X (.Tuple elts kk tpos) (.Call (.Name "zip" p) [e, e2] [] pos) (iZp X.K ta) := by
  refine ⟨fun pins s σ H R I h => ?_⟩
  refine Call_ (ld_blt I hg hm PyProof.Rows.boot_zip (PyProof.Rows.callWith_type1 (thn (ha.run pos pins s σ H _ I h) fun us s1 ⟨vs, H1, I1, r1, q1⟩ => ?_) hs hpl))
  obtain ⟨b1, a1, xs, b2, a2, ys, rfl, hq1, hq2, q⟩ := q1
  cases r1 with
  | cons r rr =>
    cases rr with
    | cons r' rr =>
      cases rr
      cases r
      cases r'
      obtain ⟨its, rv, in1, lt1⟩ := hq1.lays I1
      obtain ⟨its2, rv2, in2, lt2⟩ := hq2.lays I1
      refine zip_begins2 (beginsOf b1 its.toArray) (beginsOf b2 its2.toArray) in1 in2 fun h' hz hTI hTO h1 h2 hsz hk => wpAny_pyIter_zip hz ?_
      have I2 : Inv X pins σ H1 { s1 with heap := h' } := I1.kept (t' := s1.toks) hk
      refine ⟨s1.heap.objs.size + 4, [s1.heap.objs.size + 4, s1.heap.objs.size + 2, s1.heap.objs.size + 3, s1.heap.objs.size, s1.heap.objs.size + 1], _, _, H1, rfl, I2,
        turn_zp (zip_sep2 (N := s1.heap.objs.size) (fp1 := [a1]) (fp2 := [a2]) (fun b hb => by rw [List.mem_singleton.mp hb]; exact lt1) (fun b hb => by rw [List.mem_singleton.mp hb]; exact lt2)) (Nat.ne_of_lt lt1) (Nat.ne_of_lt (Nat.lt_succ_of_lt lt2)), ⟨hz, hTI, ⟨_, _, hTO⟩, itObj_at h1, itObj_at h2⟩, fun c hcm => ?_, q⟩
      have hle : s1.heap.objs.size ≤ c := by
        have e' : c = s1.heap.objs.size + 4 ∨ c = s1.heap.objs.size + 2 ∨ c = s1.heap.objs.size + 3 ∨ c = s1.heap.objs.size ∨ c = s1.heap.objs.size + 1 := by simpa using hcm
        rcases e' with z | z | z | z | z <;> (rw [z]; first | exact Nat.le_refl _ | exact Nat.le_add_right _ _)
      exact I1.fpOk hle (I1.hok.fresh hle)

/-! ### what is walked, over data -/
/-- pairs with their numbers -/
def enumD : Int → List D → List D
  | _, [] => []
  | k, x :: xs => .tup [.int k, x] :: enumD (k + 1) xs
def zipD : List D → List D → List D
  | x :: xs, y :: ys => .tup [x, y] :: zipD xs ys
  | _, _ => []
def rngD (lo : Int) : Nat → List D
  | 0 => []
  | n + 1 => .int lo :: rngD (lo + 1) n
theorem enumD_at : ∀ (xs : List D) (k : Int) (i : Nat), (enumD k xs)[i]? = xs[i]?.map fun x => .tup [.int (k + (i : Int)), x]
  | [], k, i => by simp [enumD]
  | x :: xs, k, 0 => by simp [enumD]
  | x :: xs, k, i + 1 => by
    have q := enumD_at xs (k + 1) i
    have e : k + 1 + (i : Int) = k + ((i + 1 : Nat) : Int) := by omega
    rw [e] at q
    simpa [enumD] using q
theorem enumD_length : ∀ (xs : List D) (k : Int), (enumD k xs).length = xs.length
  | [], k => rfl
  | x :: xs, k => congrArg (· + 1) (enumD_length xs (k + 1))
theorem zipD_at : ∀ (xs ys : List D) (i : Nat) (x y : D), xs[i]? = some x → ys[i]? = some y → (zipD xs ys)[i]? = some (.tup [x, y])
  | [], _, i, x, y, h, _ => by simp at h
  | _ :: _, [], i, x, y, _, h => by simp at h
  | a :: xs, b :: ys, 0, x, y, h1, h2 => by
    simp at h1 h2
    subst h1 h2
    rfl
  | a :: xs, b :: ys, i + 1, x, y, h1, h2 => by
    have q := zipD_at xs ys i x y (by simpa using h1) (by simpa using h2)
    simpa [zipD] using q
theorem zipD_length : ∀ (xs ys : List D), (zipD xs ys).length = min xs.length ys.length
  | [], ys => by simp [zipD]
  | _ :: _, [] => by simp [zipD]
  | a :: xs, b :: ys => by
    have q := zipD_length xs ys
    simp only [zipD, List.length_cons]
    omega
theorem rngD_length : ∀ (n : Nat) (lo : Int), (rngD lo n).length = n
  | 0, _ => rfl
  | n + 1, lo => congrArg (· + 1) (rngD_length n (lo + 1))
theorem rngD_at : ∀ (n : Nat) (lo : Int) (i : Nat), i < n → (rngD lo n)[i]? = some (.int (lo + (i : Int)))
  | 0, _, i, h => by omega
  | n + 1, lo, 0, h => by simp [rngD]
  | n + 1, lo, i + 1, h => by
    have q := rngD_at n (lo + 1) i (by omega)
    have e : lo + 1 + (i : Int) = lo + ((i + 1 : Nat) : Int) := by omega
    rw [e] at q
    simpa [rngD] using q
theorem rngD_get {n : Nat} {lo : Int} {i : Nat} {d : D} (h : (rngD lo n)[i]? = some d) : i < n ∧ d = .int (lo + (i : Int)) := by
  have l : i < n := by
    have q := (List.getElem?_eq_some_iff.mp h).1
    rwa [rngD_length] at q
  rw [rngD_at n lo i l] at h
  exact ⟨l, (Option.some.inj h).symm⟩
def diSeq (de : DE) : DI := fun δ P => de δ fun d => ∃ xs, d.seq = some xs ∧ P xs
def diEn (da : DA) : DI := fun δ P => da δ fun ds => ∃ d xs, ds = [d] ∧ d.seq = some xs ∧ P (enumD 0 xs)
def diZp (da : DA) : DI := fun δ P => da δ fun ds => ∃ d e xs ys, ds = [d, e] ∧ d.seq = some xs ∧ e.seq = some ys ∧ P (zipD xs ys)
def diR1 (da : DA) : DI := fun δ P => da δ fun ds => ∃ j : Int, ds = [.int j] ∧ -1000000 ≤ j ∧ j ≤ 1000000 ∧ P (rngD 0 j.toNat)
def diR2 (da : DA) : DI := fun δ P => da δ fun ds => ∃ i j : Int, ds = [.int i, .int j] ∧ -1000000 ≤ i ∧ i ≤ 1000000 ∧ -1000000 ≤ j ∧ j ≤ 1000000 ∧ P (rngD i (j - i).toNat)
theorem sq_any {K : PySem.W.Frag} {B : Hp} {v : V} {d : D} {xs : List D} (r : Rp K B v d) (h : d.seq = some xs) : ∃ b a vs, v = .ref a ∧ (∀ H, Ex B H → Sq K H b a vs) ∧ RpA K B vs xs := by
  cases r with
  | lst h1 r => cases h; exact ⟨true, _, _, rfl, fun H e => .inl ⟨rfl, SqL.of (e _ _ h1)⟩, r⟩
  | tup h1 r => cases h; exact ⟨false, _, _, rfl, fun H e => .inr ⟨rfl, exT e h1⟩, r⟩
  | _ => cases h
section
variable {X : Cx} {G : Gx} {e e2 : Expr} {elts : List Expr} {kk : Nat} {p pos tpos : Pos} {de : DE} {da : DA} {tg : Expr}
theorem wk_list {K : PySem.W.Frag} {a : Addr} {vs : List V} {ds : List D} {B : Hp} (h : ∀ H, Ex B H → SqL K H a vs) (r : RpA K B vs ds) : Wk K G (Itl K a) ds B := fun B2 H2 e1 e2 f => by
  have hq := h H2 (e1.trans e2)
  refine ⟨fun i hi => ?_, ⟨vs, hq, by rw [r.length]; exact Nat.le_refl _⟩⟩
  obtain ⟨v, hv, rv⟩ := r.at (List.getElem?_eq_getElem hi)
  refine ⟨⟨vs, v, hq, hv⟩, fun x H3 ⟨e3, hy⟩ => ?_⟩
  have hx := hy vs hq
  rw [hv] at hx
  cases hx
  subst e3
  exact ⟨B2, _, List.getElem?_eq_getElem hi, .refl e2 f, rv.mono e1⟩
theorem wk_tup {K : PySem.W.Frag} {a : Addr} {vs : List V} {ds : List D} {B : Hp} (h : ∀ H, Ex B H → SqT K H a vs) (r : RpA K B vs ds) : Wk K G (Itt K a) ds B := fun B2 H2 e1 e2 f => by
  have hq := h H2 (e1.trans e2)
  refine ⟨fun i hi => ?_, ⟨vs, hq, by rw [r.length]; exact Nat.le_refl _⟩⟩
  obtain ⟨v, hv, rv⟩ := r.at (List.getElem?_eq_getElem hi)
  refine ⟨⟨vs, v, hq, hv⟩, fun x H3 ⟨e3, hy⟩ => ?_⟩
  have hx := hy vs hq
  rw [hv] at hx
  cases hx
  subst e3
  exact ⟨B2, _, List.getElem?_eq_getElem hi, .refl e2 f, rv.mono e1⟩
theorem wk_rng {K : PySem.W.Frag} {B : Hp} {lo : Int} {n : Nat} : Wk K G (Itr lo n) (rngD lo n) B := fun B2 H2 e1 e2 f => by
  refine ⟨fun i hi => ?_, by rw [rngD_length]; exact Nat.le_refl n⟩
  rw [rngD_length] at hi
  refine ⟨hi, fun x H3 ⟨e3, hx⟩ => ?_⟩
  subst e3 hx
  exact ⟨B2, _, rngD_at n lo i hi, .refl e2 f, .int _⟩
theorem pid_seq (he : PEd X G e de) : PId X G tg e (diSeq de) := by
  refine ⟨fun pins s σ H R I ⟨B, δ, P, st, h, q⟩ => ?_⟩
  let Q2 : VK := fun v H1 => ∃ b a xs, v = .ref a ∧ Sq X.K H1 b a xs ∧ R (if b = true then Itl X.K a else Itt X.K a) H1
  have key : teOf X.K G de σ H Q2 := ⟨B, δ, _, st, h, fun v d B1 H1 m1 ⟨xs, e, p⟩ r1 => by
    obtain ⟨b, a, vs, rfl, hq, ra⟩ := sq_any r1 e
    refine ⟨b, a, vs, rfl, hq H1 m1.e, q _ xs B1 H1 m1 p ?_⟩
    cases b with
    | true => exact wk_list (fun H e => (hq H e).elim (fun z => z.2) (fun z => nomatch z.1)) ra
    | false => exact wk_tup (fun H e => (hq H e).elim (fun z => nomatch z.1) (fun z => z.2)) ra⟩
  refine thn (he.run pins s σ H Q2 I key) fun v s1 ⟨x, H1, I1, r1, b, a, xs, e, hq, q⟩ => ?_
  subst e
  cases r1
  have fr : ∀ c ∈ [s1.heap.objs.size], FpOk X pins H1 c := fun c hb => by
    rw [List.mem_singleton.mp hb]
    exact I1.fpOk (Nat.le_refl _) (I1.hok.fresh (Nat.le_refl _))
  rcases hq with ⟨eb, hq⟩ | ⟨eb, hq⟩
  · obtain ⟨its, rv, p, hz⟩ := I1.list hq
    rw [if_pos eb] at q
    exact wpAny_pyIter_list p.isList ⟨s1.heap.objs.size, [s1.heap.objs.size], _, _, H1, rfl, I1.kept (t' := s1.toks) fun c o e => Heap.get?_push_of_some _ e, turn_list a _, ⟨_, Heap.get?_push_size _ rfl, rfl, rfl⟩, fr, q⟩
  · obtain ⟨its, rv, p, hz⟩ := I1.tuple hq
    rw [if_neg (by rw [eb]; decide)] at q
    exact wpAny_pyIter_tuple (show s1.heap.IsTuple a its.toArray from p) ⟨s1.heap.objs.size, [s1.heap.objs.size], _, _, H1, rfl, I1.kept (t' := s1.toks) fun c o e => Heap.get?_push_of_some _ e, turn_tuple a _, ⟨_, Heap.get?_push_size _ rfl, rfl, rfl⟩, fr, q⟩
theorem wk_en {K : PySem.W.Frag} {b : Bool} {a : Addr} {vs : List V} {ds : List D} {B : Hp} {k : Int} (h : ∀ H, Ex B H → Sq K H b a vs) (r : RpA K B vs ds) : Wk K G (Iten K b a k) (enumD k ds) B := fun B2 H2 e1 e2 f => by
  have hq := h H2 (e1.trans e2)
  refine ⟨fun i hi => ?_, ⟨vs, hq, by rw [enumD_length, r.length]⟩⟩
  rw [enumD_length] at hi
  obtain ⟨v, hv, rv⟩ := r.at (List.getElem?_eq_getElem hi)
  refine ⟨⟨vs, v, hq, hv⟩, fun x H3 ⟨T, x', e3, hT, e4, hy⟩ => ?_⟩
  have hx := hy vs hq
  rw [hv] at hx
  cases hx
  subst e3 e4
  have m := Fm.new (K := K) (F := G.F) (o := .tup [.int (k + (i : Int)), v]) e2 f hT
  refine ⟨_, .tup [.int (k + (i : Int)), ds[i]], ?_, m, .tup (SqT.of upd_same) (.cons (.int _) (.cons ((rv.mono e1).mono m.b) .nil))⟩
  rw [enumD_at, List.getElem?_eq_getElem hi]
  rfl
theorem wk_zp {K : PySem.W.Frag} {b1 b2 : Bool} {a1 a2 : Addr} {vs ws : List V} {ds es : List D} {B : Hp} (h1 : ∀ H, Ex B H → Sq K H b1 a1 vs) (r1 : RpA K B vs ds) (h2 : ∀ H, Ex B H → Sq K H b2 a2 ws) (r2 : RpA K B ws es) : Wk K G (Itzp K b1 a1 b2 a2) (zipD ds es) B := fun B2 H2 e1 e2 f => by
  have hq1 := h1 H2 (e1.trans e2)
  have hq2 := h2 H2 (e1.trans e2)
  have l1 := r1.length
  have l2 := r2.length
  refine ⟨fun i hi => ?_, ⟨vs, ws, hq1, hq2, by rw [zipD_length]; omega, by rw [zipD_length]; omega, by rw [zipD_length]; omega⟩⟩
  rw [zipD_length] at hi
  have hi1 : i < ds.length := by omega
  have hi2 : i < es.length := by omega
  obtain ⟨v, hv, rv⟩ := r1.at (List.getElem?_eq_getElem hi1)
  obtain ⟨u, hu, ru⟩ := r2.at (List.getElem?_eq_getElem hi2)
  refine ⟨⟨vs, ws, v, u, hq1, hq2, hv, hu⟩, fun x H3 ⟨T, x', y', e3, hT, e4, hy1, hy2⟩ => ?_⟩
  have hx := hy1 vs hq1
  rw [hv] at hx
  cases hx
  have hy := hy2 ws hq2
  rw [hu] at hy
  cases hy
  subst e3 e4
  have m := Fm.new (K := K) (F := G.F) (o := .tup [v, u]) e2 f hT
  exact ⟨_, .tup [ds[i], es[i]], zipD_at _ _ _ _ _ (List.getElem?_eq_getElem hi1) (List.getElem?_eq_getElem hi2), m, .tup (SqT.of upd_same) (.cons ((rv.mono e1).mono m.b) (.cons ((ru.mono e1).mono m.b) .nil))⟩
theorem pid_en (hm : X.mg "enumerate" = none) (ha : PAd X G [e] da) (hg : Gl X "enumerate" := by rfl) (hs : starEach [e] X.env = [(false, eval e X.env)] := by rfl) : PId X G (.Tuple elts kk tpos) (.Call (.Name "enumerate" p) [e] [] pos) (diEn da) :=
  PI.imp (pi_en hm ha hg hs) fun σ H R ⟨B, δ, P, st, h, q⟩ => ⟨B, δ, _, st, h, fun vs ds B1 H1 m1 ⟨d, xs, e1, e2, p⟩ r1 => by
    subst e1
    cases r1 with
    | cons rx rn =>
      cases rn
      obtain ⟨b, a, ws, rfl, hq, ra⟩ := sq_any rx e2
      exact ⟨b, a, ws, rfl, hq H1 m1.e, q _ _ B1 H1 m1 p (wk_en hq ra)⟩⟩
theorem pid_zp (hm : X.mg "zip" = none) (ha : PAd X G [e, e2] da) (hg : Gl X "zip" := by rfl) (hs : starEach [e, e2] X.env = (false, eval e X.env) :: starEach [e2] X.env := by rfl) (hpl : (backTo pos (starEach [e2] X.env)).any (·.1) = false := by rfl) :
    PId X G (.Tuple elts kk tpos) (.Call (.Name "zip" p) [e, e2] [] pos) (diZp da) :=
  PI.imp (pi_zp hm ha hg hs hpl) fun σ H R ⟨B, δ, P, st, h, q⟩ => ⟨B, δ, _, st, h, fun vs ds B1 H1 m1 ⟨d, f, xs, ys, e1, e2, e3, p⟩ r1 => by
    subst e1
    cases r1 with
    | cons rx rn =>
      cases rn with
      | cons ry rn =>
        cases rn
        obtain ⟨b1, a1, v1, rfl, hq1, ra1⟩ := sq_any rx e2
        obtain ⟨b2, a2, v2, rfl, hq2, ra2⟩ := sq_any ry e3
        exact ⟨b1, a1, v1, b2, a2, v2, rfl, hq1 H1 m1.e, hq2 H1 m1.e, q _ _ B1 H1 m1 p (wk_zp hq1 ra1 hq2 ra2)⟩⟩
theorem pid_r1 (hm : X.mg "range" = none) (ha : PAd X G [e] da) (hg : Gl X "range" := by rfl) (hs : starEach [e] X.env = [(false, eval e X.env)] := by rfl) : PId X G tg (.Call (.Name "range" p) [e] [] pos) (diR1 da) :=
  PI.imp (pi_range1 hg hm ha hs) fun σ H R ⟨B, δ, P, st, h, q⟩ => ⟨B, δ, _, st, h, fun vs ds B1 H1 m1 ⟨j, e1, h1, h2, p⟩ r1 => by
    subst e1
    cases r1 with
    | cons rx rn =>
      cases rn
      cases rx
      exact ⟨j, rfl, by omega, by omega, q _ _ B1 H1 m1 p wk_rng⟩⟩
theorem pid_r2 (hm : X.mg "range" = none) (ha : PAd X G [e, e2] da) (hg : Gl X "range" := by rfl) (hs : starEach [e, e2] X.env = [(false, eval e X.env), (false, eval e2 X.env)] := by rfl) (hs2 : starEach [e2] X.env = [(false, eval e2 X.env)] := by rfl) :
    PId X G tg (.Call (.Name "range" p) [e, e2] [] pos) (diR2 da) :=
  PI.imp (pi_range2 hg hm ha hs hs2) fun σ H R ⟨B, δ, P, st, h, q⟩ => ⟨B, δ, _, st, h, fun vs ds B1 H1 m1 ⟨i, j, e1, h1, h2, h3, h4, p⟩ r1 => by
    subst e1
    cases r1 with
    | cons rx rn =>
      cases rn with
      | cons ry rn =>
        cases rn
        cases rx
        cases ry
        exact ⟨i, j, rfl, ⟨by omega, by omega, by omega, by omega⟩, q _ _ B1 H1 m1 p wk_rng⟩⟩
end
end Sd
end
-- SdStmts
section
set_option Elab.async false
set_option linter.all false
set_option maxRecDepth 100000
set_option maxHeartbeats 4000000
set_option autoImplicit false
namespace Sd
open PySem PySem.Spec PyProof.Rows L2
open Evl (Ex)
section
variable {K : PySem.W.Frag} {G : Gx} {B B1 : Hp} {DD : DEnds} {D : Ends}
theorem Dlv.up (d : Dlv K G B DD D) (e : Ex B B1) : Dlv K G B1 DD D := ⟨fun σ' B' H' δ' x => d.nx σ' B' H' δ' (e.trans x), d.rt, fun σ' B' H' δ' x => d.bk σ' B' H' δ' (e.trans x), fun σ' B' H' δ' x => d.ct σ' B' H' δ' (e.trans x)⟩
end

/-! ### own lists -/
section
variable {K : PySem.W.Frag} {G : Gx} {σ : L2.St} {B H : Hp} {δ : List Sl}
theorem Stt.fresh0 (s : Stt K G σ B H δ) {p : Addr} (h : ¬ Hd H p) (ns : ¬ G.F.S p) : ¬ Hd G.H0 p := s.fm.back h ns
theorem fok_upd {F : Fs} {l : Addr} {o : HO} (f : Fok K F B H) (hl : ¬ F.S l) (hc : ∀ p ∈ F.tabs, ∀ c q, H c = some (LamX.CodeO c q) → c ≠ l) : Fok K F B (upd H l o) := by
  refine ⟨fun r sa hr => ?_, fun p hp => ?_, f.tb, f.nt⟩
  · obtain ⟨h1, h2, i, s, c, h3, h4⟩ := f.row r sa hr
    exact ⟨h1, h2, i, s, c, by rw [upd_ne (f.s_ne hl r (.inl ⟨sa, hr⟩))]; exact h3, h4⟩
  · obtain ⟨ps, h1, h2, h3⟩ := f.tab p hp
    refine ⟨ps, by rw [upd_ne (f.s_ne hl p.1 (.inr ⟨p.2, hp⟩))]; exact h1, h2, fun pos cv hcv => ?_⟩
    obtain ⟨c, e1, e2⟩ := h3 pos cv hcv
    exact ⟨c, e1, by rw [upd_ne (hc p hp c _ e2)]; exact e2⟩
theorem lst_ne_code {l c : Addr} {vs : List V} {q : Str} (hl : H l = some (.lst vs)) (h : H c = some (LamX.CodeO c q)) : c ≠ l := fun z => by
  subst z
  rw [hl] at h
  cases h
/-- an own list is changed -/
theorem Stt.setOwn {i : Nat} {l : Addr} {vs ws : List V} {xs es : List D} (s : Stt K G σ B H δ) (hi : σ[i]? = some (some (.ref l))) (hd : δ[i]? = some (.own xs)) (h0 : ¬ Hd G.H0 l) (hb : B l = none) (hl : H l = some (.lst vs)) (ns : ¬ G.F.S l) (r : RpA K B ws es) :
    Stt K G σ B (upd H l (.lst ws)) (δ.set i (.own es)) := by
  have f' : Fok K G.F B (upd H l (.lst ws)) := fok_upd s.f ns fun p _ c q e => lst_ne_code hl e
  have e' : Ex B (upd H l (.lst ws)) := fun a o h => by
    rw [upd_ne (fun z => by rw [z, hb] at h; cases h)]
    exact s.e a o h
  refine ⟨⟨s.fm.b, e', fun a h1 h2 => ?_, f'⟩, by rw [List.length_set]; exact s.len, fun j t h => ?_, fun j k ds fs hn h1 h2 => ?_, fun a m dx C t fs ms h b => ?_⟩
  · obtain ⟨h3, h4⟩ := s.fm.o a h1 h2
    exact ⟨h3, fun q => by rw [upd_ne (h2.nne h0)]; exact h4 q⟩
  · by_cases hj : i = j
    · subst hj
      have lt := (List.getElem?_eq_some_iff.mp hd).1
      rw [List.getElem?_set, if_pos rfl, if_pos lt] at h
      cases h
      exact ⟨_, hi, l, ws, rfl, h0, hb, upd_same, r, ns⟩
    · rw [List.getElem?_set, if_neg hj] at h
      obtain ⟨o, e, k⟩ := s.sl j t h
      refine ⟨o, e, ?_⟩
      cases t with
      | un => exact k
      | dat d => exact k
      | own ds =>
        obtain ⟨m, us, eo, g0, gb, gl, gr, gs⟩ := k
        have nm : m ≠ l := fun z => by
          have q := s.sep i j xs ds hj hd h
          rw [hi, e, eo, z] at q
          exact q rfl
        exact ⟨m, us, eo, g0, gb, by rw [upd_ne nm]; exact gl, gr, gs⟩
      | obj m dx C q fs ms =>
        obtain ⟨eo, k⟩ := k
        obtain ⟨vm, hm, rf⟩ := k.hm
        have n1 : m ≠ l := fun z => by rw [z, hl] at hm; cases hm
        have n2 : dx ≠ l := fun z => by
          have := k.hx
          rw [z, hl] at this
          cases this
        refine ⟨eo, k.m0, k.x0, k.mb, k.xb, k.mS, k.xS, by rw [upd_ne n2]; exact k.hx, ⟨vm, by rw [upd_ne n1]; exact hm, rf⟩, fun ys ey => ?_⟩
        obtain ⟨s0, sb, ss, us, hs, ra⟩ := k.hs ys ey
        have n3 : q ≠ l := fun z => (s.ob j m dx C q fs ms h i).1 xs ys hd ey (by rw [hi, z])
        exact ⟨s0, sb, ss, us, by rw [upd_ne n3]; exact hs, ra⟩
  · have g : ∀ (m : Nat) (zs : List D), (δ.set i (.own es))[m]? = some (.own zs) → ∃ ys, δ[m]? = some (.own ys) := fun m zs hm => by
      by_cases hj : i = m
      · subst hj; exact ⟨xs, hd⟩
      · rw [List.getElem?_set, if_neg hj] at hm
        exact ⟨zs, hm⟩
    obtain ⟨y1, g1⟩ := g j ds h1
    obtain ⟨y2, g2⟩ := g k fs h2
    exact s.sep j k y1 y2 hn g1 g2
  · have g : ∀ (m : Nat) (zs : List D), (δ.set i (.own es))[m]? = some (.own zs) → ∃ ys, δ[m]? = some (.own ys) := fun m zs hm => by
      by_cases hj : i = m
      · subst hj; exact ⟨xs, hd⟩
      · rw [List.getElem?_set, if_neg hj] at hm
        exact ⟨zs, hm⟩
    obtain ⟨n1, h1⟩ := set_at h (fun z => by cases z)
    refine ⟨fun ds ys h2 e2 => ?_, fun m' dx' C' s' fs' ms' h2 => (s.ob a m dx C t fs ms h1 b).2 _ _ _ _ _ _ (set_at h2 (fun z => by cases z)).2⟩
    obtain ⟨y1, g1⟩ := g b ds h2
    exact (s.ob a m dx C t fs ms h1 b).1 y1 ys g1 e2
/-- p is no list of the slots' own -/
def NeOwn (σ : L2.St) (δ : List Sl) (p : Addr) : Prop := (∀ (j : Nat) (es : List D), δ[j]? = some (.own es) → σ[j]? ≠ some (some (.ref p))) ∧ ∀ (j : Nat) (m dx : Addr) (C : Str) (s : Addr) (fs : List (Str × D)) (xs : List D), δ[j]? = some (.obj m dx C s fs (some xs)) → s ≠ p
/-- a new list becomes an own one -/
theorem Stt.putOwn {i : Nat} {p : Addr} {vs : List V} {ds : List D} {H1 : Hp} (s : Stt K G σ B H1 δ) (h0 : ¬ Hd G.H0 p) (hb : B p = none) (hp : H1 p = some (.lst vs)) (ns : ¬ G.F.S p) (hn : NeOwn σ δ p) (r : RpA K B vs ds) :
    Stt K G (σ.set i (some (.ref p))) B H1 (δ.set i (.own ds)) := by
  refine ⟨s.fm, by rw [List.length_set, List.length_set]; exact s.len, fun j t h => ?_, fun j k es fs hne h1 h2 => ?_, fun a m dx C t fs ms h b => ?_⟩
  · by_cases hj : i = j
    · subst hj
      rw [List.getElem?_set, if_pos rfl] at h
      by_cases lt : i < δ.length
      · rw [if_pos lt] at h
        cases h
        refine ⟨some (.ref p), ?_, p, vs, rfl, h0, hb, hp, r, ns⟩
        rw [List.getElem?_set, if_pos rfl, if_pos (by rw [s.len]; exact lt)]
      · rw [if_neg lt] at h
        cases h
    · rw [List.getElem?_set, if_neg hj] at h ⊢
      exact s.sl j t h
  · have lts : ∀ m zs, (δ.set i (.own ds))[m]? = some (.own zs) → i = m → (σ.set i (some (.ref p)))[m]? = some (some (.ref p)) := fun m zs hm e => by
      subst e
      have lt : i < δ.length := by
        have q := (List.getElem?_eq_some_iff.mp hm).1
        rwa [List.length_set] at q
      rw [List.getElem?_set, if_pos rfl, if_pos (by rw [s.len]; exact lt)]
    by_cases hj : i = j
    · by_cases hk : i = k
      · exact (hne (hj.symm.trans hk)).elim
      · rw [lts j es h1 hj]
        rw [List.getElem?_set, if_neg hk] at h2 ⊢
        exact Ne.symm (hn.1 k fs h2)
    · by_cases hk : i = k
      · rw [lts k fs h2 hk]
        rw [List.getElem?_set, if_neg hj] at h1 ⊢
        exact hn.1 j es h1
      · rw [List.getElem?_set, if_neg hj] at h1 ⊢
        rw [List.getElem?_set, if_neg hk] at h2 ⊢
        exact s.sep j k es fs hne h1 h2
  · obtain ⟨n1, h1⟩ := set_at h (fun z => by cases z)
    refine ⟨fun es ys h2 e2 => ?_, fun m' dx' C' s' fs' ms' h2 => (s.ob a m dx C t fs ms h1 b).2 _ _ _ _ _ _ (set_at h2 (fun z => by cases z)).2⟩
    by_cases hj : i = b
    · subst hj
      have lt : i < δ.length := by
        have q := (List.getElem?_eq_some_iff.mp h2).1
        rwa [List.length_set] at q
      rw [List.getElem?_set, if_pos rfl, if_pos (by rw [s.len]; exact lt)]
      subst e2
      intro z
      cases z
      exact hn.2 a m dx C _ fs ys h1 rfl
    · rw [List.getElem?_set, if_neg hj] at h2 ⊢
      exact (s.ob a m dx C t fs ms h1 b).1 es ys h2 e2
theorem Stt.own_ne (s : Stt K G σ B H δ) {p : Addr} (hp : ¬ Hd H p) : NeOwn σ δ p := by
  refine ⟨fun j es h z => ?_, fun j m dx C q fs xs h z => ?_⟩
  · obtain ⟨l, vs, e, _, _, hl, _⟩ := s.own h
    rw [z] at e
    cases e
    exact hp (.of hl)
  · obtain ⟨o, _, _, k⟩ := s.sl j _ h
    obtain ⟨_, _, _, ws, hs, _⟩ := k.hs xs rfl
    exact hp (.of (by rw [← z]; exact hs))
theorem Stt.noS (s : Stt K G σ B H δ) {p : Addr} (hp : H p = none) : ¬ G.F.S p := fun z => (s.f.there z).2 hp
/-- an own list is known as data from now on -/
theorem Stt.freezeE {i : Nat} {ds : List D} {l : Addr} {vs : List V} (s : Stt K G σ B H δ) (hd : δ[i]? = some (.own ds)) (hi : σ[i]? = some (some (.ref l))) (h0 : ¬ Hd G.H0 l) (hb : B l = none) (hl : H l = some (.lst vs)) (r : RpA K B vs ds) (ns : ¬ G.F.S l) : Stt K G σ (upd B l (.lst vs)) H (δ.set i (.dat (.lst ds))) := by
  have e1 : Ex B (upd B l (.lst vs)) := Evl.Ex.new hb
  have e2 : Ex (upd B l (.lst vs)) H := fun a o h => by
    by_cases ha : a = l
    · subst ha
      rw [upd_same] at h
      rw [hl]
      exact h
    · rw [upd_ne ha] at h
      exact s.e a o h
  have lt := (List.getElem?_eq_some_iff.mp hd).1
  refine ⟨⟨s.fm.b.trans e1, e2, fun a h1 h2 => ?_, s.f.ex e1 (fun a ha => ?_) (fun a o h => h) (nt_upd s.f.nt (fun _ z => by cases z))⟩, by rw [List.length_set]; exact s.len, fun j t h => ?_, fun j k es fs hne h1 h2 => ?_, fun a m dx C t fs ms h b => ?_⟩
  · obtain ⟨h3, h4⟩ := s.fm.o a h1 h2
    exact ⟨by rw [upd_ne (h2.nne h0)]; exact h3, h4⟩
  · rw [upd_ne (s.f.s_ne ns a ha)]
    exact (s.f.there ha).1
  · by_cases hj : i = j
    · subst hj
      rw [List.getElem?_set, if_pos rfl, if_pos lt] at h
      cases h
      exact ⟨_, hi, _, rfl, .lst upd_same (r.mono e1)⟩
    · rw [List.getElem?_set, if_neg hj] at h
      obtain ⟨o, e, k⟩ := s.sl j t h
      refine ⟨o, e, ?_⟩
      cases t with
      | un => exact k
      | dat d =>
        obtain ⟨v, ev, rv⟩ := k
        exact ⟨v, ev, rv.mono e1⟩
      | own es =>
        obtain ⟨m, us, eo, g0, gb, gl, gr, gs⟩ := k
        have nm : m ≠ l := fun z => by
          have q := s.sep i j ds es hj hd h
          rw [hi, e, eo, z] at q
          exact q rfl
        exact ⟨m, us, eo, g0, by rw [upd_ne nm]; exact gb, gl, gr.mono e1, gs⟩
      | obj m dx C q fs ms =>
        obtain ⟨eo, k⟩ := k
        obtain ⟨vm, hm, rf⟩ := k.hm
        have n1 : m ≠ l := fun z => by rw [z, hl] at hm; cases hm
        have n2 : dx ≠ l := fun z => by
          have := k.hx
          rw [z, hl] at this
          cases this
        refine ⟨eo, k.m0, k.x0, by rw [upd_ne n1]; exact k.mb, by rw [upd_ne n2]; exact k.xb, k.mS, k.xS, k.hx, ⟨vm, hm, rf.mono e1⟩, fun ys ey => ?_⟩
        obtain ⟨s0, sb, ss, us, hs, ra⟩ := k.hs ys ey
        have n3 : q ≠ l := fun z => (s.ob j m dx C q fs ms h i).1 ds ys hd ey (by rw [hi, z])
        exact ⟨s0, by rw [upd_ne n3]; exact sb, ss, us, hs, ra.mono e1⟩
  · have g : ∀ (m : Nat) (zs : List D), (δ.set i (.dat (.lst ds)))[m]? = some (.own zs) → δ[m]? = some (.own zs) := fun m zs hm => by
      by_cases hj : i = m
      · subst hj
        rw [List.getElem?_set, if_pos rfl, if_pos lt] at hm
        cases hm
      · rw [List.getElem?_set, if_neg hj] at hm
        exact hm
    exact s.sep j k es fs hne (g j es h1) (g k fs h2)
  · obtain ⟨n1, h1⟩ := set_at h (fun z => by cases z)
    exact ⟨fun es ys h2 e2 => (s.ob a m dx C t fs ms h1 b).1 es ys (set_at h2 (fun z => by cases z)).2 e2, fun m' dx' C' s' fs' ms' h2 => (s.ob a m dx C t fs ms h1 b).2 _ _ _ _ _ _ (set_at h2 (fun z => by cases z)).2⟩
theorem Stt.freeze {i : Nat} {ds : List D} (s : Stt K G σ B H δ) (hd : δ[i]? = some (.own ds)) : ∃ B', Ex B B' ∧ Stt K G σ B' H (δ.set i (.dat (.lst ds))) := by
  obtain ⟨l, vs, hi, h0, hb, hl, r, ns⟩ := s.own hd
  exact ⟨_, Evl.Ex.new hb, s.freezeE hd hi h0 hb hl r ns⟩
end

/-! ### targets -/
def dgName (i : Nat) : DG := fun d δ Q => Q (δ.set i (.dat d))
def dgNil : DGs := fun ds δ Q => ds = [] ∧ Q δ
def dgCons (t : DG) (u : DGs) : DGs := fun ds δ Q => ∃ d r, ds = d :: r ∧ t d δ fun δ' => u r δ' Q
def dgTup (n : Nat) (t : DGs) : DG := fun d δ Q => ∃ xs, d = .tup xs ∧ xs.length = n ∧ t xs δ Q
section
variable {X : Cx} {G : Gx} {e : Expr} {es : List Expr} {t : DG} {u : DGs} {pos : Pos}
theorem pgd_name {i : Nat} {x : Str} (hN : X.N.Nodup) (hi : X.N[i]? = some x) (hx : Loc X.env.scope x) (hf : X.fn x = true ∨ X.env.scope.names.lookup x = some .local := by first | exact .inl rfl | exact .inr rfl | assumption) : PGd X G (.Name x pos) (dgName i) :=
  PG.imp (pg_name hN hi hx hf) fun v σ H Q ⟨B, δ, d, P, s, r, p, q⟩ => q _ B H _ (Ex.refl B) (s.put r) p
theorem pgsd_nil : PGsd X G [] dgNil := PGs.imp pgs_nil fun vs σ H Q ⟨B, δ, d, P, s, r, ⟨e, p⟩, q⟩ => by
  subst e
  cases r
  exact ⟨rfl, q _ B H δ (Ex.refl B) s p⟩
theorem pgsd_cons (h1 : PGd X G e t) (h2 : PGsd X G es u) (hs : (assignEach (e :: es) X.env).map (·.2) = assign e X.env :: (assignEach es X.env).map (·.2) := by rfl) : PGsd X G (e :: es) (dgCons t u) :=
  PGs.imp (pgs_cons h1 h2 hs) fun vs σ H Q ⟨B, δ, ds, P, s, r, ⟨d, rest, e, p⟩, q⟩ => by
    subst e
    cases r with
    | cons rv rr =>
      exact ⟨_, _, rfl, B, δ, d, _, s, rv, p, fun σ1 B1 H1 δ1 e1 s1 p1 => ⟨B1, δ1, rest, P, s1, rr.mono e1, p1, fun σ2 B2 H2 δ2 e2 => q σ2 B2 H2 δ2 (e1.trans e2)⟩⟩
theorem pgd_tup {k n : Nat} (h : PGsd X G es u) (hc : X.calm = true := by rfl) (hn : (assignEach es X.env).length = n := by rfl) (hst : (assignEach es X.env).findIdx? (·.1) = none := by rfl) : PGd X G (.Tuple es k pos) (dgTup n u) :=
  PG.imp (pg_tup hc h hn hst) fun v σ H Q ⟨B, δ, d, P, s, r, ⟨xs, e, hl, p⟩, q⟩ => by
    subst e
    cases r with
    | tup h1 ra => exact ⟨_, _, rfl, exT s.e h1, by rw [ra.length]; exact hl, B, δ, xs, P, s, ra, p, q⟩
end

/-! ### statements -/
def dsNext : DS := fun D δ => D.nx δ
def dsSeq (t u : DS) : DS := fun D δ => t { D with nx := u D } δ
def dsBreak : DS := fun D δ => D.bk δ
def dsCont : DS := fun D δ => D.ct δ
def dsAsg (de : DE) (g : DG) : DS := fun D δ => de δ fun d => g d δ D.nx
def dsDrop (de : DE) : DS := fun D δ => de δ fun _ => D.nx δ
def dsRet (de : DE) : DS := fun D δ => de δ D.rt
def dsRetN : DS := fun D _ => D.rt .non
def dsIf (c : DT) (t u : DS) : DS := fun D δ => c δ fun b => if b = true then t D δ else u D δ
def dsPar (i j : Nat) (da : DA) : DS := fun D δ => da δ fun ds => ∃ x y, ds = [x, y] ∧ D.nx ((δ.set i (.dat x)).set j (.dat y))
def dsAug (i : Nat) (f : Int → Int → Int) (de : DE) : DS := fun D δ => ∃ a, δ[i]? = some (.dat (.int a)) ∧ de δ fun y => ∃ b, y = .int b ∧ D.nx (δ.set i (.dat (.int (f a b))))
def dsFor (di : DI) (g : DG) (t : DS) : DS := fun D δ => di δ fun xs => ∃ J : Nat → List Sl → Prop, J 0 δ ∧
  (∀ i x δ', xs[i]? = some x → J i δ' → g x δ' fun δ2 => t { D with nx := J (i + 1), ct := J (i + 1), bk := D.nx } δ2) ∧ ∀ δ', J xs.length δ' → D.nx δ'
def dsWhile (c : DT) (t : DS) : DS := fun D δ => ∃ J : Nat → List Sl → Prop, (∃ m, J m δ) ∧ ∀ m δ', J m δ' →
  c δ' fun b => if b = true then t { D with nx := fun δ2 => ∃ m', m' < m ∧ J m' δ2, ct := fun δ2 => ∃ m', m' < m ∧ J m' δ2, bk := D.nx } δ' else D.nx δ'
/-- an own list is known as data from here on -/
def dsFrz (i : Nat) (t : DS) : DS := fun D δ => ∃ ds, δ[i]? = some (.own ds) ∧ t D (δ.set i (.dat (.lst ds)))
def dsNever : DS := fun _ _ => False
section
variable {X : Cx} {G : Gx} {st : Stmt} {rest : List Stmt} {t u : DS} {e c : Expr} {de : DE} {da : DA} {tc : DT} {di : DI} {dg : DG} {tg iter : Expr} {pos : Pos} {a b : List Stmt}
theorem pssd_nil : PSsd X G [] dsNext := PSs.imp pss_nil fun D σ H ⟨B, δ, DD, s, h, q⟩ => q.nx σ B H δ (Ex.refl B) s h
theorem pssd_cons (h1 : PSd X G st t) (h2 : PSsd X G rest u) : PSsd X G (st :: rest) (dsSeq t u) := PSs.imp (pss_cons h1 h2) fun D σ H ⟨B, δ, DD, s, h, q⟩ =>
  ⟨B, δ, { DD with nx := u DD }, s, h, ⟨fun σ' B' H' δ' e s' h' => ⟨B', δ', DD, s', h', q.up e⟩, q.rt, q.bk, q.ct⟩⟩
theorem pssd_one (h1 : PSd X G st t) : PSsd X G [st] t := pss_one h1
theorem psd_pass : PSd X G (.Pass pos) dsNext := PS.imp ps_pass fun D σ H ⟨B, δ, DD, s, h, q⟩ => q.nx σ B H δ (Ex.refl B) s h
theorem psd_break : PSd X G (.Break pos) dsBreak := PS.imp ps_break fun D σ H ⟨B, δ, DD, s, h, q⟩ => q.bk σ B H δ (Ex.refl B) s h
theorem psd_continue : PSd X G (.Continue pos) dsCont := PS.imp ps_continue fun D σ H ⟨B, δ, DD, s, h, q⟩ => q.ct σ B H δ (Ex.refl B) s h
theorem psd_never : PSd X G st dsNever := PS.imp ps_never fun D σ H ⟨B, δ, DD, s, h, q⟩ => h
theorem pssd_never : PSsd X G rest dsNever := PSs.imp pss_never fun D σ H ⟨B, δ, DD, s, h, q⟩ => h
theorem asg_of {σ : L2.St} {H : Hp} {D : Ends} (h : tsOf X.K G (dsAsg de dg) D σ H) : tAsg (teOf X.K G de) (tgOf X.K G dg) D σ H := by
  obtain ⟨B, δ, DD, s, h, q⟩ := h
  exact ⟨B, δ, _, s, h, fun v d B1 H1 m1 p1 r1 => ⟨B1, δ, d, DD.nx, s.mono m1, r1, p1, fun σ2 B2 H2 δ2 e2 s2 p2 => q.nx σ2 B2 H2 δ2 (m1.b.trans e2) s2 p2⟩⟩
theorem psd_asg (he : PEd X G e de) (hg : PGd X G tg dg) (hs : swapsWithSole [tg] e pos.line X.env = pure false := by rfl) (hw : swappedStores [tg] e X.env = pure none := by rfl) (h1 : (assignEach [tg] X.env).map (·.2) = [assign tg X.env] := by rfl) :
    PSd X G (.Assign [tg] e pos) (dsAsg de dg) := PS.imp (ps_asg he hg hs hw h1) fun D σ H h => asg_of h
/-- name = value -/
theorem psd_set {i : Nat} {x : Str} {pos' : Pos} (hN : X.N.Nodup) (hi : X.N[i]? = some x) (hx : Loc X.env.scope x) (he : PEd X G e de) (hs : swapsWith e (some (.Name x pos')) pos.line X.env = pure false := by rfl) (hf : X.fn x = true ∨ X.env.scope.names.lookup x = some .local := by first | exact .inl rfl | exact .inr rfl | assumption) :
    PSd X G (.Assign [.Name x pos'] e pos) (dsAsg de (dgName i)) := PS.imp (ps_set hN hi hx he hs hf) fun D σ H ⟨B, δ, DD, s, h, q⟩ =>
  ⟨B, δ, _, s, h, fun v d B1 H1 m1 p1 r1 => q.nx _ B1 H1 _ m1.b ((s.mono m1).put r1) p1⟩
theorem psd_drop (he : PEd X G e de) (hs : swapsWith e none pos.line X.env = pure false := by rfl) : PSd X G (.Expr e pos) (dsDrop de) := PS.imp (ps_expr he hs) fun D σ H ⟨B, δ, DD, s, h, q⟩ =>
  ⟨B, δ, _, s, h, fun v d B1 H1 m1 p1 r1 => q.nx _ B1 H1 _ m1.b (s.mono m1) p1⟩
theorem psd_ret (he : PEd X G e de) : PSd X G (.Return (some e) pos) (dsRet de) := PS.imp (ps_ret he) fun D σ H ⟨B, δ, DD, s, h, q⟩ =>
  ⟨B, δ, _, s, h, fun v d B1 H1 m1 p1 r1 => q.rt v d B1 H1 (s.fm.trans m1) p1 r1⟩
theorem psd_retN : PSd X G (.Return none pos) dsRetN := PS.imp ps_retN fun D σ H ⟨B, δ, DD, s, h, q⟩ => q.rt _ _ B H s.fm h .non
theorem psd_if (hc : PTd X G c tc) (ha : PSsd X G a t) (hb : PSsd X G b u) : PSd X G (.If c a b pos) (dsIf tc t u) := PS.imp (ps_if hc ha hb) fun D σ H ⟨B, δ, DD, s, h, q⟩ =>
  ⟨B, δ, _, s, h, fun k B1 H1 m1 p1 => by
    cases k with
    | true => exact ⟨B1, δ, DD, s.mono m1, p1, q.up m1.b⟩
    | false => exact ⟨B1, δ, DD, s.mono m1, p1, q.up m1.b⟩⟩
theorem psd_par {i j : Nat} {x y : Str} {e1 e2 : Expr} {px py pt : Pos} {kt k2 : Nat} {pt2 : Pos} (hN : X.N.Nodup) (hi : X.N[i]? = some x) (hj : X.N[j]? = some y) (hij : i ≠ j) (ha : PAd X G [e1, e2] da) (hc : X.calm = true := by rfl)
    (hx : X.env.scope.names.lookup x = some .local := by rfl) (hy : X.env.scope.names.lookup y = some .local := by rfl)
    (hw : swappedStores [.Tuple [.Name x px, .Name y py] kt pt] (.Tuple [e1, e2] k2 pt2) X.env = pure (some [x, y]) := by rfl) (hs : swapsWithSole [.Tuple [.Name x px, .Name y py] kt pt] (.Tuple [e1, e2] k2 pt2) pos.line X.env = pure false := by rfl) :
    PSd X G (.Assign [.Tuple [.Name x px, .Name y py] kt pt] (.Tuple [e1, e2] k2 pt2) pos) (dsPar i j da) := PS.imp (ps_par hc hN hi hj hij hx hy ha hw hs) fun D σ H ⟨B, δ, DD, s, h, q⟩ =>
  ⟨B, δ, _, s, h, fun vs ds B1 H1 m1 ⟨x, y, e, p1⟩ r1 => by
    subst e
    cases r1 with
    | cons rx rr => cases rr with
      | cons ry rr => cases rr; exact ⟨_, _, rfl, q.nx _ B1 H1 _ m1.b (((s.mono m1).put rx).put ry) p1⟩⟩
theorem psd_aug {i : Nat} {x : Str} {op : Operator} {f : Int → Int → Int} {pos' : Pos} (hN : X.N.Nodup) (hi : X.N[i]? = some x) (hx : Loc X.env.scope x) (ho : PIp X op (ipI f)) (he : PEd X G e de) (hf : X.fn x = true ∨ X.env.scope.names.lookup x = some .local := by first | exact .inl rfl | exact .inr rfl | assumption) :
    PSd X G (.AugAssign (.Name x pos') op e pos) (dsAug i f de) := PS.imp (ps_aug hN hi hx he ho hf) fun D σ H ⟨B, δ, DD, s, ⟨a, ha, h⟩, q⟩ => by
  obtain ⟨v, ev, rv⟩ := s.dat ha
  cases rv
  exact ⟨_, ev, B, δ, _, s, h, fun v d B1 H1 m1 ⟨b, e, p1⟩ r1 => by
    subst e
    cases r1
    exact ⟨a, b, rfl, rfl, q.nx _ B1 H1 _ m1.b ((s.mono m1).put (.int _)) p1⟩⟩
theorem psd_for (hp : PassesOwn (model X.prog X.w) X.A X.env X.xe) (hi : PId X G tg iter di) (hg : PGd X G tg dg) (hb : PSsd X G a t) (hc : X.calm = true := by rfl) (hs : ∀ x, foldedSetIterable iter X.env x = pure x := by intro _; rfl) :
    PSd X G (.For tg iter a [] pos) (dsFor di dg t) := PS.imp (ps_for hp hc hi hg hb hs) fun D σ H ⟨B, δ, DD, s, h, q⟩ =>
  ⟨B, δ, _, s, h, fun It xs B1 H1 m1 ⟨J, j0, js, jd⟩ wk => by
    refine ⟨fun i m σ' H' => i + m = xs.length ∧ ∃ B' δ', Ex B1 B' ∧ Stt X.K G σ' B' H' δ' ∧ J i δ', ⟨xs.length, by omega, B1, δ, Ex.refl B1, s.mono m1, j0⟩, fun i m σ' H' ⟨hm, B', δ', e', s', j'⟩ => ?_⟩
    obtain ⟨w1, w2⟩ := wk B' H' e' s'.e s'.f
    cases m with
    | zero =>
      have z : i = xs.length := by omega
      subst z
      exact .inl ⟨w2, q.nx σ' B' H' δ' (m1.b.trans e') s' (jd δ' j')⟩
    | succ m =>
      have lt : i < xs.length := by omega
      obtain ⟨g1, g2⟩ := w1 i lt
      refine .inr ⟨g1, fun σ2 H2 => i + 1 + m = xs.length ∧ ∃ B2 δ2, Ex B1 B2 ∧ Stt X.K G σ2 B2 H2 δ2 ∧ J (i + 1) δ2, fun σ2 H2 z => ⟨m, by omega, z⟩, fun x H2 hy => ?_⟩
      obtain ⟨B2, d, hd, m2, r2⟩ := g2 x H2 hy
      refine ⟨B2, δ', d, _, s'.mono m2, r2, js i d δ' hd j', fun σ3 B3 H3 δ3 e3 s3 p3 => ⟨B3, δ3, _, s3, p3, ?_⟩⟩
      have eb : Ex B1 B3 := (e'.trans m2.b).trans e3
      exact ⟨fun σ4 B4 H4 δ4 e4 s4 p4 => ⟨by omega, B4, δ4, eb.trans e4, s4, p4⟩, q.rt, fun σ4 B4 H4 δ4 e4 s4 p4 => q.nx σ4 B4 H4 δ4 ((m1.b.trans eb).trans e4) s4 p4, fun σ4 B4 H4 δ4 e4 s4 p4 => ⟨by omega, B4, δ4, eb.trans e4, s4, p4⟩⟩⟩
theorem psd_while (hp : PassesOwn (model X.prog X.w) X.A X.env X.xe) (hc : PTd X G c tc) (hb : PSsd X G a t) : PSd X G (.While c a [] pos) (dsWhile tc t) := PS.imp (ps_while hp hc hb) fun D σ H ⟨B, δ, DD, s, ⟨J, ⟨m0, j0⟩, js⟩, q⟩ => by
  refine ⟨fun m σ' H' => ∃ B' δ', Ex B B' ∧ Stt X.K G σ' B' H' δ' ∧ J m δ', ⟨m0, B, δ, Ex.refl B, s, j0⟩, fun m σ' H' ⟨B', δ', e', s', j'⟩ => ?_⟩
  refine ⟨B', δ', _, s', js m δ' j', fun k B1 H1 m1 p1 => ?_⟩
  have eb : Ex B B1 := e'.trans m1.b
  cases k with
  | false => exact q.nx σ' B1 H1 δ' eb (s'.mono m1) p1
  | true =>
    refine ⟨fun σ2 H2 => ∃ m', m' < m ∧ ∃ B2 δ2, Ex B B2 ∧ Stt X.K G σ2 B2 H2 δ2 ∧ J m' δ2, fun σ2 H2 z => z, B1, δ', _, s'.mono m1, p1, ?_⟩
    exact ⟨fun σ4 B4 H4 δ4 e4 s4 ⟨m', h1, h2⟩ => ⟨m', h1, B4, δ4, eb.trans e4, s4, h2⟩, q.rt, fun σ4 B4 H4 δ4 e4 s4 p4 => q.nx σ4 B4 H4 δ4 (eb.trans e4) s4 p4, fun σ4 B4 H4 δ4 e4 s4 ⟨m', h1, h2⟩ => ⟨m', h1, B4, δ4, eb.trans e4, s4, h2⟩⟩
theorem psd_frz (i : Nat) (h : PSd X G st t) : PSd X G st (dsFrz i t) := PS.imp h fun D σ H ⟨B, δ, DD, s, ⟨ds, hd, p⟩, q⟩ => by
  obtain ⟨B', e, s'⟩ := s.freeze hd
  exact ⟨B', _, DD, s', p, q.up e⟩
end

/-! ### new lists -/
abbrev DX := List Sl → (List D → Prop) → Prop
def txOf (K : PySem.W.Frag) (G : Gx) (dx : DX) : TE := fun σ H Q => ∃ (B : Hp) (δ : List Sl) (P : List D → Prop), Stt K G σ B H δ ∧ dx δ P ∧ ∀ p vs ds B' H', Fm K G.F B H B' H' → ¬ Hd H p → ¬ G.F.S p → B' p = none → H' p = some (.lst vs) → P ds → RpA K B' vs ds → Q (.ref p) H'
/-- an expression that makes a new list -/
abbrev PXd (X : Cx) (G : Gx) (e : Expr) (dx : DX) : Prop := PE X e (txOf X.K G dx)
def dsOwn (i : Nat) (dx : DX) : DS := fun D δ => dx δ fun xs => D.nx (δ.set i (.own xs))
/-- as a value -/
def deX (dx : DX) : DE := fun δ P => dx δ fun xs => P (.lst xs)
def dxLst (da : DA) : DX := fun δ P => da δ fun ds => ds.length ≤ 100000 ∧ P ds
def dxB (rd : List D → (List D → Prop) → Prop) (da : DA) : DX := fun δ P => da δ fun ds => rd ds P
section
variable {X : Cx} {G : Gx} {st : Stmt} {e : Expr} {es : List Expr} {de : DE} {da : DA} {dx : DX} {pos : Pos}
theorem newX {K : PySem.W.Frag} {F : Fs} {B H B1 H1 : Hp} {P : List D → Prop} {Q : VK} {vs : List V} {ds : List D} {p : Addr} (q : ∀ p vs ds B' H', Fm K F B H B' H' → ¬ Hd H p → ¬ F.S p → B' p = none → H' p = some (.lst vs) → P ds → RpA K B' vs ds → Q (.ref p) H') (e0 : Ex B H) (f0 : Fok K F B H) (m1 : Fm K F B H B1 H1) (ra : RpA K B1 vs ds) (pz : P ds) (hp : H1 p = none) : Q (.ref p) (upd H1 p (.lst vs)) := by
  have ns : ¬ F.S p := fun z => (m1.f.there z).2 hp
  exact q p vs ds B1 _ (m1.trans (Fm.newH m1.e m1.f hp)) (m1.back (not_hd hp) ns) ns (Evl.fresh_back m1.e hp) upd_same pz ra
theorem pxd_lst (h : PAd X G es da) : PXd X G (.List es pos) (dxLst da) := PE.imp (pe_lst h) fun σ H Q ⟨B, δ, P, s, h, q⟩ =>
  ⟨B, δ, _, s, h, fun xs ds B1 H1 m1 ⟨hl, p1⟩ r1 => ⟨by rw [r1.length]; exact size_ok hl, fun p hp => newX q s.e s.f m1 r1 p1 hp⟩⟩
/-- list(x) -/
def rxList : List D → (List D → Prop) → Prop := fun ds P => ∃ x xs, ds = [x] ∧ x.seq = some xs ∧ P xs
theorem pxd_list {p : Pos} (hm : X.mg "list" = none) (ha : PAd X G [e] da) (hg : Gl X "list" := by rfl) (he : starEach [e] X.env = (false, eval e X.env) :: starEach [] X.env := by rfl) (hpl : (backTo pos (starEach [] X.env)).any (·.1) = false := by rfl) :
    PXd X G (.Call (.Name "list" p) [e] [] pos) (dxB rxList da) := PE.imp (pe_callTy call_list_of hg hm (by decide +kernel) ha (by decide) (by decide) he hpl) fun σ H Q ⟨B, δ, P, s, h, q⟩ =>
  ⟨B, δ, _, s, h, fun vs ds B1 H1 m1 ⟨x, xs, h1, h2, p1⟩ r1 => by
    subst h1
    cases r1 with
    | cons rx rn =>
      cases rn
      obtain ⟨a, ws, rfl, hs, ra⟩ := seq_any m1.e rx h2
      exact ⟨a, ws, rfl, hs, fun l hl => newX q s.e s.f m1 ra p1 hl⟩⟩
theorem pd_x (h : PXd X G e dx) : PEd X G e (deX dx) := PE.imp h fun σ H Q ⟨B, δ, P, s, h, q⟩ => ⟨B, δ, _, s, h, fun p vs ds B' H' m hp ns hb hl pz r => by
  have e1 : Ex B' (upd B' p (.lst vs)) := Evl.Ex.new hb
  have e2 : Ex (upd B' p (.lst vs)) H' := fun a o h => by
    by_cases ha : a = p
    · subst ha
      rw [upd_same] at h
      rw [hl]
      exact h
    · rw [upd_ne ha] at h
      exact m.e a o h
  refine q _ _ (upd B' p (.lst vs)) H' ⟨m.b.trans e1, e2, fun a h1 h2 => ?_, m.f.ex e1 (fun a ha => ?_) (fun a o h => h) (nt_upd m.f.nt (fun _ z => by cases z))⟩ pz (.lst upd_same (r.mono e1))
  · obtain ⟨h3, h4⟩ := m.o a h1 h2
    exact ⟨by rw [upd_ne (h2.nne hp)]; exact h3, h4⟩
  · have ne : a ≠ p := fun z => ns (by rw [← z]; exact ha)
    rw [upd_ne ne]
    exact (m.f.there ha).1⟩
/-- name = a new list, changed later -/
theorem psd_own {i : Nat} {x : Str} {pos' : Pos} (hN : X.N.Nodup) (hi : X.N[i]? = some x) (hx : Loc X.env.scope x) (he : PXd X G e dx) (hs : swapsWith e (some (.Name x pos')) pos.line X.env = pure false := by rfl) (hf : X.fn x = true ∨ X.env.scope.names.lookup x = some .local := by first | exact .inl rfl | exact .inr rfl | assumption) :
    PSd X G (.Assign [.Name x pos'] e pos) (dsOwn i dx) := PS.imp (ps_set hN hi hx he hs hf) fun D σ H ⟨B, δ, DD, s, h, q⟩ =>
  ⟨B, δ, _, s, h, fun p vs ds B1 H1 m1 hp ns hb hl p1 r1 => q.nx _ B1 H1 _ m1.b ((s.mono m1).putOwn (s.fresh0 hp ns) hb hl ns (s.own_ne hp) r1) p1⟩
end

/-! ### comprehensions -/
def dtYes : DT := fun _ P => P true
abbrev PTsd (X : Cx) (G : Gx) (ifs : List Expr) (dt : DT) : Prop := PTs X ifs (ttOf X.K G dt)
/-- [elt for target in iter if ..]: J by the turn and the list so far -/
def dxLc (di : DI) (g : DG) (tt : DT) (te : DE) (own : List Nat) : DX := fun δ P => di δ fun xs => xs.length ≤ 100000 ∧ ∃ J : Nat → List D → Prop, J 0 [] ∧
  (∀ i x acc, xs[i]? = some x → J i acc → acc.length ≤ i → g x (wipeD δ own) fun δ2 => tt δ2 fun b => if b = true then te δ2 fun y => J (i + 1) (acc ++ [y]) else J (i + 1) acc) ∧ ∀ acc, J xs.length acc → P acc
section
variable {X : Cx} {G : Gx}
theorem ptsd_nil : PTsd X G [] dtYes := ⟨fun pins s σ H Q I ⟨B, δ, P, st, h, q⟩ => pts_nil.run pins s σ H Q I (q true B H st.here h)⟩
theorem ptsd_one {c : Expr} {t : DT} (h : PTd X G c t) : PTsd X G [c] t := pts_one h
end
theorem wipe_at (σ : L2.St) : ∀ (own : List Nat) (k : Nat), (L2.wipe σ own)[k]? = if k ∈ own then (if k < σ.length then some none else none) else σ[k]?
  | [], k => by simp [L2.wipe]
  | v :: vs, k => by
    show ((L2.wipe σ vs).set v none)[k]? = _
    rw [List.getElem?_set, L2.wipe_length, wipe_at σ vs k]
    by_cases h : v = k
    · subst h
      simp
    · have h' : ¬ k = v := fun z => h z.symm
      simp [h, h']
theorem wipe_set {σ : L2.St} {own : List Nat} {i : Nat} {x : Option V} (h : i ∈ own) : L2.wipe (σ.set i x) own = L2.wipe σ own := by
  apply List.ext_getElem?
  intro k
  rw [wipe_at, wipe_at, List.length_set]
  by_cases hk : k ∈ own
  · rw [if_pos hk, if_pos hk]
  · rw [if_neg hk, if_neg hk, List.getElem?_set, if_neg (fun z => hk (by rw [← z]; exact h))]
/-- a comprehension's target: it stores at the block's own names alone -/
def tgcOf (K : PySem.W.Frag) (G : Gx) (own : List Nat) (dg : DG) : TG := fun v σ H Q => ∃ (B : Hp) (δ : List Sl) (d : D) (P : List Sl → Prop), Stt K G σ B H δ ∧ Rp K B v d ∧ dg d δ P ∧ ∀ σ' δ', L2.wipe σ' own = L2.wipe σ own → Stt K G σ' B H δ' → P δ' → Q σ' H
def tgcsOf (K : PySem.W.Frag) (G : Gx) (own : List Nat) (dg : DGs) : TGs := fun vs σ H Q => ∃ (B : Hp) (δ : List Sl) (ds : List D) (P : List Sl → Prop), Stt K G σ B H δ ∧ RpA K B vs ds ∧ dg ds δ P ∧ ∀ σ' δ', L2.wipe σ' own = L2.wipe σ own → Stt K G σ' B H δ' → P δ' → Q σ' H
abbrev PGcd (X : Cx) (G : Gx) (own : List Nat) (tg : Expr) (dg : DG) : Prop := PG X tg (tgcOf X.K G own dg)
abbrev PGcsd (X : Cx) (G : Gx) (own : List Nat) (tgs : List Expr) (dg : DGs) : Prop := PGs X tgs (tgcsOf X.K G own dg)
section
variable {X : Cx} {G : Gx} {own : List Nat} {e : Expr} {es : List Expr} {t : DG} {u : DGs} {pos : Pos}
theorem pgc_name {i : Nat} {x : Str} (hN : X.N.Nodup) (hi : X.N[i]? = some x) (hx : Loc X.env.scope x) (ho : i ∈ own) (hf : X.fn x = true ∨ X.env.scope.names.lookup x = some .local := by first | exact .inl rfl | exact .inr rfl | assumption) : PGcd X G own (.Name x pos) (dgName i) :=
  PG.imp (pg_name hN hi hx hf) fun v σ H Q ⟨B, δ, d, P, s, r, p, q⟩ => q _ _ (wipe_set ho) (s.put r) p
theorem pgcs_nil : PGcsd X G own [] dgNil := PGs.imp pgs_nil fun vs σ H Q ⟨B, δ, d, P, s, r, ⟨e, p⟩, q⟩ => by
  subst e
  cases r
  exact ⟨rfl, q _ δ rfl s p⟩
theorem pgcs_cons (h1 : PGcd X G own e t) (h2 : PGcsd X G own es u) (hs : (assignEach (e :: es) X.env).map (·.2) = assign e X.env :: (assignEach es X.env).map (·.2) := by rfl) : PGcsd X G own (e :: es) (dgCons t u) :=
  PGs.imp (pgs_cons h1 h2 hs) fun vs σ H Q ⟨B, δ, ds, P, s, r, ⟨d, rest, e, p⟩, q⟩ => by
    subst e
    cases r with
    | cons rv rr =>
      exact ⟨_, _, rfl, B, δ, d, _, s, rv, p, fun σ1 δ1 w1 s1 p1 => ⟨B, δ1, rest, P, s1, rr, p1, fun σ2 δ2 w2 => q σ2 δ2 (w2.trans w1)⟩⟩
theorem pgc_tup {k n : Nat} (h : PGcsd X G own es u) (hc : X.calm = true := by rfl) (hn : (assignEach es X.env).length = n := by rfl) (hst : (assignEach es X.env).findIdx? (·.1) = none := by rfl) : PGcd X G own (.Tuple es k pos) (dgTup n u) :=
  PG.imp (pg_tup hc h hn hst) fun v σ H Q ⟨B, δ, d, P, s, r, ⟨xs, e, hl, p⟩, q⟩ => by
    subst e
    cases r with
    | tup h1 ra => exact ⟨_, _, rfl, exT s.e h1, by rw [ra.length]; exact hl, B, δ, xs, P, s, ra, p, q⟩
end
theorem Fm.updNew {K : PySem.W.Frag} {F : Fs} {B H B' H' : Hp} {p : Addr} {vs ws : List V} (m : Fm K F B H B' H') (hp : H p = none) (hb : B' p = none) (hl : H' p = some (.lst vs)) (ns : ¬ F.S p) : Fm K F B H B' (upd H' p (.lst ws)) := by
  refine ⟨m.b, fun a o h => ?_, fun a h1 h2 => ?_, fok_upd m.f ns fun q _ c x e => lst_ne_code hl e⟩
  · rw [upd_ne (fun z => by rw [z, hb] at h; cases h)]
    exact m.e a o h
  · obtain ⟨h3, h4⟩ := m.o a h1 h2
    exact ⟨h3, fun z => by rw [upd_ne (h2.ne hp)]; exact h4 z⟩
section
variable {X : Cx} {G : Gx} {elt tg iter : Expr} {ifs : List Expr} {scope : Scope} {own : List (Str × Nat)} {pos : Pos} {di : DI} {dg : DG} {tt : DT} {de : DE}
theorem lc_of {σ : L2.St} {H : Hp} {Q : VK} (h : txOf X.K G (dxLc di dg tt de (own.map (·.2))) σ H Q) : tLc (tiOf X.K G di) (tgcOf X.K G (own.map (·.2)) dg) (ttOf X.K G tt) (teOf X.K G de) (own.map (·.2)) σ H Q := by
  obtain ⟨B, δ, P, s, h, q⟩ := h
  refine ⟨B, δ, _, s, h, fun It xs B1 H1 m1 ⟨hlen, J, j0, js, jd⟩ wk => fun p hp => ?_⟩
  have s1 := s.mono m1
  have nS : ¬ G.F.S p := s1.noS hp
  have hp0 : ¬ Hd H p := m1.back (not_hd hp) nS
  refine ⟨fun i m H' => i + m = xs.length ∧ ∃ B' acc ws, Fm X.K G.F B1 H1 B' H' ∧ B' p = none ∧ H' p = some (.lst ws) ∧ RpA X.K B' ws acc ∧ acc.length ≤ i ∧ J i acc,
    ⟨xs.length, by omega, B1, [], [], Fm.newH m1.e m1.f hp, Evl.fresh_back m1.e hp, upd_same, .nil, Nat.le_refl 0, j0⟩, fun i m H' ⟨hm, B', acc, ws, mf, hb, hl, ra, hle, hj⟩ => ?_⟩
  obtain ⟨w1, w2⟩ := wk B' H' mf.b mf.e mf.f
  cases m with
  | zero =>
    have z : i = xs.length := by omega
    subst z
    exact .inl ⟨w2, q p ws acc B' H' (m1.trans mf) hp0 nS hb hl (jd acc hj) ra⟩
  | succ m =>
    have lt : i < xs.length := by omega
    obtain ⟨g1, g2⟩ := w1 i lt
    refine .inr ⟨g1, fun H2 => i + 1 + m = xs.length ∧ ∃ B2 acc2 ws2, Fm X.K G.F B1 H1 B2 H2 ∧ B2 p = none ∧ H2 p = some (.lst ws2) ∧ RpA X.K B2 ws2 acc2 ∧ acc2.length ≤ i + 1 ∧ J (i + 1) acc2, fun H2 z => ⟨m, by omega, z⟩, fun x H2 hy => ?_⟩
    obtain ⟨B2, d, hd, m2, r2⟩ := g2 x H2 hy
    have keep : ∀ {Ba Ha Bb Hb : Hp}, Fm X.K G.F Ba Ha Bb Hb → Ba p = none → Ha p = some (.lst ws) → Bb p = none ∧ Hb p = some (.lst ws) := fun mm h1 h2 => by
      obtain ⟨h3, h4⟩ := mm.o p h1 (.of h2)
      exact ⟨h3, (h4 nS).trans h2⟩
    have mf2 := mf.trans m2
    obtain ⟨hb2, hl2⟩ := keep m2 hb hl
    have ss : Stt X.K G (L2.wipe σ (own.map (·.2))) B2 H2 (wipeD δ (own.map (·.2))) := (s1.mono mf2).wipe _
    refine ⟨B2, wipeD δ (own.map (·.2)), d, _, ss, r2, js i d acc hd hj hle, fun σ2 δ2 ew s2 p2 => ⟨?_, B2, δ2, _, s2, p2, fun b B3 H3 m3 p3 => ?_⟩⟩
    · rw [ew]
      apply List.ext_getElem?
      intro k
      rw [wipe_at, L2.wipe_length, wipe_at]
      split <;> rfl
    · have mf3 := mf2.trans m3
      obtain ⟨hb3, hl3⟩ := keep m3 hb2 hl2
      cases b with
      | false => exact ⟨by omega, B3, acc, ws, mf3, hb3, hl3, (ra.mono m2.b).mono m3.b, by omega, p3⟩
      | true =>
        refine ⟨B3, δ2, _, s2.mono m3, p3, fun y d4 B4 H4 m4 p4 r4 => ?_⟩
        obtain ⟨hb4, hl4⟩ := keep m4 hb3 hl3
        refine ⟨ws, hl4, ?_, by omega, B4, acc ++ [d4], ws ++ [y], (mf3.trans m4).updNew hp hb4 hl4 nS, hb4, upd_same, (((ra.mono m2.b).mono m3.b).mono m4.b).app (.one r4), by rw [List.length_append]; simp; omega, p4⟩
        rw [ra.length]
        exact size_lt (by omega)
theorem pxd_lc (hN : X.N.Nodup) (hi : PId X G tg iter di) (ok : blkC X.N X.env.scope scope own = true) (hg : ∀ (s : Shared) (H : Hp) (C : Addr) (cl : List (Str × Addr)) (fp : List Addr), PGcd (X.blk s H scope (compEnvC scope cl C X.env) fp) G (own.map (·.2)) tg dg)
    (ht : ∀ (s : Shared) (H : Hp) (C : Addr) (cl : List (Str × Addr)) (fp : List Addr), PTsd (X.blk s H scope (compEnvC scope cl C X.env) fp) G ifs tt) (he : ∀ (s : Shared) (H : Hp) (C : Addr) (cl : List (Str × Addr)) (fp : List Addr), PEd (X.blk s H scope (compEnvC scope cl C X.env) fp) G elt de)
    (hc : X.calm = true := by rfl) (hs : ∀ x, foldedSetIterable iter X.env x = pure x := by intro _; rfl) : PXd X G (.ListComp elt [⟨tg, iter, ifs, 0⟩] scope pos) (dxLc di dg tt de (own.map (·.2))) :=
  PE.imp (pe_lc (own := own) hc hN hi (blkOk_by ok) hg ht he hs) fun σ H Q h => lc_of h
/-- name = [..] -/
theorem psd_setLc {i : Nat} {y : Str} {py spos : Pos} (hN : X.N.Nodup) (hy : X.N[i]? = some y) (hyl : X.env.scope.names.lookup y = some .local) (hsw : swapsWith (.ListComp elt [⟨tg, iter, ifs, 0⟩] scope pos) (some (.Name y py)) spos.line X.env = pure true) (hi : PId X G tg iter di) (ok : blkC X.N X.env.scope scope own = true)
    (hg : ∀ (s : Shared) (H : Hp) (C : Addr) (cl : List (Str × Addr)) (fp : List Addr), PGcd (X.blk s H scope (compEnvC scope cl C X.env) fp) G (own.map (·.2)) tg dg)
    (ht : ∀ (s : Shared) (H : Hp) (C : Addr) (cl : List (Str × Addr)) (fp : List Addr), PTsd (X.blk s H scope (compEnvC scope cl C X.env) fp) G ifs tt) (he : ∀ (s : Shared) (H : Hp) (C : Addr) (cl : List (Str × Addr)) (fp : List Addr), PEd (X.blk s H scope (compEnvC scope cl C X.env) fp) G elt de)
    (hc : X.calm = true := by rfl) (hs : ∀ x, foldedSetIterable iter X.env x = pure x := by intro _; rfl) : PSd X G (.Assign [.Name y py] (.ListComp elt [⟨tg, iter, ifs, 0⟩] scope pos) spos) (dsAsg (deX (dxLc di dg tt de (own.map (·.2)))) (dgName i)) :=
  PS.imp (ps_setLc (own := own) hc hN hy hyl hsw hi (blkOk_by ok) hg ht he hs) fun D σ H ⟨B, δ, DD, s, h, q⟩ => lc_of ⟨B, δ, _, s, h, fun p vs ds B' H' m hp ns hb hl pz r => by
    have e1 : Ex B' (upd B' p (.lst vs)) := Evl.Ex.new hb
    have e2 : Ex (upd B' p (.lst vs)) H' := fun a o h => by
      by_cases ha : a = p
      · subst ha
        rw [upd_same] at h
        rw [hl]
        exact h
      · rw [upd_ne ha] at h
        exact m.e a o h
    have mm : Fm X.K G.F B H (upd B' p (.lst vs)) H' := by
      refine ⟨m.b.trans e1, e2, fun a h1 h2 => ?_, m.f.ex e1 (fun a ha => ?_) (fun a o h => h) (nt_upd m.f.nt (fun _ z => by cases z))⟩
      · obtain ⟨h3, h4⟩ := m.o a h1 h2
        exact ⟨by rw [upd_ne (h2.nne hp)]; exact h3, h4⟩
      · have ne : a ≠ p := fun z => ns (by rw [← z]; exact ha)
        rw [upd_ne ne]
        exact (m.f.there ha).1
    exact q.nx _ _ H' _ mm.b ((s.mono mm).put (.lst upd_same (r.mono e1))) pz⟩
theorem psd_ownLc {i : Nat} {y : Str} {py spos : Pos} (hN : X.N.Nodup) (hy : X.N[i]? = some y) (hyl : X.env.scope.names.lookup y = some .local) (hsw : swapsWith (.ListComp elt [⟨tg, iter, ifs, 0⟩] scope pos) (some (.Name y py)) spos.line X.env = pure true) (hi : PId X G tg iter di) (ok : blkC X.N X.env.scope scope own = true)
    (hg : ∀ (s : Shared) (H : Hp) (C : Addr) (cl : List (Str × Addr)) (fp : List Addr), PGcd (X.blk s H scope (compEnvC scope cl C X.env) fp) G (own.map (·.2)) tg dg)
    (ht : ∀ (s : Shared) (H : Hp) (C : Addr) (cl : List (Str × Addr)) (fp : List Addr), PTsd (X.blk s H scope (compEnvC scope cl C X.env) fp) G ifs tt) (he : ∀ (s : Shared) (H : Hp) (C : Addr) (cl : List (Str × Addr)) (fp : List Addr), PEd (X.blk s H scope (compEnvC scope cl C X.env) fp) G elt de)
    (hc : X.calm = true := by rfl) (hs : ∀ x, foldedSetIterable iter X.env x = pure x := by intro _; rfl) : PSd X G (.Assign [.Name y py] (.ListComp elt [⟨tg, iter, ifs, 0⟩] scope pos) spos) (dsOwn i (dxLc di dg tt de (own.map (·.2)))) :=
  PS.imp (ps_setLc (own := own) hc hN hy hyl hsw hi (blkOk_by ok) hg ht he hs) fun D σ H ⟨B, δ, DD, s, h, q⟩ => lc_of ⟨B, δ, _, s, h, fun p vs ds B1 H1 m1 hp ns hb hl p1 r1 =>
    q.nx _ B1 H1 _ m1.b ((s.mono m1).putOwn (s.fresh0 hp ns) hb hl ns (s.own_ne hp) r1) p1⟩
end

/-! ### own lists read and changed -/
def deIxO (i : Nat) (dj : DE) : DE := fun δ P => ∃ xs, δ[i]? = some (.own xs) ∧ dj δ fun y => ∃ z, (D.lst xs).ix y = some z ∧ P z
def deLenO (i : Nat) : DE := fun δ P => ∃ xs, δ[i]? = some (.own xs) ∧ P (.int xs.length)
def dsApp (i : Nat) (de : DE) : DS := fun D δ => ∃ xs, δ[i]? = some (.own xs) ∧ de δ fun d => xs.length < 100000 ∧ D.nx (δ.set i (.own (xs ++ [d])))
def dsExt (i : Nat) (de : DE) : DS := fun D δ => ∃ xs, δ[i]? = some (.own xs) ∧ de δ fun d => ∃ ys, d = .lst ys ∧ xs.length + ys.length ≤ 100000 ∧ D.nx (δ.set i (.own (xs ++ ys)))
def dsPut (i : Nat) (dj de : DE) : DS := fun D δ => de δ fun d => ∃ xs, δ[i]? = some (.own xs) ∧ dj δ fun k => ∃ j n, k = .int j ∧ ixN xs.length j = some n ∧ D.nx (δ.set i (.own (xs.set n d)))
def dsAugO (i : Nat) (f : Int → Int → Int) (dj de : DE) : DS := fun D δ => ∃ xs, δ[i]? = some (.own xs) ∧ dj δ fun k => ∃ j n a, k = .int j ∧ 0 ≤ j ∧ j < 1000000 ∧ ixN xs.length j = some n ∧ xs[n]? = some (.int a) ∧ de δ fun y => ∃ b, y = .int b ∧ D.nx (δ.set i (.own (xs.set n (.int (f a b)))))
/-- xs[i], by values, no negative place -/
theorem get_list {X : Cx} : PGet X (fun o i H Q => ∃ (p : Addr) (xs : List V) (j : Int) (v : V), o = .ref p ∧ i = .int j ∧ 0 ≤ j ∧ j < 1000000 ∧ SqL X.K H p xs ∧ L2.atI xs j = some v ∧ Q v H) := fun pins s σ H o i ov iv Q I ro ri h => by
  obtain ⟨p, xs, j, v, rfl, rfl, h0, h1, hq, ha, q⟩ := h
  cases ro
  obtain ⟨t, rfl⟩ := ri
  obtain ⟨its, r, pl, hz⟩ := I.list hq
  obtain ⟨n, e1, e2, e3, e4, e5⟩ := atI_get ha
  obtain ⟨w, ew, rw'⟩ := r.get e2
  have hj : j.toNat = n := by
    rw [seqIndex_of h0 e5] at e1
    exact Option.some.inj e1
  exact wpAny_getItem_list pl.isList h0 (by omega) (by rw [hj]; simpa using ew) ⟨v, H, I, rw', q⟩
section
variable {X : Cx} {G : Gx} {e ei : Expr} {es : List Expr} {de dj : DE} {pos apos cpos p px : Pos} {i : Nat} {x : Str}
theorem own_same {K : PySem.W.Frag} {F : Fs} {B H B' H' : Hp} {l : Addr} {vs : List V} (m : Fm K F B H B' H') (hb : B l = none) (hl : H l = some (.lst vs)) (ns : ¬ F.S l) : B' l = none ∧ H' l = some (.lst vs) := by
  obtain ⟨h1, h2⟩ := m.o l hb (.of hl)
  exact ⟨h1, (h2 ns).trans hl⟩
theorem pd_ixO (hx : PE X (.Name x px) (tVar i)) (hj : PEd X G ei dj) (hs : PlainIx ei := by exact fun _ _ => rfl) : PEd X G (.Subscript (.Name x px) ei pos) (deIxO i dj) := PE.imp (pe_ix ix_seq hx hj hs) fun σ H Q ⟨B, δ, P, s, ⟨xs, hd, h⟩, q⟩ => by
  obtain ⟨l, vs, hi, h0, hb, hl, ra, ns⟩ := s.own hd
  refine ⟨_, hi, B, δ, _, s, h, fun y d B1 H1 m1 ⟨z, hz, p⟩ r1 => ?_⟩
  obtain ⟨hb1, hl1⟩ := own_same m1 hb hl ns
  cases d with
  | int j =>
    cases r1
    obtain ⟨v, ev, rv⟩ := (ra.mono m1.b).atI hz
    exact .inl ⟨l, vs, j, v, rfl, rfl, SqL.of hl1, ev, q _ _ B1 H1 m1 p rv⟩
  | _ => cases hz
theorem pd_lenO (hx : PE X (.Name x px) (tVar i)) (hm : X.mg "len" = none) (hg : Gl X "len" := by rfl) (he : starEach [.Name x px] X.env = (false, eval (.Name x px) X.env) :: starEach [] X.env := by rfl) (hpl : (backTo pos (starEach [] X.env)).any (·.1) = false := by rfl) :
    PEd X G (.Call (.Name "len" p) [.Name x px] [] pos) (deLenO i) := PE.imp (pe_callB call_len_seq hg hm boot_len (pa_cons hx pa_nil he) (by decide) (by decide) he hpl) fun σ H Q ⟨B, δ, P, s, ⟨xs, hd, h⟩, q⟩ => by
  obtain ⟨l, vs, hi, h0, hb, hl, ra, ns⟩ := s.own hd
  refine ⟨_, hi, l, vs, rfl, .inl (SqL.of hl), ?_⟩
  rw [ra.length]
  exact q _ _ B H s.here h (.int _)
theorem psd_app (hx : PE X (.Name x px) (tVar i)) (he : PEd X G e de) (hbase : attributeBase (.Name x px) "append" X.env (eval (.Name x px) X.env) = eval (.Name x px) X.env := by rfl)
    (hfew : ((backTo cpos (starEach [e] X.env)).all (fun x => !x.1) && (backToKw cpos (keywordEach [] X.env)).all (fun x => x.1.isSome) && decide ([e].length + ([] : List Keyword).length + (if ([] : List Keyword).isEmpty then 0 else 1) < 30)) = true := by rfl)
    (hline : (apos.endLine == cpos.line) = true := by rfl) (hs : starEach [e] X.env = (false, eval e X.env) :: starEach [] X.env := by rfl) (hplain : (backTo cpos (starEach [] X.env)).any (·.1) = false := by rfl) (hsw : swapsWith (.Call (.Attribute (.Name x px) "append" apos) [e] [] cpos) none pos.line X.env = pure false := by rfl) :
    PSd X G (.Expr (.Call (.Attribute (.Name x px) "append" apos) [e] [] cpos) pos) (dsApp i de) :=
  PS.imp (ps_expr (pe_bm PySem.F.plainAttrs_list PySem.F.slot_list_append PySem.F.type_list_append mt_append hx (pa_cons he pa_nil hs) hbase hfew hline hs hplain) hsw) fun D σ H ⟨B, δ, DD, s, ⟨xs, hd, h⟩, q⟩ => by
    obtain ⟨l, vs, hi, h0, hb, hl, ra, ns⟩ := s.own hd
    refine ⟨_, hi, .inl ⟨rfl, _, SqL.of hl⟩, B, δ, _, s, h, fun v d B1 H1 m1 ⟨hlen, p1⟩ r1 => ?_⟩
    obtain ⟨hb1, hl1⟩ := own_same m1 hb hl ns
    refine ⟨l, vs, v, rfl, rfl, hl1, by rw [ra.length]; exact size_lt hlen, q.nx _ B1 _ _ m1.b ((s.mono m1).setOwn hi hd h0 hb1 hl1 ns ((ra.mono m1.b).app (.one r1))) p1⟩
theorem psd_ext (hx : PE X (.Name x px) (tVar i)) (he : PEd X G e de) (hbase : attributeBase (.Name x px) "extend" X.env (eval (.Name x px) X.env) = eval (.Name x px) X.env := by rfl)
    (hfew : ((backTo cpos (starEach [e] X.env)).all (fun x => !x.1) && (backToKw cpos (keywordEach [] X.env)).all (fun x => x.1.isSome) && decide ([e].length + ([] : List Keyword).length + (if ([] : List Keyword).isEmpty then 0 else 1) < 30)) = true := by rfl)
    (hline : (apos.endLine == cpos.line) = true := by rfl) (hs : starEach [e] X.env = (false, eval e X.env) :: starEach [] X.env := by rfl) (hplain : (backTo cpos (starEach [] X.env)).any (·.1) = false := by rfl) (hsw : swapsWith (.Call (.Attribute (.Name x px) "extend" apos) [e] [] cpos) none pos.line X.env = pure false := by rfl) :
    PSd X G (.Expr (.Call (.Attribute (.Name x px) "extend" apos) [e] [] cpos) pos) (dsExt i de) :=
  PS.imp (ps_expr (pe_bm PySem.F.plainAttrs_list PySem.F.slot_list_extend PySem.F.type_list_extend mt_extend hx (pa_cons he pa_nil hs) hbase hfew hline hs hplain) hsw) fun D σ H ⟨B, δ, DD, s, ⟨xs, hd, h⟩, q⟩ => by
    obtain ⟨l, vs, hi, h0, hb, hl, ra, ns⟩ := s.own hd
    refine ⟨_, hi, .inl ⟨rfl, _, SqL.of hl⟩, B, δ, _, s, h, fun v d B1 H1 m1 ⟨ys, e, hlen, p1⟩ r1 => ?_⟩
    subst e
    obtain ⟨hb1, hl1⟩ := own_same m1 hb hl ns
    cases r1 with
    | lst h2 rb =>
      exact ⟨l, _, vs, _, rfl, rfl, hl1, m1.e _ _ h2, by rw [ra.length, rb.length]; exact size_ok hlen, q.nx _ B1 _ _ m1.b ((s.mono m1).setOwn hi hd h0 hb1 hl1 ns ((ra.mono m1.b).app rb)) p1⟩
theorem psd_put {tpos : Pos} (hx : PE X (.Name x px) (tVar i)) (hj : PEd X G ei dj) (he : PEd X G e de)
    (ha : ∀ v, assign (.Subscript (.Name x px) ei tpos) X.env v = (do
      let ov ← holding [v] (eval (.Name x px) X.env)
      let iv ← holding [v, ov] (eval ei X.env)
      standAt tpos
      holding [v, ov, iv] (setItem ov iv v)
      release [v, ov, iv] []) := by intro _; rfl)
    (hs : swapsWithSole [.Subscript (.Name x px) ei tpos] e pos.line X.env = pure false := by rfl) (hw : swappedStores [.Subscript (.Name x px) ei tpos] e X.env = pure none := by rfl) (h1 : (assignEach [.Subscript (.Name x px) ei tpos] X.env).map (·.2) = [assign (.Subscript (.Name x px) ei tpos) X.env] := by rfl) :
    PSd X G (.Assign [.Subscript (.Name x px) ei tpos] e pos) (dsPut i dj de) :=
  PS.imp (ps_asg he (pg_sub hx hj set_list ha) hs hw h1) fun D σ H ⟨B, δ, DD, s, h, q⟩ => ⟨B, δ, _, s, h, fun v d B1 H1 m1 ⟨xs, hd, p1⟩ r1 => by
    have s1 := s.mono m1
    obtain ⟨l, vs, hi, h0, hb, hl, ra, ns⟩ := s1.own hd
    refine ⟨_, hi, B1, δ, _, s1, p1, fun y k B2 H2 m2 ⟨j, n, e, hn, p2⟩ r2 => ?_⟩
    subst e
    cases r2
    obtain ⟨hb2, hl2⟩ := own_same m2 hb hl ns
    exact ⟨l, vs, j, n, rfl, rfl, hl2, by rw [ra.length]; exact hn, q.nx _ B2 _ _ (m1.b.trans m2.b) ((s1.mono m2).setOwn hi hd h0 hb2 hl2 ns ((ra.mono m2.b).set (r1.mono m2.b))) p2⟩⟩
theorem psd_augO {op : Operator} {f : Int → Int → Int} {tpos : Pos} (hx : PE X (.Name x px) (tVar i)) (hj : PEd X G ei dj) (ho : PIp X op (ipI f)) (he : PEd X G e de)
    (ha : ∀ ov iv new, augStore ei ov iv new = (do holding [new, ov, iv] (setItem ov iv new); release [new, ov, iv] []; pure Flow.next) := by intros; rfl) : PSd X G (.AugAssign (.Subscript (.Name x px) ei tpos) op e pos) (dsAugO i f dj de) :=
  PS.imp (ps_augS hx hj get_list he ho set_list ha) fun D σ H ⟨B, δ, DD, s, ⟨xs, hd, h⟩, q⟩ => by
    obtain ⟨l, vs, hi, h0, hb, hl, ra, ns⟩ := s.own hd
    refine ⟨_, hi, B, δ, _, s, h, fun y k B1 H1 m1 ⟨j, n, a, e, j0, j1, hn, ha, p1⟩ r1 => ?_⟩
    subst e
    cases r1
    obtain ⟨hb1, hl1⟩ := own_same m1 hb hl ns
    have ra1 := ra.mono m1.b
    have hat : L2.atI xs j = some (.int a) := by
      unfold L2.atI
      rw [hn]
      exact ha
    obtain ⟨v, ev, rv⟩ := ra1.atI hat
    cases rv
    refine ⟨l, vs, j, _, rfl, rfl, j0, j1, SqL.of hl1, ev, B1, δ, _, s.mono m1, p1, fun z d B2 H2 m2 ⟨b, e, p2⟩ r2 => ?_⟩
    subst e
    cases r2
    obtain ⟨hb2, hl2⟩ := own_same m2 hb1 hl1 ns
    exact ⟨a, b, rfl, rfl, l, vs, j, n, rfl, rfl, hl2, by rw [ra.length]; exact hn, q.nx _ B2 _ _ (m1.b.trans m2.b) (((s.mono m1).mono m2).setOwn hi hd h0 hb2 hl2 ns ((ra1.mono m2.b).set (.int _))) p2⟩
end

/-! ### defs: promises over data -/
inductive Out where
  | ret (d : D) | exc (n : Str) (d : D)
abbrev DSp := Fs → List D → (Out → Prop) → Prop
def spD (K : PySem.W.Frag) (sp : DSp) : Sp := fun vs H Q E => ∃ (F : Fs) (B : Hp) (ds : List D) (O : Out → Prop), Ex B H ∧ Fok K F B H ∧ RpA K B vs ds ∧ sp F ds O ∧
  (∀ v d B' H', Fm K F B H B' H' → O (.ret d) → Rp K B' v d → Q v H') ∧
  (∀ n d dd v B' H', O (.exc n d) → Fm K F B H B' H' → B' dd = some (.xd [(("value" : Str), v)]) → Rp K B' v d → E (.ref (He.ga K n)) (some dd) H')
/-- what is raised reaches who asked -/
def DlvX (K : PySem.W.Frag) (G : Gx) (Xc : Str → D → Prop) (E : XK) : Prop := ∀ n d dd v B' H', Xc n d → Fm K G.F G.B0 G.H0 B' H' → B' dd = some (.xd [(("value" : Str), v)]) → Rp K B' v d → E (.ref (He.ga K n)) (some dd) H'
/-- a def that may be called by its name; dn: its defaults -/
structure Cl (P : Program) (w : World) (K : PySem.W.Frag) (mg : Str → Option Value) (base : Heap) (k : Nat) (x : Str) (sp : DSp) (dn : List D) : Prop where
  ex : ∃ (f : Addr) (fd : FuncData) (ps : List Str) (ds : List Value) (dvs : List V), FnOk P w K mg base (L2.CX P w) k f fd ps (spD K sp) ∧ mg x = some (.ref f) ∧ PySem.W.keepIn K (.ref f) = true ∧ Binds K fd ps ds ∧ Vals dvs ds ∧ ∀ B, RpA K B dvs dn
def deCall (sp : DSp) (F : Fs) (Xc : Str → D → Prop) (dn : List D) (da : DA) : DE := fun δ P => da δ fun ds => sp F (ds ++ dn) fun o => match o with
  | .ret d => P d
  | .exc n d => Xc n d
def noX : Str → D → Prop := fun _ _ => False
section
variable {X : Cx} {G : Gx} {k j : Nat} {x : Str} {sp : DSp} {dn : List D} {e : Expr} {es : List Expr} {da : DA} {p pos : Pos} {Xc : Str → D → Prop} {E : XK}
theorem pd_callX (c : Cl X.prog X.w X.K X.mg X.base k x sp dn) (hr : Room j X.A) (hk : k ≤ j) (hE : DlvX X.K G Xc E) (hx : Passes (L2.CX X.prog X.w) X E) (ha : PAd X G (e :: es) da) (hg : Gl X x := by rfl) (hdb : (x == ("__debug__" : Str)) = false := by decide)
    (he : starEach (e :: es) X.env = (false, eval e X.env) :: starEach es X.env := by rfl) (hpl : (backTo pos (starEach es X.env)).any (·.1) = false := by rfl) : PEd X G (.Call (.Name x p) (e :: es) [] pos) (deCall sp G.F Xc dn da) := by
  obtain ⟨f, fd, ps, ds, dvs, F, hm, kp, hb, hv, hn⟩ := c.ex
  exact PE.imp (pe_call F (hr.mono hk) hg hm kp hb hv hx ha hdb he hpl) fun σ H Q ⟨B, δ, P, s, h, q⟩ => ⟨B, δ, _, s, h, fun vs ds B1 H1 m1 p1 r1 =>
    ⟨G.F, B1, ds ++ dn, _, m1.e, m1.f, r1.app (hn B1), p1, fun v d B' H' m2 o r => q v d B' H' (m1.trans m2) o r, fun n d dd v B' H' o m2 h1 r => hE n d dd v B' H' o (s.fm.trans (m1.trans m2)) h1 r⟩⟩
theorem pd_call (c : Cl X.prog X.w X.K X.mg X.base k x sp dn) (hr : Room j X.A) (hk : k ≤ j) (ha : PAd X G (e :: es) da) (hg : Gl X x := by rfl) (hdb : (x == ("__debug__" : Str)) = false := by decide)
    (he : starEach (e :: es) X.env = (false, eval e X.env) :: starEach es X.env := by rfl) (hpl : (backTo pos (starEach es X.env)).any (·.1) = false := by rfl) : PEd X G (.Call (.Name x p) (e :: es) [] pos) (deCall sp G.F noX dn da) :=
  pd_callX c hr hk (E := E0) (fun _ _ _ _ _ _ z => z.elim) passL ha hg hdb he hpl
end
/-- the slots at a def's entry -/
def startD (N : List Str) (ds : List D) : List Sl := ds.map .dat ++ List.replicate (N.length - ds.length) .un
theorem RpA.start {K : PySem.W.Frag} {B H : Hp} {F : Fs} {N : List Str} {vs : List V} {ds : List D} (e : Ex B H) (f : Fok K F B H) (r : RpA K B vs ds) : Stt K ⟨F, B, H⟩ (L2.start N vs) B H (startD N ds) := by
  have hl := r.length
  refine ⟨.refl e f, ?_, fun i s h => ?_, fun i j xs ys _ h1 _ => ?_, fun i m dx C t fs ms h1 _ => ?_⟩
  · simp [L2.start, startD, hl]
  · unfold startD at h
    unfold L2.start
    by_cases hi : i < ds.length
    · rw [List.getElem?_append_left (by simpa using hi)] at h
      rw [List.getElem?_append_left (by simpa [hl] using hi)]
      rw [List.getElem?_map] at h
      obtain ⟨d, hd⟩ : ∃ d, ds[i]? = some d := ⟨_, List.getElem?_eq_getElem hi⟩
      rw [hd] at h
      cases h
      obtain ⟨v, hv, rv⟩ := r.at hd
      exact ⟨some v, by rw [List.getElem?_map, hv]; rfl, v, rfl, rv⟩
    · have hi' : ds.length ≤ i := Nat.le_of_not_lt hi
      rw [List.getElem?_append_right (by simpa using hi')] at h
      rw [List.getElem?_append_right (by simpa [hl] using hi')]
      rw [List.getElem?_replicate] at h
      split at h
      · rename_i hlt
        cases h
        refine ⟨none, ?_, True.intro⟩
        rw [List.getElem?_replicate, if_pos (by simpa [hl] using hlt)]
      · cases h
  · unfold startD at h1
    by_cases hi : i < ds.length
    · rw [List.getElem?_append_left (by simpa using hi), List.getElem?_map, List.getElem?_eq_getElem hi] at h1
      cases h1
    · rw [List.getElem?_append_right (by simpa using Nat.le_of_not_lt hi), List.getElem?_replicate] at h1
      split at h1 <;> cases h1
  · unfold startD at h1
    by_cases hi : i < ds.length
    · rw [List.getElem?_append_left (by simpa using hi), List.getElem?_map, List.getElem?_eq_getElem hi] at h1
      cases h1
    · rw [List.getElem?_append_right (by simpa using Nat.le_of_not_lt hi), List.getElem?_replicate] at h1
      split at h1 <;> cases h1
section
variable {P : Program} {w : World} {K : PySem.W.Frag} {mg : Str → Option Value} {base : Heap} {x qual : Str} {params : Arguments} {body : List Stmt} {scope : Scope} {dvs : List V} {kws : List (Str × V)} {f : Addr} {fd : FuncData}
/-- a def keeps its promise, by its body over data -/
theorem fnD {N ps : List Str} {k : Nat} {sp : DSp} (F : FunD K x qual params body scope dvs kws f fd) (S : FnScope N ps scope) (len : ∀ F ds O, sp F ds O → ds.length = ps.length)
    (hbody : ∀ (cdv : Value) (A : Around) (outer : List Env) (s : Shared) (G : Gx) (E : XK) (ds : List D) (O : Out → Prop), Room k (A.deeper (envOfC qual scope s.heap.objs.size f cdv)) → sp G.F ds O → DlvX K G (fun n d => O (.exc n d)) E →
      ∃ t, PSsd (cxOf (L2.CX P w) P w K mg base N qual scope f cdv A outer s G.H0 E) G body t ∧ t { nx := fun _ => O (.ret .non), rt := fun d => O (.ret d) } (startD N ds)) : FnOk P w K mg base (L2.CX P w) (k + 1) f fd ps (spD K sp) := by
  refine F.ok S (fun vs H Q E ⟨Fs, B, ds, O, _, _, r, h, _⟩ => by rw [r.length]; exact len _ _ _ h) fun cdv A outer s H vs Q E hr ⟨Fs, B, ds, O, he, hf, r, h, q, qx⟩ => ?_
  obtain ⟨t, ht, h1⟩ := hbody cdv A outer s ⟨Fs, B, H⟩ E ds O hr h (fun n d dd v B' H' o m hd rd => qx n d dd v B' H' o m hd rd)
  exact ⟨_, ht, B, startD N ds, _, r.start he hf, h1, ⟨fun σ' B' H' δ' _ s' o => q _ _ B' H' s'.fm o .non, fun v d B' H' m o rd => q v d B' H' m o rd, fun _ _ _ _ _ _ z => z.elim, fun _ _ _ _ _ _ z => z.elim⟩⟩
/-- .. and may be called by its name -/
theorem Cl.mk' {ps : List Str} {k : Nat} {sp : DSp} {mg : Str → Option Value} (F : FunD K x qual params body scope [] kws f fd) (ok : FnOk P w K mg base (L2.CX P w) k f fd ps (spD K sp)) (hm : mg x = some (.ref f)) (hb : Binds K fd ps []) : Cl P w K mg base k x sp [] :=
  ⟨f, fd, ps, [], [], ok, hm, F.kp, hb, .nil, fun _ => .nil⟩
end
end Sd
end
-- SdExc
section
set_option Elab.async false
set_option linter.all false
set_option maxRecDepth 100000
set_option maxHeartbeats 4000000
set_option autoImplicit false
namespace Sd
open PySem PySem.Spec PyProof.Rows L2
open Evl (Ex)

/-! ### chains as tests -/
def dtChain (rd rd' : D → D → (D → Prop) → Prop) (da db dc : DE) : DT := dtV (deChain rd rd' da db dc)
section
variable {X : Cx} {G : Gx} {a b c : Expr} {da db dc : DE} {pos : Pos} {rd rd' : D → D → (D → Prop) → Prop} {r r' : R2}
theorem ptd_chain {op op' : CmpOp} (ho : OpR X (compareOp op) r) (ho' : OpR X (compareOp op') r') (sd : Snd2 X.K G.F r rd) (sd' : Snd2 X.K G.F r' rd') (ha : PEd X G a da) (hb : PEd X G b db) (hc : PEd X G c dc)
    (hm : lastMarks [op, op'] [b, c] = false := by with_unfolding_all rfl) : PTd X G (.Compare a [op, op'] [b, c] pos) (dtChain rd rd' da db dc) :=
  PT.imp (pt_chain ho ho' ha hb hc hm) fun σ H Q ⟨B, δ, P, s, h, q⟩ => by
    have key : teOf X.K G (deChain rd rd' da db dc) σ H (fun x H' => ∃ k, x = .bl k ∧ Q k H') := ⟨B, δ, _, s, h, fun v d B1 H1 m1 ⟨k, e, p⟩ r1 => by
      subst e
      cases r1
      exact ⟨k, rfl, q k B1 H1 m1 p⟩⟩
    obtain ⟨B, δ, P, s, h, q⟩ := key
    exact ⟨B, δ, _, s, h, fun x d B1 H1 m1 p1 r1 => ⟨B1, δ, _, s.mono m1, p1, fun y e B2 H2 m2 p2 r2 => sd x y d e B2 H2 _ _ m2.e m2.f (r1.mono m2.b) r2 p2 fun v z B3 H3 m3 p3 r3 => by
      obtain ⟨k, rfl, p4⟩ := p3
      cases r3
      have m13 := (m1.trans m2).trans m3
      refine ⟨k, rfl, ?_⟩
      cases k with
      | true => exact ⟨B3, δ, _, s.mono m13, p4, fun w f B4 H4 m4 p5 r5 => sd' y w e f B4 H4 P _ m4.e m4.f (r2.mono (m3.b.trans m4.b)) r5 p5 fun v z B' H' m5 p6 r6 => q v z B' H' ((m13.trans m4).trans m5) p6 r6⟩
      | false => exact q _ _ B3 H3 m13 p4 (.bl false)⟩⟩
/-! a comparison as a test -/
theorem ptd_cmp {op : CmpOp} (ho : OpR X (compareOp op) r) (sd : Snd2 X.K G.F r rd) (ha : PEd X G a da) (hb : PEd X G b db) (hm : behindInMarks op b = false) : PTd X G (.Compare a [op] [b] pos) (dtV (de2 rd da db)) :=
  PT.imp (pt_cmpR ho ha hb hm) fun σ H Q ⟨B, δ, P, s, h, q⟩ => te2 sd σ H _ ⟨B, δ, _, s, h, fun x d B1 H1 m1 ⟨k, e, p⟩ r1 => by
    subst e; cases r1
    exact ⟨k, rfl, q k B1 H1 m1 p⟩⟩
theorem ptd_lt (ha : PEd X G a da) (hb : PEd X G b db) : PTd X G (.Compare a [.Lt] [b] pos) (dtV (de2 rdLt da db)) := ptd_cmp op_lt snd_B ha hb (nomark _)
theorem ptd_le (ha : PEd X G a da) (hb : PEd X G b db) : PTd X G (.Compare a [.LtE] [b] pos) (dtV (de2 rdLe da db)) := ptd_cmp op_le snd_B ha hb (nomark _)
theorem ptd_gt (ha : PEd X G a da) (hb : PEd X G b db) : PTd X G (.Compare a [.Gt] [b] pos) (dtV (de2 rdGt da db)) := ptd_cmp op_gt snd_B ha hb (nomark _)
theorem ptd_ge (ha : PEd X G a da) (hb : PEd X G b db) : PTd X G (.Compare a [.GtE] [b] pos) (dtV (de2 rdGe da db)) := ptd_cmp op_ge snd_B ha hb (nomark _)
theorem ptd_eq (hu : X.A.units + 64 < cLine) (ha : PEd X G a da) (hb : PEd X G b db) : PTd X G (.Compare a [.Eq] [b] pos) (dtV (de2 rdEq da db)) :=
  ptd_cmp (op_eqD hu) (fun x y d e B H P Q he hf rx ry ⟨h1, h2, p⟩ q => by
    have p1 := Bool.and_eq_true_iff.mp h1
    have p2 := Bool.and_eq_true_iff.mp h2
    exact ⟨d.py, e.py, dp_ex he (rx.dp p1.1), dp_ex he (ry.dp p2.1), p1.2, p2.2, q _ _ B H (.refl he hf) p (.bl _)⟩) ha hb (nomark _)
theorem ptd_ne (hu : X.A.units + 64 < cLine) (ha : PEd X G a da) (hb : PEd X G b db) : PTd X G (.Compare a [.NotEq] [b] pos) (dtV (de2 rdNe da db)) :=
  ptd_cmp (op_neD hu) (fun x y d e B H P Q he hf rx ry ⟨h1, h2, p⟩ q => by
    have p1 := Bool.and_eq_true_iff.mp h1
    have p2 := Bool.and_eq_true_iff.mp h2
    exact ⟨d.py, e.py, dp_ex he (rx.dp p1.1), dp_ex he (ry.dp p2.1), p1.2, p2.2, q _ _ B H (.refl he hf) p (.bl _)⟩) ha hb (nomark _)
theorem ptd_isN (ha : PEd X G a da) (hb : PEd X G b db) : PTd X G (.Compare a [.Is] [b] pos) (dtV (de2 rdIsN da db)) :=
  ptd_cmp op_isN (fun x y d e B H P Q he hf rx ry ⟨h1, h2, p⟩ q => by
    subst h1; cases ry
    refine ⟨rfl, ?_⟩
    rw [rx.isNon h2]
    exact q _ _ B H (.refl he hf) p (.bl _)) ha hb (nomark _)
theorem ptd_notN (ha : PEd X G a da) (hb : PEd X G b db) : PTd X G (.Compare a [.IsNot] [b] pos) (dtV (de2 rdNotN da db)) :=
  ptd_cmp op_notN (fun x y d e B H P Q he hf rx ry ⟨h1, h2, p⟩ q => by
    subst h1; cases ry
    refine ⟨rfl, ?_⟩
    rw [rx.isNon h2]
    exact q _ _ B H (.refl he hf) p (.bl _)) ha hb (nomark _)
theorem ptd_isB (ha : PEd X G a da) (hb : PEd X G b db) : PTd X G (.Compare a [.Is] [b] pos) (dtV (de2 rdIsB da db)) :=
  ptd_cmp op_isBl (fun x y d e B H P Q he hf rx ry ⟨i, j, h1, h2, p⟩ q => by
    subst h1; subst h2; cases rx; cases ry
    exact ⟨i, j, rfl, rfl, q _ _ B H (.refl he hf) p (.bl _)⟩) ha hb (nomark _)
theorem ptd_notB (ha : PEd X G a da) (hb : PEd X G b db) : PTd X G (.Compare a [.IsNot] [b] pos) (dtV (de2 rdNotB da db)) :=
  ptd_cmp op_notBl (fun x y d e B H P Q he hf rx ry ⟨i, j, h1, h2, p⟩ q => by
    subst h1; subst h2; cases rx; cases ry
    exact ⟨i, j, rfl, rfl, q _ _ B H (.refl he hf) p (.bl _)⟩) ha hb (nomark _)
theorem ptd_lele (ha : PEd X G a da) (hb : PEd X G b db) (hc : PEd X G c dc) (hm : lastMarks [CmpOp.LtE, CmpOp.LtE] [b, c] = false := by with_unfolding_all rfl) : PTd X G (.Compare a [.LtE, .LtE] [b, c] pos) (dtChain rdLe rdLe da db dc) := ptd_chain op_le op_le snd_B snd_B ha hb hc hm
theorem ptd_lelt (ha : PEd X G a da) (hb : PEd X G b db) (hc : PEd X G c dc) (hm : lastMarks [CmpOp.LtE, CmpOp.Lt] [b, c] = false := by with_unfolding_all rfl) : PTd X G (.Compare a [.LtE, .Lt] [b, c] pos) (dtChain rdLe rdLt da db dc) := ptd_chain op_le op_lt snd_B snd_B ha hb hc hm
theorem ptd_ltle (ha : PEd X G a da) (hb : PEd X G b db) (hc : PEd X G c dc) (hm : lastMarks [CmpOp.Lt, CmpOp.LtE] [b, c] = false := by with_unfolding_all rfl) : PTd X G (.Compare a [.Lt, .LtE] [b, c] pos) (dtChain rdLt rdLe da db dc) := ptd_chain op_lt op_le snd_B snd_B ha hb hc hm
end

/-! ### the package's errors: a class over SeatError, whose __init__ keeps the value -/
/-- a look at an error's class -/
def exKB (K : PySem.W.Frag) (C : Addr) : Bool := match K.lookup C with
  | some ⟨.type t, _, .cls cd, sl⟩ => t == "type" && (match cd.mro, sl.toList with
    | .ref C' :: bm, [_, _, _, _, some (.builtin n), _] => C' == C && n == "ValueError.__new__" && cd.hasDict && !cd.hasDel && PySem.HandSPX.refsVE bm
    | _, _ => false)
  | _ => false
theorem exKB_ok {K : PySem.W.Frag} {C : Addr} (q : exKB K C = true) : ∃ nm q N bs bm sn sub ab col dd k0 k1 k2 k3 k5, K.lookup C = some (excClassObj nm q C N bs bm true sn sub ab col dd k0 k1 k2 k3 k5 "ValueError.__new__") ∧ PySem.HandSPX.refsVE bm = true := by
  unfold exKB at q
  split at q
  · rename_i t dd cd sl ho
    have q' := Bool.and_eq_true_iff.mp q
    have ht : t = "type" := by simpa using q'.1
    subst ht
    have q := q'.2
    split at q
    · rename_i C' bm k0 k1 k2 k3 n k5 hm hs
      simp only [Bool.and_eq_true, beq_iff_eq, Bool.not_eq_true'] at q
      obtain ⟨⟨⟨⟨rfl, rfl⟩, hd⟩, hdel⟩, hv⟩ := q
      obtain ⟨nm, bs, mro, ns, qn, hd', sn, sub, ab, col, del⟩ := cd
      dsimp only at hm hdel hd
      subst hm hdel hd
      have hsl : sl = #[k0, k1, k2, k3, some (.builtin "ValueError.__new__"), k5] := by
        obtain ⟨l⟩ := sl
        simp only at hs
        rw [hs]
      subst hsl
      exact ⟨nm, qn, ns, bs, bm, sn, sub, ab, col, dd, k0, k1, k2, k3, k5, ho, hv⟩
    · cases q
  · cases q
/-- what is looked at of an error's class: it is over ValueError, its __init__ is SeatError's, it may be made, raised, caught, read -/
def errB (K : PySem.W.Frag) (n : Str) : Bool :=
  exKB K (He.ga K n) && decide (PySem.W.findIn K (.ref (He.ga K n)) "__setattr__" = some (some (.builtin "object.__setattr__"))) && decide (PySem.W.subIn K (.ref (He.ga K n)) (.type "BaseException") = some true) && decide (PySem.W.typeIn K (.ref (He.ga K n)) = some (.type "type")) &&
  PySem.W.keepIn K (.ref (He.ga K n)) && decide (PySem.W.findIn K (.ref (He.ga K n)) "__init__" = some (some (.ref (He.fAd K ("SeatError", some "__init__"))))) && decide (PySem.W.typeIn K (.ref (He.fAd K ("SeatError", some "__init__"))) = some (.type "function")) &&
  decide (PySem.W.findIn K (.ref (He.ga K n)) "value" = some none) && decide (PySem.W.nsIn K mainGlobals n = some (some (.ref (He.ga K n)))) && xfB K (He.ga K n)
structure ErrF (K : PySem.W.Frag) (n : Str) : Prop where
  oex : OexC K (He.ga K n)
  iC : PySem.W.findIn K (.ref (He.ga K n)) "__init__" = some (some (.ref (He.fAd K ("SeatError", some "__init__"))))
  tI : PySem.W.typeIn K (.ref (He.fAd K ("SeatError", some "__init__"))) = some (.type "function")
  noV : PySem.W.findIn K (.ref (He.ga K n)) "value" = some none
  glo : PySem.W.nsIn K mainGlobals n = some (some (.ref (He.ga K n)))
  xf : XfC K (He.ga K n)
theorem errB_ok {K : PySem.W.Frag} {n : Str} (h : errB K n = true) : ErrF K n := by
  unfold errB at h
  simp only [Bool.and_eq_true, decide_eq_true_eq] at h
  obtain ⟨⟨⟨⟨⟨⟨⟨⟨⟨h1, h2⟩, h3⟩, h4⟩, h5⟩, h6⟩, h7⟩, h8⟩, h9⟩, h10⟩ := h
  exact ⟨⟨exKB_ok h1, h2, h3, h4, h5⟩, h6, h7, h8, h9, xfB_ok h10⟩
/-- self.value = value -/
def spErr (K : PySem.W.Frag) : Sp := fun vs H Q _ => ∃ (a C : Addr) (v : V), vs = [.ref a, v] ∧ OexC K C ∧ PySem.W.findIn K (.ref C) "value" = some none ∧ H a = some (exo a C none) ∧
  ∀ dx, H dx = none → dx ≠ a → Q .non (upd (upd H dx (exd dx [(("value" : Str), v)])) a (exo a C (some dx)))
/-- errors that may be raised -/
structure Er (P : Program) (w : World) (K : PySem.W.Frag) (mg : Str → Option Value) (base : Heap) (k : Nat) (n : Str) : Prop where
  f : ErrF K n
  g : mg n = some (.ref (He.ga K n))
  ex : ∃ (fd : FuncData) (ds : List Value), FnOk P w K mg base (L2.CX P w) k (He.fAd K ("SeatError", some "__init__")) fd ["self", "value"] (spErr K) ∧ Binds K fd ["self", "value"] [] ∧ Binds K fd ["self", "value"] [.none]
def dsRaise (n : Str) (Xc : Str → D → Prop) (da : DA) : DS := fun _ δ => da δ fun ds => ∃ d, ds = [d] ∧ Xc n d
theorem raise_heap {H : Hp} {a C dx : Addr} {v : V} (ha : H a = none) (hx : dx ≠ a) :
    upd (del (upd (upd (upd H a (exo a C none)) dx (exd dx [(("value" : Str), v)])) a (exo a C (some dx))) a) dx (.xd [(("value" : Str), v)]) = upd H dx (.xd [(("value" : Str), v)]) := by
  funext b
  by_cases hb : b = dx
  · subst hb
    rw [upd_same, upd_same]
  · rw [upd_ne hb, upd_ne hb]
    by_cases hb2 : b = a
    · subst hb2
      rw [del_same, ha]
    · rw [del_ne hb2, upd_ne hb2, upd_ne hb, upd_ne hb2]
section
variable {X : Cx} {G : Gx} {k j : Nat} {n : Str} {e : Expr} {da : DA} {p pos pos2 : Pos} {Xc : Str → D → Prop} {E : XK}
theorem psd_raise (x : Er X.prog X.w X.K X.mg X.base k n) (hr : Room j X.A) (hE : DlvX X.K G Xc E) (tk : Takes X (fun cls d _ H => E cls d H)) (ha : PAd X G [e] da) (hk : k + 1 ≤ j := by decide) (hc : X.calm = true := by rfl) (hg : Gl X n := by rfl) (hdb : (n == ("__debug__" : Str)) = false := by decide)
    (he : starEach [e] X.env = (false, eval e X.env) :: starEach [] X.env := by rfl) (hpl : (backTo pos (starEach [] X.env)).any (·.1) = false := by rfl) : PSd X G (.Raise (some (.Call (.Name n p) [e] [] pos)) none pos2) (dsRaise n Xc da) := by
  obtain ⟨fd, ds, FI, bI, _⟩ := x.ex
  exact PS.imp (ps_raise hc tk (pmk_oex x.f.oex x.f.iC x.f.tI FI (hr.mono hk) bI .nil passL hg x.g ha hdb he hpl)) fun D σ H ⟨B, δ, DD, s, h, q⟩ => ⟨B, δ, _, s, h, fun vs ds B1 H1 m1 ⟨d, ed, p1⟩ r1 => by
    subst ed
    cases r1 with
    | cons rv rn =>
      cases rn
      rename_i v
      refine ⟨by show 1 ≤ 1000; decide, fun a ha => ⟨a, He.ga X.K n, v, rfl, x.f.oex, x.f.noV, upd_same, fun dx hdx hne => ⟨rfl, dx, [(("value" : Str), v)], upd_same, by rw [upd_ne hne, upd_same], ?_, ?_⟩⟩⟩
      · rw [upd_ne hne] at hdx
        exact hdx
      · rw [upd_ne hne] at hdx
        rw [raise_heap ha hne]
        have m2 := Fm.new (o := .xd [(("value" : Str), v)]) m1.e m1.f hdx
        exact hE n d dx v _ _ p1 ((s.fm.trans m1).trans m2) upd_same (rv.mono m2.b)⟩
end
end Sd
end
-- SdLib
section
set_option Elab.async false
set_option linter.all false
set_option maxRecDepth 100000
set_option maxHeartbeats 4000000
set_option autoImplicit false
namespace Sd
open PySem PySem.Spec PyProof.Rows L2

/-! ### loops and comprehensions, by what they do -/
theorem for_of {di : DI} {g : DG} {t : DS} {D : DEnds} {δ : List Sl} (xs : List Sd.D) (J : Nat → List Sl → Prop) (h : ∀ P : List Sd.D → Prop, P xs → di δ P) (h0 : J 0 δ)
    (hs : ∀ i x δ', xs[i]? = some x → J i δ' → g x δ' fun δ2 => t { D with nx := J (i + 1), ct := J (i + 1), bk := D.nx } δ2) (hd : ∀ δ', J xs.length δ' → D.nx δ') : dsFor di g t D δ := h _ ⟨J, h0, hs, hd⟩
theorem while_of {c : DT} {t : DS} {D : DEnds} {δ : List Sl} (J : Nat → List Sl → Prop) (m : Nat) (h0 : J m δ)
    (hs : ∀ m δ', J m δ' → c δ' fun b => if b = true then t { D with nx := fun δ2 => ∃ m', m' < m ∧ J m' δ2, ct := fun δ2 => ∃ m', m' < m ∧ J m' δ2, bk := D.nx } δ' else D.nx δ') : dsWhile c t D δ := ⟨J, ⟨m, h0⟩, hs⟩
section
variable {di : DI} {g : DG} {tt : DT} {te : DE} {own : List Nat} {δ : List Sl} {P : List D → Prop}
theorem lc_inv (xs : List D) (J : Nat → List D → Prop) (h : ∀ P : List D → Prop, P xs → di δ P) (hl : xs.length ≤ 100000) (h0 : J 0 [])
    (hs : ∀ i x acc, xs[i]? = some x → J i acc → acc.length ≤ i → g x (wipeD δ own) fun δ2 => tt δ2 fun b => if b = true then te δ2 fun y => J (i + 1) (acc ++ [y]) else J (i + 1) acc) (hd : ∀ acc, J xs.length acc → P acc) : dxLc di g tt te own δ P := h _ ⟨hl, J, h0, hs, hd⟩
theorem take_snoc {α : Type} {l : List α} {i : Nat} {x : α} (h : l[i]? = some x) : l.take (i + 1) = l.take i ++ [x] := by
  rw [List.take_succ, h]
  rfl
theorem lc_filter (xs : List D) (f : D → D) (p : D → Bool) (h : ∀ P : List D → Prop, P xs → di δ P) (hl : xs.length ≤ 100000)
    (hs : ∀ x ∈ xs, ∀ (R1 : D → Prop) (R2 : Prop), (p x = true → R1 (f x)) → (p x = false → R2) → g x (wipeD δ own) fun δ2 => tt δ2 fun b => if b = true then te δ2 R1 else R2) (hp : P ((xs.filter p).map f)) : dxLc di g tt te own δ P := by
  refine lc_inv xs (fun i acc => acc = ((xs.take i).filter p).map f) h hl (by simp) (fun i x acc hx hj _ => ?_) (fun acc hj => ?_)
  · have hm : x ∈ xs := List.mem_of_getElem? hx
    refine hs x hm _ _ (fun hpx => ?_) (fun hpx => ?_)
    · rw [hj, take_snoc hx, List.filter_append, List.map_append]
      simp [hpx]
    · rw [hj, take_snoc hx, List.filter_append, List.map_append]
      simp [hpx]
  · rw [List.take_length] at hj
    rw [hj]
    exact hp
theorem lc_map (xs : List D) (f : D → D) (h : ∀ P : List D → Prop, P xs → di δ P) (hl : xs.length ≤ 100000)
    (hs : ∀ x ∈ xs, ∀ R : D → Prop, R (f x) → g x (wipeD δ own) fun δ2 => te δ2 R) (hp : P (xs.map f)) : dxLc di g dtYes te own δ P := by
  refine lc_inv xs (fun i acc => acc = (xs.take i).map f) h hl (by simp) (fun i x acc hx hj _ => ?_) (fun acc hj => ?_)
  · refine hs x (List.mem_of_getElem? hx) _ ?_
    rw [hj, take_snoc hx, List.map_append]
    rfl
  · rw [List.take_length] at hj
    rw [hj]
    exact hp
theorem lc_any (xs : List D) (A : D → Prop) (h : ∀ P : List D → Prop, P xs → di δ P) (hl : xs.length ≤ 100000)
    (hs : ∀ x ∈ xs, ∀ R : D → Prop, (∀ y, A y → R y) → g x (wipeD δ own) fun δ2 => te δ2 R) (hp : ∀ ys, ys.length = xs.length → (∀ y ∈ ys, A y) → P ys) : dxLc di g dtYes te own δ P := by
  refine lc_inv xs (fun i acc => acc.length = i ∧ ∀ y ∈ acc, A y) h hl ⟨rfl, by simp⟩ (fun i x acc hx ⟨h1, h2⟩ _ => ?_) (fun acc ⟨h1, h2⟩ => hp acc h1 h2)
  refine hs x (List.mem_of_getElem? hx) _ fun y hy => ?_
  refine ⟨by rw [List.length_append, h1]; rfl, fun z hz => ?_⟩
  rcases List.mem_append.mp hz with q | q
  · exact h2 z q
  · rw [List.mem_singleton.mp q]
    exact hy
end

/-! typed lists -/
theorem zipD_map {α β : Type} (dx : α → D) (dy : β → D) : ∀ (xs : List α) (ys : List β), zipD (xs.map dx) (ys.map dy) = (xs.zip ys).map fun p => .tup [dx p.1, dy p.2]
  | [], ys => by simp [zipD]
  | _ :: _, [] => by simp [zipD]
  | x :: xs, y :: ys => by simp [zipD, zipD_map dx dy xs ys]
theorem enumD_map {α : Type} (dx : α → D) : ∀ (xs : List α) (k : Nat), enumD (k : Int) (xs.map dx) = (xs.zipIdx k).map fun p => .tup [.int (p.2 : Int), dx p.1]
  | [], k => by simp [enumD]
  | x :: xs, k => by
    have ih := enumD_map dx xs (k + 1)
    rw [Int.natCast_add] at ih
    simp only [List.map_cons, enumD, List.zipIdx_cons]
    exact congrArg _ ih
theorem enumD_map0 {α : Type} (dx : α → D) (xs : List α) : enumD 0 (xs.map dx) = xs.zipIdx.map fun p => .tup [.int (p.2 : Int), dx p.1] := enumD_map dx xs 0
theorem enumD_id (xs : List D) : enumD 0 xs = xs.zipIdx.map fun p => .tup [.int (p.2 : Int), p.1] := by
  have := enumD_map0 id xs
  rw [List.map_id] at this
  exact this
theorem rngD_eq (n : Nat) (lo : Int) : rngD lo n = (List.range n).map fun i => .int (lo + (i : Int)) := by
  apply List.ext_getElem?
  intro k
  by_cases h : k < n
  · rw [rngD_at n lo k h]
    simp [h]
  · rw [List.getElem?_eq_none (by rw [rngD_length]; omega), List.getElem?_eq_none (by simp; omega)]
theorem rngD_0 (n : Nat) : rngD 0 n = (List.range n).map fun i => .int (i : Int) := by
  rw [rngD_eq]
  simp
theorem map_idD (xs : List D) : xs = xs.map id := by simp
theorem for_on {α : Type} {di : DI} {g : DG} {t : DS} {D : DEnds} {δ : List Sl} (xs : List α) (dx : α → Sd.D) (J : Nat → List Sl → Prop) (h : ∀ P : List Sd.D → Prop, P (xs.map dx) → di δ P) (h0 : J 0 δ)
    (hs : ∀ i x δ', xs[i]? = some x → J i δ' → g (dx x) δ' fun δ2 => t { D with nx := J (i + 1), ct := J (i + 1), bk := D.nx } δ2) (hd : ∀ δ', J xs.length δ' → D.nx δ') : dsFor di g t D δ := by
  refine for_of (xs.map dx) J h h0 (fun i x δ' hx hj => ?_) (fun δ' hj => hd δ' (by rwa [List.length_map] at hj))
  rw [List.getElem?_map, Option.map_eq_some_iff] at hx
  obtain ⟨y, hy, rfl⟩ := hx
  exact hs i y δ' hy hj
section
variable {α : Type} {di : DI} {g : DG} {tt : DT} {te : DE} {own : List Nat} {δ : List Sl} {P : List D → Prop}
theorem lc_on (xs : List α) (dx : α → D) (f : α → D) (h : ∀ P : List D → Prop, P (xs.map dx) → di δ P) (hl : xs.length ≤ 100000)
    (hs : ∀ x ∈ xs, ∀ R : D → Prop, R (f x) → g (dx x) (wipeD δ own) fun δ2 => te δ2 R) (hp : P (xs.map f)) : dxLc di g dtYes te own δ P := by
  refine lc_inv (xs.map dx) (fun i acc => acc = (xs.take i).map f) h (by rwa [List.length_map]) (by simp) (fun i x acc hx hj _ => ?_) (fun acc hj => ?_)
  · rw [List.getElem?_map, Option.map_eq_some_iff] at hx
    obtain ⟨y, hy, rfl⟩ := hx
    refine hs y (List.mem_of_getElem? hy) _ ?_
    rw [hj, take_snoc hy, List.map_append]
    rfl
  · rw [List.length_map, List.take_length] at hj
    rw [hj]
    exact hp
theorem lc_onF (xs : List α) (dx : α → D) (f : α → D) (p : α → Bool) (h : ∀ P : List D → Prop, P (xs.map dx) → di δ P) (hl : xs.length ≤ 100000)
    (hs : ∀ x ∈ xs, ∀ (R1 : D → Prop) (R2 : Prop), (p x = true → R1 (f x)) → (p x = false → R2) → g (dx x) (wipeD δ own) fun δ2 => tt δ2 fun b => if b = true then te δ2 R1 else R2) (hp : P ((xs.filter p).map f)) : dxLc di g tt te own δ P := by
  refine lc_inv (xs.map dx) (fun i acc => acc = ((xs.take i).filter p).map f) h (by rwa [List.length_map]) (by simp) (fun i x acc hx hj _ => ?_) (fun acc hj => ?_)
  · rw [List.getElem?_map, Option.map_eq_some_iff] at hx
    obtain ⟨y, hy, rfl⟩ := hx
    refine hs y (List.mem_of_getElem? hy) _ _ (fun hpx => ?_) (fun hpx => ?_)
    · rw [hj, take_snoc hy, List.filter_append, List.map_append]
      simp [hpx]
    · rw [hj, take_snoc hy, List.filter_append, List.map_append]
      simp [hpx]
  · rw [List.length_map, List.take_length] at hj
    rw [hj]
    exact hp
/-- values that are not known, but kept by a property -/
theorem lc_onA {β : Type} (xs : List α) (dx : α → D) (db : β → D) (A : α → β → Prop) (h : ∀ P : List D → Prop, P (xs.map dx) → di δ P) (hl : xs.length ≤ 100000)
    (hs : ∀ x ∈ xs, ∀ R : D → Prop, (∀ y, A x y → R (db y)) → g (dx x) (wipeD δ own) fun δ2 => te δ2 R) (hp : ∀ ys : List β, ys.length = xs.length → (∀ (i : Nat) (x : α) (y : β), xs[i]? = some x → ys[i]? = some y → A x y) → P (ys.map db)) : dxLc di g dtYes te own δ P := by
  refine lc_inv (xs.map dx) (fun i acc => ∃ ys : List β, acc = ys.map db ∧ ys.length = i ∧ ∀ (j : Nat) (x : α) (y : β), xs[j]? = some x → ys[j]? = some y → A x y) h (by rwa [List.length_map]) ⟨[], rfl, rfl, by simp⟩ (fun i x acc hx hj _ => ?_) (fun acc hj => ?_)
  · rw [List.getElem?_map, Option.map_eq_some_iff] at hx
    obtain ⟨z, hz, rfl⟩ := hx
    obtain ⟨ys, rfl, hy, ha⟩ := hj
    refine hs z (List.mem_of_getElem? hz) _ fun y hxy => ⟨ys ++ [y], by simp, by simp [hy], fun j x' y' h1 h2 => ?_⟩
    rw [List.getElem?_append] at h2
    split at h2
    · exact ha j x' y' h1 h2
    · rename_i hj
      have hj' : j = i := by
        have := (List.getElem?_eq_some_iff.mp h2).1
        simp at this
        omega
      subst hj'
      rw [h1] at hz
      cases hz
      rw [hy, Nat.sub_self] at h2
      cases h2
      exact hxy
  · obtain ⟨ys, rfl, hy, ha⟩ := hj
    exact hp ys (by rw [hy, List.length_map]) ha
end

theorem cut_map {α β : Type} (f : α → β) (xs : List α) (lo hi : Option Int) : cut (xs.map f) lo hi = (cut xs lo hi).map f := by
  unfold cut
  rw [List.length_map, List.map_take, List.map_drop]
/-! the same, where the iteration is already read -/
def lcB (xs : List D) (g : DG) (tt : DT) (te : DE) (own : List Nat) (δ : List Sl) (P : List D → Prop) : Prop := xs.length ≤ 100000 ∧ ∃ J : Nat → List D → Prop, J 0 [] ∧
  (∀ i x acc, xs[i]? = some x → J i acc → acc.length ≤ i → g x (wipeD δ own) fun δ2 => tt δ2 fun b => if b = true then te δ2 fun y => J (i + 1) (acc ++ [y]) else J (i + 1) acc) ∧ ∀ acc, J xs.length acc → P acc
theorem dxLc_eq (di : DI) (g : DG) (tt : DT) (te : DE) (own : List Nat) (δ : List Sl) (P : List D → Prop) : dxLc di g tt te own δ P = di δ fun xs => lcB xs g tt te own δ P := rfl
def fbB (xs : List D) (g : DG) (t : DS) (D : DEnds) (δ : List Sl) : Prop := ∃ J : Nat → List Sl → Prop, J 0 δ ∧
  (∀ i x δ', xs[i]? = some x → J i δ' → g x δ' fun δ2 => t { D with nx := J (i + 1), ct := J (i + 1), bk := D.nx } δ2) ∧ ∀ δ', J xs.length δ' → D.nx δ'
theorem dsFor_eq (di : DI) (g : DG) (t : DS) (D : DEnds) (δ : List Sl) : dsFor di g t D δ = di δ fun xs => fbB xs g t D δ := rfl
theorem dsWhile_eq (c : DT) (t : DS) (D : DEnds) (δ : List Sl) : dsWhile c t D δ = (∃ J : Nat → List Sl → Prop, (∃ m, J m δ) ∧ ∀ m δ', J m δ' →
  c δ' fun b => if b = true then t { D with nx := fun δ2 => ∃ m', m' < m ∧ J m' δ2, ct := fun δ2 => ∃ m', m' < m ∧ J m' δ2, bk := D.nx } δ' else D.nx δ') := rfl
theorem fb_on {α : Type} {g : DG} {t : DS} {D : DEnds} {δ : List Sl} {dx : α → Sd.D} (xs : List α) (J : Nat → List Sl → Prop) (h0 : J 0 δ)
    (hs : ∀ i x δ', xs[i]? = some x → J i δ' → g (dx x) δ' fun δ2 => t { D with nx := J (i + 1), ct := J (i + 1), bk := D.nx } δ2) (hd : ∀ δ', J xs.length δ' → D.nx δ') : fbB (xs.map dx) g t D δ :=
  for_on (di := fun _ P => P (xs.map dx)) xs dx J (fun _ p => p) h0 hs hd
section
variable {α : Type} {g : DG} {tt : DT} {te : DE} {own : List Nat} {δ : List Sl} {P : List D → Prop} {dx : α → D}
theorem lb_inv (xs : List α) (J : Nat → List D → Prop) (hl : xs.length ≤ 100000) (h0 : J 0 [])
    (hs : ∀ i x acc, xs[i]? = some x → J i acc → acc.length ≤ i → g (dx x) (wipeD δ own) fun δ2 => tt δ2 fun b => if b = true then te δ2 fun y => J (i + 1) (acc ++ [y]) else J (i + 1) acc) (hd : ∀ acc, J xs.length acc → P acc) : lcB (xs.map dx) g tt te own δ P := by
  refine ⟨by rwa [List.length_map], J, h0, fun i x acc hx hj hl => ?_, fun acc hj => hd acc (by rwa [List.length_map] at hj)⟩
  rw [List.getElem?_map, Option.map_eq_some_iff] at hx
  obtain ⟨y, hy, rfl⟩ := hx
  exact hs i y acc hy hj hl
theorem lb_on (xs : List α) (f : α → D) (hl : xs.length ≤ 100000)
    (hs : ∀ x ∈ xs, ∀ R : D → Prop, R (f x) → g (dx x) (wipeD δ own) fun δ2 => te δ2 R) (hp : P (xs.map f)) : lcB (xs.map dx) g dtYes te own δ P := lc_on (di := fun _ P => P (xs.map dx)) xs dx f (fun _ p => p) hl hs hp
theorem lb_onF (xs : List α) (f : α → D) (p : α → Bool) (hl : xs.length ≤ 100000)
    (hs : ∀ x ∈ xs, ∀ (R1 : D → Prop) (R2 : Prop), (p x = true → R1 (f x)) → (p x = false → R2) → g (dx x) (wipeD δ own) fun δ2 => tt δ2 fun b => if b = true then te δ2 R1 else R2) (hp : P ((xs.filter p).map f)) : lcB (xs.map dx) g tt te own δ P := lc_onF (di := fun _ P => P (xs.map dx)) xs dx f p (fun _ p => p) hl hs hp
theorem lb_onA {β : Type} (xs : List α) (db : β → D) (A : α → β → Prop) (hl : xs.length ≤ 100000)
    (hs : ∀ x ∈ xs, ∀ R : D → Prop, (∀ y, A x y → R (db y)) → g (dx x) (wipeD δ own) fun δ2 => te δ2 R) (hp : ∀ ys : List β, ys.length = xs.length → (∀ (i : Nat) (x : α) (y : β), xs[i]? = some x → ys[i]? = some y → A x y) → P (ys.map db)) : lcB (xs.map dx) g dtYes te own δ P := lc_onA (di := fun _ P => P (xs.map dx)) xs dx db A (fun _ p => p) hl hs hp
end
theorem ix_of {d : D} {xs : List D} (h : d.seq = some xs) (i : Int) : d.ix (.int i) = L2.atI xs i := by
  cases d <;> cases h <;> rfl
theorem range_at {n k x : Nat} (h : (List.range n)[k]? = some x) : k < n ∧ x = k := by
  obtain ⟨h1, h2⟩ := List.getElem?_eq_some_iff.mp h
  simp at h1 h2
  exact ⟨h1, h2.symm⟩
/-! ### looks at data -/
theorem qty_non  : D.non.ty.isSome = true := rfl
theorem qisI_non  : D.non.isI = false := rfl
theorem qisB_non  : D.non.isB = false := rfl
theorem qisL_non  : D.non.isL = false := rfl
theorem qisU_non  : D.non.isU = false := rfl
theorem qisS_non  : D.non.isS = false := rfl
theorem qisD_non  : D.non.isD = false := rfl
theorem qisNon_non  : D.non.isNon = true := rfl
theorem qcooked_non  : D.non.cooked = true := rfl
theorem qseq_non  : D.non.seq = none := rfl
theorem qty_bl (b : Bool) : (D.bl b).ty.isSome = true := rfl
theorem qisI_bl (b : Bool) : (D.bl b).isI = true := rfl
theorem qisB_bl (b : Bool) : (D.bl b).isB = true := rfl
theorem qisL_bl (b : Bool) : (D.bl b).isL = false := rfl
theorem qisU_bl (b : Bool) : (D.bl b).isU = false := rfl
theorem qisS_bl (b : Bool) : (D.bl b).isS = false := rfl
theorem qisD_bl (b : Bool) : (D.bl b).isD = false := rfl
theorem qisNon_bl (b : Bool) : (D.bl b).isNon = false := rfl
theorem qcooked_bl (b : Bool) : (D.bl b).cooked = true := rfl
theorem qseq_bl (b : Bool) : (D.bl b).seq = none := rfl
theorem qty_int (i : Int) : (D.int i).ty.isSome = true := rfl
theorem qisI_int (i : Int) : (D.int i).isI = true := rfl
theorem qisB_int (i : Int) : (D.int i).isB = false := rfl
theorem qisL_int (i : Int) : (D.int i).isL = false := rfl
theorem qisU_int (i : Int) : (D.int i).isU = false := rfl
theorem qisS_int (i : Int) : (D.int i).isS = false := rfl
theorem qisD_int (i : Int) : (D.int i).isD = false := rfl
theorem qisNon_int (i : Int) : (D.int i).isNon = false := rfl
theorem qcooked_int (i : Int) : (D.int i).cooked = true := rfl
theorem qseq_int (i : Int) : (D.int i).seq = none := rfl
theorem qty_str (z : Str) : (D.str z).ty.isSome = true := rfl
theorem qisI_str (z : Str) : (D.str z).isI = false := rfl
theorem qisB_str (z : Str) : (D.str z).isB = false := rfl
theorem qisL_str (z : Str) : (D.str z).isL = false := rfl
theorem qisU_str (z : Str) : (D.str z).isU = false := rfl
theorem qisS_str (z : Str) : (D.str z).isS = true := rfl
theorem qisD_str (z : Str) : (D.str z).isD = false := rfl
theorem qisNon_str (z : Str) : (D.str z).isNon = false := rfl
theorem qcooked_str (z : Str) : (D.str z).cooked = true := rfl
theorem qseq_str (z : Str) : (D.str z).seq = none := rfl
theorem qty_lst (xs : List D) : (D.lst xs).ty.isSome = true := rfl
theorem qisI_lst (xs : List D) : (D.lst xs).isI = false := rfl
theorem qisB_lst (xs : List D) : (D.lst xs).isB = false := rfl
theorem qisL_lst (xs : List D) : (D.lst xs).isL = true := rfl
theorem qisU_lst (xs : List D) : (D.lst xs).isU = false := rfl
theorem qisS_lst (xs : List D) : (D.lst xs).isS = false := rfl
theorem qisD_lst (xs : List D) : (D.lst xs).isD = false := rfl
theorem qisNon_lst (xs : List D) : (D.lst xs).isNon = false := rfl
theorem qcooked_lst (xs : List D) : (D.lst xs).cooked = true := rfl
theorem qseq_lst (xs : List D) : (D.lst xs).seq = some xs := rfl
theorem qty_tup (xs : List D) : (D.tup xs).ty.isSome = true := rfl
theorem qisI_tup (xs : List D) : (D.tup xs).isI = false := rfl
theorem qisB_tup (xs : List D) : (D.tup xs).isB = false := rfl
theorem qisL_tup (xs : List D) : (D.tup xs).isL = false := rfl
theorem qisU_tup (xs : List D) : (D.tup xs).isU = true := rfl
theorem qisS_tup (xs : List D) : (D.tup xs).isS = false := rfl
theorem qisD_tup (xs : List D) : (D.tup xs).isD = false := rfl
theorem qisNon_tup (xs : List D) : (D.tup xs).isNon = false := rfl
theorem qcooked_tup (xs : List D) : (D.tup xs).cooked = true := rfl
theorem qseq_tup (xs : List D) : (D.tup xs).seq = some xs := rfl
theorem qty_dct  : D.dct.ty.isSome = true := rfl
theorem qisI_dct  : D.dct.isI = false := rfl
theorem qisB_dct  : D.dct.isB = false := rfl
theorem qisL_dct  : D.dct.isL = false := rfl
theorem qisU_dct  : D.dct.isU = false := rfl
theorem qisS_dct  : D.dct.isS = false := rfl
theorem qisD_dct  : D.dct.isD = true := rfl
theorem qisNon_dct  : D.dct.isNon = false := rfl
theorem qcooked_dct  : D.dct.cooked = true := rfl
theorem qseq_dct  : D.dct.seq = none := rfl
theorem qix_lst (xs : List D) (i : Int) : (D.lst xs).ix (.int i) = L2.atI xs i := rfl
theorem qsl_lst (xs : List D) (lo hi : Option Int) : (D.lst xs).sl lo hi = some (.lst (cut xs lo hi)) := rfl
theorem qix_tup (xs : List D) (i : Int) : (D.tup xs).ix (.int i) = L2.atI xs i := rfl
theorem qsl_tup (xs : List D) (lo hi : Option Int) : (D.tup xs).sl lo hi = some (.tup (cut xs lo hi)) := rfl
theorem qisNon_ln (xs : List D) : (D.ln xs).isNon = false := rfl
theorem qcooked_ln (xs : List D) : (D.ln xs).cooked = true := rfl
/-! ### plain values under == -/
theorem eqOk_int (i : Int) : (D.int i).eqOk = true := rfl
theorem eqOk_bl (i : Bool) : (D.bl i).eqOk = true := rfl
theorem eqOk_non : D.non.eqOk = true := rfl
theorem eqv_int (i j : Int) : (D.int i).eqv (.int j) = decide (i = j) := rfl
theorem eqv_bl (i j : Bool) : (D.bl i).eqv (.bl j) = decide (i = j) := by cases i <;> cases j <;> rfl
theorem eqv_non : D.non.eqv .non = true := rfl
/-- an index that is written or known to be within -/
theorem atI_nat' {α : Type} (xs : List α) (j : Nat) : L2.atI xs (j : Int) = xs[j]? := by
  unfold L2.atI ixN
  by_cases h : j < xs.length
  · rw [if_pos (by omega), if_pos (by omega)]
    simp
  · rw [if_pos (by omega), if_neg (by omega)]
    simp [List.getElem?_eq_none (Nat.le_of_not_lt h)]
theorem atI_0 {α : Type} (xs : List α) : L2.atI xs 0 = xs[0]? := atI_nat' xs 0
theorem atI_1 {α : Type} (xs : List α) : L2.atI xs 1 = xs[1]? := atI_nat' xs 1
theorem atI_2 {α : Type} (xs : List α) : L2.atI xs 2 = xs[2]? := atI_nat' xs 2
theorem atI_3 {α : Type} (xs : List α) : L2.atI xs 3 = xs[3]? := atI_nat' xs 3
theorem atI_pos {α : Type} {xs : List α} {i : Int} (h : 0 ≤ i) : L2.atI xs i = xs[i.toNat]? := by
  obtain ⟨n, rfl⟩ := Int.eq_ofNat_of_zero_le h
  exact atI_nat' xs n

/-! ### data of a bounded depth -/
def D.fit : Nat → D → Bool
  | _, .non => true
  | _, .bl _ => true
  | _, .int _ => true
  | _, .str s => PyData.strOk s
  | n + 1, .lst xs => xs.all (D.fit n)
  | n + 1, .tup xs => xs.all (D.fit n)
  | _, _ => false
theorem fit_py : ∀ (n : Nat) (d : D), d.fit n = true → d.plain = true ∧ d.py.canLay0 = true ∧ d.py.depth ≤ n := by
  intro n
  induction n with
  | zero =>
    intro d h
    cases d <;> first | (simp [D.fit] at h; done) | exact ⟨rfl, rfl, Nat.le_refl _⟩ | skip
    rename_i z
    refine ⟨rfl, ?_, Nat.le_refl _⟩
    simpa [D.fit, D.py, PyData.canLay0] using h
  | succ n ih =>
    have all : ∀ xs : List D, (∀ x ∈ xs, x.fit n = true) → D.plainA xs = true ∧ PyData.canLayAll0 (D.pyA xs) = true ∧ PyData.depthAll (D.pyA xs) ≤ n := by
      intro xs
      induction xs with
      | nil => exact fun _ => ⟨rfl, rfl, Nat.zero_le _⟩
      | cons x xs ihx =>
        intro h
        obtain ⟨h1, h2, h3⟩ := ih x (h x (by simp))
        obtain ⟨g1, g2, g3⟩ := ihx fun y hy => h y (by simp [hy])
        refine ⟨by rw [D.plainA, h1, g1]; rfl, by rw [D.pyA, PyData.canLayAll0, h2, g2]; rfl, ?_⟩
        rw [D.pyA, PyData.depthAll]
        exact Nat.max_le.mpr ⟨h3, g3⟩
    intro d h
    cases d with
    | non => exact ⟨rfl, rfl, Nat.zero_le _⟩
    | bl b => exact ⟨rfl, rfl, Nat.zero_le _⟩
    | int i => exact ⟨rfl, rfl, Nat.zero_le _⟩
    | str z => exact ⟨rfl, by simpa [D.fit, D.py, PyData.canLay0] using h, Nat.zero_le _⟩
    | lst xs =>
      obtain ⟨h1, h2, h3⟩ := all xs (by simpa [D.fit] using h)
      exact ⟨by simpa [D.plain] using h1, by simpa [D.py, PyData.canLay0] using h2, by simpa [D.py, PyData.depth] using h3⟩
    | tup xs =>
      obtain ⟨h1, h2, h3⟩ := all xs (by simpa [D.fit] using h)
      exact ⟨by simpa [D.plain] using h1, by simpa [D.py, PyData.canLay0] using h2, by simpa [D.py, PyData.depth] using h3⟩
    | raw v => simp [D.fit] at h
    | dct => simp [D.fit] at h
    | ln xs => simp [D.fit] at h
theorem eqOk_fit {n : Nat} {d : D} (h : d.fit n = true) (hn : n ≤ 64 := by decide) : d.eqOk = true := by
  obtain ⟨h1, h2, h3⟩ := fit_py n d h
  unfold D.eqOk SeqAt.shaped
  rw [h1, h2]
  simp
  omega
theorem fit_mem {n : Nat} {d : D} {xs : List D} (h : d.fit (n + 1) = true) (hs : d.seq = some xs) : ∀ x ∈ xs, x.fit n = true := by
  cases d <;> cases hs <;> simpa [D.fit] using h
theorem fit_lst {n : Nat} {xs : List D} : (D.lst xs).fit (n + 1) = xs.all (D.fit n) := by simp [D.fit]
theorem fit_tup {n : Nat} {xs : List D} : (D.tup xs).fit (n + 1) = xs.all (D.fit n) := by simp [D.fit]
theorem fit_int {n : Nat} {i : Int} : (D.int i).fit n = true := by cases n <;> rfl
theorem fit_bl {n : Nat} {i : Bool} : (D.bl i).fit n = true := by cases n <;> rfl
theorem fit_non {n : Nat} : D.non.fit n = true := by cases n <;> rfl
theorem fit_ints {n : Nat} (ns : List Int) : (ns.map D.int).all (D.fit n) = true := by simp [fit_int]
theorem eqOk_ints (ns : List Int) : (D.lst (ns.map D.int)).eqOk = true := eqOk_fit (n := 1) (by rw [fit_lst, fit_ints])
theorem eqOk_tints (ns : List Int) : (D.tup (ns.map D.int)).eqOk = true := eqOk_fit (n := 1) (by rw [fit_tup, fit_ints])
theorem eqOk_lst0 : (D.lst []).eqOk = true := rfl
theorem eqv_lst0 (xs : List D) : (D.lst xs).eqv (.lst []) = xs.isEmpty := by cases xs <;> simp [D.eqv, D.py, D.pyA, PyData.eqv, PyData.eqvAll]
theorem eqvAll_ints : ∀ a b : List Int, PyData.eqvAll (D.pyA (a.map D.int)) (D.pyA (b.map D.int)) = decide (a = b)
  | [], [] => by simp [D.pyA, PyData.eqvAll]
  | [], _ :: _ => by simp [D.pyA, PyData.eqvAll]
  | _ :: _, [] => by simp [D.pyA, PyData.eqvAll]
  | x :: a, y :: b => by
    simp only [List.map_cons, D.pyA, PyData.eqvAll, eqvAll_ints a b, D.py, PyData.eqv]
    by_cases h : x = y <;> by_cases h2 : a = b <;> simp [h, h2]
theorem eqv_ints (a b : List Int) : (D.lst (a.map D.int)).eqv (.lst (b.map D.int)) = decide (a = b) := by
  unfold D.eqv
  rw [D.py, D.py, PyData.eqv]
  exact eqvAll_ints a b
theorem eqv_tints (a b : List Int) : (D.tup (a.map D.int)).eqv (.tup (b.map D.int)) = decide (a = b) := by
  unfold D.eqv
  rw [D.py, D.py, PyData.eqv]
  exact eqvAll_ints a b

/-! ### data without raw values -/
mutual
def D.okv : D → Bool
  | .raw _ => false
  | .ln _ => false
  | .lst xs => D.okvA xs
  | .tup xs => D.okvA xs
  | _ => true
def D.okvA : List D → Bool
  | [] => true
  | d :: ds => D.okv d && D.okvA ds
end
theorem no_raw {v : V} : ¬ (D.raw v).ty.isSome = true := fun h => nomatch h
theorem no_ln {xs : List D} : ¬ (D.ln xs).ty.isSome = true := fun h => nomatch h
theorem okv_ty {d : D} (h : d.okv = true) : d.ty.isSome = true := by cases d <;> first | rfl | cases h
theorem okvA_mem {ds : List D} (h : D.okvA ds = true) : ∀ d ∈ ds, d.okv = true := by
  induction ds with
  | nil => intro d hd; cases hd
  | cons x xs ih =>
    rw [D.okvA, Bool.and_eq_true] at h
    intro d hd
    rcases List.mem_cons.mp hd with rfl | hd
    · exact h.1
    · exact ih h.2 d hd
theorem okv_seq {d : D} {xs : List D} (h : d.okv = true) (hs : d.seq = some xs) : ∀ x ∈ xs, x.okv = true := by
  cases d <;> cases hs
  · exact okvA_mem h
  · exact okvA_mem h
theorem okvA_of {ds : List D} (h : ∀ d ∈ ds, d.okv = true) : D.okvA ds = true := by
  induction ds with
  | nil => rfl
  | cons x xs ih => rw [D.okvA, h x (by simp), ih fun d hd => h d (by simp [hd])]; rfl
theorem okvA_ints (ns : List Int) : D.okvA (ns.map D.int) = true := okvA_of fun d hd => by
  obtain ⟨n, _, rfl⟩ := List.mem_map.mp hd
  rfl
theorem seq_isSome (d : D) : d.seq.isSome = (d.isL || d.isU) := by cases d <;> rfl

/-! ### the package: mirrors -/
def dInt : D → Bool
  | .int _ => true
  | _ => false
def isWithin : D → Int → Int → Bool
  | .int i, lo, hi => decide (lo ≤ i) && decide (i ≤ hi)
  | _, _, _ => false
theorem isWithin_int {d : D} {lo hi : Int} (h : isWithin d lo hi = true) : ∃ i, d = .int i ∧ lo ≤ i ∧ i ≤ hi := by
  cases d <;> first | cases h | skip
  rename_i i
  simp [isWithin] at h
  exact ⟨i, rfl, h.1, h.2⟩
def isTup (d : D) (n : Int) : Bool := match d with
  | .tup xs => decide ((xs.length : Int) = n)
  | _ => false
def sp_is_integer : DSp := fun _ ds O => ∃ d, ds = [d] ∧ d.ty.isSome = true ∧ O (.ret (.bl (dInt d)))
def sp_is_within : DSp := fun _ ds O => ∃ d lo hi, ds = [d, .int lo, .int hi] ∧ d.ty.isSome = true ∧ O (.ret (.bl (isWithin d lo hi)))
def sp_is_row : DSp := fun _ ds O => ∃ d, ds = [d] ∧ d.ty.isSome = true ∧ O (.ret (.bl (d.isL || d.isU)))
def sp_is_tuple_of : DSp := fun _ ds O => ∃ d n, ds = [d, .int n] ∧ d.ty.isSome = true ∧ O (.ret (.bl (isTup d n)))
/-! ### draws -/
/-- a draw: any number below many -/
def sp__law_taken : DSp := fun F ds O => ∃ r sa many, ds = [.raw (.ref r), .int many] ∧ F.row = some (r, sa) ∧ 0 < many ∧ many < 1073741824 ∧ ∀ n : Int, 0 ≤ n → n < many → O (.ret (.int n))
/-- any member -/
def sp__law_pick : DSp := fun F ds O => ∃ r sa d xs, ds = [.raw (.ref r), d] ∧ F.row = some (r, sa) ∧ d.seq = some xs ∧ 0 < xs.length ∧ xs.length < 1000000 ∧ ∀ x ∈ xs, O (.ret x)
/-! ### alike -/
def D.alk : Nat → D → Bool
  | _, .non => true
  | _, .bl _ => true
  | _, .int _ => true
  | _, .str s => PyData.strOk s
  | n + 1, .lst xs => decide (xs.length ≤ 100000) && xs.all (D.alk n)
  | n + 1, .tup xs => decide (xs.length ≤ 100000) && xs.all (D.alk n)
  | _, _ => false
theorem alk_fit : ∀ (n : Nat) (d : D), d.alk n = true → d.fit n = true := by
  intro n
  induction n with
  | zero => intro d h; cases d <;> first | exact h | (simp [D.alk] at h)
  | succ n ih =>
    intro d h
    cases d with
    | lst xs =>
      simp only [D.alk, Bool.and_eq_true, List.all_eq_true] at h
      rw [fit_lst, List.all_eq_true]
      exact fun x hx => ih x (h.2 x hx)
    | tup xs =>
      simp only [D.alk, Bool.and_eq_true, List.all_eq_true] at h
      rw [fit_tup, List.all_eq_true]
      exact fun x hx => ih x (h.2 x hx)
    | _ => first | exact h | (simp [D.alk] at h)
theorem alk_seq {n : Nat} {d : D} {xs : List D} (h : d.alk n = true) (hs : d.seq = some xs) : xs.length ≤ 100000 ∧ ∃ m, n = m + 1 ∧ ∀ x ∈ xs, x.alk m = true := by
  cases d <;> cases hs <;> cases n <;> simp [D.alk] at h <;> exact ⟨h.1, _, rfl, h.2⟩
theorem alk_ty {n : Nat} {d : D} (h : d.alk n = true) : d.ty.isSome = true := by
  cases d <;> first | rfl | (cases n <;> cases h)
theorem alk_int {n : Nat} {i : Int} : (D.int i).alk n = true := by cases n <;> rfl
theorem alk_bl {n : Nat} {i : Bool} : (D.bl i).alk n = true := by cases n <;> rfl
theorem alk_ints {n : Nat} (ns : List Int) (h : ns.length ≤ 100000) : (D.lst (ns.map D.int)).alk (n + 1) = true := by simp [D.alk, alk_int, h]
theorem alk_tints {n : Nat} (ns : List Int) (h : ns.length ≤ 100000) : (D.tup (ns.map D.int)).alk (n + 1) = true := by simp [D.alk, alk_int, h]
def spAlike : Nat → DSp
  | 0 => fun _ _ _ => False
  | n + 1 => fun _ ds O => ∃ d, ds = [d, d] ∧ d.alk n = true ∧ O (.ret (.bl true))
def sp__law_alike : DSp := spAlike 7
end Sd
end
-- SdRail
section
set_option Elab.async false
set_option linter.all false
set_option maxRecDepth 100000
set_option maxHeartbeats 4000000
set_option autoImplicit false
namespace Sd
open PySem PySem.Spec PyProof.Rows L2

/-! ### requests -/
/-- a request: first, end, fare, many -/
structure Rq where
  a : Int
  b : Int
  f : Int
  m : Int
def Rq.d (r : Rq) : D := .tup [.int r.a, .int r.b, .int r.f, .int r.m]
structure Rq.Ok (n : Nat) (r : Rq) : Prop where
  a0 : 0 ≤ r.a
  ab : r.a < r.b
  bn : r.b ≤ n
  f1 : 1 ≤ r.f
  f2 : r.f ≤ 1000
  m1 : 1 ≤ r.m
  m2 : r.m ≤ 20
def isReq (n : Nat) : D → Bool
  | .tup [a, .int j, c, m] => isWithin (.int j) 1 n && (isWithin a 0 (j - 1) && (isWithin c 1 1000 && isWithin m 1 20))
  | _ => false
theorem isReq_of {n : Nat} {d : D} (h : isReq n d = true) : ∃ r : Rq, d = r.d ∧ r.Ok n := by
  unfold isReq at h
  split at h
  · rename_i a j c m
    simp only [Bool.and_eq_true] at h
    obtain ⟨h1, h2, h3, h4⟩ := h
    obtain ⟨i1, e1, l1, u1⟩ := isWithin_int h1
    obtain ⟨i2, e2, l2, u2⟩ := isWithin_int h2
    obtain ⟨i3, e3, l3, u3⟩ := isWithin_int h3
    obtain ⟨i4, e4, l4, u4⟩ := isWithin_int h4
    cases e1
    subst e2 e3 e4
    exact ⟨⟨i2, j, i3, i4⟩, rfl, l2, by show i2 < j; omega, u1, l3, u3, l4, u4⟩
  · cases h
theorem isReq_d {n : Nat} {r : Rq} (h : r.Ok n) : isReq n r.d = true := by
  obtain ⟨h1, h2, h3, h4, h5, h6, h7⟩ := h
  simp [isReq, Rq.d, isWithin]
  omega
theorem rq_okv (r : Rq) : r.d.okv = true := rfl
/-- the first place that is wrong, -1 for no row -/
def badReqs (n : Nat) (d : D) : Option Int := match d.seq with
  | none => some (-1)
  | some xs => if 12 < xs.length then some (-1) else Option.map Int.ofNat (xs.findIdx? fun x => !isReq n x)
theorem findIdx_at {α : Type} {p : α → Bool} : ∀ {xs : List α} {i : Nat} {x : α}, (xs.take i).all p = true → xs[i]? = some x → p x = false → (xs.findIdx? fun x => !p x) = some i
  | [], i, x, _, h, _ => by simp at h
  | a :: xs, 0, x, _, h, hp => by
    simp at h
    subst h
    simp [List.findIdx?_cons, hp]
  | a :: xs, i + 1, x, ha, h, hp => by
    simp only [List.take_succ_cons, List.all_cons, Bool.and_eq_true] at ha
    have ih := findIdx_at (xs := xs) (i := i) (x := x) ha.2 (by simpa using h) hp
    simp [List.findIdx?_cons, ha.1, ih]
theorem findIdx_none {α : Type} {p : α → Bool} {xs : List α} (h : xs.all p = true) : (xs.findIdx? fun x => !p x) = none := by
  rw [List.findIdx?_eq_none_iff]
  intro x hx
  rw [List.all_eq_true.mp h x hx]
  rfl
theorem all_take {α : Type} {p : α → Bool} {xs : List α} {i : Nat} {x : α} (h : (xs.take i).all p = true) (hx : xs[i]? = some x) (hp : p x = true) : (xs.take (i + 1)).all p = true := by
  rw [take_snoc hx, List.all_append, h]
  simp [hp]
theorem reqs_of {n : Nat} : ∀ {xs : List D}, xs.all (isReq n) = true → ∃ rs : List Rq, xs = rs.map Rq.d ∧ ∀ r ∈ rs, r.Ok n
  | [], _ => ⟨[], rfl, by simp⟩
  | x :: xs, h => by
    simp only [List.all_cons, Bool.and_eq_true] at h
    obtain ⟨r, rfl, hr⟩ := isReq_of h.1
    obtain ⟨rs, rfl, hrs⟩ := reqs_of h.2
    exact ⟨r :: rs, rfl, fun s hs => by
      rcases List.mem_cons.mp hs with rfl | hs
      · exact hr
      · exact hrs s hs⟩
theorem good_reqs {n : Nat} {d : D} (h : badReqs n d = none) : ∃ rs : List Rq, d.seq = some (rs.map Rq.d) ∧ (∀ r ∈ rs, r.Ok n) ∧ rs.length ≤ 12 := by
  unfold badReqs at h
  split at h
  · cases h
  · rename_i xs hs
    split at h
    · cases h
    · rename_i hl
      rw [Option.map_eq_none_iff, List.findIdx?_eq_none_iff] at h
      obtain ⟨rs, rfl, hr⟩ := reqs_of (n := n) (xs := xs) (List.all_eq_true.mpr fun x hx => by simpa using h x hx)
      exact ⟨rs, hs, hr, by simpa using hl⟩
theorem badReqs_good {n : Nat} {d : D} {rs : List Rq} (h : d.seq = some (rs.map Rq.d)) (ok : ∀ r ∈ rs, r.Ok n) (hl : rs.length ≤ 12) : badReqs n d = none := by
  unfold badReqs
  rw [h]
  show (if 12 < (rs.map Rq.d).length then some (-1) else Option.map Int.ofNat ((rs.map Rq.d).findIdx? fun x => !isReq n x)) = none
  rw [if_neg (by rw [List.length_map]; omega), findIdx_none]
  · rfl
  · rw [List.all_eq_true]
    intro x hx
    obtain ⟨r, hr, rfl⟩ := List.mem_map.mp hx
    exact isReq_d (ok r hr)
def sp_is_request : DSp := fun _ ds O => ∃ seats d, ds = [.ln seats, d] ∧ d.okv = true ∧ O (.ret (.bl (isReq seats.length d)))
def sp_check_requests : DSp := fun _ ds O => ∃ seats d, ds = [.ln seats, d] ∧ d.okv = true ∧ (∀ i, badReqs seats.length d = some i → O (.exc "BadRequests" (.int i))) ∧ (badReqs seats.length d = none → O (.ret .non))

/-! ### tables of ints -/
def tab (n : Nat) (f : Nat → Int) : List D := (List.range n).map fun l => .int (f l)
theorem tab_length (n : Nat) (f : Nat → Int) : (tab n f).length = n := by simp [tab]
theorem tab_at {n : Nat} {f : Nat → Int} {i : Nat} (h : i < n) : (tab n f)[i]? = some (.int (f i)) := by simp [tab, h]
theorem tab_set {n : Nat} {f : Nat → Int} {i : Nat} {v : Int} : (tab n f).set i (.int v) = tab n fun l => if l = i then v else f l := by
  apply List.ext_getElem?
  intro k
  rw [List.getElem?_set]
  by_cases h : i = k
  · subst h
    rw [tab_length]
    by_cases hk : i < n
    · simp [tab, hk]
    · simp [tab, hk]
  · rw [if_neg h]
    have h' : ¬ k = i := fun z => h z.symm
    by_cases hk : k < n
    · simp [tab, h', hk]
    · simp [tab, hk]
theorem tab_ext {n : Nat} {f g : Nat → Int} (h : ∀ i, i < n → f i = g i) : tab n f = tab n g := by
  unfold tab
  exact List.map_congr_left fun i hi => by rw [h i (List.mem_range.mp hi)]
theorem tab_map (n : Nat) (f : Nat → Int) : tab n f = ((List.range n).map f).map D.int := by simp [tab]

/-! ### loads, takings -/
def loadAt : List Rq → List Int → Nat → Int
  | r :: rs, m :: ms, l => (if r.a ≤ (l : Int) ∧ (l : Int) < r.b then m else 0) + loadAt rs ms l
  | _, _, _ => 0
def loadsM (n : Nat) (rs : List Rq) (ms : List Int) : List Int := (List.range n).map (loadAt rs ms)
theorem loadAt_snoc (l : Nat) : ∀ {rs : List Rq} {ms : List Int} {r : Rq} {m : Int}, rs.length = ms.length → loadAt (rs ++ [r]) (ms ++ [m]) l = loadAt rs ms l + if r.a ≤ (l : Int) ∧ (l : Int) < r.b then m else 0
  | [], [], r, m, _ => by simp [loadAt]
  | _ :: _, [], r, m, h => by simp at h
  | [], _ :: _, r, m, h => by simp at h
  | a :: rs, b :: ms, r, m, h => by
    have ih := loadAt_snoc l (rs := rs) (ms := ms) (r := r) (m := m) (by simpa using h)
    simp only [List.cons_append, loadAt, ih]
    omega
def takeM : List Rq → List Int → Int
  | r :: rs, m :: ms => r.f * m + takeM rs ms
  | _, _ => 0
theorem takeM_snoc : ∀ {rs : List Rq} {ms : List Int} {r : Rq} {m : Int}, rs.length = ms.length → takeM (rs ++ [r]) (ms ++ [m]) = takeM rs ms + r.f * m
  | [], [], r, m, _ => by simp [takeM]
  | _ :: _, [], r, m, h => by simp at h
  | [], _ :: _, r, m, h => by simp at h
  | a :: rs, b :: ms, r, m, h => by
    have ih := takeM_snoc (rs := rs) (ms := ms) (r := r) (m := m) (by simpa using h)
    simp only [List.cons_append, takeM, ih]
    omega
/-- the seats of a line -/
def SeatsOk (seats : List Int) : Prop := ∀ s ∈ seats, 0 ≤ s ∧ s ≤ 1000
def sp_told_loads : DSp := fun _ ds O => ∃ (d1 d2 d3 : D) (sd : List D) (rs : List Rq) (ms : List Int), ds = [d1, d2, d3] ∧ d1.seq = some sd ∧ sd.length ≤ 1000 ∧ d2.seq = some (rs.map Rq.d) ∧ d3.seq = some (ms.map D.int) ∧ (∀ r ∈ rs, r.Ok sd.length) ∧
  rs.length ≤ 1000 ∧ rs.length = ms.length ∧ O (.ret (.lst ((loadsM sd.length rs ms).map D.int)))
def toInt : D → Int
  | .int i => i
  | _ => 0
def manyOk : List D → List Rq → Bool
  | x :: xs, r :: rs => isWithin x 0 r.m && manyOk xs rs
  | _, _ => true
def fitsM : List Int → List Int → Bool
  | l :: ls, s :: ss => decide (l ≤ s) && fitsM ls ss
  | _, _ => true
theorem fitsM_iff : ∀ {ls ss : List Int}, ls.length = ss.length → (fitsM ls ss = true ↔ ∀ (i : Nat) (x : Int), ls[i]? = some x → x ≤ ss.getD i 0)
  | [], [], _ => by simp [fitsM]
  | [], _ :: _, h => by simp at h
  | _ :: _, [], h => by simp at h
  | l :: ls, s :: ss, h => by
    have ih := fitsM_iff (ls := ls) (ss := ss) (by simpa using h)
    simp only [fitsM, Bool.and_eq_true, decide_eq_true_eq, ih]
    constructor
    · intro ⟨h1, h2⟩ i x hx
      cases i with
      | zero =>
        simp at hx
        subst hx
        simpa using h1
      | succ i => simpa using h2 i x (by simpa using hx)
    · intro k
      exact ⟨by simpa using k 0 l (by simp), fun i x hx => by simpa using k (i + 1) x (by simpa using hx)⟩
theorem fits_filter {β : Type} (f : Int × Nat → β) {ls ss : List Int} (h : ls.length = ss.length) : ((ls.zipIdx.filter fun p => decide (p.1 > ss.getD p.2 0)).map f).isEmpty = fitsM ls ss := by
  rw [Bool.eq_iff_iff, fitsM_iff h, List.isEmpty_iff, List.map_eq_nil_iff, List.filter_eq_nil_iff]
  constructor
  · intro k i x hx
    have := k (x, i) (by rw [List.mem_zipIdx_iff_getElem?]; exact hx)
    simp only [decide_eq_true_eq] at this
    omega
  · intro k p hp
    obtain ⟨x, i⟩ := p
    rw [List.mem_zipIdx_iff_getElem?] at hp
    have := k i x hp
    simp only [decide_eq_true_eq]
    omega
def isSaleM (seats : List Int) (rs : List Rq) (t : D) : Bool := match t.seq with
  | none => false
  | some xs => decide (xs.length = rs.length) && (manyOk xs rs && fitsM (loadsM seats.length rs (xs.map toInt)) seats)
def sp_is_told_sale : DSp := fun _ ds O => ∃ (seats : List Int) (d2 t : D) (rs : List Rq), ds = [.ln (seats.map D.int), d2, t] ∧ seats.length ≤ 1000 ∧ d2.seq = some (rs.map Rq.d) ∧ (∀ r ∈ rs, r.Ok seats.length) ∧ rs.length ≤ 1000 ∧ t.okv = true ∧ O (.ret (.bl (isSaleM seats rs t)))
/-- what a function of a line, requests and more gives where the requests are good -/
def withReqs (n : Nat) (d : D) (O : Out → Prop) (k : List Rq → Prop) : Prop := (∀ i, badReqs n d = some i → O (.exc "BadRequests" (.int i))) ∧ ∀ rs : List Rq, d.seq = some (rs.map Rq.d) → (∀ r ∈ rs, r.Ok n) → rs.length ≤ 12 → k rs
def sp_is_sale : DSp := fun _ ds O => ∃ (seats : List Int) (d2 t : D), ds = [.ln (seats.map D.int), d2, t] ∧ seats.length ≤ 1000 ∧ d2.okv = true ∧ t.okv = true ∧ withReqs seats.length d2 O fun rs => O (.ret (.bl (isSaleM seats rs t)))
def sp_check_sale : DSp := fun _ ds O => ∃ (seats : List Int) (d2 t : D), ds = [.ln (seats.map D.int), d2, t] ∧ seats.length ≤ 1000 ∧ d2.okv = true ∧ t.okv = true ∧
  withReqs seats.length d2 O fun rs => (isSaleM seats rs t = true → O (.ret .non)) ∧ (isSaleM seats rs t = false → O (.exc "BadSale" t))
def sp_told_takings : DSp := fun _ ds O => ∃ (d2 d3 : D) (rs : List Rq) (ms : List Int) (n : Nat), ds = [d2, d3] ∧ d2.seq = some (rs.map Rq.d) ∧ d3.seq = some (ms.map D.int) ∧ (∀ r ∈ rs, r.Ok n) ∧ rs.length ≤ 1000 ∧ O (.ret (.int (takeM rs ms)))
def sp_loads : DSp := fun _ ds O => ∃ (seats : List Int) (d2 t : D), ds = [.ln (seats.map D.int), d2, t] ∧ seats.length ≤ 1000 ∧ d2.okv = true ∧ t.okv = true ∧
  withReqs seats.length d2 O fun rs => (∀ ms : List Int, t.seq = some (ms.map D.int) → isSaleM seats rs t = true → O (.ret (.lst ((loadsM seats.length rs ms).map D.int)))) ∧ (isSaleM seats rs t = false → O (.exc "BadSale" t))
def sp_takings : DSp := fun _ ds O => ∃ (seats : List Int) (d2 t : D), ds = [.ln (seats.map D.int), d2, t] ∧ seats.length ≤ 1000 ∧ d2.okv = true ∧ t.okv = true ∧
  withReqs seats.length d2 O fun rs => (∀ ms : List Int, t.seq = some (ms.map D.int) → isSaleM seats rs t = true → O (.ret (.int (takeM rs ms)))) ∧ (isSaleM seats rs t = false → O (.exc "BadSale" t))
theorem manyOk_ints : ∀ {xs : List D} {rs : List Rq}, xs.length = rs.length → manyOk xs rs = true → xs = (xs.map toInt).map D.int
  | [], _, _, _ => rfl
  | x :: xs, [], h, _ => by simp at h
  | x :: xs, r :: rs, h, hm => by
    simp only [manyOk, Bool.and_eq_true] at hm
    obtain ⟨i, rfl, _⟩ := isWithin_int hm.1
    have ih := manyOk_ints (xs := xs) (rs := rs) (by simpa using h) hm.2
    simp only [List.map_cons]
    rw [← ih]
    rfl
theorem sale_ints {seats : List Int} {rs : List Rq} {t : D} (h : isSaleM seats rs t = true) : ∃ ms : List Int, t.seq = some (ms.map D.int) ∧ ms.length = rs.length := by
  unfold isSaleM at h
  split at h
  · cases h
  · rename_i xs hx
    simp only [Bool.and_eq_true, decide_eq_true_eq] at h
    exact ⟨xs.map toInt, by rw [hx, ← manyOk_ints h.1 h.2.1], by simpa using h.1⟩

/-! ### prices -/
def priceOk : D → Bool
  | .int i => decide (0 ≤ i)
  | _ => false
def pricesOk (n : Nat) : D → Bool
  | .tup xs => decide (xs.length = n) && xs.all priceOk
  | _ => false
theorem prices_of {n : Nat} {d : D} (h : pricesOk n d = true) : ∃ ps : List Int, d = .tup (ps.map D.int) ∧ ps.length = n ∧ ∀ p ∈ ps, 0 ≤ p := by
  unfold pricesOk at h
  split at h
  · rename_i xs
    simp only [Bool.and_eq_true, decide_eq_true_eq] at h
    obtain ⟨h1, h2⟩ := h
    have key : ∀ {ys : List D}, ys.all priceOk = true → ∃ ps : List Int, ys = ps.map D.int ∧ ∀ p ∈ ps, 0 ≤ p := by
      intro ys
      induction ys with
      | nil => exact fun _ => ⟨[], rfl, by simp⟩
      | cons y ys ih =>
        intro hy
        simp only [List.all_cons, Bool.and_eq_true] at hy
        obtain ⟨ps, rfl, hp⟩ := ih hy.2
        cases y <;> first | (have z := hy.1; cases z; done) | skip
        rename_i i
        exact ⟨i :: ps, rfl, fun p hpm => by
          rcases List.mem_cons.mp hpm with rfl | hpm
          · simpa [priceOk] using hy.1
          · exact hp p hpm⟩
    obtain ⟨ps, rfl, hp⟩ := key h2
    exact ⟨ps, rfl, by simpa using h1, hp⟩
  · cases h
def dotM : List Int → List Int → Int
  | s :: ss, p :: ps => s * p + dotM ss ps
  | _, _ => 0
theorem dotM_snoc : ∀ {rs ms : List Int} {r m : Int}, rs.length = ms.length → dotM (rs ++ [r]) (ms ++ [m]) = dotM rs ms + r * m
  | [], [], r, m, _ => by simp [dotM]
  | _ :: _, [], r, m, h => by simp at h
  | [], _ :: _, r, m, h => by simp at h
  | a :: rs, b :: ms, r, m, h => by
    have ih := dotM_snoc (rs := rs) (ms := ms) (r := r) (m := m) (by simpa using h)
    simp only [List.cons_append, dotM, ih]
    omega
/-- the sum of the prices of a request's legs -/
def spanM (ps : List Int) (r : Rq) : Int := (cut ps (some r.a) (some r.b)).sum
def worthM (seats : List Int) (rs : List Rq) (ps : List Int) : Int := dotM seats ps + (rs.map fun r => r.m * max 0 (r.f - spanM ps r)).sum
def sp_check_prices : DSp := fun _ ds O => ∃ seats d, ds = [.ln seats, d] ∧ seats.length ≤ 1000 ∧ d.okv = true ∧ (pricesOk seats.length d = true → O (.ret .non)) ∧ (pricesOk seats.length d = false → O (.exc "BadPrices" d))
def sp_told_worth : DSp := fun _ ds O => ∃ (seats : List Int) (d2 : D) (rs : List Rq) (ps : List Int), ds = [.ln (seats.map D.int), d2, .tup (ps.map D.int)] ∧ SeatsOk seats ∧ seats.length ≤ 1000 ∧ d2.seq = some (rs.map Rq.d) ∧ (∀ r ∈ rs, r.Ok seats.length) ∧ rs.length ≤ 1000 ∧ ps.length = seats.length ∧ O (.ret (.int (worthM seats rs ps)))
def sp_worth : DSp := fun _ ds O => ∃ (seats : List Int) (d2 d : D), ds = [.ln (seats.map D.int), d2, d] ∧ SeatsOk seats ∧ seats.length ≤ 1000 ∧ d2.okv = true ∧ d.okv = true ∧
  withReqs seats.length d2 O fun rs => (∀ ps : List Int, d = .tup (ps.map D.int) → pricesOk seats.length d = true → O (.ret (.int (worthM seats rs ps)))) ∧ (pricesOk seats.length d = false → O (.exc "BadPrices" d))
def sp_shows : DSp := fun _ ds O => ∃ (seats : List Int) (d2 t d : D), ds = [.ln (seats.map D.int), d2, t, d] ∧ SeatsOk seats ∧ seats.length ≤ 1000 ∧ d2.okv = true ∧ t.okv = true ∧ d.okv = true ∧
  withReqs seats.length d2 O fun rs => (isSaleM seats rs t = false → O (.exc "BadSale" t)) ∧ (isSaleM seats rs t = true → (pricesOk seats.length d = false → O (.exc "BadPrices" d)) ∧
    ∀ (ms ps : List Int), t.seq = some (ms.map D.int) → d = .tup (ps.map D.int) → pricesOk seats.length d = true → O (.ret (.bl (decide (takeM rs ms = worthM seats rs ps)))))
/-! ### the law's helpers -/
def sp__law_line : DSp := fun F ds O => ∃ r sa, ds = [.raw (.ref r)] ∧ F.row = some (r, sa) ∧ ∀ ss : List Int, 1 ≤ ss.length → ss.length ≤ 10 → (∀ s ∈ ss, 0 ≤ s ∧ s ≤ 20) → O (.ret (.tup (ss.map D.int)))
def sp__law_asks : DSp := fun F ds O => ∃ (r sa : Addr) (d : D) (sd : List D) (most : Int), ds = [.raw (.ref r), d, .int most, .int 20] ∧ F.row = some (r, sa) ∧ d.seq = some sd ∧ 1 ≤ sd.length ∧ sd.length ≤ 10 ∧ 0 < most ∧ most ≤ 1000 ∧
  ∀ rs : List Rq, (rs.length : Int) < most → (∀ r ∈ rs, r.Ok sd.length) → O (.ret (.lst (rs.map Rq.d)))
def sp__law_loads : DSp := fun _ ds O => ∃ (d1 d2 d3 : D) (sd : List D) (rs : List Rq) (ms : List Int), ds = [d1, d2, d3] ∧ d1.seq = some sd ∧ sd.length ≤ 1000 ∧ d2.seq = some (rs.map Rq.d) ∧ d3.seq = some (ms.map D.int) ∧ rs.length ≤ 1000 ∧ rs.length = ms.length ∧ O (.ret (.lst ((loadsM sd.length rs ms).map D.int)))
def sp__law_fits : DSp := fun _ ds O => ∃ (d1 d2 d3 : D) (ss : List Int) (rs : List Rq) (ms : List Int), ds = [d1, d2, d3] ∧ d1.seq = some (ss.map D.int) ∧ ss.length ≤ 1000 ∧ d2.seq = some (rs.map Rq.d) ∧ d3.seq = some (ms.map D.int) ∧ rs.length ≤ 1000 ∧ rs.length = ms.length ∧ O (.ret (.bl (fitsM (loadsM ss.length rs ms) ss)))
def sp__law_takes : DSp := fun _ ds O => ∃ (d2 d3 : D) (rs : List Rq) (ms : List Int) (n : Nat), ds = [d2, d3] ∧ d2.seq = some (rs.map Rq.d) ∧ d3.seq = some (ms.map D.int) ∧ (∀ r ∈ rs, r.Ok n) ∧ rs.length ≤ 1000 ∧ rs.length = ms.length ∧ O (.ret (.int (takeM rs ms)))
def sp__law_worth : DSp := fun _ ds O => ∃ (d1 d2 : D) (seats : List Int) (rs : List Rq) (ps : List Int), ds = [d1, d2, .tup (ps.map D.int)] ∧ d1.seq = some (seats.map D.int) ∧ SeatsOk seats ∧ seats.length ≤ 1000 ∧ d2.seq = some (rs.map Rq.d) ∧ (∀ r ∈ rs, r.Ok seats.length) ∧ rs.length ≤ 1000 ∧ ps.length = seats.length ∧ O (.ret (.int (worthM seats rs ps)))
end Sd
end
-- SdLine
section
set_option Elab.async false
set_option linter.all false
set_option maxRecDepth 100000
set_option maxHeartbeats 4000000
set_option autoImplicit false
namespace Sd
open PySem PySem.Spec PyProof.Rows L2
open Evl (Ex)

/-! ### Line(seats) -/
def badSeats (d : D) : Option Int := match d.seq with
  | none => some (-1)
  | some xs => if xs.length = 0 ∨ 10 < xs.length then some (-1) else Option.map Int.ofNat (xs.findIdx? fun x => !isWithin x 0 20)
def sp_Line : DSp := fun _ ds O => ∃ d, ds = [d] ∧ d.okv = true ∧ (∀ i, badSeats d = some i → O (.exc "BadSeats" (.int i))) ∧ (badSeats d = none → ∀ xs, d.seq = some xs → O (.ret (.ln xs)))
/-- Line.__init__: what stands at x is the new line -/
def spInit (K : PySem.W.Frag) : Sp := fun vs H Q E => ∃ (F : Fs) (B : Hp) (x dx : Addr) (v : V) (d : D) (O : Out → Prop), vs = [.ref x, v] ∧ Ex B H ∧ Fok K F B H ∧ B x = none ∧ H x = some (.ins (He.ga K "Line") dx []) ∧ ¬ F.S x ∧ Rp K B v d ∧ sp_Line F [d] O ∧
  (∀ B' H' t ws es, Fm K F B H B' H' → O (.ret (.ln es)) → SqT K B' t ws → RpA K B' ws es → Q .non (upd H' x (.ins (He.ga K "Line") dx [(("seats" : Str), .ref t)]))) ∧
  (∀ n d dd v B' H', O (.exc n d) → Fm K F B H B' H' → B' dd = some (.xd [(("value" : Str), v)]) → Rp K B' v d → E (.ref (He.ga K n)) (some dd) H')
structure Ln (P : Program) (w : World) (K : PySem.W.Frag) (mg : Str → Option Value) (base : Heap) (k : Nat) : Prop where
  g : mg "Line" = some (.ref (He.ga K "Line"))
  ex : ∃ (f : Addr) (fd : FuncData), Mk K (He.ga K "Line") f ∧ FnOk P w K mg base (L2.CX P w) k f fd ["self", "seats"] (spInit K) ∧ Binds K fd ["self", "seats"] []
section
variable {X : Cx} {G : Gx} {k j : Nat} {e : Expr} {es : List Expr} {da : DA} {p pos : Pos} {Xc : Str → D → Prop} {E : XK}
theorem pd_line (c : Ln X.prog X.w X.K X.mg X.base k) (hr : Room j X.A) (hk : k + 1 ≤ j) (hE : DlvX X.K G Xc E) (hx : Passes (L2.CX X.prog X.w) X E) (ha : PAd X G (e :: es) da) (hg : Gl X "Line" := by rfl)
    (he : starEach (e :: es) X.env = (false, eval e X.env) :: starEach es X.env := by rfl) (hpl : (backTo pos (starEach es X.env)).any (·.1) = false := by rfl) : PEd X G (.Call (.Name "Line" p) (e :: es) [] pos) (deCall sp_Line G.F Xc [] da) := by
  obtain ⟨f, fd, M, F, hb⟩ := c.ex
  refine PE.imp (pe_make M F (hr.mono hk) hg c.g hb .nil hx ha (by decide) he hpl) fun σ H Q ⟨B, δ, P, s, h, q⟩ => ⟨B, δ, _, s, h, fun vs ds B1 H1 m1 p1 r1 x dx hx0 hdx hne => ?_⟩
  rw [List.append_nil] at p1
  obtain ⟨d, rfl, hv, o1, o2⟩ := p1
  cases r1 with
  | cons rv rn =>
  cases rn
  rename_i v
  have mA := Fm.newH (o := .own x) m1.e m1.f hdx
  have hx1 : upd H1 dx (.own x) x = none := by
    rw [upd_ne (fun z => hne z.symm)]
    exact hx0
  have mB := Fm.newH (o := .ins (He.ga X.K "Line") dx []) mA.e mA.f hx1
  have m2 := mA.trans mB
  have bx : B1 x = none := Evl.fresh_back m1.e hx0
  have bdx : B1 dx = none := Evl.fresh_back m1.e hdx
  have nsx : ¬ G.F.S x := fun z => (m1.f.there z).2 hx0
  have nsd : ¬ G.F.S dx := fun z => (m1.f.there z).2 hdx
  refine ⟨G.F, B1, x, dx, v, d, (fun o => match o with
    | .ret d => P d
    | .exc n d => Xc n d), rfl, m2.e, m2.f, bx, upd_same, nsx, rv, ⟨d, rfl, hv, o1, o2⟩, fun B' H' t ws zs m o ht ra => ⟨rfl, ?_⟩, fun n d dd v B' H' o m h1 r => hE n d dd v B' H' o (s.fm.trans (m1.trans (m2.trans m))) h1 r⟩
  obtain ⟨bx', hx'⟩ := m.o x bx (.of upd_same)
  have hx' := (hx' nsx).trans upd_same
  obtain ⟨bd', hd'⟩ := m.o dx bdx (.of (by rw [upd_ne hne, upd_same]))
  have hd' := (hd' nsd).trans (by rw [upd_ne hne, upd_same])
  have eb : Ex B' (upd (upd B' dx (.own x)) x (.ins (He.ga X.K "Line") dx [(("seats" : Str), .ref t)])) := (Evl.Ex.new bd').trans (Evl.Ex.new (by rw [upd_ne (fun z => hne z.symm)]; exact bx'))
  have mf : Fm X.K G.F B1 H1 (upd (upd B' dx (.own x)) x (.ins (He.ga X.K "Line") dx [(("seats" : Str), .ref t)])) (upd H' x (.ins (He.ga X.K "Line") dx [(("seats" : Str), .ref t)])) := by
    refine ⟨m.b.trans eb, fun a u h => ?_, fun a h1 h2 => ?_, ?_⟩
    · by_cases ha : a = x
      · rw [ha, upd_same] at h ⊢
        exact h
      · rw [upd_ne ha] at h ⊢
        by_cases hb : a = dx
        · rw [hb, upd_same] at h
          rw [hb, hd']
          exact h
        · rw [upd_ne hb] at h
          exact m.e _ _ h
    · have n1 : a ≠ x := h2.ne hx0
      have n2 : a ≠ dx := h2.ne hdx
      have e1 : upd (upd H1 dx (.own x)) x (.ins (He.ga X.K "Line") dx []) a = H1 a := by rw [upd_ne n1, upd_ne n2]
      obtain ⟨h3, h4⟩ := m.o a h1 (h2.eq e1)
      refine ⟨by rw [upd_ne n1, upd_ne n2]; exact h3, fun hs => ?_⟩
      rw [upd_ne n1, h4 hs, e1]
    · have hne' : ∀ a, G.F.S a → a ≠ x := fun a hs z => nsx (by rw [← z]; exact hs)
      have hne2 : ∀ a, G.F.S a → a ≠ dx := fun a hs z => nsd (by rw [← z]; exact hs)
      refine ⟨fun r sa hrow => ?_, fun p hp => ?_, fun p hp => ?_, nt_upd (nt_upd m.f.nt (fun _ z => by cases z)) (fun _ z => by cases z)⟩
      · obtain ⟨h1, ⟨ns, h2⟩, i, s', c', h3, h4⟩ := m.f.row r sa hrow
        have hs : G.F.S r := .inl ⟨sa, hrow⟩
        refine ⟨by rw [upd_ne (hne' r hs), upd_ne (hne2 r hs)]; exact h1, ⟨ns, exL eb h2⟩, i, s', c', by rw [upd_ne (hne' r hs)]; exact h3, h4⟩
      · obtain ⟨ps, t1, t2, t3⟩ := m.f.tab p hp
        have hs : G.F.S p.1 := .inr ⟨p.2, hp⟩
        refine ⟨ps, by rw [upd_ne (hne' _ hs)]; exact t1, t2, fun pos cv hc => ?_⟩
        obtain ⟨c0, e1, e2⟩ := t3 pos cv hc
        refine ⟨c0, e1, ?_⟩
        rw [upd_ne fun z => ?_]
        · exact e2
        · rw [z, hx'] at e2
          cases e2
      · have hs : G.F.S p.1 := .inr ⟨p.2, hp⟩
        rw [upd_ne (hne' _ hs), upd_ne (hne2 _ hs)]
        exact m.f.tb p hp
  refine q _ (.ln zs) _ _ (m1.trans mf) o (.ln (t := t) upd_same ?_ rfl (exT eb ht) (ra.mono eb))
  rw [upd_ne hne, upd_same]
end
end Sd
end
-- SdTry
section
set_option Elab.async false
set_option linter.all false
set_option maxRecDepth 100000
set_option maxHeartbeats 4000000
set_option autoImplicit false
/-! several clauses 'except x as n: suite' -/
namespace Sd
open PySem PySem.Spec PyProof.Rows L2
/-- an exception of the class cls with its dict d lies on the ground in the frame that looks for a clause -/
structure Fell (X : Cx) (pins : List (Addr × Obj)) (σ : L2.St) (H : Hp) (a : Addr) (cls : Value) (d : Option Addr) (B : Heap) (s0 s : Shared) : Prop where
  inv : Inv X pins σ H s0
  gr : ∀ b o, s0.heap.get? b = some o → b ∉ frs X.stack → B.get? b = some o
  up : s0.heap.UpToSlots s.heap
  fly : HandSPX.FlyingZ B (X.env :: X.outer) a (Zc cls d) s.heap
  na : H a = none
  os : s.os = s0.os
  ag : AllBare s.gens
section
variable {X : Cx} {pins : List (Addr × Obj)} {σ : L2.St} {H : Hp} {a : Addr} {cls c : Value} {d : Option Addr} {B : Heap} {s0 s : Shared} {hds : List ExceptHandler} {D : Ends} {x n : Str} {i : Nat} {np pos' pos : Pos} {b0 : Stmt} {suite body : List Stmt}
theorem Fell.here (F : Fell X pins σ H a cls d B s0 s) : Inv X pins σ H s := F.inv.landed F.gr F.fly.1 F.up F.os F.ag
theorem Fell.apart (F : Fell X pins σ H a cls d B s0 s) (hf : X.env.frame = some X.env.locals) : a ≠ X.env.locals ∧ a ∉ X.fs := by
  obtain ⟨oe, ws, e1, _, e3⟩ := F.fly.there
  have far : a ∉ frs (X.env :: X.outer) := fun z => by
    obtain ⟨_, o2, e4, k⟩ := F.fly.2.2.1.mem z
    rw [e1] at e4
    cases e4
    exact k _ e3
  constructor
  · intro z
    exact far (List.mem_filterMap.mpr ⟨X.env, List.mem_cons_self, by rw [hf, z]⟩)
  · intro z
    obtain ⟨e, h1, h2⟩ := List.mem_filterMap.mp z
    exact far (List.mem_filterMap.mpr ⟨e, List.mem_cons_of_mem _ h1, h2⟩)
/-- no clause is left: it flies on -/
theorem left_none (hs : X.stack = X.env :: X.outer) (hf : X.env.frame = some X.env.locals) {W : WX} (tk : Takes X W) (F : Fell X pins σ H a cls d B s0 s) (w : W cls d σ H) :
    wpAny (model X.prog X.w) X.A (handleBy (.ref a) X.env []) (SP X pins D) X.xe s := by
  obtain ⟨_, _, _, oe, ws, T, _, _, g1, _, g3, g4, _⟩ := id F.fly
  have goes : wpAny (model X.prog X.w) X.A (setFlight (.ref a) X.env.frame) (fun _ s2 => wpAny (model X.prog X.w) X.A (throw (.ref a) : Sem Flow) (SP X pins D) X.xe s2) X.xe s := by
    rw [hf]
    refine HandSPX.setFlight_upZ F.fly fun h2 held u2 => wpAny_throw (tk _ _ ⟨a, B, s0, pins, σ, H, cls, d, rfl, F.inv, F.gr, F.up.trans u2, .inr (.inr ?_), F.na, F.os, F.ag, w⟩)
    rw [hs]
    exact held
  refine wpAny_handleBy_nil ?_
  unfold PySem.passOn
  refine wpAny_bind (wpAny_field g1 g3 g4 ?_)
  rw [if_neg (show ¬ ((Value.ref T == Value.none) = true) by simp)]
  first
    | exact wpAny_bind (wpAny_pure (wpAny_bind goes))
    | exact wpAny_bind goes
/-- the ends of a suite behind which the slot i goes -/
def Gone (i : Nat) (D : Ends) : Ends where
  nx := fun σ' H' => D.nx (σ'.set i none) H'
  rt := D.rt
  bk := fun σ' H' => D.bk (σ'.set i none) H'
  ct := fun σ' H' => D.ct (σ'.set i none) H'
/-- one clause -/
theorem clause_as {ts : Addr → Value → Option Addr → TS} {b : Bool} (hf : X.env.frame = some X.env.locals) (hN : X.N.Nodup) (hi : X.N[i]? = some n) (hn : X.env.kindOf n = some .local) (hc : Names X x c)
    (hsu : ∀ (a : Addr) (oe : Obj) (cls : Value) (d : Option Addr) (pn : List (Addr × Obj)), Zc cls d oe → (∃ ws, oe.data = .fields ws) → PSs (X.suite a ((a, oe) :: pn)) (b0 :: suite) (ts a cls d))
    (F : Fell X pins σ H a cls d B s0 s) (hb : PySem.W.exmOne X.K cls c = some b) (yes : b = true → ts a cls d (Gone i D) (σ.set i (some (.ref a))) H)
    (no : b = false → wpAny (model X.prog X.w) X.A (handleBy (.ref a) X.env hds) (SP X pins D) X.xe s) :
    wpAny (model X.prog X.w) X.A (handleBy (.ref a) X.env (.ExceptHandler (some (.Name x np)) (some n) (b0 :: suite) pos' :: hds)) (SP X pins D) X.xe s := by
  obtain ⟨off1, off2⟩ := F.apart hf
  obtain ⟨oe, ws, g1, g2, g3⟩ := F.fly.there
  have inS := F.here.suite g1 g3 F.na off1 off2
  have named : ∀ {Q : Value → Shared → Prop} {E : Value → Shared → Prop}, Q c s → wpAny (model X.prog X.w) (X.A.mark (some (.ref a))) (eval (.Name x np) X.env) Q E s := by
    intro Q E q
    obtain ⟨k1, k2, k3⟩ := hc
    rcases k3 with k3 | ⟨k3, k4, k5⟩
    · exact ld_glob (X := X.suite a ((a, oe) :: (X.pn ++ pins))) inS k1 k3 q k2
    · exact ld_blt (X := X.suite a ((a, oe) :: (X.pn ++ pins))) inS k1 k3 k4 q k5 k2
  have sees : PySem.W.Looks (model X.prog X.w) s.heap (typeOf (.ref a)) cls := fun A Q E s' k q => wpAny_typeOf_ref (k _ _ g1) (by rw [g2.1]; exact q)
  refine wpAny_handleBy_cons (codeAny_handlers_test (named ((PySem.W.exm_one (M := model X.prog X.w) F.here.kIn sees hb).here ?_))) (by intro z; cases z)
  cases b with
  | false => exact no rfl
  | true =>
    refine codeAny_handlers_suite_as (HandSPX.lands_againZ F.fly fun h2 fly2 u2 => ?_)
    have F2 : Fell X pins σ H a cls d B s0 { s with heap := h2 } := ⟨F.inv, F.gr, F.up.trans u2, fly2, F.na, F.os, F.ag⟩
    obtain ⟨oe2, ws2, l1, l2, l3⟩ := fly2.there
    have inS2 := F2.here.suite l1 l3 F.na off1 off2
    refine store_ok (X := X.suite a ((a, oe2) :: (X.pn ++ pins))) (v := .ref a) inS2 hN hi (.inl hn) rfl (fun s3 I3 => ?_) (.inr hn)
    refine wpAny_mono ((hsu a oe2 cls d (X.pn ++ pins) l2 ⟨_, l3⟩).run [] s3 _ H _ I3 (yes rfl)) (fun fl s4 out => ?_) (fun _ _ z => False.elim z)
    have close : ∀ {σ4 : L2.St} {H4 : Hp} {Q : Shared → Prop}, Inv (X.suite a ((a, oe2) :: (X.pn ++ pins))) [] σ4 H4 s4 → (∀ s5, Inv X pins (σ4.set i none) H4 s5 → Q s5) → wpAny (model X.prog X.w) X.A (do bindName X.env n .none; unbindBehindTheSuite X.env n pos') (fun _ s5 => Q s5) X.xe s4 :=
      fun I4 q => gone_ok (I4.unsuite F.inv.ok) hN hi hn q
    cases fl with
    | ret u =>
      obtain ⟨v4, σ4, H4, I4, r4, q4⟩ := out
      exact close I4 fun s5 I5 => ⟨v4, _, H4, I5, r4, q4⟩
    | next =>
      obtain ⟨σ4, H4, I4, q4⟩ := out
      exact close I4 fun s5 I5 => ⟨_, H4, I5, q4⟩
    | brk =>
      obtain ⟨σ4, H4, I4, q4⟩ := out
      exact close I4 fun s5 I5 => ⟨_, H4, I5, q4⟩
    | cont =>
      obtain ⟨σ4, H4, I4, q4⟩ := out
      exact close I4 fun s5 I5 => ⟨_, H4, I5, q4⟩
/-- a list of clauses: by what they do of a fallen exception -/
def Does (X : Cx) (hds : List ExceptHandler) (W : Ends → WX) : Prop := ∀ (pins : List (Addr × Obj)) (σ : L2.St) (H : Hp) (a : Addr) (cls : Value) (d : Option Addr) (B : Heap) (s0 s : Shared) (D : Ends), Fell X pins σ H a cls d B s0 s → W D cls d σ H →
  wpAny (model X.prog X.w) X.A (handleBy (.ref a) X.env hds) (SP X pins D) X.xe s
theorem does_nil (hs : X.stack = X.env :: X.outer) (hf : X.env.frame = some X.env.locals) {W : WX} (tk : Takes X W) : Does X [] (fun _ => W) := fun _ _ _ _ _ _ _ _ _ _ F w => left_none hs hf tk F w
def wThen (K : PySem.W.Frag) (c : Value) (i : Nat) (ts : Addr → Value → Option Addr → TS) (W : Ends → WX) : Ends → WX := fun D cls d σ H => ∃ b, PySem.W.exmOne K cls c = some b ∧ (b = true → ∀ a, H a = none → ts a cls d (Gone i D) (σ.set i (some (.ref a))) H) ∧ (b = false → W D cls d σ H)
theorem does_cons {ts : Addr → Value → Option Addr → TS} {W : Ends → WX} (hf : X.env.frame = some X.env.locals) (hN : X.N.Nodup) (hi : X.N[i]? = some n) (hn : X.env.kindOf n = some .local) (hc : Names X x c)
    (hsu : ∀ (a : Addr) (oe : Obj) (cls : Value) (d : Option Addr) (pn : List (Addr × Obj)), Zc cls d oe → (∃ ws, oe.data = .fields ws) → PSs (X.suite a ((a, oe) :: pn)) (b0 :: suite) (ts a cls d)) (rest : Does X hds W) :
    Does X (.ExceptHandler (some (.Name x np)) (some n) (b0 :: suite) pos' :: hds) (wThen X.K c i ts W) := fun pins σ H a cls d B s0 s D F ⟨b, h1, h2, h3⟩ =>
  clause_as hf hN hi hn hc hsu F h1 (fun z => h2 z a F.na) (fun z => rest _ _ _ _ _ _ _ _ _ _ F (h3 z))
theorem does_len {W : Ends → WX} (h : Does X hds W) : Does X hds (fun D cls d σ H => σ.length = X.N.length → W D cls d σ H) := fun _ _ _ _ _ _ _ _ _ _ F w => h _ _ _ _ _ _ _ _ _ _ F (w F.inv.len)
/-- try: body, the clauses -/
theorem ps_tries {h0 : ExceptHandler} {tb : WX → TS} {W : Ends → WX} (hs : X.stack = X.env :: X.outer) (hf : X.env.frame = some X.env.locals)
    (hb : ∀ (W : WX) (pn : List (Addr × Obj)) (xe : Value → Shared → Prop), Takes (X.tr pn xe) W → PSs (X.tr pn xe) body (tb W)) (hh : Does X (h0 :: hds) W) : PS X (.Try body (h0 :: hds) [] [] pos) (fun D σ H => tb (W D) D σ H) := by
  refine ⟨fun pins s σ H D I h => wpAny_Try_except ?_⟩
  have ok := I.ok
  have fr : X.A.frames = some (X.env :: X.outer) := by rw [ok.frames, hs]
  refine wpAny_mono ((hb (W D) (X.pn ++ pins) (fun e s1 => wpAny (model X.prog X.w) X.A (noteFrame e X.env) (fun _ s2 => wpAny (model X.prog X.w) X.A (setFlight e none) (fun _ s3 =>
    wpAny (model X.prog X.w) X.A (handleBy e X.env (h0 :: hds)) (SP X pins D) X.xe s3) X.xe s2) X.xe s1) (fun u s1 air => ?_)).run [] s σ H D (I.toTry _) h) (fun fl s1 out => ?_) (fun _ _ z => z)
  · obtain ⟨a, B, s0, pn', σ', H', cls, d, rfl, J, gr, up, sky, na, os, ag, w⟩ := air
    have sky' : Sky B (X.env :: X.outer) a (Zc cls d) X.env.locals s1.heap := by rw [← hs]; exact sky
    refine Sky.land Zc.steady fr hf sky' fun h2 fly u2 => ?_
    exact hh pins σ' H' a cls d B s0 _ D ⟨J.ofTry ok, gr, up.trans u2, fly, na, os, ag⟩ w
  · cases fl with
    | next =>
      obtain ⟨σ', H', J, q⟩ := out
      exact wpAny_execs_nil ⟨σ', H', J.ofTry ok, q⟩
    | ret u =>
      obtain ⟨v, σ', H', J, r, q⟩ := out
      exact ⟨v, σ', H', J.ofTry ok, r, q⟩
    | brk =>
      obtain ⟨σ', H', J, q⟩ := out
      exact ⟨σ', H', J.ofTry ok, q⟩
    | cont =>
      obtain ⟨σ', H', J, q⟩ := out
      exact ⟨σ', H', J.ofTry ok, q⟩
end

/-! ### _law_refused(lambda: ..): which error, its value -/
/-- the clauses' table: class, word -/
def tsRef (K : PySem.W.Frag) (i : Nat) (n lab : Str) : Addr → Value → Option Addr → TS := fun a cls d => tRet (tTup (tCons (tC (.str lab)) (tCons (tXf a cls d (He.ga K n) "value" (tVar i)) tNil)))
def wRef (K : PySem.W.Frag) (i : Nat) : List (Str × Str) → Ends → WX
  | [] => fun _ _ _ _ _ => False
  | p :: r => wThen K (.ref (He.ga K p.1)) i (tsRef K i p.1 p.2) (wRef K i r)
def exmAll (K : PySem.W.Frag) (l : List (Str × Str)) : Prop := ∀ p ∈ l, ∀ q ∈ l, PySem.W.exmOne K (.ref (He.ga K p.1)) (.ref (He.ga K q.1)) = some (decide (p.1 = q.1))
theorem wRef_hit {K : PySem.W.Frag} {i : Nat} {D : Ends} {dd : Addr} {v : V} {σ : L2.St} {H : Hp} {p : Str × Str} : ∀ {l m : List (Str × Str)}, exmAll K m → (∀ q ∈ l, q ∈ m) → p ∈ l → p ∈ m → (l.map (·.1)).Nodup → i < σ.length → H dd = some (.xd [(("value" : Str), v)]) →
    (∀ l, H l = none → D.rt (.ref l) (upd H l (.tup [.str p.2, v]))) → wRef K i l D (.ref (He.ga K p.1)) (some dd) σ H
  | [], _, _, _, h, _, _, _, _, _ => by cases h
  | q :: r, m, hx, hs, h, hm, hn, hi, hd, hq => by
    refine ⟨decide (p.1 = q.1), hx p hm q (hs q (by simp)), fun hb a ha => ?_, fun hb => ?_⟩
    · have e : p.1 = q.1 := of_decide_eq_true hb
      have e2 : q = p := by
        rcases List.mem_cons.mp h with z | z
        · exact z.symm
        · rw [List.map_cons, List.nodup_cons] at hn
          exact absurd (List.mem_map.mpr ⟨p, z, e⟩) hn.1
      subst e2
      refine ⟨.ref a, ?_, rfl, rfl, dd, _, v, rfl, hd, rfl, by show 2 ≤ sizeLine; decide, fun l hl => hq l hl⟩
      rw [List.getElem?_set_self hi]
    · have e : ¬ p.1 = q.1 := of_decide_eq_false hb
      rw [List.map_cons, List.nodup_cons] at hn
      refine wRef_hit hx (fun z hz => hs z (by simp [hz])) ?_ hm hn.2 hi hd hq
      rcases List.mem_cons.mp h with z | z
      · rw [z] at e
        exact absurd rfl e
      · exact z
def TRef (K : PySem.W.Frag) (l : List (Str × Str)) : (XK → Hp → VK → Prop) → Hp → VK → Prop := fun tl H Q =>
  tl (fun cls d H' => ∃ p ∈ l, ∃ dd v, cls = .ref (He.ga K p.1) ∧ d = some dd ∧ H' dd = some (.xd [(("value" : Str), v)]) ∧ ∀ l, H' l = none → Q (.ref l) (upd H' l (.tup [.str p.2, v]))) H
    (fun _ H' => 2 ≤ sizeLine ∧ ∀ l, H' l = none → Q (.ref l) (upd H' l (.tup [.str "", .non])))
theorem ref_gives {X : Cx} {x a e q : Str} {sg : Scope} {g : Addr} {cdg : Value} {l : List (Str × Str)} {h0 : ExceptHandler} {hds : List ExceptHandler} {p1 p2 p3 p4 p5 p6 p7 p8 : Pos} {j1 j2 k3 : Nat} (hx : exmAll X.K l) (hn : (l.map (·.1)).Nodup)
    (hd : ∀ (f : Addr) (s : Shared) (H : Hp), Does (cxOf C8.CX0 X.prog X.w X.K X.mg X.base [a, e] x sg g cdg X.A X.stack s H C8.E0).nox (h0 :: hds) (wRef X.K 1 l)) :
    LamX.GivesTo X [a, e] x sg g cdg [.Try [.Expr (.Call (.Name a p1) [] [] p2) p3] (h0 :: hds) [] [] p4, .Return (some (.Tuple [.Constant (.str "") j1 p5, .Constant .none j2 p6] k3 p7)) p8] a q (TRef X.K l) := by
  intro f c' s H Q tl act hc h
  refine ⟨_, pss_cons (ps_tries (X := (cxOf C8.CX0 X.prog X.w X.K X.mg X.base [a, e] x sg g cdg X.A X.stack s H C8.E0).nox)
    (W := fun D cls d σ H => σ.length = 2 → wRef X.K 1 l D cls d σ H) (tb := fun W D σ H => ∃ Ech : XK, (∀ cls d σ' H', Ech cls d H' → W cls d σ' H') ∧ σ[0]? = some (some (.ref f)) ∧ H c' = some (LamX.CodeO c' q) ∧ tl Ech H fun _ H' => D.nx σ H') rfl rfl (fun W pn xe tk => ?_) (does_len (hd f s H)))
    (pss_one (ps_ret (pe_tup (pa_cons pe_str (pa_cons pe_non pa_nil))))), ?_⟩
  · refine ⟨fun pins s' σ H' D I ⟨Ech, hW, h1, h2, h3⟩ => ?_⟩
    have hp := act W pn xe Ech p1 p2 tk hW
    exact (pss_one (ps_expr (pos := p3) hp)).run pins s' σ H' D I ⟨h1, h2, h3⟩
  · refine ⟨fun cls d H' => ∃ p ∈ l, ∃ dd v, cls = .ref (He.ga X.K p.1) ∧ d = some dd ∧ H' dd = some (.xd [(("value" : Str), v)]) ∧ ∀ l, H' l = none → Q (.ref l) (upd H' l (.tup [.str p.2, v])), fun cls d σ' H' ⟨p, hp, dd, v, e1, e2, h1, h2⟩ hl => ?_, rfl, hc, ?_⟩
    · subst e1 e2
      exact wRef_hit hx (fun _ z => z) hp hp hn (by omega) h1 h2
    · exact h
end Sd
end
-- SdLaw
section
set_option Elab.async false
set_option linter.all false
set_option maxRecDepth 100000
set_option maxHeartbeats 4000000
set_option autoImplicit false
namespace Sd
open PySem PySem.Spec PyProof.Rows L2
open Evl (Ex)

/-! ### _law_refused(lambda: ..) over data -/
theorem Fm.extN {K : PySem.W.Frag} {F : Fs} {B H H1 : Hp} (e : Ex B H) (f : Fok K F B H) (x : LamX.ExtN H H1) (t : LamX.Tabs F.tabs H1) : Fm K F B H B H1 := by
  refine ⟨Ex.refl B, fun a u h => x a u (e a u h) fun ps z => f.nt a ps (by rw [h, z]), fun a h1 ⟨u, h2, h3⟩ => ⟨h1, fun _ => (x a u h2 h3).trans h2.symm⟩, fun r sa hr => ?_, t, f.tb, f.nt⟩
  obtain ⟨h1, h2, i, s, c, h3, h4⟩ := f.row r sa hr
  exact ⟨h1, h2, i, s, c, x r _ h3 (fun ps z => by cases z), h4⟩
/-- the slots that a lambda may look at -/
def noOwn : Sl → Sl
  | .own _ => .un
  | .obj _ _ _ _ _ _ => .un
  | s => s
theorem Stt.root {K : PySem.W.Frag} {G : Gx} {σ : L2.St} {B H : Hp} {δ : List Sl} (s : Stt K G σ B H δ) : Stt K ⟨G.F, B, H⟩ σ B H (δ.map noOwn) := by
  refine ⟨.refl s.e s.f, by rw [List.length_map]; exact s.len, fun i t h => ?_, fun i j ds es _ h1 _ => ?_, fun i m dx C t fs ms h1 _ => ?_⟩
  · rw [List.getElem?_map, Option.map_eq_some_iff] at h
    obtain ⟨z, hz, rfl⟩ := h
    obtain ⟨o, e, k⟩ := s.sl i z hz
    refine ⟨o, e, ?_⟩
    cases z with
    | un => exact True.intro
    | dat d => exact k
    | own ds => exact True.intro
    | obj m dx C s fs ms => exact True.intro
  · rw [List.getElem?_map, Option.map_eq_some_iff] at h1
    obtain ⟨z, _, e⟩ := h1
    cases z <;> cases e
  · rw [List.getElem?_map, Option.map_eq_some_iff] at h1
    obtain ⟨z, _, e⟩ := h1
    cases z <;> cases e
def deRefused (l : List (Str × Str)) (db : (Str → D → Prop) → DE) : DE := fun δ P => db (fun n d => ∃ lab, l.lookup n = some lab ∧ P (.tup [.str lab, d])) (δ.map noOwn) fun _ => P (.tup [.str "", .non])
theorem mem_of_lookup {l : List (Str × Str)} {n lab : Str} (h : l.lookup n = some lab) : (n, lab) ∈ l := by
  induction l with
  | nil => cases h
  | cons p r ih =>
    obtain ⟨a, b⟩ := p
    rw [List.lookup_cons] at h
    split at h
    · rename_i e
      cases h
      rw [eq_of_beq e]
      exact List.mem_cons_self
    · exact List.mem_cons_of_mem _ (ih h)
/-- what the lambda's body wants: over data, from any entry -/
def lamT (K : PySem.W.Frag) (F : Fs) (db : (Str → D → Prop) → DE) : XK → TE := fun E σ H Q => ∃ (G' : Gx) (Xc : Str → D → Prop), G'.F = F ∧ DlvX K G' Xc E ∧ teOf K G' (db Xc) σ H Q
theorem pd_refused {X : Cx} {G : Gx} {l : List (Str × Str)} {db : (Str → D → Prop) → DE} {e : Expr} (h : PE X e (LamX.tLam G.F.tabs (TRef X.K l) (lamT X.K G.F db))) : PEd X G e (deRefused l db) :=
  PE.imp h fun σ H Q ⟨B, δ, P, s, h, q⟩ => ⟨s.f.tab, fun H1 eN T1 => by
    have m1 := Fm.extN s.e s.f eN T1
    refine ⟨⟨G.F, B, H1⟩, _, rfl, fun n d dd v B' H' ⟨lab, hl, p⟩ m hd r => ?_, B, _, _, (s.mono m1).root, h, fun v d B' H' m p _ => ?_⟩
    · refine ⟨by decide, fun t ht => ?_⟩
      have m2 := Fm.new (o := .tup [.str "", .non]) m.e m.f ht
      exact q _ _ _ _ ((m1.trans m).trans m2) p (.tup (SqT.of upd_same) (.cons (.str "") (.cons .non .nil)))
    · refine ⟨(n, lab), mem_of_lookup hl, dd, v, rfl, rfl, m.e _ _ hd, fun t ht => ?_⟩
      have m2 := Fm.new (o := .tup [.str lab, v]) m.e m.f ht
      exact q _ _ _ _ ((m1.trans m).trans m2) p (.tup (SqT.of upd_same) (.cons (.str lab) (.cons (r.mono m2.b) .nil)))⟩
/-- derivations for every entry give the lambda's body -/
theorem lam_body {Y : Cx} {F : Fs} {db : (Str → D → Prop) → DE} {E : XK} {e : Expr} (h : ∀ (G' : Gx) (Xc : Str → D → Prop), G'.F = F → DlvX Y.K G' Xc E → PEd Y G' e (db Xc)) : PE Y e (lamT Y.K F db E) :=
  ⟨fun pins s σ H Q I ⟨G', Xc, e1, e2, e3⟩ => (h G' Xc e1 e2).run pins s σ H Q I e3⟩
/-- what is raised in a lambda's body reaches who called it -/
theorem lam_takes {X : Cx} {A : Around} {outer : List Env} {s : Shared} {H : Hp} {E : XK} {scope : Scope} {f c' : Addr} : Takes (LamX.lamCx X A outer s H E scope f c') (fun cls d _ H => E cls d H) := takes_of rfl rfl rfl rfl
theorem lam_passes {X : Cx} {A : Around} {outer : List Env} {s : Shared} {H : Hp} {E : XK} {scope : Scope} {f c' : Addr} : Passes (L2.CX X.prog X.w) (LamX.lamCx X A outer s H E scope f c') E := passes_call lam_takes (fun _ _ _ _ z => z)

/-! ### calls of a name that holds a def -/
def deCallV (i : Nat) (a : Addr) (sp : DSp) (F : Fs) (Xc : Str → D → Prop) (da : DA) : DE := fun δ P => δ[i]? = some (.dat (.raw (.ref a))) ∧ deCall sp F Xc [] da δ P
def deOrE (d1 d2 : DE) : DE := fun δ P => d1 δ P ∨ d2 δ P
section
variable {X : Cx} {G : Gx} {k j i : Nat} {x y : Str} {sp : DSp} {e : Expr} {es : List Expr} {da : DA} {d1 d2 : DE} {p pos : Pos} {Xc : Str → D → Prop} {E : XK}
theorem pd_callV {a : Addr} (c : Cl X.prog X.w X.K X.mg X.base k y sp []) (hg : X.mg y = some (.ref a)) (hr : Room j X.A) (hk : k ≤ j) (hE : DlvX X.K G Xc E) (hx : Passes (L2.CX X.prog X.w) X E) (hN : X.N[i]? = some x) (hv : Vis X.env.scope x) (ha : PAd X G (e :: es) da)
    (hdb : (x == ("__debug__" : Str)) = false := by decide) (hcd : (x == ("__classdict__" : Str)) = false := by decide) (he : starEach (e :: es) X.env = (false, eval e X.env) :: starEach es X.env := by rfl) (hpl : (backTo pos (starEach es X.env)).any (·.1) = false := by rfl) :
    PEd X G (.Call (.Name x p) (e :: es) [] pos) (deCallV i a sp G.F Xc da) := by
  obtain ⟨f, fd, ps, ds, dvs, F, hm, kp, hb, hv2, hn⟩ := c.ex
  rw [hg] at hm
  cases hm
  have z1 := hn (fun _ => none)
  cases z1
  cases hv2
  exact PE.imp (pe_callL (i := i) F (hr.mono hk) hN hv kp hb .nil hx ha hdb hcd he hpl) fun σ H Q ⟨B, δ, P, s, ⟨hd, h⟩, q⟩ => by
    obtain ⟨v, hv, r⟩ := s.dat hd
    cases r
    exact ⟨hv, B, δ, _, s, h, fun vs ds B1 H1 m1 p1 r1 => ⟨G.F, B1, ds ++ [], _, m1.e, m1.f, r1.app .nil, p1, fun v d B' H' m2 o r => q v d B' H' (m1.trans m2) o r, fun n d dd v B' H' o m2 h1 r => hE n d dd v B' H' o (s.fm.trans (m1.trans m2)) h1 r⟩⟩
theorem pd_orE (h1 : PEd X G e d1) (h2 : PEd X G e d2) : PEd X G e (deOrE d1 d2) := ⟨fun pins s σ H Q I ⟨B, δ, P, st, h, q⟩ => h.elim (fun h => h1.run pins s σ H Q I ⟨B, δ, P, st, h, q⟩) fun h => h2.run pins s σ H Q I ⟨B, δ, P, st, h, q⟩⟩
end
end Sd
end
-- SdEq
section
set_option Elab.async false
set_option linter.all false
set_option maxRecDepth 100000
set_option maxHeartbeats 4000000
set_option autoImplicit false
/-! == and != of lines -/
namespace PySem
open PySem PySem.W Builtin
section
variable {prog : Program} {w : World} {A : Around} {E : Value → Shared → Prop} {s : Shared} {K : Frag} {x C : Addr} {ox : Obj} {od : Option Obj} {f : Addr} {b : Value}
/-- a built-in that a class inherits, called by its special name -/
theorem sdq_bound {M : Model} {name : Str} {id : String} {T : String} {args : List Value} {Q : Option Value → Shared → Prop} (X : K.In s.heap) (I : InstAt s.heap x ox C od) (hs : findIn K (.ref C) name = some (some (.builtin id))) (S : Slot T name id)
    (h : wpAny M A (call (.builtin id) (.ref x :: args)) (fun v => Q (some v)) E s) : wpAny M A (callSpecialIfBound? (.ref x) name args) Q E s := by
  simp only [callSpecialIfBound?, bindSpecialIfBound?]
  refine wpAny_holding (wpAny_bind (wpAny_bind (wpAny_bind (I.type.here ((looks_findIn X hs).here ?_)))))
  simp only [S.bind]
  refine wpAny_bind (wpAny_askSetting (wpAny_ite ?_))
  have last : wpAny M A (call (.builtin id) ([.ref x] ++ args) >>= fun v => pure (some v)) Q E s := wpAny_bind (wpAny_mono h (fun _ _ q => wpAny_pure q) fun _ _ q => q)
  split
  · exact wpAny_bind (wpAny_pure (wpAny_pure last))
  · exact wpAny_tryCatch (wpAny_bind (wpAny_pure (wpAny_pure last)))
theorem sdq_check {M : Model} {id owner n : String} {rest : List Value} {Q : Unit → Shared → Prop} (X : K.In s.heap) (I : InstAt s.heap x ox C od) (hk : builtinKind id = some .slot) (hs : splitId id = some (owner, n)) (ha : argsOk id ⟨.ref x :: rest, []⟩)
    (ho : subIn K (.ref C) (.type owner) = some true) (q : Q () s) : wpAny M A (checkBuiltinCall id ⟨.ref x :: rest, []⟩) Q E s := by
  simp only [checkBuiltinCall, hk, hs]
  refine wpAny_bind ?_
  unfold isInstance
  refine wpAny_bind (I.type.here ((looks_subIn X ho).here ?_))
  simp only [Bool.not_true, Bool.false_eq_true, if_false]
  cases hsig : Manifest.signature? id with
  | none => exact wpAny_pure (by first | exact q | exact wpAny_pure q)
  | some sig =>
    simp only [argsOk, hsig] at ha
    have e : Bind.checkArgs id sig ⟨.ref x :: rest, []⟩ = pure () := ha
    show wpAny M A (Bind.checkArgs id sig ⟨.ref x :: rest, []⟩) Q E s
    rw [e]
    exact wpAny_pure q
/-- x != b, where x's class tells only == -/
theorem sdq_ne {Q : Value → Shared → Prop} (X : K.In s.heap) (I : InstAt s.heap x ox C od) {tb : Value} (hb : Looks (model prog w) s.heap (typeOf b) tb) (hn : tb = .ref C ∨ subIn K tb (.ref C) = some false) (hu : A.units + 1 < cLine)
    (hne : findIn K (.ref C) "__ne__" = some (some (.builtin "object.__ne__"))) (ho : subIn K (.ref C) (.type "object") = some true) (heq : findIn K (.ref C) "__eq__" = some (some (.ref f))) (hf : isFn K (.ref f) = true)
    (h : wpAny (model prog w) A.in1 (call (.ref f) [.ref x, b]) (fun v s' => ∃ r, v = .bool r ∧ Q (.bool (!r)) s') E s) : wpAny (model prog w) A (richCompare .NotEq (.ref x) b) Q E s := by
  have body : wpAny (model prog w) A.in1 (Builtin.«object.__ne__» ⟨[.ref x, b], []⟩) (fun fin s' => ∃ r, fin = .done (.ret (.bool (!r))) ∧ Q (.bool (!r)) s') E s := by
    unfold Builtin.«object.__ne__»
    repeat (first
      | with_reducible refine wpAny_cRoomFor (A := A.in1) hu ?_
      | (refine wpAny_bind (m := callSpecialIfBound? (.ref x) (Str.ofString "__eq__") [b]) (ifBound_K X I heq hf (wpAny_mono h (fun v s' hv => by
          obtain ⟨r, rfl, q⟩ := hv
          repeat (first | exact ⟨r, rfl, q⟩ | (refine wpAny_bind (m := truthy (.bool _)) (wpAny_truthy_bool ?_)) | wp_step)) fun _ _ z => z)))
      | wp_step)
  have one : wpAny (model prog w) A (tryCompare (.ref x) "__ne__" b) (fun r s' => ∃ v, r = some v ∧ Q v s') E s := by
    unfold tryCompare
    refine wpAny_bind (sdq_bound X I hne F.cmp_object.ne (wpAny_call (codeAny_call_builtin F.cmp_object.ne.plain F.cmpEntry_ne (sdq_check X I F.cmpKind_ne F.cmpSplit_ne (F.cmpArgs_ne _ _) ho (wpAny_mono body (fun fin s' hfin => ?_) fun _ _ z => z)))))
    obtain ⟨r, rfl, q⟩ := hfin
    exact wpAny_pure ⟨_, rfl, q⟩
  unfold richCompare
  simp only [oneThing_ref]
  refine wpAny_holding (wpAny_bind (wpAny_cRoomFor (Nat.lt_of_succ_lt hu) ?_))
  rw [cmpInfo_NotEq]
  dsimp only
  refine wpAny_bind (I.type.here (wpAny_bind (hb.here ?_)))
  split
  · rename_i q
    have e : subIn K tb (.ref C) = some false := by
      rcases hn with z | z
      · rw [z] at q
        simp at q
      · exact z
    refine wpAny_bind ((looks_subIn X e).here ?_)
    simp only [Bool.false_eq_true, if_false]
    refine wpAny_bind (wpAny_mono one (fun r s' z => ?_) fun _ _ z => z)
    obtain ⟨v, rfl, q⟩ := z
    exact wpAny_pure q
  · refine wpAny_bind (wpAny_pure ?_)
    simp only [Bool.false_eq_true, if_false]
    refine wpAny_bind (wpAny_mono one (fun r s' z => ?_) fun _ _ z => z)
    obtain ⟨v, rfl, q⟩ := z
    exact wpAny_pure q
end
end PySem
end
-- SdEq2
section
set_option Elab.async false
set_option linter.all false
set_option maxRecDepth 100000
set_option maxHeartbeats 4000000
set_option autoImplicit false
namespace Sd
open PySem PySem.Spec PyProof.Rows L2
open Evl (Ex)
/-- what is looked at of the class Line -/
def lineB (K : PySem.W.Frag) : Bool :=
  let C := He.ga K "Line"
  decide (PySem.W.findIn K (.ref C) "__class__" = some (some (.builtin "object.__class__"))) && decide (PySem.W.specialIn K (.builtin "object.__class__") "__get__" = some (some (.builtin "getset_descriptor.__get__"))) && decide (PySem.W.takesIn K (.builtin "object.__class__") = some true) &&
  decide (PySem.W.mroIn K C (.type "object") = some true) && decide (PySem.W.kitOne K (.type "tuple") (.ref C) = some false) && decide (PySem.W.kitOne K (.ref C) (.ref C) = some true) && decide (PySem.W.findIn K (.ref C) "__eq__" = some (some (.ref (He.fAd K ("Line", some "__eq__"))))) && PySem.W.isFn K (.ref (He.fAd K ("Line", some "__eq__"))) &&
  decide (PySem.W.findIn K (.ref C) "__ne__" = some (some (.builtin "object.__ne__"))) && decide (PySem.W.subIn K (.type "tuple") (.ref C) = some false) && decide (PySem.W.subIn K (.ref C) (.type "object") = some true)
structure LnF (K : PySem.W.Frag) : Prop where
  cc : PySem.W.findIn K (.ref (He.ga K "Line")) "__class__" = some (some (.builtin "object.__class__"))
  gt : PySem.W.specialIn K (.builtin "object.__class__") "__get__" = some (some (.builtin "getset_descriptor.__get__"))
  tk : PySem.W.takesIn K (.builtin "object.__class__") = some true
  mr : PySem.W.mroIn K (He.ga K "Line") (.type "object") = some true
  kt : PySem.W.kitOne K (.type "tuple") (.ref (He.ga K "Line")) = some false
  kl : PySem.W.kitOne K (.ref (He.ga K "Line")) (.ref (He.ga K "Line")) = some true
  eq : PySem.W.findIn K (.ref (He.ga K "Line")) "__eq__" = some (some (.ref (He.fAd K ("Line", some "__eq__"))))
  fn : PySem.W.isFn K (.ref (He.fAd K ("Line", some "__eq__"))) = true
  ne : PySem.W.findIn K (.ref (He.ga K "Line")) "__ne__" = some (some (.builtin "object.__ne__"))
  st : PySem.W.subIn K (.type "tuple") (.ref (He.ga K "Line")) = some false
  so : PySem.W.subIn K (.ref (He.ga K "Line")) (.type "object") = some true
theorem lineB_ok {K : PySem.W.Frag} (h : lineB K = true) : LnF K := by
  unfold lineB at h
  simp only [Bool.and_eq_true, decide_eq_true_eq] at h
  obtain ⟨⟨⟨⟨⟨⟨⟨⟨⟨⟨h1, h2⟩, h3⟩, h4⟩, h5⟩, h6⟩, h7⟩, h8⟩, h9⟩, h10⟩, h11⟩ := h
  exact ⟨h1, h2, h3, h4, h5, h6, h7, h8, h9, h10, h11⟩
/-! isinstance(x, Line) -/
def rdIsLn : D → (D → Prop) → Prop := fun d P => (∃ xs, d = .ln xs ∧ P (.bl true)) ∨ ∃ xs, d = .tup xs ∧ P (.bl false)
section
variable {X : Cx} {G : Gx} {e a b : Expr} {de da db : DE} {p p1 pos : Pos}
theorem pd_isLn (f : LnF X.K) (cl : Cls X.K (He.ga X.K "Line")) (hm : X.mg "isinstance" = none) (hl : X.mg "Line" = some (.ref (He.ga X.K "Line"))) (he : PEd X G e de) (hg : Gl X "isinstance" := by rfl) (hg1 : Gl X "Line" := by rfl)
    (hs : starEach [e, .Name "Line" p1] X.env = (false, eval e X.env) :: starEach [.Name "Line" p1] X.env := by rfl) (hs1 : starEach [.Name "Line" p1] X.env = (false, eval (.Name "Line" p1) X.env) :: starEach [] X.env := by rfl)
    (hpl : (backTo pos (starEach [.Name "Line" p1] X.env)).any (·.1) = false := by rfl) : PEd X G (.Call (.Name "isinstance" p) [e, .Name "Line" p1] [] pos) (de1 rdIsLn de) :=
  PE.imp (pe_callB call_isi hg hm (by decide +kernel) (pa_cons he (pa_cons (pe_glob (v := .ref (He.ga X.K "Line")) hg1 hl rfl) pa_nil hs1) hs) (he := hs) (hpl := hpl)) fun σ H Q ⟨B, δ, P, s, h, q⟩ =>
    ⟨B, δ, _, s, h, fun v d B1 H1 m1 hd r1 => by
      rcases hd with ⟨xs, rfl, p⟩ | ⟨xs, rfl, p⟩
      · cases r1 with
        | ln h1 h2 hf ht ra => exact ⟨_, .ref (He.ga X.K "Line"), .ref (He.ga X.K "Line"), .ref (He.ga X.K "Line"), true, rfl, .own _, .base (.ins (m1.e _ _ h1) cl f.cc f.gt f.tk f.mr), f.kl, q _ _ B1 H1 m1 p (.bl _)⟩
      · have ty : TyX X.K H1 v (.type "tuple") := r1.ty m1.e (t := "tuple") rfl
        exact ⟨v, .ref (He.ga X.K "Line"), .type "tuple", .ref (He.ga X.K "Line"), false, rfl, .own _, ty, f.kt, q _ _ B1 H1 m1 p (.bl _)⟩⟩
/-! == and != -/
/-- a def run from below the body: k deep enough -/
theorem run_at {CX : CXT} {k : Nat} {f : Addr} {fd : FuncData} {ps : List Str} {sp : Sp} {E : XK} {A : Around} {pins : List (Addr × Obj)} {σ : L2.St} {H : Hp} {s : Shared} {Q : VK} {us : List Value} {vs : List V} (F : FnOk X.prog X.w X.K X.mg X.base CX k f fd ps sp) (hr : Room k A) (hA : A.frames = X.A.frames)
    (hb : Binds X.K fd ps []) (hx : Passes CX X E) (I : Inv X pins σ H s) (r : Vals vs us) (h : sp vs H Q E) : wpAny (model X.prog X.w) A (call (.ref f) us) (EP X pins σ Q) X.xe s := by
  have e := I.env0
  have e0 : Env0 X.prog X.w X.K X.mg X.base A X.stack s H := ⟨by rw [hA]; exact e.frames, e.mod, e.bs, e.bsz, e.funs, e.frf, e.hok, e.bare⟩
  have hl : us.length = ps.length := by rw [← r.length]; exact F.len _ _ _ _ h
  have bt := hb s us I.kIn (by rw [List.append_nil]; exact hl)
  rw [List.append_nil] at bt
  refine wpAny_call (codeAny_mono (F.run A X.stack s H ⟨us, []⟩ us vs Q E hr e0 bt r h) fun out s' hq => ?_)
  cases out with
  | error u => exact hx pins σ H s u s' I hq
  | ok fl =>
    cases fl with
    | ret u => exact I.after hq
    | next => exact False.elim hq
    | brk => exact False.elim hq
    | cont => exact False.elim hq
/-- Line.__eq__ -/
def sp_eqLine : DSp := fun _ ds O => ∃ xs d, ds = [.ln xs, d] ∧ ((∃ ys, d = .ln ys ∧ (D.tup xs).eqOk = true ∧ (D.tup ys).eqOk = true ∧ O (.ret (.bl ((D.tup xs).eqv (.tup ys))))) ∨ ∃ ys, d = .tup ys ∧ O (.ret (.bl false)))
structure LnEq (P : Program) (w : World) (K : PySem.W.Frag) (mg : Str → Option Value) (base : Heap) (k : Nat) : Prop where
  f : LnF K
  ex : ∃ fd : FuncData, FnOk P w K mg base (L2.CX P w) k (He.fAd K ("Line", some "__eq__")) fd ["self", "other"] (spD K sp_eqLine) ∧ Binds K fd ["self", "other"] []
def rdEqL : D → D → (D → Prop) → Prop := fun x y P => ∃ xs ys, x = .ln xs ∧ y = .ln ys ∧ (D.tup xs).eqOk = true ∧ (D.tup ys).eqOk = true ∧ P (.bl ((D.tup xs).eqv (.tup ys)))
def rdNeL : D → D → (D → Prop) → Prop := fun x y P => ∃ xs ys, x = .ln xs ∧ y = .tup ys ∧ P (.bl true)
theorem op_eqL {k : Nat} (c : LnEq X.prog X.w X.K X.mg X.base k) (hr : Room k X.A) : OpR X (compareOp .Eq) (fun x y H Q => ∃ a b dx dy fs gs, x = .ref a ∧ y = .ref b ∧ H a = some (.ins (He.ga X.K "Line") dx fs) ∧ H b = some (.ins (He.ga X.K "Line") dy gs) ∧ spD X.K sp_eqLine [x, y] H (fun v H' => (∃ r, v = .bl r) ∧ Q v H') E0) := by
  obtain ⟨fd, F, hb⟩ := c.ex
  intro pins s σ H x y v u Q I rx ry ⟨a, b, dx, dy, fs, gs, ex, ey, ha, hb', h⟩
  subst ex ey
  cases rx
  cases ry
  obtain ⟨mA, J, _⟩ := ins_get I.hok ha
  obtain ⟨mB, J', _⟩ := ins_get I.hok hb'
  obtain ⟨od, J, _⟩ := J.look
  obtain ⟨od', J', _⟩ := J'.look
  obtain ⟨m, hF⟩ := I.fr
  show wpAny (model X.prog X.w) X.A (richCompare .Eq (.ref a) (.ref b)) (EP X pins σ Q) X.xe s
  refine PySem.W.cmp_K (op := .Eq) (tb := .ref (He.ga X.K "Line")) hr.units0 hF I.ok.mod.kin J J'.type (by simp [PySem.W.notFirst]) c.f.eq c.f.fn ?_
  have rv : Vals [V.ref a, V.ref b] [Value.ref a, Value.ref b] := .cons rfl (.cons rfl .nil)
  refine wpAny_mono (run_at (A := X.A) F hr rfl hb (E := E0) passL I rv h) (fun w' s' ⟨z, H', I', rz, ⟨r, ez⟩, q⟩ => ?_) fun _ _ z => z
  subst ez
  cases rz
  exact ⟨.bl r, H', I', rfl, q⟩
theorem op_neL {k : Nat} (c : LnEq X.prog X.w X.K X.mg X.base k) (hr : Room (k + 1) X.A) : OpR X (compareOp .NotEq) (fun x y H Q => ∃ a b dx fs ys, x = .ref a ∧ y = .ref b ∧ H a = some (.ins (He.ga X.K "Line") dx fs) ∧ SqT X.K H b ys ∧ spD X.K sp_eqLine [x, y] H (fun v H' => ∃ r, v = .bl r ∧ Q (.bl (!r)) H') E0) := by
  obtain ⟨fd, F, hb⟩ := c.ex
  intro pins s σ H x y v u Q I rx ry ⟨a, b, dx, fs, ys, ex, ey, ha, hb', h⟩
  subst ex ey
  cases rx
  cases ry
  obtain ⟨mA, J, _⟩ := ins_get I.hok ha
  obtain ⟨od, J, _⟩ := J.look
  obtain ⟨its, _, ⟨o, e1, e2, _⟩, _⟩ := I.tuple hb'
  have LT : PySem.W.Looks (model X.prog X.w) s.heap (typeOf (.ref b)) (.type "tuple") := fun A Q E s' k q => wpAny_typeOf_ref (k _ _ e1) (by rw [e2]; exact q)
  show wpAny (model X.prog X.w) X.A (richCompare .NotEq (.ref a) (.ref b)) (EP X pins σ Q) X.xe s
  refine PySem.sdq_ne I.kIn J LT (.inr c.f.st) (by have := hr.un; omega) c.f.ne c.f.so c.f.eq c.f.fn ?_
  have rv : Vals [V.ref a, V.ref b] [Value.ref a, Value.ref b] := .cons rfl (.cons rfl .nil)
  refine wpAny_mono (run_at (A := X.A.in1) F hr.in1 rfl hb (E := E0) passL I rv h) (fun w' s' ⟨z, H', I', rz, r, ez, q⟩ => ?_) fun _ _ z => z
  subst ez
  cases rz
  exact ⟨r, rfl, .bl _, H', I', rfl, q⟩
theorem pd_eqL {k j : Nat} (c : LnEq X.prog X.w X.K X.mg X.base k) (hr : Room j X.A) (hk : k ≤ j) (ha : PEd X G a da) (hb : PEd X G b db) : PEd X G (.Compare a [.Eq] [b] pos) (de2 rdEqL da db) :=
  pd_cmp (op_eqL c (hr.mono hk)) (fun x y d e B H P Q he hf rx ry ⟨xs, ys, h1, h2, k1, k2, p⟩ q => by
    subst h1 h2
    have rx' := rx
    have ry' := ry
    cases rx with
    | ln a1 a2 a3 a4 a5 =>
    cases ry with
    | ln b1 b2 b3 b4 b5 =>
      exact ⟨_, _, _, _, _, _, rfl, rfl, he _ _ a1, he _ _ b1, G.F, B, [.ln xs, .ln ys], (fun o => o = .ret (.bl ((D.tup xs).eqv (.tup ys)))), he, hf, .cons rx' (.cons ry' .nil), ⟨xs, .ln ys, rfl, .inl ⟨ys, rfl, k1, k2, rfl⟩⟩, fun v d B' H' m o r => by
        cases o
        cases r
        exact ⟨⟨_, rfl⟩, q _ _ B' H' m p (.bl _)⟩, fun n d dd v B' H' o => by cases o⟩) ha hb (nomark _)
theorem pd_neL {k j : Nat} (c : LnEq X.prog X.w X.K X.mg X.base k) (hr : Room j X.A) (hk : k + 1 ≤ j) (ha : PEd X G a da) (hb : PEd X G b db) : PEd X G (.Compare a [.NotEq] [b] pos) (de2 rdNeL da db) :=
  pd_cmp (op_neL c (hr.mono hk)) (fun x y d e B H P Q he hf rx ry ⟨xs, ys, h1, h2, p⟩ q => by
    subst h1 h2
    have rx' := rx
    have ry' := ry
    cases rx with
    | ln a1 a2 a3 a4 a5 =>
    cases ry with
    | tup b1 b5 =>
      exact ⟨_, _, _, _, _, rfl, rfl, he _ _ a1, exT he b1, G.F, B, [.ln xs, .tup ys], (fun o => o = .ret (.bl false)), he, hf, .cons rx' (.cons ry' .nil), ⟨xs, .tup ys, rfl, .inr ⟨ys, rfl, rfl⟩⟩, fun v d B' H' m o r => by
        cases o
        cases r
        exact ⟨_, rfl, q _ _ B' H' m p (.bl _)⟩, fun n d dd v B' H' o => by cases o⟩) ha hb (nomark _)
end
end Sd
end
-- SdRepr
section
set_option Elab.async false
set_option linter.all false
set_option maxRecDepth 100000
set_option maxHeartbeats 4000000
set_option autoImplicit false
namespace Sd
open PySem PySem.Spec PyProof.Rows L2
open Evl (Ex)
/-! ### repr of small data -/
def D.rok : Nat → D → Bool
  | _, .non => true
  | _, .bl _ => true
  | _, .int i => decide (i.natAbs < 1000000)
  | _, .str s => PyData.strOk s && decide (s.cps.size ≤ 100)
  | n + 1, .lst xs => decide (xs.length ≤ 30) && xs.all (D.rok n)
  | n + 1, .tup xs => decide (xs.length ≤ 30) && xs.all (D.rok n)
  | _, _ => false
def wB : Nat → Nat
  | 0 => 100
  | n + 1 => 30 * (wB n + 1)
structure Shw (n : Nat) (d : D) : Prop where
  p : d.plain = true
  c : d.py.canLay0 = true
  t : d.py.depth ≤ n
  w : d.py.weight ≤ wB n
  i : d.py.intsShort 13 = true
  s : d.py.showable = true
  h : d.py.hasDict = false
theorem wB_le : ∀ n : Nat, 100 ≤ wB n
  | 0 => Nat.le_refl _
  | n + 1 => by
    have := wB_le n
    show 100 ≤ 30 * (wB n + 1)
    omega
theorem log_lt {i : Int} (h : i.natAbs < 1000000) : i.natAbs.log2 < 20 := by
  by_cases h0 : i.natAbs = 0
  · rw [h0]
    decide
  · exact (Nat.log2_lt h0).mpr (by omega)
theorem shw_leaf (n : Nat) (d : D) (h : d.rok n = true) (hl : d.seq = none) : Shw n d := by
  have w0 := wB_le n
  cases d with
  | non => exact ⟨rfl, rfl, Nat.zero_le _, Nat.zero_le _, rfl, rfl, rfl⟩
  | bl b => exact ⟨rfl, rfl, Nat.zero_le _, Nat.zero_le _, rfl, rfl, rfl⟩
  | int i =>
    have hi : i.natAbs < 1000000 := by cases n <;> simpa [D.rok] using h
    have hlog := log_lt hi
    refine ⟨rfl, rfl, Nat.zero_le _, ?_, ?_, ?_, rfl⟩
    · simp only [D.py, PyData.weight]
      split <;> omega
    · simp only [D.py, PyData.intsShort, decide_eq_true_eq]
      show (Str.ofString (toString i)).length ≤ 13
      rw [PySem.ofString_length]
      have := int_text_length_le10 (a := i) (k := 6) (by decide) (by omega)
      omega
    · simp only [D.py, PyData.showable, decide_eq_true_eq]
      omega
  | str z =>
    have hz : PyData.strOk z = true ∧ z.cps.size ≤ 100 := by cases n <;> simpa [D.rok] using h
    exact ⟨rfl, hz.1, Nat.zero_le _, Nat.le_trans hz.2 w0, rfl, rfl, rfl⟩
  | lst xs => cases hl
  | tup xs => cases hl
  | raw v => cases n <;> cases h
  | dct => cases n <;> cases h
  | ln xs => cases n <;> cases h
theorem shw : ∀ (n : Nat) (d : D), d.rok n = true → Shw n d := by
  intro n
  induction n with
  | zero =>
    intro d h
    refine shw_leaf 0 d h ?_
    cases d <;> first | rfl | cases h
  | succ n ih =>
    have all : ∀ xs : List D, xs.all (D.rok n) = true → D.plainA xs = true ∧ PyData.canLayAll0 (D.pyA xs) = true ∧ PyData.depthAll (D.pyA xs) ≤ n ∧ PyData.weightAll (D.pyA xs) ≤ xs.length * (wB n + 1) ∧ PyData.intsShortAll 13 (D.pyA xs) = true ∧ PyData.showableAll (D.pyA xs) = true ∧ PyData.hasDictAll (D.pyA xs) = false := by
      intro xs
      induction xs with
      | nil => exact fun _ => ⟨rfl, rfl, Nat.zero_le _, Nat.zero_le _, rfl, rfl, rfl⟩
      | cons x xs ihx =>
        intro h
        rw [List.all_cons, Bool.and_eq_true] at h
        have q := ih x h.1
        obtain ⟨g1, g2, g3, g4, g5, g6, g7⟩ := ihx h.2
        refine ⟨by rw [D.plainA, q.p, g1]; rfl, by rw [D.pyA, PyData.canLayAll0, q.c, g2]; rfl, ?_, ?_, by rw [D.pyA, PyData.intsShortAll, q.i, g5]; rfl, by rw [D.pyA, PyData.showableAll, q.s, g6]; rfl, by rw [D.pyA, PyData.hasDictAll, q.h, g7]; rfl⟩
        · rw [D.pyA, PyData.depthAll]
          exact Nat.max_le.mpr ⟨q.t, g3⟩
        · rw [D.pyA, PyData.weightAll, List.length_cons, Nat.add_mul]
          have := q.w
          omega
    intro d h
    cases d with
    | lst xs =>
      simp only [D.rok, Bool.and_eq_true, decide_eq_true_eq] at h
      obtain ⟨g1, g2, g3, g4, g5, g6, g7⟩ := all xs h.2
      have gw : xs.length * (wB n + 1) ≤ 30 * (wB n + 1) := Nat.mul_le_mul_right _ h.1
      exact ⟨by simpa [D.plain] using g1, by simpa [D.py, PyData.canLay0] using g2, by simpa [D.py, PyData.depth] using g3, by simp only [D.py, PyData.weight, wB]; omega, by simpa [D.py, PyData.intsShort] using g5, by simpa [D.py, PyData.showable] using g6, by simpa [D.py, PyData.hasDict] using g7⟩
    | tup xs =>
      simp only [D.rok, Bool.and_eq_true, decide_eq_true_eq] at h
      obtain ⟨g1, g2, g3, g4, g5, g6, g7⟩ := all xs h.2
      have gw : xs.length * (wB n + 1) ≤ 30 * (wB n + 1) := Nat.mul_le_mul_right _ h.1
      exact ⟨by simpa [D.plain] using g1, by simpa [D.py, PyData.canLay0] using g2, by simpa [D.py, PyData.depth] using g3, by simp only [D.py, PyData.weight, wB]; omega, by simpa [D.py, PyData.intsShort] using g5, by simpa [D.py, PyData.showable] using g6, by simpa [D.py, PyData.hasDict] using g7⟩
    | _ => exact shw_leaf (n + 1) _ h rfl
theorem Shw.len {n : Nat} {d : D} (q : Shw n d) (hn : n ≤ 2) : d.py.shown.length ≤ sizeLine := by
  have hw : wB n ≤ wB 2 := by
    have : n = 0 ∨ n = 1 ∨ n = 2 := by omega
    rcases this with rfl | rfl | rfl <;> decide
  have l0 : d.py.layable0 = true := by
    unfold PyData.layable0
    have h1 := q.t
    have h2 := q.w
    have h3 : wB 2 ≤ 2 ^ 20 := by decide
    rw [q.c, decide_eq_true (show d.py.depth ≤ 64 by omega), decide_eq_true (show d.py.weight ≤ 2 ^ 20 by omega)]
    rfl
  have := PyProof.Rows.shown_le13 l0 q.i
  rw [sizeLine_eq]
  omega
theorem call_repr {X : Cx} (hg : X.A.guards = some []) (hu : X.A.units + 64 < cLine) : CallR X (.builtin "repr") (fun xs H Q => ∃ (a : Addr) (d : PyData), xs = [.ref a] ∧ Dp X.K H (.ref a) d ∧ d.showable = true ∧ d.hasDict = false ∧ d.depth ≤ 60 ∧ d.shown.length ≤ sizeLine ∧ Q (.str d.shown) H) := by
  intro pins s σ H xs us Q I r ⟨a, d, e, hd, h1, h2, h3, h4, q⟩
  subst e
  rw [Vals.ref1 r]
  obtain ⟨as, rd⟩ := Dp.reads I d (.ref a) (.ref a) hd rfl
  exact repr_of_reads' rd h1 (PyData.noDict_hsm h2) hg (by omega) (fun b o e => e) (fun h' u tk hk => ⟨.str d.shown, H, I.kept hk, ⟨u, rfl⟩, q⟩) h4
def rdRepr : List D → (D → Prop) → Prop := fun ds P => ∃ d, ds = [d] ∧ (d.isL || d.isU) = true ∧ d.rok 2 = true ∧ P (.str d.py.shown)
section
variable {X : Cx} {G : Gx} {e : Expr} {es : List Expr} {da : DA} {a b : Expr} {x y : DE} {p pos : Pos}
theorem pd_repr (hgd : X.A.guards = some []) (hu : X.A.units + 64 < cLine) (hm : X.mg "repr" = none) (ha : PAd X G (e :: es) da) (hg : Gl X "repr" := by rfl) (he : starEach (e :: es) X.env = (false, eval e X.env) :: starEach es X.env := by rfl) (hpl : (backTo pos (starEach es X.env)).any (·.1) = false := by rfl) :
    PEd X G (.Call (.Name "repr" p) (e :: es) [] pos) (deB rdRepr da) :=
  PE.imp (pe_callB (call_repr hgd hu) hg hm (by decide +kernel) ha (by decide) (by decide) he hpl) (teB fun xs ds B H P Q hb hf r ⟨d, h1, h2, h3, p⟩ q => by
    subst h1
    have sh := shw 2 d h3
    cases r with
    | cons rv rn =>
    cases rn
    have dp := dp_ex hb (rv.dp sh.p)
    have key : ∀ a : Addr, rv = rv → True := fun _ _ => trivial
    cases d with
    | lst zs =>
      cases rv with
      | lst g1 g2 => exact ⟨_, _, rfl, dp, sh.s, sh.h, by have := sh.t; omega, sh.len (Nat.le_refl _), q _ _ B H (.refl hb hf) p (.str _)⟩
    | tup zs =>
      cases rv with
      | tup g1 g2 => exact ⟨_, _, rfl, dp, sh.s, sh.h, by have := sh.t; omega, sh.len (Nat.le_refl _), q _ _ B H (.refl hb hf) p (.str _)⟩
    | _ => cases h2)
theorem op_neS : OpR X (compareOp .NotEq) (fun x y H Q => ∃ i j, x = .str i ∧ y = .str j ∧ Q (.bl (i != j)) H) := by
  intro pins s σ H x y v u Q I rx ry ⟨i, j, e1, e2, q⟩
  subst e1 e2
  obtain ⟨t, rfl⟩ := rx
  obtain ⟨t', rfl⟩ := ry
  exact PyProof.Rows.ne_str ⟨.bl _, H, I, rfl, q⟩
def rdNeS : D → D → (D → Prop) → Prop := fun x y P => ∃ i j, x = .str i ∧ y = .str j ∧ P (.bl (i != j))
theorem pd_neS (ha : PEd X G a x) (hb : PEd X G b y) : PEd X G (.Compare a [.NotEq] [b] pos) (de2 rdNeS x y) := pd_cmp op_neS (fun x y d e B H P Q he hf rx ry ⟨i, j, h1, h2, p⟩ q => by
  subst h1 h2
  cases rx
  cases ry
  exact ⟨i, j, rfl, rfl, q _ _ B H (.refl he hf) p (.bl _)⟩) ha hb (nomark _)
theorem ptd_neS (ha : PEd X G a x) (hb : PEd X G b y) : PTd X G (.Compare a [.NotEq] [b] pos) (dtV (de2 rdNeS x y)) := ptd_cmp op_neS (fun x y d e B H P Q he hf rx ry ⟨i, j, h1, h2, p⟩ q => by
  subst h1 h2
  cases rx
  cases ry
  exact ⟨i, j, rfl, rfl, q _ _ B H (.refl he hf) p (.bl _)⟩) ha hb (nomark _)
end
end Sd
end
-- SdEnd
section
set_option Elab.async false
set_option linter.all false
set_option maxRecDepth 100000
set_option maxHeartbeats 4000000
set_option autoImplicit false
/-! the end of a law whose def is run at the first caller only -/
namespace Sd
open PySem PySem.Spec PyProof.Rows L2
open LamX (TabB)
/-- what the law's def is asked at its one call: the script at a, the tables cs still empty, nothing else in the abstract heap -/
structure AtCall (P : Program) (w : World) (K : PySem.W.Frag) (mg : Str → Option Value) (cs : List (Addr × Addr)) (s1 : Shared) (a : Addr) (ns : List Int) (base : Heap) (H : Hp) : Prop where
  kin : K.In base
  glo : base.Ns mainGlobals mg
  tab : ∀ p ∈ cs, TabB base mg p.1 p.2
  env : Env0 P w K mg base callerA [] s1 H
  emp : ∀ p ∈ cs, H p.2 = some (.tbl #[])
  only : ∀ b u, H b = some u → (∃ p ∈ cs, p.2 = b) ∨ ∃ o xs, u = .frz o (.lst xs)
  scr : SqL K H a (ns.map V.int)
/-- the abstract heap at the call -/
def H0 (K : PySem.W.Frag) (cs : List (Addr × Addr)) (a : Addr) (vs : List Value) (ns : List Int) : Hp := fun b => if b ∈ cs.map (·.2) then some (.tbl #[]) else if b = a ∧ K.lookup a = none then some (.frz { cls := .type "list", data := .seq vs.toArray } (.lst (ns.map V.int))) else none
section
variable {K : PySem.W.Frag} {cs : List (Addr × Addr)} {a : Addr} {vs : List Value} {ns : List Int}
theorem H0_tab {b : Addr} (h : b ∈ cs.map (·.2)) : H0 K cs a vs ns b = some (.tbl #[]) := if_pos h
theorem H0_some {b : Addr} {u : HO} (h : H0 K cs a vs ns b = some u) : (b ∈ cs.map (·.2) ∧ u = .tbl #[]) ∨ (b ∉ cs.map (·.2) ∧ b = a ∧ K.lookup a = none ∧ u = .frz { cls := .type "list", data := .seq vs.toArray } (.lst (ns.map V.int))) := by
  unfold H0 at h
  by_cases h1 : b ∈ cs.map (·.2)
  · rw [if_pos h1] at h
    exact .inl ⟨h1, (Option.some.inj h).symm⟩
  · rw [if_neg h1] at h
    by_cases h2 : b = a ∧ K.lookup a = none
    · rw [if_pos h2] at h
      exact .inr ⟨h1, h2.1, h2.2, (Option.some.inj h).symm⟩
    · rw [if_neg h2] at h
      cases h
end
theorem law_at {P : Program} {w : World} {K : PySem.W.Frag} {mg mb : Str → Option Value} {fa a : Addr} {cs : List (Addr × Addr)} {s1 : Shared} {vs : List Value} {ns : List Int}
    (KX : K.In s1.heap) (hg : s1.heap.Ns mainGlobals mg) (hb : s1.heap.Ns builtinsNs mb) (hbb : ∀ x : Str, x ≠ "__name__" → mb x = bootBuiltins x) (hlim : s1.heap.NoLimit) (hgen : s1.gens = #[])
    (hT : ∀ p ∈ cs, s1.heap.get? p.2 = some { cls := .none, data := .fields #[] }) (nT : ∀ p ∈ cs, K.lookup p.2 = none) (hC : ∀ p ∈ cs, PySem.W.CodeHd s1.heap p.1 p.2)
    (hbm : ∃ (bm : Addr) (ob : Obj), mg "__builtins__" = some (.ref bm) ∧ bm ≠ builtinsNs ∧ s1.heap.get? bm = some ob ∧ ob.cls = .type "module" ∧ ob.dict = some builtinsNs ∧ ob.data = .plain)
    (ha : s1.heap.get? a = some { cls := .type "list", data := .seq vs.toArray }) (hi : IntsAre vs ns) (hl : ns.length ≤ sizeLine)
    (F : ∀ (base : Heap) (H : Hp), AtCall P w K mg cs s1 a ns base H → codeAny (model P w) callerA (.call (.ref fa) ⟨[.ref a], []⟩) (CR (L2.CX P w) [] P w H s1 (fun v _ => v = .bl true) E0) s1) :
    codeAny (model P w) callerA (.call (.ref fa) ⟨[.ref a], []⟩) (fun r s' => r = .ok (.ret (.bool true)) ∧ OldK s1.heap s'.heap ∧ s'.os = s1.os ∧ AllBare s'.gens) s1 := by
  have rv := vals_ints hi
  have tabAt : ∀ b ∈ cs.map (·.2), s1.heap.get? b = some { cls := .none, data := .fields #[] } ∧ K.lookup b = none := fun b hm => by
    obtain ⟨p, hp, rfl⟩ := List.mem_map.mp hm
    exact ⟨hT p hp, nT p hp⟩
  have aN : a ∉ cs.map (·.2) := fun z => by
    have q := (tabAt a z).1
    rw [ha] at q
    have q2 : Data.seq vs.toArray _ = Data.fields #[] := congrArg Obj.data (Option.some.inj q)
    cases q2
  -- what is tracked is a list or an empty table
  have plain : ∀ {b : Addr} {o : Obj}, s1.heap.get? b = some o → (∀ us n, o.data ≠ .seq us n) → o.data ≠ .fields #[] → H0 K cs a vs ns b = none := fun {b o} e k1 k2 => by
    cases q : H0 K cs a vs ns b with
    | none => rfl
    | some u =>
      rcases H0_some q with ⟨h1, _⟩ | ⟨_, h2, _⟩
      · rw [(tabAt b h1).1] at e
        cases e
        exact (k2 rfl).elim
      · rw [h2, ha] at e
        cases e
        exact (k1 _ _ rfl).elim
  have seen : ∀ {b : Addr} {o : Obj}, s1.heap.get? b = some o → (∀ us n, o.data ≠ .seq us n) → o.data ≠ .fields #[] → (hidT s1.heap (H0 K cs a vs ns)).get? b = some o := fun e k1 k2 => hidT_get e (plain e k1 k2)
  have nsAt : ∀ {b : Addr} {m : Str → Option Value}, s1.heap.Ns b m → (hidT s1.heap (H0 K cs a vs ns)).Ns b m := fun {b m} ⟨o, es, ep, e, d, r⟩ => ⟨o, es, ep, seen e (fun us n z => by rw [d] at z; cases z) (fun z => by rw [d] at z; cases z), d, r⟩
  have kin : K.In (hidT s1.heap (H0 K cs a vs ns)) := fun b o e => hidT_get (KX b o e) (by
    cases q : H0 K cs a vs ns b with
    | none => rfl
    | some u =>
      rcases H0_some q with ⟨h1, _⟩ | ⟨_, h2, h3, _⟩
      · rw [(tabAt b h1).2] at e
        cases e
      · rw [h2, h3] at e
        cases e)
  have tbs : ∀ p ∈ cs, TabB (hidT s1.heap (H0 K cs a vs ns)) mg p.1 p.2 := fun p hp => by
    have e0 := hT p hp
    refine ⟨?_, ?_, fun z => ?_⟩
    · obtain ⟨o, us, file, tf, flags, tg, inF, text, tt, g1, g2, g3, g4, g5, g6, g7, g8, g9, g10⟩ := hC p hp
      exact ⟨o, us, file, tf, flags, tg, inF, text, tt, seen g1 (fun us' n z => by rw [g3] at z; cases z) (fun z => by
        rw [g3] at z
        cases z
        simp at g4), g2, g3, g4, g5, g6, g7, g8, g9, g10⟩
    · obtain ⟨bm, ob, g1, g2, g3, g4, g5, g6⟩ := hbm
      refine ⟨bm, ob, g1, g2, fun z => ?_, fun z => ?_, seen g3 (fun us' n z => by rw [g6] at z; cases z) (fun z => by rw [g6] at z; cases z), g4, g5, g6⟩
      · obtain ⟨o, es, ep, e, d, _⟩ := hg
        rw [z, e] at g3
        cases g3
        rw [d] at g6
        cases g6
      · rw [z, e0] at g3
        cases g3
        cases g6
    · obtain ⟨o, es, ep, e, d, _⟩ := hg
      rw [z, e0] at e
      cases e
      cases d
  have hok : HOk P w (H0 K cs a vs ns) s1.heap := fun b u q => by
    rcases H0_some q with ⟨h1, rfl⟩ | ⟨_, h2, _, rfl⟩
    · exact (tabAt b h1).1
    · rw [h2]
      exact ⟨ha, by rw [List.length_map]; exact hl, vs, _, rv, ha⟩
  have env : Env0 P w K mg (hidT s1.heap (H0 K cs a vs ns)) callerA [] s1 (H0 K cs a vs ns) :=
    ⟨rfl, ⟨kin, nsAt hg, ⟨mb, nsAt hb, hbb⟩, let ⟨mc, h1, h2⟩ := hlim; ⟨mc, nsAt h1, h2⟩⟩, fun b o e => of_hidT e, Nat.le_of_eq (hidT_size _ _), trivial, fun b z => absurd (show b ∈ ([] : List Addr) from z) (by simp), hok, .of_eq hgen⟩
  have scr : SqL K (H0 K cs a vs ns) a (ns.map V.int) := by
    cases hk : K.lookup a with
    | none => exact .inl (.inr ⟨_, (if_neg aN).trans (if_pos ⟨rfl, hk⟩)⟩)
    | some o =>
      have e := KX a o hk
      rw [ha] at e
      cases e
      exact .inr ⟨_, vs.toArray, _, hk, rfl, rfl, rfl, by rw [List.size_toArray, hi.length]; exact hl, by simpa using rv⟩
  refine codeAny_mono (F _ _ ⟨kin, nsAt hg, tbs, env, fun p hp => H0_tab (List.mem_map.mpr ⟨p, hp, rfl⟩), fun b u q => ?_, scr⟩) fun r s' out => ?_
  · rcases H0_some q with ⟨h1, _⟩ | ⟨_, _, _, h4⟩
    · obtain ⟨p, hp, e⟩ := List.mem_map.mp h1
      exact .inl ⟨p, hp, e⟩
    · exact .inr ⟨_, _, h4⟩
  cases r with
  | error e =>
    obtain ⟨_, _, _, _, _, _, _, _, _, _, _, _, z⟩ := out
    exact z.elim
  | ok fl =>
    cases fl with
    | next => exact False.elim out
    | brk => exact False.elim out
    | cont => exact False.elim out
    | ret u =>
      obtain ⟨v, H', os, bare, un, hok', rel, ev⟩ := out
      have ev : v = .bl true := ev
      subst ev
      obtain rfl : u = Value.bool true := rel
      have kept : ∀ b o, b ∉ cs.map (·.2) → s1.heap.get? b = some o → s'.heap.get? b = some o := fun b o nb e => by
        cases q : H0 K cs a vs ns b with
        | none => exact un.keep b o e q (fun z => absurd (show b ∈ ([] : List Addr) from z) (by simp)) (by simp)
        | some u =>
          rcases H0_some q with ⟨h1, _⟩ | ⟨_, h2, h3, rfl⟩
          · exact (nb h1).elim
          · obtain ⟨g1, _⟩ := hok' b _ (un.frzs b _ _ q)
            obtain ⟨g2, _⟩ := hok b _ q
            rw [e] at g2
            cases g2
            exact g1
      have grown : ∀ b ∈ cs.map (·.2), ∃ more : Array Value, s'.heap.get? b = some { cls := .none, data := .fields more } := fun b hm => by
        obtain ⟨more, q⟩ := un.tbls b #[] (H0_tab hm)
        exact ⟨_, hok' b _ q⟩
      refine ⟨rfl, ⟨fun b o e => ?_, fun b o e => ?_⟩, os, bare⟩
      · by_cases hm : b ∈ cs.map (·.2)
        · obtain ⟨more, g⟩ := grown b hm
          obtain ⟨p, hp, ep⟩ := List.mem_map.mp hm
          rw [(tabAt b hm).1] at e
          cases e
          rw [← ep] at g ⊢
          exact .inr (.inl ⟨((hC p hp).tab (hT p hp)).isCodeTable, rfl, #[], more, rfl, by rw [Array.empty_append]; exact g⟩)
        · exact .inl (kept b o hm e)
      · by_cases hm : b ∈ cs.map (·.2)
        · obtain ⟨more, g⟩ := grown b hm
          exact ⟨_, g⟩
        · exact ⟨o, kept b o hm e⟩
/-- the end -/
theorem walk_at {l : PySem.W.OpenLaw} {n : Nat} {q : Program} {loose : List Str} {XP : (Str → Option Value) → Heap → Prop} {YP : World → Heap → Prop} {d : DefRec}
    (hn : l.most = some n) (hn2 : n ≤ sizeLine) (hdf : d.params.defaults = [])
    (F : ∀ (w : World) (mg : Str → Option Value) (fa : Addr) (h : Heap), YP w h → h.Ns mainGlobals mg → mg d.name = some (.ref fa) → ∃ (K : PySem.W.Frag) (cs : List (Addr × Addr)), K.In h ∧ (∀ p ∈ cs, h.get? p.2 = some { cls := .none, data := .fields #[] }) ∧ (∀ p ∈ cs, K.lookup p.2 = none) ∧ (∀ p ∈ cs, PySem.W.CodeHd h p.1 p.2) ∧
      ∀ (s1 : Shared) (a : Addr) (ns : List Int) (base : Heap) (H : Hp), s1.heap = h → ns.length ≤ n → AtCall l.prog w K mg cs s1 a ns base H → codeAny (model l.prog w) callerA (.call (.ref fa) ⟨[.ref a], []⟩) (CR (L2.CX l.prog w) [] l.prog w H s1 (fun v _ => v = .bl true) E0) s1) :
    PySem.W.WalkO q loose XP YP l.row.toRowW d [] (fun f vs => PySem.call f vs) := by
  refine Att.attach_callB hn hdf fun w s0 s1 mg mb fa o pm cd doc a vs ns G Y ho hd hcd hmg hobj hints hlen hbits hg => ?_
  obtain ⟨K, cs, KX, hT, nT, hC, hF⟩ := F w mg fa _ Y G.T.g hmg
  exact law_at KX G.T.g G.T.b G.T.builtins G.T.nolimit hg hT nT hC G.T.bmain hobj hints (Nat.le_trans hlen hn2) fun base H c => hF s1 a ns base H rfl hlen c
end Sd
end
-- SdMore
section
set_option Elab.async false
set_option linter.all false
set_option maxRecDepth 100000
set_option maxHeartbeats 4000000
set_option autoImplicit false
namespace Sd
open PySem PySem.Spec PyProof.Rows L2
open AutoSeq1 (wpAny_loadPart')
open MeetsSeq MeetsSeq2 MeetsSeq3 SeqRoads2
/-! a tuple once -/
theorem tuple_mul1 (l : Addr) (items : Array Value) (n : Nat) (dd : Option Addr) (sl : Array (Option Value)) (x : Int) (u : Tok) (hx : x = 1) :
    Meets (Builtin.«tuple.__mul__» ⟨[.ref l, .int x u], []⟩) (fun _ R s => s.heap.get? l = some { cls := .type "tuple", dict := dd, data := .seq items n, slots := sl } ∧ R (.ok (.ret (Value.ref l))) s) :=
  .of_wp fun prog w A R s h => by
    obtain ⟨hp, g, d, tk, os⟩ := s
    obtain ⟨hl, h⟩ := h
    have f1 := AutoSeq1.idx_int
    wp_walk using wpAny_loadPart' hl
    repeat (first
      | (refine wpAny_ite_false (decide_eq_false (by rw [hx]; decide)) ?_; wp_walk using wpAny_loadPart' hl)
      | (refine wpAny_ite_true (decide_eq_true (by rw [hx]; simp)) ?_; wp_walk using wpAny_loadPart' hl))
    exact ⟨_, rfl, h⟩
section
variable {X : Cx} {G : Gx} {a b : Expr} {da db : DE} {pos : Pos}
theorem op_repT1 : OpR X (binaryOp .Mult) (fun x y H Q => ∃ l xs, x = .ref l ∧ y = .int 1 ∧ SqT X.K H l xs ∧ Q (.ref l) H) := by
  intro pins s σ H x y v u Q I rx ry ⟨l, xs, e1, e2, hT, q⟩
  subst e1 e2
  cases rx
  obtain ⟨t, rfl⟩ := ry
  obtain ⟨its, r, ⟨⟨cls, dd, data, sl⟩, ho, hc, n, hd⟩, hs⟩ := I.tuple hT
  simp only at hc hd
  subst hc hd
  exact wpAny_binaryOp_repeat_ref (T := "tuple") (U := "int") (by decide) ⟨_, ho, rfl⟩ (fun s' => typeIs_int s' 1 t) noFill_tuple_mul F.fills_int_mul F.slot_int_rmul repeat_tuple F.slot_int_index.lookup
    (call_meets F.slot_int_rmul (typeIs_int s 1 t) F.entry_int_rmul (F.args_int_rmul_2 _ _) (int_rmul_tuple 1 t l its.toArray n dd sl)
      ⟨ho, rfl, ⟨_, ho, rfl⟩, call_meets F.slot_tuple_mul ⟨_, ho, rfl⟩ F.entry_tuple_mul (F.args_tuple_mul_2 _ _) (tuple_mul1 l its.toArray n dd sl 1 t rfl) ⟨ho, ⟨V.ref l, H, I, (show L2.RelV (V.ref l) (Value.ref l) from rfl), q⟩⟩⟩)
theorem OpR.or2 {m : Sem Value} {op : Value → Value → Sem Value} {r r' : R2} (h : OpR X op r) (h' : OpR X op r') : OpR X op (fun x y H Q => r x y H Q ∨ r' x y H Q) := fun pins s σ H x y v u Q I rx ry z => z.elim (fun z => h pins s σ H x y v u Q I rx ry z) fun z => h' pins s σ H x y v u Q I rx ry z
def rdRepT : D → D → (D → Prop) → Prop := fun x y P => ∃ xs n, x = .tup xs ∧ y = .int n ∧ xs ≠ [] ∧ xs.length ≤ 1000 ∧ 1 ≤ n ∧ n ≤ 1000 ∧ P (.tup (repD n xs))
theorem pd_repT (ha : PEd X G a da) (hb : PEd X G b db) : PEd X G (.BinOp a .Mult b pos) (de2 rdRepT da db) :=
  pd_op (OpR.or2 (m := pure .none) op_repT op_repT1) (fun x y d e B H P Q he hf rx ry ⟨xs, n, h1, h2, h3, h4, h5, h6, p⟩ q => by
    subst h1; subst h2
    cases rx with
    | @tup a0 vs0 ds0 hx ra =>
      cases ry
      by_cases h1 : n = 1
      · subst h1
        refine .inr ⟨_, _, rfl, rfl, exT he hx, q _ _ B H (.refl he hf) p ?_⟩
        have e : repD 1 xs = xs := by simp [repD]
        rw [e]
        exact .tup hx ra
      · refine .inl ⟨_, n, _, rfl, rfl, exT he hx, fun z => h3 (by
          have := ra.length
          rw [z] at this
          exact List.eq_nil_of_length_eq_zero this.symm), by omega, h6, by rw [ra.length]; exact h4, fun p' hp => ?_⟩
        have m2 := Fm.new (o := .tup (List.replicate n.toNat vs0).flatten) he hf hp
        exact q _ _ _ _ m2 p (.tup (SqT.of upd_same) ((ra.rep _).mono m2.b))) ha hb
/-- {} -/
theorem pd_dct : PEd X G (.Dict [] [] pos) (deC .dct) := PE.imp pe_dnewK fun σ H Q ⟨B, δ, P, s, h, q⟩ p hp => by
  have m2 := Fm.new (o := .dK []) s.e s.f hp
  exact q _ _ _ _ m2 h (.dct upd_same)
end
/-! in a lambda's body -/
section
variable {Y : Cx} {F : Fs} {B0 H0 : Hp} {k j i : Nat} {x y : Str} {sp : DSp} {dn : List D} {e : Expr} {es : List Expr} {da : DA} {p pos : Pos} {Xc : Str → D → Prop} {E : XK}
theorem lam_of {db : (Str → D → Prop) → DE} {E : XK} {e : Expr} (h : ∀ (B0 H0 : Hp) (Xc : Str → D → Prop), DlvX Y.K ⟨F, B0, H0⟩ Xc E → PEd Y ⟨F, B0, H0⟩ e (db Xc)) : PE Y e (lamT Y.K F db E) := lam_body fun G' Xc e1 e2 => by
  obtain ⟨F', B0, H0⟩ := G'
  cases e1
  exact h B0 H0 Xc e2
theorem lam_callX (c : Cl Y.prog Y.w Y.K Y.mg Y.base k x sp dn) (hr : Room j Y.A) (hk : k ≤ j) (hE : DlvX Y.K ⟨F, B0, H0⟩ Xc E) (hx : Passes (L2.CX Y.prog Y.w) Y E) (ha : PAd Y ⟨F, B0, H0⟩ (e :: es) da) (hg : Gl Y x := by rfl) (hdb : (x == ("__debug__" : Str)) = false := by decide)
    (he : starEach (e :: es) Y.env = (false, eval e Y.env) :: starEach es Y.env := by rfl) (hpl : (backTo pos (starEach es Y.env)).any (·.1) = false := by rfl) : PEd Y ⟨F, B0, H0⟩ (.Call (.Name x p) (e :: es) [] pos) (deCall sp F Xc dn da) := pd_callX c hr hk hE hx ha hg hdb he hpl
theorem lam_call (c : Cl Y.prog Y.w Y.K Y.mg Y.base k x sp dn) (hr : Room j Y.A) (hk : k ≤ j) (ha : PAd Y ⟨F, B0, H0⟩ (e :: es) da) (hg : Gl Y x := by rfl) (hdb : (x == ("__debug__" : Str)) = false := by decide)
    (he : starEach (e :: es) Y.env = (false, eval e Y.env) :: starEach es Y.env := by rfl) (hpl : (backTo pos (starEach es Y.env)).any (·.1) = false := by rfl) : PEd Y ⟨F, B0, H0⟩ (.Call (.Name x p) (e :: es) [] pos) (deCall sp F noX dn da) := pd_call c hr hk ha hg hdb he hpl
theorem lam_callV {a : Addr} (c : Cl Y.prog Y.w Y.K Y.mg Y.base k y sp []) (hg : Y.mg y = some (.ref a)) (hr : Room j Y.A) (hk : k ≤ j) (hE : DlvX Y.K ⟨F, B0, H0⟩ Xc E) (hx : Passes (L2.CX Y.prog Y.w) Y E) (hN : Y.N[i]? = some x) (hv : Vis Y.env.scope x) (ha : PAd Y ⟨F, B0, H0⟩ (e :: es) da)
    (hdb : (x == ("__debug__" : Str)) = false := by decide) (hcd : (x == ("__classdict__" : Str)) = false := by decide) (he : starEach (e :: es) Y.env = (false, eval e Y.env) :: starEach es Y.env := by rfl) (hpl : (backTo pos (starEach es Y.env)).any (·.1) = false := by rfl) :
    PEd Y ⟨F, B0, H0⟩ (.Call (.Name x p) (e :: es) [] pos) (deCallV i a sp F Xc da) := pd_callV c hg hr hk hE hx hN hv ha hdb hcd he hpl
theorem lam_line (c : Ln Y.prog Y.w Y.K Y.mg Y.base k) (hr : Room j Y.A) (hk : k + 1 ≤ j) (hE : DlvX Y.K ⟨F, B0, H0⟩ Xc E) (hx : Passes (L2.CX Y.prog Y.w) Y E) (ha : PAd Y ⟨F, B0, H0⟩ (e :: es) da) (hg : Gl Y "Line" := by rfl)
    (he : starEach (e :: es) Y.env = (false, eval e Y.env) :: starEach es Y.env := by rfl) (hpl : (backTo pos (starEach es Y.env)).any (·.1) = false := by rfl) : PEd Y ⟨F, B0, H0⟩ (.Call (.Name "Line" p) (e :: es) [] pos) (deCall sp_Line F Xc [] da) := pd_line c hr hk hE hx ha hg he hpl
end
end Sd
end
-- SdSeq
section
set_option Elab.async false
set_option linter.all false
set_option maxRecDepth 100000
set_option maxHeartbeats 4000000
set_option autoImplicit false
/-! more of lists: index, max with a default, sorted pairs, two own lists at once -/
namespace Sd
open PySem PySem.Spec PyProof.Rows L2
open Evl (Ex)
/-! xs.index(k), ints -/
def deIndex (de : DE) (da : DA) : DE := fun δ P => de δ fun x => ∃ ns : List Int, x = .lst (ns.map .int) ∧ da δ fun ys => ∃ k : Int, ys = [.int k] ∧ k ∈ ns ∧ P (.int ((ns.idxOf k : Nat) : Int))
theorem eqV_int (i j : Int) : eqV (.int i) (.int j) = decide (i = j) := by
  first | rfl | (simp [eqV])
section
variable {X : Cx} {G : Gx} {o e : Expr} {es : List Expr} {de : DE} {da : DA} {apos cpos pos p : Pos}
theorem pd_index (ho : PEd X G o de) (ha : PAd X G (e :: es) da) (hbase : attributeBase o "index" X.env (eval o X.env) = eval o X.env := by rfl)
    (hfew : ((backTo cpos (starEach (e :: es) X.env)).all (fun x => !x.1) && (backToKw cpos (keywordEach [] X.env)).all (fun x => x.1.isSome) && decide ((e :: es).length + ([] : List Keyword).length + (if ([] : List Keyword).isEmpty then 0 else 1) < 30)) = true := by rfl)
    (hline : (apos.endLine == cpos.line) = true := by rfl) (hs : starEach (e :: es) X.env = (false, eval e X.env) :: starEach es X.env := by rfl) (hplain : (backTo cpos (starEach es X.env)).any (·.1) = false := by rfl) :
    PEd X G (.Call (.Attribute o "index" apos) (e :: es) [] cpos) (deIndex de da) :=
  PE.imp (pe_bm PySem.F.plainAttrs_list PySem.F.slot_list_index PySem.F.type_list_index mt_index ho ha hbase hfew hline hs hplain) fun σ H Q ⟨B, δ, P, s, h, q⟩ => ⟨B, δ, _, s, h, fun x d B1 H1 m1 ⟨ns, e, p1⟩ r1 => by
    subst e
    cases r1 with
    | lst h1 ra =>
      rw [ra.ints] at h1
      refine ⟨.inl ⟨rfl, _, SqL.of (m1.e _ _ h1)⟩, B1, δ, _, s.mono m1, p1, fun vs ys B2 H2 m2 ⟨k, e2, hk, p2⟩ r2 => ?_⟩
      subst e2
      cases r2 with
      | cons rk rn =>
      cases rn
      cases rk
      have hlt : ns.idxOf k < ns.length := List.idxOf_lt_length_iff.mpr hk
      refine ⟨_, _, .int k, ns.idxOf k, .int k, rfl, rfl, SqL.of ((m2.b.trans m2.e) _ _ h1), rfl, ?_, ?_, ?_, fun m z hm hz => ?_, q _ _ B2 H2 (m1.trans m2) p2 (.int _)⟩
      · rw [List.all_eq_true]
        intro y hy
        obtain ⟨n, _, rfl⟩ := List.mem_map.mp hy
        rfl
      · rw [List.getElem?_map, List.getElem?_eq_getElem hlt, List.getElem_idxOf]
        rfl
      · rw [eqV_int]
        simp
      · rw [List.getElem?_map, Option.map_eq_some_iff] at hz
        obtain ⟨n, hn, rfl⟩ := hz
        rw [eqV_int]
        refine decide_eq_false fun e => ?_
        subst e
        obtain ⟨hm', hn'⟩ := List.getElem?_eq_some_iff.mp hn
        have hx := List.not_of_lt_findIdx (p := (· == n)) (xs := ns) (i := m) (by simpa [List.idxOf] using hm)
        simp [hn'] at hx⟩
end
end Sd
end
-- SdSort
section
set_option Elab.async false
set_option linter.all false
set_option maxRecDepth 100000
set_option maxHeartbeats 4000000
set_option autoImplicit false
/-! sorted(xs), pairs of ints -/
namespace Sd
open PySem PySem.Spec PyProof.Rows L2
open Evl (Ex)
def intIn : Value → Int
  | .int i _ => i
  | _ => 0
def pairAt (h : Heap) : Value → Int × Int
  | .ref t => match h.get? t with
    | some o => match o.data with
      | .seq its _ => (intIn (its[0]?.getD .none), intIn (its[1]?.getD .none))
      | _ => (0, 0)
    | none => (0, 0)
  | _ => (0, 0)
inductive PrA (R : V → Int × Int → Prop) : List V → List (Int × Int) → Prop
  | nil : PrA R [] []
  | cons {x p xs ps} : R x p → PrA R xs ps → PrA R (x :: xs) (p :: ps)
def rSortedPT (K : PySem.W.Frag) : List V → Hp → VK → Prop := fun vs H Q => ∃ (a : Addr) (xs : List V) (ps : List (Int × Int)) (R : V → Int × Int → Prop), vs = [V.ref a] ∧ SqL K H a xs ∧ (∀ x p, R x p → ∃ t, x = V.ref t ∧ SqT K H t [.int p.1, .int p.2]) ∧ PrA R xs ps ∧
  ∀ (ys : List V) (qs : List (Int × Int)) (l : Addr), PrA R ys qs → qs.Perm ps → qs.Pairwise (fun p q => SrtO.lexB q p = false) → H l = none → Q (.ref l) (upd H l (.lst ys))
theorem PrA.ref {R : V → Int × Int → Prop} {P : V → Prop} (h : ∀ x p, R x p → P x) : ∀ {xs ps}, PrA R xs ps → ∀ x ∈ xs, P x
  | _, _, .nil, x, m => nomatch m
  | _, _, .cons h1 h2, x, m => by
    rcases List.mem_cons.mp m with rfl | m
    · exact h _ _ h1
    · exact PrA.ref h h2 x m
theorem PrA.back {R : V → Int × Int → Prop} {k : Value → Int × Int} : ∀ {us : List Value} {ps}, PrA R (us.map backV) ps → (∀ u p, u ∈ us → R (backV u) p → k u = p) → us.map k = ps ∧ ∀ u ∈ us, R (backV u) (k u)
  | [], _, .nil, _ => ⟨rfl, fun u m => nomatch m⟩
  | u :: us, _, .cons h1 h2, h => by
    obtain ⟨e1, e2⟩ := PrA.back (k := k) h2 fun u p m => h u p (List.mem_cons_of_mem _ m)
    have e := h u _ List.mem_cons_self h1
    refine ⟨by rw [List.map_cons, e, e1], fun w m => ?_⟩
    rcases List.mem_cons.mp m with rfl | m
    · rw [e]; exact h1
    · exact e2 w m
theorem PrA.of {R : V → Int × Int → Prop} {k : Value → Int × Int} : ∀ {us : List Value}, (∀ u ∈ us, R (backV u) (k u)) → PrA R (us.map backV) (us.map k)
  | [], _ => .nil
  | u :: us, h => .cons (h u List.mem_cons_self) (PrA.of fun w m => h w (List.mem_cons_of_mem _ m))
section
variable {X : Cx}
theorem sp_at {pins : List (Addr × Obj)} {s : Shared} {σ : L2.St} {H : Hp} {t : Addr} {p : Int × Int} (I : Inv X pins σ H s) (h : SqT X.K H t [.int p.1, .int p.2]) : pairAt s.heap (.ref t) = p ∧ Srt.IsPair s.heap (.ref t) p.1 p.2 := by
  obtain ⟨its2, r2, ⟨o, ho, hc, n, hd⟩, _⟩ := I.tuple h
  obtain ⟨u1, u2, rfl, ri, rj⟩ := vals2 r2
  obtain ⟨t1, rfl⟩ := ri
  obtain ⟨t2, rfl⟩ := rj
  refine ⟨?_, t, o, t1, t2, n, rfl, ho, hc, hd⟩
  show pairAt s.heap (.ref t) = (p.1, p.2)
  simp only [pairAt, ho, hd]
  rfl
theorem cr_sortedPT : CallR X (.builtin "sorted") (rSortedPT X.K) := by
  intro pins s σ H vs us Q I r h
  obtain ⟨a, xs, ps, R, rfl, hs, hR, hx, q⟩ := h
  obtain ⟨its, rv, hl, hz⟩ := I.list hs
  obtain ⟨u, rfl, ru⟩ := vals1 r
  obtain rfl : u = Value.ref a := ru
  obtain ⟨e1, e2⟩ := refs_back rv (hx.ref (P := fun x => ∃ t, x = V.ref t) fun x p h => by
    obtain ⟨t, e, _⟩ := hR x p h
    exact ⟨t, e⟩)
  have hat : ∀ u p, u ∈ its → R (backV u) p → pairAt s.heap u = p ∧ Srt.IsPair s.heap u p.1 p.2 := fun u p m h => by
    obtain ⟨t, rfl⟩ := e2 u m
    obtain ⟨t', e, ht⟩ := hR _ _ h
    cases e
    exact sp_at I ht
  rw [e1] at hx
  obtain ⟨ek, er⟩ := hx.back (k := pairAt s.heap) fun u p m h => (hat u p m h).1
  refine SrtO.sorted_pairsO (k := pairAt s.heap) hl.isList (by rw [← rv.length]; exact hz) (fun v hv => (hat v _ hv (er v hv)).2) fun h' d out h1 h2 kp hd hn => ?_
  have h3 : ∀ u ∈ out, ∃ a, u = Value.ref a := fun u hu => e2 u (h2.perm.mem_iff.mp hu)
  obtain ⟨n, hn⟩ := hn
  refine ⟨.ref d, upd H d (.lst (out.map backV)), I.laid (t' := s.toks) kp hd ⟨?_, out, n, vals_back h3, hn⟩, rfl, q _ (out.map (pairAt s.heap)) d (.of fun u hu => er u (h2.perm.mem_iff.mp hu)) (by rw [← ek]; exact h2.perm.map _) (List.pairwise_map.mpr h1) (I.hok.fresh hd)⟩
  rw [List.length_map, h2.perm.length_eq, ← rv.length]
  exact hz
end
/-! over data -/
def prD (p : Int × Int) : D := .tup [.int p.1, .int p.2]
def rdSortedP : List D → (D → Prop) → Prop := fun ds P => ∃ ps : List (Int × Int), ds = [.lst (ps.map prD)] ∧ ∀ qs : List (Int × Int), qs.Perm ps → qs.Pairwise (fun p q => SrtO.lexB q p = false) → P (.lst (qs.map prD))
theorem PrA.rp {K : PySem.W.Frag} {B : Hp} : ∀ {ps : List (Int × Int)} {vs}, RpA K B vs (ps.map prD) → PrA (fun v p => Rp K B v (prD p)) vs ps
  | [], _, .nil => .nil
  | p :: ps, _, .cons h1 h2 => .cons h1 (PrA.rp h2)
theorem PrA.pr {K : PySem.W.Frag} {B : Hp} : ∀ {ps : List (Int × Int)} {vs}, PrA (fun v p => Rp K B v (prD p)) vs ps → RpA K B vs (ps.map prD)
  | [], _, .nil => .nil
  | p :: ps, _, .cons h1 h2 => .cons h1 (PrA.pr h2)
theorem snd_sortedP {X : Cx} {F : Fs} : SndC X.K F (rSortedPT X.K) rdSortedP := fun xs ds B H P Q he hf r ⟨ps, h1, p⟩ q => by
  subst h1
  cases r with
  | cons rx rn =>
    cases rn
    cases rx with
    | lst h ra =>
      refine ⟨_, _, ps, fun v p => Rp X.K B v (prD p), rfl, SqL.of (he _ _ h), fun x p r => ?_, PrA.rp ra, fun ys qs l hr hp hs hn => newL q (.refl he hf) (PrA.pr hr) (p qs hp hs) hn⟩
      generalize hd : prD p = d at r
      cases r with
      | tup h ra =>
        cases hd
        cases ra with
        | cons r1 rn => cases rn with
          | cons r2 rn => cases rn; cases r1; cases r2; exact ⟨_, rfl, exT he h⟩
      | _ => cases hd
end Sd
end
-- SdMaxD
section
set_option Elab.async false
set_option linter.all false
set_option maxRecDepth 100000
set_option maxHeartbeats 4000000
set_option autoImplicit false
/-! max(xs, default=d), ints -/
namespace Sd
open PySem PySem.Spec PyProof.Rows L2
open PySem.W (HoldAll maxOf DatumOrd max_list_datum_default)
open Evl (Ex)
theorem holdAll_ints {h : Heap} : ∀ {its : List Value} {ns : List Int}, IntsAre its ns → HoldAll h its ns
  | _, _, .nil => ⟨_, .nil⟩
  | _, _, .cons n t r => by
    obtain ⟨as, ra⟩ := holdAll_ints (h := h) r
    exact ⟨_, .cons (.int n t) ra⟩
theorem maxOf_ok : ∀ (xs : List Int) (x : Int), (maxOf x xs) ∈ x :: xs ∧ ∀ y ∈ x :: xs, y ≤ maxOf x xs
  | [], x => ⟨List.mem_cons_self, fun y m => by
    have e : y = x := by simpa using m
    subst e
    exact Int.le_refl _⟩
  | z :: xs, x => by
    obtain ⟨h1, h2⟩ := maxOf_ok xs (if DatumOrd.lt x z = true then z else x)
    have e : maxOf x (z :: xs) = maxOf (if DatumOrd.lt x z = true then z else x) xs := rfl
    rw [e]
    have hl : DatumOrd.lt x z = decide (x < z) := rfl
    rw [hl] at h1 h2 ⊢
    have h3 := h2 _ List.mem_cons_self
    refine ⟨?_, fun y m => ?_⟩
    · rcases List.mem_cons.mp h1 with h | h
      · rw [h]
        split <;> simp
      · exact List.mem_cons_of_mem _ (List.mem_cons_of_mem _ h)
    · rcases List.mem_cons.mp m with rfl | m
      · refine Int.le_trans ?_ h3
        split
        · rename_i q
          exact Int.le_of_lt (of_decide_eq_true q)
        · exact Int.le_refl _
      · rcases List.mem_cons.mp m with rfl | m
        · refine Int.le_trans ?_ h3
          split
          · exact Int.le_refl _
          · rename_i q
            simpa using q
        · exact h2 _ (List.mem_cons_of_mem _ m)
def rMaxD0 (K : PySem.W.Frag) : List V → List V → Hp → VK → Prop := fun vs zs H Q => ∃ (a : Addr) (ns : List Int) (i : Int), vs = [V.ref a] ∧ zs = [.int i] ∧ SqL K H a (ns.map V.int) ∧ (ns = [] → Q (.int i) H) ∧ ∀ m, m ∈ ns → (∀ y, y ∈ ns → y ≤ m) → Q (.int m) H
section
variable {X : Cx} {G : Gx} {e d : Expr} {de dd : DE} {p pos kpos : Pos}
theorem cr_maxD0 (hc : X.calm = true) (hu : X.A.units + 64 < cLine) : CallRK X (.builtin "max") [Str.ofString "default"] (rMaxD0 X.K) := by
  intro pins s σ H vs zs us ws Q I r rz h
  obtain ⟨a, ns, i, rfl, rfl, hs, q0, q1⟩ := h
  obtain ⟨its, rv, hl, _⟩ := I.list hs
  obtain rfl := Vals.ref1 r
  obtain ⟨w1, rfl, t, rfl⟩ := vals1 rz
  refine max_list_datum_default (α := Int) (xs := ns) (I.ok.hd hc) hl.isList (holdAll_ints rv.ints) (by show _ + 1 + 0 < _; omega) (fun e h' tk hk => ⟨.int i, H, I.kept hk, ⟨_, rfl⟩, q0 e⟩) fun y ys j v h' tk e hj hv hk => ?_
  obtain ⟨as, ra⟩ := hv
  have ev : ∃ t, v = .int (maxOf y ys) t := by
    generalize hm : (maxOf y ys : Int) = m at ra
    have ra' : Reads h' v (.int m) as := ra
    cases ra' with
    | int _ t => exact ⟨t, rfl⟩
  obtain ⟨t', rfl⟩ := ev
  subst e
  obtain ⟨h1, h2⟩ := maxOf_ok ys y
  exact ⟨.int (maxOf y ys), H, I.kept hk, ⟨_, rfl⟩, q1 _ h1 h2⟩
def deMaxD (de dd : DE) : DE := fun δ P => de δ fun x => ∃ ns : List Int, x = .lst (ns.map .int) ∧ dd δ fun z => ∃ i, z = .int i ∧ (ns = [] → P (.int i)) ∧ ∀ m, m ∈ ns → (∀ y, y ∈ ns → y ≤ m) → P (.int m)
theorem pd_maxD (hc : X.calm = true) (hu : X.A.units + 64 < cLine) (hm : X.mg "max" = none) (ha : PEd X G e de) (hd : PEd X G d dd) (hg : Gl X "max" := by rfl) (hs : starEach [e] X.env = (false, eval e X.env) :: starEach [] X.env := by rfl)
    (he : backTo pos (starEach [e] X.env) = (false, eval e X.env) :: backTo pos (starEach [] X.env) := by rfl) (hpl : (backTo pos (starEach [e] X.env)).any (·.1) = false := by rfl)
    (hall : (backToKw pos (keywordEach [⟨some "default", d, kpos⟩] X.env)).all (·.1.isSome) = true := by rfl) (hnone : (backToKw pos (keywordEach [⟨some "default", d, kpos⟩] X.env)).any (·.1.isNone) = false := by rfl) (hks : (backToKw pos (keywordEach [⟨some "default", d, kpos⟩] X.env)).filterMap (·.1) = [Str.ofString "default"] := by rfl) :
    PEd X G (.Call (.Name "max" p) [e] [⟨some "default", d, kpos⟩] pos) (deMaxD de dd) :=
  PE.imp (pe_callBK (cr_maxD0 hc hu) hg hm (by decide +kernel) (pa_cons ha pa_nil hs) (pk_cons hd pk_nil) (by decide) (by decide) he hpl hall hnone hks) fun σ H Q ⟨B, δ, P, s, h, q⟩ => ⟨B, δ, _, s, h, fun x dx B1 H1 m1 ⟨ns, e1, p1⟩ r1 => by
    subst e1
    cases r1 with
    | lst h1 ra =>
      rw [ra.ints] at h1
      exact ⟨B1, δ, _, s.mono m1, p1, fun z dz B2 H2 m2 ⟨i, e2, p2, p3⟩ r2 => by
        subst e2
        cases r2
        exact ⟨_, ns, i, rfl, rfl, SqL.of ((m2.b.trans m2.e) _ _ h1), fun e => q _ _ B2 H2 (m1.trans m2) (p2 e) (.int _), fun m hm1 hm2 => q _ _ B2 H2 (m1.trans m2) (p3 m hm1 hm2) (.int _)⟩⟩⟩
end
end Sd
end
-- SdPar
section
set_option Elab.async false
set_option linter.all false
set_option maxRecDepth 100000
set_option maxHeartbeats 4000000
set_option autoImplicit false
/-! several names at once, of which some are own lists -/
namespace Sd
open PySem PySem.Spec PyProof.Rows L2
open Evl (Ex)
def dxRep (da db : DE) : DX := fun δ P => da δ fun x => db δ fun y => ∃ xs n, x = .lst xs ∧ y = .int n ∧ 0 ≤ n ∧ n ≤ 100000 ∧ xs.length * n.toNat ≤ 100000 ∧ P (repD n xs)
def dsParOO (i j : Nat) (dx dy : DX) : DS := fun D δ => dx δ fun xs => dy δ fun ys => D.nx ((δ.set i (.own xs)).set j (.own ys))
def dsParDO (i j : Nat) (dx : DE) (dy : DX) : DS := fun D δ => dx δ fun x => dy δ fun ys => D.nx ((δ.set i (.dat x)).set j (.own ys))
def dsParDDO (i j l : Nat) (dx dy : DE) (dz : DX) : DS := fun D δ => dx δ fun x => dy δ fun y => dz δ fun zs => D.nx (((δ.set i (.dat x)).set j (.dat y)).set l (.own zs))
section
variable {X : Cx} {G : Gx} {e1 e2 e3 : Expr} {de df : DE} {dx dy : DX} {pos : Pos}
theorem pxd_rep (ha : PEd X G e1 de) (hb : PEd X G e2 df) : PXd X G (.BinOp e1 .Mult e2 pos) (dxRep de df) := PE.imp (pe_op op_rep ha hb) fun σ H Q ⟨B, δ, P, s, h, q⟩ =>
  ⟨B, δ, _, s, h, fun x d B1 H1 m1 p1 r1 => ⟨B1, δ, _, s.mono m1, p1, fun y e B2 H2 m2 ⟨xs, n, h1, h2, h3, h4, hl, p⟩ r2 => by
    subst h1; subst h2
    cases r1 with
    | lst hx ra =>
      cases r2
      refine ⟨_, n, _, rfl, rfl, (m2.b.trans m2.e) _ _ hx, by omega, by omega, by rw [ra.length]; exact size_ok hl, fun p' hp => newX q s.e s.f (m1.trans m2) ((ra.mono m2.b).rep _) p hp⟩⟩⟩
section
variable {i j : Nat} {x y : Str} {px py pt : Pos} {kt k2 : Nat} {pt2 : Pos}
theorem psd_parOO (hN : X.N.Nodup) (hi : X.N[i]? = some x) (hj : X.N[j]? = some y) (hij : i ≠ j) (ha : PXd X G e1 dx) (hb : PXd X G e2 dy) (hc : X.calm = true := by rfl)
    (hx : X.env.scope.names.lookup x = some .local := by rfl) (hy : X.env.scope.names.lookup y = some .local := by rfl) (h1 : starEach [e1, e2] X.env = (false, eval e1 X.env) :: starEach [e2] X.env := by rfl) (h2 : starEach [e2] X.env = (false, eval e2 X.env) :: starEach [] X.env := by rfl)
    (hw : swappedStores [.Tuple [.Name x px, .Name y py] kt pt] (.Tuple [e1, e2] k2 pt2) X.env = pure (some [x, y]) := by rfl) (hs : swapsWithSole [.Tuple [.Name x px, .Name y py] kt pt] (.Tuple [e1, e2] k2 pt2) pos.line X.env = pure false := by rfl) :
    PSd X G (.Assign [.Tuple [.Name x px, .Name y py] kt pt] (.Tuple [e1, e2] k2 pt2) pos) (dsParOO i j dx dy) := PS.imp (ps_par hc hN hi hj hij hx hy (pa_cons ha (pa_cons hb pa_nil h2) h1) hw hs) fun D σ H ⟨B, δ, DD, s, h, q⟩ =>
  ⟨B, δ, _, s, h, fun p vs ds B1 H1 m1 hp ns hb hl p1 r1 => ⟨B1, δ, _, s.mono m1, p1, fun p2 vs2 ds2 B2 H2 m2 hp2 ns2 hb2 hl2 q1 r2 => by
    have S1 := (s.mono m1).putOwn (i := i) (s.fresh0 hp ns) hb hl ns (s.own_ne hp) r1
    exact ⟨_, _, rfl, q.nx _ B2 H2 _ (m1.b.trans m2.b) ((S1.mono m2).putOwn (i := j) (S1.fresh0 hp2 ns2) hb2 hl2 ns2 (S1.own_ne hp2) r2) q1⟩⟩⟩
theorem psd_parDO (hN : X.N.Nodup) (hi : X.N[i]? = some x) (hj : X.N[j]? = some y) (hij : i ≠ j) (ha : PEd X G e1 de) (hb : PXd X G e2 dy) (hc : X.calm = true := by rfl)
    (hx : X.env.scope.names.lookup x = some .local := by rfl) (hy : X.env.scope.names.lookup y = some .local := by rfl) (h1 : starEach [e1, e2] X.env = (false, eval e1 X.env) :: starEach [e2] X.env := by rfl) (h2 : starEach [e2] X.env = (false, eval e2 X.env) :: starEach [] X.env := by rfl)
    (hw : swappedStores [.Tuple [.Name x px, .Name y py] kt pt] (.Tuple [e1, e2] k2 pt2) X.env = pure (some [x, y]) := by rfl) (hs : swapsWithSole [.Tuple [.Name x px, .Name y py] kt pt] (.Tuple [e1, e2] k2 pt2) pos.line X.env = pure false := by rfl) :
    PSd X G (.Assign [.Tuple [.Name x px, .Name y py] kt pt] (.Tuple [e1, e2] k2 pt2) pos) (dsParDO i j de dy) := PS.imp (ps_par hc hN hi hj hij hx hy (pa_cons ha (pa_cons hb pa_nil h2) h1) hw hs) fun D σ H ⟨B, δ, DD, s, h, q⟩ =>
  ⟨B, δ, _, s, h, fun v d B1 H1 m1 p1 r1 => ⟨B1, δ, _, s.mono m1, p1, fun p2 vs2 ds2 B2 H2 m2 hp2 ns2 hb2 hl2 q1 r2 => by
    have S1 := (s.mono m1).put (i := i) r1
    exact ⟨_, _, rfl, q.nx _ B2 H2 _ (m1.b.trans m2.b) ((S1.mono m2).putOwn (i := j) (S1.fresh0 hp2 ns2) hb2 hl2 ns2 (S1.own_ne hp2) r2) q1⟩⟩⟩
end
theorem psd_parDDO {i j l : Nat} {x y z : Str} {px py pz pt : Pos} {kt k2 : Nat} {pt2 : Pos} (hN : X.N.Nodup) (hi : X.N[i]? = some x) (hj : X.N[j]? = some y) (hl : X.N[l]? = some z) (hij : i ≠ j) (hil : i ≠ l) (hjl : j ≠ l) (ha : PEd X G e1 de) (hb : PEd X G e2 df) (hd : PXd X G e3 dy) (hc : X.calm = true := by rfl)
    (hx : X.env.scope.names.lookup x = some .local := by rfl) (hy : X.env.scope.names.lookup y = some .local := by rfl) (hz : X.env.scope.names.lookup z = some .local := by rfl)
    (h1 : starEach [e1, e2, e3] X.env = (false, eval e1 X.env) :: starEach [e2, e3] X.env := by rfl) (h2 : starEach [e2, e3] X.env = (false, eval e2 X.env) :: starEach [e3] X.env := by rfl) (h3 : starEach [e3] X.env = (false, eval e3 X.env) :: starEach [] X.env := by rfl)
    (hw : swappedStores [.Tuple [.Name x px, .Name y py, .Name z pz] kt pt] (.Tuple [e1, e2, e3] k2 pt2) X.env = pure (some [x, y, z]) := by rfl) (hs : swapsWithSole [.Tuple [.Name x px, .Name y py, .Name z pz] kt pt] (.Tuple [e1, e2, e3] k2 pt2) pos.line X.env = pure false := by rfl) :
    PSd X G (.Assign [.Tuple [.Name x px, .Name y py, .Name z pz] kt pt] (.Tuple [e1, e2, e3] k2 pt2) pos) (dsParDDO i j l de df dy) := PS.imp (ps_par3 hc hN hi hj hl hij hil hjl hx hy hz (pa_cons ha (pa_cons hb (pa_cons hd pa_nil h3) h2) h1) hw hs) fun D σ H ⟨B, δ, DD, s, h, q⟩ =>
  ⟨B, δ, _, s, h, fun v d B1 H1 m1 p1 r1 => ⟨B1, δ, _, s.mono m1, p1, fun v2 d2 B2 H2 m2 p2 r2 => ⟨B2, δ, _, (s.mono m1).mono m2, p2, fun p3 vs3 ds3 B3 H3 m3 hp3 ns3 hb3 hl3 q1 r3 => by
    have S1 := ((((s.mono m1).put (i := i) r1).mono m2).put (i := j) r2)
    exact ⟨_, _, _, rfl, q.nx _ B3 H3 _ ((m1.b.trans m2.b).trans m3.b) ((S1.mono m3).putOwn (i := l) (S1.fresh0 hp3 ns3) hb3 hl3 ns3 (S1.own_ne hp3) r3) q1⟩⟩⟩⟩
/-- the same where a name is kept in a cell: by way of a tuple -/
theorem psd_asgOO {i j : Nat} {x y : Str} {px py pt : Pos} {kt k2 : Nat} {pt2 : Pos} (hN : X.N.Nodup) (hi : X.N[i]? = some x) (hj : X.N[j]? = some y) (hij : i ≠ j) (hx : Loc X.env.scope x) (hy : Loc X.env.scope y) (ha : PXd X G e1 dx) (hb : PXd X G e2 dy) (hc : X.calm = true := by rfl)
    (h1 : starEach [e1, e2] X.env = (false, eval e1 X.env) :: starEach [e2] X.env := by rfl) (h2 : starEach [e2] X.env = (false, eval e2 X.env) :: starEach [] X.env := by rfl)
    (hf : X.fn x = true ∨ X.env.scope.names.lookup x = some .local := by first | exact .inl rfl | exact .inr rfl | assumption) (hf2 : X.fn y = true ∨ X.env.scope.names.lookup y = some .local := by first | exact .inl rfl | exact .inr rfl | assumption)
    (hs : swapsWithSole [.Tuple [.Name x px, .Name y py] kt pt] (.Tuple [e1, e2] k2 pt2) pos.line X.env = pure false := by rfl) (hw : swappedStores [.Tuple [.Name x px, .Name y py] kt pt] (.Tuple [e1, e2] k2 pt2) X.env = pure none := by rfl)
    (h3 : (assignEach [.Tuple [.Name x px, .Name y py] kt pt] X.env).map (·.2) = [assign (.Tuple [.Name x px, .Name y py] kt pt) X.env] := by rfl) :
    PSd X G (.Assign [.Tuple [.Name x px, .Name y py] kt pt] (.Tuple [e1, e2] k2 pt2) pos) (dsParOO i j dx dy) := PS.imp (ps_asg (pe_tup (pa_cons ha (pa_cons hb pa_nil h2) h1)) (pg_tup (n := 2) hc (pgs_cons (pg_name hN hi hx hf) (pgs_cons (pg_name hN hj hy hf2) pgs_nil))) hs hw h3) fun D σ H ⟨B, δ, DD, s, h, q⟩ =>
  ⟨B, δ, _, s, h, fun p vs ds B1 H1 m1 hp ns hb hl p1 r1 => ⟨B1, δ, _, s.mono m1, p1, fun p2 vs2 ds2 B2 H2 m2 hp2 ns2 hb2 hl2 q1 r2 => by
    have S1 := (s.mono m1).putOwn (i := i) (s.fresh0 hp ns) hb hl ns (s.own_ne hp) r1
    have S2 := (S1.mono m2).putOwn (i := j) (S1.fresh0 hp2 ns2) hb2 hl2 ns2 (S1.own_ne hp2) r2
    unfold tNil
    refine ⟨by show 2 ≤ _; decide, fun p3 hp3 => ⟨p3, _, rfl, SqT.of (K := X.K) upd_same, rfl, _, _, rfl, _, _, rfl, rfl, ?_⟩⟩
    exact q.nx _ B2 _ _ (m1.b.trans m2.b) (S2.mono (Fm.newH S2.e S2.f hp3)) q1⟩⟩
end
section
variable {i j l : Nat} {x y z : Str} {px py pz pt : Pos} {kt k2 : Nat} {pt2 : Pos} {X : Cx} {G : Gx} {e1 e2 e3 : Expr} {de df : DE} {dz : DX} {pos : Pos}
theorem psd_asgDDO (hN : X.N.Nodup) (hi : X.N[i]? = some x) (hj : X.N[j]? = some y) (hl : X.N[l]? = some z) (hx : Loc X.env.scope x) (hy : Loc X.env.scope y) (hz : Loc X.env.scope z) (ha : PEd X G e1 de) (hb : PEd X G e2 df) (hd : PXd X G e3 dz) (hc : X.calm = true := by rfl)
    (h1 : starEach [e1, e2, e3] X.env = (false, eval e1 X.env) :: starEach [e2, e3] X.env := by rfl) (h2 : starEach [e2, e3] X.env = (false, eval e2 X.env) :: starEach [e3] X.env := by rfl) (h4 : starEach [e3] X.env = (false, eval e3 X.env) :: starEach [] X.env := by rfl)
    (hf : X.fn x = true ∨ X.env.scope.names.lookup x = some .local := by first | exact .inl rfl | exact .inr rfl | assumption) (hf2 : X.fn y = true ∨ X.env.scope.names.lookup y = some .local := by first | exact .inl rfl | exact .inr rfl | assumption) (hf3 : X.fn z = true ∨ X.env.scope.names.lookup z = some .local := by first | exact .inl rfl | exact .inr rfl | assumption)
    (hs : swapsWithSole [.Tuple [.Name x px, .Name y py, .Name z pz] kt pt] (.Tuple [e1, e2, e3] k2 pt2) pos.line X.env = pure false := by rfl) (hw : swappedStores [.Tuple [.Name x px, .Name y py, .Name z pz] kt pt] (.Tuple [e1, e2, e3] k2 pt2) X.env = pure none := by rfl)
    (h3 : (assignEach [.Tuple [.Name x px, .Name y py, .Name z pz] kt pt] X.env).map (·.2) = [assign (.Tuple [.Name x px, .Name y py, .Name z pz] kt pt) X.env] := by rfl) :
    PSd X G (.Assign [.Tuple [.Name x px, .Name y py, .Name z pz] kt pt] (.Tuple [e1, e2, e3] k2 pt2) pos) (dsParDDO i j l de df dz) := PS.imp (ps_asg (pe_tup (pa_cons ha (pa_cons hb (pa_cons hd pa_nil h4) h2) h1)) (pg_tup (n := 3) hc (pgs_cons (pg_name hN hi hx hf) (pgs_cons (pg_name hN hj hy hf2) (pgs_cons (pg_name hN hl hz hf3) pgs_nil)))) hs hw h3) fun D σ H ⟨B, δ, DD, s, h, q⟩ =>
  ⟨B, δ, _, s, h, fun v d B1 H1 m1 p1 r1 => ⟨B1, δ, _, s.mono m1, p1, fun v2 d2 B2 H2 m2 p2 r2 => ⟨B2, δ, _, (s.mono m1).mono m2, p2, fun p3 vs3 ds3 B3 H3 m3 hp3 ns3 hb3 hl3 q1 r3 => by
    have S1 := ((((s.mono m1).put (i := i) r1).mono m2).put (i := j) r2)
    have S2 := (S1.mono m3).putOwn (i := l) (S1.fresh0 hp3 ns3) hb3 hl3 ns3 (S1.own_ne hp3) r3
    unfold tNil
    refine ⟨by show 3 ≤ _; decide, fun p4 hp4 => ⟨p4, _, rfl, SqT.of (K := X.K) upd_same, rfl, _, _, rfl, _, _, rfl, _, _, rfl, rfl, ?_⟩⟩
    exact q.nx _ B3 _ _ ((m1.b.trans m2.b).trans m3.b) (S2.mono (Fm.newH S2.e S2.f hp4)) q1⟩⟩⟩
end
/-- a list that is an own one or already a value: a value from here on -/
def dsFrzA (i : Nat) (t : DS) : DS := fun D δ => (∃ ds, δ[i]? = some (.own ds) ∧ t D (δ.set i (.dat (.lst ds)))) ∨ (∃ d, δ[i]? = some (.dat d) ∧ t D δ)
section
variable {X : Cx} {G : Gx} {st : Stmt} {t : DS}
theorem psd_frzA (i : Nat) (h : PSd X G st t) : PSd X G st (dsFrzA i t) := PS.imp h fun D σ H ⟨B, δ, DD, s, p, q⟩ => by
  rcases p with ⟨ds, hd, p⟩ | ⟨d, hd, p⟩
  · obtain ⟨B', e, s'⟩ := s.freeze hd
    exact ⟨B', _, DD, s', p, q.up e⟩
  · exact ⟨B, δ, DD, s, p, q⟩
end
end Sd
end
-- SdLcO
section
set_option Elab.async false
set_option linter.all false
set_option maxRecDepth 100000
set_option maxHeartbeats 4000000
set_option autoImplicit false
/-! comprehensions over an own list -/
namespace Sd
open PySem PySem.Spec PyProof.Rows L2
open Evl (Ex)
section
variable (K : PySem.W.Frag) (G : Gx)
def WkF (J : It) (xs : List D) (B H : Hp) : Prop := ∀ B2 H2, Fm K G.F B H B2 H2 →
  (∀ i, i < xs.length → J.go i H2 ∧ ∀ x H3, J.yld i H2 x H3 → ∃ B3 d, xs[i]? = some d ∧ Fm K G.F B2 H2 B3 H3 ∧ Rp K B3 x d) ∧ J.stop xs.length H2
def tiOfF (di : DI) : TI := fun σ H R => ∃ (B : Hp) (δ : List Sl) (P : List D → Prop), Stt K G σ B H δ ∧ di δ P ∧ ∀ J xs B' H', Fm K G.F B H B' H' → P xs → WkF K G J xs B' H' → R J H'
end
abbrev PIdF (X : Cx) (G : Gx) (tg iter : Expr) (di : DI) : Prop := PI X tg iter (tiOfF X.K G di)
def diOwn (i : Nat) : DI := fun δ P => ∃ xs, δ[i]? = some (.own xs) ∧ P xs
section
variable {X : Cx} {G : Gx} {tg : Expr} {x : Str} {px : Pos} {i : Nat}
theorem pid_nmO (hx : PE X (.Name x px) (tVar i)) : PIdF X G tg (.Name x px) (diOwn i) := by
  refine ⟨fun pins s σ H R I ⟨B, δ, P, st, ⟨xs, hd, h⟩, q⟩ => ?_⟩
  obtain ⟨l, vs, hi, h0, hb, hl, ra, ns⟩ := st.own hd
  refine thn (hx.run pins s σ H (fun v H1 => v = .ref l ∧ H1 = H) I ⟨_, hi, rfl, rfl⟩) fun v s1 ⟨x, H1, I1, r1, e1, e2⟩ => ?_
  subst e1 e2
  cases r1
  have fr : ∀ c ∈ [s1.heap.objs.size], FpOk X pins H1 c := fun c hb => by
    rw [List.mem_singleton.mp hb]
    exact I1.fpOk (Nat.le_refl _) (I1.hok.fresh (Nat.le_refl _))
  obtain ⟨its, rv, p, hz⟩ := I1.list (SqL.of (K := X.K) hl)
  refine wpAny_pyIter_list p.isList ⟨s1.heap.objs.size, [s1.heap.objs.size], _, _, H1, rfl, I1.kept (t' := s1.toks) fun c o e => Heap.get?_push_of_some _ e, turn_list l _, ⟨_, Heap.get?_push_size _ rfl, rfl, rfl⟩, fr, q _ xs B H1 st.here h fun B2 H2 m => ?_⟩
  obtain ⟨hb2, hl2⟩ := own_same m hb hl ns
  have hq : SqL X.K H2 l vs := SqL.of hl2
  refine ⟨fun i hi => ?_, ⟨vs, hq, by rw [ra.length]; exact Nat.le_refl _⟩⟩
  obtain ⟨v, hv, rv⟩ := ra.at (List.getElem?_eq_getElem hi)
  refine ⟨⟨vs, v, hq, hv⟩, fun x H3 ⟨e3, hy⟩ => ?_⟩
  have hx := hy vs hq
  rw [hv] at hx
  cases hx
  subst e3
  exact ⟨B2, _, List.getElem?_eq_getElem hi, .refl m.e m.f, rv.mono m.b⟩
end
section
variable {X : Cx} {G : Gx} {elt tg iter : Expr} {ifs : List Expr} {scope : Scope} {own : List (Str × Nat)} {pos : Pos} {di : DI} {dg : DG} {tt : DT} {de : DE}
theorem lc_ofF {σ : L2.St} {H : Hp} {Q : VK} (h : txOf X.K G (dxLc di dg tt de (own.map (·.2))) σ H Q) : tLc (tiOfF X.K G di) (tgcOf X.K G (own.map (·.2)) dg) (ttOf X.K G tt) (teOf X.K G de) (own.map (·.2)) σ H Q := by
  obtain ⟨B, δ, P, s, h, q⟩ := h
  refine ⟨B, δ, _, s, h, fun It xs B1 H1 m1 ⟨hlen, J, j0, js, jd⟩ wk => fun p hp => ?_⟩
  have s1 := s.mono m1
  have nS : ¬ G.F.S p := s1.noS hp
  have hp0 : ¬ Hd H p := m1.back (not_hd hp) nS
  refine ⟨fun i m H' => i + m = xs.length ∧ ∃ B' acc ws, Fm X.K G.F B1 H1 B' H' ∧ B' p = none ∧ H' p = some (.lst ws) ∧ RpA X.K B' ws acc ∧ acc.length ≤ i ∧ J i acc,
    ⟨xs.length, by omega, B1, [], [], Fm.newH m1.e m1.f hp, Evl.fresh_back m1.e hp, upd_same, .nil, Nat.le_refl 0, j0⟩, fun i m H' ⟨hm, B', acc, ws, mf, hb, hl, ra, hle, hj⟩ => ?_⟩
  obtain ⟨w1, w2⟩ := wk B' H' mf
  cases m with
  | zero =>
    have z : i = xs.length := by omega
    subst z
    exact .inl ⟨w2, q p ws acc B' H' (m1.trans mf) hp0 nS hb hl (jd acc hj) ra⟩
  | succ m =>
    have lt : i < xs.length := by omega
    obtain ⟨g1, g2⟩ := w1 i lt
    refine .inr ⟨g1, fun H2 => i + 1 + m = xs.length ∧ ∃ B2 acc2 ws2, Fm X.K G.F B1 H1 B2 H2 ∧ B2 p = none ∧ H2 p = some (.lst ws2) ∧ RpA X.K B2 ws2 acc2 ∧ acc2.length ≤ i + 1 ∧ J (i + 1) acc2, fun H2 z => ⟨m, by omega, z⟩, fun x H2 hy => ?_⟩
    obtain ⟨B2, d, hd, m2, r2⟩ := g2 x H2 hy
    have keep : ∀ {Ba Ha Bb Hb : Hp}, Fm X.K G.F Ba Ha Bb Hb → Ba p = none → Ha p = some (.lst ws) → Bb p = none ∧ Hb p = some (.lst ws) := fun mm h1 h2 => by
      obtain ⟨h3, h4⟩ := mm.o p h1 (.of h2)
      exact ⟨h3, (h4 nS).trans h2⟩
    have mf2 := mf.trans m2
    obtain ⟨hb2, hl2⟩ := keep m2 hb hl
    have ss : Stt X.K G (L2.wipe σ (own.map (·.2))) B2 H2 (wipeD δ (own.map (·.2))) := (s1.mono mf2).wipe _
    refine ⟨B2, wipeD δ (own.map (·.2)), d, _, ss, r2, js i d acc hd hj hle, fun σ2 δ2 ew s2 p2 => ⟨?_, B2, δ2, _, s2, p2, fun b B3 H3 m3 p3 => ?_⟩⟩
    · rw [ew]
      apply List.ext_getElem?
      intro k
      rw [wipe_at, L2.wipe_length, wipe_at]
      split <;> rfl
    · have mf3 := mf2.trans m3
      obtain ⟨hb3, hl3⟩ := keep m3 hb2 hl2
      cases b with
      | false => exact ⟨by omega, B3, acc, ws, mf3, hb3, hl3, (ra.mono m2.b).mono m3.b, by omega, p3⟩
      | true =>
        refine ⟨B3, δ2, _, s2.mono m3, p3, fun y d4 B4 H4 m4 p4 r4 => ?_⟩
        obtain ⟨hb4, hl4⟩ := keep m4 hb3 hl3
        refine ⟨ws, hl4, ?_, by omega, B4, acc ++ [d4], ws ++ [y], (mf3.trans m4).updNew hp hb4 hl4 nS, hb4, upd_same, (((ra.mono m2.b).mono m3.b).mono m4.b).app (.one r4), by rw [List.length_append]; simp; omega, p4⟩
        rw [ra.length]
        exact size_lt (by omega)
theorem pxd_lcF (hN : X.N.Nodup) (hi : PIdF X G tg iter di) (ok : blkC X.N X.env.scope scope own = true) (hg : ∀ (s : Shared) (H : Hp) (C : Addr) (cl : List (Str × Addr)) (fp : List Addr), PGcd (X.blk s H scope (compEnvC scope cl C X.env) fp) G (own.map (·.2)) tg dg)
    (ht : ∀ (s : Shared) (H : Hp) (C : Addr) (cl : List (Str × Addr)) (fp : List Addr), PTsd (X.blk s H scope (compEnvC scope cl C X.env) fp) G ifs tt) (he : ∀ (s : Shared) (H : Hp) (C : Addr) (cl : List (Str × Addr)) (fp : List Addr), PEd (X.blk s H scope (compEnvC scope cl C X.env) fp) G elt de)
    (hc : X.calm = true := by rfl) (hs : ∀ x, foldedSetIterable iter X.env x = pure x := by intro _; rfl) : PXd X G (.ListComp elt [⟨tg, iter, ifs, 0⟩] scope pos) (dxLc di dg tt de (own.map (·.2))) :=
  PE.imp (pe_lc (own := own) hc hN hi (blkOk_by ok) hg ht he hs) fun σ H Q h => lc_ofF h
theorem psd_setLcF {i : Nat} {y : Str} {py spos : Pos} (hN : X.N.Nodup) (hy : X.N[i]? = some y) (hyl : X.env.scope.names.lookup y = some .local) (hsw : swapsWith (.ListComp elt [⟨tg, iter, ifs, 0⟩] scope pos) (some (.Name y py)) spos.line X.env = pure true) (hi : PIdF X G tg iter di) (ok : blkC X.N X.env.scope scope own = true)
    (hg : ∀ (s : Shared) (H : Hp) (C : Addr) (cl : List (Str × Addr)) (fp : List Addr), PGcd (X.blk s H scope (compEnvC scope cl C X.env) fp) G (own.map (·.2)) tg dg)
    (ht : ∀ (s : Shared) (H : Hp) (C : Addr) (cl : List (Str × Addr)) (fp : List Addr), PTsd (X.blk s H scope (compEnvC scope cl C X.env) fp) G ifs tt) (he : ∀ (s : Shared) (H : Hp) (C : Addr) (cl : List (Str × Addr)) (fp : List Addr), PEd (X.blk s H scope (compEnvC scope cl C X.env) fp) G elt de)
    (hc : X.calm = true := by rfl) (hs : ∀ x, foldedSetIterable iter X.env x = pure x := by intro _; rfl) : PSd X G (.Assign [.Name y py] (.ListComp elt [⟨tg, iter, ifs, 0⟩] scope pos) spos) (dsAsg (deX (dxLc di dg tt de (own.map (·.2)))) (dgName i)) :=
  PS.imp (ps_setLc (own := own) hc hN hy hyl hsw hi (blkOk_by ok) hg ht he hs) fun D σ H ⟨B, δ, DD, s, h, q⟩ => lc_ofF ⟨B, δ, _, s, h, fun p vs ds B' H' m hp ns hb hl pz r => by
    have e1 : Ex B' (upd B' p (.lst vs)) := Evl.Ex.new hb
    have e2 : Ex (upd B' p (.lst vs)) H' := fun a o h => by
      by_cases ha : a = p
      · subst ha
        rw [upd_same] at h
        rw [hl]
        exact h
      · rw [upd_ne ha] at h
        exact m.e a o h
    have mm : Fm X.K G.F B H (upd B' p (.lst vs)) H' := by
      refine ⟨m.b.trans e1, e2, fun a h1 h2 => ?_, m.f.ex e1 (fun a ha => ?_) (fun a o h => h) (nt_upd m.f.nt (fun _ z => by cases z))⟩
      · obtain ⟨h3, h4⟩ := m.o a h1 h2
        exact ⟨by rw [upd_ne (h2.nne hp)]; exact h3, h4⟩
      · have ne : a ≠ p := fun z => ns (by rw [← z]; exact ha)
        rw [upd_ne ne]
        exact (m.f.there ha).1
    exact q.nx _ _ H' _ mm.b ((s.mono mm).put (.lst upd_same (r.mono e1))) pz⟩
theorem psd_ownLcF {i : Nat} {y : Str} {py spos : Pos} (hN : X.N.Nodup) (hy : X.N[i]? = some y) (hyl : X.env.scope.names.lookup y = some .local) (hsw : swapsWith (.ListComp elt [⟨tg, iter, ifs, 0⟩] scope pos) (some (.Name y py)) spos.line X.env = pure true) (hi : PIdF X G tg iter di) (ok : blkC X.N X.env.scope scope own = true)
    (hg : ∀ (s : Shared) (H : Hp) (C : Addr) (cl : List (Str × Addr)) (fp : List Addr), PGcd (X.blk s H scope (compEnvC scope cl C X.env) fp) G (own.map (·.2)) tg dg)
    (ht : ∀ (s : Shared) (H : Hp) (C : Addr) (cl : List (Str × Addr)) (fp : List Addr), PTsd (X.blk s H scope (compEnvC scope cl C X.env) fp) G ifs tt) (he : ∀ (s : Shared) (H : Hp) (C : Addr) (cl : List (Str × Addr)) (fp : List Addr), PEd (X.blk s H scope (compEnvC scope cl C X.env) fp) G elt de)
    (hc : X.calm = true := by rfl) (hs : ∀ x, foldedSetIterable iter X.env x = pure x := by intro _; rfl) : PSd X G (.Assign [.Name y py] (.ListComp elt [⟨tg, iter, ifs, 0⟩] scope pos) spos) (dsOwn i (dxLc di dg tt de (own.map (·.2)))) :=
  PS.imp (ps_setLc (own := own) hc hN hy hyl hsw hi (blkOk_by ok) hg ht he hs) fun D σ H ⟨B, δ, DD, s, h, q⟩ => lc_ofF ⟨B, δ, _, s, h, fun p vs ds B1 H1 m1 hp ns hb hl p1 r1 =>
    q.nx _ B1 H1 _ m1.b ((s.mono m1).putOwn (s.fresh0 hp ns) hb hl ns (s.own_ne hp) r1) p1⟩
end
end Sd
end
-- SdObj
section
set_option Elab.async false
set_option linter.all false
set_option maxRecDepth 100000
set_option maxHeartbeats 4000000
set_option autoImplicit false
/-! objects with a dict that their methods change -/
namespace Sd
open PySem PySem.Spec PyProof.Rows L2
open Evl (Ex)
/-- the heap without what is the object's alone -/
def hide (H : Hp) (m dx s : Addr) (ms : Option (List D)) : Hp := fun a => if a = m ∨ a = dx ∨ (a = s ∧ ms.isSome = true) then none else H a
section
variable {K : PySem.W.Frag} {F : Fs} {G : Gx} {σ : L2.St} {H0 B H B' H' B1 H1 : Hp} {δ : List Sl} {m dx s a : Addr} {C : Str} {fs : List (Str × D)} {ms : Option (List D)}
theorem hide_ne (h : ¬ (a = m ∨ a = dx ∨ (a = s ∧ ms.isSome = true))) : hide H m dx s ms a = H a := if_neg h
theorem hide_at (h : a = m ∨ a = dx ∨ (a = s ∧ ms.isSome = true)) : hide H m dx s ms a = none := if_pos h
theorem hd_hide (h : Hd (hide H m dx s ms) a) : ¬ (a = m ∨ a = dx ∨ (a = s ∧ ms.isSome = true)) ∧ Hd H a := by
  have n : ¬ (a = m ∨ a = dx ∨ (a = s ∧ ms.isSome = true)) := fun z => not_hd (hide_at z) h
  exact ⟨n, h.eq (hide_ne n).symm⟩
theorem hd_hide_of (h : Hd H a) (n : ¬ (a = m ∨ a = dx ∨ (a = s ∧ ms.isSome = true))) : Hd (hide H m dx s ms) a := h.eq (hide_ne n)
theorem ObOk.hide (k : ObOk K F H0 B H m dx C s fs ms) : ObOk K F (Sd.hide H m dx s ms) B H m dx C s fs ms :=
  ⟨not_hd (hide_at (.inl rfl)), not_hd (hide_at (.inr (.inl rfl))), k.mb, k.xb, k.mS, k.xS, k.hx, k.hm, fun xs e => ⟨not_hd (hide_at (.inr (.inr ⟨rfl, by rw [e]; rfl⟩))), (k.hs xs e).2⟩⟩
theorem Fm.hide (m1 : Fm K F B H B1 H1) : Fm K F B (Sd.hide H m dx s ms) B1 H1 :=
  ⟨m1.b, m1.e, fun a h1 h2 => by
    obtain ⟨n, h3⟩ := hd_hide h2
    obtain ⟨h4, h5⟩ := m1.o a h1 h3
    exact ⟨h4, fun z => (h5 z).trans (hide_ne n).symm⟩, m1.f⟩
/-- the object is written -/
theorem Fm.updHide {l : Addr} {o : HO} (m1 : Fm K F B (Sd.hide H m dx s ms) B1 H1) (hl : l = m ∨ l = dx ∨ (l = s ∧ ms.isSome = true) ∨ ¬ Hd H l) (hb : B1 l = none) (hS : ¬ F.S l) (hc : ∀ c q, H1 c = some (LamX.CodeO c q) → c ≠ l) : Fm K F B (Sd.hide H m dx s ms) B1 (upd H1 l o) := by
  refine ⟨m1.b, fun a u h => ?_, fun a h1 h2 => ?_, fok_upd m1.f hS fun p _ c q e => hc c q e⟩
  · rw [upd_ne (fun z => by rw [z, hb] at h; cases h)]
    exact m1.e a u h
  · obtain ⟨n, h3⟩ := hd_hide h2
    obtain ⟨h4, h5⟩ := m1.o a h1 h2
    have ne : a ≠ l := fun z => by
      subst z
      rcases hl with hl | hl | hl | hl
      · exact n (.inl hl)
      · exact n (.inr (.inl hl))
      · exact n (.inr (.inr hl))
      · exact hl h3
    exact ⟨h4, fun z => (upd_ne ne).trans (h5 z)⟩
theorem Stt.obj {i : Nat} (st : Stt K G σ B H δ) (hd : δ[i]? = some (.obj m dx C s fs ms)) : σ[i]? = some (some (.ref m)) ∧ ObOk K G.F G.H0 B H m dx C s fs ms := by
  obtain ⟨o, e, rfl, k⟩ := st.sl i _ hd
  exact ⟨e, k⟩
/-- the object is another one behind a call, a store -/
theorem Stt.call {i : Nat} {s' : Addr} {fs' : List (Str × D)} {ms' : Option (List D)} (st : Stt K G σ B H δ) (hd : δ[i]? = some (.obj m dx C s fs ms)) (mm : Fm K G.F B (Sd.hide H m dx s ms) B' H') (ok : ObOk K G.F (Sd.hide H m dx s ms) B' H' m dx C s' fs' ms') :
    Stt K G σ B' H' (δ.set i (.obj m dx C s' fs' ms')) := by
  obtain ⟨eo, k⟩ := st.obj hd
  have lt := (List.getElem?_eq_some_iff.mp hd).1
  have nh : ∀ a, Hd G.H0 a → ¬ (a = m ∨ a = dx ∨ (a = s ∧ ms.isSome = true)) := fun a h z => by
    rcases z with z | z | ⟨z, e⟩
    · exact k.m0 (by rw [← z]; exact h)
    · exact k.x0 (by rw [← z]; exact h)
    · obtain ⟨xs, ex⟩ := Option.isSome_iff_exists.mp e
      exact (k.hs xs ex).1 (by rw [← z]; exact h)
  have back : ∀ p, ¬ Hd (Sd.hide H m dx s ms) p → B' p = none → ¬ G.F.S p → ¬ Hd G.H0 p := fun p hp hb ns h => by
    cases h0 : G.B0 p with
    | some u => exact absurd ((st.fm.b.trans mm.b) _ _ h0) (by rw [hb]; exact fun z => nomatch z)
    | none =>
      obtain ⟨h3, h4⟩ := st.fm.o p h0 h
      exact hp (hd_hide_of (h.eq (h4 ns)) (nh p h))
  have ownk : ∀ (j : Nat) (ds : List D) (o : Option V), i ≠ j → δ[j]? = some (.own ds) → σ[j]? = some o → SlOk K G.F G.H0 B H o (.own ds) → ∃ l vs, o = some (.ref l) ∧ ¬ Hd G.H0 l ∧ B l = none ∧ H l = some (.lst vs) ∧ RpA K B vs ds ∧ ¬ G.F.S l ∧ Hd (Sd.hide H m dx s ms) l := fun j ds o hj h e q => by
    obtain ⟨l, vs, rfl, h0, hb, hl, r, ns⟩ := q
    refine ⟨l, vs, rfl, h0, hb, hl, r, ns, hd_hide_of (.of hl) fun z => ?_⟩
    rcases z with z | z | ⟨z, e2⟩
    · obtain ⟨_, hm, _⟩ := k.hm
      rw [← z, hl] at hm
      cases hm
    · have hx := k.hx
      rw [← z, hl] at hx
      cases hx
    · obtain ⟨xs, ex⟩ := Option.isSome_iff_exists.mp e2
      exact (st.ob i m dx C s fs ms hd j).1 ds xs h ex (by rw [e, z])
  refine ⟨⟨st.fm.b.trans mm.b, mm.e, fun a h1 h2 => ?_, mm.f⟩, by rw [List.length_set]; exact st.len, fun j t h => ?_, fun j l ds es hn h1 h2 => ?_, fun j m2 dx2 C2 s2 fs2 ms2 h b => ?_⟩
  · obtain ⟨h3, h4⟩ := st.fm.o a h1 h2
    by_cases hS : G.F.S a
    · exact ⟨(mm.f.there hS).1, fun z => (z hS).elim⟩
    · have n := nh a h2
      obtain ⟨h5, h6⟩ := mm.o a h3 (hd_hide_of (h2.eq (h4 hS)) n)
      exact ⟨h5, fun z => ((h6 z).trans (hide_ne n)).trans (h4 z)⟩
  · by_cases hj : i = j
    · subst hj
      rw [List.getElem?_set, if_pos rfl, if_pos lt] at h
      cases h
      refine ⟨_, eo, rfl, k.m0, k.x0, ok.mb, ok.xb, ok.mS, ok.xS, ok.hx, ok.hm, fun xs ex => ?_⟩
      obtain ⟨g0, g1, g2, g3⟩ := ok.hs xs ex
      exact ⟨back _ g0 g1 g2, g1, g2, g3⟩
    · rw [List.getElem?_set, if_neg hj] at h
      obtain ⟨o, e, q⟩ := st.sl j t h
      refine ⟨o, e, ?_⟩
      cases t with
      | un => exact True.intro
      | dat d =>
        obtain ⟨v, ev, rv⟩ := q
        exact ⟨v, ev, rv.mono mm.b⟩
      | own ds =>
        obtain ⟨l, vs, el, h0, hb, hl, r, ns, hh⟩ := ownk j ds o hj h e q
        obtain ⟨h5, h6⟩ := mm.o l hb hh
        exact ⟨l, vs, el, h0, h5, ((h6 ns).trans (hide_ne (hd_hide hh).1)).trans hl, r.mono mm.b, ns⟩
      | obj m2 dx2 C2 s2 fs2 ms2 => exact absurd ((st.ob i m dx C s fs ms hd j).2 _ _ _ _ _ _ h) hj
  · obtain ⟨n1, h1⟩ := set_at h1 (fun z => by cases z)
    obtain ⟨n2, h2⟩ := set_at h2 (fun z => by cases z)
    exact st.sep j l ds es hn h1 h2
  · have hji : j = i := by
      by_cases hj : i = j
      · exact hj.symm
      · rw [List.getElem?_set, if_neg hj] at h
        exact ((st.ob i m dx C s fs ms hd j).2 _ _ _ _ _ _ h).symm
    subst hji
    rw [List.getElem?_set, if_pos rfl, if_pos lt] at h
    cases h
    refine ⟨fun ds xs h2 e2 z => ?_, fun m' dx' C' s' fs' ms' h2 => ?_⟩
    · obtain ⟨n2, h2⟩ := set_at h2 (fun z => by cases z)
      obtain ⟨o, e, q⟩ := st.sl b _ h2
      obtain ⟨l, vs, el, h0, hb, hl, r, ns, hh⟩ := ownk b ds o n2 h2 e q
      rw [e, el] at z
      cases z
      exact (ok.hs xs e2).1 hh
    · by_cases hj : j = b
      · exact hj
      · rw [List.getElem?_set, if_neg hj] at h2
        exact (st.ob j m dx C s fs ms hd b).2 _ _ _ _ _ _ h2
end

/-! ### attributes -/
def putD (f : Str) (d : D) : List (Str × D) → List (Str × D)
  | [] => [(f, d)]
  | (g, x) :: r => if g = f then (g, d) :: r else (g, x) :: putD f d r
section
variable {K : PySem.W.Frag} {B : Hp}
theorem RpF.put {f : Str} {v : V} {d : D} (h : Rp K B v d) : ∀ {vs : List (Str × V)} {fs : List (Str × D)}, RpF K B vs fs → RpF K B (putF f v vs) (putD f d fs)
  | _, _, .nil => .cons h .nil
  | _, _, .cons (f := g) (v := x) (d := y) hx r => by
    unfold putF putD
    by_cases e : g = f
    · rw [if_pos e, if_pos e]
      exact .cons h r
    · rw [if_neg e, if_neg e]
      exact .cons hx (RpF.put h r)
theorem RpF.get {f : Str} {d : D} : ∀ {vs : List (Str × V)} {fs : List (Str × D)}, RpF K B vs fs → fs.lookup f = some d → ∃ v, vs.lookup f = some v ∧ Rp K B v d
  | _, _, .nil, h => by cases h
  | _, _, .cons (f := g) (v := x) (d := y) hx r, h => by
    rw [List.lookup_cons] at h ⊢
    cases e : (f == g) with
    | true =>
      rw [e] at h
      cases h
      exact ⟨x, rfl, hx⟩
    | false =>
      rw [e] at h
      exact RpF.get r h
theorem RpF.none {f : Str} : ∀ {vs : List (Str × V)} {fs : List (Str × D)}, RpF K B vs fs → fs.lookup f = none → vs.lookup f = none
  | _, _, .nil, h => rfl
  | _, _, .cons (f := g) (v := x) (d := y) hx r, h => by
    rw [List.lookup_cons] at h ⊢
    cases e : (f == g) with
    | true =>
      rw [e] at h
      cases h
    | false =>
      rw [e] at h
      exact RpF.none r h
theorem RpF.length : ∀ {vs : List (Str × V)} {fs : List (Str × D)}, RpF K B vs fs → vs.length = fs.length
  | _, _, .nil => rfl
  | _, _, .cons _ r => congrArg (· + 1) (RpF.length r)
end
def deFget (i : Nat) (C : Str) (f : Str) : DE := fun δ P => ∃ m dx s fs ms d, δ[i]? = some (.obj m dx C s fs ms) ∧ fs.lookup f = some d ∧ P d
def dsFset (i : Nat) (C : Str) (f : Str) (de : DE) : DS := fun D δ => de δ fun d => ∃ m dx s fs ms, δ[i]? = some (.obj m dx C s fs ms) ∧ fs.length < 1000 ∧ D.nx (δ.set i (.obj m dx C s (putD f d fs) ms))
def dsFsetO (i : Nat) (C : Str) (f : Str) (dx : DX) : DS := fun D δ => dx δ fun xs => ∃ m dx s fs, δ[i]? = some (.obj m dx C s fs none) ∧ fs.length < 1000 ∧ ∀ p, D.nx (δ.set i (.obj m dx C p (putD f (.raw (.ref p)) fs) (some xs)))
def deFix (i : Nat) (C : Str) (f : Str) (dj : DE) : DE := fun δ P => ∃ m dx s fs xs, δ[i]? = some (.obj m dx C s fs (some xs)) ∧ fs.lookup f = some (.raw (.ref s)) ∧ dj δ fun y => ∃ z, (D.lst xs).ix y = some z ∧ P z
def dsFaug (i : Nat) (C : Str) (f : Str) (g : Int → Int → Int) (dj de : DE) : DS := fun D δ => ∃ m dx s fs xs, δ[i]? = some (.obj m dx C s fs (some xs)) ∧ fs.lookup f = some (.raw (.ref s)) ∧ dj δ fun k => ∃ j n a, k = .int j ∧ 0 ≤ j ∧ j < 1000000 ∧ ixN xs.length j = some n ∧ xs[n]? = some (.int a) ∧
  de δ fun y => ∃ b, y = .int b ∧ D.nx (δ.set i (.obj m dx C s fs (some (xs.set n (.int (g a b))))))
theorem ins_ne_code {H : Hp} {l c C dx : Addr} {vs : List (Str × V)} {q : Str} (hl : H l = some (.ins C dx vs)) (h : H c = some (LamX.CodeO c q)) : c ≠ l := fun z => by
  subst z
  rw [hl] at h
  cases h
section
variable {X : Cx} {G : Gx} {st : Stmt} {e ei : Expr} {de dj : DE} {dx : DX} {pos pos' apos tpos px : Pos} {i : Nat} {x C f : Str}
theorem pd_fget (c : Cls X.K (He.ga X.K C)) (n : NoAttr X.K (He.ga X.K C) f) (hx : PE X (.Name x px) (tVar i)) (hb : attributeBase (.Name x px) f X.env (eval (.Name x px) X.env) = eval (.Name x px) X.env := by rfl) : PEd X G (.Attribute (.Name x px) f pos) (deFget i C f) :=
  PE.imp (pe_fld hx hb) fun σ H Q ⟨B, δ, P, s, ⟨m, dx, q, fs, ms, d, hd, hl, h⟩, qq⟩ => by
    obtain ⟨eo, k⟩ := s.obj hd
    obtain ⟨vs, hm, rf⟩ := k.hm
    obtain ⟨v, hv, rv⟩ := rf.get hl
    exact ⟨_, eo, m, _, dx, vs, v, rfl, hm, c, n, hv, qq v d B H s.here h rv⟩
theorem psd_fset (c : Cls X.K (He.ga X.K C)) (n : NoAttr X.K (He.ga X.K C) f) (hx : PE X (.Name x px) (tVar i)) (he : PEd X G e de) (hs : swapsWith e (some (.Attribute (.Name x px) f pos')) pos.line X.env = pure false := by rfl) : PSd X G (.Assign [.Attribute (.Name x px) f pos'] e pos) (dsFset i C f de) :=
  PS.imp (ps_fld hx he hs) fun D σ H ⟨B, δ, DD, s, h, q⟩ => ⟨B, δ, _, s, h, fun v d B1 H1 m1 ⟨m, dx, t, fs, ms, hd, hl, p⟩ r1 => by
    have s1 := s.mono m1
    obtain ⟨eo, k⟩ := s1.obj hd
    obtain ⟨vs, hm, rf⟩ := k.hm
    refine ⟨_, eo, m, _, dx, vs, rfl, hm, c, n, by rw [rf.length]; exact hl, q.nx _ B1 _ _ m1.b (s1.call hd ((s1.here.hide).updHide (.inl rfl) k.mb k.mS fun c q e => ins_ne_code hm e) ?_) p⟩
    have k2 := k.hide
    have ne : dx ≠ m := fun z => by
      have hx := k.hx
      rw [z, hm] at hx
      cases hx
    refine ⟨k2.m0, k2.x0, k.mb, k.xb, k.mS, k.xS, by rw [upd_ne ne]; exact k.hx, ⟨_, upd_same, rf.put r1⟩, fun xs ex => ?_⟩
    obtain ⟨g0, g1, g2, ws, g3, g4⟩ := k2.hs xs ex
    exact ⟨g0, g1, g2, ws, by rw [upd_ne (fun z => by rw [z, hm] at g3; cases g3)]; exact g3, g4⟩⟩
theorem psd_fsetO (c : Cls X.K (He.ga X.K C)) (n : NoAttr X.K (He.ga X.K C) f) (hx : PE X (.Name x px) (tVar i)) (he : PXd X G e dx) (hs : swapsWith e (some (.Attribute (.Name x px) f pos')) pos.line X.env = pure false := by rfl) : PSd X G (.Assign [.Attribute (.Name x px) f pos'] e pos) (dsFsetO i C f dx) :=
  PS.imp (ps_fld hx he hs) fun D σ H ⟨B, δ, DD, s, h, q⟩ => ⟨B, δ, _, s, h, fun p vs' ds' B1 H1 m1 hp ns hb hl' ⟨m, dx, t, fs, hd, hl, p1⟩ r1 => by
    have s1 := s.mono m1
    obtain ⟨eo, k⟩ := s1.obj hd
    obtain ⟨vs, hm, rf⟩ := k.hm
    have m2 : Fm X.K G.F B (Sd.hide H m dx t none) B1 (upd H1 m (.ins (He.ga X.K C) dx (putF f (.ref p) vs))) := (m1.hide).updHide (.inl rfl) k.mb k.mS fun c q e => ins_ne_code hm e
    refine ⟨_, eo, m, _, dx, vs, rfl, hm, c, n, by rw [rf.length]; exact hl, q.nx _ B1 _ _ m1.b (s.call hd m2 ?_) (p1 p)⟩
    have k2 := k.hide
    have ne : dx ≠ m := fun z => by
      have hx := k.hx
      rw [z, hm] at hx
      cases hx
    have np : p ≠ m := fun z => by rw [z, hm] at hl'; cases hl'
    refine ⟨not_hd (hide_at (.inl rfl)), not_hd (hide_at (.inr (.inl rfl))), k.mb, k.xb, k.mS, k.xS, by rw [upd_ne ne]; exact k.hx, ⟨_, upd_same, rf.put (.raw _)⟩, fun xs ex => ?_⟩
    cases ex
    exact ⟨fun z => hp (hd_hide z).2, hb, ns, vs', by rw [upd_ne np]; exact hl', r1⟩⟩
theorem pd_fix (c : Cls X.K (He.ga X.K C)) (n : NoAttr X.K (He.ga X.K C) f) (hx : PE X (.Name x px) (tVar i)) (hj : PEd X G ei dj) (hs : PlainIx ei := by exact fun _ _ => rfl) (hb : attributeBase (.Name x px) f X.env (eval (.Name x px) X.env) = eval (.Name x px) X.env := by rfl) :
    PEd X G (.Subscript (.Attribute (.Name x px) f apos) ei pos) (deFix i C f dj) :=
  PE.imp (pe_ix ix_seq (pe_fld hx hb) hj hs) fun σ H Q ⟨B, δ, P, s, ⟨m, dx, t, fs, xs, hd, hl, h⟩, qq⟩ => by
    obtain ⟨eo, k⟩ := s.obj hd
    obtain ⟨vs, hm, rf⟩ := k.hm
    obtain ⟨v, hv, rv⟩ := rf.get hl
    cases rv
    refine ⟨_, eo, m, _, dx, vs, _, rfl, hm, c, n, hv, B, δ, _, s, h, fun y d B1 H1 m1 ⟨z, hz, p⟩ r1 => ?_⟩
    obtain ⟨g0, g1, g2, ws, g3, g4⟩ := ((s.mono m1).obj hd).2.hs xs rfl
    cases d with
    | int j =>
      cases r1
      obtain ⟨v, ev, rv⟩ := g4.atI hz
      exact .inl ⟨t, ws, j, v, rfl, rfl, SqL.of g3, ev, qq _ _ B1 H1 m1 p rv⟩
    | _ => cases hz
theorem psd_faug {op : Operator} {g : Int → Int → Int} (c : Cls X.K (He.ga X.K C)) (n : NoAttr X.K (He.ga X.K C) f) (hx : PE X (.Name x px) (tVar i)) (hj : PEd X G ei dj) (ho : PIp X op (ipI g)) (he : PEd X G e de)
    (ha : ∀ ov iv new, augStore ei ov iv new = (do holding [new, ov, iv] (setItem ov iv new); release [new, ov, iv] []; pure Flow.next) := by intros; rfl) (hb : attributeBase (.Name x px) f X.env (eval (.Name x px) X.env) = eval (.Name x px) X.env := by rfl) :
    PSd X G (.AugAssign (.Subscript (.Attribute (.Name x px) f apos) ei tpos) op e pos) (dsFaug i C f g dj de) :=
  PS.imp (ps_augS (pe_fld hx hb) hj get_list he ho set_list ha) fun D σ H ⟨B, δ, DD, s, ⟨m, dx, t, fs, xs, hd, hl, h⟩, q⟩ => by
    obtain ⟨eo, k⟩ := s.obj hd
    obtain ⟨vs, hm, rf⟩ := k.hm
    obtain ⟨v, hv, rv⟩ := rf.get hl
    cases rv
    refine ⟨_, eo, m, _, dx, vs, _, rfl, hm, c, n, hv, B, δ, _, s, h, fun y kd B1 H1 m1 ⟨j, nn, a, ej, j0, j1, hn, ha', p1⟩ r1 => ?_⟩
    subst ej
    cases r1
    have s1 := s.mono m1
    obtain ⟨g0, g1, g2, ws, g3, g4⟩ := (s1.obj hd).2.hs xs rfl
    have hat : L2.atI xs j = some (.int a) := by
      unfold L2.atI
      rw [hn]
      exact ha'
    obtain ⟨v, ev, rv⟩ := g4.atI hat
    cases rv
    refine ⟨t, ws, j, _, rfl, rfl, j0, j1, SqL.of g3, ev, B1, δ, _, s1, p1, fun z d B2 H2 m2 ⟨b, eb, p2⟩ r2 => ?_⟩
    subst eb
    cases r2
    have s2 := s1.mono m2
    have k2 := (s2.obj hd).2
    obtain ⟨vs2, hm2, rf2⟩ := k2.hm
    obtain ⟨e0, e1, e2, us, e3, e4⟩ := k2.hs xs rfl
    have hu : us = ws := by
      obtain ⟨_, w2⟩ := m2.o t g1 (.of g3)
      have := (w2 g2).trans g3
      rw [e3] at this
      cases this
      rfl
    subst hu
    refine ⟨a, b, rfl, rfl, t, us, j, nn, rfl, rfl, e3, by rw [e4.length]; exact hn, q.nx _ B2 _ _ (m1.b.trans m2.b) (s2.call hd ((s2.here.hide).updHide (.inr (.inr (.inl ⟨rfl, rfl⟩))) e1 e2 fun c q e => lst_ne_code e3 e) ?_) p2⟩
    have nm : m ≠ t := fun z => by rw [z, e3] at hm2; cases hm2
    have nx : dx ≠ t := fun z => by
      have hx := k2.hx
      rw [z, e3] at hx
      cases hx
    refine ⟨k2.hide.m0, k2.hide.x0, k2.mb, k2.xb, k2.mS, k2.xS, by rw [upd_ne nx]; exact k2.hx, ⟨vs2, by rw [upd_ne nm]; exact hm2, rf2⟩, fun ys ey => ?_⟩
    cases ey
    exact ⟨not_hd (hide_at (.inr (.inr ⟨rfl, rfl⟩))), e1, e2, _, upd_same, e4.set (.int _)⟩
end

/-! ### methods -/
abbrev DM := List Sl → (D → List Sl → Prop) → Prop
def tmOf (K : PySem.W.Frag) (G : Gx) (dm : DM) : TE := fun σ H Q => ∃ (B : Hp) (δ : List Sl) (P : D → List Sl → Prop), Stt K G σ B H δ ∧ dm δ P ∧ ∀ v d B' H' δ', Ex B B' → Stt K G σ B' H' δ' → P d δ' → Rp K B' v d → Q v H'
/-- an expression that changes an object -/
abbrev PEm (X : Cx) (G : Gx) (e : Expr) (dm : DM) : Prop := PE X e (tmOf X.K G dm)
structure Ost where
  s : Addr
  fs : List (Str × D)
  ms : Option (List D)
abbrev MSp := Ost → List D → (Ost → D → Prop) → Prop
def spM (K : PySem.W.Frag) (C : Str) (sp : MSp) : Sp := fun vs H Q E => ∃ (F : Fs) (B : Hp) (m dx : Addr) (st : Ost) (us : List V) (ds : List D) (O : Ost → D → Prop), vs = .ref m :: us ∧ Ex B H ∧ Fok K F B H ∧ ObOk K F (hide H m dx st.s st.ms) B H m dx C st.s st.fs st.ms ∧ RpA K B us ds ∧ sp st ds O ∧
  ∀ st' v d B' H', Fm K F B (hide H m dx st.s st.ms) B' H' → ObOk K F (hide H m dx st.s st.ms) B' H' m dx C st'.s st'.fs st'.ms → O st' d → Rp K B' v d → Q v H'
/-- a method without further arguments -/
structure Mt (P : Program) (w : World) (K : PySem.W.Frag) (mg : Str → Option Value) (base : Heap) (k : Nat) (C m : Str) (sp : MSp) : Prop where
  cl : Cls K (He.ga K C)
  ex : ∃ (f : Addr) (fd : FuncData), Meth K (He.ga K C) m f ∧ FnOk P w K mg base (L2.CX P w) k f fd ["self"] (spM K C sp) ∧ Binds K fd ["self"] []
def NoF (fs : List (Str × D)) (m : Str) : Prop := fs.lookup m = none
def dmCall (i : Nat) (C m : Str) (sp : MSp) : DM := fun δ P => ∃ a dx s fs ms, δ[i]? = some (.obj a dx C s fs ms) ∧ NoF fs m ∧ sp ⟨s, fs, ms⟩ [] fun st d => P d (δ.set i (.obj a dx C st.s st.fs st.ms))
def dmIx (dm : DM) (j : Int) : DM := fun δ P => dm δ fun x δ' => ∃ z, x.ix (.int j) = some z ∧ P z δ'
def dsDropM (dm : DM) : DS := fun D δ => dm δ fun _ δ' => D.nx δ'
def dsAsgM (dm : DM) (g : DG) : DS := fun D δ => dm δ fun d δ' => g d δ' D.nx
def dsWhileM (dm : DM) (t : DS) : DS := fun D δ => ∃ J : Nat → List Sl → Prop, (∃ m, J m δ) ∧ ∀ m δ', J m δ' →
  dm δ' fun x δ2 => ∃ b, x = .bl b ∧ if b = true then t { D with nx := fun δ3 => ∃ m', m' < m ∧ J m' δ3, ct := fun δ3 => ∃ m', m' < m ∧ J m' δ3, bk := D.nx } δ2 else D.nx δ2
section
variable {X : Cx} {G : Gx} {st : Stmt} {rest : List Stmt} {e tg : Expr} {de : DE} {dm : DM} {dg : DG} {t : DS} {pos apos px cpos : Pos} {i k j : Nat} {x C m : Str} {sp : MSp} {a b : List Stmt}
theorem pem_call {pl : Sem Bool} (c : Mt X.prog X.w X.K X.mg X.base k C m sp) (hr : Room j X.A) (hk : k ≤ j) (hx : PE X (.Name x px) (tVar i))
    (ht : eval (.Call (.Attribute (.Name x px) m apos) [] [] pos) X.env = (do
      let ov ← eval (.Name x px) X.env
      standAt apos.atName
      let (f, first) ← holding [ov] (getMethod ov m pl)
      callWith pos f first (backTo pos (starEach [] X.env)) (backToKw pos (keywordEach [] X.env))) := by rfl) : PEm X G (.Call (.Attribute (.Name x px) m apos) [] [] pos) (dmCall i C m sp) := by
  obtain ⟨f, fd, hm, F, hb⟩ := c.ex
  exact PE.imp (pe_meth0 (pl := pl) hx c.cl hm F (hr.mono hk) hb .nil passL ht) fun σ H Q ⟨B, δ, P, s, ⟨a, dx, t, fs, ms, hd, hl, h⟩, q⟩ => by
    obtain ⟨eo, k⟩ := s.obj hd
    obtain ⟨vs, hm, rf⟩ := k.hm
    exact ⟨_, eo, a, dx, vs, rfl, hm, rf.none hl, G.F, B, a, dx, ⟨t, fs, ms⟩, [], [], _, rfl, s.e, s.f, k.hide, .nil, h, fun st' v d B' H' m1 k1 o r => q v d B' H' _ m1.b (s.call hd m1 k1) o r⟩
theorem pem_ix {z : Int} {kk : Nat} {p : Pos} (he : PEm X G e dm) (hs : PlainIx (.Constant (.int z) kk p) := by exact fun _ _ => rfl) : PEm X G (.Subscript e (.Constant (.int z) kk p) pos) (dmIx dm z) :=
  PE.imp (pe_ix ix_seq he pe_int hs) fun σ H Q ⟨B, δ, P, s, h, q⟩ => ⟨B, δ, _, s, h, fun x d B1 H1 δ1 e1 s1 ⟨z', hz, p⟩ r1 => by
    unfold D.ix at hz
    cases hq : d.seq with
    | none => rw [hq] at hz; cases hz
    | some xs =>
      rw [hq] at hz
      obtain ⟨t, vs, rfl, hs, ra⟩ := seq_any s1.e r1 hq
      obtain ⟨v, ev, rv⟩ := ra.atI hz
      rcases hs with hs | hs
      · exact .inl ⟨t, vs, z, v, rfl, rfl, hs, ev, q _ _ B1 H1 δ1 e1 s1 p rv⟩
      · exact .inr (.inl ⟨t, vs, z, v, rfl, rfl, hs, ev, q _ _ B1 H1 δ1 e1 s1 p rv⟩)⟩
theorem psd_dropM (he : PEm X G e dm) (hs : swapsWith e none pos.line X.env = pure false := by rfl) : PSd X G (.Expr e pos) (dsDropM dm) := PS.imp (ps_expr he hs) fun D σ H ⟨B, δ, DD, s, h, q⟩ =>
  ⟨B, δ, _, s, h, fun v d B1 H1 δ1 e1 s1 p1 r1 => q.nx _ B1 H1 _ e1 s1 p1⟩
theorem psd_asgM (he : PEm X G e dm) (hg : PGd X G tg dg) (hs : swapsWithSole [tg] e pos.line X.env = pure false := by rfl) (hw : swappedStores [tg] e X.env = pure none := by rfl) (h1 : (assignEach [tg] X.env).map (·.2) = [assign tg X.env] := by rfl) :
    PSd X G (.Assign [tg] e pos) (dsAsgM dm dg) := PS.imp (ps_asg he hg hs hw h1) fun D σ H ⟨B, δ, DD, s, h, q⟩ =>
  ⟨B, δ, _, s, h, fun v d B1 H1 δ1 e1 s1 p1 r1 => ⟨B1, δ1, d, DD.nx, s1, r1, p1, fun σ2 B2 H2 δ2 e2 s2 p2 => q.nx σ2 B2 H2 δ2 (e1.trans e2) s2 p2⟩⟩
theorem psd_whileM {c : Expr} (hp : PassesOwn (model X.prog X.w) X.A X.env X.xe) (hc : PEm X G c dm) (hb : PSsd X G a t) (he : ∀ whole, isTrue c X.env whole = (do let v ← whole; standAt c.pos; holding [v] (truthy v)) := by intro _; rfl) : PSd X G (.While c a [] pos) (dsWhileM dm t) :=
  PS.imp (ps_while hp (pt_val hc he) hb) fun D σ H ⟨B, δ, DD, s, ⟨J, ⟨m0, j0⟩, js⟩, q⟩ => by
    refine ⟨fun m σ' H' => ∃ B' δ', Ex B B' ∧ Stt X.K G σ' B' H' δ' ∧ J m δ', ⟨m0, B, δ, Ex.refl B, s, j0⟩, fun m σ' H' ⟨B', δ', e', s', j'⟩ => ?_⟩
    refine ⟨B', δ', _, s', js m δ' j', fun v d B1 H1 δ1 e1 s1 ⟨k, ek, p1⟩ r1 => ?_⟩
    subst ek
    cases r1
    refine ⟨k, rfl, ?_⟩
    have eb : Ex B B1 := e'.trans e1
    cases k with
    | false => exact q.nx σ' B1 H1 δ1 eb s1 p1
    | true =>
      refine ⟨fun σ2 H2 => ∃ m', m' < m ∧ ∃ B2 δ2, Ex B B2 ∧ Stt X.K G σ2 B2 H2 δ2 ∧ J m' δ2, fun σ2 H2 z => z, B1, δ1, _, s1, p1, ?_⟩
      exact ⟨fun σ4 B4 H4 δ4 e4 s4 ⟨m', h1, h2⟩ => ⟨m', h1, B4, δ4, eb.trans e4, s4, h2⟩, q.rt, fun σ4 B4 H4 δ4 e4 s4 p4 => q.nx σ4 B4 H4 δ4 (eb.trans e4) s4 p4, fun σ4 B4 H4 δ4 e4 s4 ⟨m', h1, h2⟩ => ⟨m', h1, B4, δ4, eb.trans e4, s4, h2⟩⟩
end

/-! ### a method's body -/
structure MEnds where
  nx : List Sl → Prop
  rs : D → List Sl → Prop
abbrev DMS := MEnds → List Sl → Prop
def tmsOf (K : PySem.W.Frag) (G : Gx) (ds : DMS) : TS := fun D σ H => ∃ (B : Hp) (δ : List Sl) (M : MEnds), Stt K G σ B H δ ∧ ds M δ ∧ (∀ σ' B' H' δ', Stt K G σ' B' H' δ' → M.nx δ' → D.nx σ' H') ∧ ∀ σ' v d B' H' δ', Stt K G σ' B' H' δ' → M.rs d δ' → Rp K B' v d → D.rt v H'
abbrev PMs (X : Cx) (G : Gx) (sts : List Stmt) (ds : DMS) : Prop := PSs X sts (tmsOf X.K G ds)
def dmsSeq (t : DS) (u : DMS) : DMS := fun M δ => t { nx := u M, rt := fun _ => False } δ
def dmsRet (de : DE) : DMS := fun M δ => de δ fun d => M.rs d δ
def dmsNil : DMS := fun M δ => M.nx δ
def dmsIf (tc : DT) (t u : DMS) : DMS := fun M δ => tc δ fun b => if b = true then t { M with nx := fun _ => False } δ else u M δ
def dmsFrz (i : Nat) (t : DMS) : DMS := fun M δ => ∃ ds, δ[i]? = some (.own ds) ∧ t M (δ.set i (.dat (.lst ds)))
section
variable {X : Cx} {G : Gx} {st : Stmt} {rest a : List Stmt} {e c : Expr} {de : DE} {t : DS} {u v : DMS} {tc : DT} {pos : Pos}
theorem pms_nil : PMs X G [] dmsNil := PSs.imp pss_nil fun D σ H ⟨B, δ, M, s, h, q, r⟩ => q σ B H δ s h
theorem pms_cons (h1 : PSd X G st t) (h2 : PMs X G rest u) : PMs X G (st :: rest) (dmsSeq t u) := PSs.imp (pss_cons h1 h2) fun D σ H ⟨B, δ, M, s, h, q, r⟩ =>
  ⟨B, δ, _, s, h, ⟨fun σ' B' H' δ' e s' h' => ⟨B', δ', M, s', h', q, r⟩, fun _ _ _ _ _ z => z.elim, fun _ _ _ _ _ _ z => z.elim, fun _ _ _ _ _ _ z => z.elim⟩⟩
theorem pms_ret (he : PEd X G e de) : PMs X G [.Return (some e) pos] (dmsRet de) := PSs.imp (pss_one (ps_ret he)) fun D σ H ⟨B, δ, M, s, h, q, r⟩ =>
  ⟨B, δ, _, s, h, fun v d B1 H1 m1 p1 r1 => r σ v d B1 H1 δ (s.mono m1) p1 r1⟩
theorem pms_if (hc : PTd X G c tc) (ha : PMs X G a u) (hr : PMs X G rest v) : PMs X G (.If c a [] pos :: rest) (dmsIf tc u v) := PSs.imp (pss_cons (ps_if hc ha pss_nil) hr) fun D σ H ⟨B, δ, M, s, h, q, r⟩ =>
  ⟨B, δ, _, s, h, fun k B1 H1 m1 p1 => by
    cases k with
    | true => exact ⟨B1, δ, _, s.mono m1, p1, fun _ _ _ _ _ z => z.elim, r⟩
    | false => exact ⟨B1, δ, M, s.mono m1, p1, q, r⟩⟩
theorem pms_frz (i : Nat) (h : PMs X G rest u) : PMs X G rest (dmsFrz i u) := PSs.imp h fun D σ H ⟨B, δ, M, s, ⟨ds, hd, p⟩, q, r⟩ => by
  obtain ⟨B', e, s'⟩ := s.freeze hd
  exact ⟨B', _, M, s', p, q, r⟩
end
def startM (N : List Str) (o : Sl) (ds : List D) : List Sl := o :: (ds.map .dat ++ List.replicate (N.length - (ds.length + 1)) .un)
theorem startM_at {N : List Str} {o : Sl} {ds : List D} {i : Nat} {t : Sl} (h : (startM N o ds)[i]? = some t) : (i = 0 ∧ t = o) ∨ (t = .un ∧ 0 < i ∧ ds.length + 1 ≤ i ∧ i < N.length) ∨ ∃ d, 0 < i ∧ t = .dat d ∧ ds[i - 1]? = some d := by
  unfold startM at h
  cases i with
  | zero =>
    rw [List.getElem?_cons_zero] at h
    exact .inl ⟨rfl, (Option.some.inj h).symm⟩
  | succ i =>
    rw [List.getElem?_cons_succ] at h
    by_cases hi : i < ds.length
    · rw [List.getElem?_append_left (by simpa using hi), List.getElem?_map, Option.map_eq_some_iff] at h
      obtain ⟨d, hd, rfl⟩ := h
      exact .inr (.inr ⟨d, Nat.succ_pos _, rfl, hd⟩)
    · rw [List.getElem?_append_right (by simpa using Nat.le_of_not_lt hi), List.getElem?_replicate] at h
      split at h
      · rename_i hl
        rw [List.length_map] at hl
        exact .inr (.inl ⟨(Option.some.inj h).symm, Nat.succ_pos _, by omega, by omega⟩)
      · cases h
theorem ObOk.start {K : PySem.W.Frag} {B H : Hp} {F : Fs} {N : List Str} {vs : List V} {ds : List D} {m dx s : Addr} {C : Str} {fs : List (Str × D)} {ms : Option (List D)} (e : Ex B H) (f : Fok K F B H) (k : ObOk K F (Sd.hide H m dx s ms) B H m dx C s fs ms) (r : RpA K B vs ds) (hN : ds.length < N.length) :
    Stt K ⟨F, B, Sd.hide H m dx s ms⟩ (L2.start N (.ref m :: vs)) B H (startM N (.obj m dx C s fs ms) ds) := by
  have hl := r.length
  have hst : ∀ i : Nat, (L2.start N (.ref m :: vs))[i]? = if i = 0 then some (some (.ref m)) else if i ≤ vs.length then (vs[i - 1]?).map some else if i < N.length then some none else none := fun i => by
    unfold L2.start
    cases i with
    | zero => simp
    | succ i =>
      rw [if_neg (Nat.succ_ne_zero i), List.map_cons, List.cons_append, List.getElem?_cons_succ, Nat.add_sub_cancel]
      by_cases hi : i < vs.length
      · rw [List.getElem?_append_left (by simpa using hi), List.getElem?_map, if_pos (by omega)]
      · rw [List.getElem?_append_right (by simpa using Nat.le_of_not_lt hi), List.getElem?_replicate, if_neg (show ¬ i + 1 ≤ vs.length by omega), List.length_map, List.length_cons]
        by_cases h1 : i + 1 < N.length
        · rw [if_pos (by omega), if_pos h1]
        · rw [if_neg (by omega), if_neg h1]
  refine ⟨⟨Ex.refl B, e, fun a h1 h2 => ⟨h1, fun _ => (hide_ne (hd_hide h2).1).symm⟩, f⟩, ?_, fun i t h => ?_, fun i j xs ys _ h1 _ => ?_, fun i m' dx' C' s' fs' ms' h j => ⟨fun ds' xs h2 _ => ?_, fun m2 dx2 C2 s2 fs2 ms2 h2 => ?_⟩⟩
  · simp [L2.start, startM, hl]
  · rw [hst]
    rcases startM_at h with ⟨rfl, rfl⟩ | ⟨rfl, h0, h1, h2⟩ | ⟨d, h0, rfl, hd⟩
    · exact ⟨_, rfl, rfl, k⟩
    · rw [if_neg (by omega), if_neg (by omega), if_pos h2]
      exact ⟨none, rfl, True.intro⟩
    · obtain ⟨v, hv, rv⟩ := r.at hd
      have := (List.getElem?_eq_some_iff.mp hv).1
      rw [if_neg (by omega), if_pos (by omega), hv]
      exact ⟨some v, rfl, v, rfl, rv⟩
  · rcases startM_at h1 with ⟨_, e⟩ | ⟨e, _⟩ | ⟨_, _, e, _⟩ <;> cases e
  · rcases startM_at h2 with ⟨_, e⟩ | ⟨e, _⟩ | ⟨_, _, e, _⟩ <;> cases e
  · rcases startM_at h with ⟨e1, _⟩ | ⟨e, _⟩ | ⟨_, _, e, _⟩
    · rcases startM_at h2 with ⟨e2, _⟩ | ⟨e, _⟩ | ⟨_, _, e, _⟩
      · rw [e1, e2]
      · cases e
      · cases e
    · cases e
    · cases e
section
variable {P : Program} {w : World} {K : PySem.W.Frag} {mg : Str → Option Value} {base : Heap} {x qual : Str} {params : Arguments} {body : List Stmt} {scope : Scope} {dvs : List V} {kws : List (Str × V)} {f : Addr} {fd : FuncData}
/-- a method keeps its promise, by its body -/
theorem fnM {N ps : List Str} {k : Nat} {C : Str} {sp : MSp} (F : FunD K x qual params body scope dvs kws f fd) (S : FnScope N ps scope) (len : ∀ st ds O, sp st ds O → ds.length + 1 = ps.length) (hN : ps.length ≤ N.length)
    (hbody : ∀ (cdv : Value) (A : Around) (outer : List Env) (s : Shared) (H : Hp) (G : Gx) (E : XK) (m dx : Addr) (st : Ost) (ds : List D) (O : Ost → D → Prop), Room k (A.deeper (envOfC qual scope s.heap.objs.size f cdv)) → sp st ds O →
      ∃ t, PMs (cxOf (L2.CX P w) P w K mg base N qual scope f cdv A outer s H E) G body t ∧ t { nx := fun δ => ∃ st', δ[0]? = some (.obj m dx C (Ost.s st') (Ost.fs st') (Ost.ms st')) ∧ O st' .non, rs := fun d δ => ∃ st', δ[0]? = some (.obj m dx C (Ost.s st') (Ost.fs st') (Ost.ms st')) ∧ O st' d } (startM N (.obj m dx C st.s st.fs st.ms) ds)) :
    FnOk P w K mg base (L2.CX P w) (k + 1) f fd ps (spM K C sp) := by
  refine F.ok S (fun vs H Q E ⟨Fs, B, m, dx, st, us, ds, O, e, _, _, _, r, h, _⟩ => by rw [e, List.length_cons, r.length]; exact len _ _ _ h) fun cdv A outer s H vs Q E hr ⟨Fs, B, m, dx, st, us, ds, O, e, he, hf, k, r, h, q⟩ => ?_
  subst e
  obtain ⟨t, ht, h1⟩ := hbody cdv A outer s H ⟨Fs, B, hide H m dx st.s st.ms⟩ E m dx st ds O hr h
  refine ⟨_, ht, B, _, _, k.start (N := N) he hf r (by have := len _ _ _ h; omega), h1, fun σ' B' H' δ' s' ⟨st', hd, o⟩ => ?_, fun σ' v d B' H' δ' s' ⟨st', hd, o⟩ rv => ?_⟩
  · exact q st' _ _ B' H' s'.fm (s'.obj hd).2 o .non
  · exact q st' v d B' H' s'.fm (s'.obj hd).2 o rv
end

/-! ### new objects -/
theorem Fm.adopt {K : PySem.W.Frag} {F : Fs} {B H B' H' : Hp} {p : Addr} {vs : List V} (m : Fm K F B H B' H') (hp : ¬ Hd H p) (ns : ¬ F.S p) (hb : B' p = none) (hl : H' p = some (.lst vs)) : Fm K F B H (upd B' p (.lst vs)) H' := by
  have e1 : Ex B' (upd B' p (.lst vs)) := Evl.Ex.new hb
  refine ⟨m.b.trans e1, fun a o h => ?_, fun a h1 h2 => ?_, m.f.ex e1 (fun a ha => ?_) (fun a o h => h) (nt_upd m.f.nt (fun _ z => by cases z))⟩
  · by_cases ha : a = p
    · subst ha
      rw [upd_same] at h
      rw [hl]
      exact h
    · rw [upd_ne ha] at h
      exact m.e a o h
  · obtain ⟨h3, h4⟩ := m.o a h1 h2
    exact ⟨by rw [upd_ne (h2.nne hp)]; exact h3, h4⟩
  · have ne : a ≠ p := fun z => ns (by rw [← z]; exact ha)
    rw [upd_ne ne]
    exact (m.f.there ha).1
abbrev DN := List Sl → (Ost → Prop) → Prop
def tnOf (K : PySem.W.Frag) (G : Gx) (C : Str) (dn : DN) : TE := fun σ H Q => ∃ (B : Hp) (δ : List Sl) (P : Ost → Prop), Stt K G σ B H δ ∧ dn δ P ∧ ∀ m dx st B' H', Fm K G.F B H B' H' → ObOk K G.F H B' H' m dx C (Ost.s st) (Ost.fs st) (Ost.ms st) → P st → Q (.ref m) H'
/-- an expression that makes an object -/
abbrev PNd (X : Cx) (G : Gx) (C : Str) (e : Expr) (dn : DN) : Prop := PE X e (tnOf X.K G C dn)
structure MkO (P : Program) (w : World) (K : PySem.W.Frag) (mg : Str → Option Value) (base : Heap) (k : Nat) (C : Str) (sp : MSp) : Prop where
  cl : Cls K (He.ga K C)
  g : mg C = some (.ref (He.ga K C))
  ex : ∃ (f : Addr) (fd : FuncData) (ps : List Str), Mk K (He.ga K C) f ∧ FnOk P w K mg base (L2.CX P w) k f fd ps (spM K C sp) ∧ Binds K fd ps []
def dnMake (sp : MSp) (da : DA) : DN := fun δ P => da δ fun ds => sp ⟨0, [], none⟩ ds fun st d => d = .non ∧ P st
def deNfld (f : Str) (dn : DN) : DE := fun δ P => dn δ fun st => ∃ xs, st.ms = some xs ∧ st.fs.lookup f = some (.raw (.ref st.s)) ∧ P (.lst xs)
def deNmeth (m : Str) (sp : MSp) (dn : DN) : DE := fun δ P => dn δ fun st => NoF st.fs m ∧ sp st [] fun _ d => P d
section
variable {X : Cx} {G : Gx} {e o : Expr} {es : List Expr} {da : DA} {dn : DN} {pos apos px p : Pos} {k j : Nat} {C m f : Str} {sp spi : MSp}
theorem pn_make (c : MkO X.prog X.w X.K X.mg X.base k C sp) (hr : Room j X.A) (hk : k + 1 ≤ j) (ha : PAd X G (e :: es) da) (hg : Gl X C := by rfl) (hdb : (C == ("__debug__" : Str)) = false := by decide)
    (he : starEach (e :: es) X.env = (false, eval e X.env) :: starEach es X.env := by rfl) (hpl : (backTo pos (starEach es X.env)).any (·.1) = false := by rfl) : PNd X G C (.Call (.Name C p) (e :: es) [] pos) (dnMake sp da) := by
  obtain ⟨f, fd, ps, M, F, hb⟩ := c.ex
  refine PE.imp (pe_make M F (hr.mono hk) hg c.g hb .nil passL ha hdb he hpl) fun σ H Q ⟨B, δ, P, s, h, q⟩ => ⟨B, δ, _, s, h, fun vs ds B1 H1 m1 p1 r1 x dx hx0 hdx hne => ?_⟩
  have mA := Fm.newH (o := .own x) m1.e m1.f hdx
  have hx1 : upd H1 dx (.own x) x = none := by
    rw [upd_ne (fun z => hne z.symm)]
    exact hx0
  have mB := Fm.newH (o := .ins (He.ga X.K C) dx []) mA.e mA.f hx1
  have m2 := mA.trans mB
  have bx : B1 x = none := Evl.fresh_back m1.e hx0
  have bdx : B1 dx = none := Evl.fresh_back m1.e hdx
  have nsx : ¬ G.F.S x := fun z => (m1.f.there z).2 hx0
  have nsd : ¬ G.F.S dx := fun z => (m1.f.there z).2 hdx
  refine ⟨G.F, B1, x, dx, ⟨0, [], none⟩, vs, ds, _, by rw [List.append_nil], m2.e, m2.f, ⟨not_hd (hide_at (.inl rfl)), not_hd (hide_at (.inr (.inl rfl))), bx, bdx, nsx, nsd, by rw [upd_ne hne, upd_same], ⟨[], upd_same, .nil⟩, fun xs z => nomatch z⟩, r1, p1, fun st' v d B' H' m3 k3 ⟨ed, pd⟩ rv => ?_⟩
  subst ed
  cases rv
  have hN : ∀ a, Hd H1 a → ¬ (a = x ∨ a = dx ∨ (a = (0 : Addr) ∧ (none : Option (List D)).isSome = true)) := fun a h z => by
    rcases z with z | z | ⟨_, z⟩
    · exact h.ne hx0 z
    · exact h.ne hdx z
    · cases z
  have eq : ∀ a, Hd H1 a → hide (upd (upd H1 dx (.own x)) x (.ins (He.ga X.K C) dx [])) x dx 0 none a = H1 a := fun a h => by
    rw [hide_ne (hN a h), upd_ne (h.ne hx0), upd_ne (h.ne hdx)]
  have m13 : Fm X.K G.F B1 H1 B' H' := ⟨m3.b, m3.e, fun a h1 h2 => by
    obtain ⟨h3, h4⟩ := m3.o a h1 (h2.eq (eq a h2))
    exact ⟨h3, fun z => (h4 z).trans (eq a h2)⟩, m3.f⟩
  have back : ∀ a, ¬ Hd H1 a → B' a = none → ¬ G.F.S a → ¬ Hd H a := fun a h hb ns z => by
    cases h0 : B a with
    | some u => exact absurd ((m1.b.trans m13.b) _ _ h0) (by rw [hb]; exact fun z => nomatch z)
    | none => exact h (z.eq ((m1.o a h0 z).2 ns))
  refine ⟨rfl, q x dx st' B' H' (m1.trans m13) ⟨back _ (not_hd hx0) k3.mb k3.mS, back _ (not_hd hdx) k3.xb k3.xS, k3.mb, k3.xb, k3.mS, k3.xS, k3.hx, k3.hm, fun xs ex => ?_⟩ pd⟩
  obtain ⟨g0, g1, g2, g3⟩ := k3.hs xs ex
  exact ⟨back _ (fun z => g0 (z.eq (eq _ z))) g1 g2, g1, g2, g3⟩
theorem pd_nfld (c : Cls X.K (He.ga X.K C)) (n : NoAttr X.K (He.ga X.K C) f) (h : PNd X G C o dn) (hb : attributeBase o f X.env (eval o X.env) = eval o X.env := by rfl) : PEd X G (.Attribute o f pos) (deNfld f dn) :=
  PE.imp (pe_fld h hb) fun σ H Q ⟨B, δ, P, s, h, q⟩ => ⟨B, δ, _, s, h, fun m dx st B1 H1 m1 k ⟨xs, ex, hl, p⟩ => by
    obtain ⟨vs, hm, rf⟩ := k.hm
    obtain ⟨v, hv, rv⟩ := rf.get hl
    cases rv
    obtain ⟨g0, g1, g2, ws, g3, g4⟩ := k.hs xs ex
    have m2 := m1.adopt g0 g2 g1 g3
    exact ⟨m, _, dx, vs, _, rfl, hm, c, n, hv, q _ _ _ _ m2 p (.lst upd_same (g4.mono (Evl.Ex.new g1)))⟩⟩
theorem pd_nmeth {pl : Sem Bool} (c : Mt X.prog X.w X.K X.mg X.base k C m sp) (hr : Room j X.A) (hk : k ≤ j) (h : PNd X G C o dn)
    (ht : eval (.Call (.Attribute o m apos) [] [] pos) X.env = (do
      let ov ← eval o X.env
      standAt apos.atName
      let (f, first) ← holding [ov] (getMethod ov m pl)
      callWith pos f first (backTo pos (starEach [] X.env)) (backToKw pos (keywordEach [] X.env))) := by rfl) : PEd X G (.Call (.Attribute o m apos) [] [] pos) (deNmeth m sp dn) := by
  obtain ⟨f, fd, hm, F, hb⟩ := c.ex
  exact PE.imp (pe_meth0 (pl := pl) h c.cl hm F (hr.mono hk) hb .nil passL ht) fun σ H Q ⟨B, δ, P, s, h, q⟩ => ⟨B, δ, _, s, h, fun a dx st B1 H1 m1 k ⟨hl, p⟩ => by
    obtain ⟨vs, hm, rf⟩ := k.hm
    refine ⟨a, dx, vs, rfl, hm, rf.none hl, G.F, B1, a, dx, st, [], [], _, rfl, m1.e, m1.f, k.hide, .nil, p, fun st' v d B' H' m2 k2 o r => q v d B' H' ⟨m1.b.trans m2.b, m2.e, fun c h1 h2 => ?_, m2.f⟩ o r⟩
    obtain ⟨h3, h4⟩ := m1.o c h1 h2
    have nh : ¬ (c = a ∨ c = dx ∨ (c = st.s ∧ st.ms.isSome = true)) := fun z => by
      rcases z with z | z | ⟨z, e⟩
      · exact k.m0 (by rw [← z]; exact h2)
      · exact k.x0 (by rw [← z]; exact h2)
      · obtain ⟨xs, ex⟩ := Option.isSome_iff_exists.mp e
        exact (k.hs xs ex).1 (by rw [← z]; exact h2)
    by_cases hS : G.F.S c
    · exact ⟨(m2.f.there hS).1, fun z => (z hS).elim⟩
    · obtain ⟨h5, h6⟩ := m2.o c h3 (hd_hide_of (h2.eq (h4 hS)) nh)
      exact ⟨h5, fun z => ((h6 z).trans (hide_ne nh)).trans (h4 z)⟩⟩
end

/-! ### a def that returns a new list; an own list lent to it -/
abbrev NSp := List D → (List D → Prop) → Prop
def spN (K : PySem.W.Frag) (sp : NSp) : Sp := fun vs H Q E => ∃ (F : Fs) (B : Hp) (ds : List D) (O : List D → Prop), Ex B H ∧ Fok K F B H ∧ RpA K B vs ds ∧ sp ds O ∧ ∀ p ws xs B' H', Fm K F B H B' H' → ¬ Hd H p → ¬ F.S p → B' p = none → H' p = some (.lst ws) → O xs → RpA K B' ws xs → Q (.ref p) H'
structure ClN (P : Program) (w : World) (K : PySem.W.Frag) (mg : Str → Option Value) (base : Heap) (k : Nat) (x : Str) (sp : NSp) : Prop where
  ex : ∃ (f : Addr) (fd : FuncData) (ps : List Str), FnOk P w K mg base (L2.CX P w) k f fd ps (spN K sp) ∧ mg x = some (.ref f) ∧ PySem.W.keepIn K (.ref f) = true ∧ Binds K fd ps []
/-- a value from the def's new list -/
theorem spN_D {P : Program} {w : World} {K : PySem.W.Frag} {mg : Str → Option Value} {base : Heap} {k : Nat} {f : Addr} {fd : FuncData} {ps : List Str} {sp : NSp} {spd : DSp} (h : FnOk P w K mg base (L2.CX P w) k f fd ps (spN K sp)) (i : ∀ F ds O, spd F ds O → sp ds fun xs => O (.ret (.lst xs))) :
    FnOk P w K mg base (L2.CX P w) k f fd ps (spD K spd) := h.imp fun vs H Q E ⟨F, B, ds, O, e, f, r, s, q, _⟩ => ⟨F, B, ds, _, e, f, r, i F ds O s, fun p ws xs B' H' m hp ns hb hl o ra => q _ _ _ _ (m.adopt hp ns hb hl) o (.lst upd_same (ra.mono (Evl.Ex.new hb)))⟩
def delH (B : Hp) (s : Addr) : Hp := fun a => if a = s then none else B a
def dxLend (i : Nat) (C : Str) (sp : NSp) (da : DA) : DX := fun δ P => da δ fun ds => ∃ m dx s fs xs ds', δ[i]? = some (.obj m dx C s fs (some xs)) ∧ ds = ds' ++ [.raw (.ref s)] ∧ sp (ds' ++ [.lst xs]) fun ys => ∃ ns : List Int, ys = ns.map .int ∧ P ys
theorem RpA.snoc {K : PySem.W.Frag} {B : Hp} {vs : List V} {ds : List D} {d : D} (r : RpA K B vs (ds ++ [d])) : ∃ us u, vs = us ++ [u] ∧ RpA K B us ds ∧ Rp K B u d := by
  induction ds generalizing vs with
  | nil => cases r with
    | cons h r => cases r; exact ⟨[], _, rfl, .nil, h⟩
  | cons a ds ih => cases r with
    | cons h r =>
      obtain ⟨us, u, rfl, r1, r2⟩ := ih r
      exact ⟨_ :: us, u, rfl, .cons h r1, r2⟩
section
variable {X : Cx} {G : Gx} {k j i : Nat} {x C : Str} {sp : NSp} {e : Expr} {es : List Expr} {da : DA} {p pos : Pos}
theorem pxd_lend (c : ClN X.prog X.w X.K X.mg X.base k x sp) (hr : Room j X.A) (hk : k ≤ j) (ha : PAd X G (e :: es) da) (hg : Gl X x := by rfl) (hdb : (x == ("__debug__" : Str)) = false := by decide)
    (he : starEach (e :: es) X.env = (false, eval e X.env) :: starEach es X.env := by rfl) (hpl : (backTo pos (starEach es X.env)).any (·.1) = false := by rfl) : PXd X G (.Call (.Name x p) (e :: es) [] pos) (dxLend i C sp da) := by
  obtain ⟨f, fd, ps, F, hm, kp, hb⟩ := c.ex
  exact PE.imp (pe_call F (hr.mono hk) hg hm kp hb .nil passL ha hdb he hpl) fun σ H Q ⟨B, δ, P, s, h, q⟩ => ⟨B, δ, _, s, h, fun vs ds B1 H1 m1 ⟨m, dx, t, fs, xs, ds', hd, eds, hsp⟩ r1 => by
    subst eds
    rw [List.append_nil]
    have s1 := s.mono m1
    obtain ⟨g0, g1, g2, ws, g3, g4⟩ := (s1.obj hd).2.hs xs rfl
    obtain ⟨us, u, rfl, r2, r3⟩ := r1.snoc
    cases r3
    have e1 : Ex B1 (upd B1 t (.lst ws)) := Evl.Ex.new g1
    have e2 : Ex (upd B1 t (.lst ws)) H1 := fun a o h => by
      by_cases ha : a = t
      · subst ha
        rw [upd_same] at h
        rw [g3]
        exact h
      · rw [upd_ne ha] at h
        exact m1.e a o h
    have f1 : Fok X.K G.F (upd B1 t (.lst ws)) H1 := m1.f.ex e1 (fun a ha => by
      rw [upd_ne (fun z => g2 (by rw [← z]; exact ha))]
      exact (m1.f.there ha).1) (fun a o h => h) (nt_upd m1.f.nt (fun _ z => by cases z))
    refine ⟨G.F, _, _, _, e2, f1, (r2.mono e1).app (.one (.lst upd_same (g4.mono e1))), hsp, fun p us' ys B' H' m2 hp ns hb' hl ⟨nn, ey, py⟩ ra => ?_⟩
    subst ey
    have hv := ra.ints
    subst hv
    have bt : B' t = some (.lst ws) := m2.b _ _ upd_same
    have ed : Ex B1 (delH B' t) := fun a o h => by
      have na : a ≠ t := fun z => by rw [z, g1] at h; cases h
      unfold delH
      rw [if_neg na]
      exact m2.b _ _ (e1 _ _ h)
    have m3 : Fm X.K G.F B1 H1 (delH B' t) H' := by
      refine ⟨ed, fun a o h => ?_, fun a h1 h2 => ?_, fun r sa hrow => ?_, m2.f.tab, fun p hp => ?_, fun a ps z => ?_⟩
      · unfold delH at h
        split at h
        · cases h
        · exact m2.e _ _ h
      · by_cases ha : a = t
        · subst ha
          refine ⟨if_pos rfl, fun _ => ?_⟩
          rw [g3]
          exact m2.e _ _ bt
        · obtain ⟨h3, h4⟩ := m2.o a (by rw [upd_ne ha]; exact h1) h2
          exact ⟨by unfold delH; rw [if_neg ha]; exact h3, h4⟩
      · obtain ⟨h1, h2, h3⟩ := m2.f.row r sa hrow
        obtain ⟨_, ⟨ns, h4⟩, _⟩ := m1.f.row r sa hrow
        refine ⟨by unfold delH; split; rfl; exact h1, ⟨ns, exL ed h4⟩, h3⟩
      · unfold delH
        split
        · rfl
        · exact m2.f.tb p hp
      · unfold delH at z
        split at z
        · cases z
        · exact m2.f.nt a ps z
    refine q p _ _ _ H' (m1.trans m3) (m1.back hp ns) ns ?_ hl py (RpA.ofInts nn)
    unfold delH
    split
    · rfl
    · exact hb'⟩
end

/-! ### an own list lent to an expression whose value is an int -/
def deLend (i : Nat) (de : DE) : DE := fun δ P => ∃ xs, δ[i]? = some (.own xs) ∧ de (δ.set i (.dat (.lst xs))) fun d => ∃ n : Int, d = .int n ∧ P d
theorem Fm.del {K : PySem.W.Frag} {F : Fs} {B H B' H' : Hp} {t : Addr} {ws : List V} (g1 : B t = none) (g3 : H t = some (.lst ws)) (f : Fok K F B H) (m2 : Fm K F (upd B t (.lst ws)) H B' H') : Fm K F B H (delH B' t) H' := by
  have e1 : Ex B (upd B t (.lst ws)) := Evl.Ex.new g1
  have bt : B' t = some (.lst ws) := m2.b _ _ upd_same
  have ed : Ex B (delH B' t) := fun a o h => by
    have na : a ≠ t := fun z => by rw [z, g1] at h; cases h
    unfold delH
    rw [if_neg na]
    exact m2.b _ _ (e1 _ _ h)
  refine ⟨ed, fun a o h => ?_, fun a h1 h2 => ?_, fun r sa hrow => ?_, m2.f.tab, fun p hp => ?_, fun a ps z => ?_⟩
  · unfold delH at h
    split at h
    · cases h
    · exact m2.e _ _ h
  · by_cases ha : a = t
    · subst ha
      refine ⟨if_pos rfl, fun _ => ?_⟩
      rw [g3]
      exact m2.e _ _ bt
    · obtain ⟨h3, h4⟩ := m2.o a (by rw [upd_ne ha]; exact h1) h2
      exact ⟨by unfold delH; rw [if_neg ha]; exact h3, h4⟩
  · obtain ⟨h1, h2, h3⟩ := m2.f.row r sa hrow
    obtain ⟨_, ⟨ns, h4⟩, _⟩ := f.row r sa hrow
    refine ⟨by unfold delH; split; rfl; exact h1, ⟨ns, exL ed h4⟩, h3⟩
  · unfold delH
    split
    · rfl
    · exact m2.f.tb p hp
  · unfold delH at z
    split at z
    · cases z
    · exact m2.f.nt a ps z
theorem pd_lend {X : Cx} {G : Gx} {e : Expr} {de : DE} (i : Nat) (h : PEd X G e de) : PEd X G e (deLend i de) := PE.imp h fun σ H Q ⟨B, δ, P, s, ⟨xs, hd, p⟩, q⟩ => by
  obtain ⟨l, vs, hi, h0, hb, hl, r, ns⟩ := s.own hd
  refine ⟨_, _, _, s.freezeE hd hi h0 hb hl r ns, p, fun v d B' H' m ⟨n, en, pn⟩ rv => ?_⟩
  subst en
  cases rv
  exact q _ _ _ _ (Fm.del hb hl s.f m) pn (.int n)

/-! ### the body of a def that returns its own new list -/
abbrev DNS := (List D → Prop) → List Sl → Prop
def tnsOf (K : PySem.W.Frag) (G : Gx) (dn : DNS) : TS := fun D σ H => ∃ (B : Hp) (δ : List Sl) (P : List Sd.D → Prop), Stt K G σ B H δ ∧ dn P δ ∧ ∀ p ws xs B' H', Fm K G.F G.B0 G.H0 B' H' → ¬ Hd G.H0 p → ¬ G.F.S p → B' p = none → H' p = some (.lst ws) → P xs → RpA K B' ws xs → D.rt (.ref p) H'
abbrev PNs (X : Cx) (G : Gx) (sts : List Stmt) (dn : DNS) : Prop := PSs X sts (tnsOf X.K G dn)
def dnsSeq (t : DS) (u : DNS) : DNS := fun P δ => t { nx := u P, rt := fun _ => False } δ
def dnsRet (i : Nat) : DNS := fun P δ => ∃ xs, δ[i]? = some (.own xs) ∧ P xs
section
variable {X : Cx} {G : Gx} {st : Stmt} {rest : List Stmt} {t : DS} {u : DNS} {pos px : Pos} {i : Nat} {x : Str}
theorem pns_cons (h1 : PSd X G st t) (h2 : PNs X G rest u) : PNs X G (st :: rest) (dnsSeq t u) := PSs.imp (pss_cons h1 h2) fun D σ H ⟨B, δ, P, s, h, q⟩ =>
  ⟨B, δ, _, s, h, ⟨fun σ' B' H' δ' e s' h' => ⟨B', δ', P, s', h', q⟩, fun _ _ _ _ _ z => z.elim, fun _ _ _ _ _ _ z => z.elim, fun _ _ _ _ _ _ z => z.elim⟩⟩
theorem pns_ret (hx : PE X (.Name x px) (tVar i)) : PNs X G [.Return (some (.Name x px)) pos] (dnsRet i) := PSs.imp (pss_one (ps_ret hx)) fun D σ H ⟨B, δ, P, s, ⟨xs, hd, p⟩, q⟩ => by
  obtain ⟨l, vs, hi, h0, hb, hl, r, ns⟩ := s.own hd
  exact ⟨_, hi, q l vs xs B H s.fm h0 ns hb hl p r⟩
end
theorem fnN {P : Program} {w : World} {K : PySem.W.Frag} {mg : Str → Option Value} {base : Heap} {x qual : Str} {params : Arguments} {body : List Stmt} {scope : Scope} {dvs : List V} {kws : List (Str × V)} {f : Addr} {fd : FuncData}
    {N ps : List Str} {k : Nat} {sp : NSp} (F : FunD K x qual params body scope dvs kws f fd) (S : FnScope N ps scope) (len : ∀ ds O, sp ds O → ds.length = ps.length)
    (hbody : ∀ (cdv : Value) (A : Around) (outer : List Env) (s : Shared) (G : Gx) (E : XK) (ds : List D) (O : List D → Prop), Room k (A.deeper (envOfC qual scope s.heap.objs.size f cdv)) → sp ds O →
      ∃ t, PNs (cxOf (L2.CX P w) P w K mg base N qual scope f cdv A outer s G.H0 E) G body t ∧ t O (startD N ds)) : FnOk P w K mg base (L2.CX P w) (k + 1) f fd ps (spN K sp) := by
  refine F.ok S (fun vs H Q E ⟨Fs, B, ds, O, _, _, r, h, _⟩ => by rw [r.length]; exact len _ _ h) fun cdv A outer s H vs Q E hr ⟨Fs, B, ds, O, he, hf, r, h, q⟩ => ?_
  obtain ⟨t, ht, h1⟩ := hbody cdv A outer s ⟨Fs, B, H⟩ E ds O hr h
  exact ⟨_, ht, B, startD N ds, _, r.start he hf, h1, fun p ws xs B' H' m hp ns hb hl o ra => q p ws xs B' H' m hp ns hb hl o ra⟩
end Sd
end
-- SdK10
section
set_option Elab.async false
set_option linter.all false
set_option maxRecDepth 100000
set_option maxHeartbeats 4000000
set_option autoImplicit false
namespace Sd
open PySem PySem.Spec PyProof.Rows L2
theorem seq_gen {t u : DS} {D : DEnds} {δ : List Sl} (J : List Sl → Prop) (h1 : ∀ N : List Sl → Prop, (∀ δ', J δ' → N δ') → t { D with nx := N } δ) (h2 : ∀ δ', J δ' → u D δ') : dsSeq t u D δ := h1 (u D) h2
theorem int_inj {xs ys : List Int} (h : xs.map D.int = ys.map D.int) : xs = ys := by
  induction xs generalizing ys with
  | nil => cases ys <;> first | rfl | cases h
  | cons x xs ih =>
    cases ys with
    | nil => cases h
    | cons y ys =>
      simp only [List.map_cons, List.cons.injEq, D.int.injEq] at h
      rw [h.1, ih h.2]
theorem rqd_inj {xs ys : List Rq} (h : xs.map Rq.d = ys.map Rq.d) : xs = ys := by
  induction xs generalizing ys with
  | nil => cases ys <;> first | rfl | cases h
  | cons x xs ih =>
    cases ys with
    | nil => cases h
    | cons y ys =>
      rw [List.map_cons, List.map_cons] at h
      injection h with h1 h2
      obtain ⟨a, b, c, d⟩ := x
      obtain ⟨a', b', c', d'⟩ := y
      simp [Rq.d] at h1
      obtain ⟨rfl, rfl, rfl, rfl⟩ := h1
      rw [ih h2]
theorem with_of {n : Nat} {d : D} {O : Out → Prop} {k : List Rq → Prop} {rs : List Rq} (h : d.seq = some (rs.map Rq.d)) (ok : ∀ r ∈ rs, r.Ok n) (hl : rs.length ≤ 12) (hk : k rs) : withReqs n d O k := by
  refine ⟨fun i e => ?_, fun rs' h' _ _ => ?_⟩
  · rw [badReqs_good h ok hl] at e
    cases e
  · rw [h] at h'
    rw [← rqd_inj (Option.some.inj h')]
    exact hk
theorem with_bad {n : Nat} {d : D} {O : Out → Prop} {k : List Rq → Prop} {i : Int} (h : badReqs n d = some i) (o : O (.exc "BadRequests" (.int i))) : withReqs n d O k := by
  refine ⟨fun j e => ?_, fun rs' h' ok hl => ?_⟩
  · rw [h] at e
    cases e
    exact o
  · rw [badReqs_good h' ok hl] at h
    cases h
/-- a sale within what is asked -/
def InAsk (rs : List Rq) (ms : List Int) : Prop := ms.length = rs.length ∧ ∀ (i : Nat) (r : Rq) (m : Int), rs[i]? = some r → ms[i]? = some m → 0 ≤ m ∧ m ≤ r.m
theorem InAsk.cons {r : Rq} {rs : List Rq} {m : Int} {ms : List Int} (h : InAsk (r :: rs) (m :: ms)) : (0 ≤ m ∧ m ≤ r.m) ∧ InAsk rs ms :=
  ⟨h.2 0 r m rfl rfl, by simpa using h.1, fun i q k h1 h2 => h.2 (i + 1) q k (by simpa using h1) (by simpa using h2)⟩
theorem InAsk.many : ∀ {rs : List Rq} {ms : List Int}, InAsk rs ms → manyOk (ms.map D.int) rs = true
  | [], [], _ => rfl
  | [], _ :: _, h => by have := h.1; simp at this
  | _ :: _, [], h => by have := h.1; simp at this
  | r :: rs, m :: ms, h => by
    obtain ⟨h1, h2⟩ := h.cons
    simp [manyOk, h2.many, isWithin, h1]
theorem toInt_ints (ms : List Int) : (ms.map D.int).map toInt = ms := by simp [toInt, Function.comp_def]
theorem saleM_of {ss : List Int} {rs : List Rq} {ms : List Int} {t : D} (h : t.seq = some (ms.map D.int)) (ha : InAsk rs ms) : isSaleM ss rs t = fitsM (loadsM ss.length rs ms) ss := by
  unfold isSaleM
  rw [h]
  show (decide ((ms.map D.int).length = rs.length) && (manyOk (ms.map D.int) rs && fitsM (loadsM ss.length rs ((ms.map D.int).map toInt)) ss)) = _
  rw [toInt_ints, ha.many, List.length_map, ha.1]
  simp
/-! no sale takes more than any prices show -/
def legSum (n : Nat) (f : Nat → Int) : Int := ((List.range n).map f).sum
theorem legSum_add (n : Nat) (f g : Nat → Int) : legSum n (fun l => f l + g l) = legSum n f + legSum n g := by
  unfold legSum
  induction n with
  | zero => simp
  | succ n ih =>
    simp only [List.range_succ, List.map_append, List.sum_append, ih]
    simp
    omega
theorem legSum_le {n : Nat} {f g : Nat → Int} (h : ∀ l, l < n → f l ≤ g l) : legSum n f ≤ legSum n g := by
  unfold legSum
  induction n with
  | zero => simp
  | succ n ih =>
    simp only [List.range_succ, List.map_append, List.sum_append]
    have h1 := ih fun l hl => h l (by omega)
    have h2 := h n (by omega)
    simp
    omega
theorem legSum_mul (n : Nat) (c : Int) (f : Nat → Int) : legSum n (fun l => c * f l) = c * legSum n f := by
  unfold legSum
  induction n with
  | zero => simp
  | succ n ih =>
    simp only [List.range_succ, List.map_append, List.sum_append, ih]
    simp [Int.mul_add]
theorem legSum_eq {n : Nat} {f g : Nat → Int} (h : ∀ l, l < n → f l = g l) : legSum n f = legSum n g := by
  unfold legSum
  rw [List.map_congr_left fun l hl => h l (List.mem_range.mp hl)]
theorem legSum_succ (n : Nat) (f : Nat → Int) : legSum (n + 1) f = f 0 + legSum n (fun l => f (l + 1)) := by
  unfold legSum
  rw [List.range_succ_eq_map, List.map_cons, List.sum_cons, List.map_map]
  rfl
theorem legSum_zero (n : Nat) : legSum n (fun _ => 0) = 0 := by
  induction n with
  | zero => rfl
  | succ n ih => rw [legSum_succ, ih]; rfl
theorem dot_leg : ∀ (ss ps : List Int), ps.length = ss.length → dotM ss ps = legSum ss.length (fun l => ss.getD l 0 * ps.getD l 0)
  | [], [], _ => rfl
  | [], _ :: _, h => by simp at h
  | _ :: _, [], h => by simp at h
  | s :: ss, p :: ps, h => by
    have ih := dot_leg ss ps (by simpa using h)
    rw [List.length_cons, legSum_succ, dotM, ih]
    rfl
theorem cut_leg : ∀ (ps : List Int) (a b : Nat), ((ps.drop a).take (b - a)).sum = legSum ps.length (fun l => if a ≤ l ∧ l < b then ps.getD l 0 else 0)
  | [], a, b => by simp [legSum]
  | p :: ps, a, 0 => by
    rw [legSum_eq (g := fun _ => 0) (fun l _ => if_neg (by omega)), legSum_zero]
    simp
  | p :: ps, 0, b + 1 => by
    have ih := cut_leg ps 0 b
    rw [List.length_cons, legSum_succ, if_pos (by omega)]
    simp only [List.drop_zero, Nat.sub_zero, List.take_succ_cons, List.sum_cons] at ih ⊢
    rw [ih]
    congr 1
    refine legSum_eq fun l _ => ?_
    by_cases h : l < b
    · rw [if_pos (by omega), if_pos (by omega)]
      rfl
    · rw [if_neg (by omega), if_neg (by omega)]
  | p :: ps, a + 1, b + 1 => by
    have ih := cut_leg ps a b
    rw [List.length_cons, legSum_succ, if_neg (by omega), List.drop_succ_cons, show b + 1 - (a + 1) = b - a by omega, ih, Int.zero_add]
    refine legSum_eq fun l _ => ?_
    by_cases h : a ≤ l ∧ l < b
    · rw [if_pos h, if_pos (by omega)]
      rfl
    · rw [if_neg h, if_neg (by omega)]
theorem span_leg {ps : List Int} {r : Rq} (ok : r.Ok ps.length) : spanM ps r = legSum ps.length (fun l => if r.a ≤ (l : Int) ∧ (l : Int) < r.b then ps.getD l 0 else 0) := by
  obtain ⟨a0, ab, bn, _⟩ := ok
  obtain ⟨a, ea⟩ := Int.eq_ofNat_of_zero_le a0
  obtain ⟨b, eb⟩ := Int.eq_ofNat_of_zero_le (show 0 ≤ r.b by omega)
  unfold spanM cut
  rw [ea, eb, HT.sIx_nat, HT.sIx_nat, Nat.min_eq_left (by omega), Nat.min_eq_left (by omega), cut_leg]
  exact legSum_eq fun l _ => by
    by_cases h : a ≤ l ∧ l < b
    · rw [if_pos h, if_pos (by omega)]
    · rw [if_neg h, if_neg (by omega)]
theorem load_leg : ∀ {rs : List Rq} {ms ps : List Int}, InAsk rs ms → (∀ r ∈ rs, r.Ok ps.length) → legSum ps.length (fun l => loadAt rs ms l * ps.getD l 0) = ((rs.zip ms).map fun q => q.2 * spanM ps q.1).sum
  | [], [], ps, _, _ => by
    rw [legSum_eq (g := fun _ => 0) (fun l _ => by simp [loadAt]), legSum_zero]
    rfl
  | [], _ :: _, ps, h, _ => by have := h.1; simp at this
  | _ :: _, [], ps, h, _ => by have := h.1; simp at this
  | r :: rs, m :: ms, ps, h, ok => by
    have ih := load_leg h.cons.2 (fun q hq => ok q (by simp [hq]))
    rw [List.zip_cons_cons, List.map_cons, List.sum_cons, ← ih, span_leg (ok r (by simp)), ← legSum_mul, ← legSum_add]
    refine legSum_eq fun l _ => ?_
    simp only [loadAt]
    by_cases hc : r.a ≤ (l : Int) ∧ (l : Int) < r.b
    · rw [if_pos hc, if_pos hc, Int.add_mul]
    · rw [if_neg hc, if_neg hc, Int.zero_add, Int.mul_zero, Int.zero_add]
theorem take_le : ∀ {rs : List Rq} {ms ps : List Int}, InAsk rs ms → (∀ r ∈ rs, r.Ok ps.length) → (∀ r ∈ rs, 0 ≤ r.f) → takeM rs ms ≤ ((rs.zip ms).map fun q => q.2 * spanM ps q.1).sum + (rs.map fun r => r.m * max 0 (r.f - spanM ps r)).sum
  | [], [], ps, _, _, _ => by simp [takeM]
  | [], _ :: _, ps, h, _, _ => by have := h.1; simp at this
  | _ :: _, [], ps, h, _, _ => by have := h.1; simp at this
  | r :: rs, m :: ms, ps, h, ok, hf => by
    obtain ⟨⟨m0, m1⟩, h2⟩ := h.cons
    have ih := take_le h2 (fun q hq => ok q (by simp [hq])) (fun q hq => hf q (by simp [hq]))
    rw [List.zip_cons_cons, List.map_cons, List.map_cons, List.sum_cons, List.sum_cons, takeM]
    have e1 : r.f * m = m * spanM ps r + m * (r.f - spanM ps r) := by
      rw [← Int.mul_add, Int.mul_comm]
      congr 1
      omega
    have e2 : m * (r.f - spanM ps r) ≤ m * max 0 (r.f - spanM ps r) := Int.mul_le_mul_of_nonneg_left (by omega) m0
    have e3 : m * max 0 (r.f - spanM ps r) ≤ r.m * max 0 (r.f - spanM ps r) := Int.mul_le_mul_of_nonneg_right m1 (by omega)
    show r.f * m + takeM rs ms ≤ m * spanM ps r + ((rs.zip ms).map fun q => q.2 * spanM ps q.1).sum + (r.m * max 0 (r.f - spanM ps r) + (rs.map fun r => r.m * max 0 (r.f - spanM ps r)).sum)
    omega
theorem duality {ss : List Int} {rs : List Rq} {ms ps : List Int} (ha : InAsk rs ms) (ok : ∀ r ∈ rs, r.Ok ss.length) (hp : ps.length = ss.length) (p0 : ∀ p ∈ ps, 0 ≤ p) (hf : fitsM (loadsM ss.length rs ms) ss = true) : takeM rs ms ≤ worthM ss rs ps := by
  have h1 := take_le ha (ps := ps) (fun r hr => by rw [hp]; exact ok r hr) (fun r hr => by have := (ok r hr).f1; omega)
  rw [← load_leg ha (fun r hr => by rw [hp]; exact ok r hr)] at h1
  unfold worthM
  rw [dot_leg ss ps hp]
  have h2 : legSum ps.length (fun l => loadAt rs ms l * ps.getD l 0) ≤ legSum ss.length (fun l => ss.getD l 0 * ps.getD l 0) := by
    rw [hp]
    refine legSum_le fun l hl => ?_
    have hlen : (loadsM ss.length rs ms).length = ss.length := by simp [loadsM]
    have hx := (fitsM_iff hlen).mp hf l (loadAt rs ms l) (by simp [loadsM, hl])
    have hp0 : 0 ≤ ps.getD l 0 := by
      rw [List.getD_eq_getElem?_getD, List.getElem?_eq_getElem (by omega)]
      exact p0 _ (List.getElem_mem _)
    exact Int.mul_le_mul_of_nonneg_right hx hp0
  omega
theorem okv_lst {xs : List D} (h : ∀ x ∈ xs, x.okv = true) : (D.lst xs).okv = true := by
  rw [D.okv]
  exact okvA_of h
theorem okv_tup {xs : List D} (h : ∀ x ∈ xs, x.okv = true) : (D.tup xs).okv = true := by
  rw [D.okv]
  exact okvA_of h
theorem okv_req {rs : List Rq} : ∀ x ∈ rs.map Rq.d, x.okv = true := fun x hx => by
  obtain ⟨r, _, rfl⟩ := List.mem_map.mp hx
  rfl
theorem okv_int {ms : List Int} : ∀ x ∈ ms.map D.int, x.okv = true := fun x hx => by
  obtain ⟨r, _, rfl⟩ := List.mem_map.mp hx
  rfl
theorem fb_id {g : DG} {t : DS} {D : DEnds} {δ : List Sl} (xs : List Sd.D) (J : Nat → List Sl → Prop) (h0 : J 0 δ)
    (hs : ∀ i x δ', x ∈ xs → J i δ' → g x δ' fun δ2 => t { D with nx := J (i + 1), ct := J (i + 1), bk := D.nx } δ2) (hd : ∀ δ', J xs.length δ' → D.nx δ') : fbB xs g t D δ :=
  ⟨J, h0, fun i x δ' h hj => hs i x δ' (List.mem_of_getElem? h) hj, hd⟩
theorem rok_int {n : Nat} {i : Int} (h : i.natAbs < 1000000) : (D.int i).rok n = true := by cases n <;> simpa [D.rok] using h
theorem rok_lst {n : Nat} {ms : List Int} (hl : ms.length ≤ 30) (h : ∀ m ∈ ms, m.natAbs < 1000000) : (D.lst (ms.map D.int)).rok (n + 1) = true := by
  simp only [D.rok, List.length_map, Bool.and_eq_true, decide_eq_true_eq, List.all_eq_true]
  refine ⟨hl, fun x hx => ?_⟩
  obtain ⟨m, hm, rfl⟩ := List.mem_map.mp hx
  exact rok_int (h m hm)
theorem rok_tup {n : Nat} {ms : List Int} (hl : ms.length ≤ 30) (h : ∀ m ∈ ms, m.natAbs < 1000000) : (D.tup (ms.map D.int)).rok (n + 1) = true := by
  simp only [D.rok, List.length_map, Bool.and_eq_true, decide_eq_true_eq, List.all_eq_true]
  refine ⟨hl, fun x hx => ?_⟩
  obtain ⟨m, hm, rfl⟩ := List.mem_map.mp hx
  exact rok_int (h m hm)
theorem rok_pair {lab : Str} {d : D} (hl : (PyData.strOk lab && decide (lab.cps.size ≤ 100)) = true) (h : d.rok 1 = true) : (D.tup [.str lab, d]).rok 2 = true := by
  simp only [D.rok, List.length_cons, List.length_nil, List.all_cons, List.all_nil, h, hl]
  rfl
/-- repr of a pair, the same on both sides -/
theorem same_repr (lab : Str) : (lab != lab) = false := by simp
theorem alike_i {F : Fs} {d : D} {O : Out → Prop} (h : d.alk 6 = true) (o : O (.ret (.bl true))) : spAlike 7 F [d, d] O := ⟨d, rfl, h, o⟩
theorem pricesOk_of {n : Nat} {ps : List Int} (hl : ps.length = n) (h : ∀ p ∈ ps, 0 ≤ p) : pricesOk n (.tup (ps.map D.int)) = true := by
  simp [pricesOk, priceOk, hl]
  exact h
theorem rep1 (n : Nat) (x : D) : repD (n : Int) [x] = List.replicate n x := by
  simp [repD]
theorem okv_rep {n : Nat} {x : D} (h : x.okv = true) : ∀ y ∈ List.replicate n x, y.okv = true := fun y hy => by
  rw [List.eq_of_mem_replicate hy]
  exact h
theorem rok_rep {n k : Nat} {x : D} (h : x.rok k = true) (hn : n ≤ 30) : (D.lst (List.replicate n x)).rok (k + 1) = true := by
  simp only [D.rok, List.length_replicate, Bool.and_eq_true, decide_eq_true_eq, List.all_eq_true]
  exact ⟨hn, fun y hy => by rw [List.eq_of_mem_replicate hy]; exact h⟩
theorem rok_repT {n k : Nat} {x : D} (h : x.rok k = true) (hn : n ≤ 30) : (D.tup (List.replicate n x)).rok (k + 1) = true := by
  simp only [D.rok, List.length_replicate, Bool.and_eq_true, decide_eq_true_eq, List.all_eq_true]
  exact ⟨hn, fun y hy => by rw [List.eq_of_mem_replicate hy]; exact h⟩
/-- the same odd thing for each -/
theorem odd_rep {ss : List Int} {rs : List Rq} {x : D} (n : Nat) (hn : 0 < n) (h : ∀ r ∈ rs, isWithin x 0 r.m = false) : isSaleM ss rs (.lst (List.replicate n x)) = false := by
  unfold isSaleM
  show (decide ((List.replicate n x).length = rs.length) && _) = false
  by_cases hl : (List.replicate n x).length = rs.length
  · cases rs with
    | nil =>
      simp at hl
      omega
    | cons r rs =>
      cases n with
      | zero => omega
      | succ n =>
        rw [List.replicate_succ]
        simp [manyOk, h r (by simp)]
  · rw [decide_eq_false hl]
    rfl
theorem zeros_in {ss : List Int} {rs : List Rq} (ok : ∀ r ∈ rs, r.Ok ss.length) : InAsk rs (List.replicate rs.length 0) := ⟨by simp, fun i r m h1 h2 => by
  have := List.eq_of_mem_replicate (List.mem_of_getElem? h2)
  have := (ok r (List.mem_of_getElem? h1)).m1
  omega⟩
theorem load_zero (l : Nat) : ∀ rs : List Rq, loadAt rs (List.replicate rs.length 0) l = 0
  | [] => rfl
  | r :: rs => by
    rw [List.length_cons, List.replicate_succ, loadAt, load_zero l rs]
    split <;> rfl
theorem zeros_fit {ss : List Int} {rs : List Rq} (h : ∀ s ∈ ss, 0 ≤ s) : fitsM (loadsM ss.length rs (List.replicate rs.length 0)) ss = true := by
  rw [fitsM_iff (by simp [loadsM])]
  intro i x hx
  unfold loadsM at hx
  rw [List.getElem?_map, Option.map_eq_some_iff] at hx
  obtain ⟨k, hk, rfl⟩ := hx
  obtain ⟨hk, rfl⟩ := range_at hk
  rw [load_zero, List.getD_eq_getElem?_getD, List.getElem?_eq_getElem hk]
  exact h _ (List.getElem_mem _)
theorem zeros_sale {ss : List Int} {rs : List Rq} (ok : ∀ r ∈ rs, r.Ok ss.length) (h : ∀ s ∈ ss, 0 ≤ s) : isSaleM ss rs (.lst (List.replicate rs.length (.int 0))) = true := by
  have e : (D.lst (List.replicate rs.length (.int 0))).seq = some ((List.replicate rs.length (0 : Int)).map D.int) := by simp [D.seq]
  rw [saleM_of e (zeros_in ok), zeros_fit h]
theorem prices_rep {n : Nat} {x : D} (hn : 0 < n) (h : priceOk x = false) : pricesOk n (.tup (List.replicate n x)) = false := by
  cases n with
  | zero => omega
  | succ n => simp [pricesOk, h]
theorem prices_more {ps : List Int} {n : Nat} (h : ps.length = n) : pricesOk n (.tup (ps.map D.int ++ [.int 0])) = false := by
  simp [pricesOk, h]
theorem bad_last {n : Nat} {rs : List Rq} {o : D} (ok : ∀ r ∈ rs, r.Ok n) (hl : rs.length ≤ 11) (h : isReq n o = false) : badReqs n (.lst (rs.map Rq.d ++ [o])) = some (rs.length : Int) := by
  unfold badReqs
  show (if 12 < (rs.map Rq.d ++ [o]).length then some (-1) else Option.map Int.ofNat ((rs.map Rq.d ++ [o]).findIdx? fun x => !isReq n x)) = _
  rw [if_neg (by simp; omega), findIdx_at (p := isReq n) (i := rs.length) (x := o) ?_ (by simp) h]
  · rfl
  · rw [List.take_left' (by simp), List.all_eq_true]
    intro x hx
    obtain ⟨r, hr, rfl⟩ := List.mem_map.mp hx
    exact isReq_d (ok r hr)
theorem bad_seat {ss : List Int} {at_ : Nat} {x : D} (h : ∀ s ∈ ss, 0 ≤ s ∧ s ≤ 20) (hl : ss.length ≤ 10) (ha : at_ < ss.length) (hx : isWithin x 0 20 = false) : badSeats (.tup ((ss.take at_).map D.int ++ ([x] ++ (ss.drop (at_ + 1)).map D.int))) = some (at_ : Int) := by
  unfold badSeats
  have e : ((ss.take at_).map D.int ++ ([x] ++ (ss.drop (at_ + 1)).map D.int)).length = ss.length := by simp; omega
  show (if ((ss.take at_).map D.int ++ ([x] ++ (ss.drop (at_ + 1)).map D.int)).length = 0 ∨ 10 < ((ss.take at_).map D.int ++ ([x] ++ (ss.drop (at_ + 1)).map D.int)).length then some (-1) else Option.map Int.ofNat (((ss.take at_).map D.int ++ ([x] ++ (ss.drop (at_ + 1)).map D.int)).findIdx? fun x => !isWithin x 0 20)) = _
  have hla : ((ss.take at_).map D.int).length = at_ := by simp; omega
  rw [e, if_neg (by omega), findIdx_at (p := (isWithin · 0 20)) (i := at_) (x := x) ?_ (by rw [List.getElem?_append_right (by omega), hla, Nat.sub_self]; rfl) hx]
  · rfl
  · rw [List.take_left' hla, List.all_eq_true]
    intro y hy
    obtain ⟨s, hs, rfl⟩ := List.mem_map.mp hy
    have := h s (List.mem_of_mem_take hs)
    simp [isWithin]
    omega
theorem cut_to {α : Type} (xs : List α) (k : Nat) (h : k ≤ xs.length) : cut xs none (some (k : Int)) = xs.take k := by
  unfold cut
  rw [HT.sIx_none, HT.sIx_nat, Nat.min_eq_left h]
  simp
theorem cut_from {α : Type} (xs : List α) (k : Nat) (h : k ≤ xs.length) : cut xs (some (k : Int)) none = xs.drop k := by
  unfold cut
  rw [HT.sIx_none, HT.sIx_nat, Nat.min_eq_left h]
  exact List.take_of_length_le (by simp)
theorem cut_11 {α : Type} (xs : List α) : cut xs none (some 11) = xs.take 11 := by
  unfold cut
  rw [HT.sIx_none, show (11 : Int) = ((11 : Nat) : Int) from rfl, HT.sIx_nat]
  simp
end Sd
end
-- SdP00
section
set_option Elab.async false
set_option linter.all false
set_option maxRecDepth 100000
set_option maxHeartbeats 4000000
set_option autoImplicit false
/-! k00: roads, rings, plain -/
namespace Sd
/-- a road: from u to v, its cost, its room, which way of what -/
structure Road where
  u : Nat
  v : Nat
  w : Int
  cap : Int
  dir : Int
  idx : Nat
def cAt (c : List Int) (i : Nat) : Int := (c[i]?).getD 0
def lAt (l : List (Option Road)) (i : Nat) : Option Road := (l[i]?).getD none
structure BSt where
  c : List Int
  l : List (Option Road)
  ch : Option Nat
def relax (s : BSt) (e : Road) : BSt := if cAt s.c e.u + e.w < cAt s.c e.v then ⟨s.c.set e.v (cAt s.c e.u + e.w), s.l.set e.v (some e), some e.v⟩ else s
def roundB (E : List Road) (s : BSt) : BSt := E.foldl relax { s with ch := none }
def roundsB (E : List Road) (S : Nat) : Nat → BSt
  | 0 => ⟨List.replicate S 0, List.replicate S none, none⟩
  | k + 1 => roundB E (roundsB E S k)
theorem cAt_set {c : List Int} {i : Nat} (x : Int) (h : i < c.length) (j : Nat) : cAt (c.set i x) j = if j = i then x else cAt c j := by
  unfold cAt
  rw [List.getElem?_set]
  by_cases e : i = j
  · subst e
    simp [h]
  · rw [if_neg e, if_neg (fun z => e z.symm)]
theorem lAt_set {l : List (Option Road)} {i : Nat} (x : Option Road) (h : i < l.length) (j : Nat) : lAt (l.set i x) j = if j = i then x else lAt l j := by
  unfold lAt
  rw [List.getElem?_set]
  by_cases e : i = j
  · subst e
    simp [h]
  · rw [if_neg e, if_neg (fun z => e z.symm)]
/-- in round p, the roads of done walked: r is the round of a stop's last change, t its time -/
structure BInv (S : Nat) (E : List Road) (p : Nat) (done : Road → Prop) (s : BSt) (r t : Nat → Nat) (now : Nat) : Prop where
  lc : s.c.length = S
  ll : s.l.length = S
  rp : ∀ v, r v ≤ p
  tn : ∀ v, t v ≤ now
  road : ∀ v e, lAt s.l v = some e → e ∈ E ∧ e.v = v ∧ cAt s.c e.u + e.w ≤ cAt s.c v ∧ (cAt s.c e.u + e.w = cAt s.c v → t e.u < t v) ∧ r v ≤ r e.u + 1
  non : ∀ v, lAt s.l v = none → r v = 0
  som : ∀ v, 0 < r v → lAt s.l v ≠ none
  dn : ∀ e ∈ E, done e → cAt s.c e.v ≤ cAt s.c e.u + e.w ∨ p ≤ r e.u
  td : ∀ e ∈ E, cAt s.c e.v ≤ cAt s.c e.u + e.w ∨ p ≤ r e.u + 1
  ch1 : ∀ v, s.ch = some v → r v = p ∧ v < S
  ch0 : s.ch = none → ∀ v, r v < p
theorem relax_inv {S : Nat} {E : List Road} {p : Nat} (hp : 0 < p) (hE : ∀ e ∈ E, e.u < S ∧ e.v < S ∧ e.u ≠ e.v) {done : Road → Prop} {s : BSt} {r t : Nat → Nat} {now : Nat} (I : BInv S E p done s r t now) {e : Road} (he : e ∈ E) :
    ∃ r' t', BInv S E p (fun x => done x ∨ x = e) (relax s e) r' t' (now + 1) := by
  obtain ⟨hu, hv, hne⟩ := hE e he
  unfold relax
  by_cases c : cAt s.c e.u + e.w < cAt s.c e.v
  · rw [if_pos c]
    have hr : p ≤ r e.u + 1 := by
      rcases I.td e he with h | h
      · omega
      · exact h
    have gc := cAt_set (c := s.c) (i := e.v) (cAt s.c e.u + e.w) (by rw [I.lc]; exact hv)
    have gl := lAt_set (l := s.l) (i := e.v) (some e) (by rw [I.ll]; exact hv)
    refine ⟨fun x => if x = e.v then p else r x, fun x => if x = e.v then now + 1 else t x, ?_⟩
    refine ⟨by simp [I.lc], by simp [I.ll], fun v => ?_, fun v => ?_, fun v f hf => ?_, fun v h => ?_, fun v h => ?_, fun f hf hd => ?_, fun f hf => ?_, fun v h => ?_, fun h => nomatch h⟩
    · show (if v = e.v then p else r v) ≤ p
      split
      · exact Nat.le_refl _
      · exact I.rp v
    · show (if v = e.v then now + 1 else t v) ≤ now + 1
      split
      · exact Nat.le_refl _
      · have := I.tn v
        omega
    · have hf : lAt (s.l.set e.v (some e)) v = some f := hf
      rw [gl] at hf
      by_cases hve : v = e.v
      · rw [if_pos hve] at hf
        cases hf
        refine ⟨he, hve.symm, ?_, ?_, ?_⟩
        · show cAt (s.c.set _ _) e.u + e.w ≤ cAt (s.c.set _ _) v
          rw [gc, gc, if_neg hne, if_pos hve]
          exact Int.le_refl _
        · intro _
          show (if e.u = e.v then now + 1 else t e.u) < (if v = e.v then now + 1 else t v)
          rw [if_neg hne, if_pos hve]
          have := I.tn e.u
          omega
        · show (if v = e.v then p else r v) ≤ (if e.u = e.v then p else r e.u) + 1
          rw [if_neg hne, if_pos hve]
          exact hr
      · rw [if_neg hve] at hf
        obtain ⟨f1, f2, f3, f4, f5⟩ := I.road v f hf
        refine ⟨f1, f2, ?_, ?_, ?_⟩
        · show cAt (s.c.set _ _) f.u + f.w ≤ cAt (s.c.set _ _) v
          rw [gc, gc, if_neg hve]
          by_cases hfu : f.u = e.v
          · rw [if_pos hfu]
            rw [hfu] at f3
            omega
          · rw [if_neg hfu]
            exact f3
        · show cAt (s.c.set _ _) f.u + f.w = cAt (s.c.set _ _) v → (if f.u = e.v then now + 1 else t f.u) < (if v = e.v then now + 1 else t v)
          rw [gc, gc, if_neg hve]
          by_cases hfu : f.u = e.v
          · rw [if_pos hfu]
            rw [hfu] at f3
            intro z
            omega
          · rw [if_neg hfu, if_neg hfu, if_neg hve]
            exact f4
        · show (if v = e.v then p else r v) ≤ (if f.u = e.v then p else r f.u) + 1
          rw [if_neg hve]
          have := I.rp v
          split <;> omega
    · have h : lAt (s.l.set e.v (some e)) v = none := h
      rw [gl] at h
      by_cases hve : v = e.v
      · rw [if_pos hve] at h
        cases h
      · rw [if_neg hve] at h
        show (if v = e.v then p else r v) = 0
        rw [if_neg hve]
        exact I.non v h
    · show lAt (s.l.set e.v (some e)) v ≠ none
      rw [gl]
      by_cases hve : v = e.v
      · rw [if_pos hve]
        exact fun z => nomatch z
      · rw [if_neg hve]
        have h : 0 < (if v = e.v then p else r v) := h
        rw [if_neg hve] at h
        exact I.som v h
    · show cAt (s.c.set _ _) f.v ≤ cAt (s.c.set _ _) f.u + f.w ∨ p ≤ (if f.u = e.v then p else r f.u)
      by_cases hfu : f.u = e.v
      · rw [if_pos hfu]
        exact .inr (Nat.le_refl _)
      · rw [if_neg hfu, gc, gc, if_neg hfu]
        rcases hd with hd | rfl
        · rcases I.dn f hf hd with h | h
          · left
            split
            · rename_i z
              rw [z] at h
              omega
            · exact h
          · exact .inr h
        · left
          rw [if_pos rfl]
          exact Int.le_refl _
    · show cAt (s.c.set _ _) f.v ≤ cAt (s.c.set _ _) f.u + f.w ∨ p ≤ (if f.u = e.v then p else r f.u) + 1
      by_cases hfu : f.u = e.v
      · rw [if_pos hfu]
        exact .inr (by omega)
      · rw [if_neg hfu, gc, gc, if_neg hfu]
        rcases I.td f hf with h | h
        · left
          split
          · rename_i z
            rw [z] at h
            omega
          · exact h
        · exact .inr h
    · have h : some e.v = some v := h
      cases h
      exact ⟨if_pos rfl, hv⟩
  · rw [if_neg c]
    refine ⟨r, t, I.lc, I.ll, I.rp, fun v => Nat.le_succ_of_le (I.tn v), I.road, I.non, I.som, fun f hf hd => ?_, I.td, I.ch1, I.ch0⟩
    rcases hd with hd | rfl
    · exact I.dn f hf hd
    · exact .inl (by omega)
theorem fold_inv {S : Nat} {E : List Road} {p : Nat} (hp : 0 < p) (hE : ∀ e ∈ E, e.u < S ∧ e.v < S ∧ e.u ≠ e.v) : ∀ (todo : List Road) (done : Road → Prop) (s : BSt) (r t : Nat → Nat) (now : Nat), (∀ e ∈ todo, e ∈ E) → BInv S E p done s r t now →
    ∃ r' t' now', BInv S E p (fun x => done x ∨ x ∈ todo) (todo.foldl relax s) r' t' now'
  | [], done, s, r, t, now, _, I => ⟨r, t, now, I.lc, I.ll, I.rp, I.tn, I.road, I.non, I.som, fun e he hd => I.dn e he (hd.elim id fun z => nomatch z), I.td, I.ch1, I.ch0⟩
  | e :: todo, done, s, r, t, now, hm, I => by
    obtain ⟨r1, t1, I1⟩ := relax_inv hp hE I (hm e List.mem_cons_self)
    obtain ⟨r2, t2, n2, I2⟩ := fold_inv hp hE todo _ _ r1 t1 (now + 1) (fun x hx => hm x (List.mem_cons_of_mem _ hx)) I1
    refine ⟨r2, t2, n2, I2.lc, I2.ll, I2.rp, I2.tn, I2.road, I2.non, I2.som, fun x hx hd => I2.dn x hx ?_, I2.td, I2.ch1, I2.ch0⟩
    rcases hd with hd | hd
    · exact .inl (.inl hd)
    · rcases List.mem_cons.mp hd with hd | hd
      · exact .inl (.inr hd)
      · exact .inr hd
theorem rounds_inv {S : Nat} {E : List Road} (hE : ∀ e ∈ E, e.u < S ∧ e.v < S ∧ e.u ≠ e.v) : ∀ k, ∃ r t now, BInv S E (k + 1) (fun e => e ∈ E) (roundsB E S (k + 1)) r t now
  | 0 => by
    have I0 : BInv S E 1 (fun _ => False) ⟨List.replicate S 0, List.replicate S none, none⟩ (fun _ => 0) (fun _ => 0) 0 := by
      have hl : ∀ v, lAt (List.replicate S none) v = none := fun v => by
        unfold lAt
        rw [List.getElem?_replicate]
        split <;> rfl
      refine ⟨by simp, by simp, fun v => Nat.zero_le _, fun v => Nat.le_refl _, fun v e h => ?_, fun v h => rfl, fun v h => absurd h (by simp), fun e he hd => hd.elim, fun e he => .inr (Nat.le_refl _), (fun v h => nomatch h), fun _ v => Nat.zero_lt_one⟩
      have h : lAt (List.replicate S none) v = some e := h
      rw [hl] at h
      cases h
    obtain ⟨r, t, now, I⟩ := fold_inv (by omega) hE E _ _ _ _ _ (fun e h => h) I0
    exact ⟨r, t, now, I.lc, I.ll, I.rp, I.tn, I.road, I.non, I.som, fun e he hd => I.dn e he (.inr hd), I.td, I.ch1, I.ch0⟩
  | k + 1 => by
    obtain ⟨r, t, now, I⟩ := rounds_inv hE k
    have I0 : BInv S E (k + 2) (fun _ => False) { roundsB E S (k + 1) with ch := none } r t now :=
      ⟨I.lc, I.ll, fun v => Nat.le_succ_of_le (I.rp v), I.tn, I.road, I.non, I.som, fun e he hd => hd.elim, fun e he => (I.dn e he he).elim .inl fun h => .inr (by omega), (fun v h => nomatch h), fun _ v => by have := I.rp v; omega⟩
    obtain ⟨r2, t2, n2, I2⟩ := fold_inv (by omega) hE E _ _ _ _ _ (fun e h => h) I0
    exact ⟨r2, t2, n2, I2.lc, I2.ll, I2.rp, I2.tn, I2.road, I2.non, I2.som, fun e he hd => I2.dn e he (.inr hd), I2.td, I2.ch1, I2.ch0⟩
/-- nothing changed: the costs fit every road -/
theorem rounds_fit {S : Nat} {E : List Road} (hE : ∀ e ∈ E, e.u < S ∧ e.v < S ∧ e.u ≠ e.v) {k : Nat} (h : (roundsB E S (k + 1)).ch = none) : ∀ e ∈ E, cAt (roundsB E S (k + 1)).c e.v ≤ cAt (roundsB E S (k + 1)).c e.u + e.w := fun e he => by
  obtain ⟨r, t, now, I⟩ := rounds_inv hE k
  rcases I.dn e he he with h2 | h2
  · exact h2
  · have := I.ch0 h e.u
    omega
/-! the ring behind a stop that changed last -/
def backV (l : List (Option Road)) (v : Nat) : Nat := match lAt l v with
  | some e => e.u
  | none => v
def backN (l : List (Option Road)) (v : Nat) : Nat → Nat
  | 0 => v
  | k + 1 => backV l (backN l v k)
theorem backN_add (l : List (Option Road)) (v : Nat) (j : Nat) : ∀ k, backN l v (j + k) = backN l (backN l v j) k
  | 0 => rfl
  | k + 1 => by
    show backV l (backN l v (j + k)) = backV l (backN l (backN l v j) k)
    rw [backN_add l v j k]
/-- a closed way of roads, heads all different, its cost below 0 -/
structure Ring (E : List Road) (R : List Road) : Prop where
  mem : ∀ e ∈ R, e ∈ E
  ne : R ≠ []
  heads : (R.map (·.v)).Nodup
  tele : ∀ h : Nat → Int, (R.map fun e => h e.v - h e.u).sum = 0
  neg : (R.map (·.w)).sum < 0
/-- the roads behind v, p of them -/
def ringL (l : List (Option Road)) (v : Nat) (p : Nat) : List Road := (List.range p).filterMap fun k => lAt l (backN l v k)
theorem not_nodup {xs : List Nat} (h : ¬ xs.Nodup) : ∃ i j, i < j ∧ j < xs.length ∧ xs[i]? = xs[j]? := by
  induction xs with
  | nil => exact absurd List.Pairwise.nil h
  | cons x xs ih =>
    by_cases c : x ∈ xs
    · obtain ⟨k, hk, e⟩ := List.getElem_of_mem c
      refine ⟨0, k + 1, by omega, by rw [List.length_cons]; omega, ?_⟩
      rw [List.getElem?_cons_zero, List.getElem?_cons_succ, List.getElem?_eq_getElem hk, e]
    · have hn : ¬ xs.Nodup := fun z => h (List.nodup_cons.mpr ⟨c, z⟩)
      obtain ⟨i, j, h1, h2, h3⟩ := ih hn
      exact ⟨i + 1, j + 1, by omega, by rw [List.length_cons]; omega, by rw [List.getElem?_cons_succ, List.getElem?_cons_succ]; exact h3⟩
/-- what walking back finds: p roads behind stop make a ring, and no fewer lead back to it -/
structure Found (E : List Road) (l : List (Option Road)) (stop p : Nat) : Prop where
  p0 : 0 < p
  all : ∀ k, ∃ e, lAt l (backN l stop k) = some e ∧ e.u = backN l stop (k + 1) ∧ e.v = backN l stop k
  ret : backN l stop p = stop
  min : ∀ q, 0 < q → q < p → backN l stop q ≠ stop
  ring : Ring E (ringL l stop p)
theorem ringL_succ {l : List (Option Road)} {v p : Nat} {e : Road} (h : lAt l (backN l v p) = some e) : ringL l v (p + 1) = ringL l v p ++ [e] := by
  unfold ringL
  rw [List.range_succ, List.filterMap_append]
  congr 1
  show ([p].filterMap fun k => lAt l (backN l v k)) = [e]
  simp [h]
theorem rounds_ring {S : Nat} {E : List Road} (hE : ∀ e ∈ E, e.u < S ∧ e.v < S ∧ e.u ≠ e.v) {v0 : Nat} (h : (roundsB E S (S + 1)).ch = some v0) :
    (∀ k, k ≤ S → lAt (roundsB E S (S + 1)).l (backN (roundsB E S (S + 1)).l v0 k) ≠ none) ∧ ∃ p, p ≤ S ∧ Found E (roundsB E S (S + 1)).l (backN (roundsB E S (S + 1)).l v0 S) p := by
  obtain ⟨r, t, now, I⟩ := rounds_inv hE S
  generalize roundsB E S (S + 1) = s at h I
  obtain ⟨hr0, hv0⟩ := I.ch1 v0 h
  have hr : ∀ k, k ≤ S → S + 1 ≤ r (backN s.l v0 k) + k := fun k => by
    induction k with
    | zero => intro _; rw [show backN s.l v0 0 = v0 from rfl, hr0]; omega
    | succ k ih =>
      intro hk
      have ih := ih (by omega)
      have hne := I.som (backN s.l v0 k) (by omega)
      cases hl : lAt s.l (backN s.l v0 k) with
      | none => exact absurd hl hne
      | some e =>
        have := (I.road _ e hl).2.2.2.2
        have eb : backN s.l v0 (k + 1) = e.u := by
          show backV s.l (backN s.l v0 k) = _
          unfold backV
          rw [hl]
        rw [eb]
        omega
  have hdef : ∀ k, k ≤ S → ∃ e, lAt s.l (backN s.l v0 k) = some e := fun k hk => by
    have := hr k hk
    have hne := I.som (backN s.l v0 k) (by omega)
    cases hl : lAt s.l (backN s.l v0 k) with
    | none => exact absurd hl hne
    | some e => exact ⟨e, rfl⟩
  have hlt : ∀ k, k ≤ S → backN s.l v0 k < S := fun k => by
    cases k with
    | zero => intro _; exact hv0
    | succ k =>
      intro hk
      obtain ⟨e, he⟩ := hdef k (by omega)
      have eb : backN s.l v0 (k + 1) = e.u := by
        show backV s.l (backN s.l v0 k) = _
        unfold backV
        rw [he]
      rw [eb]
      exact (hE e (I.road _ e he).1).1
  refine ⟨fun k hk => (by obtain ⟨e, he⟩ := hdef k hk; rw [he]; exact (fun z => nomatch z)), ?_⟩
  -- two of the stops are the same
  have hdup : ¬ ((List.range (S + 1)).map (backN s.l v0)).Nodup := fun z => by
    have hs : ((List.range (S + 1)).map (backN s.l v0)) ⊆ List.range S := fun x hx => by
      obtain ⟨k, hk, rfl⟩ := List.mem_map.mp hx
      exact List.mem_range.mpr (hlt k (by have := List.mem_range.mp hk; omega))
    have := List.Nodup.length_le_of_subset z hs
    rw [List.length_map, List.length_range, List.length_range] at this
    omega
  obtain ⟨i, j, hij, hj, he⟩ := not_nodup hdup
  rw [List.length_map, List.length_range] at hj
  have he : backN s.l v0 i = backN s.l v0 j := by
    rw [List.getElem?_map, List.getElem?_map, List.getElem?_range (by omega), List.getElem?_range (by omega)] at he
    exact Option.some.inj he
  -- from i on the stops come again
  have hper : ∀ n, backN s.l v0 (i + n) = backN s.l v0 (j + n) := fun n => by rw [backN_add, backN_add, he]
  have hback : ∀ m, ∃ k, k ≤ S ∧ backN s.l v0 m = backN s.l v0 k := fun m => by
    induction m using Nat.strongRecOn with
    | _ m ih =>
      by_cases c : m ≤ S
      · exact ⟨m, c, rfl⟩
      · obtain ⟨k, hk, e⟩ := ih (i + (m - j)) (by omega)
        refine ⟨k, hk, ?_⟩
        rw [← e, hper, show j + (m - j) = m by omega]
  have hret : ∃ p, 0 < p ∧ backN s.l (backN s.l v0 S) p = backN s.l v0 S := by
    refine ⟨j - i, by omega, ?_⟩
    rw [← backN_add]
    have := hper (S - i)
    rw [show i + (S - i) = S by omega, show j + (S - i) = S + (j - i) by omega] at this
    exact this.symm
  have hjiS : ∃ p, (0 < p ∧ backN s.l (backN s.l v0 S) p = backN s.l v0 S) ∧ (∀ q, q < p → ¬ (0 < q ∧ backN s.l (backN s.l v0 S) q = backN s.l v0 S)) ∧ p ≤ S := by
    have h0 : 0 < j - i ∧ backN s.l (backN s.l v0 S) (j - i) = backN s.l v0 S := by
      refine ⟨by omega, ?_⟩
      rw [← backN_add]
      have := hper (S - i)
      rw [show i + (S - i) = S by omega, show j + (S - i) = S + (j - i) by omega] at this
      exact this.symm
    have hle : j - i ≤ S := by omega
    generalize j - i = q at h0 hle
    induction q using Nat.strongRecOn with
    | _ q ih =>
      by_cases c : ∃ k, k < q ∧ (0 < k ∧ backN s.l (backN s.l v0 S) k = backN s.l v0 S)
      · obtain ⟨k, hk, h1⟩ := c
        exact ih k hk h1 (by omega)
      · exact ⟨q, h0, fun k hk h1 => c ⟨k, hk, h1⟩, hle⟩
  obtain ⟨p, ⟨hp0, hpr⟩, hmin, hpS⟩ := hjiS
  have hall : ∀ k, ∃ e, lAt s.l (backN s.l (backN s.l v0 S) k) = some e ∧ e.u = backN s.l (backN s.l v0 S) (k + 1) ∧ e.v = backN s.l (backN s.l v0 S) k := fun k => by
    obtain ⟨m, hm, e1⟩ := hback (S + k)
    rw [backN_add] at e1
    obtain ⟨e, he⟩ := hdef m hm
    rw [← e1] at he
    refine ⟨e, he, ?_, (I.road _ e he).2.1⟩
    show _ = backV s.l _
    unfold backV
    rw [he]
  generalize backN s.l v0 S = stop at hpr hmin hall
  refine ⟨p, hpS, hp0, hall, hpr, fun q h1 h2 h3 => hmin q h2 ⟨h1, h3⟩, ?_⟩
  -- the ring's roads by turns
  have hcut : ∀ n, n ≤ p → ∀ h : Nat → Int, ((ringL s.l stop n).map fun e => h e.v - h e.u).sum = h stop - h (backN s.l stop n) := fun n => by
    induction n with
    | zero => intro _ h; show (0 : Int) = h stop - h stop; omega
    | succ n ih =>
      intro hn h
      obtain ⟨e, he, h1, h2⟩ := hall n
      rw [ringL_succ he, List.map_append, List.sum_append, ih (by omega) h, List.map_cons, List.map_nil, List.sum_cons, List.sum_nil, h1, h2]
      omega
  have hcost : ∀ n, n ≤ p → ((ringL s.l stop n).map (·.w)).sum ≤ cAt s.c stop - cAt s.c (backN s.l stop n) ∧ (((ringL s.l stop n).map (·.w)).sum = cAt s.c stop - cAt s.c (backN s.l stop n) → t (backN s.l stop n) + n ≤ t stop) := fun n => by
    induction n with
    | zero => intro _; exact ⟨by show (0 : Int) ≤ cAt s.c stop - cAt s.c stop; omega, fun _ => Nat.le_refl _⟩
    | succ n ih =>
      intro hn
      obtain ⟨i1, i2⟩ := ih (by omega)
      obtain ⟨e, he, h1, h2⟩ := hall n
      obtain ⟨_, _, h3, h4, _⟩ := I.road _ e he
      rw [ringL_succ he, List.map_append, List.sum_append, List.map_cons, List.map_nil, List.sum_cons, List.sum_nil, ← h1]
      refine ⟨by omega, fun z => ?_⟩
      have := i2 (by omega)
      have := h4 (by omega)
      omega
  refine ⟨fun e he => ?_, fun z => ?_, ?_, fun h => ?_, ?_⟩
  · obtain ⟨k, _, hk⟩ := List.mem_filterMap.mp he
    exact (I.road _ e hk).1
  · obtain ⟨e, he, _, _⟩ := hall 0
    have : e ∈ ringL s.l stop p := List.mem_filterMap.mpr ⟨0, List.mem_range.mpr hp0, he⟩
    rw [z] at this
    cases this
  · have key : ∀ n, n ≤ p → ((ringL s.l stop n).map (·.v)) = (List.range n).map (backN s.l stop) := fun n => by
      induction n with
      | zero => intro _; rfl
      | succ n ih =>
        intro hn
        obtain ⟨e, he, h1, h2⟩ := hall n
        rw [ringL_succ he, List.map_append, ih (by omega), List.range_succ, List.map_append, List.map_cons, List.map_nil, List.map_cons, List.map_nil, h2]
    rw [key p (Nat.le_refl _)]
    refine List.Pairwise.map _ (R := fun a b => a < p ∧ b < p ∧ a < b) (fun a b hab z => ?_) ?_
    · obtain ⟨ha, hb, hlt⟩ := hab
      refine hmin (a + (p - b)) (by omega) ⟨by omega, ?_⟩
      rw [backN_add, z, ← backN_add, show b + (p - b) = p by omega, hpr]
    · refine List.Pairwise.imp_of_mem (R := fun a b => a < b) (fun {a b} ha hb hab => ⟨List.mem_range.mp ha, List.mem_range.mp hb, hab⟩) List.pairwise_lt_range
  · rw [hcut p (Nat.le_refl _) h, hpr]
    omega
  · obtain ⟨h1, h2⟩ := hcost p (Nat.le_refl _)
    rw [hpr] at h1 h2
    by_cases c : ((ringL s.l stop p).map (·.w)).sum = cAt s.c stop - cAt s.c stop
    · have := h2 c
      omega
    · omega
end Sd
end
-- SdM00
section
set_option Elab.async false
set_option linter.all false
set_option maxRecDepth 100000
set_option maxHeartbeats 4000000
set_option autoImplicit false
/-! k00: sales, rings and prices, plain -/
namespace Sd
open PySem PySem.Spec PyProof.Rows L2
/-! ### when takings and worth are the same -/
def gapR (ps : List Int) (q : Rq × Int) : Int := q.1.m * max 0 (q.1.f - spanM ps q.1) - q.2 * (q.1.f - spanM ps q.1)
theorem take_gap : ∀ {rs : List Rq} {ms ps : List Int}, ms.length = rs.length → takeM rs ms + ((rs.zip ms).map (gapR ps)).sum = ((rs.zip ms).map fun q => q.2 * spanM ps q.1).sum + (rs.map fun r => r.m * max 0 (r.f - spanM ps r)).sum
  | [], [], ps, _ => by simp [takeM]
  | [], _ :: _, ps, h => by simp at h
  | _ :: _, [], ps, h => by simp at h
  | r :: rs, m :: ms, ps, h => by
    have ih := take_gap (rs := rs) (ms := ms) (ps := ps) (by simpa using h)
    rw [List.zip_cons_cons, List.map_cons, List.map_cons, List.map_cons, List.sum_cons, List.sum_cons, List.sum_cons, takeM]
    have e1 : r.f * m = m * spanM ps r + m * (r.f - spanM ps r) := by
      rw [← Int.mul_add, Int.mul_comm]
      congr 1
      omega
    have e2 : gapR ps (r, m) = r.m * max 0 (r.f - spanM ps r) - m * (r.f - spanM ps r) := rfl
    show r.f * m + takeM rs ms + (gapR ps (r, m) + _) = m * spanM ps r + _ + (r.m * max 0 (r.f - spanM ps r) + _)
    omega
theorem gap_nonneg {ps : List Int} {r : Rq} {m : Int} (h0 : 0 ≤ m) (h1 : m ≤ r.m) : 0 ≤ gapR ps (r, m) := by
  show 0 ≤ r.m * max 0 (r.f - spanM ps r) - m * (r.f - spanM ps r)
  have e2 : m * (r.f - spanM ps r) ≤ m * max 0 (r.f - spanM ps r) := Int.mul_le_mul_of_nonneg_left (by omega) h0
  have e3 : m * max 0 (r.f - spanM ps r) ≤ r.m * max 0 (r.f - spanM ps r) := Int.mul_le_mul_of_nonneg_right h1 (by omega)
  omega
theorem sum_all_zero {xs : List Int} (h : ∀ x ∈ xs, 0 ≤ x) (hs : xs.sum ≤ 0) : ∀ x ∈ xs, x = 0 := by
  induction xs with
  | nil => intro x hx; cases hx
  | cons y r ih =>
    rw [List.sum_cons] at hs
    have h0 := h y List.mem_cons_self
    have hr : 0 ≤ r.sum := by
      clear ih hs
      induction r with
      | nil => exact Int.le_refl _
      | cons z r ih =>
        rw [List.sum_cons]
        have := h z (by simp)
        have := ih (fun x hx => h x (by rcases List.mem_cons.mp hx with rfl | hx <;> simp [*]))
        omega
    intro x hx
    rcases List.mem_cons.mp hx with rfl | hx
    · omega
    · exact ih (fun x hx => h x (List.mem_cons_of_mem _ hx)) (by omega) x hx
/-- worth less takings: by legs and by requests -/
theorem worth_gap {ss : List Int} {rs : List Rq} {ms ps : List Int} (ha : InAsk rs ms) (ok : ∀ r ∈ rs, r.Ok ss.length) (hp : ps.length = ss.length) :
    worthM ss rs ps = takeM rs ms + ((rs.zip ms).map (gapR ps)).sum + legSum ss.length (fun l => (ss.getD l 0 - loadAt rs ms l) * ps.getD l 0) := by
  have h1 := take_gap (ps := ps) ha.1
  have h2 := load_leg ha (ps := ps) (fun r hr => by rw [hp]; exact ok r hr)
  rw [hp] at h2
  have h3 : legSum ss.length (fun l => (ss.getD l 0 - loadAt rs ms l) * ps.getD l 0) + legSum ss.length (fun l => loadAt rs ms l * ps.getD l 0) = legSum ss.length (fun l => ss.getD l 0 * ps.getD l 0) := by
    rw [← legSum_add]
    refine legSum_eq fun l _ => ?_
    rw [← Int.add_mul]
    congr 1
    omega
  unfold worthM
  rw [dot_leg ss ps hp]
  omega
/-- takings as great as the worth: full legs have prices, dear ones are taken, cheap ones not -/
structure Slack (ss : List Int) (rs : List Rq) (ms ps : List Int) : Prop where
  leg : ∀ l, l < ss.length → 0 < ps.getD l 0 → loadAt rs ms l = ss.getD l 0
  ask : ∀ (i : Nat) (r : Rq) (m : Int), rs[i]? = some r → ms[i]? = some m → (m < r.m → r.f ≤ spanM ps r) ∧ (0 < m → spanM ps r ≤ r.f)
theorem fits_le {ss : List Int} {rs : List Rq} {ms : List Int} (hf : fitsM (loadsM ss.length rs ms) ss = true) {l : Nat} (hl : l < ss.length) : loadAt rs ms l ≤ ss.getD l 0 := by
  have hlen : (loadsM ss.length rs ms).length = ss.length := by simp [loadsM]
  exact (fitsM_iff hlen).mp hf l (loadAt rs ms l) (by simp [loadsM, hl])
theorem le_fits {ss : List Int} {rs : List Rq} {ms : List Int} (h : ∀ l, l < ss.length → loadAt rs ms l ≤ ss.getD l 0) : fitsM (loadsM ss.length rs ms) ss = true := by
  have hlen : (loadsM ss.length rs ms).length = ss.length := by simp [loadsM]
  refine (fitsM_iff hlen).mpr fun i x hx => ?_
  have hi : i < ss.length := by
    have := (List.getElem?_eq_some_iff.mp hx).1
    omega
  simp [loadsM, hi] at hx
  subst hx
  have := h i hi
  simpa using this
theorem getD_nonneg {ps : List Int} (p0 : ∀ p ∈ ps, 0 ≤ p) (l : Nat) : 0 ≤ ps.getD l 0 := by
  rw [List.getD_eq_getElem?_getD]
  cases h : ps[l]? with
  | none => exact Int.le_refl _
  | some x => exact p0 x (List.mem_of_getElem? h)
theorem slack_eq {ss : List Int} {rs : List Rq} {ms ps : List Int} (ha : InAsk rs ms) (ok : ∀ r ∈ rs, r.Ok ss.length) (hp : ps.length = ss.length) (p0 : ∀ p ∈ ps, 0 ≤ p) (S : Slack ss rs ms ps) : takeM rs ms = worthM ss rs ps := by
  rw [worth_gap ha ok hp]
  have h1 : legSum ss.length (fun l => (ss.getD l 0 - loadAt rs ms l) * ps.getD l 0) = 0 := by
    rw [legSum_eq (g := fun _ => 0), legSum_zero]
    intro l hl
    by_cases c : 0 < ps.getD l 0
    · rw [S.leg l hl c, Int.sub_self, Int.zero_mul]
    · have := getD_nonneg p0 l
      rw [show ps.getD l 0 = 0 by omega, Int.mul_zero]
  have h2 : ((rs.zip ms).map (gapR ps)).sum = 0 := by
    have : (rs.zip ms).map (gapR ps) = (rs.zip ms).map fun _ => 0 := List.map_congr_left fun q hq => by
      obtain ⟨i, hi, e⟩ := List.getElem_of_mem hq
      have hz : (rs.zip ms)[i]? = some q := by rw [← e]; exact List.getElem?_eq_getElem hi
      rw [List.getElem?_zip_eq_some] at hz
      obtain ⟨a1, a2⟩ := S.ask i q.1 q.2 hz.1 hz.2
      obtain ⟨b1, b2⟩ := ha.2 i q.1 q.2 hz.1 hz.2
      show q.1.m * max 0 (q.1.f - spanM ps q.1) - q.2 * (q.1.f - spanM ps q.1) = 0
      by_cases c1 : q.1.f - spanM ps q.1 = 0
      · rw [c1]
        simp
      · by_cases c2 : 0 < q.1.f - spanM ps q.1
        · have : q.2 = q.1.m := by
            by_cases c3 : q.2 < q.1.m
            · have := a1 c3
              omega
            · omega
          rw [this, Int.max_eq_right (by omega)]
          omega
        · have : q.2 = 0 := by
            by_cases c3 : 0 < q.2
            · have := a2 c3
              omega
            · omega
          rw [this, Int.max_eq_left (by omega)]
          simp
    rw [this]
    clear this
    induction (rs.zip ms) with
    | nil => rfl
    | cons _ r ih => rw [List.map_cons, List.sum_cons, ih]; rfl
  omega
theorem eq_slack {ss : List Int} {rs : List Rq} {ms ps : List Int} (ha : InAsk rs ms) (ok : ∀ r ∈ rs, r.Ok ss.length) (hp : ps.length = ss.length) (p0 : ∀ p ∈ ps, 0 ≤ p) (hf : fitsM (loadsM ss.length rs ms) ss = true) (he : takeM rs ms = worthM ss rs ps) : Slack ss rs ms ps := by
  rw [worth_gap ha ok hp] at he
  have n1 : ∀ x ∈ (rs.zip ms).map (gapR ps), 0 ≤ x := fun x hx => by
    obtain ⟨q, hq, rfl⟩ := List.mem_map.mp hx
    obtain ⟨i, hi, e⟩ := List.getElem_of_mem hq
    have hz : (rs.zip ms)[i]? = some q := by rw [← e]; exact List.getElem?_eq_getElem hi
    rw [List.getElem?_zip_eq_some] at hz
    obtain ⟨b1, b2⟩ := ha.2 i q.1 q.2 hz.1 hz.2
    exact gap_nonneg b1 b2
  have n2 : ∀ x ∈ (List.range ss.length).map (fun l => (ss.getD l 0 - loadAt rs ms l) * ps.getD l 0), 0 ≤ x := fun x hx => by
    obtain ⟨l, hl, rfl⟩ := List.mem_map.mp hx
    have := fits_le hf (List.mem_range.mp hl)
    exact Int.mul_nonneg (by omega) (getD_nonneg p0 l)
  have s1 : 0 ≤ ((rs.zip ms).map (gapR ps)).sum := by
    generalize (rs.zip ms).map (gapR ps) = xs at n1
    induction xs with
    | nil => exact Int.le_refl _
    | cons z r ih =>
      rw [List.sum_cons]
      have := n1 z (by simp)
      have := ih (fun x hx => n1 x (List.mem_cons_of_mem _ hx))
      omega
  have s2 : 0 ≤ legSum ss.length (fun l => (ss.getD l 0 - loadAt rs ms l) * ps.getD l 0) := by
    unfold legSum
    generalize (List.range ss.length).map (fun l => (ss.getD l 0 - loadAt rs ms l) * ps.getD l 0) = xs at n2
    induction xs with
    | nil => exact Int.le_refl _
    | cons z r ih =>
      rw [List.sum_cons]
      have := n2 z (by simp)
      have := ih (fun x hx => n2 x (List.mem_cons_of_mem _ hx))
      omega
  have z1 := sum_all_zero n1 (by omega)
  have z2 := sum_all_zero n2 (by unfold legSum at s2 he; omega)
  refine ⟨fun l hl hpl => ?_, fun i r m h1 h2 => ?_⟩
  · have := z2 _ (List.mem_map.mpr ⟨l, List.mem_range.mpr hl, rfl⟩)
    rcases Int.mul_eq_zero.mp this with h | h
    · omega
    · omega
  · have hz : (rs.zip ms)[i]? = some (r, m) := by rw [List.getElem?_zip_eq_some]; exact ⟨h1, h2⟩
    have := z1 _ (List.mem_map.mpr ⟨(r, m), List.mem_of_getElem? hz, rfl⟩)
    have this : r.m * max 0 (r.f - spanM ps r) - m * (r.f - spanM ps r) = 0 := this
    obtain ⟨b1, b2⟩ := ha.2 i r m h1 h2
    refine ⟨fun hm => ?_, fun hm => ?_⟩
    · by_cases c : r.f ≤ spanM ps r
      · exact c
      · exfalso
        rw [Int.max_eq_right (by omega), ← Int.sub_mul] at this
        rcases Int.mul_eq_zero.mp this with h | h <;> omega
    · by_cases c : spanM ps r ≤ r.f
      · exact c
      · exfalso
        rw [Int.max_eq_left (by omega), Int.mul_zero] at this
        have : m * (r.f - spanM ps r) = 0 := by omega
        rcases Int.mul_eq_zero.mp this with h | h <;> omega
/-! ### the roads of a sale -/
def far : Int := 1000000000
def rqAt (rs : List Rq) (i : Nat) : Rq := (rs[i]?).getD ⟨0, 0, 0, 0⟩
def miAt (ms : List Int) (i : Nat) : Int := (ms[i]?).getD 0
def reqRoads (rs : List Rq) (ms : List Int) (i : Nat) : List Road :=
  [⟨(rqAt rs i).a.toNat, (rqAt rs i).b.toNat, 0 - (rqAt rs i).f, (rqAt rs i).m - miAt ms i, 1, i⟩, ⟨(rqAt rs i).b.toNat, (rqAt rs i).a.toNat, (rqAt rs i).f, miAt ms i, -1, i⟩]
def legRoads (ss : List Int) (rs : List Rq) (ms : List Int) (l : Nat) : List Road :=
  [⟨l, l + 1, 0, far, 0, l⟩, ⟨l + 1, l, 0, miAt ss l - loadAt rs ms l, 0, l⟩]
def allRoads (ss : List Int) (rs : List Rq) (ms : List Int) : List Road :=
  ((List.range rs.length).flatMap (reqRoads rs ms)) ++ ((List.range ss.length).flatMap (legRoads ss rs ms))
def roadsN (ss : List Int) (rs : List Rq) (ms : List Int) : List Road := (allRoads ss rs ms).filter fun e => decide (0 < e.cap)
inductive RoadK (ss : List Int) (rs : List Rq) (ms : List Int) : Road → Prop
  | fwd (i : Nat) (r : Rq) (m : Int) (h1 : rs[i]? = some r) (h2 : ms[i]? = some m) (hm : m < r.m) : RoadK ss rs ms ⟨r.a.toNat, r.b.toNat, 0 - r.f, r.m - m, 1, i⟩
  | bwd (i : Nat) (r : Rq) (m : Int) (h1 : rs[i]? = some r) (h2 : ms[i]? = some m) (hm : 0 < m) : RoadK ss rs ms ⟨r.b.toNat, r.a.toNat, r.f, m, -1, i⟩
  | free (l : Nat) (hl : l < ss.length) : RoadK ss rs ms ⟨l, l + 1, 0, far, 0, l⟩
  | back (l : Nat) (hl : l < ss.length) (hc : loadAt rs ms l < miAt ss l) : RoadK ss rs ms ⟨l + 1, l, 0, miAt ss l - loadAt rs ms l, 0, l⟩
theorem roadsN_iff {ss : List Int} {rs : List Rq} {ms : List Int} (hl : ms.length = rs.length) (e : Road) : e ∈ roadsN ss rs ms ↔ RoadK ss rs ms e := by
  unfold roadsN allRoads
  rw [List.mem_filter, List.mem_append, List.mem_flatMap, List.mem_flatMap, decide_eq_true_eq]
  constructor
  · rintro ⟨h, hc⟩
    rcases h with ⟨i, hi, h⟩ | ⟨l, hi, h⟩
    · have hi := List.mem_range.mp hi
      have g1 := List.getElem?_eq_getElem hi
      have g2 := List.getElem?_eq_getElem (show i < ms.length by omega)
      unfold reqRoads rqAt miAt at h
      rw [g1, g2] at h
      rcases List.mem_cons.mp h with h | h
      · rw [h] at hc ⊢
        exact .fwd i rs[i] ms[i] g1 g2 (by simp only [Option.getD_some] at hc; omega)
      · rw [List.mem_singleton] at h
        rw [h] at hc ⊢
        exact .bwd i rs[i] ms[i] g1 g2 hc
    · have hi := List.mem_range.mp hi
      unfold legRoads at h
      rcases List.mem_cons.mp h with h | h
      · rw [h]
        exact .free l hi
      · rw [List.mem_singleton] at h
        rw [h] at hc ⊢
        exact .back l hi (by simp only at hc; omega)
  · intro h
    cases h with
    | fwd i r m h1 h2 hm =>
      refine ⟨.inl ⟨i, List.mem_range.mpr (List.getElem?_eq_some_iff.mp h1).1, ?_⟩, by simp only; omega⟩
      unfold reqRoads rqAt miAt
      rw [h1, h2]
      exact List.mem_cons_self
    | bwd i r m h1 h2 hm =>
      refine ⟨.inl ⟨i, List.mem_range.mpr (List.getElem?_eq_some_iff.mp h1).1, ?_⟩, hm⟩
      unfold reqRoads rqAt miAt
      rw [h1, h2]
      exact List.mem_cons_of_mem _ List.mem_cons_self
    | free l hl => exact ⟨.inr ⟨l, List.mem_range.mpr hl, List.mem_cons_self⟩, by simp only [far]; omega⟩
    | back l hl hc => exact ⟨.inr ⟨l, List.mem_range.mpr hl, List.mem_cons_of_mem _ List.mem_cons_self⟩, by simp only; omega⟩
theorem roads_ends {ss : List Int} {rs : List Rq} {ms : List Int} (hl : ms.length = rs.length) (ok : ∀ r ∈ rs, r.Ok ss.length) : ∀ e ∈ roadsN ss rs ms, e.u < ss.length + 1 ∧ e.v < ss.length + 1 ∧ e.u ≠ e.v := fun e he => by
  cases (roadsN_iff hl e).mp he with
  | fwd i r m h1 h2 hm =>
    obtain ⟨a0, ab, bn, _⟩ := ok r (List.mem_of_getElem? h1)
    refine ⟨?_, ?_, fun z => ?_⟩
    · show r.a.toNat < _
      omega
    · show r.b.toNat < _
      omega
    · have z : r.a.toNat = r.b.toNat := z
      omega
  | bwd i r m h1 h2 hm =>
    obtain ⟨a0, ab, bn, _⟩ := ok r (List.mem_of_getElem? h1)
    refine ⟨?_, ?_, fun z => ?_⟩
    · show r.b.toNat < _
      omega
    · show r.a.toNat < _
      omega
    · have z : r.b.toNat = r.a.toNat := z
      omega
  | free l hl => exact ⟨by show l < _; omega, by show l + 1 < _; omega, fun z => by have z : l = l + 1 := z; omega⟩
  | back l hl hc => exact ⟨by show l + 1 < _; omega, by show l < _; omega, fun z => by have z : l + 1 = l := z; omega⟩
/-! ### what a ring does -/
def push1 (room : Int) (ms : List Int) (e : Road) : List Int := if e.dir ≠ 0 then ms.set e.idx (miAt ms e.idx + e.dir * room) else ms
def pushR (room : Int) (ms : List Int) (R : List Road) : List Int := R.foldl (push1 room) ms
theorem miAt_set {ms : List Int} {i : Nat} (x : Int) (h : i < ms.length) (j : Nat) : miAt (ms.set i x) j = if j = i then x else miAt ms j := cAt_set (c := ms) x h j
theorem pushR_len (room : Int) : ∀ (R : List Road) (ms : List Int), (pushR room ms R).length = ms.length
  | [], _ => rfl
  | e :: R, ms => by
    unfold pushR
    rw [List.foldl_cons]
    have := pushR_len room R (push1 room ms e)
    unfold pushR at this
    rw [this]
    unfold push1
    split
    · rw [List.length_set]
    · rfl
/-- how much more of i -/
def netOf (i : Nat) (R : List Road) : Int := (R.map fun e => if e.idx = i then e.dir else 0).sum
theorem pushR_at (room : Int) : ∀ (R : List Road) (ms : List Int), (∀ e ∈ R, e.dir ≠ 0 → e.idx < ms.length) → ∀ i, i < ms.length → miAt (pushR room ms R) i = miAt ms i + room * netOf i R
  | [], ms, _, i, _ => by
    show miAt ms i = miAt ms i + room * 0
    omega
  | e :: R, ms, h, i, hi => by
    have hl : (push1 room ms e).length = ms.length := by
      unfold push1
      split
      · rw [List.length_set]
      · rfl
    have ih := pushR_at room R (push1 room ms e) (fun x hx hd => by rw [hl]; exact h x (List.mem_cons_of_mem _ hx) hd) i (by rw [hl]; exact hi)
    have e1 : pushR room ms (e :: R) = pushR room (push1 room ms e) R := rfl
    have e2 : netOf i (e :: R) = (if e.idx = i then e.dir else 0) + netOf i R := by
      unfold netOf
      rw [List.map_cons, List.sum_cons]
    rw [e1, ih, e2, Int.mul_add]
    unfold push1
    by_cases hd : e.dir ≠ 0
    · rw [if_pos hd, miAt_set _ (h e List.mem_cons_self hd)]
      by_cases hx : e.idx = i
      · rw [if_pos hx, if_pos hx.symm, hx, Int.mul_comm room e.dir]
        omega
      · rw [if_neg hx, if_neg (fun z => hx z.symm)]
        omega
    · rw [if_neg hd]
      have hd : e.dir = 0 := by omega
      rw [hd]
      split <;> omega
def coverI (rs : List Rq) (i l : Nat) : Int := if (rqAt rs i).a ≤ (l : Int) ∧ (l : Int) < (rqAt rs i).b then 1 else 0
theorem loadAt_set (l : Nat) : ∀ (rs : List Rq) (ms : List Int) (i : Nat) (d : Int), ms.length = rs.length → i < ms.length → loadAt rs (ms.set i (miAt ms i + d)) l = loadAt rs ms l + coverI rs i l * d
  | [], [], i, d, _, h => absurd h (by simp)
  | [], _ :: _, i, d, h, _ => by simp at h
  | _ :: _, [], i, d, h, _ => by simp at h
  | r :: rs, m :: ms, 0, d, h, _ => by
    show (if r.a ≤ (l : Int) ∧ (l : Int) < r.b then m + d else 0) + loadAt rs ms l = (if r.a ≤ (l : Int) ∧ (l : Int) < r.b then m else 0) + loadAt rs ms l + (if r.a ≤ (l : Int) ∧ (l : Int) < r.b then 1 else 0) * d
    split <;> omega
  | r :: rs, m :: ms, i + 1, d, h, hi => by
    have ih := loadAt_set l rs ms i d (by simpa using h) (by simpa using hi)
    have e1 : coverI (r :: rs) (i + 1) l = coverI rs i l := rfl
    have e2 : miAt (m :: ms) (i + 1) = miAt ms i := rfl
    rw [e1, e2, List.set_cons_succ]
    show _ + loadAt rs _ l = _ + loadAt rs ms l + _
    rw [ih]
    omega
theorem takeM_set : ∀ (rs : List Rq) (ms : List Int) (i : Nat) (d : Int), ms.length = rs.length → i < ms.length → takeM rs (ms.set i (miAt ms i + d)) = takeM rs ms + (rqAt rs i).f * d
  | [], [], i, d, _, h => absurd h (by simp)
  | [], _ :: _, i, d, h, _ => by simp at h
  | _ :: _, [], i, d, h, _ => by simp at h
  | r :: rs, m :: ms, 0, d, h, _ => by
    show r.f * (m + d) + takeM rs ms = r.f * m + takeM rs ms + r.f * d
    rw [Int.mul_add]
    omega
  | r :: rs, m :: ms, i + 1, d, h, hi => by
    have ih := takeM_set rs ms i d (by simpa using h) (by simpa using hi)
    have e1 : (rqAt (r :: rs) (i + 1)) = rqAt rs i := rfl
    have e2 : miAt (m :: ms) (i + 1) = miAt ms i := rfl
    rw [e1, e2, List.set_cons_succ]
    show r.f * m + takeM rs _ = r.f * m + takeM rs ms + _
    rw [ih]
    omega
theorem pushR_load {rs : List Rq} (room : Int) (l : Nat) : ∀ (R : List Road) (ms : List Int), ms.length = rs.length → (∀ e ∈ R, e.dir ≠ 0 → e.idx < ms.length) → loadAt rs (pushR room ms R) l = loadAt rs ms l + room * (R.map fun e => e.dir * coverI rs e.idx l).sum
  | [], ms, _, _ => by
    show loadAt rs ms l = loadAt rs ms l + room * 0
    omega
  | e :: R, ms, hl, h => by
    have hl1 : (push1 room ms e).length = ms.length := by
      unfold push1
      split
      · rw [List.length_set]
      · rfl
    have ih := pushR_load room l R (push1 room ms e) (by rw [hl1]; exact hl) (fun x hx hd => by rw [hl1]; exact h x (List.mem_cons_of_mem _ hx) hd)
    have e1 : pushR room ms (e :: R) = pushR room (push1 room ms e) R := rfl
    rw [e1, ih, List.map_cons, List.sum_cons, Int.mul_add]
    unfold push1
    by_cases hd : e.dir ≠ 0
    · rw [if_pos hd, loadAt_set l rs ms e.idx _ hl (h e List.mem_cons_self hd)]
      have : coverI rs e.idx l * (e.dir * room) = room * (e.dir * coverI rs e.idx l) := by
        rw [Int.mul_comm, Int.mul_comm e.dir room, Int.mul_assoc]
      omega
    · rw [if_neg hd, show e.dir = 0 by omega, Int.zero_mul, Int.mul_zero]
      omega
theorem pushR_take {rs : List Rq} (room : Int) : ∀ (R : List Road) (ms : List Int), ms.length = rs.length → (∀ e ∈ R, e.dir ≠ 0 → e.idx < ms.length) → takeM rs (pushR room ms R) = takeM rs ms + room * (R.map fun e => e.dir * (rqAt rs e.idx).f).sum
  | [], ms, _, _ => by
    show takeM rs ms = takeM rs ms + room * 0
    omega
  | e :: R, ms, hl, h => by
    have hl1 : (push1 room ms e).length = ms.length := by
      unfold push1
      split
      · rw [List.length_set]
      · rfl
    have ih := pushR_take room R (push1 room ms e) (by rw [hl1]; exact hl) (fun x hx hd => by rw [hl1]; exact h x (List.mem_cons_of_mem _ hx) hd)
    have e1 : pushR room ms (e :: R) = pushR room (push1 room ms e) R := rfl
    rw [e1, ih, List.map_cons, List.sum_cons, Int.mul_add]
    unfold push1
    by_cases hd : e.dir ≠ 0
    · rw [if_pos hd, takeM_set rs ms e.idx _ hl (h e List.mem_cons_self hd)]
      have : (rqAt rs e.idx).f * (e.dir * room) = room * (e.dir * (rqAt rs e.idx).f) := by
        rw [Int.mul_comm, Int.mul_comm e.dir room, Int.mul_assoc]
      omega
    · rw [if_neg hd, show e.dir = 0 by omega, Int.zero_mul, Int.mul_zero]
      omega
/-- of the roads with one head there is at most one -/
theorem cnt_one {R : List Road} (h : (R.map (·.v)).Nodup) (P : Road → Bool) (x : Nat) (hP : ∀ e ∈ R, P e = true → e.v = x) : (R.filter P).length ≤ 1 := by
  have h1 : ((R.filter P).map (·.v)).Nodup := List.Nodup.sublist (List.Sublist.map _ List.filter_sublist) h
  have h2 : ((R.filter P).map (·.v)) ⊆ [x] := fun y hy => by
    obtain ⟨e, he, rfl⟩ := List.mem_map.mp hy
    obtain ⟨h3, h4⟩ := List.mem_filter.mp he
    exact List.mem_singleton.mpr (hP e h3 h4)
  have := List.Nodup.length_le_of_subset h1 h2
  rwa [List.length_map] at this
theorem sum_two {R : List Road} (g : Road → Int) (P Q : Road → Bool) (h : ∀ e ∈ R, g e = (if P e = true then 1 else 0) - (if Q e = true then 1 else 0)) : (R.map g).sum = ((R.filter P).length : Int) - ((R.filter Q).length : Int) := by
  induction R with
  | nil => rfl
  | cons e R ih =>
    have ih := ih fun x hx => h x (List.mem_cons_of_mem _ hx)
    rw [List.map_cons, List.sum_cons, ih, h e List.mem_cons_self, List.filter_cons, List.filter_cons]
    by_cases c1 : P e = true
    · rw [if_pos c1, if_pos c1, List.length_cons]
      by_cases c2 : Q e = true
      · rw [if_pos c2, if_pos c2, List.length_cons]
        omega
      · rw [if_neg c2, if_neg c2]
        omega
    · rw [if_neg c1, if_neg c1]
      by_cases c2 : Q e = true
      · rw [if_pos c2, if_pos c2, List.length_cons]
        omega
      · rw [if_neg c2, if_neg c2]
        omega
/-- A RING MAKES A BETTER SALE -/
theorem ring_better {ss : List Int} {rs : List Rq} {ms : List Int} (ha : InAsk rs ms) (ok : ∀ r ∈ rs, r.Ok ss.length) (hf : ∀ l, l < ss.length → loadAt rs ms l ≤ miAt ss l) {R : List Road} (hR : Ring (roadsN ss rs ms) R) {room : Int} (h1 : 1 ≤ room) (hroom : ∀ e ∈ R, room ≤ e.cap) :
    InAsk rs (pushR room ms R) ∧ (∀ l, l < ss.length → loadAt rs (pushR room ms R) l ≤ miAt ss l) ∧ takeM rs ms + 1 ≤ takeM rs (pushR room ms R) := by
  have hl := ha.1
  have hk : ∀ e ∈ R, RoadK ss rs ms e := fun e he => (roadsN_iff hl e).mp (hR.mem e he)
  have hidx : ∀ e ∈ R, e.dir ≠ 0 → e.idx < ms.length := fun e he hd => by
    cases hk e he with
    | fwd i r m g1 g2 hm => exact (List.getElem?_eq_some_iff.mp g2).1
    | bwd i r m g1 g2 hm => exact (List.getElem?_eq_some_iff.mp g2).1
    | free l hl => exact absurd rfl hd
    | back l hl hc => exact absurd rfl hd
  refine ⟨⟨by rw [pushR_len, hl], fun i r m g1 g2 => ?_⟩, fun l hll => ?_, ?_⟩
  · -- within what is asked
    have hi : i < ms.length := by
      have := (List.getElem?_eq_some_iff.mp g1).1
      omega
    have gm := List.getElem?_eq_getElem hi
    obtain ⟨b1, b2⟩ := ha.2 i r ms[i] g1 gm
    have eat := pushR_at room R ms hidx i hi
    unfold miAt at eat
    rw [g2, gm] at eat
    have eat : m = ms[i] + room * netOf i R := eat
    have hnet : netOf i R = ((R.filter fun e => decide (e.idx = i) && decide (e.dir = 1)).length : Int) - ((R.filter fun e => decide (e.idx = i) && decide (e.dir = -1)).length : Int) := by
      refine sum_two _ _ _ fun e he => ?_
      by_cases c : e.idx = i
      · have hd : e.dir = 0 ∨ e.dir = 1 ∨ e.dir = -1 := by
          cases hk e he <;> simp
        rcases hd with hd | hd | hd <;> simp [c, hd]
      · simp [c]
    have hone1 : (R.filter fun e => decide (e.idx = i) && decide (e.dir = 1)).length ≤ 1 := cnt_one hR.heads _ r.b.toNat fun e he hp => by
      simp only [Bool.and_eq_true, decide_eq_true_eq] at hp
      cases hk e he with
      | fwd j r' m' q1 q2 hm =>
        have hj : j = i := hp.1
        subst hj
        rw [g1] at q1
        cases q1
        rfl
      | bwd j r' m' q1 q2 hm => exact absurd hp.2 (by simp)
      | free l hl => exact absurd hp.2 (by simp)
      | back l hl hc => exact absurd hp.2 (by simp)
    have hone2 : (R.filter fun e => decide (e.idx = i) && decide (e.dir = -1)).length ≤ 1 := cnt_one hR.heads _ r.a.toNat fun e he hp => by
      simp only [Bool.and_eq_true, decide_eq_true_eq] at hp
      cases hk e he with
      | bwd j r' m' q1 q2 hm =>
        have hj : j = i := hp.1
        subst hj
        rw [g1] at q1
        cases q1
        rfl
      | fwd j r' m' q1 q2 hm => exact absurd hp.2 (by simp)
      | free l hl => exact absurd hp.2 (by simp)
      | back l hl hc => exact absurd hp.2 (by simp)
    have hcap1 : (R.filter fun e => decide (e.idx = i) && decide (e.dir = 1)).length = 0 ∨ room ≤ r.m - ms[i] := by
      cases hq : R.filter fun e => decide (e.idx = i) && decide (e.dir = 1) with
      | nil => exact .inl rfl
      | cons e q =>
        right
        have hm : e ∈ R.filter fun e => decide (e.idx = i) && decide (e.dir = 1) := by rw [hq]; exact List.mem_cons_self
        obtain ⟨he, hp⟩ := List.mem_filter.mp hm
        simp only [Bool.and_eq_true, decide_eq_true_eq] at hp
        have hr := hroom e he
        cases hk e he with
        | fwd j r' m' q1 q2 hm =>
          have hj : j = i := hp.1
          subst hj
          rw [g1] at q1
          cases q1
          rw [gm] at q2
          cases q2
          exact hr
        | bwd j r' m' q1 q2 hm => exact absurd hp.2 (by simp)
        | free l hl => exact absurd hp.2 (by simp)
        | back l hl hc => exact absurd hp.2 (by simp)
    have hcap2 : (R.filter fun e => decide (e.idx = i) && decide (e.dir = -1)).length = 0 ∨ room ≤ ms[i] := by
      cases hq : R.filter fun e => decide (e.idx = i) && decide (e.dir = -1) with
      | nil => exact .inl rfl
      | cons e q =>
        right
        have hm : e ∈ R.filter fun e => decide (e.idx = i) && decide (e.dir = -1) := by rw [hq]; exact List.mem_cons_self
        obtain ⟨he, hp⟩ := List.mem_filter.mp hm
        simp only [Bool.and_eq_true, decide_eq_true_eq] at hp
        have hr := hroom e he
        cases hk e he with
        | bwd j r' m' q1 q2 hm =>
          have hj : j = i := hp.1
          subst hj
          rw [gm] at q2
          cases q2
          exact hr
        | fwd j r' m' q1 q2 hm => exact absurd hp.2 (by simp)
        | free l hl => exact absurd hp.2 (by simp)
        | back l hl hc => exact absurd hp.2 (by simp)
    generalize (R.filter fun e => decide (e.idx = i) && decide (e.dir = 1)).length = x at hnet hone1 hcap1
    generalize (R.filter fun e => decide (e.idx = i) && decide (e.dir = -1)).length = y at hnet hone2 hcap2
    rw [hnet] at eat
    have hx : x = 0 ∨ x = 1 := by omega
    have hy : y = 0 ∨ y = 1 := by omega
    rcases hx with rfl | rfl <;> rcases hy with rfl | rfl <;> simp at eat hcap1 hcap2 <;> omega
  · -- on no leg too many
    rw [pushR_load room l R ms hl hidx]
    have htele := hR.tele fun x => if l < x then 1 else 0
    have hsum : (R.map fun e => e.dir * coverI rs e.idx l).sum = ((R.filter fun e => decide (e.dir = 0) && (decide (e.u = l + 1) && decide (e.v = l))).length : Int) - ((R.filter fun e => decide (e.dir = 0) && (decide (e.u = l) && decide (e.v = l + 1))).length : Int) := by
      have h2 : (R.map fun e => e.dir * coverI rs e.idx l - ((if l < e.v then (1 : Int) else 0) - (if l < e.u then 1 else 0))).sum = ((R.filter fun e => decide (e.dir = 0) && (decide (e.u = l + 1) && decide (e.v = l))).length : Int) - ((R.filter fun e => decide (e.dir = 0) && (decide (e.u = l) && decide (e.v = l + 1))).length : Int) := by
        refine sum_two _ _ _ fun e he => ?_
        cases hk e he with
        | fwd i r m g1 g2 hm =>
          obtain ⟨a0, ab, bn, _⟩ := ok r (List.mem_of_getElem? g1)
          have er : rqAt rs i = r := by unfold rqAt; rw [g1]; rfl
          unfold coverI
          simp only [er, Bool.and_eq_true, decide_eq_true_eq]
          split <;> split <;> split <;> split <;> split <;> omega
        | bwd i r m g1 g2 hm =>
          obtain ⟨a0, ab, bn, _⟩ := ok r (List.mem_of_getElem? g1)
          have er : rqAt rs i = r := by unfold rqAt; rw [g1]; rfl
          unfold coverI
          simp only [er, Bool.and_eq_true, decide_eq_true_eq]
          split <;> split <;> split <;> split <;> split <;> omega
        | free k hk2 =>
          rcases Nat.lt_trichotomy k l with c | c | c
          · simp [show ¬ l < k + 1 by omega, show ¬ l < k by omega, show ¬ k = l by omega]
            omega
          · subst c
            simp
          · simp [show l < k + 1 by omega, show l < k by omega, show ¬ k = l by omega]
            omega
        | back k hk2 hc =>
          rcases Nat.lt_trichotomy k l with c | c | c
          · simp [show ¬ l < k + 1 by omega, show ¬ l < k by omega, show ¬ k = l by omega]
            omega
          · subst c
            simp
          · simp [show l < k + 1 by omega, show l < k by omega, show ¬ k = l by omega]
            omega
      have h3 : (R.map fun e => e.dir * coverI rs e.idx l - ((if l < e.v then (1 : Int) else 0) - (if l < e.u then 1 else 0))).sum = (R.map fun e => e.dir * coverI rs e.idx l).sum - (R.map fun e => (if l < e.v then (1 : Int) else 0) - (if l < e.u then 1 else 0)).sum := by
        clear h2 htele hR hroom hk hidx
        induction R with
        | nil => rfl
        | cons e R ih =>
          simp only [List.map_cons, List.sum_cons, ih]
          omega
      omega
    have hone : (R.filter fun e => decide (e.dir = 0) && (decide (e.u = l + 1) && decide (e.v = l))).length ≤ 1 := cnt_one hR.heads _ l fun e he hp => by
      simp only [Bool.and_eq_true, decide_eq_true_eq] at hp
      exact hp.2.2
    have hcap : (R.filter fun e => decide (e.dir = 0) && (decide (e.u = l + 1) && decide (e.v = l))).length = 0 ∨ room ≤ miAt ss l - loadAt rs ms l := by
      cases hq : R.filter fun e => decide (e.dir = 0) && (decide (e.u = l + 1) && decide (e.v = l)) with
      | nil => exact .inl rfl
      | cons e q =>
        right
        have hm : e ∈ R.filter fun e => decide (e.dir = 0) && (decide (e.u = l + 1) && decide (e.v = l)) := by rw [hq]; exact List.mem_cons_self
        obtain ⟨he, hp⟩ := List.mem_filter.mp hm
        simp only [Bool.and_eq_true, decide_eq_true_eq] at hp
        have hr := hroom e he
        cases hk e he with
        | fwd i r m g1 g2 hm => exact absurd hp.1 (by simp)
        | bwd i r m g1 g2 hm => exact absurd hp.1 (by simp)
        | free k hk2 =>
          have p1 : k = l + 1 := hp.2.1
          have p2 : k + 1 = l := hp.2.2
          omega
        | back k hk2 hc =>
          have p2 : k = l := hp.2.2
          subst p2
          exact hr
    rw [hsum]
    have hfl := hf l hll
    generalize (R.filter fun e => decide (e.dir = 0) && (decide (e.u = l + 1) && decide (e.v = l))).length = x at hone hcap
    generalize (R.filter fun e => decide (e.dir = 0) && (decide (e.u = l) && decide (e.v = l + 1))).length = y
    have h4 : room * ((x : Int) - (y : Int)) = room * (x : Int) - room * (y : Int) := Int.mul_sub ..
    have h5 : 0 ≤ room * (y : Int) := Int.mul_nonneg (by omega) (by omega)
    rcases hcap with hx | hx
    · subst hx
      have h6 : room * ((0 : Nat) : Int) = 0 := Int.mul_zero _
      omega
    · have h6 : room * (x : Int) ≤ room * 1 := Int.mul_le_mul_of_nonneg_left (by omega) (by omega)
      omega
  · -- more is taken
    rw [pushR_take room R ms hl hidx]
    have hw : (R.map fun e => e.dir * (rqAt rs e.idx).f).sum = 0 - (R.map (·.w)).sum := by
      have : ∀ e ∈ R, e.dir * (rqAt rs e.idx).f = 0 - e.w := fun e he => by
        cases hk e he with
        | fwd i r m g1 g2 hm =>
          have er : rqAt rs i = r := by unfold rqAt; rw [g1]; rfl
          show 1 * (rqAt rs i).f = 0 - (0 - r.f)
          rw [er]
          omega
        | bwd i r m g1 g2 hm =>
          have er : rqAt rs i = r := by unfold rqAt; rw [g1]; rfl
          show -1 * (rqAt rs i).f = 0 - r.f
          rw [er]
          omega
        | free l hl =>
          show 0 * _ = (0 : Int) - 0
          omega
        | back l hl hc =>
          show 0 * _ = (0 : Int) - 0
          omega
      clear hR hroom hk hidx
      induction R with
      | nil => rfl
      | cons e R ih =>
        rw [List.map_cons, List.sum_cons, List.map_cons, List.sum_cons, ih (fun x hx => this x (List.mem_cons_of_mem _ hx)), this e List.mem_cons_self]
        omega
    rw [hw]
    have := hR.neg
    have : room * 1 ≤ room * (0 - (R.map (·.w)).sum) := Int.mul_le_mul_of_nonneg_left (by omega) (by omega)
    omega
/-! ### prices from costs -/
def pricesC (n : Nat) (c : List Int) : List Int := (List.range n).map fun l => cAt c l - cAt c (l + 1)
theorem pricesC_len (n : Nat) (c : List Int) : (pricesC n c).length = n := by
  unfold pricesC
  rw [List.length_map, List.length_range]
theorem pricesC_at {n : Nat} {c : List Int} {l : Nat} (h : l < n) : (pricesC n c).getD l 0 = cAt c l - cAt c (l + 1) := by
  unfold pricesC
  rw [List.getD_eq_getElem?_getD, List.getElem?_map, List.getElem?_range h]
  rfl
theorem tele_leg (g : Nat → Int) (a : Nat) : ∀ n b : Nat, a ≤ b → b ≤ n → legSum n (fun l => if a ≤ l ∧ l < b then g l - g (l + 1) else 0) = g a - g b
  | 0, b, h1, h2 => by
    have : a = b := by omega
    subst this
    show (0 : Int) = _
    omega
  | n + 1, b, h1, h2 => by
    have e : legSum (n + 1) (fun l => if a ≤ l ∧ l < b then g l - g (l + 1) else 0) = legSum n (fun l => if a ≤ l ∧ l < b then g l - g (l + 1) else 0) + (if a ≤ n ∧ n < b then g n - g (n + 1) else 0) := by
      unfold legSum
      rw [List.range_succ, List.map_append, List.sum_append]
      simp
    rw [e]
    by_cases hb : b ≤ n
    · rw [tele_leg g a n b h1 hb, if_neg (by omega)]
      omega
    · have hb : b = n + 1 := by omega
      subst hb
      by_cases ha : a ≤ n
      · have e2 : legSum n (fun l => if a ≤ l ∧ l < n + 1 then g l - g (l + 1) else 0) = legSum n (fun l => if a ≤ l ∧ l < n then g l - g (l + 1) else 0) := legSum_eq fun l hl => by
          by_cases c : a ≤ l
          · rw [if_pos (by omega), if_pos (by omega)]
          · rw [if_neg (by omega), if_neg (by omega)]
        rw [e2, tele_leg g a n n ha (Nat.le_refl _), if_pos (by omega)]
        omega
      · have ha : a = n + 1 := by omega
        subst ha
        rw [legSum_eq (g := fun _ => 0) (fun l hl => if_neg (by omega)), legSum_zero, if_neg (by omega)]
        omega
theorem span_cost {n : Nat} {c : List Int} {r : Rq} (ok : r.Ok n) : spanM (pricesC n c) r = cAt c r.a.toNat - cAt c r.b.toNat := by
  have ok2 : r.Ok (pricesC n c).length := by rw [pricesC_len]; exact ok
  rw [span_leg ok2, pricesC_len]
  obtain ⟨a0, ab, bn, _⟩ := ok
  rw [← tele_leg (cAt c) r.a.toNat n r.b.toNat (by omega) (by omega)]
  refine legSum_eq fun l hl => ?_
  by_cases h : r.a ≤ (l : Int) ∧ (l : Int) < r.b
  · rw [if_pos h, if_pos (by omega), pricesC_at hl]
  · rw [if_neg h, if_neg (by omega)]
theorem prices_fit {ss : List Int} {rs : List Rq} {ms : List Int} {c : List Int} (ha : InAsk rs ms) (ok : ∀ r ∈ rs, r.Ok ss.length) (hf : ∀ l, l < ss.length → loadAt rs ms l ≤ miAt ss l) (hc : ∀ e ∈ roadsN ss rs ms, cAt c e.v ≤ cAt c e.u + e.w) :
    (∀ p ∈ pricesC ss.length c, 0 ≤ p) ∧ Slack ss rs ms (pricesC ss.length c) := by
  have hl := ha.1
  refine ⟨fun p hp => ?_, fun l hll hpos => ?_, fun i r m h1 h2 => ⟨fun hm => ?_, fun hm => ?_⟩⟩
  · obtain ⟨l, hll, rfl⟩ := List.mem_map.mp hp
    have := hc _ ((roadsN_iff hl _).mpr (.free l (List.mem_range.mp hll)))
    simp only at this
    omega
  · rw [pricesC_at hll] at hpos
    have e : ss.getD l 0 = miAt ss l := by unfold miAt; rw [List.getD_eq_getElem?_getD]
    rw [e]
    have hle := hf l hll
    by_cases cl : loadAt rs ms l < miAt ss l
    · have := hc _ ((roadsN_iff hl _).mpr (.back l hll cl))
      simp only at this
      omega
    · omega
  · have := hc _ ((roadsN_iff hl _).mpr (.fwd i r m h1 h2 hm))
    simp only at this
    rw [span_cost (ok r (List.mem_of_getElem? h1))]
    omega
  · have := hc _ ((roadsN_iff hl _).mpr (.bwd i r m h1 h2 hm))
    simp only at this
    rw [span_cost (ok r (List.mem_of_getElem? h1))]
    omega
/-- no ring is left: the sale is best, its costs show it -/
structure Best (ss : List Int) (rs : List Rq) (ms : List Int) : Prop where
  ask : InAsk rs ms
  fit : ∀ l, l < ss.length → loadAt rs ms l ≤ miAt ss l
  none : (roundsB (roadsN ss rs ms) (ss.length + 1) (ss.length + 2)).ch = none
def costsN (ss : List Int) (rs : List Rq) (ms : List Int) : List Int := (roundsB (roadsN ss rs ms) (ss.length + 1) (ss.length + 2)).c
theorem Best.prices {ss : List Int} {rs : List Rq} {ms : List Int} (B : Best ss rs ms) (ok : ∀ r ∈ rs, r.Ok ss.length) : (∀ p ∈ pricesC ss.length (costsN ss rs ms), 0 ≤ p) ∧ takeM rs ms = worthM ss rs (pricesC ss.length (costsN ss rs ms)) := by
  have hc := rounds_fit (k := ss.length + 1) (roads_ends B.ask.1 ok) B.none
  obtain ⟨h1, h2⟩ := prices_fit B.ask ok B.fit hc
  exact ⟨h1, slack_eq B.ask ok (pricesC_len _ _) h1 h2⟩
theorem miAt_getD (ss : List Int) (l : Nat) : ss.getD l 0 = miAt ss l := by unfold miAt; rw [List.getD_eq_getElem?_getD]
theorem fit_fits {ss : List Int} {rs : List Rq} {ms : List Int} (h : ∀ l, l < ss.length → loadAt rs ms l ≤ miAt ss l) : fitsM (loadsM ss.length rs ms) ss = true := le_fits fun l hl => by rw [miAt_getD]; exact h l hl
theorem Best.most {ss : List Int} {rs : List Rq} {ms : List Int} (B : Best ss rs ms) (ok : ∀ r ∈ rs, r.Ok ss.length) {ns : List Int} (ha : InAsk rs ns) (hf : fitsM (loadsM ss.length rs ns) ss = true) : takeM rs ns ≤ takeM rs ms := by
  obtain ⟨h1, h2⟩ := B.prices ok
  rw [h2]
  exact duality ha ok (pricesC_len _ _) h1 hf
/-- the greatest takings -/
def IsMost (ss : List Int) (rs : List Rq) (v : Int) : Prop := (∃ ms, InAsk rs ms ∧ (∀ l, l < ss.length → loadAt rs ms l ≤ miAt ss l) ∧ takeM rs ms = v) ∧ ∀ ms, InAsk rs ms → (∀ l, l < ss.length → loadAt rs ms l ≤ miAt ss l) → takeM rs ms ≤ v
theorem IsMost.uniq {ss : List Int} {rs : List Rq} {v w : Int} (h1 : IsMost ss rs v) (h2 : IsMost ss rs w) : v = w := by
  obtain ⟨⟨m1, a1, a2, a3⟩, a4⟩ := h1
  obtain ⟨⟨m2, b1, b2, b3⟩, b4⟩ := h2
  have := a4 m2 b1 b2
  have := b4 m1 a1 a2
  omega
theorem Best.isMost {ss : List Int} {rs : List Rq} {ms : List Int} (B : Best ss rs ms) (ok : ∀ r ∈ rs, r.Ok ss.length) : IsMost ss rs (takeM rs ms) := ⟨⟨ms, B.ask, B.fit, rfl⟩, fun ns h1 h2 => B.most ok h1 (fit_fits h2)⟩
theorem take_bound {n : Nat} : ∀ {rs : List Rq} {ms : List Int}, InAsk rs ms → (∀ r ∈ rs, r.Ok n) → 0 ≤ takeM rs ms ∧ takeM rs ms ≤ 20000 * (rs.length : Int)
  | [], [], _, _ => by simp [takeM]
  | [], _ :: _, h, _ => by have := h.1; simp at this
  | _ :: _, [], h, _ => by have := h.1; simp at this
  | r :: rs, m :: ms, h, ok => by
    obtain ⟨⟨m0, m1⟩, h2⟩ := h.cons
    obtain ⟨i1, i2⟩ := take_bound h2 (fun q hq => ok q (by simp [hq]))
    obtain ⟨_, _, _, f1, f2, q1, q2⟩ := ok r (by simp)
    have e1 : r.f * m ≤ 1000 * 20 := Int.mul_le_mul f2 (by omega) m0 (by omega)
    have e2 : 0 ≤ r.f * m := Int.mul_nonneg (by omega) m0
    rw [takeM, List.length_cons]
    omega
theorem zeros_start {ss : List Int} {rs : List Rq} (hs : ∀ s ∈ ss, 0 ≤ s) {n : Nat} (ok : ∀ r ∈ rs, r.Ok n) : InAsk rs (List.replicate rs.length 0) ∧ ∀ l, l < ss.length → loadAt rs (List.replicate rs.length 0) l ≤ miAt ss l := by
  refine ⟨⟨by simp, fun i r m h1 h2 => ?_⟩, fun l hl => ?_⟩
  · rw [List.getElem?_replicate] at h2
    split at h2
    · cases h2
      have := (ok r (List.mem_of_getElem? h1)).m1
      omega
    · cases h2
  · have : ∀ (rs : List Rq), loadAt rs (List.replicate rs.length 0) l = 0 := fun rs => by
      induction rs with
      | nil => rfl
      | cons r rs ih =>
        show (if r.a ≤ (l : Int) ∧ (l : Int) < r.b then (0 : Int) else 0) + loadAt rs (List.replicate rs.length 0) l = 0
        rw [ih]
        split <;> rfl
    rw [this]
    unfold miAt
    rw [List.getElem?_eq_getElem hl]
    exact hs _ (List.getElem_mem hl)
end Sd
end
-- SdK00
section
set_option Elab.async false
set_option linter.all false
set_option maxRecDepth 100000
set_option maxHeartbeats 4000000
set_option autoImplicit false
/-! what Market's methods promise -/
namespace Sd
open PySem PySem.Spec PyProof.Rows L2
def roadD (e : Road) : D := .tup [.int (e.u : Int), .int (e.v : Int), .int e.w, .int e.cap, .int e.dir, .int (e.idx : Int)]
def roadsD (E : List Road) : D := .lst (E.map roadD)
def lastD : Option Road → D
  | none => .non
  | some e => roadD e
def stopD : Option Nat → D
  | none => .non
  | some v => .int (v : Int)
def lensD (b : BSt) : D := .tup [.lst (b.c.map .int), .lst (b.l.map lastD), stopD b.ch]
def fsM (s : Addr) (sd rd r : D) : List (Str × D) := [(("seats" : Str), sd), (("requests" : Str), rd), (("sale" : Str), .raw (.ref s)), (("roads" : Str), r)]
def mkSt (s : Addr) (sd rd : D) (ms : List Int) (r : D) : Ost := ⟨s, fsM s sd rd r, some (ms.map .int)⟩
section
variable {s : Addr} {sd rd r d : D}
theorem lkM_seats : List.lookup ("seats" : Str) (fsM s sd rd r) = some sd := by rfl
theorem lkM_requests : List.lookup ("requests" : Str) (fsM s sd rd r) = some rd := by rfl
theorem lkM_sale : List.lookup ("sale" : Str) (fsM s sd rd r) = some (.raw (.ref s)) := by rfl
theorem lkM_roads : List.lookup ("roads" : Str) (fsM s sd rd r) = some r := by rfl
theorem lkM_lay : NoF (fsM s sd rd r) ("lay_roads" : Str) := by unfold NoF; rfl
theorem lkM_len : NoF (fsM s sd rd r) ("lengths" : Str) := by unfold NoF; rfl
theorem lkM_bet : NoF (fsM s sd rd r) ("better" : Str) := by unfold NoF; rfl
theorem lkM_pri : NoF (fsM s sd rd r) ("prices" : Str) := by unfold NoF; rfl
theorem putM_roads : putD ("roads" : Str) d (fsM s sd rd r) = fsM s sd rd d := by rfl
theorem putM1 : putD ("seats" : Str) sd [] = [(("seats" : Str), sd)] := rfl
theorem putM2 : putD ("requests" : Str) rd [(("seats" : Str), sd)] = [(("seats" : Str), sd), (("requests" : Str), rd)] := by rfl
theorem putM3 : putD ("sale" : Str) d [(("seats" : Str), sd), (("requests" : Str), rd)] = [(("seats" : Str), sd), (("requests" : Str), rd), (("sale" : Str), d)] := by rfl
theorem putM4 : putD ("roads" : Str) r [(("seats" : Str), sd), (("requests" : Str), rd), (("sale" : Str), .raw (.ref s))] = fsM s sd rd r := by rfl
theorem lenM : (fsM s sd rd r).length = 4 := rfl
end
theorem rd0 (e : Road) : (roadD e).ix (.int 0) = some (.int (e.u : Int)) := rfl
theorem rd1 (e : Road) : (roadD e).ix (.int 1) = some (.int (e.v : Int)) := rfl
theorem rd2 (e : Road) : (roadD e).ix (.int 2) = some (.int e.w) := rfl
theorem rd3 (e : Road) : (roadD e).ix (.int 3) = some (.int e.cap) := rfl
theorem rd4 (e : Road) : (roadD e).ix (.int 4) = some (.int e.dir) := rfl
theorem rd5 (e : Road) : (roadD e).ix (.int 5) = some (.int (e.idx : Int)) := rfl
theorem atC {c : List Int} {i : Nat} (h : i < c.length) : L2.atI (c.map D.int) (i : Int) = some (.int (cAt c i)) := by
  rw [atI_nat', List.getElem?_map]
  unfold cAt
  rw [List.getElem?_eq_getElem h]
  rfl
theorem atL {l : List (Option Road)} {i : Nat} (h : i < l.length) : L2.atI (l.map lastD) (i : Int) = some (lastD (lAt l i)) := by
  rw [atI_nat', List.getElem?_map]
  unfold lAt
  rw [List.getElem?_eq_getElem h]
  rfl
theorem ixN_of {n i : Nat} (h : i < n) : ixN n (i : Int) = some i := by
  unfold ixN
  simp [h]
theorem reqs_snoc (rs : List Rq) (ms : List Int) (i : Nat) : (List.range (i + 1)).flatMap (reqRoads rs ms) = (List.range i).flatMap (reqRoads rs ms) ++ reqRoads rs ms i := by
  rw [List.range_succ, List.flatMap_append]
  simp
theorem legs_snoc (ss : List Int) (rs : List Rq) (ms : List Int) (i : Nat) : (List.range (i + 1)).flatMap (legRoads ss rs ms) = (List.range i).flatMap (legRoads ss rs ms) ++ legRoads ss rs ms i := by
  rw [List.range_succ, List.flatMap_append]
  simp
theorem reqs_length (rs : List Rq) (ms : List Int) : ∀ i, ((List.range i).flatMap (reqRoads rs ms)).length = 2 * i
  | 0 => rfl
  | i + 1 => by
    rw [reqs_snoc, List.length_append, reqs_length rs ms i]
    show 2 * i + 2 = _
    omega
theorem legs_length (ss : List Int) (rs : List Rq) (ms : List Int) : ∀ i, ((List.range i).flatMap (legRoads ss rs ms)).length = 2 * i
  | 0 => rfl
  | i + 1 => by
    rw [legs_snoc, List.length_append, legs_length ss rs ms i]
    show 2 * i + 2 = _
    omega
theorem atM {ms : List Int} {i : Nat} (h : i < ms.length) : L2.atI (ms.map D.int) (i : Int) = some (.int (miAt ms i)) := atC (c := ms) h
theorem atRq {rs : List Rq} {i : Nat} {r : Rq} (h : rs[i]? = some r) : rqAt rs i = r := by
  unfold rqAt
  rw [h]
  rfl
theorem lAt_lt {l : List (Option Road)} {v : Nat} (h : lAt l v ≠ none) : v < l.length := by
  unfold lAt at h
  cases e : l[v]? with
  | none => rw [e] at h; exact absurd rfl h
  | some x => exact (List.getElem?_eq_some_iff.mp e).1
theorem rounds_len (E : List Road) (S : Nat) : ∀ k, (roundsB E S k).c.length = S ∧ (roundsB E S k).l.length = S := by
  have hr : ∀ (E : List Road) (b : BSt), (E.foldl relax b).c.length = b.c.length ∧ (E.foldl relax b).l.length = b.l.length := fun E => by
    induction E with
    | nil => exact fun b => ⟨rfl, rfl⟩
    | cons e E ih =>
      intro b
      have h1 := ih (relax b e)
      have h2 : (relax b e).c.length = b.c.length ∧ (relax b e).l.length = b.l.length := by
        unfold relax
        split
        · simp
        · exact ⟨rfl, rfl⟩
      rw [List.foldl_cons]
      exact ⟨h1.1.trans h2.1, h1.2.trans h2.2⟩
  intro k
  induction k with
  | zero => simp [roundsB]
  | succ k ih =>
    have := hr E { roundsB E S k with ch := none }
    exact ⟨this.1.trans ih.1, this.2.trans ih.2⟩
theorem fold_len (E : List Road) (S k : Nat) : ∀ j, ((E.take j).foldl relax { roundsB E S k with ch := none }).c.length = S ∧ ((E.take j).foldl relax { roundsB E S k with ch := none }).l.length = S := fun j => by
  have hr : ∀ (E : List Road) (b : BSt), (E.foldl relax b).c.length = b.c.length ∧ (E.foldl relax b).l.length = b.l.length := fun E => by
    induction E with
    | nil => exact fun b => ⟨rfl, rfl⟩
    | cons e E ih =>
      intro b
      have h1 := ih (relax b e)
      have h2 : (relax b e).c.length = b.c.length ∧ (relax b e).l.length = b.l.length := by
        unfold relax
        split
        · simp
        · exact ⟨rfl, rfl⟩
      rw [List.foldl_cons]
      exact ⟨h1.1.trans h2.1, h1.2.trans h2.2⟩
  have h := hr (E.take j) { roundsB E S k with ch := none }
  have h2 := rounds_len E S k
  exact ⟨h.1.trans h2.1, h.2.trans h2.2⟩
/-- seats and requests of a market -/
structure Mk00 (sd rd : D) (ss : List Int) (rs : List Rq) : Prop where
  sq : sd.seq = some (ss.map .int)
  rq : rd.seq = some (rs.map Rq.d)
  ok : ∀ r ∈ rs, r.Ok ss.length
  sl : ss.length ≤ 100
  rl : rs.length ≤ 100
  s0 : ∀ s ∈ ss, 0 ≤ s
def sp_told_loadsN : NSp := fun ds O => ∃ (d1 d2 d3 : D) (sd : List D) (rs : List Rq) (ms : List Int), ds = [d1, d2, d3] ∧ d1.seq = some sd ∧ sd.length ≤ 1000 ∧ d2.seq = some (rs.map Rq.d) ∧ d3.seq = some (ms.map D.int) ∧ (∀ r ∈ rs, r.Ok sd.length) ∧
  rs.length ≤ 1000 ∧ rs.length = ms.length ∧ O ((loadsM sd.length rs ms).map D.int)
def sp_lay_roads : MSp := fun st ds O => ∃ s sd rd ss rs ms r, st = mkSt s sd rd ms r ∧ ds = [] ∧ Mk00 sd rd ss rs ∧ ms.length = rs.length ∧ O (mkSt s sd rd ms (roadsD (roadsN ss rs ms))) .non
def sp_lengths : MSp := fun st ds O => ∃ (s : Addr) (sd rd : D) (xs : List D) (ms : List Int) (E : List Road), st = mkSt s sd rd ms (roadsD E) ∧ ds = [] ∧ sd.seq = some xs ∧ xs.length ≤ 100 ∧ (∀ e ∈ E, e.u < xs.length + 1 ∧ e.v < xs.length + 1) ∧
  O (mkSt s sd rd ms (roadsD E)) (lensD (roundsB E (xs.length + 1) (xs.length + 2)))
def FitM (ss : List Int) (rs : List Rq) (ms : List Int) : Prop := ∀ l, l < ss.length → loadAt rs ms l ≤ miAt ss l
def sp_better : MSp := fun st ds O => ∃ (s : Addr) (sd rd : D) (ss : List Int) (rs : List Rq) (ms : List Int) (r : D), st = mkSt s sd rd ms r ∧ ds = [] ∧ Mk00 sd rd ss rs ∧ InAsk rs ms ∧ FitM ss rs ms ∧
  (Best ss rs ms → O (mkSt s sd rd ms (roadsD (roadsN ss rs ms))) (.bl false)) ∧
  ∀ ns : List Int, InAsk rs ns → FitM ss rs ns → takeM rs ms + 1 ≤ takeM rs ns → O (mkSt s sd rd ns (roadsD (roadsN ss rs ms))) (.bl true)
def sp_prices : MSp := fun st ds O => ∃ (s : Addr) (sd rd : D) (ss : List Int) (rs : List Rq) (ms : List Int) (r : D), st = mkSt s sd rd ms r ∧ ds = [] ∧ Mk00 sd rd ss rs ∧ Best ss rs ms ∧
  O (mkSt s sd rd ms (roadsD (roadsN ss rs ms))) (.tup ((pricesC ss.length (costsN ss rs ms)).map .int))
def sp_Market : MSp := fun st ds O => ∃ (s : Addr) (sd rd : D) (ss : List Int) (rs : List Rq), st = ⟨s, [], none⟩ ∧ ds = [sd, rd] ∧ Mk00 sd rd ss rs ∧ ∀ (t : Addr) (ms : List Int) (r : D), Best ss rs ms → O (mkSt t sd rd ms r) .non
def sp_told_best00 : DSp := fun _ ds O => ∃ (sd rd : D) (ss : List Int) (rs : List Rq), ds = [sd, rd] ∧ Mk00 sd rd ss rs ∧ ∀ v, IsMost ss rs v → O (.ret (.int v))
def sp_best_takings : DSp := fun _ ds O => ∃ (seats : List Int) (d2 : D), ds = [.ln (seats.map D.int), d2] ∧ seats.length ≤ 100 ∧ (∀ s ∈ seats, 0 ≤ s) ∧ d2.okv = true ∧ withReqs seats.length d2 O fun rs => ∀ v, IsMost seats rs v → O (.ret (.int v))
def sp_best_sale : DSp := fun _ ds O => ∃ (seats : List Int) (d2 : D), ds = [.ln (seats.map D.int), d2] ∧ seats.length ≤ 100 ∧ (∀ s ∈ seats, 0 ≤ s) ∧ d2.okv = true ∧ withReqs seats.length d2 O fun rs => ∀ ms, Best seats rs ms → O (.ret (.tup (ms.map .int)))
def sp_best_prices : DSp := fun _ ds O => ∃ (seats : List Int) (d2 : D), ds = [.ln (seats.map D.int), d2] ∧ seats.length ≤ 100 ∧ (∀ s ∈ seats, 0 ≤ s) ∧ d2.okv = true ∧ withReqs seats.length d2 O fun rs => ∀ ms, Best seats rs ms → O (.ret (.tup ((pricesC seats.length (costsN seats rs ms)).map .int)))

/-! ### _law_most -/
def leftF (ss : List Int) (r : Rq) (k : Nat) (l : Nat) : Int := miAt ss l - if r.a ≤ (l : Int) ∧ (l : Int) < r.b then (k : Int) else 0
def leftL (ss : List Int) (r : Rq) (k : Nat) : List Int := (List.range ss.length).map (leftF ss r k)
theorem leftL_len (ss : List Int) (r : Rq) (k : Nat) : (leftL ss r k).length = ss.length := by simp [leftL]
theorem leftL_at {ss : List Int} {r : Rq} {k l : Nat} (h : l < ss.length) : miAt (leftL ss r k) l = leftF ss r k l := by
  unfold leftL miAt
  rw [List.getElem?_map, List.getElem?_range h]
  rfl
theorem load_nonneg (l : Nat) : ∀ {rs : List Rq} {ms : List Int}, InAsk rs ms → 0 ≤ loadAt rs ms l
  | [], _, _ => by simp [loadAt]
  | _ :: _, [], h => absurd h.1 (by simp)
  | r :: rs, m :: ms, h => by
    have hc := InAsk.cons h
    have ih := load_nonneg l hc.2
    simp only [loadAt]
    split <;> omega
theorem InAsk.mk {r : Rq} {rs : List Rq} {m : Int} {ms : List Int} (h0 : 0 ≤ m) (h1 : m ≤ r.m) (h : InAsk rs ms) : InAsk (r :: rs) (m :: ms) := by
  refine ⟨by simp [h.1], fun i q n g1 g2 => ?_⟩
  cases i with
  | zero =>
    simp at g1 g2
    subst g1 g2
    exact ⟨h0, h1⟩
  | succ i => exact h.2 i q n (by simpa using g1) (by simpa using g2)
/-- the best of those that sell fewer than k to the first -/
def Upto (ss : List Int) (r : Rq) (rs : List Rq) (k : Nat) (b : Int) : Prop := (∃ ms, InAsk (r :: rs) ms ∧ FitM ss (r :: rs) ms ∧ takeM (r :: rs) ms = b) ∧ ∀ m ms, InAsk (r :: rs) (m :: ms) → FitM ss (r :: rs) (m :: ms) → m < (k : Int) → takeM (r :: rs) (m :: ms) ≤ b
theorem upto_zero {ss : List Int} {r : Rq} {rs : List Rq} (h0 : ∀ s ∈ ss, 0 ≤ s) (ok : ∀ q ∈ r :: rs, q.Ok ss.length) : Upto ss r rs 0 0 := by
  obtain ⟨z1, z2⟩ := zeros_start h0 ok
  have ht : ∀ rs : List Rq, takeM rs (List.replicate rs.length 0) = 0 := fun rs => by
    induction rs with
    | nil => rfl
    | cons r rs ih => simp [List.replicate_succ, takeM, ih]
  refine ⟨⟨_, z1, z2, ht _⟩, fun m ms h1 _ h2 => ?_⟩
  have := (InAsk.cons h1).1
  omega
theorem upto_step {ss : List Int} {r : Rq} {rs : List Rq} {k : Nat} {b v : Int} (U : Upto ss r rs k b) (hk : (k : Int) ≤ r.m) (hv : IsMost (leftL ss r k) rs v) : Upto ss r rs (k + 1) (max b (r.f * (k : Int) + v)) := by
  obtain ⟨⟨ms0, a1, a2, a3⟩, up⟩ := U
  obtain ⟨⟨ns, b1, b2, b3⟩, b4⟩ := hv
  rw [leftL_len] at b2 b4
  refine ⟨?_, fun m ms h1 h2 h3 => ?_⟩
  · by_cases c : r.f * (k : Int) + v ≤ b
    · exact ⟨ms0, a1, a2, by rw [a3]; omega⟩
    · refine ⟨(k : Int) :: ns, InAsk.mk (by omega) hk b1, fun l hl => ?_, ?_⟩
      · have h := b2 l hl
        rw [leftL_at hl] at h
        unfold leftF at h
        simp only [loadAt]
        split at h <;> rename_i hc
        · rw [if_pos hc]; omega
        · rw [if_neg hc]; omega
      · simp only [takeM, b3]
        omega
  · by_cases c : m < (k : Int)
    · have := up m ms h1 h2 c
      omega
    · have e : m = (k : Int) := by omega
      subst e
      have hc := (InAsk.cons h1).2
      have hb := b4 ms hc fun l hl => by
        have h := h2 l hl
        rw [leftL_at hl]
        unfold leftF
        simp only [loadAt] at h
        split at h <;> rename_i hc
        · rw [if_pos hc]; omega
        · rw [if_neg hc]; omega
      simp only [takeM]
      omega
theorem upto_stop {ss : List Int} {r : Rq} {rs : List Rq} {k : Nat} {b : Int} (U : Upto ss r rs k b) (hn : ∃ x ∈ leftL ss r k, x < 0) (h0 : ∀ s ∈ ss, 0 ≤ s) : IsMost ss (r :: rs) b := by
  refine ⟨U.1, fun ms h1 h2 => ?_⟩
  cases ms with
  | nil => exact absurd h1.1 (by simp)
  | cons m ms =>
    refine U.2 m ms h1 h2 ?_
    obtain ⟨x, hx, hneg⟩ := hn
    unfold leftL at hx
    obtain ⟨l, hl, rfl⟩ := List.mem_map.mp hx
    have hl := List.mem_range.mp hl
    have h := h2 l hl
    have hz := load_nonneg l (InAsk.cons h1).2
    have hs : 0 ≤ miAt ss l := by
      unfold miAt
      rw [List.getElem?_eq_getElem hl]
      exact h0 _ (List.getElem_mem hl)
    unfold leftF at hneg
    simp only [loadAt] at h
    split at h <;> rename_i hc
    · rw [if_pos hc] at hneg; omega
    · rw [if_neg hc] at hneg; omega
theorem upto_all {ss : List Int} {r : Rq} {rs : List Rq} {k : Nat} {b : Int} (U : Upto ss r rs k b) (hk : r.m < (k : Int)) : IsMost ss (r :: rs) b := by
  refine ⟨U.1, fun ms h1 h2 => ?_⟩
  cases ms with
  | nil => exact absurd h1.1 (by simp)
  | cons m ms =>
    refine U.2 m ms h1 h2 ?_
    have := (InAsk.cons h1).1
    omega
theorem most_nil {ss : List Int} (h0 : ∀ s ∈ ss, 0 ≤ s) : IsMost ss [] 0 := by
  refine ⟨⟨[], ⟨rfl, fun i r m h _ => by simp at h⟩, fun l hl => ?_, rfl⟩, fun ms h1 _ => ?_⟩
  · show (0 : Int) ≤ _
    unfold miAt
    rw [List.getElem?_eq_getElem hl]
    exact h0 _ (List.getElem_mem hl)
  · cases ms with
    | nil => exact Int.le_refl _
    | cons m ms => exact absurd h1.1 (by simp)
def spMost (n : Nat) : DSp := fun _ ds O => ∃ (d1 : D) (ss : List Int) (rs : List Rq), ds = [d1, .lst (rs.map Rq.d)] ∧ d1.seq = some (ss.map .int) ∧ 1 ≤ ss.length ∧ ss.length ≤ 1000 ∧ rs.length < n ∧ (∀ r ∈ rs, r.Ok ss.length) ∧ (∀ s ∈ ss, 0 ≤ s) ∧ ∀ v, IsMost ss rs v → O (.ret (.int v))
def sp__law_most : DSp := spMost 5
def sp__law_asks00 : DSp := fun F ds O => ∃ (r sa : Addr) (d : D) (sd : List D) (most many : Int), ds = [.raw (.ref r), d, .int most, .int many] ∧ F.row = some (r, sa) ∧ d.seq = some sd ∧ 1 ≤ sd.length ∧ sd.length ≤ 10 ∧ 0 < most ∧ most ≤ 1000 ∧ 0 < many ∧ many ≤ 20 ∧
  ∀ rs : List Rq, rs.length < most → (∀ r ∈ rs, r.Ok sd.length) → O (.ret (.lst (rs.map Rq.d)))
theorem eqOk_rqs (rs : List Rq) : (D.lst (rs.map Rq.d)).eqOk = true := eqOk_fit (n := 2) (by
  rw [fit_lst, List.all_eq_true]
  intro x hx
  obtain ⟨r, _, rfl⟩ := List.mem_map.mp hx
  rfl)
theorem leftL_0 (ss : List Int) (r : Rq) : leftL ss r 0 = ss := by
  apply List.ext_getElem?
  intro l
  by_cases h : l < ss.length
  · have := leftL_at (r := r) (k := 0) h
    unfold leftL leftF at *
    rw [List.getElem?_map, List.getElem?_range h, List.getElem?_eq_getElem h]
    unfold miAt
    simp [h]
  · rw [List.getElem?_eq_none (by rw [leftL_len]; omega), List.getElem?_eq_none (by omega)]
theorem leftL_tab (ss : List Int) (r : Rq) (k : Nat) : (leftL ss r k).map D.int = tab ss.length (leftF ss r k) := (tab_map _ _).symm
end Sd
end
-- SdK12
section
set_option Elab.async false
set_option linter.all false
set_option maxRecDepth 100000
set_option maxHeartbeats 4000000
set_option autoImplicit false
/-! k12: one seat more, one less; ranges of fares -/
namespace Sd
open PySem PySem.Spec PyProof.Rows L2
/-! ### x in a row of ints -/
theorem inV_ints (i : Int) (ns : List Int) : inV (.int i) (ns.map V.int) = decide (i ∈ ns) := by
  unfold inV
  rw [Bool.eq_iff_iff, decide_eq_true_eq, List.any_eq_true]
  constructor
  · intro ⟨y, hy, h⟩
    obtain ⟨n, hn, rfl⟩ := List.mem_map.mp hy
    have : n = i := by simpa [eqV] using h
    rw [← this]
    exact hn
  · intro h
    exact ⟨.int i, List.mem_map_of_mem h, by simp [eqV]⟩
def rdInI : D → D → (D → Prop) → Prop := fun x y P => ∃ (i : Int) (ns : List Int), x = .int i ∧ y.seq = some (ns.map .int) ∧ P (.bl (decide (i ∈ ns)))
section
variable {X : Cx} {G : Gx} {a b : Expr} {da db : DE} {pos : Pos}
theorem snd_in {K : PySem.W.Frag} {F : Fs} : Snd2 K F (rIn K false) rdInI := fun x y d e B H P Q he hf rx ry ⟨i, ns, h1, h2, p⟩ q => by
    subst h1
    cases rx
    obtain ⟨t, vs, rfl, hs, ra⟩ := seq_any he ry h2
    have e := ra.ints
    subst e
    refine ⟨t, _, rfl, hs, rfl, ?_, ?_⟩
    · rw [List.all_eq_true]
      intro z hz
      obtain ⟨n, _, rfl⟩ := List.mem_map.mp hz
      rfl
    · rw [if_neg (by decide), inV_ints]
      exact q _ _ B H (.refl he hf) p (.bl _)
theorem pd_in (ha : PEd X G a da) (hb : PEd X G b db) (hm : behindInMarks .In b = false := by rfl) : PEd X G (.Compare a [.In] [b] pos) (de2 rdInI da db) := pd_cmp op_in_seq snd_in ha hb hm
theorem ptd_in (ha : PEd X G a da) (hb : PEd X G b db) (hm : behindInMarks .In b = false := by rfl) : PTd X G (.Compare a [.In] [b] pos) (dtV (de2 rdInI da db)) := ptd_cmp op_in_seq snd_in ha hb hm
theorem op_eqS : OpR X (compareOp .Eq) (fun x y H Q => ∃ i j, x = .str i ∧ y = .str j ∧ Q (.bl (i == j)) H) := by
  intro pins s σ H x y v u Q I rx ry ⟨i, j, e1, e2, q⟩
  subst e1 e2
  obtain ⟨t, rfl⟩ := rx
  obtain ⟨t', rfl⟩ := ry
  exact PyProof.Rows.eq_str ⟨.bl _, H, I, rfl, q⟩
def rdEqS : D → D → (D → Prop) → Prop := fun x y P => ∃ i j, x = .str i ∧ y = .str j ∧ P (.bl (i == j))
theorem pd_eqS (ha : PEd X G a da) (hb : PEd X G b db) : PEd X G (.Compare a [.Eq] [b] pos) (de2 rdEqS da db) := pd_cmp op_eqS (fun x y d e B H P Q he hf rx ry ⟨i, j, h1, h2, p⟩ q => by
  subst h1 h2
  cases rx
  cases ry
  exact ⟨i, j, rfl, rfl, q _ _ B H (.refl he hf) p (.bl _)⟩) ha hb (nomark _)
end
/-! ### the greatest takings as a number -/
theorem most_ex : ∀ {rs : List Rq} {ss : List Int}, (∀ s ∈ ss, 0 ≤ s) → (∀ r ∈ rs, r.Ok ss.length) → ∃ v, IsMost ss rs v
  | [], _, h0, _ => ⟨0, most_nil h0⟩
  | r :: rs, ss, h0, ok => by
    have step : ∀ k : Nat, (k : Int) ≤ r.m + 1 → (∃ v, IsMost ss (r :: rs) v) ∨ ∃ b, Upto ss r rs k b := by
      intro k
      induction k with
      | zero => exact fun _ => .inr ⟨0, upto_zero h0 ok⟩
      | succ k ih =>
        intro hk
        rcases ih (by omega) with h | ⟨b, U⟩
        · exact .inl h
        · by_cases c : ∃ x ∈ leftL ss r k, x < 0
          · exact .inl ⟨b, upto_stop U c h0⟩
          · obtain ⟨v, hv⟩ := most_ex (rs := rs) (ss := leftL ss r k) (fun s hs => by
              by_cases z : s < 0
              · exact absurd ⟨s, hs, z⟩ c
              · omega) (fun q hq => by rw [leftL_len]; exact ok q (List.mem_cons_of_mem _ hq))
            exact .inr ⟨_, upto_step U (by omega) hv⟩
    have m1 := (ok r List.mem_cons_self).m1
    rcases step (r.m + 1).toNat (by omega) with h | ⟨b, U⟩
    · exact h
    · exact ⟨b, upto_all U (by omega)⟩
open Classical in
noncomputable def mostV (ss : List Int) (rs : List Rq) : Int := if h : ∃ v, IsMost ss rs v then choose h else 0
theorem mostV_is {ss : List Int} {rs : List Rq} (h0 : ∀ s ∈ ss, 0 ≤ s) (ok : ∀ r ∈ rs, r.Ok ss.length) : IsMost ss rs (mostV ss rs) := by
  have h := most_ex h0 ok
  unfold mostV
  rw [dif_pos h]
  exact Classical.choose_spec h
theorem mostV_eq {ss : List Int} {rs : List Rq} {v : Int} (h : IsMost ss rs v) : mostV ss rs = v := by
  have hx : ∃ v, IsMost ss rs v := ⟨v, h⟩
  unfold mostV
  rw [dif_pos hx]
  exact (Classical.choose_spec hx).uniq h
/-! ### a leg with another number of seats -/
def seatL (ss : List Int) (leg : Nat) (k : Int) : List Int := ss.set leg (miAt ss leg + k)
theorem seatL_len (ss : List Int) (leg : Nat) (k : Int) : (seatL ss leg k).length = ss.length := by simp [seatL]
theorem seatL_at {ss : List Int} {leg : Nat} (k : Int) (h : leg < ss.length) (l : Nat) : miAt (seatL ss leg k) l = if l = leg then miAt ss leg + k else miAt ss l := miAt_set _ h l
theorem seatL_split {ss : List Int} {leg : Nat} (k : Int) (h : leg < ss.length) : seatL ss leg k = ss.take leg ++ (miAt ss leg + k) :: ss.drop (leg + 1) := by
  unfold seatL
  rw [List.set_eq_take_append_cons_drop, if_pos h]
theorem seatL_pos {ss : List Int} {leg : Nat} {k : Int} (h : leg < ss.length) (h0 : ∀ s ∈ ss, 0 ≤ s) (hk : 0 ≤ miAt ss leg + k) : ∀ s ∈ seatL ss leg k, 0 ≤ s := fun s hs => by
  rcases List.mem_or_eq_of_mem_set hs with z | z
  · exact h0 s z
  · rw [z]
    exact hk
theorem worth_seat {ss : List Int} {rs : List Rq} {ps : List Int} {leg : Nat} (k : Int) (h : leg < ss.length) (hp : ps.length = ss.length) : worthM (seatL ss leg k) rs ps = worthM ss rs ps + k * miAt ps leg := by
  have e : dotM (seatL ss leg k) ps = dotM ss ps + k * miAt ps leg := by
    rw [dot_leg _ _ (by rw [seatL_len]; exact hp), dot_leg _ _ hp, seatL_len]
    have e1 : legSum ss.length (fun l => (seatL ss leg k).getD l 0 * ps.getD l 0) = legSum ss.length (fun l => ss.getD l 0 * ps.getD l 0 + (if l = leg then k * miAt ps leg else 0)) := legSum_eq fun l hl => by
      rw [miAt_getD, miAt_getD, miAt_getD, seatL_at k h]
      by_cases c : l = leg
      · subst c
        rw [if_pos rfl, if_pos rfl, Int.add_mul]
      · rw [if_neg c, if_neg c]
        omega
    rw [e1, legSum_add]
    have e2 : ∀ (n i : Nat) (x : Int), i < n → legSum n (fun l => if l = i then x else 0) = x := by
      intro n
      induction n with
      | zero => intro i x h; omega
      | succ n ih =>
        intro i x h
        rw [legSum_succ]
        cases i with
        | zero =>
          rw [if_pos rfl]
          have : legSum n (fun l => if l + 1 = 0 then x else 0) = legSum n (fun _ => 0) := legSum_eq fun l _ => if_neg (by omega)
          rw [this, legSum_zero]
          omega
        | succ i =>
          rw [if_neg (by omega)]
          have : legSum n (fun l => if l + 1 = i + 1 then x else 0) = legSum n (fun l => if l = i then x else 0) := legSum_eq fun l _ => by
            by_cases c : l = i
            · rw [if_pos (by omega), if_pos c]
            · rw [if_neg (by omega), if_neg c]
          rw [this, ih i x (by omega)]
          omega
    rw [e2 _ _ _ h]
  unfold worthM
  rw [e]
  omega
/-- the price of a leg is between what a seat more gains and a seat less loses -/
theorem price_between {ss : List Int} {rs : List Rq} {ms : List Int} (B : Best ss rs ms) (ok : ∀ r ∈ rs, r.Ok ss.length) {leg : Nat} (h : leg < ss.length) {v w k : Int} (hv : IsMost ss rs v) (hw : IsMost (seatL ss leg k) rs w) :
    w ≤ v + k * miAt (pricesC ss.length (costsN ss rs ms)) leg := by
  obtain ⟨p0, pe⟩ := B.prices ok
  have hp := pricesC_len ss.length (costsN ss rs ms)
  obtain ⟨⟨ns, a1, a2, a3⟩, _⟩ := hw
  have hd := duality (ss := seatL ss leg k) a1 (by rw [seatL_len]; exact ok) (by rw [seatL_len]; exact hp) p0 (fit_fits a2)
  rw [worth_seat k h hp, ← pe, (B.isMost ok).uniq hv] at hd
  omega
/-! ### a request with another fare and number -/
theorem within_nat {t : D} {n : Nat} (h : isWithin t 0 ((n : Int) - 1) = true) : ∃ k : Nat, t = .int (k : Int) ∧ k < n := by
  obtain ⟨i, e, l, u⟩ := isWithin_int h
  obtain ⟨k, rfl⟩ := Int.eq_ofNat_of_zero_le l
  exact ⟨k, e, by omega⟩
theorem cut_hd {α : Type} (xs : List α) {k : Nat} (h : k ≤ xs.length) : cut xs none (some (k : Int)) = xs.take k := cut_to xs k h
theorem cut_tl {α : Type} (xs : List α) {k : Nat} (h : k < xs.length) : cut xs (some ((k : Int) + 1)) none = xs.drop (k + 1) := by
  have := cut_from xs (k + 1) (by omega)
  rwa [show (((k + 1 : Nat) : Nat) : Int) = (k : Int) + 1 by omega] at this
def withR (rs : List Rq) (n : Nat) (r : Rq) (f m : Int) : List Rq := (rs.take n ++ rs.drop (n + 1)) ++ if m = 0 then [] else [⟨r.a, r.b, f, m⟩]
theorem withR_len {rs : List Rq} {n : Nat} {r : Rq} {f m : Int} (h : n < rs.length) : (withR rs n r f m).length ≤ rs.length := by
  unfold withR
  rw [List.length_append, List.length_append, List.length_take, List.length_drop]
  split <;> simp <;> omega
theorem withR_ok {k : Nat} {rs : List Rq} {n : Nat} {r : Rq} {f m : Int} (ok : ∀ q ∈ rs, q.Ok k) (hr : r.Ok k) (f1 : 1 ≤ f) (f2 : f ≤ 1000) (m1 : 0 ≤ m) (m2 : m ≤ r.m) : ∀ q ∈ withR rs n r f m, q.Ok k := fun q hq => by
  unfold withR at hq
  rcases List.mem_append.mp hq with hq | hq
  · rcases List.mem_append.mp hq with hq | hq
    · exact ok q (List.mem_of_mem_take hq)
    · exact ok q (List.mem_of_mem_drop hq)
  · split at hq
    · cases hq
    · rw [List.mem_singleton.mp hq]
      exact ⟨hr.a0, hr.ab, hr.bn, f1, f2, by show 1 ≤ m; omega, Int.le_trans m2 hr.m2⟩
theorem withR_cut {rs : List Rq} {n : Nat} {r : Rq} {f m : Int} (h : n < rs.length) (hm : m ≠ 0) : cut (rs.map Rq.d) none (some (n : Int)) ++ (cut (rs.map Rq.d) (some ((n : Int) + 1)) none ++ [D.tup [.int r.a, .int r.b, .int f, .int m]]) = (withR rs n r f m).map Rq.d := by
  rw [cut_hd _ (by rw [List.length_map]; omega), cut_tl _ (by rw [List.length_map]; exact h)]
  unfold withR
  rw [if_neg hm, List.map_append, List.map_append, List.map_take, List.map_drop, List.append_assoc]
  rfl
theorem withR_cut0 {rs : List Rq} {n : Nat} {r : Rq} {f m : Int} (h : n < rs.length) (hm : m = 0) : cut (rs.map Rq.d) none (some (n : Int)) ++ cut (rs.map Rq.d) (some ((n : Int) + 1)) none = (withR rs n r f m).map Rq.d := by
  rw [cut_hd _ (by rw [List.length_map]; omega), cut_tl _ (by rw [List.length_map]; exact h)]
  unfold withR
  rw [if_pos hm, List.append_nil, List.map_append, List.map_take, List.map_drop]
theorem cutR_lens {rs : List Rq} {n : Nat} (h : n < rs.length) : (cut (rs.map Rq.d) none (some (n : Int))).length = n ∧ (cut (rs.map Rq.d) (some ((n : Int) + 1)) none).length = rs.length - (n + 1) := by
  rw [cut_hd _ (by rw [List.length_map]; omega), cut_tl _ (by rw [List.length_map]; exact h), List.length_take, List.length_drop, List.length_map]
  omega
def SpanPos (ss : List Int) (r : Rq) : Prop := ∀ l : Nat, l < ss.length → r.a ≤ (l : Int) → (l : Int) < r.b → miAt ss l ≠ 0
open Classical in
noncomputable def takesB (ss : List Int) (rs : List Rq) (n : Nat) (r : Rq) (f : Int) : Bool := decide (SpanPos ss r ∧ f + mostV (leftL ss r 1) (withR rs n r f (r.m - 1)) = mostV ss (withR rs n r f r.m))
noncomputable def leavesB (ss : List Int) (rs : List Rq) (n : Nat) (r : Rq) (f : Int) : Bool := decide (mostV ss (withR rs n r f (r.m - 1)) = mostV ss (withR rs n r f r.m))
theorem left1_pos {ss : List Int} {r : Rq} (h0 : ∀ s ∈ ss, 0 ≤ s) (hp : SpanPos ss r) : ∀ s ∈ leftL ss r 1, 0 ≤ s := fun s hs => by
  unfold leftL at hs
  obtain ⟨l, hl, rfl⟩ := List.mem_map.mp hs
  have hl := List.mem_range.mp hl
  have h1 : 0 ≤ miAt ss l := by
    unfold miAt
    rw [List.getElem?_eq_getElem hl]
    exact h0 _ (List.getElem_mem hl)
  unfold leftF
  split
  · rename_i c
    have := hp l hl c.1 c.2
    omega
  · omega
theorem span_cut {ss : List Int} {r : Rq} (ok : r.Ok ss.length) : (0 : Int) ∈ cut ss (some r.a) (some r.b) ↔ ¬ SpanPos ss r := by
  obtain ⟨a, ea⟩ := Int.eq_ofNat_of_zero_le ok.a0
  have hab := ok.ab
  have hbn := ok.bn
  obtain ⟨b, eb⟩ := Int.eq_ofNat_of_zero_le (show 0 ≤ r.b by have := ok.a0; omega)
  have e : cut ss (some r.a) (some r.b) = (ss.drop a).take (b - a) := by
    unfold cut
    rw [ea, eb, HT.sIx_nat, HT.sIx_nat, Nat.min_eq_left (by omega), Nat.min_eq_left (by omega)]
  rw [e]
  constructor
  · intro h hp
    obtain ⟨i, hi, h1⟩ := List.getElem_of_mem h
    rw [List.length_take, List.length_drop] at hi
    rw [List.getElem_take, List.getElem_drop] at h1
    refine hp (a + i) (by omega) (by omega) (by omega) ?_
    unfold miAt
    rw [List.getElem?_eq_getElem (by omega), h1]
    rfl
  · intro h
    by_cases c : (0 : Int) ∈ (ss.drop a).take (b - a)
    · exact c
    · refine absurd (fun l hl h1 h2 hz => c ?_) h
      rw [List.mem_iff_getElem?]
      refine ⟨l - a, ?_⟩
      rw [List.getElem?_take, if_pos (by omega), List.getElem?_drop, show a + (l - a) = l by omega, List.getElem?_eq_getElem hl]
      unfold miAt at hz
      rw [List.getElem?_eq_getElem hl] at hz
      exact congrArg some hz
theorem span_filter {ss : List Int} {r : Rq} (ok : r.Ok ss.length) : ((List.range (r.b - r.a).toNat).filter fun i : Nat => decide (miAt ss (r.a + (i : Int)).toNat = 0)) = [] ↔ SpanPos ss r := by
  have oa := ok.a0
  have oab := ok.ab
  have obn := ok.bn
  rw [List.filter_eq_nil_iff]
  constructor
  · intro h l hl h1 h2 hz
    have := h (l - r.a.toNat) (List.mem_range.mpr (by omega))
    rw [show (r.a + ((l - r.a.toNat : Nat) : Int)).toNat = l by omega] at this
    exact this (decide_eq_true hz)
  · intro h i hi z
    have hi := List.mem_range.mp hi
    exact h (r.a + (i : Int)).toNat (by omega) (by omega) (by omega) (of_decide_eq_true z)
theorem left1_zip (ss : List Int) (r : Rq) : (ss.zipIdx.map fun p => D.int (if r.a ≤ (p.2 : Int) ∧ (p.2 : Int) < r.b then p.1 - 1 else p.1)) = (leftL ss r 1).map D.int := by
  apply List.ext_getElem?
  intro l
  unfold leftL
  rw [List.getElem?_map, List.getElem?_map, List.getElem?_map, List.getElem?_zipIdx]
  by_cases h : l < ss.length
  · rw [List.getElem?_range h, List.getElem?_eq_getElem h]
    have hm : miAt ss l = ss[l] := by
      unfold miAt
      rw [List.getElem?_eq_getElem h]
      rfl
    show some (D.int (if r.a ≤ ((0 + l : Nat) : Int) ∧ ((0 + l : Nat) : Int) < r.b then ss[l] - 1 else ss[l])) = some (D.int (leftF ss r 1 l))
    unfold leftF
    rw [Nat.zero_add, hm]
    split
    · rfl
    · rw [Int.sub_zero]
  · rw [List.getElem?_eq_none (by omega), List.getElem?_eq_none (by rw [List.length_range]; omega)]
    rfl
theorem leaves_eq {ss : List Int} {rs : List Rq} {n : Nat} {r : Rq} {f v w : Int} (h1 : IsMost ss (withR rs n r f r.m) v) (h2 : IsMost ss (withR rs n r f (r.m - 1)) w) : leavesB ss rs n r f = decide (w = v) := by
  unfold leavesB
  rw [mostV_eq h1, mostV_eq h2]
open Classical in
theorem takes_eq {ss : List Int} {rs : List Rq} {n : Nat} {r : Rq} {f v w : Int} (hp : SpanPos ss r) (h1 : IsMost ss (withR rs n r f r.m) v) (h2 : IsMost (leftL ss r 1) (withR rs n r f (r.m - 1)) w) : takesB ss rs n r f = decide (f + w = v) := by
  unfold takesB
  rw [mostV_eq h1, mostV_eq h2, Bool.eq_iff_iff, decide_eq_true_eq, decide_eq_true_eq]
  exact ⟨fun h => h.2, fun h => ⟨hp, h⟩⟩
open Classical in
theorem takes_no {ss : List Int} {rs : List Rq} {n : Nat} {r : Rq} {f : Int} (hp : ¬ SpanPos ss r) : takesB ss rs n r f = false := by
  unfold takesB
  exact decide_eq_false fun h => hp h.1
def LeastOk (ss : List Int) (rs : List Rq) (n : Nat) (r : Rq) (x : D) : Prop := (x = .non ∧ takesB ss rs n r 1000 = false) ∨ ∃ f : Int, x = .int f ∧ 1 ≤ f ∧ f ≤ 1000 ∧ takesB ss rs n r f = true ∧ (1 < f → takesB ss rs n r (f - 1) = false)
def MostOk (ss : List Int) (rs : List Rq) (n : Nat) (r : Rq) (x : D) : Prop := (x = .non ∧ leavesB ss rs n r 1 = false) ∨ ∃ f : Int, x = .int f ∧ 1 ≤ f ∧ f ≤ 1000 ∧ leavesB ss rs n r f = true ∧ (f < 1000 → leavesB ss rs n r (f + 1) = false)
theorem seat_cut {ss : List Int} {leg : Nat} (k : Int) (h : leg < ss.length) : cut (ss.map D.int) none (some (leg : Int)) ++ D.int (miAt ss leg + k) :: cut (ss.map D.int) (some ((leg : Int) + 1)) none = (seatL ss leg k).map D.int := by
  rw [cut_hd _ (by rw [List.length_map]; omega), cut_tl _ (by rw [List.length_map]; exact h), seatL_split k h, List.map_append, List.map_cons, List.map_take, List.map_drop]
theorem cut_lens {ss : List Int} {leg : Nat} (h : leg < ss.length) : (cut (ss.map D.int) none (some (leg : Int))).length = leg ∧ (cut (ss.map D.int) (some ((leg : Int) + 1)) none).length = ss.length - (leg + 1) := by
  rw [cut_hd _ (by rw [List.length_map]; omega), cut_tl _ (by rw [List.length_map]; exact h), List.length_take, List.length_drop, List.length_map]
  omega
/-! ### promises -/
def sp_check_leg : DSp := fun _ ds O => ∃ (sd : List D) (t : D), ds = [.ln sd, t] ∧ t.okv = true ∧ (isWithin t 0 ((sd.length : Int) - 1) = false → O (.exc "BadLeg" t)) ∧ (isWithin t 0 ((sd.length : Int) - 1) = true → O (.ret .non))
def sp_with_seats : DSp := fun _ ds O => ∃ (ss : List Int) (leg : Nat) (k : Int), ds = [.ln (ss.map D.int), .int (leg : Int), .int k] ∧ leg < ss.length ∧ ss.length ≤ 100 ∧ O (.ret (.tup ((seatL ss leg k).map D.int)))
def sp__law_more : DSp := fun _ ds O => ∃ (ss : List Int) (leg : Nat) (k : Int), ds = [.tup (ss.map D.int), .int (leg : Int), .int k] ∧ leg < ss.length ∧ ss.length ≤ 100 ∧ O (.ret (.tup ((seatL ss leg k).map D.int)))
def sp_seat_gain : DSp := fun _ ds O => ∃ (ss : List Int) (d2 t : D), ds = [.ln (ss.map D.int), d2, t] ∧ ss.length ≤ 100 ∧ (∀ s ∈ ss, 0 ≤ s) ∧ d2.okv = true ∧ t.okv = true ∧
  withReqs ss.length d2 O fun rs => (isWithin t 0 ((ss.length : Int) - 1) = false → O (.exc "BadLeg" t)) ∧ ∀ leg : Nat, t = .int (leg : Int) → leg < ss.length → ∀ v w, IsMost ss rs v → IsMost (seatL ss leg 1) rs w → O (.ret (.int (w - v)))
def sp_seat_loss : DSp := fun _ ds O => ∃ (ss : List Int) (d2 t : D), ds = [.ln (ss.map D.int), d2, t] ∧ ss.length ≤ 100 ∧ (∀ s ∈ ss, 0 ≤ s) ∧ d2.okv = true ∧ t.okv = true ∧
  withReqs ss.length d2 O fun rs => (isWithin t 0 ((ss.length : Int) - 1) = false → O (.exc "BadLeg" t)) ∧ ∀ leg : Nat, t = .int (leg : Int) → leg < ss.length → (miAt ss leg = 0 → O (.ret .non)) ∧ (miAt ss leg ≠ 0 → ∀ v w, IsMost ss rs v → IsMost (seatL ss leg (-1)) rs w → O (.ret (.int (v - w))))
def sp_with_request : DSp := fun _ ds O => ∃ (d : D) (rs : List Rq) (n : Nat) (r : Rq) (f m : Int), ds = [d, .int (n : Int), .int f, .int m] ∧ d.seq = some (rs.map Rq.d) ∧ rs[n]? = some r ∧ rs.length ≤ 100 ∧ O (.ret (.lst ((withR rs n r f m).map Rq.d)))
structure Mar (ss : List Int) (d : D) (rs : List Rq) (n : Nat) (r : Rq) : Prop where
  sl : ss.length ≤ 100
  s0 : ∀ s ∈ ss, 0 ≤ s
  sq : d.seq = some (rs.map Rq.d)
  at_ : rs[n]? = some r
  ok : ∀ q ∈ rs, q.Ok ss.length
  rl : rs.length ≤ 12
def sp_takes_one : DSp := fun _ ds O => ∃ (ss : List Int) (d : D) (rs : List Rq) (n : Nat) (r : Rq) (f : Int), ds = [.ln (ss.map D.int), d, .int (n : Int), .int f] ∧ Mar ss d rs n r ∧ 1 ≤ f ∧ f ≤ 1000 ∧ O (.ret (.bl (takesB ss rs n r f)))
def sp_leaves_one : DSp := fun _ ds O => ∃ (ss : List Int) (d : D) (rs : List Rq) (n : Nat) (r : Rq) (f : Int), ds = [.ln (ss.map D.int), d, .int (n : Int), .int f] ∧ Mar ss d rs n r ∧ 1 ≤ f ∧ f ≤ 1000 ∧ O (.ret (.bl (leavesB ss rs n r f)))
def sp_least_taken : DSp := fun _ ds O => ∃ (ss : List Int) (d : D) (rs : List Rq) (n : Nat) (r : Rq), ds = [.ln (ss.map D.int), d, .int (n : Int)] ∧ Mar ss d rs n r ∧ ∀ x, LeastOk ss rs n r x → O (.ret x)
def sp_most_left : DSp := fun _ ds O => ∃ (ss : List Int) (d : D) (rs : List Rq) (n : Nat) (r : Rq), ds = [.ln (ss.map D.int), d, .int (n : Int)] ∧ Mar ss d rs n r ∧ ∀ x, MostOk ss rs n r x → O (.ret x)
def sp_fare_range : DSp := fun _ ds O => ∃ (ss : List Int) (d2 t : D), ds = [.ln (ss.map D.int), d2, t] ∧ ss.length ≤ 100 ∧ (∀ s ∈ ss, 0 ≤ s) ∧ d2.okv = true ∧ t.okv = true ∧
  withReqs ss.length d2 O fun rs => (isWithin t 0 ((rs.length : Int) - 1) = false → O (.exc "BadNumber" t)) ∧ ∀ (n : Nat) (r : Rq), t = .int (n : Int) → rs[n]? = some r → ∀ x y, LeastOk ss rs n r x → MostOk ss rs n r y → O (.ret (.tup [x, y]))
def sp__law_takes_one : DSp := fun _ ds O => ∃ (ss : List Int) (rs : List Rq) (n : Nat) (r : Rq) (f : Int), ds = [.tup (ss.map D.int), .lst (rs.map Rq.d), .int (n : Int), .int f] ∧ Mar ss (.lst (rs.map Rq.d)) rs n r ∧ 1 ≤ ss.length ∧ rs.length < 5 ∧ 1 ≤ f ∧ f ≤ 1000 ∧ O (.ret (.bl (takesB ss rs n r f)))
def sp__law_leaves_one : DSp := fun _ ds O => ∃ (ss : List Int) (rs : List Rq) (n : Nat) (r : Rq) (f : Int), ds = [.tup (ss.map D.int), .lst (rs.map Rq.d), .int (n : Int), .int f] ∧ Mar ss (.lst (rs.map Rq.d)) rs n r ∧ 1 ≤ ss.length ∧ rs.length < 5 ∧ 1 ≤ f ∧ f ≤ 1000 ∧ O (.ret (.bl (leavesB ss rs n r f)))
end Sd
end
-- B_12
section
set_option Elab.async false
set_option linter.all false
set_option maxRecDepth 100000
set_option maxHeartbeats 4000000
set_option autoImplicit false
namespace K12
open PySem PySem.Spec PyProof.Rows L2 Sd
def top (i : Nat) : Stmt := PySem.Challenge.pw_seatsold_k12_whole_one_seat_more.main.body.getD i (.Pass ⟨0, 0, 0, 0⟩)
abbrev s_is_integer : Stmt := top 1
abbrev s_is_within : Stmt := top 2
abbrev s_is_row : Stmt := top 3
abbrev s_is_tuple_of : Stmt := top 4
abbrev s_SeatError___init__ : Stmt := inClass (top 6) 0
abbrev s_is_request : Stmt := top 15
abbrev s_check_requests : Stmt := top 16
abbrev s_told_loads : Stmt := top 17
abbrev s_told_takings : Stmt := top 18
abbrev s_Market___init__ : Stmt := inClass (top 21) 0
abbrev s_Market_lay_roads : Stmt := inClass (top 21) 1
abbrev s_Market_lengths : Stmt := inClass (top 21) 2
abbrev s_Market_better : Stmt := inClass (top 21) 3
abbrev s_Market_prices : Stmt := inClass (top 21) 4
abbrev s_told_best : Stmt := top 22
abbrev s_best_prices : Stmt := top 23
abbrev s_Line___init__ : Stmt := inClass (top 27) 0
abbrev s_Line___eq__ : Stmt := inClass (top 27) 1
abbrev s_check_leg : Stmt := top 28
abbrev s_with_seats : Stmt := top 30
abbrev s_seat_gain : Stmt := top 31
abbrev s_seat_loss : Stmt := top 32
abbrev s_with_request : Stmt := top 33
abbrev s_takes_one : Stmt := top 34
abbrev s_leaves_one : Stmt := top 35
abbrev s_fare_range : Stmt := top 36
abbrev s_least_taken : Stmt := top 37
abbrev s_most_left : Stmt := top 38
abbrev s__law_taken : Stmt := top 40
abbrev s__law_pick : Stmt := top 41
abbrev s__law_alike : Stmt := top 42
abbrev s__law_line : Stmt := top 43
abbrev s__law_asks : Stmt := top 44
abbrev s__law_most : Stmt := top 45
abbrev s__law_more : Stmt := top 46
abbrev s__law_takes_one : Stmt := top 47
abbrev s__law_leaves_one : Stmt := top 48
abbrev s__law_refused : Stmt := top 49
abbrev s_law : Stmt := top 50
/-- what the walk asks of the names of the top -/
structure Txt (K : PySem.W.Frag) (mg : Str → Option Value) : Prop where
  b_bool : mg "bool" = none
  b_dict : mg "dict" = none
  b_enumerate : mg "enumerate" = none
  b_int : mg "int" = none
  b_isinstance : mg "isinstance" = none
  b_len : mg "len" = none
  b_list : mg "list" = none
  b_max : mg "max" = none
  b_min : mg "min" = none
  b_range : mg "range" = none
  b_repr : mg "repr" = none
  b_str : mg "str" = none
  b_sum : mg "sum" = none
  b_tuple : mg "tuple" = none
  b_zip : mg "zip" = none
  c_FAR : ∃ t, mg "FAR" = some (.int 1000000000 t)
  c_MOST_FARE : ∃ t, mg "MOST_FARE" = some (.int 1000 t)
  c_MOST_LEGS : ∃ t, mg "MOST_LEGS" = some (.int 10 t)
  c_MOST_MANY : ∃ t, mg "MOST_MANY" = some (.int 20 t)
  c_MOST_REQUESTS : ∃ t, mg "MOST_REQUESTS" = some (.int 12 t)
  c_MOST_SEATS : ∃ t, mg "MOST_SEATS" = some (.int 20 t)
  g_Line : mg "Line" = some (.ref (He.ga K "Line"))
  g_Market : mg "Market" = some (.ref (He.ga K "Market"))
  g_seat_gain : mg "seat_gain" = some (.ref (He.ga K "seat_gain"))
  g_seat_loss : mg "seat_loss" = some (.ref (He.ga K "seat_loss"))
  clLine : Cls K (He.ga K "Line")
  nSeats : NoAttr K (He.ga K "Line") "seats"
  lnF : LnF K
  clMarket : Cls K (He.ga K "Market")
  nMarket_seats : NoAttr K (He.ga K "Market") "seats"
  nMarket_requests : NoAttr K (He.ga K "Market") "requests"
  nMarket_sale : NoAttr K (He.ga K "Market") "sale"
  nMarket_roads : NoAttr K (He.ga K "Market") "roads"
abbrev FnP (K : PySem.W.Frag) (x : Str) (st : Stmt) (f : Addr) (fd : FuncData) : Prop := FunD K x x (defArgs st) (defBody st) (defScope st) [] [] f fd
theorem sc_is_integer : FnScope ["thing"] ["thing"] (defScope s_is_integer) := ⟨rfl, rfl, rfl, by decide +kernel, rfl, by decide +kernel, by decide +kernel⟩
theorem sc_is_within : FnScope ["thing", "least", "most"] ["thing", "least", "most"] (defScope s_is_within) := ⟨rfl, rfl, rfl, by decide +kernel, rfl, by decide +kernel, by decide +kernel⟩
theorem sc_is_row : FnScope ["thing"] ["thing"] (defScope s_is_row) := ⟨rfl, rfl, rfl, by decide +kernel, rfl, by decide +kernel, by decide +kernel⟩
theorem sc_is_tuple_of : FnScope ["thing", "many"] ["thing", "many"] (defScope s_is_tuple_of) := ⟨rfl, rfl, rfl, by decide +kernel, rfl, by decide +kernel, by decide +kernel⟩
theorem sc_SeatError___init__ : FnScope ["self", "value"] ["self", "value"] (defScope s_SeatError___init__) := ⟨rfl, rfl, rfl, by decide +kernel, rfl, by decide +kernel, by decide +kernel⟩
theorem sc_is_request : FnScope ["line", "thing"] ["line", "thing"] (defScope s_is_request) := ⟨rfl, rfl, rfl, by decide +kernel, rfl, by decide +kernel, by decide +kernel⟩
theorem sc_check_requests : FnScope ["line", "requests", "index", "request"] ["line", "requests"] (defScope s_check_requests) := ⟨rfl, rfl, rfl, by decide +kernel, rfl, by decide +kernel, by decide +kernel⟩
theorem sc_told_loads : FnScope ["seats", "requests", "sale", "found", "first", "end", "_", "many", "leg"] ["seats", "requests", "sale"] (defScope s_told_loads) := ⟨rfl, rfl, rfl, by decide +kernel, rfl, by decide +kernel, by decide +kernel⟩
theorem sc_told_takings : FnScope ["requests", "sale", "request", "many"] ["requests", "sale"] (defScope s_told_takings) := ⟨rfl, rfl, rfl, by decide +kernel, rfl, by decide +kernel, by decide +kernel⟩
theorem sc_Market___init__ : FnScope ["self", "seats", "requests", "_"] ["self", "seats", "requests"] (defScope s_Market___init__) := ⟨rfl, rfl, rfl, by decide +kernel, rfl, by decide +kernel, by decide +kernel⟩
theorem sc_Market_lay_roads : FnScope ["self", "found", "number", "first", "end", "fare", "many", "leg", "load", "road"] ["self"] (defScope s_Market_lay_roads) := ⟨rfl, rfl, rfl, by decide +kernel, rfl, by decide +kernel, by decide +kernel⟩
theorem sc_Market_lengths : FnScope ["self", "stops", "costs", "last", "changed", "_", "road"] ["self"] (defScope s_Market_lengths) := ⟨rfl, rfl, rfl, by decide +kernel, rfl, by decide +kernel, by decide +kernel⟩
theorem sc_Market_better : FnScope ["self", "_", "last", "stop", "ring", "room", "road"] ["self"] (defScope s_Market_better) := ⟨rfl, rfl, rfl, by decide +kernel, rfl, by decide +kernel, by decide +kernel⟩
theorem sc_Market_prices : FnScope ["self", "costs", "leg"] ["self"] (defScope s_Market_prices) := ⟨rfl, rfl, rfl, by decide +kernel, rfl, by decide +kernel, by decide +kernel⟩
theorem sc_told_best : FnScope ["seats", "requests"] ["seats", "requests"] (defScope s_told_best) := ⟨rfl, rfl, rfl, by decide +kernel, rfl, by decide +kernel, by decide +kernel⟩
theorem sc_best_prices : FnScope ["line", "requests"] ["line", "requests"] (defScope s_best_prices) := ⟨rfl, rfl, rfl, by decide +kernel, rfl, by decide +kernel, by decide +kernel⟩
theorem sc_Line___init__ : FnScope ["self", "seats", "index", "many"] ["self", "seats"] (defScope s_Line___init__) := ⟨rfl, rfl, rfl, by decide +kernel, rfl, by decide +kernel, by decide +kernel⟩
theorem sc_Line___eq__ : FnScope ["self", "other"] ["self", "other"] (defScope s_Line___eq__) := ⟨rfl, rfl, rfl, by decide +kernel, rfl, by decide +kernel, by decide +kernel⟩
theorem sc_check_leg : FnScope ["line", "leg"] ["line", "leg"] (defScope s_check_leg) := ⟨rfl, rfl, rfl, by decide +kernel, rfl, by decide +kernel, by decide +kernel⟩
theorem sc_with_seats : FnScope ["line", "leg", "more"] ["line", "leg", "more"] (defScope s_with_seats) := ⟨rfl, rfl, rfl, by decide +kernel, rfl, by decide +kernel, by decide +kernel⟩
theorem sc_seat_gain : FnScope ["line", "requests", "leg"] ["line", "requests", "leg"] (defScope s_seat_gain) := ⟨rfl, rfl, rfl, by decide +kernel, rfl, by decide +kernel, by decide +kernel⟩
theorem sc_seat_loss : FnScope ["line", "requests", "leg"] ["line", "requests", "leg"] (defScope s_seat_loss) := ⟨rfl, rfl, rfl, by decide +kernel, rfl, by decide +kernel, by decide +kernel⟩
theorem sc_with_request : FnScope ["requests", "number", "fare", "many", "first", "end", "_", "rest"] ["requests", "number", "fare", "many"] (defScope s_with_request) := ⟨rfl, rfl, rfl, by decide +kernel, rfl, by decide +kernel, by decide +kernel⟩
theorem sc_takes_one : FnScope ["line", "requests", "number", "fare", "first", "end", "_", "many", "seats", "best", "leg", "one"] ["line", "requests", "number", "fare"] (defScope s_takes_one) := ⟨rfl, rfl, rfl, by decide +kernel, rfl, by decide +kernel, by decide +kernel⟩
theorem sc_leaves_one : FnScope ["line", "requests", "number", "fare", "many", "best"] ["line", "requests", "number", "fare"] (defScope s_leaves_one) := ⟨rfl, rfl, rfl, by decide +kernel, rfl, by decide +kernel, by decide +kernel⟩
theorem sc_fare_range : FnScope ["line", "requests", "number"] ["line", "requests", "number"] (defScope s_fare_range) := ⟨rfl, rfl, rfl, by decide +kernel, rfl, by decide +kernel, by decide +kernel⟩
theorem sc_least_taken : FnScope ["line", "requests", "number", "least", "most", "middle"] ["line", "requests", "number"] (defScope s_least_taken) := ⟨rfl, rfl, rfl, by decide +kernel, rfl, by decide +kernel, by decide +kernel⟩
theorem sc_most_left : FnScope ["line", "requests", "number", "least", "most", "middle"] ["line", "requests", "number"] (defScope s_most_left) := ⟨rfl, rfl, rfl, by decide +kernel, rfl, by decide +kernel, by decide +kernel⟩
theorem sc__law_pick : FnScope ["row", "some"] ["row", "some"] (defScope s__law_pick) := ⟨rfl, rfl, rfl, by decide +kernel, rfl, by decide +kernel, by decide +kernel⟩
theorem sc__law_alike : FnScope ["found", "due", "k", "key"] ["found", "due"] (defScope s__law_alike) := ⟨rfl, rfl, rfl, by decide +kernel, rfl, by decide +kernel, by decide +kernel⟩
theorem sc__law_line : FnScope ["row", "most", "k"] ["row"] (defScope s__law_line) := ⟨rfl, rfl, rfl, by decide +kernel, rfl, by decide +kernel, by decide +kernel⟩
theorem sc__law_asks : FnScope ["row", "seats", "most", "many", "found", "k", "first", "end"] ["row", "seats", "most", "many"] (defScope s__law_asks) := ⟨rfl, rfl, rfl, by decide +kernel, rfl, by decide +kernel, by decide +kernel⟩
theorem sc__law_most : FnScope ["seats", "asks", "first", "end", "fare", "many", "best", "left", "one", "leg"] ["seats", "asks"] (defScope s__law_most) := ⟨rfl, rfl, rfl, by decide +kernel, rfl, by decide +kernel, by decide +kernel⟩
theorem sc__law_more : FnScope ["seats", "leg", "more"] ["seats", "leg", "more"] (defScope s__law_more) := ⟨rfl, rfl, rfl, by decide +kernel, rfl, by decide +kernel, by decide +kernel⟩
theorem sc__law_takes_one : FnScope ["seats", "asks", "at", "fare", "first", "end", "old", "many", "rest", "less", "fewer", "leg", "one"] ["seats", "asks", "at", "fare"] (defScope s__law_takes_one) := ⟨rfl, rfl, rfl, by decide +kernel, rfl, by decide +kernel, by decide +kernel⟩
theorem sc__law_leaves_one : FnScope ["seats", "asks", "at", "fare", "first", "end", "old", "many", "rest", "fewer"] ["seats", "asks", "at", "fare"] (defScope s__law_leaves_one) := ⟨rfl, rfl, rfl, by decide +kernel, rfl, by decide +kernel, by decide +kernel⟩
theorem sc__law_refused : FnScope ["ask", "e"] ["ask"] (defScope s__law_refused) := ⟨rfl, rfl, rfl, by decide +kernel, rfl, by decide +kernel, by decide +kernel⟩
theorem sc_law : FnScope ["script", "row", "seats", "asks", "line", "leg", "whole", "gain", "loss", "price", "at", "least", "most", "odd", "wrong", "ask"] ["script"] (defScope s_law) := ⟨rfl, rfl, rfl, by decide +kernel, rfl, by decide +kernel, by decide +kernel⟩
end K12
end
-- F_12_is_integer
section
set_option Elab.async false
set_option linter.all false
set_option maxRecDepth 100000
set_option maxHeartbeats 4000000
set_option autoImplicit false
namespace K12
open PySem PySem.Spec PyProof.Rows L2 Sd
section
variable {P : Program} {w : World} {K : PySem.W.Frag} {mg : Str → Option Value} {base : Heap}
theorem ok_is_integer (T : Txt K mg) {f : Addr} {fd : FuncData} (F : FnP K "is_integer" s_is_integer f fd)   : FnOk P w K mg base (L2.CX P w) 1 f fd ["thing"] (spD K sp_is_integer) := by
  have sc := sc_is_integer
  refine fnD F sc (fun F ds O h => by
    obtain ⟨_, e, _⟩ := h
    rw [e] <;> rfl) (fun cdv A outer s G E ds O hr h hE => ⟨_, (pssd_one (psd_ret (pd_and (pd_is kit_int T.b_isinstance T.b_int (by decide +kernel) (pd_name (pv 0))) (pd_one (pd_not (pd_is kit_bool T.b_isinstance T.b_bool (by decide +kernel) (pd_name (pv 0)))))))), ?_⟩)
  obtain ⟨d, rfl, h⟩ := h
  obtain ⟨hd, o⟩ := h
  simp [startD, wipeD, dsRet, dsRetN, dsIf, dsSeq, dsNext, dsAsg, dsDrop, dsBreak, dsCont, dsPar, dsAug, dsFrz, dsApp, dsExt, dsPut, dsAugO, dsOwn, dsParOO, dsParDO, dsParDDO, dsFrzA, dxRep, diOwn, dsRaise, deAnd, deOr, deNot, de1, de2, deB, deX, dxB, dxLst, deName, deC, deCall, deIxO, deLenO, deTup, deLst, daCons, daNil, daStar, deChain, dtChain, dtV, dtAnd, dtOr, dtNot, dtYes, deIf, deSl, doNone, doSome, rdAdd, rdSub, rdMul, rdMod, rdDiv, rdPow, rdI, rdIc, rdB, rdLt, rdLe, rdGt, rdGe, rdNeg, rdIs, rdEq, rdNe, rdIx, rdIsN, rdNotN, rdIsB, rdNotB, rdRev, rdSeats, rdCatL, rdCatT, rdRepL, rdLen, rdTuple, rdList, rxList, rdInt, rdMax2, rdMin2, dgName, dgTup, dgCons, dgNil, deRefused, rdRepr, rdNeS, rdEqL, rdNeL, rdRepT, rdIsLn, noOwn, diSeq, diEn, diZp, diR1, diR2, noX,  eqOk_int, eqOk_bl, eqOk_non, eqv_int, eqv_bl, eqv_non, atI_0, atI_1, atI_2, atI_3, qty_non, qisI_non, qisB_non, qisL_non, qisU_non, qisS_non, qisD_non, qisNon_non, qcooked_non, qseq_non, qty_bl, qisI_bl, qisB_bl, qisL_bl, qisU_bl, qisS_bl, qisD_bl, qisNon_bl, qcooked_bl, qseq_bl, qty_int, qisI_int, qisB_int, qisL_int, qisU_int, qisS_int, qisD_int, qisNon_int, qcooked_int, qseq_int, qty_str, qisI_str, qisB_str, qisL_str, qisU_str, qisS_str, qisD_str, qisNon_str, qcooked_str, qseq_str, qty_lst, qisI_lst, qisB_lst, qisL_lst, qisU_lst, qisS_lst, qisD_lst, qisNon_lst, qcooked_lst, qseq_lst, qty_tup, qisI_tup, qisB_tup, qisL_tup, qisU_tup, qisS_tup, qisD_tup, qisNon_tup, qcooked_tup, qseq_tup, qty_dct, qisI_dct, qisB_dct, qisL_dct, qisU_dct, qisS_dct, qisD_dct, qisNon_dct, qcooked_dct, qseq_dct, qix_lst, qsl_lst, qix_tup, qsl_tup, qisNon_ln, qcooked_ln, and_assoc, exists_and_left, exists_eq_left, exists_eq_left', exists_eq_right, deFget, dsFset, dsFsetO, deFix, dsFaug, dmCall, dmIx, dsDropM, dsAsgM, dmsSeq, dmsRet, dmsNil, dmsIf, dmsFrz, startM, dnMake, deNfld, deNmeth, dxLend, deLend, dnsSeq, dnsRet, putM1, putM2, putM3, putM4, mkSt, lkM_seats, lkM_requests, lkM_sale, lkM_roads, lkM_lay, lkM_len, lkM_bet, lkM_pri, putM_roads, lenM, rdInI, rdEqS, hd]
  cases d <;> simp_all [dInt, D.isI, D.isB, no_raw, no_ln]
end
end K12
end
-- F_12_is_within
section
set_option Elab.async false
set_option linter.all false
set_option maxRecDepth 100000
set_option maxHeartbeats 4000000
set_option autoImplicit false
namespace K12
open PySem PySem.Spec PyProof.Rows L2 Sd
section
variable {P : Program} {w : World} {K : PySem.W.Frag} {mg : Str → Option Value} {base : Heap}
theorem ok_is_within (T : Txt K mg) {f : Addr} {fd : FuncData} (F : FnP K "is_within" s_is_within f fd) (c_is_integer : Cl P w K mg base 1 "is_integer" sp_is_integer [])  : FnOk P w K mg base (L2.CX P w) 2 f fd ["thing", "least", "most"] (spD K sp_is_within) := by
  have sc := sc_is_within
  refine fnD F sc (fun F ds O h => by
    obtain ⟨_, _, _, e, _⟩ := h
    rw [e] <;> rfl) (fun cdv A outer s G E ds O hr h hE => ⟨_, (pssd_one (psd_ret (pd_and (pd_call c_is_integer hr (by first | decide | omega) (pad_cons (pd_name (pv 0)) pad_nil)) (pd_one (pd_lele (pd_name (pv 1)) (pd_name (pv 0)) (pd_name (pv 2))))))), ?_⟩)
  obtain ⟨d, lo, hi, rfl, h⟩ := h
  obtain ⟨hd, o⟩ := h
  simp [startD, wipeD, dsRet, dsRetN, dsIf, dsSeq, dsNext, dsAsg, dsDrop, dsBreak, dsCont, dsPar, dsAug, dsFrz, dsApp, dsExt, dsPut, dsAugO, dsOwn, dsParOO, dsParDO, dsParDDO, dsFrzA, dxRep, diOwn, dsRaise, deAnd, deOr, deNot, de1, de2, deB, deX, dxB, dxLst, deName, deC, deCall, deIxO, deLenO, deTup, deLst, daCons, daNil, daStar, deChain, dtChain, dtV, dtAnd, dtOr, dtNot, dtYes, deIf, deSl, doNone, doSome, rdAdd, rdSub, rdMul, rdMod, rdDiv, rdPow, rdI, rdIc, rdB, rdLt, rdLe, rdGt, rdGe, rdNeg, rdIs, rdEq, rdNe, rdIx, rdIsN, rdNotN, rdIsB, rdNotB, rdRev, rdSeats, rdCatL, rdCatT, rdRepL, rdLen, rdTuple, rdList, rxList, rdInt, rdMax2, rdMin2, dgName, dgTup, dgCons, dgNil, deRefused, rdRepr, rdNeS, rdEqL, rdNeL, rdRepT, rdIsLn, noOwn, diSeq, diEn, diZp, diR1, diR2, noX,  eqOk_int, eqOk_bl, eqOk_non, eqv_int, eqv_bl, eqv_non, atI_0, atI_1, atI_2, atI_3, qty_non, qisI_non, qisB_non, qisL_non, qisU_non, qisS_non, qisD_non, qisNon_non, qcooked_non, qseq_non, qty_bl, qisI_bl, qisB_bl, qisL_bl, qisU_bl, qisS_bl, qisD_bl, qisNon_bl, qcooked_bl, qseq_bl, qty_int, qisI_int, qisB_int, qisL_int, qisU_int, qisS_int, qisD_int, qisNon_int, qcooked_int, qseq_int, qty_str, qisI_str, qisB_str, qisL_str, qisU_str, qisS_str, qisD_str, qisNon_str, qcooked_str, qseq_str, qty_lst, qisI_lst, qisB_lst, qisL_lst, qisU_lst, qisS_lst, qisD_lst, qisNon_lst, qcooked_lst, qseq_lst, qty_tup, qisI_tup, qisB_tup, qisL_tup, qisU_tup, qisS_tup, qisD_tup, qisNon_tup, qcooked_tup, qseq_tup, qty_dct, qisI_dct, qisB_dct, qisL_dct, qisU_dct, qisS_dct, qisD_dct, qisNon_dct, qcooked_dct, qseq_dct, qix_lst, qsl_lst, qix_tup, qsl_tup, qisNon_ln, qcooked_ln, and_assoc, exists_and_left, exists_eq_left, exists_eq_left', exists_eq_right, deFget, dsFset, dsFsetO, deFix, dsFaug, dmCall, dmIx, dsDropM, dsAsgM, dmsSeq, dmsRet, dmsNil, dmsIf, dmsFrz, startM, dnMake, deNfld, deNmeth, dxLend, deLend, dnsSeq, dnsRet, putM1, putM2, putM3, putM4, mkSt, lkM_seats, lkM_requests, lkM_sale, lkM_roads, lkM_lay, lkM_len, lkM_bet, lkM_pri, putM_roads, lenM, rdInI, rdEqS, sp_is_integer, hd]
  cases d <;> simp_all [dInt, isWithin]
  split <;> simp_all
end
end K12
end
-- F_12_is_row
section
set_option Elab.async false
set_option linter.all false
set_option maxRecDepth 100000
set_option maxHeartbeats 4000000
set_option autoImplicit false
namespace K12
open PySem PySem.Spec PyProof.Rows L2 Sd
section
variable {P : Program} {w : World} {K : PySem.W.Frag} {mg : Str → Option Value} {base : Heap}
theorem ok_is_row (T : Txt K mg) {f : Addr} {fd : FuncData} (F : FnP K "is_row" s_is_row f fd)   : FnOk P w K mg base (L2.CX P w) 1 f fd ["thing"] (spD K sp_is_row) := by
  have sc := sc_is_row
  refine fnD F sc (fun F ds O h => by
    obtain ⟨_, e, _⟩ := h
    rw [e] <;> rfl) (fun cdv A outer s G E ds O hr h hE => ⟨_, (pssd_one (psd_ret (pd_is2 kit_list kit_tuple T.b_isinstance T.b_list T.b_tuple (by decide +kernel) (by decide +kernel) (pd_name (pv 0))))), ?_⟩)
  obtain ⟨d, rfl, h⟩ := h
  simp [startD, wipeD, dsRet, dsRetN, dsIf, dsSeq, dsNext, dsAsg, dsDrop, dsBreak, dsCont, dsPar, dsAug, dsFrz, dsApp, dsExt, dsPut, dsAugO, dsOwn, dsParOO, dsParDO, dsParDDO, dsFrzA, dxRep, diOwn, dsRaise, deAnd, deOr, deNot, de1, de2, deB, deX, dxB, dxLst, deName, deC, deCall, deIxO, deLenO, deTup, deLst, daCons, daNil, daStar, deChain, dtChain, dtV, dtAnd, dtOr, dtNot, dtYes, deIf, deSl, doNone, doSome, rdAdd, rdSub, rdMul, rdMod, rdDiv, rdPow, rdI, rdIc, rdB, rdLt, rdLe, rdGt, rdGe, rdNeg, rdIs, rdEq, rdNe, rdIx, rdIsN, rdNotN, rdIsB, rdNotB, rdRev, rdSeats, rdCatL, rdCatT, rdRepL, rdLen, rdTuple, rdList, rxList, rdInt, rdMax2, rdMin2, dgName, dgTup, dgCons, dgNil, deRefused, rdRepr, rdNeS, rdEqL, rdNeL, rdRepT, rdIsLn, noOwn, diSeq, diEn, diZp, diR1, diR2, noX,  eqOk_int, eqOk_bl, eqOk_non, eqv_int, eqv_bl, eqv_non, atI_0, atI_1, atI_2, atI_3, qty_non, qisI_non, qisB_non, qisL_non, qisU_non, qisS_non, qisD_non, qisNon_non, qcooked_non, qseq_non, qty_bl, qisI_bl, qisB_bl, qisL_bl, qisU_bl, qisS_bl, qisD_bl, qisNon_bl, qcooked_bl, qseq_bl, qty_int, qisI_int, qisB_int, qisL_int, qisU_int, qisS_int, qisD_int, qisNon_int, qcooked_int, qseq_int, qty_str, qisI_str, qisB_str, qisL_str, qisU_str, qisS_str, qisD_str, qisNon_str, qcooked_str, qseq_str, qty_lst, qisI_lst, qisB_lst, qisL_lst, qisU_lst, qisS_lst, qisD_lst, qisNon_lst, qcooked_lst, qseq_lst, qty_tup, qisI_tup, qisB_tup, qisL_tup, qisU_tup, qisS_tup, qisD_tup, qisNon_tup, qcooked_tup, qseq_tup, qty_dct, qisI_dct, qisB_dct, qisL_dct, qisU_dct, qisS_dct, qisD_dct, qisNon_dct, qcooked_dct, qseq_dct, qix_lst, qsl_lst, qix_tup, qsl_tup, qisNon_ln, qcooked_ln, and_assoc, exists_and_left, exists_eq_left, exists_eq_left', exists_eq_right, deFget, dsFset, dsFsetO, deFix, dsFaug, dmCall, dmIx, dsDropM, dsAsgM, dmsSeq, dmsRet, dmsNil, dmsIf, dmsFrz, startM, dnMake, deNfld, deNmeth, dxLend, deLend, dnsSeq, dnsRet, putM1, putM2, putM3, putM4, mkSt, lkM_seats, lkM_requests, lkM_sale, lkM_roads, lkM_lay, lkM_len, lkM_bet, lkM_pri, putM_roads, lenM, rdInI, rdEqS, h.1]
  simpa using h.2
end
end K12
end
-- F_12_is_tuple_of
section
set_option Elab.async false
set_option linter.all false
set_option maxRecDepth 100000
set_option maxHeartbeats 4000000
set_option autoImplicit false
namespace K12
open PySem PySem.Spec PyProof.Rows L2 Sd
section
variable {P : Program} {w : World} {K : PySem.W.Frag} {mg : Str → Option Value} {base : Heap}
theorem ok_is_tuple_of (T : Txt K mg) {f : Addr} {fd : FuncData} (F : FnP K "is_tuple_of" s_is_tuple_of f fd)   : FnOk P w K mg base (L2.CX P w) 1 f fd ["thing", "many"] (spD K sp_is_tuple_of) := by
  have sc := sc_is_tuple_of
  refine fnD F sc (fun F ds O h => by
    obtain ⟨_, _, e, _⟩ := h
    rw [e] <;> rfl) (fun cdv A outer s G E ds O hr h hE => ⟨_, (pssd_one (psd_ret (pd_and (pd_is kit_tuple T.b_isinstance T.b_tuple (by decide +kernel) (pd_name (pv 0))) (pd_one (pd_eq hr.units (pd_callB call_len_seq snd_len T.b_len (pad_cons (pd_name (pv 0)) pad_nil)) (pd_name (pv 1))))))), ?_⟩)
  obtain ⟨d, n, rfl, h⟩ := h
  obtain ⟨hd, o⟩ := h
  simp [startD, wipeD, dsRet, dsRetN, dsIf, dsSeq, dsNext, dsAsg, dsDrop, dsBreak, dsCont, dsPar, dsAug, dsFrz, dsApp, dsExt, dsPut, dsAugO, dsOwn, dsParOO, dsParDO, dsParDDO, dsFrzA, dxRep, diOwn, dsRaise, deAnd, deOr, deNot, de1, de2, deB, deX, dxB, dxLst, deName, deC, deCall, deIxO, deLenO, deTup, deLst, daCons, daNil, daStar, deChain, dtChain, dtV, dtAnd, dtOr, dtNot, dtYes, deIf, deSl, doNone, doSome, rdAdd, rdSub, rdMul, rdMod, rdDiv, rdPow, rdI, rdIc, rdB, rdLt, rdLe, rdGt, rdGe, rdNeg, rdIs, rdEq, rdNe, rdIx, rdIsN, rdNotN, rdIsB, rdNotB, rdRev, rdSeats, rdCatL, rdCatT, rdRepL, rdLen, rdTuple, rdList, rxList, rdInt, rdMax2, rdMin2, dgName, dgTup, dgCons, dgNil, deRefused, rdRepr, rdNeS, rdEqL, rdNeL, rdRepT, rdIsLn, noOwn, diSeq, diEn, diZp, diR1, diR2, noX,  eqOk_int, eqOk_bl, eqOk_non, eqv_int, eqv_bl, eqv_non, atI_0, atI_1, atI_2, atI_3, qty_non, qisI_non, qisB_non, qisL_non, qisU_non, qisS_non, qisD_non, qisNon_non, qcooked_non, qseq_non, qty_bl, qisI_bl, qisB_bl, qisL_bl, qisU_bl, qisS_bl, qisD_bl, qisNon_bl, qcooked_bl, qseq_bl, qty_int, qisI_int, qisB_int, qisL_int, qisU_int, qisS_int, qisD_int, qisNon_int, qcooked_int, qseq_int, qty_str, qisI_str, qisB_str, qisL_str, qisU_str, qisS_str, qisD_str, qisNon_str, qcooked_str, qseq_str, qty_lst, qisI_lst, qisB_lst, qisL_lst, qisU_lst, qisS_lst, qisD_lst, qisNon_lst, qcooked_lst, qseq_lst, qty_tup, qisI_tup, qisB_tup, qisL_tup, qisU_tup, qisS_tup, qisD_tup, qisNon_tup, qcooked_tup, qseq_tup, qty_dct, qisI_dct, qisB_dct, qisL_dct, qisU_dct, qisS_dct, qisD_dct, qisNon_dct, qcooked_dct, qseq_dct, qix_lst, qsl_lst, qix_tup, qsl_tup, qisNon_ln, qcooked_ln, and_assoc, exists_and_left, exists_eq_left, exists_eq_left', exists_eq_right, deFget, dsFset, dsFsetO, deFix, dsFaug, dmCall, dmIx, dsDropM, dsAsgM, dmsSeq, dmsRet, dmsNil, dmsIf, dmsFrz, startM, dnMake, deNfld, deNmeth, dxLend, deLend, dnsSeq, dnsRet, putM1, putM2, putM3, putM4, mkSt, lkM_seats, lkM_requests, lkM_sale, lkM_roads, lkM_lay, lkM_len, lkM_bet, lkM_pri, putM_roads, lenM, rdInI, rdEqS, hd]
  cases d <;> simp_all [isTup, D.isU, D.seq, no_raw, no_ln, eqOk_int, eqv_int]
end
end K12
end
-- F_12_SeatError___init__
section
set_option Elab.async false
set_option linter.all false
set_option maxRecDepth 100000
set_option maxHeartbeats 4000000
set_option autoImplicit false
namespace K12
open PySem PySem.Spec PyProof.Rows L2 Sd
section
variable {P : Program} {w : World} {K : PySem.W.Frag} {mg : Str → Option Value} {base : Heap}
theorem ok_SeatError_init {f : Addr} {fd : FuncData} {dvs : List V} (F : FunD K "__init__" "SeatError.__init__" (defArgs s_SeatError___init__) (defBody s_SeatError___init__) (defScope s_SeatError___init__) dvs [] f fd) : FnOk P w K mg base (L2.CX P w) 1 f fd ["self", "value"] (spErr K) := by
  have sc := sc_SeatError___init__
  refine F.ok sc (fun vs H Q E ⟨_, _, _, e, _⟩ => by rw [e] <;> rfl) fun cdv A outer s H vs Q E hr ⟨a, C, v, e, hO, hn, ha, q⟩ => ⟨_, pss_one (ps_ost (pv 0) (pv 1)), ?_⟩
  subst e
  refine ⟨v, rfl, .ref a, rfl, a, C, rfl, hO, hn, ?_⟩
  exact .inl ⟨ha, q⟩

end
end K12
end
-- F_12_is_request
section
set_option Elab.async false
set_option linter.all false
set_option maxRecDepth 100000
set_option maxHeartbeats 4000000
set_option autoImplicit false
namespace K12
open PySem PySem.Spec PyProof.Rows L2 Sd
section
variable {P : Program} {w : World} {K : PySem.W.Frag} {mg : Str → Option Value} {base : Heap}
theorem ok_is_request (T : Txt K mg) {f : Addr} {fd : FuncData} (F : FnP K "is_request" s_is_request f fd) (c_is_tuple_of : Cl P w K mg base 1 "is_tuple_of" sp_is_tuple_of []) (c_is_within : Cl P w K mg base 2 "is_within" sp_is_within [])  : FnOk P w K mg base (L2.CX P w) 3 f fd ["line", "thing"] (spD K sp_is_request) := by
  have sc := sc_is_request
  refine fnD F sc (fun F ds O h => by
    obtain ⟨_, _, e, _⟩ := h
    rw [e] <;> rfl) (fun cdv A outer s G E ds O hr h hE => ⟨_, (pssd_cons (psd_if (ptd_w (pwd_or (ptd_not (ptd_val (pd_call c_is_tuple_of hr (by first | decide | omega) (pad_cons (pd_name (pv 1)) (pad_cons pd_int pad_nil))))) (pwd_or1 (ptd_not (ptd_val (pd_call c_is_within hr (by first | decide | omega) (pad_cons (pd_item (pd_name (pv 1)) pd_int) (pad_cons pd_int (pad_cons (pd_callB call_len_seq snd_len T.b_len (pad_cons (pd_seats T.clLine T.nSeats (pd_name (pv 0))) pad_nil)) pad_nil)))))))))
  (pssd_one (psd_ret pd_bl))
  pssd_nil)
  (pssd_cons (psd_if (ptd_not (ptd_val (pd_call c_is_within hr (by first | decide | omega) (pad_cons (pd_item (pd_name (pv 1)) pd_int) (pad_cons pd_int (pad_cons (pd_sub (pd_item (pd_name (pv 1)) pd_int) pd_int) pad_nil))))))
  (pssd_one (psd_ret pd_bl))
  pssd_nil)
  (pssd_one (psd_ret (pd_and (pd_call c_is_within hr (by first | decide | omega) (pad_cons (pd_item (pd_name (pv 1)) pd_int) (pad_cons pd_int (pad_cons (pd_gint T.c_MOST_FARE) pad_nil)))) (pd_one (pd_call c_is_within hr (by first | decide | omega) (pad_cons (pd_item (pd_name (pv 1)) pd_int) (pad_cons pd_int (pad_cons (pd_gint T.c_MOST_MANY) pad_nil)))))))))), ?_⟩)
  obtain ⟨seats, t, rfl, h⟩ := h
  obtain ⟨hv, o⟩ := h
  have ht := okv_ty hv
  simp [startD, wipeD, dsRet, dsRetN, dsIf, dsSeq, dsNext, dsAsg, dsDrop, dsBreak, dsCont, dsPar, dsAug, dsFrz, dsApp, dsExt, dsPut, dsAugO, dsOwn, dsParOO, dsParDO, dsParDDO, dsFrzA, dxRep, diOwn, dsRaise, deAnd, deOr, deNot, de1, de2, deB, deX, dxB, dxLst, deName, deC, deCall, deIxO, deLenO, deTup, deLst, daCons, daNil, daStar, deChain, dtChain, dtV, dtAnd, dtOr, dtNot, dtYes, deIf, deSl, doNone, doSome, rdAdd, rdSub, rdMul, rdMod, rdDiv, rdPow, rdI, rdIc, rdB, rdLt, rdLe, rdGt, rdGe, rdNeg, rdIs, rdEq, rdNe, rdIx, rdIsN, rdNotN, rdIsB, rdNotB, rdRev, rdSeats, rdCatL, rdCatT, rdRepL, rdLen, rdTuple, rdList, rxList, rdInt, rdMax2, rdMin2, dgName, dgTup, dgCons, dgNil, deRefused, rdRepr, rdNeS, rdEqL, rdNeL, rdRepT, rdIsLn, noOwn, diSeq, diEn, diZp, diR1, diR2, noX,  eqOk_int, eqOk_bl, eqOk_non, eqv_int, eqv_bl, eqv_non, atI_0, atI_1, atI_2, atI_3, qty_non, qisI_non, qisB_non, qisL_non, qisU_non, qisS_non, qisD_non, qisNon_non, qcooked_non, qseq_non, qty_bl, qisI_bl, qisB_bl, qisL_bl, qisU_bl, qisS_bl, qisD_bl, qisNon_bl, qcooked_bl, qseq_bl, qty_int, qisI_int, qisB_int, qisL_int, qisU_int, qisS_int, qisD_int, qisNon_int, qcooked_int, qseq_int, qty_str, qisI_str, qisB_str, qisL_str, qisU_str, qisS_str, qisD_str, qisNon_str, qcooked_str, qseq_str, qty_lst, qisI_lst, qisB_lst, qisL_lst, qisU_lst, qisS_lst, qisD_lst, qisNon_lst, qcooked_lst, qseq_lst, qty_tup, qisI_tup, qisB_tup, qisL_tup, qisU_tup, qisS_tup, qisD_tup, qisNon_tup, qcooked_tup, qseq_tup, qty_dct, qisI_dct, qisB_dct, qisL_dct, qisU_dct, qisS_dct, qisD_dct, qisNon_dct, qcooked_dct, qseq_dct, qix_lst, qsl_lst, qix_tup, qsl_tup, qisNon_ln, qcooked_ln, and_assoc, exists_and_left, exists_eq_left, exists_eq_left', exists_eq_right, deFget, dsFset, dsFsetO, deFix, dsFaug, dmCall, dmIx, dsDropM, dsAsgM, dmsSeq, dmsRet, dmsNil, dmsIf, dmsFrz, startM, dnMake, deNfld, deNmeth, dxLend, deLend, dnsSeq, dnsRet, putM1, putM2, putM3, putM4, mkSt, lkM_seats, lkM_requests, lkM_sale, lkM_roads, lkM_lay, lkM_len, lkM_bet, lkM_pri, putM_roads, lenM, rdInI, rdEqS, sp_is_tuple_of, sp_is_within, ht]
  cases hc : isTup t 4 with
  | false =>
    have e : isReq seats.length t = false := by
      cases t <;> first | rfl | skip
      rename_i xs
      simp [isTup] at hc
      unfold isReq
      split
      · rename_i h; cases h; simp at hc
      · rfl
    rw [e] at o
    simpa using o
  | true =>
    cases t <;> first | (cases hc; done) | skip
    rename_i xs
    simp [isTup] at hc
    match xs, hc with
    | [a, b, c, m], _ =>
      have oa : ∀ x ∈ [a, b, c, m], x.ty.isSome = true := fun x hx => okv_ty (okvA_mem (by simpa [D.okv] using hv) x hx)
      have o1 := oa a (by simp)
      have o2 := oa b (by simp)
      have o3 := oa c (by simp)
      have o4 := oa m (by simp)
      simp [startD, wipeD, dsRet, dsRetN, dsIf, dsSeq, dsNext, dsAsg, dsDrop, dsBreak, dsCont, dsPar, dsAug, dsFrz, dsApp, dsExt, dsPut, dsAugO, dsOwn, dsParOO, dsParDO, dsParDDO, dsFrzA, dxRep, diOwn, dsRaise, deAnd, deOr, deNot, de1, de2, deB, deX, dxB, dxLst, deName, deC, deCall, deIxO, deLenO, deTup, deLst, daCons, daNil, daStar, deChain, dtChain, dtV, dtAnd, dtOr, dtNot, dtYes, deIf, deSl, doNone, doSome, rdAdd, rdSub, rdMul, rdMod, rdDiv, rdPow, rdI, rdIc, rdB, rdLt, rdLe, rdGt, rdGe, rdNeg, rdIs, rdEq, rdNe, rdIx, rdIsN, rdNotN, rdIsB, rdNotB, rdRev, rdSeats, rdCatL, rdCatT, rdRepL, rdLen, rdTuple, rdList, rxList, rdInt, rdMax2, rdMin2, dgName, dgTup, dgCons, dgNil, deRefused, rdRepr, rdNeS, rdEqL, rdNeL, rdRepT, rdIsLn, noOwn, diSeq, diEn, diZp, diR1, diR2, noX,  eqOk_int, eqOk_bl, eqOk_non, eqv_int, eqv_bl, eqv_non, atI_0, atI_1, atI_2, atI_3, qty_non, qisI_non, qisB_non, qisL_non, qisU_non, qisS_non, qisD_non, qisNon_non, qcooked_non, qseq_non, qty_bl, qisI_bl, qisB_bl, qisL_bl, qisU_bl, qisS_bl, qisD_bl, qisNon_bl, qcooked_bl, qseq_bl, qty_int, qisI_int, qisB_int, qisL_int, qisU_int, qisS_int, qisD_int, qisNon_int, qcooked_int, qseq_int, qty_str, qisI_str, qisB_str, qisL_str, qisU_str, qisS_str, qisD_str, qisNon_str, qcooked_str, qseq_str, qty_lst, qisI_lst, qisB_lst, qisL_lst, qisU_lst, qisS_lst, qisD_lst, qisNon_lst, qcooked_lst, qseq_lst, qty_tup, qisI_tup, qisB_tup, qisL_tup, qisU_tup, qisS_tup, qisD_tup, qisNon_tup, qcooked_tup, qseq_tup, qty_dct, qisI_dct, qisB_dct, qisL_dct, qisU_dct, qisS_dct, qisD_dct, qisNon_dct, qcooked_dct, qseq_dct, qix_lst, qsl_lst, qix_tup, qsl_tup, qisNon_ln, qcooked_ln, and_assoc, exists_and_left, exists_eq_left, exists_eq_left', exists_eq_right, deFget, dsFset, dsFsetO, deFix, dsFaug, dmCall, dmIx, dsDropM, dsAsgM, dmsSeq, dmsRet, dmsNil, dmsIf, dmsFrz, startM, dnMake, deNfld, deNmeth, dxLend, deLend, dnsSeq, dnsRet, putM1, putM2, putM3, putM4, mkSt, lkM_seats, lkM_requests, lkM_sale, lkM_roads, lkM_lay, lkM_len, lkM_bet, lkM_pri, putM_roads, lenM, rdInI, rdEqS, sp_is_tuple_of, sp_is_within, o1, o2, o3, o4]
      cases hb : isWithin b 1 seats.length with
      | false =>
        have e : isReq seats.length (.tup [a, b, c, m]) = false := by
          cases b <;> first | rfl | skip
          simp [isReq, hb]
        rw [e] at o
        simpa [hb] using o
      | true =>
        obtain ⟨j, rfl, _, _⟩ := isWithin_int hb
        simp [hb]
        simp [isReq, hb] at o
        cases h1 : isWithin a 0 (j - 1) <;> simp [h1] at o ⊢
        · exact o
        · cases h2 : isWithin c 1 1000 <;> simp [h2] at o ⊢
          · exact o
          · exact o
end
end K12
end
-- F_12_check_requests
section
set_option Elab.async false
set_option linter.all false
set_option maxRecDepth 100000
set_option maxHeartbeats 4000000
set_option autoImplicit false
namespace K12
open PySem PySem.Spec PyProof.Rows L2 Sd
section
variable {P : Program} {w : World} {K : PySem.W.Frag} {mg : Str → Option Value} {base : Heap}
theorem ok_check_requests (T : Txt K mg) {f : Addr} {fd : FuncData} (F : FnP K "check_requests" s_check_requests f fd) (c_is_request : Cl P w K mg base 3 "is_request" sp_is_request []) (c_is_row : Cl P w K mg base 1 "is_row" sp_is_row []) (x_BadRequests : Er P w K mg base 1 "BadRequests") : FnOk P w K mg base (L2.CX P w) 4 f fd ["line", "requests"] (spD K sp_check_requests) := by
  have sc := sc_check_requests
  refine fnD F sc (fun F ds O h => by
    obtain ⟨_, _, e, _⟩ := h
    rw [e] <;> rfl) (fun cdv A outer s G E ds O hr h hE => ⟨_, (pssd_cons (psd_if (ptd_w (pwd_or (ptd_not (ptd_val (pd_call c_is_row hr (by first | decide | omega) (pad_cons (pd_name (pv 1)) pad_nil)))) (pwd_or1 (ptd_gt (pd_callB call_len_seq snd_len T.b_len (pad_cons (pd_name (pv 1)) pad_nil)) (pd_gint T.c_MOST_REQUESTS)))))
  (pssd_one (psd_raise x_BadRequests hr hE (takes_of rfl rfl rfl rfl) (pad_cons (pd_neg pd_int) pad_nil)))
  pssd_nil)
  (pssd_one (psd_for (passes_of rfl) (pid_en T.b_enumerate (pad_cons (pd_name (pv 1)) pad_nil)) (pgd_tup (n := 2) (pgsd_cons (pgd_name (i := 2) sc.nd rfl (Or.inl rfl)) (pgsd_cons (pgd_name (i := 3) sc.nd rfl (Or.inl rfl)) pgsd_nil)))
  (pssd_one (psd_if (ptd_not (ptd_val (pd_call c_is_request hr (by first | decide | omega) (pad_cons (pd_name (pv 0)) (pad_cons (pd_name (pv 3)) pad_nil)))))
  (pssd_one (psd_raise x_BadRequests hr hE (takes_of rfl rfl rfl rfl) (pad_cons (pd_name (pv 2)) pad_nil)))
  pssd_nil))))), ?_⟩)
  obtain ⟨seats, t, rfl, h⟩ := h
  obtain ⟨hv, o1, o2⟩ := h
  have ht := okv_ty hv
  simp [startD, wipeD, dsRet, dsRetN, dsIf, dsSeq, dsNext, dsAsg, dsDrop, dsBreak, dsCont, dsPar, dsAug, dsFrz, dsApp, dsExt, dsPut, dsAugO, dsOwn, dsParOO, dsParDO, dsParDDO, dsFrzA, dxRep, diOwn, dsRaise, deAnd, deOr, deNot, de1, de2, deB, deX, dxB, dxLst, deName, deC, deCall, deIxO, deLenO, deTup, deLst, daCons, daNil, daStar, deChain, dtChain, dtV, dtAnd, dtOr, dtNot, dtYes, deIf, deSl, doNone, doSome, rdAdd, rdSub, rdMul, rdMod, rdDiv, rdPow, rdI, rdIc, rdB, rdLt, rdLe, rdGt, rdGe, rdNeg, rdIs, rdEq, rdNe, rdIx, rdIsN, rdNotN, rdIsB, rdNotB, rdRev, rdSeats, rdCatL, rdCatT, rdRepL, rdLen, rdTuple, rdList, rxList, rdInt, rdMax2, rdMin2, dgName, dgTup, dgCons, dgNil, deRefused, rdRepr, rdNeS, rdEqL, rdNeL, rdRepT, rdIsLn, noOwn, diSeq, diEn, diZp, diR1, diR2, noX,  eqOk_int, eqOk_bl, eqOk_non, eqv_int, eqv_bl, eqv_non, atI_0, atI_1, atI_2, atI_3, qty_non, qisI_non, qisB_non, qisL_non, qisU_non, qisS_non, qisD_non, qisNon_non, qcooked_non, qseq_non, qty_bl, qisI_bl, qisB_bl, qisL_bl, qisU_bl, qisS_bl, qisD_bl, qisNon_bl, qcooked_bl, qseq_bl, qty_int, qisI_int, qisB_int, qisL_int, qisU_int, qisS_int, qisD_int, qisNon_int, qcooked_int, qseq_int, qty_str, qisI_str, qisB_str, qisL_str, qisU_str, qisS_str, qisD_str, qisNon_str, qcooked_str, qseq_str, qty_lst, qisI_lst, qisB_lst, qisL_lst, qisU_lst, qisS_lst, qisD_lst, qisNon_lst, qcooked_lst, qseq_lst, qty_tup, qisI_tup, qisB_tup, qisL_tup, qisU_tup, qisS_tup, qisD_tup, qisNon_tup, qcooked_tup, qseq_tup, qty_dct, qisI_dct, qisB_dct, qisL_dct, qisU_dct, qisS_dct, qisD_dct, qisNon_dct, qcooked_dct, qseq_dct, qix_lst, qsl_lst, qix_tup, qsl_tup, qisNon_ln, qcooked_ln, and_assoc, exists_and_left, exists_eq_left, exists_eq_left', exists_eq_right, deFget, dsFset, dsFsetO, deFix, dsFaug, dmCall, dmIx, dsDropM, dsAsgM, dmsSeq, dmsRet, dmsNil, dmsIf, dmsFrz, startM, dnMake, deNfld, deNmeth, dxLend, deLend, dnsSeq, dnsRet, putM1, putM2, putM3, putM4, mkSt, lkM_seats, lkM_requests, lkM_sale, lkM_roads, lkM_lay, lkM_len, lkM_bet, lkM_pri, putM_roads, lenM, rdInI, rdEqS, sp_is_request, sp_is_row, ht]
  cases hs : t.seq with
  | none =>
    have e : (t.isL || t.isU) = false := by rw [← seq_isSome, hs]; rfl
    have eb : badReqs seats.length t = some (-1) := by unfold badReqs; rw [hs]
    simp only [Bool.or_eq_false_iff] at e
    simpa [e.1, e.2] using o1 _ eb
  | some xs =>
    have e : (t.isL || t.isU) = true := by rw [← seq_isSome, hs]; rfl
    have hx := okv_seq hv hs
    by_cases hl : 12 < xs.length
    · have eb : badReqs seats.length t = some (-1) := by unfold badReqs; rw [hs]; exact if_pos hl
      have hl' : (12 : Int) < xs.length := by omega
      cases h1 : t.isL <;> cases h2 : t.isU <;> simp [h1, h2] at e ⊢ <;> simpa [hs, hl', hl] using o1 _ eb
    · have hl' : ¬ (12 : Int) < xs.length := by omega
      have key : dsFor (diEn (daCons (deName 1) daNil)) (dgTup 2 (dgCons (dgName 2) (dgCons (dgName 3) dgNil))) (dsIf (dtNot (dtV (deCall sp_is_request G.F noX [] (daCons (deName 0) (daCons (deName 3) daNil))))) (dsRaise "BadRequests" (fun n d => O (.exc n d)) (daCons (deName 2) daNil)) dsNext)
          { nx := fun _ => O (.ret .non), rt := fun d => O (.ret d) } [.dat (.ln seats), .dat t, .un, .un] := by
        refine for_of (enumD 0 xs) (fun i δ' => (xs.take i).all (isReq seats.length) = true ∧ ∃ a b, δ' = [.dat (.ln seats), .dat t, a, b]) (fun P p => ?_) ⟨by simp, _, _, rfl⟩ (fun i x δ' hi hj => ?_) (fun δ' hj => ?_)
        · simp [startD, wipeD, dsRet, dsRetN, dsIf, dsSeq, dsNext, dsAsg, dsDrop, dsBreak, dsCont, dsPar, dsAug, dsFrz, dsApp, dsExt, dsPut, dsAugO, dsOwn, dsParOO, dsParDO, dsParDDO, dsFrzA, dxRep, diOwn, dsRaise, deAnd, deOr, deNot, de1, de2, deB, deX, dxB, dxLst, deName, deC, deCall, deIxO, deLenO, deTup, deLst, daCons, daNil, daStar, deChain, dtChain, dtV, dtAnd, dtOr, dtNot, dtYes, deIf, deSl, doNone, doSome, rdAdd, rdSub, rdMul, rdMod, rdDiv, rdPow, rdI, rdIc, rdB, rdLt, rdLe, rdGt, rdGe, rdNeg, rdIs, rdEq, rdNe, rdIx, rdIsN, rdNotN, rdIsB, rdNotB, rdRev, rdSeats, rdCatL, rdCatT, rdRepL, rdLen, rdTuple, rdList, rxList, rdInt, rdMax2, rdMin2, dgName, dgTup, dgCons, dgNil, deRefused, rdRepr, rdNeS, rdEqL, rdNeL, rdRepT, rdIsLn, noOwn, diSeq, diEn, diZp, diR1, diR2, noX,  eqOk_int, eqOk_bl, eqOk_non, eqv_int, eqv_bl, eqv_non, atI_0, atI_1, atI_2, atI_3, qty_non, qisI_non, qisB_non, qisL_non, qisU_non, qisS_non, qisD_non, qisNon_non, qcooked_non, qseq_non, qty_bl, qisI_bl, qisB_bl, qisL_bl, qisU_bl, qisS_bl, qisD_bl, qisNon_bl, qcooked_bl, qseq_bl, qty_int, qisI_int, qisB_int, qisL_int, qisU_int, qisS_int, qisD_int, qisNon_int, qcooked_int, qseq_int, qty_str, qisI_str, qisB_str, qisL_str, qisU_str, qisS_str, qisD_str, qisNon_str, qcooked_str, qseq_str, qty_lst, qisI_lst, qisB_lst, qisL_lst, qisU_lst, qisS_lst, qisD_lst, qisNon_lst, qcooked_lst, qseq_lst, qty_tup, qisI_tup, qisB_tup, qisL_tup, qisU_tup, qisS_tup, qisD_tup, qisNon_tup, qcooked_tup, qseq_tup, qty_dct, qisI_dct, qisB_dct, qisL_dct, qisU_dct, qisS_dct, qisD_dct, qisNon_dct, qcooked_dct, qseq_dct, qix_lst, qsl_lst, qix_tup, qsl_tup, qisNon_ln, qcooked_ln, and_assoc, exists_and_left, exists_eq_left, exists_eq_left', exists_eq_right, deFget, dsFset, dsFsetO, deFix, dsFaug, dmCall, dmIx, dsDropM, dsAsgM, dmsSeq, dmsRet, dmsNil, dmsIf, dmsFrz, startM, dnMake, deNfld, deNmeth, dxLend, deLend, dnsSeq, dnsRet, putM1, putM2, putM3, putM4, mkSt, lkM_seats, lkM_requests, lkM_sale, lkM_roads, lkM_lay, lkM_len, lkM_bet, lkM_pri, putM_roads, lenM, rdInI, rdEqS, sp_is_request, sp_is_row, hs]
          exact p
        · obtain ⟨ha, a, b, rfl⟩ := hj
          rw [enumD_at] at hi
          cases hxi : xs[i]? with
          | none => rw [hxi] at hi; cases hi
          | some y =>
            rw [hxi] at hi
            cases hi
            have oy := hx y (List.mem_of_getElem? hxi)
            simp [startD, wipeD, dsRet, dsRetN, dsIf, dsSeq, dsNext, dsAsg, dsDrop, dsBreak, dsCont, dsPar, dsAug, dsFrz, dsApp, dsExt, dsPut, dsAugO, dsOwn, dsParOO, dsParDO, dsParDDO, dsFrzA, dxRep, diOwn, dsRaise, deAnd, deOr, deNot, de1, de2, deB, deX, dxB, dxLst, deName, deC, deCall, deIxO, deLenO, deTup, deLst, daCons, daNil, daStar, deChain, dtChain, dtV, dtAnd, dtOr, dtNot, dtYes, deIf, deSl, doNone, doSome, rdAdd, rdSub, rdMul, rdMod, rdDiv, rdPow, rdI, rdIc, rdB, rdLt, rdLe, rdGt, rdGe, rdNeg, rdIs, rdEq, rdNe, rdIx, rdIsN, rdNotN, rdIsB, rdNotB, rdRev, rdSeats, rdCatL, rdCatT, rdRepL, rdLen, rdTuple, rdList, rxList, rdInt, rdMax2, rdMin2, dgName, dgTup, dgCons, dgNil, deRefused, rdRepr, rdNeS, rdEqL, rdNeL, rdRepT, rdIsLn, noOwn, diSeq, diEn, diZp, diR1, diR2, noX,  eqOk_int, eqOk_bl, eqOk_non, eqv_int, eqv_bl, eqv_non, atI_0, atI_1, atI_2, atI_3, qty_non, qisI_non, qisB_non, qisL_non, qisU_non, qisS_non, qisD_non, qisNon_non, qcooked_non, qseq_non, qty_bl, qisI_bl, qisB_bl, qisL_bl, qisU_bl, qisS_bl, qisD_bl, qisNon_bl, qcooked_bl, qseq_bl, qty_int, qisI_int, qisB_int, qisL_int, qisU_int, qisS_int, qisD_int, qisNon_int, qcooked_int, qseq_int, qty_str, qisI_str, qisB_str, qisL_str, qisU_str, qisS_str, qisD_str, qisNon_str, qcooked_str, qseq_str, qty_lst, qisI_lst, qisB_lst, qisL_lst, qisU_lst, qisS_lst, qisD_lst, qisNon_lst, qcooked_lst, qseq_lst, qty_tup, qisI_tup, qisB_tup, qisL_tup, qisU_tup, qisS_tup, qisD_tup, qisNon_tup, qcooked_tup, qseq_tup, qty_dct, qisI_dct, qisB_dct, qisL_dct, qisU_dct, qisS_dct, qisD_dct, qisNon_dct, qcooked_dct, qseq_dct, qix_lst, qsl_lst, qix_tup, qsl_tup, qisNon_ln, qcooked_ln, and_assoc, exists_and_left, exists_eq_left, exists_eq_left', exists_eq_right, deFget, dsFset, dsFsetO, deFix, dsFaug, dmCall, dmIx, dsDropM, dsAsgM, dmsSeq, dmsRet, dmsNil, dmsIf, dmsFrz, startM, dnMake, deNfld, deNmeth, dxLend, deLend, dnsSeq, dnsRet, putM1, putM2, putM3, putM4, mkSt, lkM_seats, lkM_requests, lkM_sale, lkM_roads, lkM_lay, lkM_len, lkM_bet, lkM_pri, putM_roads, lenM, rdInI, rdEqS, sp_is_request, sp_is_row, oy]
            cases hr : isReq seats.length y with
            | true => simpa [hr] using all_take ha hxi hr
            | false =>
              have eb : badReqs seats.length t = some (i : Int) := by
                unfold badReqs
                rw [hs]
                show (if 12 < xs.length then some (-1) else Option.map Int.ofNat (xs.findIdx? fun x => !isReq seats.length x)) = _
                rw [if_neg hl, findIdx_at ha hxi hr]
                rfl
              simpa [hr] using o1 _ eb
        · obtain ⟨ha, _⟩ := hj
          rw [enumD_length, List.take_length] at ha
          refine o2 ?_
          unfold badReqs
          rw [hs]
          show (if 12 < xs.length then some (-1) else Option.map Int.ofNat (xs.findIdx? fun x => !isReq seats.length x)) = _
          rw [if_neg hl, findIdx_none ha]
          rfl
      cases h1 : t.isL <;> cases h2 : t.isU <;> simp [h1, h2] at e ⊢ <;> simp [hs, hl', hl] <;> exact key
end
end K12
end
-- F_12_told_loads
section
set_option Elab.async false
set_option linter.all false
set_option maxRecDepth 100000
set_option maxHeartbeats 4000000
set_option autoImplicit false
namespace K12
open PySem PySem.Spec PyProof.Rows L2 Sd
section
variable {P : Program} {w : World} {K : PySem.W.Frag} {mg : Str → Option Value} {base : Heap}
theorem ok_told_loads_N (T : Txt K mg) {f : Addr} {fd : FuncData} (F : FnP K "told_loads" s_told_loads f fd) : FnOk P w K mg base (L2.CX P w) 1 f fd ["seats", "requests", "sale"] (spN K sp_told_loadsN) := by
  have sc := sc_told_loads
  refine fnN F sc (fun ds O h => by
    obtain ⟨_, _, _, _, _, _, e, _⟩ := h
    rw [e] <;> rfl) (fun cdv A outer s G E ds O hr h => ⟨_, (pns_cons (psd_ownLc (i := 3) sc.nd rfl rfl (sw_true rfl rfl rfl (by kernel_rfl)) (own := [(("_" : Str), 6)]) (pid_seq (pd_name (pv 0))) (by kernel_rfl) (fun _ _ _ _ _ => (pgc_name (i := 6) sc.nd rfl (by first | exact Or.inl rfl | exact Or.inr rfl) (by decide))) (fun _ _ _ _ _ => ptsd_nil) (fun _ _ _ _ _ => pd_int))
  (pns_cons (psd_for (passes_of rfl) (pid_zp T.b_zip (pad_cons (pd_name (pv 1)) (pad_cons (pd_name (pv 2)) pad_nil))) (pgd_tup (n := 2) (pgsd_cons (pgd_tup (n := 4) (pgsd_cons (pgd_name (i := 4) sc.nd rfl (Or.inl rfl)) (pgsd_cons (pgd_name (i := 5) sc.nd rfl (Or.inl rfl)) (pgsd_cons (pgd_name (i := 6) sc.nd rfl (Or.inl rfl)) (pgsd_cons (pgd_name (i := 6) sc.nd rfl (Or.inl rfl)) pgsd_nil))))) (pgsd_cons (pgd_name (i := 7) sc.nd rfl (Or.inl rfl)) pgsd_nil)))
  (pssd_one (psd_for (passes_of rfl) (pid_r2 T.b_range (pad_cons (pd_name (pv 4)) (pad_cons (pd_name (pv 5)) pad_nil))) (pgd_name (i := 8) sc.nd rfl (Or.inl rfl))
  (pssd_one (psd_augO (i := 3) (pv 3) (pd_name (pv 8)) ip_add (pd_name (pv 7)))))))
  (pns_ret (i := 3) (pv 3)))), ?_⟩)
  obtain ⟨d1, d2, d3, sd, rs, ms, rfl, h⟩ := h
  obtain ⟨h1, hn, h2, h3, hr, hl, hm, o⟩ := h
  have hrl : (rs.zip ms).length = rs.length := by rw [List.length_zip, ← hm, Nat.min_self]
  simp [startD, wipeD, dsRet, dsRetN, dsIf, dsSeq, dsNext, dsAsg, dsDrop, dsBreak, dsCont, dsPar, dsAug, dsFrz, dsApp, dsExt, dsPut, dsAugO, dsOwn, dsParOO, dsParDO, dsParDDO, dsFrzA, dxRep, diOwn, dsRaise, deAnd, deOr, deNot, de1, de2, deB, deX, dxB, dxLst, deName, deC, deCall, deIxO, deLenO, deTup, deLst, daCons, daNil, daStar, deChain, dtChain, dtV, dtAnd, dtOr, dtNot, dtYes, deIf, deSl, doNone, doSome, rdAdd, rdSub, rdMul, rdMod, rdDiv, rdPow, rdI, rdIc, rdB, rdLt, rdLe, rdGt, rdGe, rdNeg, rdIs, rdEq, rdNe, rdIx, rdIsN, rdNotN, rdIsB, rdNotB, rdRev, rdSeats, rdCatL, rdCatT, rdRepL, rdLen, rdTuple, rdList, rxList, rdInt, rdMax2, rdMin2, dgName, dgTup, dgCons, dgNil, deRefused, rdRepr, rdNeS, rdEqL, rdNeL, rdRepT, rdIsLn, noOwn, diSeq, diEn, diZp, diR1, diR2, noX,  eqOk_int, eqOk_bl, eqOk_non, eqv_int, eqv_bl, eqv_non, atI_0, atI_1, atI_2, atI_3, qty_non, qisI_non, qisB_non, qisL_non, qisU_non, qisS_non, qisD_non, qisNon_non, qcooked_non, qseq_non, qty_bl, qisI_bl, qisB_bl, qisL_bl, qisU_bl, qisS_bl, qisD_bl, qisNon_bl, qcooked_bl, qseq_bl, qty_int, qisI_int, qisB_int, qisL_int, qisU_int, qisS_int, qisD_int, qisNon_int, qcooked_int, qseq_int, qty_str, qisI_str, qisB_str, qisL_str, qisU_str, qisS_str, qisD_str, qisNon_str, qcooked_str, qseq_str, qty_lst, qisI_lst, qisB_lst, qisL_lst, qisU_lst, qisS_lst, qisD_lst, qisNon_lst, qcooked_lst, qseq_lst, qty_tup, qisI_tup, qisB_tup, qisL_tup, qisU_tup, qisS_tup, qisD_tup, qisNon_tup, qcooked_tup, qseq_tup, qty_dct, qisI_dct, qisB_dct, qisL_dct, qisU_dct, qisS_dct, qisD_dct, qisNon_dct, qcooked_dct, qseq_dct, qix_lst, qsl_lst, qix_tup, qsl_tup, qisNon_ln, qcooked_ln, and_assoc, exists_and_left, exists_eq_left, exists_eq_left', exists_eq_right, deFget, dsFset, dsFsetO, deFix, dsFaug, dmCall, dmIx, dsDropM, dsAsgM, dmsSeq, dmsRet, dmsNil, dmsIf, dmsFrz, startM, dnMake, deNfld, deNmeth, dxLend, deLend, dnsSeq, dnsRet, putM1, putM2, putM3, putM4, mkSt, lkM_seats, lkM_requests, lkM_sale, lkM_roads, lkM_lay, lkM_len, lkM_bet, lkM_pri, putM_roads, lenM, rdInI, rdEqS, h1, h2, h3]
  refine lc_on sd id (fun _ => .int 0) (fun P p => ?_) (by omega) (fun x hx R hR => ?_) ?_
  · simp [startD, wipeD, dsRet, dsRetN, dsIf, dsSeq, dsNext, dsAsg, dsDrop, dsBreak, dsCont, dsPar, dsAug, dsFrz, dsApp, dsExt, dsPut, dsAugO, dsOwn, dsParOO, dsParDO, dsParDDO, dsFrzA, dxRep, diOwn, dsRaise, deAnd, deOr, deNot, de1, de2, deB, deX, dxB, dxLst, deName, deC, deCall, deIxO, deLenO, deTup, deLst, daCons, daNil, daStar, deChain, dtChain, dtV, dtAnd, dtOr, dtNot, dtYes, deIf, deSl, doNone, doSome, rdAdd, rdSub, rdMul, rdMod, rdDiv, rdPow, rdI, rdIc, rdB, rdLt, rdLe, rdGt, rdGe, rdNeg, rdIs, rdEq, rdNe, rdIx, rdIsN, rdNotN, rdIsB, rdNotB, rdRev, rdSeats, rdCatL, rdCatT, rdRepL, rdLen, rdTuple, rdList, rxList, rdInt, rdMax2, rdMin2, dgName, dgTup, dgCons, dgNil, deRefused, rdRepr, rdNeS, rdEqL, rdNeL, rdRepT, rdIsLn, noOwn, diSeq, diEn, diZp, diR1, diR2, noX,  eqOk_int, eqOk_bl, eqOk_non, eqv_int, eqv_bl, eqv_non, atI_0, atI_1, atI_2, atI_3, qty_non, qisI_non, qisB_non, qisL_non, qisU_non, qisS_non, qisD_non, qisNon_non, qcooked_non, qseq_non, qty_bl, qisI_bl, qisB_bl, qisL_bl, qisU_bl, qisS_bl, qisD_bl, qisNon_bl, qcooked_bl, qseq_bl, qty_int, qisI_int, qisB_int, qisL_int, qisU_int, qisS_int, qisD_int, qisNon_int, qcooked_int, qseq_int, qty_str, qisI_str, qisB_str, qisL_str, qisU_str, qisS_str, qisD_str, qisNon_str, qcooked_str, qseq_str, qty_lst, qisI_lst, qisB_lst, qisL_lst, qisU_lst, qisS_lst, qisD_lst, qisNon_lst, qcooked_lst, qseq_lst, qty_tup, qisI_tup, qisB_tup, qisL_tup, qisU_tup, qisS_tup, qisD_tup, qisNon_tup, qcooked_tup, qseq_tup, qty_dct, qisI_dct, qisB_dct, qisL_dct, qisU_dct, qisS_dct, qisD_dct, qisNon_dct, qcooked_dct, qseq_dct, qix_lst, qsl_lst, qix_tup, qsl_tup, qisNon_ln, qcooked_ln, and_assoc, exists_and_left, exists_eq_left, exists_eq_left', exists_eq_right, deFget, dsFset, dsFsetO, deFix, dsFaug, dmCall, dmIx, dsDropM, dsAsgM, dmsSeq, dmsRet, dmsNil, dmsIf, dmsFrz, startM, dnMake, deNfld, deNmeth, dxLend, deLend, dnsSeq, dnsRet, putM1, putM2, putM3, putM4, mkSt, lkM_seats, lkM_requests, lkM_sale, lkM_roads, lkM_lay, lkM_len, lkM_bet, lkM_pri, putM_roads, lenM, rdInI, rdEqS, h1]
    simpa using p
  · simp [startD, wipeD, dsRet, dsRetN, dsIf, dsSeq, dsNext, dsAsg, dsDrop, dsBreak, dsCont, dsPar, dsAug, dsFrz, dsApp, dsExt, dsPut, dsAugO, dsOwn, dsParOO, dsParDO, dsParDDO, dsFrzA, dxRep, diOwn, dsRaise, deAnd, deOr, deNot, de1, de2, deB, deX, dxB, dxLst, deName, deC, deCall, deIxO, deLenO, deTup, deLst, daCons, daNil, daStar, deChain, dtChain, dtV, dtAnd, dtOr, dtNot, dtYes, deIf, deSl, doNone, doSome, rdAdd, rdSub, rdMul, rdMod, rdDiv, rdPow, rdI, rdIc, rdB, rdLt, rdLe, rdGt, rdGe, rdNeg, rdIs, rdEq, rdNe, rdIx, rdIsN, rdNotN, rdIsB, rdNotB, rdRev, rdSeats, rdCatL, rdCatT, rdRepL, rdLen, rdTuple, rdList, rxList, rdInt, rdMax2, rdMin2, dgName, dgTup, dgCons, dgNil, deRefused, rdRepr, rdNeS, rdEqL, rdNeL, rdRepT, rdIsLn, noOwn, diSeq, diEn, diZp, diR1, diR2, noX,  eqOk_int, eqOk_bl, eqOk_non, eqv_int, eqv_bl, eqv_non, atI_0, atI_1, atI_2, atI_3, qty_non, qisI_non, qisB_non, qisL_non, qisU_non, qisS_non, qisD_non, qisNon_non, qcooked_non, qseq_non, qty_bl, qisI_bl, qisB_bl, qisL_bl, qisU_bl, qisS_bl, qisD_bl, qisNon_bl, qcooked_bl, qseq_bl, qty_int, qisI_int, qisB_int, qisL_int, qisU_int, qisS_int, qisD_int, qisNon_int, qcooked_int, qseq_int, qty_str, qisI_str, qisB_str, qisL_str, qisU_str, qisS_str, qisD_str, qisNon_str, qcooked_str, qseq_str, qty_lst, qisI_lst, qisB_lst, qisL_lst, qisU_lst, qisS_lst, qisD_lst, qisNon_lst, qcooked_lst, qseq_lst, qty_tup, qisI_tup, qisB_tup, qisL_tup, qisU_tup, qisS_tup, qisD_tup, qisNon_tup, qcooked_tup, qseq_tup, qty_dct, qisI_dct, qisB_dct, qisL_dct, qisU_dct, qisS_dct, qisD_dct, qisNon_dct, qcooked_dct, qseq_dct, qix_lst, qsl_lst, qix_tup, qsl_tup, qisNon_ln, qcooked_ln, and_assoc, exists_and_left, exists_eq_left, exists_eq_left', exists_eq_right, deFget, dsFset, dsFsetO, deFix, dsFaug, dmCall, dmIx, dsDropM, dsAsgM, dmsSeq, dmsRet, dmsNil, dmsIf, dmsFrz, startM, dnMake, deNfld, deNmeth, dxLend, deLend, dnsSeq, dnsRet, putM1, putM2, putM3, putM4, mkSt, lkM_seats, lkM_requests, lkM_sale, lkM_roads, lkM_lay, lkM_len, lkM_bet, lkM_pri, putM_roads, lenM, rdInI, rdEqS]
    exact hR
  have e0 : sd.map (fun _ => D.int 0) = tab sd.length (loadAt (rs.take 0) (ms.take 0)) := by
    apply List.ext_getElem?
    intro k
    by_cases hk : k < sd.length
    · rw [tab_at hk]
      simp [hk, loadAt]
    · rw [List.getElem?_eq_none (by simp; omega), List.getElem?_eq_none (by rw [tab_length]; omega)]
  rw [e0]
  refine for_on (rs.zip ms) (fun p => .tup [p.1.d, .int p.2]) (fun i δ' => ∃ a b c m l, δ' = [.dat d1, .dat d2, .dat d3, .own (tab sd.length (loadAt (rs.take i) (ms.take i))), a, b, c, m, l]) (fun P p => ?_) ⟨_, _, _, _, _, rfl⟩ (fun i x δ' hi hj => ?_) (fun δ' hj => ?_)
  · simp [startD, wipeD, dsRet, dsRetN, dsIf, dsSeq, dsNext, dsAsg, dsDrop, dsBreak, dsCont, dsPar, dsAug, dsFrz, dsApp, dsExt, dsPut, dsAugO, dsOwn, dsParOO, dsParDO, dsParDDO, dsFrzA, dxRep, diOwn, dsRaise, deAnd, deOr, deNot, de1, de2, deB, deX, dxB, dxLst, deName, deC, deCall, deIxO, deLenO, deTup, deLst, daCons, daNil, daStar, deChain, dtChain, dtV, dtAnd, dtOr, dtNot, dtYes, deIf, deSl, doNone, doSome, rdAdd, rdSub, rdMul, rdMod, rdDiv, rdPow, rdI, rdIc, rdB, rdLt, rdLe, rdGt, rdGe, rdNeg, rdIs, rdEq, rdNe, rdIx, rdIsN, rdNotN, rdIsB, rdNotB, rdRev, rdSeats, rdCatL, rdCatT, rdRepL, rdLen, rdTuple, rdList, rxList, rdInt, rdMax2, rdMin2, dgName, dgTup, dgCons, dgNil, deRefused, rdRepr, rdNeS, rdEqL, rdNeL, rdRepT, rdIsLn, noOwn, diSeq, diEn, diZp, diR1, diR2, noX,  eqOk_int, eqOk_bl, eqOk_non, eqv_int, eqv_bl, eqv_non, atI_0, atI_1, atI_2, atI_3, qty_non, qisI_non, qisB_non, qisL_non, qisU_non, qisS_non, qisD_non, qisNon_non, qcooked_non, qseq_non, qty_bl, qisI_bl, qisB_bl, qisL_bl, qisU_bl, qisS_bl, qisD_bl, qisNon_bl, qcooked_bl, qseq_bl, qty_int, qisI_int, qisB_int, qisL_int, qisU_int, qisS_int, qisD_int, qisNon_int, qcooked_int, qseq_int, qty_str, qisI_str, qisB_str, qisL_str, qisU_str, qisS_str, qisD_str, qisNon_str, qcooked_str, qseq_str, qty_lst, qisI_lst, qisB_lst, qisL_lst, qisU_lst, qisS_lst, qisD_lst, qisNon_lst, qcooked_lst, qseq_lst, qty_tup, qisI_tup, qisB_tup, qisL_tup, qisU_tup, qisS_tup, qisD_tup, qisNon_tup, qcooked_tup, qseq_tup, qty_dct, qisI_dct, qisB_dct, qisL_dct, qisU_dct, qisS_dct, qisD_dct, qisNon_dct, qcooked_dct, qseq_dct, qix_lst, qsl_lst, qix_tup, qsl_tup, qisNon_ln, qcooked_ln, and_assoc, exists_and_left, exists_eq_left, exists_eq_left', exists_eq_right, deFget, dsFset, dsFsetO, deFix, dsFaug, dmCall, dmIx, dsDropM, dsAsgM, dmsSeq, dmsRet, dmsNil, dmsIf, dmsFrz, startM, dnMake, deNfld, deNmeth, dxLend, deLend, dnsSeq, dnsRet, putM1, putM2, putM3, putM4, mkSt, lkM_seats, lkM_requests, lkM_sale, lkM_roads, lkM_lay, lkM_len, lkM_bet, lkM_pri, putM_roads, lenM, rdInI, rdEqS, h2, h3]
    rw [zipD_map]
    exact p
  · obtain ⟨a, b, c, m, l, rfl⟩ := hj
    obtain ⟨r, q⟩ := x
    have hi1 : rs[i]? = some r ∧ ms[i]? = some q := by simpa [List.getElem?_zip_eq_some] using hi
    have ok := hr r (List.mem_of_getElem? hi1.1)
    obtain ⟨a0, ab, bn, f1, f2, m1, m2⟩ := ok
    have le1 : i < rs.length := (List.getElem?_eq_some_iff.mp hi1.1).1
    have le2 : i < ms.length := (List.getElem?_eq_some_iff.mp hi1.2).1
    simp [startD, wipeD, dsRet, dsRetN, dsIf, dsSeq, dsNext, dsAsg, dsDrop, dsBreak, dsCont, dsPar, dsAug, dsFrz, dsApp, dsExt, dsPut, dsAugO, dsOwn, dsParOO, dsParDO, dsParDDO, dsFrzA, dxRep, diOwn, dsRaise, deAnd, deOr, deNot, de1, de2, deB, deX, dxB, dxLst, deName, deC, deCall, deIxO, deLenO, deTup, deLst, daCons, daNil, daStar, deChain, dtChain, dtV, dtAnd, dtOr, dtNot, dtYes, deIf, deSl, doNone, doSome, rdAdd, rdSub, rdMul, rdMod, rdDiv, rdPow, rdI, rdIc, rdB, rdLt, rdLe, rdGt, rdGe, rdNeg, rdIs, rdEq, rdNe, rdIx, rdIsN, rdNotN, rdIsB, rdNotB, rdRev, rdSeats, rdCatL, rdCatT, rdRepL, rdLen, rdTuple, rdList, rxList, rdInt, rdMax2, rdMin2, dgName, dgTup, dgCons, dgNil, deRefused, rdRepr, rdNeS, rdEqL, rdNeL, rdRepT, rdIsLn, noOwn, diSeq, diEn, diZp, diR1, diR2, noX,  eqOk_int, eqOk_bl, eqOk_non, eqv_int, eqv_bl, eqv_non, atI_0, atI_1, atI_2, atI_3, qty_non, qisI_non, qisB_non, qisL_non, qisU_non, qisS_non, qisD_non, qisNon_non, qcooked_non, qseq_non, qty_bl, qisI_bl, qisB_bl, qisL_bl, qisU_bl, qisS_bl, qisD_bl, qisNon_bl, qcooked_bl, qseq_bl, qty_int, qisI_int, qisB_int, qisL_int, qisU_int, qisS_int, qisD_int, qisNon_int, qcooked_int, qseq_int, qty_str, qisI_str, qisB_str, qisL_str, qisU_str, qisS_str, qisD_str, qisNon_str, qcooked_str, qseq_str, qty_lst, qisI_lst, qisB_lst, qisL_lst, qisU_lst, qisS_lst, qisD_lst, qisNon_lst, qcooked_lst, qseq_lst, qty_tup, qisI_tup, qisB_tup, qisL_tup, qisU_tup, qisS_tup, qisD_tup, qisNon_tup, qcooked_tup, qseq_tup, qty_dct, qisI_dct, qisB_dct, qisL_dct, qisU_dct, qisS_dct, qisD_dct, qisNon_dct, qcooked_dct, qseq_dct, qix_lst, qsl_lst, qix_tup, qsl_tup, qisNon_ln, qcooked_ln, and_assoc, exists_and_left, exists_eq_left, exists_eq_left', exists_eq_right, deFget, dsFset, dsFsetO, deFix, dsFaug, dmCall, dmIx, dsDropM, dsAsgM, dmsSeq, dmsRet, dmsNil, dmsIf, dmsFrz, startM, dnMake, deNfld, deNmeth, dxLend, deLend, dnsSeq, dnsRet, putM1, putM2, putM3, putM4, mkSt, lkM_seats, lkM_requests, lkM_sale, lkM_roads, lkM_lay, lkM_len, lkM_bet, lkM_pri, putM_roads, lenM, rdInI, rdEqS, Rq.d]
    refine for_on (List.range (r.b - r.a).toNat) (fun k => .int (r.a + (k : Int))) (fun k δ' => ∃ l, δ' = [.dat d1, .dat d2, .dat d3, .own (tab sd.length fun q' => loadAt (rs.take i) (ms.take i) q' + if r.a ≤ (q' : Int) ∧ (q' : Int) < r.a + (k : Int) then q else 0), .dat (.int r.a), .dat (.int r.b), .dat (.int r.m), .dat (.int q), l]) (fun P p => ?_) ⟨l, ?_⟩ (fun k x δ' hk hj => ?_) (fun δ' hj => ?_)
    · simp [startD, wipeD, dsRet, dsRetN, dsIf, dsSeq, dsNext, dsAsg, dsDrop, dsBreak, dsCont, dsPar, dsAug, dsFrz, dsApp, dsExt, dsPut, dsAugO, dsOwn, dsParOO, dsParDO, dsParDDO, dsFrzA, dxRep, diOwn, dsRaise, deAnd, deOr, deNot, de1, de2, deB, deX, dxB, dxLst, deName, deC, deCall, deIxO, deLenO, deTup, deLst, daCons, daNil, daStar, deChain, dtChain, dtV, dtAnd, dtOr, dtNot, dtYes, deIf, deSl, doNone, doSome, rdAdd, rdSub, rdMul, rdMod, rdDiv, rdPow, rdI, rdIc, rdB, rdLt, rdLe, rdGt, rdGe, rdNeg, rdIs, rdEq, rdNe, rdIx, rdIsN, rdNotN, rdIsB, rdNotB, rdRev, rdSeats, rdCatL, rdCatT, rdRepL, rdLen, rdTuple, rdList, rxList, rdInt, rdMax2, rdMin2, dgName, dgTup, dgCons, dgNil, deRefused, rdRepr, rdNeS, rdEqL, rdNeL, rdRepT, rdIsLn, noOwn, diSeq, diEn, diZp, diR1, diR2, noX,  eqOk_int, eqOk_bl, eqOk_non, eqv_int, eqv_bl, eqv_non, atI_0, atI_1, atI_2, atI_3, qty_non, qisI_non, qisB_non, qisL_non, qisU_non, qisS_non, qisD_non, qisNon_non, qcooked_non, qseq_non, qty_bl, qisI_bl, qisB_bl, qisL_bl, qisU_bl, qisS_bl, qisD_bl, qisNon_bl, qcooked_bl, qseq_bl, qty_int, qisI_int, qisB_int, qisL_int, qisU_int, qisS_int, qisD_int, qisNon_int, qcooked_int, qseq_int, qty_str, qisI_str, qisB_str, qisL_str, qisU_str, qisS_str, qisD_str, qisNon_str, qcooked_str, qseq_str, qty_lst, qisI_lst, qisB_lst, qisL_lst, qisU_lst, qisS_lst, qisD_lst, qisNon_lst, qcooked_lst, qseq_lst, qty_tup, qisI_tup, qisB_tup, qisL_tup, qisU_tup, qisS_tup, qisD_tup, qisNon_tup, qcooked_tup, qseq_tup, qty_dct, qisI_dct, qisB_dct, qisL_dct, qisU_dct, qisS_dct, qisD_dct, qisNon_dct, qcooked_dct, qseq_dct, qix_lst, qsl_lst, qix_tup, qsl_tup, qisNon_ln, qcooked_ln, and_assoc, exists_and_left, exists_eq_left, exists_eq_left', exists_eq_right, deFget, dsFset, dsFsetO, deFix, dsFaug, dmCall, dmIx, dsDropM, dsAsgM, dmsSeq, dmsRet, dmsNil, dmsIf, dmsFrz, startM, dnMake, deNfld, deNmeth, dxLend, deLend, dnsSeq, dnsRet, putM1, putM2, putM3, putM4, mkSt, lkM_seats, lkM_requests, lkM_sale, lkM_roads, lkM_lay, lkM_len, lkM_bet, lkM_pri, putM_roads, lenM, rdInI, rdEqS]
      rw [rngD_eq]
      exact ⟨by omega, by omega, by omega, by omega, p⟩
    · have e : (tab sd.length fun q' => loadAt (rs.take i) (ms.take i) q' + if r.a ≤ (q' : Int) ∧ (q' : Int) < r.a + ((0 : Nat) : Int) then q else 0) = tab sd.length (loadAt (rs.take i) (ms.take i)) := tab_ext fun q' _ => by
        rw [if_neg (by omega)]
        omega
      rw [e]
    · obtain ⟨l, rfl⟩ := hj
      have hk1 : k < (r.b - r.a).toNat ∧ k = x := by simpa [List.getElem?_range, Option.guard] using List.getElem?_eq_some_iff.mp hk
      obtain ⟨hk1, rfl⟩ := hk1
      obtain ⟨p, hp⟩ := Int.eq_ofNat_of_zero_le (show 0 ≤ r.a + (k : Int) by omega)
      have hpn : p < sd.length := by omega
      simp [startD, wipeD, dsRet, dsRetN, dsIf, dsSeq, dsNext, dsAsg, dsDrop, dsBreak, dsCont, dsPar, dsAug, dsFrz, dsApp, dsExt, dsPut, dsAugO, dsOwn, dsParOO, dsParDO, dsParDDO, dsFrzA, dxRep, diOwn, dsRaise, deAnd, deOr, deNot, de1, de2, deB, deX, dxB, dxLst, deName, deC, deCall, deIxO, deLenO, deTup, deLst, daCons, daNil, daStar, deChain, dtChain, dtV, dtAnd, dtOr, dtNot, dtYes, deIf, deSl, doNone, doSome, rdAdd, rdSub, rdMul, rdMod, rdDiv, rdPow, rdI, rdIc, rdB, rdLt, rdLe, rdGt, rdGe, rdNeg, rdIs, rdEq, rdNe, rdIx, rdIsN, rdNotN, rdIsB, rdNotB, rdRev, rdSeats, rdCatL, rdCatT, rdRepL, rdLen, rdTuple, rdList, rxList, rdInt, rdMax2, rdMin2, dgName, dgTup, dgCons, dgNil, deRefused, rdRepr, rdNeS, rdEqL, rdNeL, rdRepT, rdIsLn, noOwn, diSeq, diEn, diZp, diR1, diR2, noX,  eqOk_int, eqOk_bl, eqOk_non, eqv_int, eqv_bl, eqv_non, atI_0, atI_1, atI_2, atI_3, qty_non, qisI_non, qisB_non, qisL_non, qisU_non, qisS_non, qisD_non, qisNon_non, qcooked_non, qseq_non, qty_bl, qisI_bl, qisB_bl, qisL_bl, qisU_bl, qisS_bl, qisD_bl, qisNon_bl, qcooked_bl, qseq_bl, qty_int, qisI_int, qisB_int, qisL_int, qisU_int, qisS_int, qisD_int, qisNon_int, qcooked_int, qseq_int, qty_str, qisI_str, qisB_str, qisL_str, qisU_str, qisS_str, qisD_str, qisNon_str, qcooked_str, qseq_str, qty_lst, qisI_lst, qisB_lst, qisL_lst, qisU_lst, qisS_lst, qisD_lst, qisNon_lst, qcooked_lst, qseq_lst, qty_tup, qisI_tup, qisB_tup, qisL_tup, qisU_tup, qisS_tup, qisD_tup, qisNon_tup, qcooked_tup, qseq_tup, qty_dct, qisI_dct, qisB_dct, qisL_dct, qisU_dct, qisS_dct, qisD_dct, qisNon_dct, qcooked_dct, qseq_dct, qix_lst, qsl_lst, qix_tup, qsl_tup, qisNon_ln, qcooked_ln, and_assoc, exists_and_left, exists_eq_left, exists_eq_left', exists_eq_right, deFget, dsFset, dsFsetO, deFix, dsFaug, dmCall, dmIx, dsDropM, dsAsgM, dmsSeq, dmsRet, dmsNil, dmsIf, dmsFrz, startM, dnMake, deNfld, deNmeth, dxLend, deLend, dnsSeq, dnsRet, putM1, putM2, putM3, putM4, mkSt, lkM_seats, lkM_requests, lkM_sale, lkM_roads, lkM_lay, lkM_len, lkM_bet, lkM_pri, putM_roads, lenM, rdInI, rdEqS, hp]
      refine ⟨by omega, p, ?_, _, tab_at hpn, ?_⟩
      · unfold ixN
        rw [tab_length]
        simp [hpn]
      · rw [tab_set]
        refine tab_ext fun q' hq' => ?_
        by_cases e : q' = p
        · subst e
          rw [if_pos rfl, if_neg (by omega), if_pos (by omega)]
          omega
        · rw [if_neg e]
          by_cases c1 : r.a ≤ (q' : Int) ∧ (q' : Int) < r.a + (k : Int)
          · rw [if_pos (by omega), if_pos (by omega)]
          · rw [if_neg (by omega), if_neg (by omega)]
    · obtain ⟨l, rfl⟩ := hj
      have e : (tab sd.length fun q' => loadAt (rs.take i) (ms.take i) q' + if r.a ≤ (q' : Int) ∧ (q' : Int) < r.a + ((List.range (r.b - r.a).toNat).length : Int) then q else 0) = tab sd.length (loadAt (rs.take i ++ [r]) (ms.take i ++ [q])) := tab_ext fun q' _ => by
        rw [loadAt_snoc _ (by simp; omega), List.length_range]
        by_cases c1 : r.a ≤ (q' : Int) ∧ (q' : Int) < r.b
        · rw [if_pos c1, if_pos (by omega)]
        · rw [if_neg c1, if_neg (by omega)]
      rw [e, ← take_snoc hi1.1, ← take_snoc hi1.2]
      exact ⟨_, _, _, _, l, rfl⟩
  · obtain ⟨a, b, c, m, l, rfl⟩ := hj
    simp [startD, wipeD, dsRet, dsRetN, dsIf, dsSeq, dsNext, dsAsg, dsDrop, dsBreak, dsCont, dsPar, dsAug, dsFrz, dsApp, dsExt, dsPut, dsAugO, dsOwn, dsParOO, dsParDO, dsParDDO, dsFrzA, dxRep, diOwn, dsRaise, deAnd, deOr, deNot, de1, de2, deB, deX, dxB, dxLst, deName, deC, deCall, deIxO, deLenO, deTup, deLst, daCons, daNil, daStar, deChain, dtChain, dtV, dtAnd, dtOr, dtNot, dtYes, deIf, deSl, doNone, doSome, rdAdd, rdSub, rdMul, rdMod, rdDiv, rdPow, rdI, rdIc, rdB, rdLt, rdLe, rdGt, rdGe, rdNeg, rdIs, rdEq, rdNe, rdIx, rdIsN, rdNotN, rdIsB, rdNotB, rdRev, rdSeats, rdCatL, rdCatT, rdRepL, rdLen, rdTuple, rdList, rxList, rdInt, rdMax2, rdMin2, dgName, dgTup, dgCons, dgNil, deRefused, rdRepr, rdNeS, rdEqL, rdNeL, rdRepT, rdIsLn, noOwn, diSeq, diEn, diZp, diR1, diR2, noX,  eqOk_int, eqOk_bl, eqOk_non, eqv_int, eqv_bl, eqv_non, atI_0, atI_1, atI_2, atI_3, qty_non, qisI_non, qisB_non, qisL_non, qisU_non, qisS_non, qisD_non, qisNon_non, qcooked_non, qseq_non, qty_bl, qisI_bl, qisB_bl, qisL_bl, qisU_bl, qisS_bl, qisD_bl, qisNon_bl, qcooked_bl, qseq_bl, qty_int, qisI_int, qisB_int, qisL_int, qisU_int, qisS_int, qisD_int, qisNon_int, qcooked_int, qseq_int, qty_str, qisI_str, qisB_str, qisL_str, qisU_str, qisS_str, qisD_str, qisNon_str, qcooked_str, qseq_str, qty_lst, qisI_lst, qisB_lst, qisL_lst, qisU_lst, qisS_lst, qisD_lst, qisNon_lst, qcooked_lst, qseq_lst, qty_tup, qisI_tup, qisB_tup, qisL_tup, qisU_tup, qisS_tup, qisD_tup, qisNon_tup, qcooked_tup, qseq_tup, qty_dct, qisI_dct, qisB_dct, qisL_dct, qisU_dct, qisS_dct, qisD_dct, qisNon_dct, qcooked_dct, qseq_dct, qix_lst, qsl_lst, qix_tup, qsl_tup, qisNon_ln, qcooked_ln, and_assoc, exists_and_left, exists_eq_left, exists_eq_left', exists_eq_right, deFget, dsFset, dsFsetO, deFix, dsFaug, dmCall, dmIx, dsDropM, dsAsgM, dmsSeq, dmsRet, dmsNil, dmsIf, dmsFrz, startM, dnMake, deNfld, deNmeth, dxLend, deLend, dnsSeq, dnsRet, putM1, putM2, putM3, putM4, mkSt, lkM_seats, lkM_requests, lkM_sale, lkM_roads, lkM_lay, lkM_len, lkM_bet, lkM_pri, putM_roads, lenM, rdInI, rdEqS]
    rw [show min rs.length ms.length = rs.length by omega, List.take_length, hm, List.take_length, tab_map]
    exact o
theorem ok_told_loads (T : Txt K mg) {f : Addr} {fd : FuncData} (F : FnP K "told_loads" s_told_loads f fd) : FnOk P w K mg base (L2.CX P w) 1 f fd ["seats", "requests", "sale"] (spD K sp_told_loads) :=
  spN_D (ok_told_loads_N T F) fun F ds O h => by
    obtain ⟨d1, d2, d3, sd, rs, ms, e, h1, hn, h2, h3, hr, hl, hm, o⟩ := h
    exact ⟨d1, d2, d3, sd, rs, ms, e, h1, hn, h2, h3, hr, hl, hm, o⟩

end
end K12
end
-- F_12_told_takings
section
set_option Elab.async false
set_option linter.all false
set_option maxRecDepth 100000
set_option maxHeartbeats 4000000
set_option autoImplicit false
namespace K12
open PySem PySem.Spec PyProof.Rows L2 Sd
section
variable {P : Program} {w : World} {K : PySem.W.Frag} {mg : Str → Option Value} {base : Heap}
theorem ok_told_takings (T : Txt K mg) {f : Addr} {fd : FuncData} (F : FnP K "told_takings" s_told_takings f fd)   : FnOk P w K mg base (L2.CX P w) 1 f fd ["requests", "sale"] (spD K sp_told_takings) := by
  have sc := sc_told_takings
  refine fnD F sc (fun F ds O h => by
    obtain ⟨_, _, _, _, _, e, _⟩ := h
    rw [e] <;> rfl) (fun cdv A outer s G E ds O hr h hE => ⟨_, (pssd_one (psd_ret (pd_callB (cr_sum rfl) snd_sum T.b_sum (pad_cons (pd_x (pxd_lc (own := [(("request" : Str), 2), (("many" : Str), 3)]) sc.nd (pid_zp T.b_zip (pad_cons (pd_name (pv 0)) (pad_cons (pd_name (pv 1)) pad_nil))) (by kernel_rfl) (fun _ _ _ _ _ => (pgc_tup (n := 2) (pgcs_cons (pgc_name (i := 2) sc.nd rfl (by first | exact Or.inl rfl | exact Or.inr rfl) (by decide)) (pgcs_cons (pgc_name (i := 3) sc.nd rfl (by first | exact Or.inl rfl | exact Or.inr rfl) (by decide)) pgcs_nil)))) (fun _ _ _ _ _ => ptsd_nil) (fun _ _ _ _ _ => (pd_mul (pd_item (pd_name (pv 2)) pd_int) (pd_name (pv 3)))))) pad_nil)))), ?_⟩)
  obtain ⟨d2, d3, rs, ms, n, rfl, h⟩ := h
  obtain ⟨h2, h3, hr, hl, o⟩ := h
  simp [startD, wipeD, dsRet, dsRetN, dsIf, dsSeq, dsNext, dsAsg, dsDrop, dsBreak, dsCont, dsPar, dsAug, dsFrz, dsApp, dsExt, dsPut, dsAugO, dsOwn, dsParOO, dsParDO, dsParDDO, dsFrzA, dxRep, diOwn, dsRaise, deAnd, deOr, deNot, de1, de2, deB, deX, dxB, dxLst, deName, deC, deCall, deIxO, deLenO, deTup, deLst, daCons, daNil, daStar, deChain, dtChain, dtV, dtAnd, dtOr, dtNot, dtYes, deIf, deSl, doNone, doSome, rdAdd, rdSub, rdMul, rdMod, rdDiv, rdPow, rdI, rdIc, rdB, rdLt, rdLe, rdGt, rdGe, rdNeg, rdIs, rdEq, rdNe, rdIx, rdIsN, rdNotN, rdIsB, rdNotB, rdRev, rdSeats, rdCatL, rdCatT, rdRepL, rdLen, rdTuple, rdList, rxList, rdInt, rdMax2, rdMin2, dgName, dgTup, dgCons, dgNil, deRefused, rdRepr, rdNeS, rdEqL, rdNeL, rdRepT, rdIsLn, noOwn, diSeq, diEn, diZp, diR1, diR2, noX,  eqOk_int, eqOk_bl, eqOk_non, eqv_int, eqv_bl, eqv_non, atI_0, atI_1, atI_2, atI_3, qty_non, qisI_non, qisB_non, qisL_non, qisU_non, qisS_non, qisD_non, qisNon_non, qcooked_non, qseq_non, qty_bl, qisI_bl, qisB_bl, qisL_bl, qisU_bl, qisS_bl, qisD_bl, qisNon_bl, qcooked_bl, qseq_bl, qty_int, qisI_int, qisB_int, qisL_int, qisU_int, qisS_int, qisD_int, qisNon_int, qcooked_int, qseq_int, qty_str, qisI_str, qisB_str, qisL_str, qisU_str, qisS_str, qisD_str, qisNon_str, qcooked_str, qseq_str, qty_lst, qisI_lst, qisB_lst, qisL_lst, qisU_lst, qisS_lst, qisD_lst, qisNon_lst, qcooked_lst, qseq_lst, qty_tup, qisI_tup, qisB_tup, qisL_tup, qisU_tup, qisS_tup, qisD_tup, qisNon_tup, qcooked_tup, qseq_tup, qty_dct, qisI_dct, qisB_dct, qisL_dct, qisU_dct, qisS_dct, qisD_dct, qisNon_dct, qcooked_dct, qseq_dct, qix_lst, qsl_lst, qix_tup, qsl_tup, qisNon_ln, qcooked_ln, and_assoc, exists_and_left, exists_eq_left, exists_eq_left', exists_eq_right, deFget, dsFset, dsFsetO, deFix, dsFaug, dmCall, dmIx, dsDropM, dsAsgM, dmsSeq, dmsRet, dmsNil, dmsIf, dmsFrz, startM, dnMake, deNfld, deNmeth, dxLend, deLend, dnsSeq, dnsRet, putM1, putM2, putM3, putM4, mkSt, lkM_seats, lkM_requests, lkM_sale, lkM_roads, lkM_lay, lkM_len, lkM_bet, lkM_pri, putM_roads, lenM, rdInI, rdEqS, h2, h3]
  refine lc_on (rs.zip ms) (fun p => .tup [p.1.d, .int p.2]) (fun p => .int (p.1.f * p.2)) (fun P p => ?_) (by simp [List.length_zip]; omega) (fun x hx R hR => ?_) ?_
  · simp [startD, wipeD, dsRet, dsRetN, dsIf, dsSeq, dsNext, dsAsg, dsDrop, dsBreak, dsCont, dsPar, dsAug, dsFrz, dsApp, dsExt, dsPut, dsAugO, dsOwn, dsParOO, dsParDO, dsParDDO, dsFrzA, dxRep, diOwn, dsRaise, deAnd, deOr, deNot, de1, de2, deB, deX, dxB, dxLst, deName, deC, deCall, deIxO, deLenO, deTup, deLst, daCons, daNil, daStar, deChain, dtChain, dtV, dtAnd, dtOr, dtNot, dtYes, deIf, deSl, doNone, doSome, rdAdd, rdSub, rdMul, rdMod, rdDiv, rdPow, rdI, rdIc, rdB, rdLt, rdLe, rdGt, rdGe, rdNeg, rdIs, rdEq, rdNe, rdIx, rdIsN, rdNotN, rdIsB, rdNotB, rdRev, rdSeats, rdCatL, rdCatT, rdRepL, rdLen, rdTuple, rdList, rxList, rdInt, rdMax2, rdMin2, dgName, dgTup, dgCons, dgNil, deRefused, rdRepr, rdNeS, rdEqL, rdNeL, rdRepT, rdIsLn, noOwn, diSeq, diEn, diZp, diR1, diR2, noX,  eqOk_int, eqOk_bl, eqOk_non, eqv_int, eqv_bl, eqv_non, atI_0, atI_1, atI_2, atI_3, qty_non, qisI_non, qisB_non, qisL_non, qisU_non, qisS_non, qisD_non, qisNon_non, qcooked_non, qseq_non, qty_bl, qisI_bl, qisB_bl, qisL_bl, qisU_bl, qisS_bl, qisD_bl, qisNon_bl, qcooked_bl, qseq_bl, qty_int, qisI_int, qisB_int, qisL_int, qisU_int, qisS_int, qisD_int, qisNon_int, qcooked_int, qseq_int, qty_str, qisI_str, qisB_str, qisL_str, qisU_str, qisS_str, qisD_str, qisNon_str, qcooked_str, qseq_str, qty_lst, qisI_lst, qisB_lst, qisL_lst, qisU_lst, qisS_lst, qisD_lst, qisNon_lst, qcooked_lst, qseq_lst, qty_tup, qisI_tup, qisB_tup, qisL_tup, qisU_tup, qisS_tup, qisD_tup, qisNon_tup, qcooked_tup, qseq_tup, qty_dct, qisI_dct, qisB_dct, qisL_dct, qisU_dct, qisS_dct, qisD_dct, qisNon_dct, qcooked_dct, qseq_dct, qix_lst, qsl_lst, qix_tup, qsl_tup, qisNon_ln, qcooked_ln, and_assoc, exists_and_left, exists_eq_left, exists_eq_left', exists_eq_right, deFget, dsFset, dsFsetO, deFix, dsFaug, dmCall, dmIx, dsDropM, dsAsgM, dmsSeq, dmsRet, dmsNil, dmsIf, dmsFrz, startM, dnMake, deNfld, deNmeth, dxLend, deLend, dnsSeq, dnsRet, putM1, putM2, putM3, putM4, mkSt, lkM_seats, lkM_requests, lkM_sale, lkM_roads, lkM_lay, lkM_len, lkM_bet, lkM_pri, putM_roads, lenM, rdInI, rdEqS, h2, h3]
    rw [zipD_map]
    exact p
  · obtain ⟨r, q⟩ := x
    obtain ⟨a0, ab, bn, f1, f2, m1, m2⟩ := hr r (List.of_mem_zip hx).1
    simp [startD, wipeD, dsRet, dsRetN, dsIf, dsSeq, dsNext, dsAsg, dsDrop, dsBreak, dsCont, dsPar, dsAug, dsFrz, dsApp, dsExt, dsPut, dsAugO, dsOwn, dsParOO, dsParDO, dsParDDO, dsFrzA, dxRep, diOwn, dsRaise, deAnd, deOr, deNot, de1, de2, deB, deX, dxB, dxLst, deName, deC, deCall, deIxO, deLenO, deTup, deLst, daCons, daNil, daStar, deChain, dtChain, dtV, dtAnd, dtOr, dtNot, dtYes, deIf, deSl, doNone, doSome, rdAdd, rdSub, rdMul, rdMod, rdDiv, rdPow, rdI, rdIc, rdB, rdLt, rdLe, rdGt, rdGe, rdNeg, rdIs, rdEq, rdNe, rdIx, rdIsN, rdNotN, rdIsB, rdNotB, rdRev, rdSeats, rdCatL, rdCatT, rdRepL, rdLen, rdTuple, rdList, rxList, rdInt, rdMax2, rdMin2, dgName, dgTup, dgCons, dgNil, deRefused, rdRepr, rdNeS, rdEqL, rdNeL, rdRepT, rdIsLn, noOwn, diSeq, diEn, diZp, diR1, diR2, noX,  eqOk_int, eqOk_bl, eqOk_non, eqv_int, eqv_bl, eqv_non, atI_0, atI_1, atI_2, atI_3, qty_non, qisI_non, qisB_non, qisL_non, qisU_non, qisS_non, qisD_non, qisNon_non, qcooked_non, qseq_non, qty_bl, qisI_bl, qisB_bl, qisL_bl, qisU_bl, qisS_bl, qisD_bl, qisNon_bl, qcooked_bl, qseq_bl, qty_int, qisI_int, qisB_int, qisL_int, qisU_int, qisS_int, qisD_int, qisNon_int, qcooked_int, qseq_int, qty_str, qisI_str, qisB_str, qisL_str, qisU_str, qisS_str, qisD_str, qisNon_str, qcooked_str, qseq_str, qty_lst, qisI_lst, qisB_lst, qisL_lst, qisU_lst, qisS_lst, qisD_lst, qisNon_lst, qcooked_lst, qseq_lst, qty_tup, qisI_tup, qisB_tup, qisL_tup, qisU_tup, qisS_tup, qisD_tup, qisNon_tup, qcooked_tup, qseq_tup, qty_dct, qisI_dct, qisB_dct, qisL_dct, qisU_dct, qisS_dct, qisD_dct, qisNon_dct, qcooked_dct, qseq_dct, qix_lst, qsl_lst, qix_tup, qsl_tup, qisNon_ln, qcooked_ln, and_assoc, exists_and_left, exists_eq_left, exists_eq_left', exists_eq_right, deFget, dsFset, dsFsetO, deFix, dsFaug, dmCall, dmIx, dsDropM, dsAsgM, dmsSeq, dmsRet, dmsNil, dmsIf, dmsFrz, startM, dnMake, deNfld, deNmeth, dxLend, deLend, dnsSeq, dnsRet, putM1, putM2, putM3, putM4, mkSt, lkM_seats, lkM_requests, lkM_sale, lkM_roads, lkM_lay, lkM_len, lkM_bet, lkM_pri, putM_roads, lenM, rdInI, rdEqS, Rq.d]
    exact ⟨.inl ⟨by omega, by omega⟩, hR⟩
  · refine ⟨(rs.zip ms).map fun p => p.1.f * p.2, by simp, ?_⟩
    have e : ((rs.zip ms).map fun p => p.1.f * p.2).sum = takeM rs ms := by
      clear hr h2 h3 o hl
      induction rs generalizing ms with
      | nil => rfl
      | cons r rs ih =>
        cases ms with
        | nil => rfl
        | cons m ms => simp [takeM, ih ms]
    rw [e]
    exact o
end
end K12
end
-- F_12_Market___init__
section
set_option Elab.async false
set_option linter.all false
set_option maxRecDepth 100000
set_option maxHeartbeats 4000000
set_option autoImplicit false
namespace K12
open PySem PySem.Spec PyProof.Rows L2 Sd
section
variable {P : Program} {w : World} {K : PySem.W.Frag} {mg : Str → Option Value} {base : Heap}
theorem ok_Market_init (T : Txt K mg) {f : Addr} {fd : FuncData} (F : FunD K "__init__" "Market.__init__" (defArgs s_Market___init__) (defBody s_Market___init__) (defScope s_Market___init__) [] [] f fd) (m_Market_better : Mt P w K mg base 3 "Market" "better" sp_better) : FnOk P w K mg base (L2.CX P w) 4 f fd ["self", "seats", "requests"] (spM K "Market" sp_Market) := by
  have sc := sc_Market___init__
  refine fnM F sc (fun st ds O h => by
    obtain ⟨_, _, _, _, _, _, e, _⟩ := h
    rw [e] <;> rfl) (by decide) (fun cdv A outer s H G E m dx st ds O hr h => ⟨_, (pms_cons (psd_fset (i := 0) T.clMarket T.nMarket_seats (pv 0) (pd_name (pv 1)))
  (pms_cons (psd_fset (i := 0) T.clMarket T.nMarket_requests (pv 0) (pd_name (pv 2)))
  (pms_cons (psd_fsetO (i := 0) T.clMarket T.nMarket_sale (pv 0) (pxd_lc (own := [(("_" : Str), 3)]) sc.nd (pid_seq (pd_name (pv 2))) (by kernel_rfl) (fun _ _ _ _ _ => (pgc_name (i := 3) sc.nd rfl (by first | exact Or.inl rfl | exact Or.inr rfl) (by decide))) (fun _ _ _ _ _ => ptsd_nil) (fun _ _ _ _ _ => pd_int)))
  (pms_cons (psd_fset (i := 0) T.clMarket T.nMarket_roads (pv 0) (pd_lst pad_nil))
  (pms_cons (psd_whileM (passes_of rfl) (pem_call m_Market_better hr (by first | decide | omega) (pv 0))
  (pssd_one (psd_fset (i := 0) T.clMarket T.nMarket_roads (pv 0) (pd_lst pad_nil))))
  pms_nil))))), ?_⟩)
  obtain ⟨sa, sd, rd, ss, rs, rfl, rfl, M, o⟩ := h
  have hs := M.sq
  have hq := M.rq
  have hrl := M.rl
  simp [startD, wipeD, dsRet, dsRetN, dsIf, dsSeq, dsNext, dsAsg, dsDrop, dsBreak, dsCont, dsPar, dsAug, dsFrz, dsApp, dsExt, dsPut, dsAugO, dsOwn, dsParOO, dsParDO, dsParDDO, dsFrzA, dxRep, diOwn, dsRaise, deAnd, deOr, deNot, de1, de2, deB, deX, dxB, dxLst, deName, deC, deCall, deIxO, deLenO, deTup, deLst, daCons, daNil, daStar, deChain, dtChain, dtV, dtAnd, dtOr, dtNot, dtYes, deIf, deSl, doNone, doSome, rdAdd, rdSub, rdMul, rdMod, rdDiv, rdPow, rdI, rdIc, rdB, rdLt, rdLe, rdGt, rdGe, rdNeg, rdIs, rdEq, rdNe, rdIx, rdIsN, rdNotN, rdIsB, rdNotB, rdRev, rdSeats, rdCatL, rdCatT, rdRepL, rdLen, rdTuple, rdList, rxList, rdInt, rdMax2, rdMin2, dgName, dgTup, dgCons, dgNil, deRefused, rdRepr, rdNeS, rdEqL, rdNeL, rdRepT, rdIsLn, noOwn, diSeq, diEn, diZp, diR1, diR2, noX,  eqOk_int, eqOk_bl, eqOk_non, eqv_int, eqv_bl, eqv_non, atI_0, atI_1, atI_2, atI_3, qty_non, qisI_non, qisB_non, qisL_non, qisU_non, qisS_non, qisD_non, qisNon_non, qcooked_non, qseq_non, qty_bl, qisI_bl, qisB_bl, qisL_bl, qisU_bl, qisS_bl, qisD_bl, qisNon_bl, qcooked_bl, qseq_bl, qty_int, qisI_int, qisB_int, qisL_int, qisU_int, qisS_int, qisD_int, qisNon_int, qcooked_int, qseq_int, qty_str, qisI_str, qisB_str, qisL_str, qisU_str, qisS_str, qisD_str, qisNon_str, qcooked_str, qseq_str, qty_lst, qisI_lst, qisB_lst, qisL_lst, qisU_lst, qisS_lst, qisD_lst, qisNon_lst, qcooked_lst, qseq_lst, qty_tup, qisI_tup, qisB_tup, qisL_tup, qisU_tup, qisS_tup, qisD_tup, qisNon_tup, qcooked_tup, qseq_tup, qty_dct, qisI_dct, qisB_dct, qisL_dct, qisU_dct, qisS_dct, qisD_dct, qisNon_dct, qcooked_dct, qseq_dct, qix_lst, qsl_lst, qix_tup, qsl_tup, qisNon_ln, qcooked_ln, and_assoc, exists_and_left, exists_eq_left, exists_eq_left', exists_eq_right, deFget, dsFset, dsFsetO, deFix, dsFaug, dmCall, dmIx, dsDropM, dsAsgM, dmsSeq, dmsRet, dmsNil, dmsIf, dmsFrz, startM, dnMake, deNfld, deNmeth, dxLend, deLend, dnsSeq, dnsRet, putM1, putM2, putM3, putM4, mkSt, lkM_seats, lkM_requests, lkM_sale, lkM_roads, lkM_lay, lkM_len, lkM_bet, lkM_pri, putM_roads, lenM, rdInI, rdEqS, dxLc_eq, dsFor_eq, rngD_0, rngD_eq, zipD_map, enumD_map0, hs, hq]
  refine lb_on rs (fun _ => .int 0) (by omega) (fun x hx R hR => by simp [startD, wipeD, dsRet, dsRetN, dsIf, dsSeq, dsNext, dsAsg, dsDrop, dsBreak, dsCont, dsPar, dsAug, dsFrz, dsApp, dsExt, dsPut, dsAugO, dsOwn, dsParOO, dsParDO, dsParDDO, dsFrzA, dxRep, diOwn, dsRaise, deAnd, deOr, deNot, de1, de2, deB, deX, dxB, dxLst, deName, deC, deCall, deIxO, deLenO, deTup, deLst, daCons, daNil, daStar, deChain, dtChain, dtV, dtAnd, dtOr, dtNot, dtYes, deIf, deSl, doNone, doSome, rdAdd, rdSub, rdMul, rdMod, rdDiv, rdPow, rdI, rdIc, rdB, rdLt, rdLe, rdGt, rdGe, rdNeg, rdIs, rdEq, rdNe, rdIx, rdIsN, rdNotN, rdIsB, rdNotB, rdRev, rdSeats, rdCatL, rdCatT, rdRepL, rdLen, rdTuple, rdList, rxList, rdInt, rdMax2, rdMin2, dgName, dgTup, dgCons, dgNil, deRefused, rdRepr, rdNeS, rdEqL, rdNeL, rdRepT, rdIsLn, noOwn, diSeq, diEn, diZp, diR1, diR2, noX,  eqOk_int, eqOk_bl, eqOk_non, eqv_int, eqv_bl, eqv_non, atI_0, atI_1, atI_2, atI_3, qty_non, qisI_non, qisB_non, qisL_non, qisU_non, qisS_non, qisD_non, qisNon_non, qcooked_non, qseq_non, qty_bl, qisI_bl, qisB_bl, qisL_bl, qisU_bl, qisS_bl, qisD_bl, qisNon_bl, qcooked_bl, qseq_bl, qty_int, qisI_int, qisB_int, qisL_int, qisU_int, qisS_int, qisD_int, qisNon_int, qcooked_int, qseq_int, qty_str, qisI_str, qisB_str, qisL_str, qisU_str, qisS_str, qisD_str, qisNon_str, qcooked_str, qseq_str, qty_lst, qisI_lst, qisB_lst, qisL_lst, qisU_lst, qisS_lst, qisD_lst, qisNon_lst, qcooked_lst, qseq_lst, qty_tup, qisI_tup, qisB_tup, qisL_tup, qisU_tup, qisS_tup, qisD_tup, qisNon_tup, qcooked_tup, qseq_tup, qty_dct, qisI_dct, qisB_dct, qisL_dct, qisU_dct, qisS_dct, qisD_dct, qisNon_dct, qcooked_dct, qseq_dct, qix_lst, qsl_lst, qix_tup, qsl_tup, qisNon_ln, qcooked_ln, and_assoc, exists_and_left, exists_eq_left, exists_eq_left', exists_eq_right, deFget, dsFset, dsFsetO, deFix, dsFaug, dmCall, dmIx, dsDropM, dsAsgM, dmsSeq, dmsRet, dmsNil, dmsIf, dmsFrz, startM, dnMake, deNfld, deNmeth, dxLend, deLend, dnsSeq, dnsRet, putM1, putM2, putM3, putM4, mkSt, lkM_seats, lkM_requests, lkM_sale, lkM_roads, lkM_lay, lkM_len, lkM_bet, lkM_pri, putM_roads, lenM, rdInI, rdEqS, dxLc_eq, dsFor_eq, rngD_0, rngD_eq, zipD_map, enumD_map0]; exact hR) ?_
  intro p
  obtain ⟨z1, z2⟩ := zeros_start M.s0 M.ok
  unfold dsWhileM
  refine ⟨fun q δ' => ∃ (ms : List Int) (r : D), δ' = [.obj m dx "Market" p (fsM p sd rd r) (some (ms.map .int)), .dat sd, .dat rd, .un] ∧ InAsk rs ms ∧ FitM ss rs ms ∧ q = (20000 * (rs.length : Int) - takeM rs ms).toNat, ⟨_, List.replicate rs.length 0, .lst [], by simp [List.map_const'], z1, z2, rfl⟩, fun q δ' hj => ?_⟩
  obtain ⟨ms, r, rfl, h1, h2, rfl⟩ := hj
  simp [startD, wipeD, dsRet, dsRetN, dsIf, dsSeq, dsNext, dsAsg, dsDrop, dsBreak, dsCont, dsPar, dsAug, dsFrz, dsApp, dsExt, dsPut, dsAugO, dsOwn, dsParOO, dsParDO, dsParDDO, dsFrzA, dxRep, diOwn, dsRaise, deAnd, deOr, deNot, de1, de2, deB, deX, dxB, dxLst, deName, deC, deCall, deIxO, deLenO, deTup, deLst, daCons, daNil, daStar, deChain, dtChain, dtV, dtAnd, dtOr, dtNot, dtYes, deIf, deSl, doNone, doSome, rdAdd, rdSub, rdMul, rdMod, rdDiv, rdPow, rdI, rdIc, rdB, rdLt, rdLe, rdGt, rdGe, rdNeg, rdIs, rdEq, rdNe, rdIx, rdIsN, rdNotN, rdIsB, rdNotB, rdRev, rdSeats, rdCatL, rdCatT, rdRepL, rdLen, rdTuple, rdList, rxList, rdInt, rdMax2, rdMin2, dgName, dgTup, dgCons, dgNil, deRefused, rdRepr, rdNeS, rdEqL, rdNeL, rdRepT, rdIsLn, noOwn, diSeq, diEn, diZp, diR1, diR2, noX,  eqOk_int, eqOk_bl, eqOk_non, eqv_int, eqv_bl, eqv_non, atI_0, atI_1, atI_2, atI_3, qty_non, qisI_non, qisB_non, qisL_non, qisU_non, qisS_non, qisD_non, qisNon_non, qcooked_non, qseq_non, qty_bl, qisI_bl, qisB_bl, qisL_bl, qisU_bl, qisS_bl, qisD_bl, qisNon_bl, qcooked_bl, qseq_bl, qty_int, qisI_int, qisB_int, qisL_int, qisU_int, qisS_int, qisD_int, qisNon_int, qcooked_int, qseq_int, qty_str, qisI_str, qisB_str, qisL_str, qisU_str, qisS_str, qisD_str, qisNon_str, qcooked_str, qseq_str, qty_lst, qisI_lst, qisB_lst, qisL_lst, qisU_lst, qisS_lst, qisD_lst, qisNon_lst, qcooked_lst, qseq_lst, qty_tup, qisI_tup, qisB_tup, qisL_tup, qisU_tup, qisS_tup, qisD_tup, qisNon_tup, qcooked_tup, qseq_tup, qty_dct, qisI_dct, qisB_dct, qisL_dct, qisU_dct, qisS_dct, qisD_dct, qisNon_dct, qcooked_dct, qseq_dct, qix_lst, qsl_lst, qix_tup, qsl_tup, qisNon_ln, qcooked_ln, and_assoc, exists_and_left, exists_eq_left, exists_eq_left', exists_eq_right, deFget, dsFset, dsFsetO, deFix, dsFaug, dmCall, dmIx, dsDropM, dsAsgM, dmsSeq, dmsRet, dmsNil, dmsIf, dmsFrz, startM, dnMake, deNfld, deNmeth, dxLend, deLend, dnsSeq, dnsRet, putM1, putM2, putM3, putM4, mkSt, lkM_seats, lkM_requests, lkM_sale, lkM_roads, lkM_lay, lkM_len, lkM_bet, lkM_pri, putM_roads, lenM, rdInI, rdEqS, dxLc_eq, dsFor_eq, rngD_0, rngD_eq, zipD_map, enumD_map0, hs, hq]
  refine ⟨p, sd, rd, ss, rs, ms, r, rfl, rfl, M, h1, h2, fun B => ?_, fun ns h3 h4 h5 => ?_⟩
  · simp [startD, wipeD, dsRet, dsRetN, dsIf, dsSeq, dsNext, dsAsg, dsDrop, dsBreak, dsCont, dsPar, dsAug, dsFrz, dsApp, dsExt, dsPut, dsAugO, dsOwn, dsParOO, dsParDO, dsParDDO, dsFrzA, dxRep, diOwn, dsRaise, deAnd, deOr, deNot, de1, de2, deB, deX, dxB, dxLst, deName, deC, deCall, deIxO, deLenO, deTup, deLst, daCons, daNil, daStar, deChain, dtChain, dtV, dtAnd, dtOr, dtNot, dtYes, deIf, deSl, doNone, doSome, rdAdd, rdSub, rdMul, rdMod, rdDiv, rdPow, rdI, rdIc, rdB, rdLt, rdLe, rdGt, rdGe, rdNeg, rdIs, rdEq, rdNe, rdIx, rdIsN, rdNotN, rdIsB, rdNotB, rdRev, rdSeats, rdCatL, rdCatT, rdRepL, rdLen, rdTuple, rdList, rxList, rdInt, rdMax2, rdMin2, dgName, dgTup, dgCons, dgNil, deRefused, rdRepr, rdNeS, rdEqL, rdNeL, rdRepT, rdIsLn, noOwn, diSeq, diEn, diZp, diR1, diR2, noX,  eqOk_int, eqOk_bl, eqOk_non, eqv_int, eqv_bl, eqv_non, atI_0, atI_1, atI_2, atI_3, qty_non, qisI_non, qisB_non, qisL_non, qisU_non, qisS_non, qisD_non, qisNon_non, qcooked_non, qseq_non, qty_bl, qisI_bl, qisB_bl, qisL_bl, qisU_bl, qisS_bl, qisD_bl, qisNon_bl, qcooked_bl, qseq_bl, qty_int, qisI_int, qisB_int, qisL_int, qisU_int, qisS_int, qisD_int, qisNon_int, qcooked_int, qseq_int, qty_str, qisI_str, qisB_str, qisL_str, qisU_str, qisS_str, qisD_str, qisNon_str, qcooked_str, qseq_str, qty_lst, qisI_lst, qisB_lst, qisL_lst, qisU_lst, qisS_lst, qisD_lst, qisNon_lst, qcooked_lst, qseq_lst, qty_tup, qisI_tup, qisB_tup, qisL_tup, qisU_tup, qisS_tup, qisD_tup, qisNon_tup, qcooked_tup, qseq_tup, qty_dct, qisI_dct, qisB_dct, qisL_dct, qisU_dct, qisS_dct, qisD_dct, qisNon_dct, qcooked_dct, qseq_dct, qix_lst, qsl_lst, qix_tup, qsl_tup, qisNon_ln, qcooked_ln, and_assoc, exists_and_left, exists_eq_left, exists_eq_left', exists_eq_right, deFget, dsFset, dsFsetO, deFix, dsFaug, dmCall, dmIx, dsDropM, dsAsgM, dmsSeq, dmsRet, dmsNil, dmsIf, dmsFrz, startM, dnMake, deNfld, deNmeth, dxLend, deLend, dnsSeq, dnsRet, putM1, putM2, putM3, putM4, mkSt, lkM_seats, lkM_requests, lkM_sale, lkM_roads, lkM_lay, lkM_len, lkM_bet, lkM_pri, putM_roads, lenM, rdInI, rdEqS, dxLc_eq, dsFor_eq, rngD_0, rngD_eq, zipD_map, enumD_map0, hs, hq]
    exact ⟨mkSt p sd rd ms (roadsD (roadsN ss rs ms)), rfl, rfl, rfl, o _ _ _ B⟩
  · have t1 := take_bound h1 M.ok
    have t2 := take_bound h3 M.ok
    simp [startD, wipeD, dsRet, dsRetN, dsIf, dsSeq, dsNext, dsAsg, dsDrop, dsBreak, dsCont, dsPar, dsAug, dsFrz, dsApp, dsExt, dsPut, dsAugO, dsOwn, dsParOO, dsParDO, dsParDDO, dsFrzA, dxRep, diOwn, dsRaise, deAnd, deOr, deNot, de1, de2, deB, deX, dxB, dxLst, deName, deC, deCall, deIxO, deLenO, deTup, deLst, daCons, daNil, daStar, deChain, dtChain, dtV, dtAnd, dtOr, dtNot, dtYes, deIf, deSl, doNone, doSome, rdAdd, rdSub, rdMul, rdMod, rdDiv, rdPow, rdI, rdIc, rdB, rdLt, rdLe, rdGt, rdGe, rdNeg, rdIs, rdEq, rdNe, rdIx, rdIsN, rdNotN, rdIsB, rdNotB, rdRev, rdSeats, rdCatL, rdCatT, rdRepL, rdLen, rdTuple, rdList, rxList, rdInt, rdMax2, rdMin2, dgName, dgTup, dgCons, dgNil, deRefused, rdRepr, rdNeS, rdEqL, rdNeL, rdRepT, rdIsLn, noOwn, diSeq, diEn, diZp, diR1, diR2, noX,  eqOk_int, eqOk_bl, eqOk_non, eqv_int, eqv_bl, eqv_non, atI_0, atI_1, atI_2, atI_3, qty_non, qisI_non, qisB_non, qisL_non, qisU_non, qisS_non, qisD_non, qisNon_non, qcooked_non, qseq_non, qty_bl, qisI_bl, qisB_bl, qisL_bl, qisU_bl, qisS_bl, qisD_bl, qisNon_bl, qcooked_bl, qseq_bl, qty_int, qisI_int, qisB_int, qisL_int, qisU_int, qisS_int, qisD_int, qisNon_int, qcooked_int, qseq_int, qty_str, qisI_str, qisB_str, qisL_str, qisU_str, qisS_str, qisD_str, qisNon_str, qcooked_str, qseq_str, qty_lst, qisI_lst, qisB_lst, qisL_lst, qisU_lst, qisS_lst, qisD_lst, qisNon_lst, qcooked_lst, qseq_lst, qty_tup, qisI_tup, qisB_tup, qisL_tup, qisU_tup, qisS_tup, qisD_tup, qisNon_tup, qcooked_tup, qseq_tup, qty_dct, qisI_dct, qisB_dct, qisL_dct, qisU_dct, qisS_dct, qisD_dct, qisNon_dct, qcooked_dct, qseq_dct, qix_lst, qsl_lst, qix_tup, qsl_tup, qisNon_ln, qcooked_ln, and_assoc, exists_and_left, exists_eq_left, exists_eq_left', exists_eq_right, deFget, dsFset, dsFsetO, deFix, dsFaug, dmCall, dmIx, dsDropM, dsAsgM, dmsSeq, dmsRet, dmsNil, dmsIf, dmsFrz, startM, dnMake, deNfld, deNmeth, dxLend, deLend, dnsSeq, dnsRet, putM1, putM2, putM3, putM4, mkSt, lkM_seats, lkM_requests, lkM_sale, lkM_roads, lkM_lay, lkM_len, lkM_bet, lkM_pri, putM_roads, lenM, rdInI, rdEqS, dxLc_eq, dsFor_eq, rngD_0, rngD_eq, zipD_map, enumD_map0, hs, hq]
    exact ⟨(20000 * (rs.length : Int) - takeM rs ns).toNat, by omega, ⟨_, rfl⟩, ns, rfl, h3, h4, rfl⟩

end
end K12
end
-- F_12_Market_lay_roads
section
set_option Elab.async false
set_option linter.all false
set_option maxRecDepth 100000
set_option maxHeartbeats 4000000
set_option autoImplicit false
namespace K12
open PySem PySem.Spec PyProof.Rows L2 Sd
section
variable {P : Program} {w : World} {K : PySem.W.Frag} {mg : Str → Option Value} {base : Heap}
theorem ok_Market_lay_roads (T : Txt K mg) {f : Addr} {fd : FuncData} (F : FunD K "lay_roads" "Market.lay_roads" (defArgs s_Market_lay_roads) (defBody s_Market_lay_roads) (defScope s_Market_lay_roads) [] [] f fd) (n_told_loads : ClN P w K mg base 1 "told_loads" sp_told_loadsN) : FnOk P w K mg base (L2.CX P w) 2 f fd ["self"] (spM K "Market" sp_lay_roads) := by
  have sc := sc_Market_lay_roads
  refine fnM F sc (fun st ds O h => by
    obtain ⟨_, _, _, _, _, _, _, _, e, _⟩ := h
    rw [e] <;> rfl) (by decide) (fun cdv A outer s H G E m dx st ds O hr h => ⟨_, (pms_cons (psd_own (i := 1) sc.nd rfl (Or.inl rfl) (pxd_lst pad_nil))
  (pms_cons (psd_for (passes_of rfl) (pid_en T.b_enumerate (pad_cons (pd_fget (i := 0) T.clMarket T.nMarket_requests (pv 0)) pad_nil)) (pgd_tup (n := 2) (pgsd_cons (pgd_name (i := 2) sc.nd rfl (Or.inl rfl)) (pgsd_cons (pgd_tup (n := 4) (pgsd_cons (pgd_name (i := 3) sc.nd rfl (Or.inl rfl)) (pgsd_cons (pgd_name (i := 4) sc.nd rfl (Or.inl rfl)) (pgsd_cons (pgd_name (i := 5) sc.nd rfl (Or.inl rfl)) (pgsd_cons (pgd_name (i := 6) sc.nd rfl (Or.inl rfl)) pgsd_nil))))) pgsd_nil)))
  (pssd_cons (psd_app (i := 1) (pv 1) (pd_tup (pad_cons (pd_name (pv 3)) (pad_cons (pd_name (pv 4)) (pad_cons (pd_sub pd_int (pd_name (pv 5))) (pad_cons (pd_sub (pd_name (pv 6)) (pd_fix (i := 0) T.clMarket T.nMarket_sale (pv 0) (pd_name (pv 2)))) (pad_cons pd_int (pad_cons (pd_name (pv 2)) pad_nil))))))))
  (pssd_one (psd_app (i := 1) (pv 1) (pd_tup (pad_cons (pd_name (pv 4)) (pad_cons (pd_name (pv 3)) (pad_cons (pd_name (pv 5)) (pad_cons (pd_fix (i := 0) T.clMarket T.nMarket_sale (pv 0) (pd_name (pv 2))) (pad_cons (pd_neg pd_int) (pad_cons (pd_name (pv 2)) pad_nil)))))))))))
  (pms_cons (psd_for (passes_of rfl) (pid_en T.b_enumerate (pad_cons (pd_x (pxd_lend (i := 0) (C := "Market") n_told_loads hr (by first | decide | omega) (pad_cons (pd_fget (i := 0) T.clMarket T.nMarket_seats (pv 0)) (pad_cons (pd_fget (i := 0) T.clMarket T.nMarket_requests (pv 0)) (pad_cons (pd_fget (i := 0) T.clMarket T.nMarket_sale (pv 0)) pad_nil))))) pad_nil)) (pgd_tup (n := 2) (pgsd_cons (pgd_name (i := 7) sc.nd rfl (Or.inl rfl)) (pgsd_cons (pgd_name (i := 8) sc.nd rfl (Or.inl rfl)) pgsd_nil)))
  (pssd_cons (psd_app (i := 1) (pv 1) (pd_tup (pad_cons (pd_name (pv 7)) (pad_cons (pd_add (pd_name (pv 7)) pd_int) (pad_cons pd_int (pad_cons (pd_gint T.c_FAR) (pad_cons pd_int (pad_cons (pd_name (pv 7)) pad_nil))))))))
  (pssd_one (psd_app (i := 1) (pv 1) (pd_tup (pad_cons (pd_add (pd_name (pv 7)) pd_int) (pad_cons (pd_name (pv 7)) (pad_cons pd_int (pad_cons (pd_sub (pd_item (pd_fget (i := 0) T.clMarket T.nMarket_seats (pv 0)) (pd_name (pv 7))) (pd_name (pv 8))) (pad_cons pd_int (pad_cons (pd_name (pv 7)) pad_nil)))))))))))
  (pms_cons (psd_fset (i := 0) T.clMarket T.nMarket_roads (pv 0) (pd_x (pxd_lcF (own := [(("road" : Str), 9)]) sc.nd (pid_nmO (i := 1) (pv 1)) (by kernel_rfl) (fun _ _ _ _ _ => (pgc_name (i := 9) sc.nd rfl (by first | exact Or.inl rfl | exact Or.inr rfl) (by decide))) (fun _ _ _ _ _ => (ptsd_one (ptd_gt (pd_item (pd_name (pv 9)) pd_int) pd_int))) (fun _ _ _ _ _ => (pd_name (pv 9))))))
  pms_nil)))), ?_⟩)
  obtain ⟨sa, sd, rd, ss, rs, ms, r, rfl, rfl, M, hm, o⟩ := h
  have hs := M.sq
  have hq := M.rq
  simp [startD, wipeD, dsRet, dsRetN, dsIf, dsSeq, dsNext, dsAsg, dsDrop, dsBreak, dsCont, dsPar, dsAug, dsFrz, dsApp, dsExt, dsPut, dsAugO, dsOwn, dsParOO, dsParDO, dsParDDO, dsFrzA, dxRep, diOwn, dsRaise, deAnd, deOr, deNot, de1, de2, deB, deX, dxB, dxLst, deName, deC, deCall, deIxO, deLenO, deTup, deLst, daCons, daNil, daStar, deChain, dtChain, dtV, dtAnd, dtOr, dtNot, dtYes, deIf, deSl, doNone, doSome, rdAdd, rdSub, rdMul, rdMod, rdDiv, rdPow, rdI, rdIc, rdB, rdLt, rdLe, rdGt, rdGe, rdNeg, rdIs, rdEq, rdNe, rdIx, rdIsN, rdNotN, rdIsB, rdNotB, rdRev, rdSeats, rdCatL, rdCatT, rdRepL, rdLen, rdTuple, rdList, rxList, rdInt, rdMax2, rdMin2, dgName, dgTup, dgCons, dgNil, deRefused, rdRepr, rdNeS, rdEqL, rdNeL, rdRepT, rdIsLn, noOwn, diSeq, diEn, diZp, diR1, diR2, noX,  eqOk_int, eqOk_bl, eqOk_non, eqv_int, eqv_bl, eqv_non, atI_0, atI_1, atI_2, atI_3, qty_non, qisI_non, qisB_non, qisL_non, qisU_non, qisS_non, qisD_non, qisNon_non, qcooked_non, qseq_non, qty_bl, qisI_bl, qisB_bl, qisL_bl, qisU_bl, qisS_bl, qisD_bl, qisNon_bl, qcooked_bl, qseq_bl, qty_int, qisI_int, qisB_int, qisL_int, qisU_int, qisS_int, qisD_int, qisNon_int, qcooked_int, qseq_int, qty_str, qisI_str, qisB_str, qisL_str, qisU_str, qisS_str, qisD_str, qisNon_str, qcooked_str, qseq_str, qty_lst, qisI_lst, qisB_lst, qisL_lst, qisU_lst, qisS_lst, qisD_lst, qisNon_lst, qcooked_lst, qseq_lst, qty_tup, qisI_tup, qisB_tup, qisL_tup, qisU_tup, qisS_tup, qisD_tup, qisNon_tup, qcooked_tup, qseq_tup, qty_dct, qisI_dct, qisB_dct, qisL_dct, qisU_dct, qisS_dct, qisD_dct, qisNon_dct, qcooked_dct, qseq_dct, qix_lst, qsl_lst, qix_tup, qsl_tup, qisNon_ln, qcooked_ln, and_assoc, exists_and_left, exists_eq_left, exists_eq_left', exists_eq_right, deFget, dsFset, dsFsetO, deFix, dsFaug, dmCall, dmIx, dsDropM, dsAsgM, dmsSeq, dmsRet, dmsNil, dmsIf, dmsFrz, startM, dnMake, deNfld, deNmeth, dxLend, deLend, dnsSeq, dnsRet, putM1, putM2, putM3, putM4, mkSt, lkM_seats, lkM_requests, lkM_sale, lkM_roads, lkM_lay, lkM_len, lkM_bet, lkM_pri, putM_roads, lenM, rdInI, rdEqS, dxLc_eq, dsFor_eq, rngD_0, rngD_eq, zipD_map, enumD_map0, hs, hq]
  refine fb_on rs.zipIdx (fun i δ' => ∃ a b c d e f g h : Sl, δ' = [.obj m dx "Market" sa (fsM sa sd rd r) (some (ms.map .int)), .own (((List.range i).flatMap (reqRoads rs ms)).map roadD), a, b, c, d, e, f, g, h]) ⟨_, _, _, _, _, _, _, _, rfl⟩ (fun i p δ' hi hj => ?_) (fun δ' hj => ?_)
  · obtain ⟨a, b, c, d, e, f, g, h, rfl⟩ := hj
    obtain ⟨q, j⟩ := p
    have hy : rs[i]? = some q ∧ i = j := by
      rw [List.getElem?_zipIdx, Option.map_eq_some_iff] at hi
      obtain ⟨z, hz, e⟩ := hi
      cases e
      exact ⟨hz, by omega⟩
    obtain ⟨hy, rfl⟩ := hy
    have lt : i < rs.length := (List.getElem?_eq_some_iff.mp hy).1
    have hl := reqs_length rs ms i
    have rl := M.rl
    have ok := M.ok q (List.mem_of_getElem? hy)
    have oa := ok.a0
    have ob := ok.ab
    rw [reqs_snoc, List.map_append]
    have e1 : (reqRoads rs ms i).map roadD = [D.tup [.int q.a, .int q.b, .int (-q.f), .int (q.m - miAt ms i), .int 1, .int (i : Int)], D.tup [.int q.b, .int q.a, .int q.f, .int (miAt ms i), .int (-1), .int (i : Int)]] := by
      unfold reqRoads
      rw [atRq hy]
      simp [roadD, Int.toNat_of_nonneg oa, Int.toNat_of_nonneg (show 0 ≤ q.b by omega)]
    rw [e1]
    generalize (List.range i).flatMap (reqRoads rs ms) = L at hl
    simp [startD, wipeD, dsRet, dsRetN, dsIf, dsSeq, dsNext, dsAsg, dsDrop, dsBreak, dsCont, dsPar, dsAug, dsFrz, dsApp, dsExt, dsPut, dsAugO, dsOwn, dsParOO, dsParDO, dsParDDO, dsFrzA, dxRep, diOwn, dsRaise, deAnd, deOr, deNot, de1, de2, deB, deX, dxB, dxLst, deName, deC, deCall, deIxO, deLenO, deTup, deLst, daCons, daNil, daStar, deChain, dtChain, dtV, dtAnd, dtOr, dtNot, dtYes, deIf, deSl, doNone, doSome, rdAdd, rdSub, rdMul, rdMod, rdDiv, rdPow, rdI, rdIc, rdB, rdLt, rdLe, rdGt, rdGe, rdNeg, rdIs, rdEq, rdNe, rdIx, rdIsN, rdNotN, rdIsB, rdNotB, rdRev, rdSeats, rdCatL, rdCatT, rdRepL, rdLen, rdTuple, rdList, rxList, rdInt, rdMax2, rdMin2, dgName, dgTup, dgCons, dgNil, deRefused, rdRepr, rdNeS, rdEqL, rdNeL, rdRepT, rdIsLn, noOwn, diSeq, diEn, diZp, diR1, diR2, noX,  eqOk_int, eqOk_bl, eqOk_non, eqv_int, eqv_bl, eqv_non, atI_0, atI_1, atI_2, atI_3, qty_non, qisI_non, qisB_non, qisL_non, qisU_non, qisS_non, qisD_non, qisNon_non, qcooked_non, qseq_non, qty_bl, qisI_bl, qisB_bl, qisL_bl, qisU_bl, qisS_bl, qisD_bl, qisNon_bl, qcooked_bl, qseq_bl, qty_int, qisI_int, qisB_int, qisL_int, qisU_int, qisS_int, qisD_int, qisNon_int, qcooked_int, qseq_int, qty_str, qisI_str, qisB_str, qisL_str, qisU_str, qisS_str, qisD_str, qisNon_str, qcooked_str, qseq_str, qty_lst, qisI_lst, qisB_lst, qisL_lst, qisU_lst, qisS_lst, qisD_lst, qisNon_lst, qcooked_lst, qseq_lst, qty_tup, qisI_tup, qisB_tup, qisL_tup, qisU_tup, qisS_tup, qisD_tup, qisNon_tup, qcooked_tup, qseq_tup, qty_dct, qisI_dct, qisB_dct, qisL_dct, qisU_dct, qisS_dct, qisD_dct, qisNon_dct, qcooked_dct, qseq_dct, qix_lst, qsl_lst, qix_tup, qsl_tup, qisNon_ln, qcooked_ln, and_assoc, exists_and_left, exists_eq_left, exists_eq_left', exists_eq_right, deFget, dsFset, dsFsetO, deFix, dsFaug, dmCall, dmIx, dsDropM, dsAsgM, dmsSeq, dmsRet, dmsNil, dmsIf, dmsFrz, startM, dnMake, deNfld, deNmeth, dxLend, deLend, dnsSeq, dnsRet, putM1, putM2, putM3, putM4, mkSt, lkM_seats, lkM_requests, lkM_sale, lkM_roads, lkM_lay, lkM_len, lkM_bet, lkM_pri, putM_roads, lenM, rdInI, rdEqS, dxLc_eq, dsFor_eq, rngD_0, rngD_eq, zipD_map, enumD_map0, Rq.d, atM (ms := ms) (i := i) (by omega)]
    omega
  · obtain ⟨a, b, c, d, e, f, g, h, rfl⟩ := hj
    rw [List.length_zipIdx]
    have hl := reqs_length rs ms rs.length
    have rl := M.rl
    have sl := M.sl
    have ea : allRoads ss rs ms = (List.range rs.length).flatMap (reqRoads rs ms) ++ (List.range ss.length).flatMap (legRoads ss rs ms) := rfl
    unfold roadsN at o
    rw [ea] at o
    generalize (List.range rs.length).flatMap (reqRoads rs ms) = L at hl o
    simp [startD, wipeD, dsRet, dsRetN, dsIf, dsSeq, dsNext, dsAsg, dsDrop, dsBreak, dsCont, dsPar, dsAug, dsFrz, dsApp, dsExt, dsPut, dsAugO, dsOwn, dsParOO, dsParDO, dsParDDO, dsFrzA, dxRep, diOwn, dsRaise, deAnd, deOr, deNot, de1, de2, deB, deX, dxB, dxLst, deName, deC, deCall, deIxO, deLenO, deTup, deLst, daCons, daNil, daStar, deChain, dtChain, dtV, dtAnd, dtOr, dtNot, dtYes, deIf, deSl, doNone, doSome, rdAdd, rdSub, rdMul, rdMod, rdDiv, rdPow, rdI, rdIc, rdB, rdLt, rdLe, rdGt, rdGe, rdNeg, rdIs, rdEq, rdNe, rdIx, rdIsN, rdNotN, rdIsB, rdNotB, rdRev, rdSeats, rdCatL, rdCatT, rdRepL, rdLen, rdTuple, rdList, rxList, rdInt, rdMax2, rdMin2, dgName, dgTup, dgCons, dgNil, deRefused, rdRepr, rdNeS, rdEqL, rdNeL, rdRepT, rdIsLn, noOwn, diSeq, diEn, diZp, diR1, diR2, noX,  eqOk_int, eqOk_bl, eqOk_non, eqv_int, eqv_bl, eqv_non, atI_0, atI_1, atI_2, atI_3, qty_non, qisI_non, qisB_non, qisL_non, qisU_non, qisS_non, qisD_non, qisNon_non, qcooked_non, qseq_non, qty_bl, qisI_bl, qisB_bl, qisL_bl, qisU_bl, qisS_bl, qisD_bl, qisNon_bl, qcooked_bl, qseq_bl, qty_int, qisI_int, qisB_int, qisL_int, qisU_int, qisS_int, qisD_int, qisNon_int, qcooked_int, qseq_int, qty_str, qisI_str, qisB_str, qisL_str, qisU_str, qisS_str, qisD_str, qisNon_str, qcooked_str, qseq_str, qty_lst, qisI_lst, qisB_lst, qisL_lst, qisU_lst, qisS_lst, qisD_lst, qisNon_lst, qcooked_lst, qseq_lst, qty_tup, qisI_tup, qisB_tup, qisL_tup, qisU_tup, qisS_tup, qisD_tup, qisNon_tup, qcooked_tup, qseq_tup, qty_dct, qisI_dct, qisB_dct, qisL_dct, qisU_dct, qisS_dct, qisD_dct, qisNon_dct, qcooked_dct, qseq_dct, qix_lst, qsl_lst, qix_tup, qsl_tup, qisNon_ln, qcooked_ln, and_assoc, exists_and_left, exists_eq_left, exists_eq_left', exists_eq_right, deFget, dsFset, dsFsetO, deFix, dsFaug, dmCall, dmIx, dsDropM, dsAsgM, dmsSeq, dmsRet, dmsNil, dmsIf, dmsFrz, startM, dnMake, deNfld, deNmeth, dxLend, deLend, dnsSeq, dnsRet, putM1, putM2, putM3, putM4, mkSt, lkM_seats, lkM_requests, lkM_sale, lkM_roads, lkM_lay, lkM_len, lkM_bet, lkM_pri, putM_roads, lenM, rdInI, rdEqS, dxLc_eq, dsFor_eq, rngD_0, rngD_eq, zipD_map, enumD_map0, hs, hq]
    refine ⟨[sd, rd], rfl, ?_⟩
    refine ⟨sd, rd, .lst (ms.map .int), ss.map .int, rs, ms, rfl, hs, by rw [List.length_map]; omega, hq, rfl, by rw [List.length_map]; exact M.ok, by omega, hm.symm, ⟨_, rfl⟩, ?_⟩
    rw [List.length_map]
    simp [startD, wipeD, dsRet, dsRetN, dsIf, dsSeq, dsNext, dsAsg, dsDrop, dsBreak, dsCont, dsPar, dsAug, dsFrz, dsApp, dsExt, dsPut, dsAugO, dsOwn, dsParOO, dsParDO, dsParDDO, dsFrzA, dxRep, diOwn, dsRaise, deAnd, deOr, deNot, de1, de2, deB, deX, dxB, dxLst, deName, deC, deCall, deIxO, deLenO, deTup, deLst, daCons, daNil, daStar, deChain, dtChain, dtV, dtAnd, dtOr, dtNot, dtYes, deIf, deSl, doNone, doSome, rdAdd, rdSub, rdMul, rdMod, rdDiv, rdPow, rdI, rdIc, rdB, rdLt, rdLe, rdGt, rdGe, rdNeg, rdIs, rdEq, rdNe, rdIx, rdIsN, rdNotN, rdIsB, rdNotB, rdRev, rdSeats, rdCatL, rdCatT, rdRepL, rdLen, rdTuple, rdList, rxList, rdInt, rdMax2, rdMin2, dgName, dgTup, dgCons, dgNil, deRefused, rdRepr, rdNeS, rdEqL, rdNeL, rdRepT, rdIsLn, noOwn, diSeq, diEn, diZp, diR1, diR2, noX,  eqOk_int, eqOk_bl, eqOk_non, eqv_int, eqv_bl, eqv_non, atI_0, atI_1, atI_2, atI_3, qty_non, qisI_non, qisB_non, qisL_non, qisU_non, qisS_non, qisD_non, qisNon_non, qcooked_non, qseq_non, qty_bl, qisI_bl, qisB_bl, qisL_bl, qisU_bl, qisS_bl, qisD_bl, qisNon_bl, qcooked_bl, qseq_bl, qty_int, qisI_int, qisB_int, qisL_int, qisU_int, qisS_int, qisD_int, qisNon_int, qcooked_int, qseq_int, qty_str, qisI_str, qisB_str, qisL_str, qisU_str, qisS_str, qisD_str, qisNon_str, qcooked_str, qseq_str, qty_lst, qisI_lst, qisB_lst, qisL_lst, qisU_lst, qisS_lst, qisD_lst, qisNon_lst, qcooked_lst, qseq_lst, qty_tup, qisI_tup, qisB_tup, qisL_tup, qisU_tup, qisS_tup, qisD_tup, qisNon_tup, qcooked_tup, qseq_tup, qty_dct, qisI_dct, qisB_dct, qisL_dct, qisU_dct, qisS_dct, qisD_dct, qisNon_dct, qcooked_dct, qseq_dct, qix_lst, qsl_lst, qix_tup, qsl_tup, qisNon_ln, qcooked_ln, and_assoc, exists_and_left, exists_eq_left, exists_eq_left', exists_eq_right, deFget, dsFset, dsFsetO, deFix, dsFaug, dmCall, dmIx, dsDropM, dsAsgM, dmsSeq, dmsRet, dmsNil, dmsIf, dmsFrz, startM, dnMake, deNfld, deNmeth, dxLend, deLend, dnsSeq, dnsRet, putM1, putM2, putM3, putM4, mkSt, lkM_seats, lkM_requests, lkM_sale, lkM_roads, lkM_lay, lkM_len, lkM_bet, lkM_pri, putM_roads, lenM, rdInI, rdEqS, dxLc_eq, dsFor_eq, rngD_0, rngD_eq, zipD_map, enumD_map0]
    refine fb_on (loadsM ss.length rs ms).zipIdx (fun i δ' => ∃ a b c d e f g h : Sl, δ' = [.obj m dx "Market" sa (fsM sa sd rd r) (some (ms.map .int)), .own ((L ++ (List.range i).flatMap (legRoads ss rs ms)).map roadD), a, b, c, d, e, f, g, h]) ⟨a, b, c, d, e, f, g, h, by simp⟩ (fun i p δ' hi hj => ?_) (fun δ' hj => ?_)
    · obtain ⟨a, b, c, d, e, f, g, h, rfl⟩ := hj
      obtain ⟨q, j⟩ := p
      have hy : i < ss.length ∧ q = loadAt rs ms i ∧ i = j := by
        rw [List.getElem?_zipIdx, Option.map_eq_some_iff] at hi
        obtain ⟨z, hz, e⟩ := hi
        cases e
        unfold loadsM at hz
        rw [List.getElem?_map, Option.map_eq_some_iff] at hz
        obtain ⟨y, hy, rfl⟩ := hz
        obtain ⟨h1, rfl⟩ := range_at hy
        exact ⟨h1, rfl, by omega⟩
      obtain ⟨hy, rfl, rfl⟩ := hy
      have hl2 := legs_length ss rs ms i
      rw [legs_snoc, List.map_append, List.map_append, List.map_append]
      have e1 : (legRoads ss rs ms i).map roadD = [D.tup [.int (i : Int), .int ((i : Int) + 1), .int 0, .int 1000000000, .int 0, .int (i : Int)], D.tup [.int ((i : Int) + 1), .int (i : Int), .int 0, .int (miAt ss i - loadAt rs ms i), .int 0, .int (i : Int)]] := by
        unfold legRoads
        simp [roadD, far]
      rw [e1]
      generalize (List.range i).flatMap (legRoads ss rs ms) = L2 at hl2
      simp [startD, wipeD, dsRet, dsRetN, dsIf, dsSeq, dsNext, dsAsg, dsDrop, dsBreak, dsCont, dsPar, dsAug, dsFrz, dsApp, dsExt, dsPut, dsAugO, dsOwn, dsParOO, dsParDO, dsParDDO, dsFrzA, dxRep, diOwn, dsRaise, deAnd, deOr, deNot, de1, de2, deB, deX, dxB, dxLst, deName, deC, deCall, deIxO, deLenO, deTup, deLst, daCons, daNil, daStar, deChain, dtChain, dtV, dtAnd, dtOr, dtNot, dtYes, deIf, deSl, doNone, doSome, rdAdd, rdSub, rdMul, rdMod, rdDiv, rdPow, rdI, rdIc, rdB, rdLt, rdLe, rdGt, rdGe, rdNeg, rdIs, rdEq, rdNe, rdIx, rdIsN, rdNotN, rdIsB, rdNotB, rdRev, rdSeats, rdCatL, rdCatT, rdRepL, rdLen, rdTuple, rdList, rxList, rdInt, rdMax2, rdMin2, dgName, dgTup, dgCons, dgNil, deRefused, rdRepr, rdNeS, rdEqL, rdNeL, rdRepT, rdIsLn, noOwn, diSeq, diEn, diZp, diR1, diR2, noX,  eqOk_int, eqOk_bl, eqOk_non, eqv_int, eqv_bl, eqv_non, atI_0, atI_1, atI_2, atI_3, qty_non, qisI_non, qisB_non, qisL_non, qisU_non, qisS_non, qisD_non, qisNon_non, qcooked_non, qseq_non, qty_bl, qisI_bl, qisB_bl, qisL_bl, qisU_bl, qisS_bl, qisD_bl, qisNon_bl, qcooked_bl, qseq_bl, qty_int, qisI_int, qisB_int, qisL_int, qisU_int, qisS_int, qisD_int, qisNon_int, qcooked_int, qseq_int, qty_str, qisI_str, qisB_str, qisL_str, qisU_str, qisS_str, qisD_str, qisNon_str, qcooked_str, qseq_str, qty_lst, qisI_lst, qisB_lst, qisL_lst, qisU_lst, qisS_lst, qisD_lst, qisNon_lst, qcooked_lst, qseq_lst, qty_tup, qisI_tup, qisB_tup, qisL_tup, qisU_tup, qisS_tup, qisD_tup, qisNon_tup, qcooked_tup, qseq_tup, qty_dct, qisI_dct, qisB_dct, qisL_dct, qisU_dct, qisS_dct, qisD_dct, qisNon_dct, qcooked_dct, qseq_dct, qix_lst, qsl_lst, qix_tup, qsl_tup, qisNon_ln, qcooked_ln, and_assoc, exists_and_left, exists_eq_left, exists_eq_left', exists_eq_right, deFget, dsFset, dsFsetO, deFix, dsFaug, dmCall, dmIx, dsDropM, dsAsgM, dmsSeq, dmsRet, dmsNil, dmsIf, dmsFrz, startM, dnMake, deNfld, deNmeth, dxLend, deLend, dnsSeq, dnsRet, putM1, putM2, putM3, putM4, mkSt, lkM_seats, lkM_requests, lkM_sale, lkM_roads, lkM_lay, lkM_len, lkM_bet, lkM_pri, putM_roads, lenM, rdInI, rdEqS, dxLc_eq, dsFor_eq, rngD_0, rngD_eq, zipD_map, enumD_map0, hs, ix_of hs, atM (ms := ss) (i := i) hy]
      omega
    · obtain ⟨a, b, c, d, e, f, g, h, rfl⟩ := hj
      have hl2 := legs_length ss rs ms ss.length
      have e0 : (loadsM ss.length rs ms).zipIdx.length = ss.length := by simp [loadsM]
      rw [e0]
      generalize (List.range ss.length).flatMap (legRoads ss rs ms) = L2 at hl2 o
      simp [startD, wipeD, dsRet, dsRetN, dsIf, dsSeq, dsNext, dsAsg, dsDrop, dsBreak, dsCont, dsPar, dsAug, dsFrz, dsApp, dsExt, dsPut, dsAugO, dsOwn, dsParOO, dsParDO, dsParDDO, dsFrzA, dxRep, diOwn, dsRaise, deAnd, deOr, deNot, de1, de2, deB, deX, dxB, dxLst, deName, deC, deCall, deIxO, deLenO, deTup, deLst, daCons, daNil, daStar, deChain, dtChain, dtV, dtAnd, dtOr, dtNot, dtYes, deIf, deSl, doNone, doSome, rdAdd, rdSub, rdMul, rdMod, rdDiv, rdPow, rdI, rdIc, rdB, rdLt, rdLe, rdGt, rdGe, rdNeg, rdIs, rdEq, rdNe, rdIx, rdIsN, rdNotN, rdIsB, rdNotB, rdRev, rdSeats, rdCatL, rdCatT, rdRepL, rdLen, rdTuple, rdList, rxList, rdInt, rdMax2, rdMin2, dgName, dgTup, dgCons, dgNil, deRefused, rdRepr, rdNeS, rdEqL, rdNeL, rdRepT, rdIsLn, noOwn, diSeq, diEn, diZp, diR1, diR2, noX,  eqOk_int, eqOk_bl, eqOk_non, eqv_int, eqv_bl, eqv_non, atI_0, atI_1, atI_2, atI_3, qty_non, qisI_non, qisB_non, qisL_non, qisU_non, qisS_non, qisD_non, qisNon_non, qcooked_non, qseq_non, qty_bl, qisI_bl, qisB_bl, qisL_bl, qisU_bl, qisS_bl, qisD_bl, qisNon_bl, qcooked_bl, qseq_bl, qty_int, qisI_int, qisB_int, qisL_int, qisU_int, qisS_int, qisD_int, qisNon_int, qcooked_int, qseq_int, qty_str, qisI_str, qisB_str, qisL_str, qisU_str, qisS_str, qisD_str, qisNon_str, qcooked_str, qseq_str, qty_lst, qisI_lst, qisB_lst, qisL_lst, qisU_lst, qisS_lst, qisD_lst, qisNon_lst, qcooked_lst, qseq_lst, qty_tup, qisI_tup, qisB_tup, qisL_tup, qisU_tup, qisS_tup, qisD_tup, qisNon_tup, qcooked_tup, qseq_tup, qty_dct, qisI_dct, qisB_dct, qisL_dct, qisU_dct, qisS_dct, qisD_dct, qisNon_dct, qcooked_dct, qseq_dct, qix_lst, qsl_lst, qix_tup, qsl_tup, qisNon_ln, qcooked_ln, and_assoc, exists_and_left, exists_eq_left, exists_eq_left', exists_eq_right, deFget, dsFset, dsFsetO, deFix, dsFaug, dmCall, dmIx, dsDropM, dsAsgM, dmsSeq, dmsRet, dmsNil, dmsIf, dmsFrz, startM, dnMake, deNfld, deNmeth, dxLend, deLend, dnsSeq, dnsRet, putM1, putM2, putM3, putM4, mkSt, lkM_seats, lkM_requests, lkM_sale, lkM_roads, lkM_lay, lkM_len, lkM_bet, lkM_pri, putM_roads, lenM, rdInI, rdEqS, dxLc_eq, dsFor_eq, rngD_0, rngD_eq, zipD_map, enumD_map0]
      rw [← List.map_append]
      refine lb_onF (L ++ L2) roadD (fun e => decide (0 < e.cap)) (by rw [List.length_append]; omega) (fun x hx R1 R2 r1 r2 => ?_) ?_
      · simp [startD, wipeD, dsRet, dsRetN, dsIf, dsSeq, dsNext, dsAsg, dsDrop, dsBreak, dsCont, dsPar, dsAug, dsFrz, dsApp, dsExt, dsPut, dsAugO, dsOwn, dsParOO, dsParDO, dsParDDO, dsFrzA, dxRep, diOwn, dsRaise, deAnd, deOr, deNot, de1, de2, deB, deX, dxB, dxLst, deName, deC, deCall, deIxO, deLenO, deTup, deLst, daCons, daNil, daStar, deChain, dtChain, dtV, dtAnd, dtOr, dtNot, dtYes, deIf, deSl, doNone, doSome, rdAdd, rdSub, rdMul, rdMod, rdDiv, rdPow, rdI, rdIc, rdB, rdLt, rdLe, rdGt, rdGe, rdNeg, rdIs, rdEq, rdNe, rdIx, rdIsN, rdNotN, rdIsB, rdNotB, rdRev, rdSeats, rdCatL, rdCatT, rdRepL, rdLen, rdTuple, rdList, rxList, rdInt, rdMax2, rdMin2, dgName, dgTup, dgCons, dgNil, deRefused, rdRepr, rdNeS, rdEqL, rdNeL, rdRepT, rdIsLn, noOwn, diSeq, diEn, diZp, diR1, diR2, noX,  eqOk_int, eqOk_bl, eqOk_non, eqv_int, eqv_bl, eqv_non, atI_0, atI_1, atI_2, atI_3, qty_non, qisI_non, qisB_non, qisL_non, qisU_non, qisS_non, qisD_non, qisNon_non, qcooked_non, qseq_non, qty_bl, qisI_bl, qisB_bl, qisL_bl, qisU_bl, qisS_bl, qisD_bl, qisNon_bl, qcooked_bl, qseq_bl, qty_int, qisI_int, qisB_int, qisL_int, qisU_int, qisS_int, qisD_int, qisNon_int, qcooked_int, qseq_int, qty_str, qisI_str, qisB_str, qisL_str, qisU_str, qisS_str, qisD_str, qisNon_str, qcooked_str, qseq_str, qty_lst, qisI_lst, qisB_lst, qisL_lst, qisU_lst, qisS_lst, qisD_lst, qisNon_lst, qcooked_lst, qseq_lst, qty_tup, qisI_tup, qisB_tup, qisL_tup, qisU_tup, qisS_tup, qisD_tup, qisNon_tup, qcooked_tup, qseq_tup, qty_dct, qisI_dct, qisB_dct, qisL_dct, qisU_dct, qisS_dct, qisD_dct, qisNon_dct, qcooked_dct, qseq_dct, qix_lst, qsl_lst, qix_tup, qsl_tup, qisNon_ln, qcooked_ln, and_assoc, exists_and_left, exists_eq_left, exists_eq_left', exists_eq_right, deFget, dsFset, dsFsetO, deFix, dsFaug, dmCall, dmIx, dsDropM, dsAsgM, dmsSeq, dmsRet, dmsNil, dmsIf, dmsFrz, startM, dnMake, deNfld, deNmeth, dxLend, deLend, dnsSeq, dnsRet, putM1, putM2, putM3, putM4, mkSt, lkM_seats, lkM_requests, lkM_sale, lkM_roads, lkM_lay, lkM_len, lkM_bet, lkM_pri, putM_roads, lenM, rdInI, rdEqS, dxLc_eq, dsFor_eq, rngD_0, rngD_eq, zipD_map, enumD_map0, rd3]
        split
        · rename_i h1
          exact r1 (by simpa using h1)
        · rename_i h1
          exact r2 (by simpa using h1)
      · exact ⟨mkSt sa sd rd ms (roadsD ((L ++ L2).filter fun e => decide (0 < e.cap))), rfl, rfl, rfl, o⟩

end
end K12
end
-- F_12_Market_lengths
section
set_option Elab.async false
set_option linter.all false
set_option maxRecDepth 100000
set_option maxHeartbeats 4000000
set_option autoImplicit false
namespace K12
open PySem PySem.Spec PyProof.Rows L2 Sd
section
variable {P : Program} {w : World} {K : PySem.W.Frag} {mg : Str → Option Value} {base : Heap}
theorem ok_Market_lengths (T : Txt K mg) {f : Addr} {fd : FuncData} (F : FunD K "lengths" "Market.lengths" (defArgs s_Market_lengths) (defBody s_Market_lengths) (defScope s_Market_lengths) [] [] f fd) : FnOk P w K mg base (L2.CX P w) 1 f fd ["self"] (spM K "Market" sp_lengths) := by
  have sc := sc_Market_lengths
  refine fnM F sc (fun st ds O h => by
    obtain ⟨_, _, _, _, _, _, _, e, _⟩ := h
    rw [e] <;> rfl) (by decide) (fun cdv A outer s H G E m dx st ds O hr h => ⟨_, (pms_cons (psd_set (i := 1) sc.nd rfl (Or.inl rfl) (pd_add (pd_callB call_len_seq snd_len T.b_len (pad_cons (pd_fget (i := 0) T.clMarket T.nMarket_seats (pv 0)) pad_nil)) pd_int))
  (pms_cons (psd_ownLc (i := 2) sc.nd rfl rfl (sw_true rfl rfl rfl (by kernel_rfl)) (own := [(("_" : Str), 5)]) (pid_r1 T.b_range (pad_cons (pd_name (pv 1)) pad_nil)) (by kernel_rfl) (fun _ _ _ _ _ => (pgc_name (i := 5) sc.nd rfl (by first | exact Or.inl rfl | exact Or.inr rfl) (by decide))) (fun _ _ _ _ _ => ptsd_nil) (fun _ _ _ _ _ => pd_int))
  (pms_cons (psd_ownLc (i := 3) sc.nd rfl rfl (sw_true rfl rfl rfl (by kernel_rfl)) (own := [(("_" : Str), 5)]) (pid_r1 T.b_range (pad_cons (pd_name (pv 1)) pad_nil)) (by kernel_rfl) (fun _ _ _ _ _ => (pgc_name (i := 5) sc.nd rfl (by first | exact Or.inl rfl | exact Or.inr rfl) (by decide))) (fun _ _ _ _ _ => ptsd_nil) (fun _ _ _ _ _ => pd_non))
  (pms_cons (psd_set (i := 4) sc.nd rfl (Or.inl rfl) pd_non)
  (pms_cons (psd_for (passes_of rfl) (pid_r1 T.b_range (pad_cons (pd_add (pd_name (pv 1)) pd_int) pad_nil)) (pgd_name (i := 5) sc.nd rfl (Or.inl rfl))
  (pssd_cons (psd_set (i := 4) sc.nd rfl (Or.inl rfl) pd_non)
  (pssd_one (psd_for (passes_of rfl) (pid_seq (pd_fget (i := 0) T.clMarket T.nMarket_roads (pv 0))) (pgd_name (i := 6) sc.nd rfl (Or.inl rfl))
  (pssd_one (psd_if (ptd_lt (pd_add (pd_ixO (i := 2) (pv 2) (pd_item (pd_name (pv 6)) pd_int)) (pd_item (pd_name (pv 6)) pd_int)) (pd_ixO (i := 2) (pv 2) (pd_item (pd_name (pv 6)) pd_int)))
  (pssd_cons (psd_put (i := 2) (pv 2) (pd_item (pd_name (pv 6)) pd_int) (pd_add (pd_ixO (i := 2) (pv 2) (pd_item (pd_name (pv 6)) pd_int)) (pd_item (pd_name (pv 6)) pd_int)))
  (pssd_cons (psd_put (i := 3) (pv 3) (pd_item (pd_name (pv 6)) pd_int) (pd_name (pv 6)))
  (pssd_one (psd_set (i := 4) sc.nd rfl (Or.inl rfl) (pd_item (pd_name (pv 6)) pd_int)))))
  pssd_nil))))))
  (pms_frz 2 (pms_frz 3 (pms_ret (pd_tup (pad_cons (pd_name (pv 2)) (pad_cons (pd_name (pv 3)) (pad_cons (pd_name (pv 4)) pad_nil)))))))))))), ?_⟩)
  obtain ⟨sa, sd, rd, xs, ms, R, rfl, rfl, hs, hl, he, o⟩ := h
  simp [startD, wipeD, dsRet, dsRetN, dsIf, dsSeq, dsNext, dsAsg, dsDrop, dsBreak, dsCont, dsPar, dsAug, dsFrz, dsApp, dsExt, dsPut, dsAugO, dsOwn, dsParOO, dsParDO, dsParDDO, dsFrzA, dxRep, diOwn, dsRaise, deAnd, deOr, deNot, de1, de2, deB, deX, dxB, dxLst, deName, deC, deCall, deIxO, deLenO, deTup, deLst, daCons, daNil, daStar, deChain, dtChain, dtV, dtAnd, dtOr, dtNot, dtYes, deIf, deSl, doNone, doSome, rdAdd, rdSub, rdMul, rdMod, rdDiv, rdPow, rdI, rdIc, rdB, rdLt, rdLe, rdGt, rdGe, rdNeg, rdIs, rdEq, rdNe, rdIx, rdIsN, rdNotN, rdIsB, rdNotB, rdRev, rdSeats, rdCatL, rdCatT, rdRepL, rdLen, rdTuple, rdList, rxList, rdInt, rdMax2, rdMin2, dgName, dgTup, dgCons, dgNil, deRefused, rdRepr, rdNeS, rdEqL, rdNeL, rdRepT, rdIsLn, noOwn, diSeq, diEn, diZp, diR1, diR2, noX,  eqOk_int, eqOk_bl, eqOk_non, eqv_int, eqv_bl, eqv_non, atI_0, atI_1, atI_2, atI_3, qty_non, qisI_non, qisB_non, qisL_non, qisU_non, qisS_non, qisD_non, qisNon_non, qcooked_non, qseq_non, qty_bl, qisI_bl, qisB_bl, qisL_bl, qisU_bl, qisS_bl, qisD_bl, qisNon_bl, qcooked_bl, qseq_bl, qty_int, qisI_int, qisB_int, qisL_int, qisU_int, qisS_int, qisD_int, qisNon_int, qcooked_int, qseq_int, qty_str, qisI_str, qisB_str, qisL_str, qisU_str, qisS_str, qisD_str, qisNon_str, qcooked_str, qseq_str, qty_lst, qisI_lst, qisB_lst, qisL_lst, qisU_lst, qisS_lst, qisD_lst, qisNon_lst, qcooked_lst, qseq_lst, qty_tup, qisI_tup, qisB_tup, qisL_tup, qisU_tup, qisS_tup, qisD_tup, qisNon_tup, qcooked_tup, qseq_tup, qty_dct, qisI_dct, qisB_dct, qisL_dct, qisU_dct, qisS_dct, qisD_dct, qisNon_dct, qcooked_dct, qseq_dct, qix_lst, qsl_lst, qix_tup, qsl_tup, qisNon_ln, qcooked_ln, and_assoc, exists_and_left, exists_eq_left, exists_eq_left', exists_eq_right, deFget, dsFset, dsFsetO, deFix, dsFaug, dmCall, dmIx, dsDropM, dsAsgM, dmsSeq, dmsRet, dmsNil, dmsIf, dmsFrz, startM, dnMake, deNfld, deNmeth, dxLend, deLend, dnsSeq, dnsRet, putM1, putM2, putM3, putM4, mkSt, lkM_seats, lkM_requests, lkM_sale, lkM_roads, lkM_lay, lkM_len, lkM_bet, lkM_pri, putM_roads, lenM, rdInI, rdEqS, dxLc_eq, dsFor_eq, rngD_0, rngD_eq, zipD_map, enumD_map0, hs]
  refine ⟨by omega, by omega, lb_on _ (fun _ => D.int 0) (by simp; omega) (fun x hx R' hR => by simp [startD, wipeD, dsRet, dsRetN, dsIf, dsSeq, dsNext, dsAsg, dsDrop, dsBreak, dsCont, dsPar, dsAug, dsFrz, dsApp, dsExt, dsPut, dsAugO, dsOwn, dsParOO, dsParDO, dsParDDO, dsFrzA, dxRep, diOwn, dsRaise, deAnd, deOr, deNot, de1, de2, deB, deX, dxB, dxLst, deName, deC, deCall, deIxO, deLenO, deTup, deLst, daCons, daNil, daStar, deChain, dtChain, dtV, dtAnd, dtOr, dtNot, dtYes, deIf, deSl, doNone, doSome, rdAdd, rdSub, rdMul, rdMod, rdDiv, rdPow, rdI, rdIc, rdB, rdLt, rdLe, rdGt, rdGe, rdNeg, rdIs, rdEq, rdNe, rdIx, rdIsN, rdNotN, rdIsB, rdNotB, rdRev, rdSeats, rdCatL, rdCatT, rdRepL, rdLen, rdTuple, rdList, rxList, rdInt, rdMax2, rdMin2, dgName, dgTup, dgCons, dgNil, deRefused, rdRepr, rdNeS, rdEqL, rdNeL, rdRepT, rdIsLn, noOwn, diSeq, diEn, diZp, diR1, diR2, noX,  eqOk_int, eqOk_bl, eqOk_non, eqv_int, eqv_bl, eqv_non, atI_0, atI_1, atI_2, atI_3, qty_non, qisI_non, qisB_non, qisL_non, qisU_non, qisS_non, qisD_non, qisNon_non, qcooked_non, qseq_non, qty_bl, qisI_bl, qisB_bl, qisL_bl, qisU_bl, qisS_bl, qisD_bl, qisNon_bl, qcooked_bl, qseq_bl, qty_int, qisI_int, qisB_int, qisL_int, qisU_int, qisS_int, qisD_int, qisNon_int, qcooked_int, qseq_int, qty_str, qisI_str, qisB_str, qisL_str, qisU_str, qisS_str, qisD_str, qisNon_str, qcooked_str, qseq_str, qty_lst, qisI_lst, qisB_lst, qisL_lst, qisU_lst, qisS_lst, qisD_lst, qisNon_lst, qcooked_lst, qseq_lst, qty_tup, qisI_tup, qisB_tup, qisL_tup, qisU_tup, qisS_tup, qisD_tup, qisNon_tup, qcooked_tup, qseq_tup, qty_dct, qisI_dct, qisB_dct, qisL_dct, qisU_dct, qisS_dct, qisD_dct, qisNon_dct, qcooked_dct, qseq_dct, qix_lst, qsl_lst, qix_tup, qsl_tup, qisNon_ln, qcooked_ln, and_assoc, exists_and_left, exists_eq_left, exists_eq_left', exists_eq_right, deFget, dsFset, dsFsetO, deFix, dsFaug, dmCall, dmIx, dsDropM, dsAsgM, dmsSeq, dmsRet, dmsNil, dmsIf, dmsFrz, startM, dnMake, deNfld, deNmeth, dxLend, deLend, dnsSeq, dnsRet, putM1, putM2, putM3, putM4, mkSt, lkM_seats, lkM_requests, lkM_sale, lkM_roads, lkM_lay, lkM_len, lkM_bet, lkM_pri, putM_roads, lenM, rdInI, rdEqS, dxLc_eq, dsFor_eq, rngD_0, rngD_eq, zipD_map, enumD_map0]; exact hR) ⟨by omega, by omega, lb_on _ (fun _ => D.non) (by simp; omega) (fun x hx R' hR => by simp [startD, wipeD, dsRet, dsRetN, dsIf, dsSeq, dsNext, dsAsg, dsDrop, dsBreak, dsCont, dsPar, dsAug, dsFrz, dsApp, dsExt, dsPut, dsAugO, dsOwn, dsParOO, dsParDO, dsParDDO, dsFrzA, dxRep, diOwn, dsRaise, deAnd, deOr, deNot, de1, de2, deB, deX, dxB, dxLst, deName, deC, deCall, deIxO, deLenO, deTup, deLst, daCons, daNil, daStar, deChain, dtChain, dtV, dtAnd, dtOr, dtNot, dtYes, deIf, deSl, doNone, doSome, rdAdd, rdSub, rdMul, rdMod, rdDiv, rdPow, rdI, rdIc, rdB, rdLt, rdLe, rdGt, rdGe, rdNeg, rdIs, rdEq, rdNe, rdIx, rdIsN, rdNotN, rdIsB, rdNotB, rdRev, rdSeats, rdCatL, rdCatT, rdRepL, rdLen, rdTuple, rdList, rxList, rdInt, rdMax2, rdMin2, dgName, dgTup, dgCons, dgNil, deRefused, rdRepr, rdNeS, rdEqL, rdNeL, rdRepT, rdIsLn, noOwn, diSeq, diEn, diZp, diR1, diR2, noX,  eqOk_int, eqOk_bl, eqOk_non, eqv_int, eqv_bl, eqv_non, atI_0, atI_1, atI_2, atI_3, qty_non, qisI_non, qisB_non, qisL_non, qisU_non, qisS_non, qisD_non, qisNon_non, qcooked_non, qseq_non, qty_bl, qisI_bl, qisB_bl, qisL_bl, qisU_bl, qisS_bl, qisD_bl, qisNon_bl, qcooked_bl, qseq_bl, qty_int, qisI_int, qisB_int, qisL_int, qisU_int, qisS_int, qisD_int, qisNon_int, qcooked_int, qseq_int, qty_str, qisI_str, qisB_str, qisL_str, qisU_str, qisS_str, qisD_str, qisNon_str, qcooked_str, qseq_str, qty_lst, qisI_lst, qisB_lst, qisL_lst, qisU_lst, qisS_lst, qisD_lst, qisNon_lst, qcooked_lst, qseq_lst, qty_tup, qisI_tup, qisB_tup, qisL_tup, qisU_tup, qisS_tup, qisD_tup, qisNon_tup, qcooked_tup, qseq_tup, qty_dct, qisI_dct, qisB_dct, qisL_dct, qisU_dct, qisS_dct, qisD_dct, qisNon_dct, qcooked_dct, qseq_dct, qix_lst, qsl_lst, qix_tup, qsl_tup, qisNon_ln, qcooked_ln, and_assoc, exists_and_left, exists_eq_left, exists_eq_left', exists_eq_right, deFget, dsFset, dsFsetO, deFix, dsFaug, dmCall, dmIx, dsDropM, dsAsgM, dmsSeq, dmsRet, dmsNil, dmsIf, dmsFrz, startM, dnMake, deNfld, deNmeth, dxLend, deLend, dnsSeq, dnsRet, putM1, putM2, putM3, putM4, mkSt, lkM_seats, lkM_requests, lkM_sale, lkM_roads, lkM_lay, lkM_len, lkM_bet, lkM_pri, putM_roads, lenM, rdInI, rdEqS, dxLc_eq, dsFor_eq, rngD_0, rngD_eq, zipD_map, enumD_map0]; exact hR) ⟨by omega, by omega, ?_⟩⟩⟩
  refine fb_on _ (fun i δ' => ∃ a b : Sl, δ' = [.obj m dx "Market" sa (fsM sa sd rd (roadsD R)) (some (ms.map .int)), .dat (.int ((xs.length : Int) + 1)), .own ((roundsB R (xs.length + 1) i).c.map .int), .own ((roundsB R (xs.length + 1) i).l.map lastD), .dat (stopD (roundsB R (xs.length + 1) i).ch), a, b]) ⟨.un, .un, ?_⟩ (fun i x δ' hi hj => ?_) (fun δ' hj => ?_)
  · simp [roundsB, stopD, lastD, List.map_const']
  · obtain ⟨a, b, rfl⟩ := hj
    simp [startD, wipeD, dsRet, dsRetN, dsIf, dsSeq, dsNext, dsAsg, dsDrop, dsBreak, dsCont, dsPar, dsAug, dsFrz, dsApp, dsExt, dsPut, dsAugO, dsOwn, dsParOO, dsParDO, dsParDDO, dsFrzA, dxRep, diOwn, dsRaise, deAnd, deOr, deNot, de1, de2, deB, deX, dxB, dxLst, deName, deC, deCall, deIxO, deLenO, deTup, deLst, daCons, daNil, daStar, deChain, dtChain, dtV, dtAnd, dtOr, dtNot, dtYes, deIf, deSl, doNone, doSome, rdAdd, rdSub, rdMul, rdMod, rdDiv, rdPow, rdI, rdIc, rdB, rdLt, rdLe, rdGt, rdGe, rdNeg, rdIs, rdEq, rdNe, rdIx, rdIsN, rdNotN, rdIsB, rdNotB, rdRev, rdSeats, rdCatL, rdCatT, rdRepL, rdLen, rdTuple, rdList, rxList, rdInt, rdMax2, rdMin2, dgName, dgTup, dgCons, dgNil, deRefused, rdRepr, rdNeS, rdEqL, rdNeL, rdRepT, rdIsLn, noOwn, diSeq, diEn, diZp, diR1, diR2, noX,  eqOk_int, eqOk_bl, eqOk_non, eqv_int, eqv_bl, eqv_non, atI_0, atI_1, atI_2, atI_3, qty_non, qisI_non, qisB_non, qisL_non, qisU_non, qisS_non, qisD_non, qisNon_non, qcooked_non, qseq_non, qty_bl, qisI_bl, qisB_bl, qisL_bl, qisU_bl, qisS_bl, qisD_bl, qisNon_bl, qcooked_bl, qseq_bl, qty_int, qisI_int, qisB_int, qisL_int, qisU_int, qisS_int, qisD_int, qisNon_int, qcooked_int, qseq_int, qty_str, qisI_str, qisB_str, qisL_str, qisU_str, qisS_str, qisD_str, qisNon_str, qcooked_str, qseq_str, qty_lst, qisI_lst, qisB_lst, qisL_lst, qisU_lst, qisS_lst, qisD_lst, qisNon_lst, qcooked_lst, qseq_lst, qty_tup, qisI_tup, qisB_tup, qisL_tup, qisU_tup, qisS_tup, qisD_tup, qisNon_tup, qcooked_tup, qseq_tup, qty_dct, qisI_dct, qisB_dct, qisL_dct, qisU_dct, qisS_dct, qisD_dct, qisNon_dct, qcooked_dct, qseq_dct, qix_lst, qsl_lst, qix_tup, qsl_tup, qisNon_ln, qcooked_ln, and_assoc, exists_and_left, exists_eq_left, exists_eq_left', exists_eq_right, deFget, dsFset, dsFsetO, deFix, dsFaug, dmCall, dmIx, dsDropM, dsAsgM, dmsSeq, dmsRet, dmsNil, dmsIf, dmsFrz, startM, dnMake, deNfld, deNmeth, dxLend, deLend, dnsSeq, dnsRet, putM1, putM2, putM3, putM4, mkSt, lkM_seats, lkM_requests, lkM_sale, lkM_roads, lkM_lay, lkM_len, lkM_bet, lkM_pri, putM_roads, lenM, rdInI, rdEqS, dxLc_eq, dsFor_eq, rngD_0, rngD_eq, zipD_map, enumD_map0, roadsD]
    refine fb_on R (fun j δ' => ∃ a b : Sl, δ' = [.obj m dx "Market" sa (fsM sa sd rd (.lst (R.map roadD))) (some (ms.map .int)), .dat (.int ((xs.length : Int) + 1)), .own (((R.take j).foldl relax { roundsB R (xs.length + 1) i with ch := none }).c.map .int), .own (((R.take j).foldl relax { roundsB R (xs.length + 1) i with ch := none }).l.map lastD), .dat (stopD ((R.take j).foldl relax { roundsB R (xs.length + 1) i with ch := none }).ch), a, b]) ⟨_, _, rfl⟩ (fun j e δ' hj' hk => ?_) (fun δ' hk => ?_)
    · obtain ⟨a, b, rfl⟩ := hk
      have hb := he e (List.mem_of_getElem? hj')
      have hln := fold_len R (xs.length + 1) i j
      rw [take_snoc hj', List.foldl_append]
      generalize hB : (R.take j).foldl relax { roundsB R (xs.length + 1) i with ch := none } = b0
      rw [hB] at hln
      simp [startD, wipeD, dsRet, dsRetN, dsIf, dsSeq, dsNext, dsAsg, dsDrop, dsBreak, dsCont, dsPar, dsAug, dsFrz, dsApp, dsExt, dsPut, dsAugO, dsOwn, dsParOO, dsParDO, dsParDDO, dsFrzA, dxRep, diOwn, dsRaise, deAnd, deOr, deNot, de1, de2, deB, deX, dxB, dxLst, deName, deC, deCall, deIxO, deLenO, deTup, deLst, daCons, daNil, daStar, deChain, dtChain, dtV, dtAnd, dtOr, dtNot, dtYes, deIf, deSl, doNone, doSome, rdAdd, rdSub, rdMul, rdMod, rdDiv, rdPow, rdI, rdIc, rdB, rdLt, rdLe, rdGt, rdGe, rdNeg, rdIs, rdEq, rdNe, rdIx, rdIsN, rdNotN, rdIsB, rdNotB, rdRev, rdSeats, rdCatL, rdCatT, rdRepL, rdLen, rdTuple, rdList, rxList, rdInt, rdMax2, rdMin2, dgName, dgTup, dgCons, dgNil, deRefused, rdRepr, rdNeS, rdEqL, rdNeL, rdRepT, rdIsLn, noOwn, diSeq, diEn, diZp, diR1, diR2, noX,  eqOk_int, eqOk_bl, eqOk_non, eqv_int, eqv_bl, eqv_non, atI_0, atI_1, atI_2, atI_3, qty_non, qisI_non, qisB_non, qisL_non, qisU_non, qisS_non, qisD_non, qisNon_non, qcooked_non, qseq_non, qty_bl, qisI_bl, qisB_bl, qisL_bl, qisU_bl, qisS_bl, qisD_bl, qisNon_bl, qcooked_bl, qseq_bl, qty_int, qisI_int, qisB_int, qisL_int, qisU_int, qisS_int, qisD_int, qisNon_int, qcooked_int, qseq_int, qty_str, qisI_str, qisB_str, qisL_str, qisU_str, qisS_str, qisD_str, qisNon_str, qcooked_str, qseq_str, qty_lst, qisI_lst, qisB_lst, qisL_lst, qisU_lst, qisS_lst, qisD_lst, qisNon_lst, qcooked_lst, qseq_lst, qty_tup, qisI_tup, qisB_tup, qisL_tup, qisU_tup, qisS_tup, qisD_tup, qisNon_tup, qcooked_tup, qseq_tup, qty_dct, qisI_dct, qisB_dct, qisL_dct, qisU_dct, qisS_dct, qisD_dct, qisNon_dct, qcooked_dct, qseq_dct, qix_lst, qsl_lst, qix_tup, qsl_tup, qisNon_ln, qcooked_ln, and_assoc, exists_and_left, exists_eq_left, exists_eq_left', exists_eq_right, deFget, dsFset, dsFsetO, deFix, dsFaug, dmCall, dmIx, dsDropM, dsAsgM, dmsSeq, dmsRet, dmsNil, dmsIf, dmsFrz, startM, dnMake, deNfld, deNmeth, dxLend, deLend, dnsSeq, dnsRet, putM1, putM2, putM3, putM4, mkSt, lkM_seats, lkM_requests, lkM_sale, lkM_roads, lkM_lay, lkM_len, lkM_bet, lkM_pri, putM_roads, lenM, rdInI, rdEqS, dxLc_eq, dsFor_eq, rngD_0, rngD_eq, zipD_map, enumD_map0, rd0, rd1, rd2, atC (c := b0.c) (i := e.u) (by omega), atC (c := b0.c) (i := e.v) (by omega), ixN_of (n := b0.c.length) (i := e.v) (by omega), ixN_of (n := b0.l.length) (i := e.v) (by omega), List.foldl_cons, List.foldl_nil]
      unfold relax
      by_cases hc : cAt b0.c e.u + e.w < cAt b0.c e.v
      · rw [if_pos hc, if_pos hc]
        exact ⟨by rw [List.map_set], by rw [List.map_set]; rfl, rfl⟩
      · rw [if_neg hc, if_neg hc]
        exact ⟨rfl, rfl, rfl⟩
    · obtain ⟨a, b, rfl⟩ := hk
      rw [List.take_length]
      exact ⟨_, _, rfl⟩
  · obtain ⟨a, b, rfl⟩ := hj
    simp [startD, wipeD, dsRet, dsRetN, dsIf, dsSeq, dsNext, dsAsg, dsDrop, dsBreak, dsCont, dsPar, dsAug, dsFrz, dsApp, dsExt, dsPut, dsAugO, dsOwn, dsParOO, dsParDO, dsParDDO, dsFrzA, dxRep, diOwn, dsRaise, deAnd, deOr, deNot, de1, de2, deB, deX, dxB, dxLst, deName, deC, deCall, deIxO, deLenO, deTup, deLst, daCons, daNil, daStar, deChain, dtChain, dtV, dtAnd, dtOr, dtNot, dtYes, deIf, deSl, doNone, doSome, rdAdd, rdSub, rdMul, rdMod, rdDiv, rdPow, rdI, rdIc, rdB, rdLt, rdLe, rdGt, rdGe, rdNeg, rdIs, rdEq, rdNe, rdIx, rdIsN, rdNotN, rdIsB, rdNotB, rdRev, rdSeats, rdCatL, rdCatT, rdRepL, rdLen, rdTuple, rdList, rxList, rdInt, rdMax2, rdMin2, dgName, dgTup, dgCons, dgNil, deRefused, rdRepr, rdNeS, rdEqL, rdNeL, rdRepT, rdIsLn, noOwn, diSeq, diEn, diZp, diR1, diR2, noX,  eqOk_int, eqOk_bl, eqOk_non, eqv_int, eqv_bl, eqv_non, atI_0, atI_1, atI_2, atI_3, qty_non, qisI_non, qisB_non, qisL_non, qisU_non, qisS_non, qisD_non, qisNon_non, qcooked_non, qseq_non, qty_bl, qisI_bl, qisB_bl, qisL_bl, qisU_bl, qisS_bl, qisD_bl, qisNon_bl, qcooked_bl, qseq_bl, qty_int, qisI_int, qisB_int, qisL_int, qisU_int, qisS_int, qisD_int, qisNon_int, qcooked_int, qseq_int, qty_str, qisI_str, qisB_str, qisL_str, qisU_str, qisS_str, qisD_str, qisNon_str, qcooked_str, qseq_str, qty_lst, qisI_lst, qisB_lst, qisL_lst, qisU_lst, qisS_lst, qisD_lst, qisNon_lst, qcooked_lst, qseq_lst, qty_tup, qisI_tup, qisB_tup, qisL_tup, qisU_tup, qisS_tup, qisD_tup, qisNon_tup, qcooked_tup, qseq_tup, qty_dct, qisI_dct, qisB_dct, qisL_dct, qisU_dct, qisS_dct, qisD_dct, qisNon_dct, qcooked_dct, qseq_dct, qix_lst, qsl_lst, qix_tup, qsl_tup, qisNon_ln, qcooked_ln, and_assoc, exists_and_left, exists_eq_left, exists_eq_left', exists_eq_right, deFget, dsFset, dsFsetO, deFix, dsFaug, dmCall, dmIx, dsDropM, dsAsgM, dmsSeq, dmsRet, dmsNil, dmsIf, dmsFrz, startM, dnMake, deNfld, deNmeth, dxLend, deLend, dnsSeq, dnsRet, putM1, putM2, putM3, putM4, mkSt, lkM_seats, lkM_requests, lkM_sale, lkM_roads, lkM_lay, lkM_len, lkM_bet, lkM_pri, putM_roads, lenM, rdInI, rdEqS, dxLc_eq, dsFor_eq, rngD_0, rngD_eq, zipD_map, enumD_map0]
    have e1 : ((xs.length : Int) + 1 + 1).toNat = xs.length + 2 := by omega
    rw [e1]
    exact ⟨mkSt sa sd rd ms (roadsD R), rfl, rfl, rfl, o⟩

end
end K12
end
-- F_12_Market_better
section
set_option Elab.async false
set_option linter.all false
set_option maxRecDepth 100000
set_option maxHeartbeats 4000000
set_option autoImplicit false
namespace K12
open PySem PySem.Spec PyProof.Rows L2 Sd
section
variable {P : Program} {w : World} {K : PySem.W.Frag} {mg : Str → Option Value} {base : Heap}
theorem ok_Market_better (T : Txt K mg) {f : Addr} {fd : FuncData} (F : FunD K "better" "Market.better" (defArgs s_Market_better) (defBody s_Market_better) (defScope s_Market_better) [] [] f fd) (m_Market_lay_roads : Mt P w K mg base 2 "Market" "lay_roads" sp_lay_roads) (m_Market_lengths : Mt P w K mg base 1 "Market" "lengths" sp_lengths) : FnOk P w K mg base (L2.CX P w) 3 f fd ["self"] (spM K "Market" sp_better) := by
  have sc := sc_Market_better
  refine fnM F sc (fun st ds O h => by
    obtain ⟨_, _, _, _, _, _, _, _, e, _⟩ := h
    rw [e] <;> rfl) (by decide) (fun cdv A outer s H G E m dx st ds O hr h => ⟨_, (pms_cons (psd_dropM (pem_call m_Market_lay_roads hr (by first | decide | omega) (pv 0)))
  (pms_cons (psd_asgM (pem_call m_Market_lengths hr (by first | decide | omega) (pv 0)) (pgd_tup (n := 3) (pgsd_cons (pgd_name (i := 1) sc.nd rfl (Or.inl rfl)) (pgsd_cons (pgd_name (i := 2) sc.nd rfl (Or.inl rfl)) (pgsd_cons (pgd_name (i := 3) sc.nd rfl (Or.inl rfl)) pgsd_nil)))))
  (pms_if (ptd_isN (pd_name (pv 3)) pd_non)
  (pms_ret pd_bl)
  (pms_cons (psd_for (passes_of rfl) (pid_r1 T.b_range (pad_cons (pd_add (pd_callB call_len_seq snd_len T.b_len (pad_cons (pd_fget (i := 0) T.clMarket T.nMarket_seats (pv 0)) pad_nil)) pd_int) pad_nil)) (pgd_name (i := 1) sc.nd rfl (Or.inl rfl))
  (pssd_one (psd_set (i := 3) sc.nd rfl (Or.inl rfl) (pd_item (pd_item (pd_name (pv 2)) (pd_name (pv 3))) pd_int))))
  (pms_cons (psd_own (i := 4) sc.nd rfl (Or.inl rfl) (pxd_lst (pad_cons (pd_item (pd_name (pv 2)) (pd_name (pv 3))) pad_nil)))
  (pms_cons (psd_while (passes_of rfl) (ptd_ne hr.units (pd_item (pd_ixO (i := 4) (pv 4) (pd_neg pd_int)) pd_int) (pd_name (pv 3)))
  (pssd_one (psd_app (i := 4) (pv 4) (pd_item (pd_name (pv 2)) (pd_item (pd_ixO (i := 4) (pv 4) (pd_neg pd_int)) pd_int)))))
  (pms_frz 4 (pms_cons (psd_set (i := 5) sc.nd rfl (Or.inl rfl) (pd_callB (cr_min rfl) snd_min T.b_min (pad_cons (pd_x (pxd_lc (own := [(("road" : Str), 6)]) sc.nd (pid_seq (pd_name (pv 4))) (by kernel_rfl) (fun _ _ _ _ _ => (pgc_name (i := 6) sc.nd rfl (by first | exact Or.inl rfl | exact Or.inr rfl) (by decide))) (fun _ _ _ _ _ => ptsd_nil) (fun _ _ _ _ _ => (pd_item (pd_name (pv 6)) pd_int)))) pad_nil)))
  (pms_cons (psd_for (passes_of rfl) (pid_seq (pd_name (pv 4))) (pgd_name (i := 6) sc.nd rfl (Or.inl rfl))
  (pssd_one (psd_if (ptd_ne hr.units (pd_item (pd_name (pv 6)) pd_int) pd_int)
  (pssd_one (psd_faug (i := 0) T.clMarket T.nMarket_sale (pv 0) (pd_item (pd_name (pv 6)) pd_int) ip_add (pd_mul (pd_item (pd_name (pv 6)) pd_int) (pd_name (pv 5)))))
  pssd_nil)))
  (pms_ret pd_bl)))))))))), ?_⟩)
  obtain ⟨sa, sd, rd, ss, rs, ms, r, rfl, rfl, M, ha, hf, o1, o2⟩ := h
  have hs := M.sq
  have hen := roads_ends ha.1 M.ok
  have hroadsl := M.sl
  simp [startD, wipeD, dsRet, dsRetN, dsIf, dsSeq, dsNext, dsAsg, dsDrop, dsBreak, dsCont, dsPar, dsAug, dsFrz, dsApp, dsExt, dsPut, dsAugO, dsOwn, dsParOO, dsParDO, dsParDDO, dsFrzA, dxRep, diOwn, dsRaise, deAnd, deOr, deNot, de1, de2, deB, deX, dxB, dxLst, deName, deC, deCall, deIxO, deLenO, deTup, deLst, daCons, daNil, daStar, deChain, dtChain, dtV, dtAnd, dtOr, dtNot, dtYes, deIf, deSl, doNone, doSome, rdAdd, rdSub, rdMul, rdMod, rdDiv, rdPow, rdI, rdIc, rdB, rdLt, rdLe, rdGt, rdGe, rdNeg, rdIs, rdEq, rdNe, rdIx, rdIsN, rdNotN, rdIsB, rdNotB, rdRev, rdSeats, rdCatL, rdCatT, rdRepL, rdLen, rdTuple, rdList, rxList, rdInt, rdMax2, rdMin2, dgName, dgTup, dgCons, dgNil, deRefused, rdRepr, rdNeS, rdEqL, rdNeL, rdRepT, rdIsLn, noOwn, diSeq, diEn, diZp, diR1, diR2, noX,  eqOk_int, eqOk_bl, eqOk_non, eqv_int, eqv_bl, eqv_non, atI_0, atI_1, atI_2, atI_3, qty_non, qisI_non, qisB_non, qisL_non, qisU_non, qisS_non, qisD_non, qisNon_non, qcooked_non, qseq_non, qty_bl, qisI_bl, qisB_bl, qisL_bl, qisU_bl, qisS_bl, qisD_bl, qisNon_bl, qcooked_bl, qseq_bl, qty_int, qisI_int, qisB_int, qisL_int, qisU_int, qisS_int, qisD_int, qisNon_int, qcooked_int, qseq_int, qty_str, qisI_str, qisB_str, qisL_str, qisU_str, qisS_str, qisD_str, qisNon_str, qcooked_str, qseq_str, qty_lst, qisI_lst, qisB_lst, qisL_lst, qisU_lst, qisS_lst, qisD_lst, qisNon_lst, qcooked_lst, qseq_lst, qty_tup, qisI_tup, qisB_tup, qisL_tup, qisU_tup, qisS_tup, qisD_tup, qisNon_tup, qcooked_tup, qseq_tup, qty_dct, qisI_dct, qisB_dct, qisL_dct, qisU_dct, qisS_dct, qisD_dct, qisNon_dct, qcooked_dct, qseq_dct, qix_lst, qsl_lst, qix_tup, qsl_tup, qisNon_ln, qcooked_ln, and_assoc, exists_and_left, exists_eq_left, exists_eq_left', exists_eq_right, deFget, dsFset, dsFsetO, deFix, dsFaug, dmCall, dmIx, dsDropM, dsAsgM, dmsSeq, dmsRet, dmsNil, dmsIf, dmsFrz, startM, dnMake, deNfld, deNmeth, dxLend, deLend, dnsSeq, dnsRet, putM1, putM2, putM3, putM4, mkSt, lkM_seats, lkM_requests, lkM_sale, lkM_roads, lkM_lay, lkM_len, lkM_bet, lkM_pri, putM_roads, lenM, rdInI, rdEqS, dxLc_eq, dsFor_eq, rngD_0, rngD_eq, zipD_map, enumD_map0, hs]
  refine ⟨sa, sd, rd, ss, rs, ms, r, rfl, rfl, M, ha.1, ?_⟩
  simp [startD, wipeD, dsRet, dsRetN, dsIf, dsSeq, dsNext, dsAsg, dsDrop, dsBreak, dsCont, dsPar, dsAug, dsFrz, dsApp, dsExt, dsPut, dsAugO, dsOwn, dsParOO, dsParDO, dsParDDO, dsFrzA, dxRep, diOwn, dsRaise, deAnd, deOr, deNot, de1, de2, deB, deX, dxB, dxLst, deName, deC, deCall, deIxO, deLenO, deTup, deLst, daCons, daNil, daStar, deChain, dtChain, dtV, dtAnd, dtOr, dtNot, dtYes, deIf, deSl, doNone, doSome, rdAdd, rdSub, rdMul, rdMod, rdDiv, rdPow, rdI, rdIc, rdB, rdLt, rdLe, rdGt, rdGe, rdNeg, rdIs, rdEq, rdNe, rdIx, rdIsN, rdNotN, rdIsB, rdNotB, rdRev, rdSeats, rdCatL, rdCatT, rdRepL, rdLen, rdTuple, rdList, rxList, rdInt, rdMax2, rdMin2, dgName, dgTup, dgCons, dgNil, deRefused, rdRepr, rdNeS, rdEqL, rdNeL, rdRepT, rdIsLn, noOwn, diSeq, diEn, diZp, diR1, diR2, noX,  eqOk_int, eqOk_bl, eqOk_non, eqv_int, eqv_bl, eqv_non, atI_0, atI_1, atI_2, atI_3, qty_non, qisI_non, qisB_non, qisL_non, qisU_non, qisS_non, qisD_non, qisNon_non, qcooked_non, qseq_non, qty_bl, qisI_bl, qisB_bl, qisL_bl, qisU_bl, qisS_bl, qisD_bl, qisNon_bl, qcooked_bl, qseq_bl, qty_int, qisI_int, qisB_int, qisL_int, qisU_int, qisS_int, qisD_int, qisNon_int, qcooked_int, qseq_int, qty_str, qisI_str, qisB_str, qisL_str, qisU_str, qisS_str, qisD_str, qisNon_str, qcooked_str, qseq_str, qty_lst, qisI_lst, qisB_lst, qisL_lst, qisU_lst, qisS_lst, qisD_lst, qisNon_lst, qcooked_lst, qseq_lst, qty_tup, qisI_tup, qisB_tup, qisL_tup, qisU_tup, qisS_tup, qisD_tup, qisNon_tup, qcooked_tup, qseq_tup, qty_dct, qisI_dct, qisB_dct, qisL_dct, qisU_dct, qisS_dct, qisD_dct, qisNon_dct, qcooked_dct, qseq_dct, qix_lst, qsl_lst, qix_tup, qsl_tup, qisNon_ln, qcooked_ln, and_assoc, exists_and_left, exists_eq_left, exists_eq_left', exists_eq_right, deFget, dsFset, dsFsetO, deFix, dsFaug, dmCall, dmIx, dsDropM, dsAsgM, dmsSeq, dmsRet, dmsNil, dmsIf, dmsFrz, startM, dnMake, deNfld, deNmeth, dxLend, deLend, dnsSeq, dnsRet, putM1, putM2, putM3, putM4, mkSt, lkM_seats, lkM_requests, lkM_sale, lkM_roads, lkM_lay, lkM_len, lkM_bet, lkM_pri, putM_roads, lenM, rdInI, rdEqS, dxLc_eq, dsFor_eq, rngD_0, rngD_eq, zipD_map, enumD_map0, hs]
  refine ⟨sa, sd, rd, ss.map .int, ms, roadsN ss rs ms, rfl, rfl, hs, by rw [List.length_map]; exact hroadsl, fun e he => by rw [List.length_map]; exact ⟨(hen e he).1, (hen e he).2.1⟩, ?_⟩
  rw [List.length_map]
  cases hc : (roundsB (roadsN ss rs ms) (ss.length + 1) (ss.length + 2)).ch with
  | none =>
    simp [startD, wipeD, dsRet, dsRetN, dsIf, dsSeq, dsNext, dsAsg, dsDrop, dsBreak, dsCont, dsPar, dsAug, dsFrz, dsApp, dsExt, dsPut, dsAugO, dsOwn, dsParOO, dsParDO, dsParDDO, dsFrzA, dxRep, diOwn, dsRaise, deAnd, deOr, deNot, de1, de2, deB, deX, dxB, dxLst, deName, deC, deCall, deIxO, deLenO, deTup, deLst, daCons, daNil, daStar, deChain, dtChain, dtV, dtAnd, dtOr, dtNot, dtYes, deIf, deSl, doNone, doSome, rdAdd, rdSub, rdMul, rdMod, rdDiv, rdPow, rdI, rdIc, rdB, rdLt, rdLe, rdGt, rdGe, rdNeg, rdIs, rdEq, rdNe, rdIx, rdIsN, rdNotN, rdIsB, rdNotB, rdRev, rdSeats, rdCatL, rdCatT, rdRepL, rdLen, rdTuple, rdList, rxList, rdInt, rdMax2, rdMin2, dgName, dgTup, dgCons, dgNil, deRefused, rdRepr, rdNeS, rdEqL, rdNeL, rdRepT, rdIsLn, noOwn, diSeq, diEn, diZp, diR1, diR2, noX,  eqOk_int, eqOk_bl, eqOk_non, eqv_int, eqv_bl, eqv_non, atI_0, atI_1, atI_2, atI_3, qty_non, qisI_non, qisB_non, qisL_non, qisU_non, qisS_non, qisD_non, qisNon_non, qcooked_non, qseq_non, qty_bl, qisI_bl, qisB_bl, qisL_bl, qisU_bl, qisS_bl, qisD_bl, qisNon_bl, qcooked_bl, qseq_bl, qty_int, qisI_int, qisB_int, qisL_int, qisU_int, qisS_int, qisD_int, qisNon_int, qcooked_int, qseq_int, qty_str, qisI_str, qisB_str, qisL_str, qisU_str, qisS_str, qisD_str, qisNon_str, qcooked_str, qseq_str, qty_lst, qisI_lst, qisB_lst, qisL_lst, qisU_lst, qisS_lst, qisD_lst, qisNon_lst, qcooked_lst, qseq_lst, qty_tup, qisI_tup, qisB_tup, qisL_tup, qisU_tup, qisS_tup, qisD_tup, qisNon_tup, qcooked_tup, qseq_tup, qty_dct, qisI_dct, qisB_dct, qisL_dct, qisU_dct, qisS_dct, qisD_dct, qisNon_dct, qcooked_dct, qseq_dct, qix_lst, qsl_lst, qix_tup, qsl_tup, qisNon_ln, qcooked_ln, and_assoc, exists_and_left, exists_eq_left, exists_eq_left', exists_eq_right, deFget, dsFset, dsFsetO, deFix, dsFaug, dmCall, dmIx, dsDropM, dsAsgM, dmsSeq, dmsRet, dmsNil, dmsIf, dmsFrz, startM, dnMake, deNfld, deNmeth, dxLend, deLend, dnsSeq, dnsRet, putM1, putM2, putM3, putM4, mkSt, lkM_seats, lkM_requests, lkM_sale, lkM_roads, lkM_lay, lkM_len, lkM_bet, lkM_pri, putM_roads, lenM, rdInI, rdEqS, dxLc_eq, dsFor_eq, rngD_0, rngD_eq, zipD_map, enumD_map0, hs, lensD, hc, stopD]
    exact ⟨mkSt sa sd rd ms (roadsD (roadsN ss rs ms)), rfl, rfl, rfl, o1 ⟨ha, hf, hc⟩⟩
  | some v0 =>
    obtain ⟨hb, p, hp, Fd⟩ := rounds_ring hen hc
    have hl := (rounds_len (roadsN ss rs ms) (ss.length + 1) (ss.length + 2)).2
    simp [startD, wipeD, dsRet, dsRetN, dsIf, dsSeq, dsNext, dsAsg, dsDrop, dsBreak, dsCont, dsPar, dsAug, dsFrz, dsApp, dsExt, dsPut, dsAugO, dsOwn, dsParOO, dsParDO, dsParDDO, dsFrzA, dxRep, diOwn, dsRaise, deAnd, deOr, deNot, de1, de2, deB, deX, dxB, dxLst, deName, deC, deCall, deIxO, deLenO, deTup, deLst, daCons, daNil, daStar, deChain, dtChain, dtV, dtAnd, dtOr, dtNot, dtYes, deIf, deSl, doNone, doSome, rdAdd, rdSub, rdMul, rdMod, rdDiv, rdPow, rdI, rdIc, rdB, rdLt, rdLe, rdGt, rdGe, rdNeg, rdIs, rdEq, rdNe, rdIx, rdIsN, rdNotN, rdIsB, rdNotB, rdRev, rdSeats, rdCatL, rdCatT, rdRepL, rdLen, rdTuple, rdList, rxList, rdInt, rdMax2, rdMin2, dgName, dgTup, dgCons, dgNil, deRefused, rdRepr, rdNeS, rdEqL, rdNeL, rdRepT, rdIsLn, noOwn, diSeq, diEn, diZp, diR1, diR2, noX,  eqOk_int, eqOk_bl, eqOk_non, eqv_int, eqv_bl, eqv_non, atI_0, atI_1, atI_2, atI_3, qty_non, qisI_non, qisB_non, qisL_non, qisU_non, qisS_non, qisD_non, qisNon_non, qcooked_non, qseq_non, qty_bl, qisI_bl, qisB_bl, qisL_bl, qisU_bl, qisS_bl, qisD_bl, qisNon_bl, qcooked_bl, qseq_bl, qty_int, qisI_int, qisB_int, qisL_int, qisU_int, qisS_int, qisD_int, qisNon_int, qcooked_int, qseq_int, qty_str, qisI_str, qisB_str, qisL_str, qisU_str, qisS_str, qisD_str, qisNon_str, qcooked_str, qseq_str, qty_lst, qisI_lst, qisB_lst, qisL_lst, qisU_lst, qisS_lst, qisD_lst, qisNon_lst, qcooked_lst, qseq_lst, qty_tup, qisI_tup, qisB_tup, qisL_tup, qisU_tup, qisS_tup, qisD_tup, qisNon_tup, qcooked_tup, qseq_tup, qty_dct, qisI_dct, qisB_dct, qisL_dct, qisU_dct, qisS_dct, qisD_dct, qisNon_dct, qcooked_dct, qseq_dct, qix_lst, qsl_lst, qix_tup, qsl_tup, qisNon_ln, qcooked_ln, and_assoc, exists_and_left, exists_eq_left, exists_eq_left', exists_eq_right, deFget, dsFset, dsFsetO, deFix, dsFaug, dmCall, dmIx, dsDropM, dsAsgM, dmsSeq, dmsRet, dmsNil, dmsIf, dmsFrz, startM, dnMake, deNfld, deNmeth, dxLend, deLend, dnsSeq, dnsRet, putM1, putM2, putM3, putM4, mkSt, lkM_seats, lkM_requests, lkM_sale, lkM_roads, lkM_lay, lkM_len, lkM_bet, lkM_pri, putM_roads, lenM, rdInI, rdEqS, dxLc_eq, dsFor_eq, rngD_0, rngD_eq, zipD_map, enumD_map0, hs, lensD, hc, stopD]
    generalize (roundsB (roadsN ss rs ms) (ss.length + 1) (ss.length + 2)).c = cc
    generalize (roundsB (roadsN ss rs ms) (ss.length + 1) (ss.length + 2)).l = l at hb Fd hl
    refine ⟨by omega, by omega, ?_⟩
    refine fb_on (List.range (ss.length + 1)) (fun i δ' => ∃ a b c d : Sl, δ' = [.obj m dx "Market" sa (fsM sa sd rd (roadsD (roadsN ss rs ms))) (some (ms.map .int)), a, .dat (.lst (l.map lastD)), .dat (.int ((backN l v0 i : Nat) : Int)), b, c, d]) ⟨_, _, _, _, rfl⟩ (fun i x δ' hi hj => ?_) (fun δ' hj => ?_)
    · obtain ⟨a, b, c, d, rfl⟩ := hj
      obtain ⟨hi, rfl⟩ := range_at hi
      have h1 := hb x (by omega)
      have h2 := atL (lAt_lt h1)
      cases h3 : lAt l (backN l v0 x) with
      | none => exact absurd h3 h1
      | some e =>
        have e1 : backN l v0 (x + 1) = e.u := by
          show Sd.backV l (backN l v0 x) = _
          unfold Sd.backV
          rw [h3]
        rw [e1]
        rw [h3] at h2
        simp [startD, wipeD, dsRet, dsRetN, dsIf, dsSeq, dsNext, dsAsg, dsDrop, dsBreak, dsCont, dsPar, dsAug, dsFrz, dsApp, dsExt, dsPut, dsAugO, dsOwn, dsParOO, dsParDO, dsParDDO, dsFrzA, dxRep, diOwn, dsRaise, deAnd, deOr, deNot, de1, de2, deB, deX, dxB, dxLst, deName, deC, deCall, deIxO, deLenO, deTup, deLst, daCons, daNil, daStar, deChain, dtChain, dtV, dtAnd, dtOr, dtNot, dtYes, deIf, deSl, doNone, doSome, rdAdd, rdSub, rdMul, rdMod, rdDiv, rdPow, rdI, rdIc, rdB, rdLt, rdLe, rdGt, rdGe, rdNeg, rdIs, rdEq, rdNe, rdIx, rdIsN, rdNotN, rdIsB, rdNotB, rdRev, rdSeats, rdCatL, rdCatT, rdRepL, rdLen, rdTuple, rdList, rxList, rdInt, rdMax2, rdMin2, dgName, dgTup, dgCons, dgNil, deRefused, rdRepr, rdNeS, rdEqL, rdNeL, rdRepT, rdIsLn, noOwn, diSeq, diEn, diZp, diR1, diR2, noX,  eqOk_int, eqOk_bl, eqOk_non, eqv_int, eqv_bl, eqv_non, atI_0, atI_1, atI_2, atI_3, qty_non, qisI_non, qisB_non, qisL_non, qisU_non, qisS_non, qisD_non, qisNon_non, qcooked_non, qseq_non, qty_bl, qisI_bl, qisB_bl, qisL_bl, qisU_bl, qisS_bl, qisD_bl, qisNon_bl, qcooked_bl, qseq_bl, qty_int, qisI_int, qisB_int, qisL_int, qisU_int, qisS_int, qisD_int, qisNon_int, qcooked_int, qseq_int, qty_str, qisI_str, qisB_str, qisL_str, qisU_str, qisS_str, qisD_str, qisNon_str, qcooked_str, qseq_str, qty_lst, qisI_lst, qisB_lst, qisL_lst, qisU_lst, qisS_lst, qisD_lst, qisNon_lst, qcooked_lst, qseq_lst, qty_tup, qisI_tup, qisB_tup, qisL_tup, qisU_tup, qisS_tup, qisD_tup, qisNon_tup, qcooked_tup, qseq_tup, qty_dct, qisI_dct, qisB_dct, qisL_dct, qisU_dct, qisS_dct, qisD_dct, qisNon_dct, qcooked_dct, qseq_dct, qix_lst, qsl_lst, qix_tup, qsl_tup, qisNon_ln, qcooked_ln, and_assoc, exists_and_left, exists_eq_left, exists_eq_left', exists_eq_right, deFget, dsFset, dsFsetO, deFix, dsFaug, dmCall, dmIx, dsDropM, dsAsgM, dmsSeq, dmsRet, dmsNil, dmsIf, dmsFrz, startM, dnMake, deNfld, deNmeth, dxLend, deLend, dnsSeq, dnsRet, putM1, putM2, putM3, putM4, mkSt, lkM_seats, lkM_requests, lkM_sale, lkM_roads, lkM_lay, lkM_len, lkM_bet, lkM_pri, putM_roads, lenM, rdInI, rdEqS, dxLc_eq, dsFor_eq, rngD_0, rngD_eq, zipD_map, enumD_map0, h2, lastD, rd0, roadD]
    · obtain ⟨a, b, c, d, rfl⟩ := hj
      rw [List.length_range]
      generalize hst : backN l v0 (ss.length + 1) = st at Fd
      have rdl : ∀ k, ∃ e, L2.atI (l.map lastD) ((backN l st k : Nat) : Int) = some (roadD e) ∧ lAt l (backN l st k) = some e ∧ e.u = backN l st (k + 1) := fun k => by
        obtain ⟨e, h1, h2, h3⟩ := Fd.all k
        refine ⟨e, ?_, h1, h2⟩
        rw [atL (lAt_lt (by rw [h1]; exact fun z => nomatch z)), h1]
        rfl
      have p0 := Fd.p0
      have hlast : ∀ k, ∃ e, ringL l st (k + 1) = ringL l st k ++ [e] ∧ e.u = backN l st (k + 1) := fun k => by
        obtain ⟨e, h1, h2, h3⟩ := Fd.all k
        exact ⟨e, ringL_succ h1, h2⟩
      have hlen : ∀ k, (ringL l st k).length ≤ k := fun k => by
        unfold ringL
        exact Nat.le_trans (List.length_filterMap_le _ _) (Nat.le_of_eq List.length_range)
      obtain ⟨e0, g1, g2, g3⟩ := rdl 0
      have g1' : L2.atI (l.map lastD) (st : Int) = some (roadD e0) := g1
      have r1 : ringL l st 1 = [e0] := by rw [ringL_succ g2]; rfl
      simp [startD, wipeD, dsRet, dsRetN, dsIf, dsSeq, dsNext, dsAsg, dsDrop, dsBreak, dsCont, dsPar, dsAug, dsFrz, dsApp, dsExt, dsPut, dsAugO, dsOwn, dsParOO, dsParDO, dsParDDO, dsFrzA, dxRep, diOwn, dsRaise, deAnd, deOr, deNot, de1, de2, deB, deX, dxB, dxLst, deName, deC, deCall, deIxO, deLenO, deTup, deLst, daCons, daNil, daStar, deChain, dtChain, dtV, dtAnd, dtOr, dtNot, dtYes, deIf, deSl, doNone, doSome, rdAdd, rdSub, rdMul, rdMod, rdDiv, rdPow, rdI, rdIc, rdB, rdLt, rdLe, rdGt, rdGe, rdNeg, rdIs, rdEq, rdNe, rdIx, rdIsN, rdNotN, rdIsB, rdNotB, rdRev, rdSeats, rdCatL, rdCatT, rdRepL, rdLen, rdTuple, rdList, rxList, rdInt, rdMax2, rdMin2, dgName, dgTup, dgCons, dgNil, deRefused, rdRepr, rdNeS, rdEqL, rdNeL, rdRepT, rdIsLn, noOwn, diSeq, diEn, diZp, diR1, diR2, noX,  eqOk_int, eqOk_bl, eqOk_non, eqv_int, eqv_bl, eqv_non, atI_0, atI_1, atI_2, atI_3, qty_non, qisI_non, qisB_non, qisL_non, qisU_non, qisS_non, qisD_non, qisNon_non, qcooked_non, qseq_non, qty_bl, qisI_bl, qisB_bl, qisL_bl, qisU_bl, qisS_bl, qisD_bl, qisNon_bl, qcooked_bl, qseq_bl, qty_int, qisI_int, qisB_int, qisL_int, qisU_int, qisS_int, qisD_int, qisNon_int, qcooked_int, qseq_int, qty_str, qisI_str, qisB_str, qisL_str, qisU_str, qisS_str, qisD_str, qisNon_str, qcooked_str, qseq_str, qty_lst, qisI_lst, qisB_lst, qisL_lst, qisU_lst, qisS_lst, qisD_lst, qisNon_lst, qcooked_lst, qseq_lst, qty_tup, qisI_tup, qisB_tup, qisL_tup, qisU_tup, qisS_tup, qisD_tup, qisNon_tup, qcooked_tup, qseq_tup, qty_dct, qisI_dct, qisB_dct, qisL_dct, qisU_dct, qisS_dct, qisD_dct, qisNon_dct, qcooked_dct, qseq_dct, qix_lst, qsl_lst, qix_tup, qsl_tup, qisNon_ln, qcooked_ln, and_assoc, exists_and_left, exists_eq_left, exists_eq_left', exists_eq_right, deFget, dsFset, dsFsetO, deFix, dsFaug, dmCall, dmIx, dsDropM, dsAsgM, dmsSeq, dmsRet, dmsNil, dmsIf, dmsFrz, startM, dnMake, deNfld, deNmeth, dxLend, deLend, dnsSeq, dnsRet, putM1, putM2, putM3, putM4, mkSt, lkM_seats, lkM_requests, lkM_sale, lkM_roads, lkM_lay, lkM_len, lkM_bet, lkM_pri, putM_roads, lenM, rdInI, rdEqS, dxLc_eq, dsFor_eq, rngD_0, rngD_eq, zipD_map, enumD_map0, g1', dsWhile_eq]
      refine ⟨fun q δ' => ∃ (j : Nat) (a b c : Sl), δ' = [.obj m dx "Market" sa (fsM sa sd rd (roadsD (roadsN ss rs ms))) (some (ms.map .int)), a, .dat (.lst (l.map lastD)), .dat (.int (st : Int)), .own ((ringL l st (j + 1)).map roadD), b, c] ∧ j + 1 + q = p, ⟨p - 1, 0, _, _, _, by rw [r1]; rfl, by omega⟩, fun q δ' hj => ?_⟩
      obtain ⟨j, a, b, c, rfl, hq⟩ := hj
      obtain ⟨e, h1, h2⟩ := hlast j
      have h3 := L2.atI_last ((ringL l st j).map roadD) (roadD e)
      have h3' : L2.atI ((ringL l st (j + 1)).map roadD) (-1) = some (roadD e) := by
        rw [h1, List.map_append]
        exact h3
      have hl1 := hlen (j + 1)
      simp [startD, wipeD, dsRet, dsRetN, dsIf, dsSeq, dsNext, dsAsg, dsDrop, dsBreak, dsCont, dsPar, dsAug, dsFrz, dsApp, dsExt, dsPut, dsAugO, dsOwn, dsParOO, dsParDO, dsParDDO, dsFrzA, dxRep, diOwn, dsRaise, deAnd, deOr, deNot, de1, de2, deB, deX, dxB, dxLst, deName, deC, deCall, deIxO, deLenO, deTup, deLst, daCons, daNil, daStar, deChain, dtChain, dtV, dtAnd, dtOr, dtNot, dtYes, deIf, deSl, doNone, doSome, rdAdd, rdSub, rdMul, rdMod, rdDiv, rdPow, rdI, rdIc, rdB, rdLt, rdLe, rdGt, rdGe, rdNeg, rdIs, rdEq, rdNe, rdIx, rdIsN, rdNotN, rdIsB, rdNotB, rdRev, rdSeats, rdCatL, rdCatT, rdRepL, rdLen, rdTuple, rdList, rxList, rdInt, rdMax2, rdMin2, dgName, dgTup, dgCons, dgNil, deRefused, rdRepr, rdNeS, rdEqL, rdNeL, rdRepT, rdIsLn, noOwn, diSeq, diEn, diZp, diR1, diR2, noX,  eqOk_int, eqOk_bl, eqOk_non, eqv_int, eqv_bl, eqv_non, atI_0, atI_1, atI_2, atI_3, qty_non, qisI_non, qisB_non, qisL_non, qisU_non, qisS_non, qisD_non, qisNon_non, qcooked_non, qseq_non, qty_bl, qisI_bl, qisB_bl, qisL_bl, qisU_bl, qisS_bl, qisD_bl, qisNon_bl, qcooked_bl, qseq_bl, qty_int, qisI_int, qisB_int, qisL_int, qisU_int, qisS_int, qisD_int, qisNon_int, qcooked_int, qseq_int, qty_str, qisI_str, qisB_str, qisL_str, qisU_str, qisS_str, qisD_str, qisNon_str, qcooked_str, qseq_str, qty_lst, qisI_lst, qisB_lst, qisL_lst, qisU_lst, qisS_lst, qisD_lst, qisNon_lst, qcooked_lst, qseq_lst, qty_tup, qisI_tup, qisB_tup, qisL_tup, qisU_tup, qisS_tup, qisD_tup, qisNon_tup, qcooked_tup, qseq_tup, qty_dct, qisI_dct, qisB_dct, qisL_dct, qisU_dct, qisS_dct, qisD_dct, qisNon_dct, qcooked_dct, qseq_dct, qix_lst, qsl_lst, qix_tup, qsl_tup, qisNon_ln, qcooked_ln, and_assoc, exists_and_left, exists_eq_left, exists_eq_left', exists_eq_right, deFget, dsFset, dsFsetO, deFix, dsFaug, dmCall, dmIx, dsDropM, dsAsgM, dmsSeq, dmsRet, dmsNil, dmsIf, dmsFrz, startM, dnMake, deNfld, deNmeth, dxLend, deLend, dnsSeq, dnsRet, putM1, putM2, putM3, putM4, mkSt, lkM_seats, lkM_requests, lkM_sale, lkM_roads, lkM_lay, lkM_len, lkM_bet, lkM_pri, putM_roads, lenM, rdInI, rdEqS, dxLc_eq, dsFor_eq, rngD_0, rngD_eq, zipD_map, enumD_map0, h3', rd0]
      by_cases hjp : j + 1 = p
      · refine .inl ⟨by rw [h2, hjp, Fd.ret], ?_⟩
        have hR : Ring (roadsN ss rs ms) (ringL l st (j + 1)) := by rw [hjp]; exact Fd.ring
        generalize ringL l st (j + 1) = R at hR hl1
        refine lb_on R (fun e => .int e.cap) (by omega) (fun x hx R' hR' => by simp [startD, wipeD, dsRet, dsRetN, dsIf, dsSeq, dsNext, dsAsg, dsDrop, dsBreak, dsCont, dsPar, dsAug, dsFrz, dsApp, dsExt, dsPut, dsAugO, dsOwn, dsParOO, dsParDO, dsParDDO, dsFrzA, dxRep, diOwn, dsRaise, deAnd, deOr, deNot, de1, de2, deB, deX, dxB, dxLst, deName, deC, deCall, deIxO, deLenO, deTup, deLst, daCons, daNil, daStar, deChain, dtChain, dtV, dtAnd, dtOr, dtNot, dtYes, deIf, deSl, doNone, doSome, rdAdd, rdSub, rdMul, rdMod, rdDiv, rdPow, rdI, rdIc, rdB, rdLt, rdLe, rdGt, rdGe, rdNeg, rdIs, rdEq, rdNe, rdIx, rdIsN, rdNotN, rdIsB, rdNotB, rdRev, rdSeats, rdCatL, rdCatT, rdRepL, rdLen, rdTuple, rdList, rxList, rdInt, rdMax2, rdMin2, dgName, dgTup, dgCons, dgNil, deRefused, rdRepr, rdNeS, rdEqL, rdNeL, rdRepT, rdIsLn, noOwn, diSeq, diEn, diZp, diR1, diR2, noX,  eqOk_int, eqOk_bl, eqOk_non, eqv_int, eqv_bl, eqv_non, atI_0, atI_1, atI_2, atI_3, qty_non, qisI_non, qisB_non, qisL_non, qisU_non, qisS_non, qisD_non, qisNon_non, qcooked_non, qseq_non, qty_bl, qisI_bl, qisB_bl, qisL_bl, qisU_bl, qisS_bl, qisD_bl, qisNon_bl, qcooked_bl, qseq_bl, qty_int, qisI_int, qisB_int, qisL_int, qisU_int, qisS_int, qisD_int, qisNon_int, qcooked_int, qseq_int, qty_str, qisI_str, qisB_str, qisL_str, qisU_str, qisS_str, qisD_str, qisNon_str, qcooked_str, qseq_str, qty_lst, qisI_lst, qisB_lst, qisL_lst, qisU_lst, qisS_lst, qisD_lst, qisNon_lst, qcooked_lst, qseq_lst, qty_tup, qisI_tup, qisB_tup, qisL_tup, qisU_tup, qisS_tup, qisD_tup, qisNon_tup, qcooked_tup, qseq_tup, qty_dct, qisI_dct, qisB_dct, qisL_dct, qisU_dct, qisS_dct, qisD_dct, qisNon_dct, qcooked_dct, qseq_dct, qix_lst, qsl_lst, qix_tup, qsl_tup, qisNon_ln, qcooked_ln, and_assoc, exists_and_left, exists_eq_left, exists_eq_left', exists_eq_right, deFget, dsFset, dsFsetO, deFix, dsFaug, dmCall, dmIx, dsDropM, dsAsgM, dmsSeq, dmsRet, dmsNil, dmsIf, dmsFrz, startM, dnMake, deNfld, deNmeth, dxLend, deLend, dnsSeq, dnsRet, putM1, putM2, putM3, putM4, mkSt, lkM_seats, lkM_requests, lkM_sale, lkM_roads, lkM_lay, lkM_len, lkM_bet, lkM_pri, putM_roads, lenM, rdInI, rdEqS, dxLc_eq, dsFor_eq, rngD_0, rngD_eq, zipD_map, enumD_map0, rd3]; exact hR') ?_
        refine ⟨R.map (·.cap), by rw [List.map_map]; rfl, by rw [List.length_map]; exact List.length_pos_iff.mpr hR.ne, fun room hm hle => ?_⟩
        obtain ⟨er, her, rfl⟩ := List.mem_map.mp hm
        have hcap : ∀ e ∈ roadsN ss rs ms, 0 < e.cap := fun e he => by
          unfold roadsN at he
          simpa using (List.mem_filter.mp he).2
        have hr1 : 1 ≤ er.cap := hcap er (hR.mem er her)
        have hr2 : ∀ e ∈ R, er.cap ≤ e.cap := fun e he => hle _ (List.mem_map_of_mem he)
        obtain ⟨b1, b2, b3⟩ := ring_better ha M.ok hf hR hr1 hr2
        have hk : ∀ e ∈ R, RoadK ss rs ms e := fun e he => (roadsN_iff ha.1 e).mp (hR.mem e he)
        have hrl := M.rl
        have hidx : ∀ e ∈ R, (e.dir = 0 ∨ e.dir = 1 ∨ e.dir = -1) ∧ (e.dir ≠ 0 → e.idx < ms.length) := fun e he => by
          cases hk e he with
          | fwd i r m g1 g2 hm => exact ⟨.inr (.inl rfl), fun _ => (List.getElem?_eq_some_iff.mp g2).1⟩
          | bwd i r m g1 g2 hm => exact ⟨.inr (.inr rfl), fun _ => (List.getElem?_eq_some_iff.mp g2).1⟩
          | free l hl => exact ⟨.inl rfl, fun z => absurd rfl z⟩
          | back l hl hc => exact ⟨.inl rfl, fun z => absurd rfl z⟩
        refine fb_on R (fun i δ' => ∃ x : Sl, δ' = [.obj m dx "Market" sa (fsM sa sd rd (roadsD (roadsN ss rs ms))) (some ((pushR er.cap ms (R.take i)).map .int)), a, .dat (.lst (l.map lastD)), .dat (.int (st : Int)), .dat (.lst (R.map roadD)), .dat (.int er.cap), x]) ⟨_, rfl⟩ (fun i x δ' hi hj => ?_) (fun δ' hj => ?_)
        · obtain ⟨y, rfl⟩ := hj
          have hx := List.mem_of_getElem? hi
          obtain ⟨d1, d2⟩ := hidx x hx
          have hpl := pushR_len er.cap (R.take i) ms
          have hps : pushR er.cap ms (R.take (i + 1)) = push1 er.cap (pushR er.cap ms (R.take i)) x := by
            rw [take_snoc hi]
            unfold pushR
            rw [List.foldl_append]
            rfl
          rw [hps]
          generalize pushR er.cap ms (R.take i) = ns at hpl
          by_cases hd : x.dir = 0
          · have e1 : push1 er.cap ns x = ns := by unfold push1; rw [if_neg (by omega)]
            rw [e1]
            simp [startD, wipeD, dsRet, dsRetN, dsIf, dsSeq, dsNext, dsAsg, dsDrop, dsBreak, dsCont, dsPar, dsAug, dsFrz, dsApp, dsExt, dsPut, dsAugO, dsOwn, dsParOO, dsParDO, dsParDDO, dsFrzA, dxRep, diOwn, dsRaise, deAnd, deOr, deNot, de1, de2, deB, deX, dxB, dxLst, deName, deC, deCall, deIxO, deLenO, deTup, deLst, daCons, daNil, daStar, deChain, dtChain, dtV, dtAnd, dtOr, dtNot, dtYes, deIf, deSl, doNone, doSome, rdAdd, rdSub, rdMul, rdMod, rdDiv, rdPow, rdI, rdIc, rdB, rdLt, rdLe, rdGt, rdGe, rdNeg, rdIs, rdEq, rdNe, rdIx, rdIsN, rdNotN, rdIsB, rdNotB, rdRev, rdSeats, rdCatL, rdCatT, rdRepL, rdLen, rdTuple, rdList, rxList, rdInt, rdMax2, rdMin2, dgName, dgTup, dgCons, dgNil, deRefused, rdRepr, rdNeS, rdEqL, rdNeL, rdRepT, rdIsLn, noOwn, diSeq, diEn, diZp, diR1, diR2, noX,  eqOk_int, eqOk_bl, eqOk_non, eqv_int, eqv_bl, eqv_non, atI_0, atI_1, atI_2, atI_3, qty_non, qisI_non, qisB_non, qisL_non, qisU_non, qisS_non, qisD_non, qisNon_non, qcooked_non, qseq_non, qty_bl, qisI_bl, qisB_bl, qisL_bl, qisU_bl, qisS_bl, qisD_bl, qisNon_bl, qcooked_bl, qseq_bl, qty_int, qisI_int, qisB_int, qisL_int, qisU_int, qisS_int, qisD_int, qisNon_int, qcooked_int, qseq_int, qty_str, qisI_str, qisB_str, qisL_str, qisU_str, qisS_str, qisD_str, qisNon_str, qcooked_str, qseq_str, qty_lst, qisI_lst, qisB_lst, qisL_lst, qisU_lst, qisS_lst, qisD_lst, qisNon_lst, qcooked_lst, qseq_lst, qty_tup, qisI_tup, qisB_tup, qisL_tup, qisU_tup, qisS_tup, qisD_tup, qisNon_tup, qcooked_tup, qseq_tup, qty_dct, qisI_dct, qisB_dct, qisL_dct, qisU_dct, qisS_dct, qisD_dct, qisNon_dct, qcooked_dct, qseq_dct, qix_lst, qsl_lst, qix_tup, qsl_tup, qisNon_ln, qcooked_ln, and_assoc, exists_and_left, exists_eq_left, exists_eq_left', exists_eq_right, deFget, dsFset, dsFsetO, deFix, dsFaug, dmCall, dmIx, dsDropM, dsAsgM, dmsSeq, dmsRet, dmsNil, dmsIf, dmsFrz, startM, dnMake, deNfld, deNmeth, dxLend, deLend, dnsSeq, dnsRet, putM1, putM2, putM3, putM4, mkSt, lkM_seats, lkM_requests, lkM_sale, lkM_roads, lkM_lay, lkM_len, lkM_bet, lkM_pri, putM_roads, lenM, rdInI, rdEqS, dxLc_eq, dsFor_eq, rngD_0, rngD_eq, zipD_map, enumD_map0, rd4, hd]
          · have hlt : x.idx < ns.length := by have := d2 hd; omega
            have e1 : push1 er.cap ns x = ns.set x.idx (miAt ns x.idx + x.dir * er.cap) := by unfold push1; rw [if_pos hd]
            rw [e1]
            simp [startD, wipeD, dsRet, dsRetN, dsIf, dsSeq, dsNext, dsAsg, dsDrop, dsBreak, dsCont, dsPar, dsAug, dsFrz, dsApp, dsExt, dsPut, dsAugO, dsOwn, dsParOO, dsParDO, dsParDDO, dsFrzA, dxRep, diOwn, dsRaise, deAnd, deOr, deNot, de1, de2, deB, deX, dxB, dxLst, deName, deC, deCall, deIxO, deLenO, deTup, deLst, daCons, daNil, daStar, deChain, dtChain, dtV, dtAnd, dtOr, dtNot, dtYes, deIf, deSl, doNone, doSome, rdAdd, rdSub, rdMul, rdMod, rdDiv, rdPow, rdI, rdIc, rdB, rdLt, rdLe, rdGt, rdGe, rdNeg, rdIs, rdEq, rdNe, rdIx, rdIsN, rdNotN, rdIsB, rdNotB, rdRev, rdSeats, rdCatL, rdCatT, rdRepL, rdLen, rdTuple, rdList, rxList, rdInt, rdMax2, rdMin2, dgName, dgTup, dgCons, dgNil, deRefused, rdRepr, rdNeS, rdEqL, rdNeL, rdRepT, rdIsLn, noOwn, diSeq, diEn, diZp, diR1, diR2, noX,  eqOk_int, eqOk_bl, eqOk_non, eqv_int, eqv_bl, eqv_non, atI_0, atI_1, atI_2, atI_3, qty_non, qisI_non, qisB_non, qisL_non, qisU_non, qisS_non, qisD_non, qisNon_non, qcooked_non, qseq_non, qty_bl, qisI_bl, qisB_bl, qisL_bl, qisU_bl, qisS_bl, qisD_bl, qisNon_bl, qcooked_bl, qseq_bl, qty_int, qisI_int, qisB_int, qisL_int, qisU_int, qisS_int, qisD_int, qisNon_int, qcooked_int, qseq_int, qty_str, qisI_str, qisB_str, qisL_str, qisU_str, qisS_str, qisD_str, qisNon_str, qcooked_str, qseq_str, qty_lst, qisI_lst, qisB_lst, qisL_lst, qisU_lst, qisS_lst, qisD_lst, qisNon_lst, qcooked_lst, qseq_lst, qty_tup, qisI_tup, qisB_tup, qisL_tup, qisU_tup, qisS_tup, qisD_tup, qisNon_tup, qcooked_tup, qseq_tup, qty_dct, qisI_dct, qisB_dct, qisL_dct, qisU_dct, qisS_dct, qisD_dct, qisNon_dct, qcooked_dct, qseq_dct, qix_lst, qsl_lst, qix_tup, qsl_tup, qisNon_ln, qcooked_ln, and_assoc, exists_and_left, exists_eq_left, exists_eq_left', exists_eq_right, deFget, dsFset, dsFsetO, deFix, dsFaug, dmCall, dmIx, dsDropM, dsAsgM, dmsSeq, dmsRet, dmsNil, dmsIf, dmsFrz, startM, dnMake, deNfld, deNmeth, dxLend, deLend, dnsSeq, dnsRet, putM1, putM2, putM3, putM4, mkSt, lkM_seats, lkM_requests, lkM_sale, lkM_roads, lkM_lay, lkM_len, lkM_bet, lkM_pri, putM_roads, lenM, rdInI, rdEqS, dxLc_eq, dsFor_eq, rngD_0, rngD_eq, zipD_map, enumD_map0, rd4, rd5, hd, ixN_of (n := ns.length) (i := x.idx) hlt]
            have ha1 := ha.1
            refine ⟨by omega, ns[x.idx], List.getElem?_eq_getElem hlt, .inl ⟨by omega, by omega⟩, ?_⟩
            unfold miAt
            rw [List.getElem?_eq_getElem hlt]
            rfl
        · obtain ⟨y, rfl⟩ := hj
          rw [List.take_length]
          simp [startD, wipeD, dsRet, dsRetN, dsIf, dsSeq, dsNext, dsAsg, dsDrop, dsBreak, dsCont, dsPar, dsAug, dsFrz, dsApp, dsExt, dsPut, dsAugO, dsOwn, dsParOO, dsParDO, dsParDDO, dsFrzA, dxRep, diOwn, dsRaise, deAnd, deOr, deNot, de1, de2, deB, deX, dxB, dxLst, deName, deC, deCall, deIxO, deLenO, deTup, deLst, daCons, daNil, daStar, deChain, dtChain, dtV, dtAnd, dtOr, dtNot, dtYes, deIf, deSl, doNone, doSome, rdAdd, rdSub, rdMul, rdMod, rdDiv, rdPow, rdI, rdIc, rdB, rdLt, rdLe, rdGt, rdGe, rdNeg, rdIs, rdEq, rdNe, rdIx, rdIsN, rdNotN, rdIsB, rdNotB, rdRev, rdSeats, rdCatL, rdCatT, rdRepL, rdLen, rdTuple, rdList, rxList, rdInt, rdMax2, rdMin2, dgName, dgTup, dgCons, dgNil, deRefused, rdRepr, rdNeS, rdEqL, rdNeL, rdRepT, rdIsLn, noOwn, diSeq, diEn, diZp, diR1, diR2, noX,  eqOk_int, eqOk_bl, eqOk_non, eqv_int, eqv_bl, eqv_non, atI_0, atI_1, atI_2, atI_3, qty_non, qisI_non, qisB_non, qisL_non, qisU_non, qisS_non, qisD_non, qisNon_non, qcooked_non, qseq_non, qty_bl, qisI_bl, qisB_bl, qisL_bl, qisU_bl, qisS_bl, qisD_bl, qisNon_bl, qcooked_bl, qseq_bl, qty_int, qisI_int, qisB_int, qisL_int, qisU_int, qisS_int, qisD_int, qisNon_int, qcooked_int, qseq_int, qty_str, qisI_str, qisB_str, qisL_str, qisU_str, qisS_str, qisD_str, qisNon_str, qcooked_str, qseq_str, qty_lst, qisI_lst, qisB_lst, qisL_lst, qisU_lst, qisS_lst, qisD_lst, qisNon_lst, qcooked_lst, qseq_lst, qty_tup, qisI_tup, qisB_tup, qisL_tup, qisU_tup, qisS_tup, qisD_tup, qisNon_tup, qcooked_tup, qseq_tup, qty_dct, qisI_dct, qisB_dct, qisL_dct, qisU_dct, qisS_dct, qisD_dct, qisNon_dct, qcooked_dct, qseq_dct, qix_lst, qsl_lst, qix_tup, qsl_tup, qisNon_ln, qcooked_ln, and_assoc, exists_and_left, exists_eq_left, exists_eq_left', exists_eq_right, deFget, dsFset, dsFsetO, deFix, dsFaug, dmCall, dmIx, dsDropM, dsAsgM, dmsSeq, dmsRet, dmsNil, dmsIf, dmsFrz, startM, dnMake, deNfld, deNmeth, dxLend, deLend, dnsSeq, dnsRet, putM1, putM2, putM3, putM4, mkSt, lkM_seats, lkM_requests, lkM_sale, lkM_roads, lkM_lay, lkM_len, lkM_bet, lkM_pri, putM_roads, lenM, rdInI, rdEqS, dxLc_eq, dsFor_eq, rngD_0, rngD_eq, zipD_map, enumD_map0]
          exact ⟨mkSt sa sd rd (pushR er.cap ms R) (roadsD (roadsN ss rs ms)), rfl, rfl, rfl, o2 _ b1 b2 b3⟩
      · refine .inr ⟨?_, ?_⟩
        · rw [h2]
          intro z
          exact Fd.min (j + 1) (by omega) (by omega) (by omega)
        · obtain ⟨e1, k1, k2, k3⟩ := rdl (j + 1)
          rw [h2]
          refine ⟨_, k1, by omega, q - 1, by omega, j + 1, ?_, by omega⟩
          rw [ringL_succ k2, List.map_append]
          rfl

end
end K12
end
-- F_12_Market_prices
section
set_option Elab.async false
set_option linter.all false
set_option maxRecDepth 100000
set_option maxHeartbeats 4000000
set_option autoImplicit false
namespace K12
open PySem PySem.Spec PyProof.Rows L2 Sd
section
variable {P : Program} {w : World} {K : PySem.W.Frag} {mg : Str → Option Value} {base : Heap}
theorem ok_Market_prices (T : Txt K mg) {f : Addr} {fd : FuncData} (F : FunD K "prices" "Market.prices" (defArgs s_Market_prices) (defBody s_Market_prices) (defScope s_Market_prices) [] [] f fd) (m_Market_lay_roads : Mt P w K mg base 2 "Market" "lay_roads" sp_lay_roads) (m_Market_lengths : Mt P w K mg base 1 "Market" "lengths" sp_lengths) : FnOk P w K mg base (L2.CX P w) 3 f fd ["self"] (spM K "Market" sp_prices) := by
  have sc := sc_Market_prices
  refine fnM F sc (fun st ds O h => by
    obtain ⟨_, _, _, _, _, _, _, _, e, _⟩ := h
    rw [e] <;> rfl) (by decide) (fun cdv A outer s H G E m dx st ds O hr h => ⟨_, (pms_cons (psd_dropM (pem_call m_Market_lay_roads hr (by first | decide | omega) (pv 0)))
  (pms_cons (psd_asgM (pem_ix (pem_call m_Market_lengths hr (by first | decide | omega) (pv 0))) (pgd_name (i := 1) sc.nd rfl (Or.inr rfl)))
  (pms_ret (pd_callTy call_tuple_of snd_tuple T.b_tuple (pad_cons (pd_x (pxd_lc (own := [(("leg" : Str), 2)]) sc.nd (pid_r1 T.b_range (pad_cons (pd_callB call_len_seq snd_len T.b_len (pad_cons (pd_fget (i := 0) T.clMarket T.nMarket_seats (pv 0)) pad_nil)) pad_nil)) (by kernel_rfl) (fun _ _ _ _ _ => (pgc_name (i := 2) sc.nd rfl (by first | exact Or.inl rfl | exact Or.inr rfl) (by decide))) (fun _ _ _ _ _ => ptsd_nil) (fun _ _ _ _ _ => (pd_sub (pd_item (pd_name (pv 1)) (pd_name (pv 2))) (pd_item (pd_name (pv 1)) (pd_add (pd_name (pv 2)) pd_int)))))) pad_nil))))), ?_⟩)
  obtain ⟨sa, sd, rd, ss, rs, ms, r, rfl, rfl, M, Bt, o⟩ := h
  have hs := M.sq
  have hen := roads_ends Bt.ask.1 M.ok
  have hsl := M.sl
  simp [startD, wipeD, dsRet, dsRetN, dsIf, dsSeq, dsNext, dsAsg, dsDrop, dsBreak, dsCont, dsPar, dsAug, dsFrz, dsApp, dsExt, dsPut, dsAugO, dsOwn, dsParOO, dsParDO, dsParDDO, dsFrzA, dxRep, diOwn, dsRaise, deAnd, deOr, deNot, de1, de2, deB, deX, dxB, dxLst, deName, deC, deCall, deIxO, deLenO, deTup, deLst, daCons, daNil, daStar, deChain, dtChain, dtV, dtAnd, dtOr, dtNot, dtYes, deIf, deSl, doNone, doSome, rdAdd, rdSub, rdMul, rdMod, rdDiv, rdPow, rdI, rdIc, rdB, rdLt, rdLe, rdGt, rdGe, rdNeg, rdIs, rdEq, rdNe, rdIx, rdIsN, rdNotN, rdIsB, rdNotB, rdRev, rdSeats, rdCatL, rdCatT, rdRepL, rdLen, rdTuple, rdList, rxList, rdInt, rdMax2, rdMin2, dgName, dgTup, dgCons, dgNil, deRefused, rdRepr, rdNeS, rdEqL, rdNeL, rdRepT, rdIsLn, noOwn, diSeq, diEn, diZp, diR1, diR2, noX,  eqOk_int, eqOk_bl, eqOk_non, eqv_int, eqv_bl, eqv_non, atI_0, atI_1, atI_2, atI_3, qty_non, qisI_non, qisB_non, qisL_non, qisU_non, qisS_non, qisD_non, qisNon_non, qcooked_non, qseq_non, qty_bl, qisI_bl, qisB_bl, qisL_bl, qisU_bl, qisS_bl, qisD_bl, qisNon_bl, qcooked_bl, qseq_bl, qty_int, qisI_int, qisB_int, qisL_int, qisU_int, qisS_int, qisD_int, qisNon_int, qcooked_int, qseq_int, qty_str, qisI_str, qisB_str, qisL_str, qisU_str, qisS_str, qisD_str, qisNon_str, qcooked_str, qseq_str, qty_lst, qisI_lst, qisB_lst, qisL_lst, qisU_lst, qisS_lst, qisD_lst, qisNon_lst, qcooked_lst, qseq_lst, qty_tup, qisI_tup, qisB_tup, qisL_tup, qisU_tup, qisS_tup, qisD_tup, qisNon_tup, qcooked_tup, qseq_tup, qty_dct, qisI_dct, qisB_dct, qisL_dct, qisU_dct, qisS_dct, qisD_dct, qisNon_dct, qcooked_dct, qseq_dct, qix_lst, qsl_lst, qix_tup, qsl_tup, qisNon_ln, qcooked_ln, and_assoc, exists_and_left, exists_eq_left, exists_eq_left', exists_eq_right, deFget, dsFset, dsFsetO, deFix, dsFaug, dmCall, dmIx, dsDropM, dsAsgM, dmsSeq, dmsRet, dmsNil, dmsIf, dmsFrz, startM, dnMake, deNfld, deNmeth, dxLend, deLend, dnsSeq, dnsRet, putM1, putM2, putM3, putM4, mkSt, lkM_seats, lkM_requests, lkM_sale, lkM_roads, lkM_lay, lkM_len, lkM_bet, lkM_pri, putM_roads, lenM, rdInI, rdEqS, dxLc_eq, dsFor_eq, rngD_0, rngD_eq, zipD_map, enumD_map0, hs]
  refine ⟨sa, sd, rd, ss, rs, ms, r, rfl, rfl, M, Bt.ask.1, ?_⟩
  simp [startD, wipeD, dsRet, dsRetN, dsIf, dsSeq, dsNext, dsAsg, dsDrop, dsBreak, dsCont, dsPar, dsAug, dsFrz, dsApp, dsExt, dsPut, dsAugO, dsOwn, dsParOO, dsParDO, dsParDDO, dsFrzA, dxRep, diOwn, dsRaise, deAnd, deOr, deNot, de1, de2, deB, deX, dxB, dxLst, deName, deC, deCall, deIxO, deLenO, deTup, deLst, daCons, daNil, daStar, deChain, dtChain, dtV, dtAnd, dtOr, dtNot, dtYes, deIf, deSl, doNone, doSome, rdAdd, rdSub, rdMul, rdMod, rdDiv, rdPow, rdI, rdIc, rdB, rdLt, rdLe, rdGt, rdGe, rdNeg, rdIs, rdEq, rdNe, rdIx, rdIsN, rdNotN, rdIsB, rdNotB, rdRev, rdSeats, rdCatL, rdCatT, rdRepL, rdLen, rdTuple, rdList, rxList, rdInt, rdMax2, rdMin2, dgName, dgTup, dgCons, dgNil, deRefused, rdRepr, rdNeS, rdEqL, rdNeL, rdRepT, rdIsLn, noOwn, diSeq, diEn, diZp, diR1, diR2, noX,  eqOk_int, eqOk_bl, eqOk_non, eqv_int, eqv_bl, eqv_non, atI_0, atI_1, atI_2, atI_3, qty_non, qisI_non, qisB_non, qisL_non, qisU_non, qisS_non, qisD_non, qisNon_non, qcooked_non, qseq_non, qty_bl, qisI_bl, qisB_bl, qisL_bl, qisU_bl, qisS_bl, qisD_bl, qisNon_bl, qcooked_bl, qseq_bl, qty_int, qisI_int, qisB_int, qisL_int, qisU_int, qisS_int, qisD_int, qisNon_int, qcooked_int, qseq_int, qty_str, qisI_str, qisB_str, qisL_str, qisU_str, qisS_str, qisD_str, qisNon_str, qcooked_str, qseq_str, qty_lst, qisI_lst, qisB_lst, qisL_lst, qisU_lst, qisS_lst, qisD_lst, qisNon_lst, qcooked_lst, qseq_lst, qty_tup, qisI_tup, qisB_tup, qisL_tup, qisU_tup, qisS_tup, qisD_tup, qisNon_tup, qcooked_tup, qseq_tup, qty_dct, qisI_dct, qisB_dct, qisL_dct, qisU_dct, qisS_dct, qisD_dct, qisNon_dct, qcooked_dct, qseq_dct, qix_lst, qsl_lst, qix_tup, qsl_tup, qisNon_ln, qcooked_ln, and_assoc, exists_and_left, exists_eq_left, exists_eq_left', exists_eq_right, deFget, dsFset, dsFsetO, deFix, dsFaug, dmCall, dmIx, dsDropM, dsAsgM, dmsSeq, dmsRet, dmsNil, dmsIf, dmsFrz, startM, dnMake, deNfld, deNmeth, dxLend, deLend, dnsSeq, dnsRet, putM1, putM2, putM3, putM4, mkSt, lkM_seats, lkM_requests, lkM_sale, lkM_roads, lkM_lay, lkM_len, lkM_bet, lkM_pri, putM_roads, lenM, rdInI, rdEqS, dxLc_eq, dsFor_eq, rngD_0, rngD_eq, zipD_map, enumD_map0, hs]
  refine ⟨sa, sd, rd, ss.map .int, ms, roadsN ss rs ms, rfl, rfl, hs, by rw [List.length_map]; exact hsl, fun e he => by rw [List.length_map]; exact ⟨(hen e he).1, (hen e he).2.1⟩, ?_⟩
  rw [List.length_map]
  have hl := (rounds_len (roadsN ss rs ms) (ss.length + 1) (ss.length + 2)).1
  have hc : costsN ss rs ms = (roundsB (roadsN ss rs ms) (ss.length + 1) (ss.length + 2)).c := rfl
  simp [startD, wipeD, dsRet, dsRetN, dsIf, dsSeq, dsNext, dsAsg, dsDrop, dsBreak, dsCont, dsPar, dsAug, dsFrz, dsApp, dsExt, dsPut, dsAugO, dsOwn, dsParOO, dsParDO, dsParDDO, dsFrzA, dxRep, diOwn, dsRaise, deAnd, deOr, deNot, de1, de2, deB, deX, dxB, dxLst, deName, deC, deCall, deIxO, deLenO, deTup, deLst, daCons, daNil, daStar, deChain, dtChain, dtV, dtAnd, dtOr, dtNot, dtYes, deIf, deSl, doNone, doSome, rdAdd, rdSub, rdMul, rdMod, rdDiv, rdPow, rdI, rdIc, rdB, rdLt, rdLe, rdGt, rdGe, rdNeg, rdIs, rdEq, rdNe, rdIx, rdIsN, rdNotN, rdIsB, rdNotB, rdRev, rdSeats, rdCatL, rdCatT, rdRepL, rdLen, rdTuple, rdList, rxList, rdInt, rdMax2, rdMin2, dgName, dgTup, dgCons, dgNil, deRefused, rdRepr, rdNeS, rdEqL, rdNeL, rdRepT, rdIsLn, noOwn, diSeq, diEn, diZp, diR1, diR2, noX,  eqOk_int, eqOk_bl, eqOk_non, eqv_int, eqv_bl, eqv_non, atI_0, atI_1, atI_2, atI_3, qty_non, qisI_non, qisB_non, qisL_non, qisU_non, qisS_non, qisD_non, qisNon_non, qcooked_non, qseq_non, qty_bl, qisI_bl, qisB_bl, qisL_bl, qisU_bl, qisS_bl, qisD_bl, qisNon_bl, qcooked_bl, qseq_bl, qty_int, qisI_int, qisB_int, qisL_int, qisU_int, qisS_int, qisD_int, qisNon_int, qcooked_int, qseq_int, qty_str, qisI_str, qisB_str, qisL_str, qisU_str, qisS_str, qisD_str, qisNon_str, qcooked_str, qseq_str, qty_lst, qisI_lst, qisB_lst, qisL_lst, qisU_lst, qisS_lst, qisD_lst, qisNon_lst, qcooked_lst, qseq_lst, qty_tup, qisI_tup, qisB_tup, qisL_tup, qisU_tup, qisS_tup, qisD_tup, qisNon_tup, qcooked_tup, qseq_tup, qty_dct, qisI_dct, qisB_dct, qisL_dct, qisU_dct, qisS_dct, qisD_dct, qisNon_dct, qcooked_dct, qseq_dct, qix_lst, qsl_lst, qix_tup, qsl_tup, qisNon_ln, qcooked_ln, and_assoc, exists_and_left, exists_eq_left, exists_eq_left', exists_eq_right, deFget, dsFset, dsFsetO, deFix, dsFaug, dmCall, dmIx, dsDropM, dsAsgM, dmsSeq, dmsRet, dmsNil, dmsIf, dmsFrz, startM, dnMake, deNfld, deNmeth, dxLend, deLend, dnsSeq, dnsRet, putM1, putM2, putM3, putM4, mkSt, lkM_seats, lkM_requests, lkM_sale, lkM_roads, lkM_lay, lkM_len, lkM_bet, lkM_pri, putM_roads, lenM, rdInI, rdEqS, dxLc_eq, dsFor_eq, rngD_0, rngD_eq, zipD_map, enumD_map0, hs, lensD]
  rw [← hc] at hl ⊢
  have he : pricesC ss.length (costsN ss rs ms) = (List.range ss.length).map fun i => cAt (costsN ss rs ms) i - cAt (costsN ss rs ms) (i + 1) := rfl
  rw [he] at o
  generalize costsN ss rs ms = cc at hl o
  refine ⟨by omega, ?_⟩
  refine lb_on (List.range ss.length) (fun i => .int (cAt cc i - cAt cc (i + 1))) (by rw [List.length_range]; omega) (fun i hi R hR => ?_) ?_
  · have hi := List.mem_range.mp hi
    have e1 := atC (c := cc) (i := i) (by omega)
    have e2 := atC (c := cc) (i := i + 1) (by omega)
    have e3 : (((i + 1 : Nat) : Nat) : Int) = (i : Int) + 1 := by omega
    rw [e3] at e2
    simp [startD, wipeD, dsRet, dsRetN, dsIf, dsSeq, dsNext, dsAsg, dsDrop, dsBreak, dsCont, dsPar, dsAug, dsFrz, dsApp, dsExt, dsPut, dsAugO, dsOwn, dsParOO, dsParDO, dsParDDO, dsFrzA, dxRep, diOwn, dsRaise, deAnd, deOr, deNot, de1, de2, deB, deX, dxB, dxLst, deName, deC, deCall, deIxO, deLenO, deTup, deLst, daCons, daNil, daStar, deChain, dtChain, dtV, dtAnd, dtOr, dtNot, dtYes, deIf, deSl, doNone, doSome, rdAdd, rdSub, rdMul, rdMod, rdDiv, rdPow, rdI, rdIc, rdB, rdLt, rdLe, rdGt, rdGe, rdNeg, rdIs, rdEq, rdNe, rdIx, rdIsN, rdNotN, rdIsB, rdNotB, rdRev, rdSeats, rdCatL, rdCatT, rdRepL, rdLen, rdTuple, rdList, rxList, rdInt, rdMax2, rdMin2, dgName, dgTup, dgCons, dgNil, deRefused, rdRepr, rdNeS, rdEqL, rdNeL, rdRepT, rdIsLn, noOwn, diSeq, diEn, diZp, diR1, diR2, noX,  eqOk_int, eqOk_bl, eqOk_non, eqv_int, eqv_bl, eqv_non, atI_0, atI_1, atI_2, atI_3, qty_non, qisI_non, qisB_non, qisL_non, qisU_non, qisS_non, qisD_non, qisNon_non, qcooked_non, qseq_non, qty_bl, qisI_bl, qisB_bl, qisL_bl, qisU_bl, qisS_bl, qisD_bl, qisNon_bl, qcooked_bl, qseq_bl, qty_int, qisI_int, qisB_int, qisL_int, qisU_int, qisS_int, qisD_int, qisNon_int, qcooked_int, qseq_int, qty_str, qisI_str, qisB_str, qisL_str, qisU_str, qisS_str, qisD_str, qisNon_str, qcooked_str, qseq_str, qty_lst, qisI_lst, qisB_lst, qisL_lst, qisU_lst, qisS_lst, qisD_lst, qisNon_lst, qcooked_lst, qseq_lst, qty_tup, qisI_tup, qisB_tup, qisL_tup, qisU_tup, qisS_tup, qisD_tup, qisNon_tup, qcooked_tup, qseq_tup, qty_dct, qisI_dct, qisB_dct, qisL_dct, qisU_dct, qisS_dct, qisD_dct, qisNon_dct, qcooked_dct, qseq_dct, qix_lst, qsl_lst, qix_tup, qsl_tup, qisNon_ln, qcooked_ln, and_assoc, exists_and_left, exists_eq_left, exists_eq_left', exists_eq_right, deFget, dsFset, dsFsetO, deFix, dsFaug, dmCall, dmIx, dsDropM, dsAsgM, dmsSeq, dmsRet, dmsNil, dmsIf, dmsFrz, startM, dnMake, deNfld, deNmeth, dxLend, deLend, dnsSeq, dnsRet, putM1, putM2, putM3, putM4, mkSt, lkM_seats, lkM_requests, lkM_sale, lkM_roads, lkM_lay, lkM_len, lkM_bet, lkM_pri, putM_roads, lenM, rdInI, rdEqS, dxLc_eq, dsFor_eq, rngD_0, rngD_eq, zipD_map, enumD_map0, e1, e2]
    exact hR
  · rw [List.map_map] at o
    exact ⟨mkSt sa sd rd ms (roadsD (roadsN ss rs ms)), rfl, rfl, rfl, o⟩

end
end K12
end
-- F_12_told_best
section
set_option Elab.async false
set_option linter.all false
set_option maxRecDepth 100000
set_option maxHeartbeats 4000000
set_option autoImplicit false
namespace K12
open PySem PySem.Spec PyProof.Rows L2 Sd
section
variable {P : Program} {w : World} {K : PySem.W.Frag} {mg : Str → Option Value} {base : Heap}
theorem ok_told_best (T : Txt K mg) {f : Addr} {fd : FuncData} (F : FnP K "told_best" s_told_best f fd) (c_told_takings : Cl P w K mg base 1 "told_takings" sp_told_takings [])  (mk_Market : MkO P w K mg base 4 "Market" sp_Market) : FnOk P w K mg base (L2.CX P w) 6 f fd ["seats", "requests"] (spD K sp_told_best00) := by
  have sc := sc_told_best
  refine fnD F sc (fun F ds O h => by
    obtain ⟨_, _, _, _, e, _⟩ := h
    rw [e] <;> rfl) (fun cdv A outer s G E ds O hr h hE => ⟨_, (pssd_one (psd_ret (pd_call c_told_takings hr (by first | decide | omega) (pad_cons (pd_name (pv 1)) (pad_cons (pd_nfld T.clMarket T.nMarket_sale (pn_make mk_Market hr (by first | decide | omega) (pad_cons (pd_name (pv 0)) (pad_cons (pd_name (pv 1)) pad_nil)))) pad_nil))))), ?_⟩)
  obtain ⟨sd, rd, ss, rs, rfl, M, o⟩ := h
  simp [startD, wipeD, dsRet, dsRetN, dsIf, dsSeq, dsNext, dsAsg, dsDrop, dsBreak, dsCont, dsPar, dsAug, dsFrz, dsApp, dsExt, dsPut, dsAugO, dsOwn, dsParOO, dsParDO, dsParDDO, dsFrzA, dxRep, diOwn, dsRaise, deAnd, deOr, deNot, de1, de2, deB, deX, dxB, dxLst, deName, deC, deCall, deIxO, deLenO, deTup, deLst, daCons, daNil, daStar, deChain, dtChain, dtV, dtAnd, dtOr, dtNot, dtYes, deIf, deSl, doNone, doSome, rdAdd, rdSub, rdMul, rdMod, rdDiv, rdPow, rdI, rdIc, rdB, rdLt, rdLe, rdGt, rdGe, rdNeg, rdIs, rdEq, rdNe, rdIx, rdIsN, rdNotN, rdIsB, rdNotB, rdRev, rdSeats, rdCatL, rdCatT, rdRepL, rdLen, rdTuple, rdList, rxList, rdInt, rdMax2, rdMin2, dgName, dgTup, dgCons, dgNil, deRefused, rdRepr, rdNeS, rdEqL, rdNeL, rdRepT, rdIsLn, noOwn, diSeq, diEn, diZp, diR1, diR2, noX,  eqOk_int, eqOk_bl, eqOk_non, eqv_int, eqv_bl, eqv_non, atI_0, atI_1, atI_2, atI_3, qty_non, qisI_non, qisB_non, qisL_non, qisU_non, qisS_non, qisD_non, qisNon_non, qcooked_non, qseq_non, qty_bl, qisI_bl, qisB_bl, qisL_bl, qisU_bl, qisS_bl, qisD_bl, qisNon_bl, qcooked_bl, qseq_bl, qty_int, qisI_int, qisB_int, qisL_int, qisU_int, qisS_int, qisD_int, qisNon_int, qcooked_int, qseq_int, qty_str, qisI_str, qisB_str, qisL_str, qisU_str, qisS_str, qisD_str, qisNon_str, qcooked_str, qseq_str, qty_lst, qisI_lst, qisB_lst, qisL_lst, qisU_lst, qisS_lst, qisD_lst, qisNon_lst, qcooked_lst, qseq_lst, qty_tup, qisI_tup, qisB_tup, qisL_tup, qisU_tup, qisS_tup, qisD_tup, qisNon_tup, qcooked_tup, qseq_tup, qty_dct, qisI_dct, qisB_dct, qisL_dct, qisU_dct, qisS_dct, qisD_dct, qisNon_dct, qcooked_dct, qseq_dct, qix_lst, qsl_lst, qix_tup, qsl_tup, qisNon_ln, qcooked_ln, and_assoc, exists_and_left, exists_eq_left, exists_eq_left', exists_eq_right, deFget, dsFset, dsFsetO, deFix, dsFaug, dmCall, dmIx, dsDropM, dsAsgM, dmsSeq, dmsRet, dmsNil, dmsIf, dmsFrz, startM, dnMake, deNfld, deNmeth, dxLend, deLend, dnsSeq, dnsRet, putM1, putM2, putM3, putM4, mkSt, lkM_seats, lkM_requests, lkM_sale, lkM_roads, lkM_lay, lkM_len, lkM_bet, lkM_pri, putM_roads, lenM, rdInI, rdEqS, sp_told_takings, dxLc_eq, dsFor_eq, rngD_0, rngD_eq, zipD_map, enumD_map0]
  exact ⟨0, sd, rd, ss, rs, rfl, rfl, M, fun t ms r B => ⟨rfl, _, rfl, lkM_sale, rs, M.rq, ms, rfl, ⟨_, M.ok⟩, by have := M.rl; omega, o _ (B.isMost M.ok)⟩⟩

end
end K12
end
-- F_12_best_prices
section
set_option Elab.async false
set_option linter.all false
set_option maxRecDepth 100000
set_option maxHeartbeats 4000000
set_option autoImplicit false
namespace K12
open PySem PySem.Spec PyProof.Rows L2 Sd
section
variable {P : Program} {w : World} {K : PySem.W.Frag} {mg : Str → Option Value} {base : Heap}
theorem ok_best_prices (T : Txt K mg) {f : Addr} {fd : FuncData} (F : FnP K "best_prices" s_best_prices f fd) (c_check_requests : Cl P w K mg base 4 "check_requests" sp_check_requests [])  (mk_Market : MkO P w K mg base 4 "Market" sp_Market) (m_Market_prices : Mt P w K mg base 3 "Market" "prices" sp_prices) : FnOk P w K mg base (L2.CX P w) 6 f fd ["line", "requests"] (spD K sp_best_prices) := by
  have sc := sc_best_prices
  refine fnD F sc (fun F ds O h => by
    obtain ⟨_, _, e, _⟩ := h
    rw [e] <;> rfl) (fun cdv A outer s G E ds O hr h hE => ⟨_, (pssd_cons (psd_drop (pd_callX c_check_requests hr (by first | decide | omega) hE (passes_call (takes_of rfl rfl rfl rfl) (fun _ _ _ _ z => z)) (pad_cons (pd_name (pv 0)) (pad_cons (pd_name (pv 1)) pad_nil))))
  (pssd_one (psd_ret (pd_nmeth m_Market_prices hr (by first | decide | omega) (pn_make mk_Market hr (by first | decide | omega) (pad_cons (pd_seats T.clLine T.nSeats (pd_name (pv 0))) (pad_cons (pd_name (pv 1)) pad_nil))))))), ?_⟩)
  obtain ⟨seats, d2, rfl, hn, h0, h2, k1, k2⟩ := h
  have ht2 := okv_ty h2
  simp [startD, wipeD, dsRet, dsRetN, dsIf, dsSeq, dsNext, dsAsg, dsDrop, dsBreak, dsCont, dsPar, dsAug, dsFrz, dsApp, dsExt, dsPut, dsAugO, dsOwn, dsParOO, dsParDO, dsParDDO, dsFrzA, dxRep, diOwn, dsRaise, deAnd, deOr, deNot, de1, de2, deB, deX, dxB, dxLst, deName, deC, deCall, deIxO, deLenO, deTup, deLst, daCons, daNil, daStar, deChain, dtChain, dtV, dtAnd, dtOr, dtNot, dtYes, deIf, deSl, doNone, doSome, rdAdd, rdSub, rdMul, rdMod, rdDiv, rdPow, rdI, rdIc, rdB, rdLt, rdLe, rdGt, rdGe, rdNeg, rdIs, rdEq, rdNe, rdIx, rdIsN, rdNotN, rdIsB, rdNotB, rdRev, rdSeats, rdCatL, rdCatT, rdRepL, rdLen, rdTuple, rdList, rxList, rdInt, rdMax2, rdMin2, dgName, dgTup, dgCons, dgNil, deRefused, rdRepr, rdNeS, rdEqL, rdNeL, rdRepT, rdIsLn, noOwn, diSeq, diEn, diZp, diR1, diR2, noX,  eqOk_int, eqOk_bl, eqOk_non, eqv_int, eqv_bl, eqv_non, atI_0, atI_1, atI_2, atI_3, qty_non, qisI_non, qisB_non, qisL_non, qisU_non, qisS_non, qisD_non, qisNon_non, qcooked_non, qseq_non, qty_bl, qisI_bl, qisB_bl, qisL_bl, qisU_bl, qisS_bl, qisD_bl, qisNon_bl, qcooked_bl, qseq_bl, qty_int, qisI_int, qisB_int, qisL_int, qisU_int, qisS_int, qisD_int, qisNon_int, qcooked_int, qseq_int, qty_str, qisI_str, qisB_str, qisL_str, qisU_str, qisS_str, qisD_str, qisNon_str, qcooked_str, qseq_str, qty_lst, qisI_lst, qisB_lst, qisL_lst, qisU_lst, qisS_lst, qisD_lst, qisNon_lst, qcooked_lst, qseq_lst, qty_tup, qisI_tup, qisB_tup, qisL_tup, qisU_tup, qisS_tup, qisD_tup, qisNon_tup, qcooked_tup, qseq_tup, qty_dct, qisI_dct, qisB_dct, qisL_dct, qisU_dct, qisS_dct, qisD_dct, qisNon_dct, qcooked_dct, qseq_dct, qix_lst, qsl_lst, qix_tup, qsl_tup, qisNon_ln, qcooked_ln, and_assoc, exists_and_left, exists_eq_left, exists_eq_left', exists_eq_right, deFget, dsFset, dsFsetO, deFix, dsFaug, dmCall, dmIx, dsDropM, dsAsgM, dmsSeq, dmsRet, dmsNil, dmsIf, dmsFrz, startM, dnMake, deNfld, deNmeth, dxLend, deLend, dnsSeq, dnsRet, putM1, putM2, putM3, putM4, mkSt, lkM_seats, lkM_requests, lkM_sale, lkM_roads, lkM_lay, lkM_len, lkM_bet, lkM_pri, putM_roads, lenM, rdInI, rdEqS, sp_check_requests, ht2, h2, hn]
  refine ⟨k1, fun hb => ?_⟩
  obtain ⟨rs, hs, ok, hl⟩ := good_reqs hb
  have M : Mk00 (D.tup (seats.map D.int)) d2 seats rs := ⟨rfl, hs, ok, hn, by omega, h0⟩
  exact ⟨0, _, d2, seats, rs, rfl, rfl, M, fun t ms r B => ⟨rfl, lkM_pri, t, _, d2, seats, rs, ms, r, rfl, rfl, M, B, k2 rs hs ok hl ms B⟩⟩

end
end K12
end
-- F_12_Line___init__
section
set_option Elab.async false
set_option linter.all false
set_option maxRecDepth 100000
set_option maxHeartbeats 4000000
set_option autoImplicit false
namespace K12
open PySem PySem.Spec PyProof.Rows L2 Sd
section
variable {P : Program} {w : World} {K : PySem.W.Frag} {mg : Str → Option Value} {base : Heap}
theorem ok_Line_init (T : Txt K mg) {f : Addr} {fd : FuncData} (F : FunD K "__init__" "Line.__init__" (defArgs s_Line___init__) (defBody s_Line___init__) (defScope s_Line___init__) [] [] f fd) (c_is_row : Cl P w K mg base 1 "is_row" sp_is_row []) (c_is_within : Cl P w K mg base 2 "is_within" sp_is_within []) (x_BadSeats : Er P w K mg base 1 "BadSeats") : FnOk P w K mg base (L2.CX P w) 3 f fd ["self", "seats"] (spInit K) := by
  have sc := sc_Line___init__
  refine F.ok sc (fun vs H Q E ⟨_, _, _, _, _, _, _, e, _⟩ => by rw [e] <;> rfl) fun cdv A outer s H vs Q E hr ⟨Fs, B, x, dx, v, d, O, ev, he, hf, bx, hx, nsx, rv, h, q, qx⟩ => ?_
  subst ev
  obtain ⟨d', e', hv, o1, o2⟩ := h
  cases e'
  have ht := okv_ty hv
  let G : Gx := ⟨Fs, B, H⟩
  have hE : DlvX K G (fun n d => O (.exc n d)) E := fun n d dd v B' H' o m hd rd => qx n d dd v B' H' o m hd rd
  refine ⟨_, pss_cons (show PSd _ G _ _ from (psd_if (ptd_w (pwd_or (ptd_not (ptd_val (pd_call c_is_row hr (by first | decide | omega) (pad_cons (pd_name (pv 1)) pad_nil)))) (pwd_or1 (ptd_not (ptd_lele pd_int (pd_callB call_len_seq snd_len T.b_len (pad_cons (pd_name (pv 1)) pad_nil)) (pd_gint T.c_MOST_LEGS))))))
  (pssd_one (psd_raise x_BadSeats hr hE (takes_of rfl rfl rfl rfl) (pad_cons (pd_neg pd_int) pad_nil)))
  pssd_nil)) (pss_cons (show PSd _ G _ _ from (psd_for (passes_of rfl) (pid_en T.b_enumerate (pad_cons (pd_name (pv 1)) pad_nil)) (pgd_tup (n := 2) (pgsd_cons (pgd_name (i := 2) sc.nd rfl (Or.inl rfl)) (pgsd_cons (pgd_name (i := 3) sc.nd rfl (Or.inl rfl)) pgsd_nil)))
  (pssd_one (psd_if (ptd_not (ptd_val (pd_call c_is_within hr (by first | decide | omega) (pad_cons (pd_name (pv 3)) (pad_cons pd_int (pad_cons (pd_gint T.c_MOST_SEATS) pad_nil))))))
  (pssd_one (psd_raise x_BadSeats hr hE (takes_of rfl rfl rfl rfl) (pad_cons (pd_name (pv 2)) pad_nil)))
  pssd_nil)))) (pss_one (ps_fld (pv 0) (show PEd _ G _ _ from pd_callTy call_tuple_of snd_tuple T.b_tuple (pad_cons (pd_name (pv 1)) pad_nil)) (by rfl)))), ?_⟩
  have st0 : Stt K G (L2.start ["self", "seats", "index", "many"] [.ref x, v]) B H (startD ["self", "seats", "index", "many"] [.raw (.ref x), d]) := RpA.start he hf (.cons (.raw _) (.cons rv .nil))
  refine ⟨B, _, { nx := fun δ => ∃ a b, δ = [.dat (.raw (.ref x)), .dat d, a, b] ∧ ∃ xs, d.seq = some xs ∧ (badSeats d = Option.map Int.ofNat (xs.findIdx? fun x => !isWithin x 0 20)), rt := fun _ => False }, st0, ?_, ⟨fun σ1 B1 H1 δ1 _ s1 h1 => ?_, fun _ _ _ _ _ z => z.elim, fun _ _ _ _ _ _ z => z.elim, fun _ _ _ _ _ _ z => z.elim⟩⟩
  · simp [startD, wipeD, dsRet, dsRetN, dsIf, dsSeq, dsNext, dsAsg, dsDrop, dsBreak, dsCont, dsPar, dsAug, dsFrz, dsApp, dsExt, dsPut, dsAugO, dsOwn, dsParOO, dsParDO, dsParDDO, dsFrzA, dxRep, diOwn, dsRaise, deAnd, deOr, deNot, de1, de2, deB, deX, dxB, dxLst, deName, deC, deCall, deIxO, deLenO, deTup, deLst, daCons, daNil, daStar, deChain, dtChain, dtV, dtAnd, dtOr, dtNot, dtYes, deIf, deSl, doNone, doSome, rdAdd, rdSub, rdMul, rdMod, rdDiv, rdPow, rdI, rdIc, rdB, rdLt, rdLe, rdGt, rdGe, rdNeg, rdIs, rdEq, rdNe, rdIx, rdIsN, rdNotN, rdIsB, rdNotB, rdRev, rdSeats, rdCatL, rdCatT, rdRepL, rdLen, rdTuple, rdList, rxList, rdInt, rdMax2, rdMin2, dgName, dgTup, dgCons, dgNil, deRefused, rdRepr, rdNeS, rdEqL, rdNeL, rdRepT, rdIsLn, noOwn, diSeq, diEn, diZp, diR1, diR2, noX,  eqOk_int, eqOk_bl, eqOk_non, eqv_int, eqv_bl, eqv_non, atI_0, atI_1, atI_2, atI_3, qty_non, qisI_non, qisB_non, qisL_non, qisU_non, qisS_non, qisD_non, qisNon_non, qcooked_non, qseq_non, qty_bl, qisI_bl, qisB_bl, qisL_bl, qisU_bl, qisS_bl, qisD_bl, qisNon_bl, qcooked_bl, qseq_bl, qty_int, qisI_int, qisB_int, qisL_int, qisU_int, qisS_int, qisD_int, qisNon_int, qcooked_int, qseq_int, qty_str, qisI_str, qisB_str, qisL_str, qisU_str, qisS_str, qisD_str, qisNon_str, qcooked_str, qseq_str, qty_lst, qisI_lst, qisB_lst, qisL_lst, qisU_lst, qisS_lst, qisD_lst, qisNon_lst, qcooked_lst, qseq_lst, qty_tup, qisI_tup, qisB_tup, qisL_tup, qisU_tup, qisS_tup, qisD_tup, qisNon_tup, qcooked_tup, qseq_tup, qty_dct, qisI_dct, qisB_dct, qisL_dct, qisU_dct, qisS_dct, qisD_dct, qisNon_dct, qcooked_dct, qseq_dct, qix_lst, qsl_lst, qix_tup, qsl_tup, qisNon_ln, qcooked_ln, and_assoc, exists_and_left, exists_eq_left, exists_eq_left', exists_eq_right, deFget, dsFset, dsFsetO, deFix, dsFaug, dmCall, dmIx, dsDropM, dsAsgM, dmsSeq, dmsRet, dmsNil, dmsIf, dmsFrz, startM, dnMake, deNfld, deNmeth, dxLend, deLend, dnsSeq, dnsRet, putM1, putM2, putM3, putM4, mkSt, lkM_seats, lkM_requests, lkM_sale, lkM_roads, lkM_lay, lkM_len, lkM_bet, lkM_pri, putM_roads, lenM, rdInI, rdEqS, sp_is_row, sp_is_within, dxLc_eq, dsFor_eq, rngD_0, rngD_eq, zipD_map, enumD_map0, ht]
    cases hs : d.seq with
    | none =>
      have e : badSeats d = some (-1) := by unfold badSeats; rw [hs]
      have e2 : (d.isL || d.isU) = false := by rw [← seq_isSome, hs]; rfl
      simp only [Bool.or_eq_false_iff] at e2
      simpa [e2.1, e2.2] using o1 _ e
    | some xs =>
      have e2 : d.isL = true ∨ d.isU = true := by
        have := seq_isSome d
        rw [hs] at this
        simpa using this.symm
      have eb : badSeats d = if xs.length = 0 ∨ 10 < xs.length then some (-1) else Option.map Int.ofNat (xs.findIdx? fun x => !isWithin x 0 20) := by unfold badSeats; rw [hs]
      rw [if_pos e2]
      refine ⟨xs, rfl, ?_⟩
      by_cases h1 : 1 ≤ (xs.length : Int)
      · rw [if_pos h1]
        by_cases h2 : (xs.length : Int) ≤ 10
        · rw [if_pos h2]
          exact ⟨xs, rfl, by rw [eb, if_neg (by omega)]⟩
        · rw [if_neg h2]
          exact o1 _ (by rw [eb, if_pos (by omega)])
      · rw [if_neg h1]
        exact o1 _ (by rw [eb, if_pos (by omega)])
  · obtain ⟨a, b, rfl, xs, hs, eb⟩ := h1
    refine ⟨B1, _, { nx := fun δ => ∃ a b, δ = [.dat (.raw (.ref x)), .dat d, a, b] ∧ badSeats d = none, rt := fun _ => False }, s1, ?_, ⟨fun σ2 B2 H2 δ2 _ s2 h2 => ?_, fun _ _ _ _ _ z => z.elim, fun _ _ _ _ _ _ z => z.elim, fun _ _ _ _ _ _ z => z.elim⟩⟩
    · simp [startD, wipeD, dsRet, dsRetN, dsIf, dsSeq, dsNext, dsAsg, dsDrop, dsBreak, dsCont, dsPar, dsAug, dsFrz, dsApp, dsExt, dsPut, dsAugO, dsOwn, dsParOO, dsParDO, dsParDDO, dsFrzA, dxRep, diOwn, dsRaise, deAnd, deOr, deNot, de1, de2, deB, deX, dxB, dxLst, deName, deC, deCall, deIxO, deLenO, deTup, deLst, daCons, daNil, daStar, deChain, dtChain, dtV, dtAnd, dtOr, dtNot, dtYes, deIf, deSl, doNone, doSome, rdAdd, rdSub, rdMul, rdMod, rdDiv, rdPow, rdI, rdIc, rdB, rdLt, rdLe, rdGt, rdGe, rdNeg, rdIs, rdEq, rdNe, rdIx, rdIsN, rdNotN, rdIsB, rdNotB, rdRev, rdSeats, rdCatL, rdCatT, rdRepL, rdLen, rdTuple, rdList, rxList, rdInt, rdMax2, rdMin2, dgName, dgTup, dgCons, dgNil, deRefused, rdRepr, rdNeS, rdEqL, rdNeL, rdRepT, rdIsLn, noOwn, diSeq, diEn, diZp, diR1, diR2, noX,  eqOk_int, eqOk_bl, eqOk_non, eqv_int, eqv_bl, eqv_non, atI_0, atI_1, atI_2, atI_3, qty_non, qisI_non, qisB_non, qisL_non, qisU_non, qisS_non, qisD_non, qisNon_non, qcooked_non, qseq_non, qty_bl, qisI_bl, qisB_bl, qisL_bl, qisU_bl, qisS_bl, qisD_bl, qisNon_bl, qcooked_bl, qseq_bl, qty_int, qisI_int, qisB_int, qisL_int, qisU_int, qisS_int, qisD_int, qisNon_int, qcooked_int, qseq_int, qty_str, qisI_str, qisB_str, qisL_str, qisU_str, qisS_str, qisD_str, qisNon_str, qcooked_str, qseq_str, qty_lst, qisI_lst, qisB_lst, qisL_lst, qisU_lst, qisS_lst, qisD_lst, qisNon_lst, qcooked_lst, qseq_lst, qty_tup, qisI_tup, qisB_tup, qisL_tup, qisU_tup, qisS_tup, qisD_tup, qisNon_tup, qcooked_tup, qseq_tup, qty_dct, qisI_dct, qisB_dct, qisL_dct, qisU_dct, qisS_dct, qisD_dct, qisNon_dct, qcooked_dct, qseq_dct, qix_lst, qsl_lst, qix_tup, qsl_tup, qisNon_ln, qcooked_ln, and_assoc, exists_and_left, exists_eq_left, exists_eq_left', exists_eq_right, deFget, dsFset, dsFsetO, deFix, dsFaug, dmCall, dmIx, dsDropM, dsAsgM, dmsSeq, dmsRet, dmsNil, dmsIf, dmsFrz, startM, dnMake, deNfld, deNmeth, dxLend, deLend, dnsSeq, dnsRet, putM1, putM2, putM3, putM4, mkSt, lkM_seats, lkM_requests, lkM_sale, lkM_roads, lkM_lay, lkM_len, lkM_bet, lkM_pri, putM_roads, lenM, rdInI, rdEqS, sp_is_row, sp_is_within, dxLc_eq, dsFor_eq, rngD_0, rngD_eq, zipD_map, enumD_map0, hs]
      have hx := okv_seq hv hs
      rw [enumD_id]
      refine fb_on xs.zipIdx (fun i δ' => (∃ a b, δ' = [.dat (.raw (.ref x)), .dat d, a, b]) ∧ (xs.take i).all (isWithin · 0 20) = true) ⟨⟨_, _, rfl⟩, by simp⟩ (fun i p δ' hi hj => ?_) (fun δ' hj => ?_)
      · obtain ⟨⟨a, b, rfl⟩, ha⟩ := hj
        obtain ⟨y, j⟩ := p
        have hy : xs[i]? = some y ∧ i = j := by
          rw [List.getElem?_zipIdx, Option.map_eq_some_iff] at hi
          obtain ⟨z, hz, e⟩ := hi
          cases e
          exact ⟨hz, by omega⟩
        obtain ⟨hy, rfl⟩ := hy
        have oy := okv_ty (hx y (List.mem_of_getElem? hy))
        simp [startD, wipeD, dsRet, dsRetN, dsIf, dsSeq, dsNext, dsAsg, dsDrop, dsBreak, dsCont, dsPar, dsAug, dsFrz, dsApp, dsExt, dsPut, dsAugO, dsOwn, dsParOO, dsParDO, dsParDDO, dsFrzA, dxRep, diOwn, dsRaise, deAnd, deOr, deNot, de1, de2, deB, deX, dxB, dxLst, deName, deC, deCall, deIxO, deLenO, deTup, deLst, daCons, daNil, daStar, deChain, dtChain, dtV, dtAnd, dtOr, dtNot, dtYes, deIf, deSl, doNone, doSome, rdAdd, rdSub, rdMul, rdMod, rdDiv, rdPow, rdI, rdIc, rdB, rdLt, rdLe, rdGt, rdGe, rdNeg, rdIs, rdEq, rdNe, rdIx, rdIsN, rdNotN, rdIsB, rdNotB, rdRev, rdSeats, rdCatL, rdCatT, rdRepL, rdLen, rdTuple, rdList, rxList, rdInt, rdMax2, rdMin2, dgName, dgTup, dgCons, dgNil, deRefused, rdRepr, rdNeS, rdEqL, rdNeL, rdRepT, rdIsLn, noOwn, diSeq, diEn, diZp, diR1, diR2, noX,  eqOk_int, eqOk_bl, eqOk_non, eqv_int, eqv_bl, eqv_non, atI_0, atI_1, atI_2, atI_3, qty_non, qisI_non, qisB_non, qisL_non, qisU_non, qisS_non, qisD_non, qisNon_non, qcooked_non, qseq_non, qty_bl, qisI_bl, qisB_bl, qisL_bl, qisU_bl, qisS_bl, qisD_bl, qisNon_bl, qcooked_bl, qseq_bl, qty_int, qisI_int, qisB_int, qisL_int, qisU_int, qisS_int, qisD_int, qisNon_int, qcooked_int, qseq_int, qty_str, qisI_str, qisB_str, qisL_str, qisU_str, qisS_str, qisD_str, qisNon_str, qcooked_str, qseq_str, qty_lst, qisI_lst, qisB_lst, qisL_lst, qisU_lst, qisS_lst, qisD_lst, qisNon_lst, qcooked_lst, qseq_lst, qty_tup, qisI_tup, qisB_tup, qisL_tup, qisU_tup, qisS_tup, qisD_tup, qisNon_tup, qcooked_tup, qseq_tup, qty_dct, qisI_dct, qisB_dct, qisL_dct, qisU_dct, qisS_dct, qisD_dct, qisNon_dct, qcooked_dct, qseq_dct, qix_lst, qsl_lst, qix_tup, qsl_tup, qisNon_ln, qcooked_ln, and_assoc, exists_and_left, exists_eq_left, exists_eq_left', exists_eq_right, deFget, dsFset, dsFsetO, deFix, dsFaug, dmCall, dmIx, dsDropM, dsAsgM, dmsSeq, dmsRet, dmsNil, dmsIf, dmsFrz, startM, dnMake, deNfld, deNmeth, dxLend, deLend, dnsSeq, dnsRet, putM1, putM2, putM3, putM4, mkSt, lkM_seats, lkM_requests, lkM_sale, lkM_roads, lkM_lay, lkM_len, lkM_bet, lkM_pri, putM_roads, lenM, rdInI, rdEqS, sp_is_row, sp_is_within, dxLc_eq, dsFor_eq, rngD_0, rngD_eq, zipD_map, enumD_map0, oy]
        cases hr : isWithin y 0 20 with
        | true => simpa using all_take ha hy hr
        | false => simpa using o1 _ (by rw [eb, findIdx_at ha hy hr]; rfl)
      · obtain ⟨⟨a, b, rfl⟩, ha⟩ := hj
        rw [List.length_zipIdx, List.take_length] at ha
        exact ⟨⟨a, b, rfl⟩, by rw [eb, findIdx_none ha]; rfl⟩
    · obtain ⟨a, b, rfl, hn⟩ := h2
      refine ⟨B2, _, fun z => z = .tup xs, s2, ?_, fun v' z B3 H3 m3 hz r3 => ?_⟩
      · simp [startD, wipeD, dsRet, dsRetN, dsIf, dsSeq, dsNext, dsAsg, dsDrop, dsBreak, dsCont, dsPar, dsAug, dsFrz, dsApp, dsExt, dsPut, dsAugO, dsOwn, dsParOO, dsParDO, dsParDDO, dsFrzA, dxRep, diOwn, dsRaise, deAnd, deOr, deNot, de1, de2, deB, deX, dxB, dxLst, deName, deC, deCall, deIxO, deLenO, deTup, deLst, daCons, daNil, daStar, deChain, dtChain, dtV, dtAnd, dtOr, dtNot, dtYes, deIf, deSl, doNone, doSome, rdAdd, rdSub, rdMul, rdMod, rdDiv, rdPow, rdI, rdIc, rdB, rdLt, rdLe, rdGt, rdGe, rdNeg, rdIs, rdEq, rdNe, rdIx, rdIsN, rdNotN, rdIsB, rdNotB, rdRev, rdSeats, rdCatL, rdCatT, rdRepL, rdLen, rdTuple, rdList, rxList, rdInt, rdMax2, rdMin2, dgName, dgTup, dgCons, dgNil, deRefused, rdRepr, rdNeS, rdEqL, rdNeL, rdRepT, rdIsLn, noOwn, diSeq, diEn, diZp, diR1, diR2, noX,  eqOk_int, eqOk_bl, eqOk_non, eqv_int, eqv_bl, eqv_non, atI_0, atI_1, atI_2, atI_3, qty_non, qisI_non, qisB_non, qisL_non, qisU_non, qisS_non, qisD_non, qisNon_non, qcooked_non, qseq_non, qty_bl, qisI_bl, qisB_bl, qisL_bl, qisU_bl, qisS_bl, qisD_bl, qisNon_bl, qcooked_bl, qseq_bl, qty_int, qisI_int, qisB_int, qisL_int, qisU_int, qisS_int, qisD_int, qisNon_int, qcooked_int, qseq_int, qty_str, qisI_str, qisB_str, qisL_str, qisU_str, qisS_str, qisD_str, qisNon_str, qcooked_str, qseq_str, qty_lst, qisI_lst, qisB_lst, qisL_lst, qisU_lst, qisS_lst, qisD_lst, qisNon_lst, qcooked_lst, qseq_lst, qty_tup, qisI_tup, qisB_tup, qisL_tup, qisU_tup, qisS_tup, qisD_tup, qisNon_tup, qcooked_tup, qseq_tup, qty_dct, qisI_dct, qisB_dct, qisL_dct, qisU_dct, qisS_dct, qisD_dct, qisNon_dct, qcooked_dct, qseq_dct, qix_lst, qsl_lst, qix_tup, qsl_tup, qisNon_ln, qcooked_ln, and_assoc, exists_and_left, exists_eq_left, exists_eq_left', exists_eq_right, deFget, dsFset, dsFsetO, deFix, dsFaug, dmCall, dmIx, dsDropM, dsAsgM, dmsSeq, dmsRet, dmsNil, dmsIf, dmsFrz, startM, dnMake, deNfld, deNmeth, dxLend, deLend, dnsSeq, dnsRet, putM1, putM2, putM3, putM4, mkSt, lkM_seats, lkM_requests, lkM_sale, lkM_roads, lkM_lay, lkM_len, lkM_bet, lkM_pri, putM_roads, lenM, rdInI, rdEqS, sp_is_row, sp_is_within, dxLc_eq, dsFor_eq, rngD_0, rngD_eq, zipD_map, enumD_map0, hs]
      · subst hz
        obtain ⟨v0, hv0, r0⟩ := s2.dat (i := 0) rfl
        cases r0
        have m23 := s2.fm.trans m3
        obtain ⟨b3, h3⟩ := m23.o x bx (.of hx)
        have h3 := (h3 nsx).trans hx
        cases r3 with
        | tup ht ra =>
          refine ⟨_, hv0, x, He.ga K "Line", dx, [], rfl, h3, T.clLine, T.nSeats, by decide, ?_⟩
          exact q _ _ _ _ _ m23 (o2 hn xs hs) ht ra

end
end K12
end
-- F_12_Line___eq__
section
set_option Elab.async false
set_option linter.all false
set_option maxRecDepth 100000
set_option maxHeartbeats 4000000
set_option autoImplicit false
namespace K12
open PySem PySem.Spec PyProof.Rows L2 Sd
section
variable {P : Program} {w : World} {K : PySem.W.Frag} {mg : Str → Option Value} {base : Heap}
theorem ok_Line_eq (T : Txt K mg) {f : Addr} {fd : FuncData} (F : FunD K "__eq__" "Line.__eq__" (defArgs s_Line___eq__) (defBody s_Line___eq__) (defScope s_Line___eq__) [] [] f fd) : FnOk P w K mg base (L2.CX P w) 1 f fd ["self", "other"] (spD K sp_eqLine) := by
  have sc := sc_Line___eq__
  refine fnD F sc (fun F ds O h => by
    obtain ⟨_, _, e, _⟩ := h
    rw [e] <;> rfl) (fun cdv A outer s G E ds O hr h hE => ⟨_, (pssd_one (psd_ret (pd_and (pd_isLn T.lnF T.clLine T.b_isinstance T.g_Line (pd_name (pv 1))) (pd_one (pd_eq hr.units (pd_seats T.clLine T.nSeats (pd_name (pv 0))) (pd_seats T.clLine T.nSeats (pd_name (pv 1)))))))), ?_⟩)
  obtain ⟨xs, d, rfl, h⟩ := h
  rcases h with ⟨ys, rfl, h1, h2, o⟩ | ⟨ys, rfl, o⟩
  · simp [startD, wipeD, dsRet, dsRetN, dsIf, dsSeq, dsNext, dsAsg, dsDrop, dsBreak, dsCont, dsPar, dsAug, dsFrz, dsApp, dsExt, dsPut, dsAugO, dsOwn, dsParOO, dsParDO, dsParDDO, dsFrzA, dxRep, diOwn, dsRaise, deAnd, deOr, deNot, de1, de2, deB, deX, dxB, dxLst, deName, deC, deCall, deIxO, deLenO, deTup, deLst, daCons, daNil, daStar, deChain, dtChain, dtV, dtAnd, dtOr, dtNot, dtYes, deIf, deSl, doNone, doSome, rdAdd, rdSub, rdMul, rdMod, rdDiv, rdPow, rdI, rdIc, rdB, rdLt, rdLe, rdGt, rdGe, rdNeg, rdIs, rdEq, rdNe, rdIx, rdIsN, rdNotN, rdIsB, rdNotB, rdRev, rdSeats, rdCatL, rdCatT, rdRepL, rdLen, rdTuple, rdList, rxList, rdInt, rdMax2, rdMin2, dgName, dgTup, dgCons, dgNil, deRefused, rdRepr, rdNeS, rdEqL, rdNeL, rdRepT, rdIsLn, noOwn, diSeq, diEn, diZp, diR1, diR2, noX,  eqOk_int, eqOk_bl, eqOk_non, eqv_int, eqv_bl, eqv_non, atI_0, atI_1, atI_2, atI_3, qty_non, qisI_non, qisB_non, qisL_non, qisU_non, qisS_non, qisD_non, qisNon_non, qcooked_non, qseq_non, qty_bl, qisI_bl, qisB_bl, qisL_bl, qisU_bl, qisS_bl, qisD_bl, qisNon_bl, qcooked_bl, qseq_bl, qty_int, qisI_int, qisB_int, qisL_int, qisU_int, qisS_int, qisD_int, qisNon_int, qcooked_int, qseq_int, qty_str, qisI_str, qisB_str, qisL_str, qisU_str, qisS_str, qisD_str, qisNon_str, qcooked_str, qseq_str, qty_lst, qisI_lst, qisB_lst, qisL_lst, qisU_lst, qisS_lst, qisD_lst, qisNon_lst, qcooked_lst, qseq_lst, qty_tup, qisI_tup, qisB_tup, qisL_tup, qisU_tup, qisS_tup, qisD_tup, qisNon_tup, qcooked_tup, qseq_tup, qty_dct, qisI_dct, qisB_dct, qisL_dct, qisU_dct, qisS_dct, qisD_dct, qisNon_dct, qcooked_dct, qseq_dct, qix_lst, qsl_lst, qix_tup, qsl_tup, qisNon_ln, qcooked_ln, and_assoc, exists_and_left, exists_eq_left, exists_eq_left', exists_eq_right, deFget, dsFset, dsFsetO, deFix, dsFaug, dmCall, dmIx, dsDropM, dsAsgM, dmsSeq, dmsRet, dmsNil, dmsIf, dmsFrz, startM, dnMake, deNfld, deNmeth, dxLend, deLend, dnsSeq, dnsRet, putM1, putM2, putM3, putM4, mkSt, lkM_seats, lkM_requests, lkM_sale, lkM_roads, lkM_lay, lkM_len, lkM_bet, lkM_pri, putM_roads, lenM, rdInI, rdEqS, dxLc_eq, dsFor_eq, rngD_0, rngD_eq, zipD_map, enumD_map0, h1, h2]
    exact o
  · simp [startD, wipeD, dsRet, dsRetN, dsIf, dsSeq, dsNext, dsAsg, dsDrop, dsBreak, dsCont, dsPar, dsAug, dsFrz, dsApp, dsExt, dsPut, dsAugO, dsOwn, dsParOO, dsParDO, dsParDDO, dsFrzA, dxRep, diOwn, dsRaise, deAnd, deOr, deNot, de1, de2, deB, deX, dxB, dxLst, deName, deC, deCall, deIxO, deLenO, deTup, deLst, daCons, daNil, daStar, deChain, dtChain, dtV, dtAnd, dtOr, dtNot, dtYes, deIf, deSl, doNone, doSome, rdAdd, rdSub, rdMul, rdMod, rdDiv, rdPow, rdI, rdIc, rdB, rdLt, rdLe, rdGt, rdGe, rdNeg, rdIs, rdEq, rdNe, rdIx, rdIsN, rdNotN, rdIsB, rdNotB, rdRev, rdSeats, rdCatL, rdCatT, rdRepL, rdLen, rdTuple, rdList, rxList, rdInt, rdMax2, rdMin2, dgName, dgTup, dgCons, dgNil, deRefused, rdRepr, rdNeS, rdEqL, rdNeL, rdRepT, rdIsLn, noOwn, diSeq, diEn, diZp, diR1, diR2, noX,  eqOk_int, eqOk_bl, eqOk_non, eqv_int, eqv_bl, eqv_non, atI_0, atI_1, atI_2, atI_3, qty_non, qisI_non, qisB_non, qisL_non, qisU_non, qisS_non, qisD_non, qisNon_non, qcooked_non, qseq_non, qty_bl, qisI_bl, qisB_bl, qisL_bl, qisU_bl, qisS_bl, qisD_bl, qisNon_bl, qcooked_bl, qseq_bl, qty_int, qisI_int, qisB_int, qisL_int, qisU_int, qisS_int, qisD_int, qisNon_int, qcooked_int, qseq_int, qty_str, qisI_str, qisB_str, qisL_str, qisU_str, qisS_str, qisD_str, qisNon_str, qcooked_str, qseq_str, qty_lst, qisI_lst, qisB_lst, qisL_lst, qisU_lst, qisS_lst, qisD_lst, qisNon_lst, qcooked_lst, qseq_lst, qty_tup, qisI_tup, qisB_tup, qisL_tup, qisU_tup, qisS_tup, qisD_tup, qisNon_tup, qcooked_tup, qseq_tup, qty_dct, qisI_dct, qisB_dct, qisL_dct, qisU_dct, qisS_dct, qisD_dct, qisNon_dct, qcooked_dct, qseq_dct, qix_lst, qsl_lst, qix_tup, qsl_tup, qisNon_ln, qcooked_ln, and_assoc, exists_and_left, exists_eq_left, exists_eq_left', exists_eq_right, deFget, dsFset, dsFsetO, deFix, dsFaug, dmCall, dmIx, dsDropM, dsAsgM, dmsSeq, dmsRet, dmsNil, dmsIf, dmsFrz, startM, dnMake, deNfld, deNmeth, dxLend, deLend, dnsSeq, dnsRet, putM1, putM2, putM3, putM4, mkSt, lkM_seats, lkM_requests, lkM_sale, lkM_roads, lkM_lay, lkM_len, lkM_bet, lkM_pri, putM_roads, lenM, rdInI, rdEqS, dxLc_eq, dsFor_eq, rngD_0, rngD_eq, zipD_map, enumD_map0]
    exact o

end
end K12
end
-- F_12_check_leg
section
set_option Elab.async false
set_option linter.all false
set_option maxRecDepth 100000
set_option maxHeartbeats 4000000
set_option autoImplicit false
namespace K12
open PySem PySem.Spec PyProof.Rows L2 Sd
section
variable {P : Program} {w : World} {K : PySem.W.Frag} {mg : Str → Option Value} {base : Heap}
theorem ok_check_leg (T : Txt K mg) {f : Addr} {fd : FuncData} (F : FnP K "check_leg" s_check_leg f fd) (c_is_within : Cl P w K mg base 2 "is_within" sp_is_within []) (x_BadLeg : Er P w K mg base 1 "BadLeg") : FnOk P w K mg base (L2.CX P w) 3 f fd ["line", "leg"] (spD K sp_check_leg) := by
  have sc := sc_check_leg
  refine fnD F sc (fun F ds O h => by
    obtain ⟨_, _, e, _⟩ := h
    rw [e] <;> rfl) (fun cdv A outer s G E ds O hr h hE => ⟨_, (pssd_one (psd_if (ptd_not (ptd_val (pd_call c_is_within hr (by first | decide | omega) (pad_cons (pd_name (pv 1)) (pad_cons pd_int (pad_cons (pd_sub (pd_callB call_len_seq snd_len T.b_len (pad_cons (pd_seats T.clLine T.nSeats (pd_name (pv 0))) pad_nil)) pd_int) pad_nil))))))
  (pssd_one (psd_raise x_BadLeg hr hE (takes_of rfl rfl rfl rfl) (pad_cons (pd_name (pv 1)) pad_nil)))
  pssd_nil)), ?_⟩)
  obtain ⟨sd, t, rfl, h⟩ := h
  obtain ⟨ht, o1, o2⟩ := h
  have h1 := okv_ty ht
  simp [startD, wipeD, dsRet, dsRetN, dsIf, dsSeq, dsNext, dsAsg, dsDrop, dsBreak, dsCont, dsPar, dsAug, dsFrz, dsApp, dsExt, dsPut, dsAugO, dsOwn, dsParOO, dsParDO, dsParDDO, dsFrzA, dxRep, diOwn, dsRaise, deAnd, deOr, deNot, de1, de2, deB, deX, dxB, dxLst, deName, deC, deCall, deIxO, deLenO, deTup, deLst, daCons, daNil, daStar, deChain, dtChain, dtV, dtAnd, dtOr, dtNot, dtYes, deIf, deSl, doNone, doSome, rdAdd, rdSub, rdMul, rdMod, rdDiv, rdPow, rdI, rdIc, rdB, rdLt, rdLe, rdGt, rdGe, rdNeg, rdIs, rdEq, rdNe, rdIx, rdIsN, rdNotN, rdIsB, rdNotB, rdRev, rdSeats, rdCatL, rdCatT, rdRepL, rdLen, rdTuple, rdList, rxList, rdInt, rdMax2, rdMin2, dgName, dgTup, dgCons, dgNil, deRefused, rdRepr, rdNeS, rdEqL, rdNeL, rdRepT, rdIsLn, noOwn, diSeq, diEn, diZp, diR1, diR2, noX,  eqOk_int, eqOk_bl, eqOk_non, eqv_int, eqv_bl, eqv_non, atI_0, atI_1, atI_2, atI_3, qty_non, qisI_non, qisB_non, qisL_non, qisU_non, qisS_non, qisD_non, qisNon_non, qcooked_non, qseq_non, qty_bl, qisI_bl, qisB_bl, qisL_bl, qisU_bl, qisS_bl, qisD_bl, qisNon_bl, qcooked_bl, qseq_bl, qty_int, qisI_int, qisB_int, qisL_int, qisU_int, qisS_int, qisD_int, qisNon_int, qcooked_int, qseq_int, qty_str, qisI_str, qisB_str, qisL_str, qisU_str, qisS_str, qisD_str, qisNon_str, qcooked_str, qseq_str, qty_lst, qisI_lst, qisB_lst, qisL_lst, qisU_lst, qisS_lst, qisD_lst, qisNon_lst, qcooked_lst, qseq_lst, qty_tup, qisI_tup, qisB_tup, qisL_tup, qisU_tup, qisS_tup, qisD_tup, qisNon_tup, qcooked_tup, qseq_tup, qty_dct, qisI_dct, qisB_dct, qisL_dct, qisU_dct, qisS_dct, qisD_dct, qisNon_dct, qcooked_dct, qseq_dct, qix_lst, qsl_lst, qix_tup, qsl_tup, qisNon_ln, qcooked_ln, and_assoc, exists_and_left, exists_eq_left, exists_eq_left', exists_eq_right, deFget, dsFset, dsFsetO, deFix, dsFaug, dmCall, dmIx, dsDropM, dsAsgM, dmsSeq, dmsRet, dmsNil, dmsIf, dmsFrz, startM, dnMake, deNfld, deNmeth, dxLend, deLend, dnsSeq, dnsRet, putM1, putM2, putM3, putM4, mkSt, lkM_seats, lkM_requests, lkM_sale, lkM_roads, lkM_lay, lkM_len, lkM_bet, lkM_pri, putM_roads, lenM, rdInI, rdEqS, sp_is_within, dxLc_eq, dsFor_eq, rngD_0, rngD_eq, zipD_map, enumD_map0, h1, ht]
  split
  · rename_i c
    exact o2 c
  · rename_i c
    exact o1 (by simpa using c)
end
end K12
end
-- F_12_with_seats
section
set_option Elab.async false
set_option linter.all false
set_option maxRecDepth 100000
set_option maxHeartbeats 4000000
set_option autoImplicit false
namespace K12
open PySem PySem.Spec PyProof.Rows L2 Sd
section
variable {P : Program} {w : World} {K : PySem.W.Frag} {mg : Str → Option Value} {base : Heap}
theorem ok_with_seats (T : Txt K mg) {f : Addr} {fd : FuncData} (F : FnP K "with_seats" s_with_seats f fd)   : FnOk P w K mg base (L2.CX P w) 1 f fd ["line", "leg", "more"] (spD K sp_with_seats) := by
  have sc := sc_with_seats
  refine fnD F sc (fun F ds O h => by
    obtain ⟨_, _, _, e, _⟩ := h
    rw [e] <;> rfl) (fun cdv A outer s G E ds O hr h hE => ⟨_, (pssd_one (psd_ret (pd_tup (pad_star (pd_slice (pd_seats T.clLine T.nSeats (pd_name (pv 0))) pod_none (pod_some (pd_name (pv 1)))) (pad_cons (pd_add (pd_item (pd_seats T.clLine T.nSeats (pd_name (pv 0))) (pd_name (pv 1))) (pd_name (pv 2))) (pad_star (pd_slice (pd_seats T.clLine T.nSeats (pd_name (pv 0))) (pod_some (pd_add (pd_name (pv 1)) pd_int)) pod_none) pad_nil)))))), ?_⟩)
  obtain ⟨ss, leg, k, rfl, h⟩ := h
  obtain ⟨hl, h1, o⟩ := h
  simp [startD, wipeD, dsRet, dsRetN, dsIf, dsSeq, dsNext, dsAsg, dsDrop, dsBreak, dsCont, dsPar, dsAug, dsFrz, dsApp, dsExt, dsPut, dsAugO, dsOwn, dsParOO, dsParDO, dsParDDO, dsFrzA, dxRep, diOwn, dsRaise, deAnd, deOr, deNot, de1, de2, deB, deX, dxB, dxLst, deName, deC, deCall, deIxO, deLenO, deTup, deLst, daCons, daNil, daStar, deChain, dtChain, dtV, dtAnd, dtOr, dtNot, dtYes, deIf, deSl, doNone, doSome, rdAdd, rdSub, rdMul, rdMod, rdDiv, rdPow, rdI, rdIc, rdB, rdLt, rdLe, rdGt, rdGe, rdNeg, rdIs, rdEq, rdNe, rdIx, rdIsN, rdNotN, rdIsB, rdNotB, rdRev, rdSeats, rdCatL, rdCatT, rdRepL, rdLen, rdTuple, rdList, rxList, rdInt, rdMax2, rdMin2, dgName, dgTup, dgCons, dgNil, deRefused, rdRepr, rdNeS, rdEqL, rdNeL, rdRepT, rdIsLn, noOwn, diSeq, diEn, diZp, diR1, diR2, noX,  eqOk_int, eqOk_bl, eqOk_non, eqv_int, eqv_bl, eqv_non, atI_0, atI_1, atI_2, atI_3, qty_non, qisI_non, qisB_non, qisL_non, qisU_non, qisS_non, qisD_non, qisNon_non, qcooked_non, qseq_non, qty_bl, qisI_bl, qisB_bl, qisL_bl, qisU_bl, qisS_bl, qisD_bl, qisNon_bl, qcooked_bl, qseq_bl, qty_int, qisI_int, qisB_int, qisL_int, qisU_int, qisS_int, qisD_int, qisNon_int, qcooked_int, qseq_int, qty_str, qisI_str, qisB_str, qisL_str, qisU_str, qisS_str, qisD_str, qisNon_str, qcooked_str, qseq_str, qty_lst, qisI_lst, qisB_lst, qisL_lst, qisU_lst, qisS_lst, qisD_lst, qisNon_lst, qcooked_lst, qseq_lst, qty_tup, qisI_tup, qisB_tup, qisL_tup, qisU_tup, qisS_tup, qisD_tup, qisNon_tup, qcooked_tup, qseq_tup, qty_dct, qisI_dct, qisB_dct, qisL_dct, qisU_dct, qisS_dct, qisD_dct, qisNon_dct, qcooked_dct, qseq_dct, qix_lst, qsl_lst, qix_tup, qsl_tup, qisNon_ln, qcooked_ln, and_assoc, exists_and_left, exists_eq_left, exists_eq_left', exists_eq_right, deFget, dsFset, dsFsetO, deFix, dsFaug, dmCall, dmIx, dsDropM, dsAsgM, dmsSeq, dmsRet, dmsNil, dmsIf, dmsFrz, startM, dnMake, deNfld, deNmeth, dxLend, deLend, dnsSeq, dnsRet, putM1, putM2, putM3, putM4, mkSt, lkM_seats, lkM_requests, lkM_sale, lkM_roads, lkM_lay, lkM_len, lkM_bet, lkM_pri, putM_roads, lenM, rdInI, rdEqS, dxLc_eq, dsFor_eq, rngD_0, rngD_eq, zipD_map, enumD_map0]
  have hc := cut_lens hl
  refine ⟨_, atM hl, _, rfl, by omega, ?_⟩
  rw [seat_cut k hl]
  exact o
end
end K12
end
-- F_12_seat_gain
section
set_option Elab.async false
set_option linter.all false
set_option maxRecDepth 100000
set_option maxHeartbeats 4000000
set_option autoImplicit false
namespace K12
open PySem PySem.Spec PyProof.Rows L2 Sd
section
variable {P : Program} {w : World} {K : PySem.W.Frag} {mg : Str → Option Value} {base : Heap}
theorem ok_seat_gain (T : Txt K mg) {f : Addr} {fd : FuncData} (F : FnP K "seat_gain" s_seat_gain f fd) (c_check_leg : Cl P w K mg base 3 "check_leg" sp_check_leg []) (c_check_requests : Cl P w K mg base 4 "check_requests" sp_check_requests []) (c_told_best : Cl P w K mg base 6 "told_best" sp_told_best00 []) (c_with_seats : Cl P w K mg base 1 "with_seats" sp_with_seats [])  : FnOk P w K mg base (L2.CX P w) 7 f fd ["line", "requests", "leg"] (spD K sp_seat_gain) := by
  have sc := sc_seat_gain
  refine fnD F sc (fun F ds O h => by
    obtain ⟨_, _, _, e, _⟩ := h
    rw [e] <;> rfl) (fun cdv A outer s G E ds O hr h hE => ⟨_, (pssd_cons (psd_drop (pd_callX c_check_requests hr (by first | decide | omega) hE (passes_call (takes_of rfl rfl rfl rfl) (fun _ _ _ _ z => z)) (pad_cons (pd_name (pv 0)) (pad_cons (pd_name (pv 1)) pad_nil))))
  (pssd_cons (psd_drop (pd_callX c_check_leg hr (by first | decide | omega) hE (passes_call (takes_of rfl rfl rfl rfl) (fun _ _ _ _ z => z)) (pad_cons (pd_name (pv 0)) (pad_cons (pd_name (pv 2)) pad_nil))))
  (pssd_one (psd_ret (pd_sub (pd_call c_told_best hr (by first | decide | omega) (pad_cons (pd_call c_with_seats hr (by first | decide | omega) (pad_cons (pd_name (pv 0)) (pad_cons (pd_name (pv 2)) (pad_cons pd_int pad_nil)))) (pad_cons (pd_name (pv 1)) pad_nil))) (pd_call c_told_best hr (by first | decide | omega) (pad_cons (pd_seats T.clLine T.nSeats (pd_name (pv 0))) (pad_cons (pd_name (pv 1)) pad_nil)))))))), ?_⟩)
  obtain ⟨ss, d2, t, rfl, h⟩ := h
  obtain ⟨hn, s0, h2, ht, k1, k2⟩ := h
  have q1 := okv_ty h2
  have q2 := okv_ty ht
  simp [startD, wipeD, dsRet, dsRetN, dsIf, dsSeq, dsNext, dsAsg, dsDrop, dsBreak, dsCont, dsPar, dsAug, dsFrz, dsApp, dsExt, dsPut, dsAugO, dsOwn, dsParOO, dsParDO, dsParDDO, dsFrzA, dxRep, diOwn, dsRaise, deAnd, deOr, deNot, de1, de2, deB, deX, dxB, dxLst, deName, deC, deCall, deIxO, deLenO, deTup, deLst, daCons, daNil, daStar, deChain, dtChain, dtV, dtAnd, dtOr, dtNot, dtYes, deIf, deSl, doNone, doSome, rdAdd, rdSub, rdMul, rdMod, rdDiv, rdPow, rdI, rdIc, rdB, rdLt, rdLe, rdGt, rdGe, rdNeg, rdIs, rdEq, rdNe, rdIx, rdIsN, rdNotN, rdIsB, rdNotB, rdRev, rdSeats, rdCatL, rdCatT, rdRepL, rdLen, rdTuple, rdList, rxList, rdInt, rdMax2, rdMin2, dgName, dgTup, dgCons, dgNil, deRefused, rdRepr, rdNeS, rdEqL, rdNeL, rdRepT, rdIsLn, noOwn, diSeq, diEn, diZp, diR1, diR2, noX,  eqOk_int, eqOk_bl, eqOk_non, eqv_int, eqv_bl, eqv_non, atI_0, atI_1, atI_2, atI_3, qty_non, qisI_non, qisB_non, qisL_non, qisU_non, qisS_non, qisD_non, qisNon_non, qcooked_non, qseq_non, qty_bl, qisI_bl, qisB_bl, qisL_bl, qisU_bl, qisS_bl, qisD_bl, qisNon_bl, qcooked_bl, qseq_bl, qty_int, qisI_int, qisB_int, qisL_int, qisU_int, qisS_int, qisD_int, qisNon_int, qcooked_int, qseq_int, qty_str, qisI_str, qisB_str, qisL_str, qisU_str, qisS_str, qisD_str, qisNon_str, qcooked_str, qseq_str, qty_lst, qisI_lst, qisB_lst, qisL_lst, qisU_lst, qisS_lst, qisD_lst, qisNon_lst, qcooked_lst, qseq_lst, qty_tup, qisI_tup, qisB_tup, qisL_tup, qisU_tup, qisS_tup, qisD_tup, qisNon_tup, qcooked_tup, qseq_tup, qty_dct, qisI_dct, qisB_dct, qisL_dct, qisU_dct, qisS_dct, qisD_dct, qisNon_dct, qcooked_dct, qseq_dct, qix_lst, qsl_lst, qix_tup, qsl_tup, qisNon_ln, qcooked_ln, and_assoc, exists_and_left, exists_eq_left, exists_eq_left', exists_eq_right, deFget, dsFset, dsFsetO, deFix, dsFaug, dmCall, dmIx, dsDropM, dsAsgM, dmsSeq, dmsRet, dmsNil, dmsIf, dmsFrz, startM, dnMake, deNfld, deNmeth, dxLend, deLend, dnsSeq, dnsRet, putM1, putM2, putM3, putM4, mkSt, lkM_seats, lkM_requests, lkM_sale, lkM_roads, lkM_lay, lkM_len, lkM_bet, lkM_pri, putM_roads, lenM, rdInI, rdEqS, sp_check_leg, sp_check_requests, sp_told_best00, sp_with_seats, dxLc_eq, dsFor_eq, rngD_0, rngD_eq, zipD_map, enumD_map0, q1, q2, h2, ht]
  refine ⟨k1, fun hb => ?_⟩
  obtain ⟨rs, hs, ok, hl⟩ := good_reqs hb
  obtain ⟨k3, k4⟩ := k2 rs hs ok hl
  refine ⟨k3, fun hw => ?_⟩
  obtain ⟨leg, et, hleg⟩ := within_nat hw
  have h0 : 0 ≤ miAt ss leg := by
    unfold miAt
    rw [List.getElem?_eq_getElem hleg]
    exact s0 _ (List.getElem_mem hleg)
  exact ⟨ss, rfl, leg, et, hleg, hn, seatL ss leg 1, rs, ⟨rfl, hs, by rw [seatL_len]; exact ok, by rw [seatL_len]; exact hn, by omega, seatL_pos hleg s0 (by omega)⟩, fun v hv => ⟨ss, rs, ⟨rfl, hs, ok, hn, by omega, s0⟩, fun w hw2 => k4 leg et hleg w v hw2 hv⟩⟩
end
end K12
end
-- F_12_seat_loss
section
set_option Elab.async false
set_option linter.all false
set_option maxRecDepth 100000
set_option maxHeartbeats 4000000
set_option autoImplicit false
namespace K12
open PySem PySem.Spec PyProof.Rows L2 Sd
section
variable {P : Program} {w : World} {K : PySem.W.Frag} {mg : Str → Option Value} {base : Heap}
theorem ok_seat_loss (T : Txt K mg) {f : Addr} {fd : FuncData} (F : FnP K "seat_loss" s_seat_loss f fd) (c_check_leg : Cl P w K mg base 3 "check_leg" sp_check_leg []) (c_check_requests : Cl P w K mg base 4 "check_requests" sp_check_requests []) (c_told_best : Cl P w K mg base 6 "told_best" sp_told_best00 []) (c_with_seats : Cl P w K mg base 1 "with_seats" sp_with_seats [])  : FnOk P w K mg base (L2.CX P w) 7 f fd ["line", "requests", "leg"] (spD K sp_seat_loss) := by
  have sc := sc_seat_loss
  refine fnD F sc (fun F ds O h => by
    obtain ⟨_, _, _, e, _⟩ := h
    rw [e] <;> rfl) (fun cdv A outer s G E ds O hr h hE => ⟨_, (pssd_cons (psd_drop (pd_callX c_check_requests hr (by first | decide | omega) hE (passes_call (takes_of rfl rfl rfl rfl) (fun _ _ _ _ z => z)) (pad_cons (pd_name (pv 0)) (pad_cons (pd_name (pv 1)) pad_nil))))
  (pssd_cons (psd_drop (pd_callX c_check_leg hr (by first | decide | omega) hE (passes_call (takes_of rfl rfl rfl rfl) (fun _ _ _ _ z => z)) (pad_cons (pd_name (pv 0)) (pad_cons (pd_name (pv 2)) pad_nil))))
  (pssd_cons (psd_if (ptd_eq hr.units (pd_item (pd_seats T.clLine T.nSeats (pd_name (pv 0))) (pd_name (pv 2))) pd_int)
  (pssd_one (psd_ret pd_non))
  pssd_nil)
  (pssd_one (psd_ret (pd_sub (pd_call c_told_best hr (by first | decide | omega) (pad_cons (pd_seats T.clLine T.nSeats (pd_name (pv 0))) (pad_cons (pd_name (pv 1)) pad_nil))) (pd_call c_told_best hr (by first | decide | omega) (pad_cons (pd_call c_with_seats hr (by first | decide | omega) (pad_cons (pd_name (pv 0)) (pad_cons (pd_name (pv 2)) (pad_cons (pd_neg pd_int) pad_nil)))) (pad_cons (pd_name (pv 1)) pad_nil))))))))), ?_⟩)
  obtain ⟨ss, d2, t, rfl, h⟩ := h
  obtain ⟨hn, s0, h2, ht, k1, k2⟩ := h
  have q1 := okv_ty h2
  have q2 := okv_ty ht
  simp [startD, wipeD, dsRet, dsRetN, dsIf, dsSeq, dsNext, dsAsg, dsDrop, dsBreak, dsCont, dsPar, dsAug, dsFrz, dsApp, dsExt, dsPut, dsAugO, dsOwn, dsParOO, dsParDO, dsParDDO, dsFrzA, dxRep, diOwn, dsRaise, deAnd, deOr, deNot, de1, de2, deB, deX, dxB, dxLst, deName, deC, deCall, deIxO, deLenO, deTup, deLst, daCons, daNil, daStar, deChain, dtChain, dtV, dtAnd, dtOr, dtNot, dtYes, deIf, deSl, doNone, doSome, rdAdd, rdSub, rdMul, rdMod, rdDiv, rdPow, rdI, rdIc, rdB, rdLt, rdLe, rdGt, rdGe, rdNeg, rdIs, rdEq, rdNe, rdIx, rdIsN, rdNotN, rdIsB, rdNotB, rdRev, rdSeats, rdCatL, rdCatT, rdRepL, rdLen, rdTuple, rdList, rxList, rdInt, rdMax2, rdMin2, dgName, dgTup, dgCons, dgNil, deRefused, rdRepr, rdNeS, rdEqL, rdNeL, rdRepT, rdIsLn, noOwn, diSeq, diEn, diZp, diR1, diR2, noX,  eqOk_int, eqOk_bl, eqOk_non, eqv_int, eqv_bl, eqv_non, atI_0, atI_1, atI_2, atI_3, qty_non, qisI_non, qisB_non, qisL_non, qisU_non, qisS_non, qisD_non, qisNon_non, qcooked_non, qseq_non, qty_bl, qisI_bl, qisB_bl, qisL_bl, qisU_bl, qisS_bl, qisD_bl, qisNon_bl, qcooked_bl, qseq_bl, qty_int, qisI_int, qisB_int, qisL_int, qisU_int, qisS_int, qisD_int, qisNon_int, qcooked_int, qseq_int, qty_str, qisI_str, qisB_str, qisL_str, qisU_str, qisS_str, qisD_str, qisNon_str, qcooked_str, qseq_str, qty_lst, qisI_lst, qisB_lst, qisL_lst, qisU_lst, qisS_lst, qisD_lst, qisNon_lst, qcooked_lst, qseq_lst, qty_tup, qisI_tup, qisB_tup, qisL_tup, qisU_tup, qisS_tup, qisD_tup, qisNon_tup, qcooked_tup, qseq_tup, qty_dct, qisI_dct, qisB_dct, qisL_dct, qisU_dct, qisS_dct, qisD_dct, qisNon_dct, qcooked_dct, qseq_dct, qix_lst, qsl_lst, qix_tup, qsl_tup, qisNon_ln, qcooked_ln, and_assoc, exists_and_left, exists_eq_left, exists_eq_left', exists_eq_right, deFget, dsFset, dsFsetO, deFix, dsFaug, dmCall, dmIx, dsDropM, dsAsgM, dmsSeq, dmsRet, dmsNil, dmsIf, dmsFrz, startM, dnMake, deNfld, deNmeth, dxLend, deLend, dnsSeq, dnsRet, putM1, putM2, putM3, putM4, mkSt, lkM_seats, lkM_requests, lkM_sale, lkM_roads, lkM_lay, lkM_len, lkM_bet, lkM_pri, putM_roads, lenM, rdInI, rdEqS, sp_check_leg, sp_check_requests, sp_told_best00, sp_with_seats, dxLc_eq, dsFor_eq, rngD_0, rngD_eq, zipD_map, enumD_map0, q1, q2, h2, ht]
  refine ⟨k1, fun hb => ?_⟩
  obtain ⟨rs, hs, ok, hl⟩ := good_reqs hb
  obtain ⟨k3, k4⟩ := k2 rs hs ok hl
  refine ⟨k3, fun hw => ?_⟩
  obtain ⟨leg, et, hleg⟩ := within_nat hw
  obtain ⟨k5, k6⟩ := k4 leg et hleg
  have h0 : 0 ≤ miAt ss leg := by
    unfold miAt
    rw [List.getElem?_eq_getElem hleg]
    exact s0 _ (List.getElem_mem hleg)
  refine ⟨.int (miAt ss leg), by rw [et, ix_of (xs := ss.map D.int) rfl]; exact atM hleg, rfl, ?_⟩
  rw [eqv_int]
  by_cases c : miAt ss leg = 0
  · rw [if_pos (decide_eq_true c)]
    exact k5 c
  · rw [if_neg (by simpa using c)]
    exact ⟨ss, rs, ⟨rfl, hs, ok, hn, by omega, s0⟩, fun v hv => ⟨ss, rfl, leg, et, hleg, hn, seatL ss leg (-1), rs, ⟨rfl, hs, by rw [seatL_len]; exact ok, by rw [seatL_len]; exact hn, by omega, seatL_pos hleg s0 (by omega)⟩, fun w hv2 => k6 c v w hv hv2⟩⟩
end
end K12
end
-- F_12_with_request
section
set_option Elab.async false
set_option linter.all false
set_option maxRecDepth 100000
set_option maxHeartbeats 4000000
set_option autoImplicit false
namespace K12
open PySem PySem.Spec PyProof.Rows L2 Sd
section
variable {P : Program} {w : World} {K : PySem.W.Frag} {mg : Str → Option Value} {base : Heap}
theorem ok_with_request (T : Txt K mg) {f : Addr} {fd : FuncData} (F : FnP K "with_request" s_with_request f fd)   : FnOk P w K mg base (L2.CX P w) 1 f fd ["requests", "number", "fare", "many"] (spD K sp_with_request) := by
  have sc := sc_with_request
  refine fnD F sc (fun F ds O h => by
    obtain ⟨_, _, _, _, _, _, e, _⟩ := h
    rw [e] <;> rfl) (fun cdv A outer s G E ds O hr h hE => ⟨_, (pssd_cons (psd_asg (pd_item (pd_name (pv 0)) (pd_name (pv 1))) (pgd_tup (n := 4) (pgsd_cons (pgd_name (i := 4) sc.nd rfl (Or.inl rfl)) (pgsd_cons (pgd_name (i := 5) sc.nd rfl (Or.inl rfl)) (pgsd_cons (pgd_name (i := 6) sc.nd rfl (Or.inl rfl)) (pgsd_cons (pgd_name (i := 6) sc.nd rfl (Or.inl rfl)) pgsd_nil))))))
  (pssd_cons (psd_set (i := 7) sc.nd rfl (Or.inl rfl) (pd_lst (pad_star (pd_slice (pd_name (pv 0)) pod_none (pod_some (pd_name (pv 1)))) (pad_star (pd_slice (pd_name (pv 0)) (pod_some (pd_add (pd_name (pv 1)) pd_int)) pod_none) pad_nil))))
  (pssd_cons (psd_if (ptd_eq hr.units (pd_name (pv 3)) pd_int)
  (pssd_one (psd_ret (pd_name (pv 7))))
  pssd_nil)
  (pssd_one (psd_ret (pd_lst (pad_star (pd_name (pv 7)) (pad_cons (pd_tup (pad_cons (pd_name (pv 4)) (pad_cons (pd_name (pv 5)) (pad_cons (pd_name (pv 2)) (pad_cons (pd_name (pv 3)) pad_nil))))) pad_nil)))))))), ?_⟩)
  obtain ⟨d, rs, n, r, f, m, rfl, h⟩ := h
  obtain ⟨hs, hr, hl, o⟩ := h
  simp [startD, wipeD, dsRet, dsRetN, dsIf, dsSeq, dsNext, dsAsg, dsDrop, dsBreak, dsCont, dsPar, dsAug, dsFrz, dsApp, dsExt, dsPut, dsAugO, dsOwn, dsParOO, dsParDO, dsParDDO, dsFrzA, dxRep, diOwn, dsRaise, deAnd, deOr, deNot, de1, de2, deB, deX, dxB, dxLst, deName, deC, deCall, deIxO, deLenO, deTup, deLst, daCons, daNil, daStar, deChain, dtChain, dtV, dtAnd, dtOr, dtNot, dtYes, deIf, deSl, doNone, doSome, rdAdd, rdSub, rdMul, rdMod, rdDiv, rdPow, rdI, rdIc, rdB, rdLt, rdLe, rdGt, rdGe, rdNeg, rdIs, rdEq, rdNe, rdIx, rdIsN, rdNotN, rdIsB, rdNotB, rdRev, rdSeats, rdCatL, rdCatT, rdRepL, rdLen, rdTuple, rdList, rxList, rdInt, rdMax2, rdMin2, dgName, dgTup, dgCons, dgNil, deRefused, rdRepr, rdNeS, rdEqL, rdNeL, rdRepT, rdIsLn, noOwn, diSeq, diEn, diZp, diR1, diR2, noX,  eqOk_int, eqOk_bl, eqOk_non, eqv_int, eqv_bl, eqv_non, atI_0, atI_1, atI_2, atI_3, qty_non, qisI_non, qisB_non, qisL_non, qisU_non, qisS_non, qisD_non, qisNon_non, qcooked_non, qseq_non, qty_bl, qisI_bl, qisB_bl, qisL_bl, qisU_bl, qisS_bl, qisD_bl, qisNon_bl, qcooked_bl, qseq_bl, qty_int, qisI_int, qisB_int, qisL_int, qisU_int, qisS_int, qisD_int, qisNon_int, qcooked_int, qseq_int, qty_str, qisI_str, qisB_str, qisL_str, qisU_str, qisS_str, qisD_str, qisNon_str, qcooked_str, qseq_str, qty_lst, qisI_lst, qisB_lst, qisL_lst, qisU_lst, qisS_lst, qisD_lst, qisNon_lst, qcooked_lst, qseq_lst, qty_tup, qisI_tup, qisB_tup, qisL_tup, qisU_tup, qisS_tup, qisD_tup, qisNon_tup, qcooked_tup, qseq_tup, qty_dct, qisI_dct, qisB_dct, qisL_dct, qisU_dct, qisS_dct, qisD_dct, qisNon_dct, qcooked_dct, qseq_dct, qix_lst, qsl_lst, qix_tup, qsl_tup, qisNon_ln, qcooked_ln, and_assoc, exists_and_left, exists_eq_left, exists_eq_left', exists_eq_right, deFget, dsFset, dsFsetO, deFix, dsFaug, dmCall, dmIx, dsDropM, dsAsgM, dmsSeq, dmsRet, dmsNil, dmsIf, dmsFrz, startM, dnMake, deNfld, deNmeth, dxLend, deLend, dnsSeq, dnsRet, putM1, putM2, putM3, putM4, mkSt, lkM_seats, lkM_requests, lkM_sale, lkM_roads, lkM_lay, lkM_len, lkM_bet, lkM_pri, putM_roads, lenM, rdInI, rdEqS, dxLc_eq, dsFor_eq, rngD_0, rngD_eq, zipD_map, enumD_map0, hs, Rq.d]
  have hlt : n < rs.length := (List.getElem?_eq_some_iff.mp hr).1
  have c1 : cut (rs.map Rq.d) none (some (n : Int)) = (rs.take n).map Rq.d := by rw [cut_hd _ (by rw [List.length_map]; omega), List.map_take]
  have c2 : cut (rs.map Rq.d) (some ((n : Int) + 1)) none = (rs.drop (n + 1)).map Rq.d := by rw [cut_tl _ (by rw [List.length_map]; omega), List.map_drop]
  refine ⟨r.d, by rw [ix_of hs, atI_nat', List.getElem?_map, hr]; rfl, _, rfl, rfl, _, _, rfl, _, _, rfl, _, _, rfl, _, _, rfl, rfl, ?_⟩
  have fin : ((rs.take n).map Rq.d).length + ((rs.drop (n + 1)).map Rq.d).length ≤ 1000 := by
    rw [List.length_map, List.length_map, List.length_take, List.length_drop]
    omega
  have last : ∀ {z1 z2 : D}, z1.seq = some ((rs.take n).map Rq.d) → z2.seq = some ((rs.drop (n + 1)).map Rq.d) → ∃ xs, z1.seq = some xs ∧ ∃ z, some z2 = some z ∧ ∃ xs_1, z.seq = some xs_1 ∧ xs.length + xs_1.length ≤ 100000 ∧ if m = 0 then O (Out.ret (D.lst (xs ++ xs_1))) else xs.length + xs_1.length ≤ 99999 ∧ O (Out.ret (D.lst (xs ++ (xs_1 ++ [D.tup [.int r.a, .int r.b, .int f, .int m]])))) := fun h1 h2 => by
    refine ⟨_, h1, _, rfl, _, h2, by omega, ?_⟩
    unfold withR at o
    split at o <;> rename_i c
    · rw [if_pos c]
      simpa using o
    · rw [if_neg c]
      refine ⟨by omega, ?_⟩
      simpa [Rq.d] using o
  cases d with
  | lst xs =>
    cases hs
    exact ⟨.lst _, rfl, by
      have := last (z1 := .lst (cut (rs.map Rq.d) none (some (n : Int)))) (z2 := .lst (cut (rs.map Rq.d) (some ((n : Int) + 1)) none)) (by rw [c1]; rfl) (by rw [c2]; rfl)
      exact this⟩
  | tup xs =>
    cases hs
    exact ⟨.tup _, rfl, by
      have := last (z1 := .tup (cut (rs.map Rq.d) none (some (n : Int)))) (z2 := .tup (cut (rs.map Rq.d) (some ((n : Int) + 1)) none)) (by rw [c1]; rfl) (by rw [c2]; rfl)
      exact this⟩
  | _ => cases hs
end
end K12
end
-- F_12_takes_one
section
set_option Elab.async false
set_option linter.all false
set_option maxRecDepth 100000
set_option maxHeartbeats 4000000
set_option autoImplicit false
namespace K12
open PySem PySem.Spec PyProof.Rows L2 Sd
section
variable {P : Program} {w : World} {K : PySem.W.Frag} {mg : Str → Option Value} {base : Heap}
theorem ok_takes_one (T : Txt K mg) {f : Addr} {fd : FuncData} (F : FnP K "takes_one" s_takes_one f fd) (c_told_best : Cl P w K mg base 6 "told_best" sp_told_best00 []) (c_with_request : Cl P w K mg base 1 "with_request" sp_with_request [])  : FnOk P w K mg base (L2.CX P w) 7 f fd ["line", "requests", "number", "fare"] (spD K sp_takes_one) := by
  have sc := sc_takes_one
  refine fnD F sc (fun F ds O h => by
    obtain ⟨_, _, _, _, _, _, e, _⟩ := h
    rw [e] <;> rfl) (fun cdv A outer s G E ds O hr h hE => ⟨_, (pssd_cons (psd_asg (pd_item (pd_name (pv 1)) (pd_name (pv 2))) (pgd_tup (n := 4) (pgsd_cons (pgd_name (i := 4) sc.nd rfl (Or.inr rfl)) (pgsd_cons (pgd_name (i := 5) sc.nd rfl (Or.inr rfl)) (pgsd_cons (pgd_name (i := 6) sc.nd rfl (Or.inl rfl)) (pgsd_cons (pgd_name (i := 7) sc.nd rfl (Or.inl rfl)) pgsd_nil))))))
  (pssd_cons (psd_if (ptd_in pd_int (pd_slice (pd_seats T.clLine T.nSeats (pd_name (pv 0))) (pod_some (pd_name (pv 4))) (pod_some (pd_name (pv 5)))))
  (pssd_one (psd_ret pd_bl))
  pssd_nil)
  (pssd_cons (psd_setLc (i := 8) sc.nd rfl rfl (sw_true rfl rfl rfl (by kernel_rfl)) (own := [(("leg" : Str), 10), (("one" : Str), 11)]) (pid_en T.b_enumerate (pad_cons (pd_seats T.clLine T.nSeats (pd_name (pv 0))) pad_nil)) (by kernel_rfl) (fun _ _ _ _ _ => (pgc_tup (n := 2) (pgcs_cons (pgc_name (i := 10) sc.nd rfl (by first | exact Or.inl rfl | exact Or.inr rfl) (by decide)) (pgcs_cons (pgc_name (i := 11) sc.nd rfl (by first | exact Or.inl rfl | exact Or.inr rfl) (by decide)) pgcs_nil)))) (fun _ _ _ _ _ => ptsd_nil) (fun _ _ _ _ _ => (pd_ifExp (ptd_lelt (pd_name (pv 4)) (pd_name (pv 10)) (pd_name (pv 5))) (pd_sub (pd_name (pv 11)) pd_int) (pd_name (pv 11)))))
  (pssd_cons (psd_set (i := 9) sc.nd rfl (Or.inl rfl) (pd_call c_told_best hr (by first | decide | omega) (pad_cons (pd_seats T.clLine T.nSeats (pd_name (pv 0))) (pad_cons (pd_call c_with_request hr (by first | decide | omega) (pad_cons (pd_name (pv 1)) (pad_cons (pd_name (pv 2)) (pad_cons (pd_name (pv 3)) (pad_cons (pd_name (pv 7)) pad_nil))))) pad_nil))))
  (pssd_one (psd_ret (pd_eq hr.units (pd_add (pd_name (pv 3)) (pd_call c_told_best hr (by first | decide | omega) (pad_cons (pd_name (pv 8)) (pad_cons (pd_call c_with_request hr (by first | decide | omega) (pad_cons (pd_name (pv 1)) (pad_cons (pd_name (pv 2)) (pad_cons (pd_name (pv 3)) (pad_cons (pd_sub (pd_name (pv 7)) pd_int) pad_nil))))) pad_nil)))) (pd_name (pv 9))))))))), ?_⟩)
  obtain ⟨ss, d, rs, n, r, f, rfl, h⟩ := h
  obtain ⟨M, f1, f2, o⟩ := h
  have hs := M.sq
  simp [startD, wipeD, dsRet, dsRetN, dsIf, dsSeq, dsNext, dsAsg, dsDrop, dsBreak, dsCont, dsPar, dsAug, dsFrz, dsApp, dsExt, dsPut, dsAugO, dsOwn, dsParOO, dsParDO, dsParDDO, dsFrzA, dxRep, diOwn, dsRaise, deAnd, deOr, deNot, de1, de2, deB, deX, dxB, dxLst, deName, deC, deCall, deIxO, deLenO, deTup, deLst, daCons, daNil, daStar, deChain, dtChain, dtV, dtAnd, dtOr, dtNot, dtYes, deIf, deSl, doNone, doSome, rdAdd, rdSub, rdMul, rdMod, rdDiv, rdPow, rdI, rdIc, rdB, rdLt, rdLe, rdGt, rdGe, rdNeg, rdIs, rdEq, rdNe, rdIx, rdIsN, rdNotN, rdIsB, rdNotB, rdRev, rdSeats, rdCatL, rdCatT, rdRepL, rdLen, rdTuple, rdList, rxList, rdInt, rdMax2, rdMin2, dgName, dgTup, dgCons, dgNil, deRefused, rdRepr, rdNeS, rdEqL, rdNeL, rdRepT, rdIsLn, noOwn, diSeq, diEn, diZp, diR1, diR2, noX,  eqOk_int, eqOk_bl, eqOk_non, eqv_int, eqv_bl, eqv_non, atI_0, atI_1, atI_2, atI_3, qty_non, qisI_non, qisB_non, qisL_non, qisU_non, qisS_non, qisD_non, qisNon_non, qcooked_non, qseq_non, qty_bl, qisI_bl, qisB_bl, qisL_bl, qisU_bl, qisS_bl, qisD_bl, qisNon_bl, qcooked_bl, qseq_bl, qty_int, qisI_int, qisB_int, qisL_int, qisU_int, qisS_int, qisD_int, qisNon_int, qcooked_int, qseq_int, qty_str, qisI_str, qisB_str, qisL_str, qisU_str, qisS_str, qisD_str, qisNon_str, qcooked_str, qseq_str, qty_lst, qisI_lst, qisB_lst, qisL_lst, qisU_lst, qisS_lst, qisD_lst, qisNon_lst, qcooked_lst, qseq_lst, qty_tup, qisI_tup, qisB_tup, qisL_tup, qisU_tup, qisS_tup, qisD_tup, qisNon_tup, qcooked_tup, qseq_tup, qty_dct, qisI_dct, qisB_dct, qisL_dct, qisU_dct, qisS_dct, qisD_dct, qisNon_dct, qcooked_dct, qseq_dct, qix_lst, qsl_lst, qix_tup, qsl_tup, qisNon_ln, qcooked_ln, and_assoc, exists_and_left, exists_eq_left, exists_eq_left', exists_eq_right, deFget, dsFset, dsFsetO, deFix, dsFaug, dmCall, dmIx, dsDropM, dsAsgM, dmsSeq, dmsRet, dmsNil, dmsIf, dmsFrz, startM, dnMake, deNfld, deNmeth, dxLend, deLend, dnsSeq, dnsRet, putM1, putM2, putM3, putM4, mkSt, lkM_seats, lkM_requests, lkM_sale, lkM_roads, lkM_lay, lkM_len, lkM_bet, lkM_pri, putM_roads, lenM, rdInI, rdEqS, sp_told_best00, sp_with_request, dxLc_eq, dsFor_eq, rngD_0, rngD_eq, zipD_map, enumD_map0, hs]
  have hr := M.at_
  have hlt : n < rs.length := (List.getElem?_eq_some_iff.mp hr).1
  have okr := M.ok r (List.mem_of_getElem? hr)
  have m1 := okr.m1
  have rl := M.rl
  have hw : ∀ {g : Int}, (withR rs n r f g).length ≤ rs.length := withR_len hlt
  have okF : ∀ q ∈ withR rs n r f r.m, q.Ok ss.length := withR_ok M.ok okr f1 f2 (by omega) (by omega)
  have okL : ∀ q ∈ withR rs n r f (r.m - 1), q.Ok ss.length := withR_ok M.ok okr f1 f2 (by omega) (by omega)
  have hwF := hw (g := r.m)
  have hwL := hw (g := r.m - 1)
  have hix : d.ix (.int (n : Int)) = some r.d := by rw [ix_of hs, atI_nat', List.getElem?_map, hr]; rfl
  refine ⟨r.d, hix, _, rfl, rfl, _, _, rfl, _, _, rfl, _, _, rfl, _, _, rfl, rfl, r.a, rfl, r.b, rfl, cut ss (some r.a) (some r.b), by rw [cut_map], ?_⟩
  by_cases hp : SpanPos ss r
  · rw [if_neg (fun z => (span_cut okr).mp z hp)]
    refine lb_on ss.zipIdx (fun p => .int (if r.a ≤ (p.2 : Int) ∧ (p.2 : Int) < r.b then p.1 - 1 else p.1)) (by have := M.sl; rw [List.length_zipIdx]; omega) (fun p hp2 R hR => ?_) ?_
    · simp [startD, wipeD, dsRet, dsRetN, dsIf, dsSeq, dsNext, dsAsg, dsDrop, dsBreak, dsCont, dsPar, dsAug, dsFrz, dsApp, dsExt, dsPut, dsAugO, dsOwn, dsParOO, dsParDO, dsParDDO, dsFrzA, dxRep, diOwn, dsRaise, deAnd, deOr, deNot, de1, de2, deB, deX, dxB, dxLst, deName, deC, deCall, deIxO, deLenO, deTup, deLst, daCons, daNil, daStar, deChain, dtChain, dtV, dtAnd, dtOr, dtNot, dtYes, deIf, deSl, doNone, doSome, rdAdd, rdSub, rdMul, rdMod, rdDiv, rdPow, rdI, rdIc, rdB, rdLt, rdLe, rdGt, rdGe, rdNeg, rdIs, rdEq, rdNe, rdIx, rdIsN, rdNotN, rdIsB, rdNotB, rdRev, rdSeats, rdCatL, rdCatT, rdRepL, rdLen, rdTuple, rdList, rxList, rdInt, rdMax2, rdMin2, dgName, dgTup, dgCons, dgNil, deRefused, rdRepr, rdNeS, rdEqL, rdNeL, rdRepT, rdIsLn, noOwn, diSeq, diEn, diZp, diR1, diR2, noX,  eqOk_int, eqOk_bl, eqOk_non, eqv_int, eqv_bl, eqv_non, atI_0, atI_1, atI_2, atI_3, qty_non, qisI_non, qisB_non, qisL_non, qisU_non, qisS_non, qisD_non, qisNon_non, qcooked_non, qseq_non, qty_bl, qisI_bl, qisB_bl, qisL_bl, qisU_bl, qisS_bl, qisD_bl, qisNon_bl, qcooked_bl, qseq_bl, qty_int, qisI_int, qisB_int, qisL_int, qisU_int, qisS_int, qisD_int, qisNon_int, qcooked_int, qseq_int, qty_str, qisI_str, qisB_str, qisL_str, qisU_str, qisS_str, qisD_str, qisNon_str, qcooked_str, qseq_str, qty_lst, qisI_lst, qisB_lst, qisL_lst, qisU_lst, qisS_lst, qisD_lst, qisNon_lst, qcooked_lst, qseq_lst, qty_tup, qisI_tup, qisB_tup, qisL_tup, qisU_tup, qisS_tup, qisD_tup, qisNon_tup, qcooked_tup, qseq_tup, qty_dct, qisI_dct, qisB_dct, qisL_dct, qisU_dct, qisS_dct, qisD_dct, qisNon_dct, qcooked_dct, qseq_dct, qix_lst, qsl_lst, qix_tup, qsl_tup, qisNon_ln, qcooked_ln, and_assoc, exists_and_left, exists_eq_left, exists_eq_left', exists_eq_right, deFget, dsFset, dsFsetO, deFix, dsFaug, dmCall, dmIx, dsDropM, dsAsgM, dmsSeq, dmsRet, dmsNil, dmsIf, dmsFrz, startM, dnMake, deNfld, deNmeth, dxLend, deLend, dnsSeq, dnsRet, putM1, putM2, putM3, putM4, mkSt, lkM_seats, lkM_requests, lkM_sale, lkM_roads, lkM_lay, lkM_len, lkM_bet, lkM_pri, putM_roads, lenM, rdInI, rdEqS, sp_told_best00, sp_with_request, dxLc_eq, dsFor_eq, rngD_0, rngD_eq, zipD_map, enumD_map0]
      by_cases c1 : r.a ≤ (p.2 : Int)
      · rw [if_pos c1]
        by_cases c2 : (p.2 : Int) < r.b
        · rw [if_pos c2]
          rw [if_pos ⟨c1, c2⟩] at hR
          exact hR
        · rw [if_neg c2]
          rw [if_neg (fun z => c2 z.2)] at hR
          exact hR
      · rw [if_neg c1]
        rw [if_neg (fun z => c1 z.1)] at hR
        exact hR
    · rw [left1_zip]
      refine ⟨rs, n, rfl, r, r.m, rfl, rfl, hr, by omega, ss, _, ⟨rfl, rfl, okF, M.sl, by omega, M.s0⟩, fun v hv => ⟨r.m, rfl, rs, n, rfl, rfl, r, hr, by omega, leftL ss r 1, _, ⟨rfl, rfl, by rw [leftL_len]; exact okL, by rw [leftL_len]; exact M.sl, by omega, left1_pos M.s0 hp⟩, fun w hw2 => ?_⟩⟩
      rw [takes_eq hp hv hw2] at o
      exact o
  · rw [if_pos ((span_cut okr).mpr hp)]
    rw [takes_no hp] at o
    exact o
end
end K12
end
-- F_12_leaves_one
section
set_option Elab.async false
set_option linter.all false
set_option maxRecDepth 100000
set_option maxHeartbeats 4000000
set_option autoImplicit false
namespace K12
open PySem PySem.Spec PyProof.Rows L2 Sd
section
variable {P : Program} {w : World} {K : PySem.W.Frag} {mg : Str → Option Value} {base : Heap}
theorem ok_leaves_one (T : Txt K mg) {f : Addr} {fd : FuncData} (F : FnP K "leaves_one" s_leaves_one f fd) (c_told_best : Cl P w K mg base 6 "told_best" sp_told_best00 []) (c_with_request : Cl P w K mg base 1 "with_request" sp_with_request [])  : FnOk P w K mg base (L2.CX P w) 7 f fd ["line", "requests", "number", "fare"] (spD K sp_leaves_one) := by
  have sc := sc_leaves_one
  refine fnD F sc (fun F ds O h => by
    obtain ⟨_, _, _, _, _, _, e, _⟩ := h
    rw [e] <;> rfl) (fun cdv A outer s G E ds O hr h hE => ⟨_, (pssd_cons (psd_set (i := 4) sc.nd rfl (Or.inl rfl) (pd_item (pd_item (pd_name (pv 1)) (pd_name (pv 2))) pd_int))
  (pssd_cons (psd_set (i := 5) sc.nd rfl (Or.inl rfl) (pd_call c_told_best hr (by first | decide | omega) (pad_cons (pd_seats T.clLine T.nSeats (pd_name (pv 0))) (pad_cons (pd_call c_with_request hr (by first | decide | omega) (pad_cons (pd_name (pv 1)) (pad_cons (pd_name (pv 2)) (pad_cons (pd_name (pv 3)) (pad_cons (pd_name (pv 4)) pad_nil))))) pad_nil))))
  (pssd_one (psd_ret (pd_eq hr.units (pd_call c_told_best hr (by first | decide | omega) (pad_cons (pd_seats T.clLine T.nSeats (pd_name (pv 0))) (pad_cons (pd_call c_with_request hr (by first | decide | omega) (pad_cons (pd_name (pv 1)) (pad_cons (pd_name (pv 2)) (pad_cons (pd_name (pv 3)) (pad_cons (pd_sub (pd_name (pv 4)) pd_int) pad_nil))))) pad_nil))) (pd_name (pv 5))))))), ?_⟩)
  obtain ⟨ss, d, rs, n, r, f, rfl, h⟩ := h
  obtain ⟨M, f1, f2, o⟩ := h
  have hs := M.sq
  simp [startD, wipeD, dsRet, dsRetN, dsIf, dsSeq, dsNext, dsAsg, dsDrop, dsBreak, dsCont, dsPar, dsAug, dsFrz, dsApp, dsExt, dsPut, dsAugO, dsOwn, dsParOO, dsParDO, dsParDDO, dsFrzA, dxRep, diOwn, dsRaise, deAnd, deOr, deNot, de1, de2, deB, deX, dxB, dxLst, deName, deC, deCall, deIxO, deLenO, deTup, deLst, daCons, daNil, daStar, deChain, dtChain, dtV, dtAnd, dtOr, dtNot, dtYes, deIf, deSl, doNone, doSome, rdAdd, rdSub, rdMul, rdMod, rdDiv, rdPow, rdI, rdIc, rdB, rdLt, rdLe, rdGt, rdGe, rdNeg, rdIs, rdEq, rdNe, rdIx, rdIsN, rdNotN, rdIsB, rdNotB, rdRev, rdSeats, rdCatL, rdCatT, rdRepL, rdLen, rdTuple, rdList, rxList, rdInt, rdMax2, rdMin2, dgName, dgTup, dgCons, dgNil, deRefused, rdRepr, rdNeS, rdEqL, rdNeL, rdRepT, rdIsLn, noOwn, diSeq, diEn, diZp, diR1, diR2, noX,  eqOk_int, eqOk_bl, eqOk_non, eqv_int, eqv_bl, eqv_non, atI_0, atI_1, atI_2, atI_3, qty_non, qisI_non, qisB_non, qisL_non, qisU_non, qisS_non, qisD_non, qisNon_non, qcooked_non, qseq_non, qty_bl, qisI_bl, qisB_bl, qisL_bl, qisU_bl, qisS_bl, qisD_bl, qisNon_bl, qcooked_bl, qseq_bl, qty_int, qisI_int, qisB_int, qisL_int, qisU_int, qisS_int, qisD_int, qisNon_int, qcooked_int, qseq_int, qty_str, qisI_str, qisB_str, qisL_str, qisU_str, qisS_str, qisD_str, qisNon_str, qcooked_str, qseq_str, qty_lst, qisI_lst, qisB_lst, qisL_lst, qisU_lst, qisS_lst, qisD_lst, qisNon_lst, qcooked_lst, qseq_lst, qty_tup, qisI_tup, qisB_tup, qisL_tup, qisU_tup, qisS_tup, qisD_tup, qisNon_tup, qcooked_tup, qseq_tup, qty_dct, qisI_dct, qisB_dct, qisL_dct, qisU_dct, qisS_dct, qisD_dct, qisNon_dct, qcooked_dct, qseq_dct, qix_lst, qsl_lst, qix_tup, qsl_tup, qisNon_ln, qcooked_ln, and_assoc, exists_and_left, exists_eq_left, exists_eq_left', exists_eq_right, deFget, dsFset, dsFsetO, deFix, dsFaug, dmCall, dmIx, dsDropM, dsAsgM, dmsSeq, dmsRet, dmsNil, dmsIf, dmsFrz, startM, dnMake, deNfld, deNmeth, dxLend, deLend, dnsSeq, dnsRet, putM1, putM2, putM3, putM4, mkSt, lkM_seats, lkM_requests, lkM_sale, lkM_roads, lkM_lay, lkM_len, lkM_bet, lkM_pri, putM_roads, lenM, rdInI, rdEqS, sp_told_best00, sp_with_request, dxLc_eq, dsFor_eq, rngD_0, rngD_eq, zipD_map, enumD_map0, hs]
  have hr := M.at_
  have hlt : n < rs.length := (List.getElem?_eq_some_iff.mp hr).1
  have okr := M.ok r (List.mem_of_getElem? hr)
  have m1 := okr.m1
  have rl := M.rl
  have hw : ∀ {g : Int}, (withR rs n r f g).length ≤ rs.length := withR_len hlt
  have okF : ∀ q ∈ withR rs n r f r.m, q.Ok ss.length := withR_ok M.ok okr f1 f2 (by omega) (by omega)
  have okL : ∀ q ∈ withR rs n r f (r.m - 1), q.Ok ss.length := withR_ok M.ok okr f1 f2 (by omega) (by omega)
  have hwF := hw (g := r.m)
  have hwL := hw (g := r.m - 1)
  have hix : d.ix (.int (n : Int)) = some r.d := by rw [ix_of hs, atI_nat', List.getElem?_map, hr]; rfl
  refine ⟨r.d, hix, .int r.m, rfl, rs, n, rfl, r, r.m, rfl, rfl, hr, by omega, ss, _, ⟨rfl, rfl, okF, M.sl, by omega, M.s0⟩, fun v hv => ⟨r.m, rfl, rs, n, rfl, rfl, r, hr, by omega, ss, _, ⟨rfl, rfl, okL, M.sl, by omega, M.s0⟩, fun w hw2 => ?_⟩⟩
  rw [leaves_eq hv hw2] at o
  exact o
end
end K12
end
-- F_12_least_taken
section
set_option Elab.async false
set_option linter.all false
set_option maxRecDepth 100000
set_option maxHeartbeats 4000000
set_option autoImplicit false
namespace K12
open PySem PySem.Spec PyProof.Rows L2 Sd
section
variable {P : Program} {w : World} {K : PySem.W.Frag} {mg : Str → Option Value} {base : Heap}
theorem ok_least_taken (T : Txt K mg) {f : Addr} {fd : FuncData} (F : FnP K "least_taken" s_least_taken f fd) (c_takes_one : Cl P w K mg base 7 "takes_one" sp_takes_one [])  : FnOk P w K mg base (L2.CX P w) 8 f fd ["line", "requests", "number"] (spD K sp_least_taken) := by
  have sc := sc_least_taken
  refine fnD F sc (fun F ds O h => by
    obtain ⟨_, _, _, _, _, e, _⟩ := h
    rw [e] <;> rfl) (fun cdv A outer s G E ds O hr h hE => ⟨_, (pssd_cons (psd_if (ptd_not (ptd_val (pd_call c_takes_one hr (by first | decide | omega) (pad_cons (pd_name (pv 0)) (pad_cons (pd_name (pv 1)) (pad_cons (pd_name (pv 2)) (pad_cons (pd_gint T.c_MOST_FARE) pad_nil)))))))
  (pssd_one (psd_ret pd_non))
  pssd_nil)
  (pssd_cons (psd_set (i := 3) sc.nd rfl (Or.inl rfl) pd_int)
  (pssd_cons (psd_set (i := 4) sc.nd rfl (Or.inl rfl) (pd_gint T.c_MOST_FARE))
  (pssd_cons (psd_while (passes_of rfl) (ptd_lt (pd_name (pv 3)) (pd_name (pv 4)))
  (pssd_cons (psd_set (i := 5) sc.nd rfl (Or.inl rfl) (pd_div (pd_add (pd_name (pv 3)) (pd_name (pv 4))) pd_int))
  (pssd_one (psd_if (ptd_val (pd_call c_takes_one hr (by first | decide | omega) (pad_cons (pd_name (pv 0)) (pad_cons (pd_name (pv 1)) (pad_cons (pd_name (pv 2)) (pad_cons (pd_name (pv 5)) pad_nil))))))
  (pssd_one (psd_set (i := 4) sc.nd rfl (Or.inl rfl) (pd_name (pv 5))))
  (pssd_one (psd_set (i := 3) sc.nd rfl (Or.inl rfl) (pd_add (pd_name (pv 5)) pd_int)))))))
  (pssd_one (psd_ret (pd_name (pv 3)))))))), ?_⟩)
  obtain ⟨ss, d, rs, n, r, rfl, h⟩ := h
  obtain ⟨M, o⟩ := h
  simp [startD, wipeD, dsRet, dsRetN, dsIf, dsSeq, dsNext, dsAsg, dsDrop, dsBreak, dsCont, dsPar, dsAug, dsFrz, dsApp, dsExt, dsPut, dsAugO, dsOwn, dsParOO, dsParDO, dsParDDO, dsFrzA, dxRep, diOwn, dsRaise, deAnd, deOr, deNot, de1, de2, deB, deX, dxB, dxLst, deName, deC, deCall, deIxO, deLenO, deTup, deLst, daCons, daNil, daStar, deChain, dtChain, dtV, dtAnd, dtOr, dtNot, dtYes, deIf, deSl, doNone, doSome, rdAdd, rdSub, rdMul, rdMod, rdDiv, rdPow, rdI, rdIc, rdB, rdLt, rdLe, rdGt, rdGe, rdNeg, rdIs, rdEq, rdNe, rdIx, rdIsN, rdNotN, rdIsB, rdNotB, rdRev, rdSeats, rdCatL, rdCatT, rdRepL, rdLen, rdTuple, rdList, rxList, rdInt, rdMax2, rdMin2, dgName, dgTup, dgCons, dgNil, deRefused, rdRepr, rdNeS, rdEqL, rdNeL, rdRepT, rdIsLn, noOwn, diSeq, diEn, diZp, diR1, diR2, noX,  eqOk_int, eqOk_bl, eqOk_non, eqv_int, eqv_bl, eqv_non, atI_0, atI_1, atI_2, atI_3, qty_non, qisI_non, qisB_non, qisL_non, qisU_non, qisS_non, qisD_non, qisNon_non, qcooked_non, qseq_non, qty_bl, qisI_bl, qisB_bl, qisL_bl, qisU_bl, qisS_bl, qisD_bl, qisNon_bl, qcooked_bl, qseq_bl, qty_int, qisI_int, qisB_int, qisL_int, qisU_int, qisS_int, qisD_int, qisNon_int, qcooked_int, qseq_int, qty_str, qisI_str, qisB_str, qisL_str, qisU_str, qisS_str, qisD_str, qisNon_str, qcooked_str, qseq_str, qty_lst, qisI_lst, qisB_lst, qisL_lst, qisU_lst, qisS_lst, qisD_lst, qisNon_lst, qcooked_lst, qseq_lst, qty_tup, qisI_tup, qisB_tup, qisL_tup, qisU_tup, qisS_tup, qisD_tup, qisNon_tup, qcooked_tup, qseq_tup, qty_dct, qisI_dct, qisB_dct, qisL_dct, qisU_dct, qisS_dct, qisD_dct, qisNon_dct, qcooked_dct, qseq_dct, qix_lst, qsl_lst, qix_tup, qsl_tup, qisNon_ln, qcooked_ln, and_assoc, exists_and_left, exists_eq_left, exists_eq_left', exists_eq_right, deFget, dsFset, dsFsetO, deFix, dsFaug, dmCall, dmIx, dsDropM, dsAsgM, dmsSeq, dmsRet, dmsNil, dmsIf, dmsFrz, startM, dnMake, deNfld, deNmeth, dxLend, deLend, dnsSeq, dnsRet, putM1, putM2, putM3, putM4, mkSt, lkM_seats, lkM_requests, lkM_sale, lkM_roads, lkM_lay, lkM_len, lkM_bet, lkM_pri, putM_roads, lenM, rdInI, rdEqS, sp_takes_one, dxLc_eq, dsFor_eq, rngD_0, rngD_eq, zipD_map, enumD_map0, dsWhile_eq]
  refine ⟨ss, rfl, rs, n, rfl, r, M, ?_⟩
  split
  · rename_i c0
    refine ⟨fun q δ' => ∃ (a b : Int) (x : Sl), δ' = [.dat (.ln (ss.map D.int)), .dat d, .dat (.int (n : Int)), .dat (.int a), .dat (.int b), x] ∧ 1 ≤ a ∧ a ≤ b ∧ b ≤ 1000 ∧ takesB ss rs n r b = true ∧ (1 < a → takesB ss rs n r (a - 1) = false) ∧ (q : Int) = b - a, ⟨999, 1, 1000, .un, rfl, by omega, by omega, by omega, c0, fun z => by omega, by omega⟩, fun q δ' hj => ?_⟩
    obtain ⟨a, b, x, rfl, a1, ab, b1, hb, ha, hq⟩ := hj
    simp [startD, wipeD, dsRet, dsRetN, dsIf, dsSeq, dsNext, dsAsg, dsDrop, dsBreak, dsCont, dsPar, dsAug, dsFrz, dsApp, dsExt, dsPut, dsAugO, dsOwn, dsParOO, dsParDO, dsParDDO, dsFrzA, dxRep, diOwn, dsRaise, deAnd, deOr, deNot, de1, de2, deB, deX, dxB, dxLst, deName, deC, deCall, deIxO, deLenO, deTup, deLst, daCons, daNil, daStar, deChain, dtChain, dtV, dtAnd, dtOr, dtNot, dtYes, deIf, deSl, doNone, doSome, rdAdd, rdSub, rdMul, rdMod, rdDiv, rdPow, rdI, rdIc, rdB, rdLt, rdLe, rdGt, rdGe, rdNeg, rdIs, rdEq, rdNe, rdIx, rdIsN, rdNotN, rdIsB, rdNotB, rdRev, rdSeats, rdCatL, rdCatT, rdRepL, rdLen, rdTuple, rdList, rxList, rdInt, rdMax2, rdMin2, dgName, dgTup, dgCons, dgNil, deRefused, rdRepr, rdNeS, rdEqL, rdNeL, rdRepT, rdIsLn, noOwn, diSeq, diEn, diZp, diR1, diR2, noX,  eqOk_int, eqOk_bl, eqOk_non, eqv_int, eqv_bl, eqv_non, atI_0, atI_1, atI_2, atI_3, qty_non, qisI_non, qisB_non, qisL_non, qisU_non, qisS_non, qisD_non, qisNon_non, qcooked_non, qseq_non, qty_bl, qisI_bl, qisB_bl, qisL_bl, qisU_bl, qisS_bl, qisD_bl, qisNon_bl, qcooked_bl, qseq_bl, qty_int, qisI_int, qisB_int, qisL_int, qisU_int, qisS_int, qisD_int, qisNon_int, qcooked_int, qseq_int, qty_str, qisI_str, qisB_str, qisL_str, qisU_str, qisS_str, qisD_str, qisNon_str, qcooked_str, qseq_str, qty_lst, qisI_lst, qisB_lst, qisL_lst, qisU_lst, qisS_lst, qisD_lst, qisNon_lst, qcooked_lst, qseq_lst, qty_tup, qisI_tup, qisB_tup, qisL_tup, qisU_tup, qisS_tup, qisD_tup, qisNon_tup, qcooked_tup, qseq_tup, qty_dct, qisI_dct, qisB_dct, qisL_dct, qisU_dct, qisS_dct, qisD_dct, qisNon_dct, qcooked_dct, qseq_dct, qix_lst, qsl_lst, qix_tup, qsl_tup, qisNon_ln, qcooked_ln, and_assoc, exists_and_left, exists_eq_left, exists_eq_left', exists_eq_right, deFget, dsFset, dsFsetO, deFix, dsFaug, dmCall, dmIx, dsDropM, dsAsgM, dmsSeq, dmsRet, dmsNil, dmsIf, dmsFrz, startM, dnMake, deNfld, deNmeth, dxLend, deLend, dnsSeq, dnsRet, putM1, putM2, putM3, putM4, mkSt, lkM_seats, lkM_requests, lkM_sale, lkM_roads, lkM_lay, lkM_len, lkM_bet, lkM_pri, putM_roads, lenM, rdInI, rdEqS, sp_takes_one, dxLc_eq, dsFor_eq, rngD_0, rngD_eq, zipD_map, enumD_map0]
    split
    · rename_i c
      have g1 : a ≤ (a + b) / 2 := by omega
      have g2 : (a + b) / 2 < b := by omega
      refine ⟨⟨by omega, by omega⟩, ss, rfl, rs, n, rfl, r, M, by omega, by omega, ?_⟩
      split
      · rename_i c2
        exact ⟨((a + b) / 2 - a).toNat, by omega, a1, g1, by omega, c2, ha, by omega⟩
      · rename_i c2
        exact ⟨(b - ((a + b) / 2 + 1)).toNat, by omega, by omega, by omega, b1, hb, fun _ => by simpa using c2, by omega⟩
    · rename_i c
      have e : b = a := by omega
      subst e
      exact o _ (.inr ⟨_, rfl, a1, b1, hb, ha⟩)
  · rename_i c0
    exact o _ (.inl ⟨rfl, by simpa using c0⟩)
end
end K12
end
-- F_12_most_left
section
set_option Elab.async false
set_option linter.all false
set_option maxRecDepth 100000
set_option maxHeartbeats 4000000
set_option autoImplicit false
namespace K12
open PySem PySem.Spec PyProof.Rows L2 Sd
section
variable {P : Program} {w : World} {K : PySem.W.Frag} {mg : Str → Option Value} {base : Heap}
theorem ok_most_left (T : Txt K mg) {f : Addr} {fd : FuncData} (F : FnP K "most_left" s_most_left f fd) (c_leaves_one : Cl P w K mg base 7 "leaves_one" sp_leaves_one [])  : FnOk P w K mg base (L2.CX P w) 8 f fd ["line", "requests", "number"] (spD K sp_most_left) := by
  have sc := sc_most_left
  refine fnD F sc (fun F ds O h => by
    obtain ⟨_, _, _, _, _, e, _⟩ := h
    rw [e] <;> rfl) (fun cdv A outer s G E ds O hr h hE => ⟨_, (pssd_cons (psd_if (ptd_not (ptd_val (pd_call c_leaves_one hr (by first | decide | omega) (pad_cons (pd_name (pv 0)) (pad_cons (pd_name (pv 1)) (pad_cons (pd_name (pv 2)) (pad_cons pd_int pad_nil)))))))
  (pssd_one (psd_ret pd_non))
  pssd_nil)
  (pssd_cons (psd_set (i := 3) sc.nd rfl (Or.inl rfl) pd_int)
  (pssd_cons (psd_set (i := 4) sc.nd rfl (Or.inl rfl) (pd_gint T.c_MOST_FARE))
  (pssd_cons (psd_while (passes_of rfl) (ptd_lt (pd_name (pv 3)) (pd_name (pv 4)))
  (pssd_cons (psd_set (i := 5) sc.nd rfl (Or.inl rfl) (pd_div (pd_add (pd_add (pd_name (pv 3)) (pd_name (pv 4))) pd_int) pd_int))
  (pssd_one (psd_if (ptd_val (pd_call c_leaves_one hr (by first | decide | omega) (pad_cons (pd_name (pv 0)) (pad_cons (pd_name (pv 1)) (pad_cons (pd_name (pv 2)) (pad_cons (pd_name (pv 5)) pad_nil))))))
  (pssd_one (psd_set (i := 3) sc.nd rfl (Or.inl rfl) (pd_name (pv 5))))
  (pssd_one (psd_set (i := 4) sc.nd rfl (Or.inl rfl) (pd_sub (pd_name (pv 5)) pd_int)))))))
  (pssd_one (psd_ret (pd_name (pv 3)))))))), ?_⟩)
  obtain ⟨ss, d, rs, n, r, rfl, h⟩ := h
  obtain ⟨M, o⟩ := h
  simp [startD, wipeD, dsRet, dsRetN, dsIf, dsSeq, dsNext, dsAsg, dsDrop, dsBreak, dsCont, dsPar, dsAug, dsFrz, dsApp, dsExt, dsPut, dsAugO, dsOwn, dsParOO, dsParDO, dsParDDO, dsFrzA, dxRep, diOwn, dsRaise, deAnd, deOr, deNot, de1, de2, deB, deX, dxB, dxLst, deName, deC, deCall, deIxO, deLenO, deTup, deLst, daCons, daNil, daStar, deChain, dtChain, dtV, dtAnd, dtOr, dtNot, dtYes, deIf, deSl, doNone, doSome, rdAdd, rdSub, rdMul, rdMod, rdDiv, rdPow, rdI, rdIc, rdB, rdLt, rdLe, rdGt, rdGe, rdNeg, rdIs, rdEq, rdNe, rdIx, rdIsN, rdNotN, rdIsB, rdNotB, rdRev, rdSeats, rdCatL, rdCatT, rdRepL, rdLen, rdTuple, rdList, rxList, rdInt, rdMax2, rdMin2, dgName, dgTup, dgCons, dgNil, deRefused, rdRepr, rdNeS, rdEqL, rdNeL, rdRepT, rdIsLn, noOwn, diSeq, diEn, diZp, diR1, diR2, noX,  eqOk_int, eqOk_bl, eqOk_non, eqv_int, eqv_bl, eqv_non, atI_0, atI_1, atI_2, atI_3, qty_non, qisI_non, qisB_non, qisL_non, qisU_non, qisS_non, qisD_non, qisNon_non, qcooked_non, qseq_non, qty_bl, qisI_bl, qisB_bl, qisL_bl, qisU_bl, qisS_bl, qisD_bl, qisNon_bl, qcooked_bl, qseq_bl, qty_int, qisI_int, qisB_int, qisL_int, qisU_int, qisS_int, qisD_int, qisNon_int, qcooked_int, qseq_int, qty_str, qisI_str, qisB_str, qisL_str, qisU_str, qisS_str, qisD_str, qisNon_str, qcooked_str, qseq_str, qty_lst, qisI_lst, qisB_lst, qisL_lst, qisU_lst, qisS_lst, qisD_lst, qisNon_lst, qcooked_lst, qseq_lst, qty_tup, qisI_tup, qisB_tup, qisL_tup, qisU_tup, qisS_tup, qisD_tup, qisNon_tup, qcooked_tup, qseq_tup, qty_dct, qisI_dct, qisB_dct, qisL_dct, qisU_dct, qisS_dct, qisD_dct, qisNon_dct, qcooked_dct, qseq_dct, qix_lst, qsl_lst, qix_tup, qsl_tup, qisNon_ln, qcooked_ln, and_assoc, exists_and_left, exists_eq_left, exists_eq_left', exists_eq_right, deFget, dsFset, dsFsetO, deFix, dsFaug, dmCall, dmIx, dsDropM, dsAsgM, dmsSeq, dmsRet, dmsNil, dmsIf, dmsFrz, startM, dnMake, deNfld, deNmeth, dxLend, deLend, dnsSeq, dnsRet, putM1, putM2, putM3, putM4, mkSt, lkM_seats, lkM_requests, lkM_sale, lkM_roads, lkM_lay, lkM_len, lkM_bet, lkM_pri, putM_roads, lenM, rdInI, rdEqS, sp_leaves_one, dxLc_eq, dsFor_eq, rngD_0, rngD_eq, zipD_map, enumD_map0, dsWhile_eq]
  refine ⟨ss, rfl, rs, n, rfl, r, M, ?_⟩
  split
  · rename_i c0
    refine ⟨fun q δ' => ∃ (a b : Int) (x : Sl), δ' = [.dat (.ln (ss.map D.int)), .dat d, .dat (.int (n : Int)), .dat (.int a), .dat (.int b), x] ∧ 1 ≤ a ∧ a ≤ b ∧ b ≤ 1000 ∧ leavesB ss rs n r a = true ∧ (b < 1000 → leavesB ss rs n r (b + 1) = false) ∧ (q : Int) = b - a, ⟨999, 1, 1000, .un, rfl, by omega, by omega, by omega, c0, fun z => by omega, by omega⟩, fun q δ' hj => ?_⟩
    obtain ⟨a, b, x, rfl, a1, ab, b1, hb, ha, hq⟩ := hj
    simp [startD, wipeD, dsRet, dsRetN, dsIf, dsSeq, dsNext, dsAsg, dsDrop, dsBreak, dsCont, dsPar, dsAug, dsFrz, dsApp, dsExt, dsPut, dsAugO, dsOwn, dsParOO, dsParDO, dsParDDO, dsFrzA, dxRep, diOwn, dsRaise, deAnd, deOr, deNot, de1, de2, deB, deX, dxB, dxLst, deName, deC, deCall, deIxO, deLenO, deTup, deLst, daCons, daNil, daStar, deChain, dtChain, dtV, dtAnd, dtOr, dtNot, dtYes, deIf, deSl, doNone, doSome, rdAdd, rdSub, rdMul, rdMod, rdDiv, rdPow, rdI, rdIc, rdB, rdLt, rdLe, rdGt, rdGe, rdNeg, rdIs, rdEq, rdNe, rdIx, rdIsN, rdNotN, rdIsB, rdNotB, rdRev, rdSeats, rdCatL, rdCatT, rdRepL, rdLen, rdTuple, rdList, rxList, rdInt, rdMax2, rdMin2, dgName, dgTup, dgCons, dgNil, deRefused, rdRepr, rdNeS, rdEqL, rdNeL, rdRepT, rdIsLn, noOwn, diSeq, diEn, diZp, diR1, diR2, noX,  eqOk_int, eqOk_bl, eqOk_non, eqv_int, eqv_bl, eqv_non, atI_0, atI_1, atI_2, atI_3, qty_non, qisI_non, qisB_non, qisL_non, qisU_non, qisS_non, qisD_non, qisNon_non, qcooked_non, qseq_non, qty_bl, qisI_bl, qisB_bl, qisL_bl, qisU_bl, qisS_bl, qisD_bl, qisNon_bl, qcooked_bl, qseq_bl, qty_int, qisI_int, qisB_int, qisL_int, qisU_int, qisS_int, qisD_int, qisNon_int, qcooked_int, qseq_int, qty_str, qisI_str, qisB_str, qisL_str, qisU_str, qisS_str, qisD_str, qisNon_str, qcooked_str, qseq_str, qty_lst, qisI_lst, qisB_lst, qisL_lst, qisU_lst, qisS_lst, qisD_lst, qisNon_lst, qcooked_lst, qseq_lst, qty_tup, qisI_tup, qisB_tup, qisL_tup, qisU_tup, qisS_tup, qisD_tup, qisNon_tup, qcooked_tup, qseq_tup, qty_dct, qisI_dct, qisB_dct, qisL_dct, qisU_dct, qisS_dct, qisD_dct, qisNon_dct, qcooked_dct, qseq_dct, qix_lst, qsl_lst, qix_tup, qsl_tup, qisNon_ln, qcooked_ln, and_assoc, exists_and_left, exists_eq_left, exists_eq_left', exists_eq_right, deFget, dsFset, dsFsetO, deFix, dsFaug, dmCall, dmIx, dsDropM, dsAsgM, dmsSeq, dmsRet, dmsNil, dmsIf, dmsFrz, startM, dnMake, deNfld, deNmeth, dxLend, deLend, dnsSeq, dnsRet, putM1, putM2, putM3, putM4, mkSt, lkM_seats, lkM_requests, lkM_sale, lkM_roads, lkM_lay, lkM_len, lkM_bet, lkM_pri, putM_roads, lenM, rdInI, rdEqS, sp_leaves_one, dxLc_eq, dsFor_eq, rngD_0, rngD_eq, zipD_map, enumD_map0]
    split
    · rename_i c
      have g1 : a < (a + b + 1) / 2 := by omega
      have g2 : (a + b + 1) / 2 ≤ b := by omega
      refine ⟨⟨by omega, by omega⟩, ss, rfl, rs, n, rfl, r, M, by omega, by omega, ?_⟩
      split
      · rename_i c2
        exact ⟨(b - (a + b + 1) / 2).toNat, by omega, by omega, g2, b1, c2, ha, by omega⟩
      · rename_i c2
        exact ⟨((a + b + 1) / 2 - 1 - a).toNat, by omega, a1, by omega, by omega, hb, fun _ => by simpa using c2, by omega⟩
    · rename_i c
      have e : b = a := by omega
      subst e
      exact o _ (.inr ⟨_, rfl, a1, b1, hb, ha⟩)
  · rename_i c0
    exact o _ (.inl ⟨rfl, by simpa using c0⟩)
end
end K12
end
-- F_12_fare_range
section
set_option Elab.async false
set_option linter.all false
set_option maxRecDepth 100000
set_option maxHeartbeats 4000000
set_option autoImplicit false
namespace K12
open PySem PySem.Spec PyProof.Rows L2 Sd
section
variable {P : Program} {w : World} {K : PySem.W.Frag} {mg : Str → Option Value} {base : Heap}
theorem ok_fare_range (T : Txt K mg) {f : Addr} {fd : FuncData} (F : FnP K "fare_range" s_fare_range f fd) (c_check_requests : Cl P w K mg base 4 "check_requests" sp_check_requests []) (c_is_within : Cl P w K mg base 2 "is_within" sp_is_within []) (c_least_taken : Cl P w K mg base 8 "least_taken" sp_least_taken []) (c_most_left : Cl P w K mg base 8 "most_left" sp_most_left []) (x_BadNumber : Er P w K mg base 1 "BadNumber") : FnOk P w K mg base (L2.CX P w) 9 f fd ["line", "requests", "number"] (spD K sp_fare_range) := by
  have sc := sc_fare_range
  refine fnD F sc (fun F ds O h => by
    obtain ⟨_, _, _, e, _⟩ := h
    rw [e] <;> rfl) (fun cdv A outer s G E ds O hr h hE => ⟨_, (pssd_cons (psd_drop (pd_callX c_check_requests hr (by first | decide | omega) hE (passes_call (takes_of rfl rfl rfl rfl) (fun _ _ _ _ z => z)) (pad_cons (pd_name (pv 0)) (pad_cons (pd_name (pv 1)) pad_nil))))
  (pssd_cons (psd_if (ptd_not (ptd_val (pd_call c_is_within hr (by first | decide | omega) (pad_cons (pd_name (pv 2)) (pad_cons pd_int (pad_cons (pd_sub (pd_callB call_len_seq snd_len T.b_len (pad_cons (pd_name (pv 1)) pad_nil)) pd_int) pad_nil))))))
  (pssd_one (psd_raise x_BadNumber hr hE (takes_of rfl rfl rfl rfl) (pad_cons (pd_name (pv 2)) pad_nil)))
  pssd_nil)
  (pssd_one (psd_ret (pd_tup (pad_cons (pd_call c_least_taken hr (by first | decide | omega) (pad_cons (pd_name (pv 0)) (pad_cons (pd_name (pv 1)) (pad_cons (pd_name (pv 2)) pad_nil)))) (pad_cons (pd_call c_most_left hr (by first | decide | omega) (pad_cons (pd_name (pv 0)) (pad_cons (pd_name (pv 1)) (pad_cons (pd_name (pv 2)) pad_nil)))) pad_nil))))))), ?_⟩)
  obtain ⟨ss, d2, t, rfl, h⟩ := h
  obtain ⟨hn, s0, h2, ht, k1, k2⟩ := h
  have q1 := okv_ty h2
  have q2 := okv_ty ht
  simp [startD, wipeD, dsRet, dsRetN, dsIf, dsSeq, dsNext, dsAsg, dsDrop, dsBreak, dsCont, dsPar, dsAug, dsFrz, dsApp, dsExt, dsPut, dsAugO, dsOwn, dsParOO, dsParDO, dsParDDO, dsFrzA, dxRep, diOwn, dsRaise, deAnd, deOr, deNot, de1, de2, deB, deX, dxB, dxLst, deName, deC, deCall, deIxO, deLenO, deTup, deLst, daCons, daNil, daStar, deChain, dtChain, dtV, dtAnd, dtOr, dtNot, dtYes, deIf, deSl, doNone, doSome, rdAdd, rdSub, rdMul, rdMod, rdDiv, rdPow, rdI, rdIc, rdB, rdLt, rdLe, rdGt, rdGe, rdNeg, rdIs, rdEq, rdNe, rdIx, rdIsN, rdNotN, rdIsB, rdNotB, rdRev, rdSeats, rdCatL, rdCatT, rdRepL, rdLen, rdTuple, rdList, rxList, rdInt, rdMax2, rdMin2, dgName, dgTup, dgCons, dgNil, deRefused, rdRepr, rdNeS, rdEqL, rdNeL, rdRepT, rdIsLn, noOwn, diSeq, diEn, diZp, diR1, diR2, noX,  eqOk_int, eqOk_bl, eqOk_non, eqv_int, eqv_bl, eqv_non, atI_0, atI_1, atI_2, atI_3, qty_non, qisI_non, qisB_non, qisL_non, qisU_non, qisS_non, qisD_non, qisNon_non, qcooked_non, qseq_non, qty_bl, qisI_bl, qisB_bl, qisL_bl, qisU_bl, qisS_bl, qisD_bl, qisNon_bl, qcooked_bl, qseq_bl, qty_int, qisI_int, qisB_int, qisL_int, qisU_int, qisS_int, qisD_int, qisNon_int, qcooked_int, qseq_int, qty_str, qisI_str, qisB_str, qisL_str, qisU_str, qisS_str, qisD_str, qisNon_str, qcooked_str, qseq_str, qty_lst, qisI_lst, qisB_lst, qisL_lst, qisU_lst, qisS_lst, qisD_lst, qisNon_lst, qcooked_lst, qseq_lst, qty_tup, qisI_tup, qisB_tup, qisL_tup, qisU_tup, qisS_tup, qisD_tup, qisNon_tup, qcooked_tup, qseq_tup, qty_dct, qisI_dct, qisB_dct, qisL_dct, qisU_dct, qisS_dct, qisD_dct, qisNon_dct, qcooked_dct, qseq_dct, qix_lst, qsl_lst, qix_tup, qsl_tup, qisNon_ln, qcooked_ln, and_assoc, exists_and_left, exists_eq_left, exists_eq_left', exists_eq_right, deFget, dsFset, dsFsetO, deFix, dsFaug, dmCall, dmIx, dsDropM, dsAsgM, dmsSeq, dmsRet, dmsNil, dmsIf, dmsFrz, startM, dnMake, deNfld, deNmeth, dxLend, deLend, dnsSeq, dnsRet, putM1, putM2, putM3, putM4, mkSt, lkM_seats, lkM_requests, lkM_sale, lkM_roads, lkM_lay, lkM_len, lkM_bet, lkM_pri, putM_roads, lenM, rdInI, rdEqS, sp_check_requests, sp_is_within, sp_least_taken, sp_most_left, dxLc_eq, dsFor_eq, rngD_0, rngD_eq, zipD_map, enumD_map0, q1, q2, h2, ht]
  refine ⟨k1, fun hb => ?_⟩
  obtain ⟨rs, hs, ok, hl⟩ := good_reqs hb
  obtain ⟨k3, k4⟩ := k2 rs hs ok hl
  refine ⟨_, hs, ?_⟩
  rw [List.length_map]
  split
  · rename_i hw
    obtain ⟨n, et, hn2⟩ := within_nat hw
    have hr := List.getElem?_eq_getElem hn2
    have M : Mar ss d2 rs n rs[n] := ⟨hn, s0, hs, hr, ok, hl⟩
    exact ⟨ss, rfl, rs, n, et, _, M, fun x hx => ⟨ss, rfl, rs, n, et, _, M, fun y hy => k4 n _ et hr x y hx hy⟩⟩
  · rename_i hw
    exact k3 (by simpa using hw)
end
end K12
end
-- F_12__law_taken
section
set_option Elab.async false
set_option linter.all false
set_option maxRecDepth 100000
set_option maxHeartbeats 4000000
set_option autoImplicit false
namespace K12
open PySem PySem.Spec PyProof.Rows L2 Sd
section
variable {P : Program} {w : World} {K : PySem.W.Frag} {mg : Str → Option Value} {base : Heap}
theorem sc__law_taken : FnScope ["row", "many", "found", "cell"] ["row", "many"] (defScope s__law_taken) := ⟨rfl, rfl, rfl, by decide +kernel, rfl, by decide +kernel, by decide +kernel⟩
theorem rdRow {σ : L2.St} {H : Hp} {Q : VK} {r : Addr} {xs : List V} {k : Int} {v : V} {i : Nat} (h0 : σ[i]? = some (some (.ref r))) (h : H r = some (.lst xs)) (hk : L2.atI xs k = some v) (q : Q v H) : tOp (rIxL K) (tVar i) (tC (.int k)) σ H Q := ⟨_, h0, r, xs, k, v, rfl, rfl, SqL.of h, hk, q⟩
theorem if_t {b : Bool} {p q : Prop} (h : b = true) (hp : p) : if b = true then p else q := by
  rw [if_pos h]
  exact hp
theorem if_f {b : Bool} {p q : Prop} (h : b = false) (hq : q) : if b = true then p else q := by
  rw [if_neg (by rw [h]; decide)]
  exact hq
theorem ok__law_taken (T : Txt K mg) {f : Addr} {fd : FuncData} (F : FnP K "_law_taken" s__law_taken f fd) : FnOk P w K mg base (L2.CX P w) 1 f fd ["row", "many"] (spD K sp__law_taken) := by
  have sc := sc__law_taken
  refine F.ok sc (fun vs H Q E ⟨Fs, B, ds, O, _, _, r, h, _⟩ => by
    obtain ⟨_, _, _, e, _⟩ := h
    rw [r.length, e] <;> rfl) fun cdv A outer s H vs Q E hr ⟨Fs, B, ds, O, he, hf, rp, h, q, qx⟩ => ?_
  obtain ⟨r, sa, many, rfl, hrow, hm0, hm1, o⟩ := h
  cases rp with
  | cons h1 rp =>
  cases rp with
  | cons h2 rp =>
  cases rp
  cases h1
  cases h2
  obtain ⟨hB, ⟨ns, hns⟩, i, sd, c, hr0, hi0, hs0, hs1⟩ := hf.row r sa hrow
  have exB : ∀ u : HO, Evl.Ex B (upd H r u) := fun u a o h => by
    have ha : a ≠ r := fun z => by
      rw [z, hB] at h
      cases h
    rw [upd_ne ha]
    exact he _ _ h
  have fin : ∀ (n : Int) (i' s' c' : Int) (H' : Hp), 0 ≤ n → n < many → H' = upd H r (.lst [.ref sa, .int i', .int s', .int c']) → 0 ≤ i' → 0 ≤ s' → s' < 2147483647 → Q (.int n) H' := by
    intro n i' s' c' H' n0 n1 e a1 a2 a3
    subst e
    have eB := exB (.lst [.ref sa, .int i', .int s', .int c'])
    have hne : ∀ a o, H a = some o → (∀ ps, o ≠ .lst ps) → a ≠ r := fun a o h1 h2 z => by
      rw [z, hr0] at h1
      cases h1
      exact h2 _ rfl
    refine q _ (.int n) B _ ⟨Evl.Ex.refl B, eB, fun a h1 h2 => ⟨h1, fun hs => upd_ne fun z => hs (.inl ⟨sa, by rw [z]; exact hrow⟩)⟩, ?_⟩ (o n n0 n1) (.int n)
    refine ⟨fun r' sa' h' => ?_, fun p hp => ?_, hf.tb, hf.nt⟩
    · rw [hrow] at h'
      cases h'
      exact ⟨hB, ⟨ns, hns⟩, i', s', c', upd_same, a1, a2, a3⟩
    · obtain ⟨ps, t1, t2, t3⟩ := hf.tab p hp
      refine ⟨ps, ?_, t2, fun pos cv hc => ?_⟩
      · rw [upd_ne (hne _ _ t1 fun _ z => by cases z)]
        exact t1
      · obtain ⟨c0, e1, e2⟩ := t3 pos cv hc
        refine ⟨c0, e1, ?_⟩
        rw [upd_ne (hne _ _ e2 fun _ z => by cases z)]
        exact e2
  have hL : SqL K H sa (ns.map V.int) := exL he hns
  refine ⟨_, pss_cons (ps_if (pt_cmpR op_gt (pe_ix ix_list (pv 0) pe_int (fun _ _ => rfl)) pe_int (nomark _))
      (pss_cons (ps_set (i := 2) sc.nd rfl (Or.inl rfl) (pe_op op_mod (pe_callTy call_int1 (by rfl) T.b_int (by decide +kernel) (pa_cons (pe_ix ix_list (pv 0) pe_int (fun _ _ => rfl)) pa_nil)) (pv 1)))
        (pss_cons (ps_asg (pe_op op_fdiv (pe_ix ix_list (pv 0) pe_int (fun _ _ => rfl)) (pv 1)) (pg_sub (pv 0) pe_int set_list))
          (pss_one (ps_ret (pv 2))))) pss_nil)
    (pss_cons (ps_asg (pe_op op_add (pe_ix ix_list (pv 0) pe_int (fun _ _ => rfl)) pe_int) (pg_sub (pv 0) pe_int set_list))
    (pss_cons (ps_if (pt_cmpR op_gt (pe_ix ix_list (pv 0) pe_int (fun _ _ => rfl)) (pe_callB call_len_seq (by rfl) T.b_len (by decide +kernel) (pa_cons (pe_ix ix_list (pv 0) pe_int (fun _ _ => rfl)) pa_nil)) (nomark _))
      (pss_cons (ps_asg (pe_op op_mod (pe_callTy call_int1 (by rfl) T.b_int (by decide +kernel) (pa_cons (pe_op op_add (pe_op op_mul (pe_ix ix_list (pv 0) pe_int (fun _ _ => rfl)) pe_int) pe_int) pa_nil)) pe_int) (pg_sub (pv 0) pe_int set_list))
        (pss_one (ps_ret (pe_op op_mod (pe_callTy call_int1 (by rfl) T.b_int (by decide +kernel) (pa_cons (pe_op op_fdiv (pe_ix ix_list (pv 0) pe_int (fun _ _ => rfl)) pe_int) pa_nil)) (pv 1))))) pss_nil)
    (pss_cons (ps_set (i := 3) sc.nd rfl (Or.inl rfl) (pe_ix ix_list (pe_ix ix_list (pv 0) pe_int (fun _ _ => rfl)) (pe_op op_sub (pe_ix ix_list (pv 0) pe_int (fun _ _ => rfl)) pe_int) (fun _ _ => rfl)))
    (pss_cons (ps_asg (pe_op op_mod (pe_callTy call_int1 (by rfl) T.b_int (by decide +kernel) (pa_cons (pe_op op_add (pe_op op_add (pe_op op_mul (pe_ix ix_list (pv 0) pe_int (fun _ _ => rfl)) pe_int) (pv 3)) pe_int) pa_nil)) pe_int) (pg_sub (pv 0) pe_int set_list))
    (pss_cons (ps_if (pt_cmpR op_ge (pv 3) (pe_op op_pow pe_int pe_int) (nomark _))
      (pss_one (ps_asg (pe_op op_fdiv (pv 3) (pv 1)) (pg_sub (pv 0) pe_int set_list))) pss_nil)
    (pss_one (ps_ret (pe_op op_mod (pe_callTy call_int1 (by rfl) T.b_int (by decide +kernel) (pa_cons (pv 3) pa_nil)) (pv 1))))))))), ?_⟩
  have hmod : ∀ x : Int, 0 ≤ x % many ∧ x % many < many := fun x => ⟨Int.emod_nonneg _ (by omega), Int.emod_lt_of_pos _ hm0⟩
  have hmod2 : ∀ x : Int, 0 ≤ x % 2147483647 ∧ x % 2147483647 < 2147483647 := fun x => ⟨Int.emod_nonneg _ (by omega), Int.emod_lt_of_pos _ (by omega)⟩
  refine rdRow (v := .int c) rfl hr0 rfl ⟨c, 0, rfl, rfl, _, rfl, ?_⟩
  by_cases hc : 0 < c
  · refine if_t (decide_eq_true hc) ?_
    refine rdRow (v := .int c) rfl hr0 rfl (.inl ⟨c, rfl, ?_⟩)
    refine ⟨_, rfl, c, many, rfl, rfl, hm0, ?_⟩
    refine rdRow (v := .int c) rfl hr0 rfl ⟨_, rfl, c, many, rfl, rfl, ⟨hm0, hm1⟩, ?_⟩
    refine ⟨_, rfl, r, _, 3, 3, rfl, rfl, hr0, rfl, ?_⟩
    exact ⟨_, rfl, fin _ i sd (c / many) _ (hmod c).1 (hmod c).2 rfl hi0 hs0 hs1⟩
  · refine if_f (decide_eq_false hc) ?_
    refine rdRow (v := .int i) rfl hr0 rfl ⟨i, 1, rfl, rfl, ?_⟩
    refine ⟨_, rfl, r, _, 1, 1, rfl, rfl, hr0, rfl, ?_⟩
    have hr1 : upd H r (.lst [.ref sa, .int (i + 1), .int sd, .int c]) r = some (.lst [.ref sa, .int (i + 1), .int sd, .int c]) := upd_same
    show tSeq _ _ _ _ (upd H r (.lst [.ref sa, .int (i + 1), .int sd, .int c]))
    generalize hH1 : upd H r (.lst [.ref sa, .int (i + 1), .int sd, .int c]) = H1 at hr1 ⊢
    have hL1 : SqL K H1 sa (ns.map V.int) := by
      rw [← hH1]
      exact exL (exB _) hns
    have up1 : ∀ u, upd H1 r u = upd H r u := fun u => by
      rw [← hH1]
      exact upd_upd
    refine rdRow (v := .int (i + 1)) rfl hr1 rfl ?_
    refine rdRow (v := .ref sa) rfl hr1 rfl ⟨sa, _, rfl, .inl hL1, ?_⟩
    refine ⟨i + 1, (ns.map V.int).length, rfl, rfl, _, rfl, ?_⟩
    by_cases hl : ((ns.map V.int).length : Int) < i + 1
    · refine if_t (decide_eq_true hl) ?_
      refine rdRow (v := .int sd) rfl hr1 rfl ⟨sd, 48271, rfl, rfl, .inr ⟨by decide, by decide⟩, ?_⟩
      refine ⟨_, 11, rfl, rfl, .inl ⟨_, rfl, ?_⟩⟩
      refine ⟨_, 2147483647, rfl, rfl, (show (0 : Int) < 2147483647 by decide), ?_⟩
      refine ⟨_, rfl, r, _, 2, 2, rfl, rfl, hr1, rfl, ?_⟩
      rw [up1]
      refine rdRow (v := .int ((sd * 48271 + 11) % 2147483647)) rfl upd_same rfl ⟨_, 7, rfl, rfl, ⟨by decide, by decide⟩, .inl ⟨_, rfl, ?_⟩⟩
      refine ⟨_, rfl, _, many, rfl, rfl, hm0, ?_⟩
      exact fin _ (i + 1) _ c _ (hmod _).1 (hmod _).2 rfl (by omega) (hmod2 _).1 (hmod2 _).2
    · refine if_f (decide_eq_false hl) ?_
      obtain ⟨cell, hcell⟩ : ∃ cell : Int, L2.atI (ns.map V.int) (i + 1 - 1) = some (.int cell) := by
        have h1 : i.toNat < ns.length := by
          rw [List.length_map] at hl
          omega
        refine ⟨ns[i.toNat], ?_⟩
        rw [show i + 1 - 1 = i by omega, atI_pos hi0, List.getElem?_map, List.getElem?_eq_getElem h1]
        rfl
      refine rdRow (v := .ref sa) rfl hr1 rfl ?_
      refine rdRow (v := .int (i + 1)) rfl hr1 rfl ⟨i + 1, 1, rfl, rfl, ?_⟩
      refine ⟨sa, _, _, _, rfl, rfl, hL1, hcell, ?_⟩
      refine rdRow (v := .int sd) rfl hr1 rfl ⟨sd, 48271, rfl, rfl, .inr ⟨by decide, by decide⟩, ?_⟩
      refine ⟨_, rfl, _, cell, rfl, rfl, ?_⟩
      refine ⟨_, 11, rfl, rfl, .inl ⟨_, rfl, ?_⟩⟩
      refine ⟨_, 2147483647, rfl, rfl, (show (0 : Int) < 2147483647 by decide), ?_⟩
      refine ⟨_, rfl, r, _, 2, 2, rfl, rfl, hr1, rfl, ?_⟩
      rw [up1]
      refine ⟨_, rfl, 10, 18, rfl, rfl, ⟨by decide, by decide, by decide⟩, ?_⟩
      refine ⟨cell, _, rfl, rfl, _, rfl, ?_⟩
      have last : ∀ c' : Int, ∀ H' : Hp, H' = upd H r (.lst [.ref sa, .int (i + 1), .int ((sd * 48271 + cell + 11) % 2147483647), .int c']) → Q (.int (cell % many)) H' := fun c' H' e =>
        fin _ (i + 1) _ c' _ (hmod _).1 (hmod _).2 e (by omega) (hmod2 _).1 (hmod2 _).2
      by_cases h18 : (10 : Int) ^ (18 : Int).toNat ≤ cell
      · refine if_t (decide_eq_true h18) ?_
        refine ⟨_, rfl, _, rfl, cell, many, rfl, rfl, ⟨hm0, hm1⟩, ?_⟩
        refine ⟨_, rfl, r, _, 3, 3, rfl, rfl, upd_same, rfl, ?_⟩
        refine ⟨_, rfl, .inl ⟨_, rfl, ?_⟩⟩
        refine ⟨_, rfl, _, many, rfl, rfl, hm0, ?_⟩
        exact last _ _ upd_upd
      · refine if_f (decide_eq_false h18) ?_
        refine ⟨_, rfl, .inl ⟨_, rfl, ?_⟩⟩
        refine ⟨_, rfl, _, many, rfl, rfl, hm0, ?_⟩
        exact last _ _ rfl

end
end K12
end
-- F_12__law_pick
section
set_option Elab.async false
set_option linter.all false
set_option maxRecDepth 100000
set_option maxHeartbeats 4000000
set_option autoImplicit false
namespace K12
open PySem PySem.Spec PyProof.Rows L2 Sd
section
variable {P : Program} {w : World} {K : PySem.W.Frag} {mg : Str → Option Value} {base : Heap}
theorem ok__law_pick (T : Txt K mg) {f : Addr} {fd : FuncData} (F : FnP K "_law_pick" s__law_pick f fd) (c__law_taken : Cl P w K mg base 1 "_law_taken" sp__law_taken [])  : FnOk P w K mg base (L2.CX P w) 2 f fd ["row", "some"] (spD K sp__law_pick) := by
  have sc := sc__law_pick
  refine fnD F sc (fun F ds O h => by
    obtain ⟨_, _, _, _, e, _⟩ := h
    rw [e] <;> rfl) (fun cdv A outer s G E ds O hr h hE => ⟨_, (pssd_one (psd_ret (pd_item (pd_name (pv 1)) (pd_call c__law_taken hr (by first | decide | omega) (pad_cons (pd_name (pv 0)) (pad_cons (pd_callB call_len_seq snd_len T.b_len (pad_cons (pd_name (pv 1)) pad_nil)) pad_nil)))))), ?_⟩)
  obtain ⟨r, sa, d, xs, rfl, h⟩ := h
  obtain ⟨hrow, hs, h0, h1, o⟩ := h
  simp [startD, wipeD, dsRet, dsRetN, dsIf, dsSeq, dsNext, dsAsg, dsDrop, dsBreak, dsCont, dsPar, dsAug, dsFrz, dsApp, dsExt, dsPut, dsAugO, dsOwn, dsParOO, dsParDO, dsParDDO, dsFrzA, dxRep, diOwn, dsRaise, deAnd, deOr, deNot, de1, de2, deB, deX, dxB, dxLst, deName, deC, deCall, deIxO, deLenO, deTup, deLst, daCons, daNil, daStar, deChain, dtChain, dtV, dtAnd, dtOr, dtNot, dtYes, deIf, deSl, doNone, doSome, rdAdd, rdSub, rdMul, rdMod, rdDiv, rdPow, rdI, rdIc, rdB, rdLt, rdLe, rdGt, rdGe, rdNeg, rdIs, rdEq, rdNe, rdIx, rdIsN, rdNotN, rdIsB, rdNotB, rdRev, rdSeats, rdCatL, rdCatT, rdRepL, rdLen, rdTuple, rdList, rxList, rdInt, rdMax2, rdMin2, dgName, dgTup, dgCons, dgNil, deRefused, rdRepr, rdNeS, rdEqL, rdNeL, rdRepT, rdIsLn, noOwn, diSeq, diEn, diZp, diR1, diR2, noX,  eqOk_int, eqOk_bl, eqOk_non, eqv_int, eqv_bl, eqv_non, atI_0, atI_1, atI_2, atI_3, qty_non, qisI_non, qisB_non, qisL_non, qisU_non, qisS_non, qisD_non, qisNon_non, qcooked_non, qseq_non, qty_bl, qisI_bl, qisB_bl, qisL_bl, qisU_bl, qisS_bl, qisD_bl, qisNon_bl, qcooked_bl, qseq_bl, qty_int, qisI_int, qisB_int, qisL_int, qisU_int, qisS_int, qisD_int, qisNon_int, qcooked_int, qseq_int, qty_str, qisI_str, qisB_str, qisL_str, qisU_str, qisS_str, qisD_str, qisNon_str, qcooked_str, qseq_str, qty_lst, qisI_lst, qisB_lst, qisL_lst, qisU_lst, qisS_lst, qisD_lst, qisNon_lst, qcooked_lst, qseq_lst, qty_tup, qisI_tup, qisB_tup, qisL_tup, qisU_tup, qisS_tup, qisD_tup, qisNon_tup, qcooked_tup, qseq_tup, qty_dct, qisI_dct, qisB_dct, qisL_dct, qisU_dct, qisS_dct, qisD_dct, qisNon_dct, qcooked_dct, qseq_dct, qix_lst, qsl_lst, qix_tup, qsl_tup, qisNon_ln, qcooked_ln, and_assoc, exists_and_left, exists_eq_left, exists_eq_left', exists_eq_right, deFget, dsFset, dsFsetO, deFix, dsFaug, dmCall, dmIx, dsDropM, dsAsgM, dmsSeq, dmsRet, dmsNil, dmsIf, dmsFrz, startM, dnMake, deNfld, deNmeth, dxLend, deLend, dnsSeq, dnsRet, putM1, putM2, putM3, putM4, mkSt, lkM_seats, lkM_requests, lkM_sale, lkM_roads, lkM_lay, lkM_len, lkM_bet, lkM_pri, putM_roads, lenM, rdInI, rdEqS, sp__law_taken, hs]
  refine ⟨⟨sa, hrow⟩, h0, by omega, fun n n0 n1 => ?_⟩
  have hn : n.toNat < xs.length := by omega
  exact ⟨xs[n.toNat], by rw [ix_of hs, atI_pos n0, List.getElem?_eq_getElem hn], o _ (List.getElem_mem hn)⟩
end
end K12
end
-- F_12__law_alike
section
set_option Elab.async false
set_option linter.all false
set_option maxRecDepth 100000
set_option maxHeartbeats 4000000
set_option autoImplicit false
namespace K12
open PySem PySem.Spec PyProof.Rows L2 Sd
section
variable {P : Program} {w : World} {K : PySem.W.Frag} {mg : Str → Option Value} {base : Heap}
theorem alike_step (T : Txt K mg) {f : Addr} {fd : FuncData} (F : FnP K "_law_alike" s__law_alike f fd) (n k : Nat) (c__law_alike : Cl P w K mg base k "_law_alike" (spAlike n) []) : FnOk P w K mg base (L2.CX P w) (k + 1) f fd ["found", "due"] (spD K (spAlike (n + 1))) := by
  have sc := sc__law_alike
  refine fnD F sc (fun F ds O h => by
    obtain ⟨_, e, _⟩ := h
    rw [e] <;> rfl) (fun cdv A outer s G E ds O hr h hE => ⟨_, (pssd_cons (psd_if (ptd_val (pd_is2 kit_tuple kit_list T.b_isinstance T.b_tuple T.b_list (by decide +kernel) (by decide +kernel) (pd_name (pv 1))))
  (pssd_cons (psd_if (ptd_w (pwd_or (ptd_not (ptd_val (pd_is2 kit_tuple kit_list T.b_isinstance T.b_tuple T.b_list (by decide +kernel) (by decide +kernel) (pd_name (pv 0))))) (pwd_or1 (ptd_ne hr.units (pd_is kit_list T.b_isinstance T.b_list (by decide +kernel) (pd_name (pv 0))) (pd_is kit_list T.b_isinstance T.b_list (by decide +kernel) (pd_name (pv 1)))))))
  (pssd_one (psd_ret pd_bl))
  pssd_nil)
  (pssd_cons (psd_if (ptd_ne hr.units (pd_callB call_len_seq snd_len T.b_len (pad_cons (pd_name (pv 0)) pad_nil)) (pd_callB call_len_seq snd_len T.b_len (pad_cons (pd_name (pv 1)) pad_nil)))
  (pssd_one (psd_ret pd_bl))
  pssd_nil)
  (pssd_one (psd_ret (pd_eq hr.units (pd_x (pxd_lc (own := [(("k" : Str), 2)]) sc.nd (pid_r1 T.b_range (pad_cons (pd_callB call_len_seq snd_len T.b_len (pad_cons (pd_name (pv 1)) pad_nil)) pad_nil)) (by kernel_rfl) (fun _ _ _ _ _ => (pgc_name (i := 2) sc.nd rfl (by first | exact Or.inl rfl | exact Or.inr rfl) (by decide))) (fun _ _ _ _ _ => (ptsd_one (ptd_not (ptd_val (pd_call c__law_alike hr (by first | decide | omega) (pad_cons (pd_item (pd_name (pv 0)) (pd_name (pv 2))) (pad_cons (pd_item (pd_name (pv 1)) (pd_name (pv 2))) pad_nil))))))) (fun _ _ _ _ _ => (pd_name (pv 2))))) (pd_lst pad_nil))))))
  pssd_nil)
  (pssd_cons (psd_if (ptd_val (pd_is kit_dict T.b_isinstance T.b_dict (by decide +kernel) (pd_name (pv 1))))
  (pssd_cons (psd_if (ptd_w (pwd_or (ptd_not (ptd_val (pd_is kit_dict T.b_isinstance T.b_dict (by decide +kernel) (pd_name (pv 0))))) (pwd_or1 (ptd_ne hr.units (pd_callTy call_list_of snd_list T.b_list (pad_cons (pd_name (pv 0)) pad_nil)) (pd_callTy call_list_of snd_list T.b_list (pad_cons (pd_name (pv 1)) pad_nil))))))
  (pssd_one (psd_ret pd_bl))
  pssd_nil)
  (pssd_one (psd_ret (pd_eq hr.units (pd_x (pxd_lc (own := [(("key" : Str), 3)]) sc.nd (pid_seq (pd_name (pv 1))) (by kernel_rfl) (fun _ _ _ _ _ => (pgc_name (i := 3) sc.nd rfl (by first | exact Or.inl rfl | exact Or.inr rfl) (by decide))) (fun _ _ _ _ _ => (ptsd_one (ptd_not (ptd_val (pd_call c__law_alike hr (by first | decide | omega) (pad_cons (pd_item (pd_name (pv 0)) (pd_name (pv 3))) (pad_cons (pd_item (pd_name (pv 1)) (pd_name (pv 3))) pad_nil))))))) (fun _ _ _ _ _ => (pd_name (pv 3))))) (pd_lst pad_nil)))))
  pssd_nil)
  (pssd_cons (psd_if (ptd_w (pwd_or (ptd_isN (pd_name (pv 1)) pd_non) (pwd_or1 (ptd_val (pd_is kit_str T.b_isinstance T.b_str (by decide +kernel) (pd_name (pv 1)))))))
  (pssd_one (psd_ret (pd_and (pd_eq hr.units (pd_name (pv 0)) (pd_name (pv 1))) (pd_one (pd_eq hr.units (pd_is kit_str T.b_isinstance T.b_str (by decide +kernel) (pd_name (pv 0))) (pd_is kit_str T.b_isinstance T.b_str (by decide +kernel) (pd_name (pv 1))))))))
  pssd_nil)
  (pssd_one (psd_ret (pd_and (pd_is kit_int T.b_isinstance T.b_int (by decide +kernel) (pd_name (pv 0))) (pd_and (pd_eq hr.units (pd_is kit_bool T.b_isinstance T.b_bool (by decide +kernel) (pd_name (pv 0))) (pd_is kit_bool T.b_isinstance T.b_bool (by decide +kernel) (pd_name (pv 1)))) (pd_one (pd_eq hr.units (pd_name (pv 0)) (pd_name (pv 1))))))))))), ?_⟩)
  obtain ⟨d, rfl, ha, o⟩ := h
  cases d with
  | non =>
    simp [startD, wipeD, dsRet, dsRetN, dsIf, dsSeq, dsNext, dsAsg, dsDrop, dsBreak, dsCont, dsPar, dsAug, dsFrz, dsApp, dsExt, dsPut, dsAugO, dsOwn, dsParOO, dsParDO, dsParDDO, dsFrzA, dxRep, diOwn, dsRaise, deAnd, deOr, deNot, de1, de2, deB, deX, dxB, dxLst, deName, deC, deCall, deIxO, deLenO, deTup, deLst, daCons, daNil, daStar, deChain, dtChain, dtV, dtAnd, dtOr, dtNot, dtYes, deIf, deSl, doNone, doSome, rdAdd, rdSub, rdMul, rdMod, rdDiv, rdPow, rdI, rdIc, rdB, rdLt, rdLe, rdGt, rdGe, rdNeg, rdIs, rdEq, rdNe, rdIx, rdIsN, rdNotN, rdIsB, rdNotB, rdRev, rdSeats, rdCatL, rdCatT, rdRepL, rdLen, rdTuple, rdList, rxList, rdInt, rdMax2, rdMin2, dgName, dgTup, dgCons, dgNil, deRefused, rdRepr, rdNeS, rdEqL, rdNeL, rdRepT, rdIsLn, noOwn, diSeq, diEn, diZp, diR1, diR2, noX,  eqOk_int, eqOk_bl, eqOk_non, eqv_int, eqv_bl, eqv_non, atI_0, atI_1, atI_2, atI_3, qty_non, qisI_non, qisB_non, qisL_non, qisU_non, qisS_non, qisD_non, qisNon_non, qcooked_non, qseq_non, qty_bl, qisI_bl, qisB_bl, qisL_bl, qisU_bl, qisS_bl, qisD_bl, qisNon_bl, qcooked_bl, qseq_bl, qty_int, qisI_int, qisB_int, qisL_int, qisU_int, qisS_int, qisD_int, qisNon_int, qcooked_int, qseq_int, qty_str, qisI_str, qisB_str, qisL_str, qisU_str, qisS_str, qisD_str, qisNon_str, qcooked_str, qseq_str, qty_lst, qisI_lst, qisB_lst, qisL_lst, qisU_lst, qisS_lst, qisD_lst, qisNon_lst, qcooked_lst, qseq_lst, qty_tup, qisI_tup, qisB_tup, qisL_tup, qisU_tup, qisS_tup, qisD_tup, qisNon_tup, qcooked_tup, qseq_tup, qty_dct, qisI_dct, qisB_dct, qisL_dct, qisU_dct, qisS_dct, qisD_dct, qisNon_dct, qcooked_dct, qseq_dct, qix_lst, qsl_lst, qix_tup, qsl_tup, qisNon_ln, qcooked_ln, and_assoc, exists_and_left, exists_eq_left, exists_eq_left', exists_eq_right, deFget, dsFset, dsFsetO, deFix, dsFaug, dmCall, dmIx, dsDropM, dsAsgM, dmsSeq, dmsRet, dmsNil, dmsIf, dmsFrz, startM, dnMake, deNfld, deNmeth, dxLend, deLend, dnsSeq, dnsRet, putM1, putM2, putM3, putM4, mkSt, lkM_seats, lkM_requests, lkM_sale, lkM_roads, lkM_lay, lkM_len, lkM_bet, lkM_pri, putM_roads, lenM, rdInI, rdEqS, dxLc_eq, dsFor_eq, rngD_0, rngD_eq, zipD_map, enumD_map0, D.isNon]
    exact o
  | bl b =>
    simp [startD, wipeD, dsRet, dsRetN, dsIf, dsSeq, dsNext, dsAsg, dsDrop, dsBreak, dsCont, dsPar, dsAug, dsFrz, dsApp, dsExt, dsPut, dsAugO, dsOwn, dsParOO, dsParDO, dsParDDO, dsFrzA, dxRep, diOwn, dsRaise, deAnd, deOr, deNot, de1, de2, deB, deX, dxB, dxLst, deName, deC, deCall, deIxO, deLenO, deTup, deLst, daCons, daNil, daStar, deChain, dtChain, dtV, dtAnd, dtOr, dtNot, dtYes, deIf, deSl, doNone, doSome, rdAdd, rdSub, rdMul, rdMod, rdDiv, rdPow, rdI, rdIc, rdB, rdLt, rdLe, rdGt, rdGe, rdNeg, rdIs, rdEq, rdNe, rdIx, rdIsN, rdNotN, rdIsB, rdNotB, rdRev, rdSeats, rdCatL, rdCatT, rdRepL, rdLen, rdTuple, rdList, rxList, rdInt, rdMax2, rdMin2, dgName, dgTup, dgCons, dgNil, deRefused, rdRepr, rdNeS, rdEqL, rdNeL, rdRepT, rdIsLn, noOwn, diSeq, diEn, diZp, diR1, diR2, noX,  eqOk_int, eqOk_bl, eqOk_non, eqv_int, eqv_bl, eqv_non, atI_0, atI_1, atI_2, atI_3, qty_non, qisI_non, qisB_non, qisL_non, qisU_non, qisS_non, qisD_non, qisNon_non, qcooked_non, qseq_non, qty_bl, qisI_bl, qisB_bl, qisL_bl, qisU_bl, qisS_bl, qisD_bl, qisNon_bl, qcooked_bl, qseq_bl, qty_int, qisI_int, qisB_int, qisL_int, qisU_int, qisS_int, qisD_int, qisNon_int, qcooked_int, qseq_int, qty_str, qisI_str, qisB_str, qisL_str, qisU_str, qisS_str, qisD_str, qisNon_str, qcooked_str, qseq_str, qty_lst, qisI_lst, qisB_lst, qisL_lst, qisU_lst, qisS_lst, qisD_lst, qisNon_lst, qcooked_lst, qseq_lst, qty_tup, qisI_tup, qisB_tup, qisL_tup, qisU_tup, qisS_tup, qisD_tup, qisNon_tup, qcooked_tup, qseq_tup, qty_dct, qisI_dct, qisB_dct, qisL_dct, qisU_dct, qisS_dct, qisD_dct, qisNon_dct, qcooked_dct, qseq_dct, qix_lst, qsl_lst, qix_tup, qsl_tup, qisNon_ln, qcooked_ln, and_assoc, exists_and_left, exists_eq_left, exists_eq_left', exists_eq_right, deFget, dsFset, dsFsetO, deFix, dsFaug, dmCall, dmIx, dsDropM, dsAsgM, dmsSeq, dmsRet, dmsNil, dmsIf, dmsFrz, startM, dnMake, deNfld, deNmeth, dxLend, deLend, dnsSeq, dnsRet, putM1, putM2, putM3, putM4, mkSt, lkM_seats, lkM_requests, lkM_sale, lkM_roads, lkM_lay, lkM_len, lkM_bet, lkM_pri, putM_roads, lenM, rdInI, rdEqS, dxLc_eq, dsFor_eq, rngD_0, rngD_eq, zipD_map, enumD_map0, D.isNon]
    exact o
  | int i =>
    simp [startD, wipeD, dsRet, dsRetN, dsIf, dsSeq, dsNext, dsAsg, dsDrop, dsBreak, dsCont, dsPar, dsAug, dsFrz, dsApp, dsExt, dsPut, dsAugO, dsOwn, dsParOO, dsParDO, dsParDDO, dsFrzA, dxRep, diOwn, dsRaise, deAnd, deOr, deNot, de1, de2, deB, deX, dxB, dxLst, deName, deC, deCall, deIxO, deLenO, deTup, deLst, daCons, daNil, daStar, deChain, dtChain, dtV, dtAnd, dtOr, dtNot, dtYes, deIf, deSl, doNone, doSome, rdAdd, rdSub, rdMul, rdMod, rdDiv, rdPow, rdI, rdIc, rdB, rdLt, rdLe, rdGt, rdGe, rdNeg, rdIs, rdEq, rdNe, rdIx, rdIsN, rdNotN, rdIsB, rdNotB, rdRev, rdSeats, rdCatL, rdCatT, rdRepL, rdLen, rdTuple, rdList, rxList, rdInt, rdMax2, rdMin2, dgName, dgTup, dgCons, dgNil, deRefused, rdRepr, rdNeS, rdEqL, rdNeL, rdRepT, rdIsLn, noOwn, diSeq, diEn, diZp, diR1, diR2, noX,  eqOk_int, eqOk_bl, eqOk_non, eqv_int, eqv_bl, eqv_non, atI_0, atI_1, atI_2, atI_3, qty_non, qisI_non, qisB_non, qisL_non, qisU_non, qisS_non, qisD_non, qisNon_non, qcooked_non, qseq_non, qty_bl, qisI_bl, qisB_bl, qisL_bl, qisU_bl, qisS_bl, qisD_bl, qisNon_bl, qcooked_bl, qseq_bl, qty_int, qisI_int, qisB_int, qisL_int, qisU_int, qisS_int, qisD_int, qisNon_int, qcooked_int, qseq_int, qty_str, qisI_str, qisB_str, qisL_str, qisU_str, qisS_str, qisD_str, qisNon_str, qcooked_str, qseq_str, qty_lst, qisI_lst, qisB_lst, qisL_lst, qisU_lst, qisS_lst, qisD_lst, qisNon_lst, qcooked_lst, qseq_lst, qty_tup, qisI_tup, qisB_tup, qisL_tup, qisU_tup, qisS_tup, qisD_tup, qisNon_tup, qcooked_tup, qseq_tup, qty_dct, qisI_dct, qisB_dct, qisL_dct, qisU_dct, qisS_dct, qisD_dct, qisNon_dct, qcooked_dct, qseq_dct, qix_lst, qsl_lst, qix_tup, qsl_tup, qisNon_ln, qcooked_ln, and_assoc, exists_and_left, exists_eq_left, exists_eq_left', exists_eq_right, deFget, dsFset, dsFsetO, deFix, dsFaug, dmCall, dmIx, dsDropM, dsAsgM, dmsSeq, dmsRet, dmsNil, dmsIf, dmsFrz, startM, dnMake, deNfld, deNmeth, dxLend, deLend, dnsSeq, dnsRet, putM1, putM2, putM3, putM4, mkSt, lkM_seats, lkM_requests, lkM_sale, lkM_roads, lkM_lay, lkM_len, lkM_bet, lkM_pri, putM_roads, lenM, rdInI, rdEqS, dxLc_eq, dsFor_eq, rngD_0, rngD_eq, zipD_map, enumD_map0, D.isNon]
    exact o
  | str z =>
    have hz : (D.str z).eqOk = true := eqOk_fit (n := 0) (by cases n <;> exact ha)
    simp [startD, wipeD, dsRet, dsRetN, dsIf, dsSeq, dsNext, dsAsg, dsDrop, dsBreak, dsCont, dsPar, dsAug, dsFrz, dsApp, dsExt, dsPut, dsAugO, dsOwn, dsParOO, dsParDO, dsParDDO, dsFrzA, dxRep, diOwn, dsRaise, deAnd, deOr, deNot, de1, de2, deB, deX, dxB, dxLst, deName, deC, deCall, deIxO, deLenO, deTup, deLst, daCons, daNil, daStar, deChain, dtChain, dtV, dtAnd, dtOr, dtNot, dtYes, deIf, deSl, doNone, doSome, rdAdd, rdSub, rdMul, rdMod, rdDiv, rdPow, rdI, rdIc, rdB, rdLt, rdLe, rdGt, rdGe, rdNeg, rdIs, rdEq, rdNe, rdIx, rdIsN, rdNotN, rdIsB, rdNotB, rdRev, rdSeats, rdCatL, rdCatT, rdRepL, rdLen, rdTuple, rdList, rxList, rdInt, rdMax2, rdMin2, dgName, dgTup, dgCons, dgNil, deRefused, rdRepr, rdNeS, rdEqL, rdNeL, rdRepT, rdIsLn, noOwn, diSeq, diEn, diZp, diR1, diR2, noX,  eqOk_int, eqOk_bl, eqOk_non, eqv_int, eqv_bl, eqv_non, atI_0, atI_1, atI_2, atI_3, qty_non, qisI_non, qisB_non, qisL_non, qisU_non, qisS_non, qisD_non, qisNon_non, qcooked_non, qseq_non, qty_bl, qisI_bl, qisB_bl, qisL_bl, qisU_bl, qisS_bl, qisD_bl, qisNon_bl, qcooked_bl, qseq_bl, qty_int, qisI_int, qisB_int, qisL_int, qisU_int, qisS_int, qisD_int, qisNon_int, qcooked_int, qseq_int, qty_str, qisI_str, qisB_str, qisL_str, qisU_str, qisS_str, qisD_str, qisNon_str, qcooked_str, qseq_str, qty_lst, qisI_lst, qisB_lst, qisL_lst, qisU_lst, qisS_lst, qisD_lst, qisNon_lst, qcooked_lst, qseq_lst, qty_tup, qisI_tup, qisB_tup, qisL_tup, qisU_tup, qisS_tup, qisD_tup, qisNon_tup, qcooked_tup, qseq_tup, qty_dct, qisI_dct, qisB_dct, qisL_dct, qisU_dct, qisS_dct, qisD_dct, qisNon_dct, qcooked_dct, qseq_dct, qix_lst, qsl_lst, qix_tup, qsl_tup, qisNon_ln, qcooked_ln, and_assoc, exists_and_left, exists_eq_left, exists_eq_left', exists_eq_right, deFget, dsFset, dsFsetO, deFix, dsFaug, dmCall, dmIx, dsDropM, dsAsgM, dmsSeq, dmsRet, dmsNil, dmsIf, dmsFrz, startM, dnMake, deNfld, deNmeth, dxLend, deLend, dnsSeq, dnsRet, putM1, putM2, putM3, putM4, mkSt, lkM_seats, lkM_requests, lkM_sale, lkM_roads, lkM_lay, lkM_len, lkM_bet, lkM_pri, putM_roads, lenM, rdInI, rdEqS, dxLc_eq, dsFor_eq, rngD_0, rngD_eq, zipD_map, enumD_map0, D.isNon, hz, D.eqv_refl hz]
    exact o
  | lst xs =>
    obtain ⟨hl, m, rfl, hx⟩ := alk_seq ha rfl
    simp [startD, wipeD, dsRet, dsRetN, dsIf, dsSeq, dsNext, dsAsg, dsDrop, dsBreak, dsCont, dsPar, dsAug, dsFrz, dsApp, dsExt, dsPut, dsAugO, dsOwn, dsParOO, dsParDO, dsParDDO, dsFrzA, dxRep, diOwn, dsRaise, deAnd, deOr, deNot, de1, de2, deB, deX, dxB, dxLst, deName, deC, deCall, deIxO, deLenO, deTup, deLst, daCons, daNil, daStar, deChain, dtChain, dtV, dtAnd, dtOr, dtNot, dtYes, deIf, deSl, doNone, doSome, rdAdd, rdSub, rdMul, rdMod, rdDiv, rdPow, rdI, rdIc, rdB, rdLt, rdLe, rdGt, rdGe, rdNeg, rdIs, rdEq, rdNe, rdIx, rdIsN, rdNotN, rdIsB, rdNotB, rdRev, rdSeats, rdCatL, rdCatT, rdRepL, rdLen, rdTuple, rdList, rxList, rdInt, rdMax2, rdMin2, dgName, dgTup, dgCons, dgNil, deRefused, rdRepr, rdNeS, rdEqL, rdNeL, rdRepT, rdIsLn, noOwn, diSeq, diEn, diZp, diR1, diR2, noX,  eqOk_int, eqOk_bl, eqOk_non, eqv_int, eqv_bl, eqv_non, atI_0, atI_1, atI_2, atI_3, qty_non, qisI_non, qisB_non, qisL_non, qisU_non, qisS_non, qisD_non, qisNon_non, qcooked_non, qseq_non, qty_bl, qisI_bl, qisB_bl, qisL_bl, qisU_bl, qisS_bl, qisD_bl, qisNon_bl, qcooked_bl, qseq_bl, qty_int, qisI_int, qisB_int, qisL_int, qisU_int, qisS_int, qisD_int, qisNon_int, qcooked_int, qseq_int, qty_str, qisI_str, qisB_str, qisL_str, qisU_str, qisS_str, qisD_str, qisNon_str, qcooked_str, qseq_str, qty_lst, qisI_lst, qisB_lst, qisL_lst, qisU_lst, qisS_lst, qisD_lst, qisNon_lst, qcooked_lst, qseq_lst, qty_tup, qisI_tup, qisB_tup, qisL_tup, qisU_tup, qisS_tup, qisD_tup, qisNon_tup, qcooked_tup, qseq_tup, qty_dct, qisI_dct, qisB_dct, qisL_dct, qisU_dct, qisS_dct, qisD_dct, qisNon_dct, qcooked_dct, qseq_dct, qix_lst, qsl_lst, qix_tup, qsl_tup, qisNon_ln, qcooked_ln, and_assoc, exists_and_left, exists_eq_left, exists_eq_left', exists_eq_right, deFget, dsFset, dsFsetO, deFix, dsFaug, dmCall, dmIx, dsDropM, dsAsgM, dmsSeq, dmsRet, dmsNil, dmsIf, dmsFrz, startM, dnMake, deNfld, deNmeth, dxLend, deLend, dnsSeq, dnsRet, putM1, putM2, putM3, putM4, mkSt, lkM_seats, lkM_requests, lkM_sale, lkM_roads, lkM_lay, lkM_len, lkM_bet, lkM_pri, putM_roads, lenM, rdInI, rdEqS, dxLc_eq, dsFor_eq, rngD_0, rngD_eq, zipD_map, enumD_map0, D.isNon]
    refine ⟨by omega, lb_onF (List.range xs.length) (fun i => .int (i : Int)) (fun _ => false) (by simp; omega) (fun i hi R1 R2 k1 k2 => ?_) ?_⟩
    · have hi' : i < xs.length := List.mem_range.mp hi
      simp [startD, wipeD, dsRet, dsRetN, dsIf, dsSeq, dsNext, dsAsg, dsDrop, dsBreak, dsCont, dsPar, dsAug, dsFrz, dsApp, dsExt, dsPut, dsAugO, dsOwn, dsParOO, dsParDO, dsParDDO, dsFrzA, dxRep, diOwn, dsRaise, deAnd, deOr, deNot, de1, de2, deB, deX, dxB, dxLst, deName, deC, deCall, deIxO, deLenO, deTup, deLst, daCons, daNil, daStar, deChain, dtChain, dtV, dtAnd, dtOr, dtNot, dtYes, deIf, deSl, doNone, doSome, rdAdd, rdSub, rdMul, rdMod, rdDiv, rdPow, rdI, rdIc, rdB, rdLt, rdLe, rdGt, rdGe, rdNeg, rdIs, rdEq, rdNe, rdIx, rdIsN, rdNotN, rdIsB, rdNotB, rdRev, rdSeats, rdCatL, rdCatT, rdRepL, rdLen, rdTuple, rdList, rxList, rdInt, rdMax2, rdMin2, dgName, dgTup, dgCons, dgNil, deRefused, rdRepr, rdNeS, rdEqL, rdNeL, rdRepT, rdIsLn, noOwn, diSeq, diEn, diZp, diR1, diR2, noX,  eqOk_int, eqOk_bl, eqOk_non, eqv_int, eqv_bl, eqv_non, atI_0, atI_1, atI_2, atI_3, qty_non, qisI_non, qisB_non, qisL_non, qisU_non, qisS_non, qisD_non, qisNon_non, qcooked_non, qseq_non, qty_bl, qisI_bl, qisB_bl, qisL_bl, qisU_bl, qisS_bl, qisD_bl, qisNon_bl, qcooked_bl, qseq_bl, qty_int, qisI_int, qisB_int, qisL_int, qisU_int, qisS_int, qisD_int, qisNon_int, qcooked_int, qseq_int, qty_str, qisI_str, qisB_str, qisL_str, qisU_str, qisS_str, qisD_str, qisNon_str, qcooked_str, qseq_str, qty_lst, qisI_lst, qisB_lst, qisL_lst, qisU_lst, qisS_lst, qisD_lst, qisNon_lst, qcooked_lst, qseq_lst, qty_tup, qisI_tup, qisB_tup, qisL_tup, qisU_tup, qisS_tup, qisD_tup, qisNon_tup, qcooked_tup, qseq_tup, qty_dct, qisI_dct, qisB_dct, qisL_dct, qisU_dct, qisS_dct, qisD_dct, qisNon_dct, qcooked_dct, qseq_dct, qix_lst, qsl_lst, qix_tup, qsl_tup, qisNon_ln, qcooked_ln, and_assoc, exists_and_left, exists_eq_left, exists_eq_left', exists_eq_right, deFget, dsFset, dsFsetO, deFix, dsFaug, dmCall, dmIx, dsDropM, dsAsgM, dmsSeq, dmsRet, dmsNil, dmsIf, dmsFrz, startM, dnMake, deNfld, deNmeth, dxLend, deLend, dnsSeq, dnsRet, putM1, putM2, putM3, putM4, mkSt, lkM_seats, lkM_requests, lkM_sale, lkM_roads, lkM_lay, lkM_len, lkM_bet, lkM_pri, putM_roads, lenM, rdInI, rdEqS, dxLc_eq, dsFor_eq, rngD_0, rngD_eq, zipD_map, enumD_map0, atI_nat', hi', spAlike, hx xs[i] (List.getElem_mem hi')]
      exact k2 rfl
    · rw [List.filter_eq_nil_iff.mpr (by simp)]
      simp [eqOk_lst0, eqv_lst0]
      exact o
  | tup xs =>
    obtain ⟨hl, m, rfl, hx⟩ := alk_seq ha rfl
    simp [startD, wipeD, dsRet, dsRetN, dsIf, dsSeq, dsNext, dsAsg, dsDrop, dsBreak, dsCont, dsPar, dsAug, dsFrz, dsApp, dsExt, dsPut, dsAugO, dsOwn, dsParOO, dsParDO, dsParDDO, dsFrzA, dxRep, diOwn, dsRaise, deAnd, deOr, deNot, de1, de2, deB, deX, dxB, dxLst, deName, deC, deCall, deIxO, deLenO, deTup, deLst, daCons, daNil, daStar, deChain, dtChain, dtV, dtAnd, dtOr, dtNot, dtYes, deIf, deSl, doNone, doSome, rdAdd, rdSub, rdMul, rdMod, rdDiv, rdPow, rdI, rdIc, rdB, rdLt, rdLe, rdGt, rdGe, rdNeg, rdIs, rdEq, rdNe, rdIx, rdIsN, rdNotN, rdIsB, rdNotB, rdRev, rdSeats, rdCatL, rdCatT, rdRepL, rdLen, rdTuple, rdList, rxList, rdInt, rdMax2, rdMin2, dgName, dgTup, dgCons, dgNil, deRefused, rdRepr, rdNeS, rdEqL, rdNeL, rdRepT, rdIsLn, noOwn, diSeq, diEn, diZp, diR1, diR2, noX,  eqOk_int, eqOk_bl, eqOk_non, eqv_int, eqv_bl, eqv_non, atI_0, atI_1, atI_2, atI_3, qty_non, qisI_non, qisB_non, qisL_non, qisU_non, qisS_non, qisD_non, qisNon_non, qcooked_non, qseq_non, qty_bl, qisI_bl, qisB_bl, qisL_bl, qisU_bl, qisS_bl, qisD_bl, qisNon_bl, qcooked_bl, qseq_bl, qty_int, qisI_int, qisB_int, qisL_int, qisU_int, qisS_int, qisD_int, qisNon_int, qcooked_int, qseq_int, qty_str, qisI_str, qisB_str, qisL_str, qisU_str, qisS_str, qisD_str, qisNon_str, qcooked_str, qseq_str, qty_lst, qisI_lst, qisB_lst, qisL_lst, qisU_lst, qisS_lst, qisD_lst, qisNon_lst, qcooked_lst, qseq_lst, qty_tup, qisI_tup, qisB_tup, qisL_tup, qisU_tup, qisS_tup, qisD_tup, qisNon_tup, qcooked_tup, qseq_tup, qty_dct, qisI_dct, qisB_dct, qisL_dct, qisU_dct, qisS_dct, qisD_dct, qisNon_dct, qcooked_dct, qseq_dct, qix_lst, qsl_lst, qix_tup, qsl_tup, qisNon_ln, qcooked_ln, and_assoc, exists_and_left, exists_eq_left, exists_eq_left', exists_eq_right, deFget, dsFset, dsFsetO, deFix, dsFaug, dmCall, dmIx, dsDropM, dsAsgM, dmsSeq, dmsRet, dmsNil, dmsIf, dmsFrz, startM, dnMake, deNfld, deNmeth, dxLend, deLend, dnsSeq, dnsRet, putM1, putM2, putM3, putM4, mkSt, lkM_seats, lkM_requests, lkM_sale, lkM_roads, lkM_lay, lkM_len, lkM_bet, lkM_pri, putM_roads, lenM, rdInI, rdEqS, dxLc_eq, dsFor_eq, rngD_0, rngD_eq, zipD_map, enumD_map0, D.isNon]
    refine ⟨by omega, lb_onF (List.range xs.length) (fun i => .int (i : Int)) (fun _ => false) (by simp; omega) (fun i hi R1 R2 k1 k2 => ?_) ?_⟩
    · have hi' : i < xs.length := List.mem_range.mp hi
      simp [startD, wipeD, dsRet, dsRetN, dsIf, dsSeq, dsNext, dsAsg, dsDrop, dsBreak, dsCont, dsPar, dsAug, dsFrz, dsApp, dsExt, dsPut, dsAugO, dsOwn, dsParOO, dsParDO, dsParDDO, dsFrzA, dxRep, diOwn, dsRaise, deAnd, deOr, deNot, de1, de2, deB, deX, dxB, dxLst, deName, deC, deCall, deIxO, deLenO, deTup, deLst, daCons, daNil, daStar, deChain, dtChain, dtV, dtAnd, dtOr, dtNot, dtYes, deIf, deSl, doNone, doSome, rdAdd, rdSub, rdMul, rdMod, rdDiv, rdPow, rdI, rdIc, rdB, rdLt, rdLe, rdGt, rdGe, rdNeg, rdIs, rdEq, rdNe, rdIx, rdIsN, rdNotN, rdIsB, rdNotB, rdRev, rdSeats, rdCatL, rdCatT, rdRepL, rdLen, rdTuple, rdList, rxList, rdInt, rdMax2, rdMin2, dgName, dgTup, dgCons, dgNil, deRefused, rdRepr, rdNeS, rdEqL, rdNeL, rdRepT, rdIsLn, noOwn, diSeq, diEn, diZp, diR1, diR2, noX,  eqOk_int, eqOk_bl, eqOk_non, eqv_int, eqv_bl, eqv_non, atI_0, atI_1, atI_2, atI_3, qty_non, qisI_non, qisB_non, qisL_non, qisU_non, qisS_non, qisD_non, qisNon_non, qcooked_non, qseq_non, qty_bl, qisI_bl, qisB_bl, qisL_bl, qisU_bl, qisS_bl, qisD_bl, qisNon_bl, qcooked_bl, qseq_bl, qty_int, qisI_int, qisB_int, qisL_int, qisU_int, qisS_int, qisD_int, qisNon_int, qcooked_int, qseq_int, qty_str, qisI_str, qisB_str, qisL_str, qisU_str, qisS_str, qisD_str, qisNon_str, qcooked_str, qseq_str, qty_lst, qisI_lst, qisB_lst, qisL_lst, qisU_lst, qisS_lst, qisD_lst, qisNon_lst, qcooked_lst, qseq_lst, qty_tup, qisI_tup, qisB_tup, qisL_tup, qisU_tup, qisS_tup, qisD_tup, qisNon_tup, qcooked_tup, qseq_tup, qty_dct, qisI_dct, qisB_dct, qisL_dct, qisU_dct, qisS_dct, qisD_dct, qisNon_dct, qcooked_dct, qseq_dct, qix_lst, qsl_lst, qix_tup, qsl_tup, qisNon_ln, qcooked_ln, and_assoc, exists_and_left, exists_eq_left, exists_eq_left', exists_eq_right, deFget, dsFset, dsFsetO, deFix, dsFaug, dmCall, dmIx, dsDropM, dsAsgM, dmsSeq, dmsRet, dmsNil, dmsIf, dmsFrz, startM, dnMake, deNfld, deNmeth, dxLend, deLend, dnsSeq, dnsRet, putM1, putM2, putM3, putM4, mkSt, lkM_seats, lkM_requests, lkM_sale, lkM_roads, lkM_lay, lkM_len, lkM_bet, lkM_pri, putM_roads, lenM, rdInI, rdEqS, dxLc_eq, dsFor_eq, rngD_0, rngD_eq, zipD_map, enumD_map0, atI_nat', hi', spAlike, hx xs[i] (List.getElem_mem hi')]
      exact k2 rfl
    · rw [List.filter_eq_nil_iff.mpr (by simp)]
      simp [eqOk_lst0, eqv_lst0]
      exact o
  | raw v => cases n <;> cases ha
  | dct => cases n <;> cases ha
  | ln xs => cases n <;> cases ha
theorem ok__law_alike (T : Txt K mg) {f : Addr} {fd : FuncData} (F : FnP K "_law_alike" s__law_alike f fd) (hm : mg "_law_alike" = some (.ref f)) (hb : Binds K fd ["found", "due"] []) : FnOk P w K mg base (L2.CX P w) 8 f fd ["found", "due"] (spD K sp__law_alike) := by
  have zero : FnOk P w K mg base (L2.CX P w) 1 f fd ["found", "due"] (spD K (spAlike 0)) :=
    fnD (k := 0) F sc__law_alike (fun F ds O h => h.elim) (fun cdv A outer s G E ds O hr h hE => h.elim)
  have all : ∀ n : Nat, FnOk P w K mg base (L2.CX P w) (n + 1) f fd ["found", "due"] (spD K (spAlike n)) := by
    intro n
    induction n with
    | zero => exact zero
    | succ n ih => exact alike_step T F n (n + 1) (Cl.mk' F ih hm hb)
  exact all 7

end
end K12
end
-- F_12__law_line
section
set_option Elab.async false
set_option linter.all false
set_option maxRecDepth 100000
set_option maxHeartbeats 4000000
set_option autoImplicit false
namespace K12
open PySem PySem.Spec PyProof.Rows L2 Sd
section
variable {P : Program} {w : World} {K : PySem.W.Frag} {mg : Str → Option Value} {base : Heap}
theorem ok__law_line (T : Txt K mg) {f : Addr} {fd : FuncData} (F : FnP K "_law_line" s__law_line f fd) (c__law_pick : Cl P w K mg base 2 "_law_pick" sp__law_pick []) (c__law_taken : Cl P w K mg base 1 "_law_taken" sp__law_taken [])  : FnOk P w K mg base (L2.CX P w) 3 f fd ["row"] (spD K sp__law_line) := by
  have sc := sc__law_line
  refine fnD F sc (fun F ds O h => by
    obtain ⟨_, _, e, _⟩ := h
    rw [e] <;> rfl) (fun cdv A outer s G E ds O hr h hE => ⟨_, (pssd_cons (psd_set (i := 1) sc.nd rfl (Or.inr rfl) (pd_call c__law_pick hr (by first | decide | omega) (pad_cons (pd_name (pv 0)) (pad_cons (pd_lst (pad_cons pd_int (pad_cons pd_int (pad_cons pd_int pad_nil)))) pad_nil))))
  (pssd_one (psd_ret (pd_callTy call_tuple_of snd_tuple T.b_tuple (pad_cons (pd_x (pxd_lc (own := [(("k" : Str), 2)]) sc.nd (pid_r1 T.b_range (pad_cons (pd_add pd_int (pd_call c__law_taken hr (by first | decide | omega) (pad_cons (pd_name (pv 0)) (pad_cons (pd_call c__law_pick hr (by first | decide | omega) (pad_cons (pd_name (pv 0)) (pad_cons (pd_lst (pad_cons pd_int (pad_cons pd_int (pad_cons pd_int pad_nil)))) pad_nil))) pad_nil)))) pad_nil)) (by kernel_rfl) (fun _ _ _ _ _ => (pgc_name (i := 2) sc.nd rfl (by first | exact Or.inl rfl | exact Or.inr rfl) (by decide))) (fun _ _ _ _ _ => ptsd_nil) (fun _ _ _ _ _ => (pd_call c__law_taken hr (by first | decide | omega) (pad_cons (pd_name (pv 0)) (pad_cons (pd_name (pv 1)) pad_nil)))))) pad_nil))))), ?_⟩)
  obtain ⟨r, sa, rfl, h⟩ := h
  obtain ⟨hrow, o⟩ := h
  have key : ∀ (n m : Int), 0 ≤ n → n < 10 → 0 < m → m ≤ 21 → lcB ((List.range (1 + n).toNat).map fun i : Nat => .int (i : Int)) (dgName 2) dtYes (deCall sp__law_taken G.F noX [] (daCons (deName 0) (daCons (deName 1) daNil))) [2] [.dat (.raw (.ref r)), .dat (.int m), .un] fun xs => O (.ret (.tup xs)) := by
    intro n m n0 n1 m0 m1
    refine lb_onA (List.range (1 + n).toNat) D.int (fun _ y => 0 ≤ y ∧ y < m) (by simp; omega) (fun x hx R hR => ?_) (fun ys hl hy => ?_)
    · simp [deCall, sp__law_taken, daCons, daNil, deName, dgName, wipeD]
      exact ⟨r, sa, m, ⟨rfl, rfl⟩, hrow, m0, by omega, fun n n0 n1 => hR n ⟨n0, n1⟩⟩
    · rw [List.length_range] at hl
      refine o ys (by omega) (by omega) fun s hs => ?_
      obtain ⟨i, hi, e⟩ := List.getElem_of_mem hs
      have := hy i i s (List.getElem?_range (by omega)) (by rw [← e]; exact List.getElem?_eq_getElem hi)
      omega
  simp [startD, wipeD, dsRet, dsRetN, dsIf, dsSeq, dsNext, dsAsg, dsDrop, dsBreak, dsCont, dsPar, dsAug, dsFrz, dsApp, dsExt, dsPut, dsAugO, dsOwn, dsParOO, dsParDO, dsParDDO, dsFrzA, dxRep, diOwn, dsRaise, deAnd, deOr, deNot, de1, de2, deB, deX, dxB, dxLst, deName, deC, deCall, deIxO, deLenO, deTup, deLst, daCons, daNil, daStar, deChain, dtChain, dtV, dtAnd, dtOr, dtNot, dtYes, deIf, deSl, doNone, doSome, rdAdd, rdSub, rdMul, rdMod, rdDiv, rdPow, rdI, rdIc, rdB, rdLt, rdLe, rdGt, rdGe, rdNeg, rdIs, rdEq, rdNe, rdIx, rdIsN, rdNotN, rdIsB, rdNotB, rdRev, rdSeats, rdCatL, rdCatT, rdRepL, rdLen, rdTuple, rdList, rxList, rdInt, rdMax2, rdMin2, dgName, dgTup, dgCons, dgNil, deRefused, rdRepr, rdNeS, rdEqL, rdNeL, rdRepT, rdIsLn, noOwn, diSeq, diEn, diZp, diR1, diR2, noX,  eqOk_int, eqOk_bl, eqOk_non, eqv_int, eqv_bl, eqv_non, atI_0, atI_1, atI_2, atI_3, qty_non, qisI_non, qisB_non, qisL_non, qisU_non, qisS_non, qisD_non, qisNon_non, qcooked_non, qseq_non, qty_bl, qisI_bl, qisB_bl, qisL_bl, qisU_bl, qisS_bl, qisD_bl, qisNon_bl, qcooked_bl, qseq_bl, qty_int, qisI_int, qisB_int, qisL_int, qisU_int, qisS_int, qisD_int, qisNon_int, qcooked_int, qseq_int, qty_str, qisI_str, qisB_str, qisL_str, qisU_str, qisS_str, qisD_str, qisNon_str, qcooked_str, qseq_str, qty_lst, qisI_lst, qisB_lst, qisL_lst, qisU_lst, qisS_lst, qisD_lst, qisNon_lst, qcooked_lst, qseq_lst, qty_tup, qisI_tup, qisB_tup, qisL_tup, qisU_tup, qisS_tup, qisD_tup, qisNon_tup, qcooked_tup, qseq_tup, qty_dct, qisI_dct, qisB_dct, qisL_dct, qisU_dct, qisS_dct, qisD_dct, qisNon_dct, qcooked_dct, qseq_dct, qix_lst, qsl_lst, qix_tup, qsl_tup, qisNon_ln, qcooked_ln, and_assoc, exists_and_left, exists_eq_left, exists_eq_left', exists_eq_right, deFget, dsFset, dsFsetO, deFix, dsFaug, dmCall, dmIx, dsDropM, dsAsgM, dmsSeq, dmsRet, dmsNil, dmsIf, dmsFrz, startM, dnMake, deNfld, deNmeth, dxLend, deLend, dnsSeq, dnsRet, putM1, putM2, putM3, putM4, mkSt, lkM_seats, lkM_requests, lkM_sale, lkM_roads, lkM_lay, lkM_len, lkM_bet, lkM_pri, putM_roads, lenM, rdInI, rdEqS, sp__law_pick, sp__law_taken, dxLc_eq, dsFor_eq, rngD_0, rngD_eq, zipD_map, enumD_map0]
  (repeat' first | (with_reducible exact ⟨_, hrow⟩) | (with_reducible apply And.intro) | intro _) <;> (try omega)
  all_goals exact key _ _ (by omega) (by omega) (by omega) (by omega)
end
end K12
end
-- F_12__law_asks
section
set_option Elab.async false
set_option linter.all false
set_option maxRecDepth 100000
set_option maxHeartbeats 4000000
set_option autoImplicit false
namespace K12
open PySem PySem.Spec PyProof.Rows L2 Sd
section
variable {P : Program} {w : World} {K : PySem.W.Frag} {mg : Str → Option Value} {base : Heap}
theorem ok__law_asks (T : Txt K mg) {f : Addr} {fd : FuncData} (F : FnP K "_law_asks" s__law_asks f fd) (c__law_pick : Cl P w K mg base 2 "_law_pick" sp__law_pick []) (c__law_taken : Cl P w K mg base 1 "_law_taken" sp__law_taken [])  : FnOk P w K mg base (L2.CX P w) 3 f fd ["row", "seats", "most", "many"] (spD K sp__law_asks00) := by
  have sc := sc__law_asks
  refine fnD F sc (fun F ds O h => by
    obtain ⟨_, _, _, _, _, _, e, _⟩ := h
    rw [e] <;> rfl) (fun cdv A outer s G E ds O hr h hE => ⟨_, (pssd_cons (psd_own (i := 4) sc.nd rfl (Or.inl rfl) (pxd_lst pad_nil))
  (pssd_cons (psd_for (passes_of rfl) (pid_r1 T.b_range (pad_cons (pd_call c__law_taken hr (by first | decide | omega) (pad_cons (pd_name (pv 0)) (pad_cons (pd_name (pv 2)) pad_nil))) pad_nil)) (pgd_name (i := 5) sc.nd rfl (Or.inl rfl))
  (pssd_cons (psd_set (i := 6) sc.nd rfl (Or.inl rfl) (pd_call c__law_taken hr (by first | decide | omega) (pad_cons (pd_name (pv 0)) (pad_cons (pd_callB call_len_seq snd_len T.b_len (pad_cons (pd_name (pv 1)) pad_nil)) pad_nil))))
  (pssd_cons (psd_set (i := 7) sc.nd rfl (Or.inl rfl) (pd_add (pd_add (pd_name (pv 6)) pd_int) (pd_call c__law_taken hr (by first | decide | omega) (pad_cons (pd_name (pv 0)) (pad_cons (pd_sub (pd_callB call_len_seq snd_len T.b_len (pad_cons (pd_name (pv 1)) pad_nil)) (pd_name (pv 6))) pad_nil)))))
  (pssd_one (psd_app (i := 4) (pv 4) (pd_tup (pad_cons (pd_name (pv 6)) (pad_cons (pd_name (pv 7)) (pad_cons (pd_call c__law_pick hr (by first | decide | omega) (pad_cons (pd_name (pv 0)) (pad_cons (pd_lst (pad_cons (pd_add pd_int (pd_call c__law_taken hr (by first | decide | omega) (pad_cons (pd_name (pv 0)) (pad_cons pd_int pad_nil)))) (pad_cons (pd_mul pd_int (pd_sub (pd_name (pv 7)) (pd_name (pv 6)))) (pad_cons (pd_add pd_int (pd_call c__law_taken hr (by first | decide | omega) (pad_cons (pd_name (pv 0)) (pad_cons pd_int pad_nil)))) pad_nil)))) pad_nil))) (pad_cons (pd_add pd_int (pd_call c__law_taken hr (by first | decide | omega) (pad_cons (pd_name (pv 0)) (pad_cons (pd_name (pv 3)) pad_nil)))) pad_nil))))))))))
  (pssd_one (psd_frz 4 (psd_ret (pd_name (pv 4))))))), ?_⟩)
  obtain ⟨r, sa, d, sd, most, many, rfl, h⟩ := h
  obtain ⟨hrow, hs, h0, h1, m0, m1, y0, y1, o⟩ := h
  simp [startD, wipeD, dsRet, dsRetN, dsIf, dsSeq, dsNext, dsAsg, dsDrop, dsBreak, dsCont, dsPar, dsAug, dsFrz, dsApp, dsExt, dsPut, dsAugO, dsOwn, dsParOO, dsParDO, dsParDDO, dsFrzA, dxRep, diOwn, dsRaise, deAnd, deOr, deNot, de1, de2, deB, deX, dxB, dxLst, deName, deC, deCall, deIxO, deLenO, deTup, deLst, daCons, daNil, daStar, deChain, dtChain, dtV, dtAnd, dtOr, dtNot, dtYes, deIf, deSl, doNone, doSome, rdAdd, rdSub, rdMul, rdMod, rdDiv, rdPow, rdI, rdIc, rdB, rdLt, rdLe, rdGt, rdGe, rdNeg, rdIs, rdEq, rdNe, rdIx, rdIsN, rdNotN, rdIsB, rdNotB, rdRev, rdSeats, rdCatL, rdCatT, rdRepL, rdLen, rdTuple, rdList, rxList, rdInt, rdMax2, rdMin2, dgName, dgTup, dgCons, dgNil, deRefused, rdRepr, rdNeS, rdEqL, rdNeL, rdRepT, rdIsLn, noOwn, diSeq, diEn, diZp, diR1, diR2, noX,  eqOk_int, eqOk_bl, eqOk_non, eqv_int, eqv_bl, eqv_non, atI_0, atI_1, atI_2, atI_3, qty_non, qisI_non, qisB_non, qisL_non, qisU_non, qisS_non, qisD_non, qisNon_non, qcooked_non, qseq_non, qty_bl, qisI_bl, qisB_bl, qisL_bl, qisU_bl, qisS_bl, qisD_bl, qisNon_bl, qcooked_bl, qseq_bl, qty_int, qisI_int, qisB_int, qisL_int, qisU_int, qisS_int, qisD_int, qisNon_int, qcooked_int, qseq_int, qty_str, qisI_str, qisB_str, qisL_str, qisU_str, qisS_str, qisD_str, qisNon_str, qcooked_str, qseq_str, qty_lst, qisI_lst, qisB_lst, qisL_lst, qisU_lst, qisS_lst, qisD_lst, qisNon_lst, qcooked_lst, qseq_lst, qty_tup, qisI_tup, qisB_tup, qisL_tup, qisU_tup, qisS_tup, qisD_tup, qisNon_tup, qcooked_tup, qseq_tup, qty_dct, qisI_dct, qisB_dct, qisL_dct, qisU_dct, qisS_dct, qisD_dct, qisNon_dct, qcooked_dct, qseq_dct, qix_lst, qsl_lst, qix_tup, qsl_tup, qisNon_ln, qcooked_ln, and_assoc, exists_and_left, exists_eq_left, exists_eq_left', exists_eq_right, deFget, dsFset, dsFsetO, deFix, dsFaug, dmCall, dmIx, dsDropM, dsAsgM, dmsSeq, dmsRet, dmsNil, dmsIf, dmsFrz, startM, dnMake, deNfld, deNmeth, dxLend, deLend, dnsSeq, dnsRet, putM1, putM2, putM3, putM4, mkSt, lkM_seats, lkM_requests, lkM_sale, lkM_roads, lkM_lay, lkM_len, lkM_bet, lkM_pri, putM_roads, lenM, rdInI, rdEqS, sp__law_pick, sp__law_taken, dxLc_eq, dsFor_eq, rngD_0, rngD_eq, zipD_map, enumD_map0, hs]
  refine ⟨⟨sa, hrow⟩, m0, by omega, fun n n0 n1 => ⟨by omega, by omega, ?_⟩⟩
  refine fb_on (List.range n.toNat) (fun i δ' => ∃ (rs : List Rq) (a b c : Sl), δ' = [.dat (.raw (.ref r)), .dat d, .dat (.int most), .dat (.int many), .own (rs.map Rq.d), a, b, c] ∧ rs.length = i ∧ ∀ r ∈ rs, r.Ok sd.length) ⟨[], _, _, _, rfl, rfl, by simp⟩ (fun i x δ' hi hj => ?_) (fun δ' hj => ?_)
  · obtain ⟨rs, a, b, c, rfl, hl, hr⟩ := hj
    have hi := range_at hi
    have push : ∀ (a b f m : Int), Rq.Ok sd.length ⟨a, b, f, m⟩ → ∃ rs' : List Rq, rs.map Rq.d ++ [.tup [.int a, .int b, .int f, .int m]] = rs'.map Rq.d ∧ rs'.length = i + 1 ∧ ∀ r ∈ rs', r.Ok sd.length := fun a b f m ok =>
      ⟨rs ++ [⟨a, b, f, m⟩], by simp [Rq.d], by simp [hl], fun s hs => by
        rcases List.mem_append.mp hs with z | z
        · exact hr s z
        · rw [List.mem_singleton.mp z]
          exact ok⟩
    simp [startD, wipeD, dsRet, dsRetN, dsIf, dsSeq, dsNext, dsAsg, dsDrop, dsBreak, dsCont, dsPar, dsAug, dsFrz, dsApp, dsExt, dsPut, dsAugO, dsOwn, dsParOO, dsParDO, dsParDDO, dsFrzA, dxRep, diOwn, dsRaise, deAnd, deOr, deNot, de1, de2, deB, deX, dxB, dxLst, deName, deC, deCall, deIxO, deLenO, deTup, deLst, daCons, daNil, daStar, deChain, dtChain, dtV, dtAnd, dtOr, dtNot, dtYes, deIf, deSl, doNone, doSome, rdAdd, rdSub, rdMul, rdMod, rdDiv, rdPow, rdI, rdIc, rdB, rdLt, rdLe, rdGt, rdGe, rdNeg, rdIs, rdEq, rdNe, rdIx, rdIsN, rdNotN, rdIsB, rdNotB, rdRev, rdSeats, rdCatL, rdCatT, rdRepL, rdLen, rdTuple, rdList, rxList, rdInt, rdMax2, rdMin2, dgName, dgTup, dgCons, dgNil, deRefused, rdRepr, rdNeS, rdEqL, rdNeL, rdRepT, rdIsLn, noOwn, diSeq, diEn, diZp, diR1, diR2, noX,  eqOk_int, eqOk_bl, eqOk_non, eqv_int, eqv_bl, eqv_non, atI_0, atI_1, atI_2, atI_3, qty_non, qisI_non, qisB_non, qisL_non, qisU_non, qisS_non, qisD_non, qisNon_non, qcooked_non, qseq_non, qty_bl, qisI_bl, qisB_bl, qisL_bl, qisU_bl, qisS_bl, qisD_bl, qisNon_bl, qcooked_bl, qseq_bl, qty_int, qisI_int, qisB_int, qisL_int, qisU_int, qisS_int, qisD_int, qisNon_int, qcooked_int, qseq_int, qty_str, qisI_str, qisB_str, qisL_str, qisU_str, qisS_str, qisD_str, qisNon_str, qcooked_str, qseq_str, qty_lst, qisI_lst, qisB_lst, qisL_lst, qisU_lst, qisS_lst, qisD_lst, qisNon_lst, qcooked_lst, qseq_lst, qty_tup, qisI_tup, qisB_tup, qisL_tup, qisU_tup, qisS_tup, qisD_tup, qisNon_tup, qcooked_tup, qseq_tup, qty_dct, qisI_dct, qisB_dct, qisL_dct, qisU_dct, qisS_dct, qisD_dct, qisNon_dct, qcooked_dct, qseq_dct, qix_lst, qsl_lst, qix_tup, qsl_tup, qisNon_ln, qcooked_ln, and_assoc, exists_and_left, exists_eq_left, exists_eq_left', exists_eq_right, deFget, dsFset, dsFsetO, deFix, dsFaug, dmCall, dmIx, dsDropM, dsAsgM, dmsSeq, dmsRet, dmsNil, dmsIf, dmsFrz, startM, dnMake, deNfld, deNmeth, dxLend, deLend, dnsSeq, dnsRet, putM1, putM2, putM3, putM4, mkSt, lkM_seats, lkM_requests, lkM_sale, lkM_roads, lkM_lay, lkM_len, lkM_bet, lkM_pri, putM_roads, lenM, rdInI, rdEqS, sp__law_pick, sp__law_taken, dxLc_eq, dsFor_eq, rngD_0, rngD_eq, zipD_map, enumD_map0, hs]
    (repeat' first | (with_reducible exact ⟨_, hrow⟩) | (with_reducible apply And.intro) | intro _) <;> (try omega)
    · exact .inl ⟨by omega, by omega⟩
    all_goals refine push _ _ _ _ ⟨?_, ?_, ?_, ?_, ?_, ?_, ?_⟩ <;> dsimp only <;> omega
  · obtain ⟨rs, a, b, c, rfl, hl, hr⟩ := hj
    rw [List.length_range] at hl
    simp [startD, wipeD, dsRet, dsRetN, dsIf, dsSeq, dsNext, dsAsg, dsDrop, dsBreak, dsCont, dsPar, dsAug, dsFrz, dsApp, dsExt, dsPut, dsAugO, dsOwn, dsParOO, dsParDO, dsParDDO, dsFrzA, dxRep, diOwn, dsRaise, deAnd, deOr, deNot, de1, de2, deB, deX, dxB, dxLst, deName, deC, deCall, deIxO, deLenO, deTup, deLst, daCons, daNil, daStar, deChain, dtChain, dtV, dtAnd, dtOr, dtNot, dtYes, deIf, deSl, doNone, doSome, rdAdd, rdSub, rdMul, rdMod, rdDiv, rdPow, rdI, rdIc, rdB, rdLt, rdLe, rdGt, rdGe, rdNeg, rdIs, rdEq, rdNe, rdIx, rdIsN, rdNotN, rdIsB, rdNotB, rdRev, rdSeats, rdCatL, rdCatT, rdRepL, rdLen, rdTuple, rdList, rxList, rdInt, rdMax2, rdMin2, dgName, dgTup, dgCons, dgNil, deRefused, rdRepr, rdNeS, rdEqL, rdNeL, rdRepT, rdIsLn, noOwn, diSeq, diEn, diZp, diR1, diR2, noX,  eqOk_int, eqOk_bl, eqOk_non, eqv_int, eqv_bl, eqv_non, atI_0, atI_1, atI_2, atI_3, qty_non, qisI_non, qisB_non, qisL_non, qisU_non, qisS_non, qisD_non, qisNon_non, qcooked_non, qseq_non, qty_bl, qisI_bl, qisB_bl, qisL_bl, qisU_bl, qisS_bl, qisD_bl, qisNon_bl, qcooked_bl, qseq_bl, qty_int, qisI_int, qisB_int, qisL_int, qisU_int, qisS_int, qisD_int, qisNon_int, qcooked_int, qseq_int, qty_str, qisI_str, qisB_str, qisL_str, qisU_str, qisS_str, qisD_str, qisNon_str, qcooked_str, qseq_str, qty_lst, qisI_lst, qisB_lst, qisL_lst, qisU_lst, qisS_lst, qisD_lst, qisNon_lst, qcooked_lst, qseq_lst, qty_tup, qisI_tup, qisB_tup, qisL_tup, qisU_tup, qisS_tup, qisD_tup, qisNon_tup, qcooked_tup, qseq_tup, qty_dct, qisI_dct, qisB_dct, qisL_dct, qisU_dct, qisS_dct, qisD_dct, qisNon_dct, qcooked_dct, qseq_dct, qix_lst, qsl_lst, qix_tup, qsl_tup, qisNon_ln, qcooked_ln, and_assoc, exists_and_left, exists_eq_left, exists_eq_left', exists_eq_right, deFget, dsFset, dsFsetO, deFix, dsFaug, dmCall, dmIx, dsDropM, dsAsgM, dmsSeq, dmsRet, dmsNil, dmsIf, dmsFrz, startM, dnMake, deNfld, deNmeth, dxLend, deLend, dnsSeq, dnsRet, putM1, putM2, putM3, putM4, mkSt, lkM_seats, lkM_requests, lkM_sale, lkM_roads, lkM_lay, lkM_len, lkM_bet, lkM_pri, putM_roads, lenM, rdInI, rdEqS, sp__law_pick, sp__law_taken, dxLc_eq, dsFor_eq, rngD_0, rngD_eq, zipD_map, enumD_map0]
    exact o rs (by omega) hr
end
end K12
end
-- F_12__law_most
section
set_option Elab.async false
set_option linter.all false
set_option maxRecDepth 100000
set_option maxHeartbeats 4000000
set_option autoImplicit false
namespace K12
open PySem PySem.Spec PyProof.Rows L2 Sd
section
variable {P : Program} {w : World} {K : PySem.W.Frag} {mg : Str → Option Value} {base : Heap}
theorem most_step (T : Txt K mg) {f : Addr} {fd : FuncData} (F : FnP K "_law_most" s__law_most f fd) (n k : Nat) (c__law_most : Cl P w K mg base k "_law_most" (spMost n) []) : FnOk P w K mg base (L2.CX P w) (k + 1) f fd ["seats", "asks"] (spD K (spMost (n + 1))) := by
  have sc := sc__law_most
  refine fnD F sc (fun F ds O h => by
    obtain ⟨_, _, _, e, _⟩ := h
    rw [e] <;> rfl) (fun cdv A outer s G E ds O hr h hE => ⟨_, (pssd_cons (psd_if (ptd_eq hr.units (pd_name (pv 1)) (pd_lst pad_nil))
  (pssd_one (psd_ret pd_int))
  pssd_nil)
  (pssd_cons (psd_asg (pd_item (pd_name (pv 1)) pd_int) (pgd_tup (n := 4) (pgsd_cons (pgd_name (i := 2) sc.nd rfl (Or.inl rfl)) (pgsd_cons (pgd_name (i := 3) sc.nd rfl (Or.inl rfl)) (pgsd_cons (pgd_name (i := 4) sc.nd rfl (Or.inl rfl)) (pgsd_cons (pgd_name (i := 5) sc.nd rfl (Or.inl rfl)) pgsd_nil))))))
  (pssd_cons (psd_parDO (i := 6) (j := 7) sc.nd rfl rfl (by decide) pd_int (pxd_list T.b_list (pad_cons (pd_name (pv 0)) pad_nil)))
  (pssd_cons (psd_for (passes_of rfl) (pid_r1 T.b_range (pad_cons (pd_add (pd_name (pv 5)) pd_int) pad_nil)) (pgd_name (i := 8) sc.nd rfl (Or.inl rfl))
  (pssd_cons (psd_if (ptd_lt (pd_lend 7 (pd_callB (cr_min rfl) snd_min T.b_min (pad_cons (pd_name (pv 7)) pad_nil))) pd_int)
  (pssd_one (psd_ret (pd_name (pv 6))))
  pssd_nil)
  (pssd_cons (psd_set (i := 6) sc.nd rfl (Or.inl rfl) (pd_callB (call_max2 rfl) snd_max2 T.b_max (pad_cons (pd_name (pv 6)) (pad_cons (pd_add (pd_mul (pd_name (pv 4)) (pd_name (pv 8))) (pd_lend 7 (pd_call c__law_most hr (by first | decide | omega) (pad_cons (pd_name (pv 7)) (pad_cons (pd_slice (pd_name (pv 1)) (pod_some pd_int) pod_none) pad_nil))))) pad_nil))))
  (pssd_one (psd_for (passes_of rfl) (pid_r2 T.b_range (pad_cons (pd_name (pv 2)) (pad_cons (pd_name (pv 3)) pad_nil))) (pgd_name (i := 9) sc.nd rfl (Or.inl rfl))
  (pssd_one (psd_put (i := 7) (pv 7) (pd_name (pv 9)) (pd_sub (pd_ixO (i := 7) (pv 7) (pd_name (pv 9))) pd_int))))))))
  (pssd_one (psd_ret (pd_name (pv 6)))))))), ?_⟩)
  obtain ⟨d1, ss, rs, rfl, hs, hl1, hl2, hn, ok, h0, o⟩ := h
  cases rs with
  | nil =>
    simp [startD, wipeD, dsRet, dsRetN, dsIf, dsSeq, dsNext, dsAsg, dsDrop, dsBreak, dsCont, dsPar, dsAug, dsFrz, dsApp, dsExt, dsPut, dsAugO, dsOwn, dsParOO, dsParDO, dsParDDO, dsFrzA, dxRep, diOwn, dsRaise, deAnd, deOr, deNot, de1, de2, deB, deX, dxB, dxLst, deName, deC, deCall, deIxO, deLenO, deTup, deLst, daCons, daNil, daStar, deChain, dtChain, dtV, dtAnd, dtOr, dtNot, dtYes, deIf, deSl, doNone, doSome, rdAdd, rdSub, rdMul, rdMod, rdDiv, rdPow, rdI, rdIc, rdB, rdLt, rdLe, rdGt, rdGe, rdNeg, rdIs, rdEq, rdNe, rdIx, rdIsN, rdNotN, rdIsB, rdNotB, rdRev, rdSeats, rdCatL, rdCatT, rdRepL, rdLen, rdTuple, rdList, rxList, rdInt, rdMax2, rdMin2, dgName, dgTup, dgCons, dgNil, deRefused, rdRepr, rdNeS, rdEqL, rdNeL, rdRepT, rdIsLn, noOwn, diSeq, diEn, diZp, diR1, diR2, noX,  eqOk_int, eqOk_bl, eqOk_non, eqv_int, eqv_bl, eqv_non, atI_0, atI_1, atI_2, atI_3, qty_non, qisI_non, qisB_non, qisL_non, qisU_non, qisS_non, qisD_non, qisNon_non, qcooked_non, qseq_non, qty_bl, qisI_bl, qisB_bl, qisL_bl, qisU_bl, qisS_bl, qisD_bl, qisNon_bl, qcooked_bl, qseq_bl, qty_int, qisI_int, qisB_int, qisL_int, qisU_int, qisS_int, qisD_int, qisNon_int, qcooked_int, qseq_int, qty_str, qisI_str, qisB_str, qisL_str, qisU_str, qisS_str, qisD_str, qisNon_str, qcooked_str, qseq_str, qty_lst, qisI_lst, qisB_lst, qisL_lst, qisU_lst, qisS_lst, qisD_lst, qisNon_lst, qcooked_lst, qseq_lst, qty_tup, qisI_tup, qisB_tup, qisL_tup, qisU_tup, qisS_tup, qisD_tup, qisNon_tup, qcooked_tup, qseq_tup, qty_dct, qisI_dct, qisB_dct, qisL_dct, qisU_dct, qisS_dct, qisD_dct, qisNon_dct, qcooked_dct, qseq_dct, qix_lst, qsl_lst, qix_tup, qsl_tup, qisNon_ln, qcooked_ln, and_assoc, exists_and_left, exists_eq_left, exists_eq_left', exists_eq_right, deFget, dsFset, dsFsetO, deFix, dsFaug, dmCall, dmIx, dsDropM, dsAsgM, dmsSeq, dmsRet, dmsNil, dmsIf, dmsFrz, startM, dnMake, deNfld, deNmeth, dxLend, deLend, dnsSeq, dnsRet, putM1, putM2, putM3, putM4, mkSt, lkM_seats, lkM_requests, lkM_sale, lkM_roads, lkM_lay, lkM_len, lkM_bet, lkM_pri, putM_roads, lenM, rdInI, rdEqS, dxLc_eq, dsFor_eq, rngD_0, rngD_eq, zipD_map, enumD_map0, eqOk_rqs, eqv_lst0, eqOk_lst0]
    exact o 0 (most_nil h0)
  | cons r rs =>
    have e1 : (D.lst (r.d :: rs.map Rq.d)).eqOk = true := eqOk_rqs (r :: rs)
    have or_ := ok r List.mem_cons_self
    obtain ⟨a0, ab, bn, f1, f2, m1, m2⟩ := or_
    simp [startD, wipeD, dsRet, dsRetN, dsIf, dsSeq, dsNext, dsAsg, dsDrop, dsBreak, dsCont, dsPar, dsAug, dsFrz, dsApp, dsExt, dsPut, dsAugO, dsOwn, dsParOO, dsParDO, dsParDDO, dsFrzA, dxRep, diOwn, dsRaise, deAnd, deOr, deNot, de1, de2, deB, deX, dxB, dxLst, deName, deC, deCall, deIxO, deLenO, deTup, deLst, daCons, daNil, daStar, deChain, dtChain, dtV, dtAnd, dtOr, dtNot, dtYes, deIf, deSl, doNone, doSome, rdAdd, rdSub, rdMul, rdMod, rdDiv, rdPow, rdI, rdIc, rdB, rdLt, rdLe, rdGt, rdGe, rdNeg, rdIs, rdEq, rdNe, rdIx, rdIsN, rdNotN, rdIsB, rdNotB, rdRev, rdSeats, rdCatL, rdCatT, rdRepL, rdLen, rdTuple, rdList, rxList, rdInt, rdMax2, rdMin2, dgName, dgTup, dgCons, dgNil, deRefused, rdRepr, rdNeS, rdEqL, rdNeL, rdRepT, rdIsLn, noOwn, diSeq, diEn, diZp, diR1, diR2, noX,  eqOk_int, eqOk_bl, eqOk_non, eqv_int, eqv_bl, eqv_non, atI_0, atI_1, atI_2, atI_3, qty_non, qisI_non, qisB_non, qisL_non, qisU_non, qisS_non, qisD_non, qisNon_non, qcooked_non, qseq_non, qty_bl, qisI_bl, qisB_bl, qisL_bl, qisU_bl, qisS_bl, qisD_bl, qisNon_bl, qcooked_bl, qseq_bl, qty_int, qisI_int, qisB_int, qisL_int, qisU_int, qisS_int, qisD_int, qisNon_int, qcooked_int, qseq_int, qty_str, qisI_str, qisB_str, qisL_str, qisU_str, qisS_str, qisD_str, qisNon_str, qcooked_str, qseq_str, qty_lst, qisI_lst, qisB_lst, qisL_lst, qisU_lst, qisS_lst, qisD_lst, qisNon_lst, qcooked_lst, qseq_lst, qty_tup, qisI_tup, qisB_tup, qisL_tup, qisU_tup, qisS_tup, qisD_tup, qisNon_tup, qcooked_tup, qseq_tup, qty_dct, qisI_dct, qisB_dct, qisL_dct, qisU_dct, qisS_dct, qisD_dct, qisNon_dct, qcooked_dct, qseq_dct, qix_lst, qsl_lst, qix_tup, qsl_tup, qisNon_ln, qcooked_ln, and_assoc, exists_and_left, exists_eq_left, exists_eq_left', exists_eq_right, deFget, dsFset, dsFsetO, deFix, dsFaug, dmCall, dmIx, dsDropM, dsAsgM, dmsSeq, dmsRet, dmsNil, dmsIf, dmsFrz, startM, dnMake, deNfld, deNmeth, dxLend, deLend, dnsSeq, dnsRet, putM1, putM2, putM3, putM4, mkSt, lkM_seats, lkM_requests, lkM_sale, lkM_roads, lkM_lay, lkM_len, lkM_bet, lkM_pri, putM_roads, lenM, rdInI, rdEqS, dxLc_eq, dsFor_eq, rngD_0, rngD_eq, zipD_map, enumD_map0, e1, eqv_lst0, eqOk_lst0, hs]
    refine ⟨_, rfl, rfl, _, _, rfl, _, _, rfl, _, _, rfl, _, _, rfl, rfl, r.m, rfl, by omega, by omega, ?_⟩
    refine fb_on (List.range (r.m + 1).toNat) (fun k δ' => ∃ (b : Int) (x y : Sl), δ' = [.dat d1, .dat (.lst (r.d :: rs.map Rq.d)), .dat (.int r.a), .dat (.int r.b), .dat (.int r.f), .dat (.int r.m), .dat (.int b), .own ((leftL ss r k).map .int), x, y] ∧ Upto ss r rs k b) ⟨0, _, _, by rw [leftL_0], upto_zero h0 ok⟩ (fun w1 q δ' hi hj => ?_) (fun δ' hj => ?_)
    · obtain ⟨b, x, y, rfl, U⟩ := hj
      obtain ⟨hi, ex⟩ := range_at hi
      subst ex
      have hll := leftL_len ss r q
      simp [startD, wipeD, dsRet, dsRetN, dsIf, dsSeq, dsNext, dsAsg, dsDrop, dsBreak, dsCont, dsPar, dsAug, dsFrz, dsApp, dsExt, dsPut, dsAugO, dsOwn, dsParOO, dsParDO, dsParDDO, dsFrzA, dxRep, diOwn, dsRaise, deAnd, deOr, deNot, de1, de2, deB, deX, dxB, dxLst, deName, deC, deCall, deIxO, deLenO, deTup, deLst, daCons, daNil, daStar, deChain, dtChain, dtV, dtAnd, dtOr, dtNot, dtYes, deIf, deSl, doNone, doSome, rdAdd, rdSub, rdMul, rdMod, rdDiv, rdPow, rdI, rdIc, rdB, rdLt, rdLe, rdGt, rdGe, rdNeg, rdIs, rdEq, rdNe, rdIx, rdIsN, rdNotN, rdIsB, rdNotB, rdRev, rdSeats, rdCatL, rdCatT, rdRepL, rdLen, rdTuple, rdList, rxList, rdInt, rdMax2, rdMin2, dgName, dgTup, dgCons, dgNil, deRefused, rdRepr, rdNeS, rdEqL, rdNeL, rdRepT, rdIsLn, noOwn, diSeq, diEn, diZp, diR1, diR2, noX,  eqOk_int, eqOk_bl, eqOk_non, eqv_int, eqv_bl, eqv_non, atI_0, atI_1, atI_2, atI_3, qty_non, qisI_non, qisB_non, qisL_non, qisU_non, qisS_non, qisD_non, qisNon_non, qcooked_non, qseq_non, qty_bl, qisI_bl, qisB_bl, qisL_bl, qisU_bl, qisS_bl, qisD_bl, qisNon_bl, qcooked_bl, qseq_bl, qty_int, qisI_int, qisB_int, qisL_int, qisU_int, qisS_int, qisD_int, qisNon_int, qcooked_int, qseq_int, qty_str, qisI_str, qisB_str, qisL_str, qisU_str, qisS_str, qisD_str, qisNon_str, qcooked_str, qseq_str, qty_lst, qisI_lst, qisB_lst, qisL_lst, qisU_lst, qisS_lst, qisD_lst, qisNon_lst, qcooked_lst, qseq_lst, qty_tup, qisI_tup, qisB_tup, qisL_tup, qisU_tup, qisS_tup, qisD_tup, qisNon_tup, qcooked_tup, qseq_tup, qty_dct, qisI_dct, qisB_dct, qisL_dct, qisU_dct, qisS_dct, qisD_dct, qisNon_dct, qcooked_dct, qseq_dct, qix_lst, qsl_lst, qix_tup, qsl_tup, qisNon_ln, qcooked_ln, and_assoc, exists_and_left, exists_eq_left, exists_eq_left', exists_eq_right, deFget, dsFset, dsFsetO, deFix, dsFaug, dmCall, dmIx, dsDropM, dsAsgM, dmsSeq, dmsRet, dmsNil, dmsIf, dmsFrz, startM, dnMake, deNfld, deNmeth, dxLend, deLend, dnsSeq, dnsRet, putM1, putM2, putM3, putM4, mkSt, lkM_seats, lkM_requests, lkM_sale, lkM_roads, lkM_lay, lkM_len, lkM_bet, lkM_pri, putM_roads, lenM, rdInI, rdEqS, dxLc_eq, dsFor_eq, rngD_0, rngD_eq, zipD_map, enumD_map0]
      refine ⟨leftL ss r q, rfl, by omega, fun mm hm hle => ⟨⟨_, rfl⟩, mm, rfl, ?_⟩⟩
      by_cases c : mm < 0
      · rw [if_pos c]
        exact o b (upto_stop U ⟨mm, hm, c⟩ h0)
      · rw [if_neg c]
        have ecut : cut (r.d :: rs.map Rq.d) (some ((1 : Nat) : Int)) none = rs.map Rq.d := cut_from _ 1 (by simp)
        have ecut : cut (r.d :: rs.map Rq.d) (some 1) none = rs.map Rq.d := ecut
        rw [ecut]
        refine ⟨.inl ⟨by omega, by omega⟩, _, leftL ss r q, rs, rfl, rfl, by omega, by omega, by simpa using hn, fun s hs => by rw [hll]; exact ok s (List.mem_cons_of_mem _ hs), fun s hs => by have := hle s hs; omega, fun v hv => ⟨⟨_, rfl⟩, v, rfl, by omega, by omega, by omega, by omega, ?_⟩⟩
        have U2 := upto_step U (by omega) hv
        rw [leftL_tab ss r q]
        refine fb_on (List.range (r.b - r.a).toNat) (fun j δ' => ∃ y : Sl, δ' = [.dat d1, .dat (.lst (r.d :: rs.map Rq.d)), .dat (.int r.a), .dat (.int r.b), .dat (.int r.f), .dat (.int r.m), .dat (.int (max b (r.f * (q : Int) + v))), .own (tab ss.length fun l => leftF ss r q l - if r.a ≤ (l : Int) ∧ (l : Int) < r.a + (j : Int) then 1 else 0), .dat (.int (q : Int)), y]) ⟨y, ?_⟩ (fun w2 j δ' hi hj => ?_) (fun δ' hj => ?_)
        · have e2 : (tab ss.length fun l => leftF ss r q l - if r.a ≤ (l : Int) ∧ (l : Int) < r.a + ((0 : Nat) : Int) then 1 else 0) = tab ss.length (leftF ss r q) := tab_ext fun l _ => by
            rw [if_neg (by omega)]
            omega
          rw [e2]
        · obtain ⟨y, rfl⟩ := hj
          obtain ⟨hi, ex⟩ := range_at hi
          subst ex
          obtain ⟨z, hz⟩ := Int.eq_ofNat_of_zero_le (show 0 ≤ r.a + (j : Int) by omega)
          have hzn : z < ss.length := by omega
          generalize hg : (fun l : Nat => leftF ss r q l - if r.a ≤ (l : Int) ∧ (l : Int) < r.a + (j : Int) then 1 else 0) = g
          have e3 : L2.atI (tab ss.length g) (z : Int) = some (.int (g z)) := by
            rw [atI_nat', tab_at hzn]
          simp [startD, wipeD, dsRet, dsRetN, dsIf, dsSeq, dsNext, dsAsg, dsDrop, dsBreak, dsCont, dsPar, dsAug, dsFrz, dsApp, dsExt, dsPut, dsAugO, dsOwn, dsParOO, dsParDO, dsParDDO, dsFrzA, dxRep, diOwn, dsRaise, deAnd, deOr, deNot, de1, de2, deB, deX, dxB, dxLst, deName, deC, deCall, deIxO, deLenO, deTup, deLst, daCons, daNil, daStar, deChain, dtChain, dtV, dtAnd, dtOr, dtNot, dtYes, deIf, deSl, doNone, doSome, rdAdd, rdSub, rdMul, rdMod, rdDiv, rdPow, rdI, rdIc, rdB, rdLt, rdLe, rdGt, rdGe, rdNeg, rdIs, rdEq, rdNe, rdIx, rdIsN, rdNotN, rdIsB, rdNotB, rdRev, rdSeats, rdCatL, rdCatT, rdRepL, rdLen, rdTuple, rdList, rxList, rdInt, rdMax2, rdMin2, dgName, dgTup, dgCons, dgNil, deRefused, rdRepr, rdNeS, rdEqL, rdNeL, rdRepT, rdIsLn, noOwn, diSeq, diEn, diZp, diR1, diR2, noX,  eqOk_int, eqOk_bl, eqOk_non, eqv_int, eqv_bl, eqv_non, atI_0, atI_1, atI_2, atI_3, qty_non, qisI_non, qisB_non, qisL_non, qisU_non, qisS_non, qisD_non, qisNon_non, qcooked_non, qseq_non, qty_bl, qisI_bl, qisB_bl, qisL_bl, qisU_bl, qisS_bl, qisD_bl, qisNon_bl, qcooked_bl, qseq_bl, qty_int, qisI_int, qisB_int, qisL_int, qisU_int, qisS_int, qisD_int, qisNon_int, qcooked_int, qseq_int, qty_str, qisI_str, qisB_str, qisL_str, qisU_str, qisS_str, qisD_str, qisNon_str, qcooked_str, qseq_str, qty_lst, qisI_lst, qisB_lst, qisL_lst, qisU_lst, qisS_lst, qisD_lst, qisNon_lst, qcooked_lst, qseq_lst, qty_tup, qisI_tup, qisB_tup, qisL_tup, qisU_tup, qisS_tup, qisD_tup, qisNon_tup, qcooked_tup, qseq_tup, qty_dct, qisI_dct, qisB_dct, qisL_dct, qisU_dct, qisS_dct, qisD_dct, qisNon_dct, qcooked_dct, qseq_dct, qix_lst, qsl_lst, qix_tup, qsl_tup, qisNon_ln, qcooked_ln, and_assoc, exists_and_left, exists_eq_left, exists_eq_left', exists_eq_right, deFget, dsFset, dsFsetO, deFix, dsFaug, dmCall, dmIx, dsDropM, dsAsgM, dmsSeq, dmsRet, dmsNil, dmsIf, dmsFrz, startM, dnMake, deNfld, deNmeth, dxLend, deLend, dnsSeq, dnsRet, putM1, putM2, putM3, putM4, mkSt, lkM_seats, lkM_requests, lkM_sale, lkM_roads, lkM_lay, lkM_len, lkM_bet, lkM_pri, putM_roads, lenM, rdInI, rdEqS, dxLc_eq, dsFor_eq, rngD_0, rngD_eq, zipD_map, enumD_map0, hz, e3, tab_length, ixN_of hzn]
          rw [tab_set]
          subst hg
          refine tab_ext fun l hl => ?_
          show (if l = z then (leftF ss r q z - if r.a ≤ (z : Int) ∧ (z : Int) < r.a + (j : Int) then 1 else 0) - 1 else leftF ss r q l - if r.a ≤ (l : Int) ∧ (l : Int) < r.a + (j : Int) then 1 else 0) = leftF ss r q l - if r.a ≤ (l : Int) ∧ (l : Int) < r.a + ((j : Int) + 1) then 1 else 0
          by_cases e : l = z
          · subst e
            rw [if_pos rfl, if_neg (by omega), if_pos (by omega)]
            omega
          · rw [if_neg e]
            by_cases c1 : r.a ≤ (l : Int) ∧ (l : Int) < r.a + (j : Int)
            · rw [if_pos (by omega), if_pos (by omega)]
            · rw [if_neg (by omega), if_neg (by omega)]
        · obtain ⟨y, rfl⟩ := hj
          refine ⟨_, ⟨.dat (.int (q : Int)), y, ?_⟩, U2⟩
          rw [List.length_range, leftL_tab]
          have e4 : (tab ss.length fun l => leftF ss r q l - if r.a ≤ (l : Int) ∧ (l : Int) < r.a + (((r.b - r.a).toNat : Nat) : Int) then 1 else 0) = tab ss.length (leftF ss r (q + 1)) := tab_ext fun l _ => by
            unfold leftF
            by_cases c1 : r.a ≤ (l : Int) ∧ (l : Int) < r.b
            · rw [if_pos c1, if_pos c1, if_pos (by omega)]
              omega
            · rw [if_neg c1, if_neg c1, if_neg (by omega)]
              omega
          rw [e4]
    · obtain ⟨b, x, y, rfl, U⟩ := hj
      rw [List.length_range] at U
      simp [startD, wipeD, dsRet, dsRetN, dsIf, dsSeq, dsNext, dsAsg, dsDrop, dsBreak, dsCont, dsPar, dsAug, dsFrz, dsApp, dsExt, dsPut, dsAugO, dsOwn, dsParOO, dsParDO, dsParDDO, dsFrzA, dxRep, diOwn, dsRaise, deAnd, deOr, deNot, de1, de2, deB, deX, dxB, dxLst, deName, deC, deCall, deIxO, deLenO, deTup, deLst, daCons, daNil, daStar, deChain, dtChain, dtV, dtAnd, dtOr, dtNot, dtYes, deIf, deSl, doNone, doSome, rdAdd, rdSub, rdMul, rdMod, rdDiv, rdPow, rdI, rdIc, rdB, rdLt, rdLe, rdGt, rdGe, rdNeg, rdIs, rdEq, rdNe, rdIx, rdIsN, rdNotN, rdIsB, rdNotB, rdRev, rdSeats, rdCatL, rdCatT, rdRepL, rdLen, rdTuple, rdList, rxList, rdInt, rdMax2, rdMin2, dgName, dgTup, dgCons, dgNil, deRefused, rdRepr, rdNeS, rdEqL, rdNeL, rdRepT, rdIsLn, noOwn, diSeq, diEn, diZp, diR1, diR2, noX,  eqOk_int, eqOk_bl, eqOk_non, eqv_int, eqv_bl, eqv_non, atI_0, atI_1, atI_2, atI_3, qty_non, qisI_non, qisB_non, qisL_non, qisU_non, qisS_non, qisD_non, qisNon_non, qcooked_non, qseq_non, qty_bl, qisI_bl, qisB_bl, qisL_bl, qisU_bl, qisS_bl, qisD_bl, qisNon_bl, qcooked_bl, qseq_bl, qty_int, qisI_int, qisB_int, qisL_int, qisU_int, qisS_int, qisD_int, qisNon_int, qcooked_int, qseq_int, qty_str, qisI_str, qisB_str, qisL_str, qisU_str, qisS_str, qisD_str, qisNon_str, qcooked_str, qseq_str, qty_lst, qisI_lst, qisB_lst, qisL_lst, qisU_lst, qisS_lst, qisD_lst, qisNon_lst, qcooked_lst, qseq_lst, qty_tup, qisI_tup, qisB_tup, qisL_tup, qisU_tup, qisS_tup, qisD_tup, qisNon_tup, qcooked_tup, qseq_tup, qty_dct, qisI_dct, qisB_dct, qisL_dct, qisU_dct, qisS_dct, qisD_dct, qisNon_dct, qcooked_dct, qseq_dct, qix_lst, qsl_lst, qix_tup, qsl_tup, qisNon_ln, qcooked_ln, and_assoc, exists_and_left, exists_eq_left, exists_eq_left', exists_eq_right, deFget, dsFset, dsFsetO, deFix, dsFaug, dmCall, dmIx, dsDropM, dsAsgM, dmsSeq, dmsRet, dmsNil, dmsIf, dmsFrz, startM, dnMake, deNfld, deNmeth, dxLend, deLend, dnsSeq, dnsRet, putM1, putM2, putM3, putM4, mkSt, lkM_seats, lkM_requests, lkM_sale, lkM_roads, lkM_lay, lkM_len, lkM_bet, lkM_pri, putM_roads, lenM, rdInI, rdEqS, dxLc_eq, dsFor_eq, rngD_0, rngD_eq, zipD_map, enumD_map0]
      exact o b (upto_all U (by omega))
theorem ok__law_most (T : Txt K mg) {f : Addr} {fd : FuncData} (F : FnP K "_law_most" s__law_most f fd) (hm : mg "_law_most" = some (.ref f)) (hb : Binds K fd ["seats", "asks"] []) : FnOk P w K mg base (L2.CX P w) 6 f fd ["seats", "asks"] (spD K sp__law_most) := by
  have zero : FnOk P w K mg base (L2.CX P w) 1 f fd ["seats", "asks"] (spD K (spMost 0)) :=
    fnD (k := 0) F sc__law_most (fun F ds O ⟨_, _, _, _, _, _, _, h, _⟩ => absurd h (Nat.not_lt_zero _)) (fun cdv A outer s G E ds O hr ⟨_, _, _, _, _, _, _, h, _⟩ hE => absurd h (Nat.not_lt_zero _))
  have all : ∀ n : Nat, FnOk P w K mg base (L2.CX P w) (n + 1) f fd ["seats", "asks"] (spD K (spMost n)) := by
    intro n
    induction n with
    | zero => exact zero
    | succ n ih => exact most_step T F n (n + 1) (Cl.mk' F ih hm hb)
  exact all 5

end
end K12
end
-- F_12__law_more
section
set_option Elab.async false
set_option linter.all false
set_option maxRecDepth 100000
set_option maxHeartbeats 4000000
set_option autoImplicit false
namespace K12
open PySem PySem.Spec PyProof.Rows L2 Sd
section
variable {P : Program} {w : World} {K : PySem.W.Frag} {mg : Str → Option Value} {base : Heap}
theorem ok__law_more (T : Txt K mg) {f : Addr} {fd : FuncData} (F : FnP K "_law_more" s__law_more f fd)   : FnOk P w K mg base (L2.CX P w) 1 f fd ["seats", "leg", "more"] (spD K sp__law_more) := by
  have sc := sc__law_more
  refine fnD F sc (fun F ds O h => by
    obtain ⟨_, _, _, e, _⟩ := h
    rw [e] <;> rfl) (fun cdv A outer s G E ds O hr h hE => ⟨_, (pssd_one (psd_ret (pd_catT (pd_catT (pd_slice (pd_name (pv 0)) pod_none (pod_some (pd_name (pv 1)))) (pd_tup (pad_cons (pd_add (pd_item (pd_name (pv 0)) (pd_name (pv 1))) (pd_name (pv 2))) pad_nil))) (pd_slice (pd_name (pv 0)) (pod_some (pd_add (pd_name (pv 1)) pd_int)) pod_none)))), ?_⟩)
  obtain ⟨ss, leg, k, rfl, h⟩ := h
  obtain ⟨hl, h1, o⟩ := h
  simp [startD, wipeD, dsRet, dsRetN, dsIf, dsSeq, dsNext, dsAsg, dsDrop, dsBreak, dsCont, dsPar, dsAug, dsFrz, dsApp, dsExt, dsPut, dsAugO, dsOwn, dsParOO, dsParDO, dsParDDO, dsFrzA, dxRep, diOwn, dsRaise, deAnd, deOr, deNot, de1, de2, deB, deX, dxB, dxLst, deName, deC, deCall, deIxO, deLenO, deTup, deLst, daCons, daNil, daStar, deChain, dtChain, dtV, dtAnd, dtOr, dtNot, dtYes, deIf, deSl, doNone, doSome, rdAdd, rdSub, rdMul, rdMod, rdDiv, rdPow, rdI, rdIc, rdB, rdLt, rdLe, rdGt, rdGe, rdNeg, rdIs, rdEq, rdNe, rdIx, rdIsN, rdNotN, rdIsB, rdNotB, rdRev, rdSeats, rdCatL, rdCatT, rdRepL, rdLen, rdTuple, rdList, rxList, rdInt, rdMax2, rdMin2, dgName, dgTup, dgCons, dgNil, deRefused, rdRepr, rdNeS, rdEqL, rdNeL, rdRepT, rdIsLn, noOwn, diSeq, diEn, diZp, diR1, diR2, noX,  eqOk_int, eqOk_bl, eqOk_non, eqv_int, eqv_bl, eqv_non, atI_0, atI_1, atI_2, atI_3, qty_non, qisI_non, qisB_non, qisL_non, qisU_non, qisS_non, qisD_non, qisNon_non, qcooked_non, qseq_non, qty_bl, qisI_bl, qisB_bl, qisL_bl, qisU_bl, qisS_bl, qisD_bl, qisNon_bl, qcooked_bl, qseq_bl, qty_int, qisI_int, qisB_int, qisL_int, qisU_int, qisS_int, qisD_int, qisNon_int, qcooked_int, qseq_int, qty_str, qisI_str, qisB_str, qisL_str, qisU_str, qisS_str, qisD_str, qisNon_str, qcooked_str, qseq_str, qty_lst, qisI_lst, qisB_lst, qisL_lst, qisU_lst, qisS_lst, qisD_lst, qisNon_lst, qcooked_lst, qseq_lst, qty_tup, qisI_tup, qisB_tup, qisL_tup, qisU_tup, qisS_tup, qisD_tup, qisNon_tup, qcooked_tup, qseq_tup, qty_dct, qisI_dct, qisB_dct, qisL_dct, qisU_dct, qisS_dct, qisD_dct, qisNon_dct, qcooked_dct, qseq_dct, qix_lst, qsl_lst, qix_tup, qsl_tup, qisNon_ln, qcooked_ln, and_assoc, exists_and_left, exists_eq_left, exists_eq_left', exists_eq_right, deFget, dsFset, dsFsetO, deFix, dsFaug, dmCall, dmIx, dsDropM, dsAsgM, dmsSeq, dmsRet, dmsNil, dmsIf, dmsFrz, startM, dnMake, deNfld, deNmeth, dxLend, deLend, dnsSeq, dnsRet, putM1, putM2, putM3, putM4, mkSt, lkM_seats, lkM_requests, lkM_sale, lkM_roads, lkM_lay, lkM_len, lkM_bet, lkM_pri, putM_roads, lenM, rdInI, rdEqS, dxLc_eq, dsFor_eq, rngD_0, rngD_eq, zipD_map, enumD_map0]
  have hc := cut_lens hl
  refine ⟨_, atM hl, _, rfl, by omega, by omega, ?_⟩
  rw [seat_cut k hl]
  exact o
end
end K12
end
-- F_12__law_takes_one
section
set_option Elab.async false
set_option linter.all false
set_option maxRecDepth 100000
set_option maxHeartbeats 4000000
set_option autoImplicit false
namespace K12
open PySem PySem.Spec PyProof.Rows L2 Sd
section
variable {P : Program} {w : World} {K : PySem.W.Frag} {mg : Str → Option Value} {base : Heap}
theorem ok__law_takes_one (T : Txt K mg) {f : Addr} {fd : FuncData} (F : FnP K "_law_takes_one" s__law_takes_one f fd) (c__law_most : Cl P w K mg base 6 "_law_most" sp__law_most [])  : FnOk P w K mg base (L2.CX P w) 7 f fd ["seats", "asks", "at", "fare"] (spD K sp__law_takes_one) := by
  have sc := sc__law_takes_one
  refine fnD F sc (fun F ds O h => by
    obtain ⟨_, _, _, _, _, e, _⟩ := h
    rw [e] <;> rfl) (fun cdv A outer s G E ds O hr h hE => ⟨_, (pssd_cons (psd_asg (pd_item (pd_name (pv 1)) (pd_name (pv 2))) (pgd_tup (n := 4) (pgsd_cons (pgd_name (i := 4) sc.nd rfl (Or.inr rfl)) (pgsd_cons (pgd_name (i := 5) sc.nd rfl (Or.inr rfl)) (pgsd_cons (pgd_name (i := 6) sc.nd rfl (Or.inl rfl)) (pgsd_cons (pgd_name (i := 7) sc.nd rfl (Or.inl rfl)) pgsd_nil))))))
  (pssd_cons (psd_set (i := 8) sc.nd rfl (Or.inl rfl) (pd_catL (pd_slice (pd_name (pv 1)) pod_none (pod_some (pd_name (pv 2)))) (pd_slice (pd_name (pv 1)) (pod_some (pd_add (pd_name (pv 2)) pd_int)) pod_none)))
  (pssd_cons (psd_if (ptd_ne hr.units (pd_x (pxd_lc (own := [(("leg" : Str), 11)]) sc.nd (pid_r2 T.b_range (pad_cons (pd_name (pv 4)) (pad_cons (pd_name (pv 5)) pad_nil))) (by kernel_rfl) (fun _ _ _ _ _ => (pgc_name (i := 11) sc.nd rfl (by first | exact Or.inl rfl | exact Or.inr rfl) (by decide))) (fun _ _ _ _ _ => (ptsd_one (ptd_eq hr.units (pd_item (pd_name (pv 0)) (pd_name (pv 11))) pd_int))) (fun _ _ _ _ _ => (pd_name (pv 11))))) (pd_lst pad_nil))
  (pssd_one (psd_ret pd_bl))
  pssd_nil)
  (pssd_cons (psd_set (i := 9) sc.nd rfl (Or.inl rfl) (pd_callTy call_tuple_of snd_tuple T.b_tuple (pad_cons (pd_x (pxd_lc (own := [(("leg" : Str), 11), (("one" : Str), 12)]) sc.nd (pid_en T.b_enumerate (pad_cons (pd_name (pv 0)) pad_nil)) (by kernel_rfl) (fun _ _ _ _ _ => (pgc_tup (n := 2) (pgcs_cons (pgc_name (i := 11) sc.nd rfl (by first | exact Or.inl rfl | exact Or.inr rfl) (by decide)) (pgcs_cons (pgc_name (i := 12) sc.nd rfl (by first | exact Or.inl rfl | exact Or.inr rfl) (by decide)) pgcs_nil)))) (fun _ _ _ _ _ => ptsd_nil) (fun _ _ _ _ _ => (pd_ifExp (ptd_lelt (pd_name (pv 4)) (pd_name (pv 11)) (pd_name (pv 5))) (pd_sub (pd_name (pv 12)) pd_int) (pd_name (pv 12)))))) pad_nil)))
  (pssd_cons (psd_set (i := 10) sc.nd rfl (Or.inl rfl) (pd_catL (pd_name (pv 8)) (pd_ifExp (ptd_gt (pd_name (pv 7)) pd_int) (pd_lst (pad_cons (pd_tup (pad_cons (pd_name (pv 4)) (pad_cons (pd_name (pv 5)) (pad_cons (pd_name (pv 3)) (pad_cons (pd_sub (pd_name (pv 7)) pd_int) pad_nil))))) pad_nil)) (pd_lst pad_nil))))
  (pssd_one (psd_ret (pd_eq hr.units (pd_add (pd_name (pv 3)) (pd_call c__law_most hr (by first | decide | omega) (pad_cons (pd_name (pv 9)) (pad_cons (pd_name (pv 10)) pad_nil)))) (pd_call c__law_most hr (by first | decide | omega) (pad_cons (pd_name (pv 0)) (pad_cons (pd_catL (pd_name (pv 8)) (pd_lst (pad_cons (pd_tup (pad_cons (pd_name (pv 4)) (pad_cons (pd_name (pv 5)) (pad_cons (pd_name (pv 3)) (pad_cons (pd_name (pv 7)) pad_nil))))) pad_nil))) pad_nil))))))))))), ?_⟩)
  obtain ⟨ss, rs, n, r, f, rfl, h⟩ := h
  obtain ⟨M, s1, r5, f1, f2, o⟩ := h
  simp [startD, wipeD, dsRet, dsRetN, dsIf, dsSeq, dsNext, dsAsg, dsDrop, dsBreak, dsCont, dsPar, dsAug, dsFrz, dsApp, dsExt, dsPut, dsAugO, dsOwn, dsParOO, dsParDO, dsParDDO, dsFrzA, dxRep, diOwn, dsRaise, deAnd, deOr, deNot, de1, de2, deB, deX, dxB, dxLst, deName, deC, deCall, deIxO, deLenO, deTup, deLst, daCons, daNil, daStar, deChain, dtChain, dtV, dtAnd, dtOr, dtNot, dtYes, deIf, deSl, doNone, doSome, rdAdd, rdSub, rdMul, rdMod, rdDiv, rdPow, rdI, rdIc, rdB, rdLt, rdLe, rdGt, rdGe, rdNeg, rdIs, rdEq, rdNe, rdIx, rdIsN, rdNotN, rdIsB, rdNotB, rdRev, rdSeats, rdCatL, rdCatT, rdRepL, rdLen, rdTuple, rdList, rxList, rdInt, rdMax2, rdMin2, dgName, dgTup, dgCons, dgNil, deRefused, rdRepr, rdNeS, rdEqL, rdNeL, rdRepT, rdIsLn, noOwn, diSeq, diEn, diZp, diR1, diR2, noX,  eqOk_int, eqOk_bl, eqOk_non, eqv_int, eqv_bl, eqv_non, atI_0, atI_1, atI_2, atI_3, qty_non, qisI_non, qisB_non, qisL_non, qisU_non, qisS_non, qisD_non, qisNon_non, qcooked_non, qseq_non, qty_bl, qisI_bl, qisB_bl, qisL_bl, qisU_bl, qisS_bl, qisD_bl, qisNon_bl, qcooked_bl, qseq_bl, qty_int, qisI_int, qisB_int, qisL_int, qisU_int, qisS_int, qisD_int, qisNon_int, qcooked_int, qseq_int, qty_str, qisI_str, qisB_str, qisL_str, qisU_str, qisS_str, qisD_str, qisNon_str, qcooked_str, qseq_str, qty_lst, qisI_lst, qisB_lst, qisL_lst, qisU_lst, qisS_lst, qisD_lst, qisNon_lst, qcooked_lst, qseq_lst, qty_tup, qisI_tup, qisB_tup, qisL_tup, qisU_tup, qisS_tup, qisD_tup, qisNon_tup, qcooked_tup, qseq_tup, qty_dct, qisI_dct, qisB_dct, qisL_dct, qisU_dct, qisS_dct, qisD_dct, qisNon_dct, qcooked_dct, qseq_dct, qix_lst, qsl_lst, qix_tup, qsl_tup, qisNon_ln, qcooked_ln, and_assoc, exists_and_left, exists_eq_left, exists_eq_left', exists_eq_right, deFget, dsFset, dsFsetO, deFix, dsFaug, dmCall, dmIx, dsDropM, dsAsgM, dmsSeq, dmsRet, dmsNil, dmsIf, dmsFrz, startM, dnMake, deNfld, deNmeth, dxLend, deLend, dnsSeq, dnsRet, putM1, putM2, putM3, putM4, mkSt, lkM_seats, lkM_requests, lkM_sale, lkM_roads, lkM_lay, lkM_len, lkM_bet, lkM_pri, putM_roads, lenM, rdInI, rdEqS, sp__law_most, dxLc_eq, dsFor_eq, rngD_0, rngD_eq, zipD_map, enumD_map0]
  have hr := M.at_
  have hlt : n < rs.length := (List.getElem?_eq_some_iff.mp hr).1
  have okr := M.ok r (List.mem_of_getElem? hr)
  have m1 := okr.m1
  have hw : ∀ {g : Int}, (withR rs n r f g).length ≤ rs.length := withR_len hlt
  have okF : ∀ q ∈ withR rs n r f r.m, q.Ok ss.length := withR_ok M.ok okr f1 f2 (by omega) (by omega)
  have okL : ∀ q ∈ withR rs n r f (r.m - 1), q.Ok ss.length := withR_ok M.ok okr f1 f2 (by omega) (by omega)
  have hwF := hw (g := r.m)
  have hwL := hw (g := r.m - 1)
  have hcl := cutR_lens hlt
  have hix : L2.atI (rs.map Rq.d) (n : Int) = some r.d := by rw [atI_nat', List.getElem?_map, hr]; rfl
  have sl := M.sl
  have okb := okr.bn
  have oka := okr.a0
  have okab := okr.ab
  refine ⟨r.d, hix, _, rfl, rfl, _, _, rfl, _, _, rfl, _, _, rfl, _, _, rfl, rfl, by omega, r.a, rfl, r.b, rfl, by omega, by omega, by omega, by omega, ?_⟩
  have zip2 : ∀ {R : D → Prop} (p : Int × Nat), R (D.int (if r.a ≤ (p.2 : Int) ∧ (p.2 : Int) < r.b then p.1 - 1 else p.1)) → (if r.a ≤ (p.2 : Int) then if (p.2 : Int) < r.b then R (D.int (p.1 - 1)) else R (D.int p.1) else R (D.int p.1)) := fun p hR => by
    by_cases c1 : r.a ≤ (p.2 : Int)
    · rw [if_pos c1]
      by_cases c2 : (p.2 : Int) < r.b
      · rw [if_pos c2]
        rw [if_pos ⟨c1, c2⟩] at hR
        exact hR
      · rw [if_neg c2]
        rw [if_neg (fun z => c2 z.2)] at hR
        exact hR
    · rw [if_neg c1]
      rw [if_neg (fun z => c1 z.1)] at hR
      exact hR
  refine lb_onF (List.range (r.b - r.a).toNat) (fun i => .int (r.a + (i : Int))) (fun i => decide (miAt ss (r.a + (i : Int)).toNat = 0)) (by rw [List.length_range]; omega) (fun i hi R1 R2 k1 k2 => ?_) ?_
  · have hi := List.mem_range.mp hi
    obtain ⟨z, hz⟩ := Int.eq_ofNat_of_zero_le (show 0 ≤ r.a + (i : Int) by omega)
    have hzl : z < ss.length := by omega
    rw [hz] at k1 k2
    rw [hz]
    rw [Int.toNat_natCast] at k1 k2
    simp [startD, wipeD, dsRet, dsRetN, dsIf, dsSeq, dsNext, dsAsg, dsDrop, dsBreak, dsCont, dsPar, dsAug, dsFrz, dsApp, dsExt, dsPut, dsAugO, dsOwn, dsParOO, dsParDO, dsParDDO, dsFrzA, dxRep, diOwn, dsRaise, deAnd, deOr, deNot, de1, de2, deB, deX, dxB, dxLst, deName, deC, deCall, deIxO, deLenO, deTup, deLst, daCons, daNil, daStar, deChain, dtChain, dtV, dtAnd, dtOr, dtNot, dtYes, deIf, deSl, doNone, doSome, rdAdd, rdSub, rdMul, rdMod, rdDiv, rdPow, rdI, rdIc, rdB, rdLt, rdLe, rdGt, rdGe, rdNeg, rdIs, rdEq, rdNe, rdIx, rdIsN, rdNotN, rdIsB, rdNotB, rdRev, rdSeats, rdCatL, rdCatT, rdRepL, rdLen, rdTuple, rdList, rxList, rdInt, rdMax2, rdMin2, dgName, dgTup, dgCons, dgNil, deRefused, rdRepr, rdNeS, rdEqL, rdNeL, rdRepT, rdIsLn, noOwn, diSeq, diEn, diZp, diR1, diR2, noX,  eqOk_int, eqOk_bl, eqOk_non, eqv_int, eqv_bl, eqv_non, atI_0, atI_1, atI_2, atI_3, qty_non, qisI_non, qisB_non, qisL_non, qisU_non, qisS_non, qisD_non, qisNon_non, qcooked_non, qseq_non, qty_bl, qisI_bl, qisB_bl, qisL_bl, qisU_bl, qisS_bl, qisD_bl, qisNon_bl, qcooked_bl, qseq_bl, qty_int, qisI_int, qisB_int, qisL_int, qisU_int, qisS_int, qisD_int, qisNon_int, qcooked_int, qseq_int, qty_str, qisI_str, qisB_str, qisL_str, qisU_str, qisS_str, qisD_str, qisNon_str, qcooked_str, qseq_str, qty_lst, qisI_lst, qisB_lst, qisL_lst, qisU_lst, qisS_lst, qisD_lst, qisNon_lst, qcooked_lst, qseq_lst, qty_tup, qisI_tup, qisB_tup, qisL_tup, qisU_tup, qisS_tup, qisD_tup, qisNon_tup, qcooked_tup, qseq_tup, qty_dct, qisI_dct, qisB_dct, qisL_dct, qisU_dct, qisS_dct, qisD_dct, qisNon_dct, qcooked_dct, qseq_dct, qix_lst, qsl_lst, qix_tup, qsl_tup, qisNon_ln, qcooked_ln, and_assoc, exists_and_left, exists_eq_left, exists_eq_left', exists_eq_right, deFget, dsFset, dsFsetO, deFix, dsFaug, dmCall, dmIx, dsDropM, dsAsgM, dmsSeq, dmsRet, dmsNil, dmsIf, dmsFrz, startM, dnMake, deNfld, deNmeth, dxLend, deLend, dnsSeq, dnsRet, putM1, putM2, putM3, putM4, mkSt, lkM_seats, lkM_requests, lkM_sale, lkM_roads, lkM_lay, lkM_len, lkM_bet, lkM_pri, putM_roads, lenM, rdInI, rdEqS, sp__law_most, dxLc_eq, dsFor_eq, rngD_0, rngD_eq, zipD_map, enumD_map0, atM hzl]
    split
    · rename_i c
      exact k1 (decide_eq_true c)
    · rename_i c
      exact k2 (decide_eq_false c)
  · have hsf := span_filter okr
    generalize hL : ((List.range (r.b - r.a).toNat).filter fun i : Nat => decide (miAt ss (r.a + (i : Int)).toNat = 0)) = L at hsf
    have eL : L.map (fun i : Nat => D.int (r.a + (i : Int))) = (L.map fun i : Nat => r.a + (i : Int)).map D.int := by rw [List.map_map]; rfl
    rw [eL]
    refine ⟨eqOk_ints _, rfl, ?_⟩
    rw [eqv_lst0]
    by_cases hp : SpanPos ss r
    · rw [hsf.mpr hp]
      refine .inl ⟨rfl, lb_on ss.zipIdx (fun p => .int (if r.a ≤ (p.2 : Int) ∧ (p.2 : Int) < r.b then p.1 - 1 else p.1)) (by rw [List.length_zipIdx]; omega) (fun p hp2 R hR => ?_) ?_⟩
      · simp [startD, wipeD, dsRet, dsRetN, dsIf, dsSeq, dsNext, dsAsg, dsDrop, dsBreak, dsCont, dsPar, dsAug, dsFrz, dsApp, dsExt, dsPut, dsAugO, dsOwn, dsParOO, dsParDO, dsParDDO, dsFrzA, dxRep, diOwn, dsRaise, deAnd, deOr, deNot, de1, de2, deB, deX, dxB, dxLst, deName, deC, deCall, deIxO, deLenO, deTup, deLst, daCons, daNil, daStar, deChain, dtChain, dtV, dtAnd, dtOr, dtNot, dtYes, deIf, deSl, doNone, doSome, rdAdd, rdSub, rdMul, rdMod, rdDiv, rdPow, rdI, rdIc, rdB, rdLt, rdLe, rdGt, rdGe, rdNeg, rdIs, rdEq, rdNe, rdIx, rdIsN, rdNotN, rdIsB, rdNotB, rdRev, rdSeats, rdCatL, rdCatT, rdRepL, rdLen, rdTuple, rdList, rxList, rdInt, rdMax2, rdMin2, dgName, dgTup, dgCons, dgNil, deRefused, rdRepr, rdNeS, rdEqL, rdNeL, rdRepT, rdIsLn, noOwn, diSeq, diEn, diZp, diR1, diR2, noX,  eqOk_int, eqOk_bl, eqOk_non, eqv_int, eqv_bl, eqv_non, atI_0, atI_1, atI_2, atI_3, qty_non, qisI_non, qisB_non, qisL_non, qisU_non, qisS_non, qisD_non, qisNon_non, qcooked_non, qseq_non, qty_bl, qisI_bl, qisB_bl, qisL_bl, qisU_bl, qisS_bl, qisD_bl, qisNon_bl, qcooked_bl, qseq_bl, qty_int, qisI_int, qisB_int, qisL_int, qisU_int, qisS_int, qisD_int, qisNon_int, qcooked_int, qseq_int, qty_str, qisI_str, qisB_str, qisL_str, qisU_str, qisS_str, qisD_str, qisNon_str, qcooked_str, qseq_str, qty_lst, qisI_lst, qisB_lst, qisL_lst, qisU_lst, qisS_lst, qisD_lst, qisNon_lst, qcooked_lst, qseq_lst, qty_tup, qisI_tup, qisB_tup, qisL_tup, qisU_tup, qisS_tup, qisD_tup, qisNon_tup, qcooked_tup, qseq_tup, qty_dct, qisI_dct, qisB_dct, qisL_dct, qisU_dct, qisS_dct, qisD_dct, qisNon_dct, qcooked_dct, qseq_dct, qix_lst, qsl_lst, qix_tup, qsl_tup, qisNon_ln, qcooked_ln, and_assoc, exists_and_left, exists_eq_left, exists_eq_left', exists_eq_right, deFget, dsFset, dsFsetO, deFix, dsFaug, dmCall, dmIx, dsDropM, dsAsgM, dmsSeq, dmsRet, dmsNil, dmsIf, dmsFrz, startM, dnMake, deNfld, deNmeth, dxLend, deLend, dnsSeq, dnsRet, putM1, putM2, putM3, putM4, mkSt, lkM_seats, lkM_requests, lkM_sale, lkM_roads, lkM_lay, lkM_len, lkM_bet, lkM_pri, putM_roads, lenM, rdInI, rdEqS, sp__law_most, dxLc_eq, dsFor_eq, rngD_0, rngD_eq, zipD_map, enumD_map0]
        exact zip2 p hR
      · rw [left1_zip]
        have l0 := left1_pos M.s0 hp
        have okL1 : ∀ q ∈ withR rs n r f (r.m - 1), q.Ok (leftL ss r 1).length := by rw [leftL_len]; exact okL
        have ll := leftL_len ss r 1
        refine ⟨r.m, rfl, ?_⟩
        by_cases c : 1 < r.m
        · rw [if_pos c]
          refine ⟨r.m, rfl, by omega, _, leftL ss r 1, withR rs n r f (r.m - 1), by rw [withR_cut hlt (by omega)], rfl, by omega, by omega, by omega, okL1, l0, fun w hw2 => ⟨w, rfl, by omega, _, ss, withR rs n r f r.m, by rw [withR_cut hlt (by omega)], rfl, s1, by omega, by omega, okF, M.s0, fun v hv => ⟨rfl, ?_⟩⟩⟩
          rw [takes_eq hp hv hw2] at o
          rw [eqv_int]
          exact o
        · rw [if_neg c]
          refine ⟨by omega, _, leftL ss r 1, withR rs n r f (r.m - 1), by rw [withR_cut0 (f := f) hlt (show r.m - 1 = 0 by omega)], rfl, by omega, by omega, by omega, okL1, l0, fun w hw2 => ⟨w, rfl, by omega, _, ss, withR rs n r f r.m, by rw [withR_cut hlt (by omega)], rfl, s1, by omega, by omega, okF, M.s0, fun v hv => ⟨rfl, ?_⟩⟩⟩
          rw [takes_eq hp hv hw2] at o
          rw [eqv_int]
          exact o
    · refine .inr ⟨?_, ?_⟩
      · cases L with
        | nil => exact absurd (hsf.mp rfl) hp
        | cons a L => rfl
      · rw [takes_no hp] at o
        exact o
end
end K12
end
-- F_12__law_leaves_one
section
set_option Elab.async false
set_option linter.all false
set_option maxRecDepth 100000
set_option maxHeartbeats 4000000
set_option autoImplicit false
namespace K12
open PySem PySem.Spec PyProof.Rows L2 Sd
section
variable {P : Program} {w : World} {K : PySem.W.Frag} {mg : Str → Option Value} {base : Heap}
theorem ok__law_leaves_one (T : Txt K mg) {f : Addr} {fd : FuncData} (F : FnP K "_law_leaves_one" s__law_leaves_one f fd) (c__law_most : Cl P w K mg base 6 "_law_most" sp__law_most [])  : FnOk P w K mg base (L2.CX P w) 7 f fd ["seats", "asks", "at", "fare"] (spD K sp__law_leaves_one) := by
  have sc := sc__law_leaves_one
  refine fnD F sc (fun F ds O h => by
    obtain ⟨_, _, _, _, _, e, _⟩ := h
    rw [e] <;> rfl) (fun cdv A outer s G E ds O hr h hE => ⟨_, (pssd_cons (psd_asg (pd_item (pd_name (pv 1)) (pd_name (pv 2))) (pgd_tup (n := 4) (pgsd_cons (pgd_name (i := 4) sc.nd rfl (Or.inl rfl)) (pgsd_cons (pgd_name (i := 5) sc.nd rfl (Or.inl rfl)) (pgsd_cons (pgd_name (i := 6) sc.nd rfl (Or.inl rfl)) (pgsd_cons (pgd_name (i := 7) sc.nd rfl (Or.inl rfl)) pgsd_nil))))))
  (pssd_cons (psd_set (i := 8) sc.nd rfl (Or.inl rfl) (pd_catL (pd_slice (pd_name (pv 1)) pod_none (pod_some (pd_name (pv 2)))) (pd_slice (pd_name (pv 1)) (pod_some (pd_add (pd_name (pv 2)) pd_int)) pod_none)))
  (pssd_cons (psd_set (i := 9) sc.nd rfl (Or.inl rfl) (pd_catL (pd_name (pv 8)) (pd_ifExp (ptd_gt (pd_name (pv 7)) pd_int) (pd_lst (pad_cons (pd_tup (pad_cons (pd_name (pv 4)) (pad_cons (pd_name (pv 5)) (pad_cons (pd_name (pv 3)) (pad_cons (pd_sub (pd_name (pv 7)) pd_int) pad_nil))))) pad_nil)) (pd_lst pad_nil))))
  (pssd_one (psd_ret (pd_eq hr.units (pd_call c__law_most hr (by first | decide | omega) (pad_cons (pd_name (pv 0)) (pad_cons (pd_name (pv 9)) pad_nil))) (pd_call c__law_most hr (by first | decide | omega) (pad_cons (pd_name (pv 0)) (pad_cons (pd_catL (pd_name (pv 8)) (pd_lst (pad_cons (pd_tup (pad_cons (pd_name (pv 4)) (pad_cons (pd_name (pv 5)) (pad_cons (pd_name (pv 3)) (pad_cons (pd_name (pv 7)) pad_nil))))) pad_nil))) pad_nil))))))))), ?_⟩)
  obtain ⟨ss, rs, n, r, f, rfl, h⟩ := h
  obtain ⟨M, s1, r5, f1, f2, o⟩ := h
  simp [startD, wipeD, dsRet, dsRetN, dsIf, dsSeq, dsNext, dsAsg, dsDrop, dsBreak, dsCont, dsPar, dsAug, dsFrz, dsApp, dsExt, dsPut, dsAugO, dsOwn, dsParOO, dsParDO, dsParDDO, dsFrzA, dxRep, diOwn, dsRaise, deAnd, deOr, deNot, de1, de2, deB, deX, dxB, dxLst, deName, deC, deCall, deIxO, deLenO, deTup, deLst, daCons, daNil, daStar, deChain, dtChain, dtV, dtAnd, dtOr, dtNot, dtYes, deIf, deSl, doNone, doSome, rdAdd, rdSub, rdMul, rdMod, rdDiv, rdPow, rdI, rdIc, rdB, rdLt, rdLe, rdGt, rdGe, rdNeg, rdIs, rdEq, rdNe, rdIx, rdIsN, rdNotN, rdIsB, rdNotB, rdRev, rdSeats, rdCatL, rdCatT, rdRepL, rdLen, rdTuple, rdList, rxList, rdInt, rdMax2, rdMin2, dgName, dgTup, dgCons, dgNil, deRefused, rdRepr, rdNeS, rdEqL, rdNeL, rdRepT, rdIsLn, noOwn, diSeq, diEn, diZp, diR1, diR2, noX,  eqOk_int, eqOk_bl, eqOk_non, eqv_int, eqv_bl, eqv_non, atI_0, atI_1, atI_2, atI_3, qty_non, qisI_non, qisB_non, qisL_non, qisU_non, qisS_non, qisD_non, qisNon_non, qcooked_non, qseq_non, qty_bl, qisI_bl, qisB_bl, qisL_bl, qisU_bl, qisS_bl, qisD_bl, qisNon_bl, qcooked_bl, qseq_bl, qty_int, qisI_int, qisB_int, qisL_int, qisU_int, qisS_int, qisD_int, qisNon_int, qcooked_int, qseq_int, qty_str, qisI_str, qisB_str, qisL_str, qisU_str, qisS_str, qisD_str, qisNon_str, qcooked_str, qseq_str, qty_lst, qisI_lst, qisB_lst, qisL_lst, qisU_lst, qisS_lst, qisD_lst, qisNon_lst, qcooked_lst, qseq_lst, qty_tup, qisI_tup, qisB_tup, qisL_tup, qisU_tup, qisS_tup, qisD_tup, qisNon_tup, qcooked_tup, qseq_tup, qty_dct, qisI_dct, qisB_dct, qisL_dct, qisU_dct, qisS_dct, qisD_dct, qisNon_dct, qcooked_dct, qseq_dct, qix_lst, qsl_lst, qix_tup, qsl_tup, qisNon_ln, qcooked_ln, and_assoc, exists_and_left, exists_eq_left, exists_eq_left', exists_eq_right, deFget, dsFset, dsFsetO, deFix, dsFaug, dmCall, dmIx, dsDropM, dsAsgM, dmsSeq, dmsRet, dmsNil, dmsIf, dmsFrz, startM, dnMake, deNfld, deNmeth, dxLend, deLend, dnsSeq, dnsRet, putM1, putM2, putM3, putM4, mkSt, lkM_seats, lkM_requests, lkM_sale, lkM_roads, lkM_lay, lkM_len, lkM_bet, lkM_pri, putM_roads, lenM, rdInI, rdEqS, sp__law_most, dxLc_eq, dsFor_eq, rngD_0, rngD_eq, zipD_map, enumD_map0]
  have hr := M.at_
  have hlt : n < rs.length := (List.getElem?_eq_some_iff.mp hr).1
  have okr := M.ok r (List.mem_of_getElem? hr)
  have m1 := okr.m1
  have hw : ∀ {g : Int}, (withR rs n r f g).length ≤ rs.length := withR_len hlt
  have okF : ∀ q ∈ withR rs n r f r.m, q.Ok ss.length := withR_ok M.ok okr f1 f2 (by omega) (by omega)
  have okL : ∀ q ∈ withR rs n r f (r.m - 1), q.Ok ss.length := withR_ok M.ok okr f1 f2 (by omega) (by omega)
  have hwF := hw (g := r.m)
  have hwL := hw (g := r.m - 1)
  have hcl := cutR_lens hlt
  have hix : L2.atI (rs.map Rq.d) (n : Int) = some r.d := by rw [atI_nat', List.getElem?_map, hr]; rfl
  have sl := M.sl
  refine ⟨r.d, hix, _, rfl, rfl, _, _, rfl, _, _, rfl, _, _, rfl, _, _, rfl, rfl, by omega, r.m, rfl, ?_⟩
  by_cases c : 1 < r.m
  · rw [if_pos c]
    refine ⟨r.m, rfl, by omega, _, ss, withR rs n r f (r.m - 1), by rw [withR_cut hlt (by omega)], rfl, s1, by omega, by omega, okL, M.s0, fun w hw2 => ⟨by omega, _, ss, withR rs n r f r.m, by rw [withR_cut hlt (by omega)], rfl, s1, by omega, by omega, okF, M.s0, fun v hv => ⟨rfl, rfl, ?_⟩⟩⟩
    rw [leaves_eq hv hw2] at o
    rw [eqv_int]
    exact o
  · rw [if_neg c]
    refine ⟨by omega, _, ss, withR rs n r f (r.m - 1), by rw [withR_cut0 (f := f) hlt (show r.m - 1 = 0 by omega)], rfl, s1, by omega, by omega, okL, M.s0, fun w hw2 => ⟨by omega, _, ss, withR rs n r f r.m, by rw [withR_cut hlt (by omega)], rfl, s1, by omega, by omega, okF, M.s0, fun v hv => ⟨rfl, rfl, ?_⟩⟩⟩
    rw [leaves_eq hv hw2] at o
    rw [eqv_int]
    exact o
end
end K12
end
-- F_12__law_refused
section
set_option Elab.async false
set_option linter.all false
set_option maxRecDepth 100000
set_option maxHeartbeats 4000000
set_option autoImplicit false
namespace K12
open PySem PySem.Spec PyProof.Rows L2 Sd
section
variable {P : Program} {w : World} {K : PySem.W.Frag} {mg : Str → Option Value} {base : Heap}
def refTab : List (Str × Str) := [("BadLeg", "leg"), ("BadNumber", "number"), ("BadRequests", "requests")]
theorem gives__law_refused {X : Cx} (x_BadLeg : Er X.prog X.w X.K X.mg X.base 1 "BadLeg") (x_BadNumber : Er X.prog X.w X.K X.mg X.base 1 "BadNumber") (x_BadRequests : Er X.prog X.w X.K X.mg X.base 1 "BadRequests") (hx : exmAll X.K refTab) (g : Addr) (cdg : Value) (q : Str) : LamX.GivesTo X ["ask", "e"] "_law_refused" (defScope s__law_refused) g cdg (defBody s__law_refused) "ask" q (TRef X.K refTab) :=
  have sc := sc__law_refused
  ref_gives (l := refTab) hx (by decide) (fun f s H => (does_cons rfl sc.nd rfl rfl ⟨by rfl, by decide, .inl x_BadLeg.g⟩ (fun a oe cls d pn hz hd => pss_one (ps_ret (pe_tup (pa_cons pe_str (pa_cons (pe_xf x_BadLeg.f.xf x_BadLeg.f.noV hz hd (pv 1)) pa_nil))))) (does_cons rfl sc.nd rfl rfl ⟨by rfl, by decide, .inl x_BadNumber.g⟩ (fun a oe cls d pn hz hd => pss_one (ps_ret (pe_tup (pa_cons pe_str (pa_cons (pe_xf x_BadNumber.f.xf x_BadNumber.f.noV hz hd (pv 1)) pa_nil))))) (does_cons rfl sc.nd rfl rfl ⟨by rfl, by decide, .inl x_BadRequests.g⟩ (fun a oe cls d pn hz hd => pss_one (ps_ret (pe_tup (pa_cons pe_str (pa_cons (pe_xf x_BadRequests.f.xf x_BadRequests.f.noV hz hd (pv 1)) pa_nil))))) (does_nil rfl rfl LamX.takes0)))))

end
end K12
end
-- F_12_law
section
set_option Elab.async false
set_option linter.all false
set_option maxRecDepth 100000
set_option maxHeartbeats 4000000
set_option autoImplicit false
namespace K12
open PySem PySem.Spec PyProof.Rows L2 Sd
section
variable {P : Program} {w : World} {K : PySem.W.Frag} {mg : Str → Option Value} {base : Heap}
abbrev cxLaw (P : Program) (w : World) (K : PySem.W.Frag) (mg : Str → Option Value) (base : Heap) (f c : Addr) (A : Around) (s : Shared) (H : Hp) : Cx := cxOf (L2.CX P w) P w K mg base ["script", "row", "seats", "asks", "line", "leg", "whole", "gain", "loss", "price", "at", "least", "most", "odd", "wrong", "ask"] "law" (defScope s_law) f (.ref c) A [] s H E0
def tabsL (Pt : Addr) : List (Addr × Str) := [(Pt, (envOfC "law" (defScope s_law) 0 0 .none).qual ++ "<lambda>")]
theorem lam_law {f c Pt gR : Addr} {fdR : FuncData} {A : Around} {s : Shared} {H : Hp} (FR : FnP K "_law_refused" s__law_refused gR fdR) (bR : Binds K fdR ["ask"] []) (hmR : mg "_law_refused" = some (.ref gR)) (hx : exmAll K refTab) (x_BadLeg : Er P w K mg base 1 "BadLeg") (x_BadNumber : Er P w K mg base 1 "BadNumber") (x_BadRequests : Er P w K mg base 1 "BadRequests") (TB : LamX.TabB base mg c Pt) (hr : Room 13 (cxLaw P w K mg base f c A s H).A) :
    ∀ (G : Gx), G.F.tabs = tabsL Pt → ∀ {db : (Str → D → Prop) → DE} {params : Arguments} {body : Expr} {scope : Scope} {lpos p pos : Pos}, LamX.LamS (cxLaw P w K mg base f c A s H).env.scope scope → defaultsOf params (cxLaw P w K mg base f c A s H).env = ([], []) →
    (∀ (q : Str) (cl : List (Str × Addr)) (pm cv ctv : Value), bindArgs (PySem.W.kla_fn "<lambda>" q params body scope cl pm cv ctv) ⟨[], []⟩ = pure []) →
    (∀ (A2 : Around) (outer2 : List Env) (s2 : Shared) (H2 : Hp) (E2 : XK) (f2 c2 : Addr), Room 11 (A2.deeper (LamX.lamEnv (cxLaw P w K mg base f c A s H) scope s2.heap.objs.size f2 c2)) → PE (LamX.lamCx (cxLaw P w K mg base f c A s H) A2 outer2 s2 H2 E2 scope f2 c2) body (lamT K G.F db E2)) →
    PE (cxLaw P w K mg base f c A s H) (.Call (.Name "_law_refused" p) [.Lambda params body scope lpos] [] pos) (LamX.tLam G.F.tabs (TRef K refTab) (lamT K G.F db)) := by
  intro G hG db params body scope lpos p pos L hdef hbind hbody
  obtain ⟨oc, od, dV, kV, doc, pm, an, cdv, ct, osl, rfl, lk, hcd, _, _⟩ := FR.ex
  rw [hG]
  exact LamX.pe_lamcall (X := cxLaw P w K mg base f c A s H) (Ng := ["ask", "e"]) (a := "ask") (by rfl) hmR FR.kp lk hcd bR sc__law_refused rfl (Or.inl rfl) (gives__law_refused x_BadLeg x_BadNumber x_BadRequests hx gR cdv _) TB rfl (List.mem_singleton.mpr rfl) (fun q hq _ => by rw [List.mem_singleton.mp hq] <;> rfl) hr L hdef hbind hbody
theorem law_data (T : Txt K mg) {f c Pt gR r sa : Addr} {fdR : FuncData} {s0 : Shared} {H0 : Hp} (c__law_alike : Cl P w K mg base 8 "_law_alike" sp__law_alike []) (c__law_asks : Cl P w K mg base 3 "_law_asks" sp__law_asks00 []) (c__law_leaves_one : Cl P w K mg base 7 "_law_leaves_one" sp__law_leaves_one []) (c__law_line : Cl P w K mg base 3 "_law_line" sp__law_line []) (c__law_more : Cl P w K mg base 1 "_law_more" sp__law_more []) (c__law_most : Cl P w K mg base 6 "_law_most" sp__law_most []) (c__law_pick : Cl P w K mg base 2 "_law_pick" sp__law_pick []) (c__law_taken : Cl P w K mg base 1 "_law_taken" sp__law_taken []) (c__law_takes_one : Cl P w K mg base 7 "_law_takes_one" sp__law_takes_one []) (c_best_prices : Cl P w K mg base 6 "best_prices" sp_best_prices []) (c_fare_range : Cl P w K mg base 9 "fare_range" sp_fare_range []) (c_seat_gain : Cl P w K mg base 7 "seat_gain" sp_seat_gain []) (c_seat_loss : Cl P w K mg base 7 "seat_loss" sp_seat_loss [])  (lnOk : Ln P w K mg base 3) (lnEq : LnEq P w K mg base 1) (FR : FnP K "_law_refused" s__law_refused gR fdR) (bR : Binds K fdR ["ask"] []) (hmR : mg "_law_refused" = some (.ref gR)) (hx : exmAll K refTab) (x_BadLeg : Er P w K mg base 1 "BadLeg") (x_BadNumber : Er P w K mg base 1 "BadNumber") (x_BadRequests : Er P w K mg base 1 "BadRequests")
    (TB : LamX.TabB base mg c Pt) {A : Around} (hgd : (cxLaw P w K mg base f c A s0 H0).A.guards = some []) (hr : Room 13 (cxLaw P w K mg base f c A s0 H0).A) (G : Gx) (hG : G.F.tabs = tabsL Pt) (hrow : G.F.row = some (r, sa)) :
    ∃ t : DS, PSsd (cxLaw P w K mg base f c A s0 H0) G (defBody s_law).tail t ∧ t { nx := fun _ => False, rt := fun d => d = .bl true } (startD ["script", "row", "seats", "asks", "line", "leg", "whole", "gain", "loss", "price", "at", "least", "most", "odd", "wrong", "ask"] [.raw (.ref sa), .raw (.ref r)]) := by
  have sc := sc_law
  have lam := lam_law (P := P) (w := w) (K := K) (mg := mg) (base := base) (f := f) (c := c) (A := A) (s := s0) (H := H0) (Pt := Pt) FR bR hmR hx x_BadLeg x_BadNumber x_BadRequests TB hr
  have lps : ∀ (A2 : Around) (outer2 : List Env) (s2 : Shared) (H2 : Hp) (E2 : XK) (scope : Scope) (f2 c2 : Addr), Passes (L2.CX P w) (LamX.lamCx (cxLaw P w K mg base f c A s0 H0) A2 outer2 s2 H2 E2 scope f2 c2) E2 := fun A2 outer2 s2 H2 E2 scope f2 c2 => lam_passes (X := cxLaw P w K mg base f c A s0 H0)
  refine ⟨_, (pssd_cons (psd_set (i := 2) sc.nd rfl (Or.inl rfl) (pd_slice (pd_call c__law_line hr (by first | decide | omega) (pad_cons (pd_name (pv 1)) pad_nil)) pod_none (pod_some pd_int)))
  (pssd_cons (psd_asg (pd_tup (pad_cons (pd_call c__law_asks hr (by first | decide | omega) (pad_cons (pd_name (pv 1)) (pad_cons (pd_name (pv 2)) (pad_cons pd_int (pad_cons pd_int pad_nil))))) (pad_cons (pd_line lnOk hr (by first | decide | omega) (E := E0) (Xc := noX) (fun _ _ _ _ _ _ z => z.elim) passL (pad_cons (pd_name (pv 2)) pad_nil)) (pad_cons (pd_call c__law_taken hr (by first | decide | omega) (pad_cons (pd_name (pv 1)) (pad_cons (pd_callB call_len_seq snd_len T.b_len (pad_cons (pd_name (pv 2)) pad_nil)) pad_nil))) pad_nil)))) (pgd_tup (n := 3) (pgsd_cons (pgd_name (i := 3) sc.nd rfl (Or.inr rfl)) (pgsd_cons (pgd_name (i := 4) sc.nd rfl (Or.inr rfl)) (pgsd_cons (pgd_name (i := 5) sc.nd rfl (Or.inl rfl)) pgsd_nil)))))
  (pssd_cons (psd_set (i := 6) sc.nd rfl (Or.inl rfl) (pd_call c__law_most hr (by first | decide | omega) (pad_cons (pd_name (pv 2)) (pad_cons (pd_name (pv 3)) pad_nil))))
  (pssd_cons (psd_set (i := 7) sc.nd rfl (Or.inl rfl) (pd_sub (pd_call c__law_most hr (by first | decide | omega) (pad_cons (pd_call c__law_more hr (by first | decide | omega) (pad_cons (pd_name (pv 2)) (pad_cons (pd_name (pv 5)) (pad_cons pd_int pad_nil)))) (pad_cons (pd_name (pv 3)) pad_nil))) (pd_name (pv 6))))
  (pssd_cons (psd_set (i := 8) sc.nd rfl (Or.inl rfl) (pd_ifExp (ptd_gt (pd_item (pd_name (pv 2)) (pd_name (pv 5))) pd_int) (pd_sub (pd_name (pv 6)) (pd_call c__law_most hr (by first | decide | omega) (pad_cons (pd_call c__law_more hr (by first | decide | omega) (pad_cons (pd_name (pv 2)) (pad_cons (pd_name (pv 5)) (pad_cons (pd_neg pd_int) pad_nil)))) (pad_cons (pd_name (pv 3)) pad_nil)))) pd_non))
  (pssd_cons (psd_if (ptd_not (ptd_val (pd_call c__law_alike hr (by first | decide | omega) (pad_cons (pd_tup (pad_cons (pd_call c_seat_gain hr (by first | decide | omega) (pad_cons (pd_name (pv 4)) (pad_cons (pd_name (pv 3)) (pad_cons (pd_name (pv 5)) pad_nil)))) (pad_cons (pd_call c_seat_loss hr (by first | decide | omega) (pad_cons (pd_name (pv 4)) (pad_cons (pd_name (pv 3)) (pad_cons (pd_name (pv 5)) pad_nil)))) pad_nil))) (pad_cons (pd_tup (pad_cons (pd_name (pv 7)) (pad_cons (pd_name (pv 8)) pad_nil))) pad_nil)))))
  (pssd_one (psd_ret pd_bl))
  pssd_nil)
  (pssd_cons (psd_set (i := 9) sc.nd rfl (Or.inl rfl) (pd_item (pd_call c_best_prices hr (by first | decide | omega) (pad_cons (pd_name (pv 4)) (pad_cons (pd_name (pv 3)) pad_nil))) (pd_name (pv 5))))
  (pssd_cons (psd_if (ptd_w (pwd_or (ptd_lt (pd_name (pv 9)) (pd_name (pv 7))) (pwd_or1 (ptd_w (pwd_and (ptd_notN (pd_name (pv 8)) pd_non) (pwd_and1 (ptd_gt (pd_name (pv 9)) (pd_name (pv 8)))))))))
  (pssd_one (psd_ret pd_bl))
  pssd_nil)
  (pssd_cons (psd_if (ptd_ne hr.units (pd_name (pv 3)) (pd_lst pad_nil))
  (pssd_cons (psd_set (i := 10) sc.nd rfl (Or.inl rfl) (pd_call c__law_taken hr (by first | decide | omega) (pad_cons (pd_name (pv 1)) (pad_cons (pd_callB call_len_seq snd_len T.b_len (pad_cons (pd_name (pv 3)) pad_nil)) pad_nil))))
  (pssd_cons (psd_asg (pd_call c_fare_range hr (by first | decide | omega) (pad_cons (pd_name (pv 4)) (pad_cons (pd_name (pv 3)) (pad_cons (pd_name (pv 10)) pad_nil)))) (pgd_tup (n := 2) (pgsd_cons (pgd_name (i := 11) sc.nd rfl (Or.inl rfl)) (pgsd_cons (pgd_name (i := 12) sc.nd rfl (Or.inl rfl)) pgsd_nil))))
  (pssd_cons (psd_if (ptd_isN (pd_name (pv 11)) pd_non)
  (pssd_one (psd_if (ptd_val (pd_call c__law_takes_one hr (by first | decide | omega) (pad_cons (pd_name (pv 2)) (pad_cons (pd_name (pv 3)) (pad_cons (pd_name (pv 10)) (pad_cons pd_int pad_nil))))))
  (pssd_one (psd_ret pd_bl))
  pssd_nil))
  (pssd_one (psd_if (ptd_w (pwd_or (ptd_not (ptd_lele pd_int (pd_name (pv 11)) pd_int)) (pwd_or (ptd_not (ptd_val (pd_call c__law_takes_one hr (by first | decide | omega) (pad_cons (pd_name (pv 2)) (pad_cons (pd_name (pv 3)) (pad_cons (pd_name (pv 10)) (pad_cons (pd_name (pv 11)) pad_nil))))))) (pwd_or1 (ptd_w (pwd_and (ptd_gt (pd_name (pv 11)) pd_int) (pwd_and1 (ptd_val (pd_call c__law_takes_one hr (by first | decide | omega) (pad_cons (pd_name (pv 2)) (pad_cons (pd_name (pv 3)) (pad_cons (pd_name (pv 10)) (pad_cons (pd_sub (pd_name (pv 11)) pd_int) pad_nil)))))))))))))
  (pssd_one (psd_ret pd_bl))
  pssd_nil)))
  (pssd_one (psd_if (ptd_isN (pd_name (pv 12)) pd_non)
  (pssd_one (psd_if (ptd_val (pd_call c__law_leaves_one hr (by first | decide | omega) (pad_cons (pd_name (pv 2)) (pad_cons (pd_name (pv 3)) (pad_cons (pd_name (pv 10)) (pad_cons pd_int pad_nil))))))
  (pssd_one (psd_ret pd_bl))
  pssd_nil))
  (pssd_one (psd_if (ptd_w (pwd_or (ptd_not (ptd_lele pd_int (pd_name (pv 12)) pd_int)) (pwd_or (ptd_not (ptd_val (pd_call c__law_leaves_one hr (by first | decide | omega) (pad_cons (pd_name (pv 2)) (pad_cons (pd_name (pv 3)) (pad_cons (pd_name (pv 10)) (pad_cons (pd_name (pv 12)) pad_nil))))))) (pwd_or1 (ptd_w (pwd_and (ptd_lt (pd_name (pv 12)) pd_int) (pwd_and1 (ptd_val (pd_call c__law_leaves_one hr (by first | decide | omega) (pad_cons (pd_name (pv 2)) (pad_cons (pd_name (pv 3)) (pad_cons (pd_name (pv 10)) (pad_cons (pd_add (pd_name (pv 12)) pd_int) pad_nil)))))))))))))
  (pssd_one (psd_ret pd_bl))
  pssd_nil)))))))
  pssd_nil)
  (pssd_cons (psd_asg (pd_tup (pad_cons (pd_call c__law_pick hr (by first | decide | omega) (pad_cons (pd_name (pv 1)) (pad_cons (pd_lst (pad_cons (pd_neg pd_int) (pad_cons (pd_callB call_len_seq snd_len T.b_len (pad_cons (pd_name (pv 2)) pad_nil)) (pad_cons pd_non (pad_cons pd_bl pad_nil))))) pad_nil))) (pad_cons (pd_call c__law_pick hr (by first | decide | omega) (pad_cons (pd_name (pv 1)) (pad_cons (pd_lst (pad_cons (pd_neg pd_int) (pad_cons (pd_callB call_len_seq snd_len T.b_len (pad_cons (pd_name (pv 3)) pad_nil)) (pad_cons pd_non (pad_cons pd_bl pad_nil))))) pad_nil))) pad_nil))) (pgd_tup (n := 2) (pgsd_cons (pgd_name (i := 13) sc.nd rfl (Or.inr rfl)) (pgsd_cons (pgd_name (i := 14) sc.nd rfl (Or.inr rfl)) pgsd_nil))))
  (pssd_cons (psd_for (passes_of rfl) (pid_seq (pd_lst (pad_cons (pd_gref T.g_seat_gain) (pad_cons (pd_gref T.g_seat_loss) pad_nil)))) (pgd_name (i := 15) sc.nd rfl (Or.inr rfl))
  (pssd_cons (psd_if (ptd_neS (pd_repr hgd hr.units T.b_repr (pad_cons (pd_refused (lam G hG (LamX.lamS_by (by kernel_rfl)) rfl (fun _ _ _ _ _ => rfl) (fun A2 outer2 s2 H2 E2 f2 c2 hr2 => lam_of (fun B0 H0 Xc hE2 => (pd_orE (lam_callV (i := 15) c_seat_gain T.g_seat_gain hr2 (by first | decide | omega) hE2 (lps A2 outer2 s2 H2 E2 _ f2 c2) rfl (by first | exact Or.inl rfl | exact Or.inr (Or.inl rfl) | exact Or.inr (Or.inr rfl)) (pad_cons (pd_name (pv 4)) (pad_cons (pd_name (pv 3)) (pad_cons (pd_name (pv 13)) pad_nil))))
    (lam_callV (i := 15) c_seat_loss T.g_seat_loss hr2 (by first | decide | omega) hE2 (lps A2 outer2 s2 H2 E2 _ f2 c2) rfl (by first | exact Or.inl rfl | exact Or.inr (Or.inl rfl) | exact Or.inr (Or.inr rfl)) (pad_cons (pd_name (pv 4)) (pad_cons (pd_name (pv 3)) (pad_cons (pd_name (pv 13)) pad_nil))))))))) pad_nil)) (pd_repr hgd hr.units T.b_repr (pad_cons (pd_tup (pad_cons pd_str (pad_cons (pd_name (pv 13)) pad_nil))) pad_nil)))
  (pssd_one (psd_ret pd_bl))
  pssd_nil)
  (pssd_one (psd_if (ptd_ne hr.units (pd_refused (lam G hG (LamX.lamS_by (by kernel_rfl)) rfl (fun _ _ _ _ _ => rfl) (fun A2 outer2 s2 H2 E2 f2 c2 hr2 => lam_of (fun B0 H0 Xc hE2 => (pd_orE (lam_callV (i := 15) c_seat_gain T.g_seat_gain hr2 (by first | decide | omega) hE2 (lps A2 outer2 s2 H2 E2 _ f2 c2) rfl (by first | exact Or.inl rfl | exact Or.inr (Or.inl rfl) | exact Or.inr (Or.inr rfl)) (pad_cons (pd_name (pv 4)) (pad_cons (pd_lst (pad_cons pd_non pad_nil)) (pad_cons (pd_name (pv 13)) pad_nil))))
    (lam_callV (i := 15) c_seat_loss T.g_seat_loss hr2 (by first | decide | omega) hE2 (lps A2 outer2 s2 H2 E2 _ f2 c2) rfl (by first | exact Or.inl rfl | exact Or.inr (Or.inl rfl) | exact Or.inr (Or.inr rfl)) (pad_cons (pd_name (pv 4)) (pad_cons (pd_lst (pad_cons pd_non pad_nil)) (pad_cons (pd_name (pv 13)) pad_nil))))))))) (pd_tup (pad_cons pd_str (pad_cons pd_int pad_nil))))
  (pssd_one (psd_ret pd_bl))
  pssd_nil))))
  (pssd_one (psd_ret (pd_eqS (pd_repr hgd hr.units T.b_repr (pad_cons (pd_refused (lam G hG (LamX.lamS_by (by kernel_rfl)) rfl (fun _ _ _ _ _ => rfl) (fun A2 outer2 s2 H2 E2 f2 c2 hr2 => lam_of (fun B0 H0 Xc hE2 => (lam_callX c_fare_range hr2 (by first | decide | omega) hE2 (lps A2 outer2 s2 H2 E2 _ f2 c2) (pad_cons (pd_name (pv 4)) (pad_cons (pd_name (pv 3)) (pad_cons (pd_name (pv 14)) pad_nil)))))))) pad_nil)) (pd_repr hgd hr.units T.b_repr (pad_cons (pd_tup (pad_cons pd_str (pad_cons (pd_name (pv 14)) pad_nil))) pad_nil)))))))))))))))), ?_⟩
  have lkR : refTab.lookup ("BadRequests" : Str) = some "requests" := rfl
  have lkL : refTab.lookup ("BadLeg" : Str) = some "leg" := rfl
  have lkN : refTab.lookup ("BadNumber" : Str) = some "number" := rfl
  have rkL : ∀ {d : D}, d.rok 1 = true → D.rok 2 (.tup [.str "leg", d]) = true := fun h => rok_pair (by decide +kernel) h
  have rkN : ∀ {d : D}, d.rok 1 = true → D.rok 2 (.tup [.str "number", d]) = true := fun h => rok_pair (by decide +kernel) h
  -- seats
  refine seq_gen (fun δ' => ∃ ss : List Int, (1 ≤ ss.length ∧ ss.length ≤ 6 ∧ ∀ s ∈ ss, 0 ≤ s ∧ s ≤ 20) ∧ δ' = [.dat (.raw (.ref sa)), .dat (.raw (.ref r)), .dat (.tup (ss.map D.int)), .un, .un, .un, .un, .un, .un, .un, .un, .un, .un, .un, .un, .un]) (fun N hN => ?_) (fun δ' hj => ?_)
  · simp [startD, wipeD, dsRet, dsRetN, dsIf, dsSeq, dsNext, dsAsg, dsDrop, dsBreak, dsCont, dsPar, dsAug, dsFrz, dsApp, dsExt, dsPut, dsAugO, dsOwn, dsParOO, dsParDO, dsParDDO, dsFrzA, dxRep, diOwn, dsRaise, deAnd, deOr, deNot, de1, de2, deB, deX, dxB, dxLst, deName, deC, deCall, deIxO, deLenO, deTup, deLst, daCons, daNil, daStar, deChain, dtChain, dtV, dtAnd, dtOr, dtNot, dtYes, deIf, deSl, doNone, doSome, rdAdd, rdSub, rdMul, rdMod, rdDiv, rdPow, rdI, rdIc, rdB, rdLt, rdLe, rdGt, rdGe, rdNeg, rdIs, rdEq, rdNe, rdIx, rdIsN, rdNotN, rdIsB, rdNotB, rdRev, rdSeats, rdCatL, rdCatT, rdRepL, rdLen, rdTuple, rdList, rxList, rdInt, rdMax2, rdMin2, dgName, dgTup, dgCons, dgNil, deRefused, rdRepr, rdNeS, rdEqL, rdNeL, rdRepT, rdIsLn, noOwn, diSeq, diEn, diZp, diR1, diR2, noX,  eqOk_int, eqOk_bl, eqOk_non, eqv_int, eqv_bl, eqv_non, atI_0, atI_1, atI_2, atI_3, qty_non, qisI_non, qisB_non, qisL_non, qisU_non, qisS_non, qisD_non, qisNon_non, qcooked_non, qseq_non, qty_bl, qisI_bl, qisB_bl, qisL_bl, qisU_bl, qisS_bl, qisD_bl, qisNon_bl, qcooked_bl, qseq_bl, qty_int, qisI_int, qisB_int, qisL_int, qisU_int, qisS_int, qisD_int, qisNon_int, qcooked_int, qseq_int, qty_str, qisI_str, qisB_str, qisL_str, qisU_str, qisS_str, qisD_str, qisNon_str, qcooked_str, qseq_str, qty_lst, qisI_lst, qisB_lst, qisL_lst, qisU_lst, qisS_lst, qisD_lst, qisNon_lst, qcooked_lst, qseq_lst, qty_tup, qisI_tup, qisB_tup, qisL_tup, qisU_tup, qisS_tup, qisD_tup, qisNon_tup, qcooked_tup, qseq_tup, qty_dct, qisI_dct, qisB_dct, qisL_dct, qisU_dct, qisS_dct, qisD_dct, qisNon_dct, qcooked_dct, qseq_dct, qix_lst, qsl_lst, qix_tup, qsl_tup, qisNon_ln, qcooked_ln, and_assoc, exists_and_left, exists_eq_left, exists_eq_left', exists_eq_right, dxLc_eq, dsFor_eq, rngD_0, rngD_eq, zipD_map, enumD_map0, sp__law_line]
    refine ⟨⟨sa, hrow⟩, fun ss h1 h2 h3 => ?_⟩
    have e6 : cut (ss.map D.int) none (some 6) = (ss.take 6).map D.int := by
      unfold cut
      rw [HT.sIx_none, show (6 : Int) = ((6 : Nat) : Int) from rfl, HT.sIx_nat]
      simp
    rw [e6]
    exact hN _ ⟨ss.take 6, ⟨by rw [List.length_take]; omega, by rw [List.length_take]; omega, fun s hs => h3 s (List.mem_of_mem_take hs)⟩, rfl⟩
  obtain ⟨ss, ⟨sl1, sl2, sb⟩, rfl⟩ := hj
  have s0 : ∀ s ∈ ss, 0 ≤ s := fun s hs => (sb s hs).1
  -- asks, line, leg
  refine seq_gen (fun δ' => ∃ (rs : List Rq) (leg : Nat), ((∀ r ∈ rs, r.Ok ss.length) ∧ rs.length < 5 ∧ leg < ss.length) ∧ δ' = [.dat (.raw (.ref sa)), .dat (.raw (.ref r)), .dat (.tup (ss.map D.int)), .dat (.lst (rs.map Rq.d)), .dat (.ln (ss.map D.int)), .dat (.int (leg : Int)), .un, .un, .un, .un, .un, .un, .un, .un, .un, .un]) (fun N hN => ?_) (fun δ' hj => ?_)
  · have hb : badSeats (.tup (ss.map D.int)) = none := by
      unfold badSeats
      show (if (ss.map D.int).length = 0 ∨ 10 < (ss.map D.int).length then some (-1) else Option.map Int.ofNat ((ss.map D.int).findIdx? fun x => !isWithin x 0 20)) = none
      rw [if_neg (by rw [List.length_map]; omega), findIdx_none]
      · rfl
      · rw [List.all_eq_true]
        intro x hx
        obtain ⟨s, hs, rfl⟩ := List.mem_map.mp hx
        have := sb s hs
        simp [isWithin]
        omega
    simp [startD, wipeD, dsRet, dsRetN, dsIf, dsSeq, dsNext, dsAsg, dsDrop, dsBreak, dsCont, dsPar, dsAug, dsFrz, dsApp, dsExt, dsPut, dsAugO, dsOwn, dsParOO, dsParDO, dsParDDO, dsFrzA, dxRep, diOwn, dsRaise, deAnd, deOr, deNot, de1, de2, deB, deX, dxB, dxLst, deName, deC, deCall, deIxO, deLenO, deTup, deLst, daCons, daNil, daStar, deChain, dtChain, dtV, dtAnd, dtOr, dtNot, dtYes, deIf, deSl, doNone, doSome, rdAdd, rdSub, rdMul, rdMod, rdDiv, rdPow, rdI, rdIc, rdB, rdLt, rdLe, rdGt, rdGe, rdNeg, rdIs, rdEq, rdNe, rdIx, rdIsN, rdNotN, rdIsB, rdNotB, rdRev, rdSeats, rdCatL, rdCatT, rdRepL, rdLen, rdTuple, rdList, rxList, rdInt, rdMax2, rdMin2, dgName, dgTup, dgCons, dgNil, deRefused, rdRepr, rdNeS, rdEqL, rdNeL, rdRepT, rdIsLn, noOwn, diSeq, diEn, diZp, diR1, diR2, noX,  eqOk_int, eqOk_bl, eqOk_non, eqv_int, eqv_bl, eqv_non, atI_0, atI_1, atI_2, atI_3, qty_non, qisI_non, qisB_non, qisL_non, qisU_non, qisS_non, qisD_non, qisNon_non, qcooked_non, qseq_non, qty_bl, qisI_bl, qisB_bl, qisL_bl, qisU_bl, qisS_bl, qisD_bl, qisNon_bl, qcooked_bl, qseq_bl, qty_int, qisI_int, qisB_int, qisL_int, qisU_int, qisS_int, qisD_int, qisNon_int, qcooked_int, qseq_int, qty_str, qisI_str, qisB_str, qisL_str, qisU_str, qisS_str, qisD_str, qisNon_str, qcooked_str, qseq_str, qty_lst, qisI_lst, qisB_lst, qisL_lst, qisU_lst, qisS_lst, qisD_lst, qisNon_lst, qcooked_lst, qseq_lst, qty_tup, qisI_tup, qisB_tup, qisL_tup, qisU_tup, qisS_tup, qisD_tup, qisNon_tup, qcooked_tup, qseq_tup, qty_dct, qisI_dct, qisB_dct, qisL_dct, qisU_dct, qisS_dct, qisD_dct, qisNon_dct, qcooked_dct, qseq_dct, qix_lst, qsl_lst, qix_tup, qsl_tup, qisNon_ln, qcooked_ln, and_assoc, exists_and_left, exists_eq_left, exists_eq_left', exists_eq_right, dxLc_eq, dsFor_eq, rngD_0, rngD_eq, zipD_map, enumD_map0, sp__law_taken]
    refine ⟨r, sa, _, ss.map D.int, 5, 2, rfl, hrow, rfl, by rw [List.length_map]; exact sl1, by rw [List.length_map]; omega, by omega, by omega, by omega, by omega, fun rs h1 h2 => ?_⟩
    refine ⟨_, rfl, okv_tup okv_int, (fun i e => by rw [hb] at e; cases e), (fun _ xs e => ?_)⟩
    cases e
    rw [List.length_map] at h2
    refine ⟨⟨sa, hrow⟩, by omega, by omega, fun n n0 n1 => ?_⟩
    obtain ⟨leg, rfl⟩ := Int.eq_ofNat_of_zero_le n0
    exact hN _ ⟨rs, leg, ⟨h2, by omega, by omega⟩, rfl⟩
  obtain ⟨rs, leg, ⟨ok, rl, hleg⟩, rfl⟩ := hj
  have hleg0 : 0 ≤ miAt ss leg := by
    unfold miAt
    rw [List.getElem?_eq_getElem hleg]
    exact s0 _ (List.getElem_mem hleg)
  have ov : (D.lst (rs.map Rq.d)).okv = true := okv_lst okv_req
  have hwi : isWithin (.int (leg : Int)) 0 ((ss.length : Int) - 1) = true := by
    simp [isWithin]
    omega
  -- whole
  refine seq_gen (fun δ' => ∃ v, IsMost ss rs v ∧ δ' = [.dat (.raw (.ref sa)), .dat (.raw (.ref r)), .dat (.tup (ss.map D.int)), .dat (.lst (rs.map Rq.d)), .dat (.ln (ss.map D.int)), .dat (.int (leg : Int)), .dat (.int v), .un, .un, .un, .un, .un, .un, .un, .un, .un]) (fun N hN => ?_) (fun δ' hj => ?_)
  · simp [startD, wipeD, dsRet, dsRetN, dsIf, dsSeq, dsNext, dsAsg, dsDrop, dsBreak, dsCont, dsPar, dsAug, dsFrz, dsApp, dsExt, dsPut, dsAugO, dsOwn, dsParOO, dsParDO, dsParDDO, dsFrzA, dxRep, diOwn, dsRaise, deAnd, deOr, deNot, de1, de2, deB, deX, dxB, dxLst, deName, deC, deCall, deIxO, deLenO, deTup, deLst, daCons, daNil, daStar, deChain, dtChain, dtV, dtAnd, dtOr, dtNot, dtYes, deIf, deSl, doNone, doSome, rdAdd, rdSub, rdMul, rdMod, rdDiv, rdPow, rdI, rdIc, rdB, rdLt, rdLe, rdGt, rdGe, rdNeg, rdIs, rdEq, rdNe, rdIx, rdIsN, rdNotN, rdIsB, rdNotB, rdRev, rdSeats, rdCatL, rdCatT, rdRepL, rdLen, rdTuple, rdList, rxList, rdInt, rdMax2, rdMin2, dgName, dgTup, dgCons, dgNil, deRefused, rdRepr, rdNeS, rdEqL, rdNeL, rdRepT, rdIsLn, noOwn, diSeq, diEn, diZp, diR1, diR2, noX,  eqOk_int, eqOk_bl, eqOk_non, eqv_int, eqv_bl, eqv_non, atI_0, atI_1, atI_2, atI_3, qty_non, qisI_non, qisB_non, qisL_non, qisU_non, qisS_non, qisD_non, qisNon_non, qcooked_non, qseq_non, qty_bl, qisI_bl, qisB_bl, qisL_bl, qisU_bl, qisS_bl, qisD_bl, qisNon_bl, qcooked_bl, qseq_bl, qty_int, qisI_int, qisB_int, qisL_int, qisU_int, qisS_int, qisD_int, qisNon_int, qcooked_int, qseq_int, qty_str, qisI_str, qisB_str, qisL_str, qisU_str, qisS_str, qisD_str, qisNon_str, qcooked_str, qseq_str, qty_lst, qisI_lst, qisB_lst, qisL_lst, qisU_lst, qisS_lst, qisD_lst, qisNon_lst, qcooked_lst, qseq_lst, qty_tup, qisI_tup, qisB_tup, qisL_tup, qisU_tup, qisS_tup, qisD_tup, qisNon_tup, qcooked_tup, qseq_tup, qty_dct, qisI_dct, qisB_dct, qisL_dct, qisU_dct, qisS_dct, qisD_dct, qisNon_dct, qcooked_dct, qseq_dct, qix_lst, qsl_lst, qix_tup, qsl_tup, qisNon_ln, qcooked_ln, and_assoc, exists_and_left, exists_eq_left, exists_eq_left', exists_eq_right, dxLc_eq, dsFor_eq, rngD_0, rngD_eq, zipD_map, enumD_map0]
    exact ⟨_, ss, rs, rfl, rfl, sl1, by omega, rl, ok, s0, fun v hv => hN _ ⟨v, hv, rfl⟩⟩
  obtain ⟨v, hv, rfl⟩ := hj
  -- gain
  refine seq_gen (fun δ' => ∃ w, IsMost (seatL ss leg 1) rs w ∧ δ' = [.dat (.raw (.ref sa)), .dat (.raw (.ref r)), .dat (.tup (ss.map D.int)), .dat (.lst (rs.map Rq.d)), .dat (.ln (ss.map D.int)), .dat (.int (leg : Int)), .dat (.int v), .dat (.int (w - v)), .un, .un, .un, .un, .un, .un, .un, .un]) (fun N hN => ?_) (fun δ' hj => ?_)
  · simp [startD, wipeD, dsRet, dsRetN, dsIf, dsSeq, dsNext, dsAsg, dsDrop, dsBreak, dsCont, dsPar, dsAug, dsFrz, dsApp, dsExt, dsPut, dsAugO, dsOwn, dsParOO, dsParDO, dsParDDO, dsFrzA, dxRep, diOwn, dsRaise, deAnd, deOr, deNot, de1, de2, deB, deX, dxB, dxLst, deName, deC, deCall, deIxO, deLenO, deTup, deLst, daCons, daNil, daStar, deChain, dtChain, dtV, dtAnd, dtOr, dtNot, dtYes, deIf, deSl, doNone, doSome, rdAdd, rdSub, rdMul, rdMod, rdDiv, rdPow, rdI, rdIc, rdB, rdLt, rdLe, rdGt, rdGe, rdNeg, rdIs, rdEq, rdNe, rdIx, rdIsN, rdNotN, rdIsB, rdNotB, rdRev, rdSeats, rdCatL, rdCatT, rdRepL, rdLen, rdTuple, rdList, rxList, rdInt, rdMax2, rdMin2, dgName, dgTup, dgCons, dgNil, deRefused, rdRepr, rdNeS, rdEqL, rdNeL, rdRepT, rdIsLn, noOwn, diSeq, diEn, diZp, diR1, diR2, noX,  eqOk_int, eqOk_bl, eqOk_non, eqv_int, eqv_bl, eqv_non, atI_0, atI_1, atI_2, atI_3, qty_non, qisI_non, qisB_non, qisL_non, qisU_non, qisS_non, qisD_non, qisNon_non, qcooked_non, qseq_non, qty_bl, qisI_bl, qisB_bl, qisL_bl, qisU_bl, qisS_bl, qisD_bl, qisNon_bl, qcooked_bl, qseq_bl, qty_int, qisI_int, qisB_int, qisL_int, qisU_int, qisS_int, qisD_int, qisNon_int, qcooked_int, qseq_int, qty_str, qisI_str, qisB_str, qisL_str, qisU_str, qisS_str, qisD_str, qisNon_str, qcooked_str, qseq_str, qty_lst, qisI_lst, qisB_lst, qisL_lst, qisU_lst, qisS_lst, qisD_lst, qisNon_lst, qcooked_lst, qseq_lst, qty_tup, qisI_tup, qisB_tup, qisL_tup, qisU_tup, qisS_tup, qisD_tup, qisNon_tup, qcooked_tup, qseq_tup, qty_dct, qisI_dct, qisB_dct, qisL_dct, qisU_dct, qisS_dct, qisD_dct, qisNon_dct, qcooked_dct, qseq_dct, qix_lst, qsl_lst, qix_tup, qsl_tup, qisNon_ln, qcooked_ln, and_assoc, exists_and_left, exists_eq_left, exists_eq_left', exists_eq_right, dxLc_eq, dsFor_eq, rngD_0, rngD_eq, zipD_map, enumD_map0]
    refine ⟨ss, leg, 1, rfl, hleg, by omega, ?_⟩
    exact ⟨_, seatL ss leg 1, rs, rfl, rfl, by rw [seatL_len]; exact sl1, by rw [seatL_len]; omega, rl, by rw [seatL_len]; exact ok, seatL_pos hleg s0 (by omega), fun w hw => ⟨w, rfl, hN _ ⟨w, hw, rfl⟩⟩⟩
  obtain ⟨w, hw, rfl⟩ := hj
  -- loss
  refine seq_gen (fun δ' => ∃ lo : D, ((lo = .non ∧ miAt ss leg = 0) ∨ (miAt ss leg ≠ 0 ∧ ∃ u, IsMost (seatL ss leg (-1)) rs u ∧ lo = .int (v - u))) ∧ δ' = [.dat (.raw (.ref sa)), .dat (.raw (.ref r)), .dat (.tup (ss.map D.int)), .dat (.lst (rs.map Rq.d)), .dat (.ln (ss.map D.int)), .dat (.int (leg : Int)), .dat (.int v), .dat (.int (w - v)), .dat lo, .un, .un, .un, .un, .un, .un, .un]) (fun N hN => ?_) (fun δ' hj => ?_)
  · simp [startD, wipeD, dsRet, dsRetN, dsIf, dsSeq, dsNext, dsAsg, dsDrop, dsBreak, dsCont, dsPar, dsAug, dsFrz, dsApp, dsExt, dsPut, dsAugO, dsOwn, dsParOO, dsParDO, dsParDDO, dsFrzA, dxRep, diOwn, dsRaise, deAnd, deOr, deNot, de1, de2, deB, deX, dxB, dxLst, deName, deC, deCall, deIxO, deLenO, deTup, deLst, daCons, daNil, daStar, deChain, dtChain, dtV, dtAnd, dtOr, dtNot, dtYes, deIf, deSl, doNone, doSome, rdAdd, rdSub, rdMul, rdMod, rdDiv, rdPow, rdI, rdIc, rdB, rdLt, rdLe, rdGt, rdGe, rdNeg, rdIs, rdEq, rdNe, rdIx, rdIsN, rdNotN, rdIsB, rdNotB, rdRev, rdSeats, rdCatL, rdCatT, rdRepL, rdLen, rdTuple, rdList, rxList, rdInt, rdMax2, rdMin2, dgName, dgTup, dgCons, dgNil, deRefused, rdRepr, rdNeS, rdEqL, rdNeL, rdRepT, rdIsLn, noOwn, diSeq, diEn, diZp, diR1, diR2, noX,  eqOk_int, eqOk_bl, eqOk_non, eqv_int, eqv_bl, eqv_non, atI_0, atI_1, atI_2, atI_3, qty_non, qisI_non, qisB_non, qisL_non, qisU_non, qisS_non, qisD_non, qisNon_non, qcooked_non, qseq_non, qty_bl, qisI_bl, qisB_bl, qisL_bl, qisU_bl, qisS_bl, qisD_bl, qisNon_bl, qcooked_bl, qseq_bl, qty_int, qisI_int, qisB_int, qisL_int, qisU_int, qisS_int, qisD_int, qisNon_int, qcooked_int, qseq_int, qty_str, qisI_str, qisB_str, qisL_str, qisU_str, qisS_str, qisD_str, qisNon_str, qcooked_str, qseq_str, qty_lst, qisI_lst, qisB_lst, qisL_lst, qisU_lst, qisS_lst, qisD_lst, qisNon_lst, qcooked_lst, qseq_lst, qty_tup, qisI_tup, qisB_tup, qisL_tup, qisU_tup, qisS_tup, qisD_tup, qisNon_tup, qcooked_tup, qseq_tup, qty_dct, qisI_dct, qisB_dct, qisL_dct, qisU_dct, qisS_dct, qisD_dct, qisNon_dct, qcooked_dct, qseq_dct, qix_lst, qsl_lst, qix_tup, qsl_tup, qisNon_ln, qcooked_ln, and_assoc, exists_and_left, exists_eq_left, exists_eq_left', exists_eq_right, dxLc_eq, dsFor_eq, rngD_0, rngD_eq, zipD_map, enumD_map0, atM hleg]
    split
    · rename_i c
      refine ⟨ss, leg, -1, rfl, hleg, by omega, ?_⟩
      exact ⟨_, seatL ss leg (-1), rs, rfl, rfl, by rw [seatL_len]; exact sl1, by rw [seatL_len]; omega, rl, by rw [seatL_len]; exact ok, seatL_pos hleg s0 (by omega), fun u hu => ⟨u, rfl, hN _ ⟨.int (v - u), .inr ⟨by omega, u, hu, rfl⟩, rfl⟩⟩⟩
    · exact hN _ ⟨.non, .inl ⟨rfl, by omega⟩, rfl⟩
  obtain ⟨lo, hlo, rfl⟩ := hj
  -- alike
  have loA : D.alk 6 (.tup [.int (w - v), lo]) = true := by
    rcases hlo with ⟨rfl, _⟩ | ⟨_, u, _, rfl⟩ <;> rfl
  refine seq_gen (fun δ' => δ' = [.dat (.raw (.ref sa)), .dat (.raw (.ref r)), .dat (.tup (ss.map D.int)), .dat (.lst (rs.map Rq.d)), .dat (.ln (ss.map D.int)), .dat (.int (leg : Int)), .dat (.int v), .dat (.int (w - v)), .dat lo, .un, .un, .un, .un, .un, .un, .un]) (fun N hN => ?_) (fun δ' hj => ?_)
  · simp [startD, wipeD, dsRet, dsRetN, dsIf, dsSeq, dsNext, dsAsg, dsDrop, dsBreak, dsCont, dsPar, dsAug, dsFrz, dsApp, dsExt, dsPut, dsAugO, dsOwn, dsParOO, dsParDO, dsParDDO, dsFrzA, dxRep, diOwn, dsRaise, deAnd, deOr, deNot, de1, de2, deB, deX, dxB, dxLst, deName, deC, deCall, deIxO, deLenO, deTup, deLst, daCons, daNil, daStar, deChain, dtChain, dtV, dtAnd, dtOr, dtNot, dtYes, deIf, deSl, doNone, doSome, rdAdd, rdSub, rdMul, rdMod, rdDiv, rdPow, rdI, rdIc, rdB, rdLt, rdLe, rdGt, rdGe, rdNeg, rdIs, rdEq, rdNe, rdIx, rdIsN, rdNotN, rdIsB, rdNotB, rdRev, rdSeats, rdCatL, rdCatT, rdRepL, rdLen, rdTuple, rdList, rxList, rdInt, rdMax2, rdMin2, dgName, dgTup, dgCons, dgNil, deRefused, rdRepr, rdNeS, rdEqL, rdNeL, rdRepT, rdIsLn, noOwn, diSeq, diEn, diZp, diR1, diR2, noX,  eqOk_int, eqOk_bl, eqOk_non, eqv_int, eqv_bl, eqv_non, atI_0, atI_1, atI_2, atI_3, qty_non, qisI_non, qisB_non, qisL_non, qisU_non, qisS_non, qisD_non, qisNon_non, qcooked_non, qseq_non, qty_bl, qisI_bl, qisB_bl, qisL_bl, qisU_bl, qisS_bl, qisD_bl, qisNon_bl, qcooked_bl, qseq_bl, qty_int, qisI_int, qisB_int, qisL_int, qisU_int, qisS_int, qisD_int, qisNon_int, qcooked_int, qseq_int, qty_str, qisI_str, qisB_str, qisL_str, qisU_str, qisS_str, qisD_str, qisNon_str, qcooked_str, qseq_str, qty_lst, qisI_lst, qisB_lst, qisL_lst, qisU_lst, qisS_lst, qisD_lst, qisNon_lst, qcooked_lst, qseq_lst, qty_tup, qisI_tup, qisB_tup, qisL_tup, qisU_tup, qisS_tup, qisD_tup, qisNon_tup, qcooked_tup, qseq_tup, qty_dct, qisI_dct, qisB_dct, qisL_dct, qisU_dct, qisS_dct, qisD_dct, qisNon_dct, qcooked_dct, qseq_dct, qix_lst, qsl_lst, qix_tup, qsl_tup, qisNon_ln, qcooked_ln, and_assoc, exists_and_left, exists_eq_left, exists_eq_left', exists_eq_right, dxLc_eq, dsFor_eq, rngD_0, rngD_eq, zipD_map, enumD_map0]
    have legE : ∀ {l : Nat}, D.int (leg : Int) = D.int (l : Int) → l = leg := fun h => by
      have := D.int.inj h
      omega
    refine ⟨ss, _, _, rfl, by omega, s0, ov, rfl, with_of (rs := rs) rfl ok (by omega) ⟨fun z => (by rw [hwi] at z; cases z), fun l el hl v' w' hv' hw' => ?_⟩⟩
    obtain rfl := legE el
    obtain rfl := hv.uniq hv'
    obtain rfl := hw.uniq hw'
    refine ⟨ss, _, _, rfl, by omega, s0, ov, rfl, with_of (rs := rs) rfl ok (by omega) ⟨fun z => (by rw [hwi] at z; cases z), fun l2 el2 hl2 => ⟨fun hz => ?_, fun hz v' u' hv' hu' => ?_⟩⟩⟩
    · obtain rfl := legE el2
      rcases hlo with ⟨rfl, _⟩ | ⟨hz2, _⟩
      · exact ⟨_, rfl, loA, rfl, hN _ rfl⟩
      · exact absurd hz hz2
    · obtain rfl := legE el2
      rcases hlo with ⟨_, hz2⟩ | ⟨_, u, hu, rfl⟩
      · exact absurd hz2 hz
      · obtain rfl := hv.uniq hv'
        obtain rfl := hu.uniq hu'
        exact ⟨_, rfl, loA, rfl, hN _ rfl⟩
  subst hj
  -- price
  refine seq_gen (fun δ' => ∃ p, (w - v ≤ p ∧ ∀ i, lo = .int i → p ≤ i) ∧ δ' = [.dat (.raw (.ref sa)), .dat (.raw (.ref r)), .dat (.tup (ss.map D.int)), .dat (.lst (rs.map Rq.d)), .dat (.ln (ss.map D.int)), .dat (.int (leg : Int)), .dat (.int v), .dat (.int (w - v)), .dat lo, .dat (.int p), .un, .un, .un, .un, .un, .un]) (fun N hN => ?_) (fun δ' hj => ?_)
  · simp [startD, wipeD, dsRet, dsRetN, dsIf, dsSeq, dsNext, dsAsg, dsDrop, dsBreak, dsCont, dsPar, dsAug, dsFrz, dsApp, dsExt, dsPut, dsAugO, dsOwn, dsParOO, dsParDO, dsParDDO, dsFrzA, dxRep, diOwn, dsRaise, deAnd, deOr, deNot, de1, de2, deB, deX, dxB, dxLst, deName, deC, deCall, deIxO, deLenO, deTup, deLst, daCons, daNil, daStar, deChain, dtChain, dtV, dtAnd, dtOr, dtNot, dtYes, deIf, deSl, doNone, doSome, rdAdd, rdSub, rdMul, rdMod, rdDiv, rdPow, rdI, rdIc, rdB, rdLt, rdLe, rdGt, rdGe, rdNeg, rdIs, rdEq, rdNe, rdIx, rdIsN, rdNotN, rdIsB, rdNotB, rdRev, rdSeats, rdCatL, rdCatT, rdRepL, rdLen, rdTuple, rdList, rxList, rdInt, rdMax2, rdMin2, dgName, dgTup, dgCons, dgNil, deRefused, rdRepr, rdNeS, rdEqL, rdNeL, rdRepT, rdIsLn, noOwn, diSeq, diEn, diZp, diR1, diR2, noX,  eqOk_int, eqOk_bl, eqOk_non, eqv_int, eqv_bl, eqv_non, atI_0, atI_1, atI_2, atI_3, qty_non, qisI_non, qisB_non, qisL_non, qisU_non, qisS_non, qisD_non, qisNon_non, qcooked_non, qseq_non, qty_bl, qisI_bl, qisB_bl, qisL_bl, qisU_bl, qisS_bl, qisD_bl, qisNon_bl, qcooked_bl, qseq_bl, qty_int, qisI_int, qisB_int, qisL_int, qisU_int, qisS_int, qisD_int, qisNon_int, qcooked_int, qseq_int, qty_str, qisI_str, qisB_str, qisL_str, qisU_str, qisS_str, qisD_str, qisNon_str, qcooked_str, qseq_str, qty_lst, qisI_lst, qisB_lst, qisL_lst, qisU_lst, qisS_lst, qisD_lst, qisNon_lst, qcooked_lst, qseq_lst, qty_tup, qisI_tup, qisB_tup, qisL_tup, qisU_tup, qisS_tup, qisD_tup, qisNon_tup, qcooked_tup, qseq_tup, qty_dct, qisI_dct, qisB_dct, qisL_dct, qisU_dct, qisS_dct, qisD_dct, qisNon_dct, qcooked_dct, qseq_dct, qix_lst, qsl_lst, qix_tup, qsl_tup, qisNon_ln, qcooked_ln, and_assoc, exists_and_left, exists_eq_left, exists_eq_left', exists_eq_right, dxLc_eq, dsFor_eq, rngD_0, rngD_eq, zipD_map, enumD_map0]
    refine ⟨ss, _, rfl, by omega, s0, ov, with_of (rs := rs) rfl ok (by omega) fun ms hB => ?_⟩
    refine ⟨.int (miAt (pricesC ss.length (costsN ss rs ms)) leg), ?_, hN _ ⟨_, ⟨?_, ?_⟩, rfl⟩⟩
    · rw [qix_tup]
      exact atM (by rw [pricesC_len]; exact hleg)
    · have := price_between hB ok hleg hv hw
      omega
    · intro i hi
      rcases hlo with ⟨rfl, _⟩ | ⟨_, u, hu, rfl⟩
      · cases hi
      · cases hi
        have := price_between hB ok hleg hv hu
        omega
  obtain ⟨p, ⟨hp1, hp2⟩, rfl⟩ := hj
  refine seq_gen (fun δ' => δ' = [.dat (.raw (.ref sa)), .dat (.raw (.ref r)), .dat (.tup (ss.map D.int)), .dat (.lst (rs.map Rq.d)), .dat (.ln (ss.map D.int)), .dat (.int (leg : Int)), .dat (.int v), .dat (.int (w - v)), .dat lo, .dat (.int p), .un, .un, .un, .un, .un, .un]) (fun N hN => ?_) (fun δ' hj => ?_)
  · simp [startD, wipeD, dsRet, dsRetN, dsIf, dsSeq, dsNext, dsAsg, dsDrop, dsBreak, dsCont, dsPar, dsAug, dsFrz, dsApp, dsExt, dsPut, dsAugO, dsOwn, dsParOO, dsParDO, dsParDDO, dsFrzA, dxRep, diOwn, dsRaise, deAnd, deOr, deNot, de1, de2, deB, deX, dxB, dxLst, deName, deC, deCall, deIxO, deLenO, deTup, deLst, daCons, daNil, daStar, deChain, dtChain, dtV, dtAnd, dtOr, dtNot, dtYes, deIf, deSl, doNone, doSome, rdAdd, rdSub, rdMul, rdMod, rdDiv, rdPow, rdI, rdIc, rdB, rdLt, rdLe, rdGt, rdGe, rdNeg, rdIs, rdEq, rdNe, rdIx, rdIsN, rdNotN, rdIsB, rdNotB, rdRev, rdSeats, rdCatL, rdCatT, rdRepL, rdLen, rdTuple, rdList, rxList, rdInt, rdMax2, rdMin2, dgName, dgTup, dgCons, dgNil, deRefused, rdRepr, rdNeS, rdEqL, rdNeL, rdRepT, rdIsLn, noOwn, diSeq, diEn, diZp, diR1, diR2, noX,  eqOk_int, eqOk_bl, eqOk_non, eqv_int, eqv_bl, eqv_non, atI_0, atI_1, atI_2, atI_3, qty_non, qisI_non, qisB_non, qisL_non, qisU_non, qisS_non, qisD_non, qisNon_non, qcooked_non, qseq_non, qty_bl, qisI_bl, qisB_bl, qisL_bl, qisU_bl, qisS_bl, qisD_bl, qisNon_bl, qcooked_bl, qseq_bl, qty_int, qisI_int, qisB_int, qisL_int, qisU_int, qisS_int, qisD_int, qisNon_int, qcooked_int, qseq_int, qty_str, qisI_str, qisB_str, qisL_str, qisU_str, qisS_str, qisD_str, qisNon_str, qcooked_str, qseq_str, qty_lst, qisI_lst, qisB_lst, qisL_lst, qisU_lst, qisS_lst, qisD_lst, qisNon_lst, qcooked_lst, qseq_lst, qty_tup, qisI_tup, qisB_tup, qisL_tup, qisU_tup, qisS_tup, qisD_tup, qisNon_tup, qcooked_tup, qseq_tup, qty_dct, qisI_dct, qisB_dct, qisL_dct, qisU_dct, qisS_dct, qisD_dct, qisNon_dct, qcooked_dct, qseq_dct, qix_lst, qsl_lst, qix_tup, qsl_tup, qisNon_ln, qcooked_ln, and_assoc, exists_and_left, exists_eq_left, exists_eq_left', exists_eq_right, dxLc_eq, dsFor_eq, rngD_0, rngD_eq, zipD_map, enumD_map0]
    rcases hlo with ⟨rfl, _⟩ | ⟨_, u, _, rfl⟩
    · exact ⟨hp1, rfl, .inl ⟨rfl, hN _ rfl⟩⟩
    · exact ⟨hp1, rfl, .inr ⟨rfl, _, rfl, hp2 _ rfl, hN _ rfl⟩⟩
  subst hj
  -- ranges
  refine seq_gen (fun δ' => ∃ x10 x11 x12 : Sl, δ' = [.dat (.raw (.ref sa)), .dat (.raw (.ref r)), .dat (.tup (ss.map D.int)), .dat (.lst (rs.map Rq.d)), .dat (.ln (ss.map D.int)), .dat (.int (leg : Int)), .dat (.int v), .dat (.int (w - v)), .dat lo, .dat (.int p), x10, x11, x12, .un, .un, .un]) (fun N hN => ?_) (fun δ' hj => ?_)
  · by_cases hn : rs = []
    · subst hn
      simp [startD, wipeD, dsRet, dsRetN, dsIf, dsSeq, dsNext, dsAsg, dsDrop, dsBreak, dsCont, dsPar, dsAug, dsFrz, dsApp, dsExt, dsPut, dsAugO, dsOwn, dsParOO, dsParDO, dsParDDO, dsFrzA, dxRep, diOwn, dsRaise, deAnd, deOr, deNot, de1, de2, deB, deX, dxB, dxLst, deName, deC, deCall, deIxO, deLenO, deTup, deLst, daCons, daNil, daStar, deChain, dtChain, dtV, dtAnd, dtOr, dtNot, dtYes, deIf, deSl, doNone, doSome, rdAdd, rdSub, rdMul, rdMod, rdDiv, rdPow, rdI, rdIc, rdB, rdLt, rdLe, rdGt, rdGe, rdNeg, rdIs, rdEq, rdNe, rdIx, rdIsN, rdNotN, rdIsB, rdNotB, rdRev, rdSeats, rdCatL, rdCatT, rdRepL, rdLen, rdTuple, rdList, rxList, rdInt, rdMax2, rdMin2, dgName, dgTup, dgCons, dgNil, deRefused, rdRepr, rdNeS, rdEqL, rdNeL, rdRepT, rdIsLn, noOwn, diSeq, diEn, diZp, diR1, diR2, noX,  eqOk_int, eqOk_bl, eqOk_non, eqv_int, eqv_bl, eqv_non, atI_0, atI_1, atI_2, atI_3, qty_non, qisI_non, qisB_non, qisL_non, qisU_non, qisS_non, qisD_non, qisNon_non, qcooked_non, qseq_non, qty_bl, qisI_bl, qisB_bl, qisL_bl, qisU_bl, qisS_bl, qisD_bl, qisNon_bl, qcooked_bl, qseq_bl, qty_int, qisI_int, qisB_int, qisL_int, qisU_int, qisS_int, qisD_int, qisNon_int, qcooked_int, qseq_int, qty_str, qisI_str, qisB_str, qisL_str, qisU_str, qisS_str, qisD_str, qisNon_str, qcooked_str, qseq_str, qty_lst, qisI_lst, qisB_lst, qisL_lst, qisU_lst, qisS_lst, qisD_lst, qisNon_lst, qcooked_lst, qseq_lst, qty_tup, qisI_tup, qisB_tup, qisL_tup, qisU_tup, qisS_tup, qisD_tup, qisNon_tup, qcooked_tup, qseq_tup, qty_dct, qisI_dct, qisB_dct, qisL_dct, qisU_dct, qisS_dct, qisD_dct, qisNon_dct, qcooked_dct, qseq_dct, qix_lst, qsl_lst, qix_tup, qsl_tup, qisNon_ln, qcooked_ln, and_assoc, exists_and_left, exists_eq_left, exists_eq_left', exists_eq_right, dxLc_eq, dsFor_eq, rngD_0, rngD_eq, zipD_map, enumD_map0, eqOk_lst0, eqv_lst0]
      exact hN _ ⟨_, _, _, rfl⟩
    have hne : (rs.map Rq.d).isEmpty = false := by
      cases rs with
      | nil => exact absurd rfl hn
      | cons _ _ => rfl
    simp [startD, wipeD, dsRet, dsRetN, dsIf, dsSeq, dsNext, dsAsg, dsDrop, dsBreak, dsCont, dsPar, dsAug, dsFrz, dsApp, dsExt, dsPut, dsAugO, dsOwn, dsParOO, dsParDO, dsParDDO, dsFrzA, dxRep, diOwn, dsRaise, deAnd, deOr, deNot, de1, de2, deB, deX, dxB, dxLst, deName, deC, deCall, deIxO, deLenO, deTup, deLst, daCons, daNil, daStar, deChain, dtChain, dtV, dtAnd, dtOr, dtNot, dtYes, deIf, deSl, doNone, doSome, rdAdd, rdSub, rdMul, rdMod, rdDiv, rdPow, rdI, rdIc, rdB, rdLt, rdLe, rdGt, rdGe, rdNeg, rdIs, rdEq, rdNe, rdIx, rdIsN, rdNotN, rdIsB, rdNotB, rdRev, rdSeats, rdCatL, rdCatT, rdRepL, rdLen, rdTuple, rdList, rxList, rdInt, rdMax2, rdMin2, dgName, dgTup, dgCons, dgNil, deRefused, rdRepr, rdNeS, rdEqL, rdNeL, rdRepT, rdIsLn, noOwn, diSeq, diEn, diZp, diR1, diR2, noX,  eqOk_int, eqOk_bl, eqOk_non, eqv_int, eqv_bl, eqv_non, atI_0, atI_1, atI_2, atI_3, qty_non, qisI_non, qisB_non, qisL_non, qisU_non, qisS_non, qisD_non, qisNon_non, qcooked_non, qseq_non, qty_bl, qisI_bl, qisB_bl, qisL_bl, qisU_bl, qisS_bl, qisD_bl, qisNon_bl, qcooked_bl, qseq_bl, qty_int, qisI_int, qisB_int, qisL_int, qisU_int, qisS_int, qisD_int, qisNon_int, qcooked_int, qseq_int, qty_str, qisI_str, qisB_str, qisL_str, qisU_str, qisS_str, qisD_str, qisNon_str, qcooked_str, qseq_str, qty_lst, qisI_lst, qisB_lst, qisL_lst, qisU_lst, qisS_lst, qisD_lst, qisNon_lst, qcooked_lst, qseq_lst, qty_tup, qisI_tup, qisB_tup, qisL_tup, qisU_tup, qisS_tup, qisD_tup, qisNon_tup, qcooked_tup, qseq_tup, qty_dct, qisI_dct, qisB_dct, qisL_dct, qisU_dct, qisS_dct, qisD_dct, qisNon_dct, qcooked_dct, qseq_dct, qix_lst, qsl_lst, qix_tup, qsl_tup, qisNon_ln, qcooked_ln, and_assoc, exists_and_left, exists_eq_left, exists_eq_left', exists_eq_right, dxLc_eq, dsFor_eq, rngD_0, rngD_eq, zipD_map, enumD_map0, eqOk_rqs, eqOk_lst0, eqv_lst0, hne]
    refine ⟨r, sa, _, rfl, hrow, by have := List.length_pos_iff.mpr hn; omega, by omega, fun q q0 q1 => ?_⟩
    obtain ⟨at_, rfl⟩ := Int.eq_ofNat_of_zero_le q0
    have hat : at_ < rs.length := by omega
    have hwa : isWithin (.int (at_ : Int)) 0 ((rs.length : Int) - 1) = true := by
      simp [isWithin]
      omega
    refine ⟨ss, _, _, rfl, by omega, s0, ov, rfl, with_of (rs := rs) rfl ok (by omega) ⟨fun z => (by rw [hwa] at z; cases z), fun n q en hq x y hx hy => ?_⟩⟩
    have en : n = at_ := by
      have := D.int.inj en
      omega
    subst en
    have M : Mar ss (.lst (rs.map Rq.d)) rs n q := ⟨by omega, s0, rfl, hq, ok, by omega⟩
    refine ⟨[x, y], rfl, rfl, x, [y], rfl, y, [], rfl, rfl, ?_⟩
    have least : ∀ R : Prop, R → (x.cooked = true ∧ if x.isNon = true then sp__law_takes_one G.F [D.tup (ss.map D.int), .lst (rs.map Rq.d), .int (n : Int), .int 1000] (fun o => match o with
        | .ret d => d = .bl false ∧ R
        | .exc _ _ => False) else ∃ z, x = .int z ∧ 1 ≤ z ∧ ∃ i, x = .int i ∧ i ≤ 1000 ∧ sp__law_takes_one G.F [D.tup (ss.map D.int), .lst (rs.map Rq.d), .int (n : Int), x] (fun o => match o with
        | .ret d => d = .bl true ∧ ∃ i, x = .int i ∧ if 1 < i then ∃ i, x = .int i ∧ sp__law_takes_one G.F [D.tup (ss.map D.int), .lst (rs.map Rq.d), .int (n : Int), .int (i - 1)] (fun o => match o with
            | .ret d => d = .bl false ∧ R
            | .exc _ _ => False) else R
        | .exc _ _ => False)) := fun R hR => by
      rcases hx with ⟨rfl, h⟩ | ⟨f, rfl, f1, f2, h1, h2⟩
      · refine ⟨rfl, ?_⟩
        rw [if_pos (show D.non.isNon = true from rfl)]
        exact ⟨ss, rs, n, q, 1000, rfl, M, sl1, rl, by omega, by omega, by rw [h], hR⟩
      · refine ⟨rfl, ?_⟩
        rw [if_neg (show ¬ ((D.int f).isNon = true) from fun z => nomatch z)]
        refine ⟨f, rfl, f1, f, rfl, f2, ss, rs, n, q, f, rfl, M, sl1, rl, f1, f2, by rw [h1], f, rfl, ?_⟩
        split
        · rename_i c
          exact ⟨f, rfl, ss, rs, n, q, f - 1, rfl, M, sl1, rl, by omega, by omega, by rw [h2 c], hR⟩
        · exact hR
    refine least _ ?_
    rcases hy with ⟨rfl, h⟩ | ⟨f, rfl, f1, f2, h1, h2⟩
    · refine ⟨rfl, ?_⟩
      rw [if_pos (show D.non.isNon = true from rfl)]
      exact ⟨ss, rs, n, q, 1, rfl, M, sl1, rl, by omega, by omega, by rw [h], hN _ ⟨_, _, _, rfl⟩⟩
    · refine ⟨rfl, ?_⟩
      rw [if_neg (show ¬ ((D.int f).isNon = true) from fun z => nomatch z)]
      refine ⟨f, rfl, f1, f, rfl, f2, ss, rs, n, q, f, rfl, M, sl1, rl, f1, f2, by rw [h1], f, rfl, ?_⟩
      split
      · rename_i c
        exact ⟨f, rfl, ss, rs, n, q, f + 1, rfl, M, sl1, rl, by omega, by omega, by rw [h2 c], hN _ ⟨_, _, _, rfl⟩⟩
      · exact hN _ ⟨_, _, _, rfl⟩
  obtain ⟨x10, x11, x12, rfl⟩ := hj
  -- odd, wrong
  refine seq_gen (fun δ' => ∃ od wr : D, ((od.okv = true ∧ od.rok 1 = true ∧ isWithin od 0 ((ss.length : Int) - 1) = false) ∧ (wr.okv = true ∧ wr.rok 1 = true ∧ isWithin wr 0 ((rs.length : Int) - 1) = false)) ∧ δ' = [.dat (.raw (.ref sa)), .dat (.raw (.ref r)), .dat (.tup (ss.map D.int)), .dat (.lst (rs.map Rq.d)), .dat (.ln (ss.map D.int)), .dat (.int (leg : Int)), .dat (.int v), .dat (.int (w - v)), .dat lo, .dat (.int p), x10, x11, x12, .dat od, .dat wr, .un]) (fun N hN => ?_) (fun δ' hj => ?_)
  · simp [startD, wipeD, dsRet, dsRetN, dsIf, dsSeq, dsNext, dsAsg, dsDrop, dsBreak, dsCont, dsPar, dsAug, dsFrz, dsApp, dsExt, dsPut, dsAugO, dsOwn, dsParOO, dsParDO, dsParDDO, dsFrzA, dxRep, diOwn, dsRaise, deAnd, deOr, deNot, de1, de2, deB, deX, dxB, dxLst, deName, deC, deCall, deIxO, deLenO, deTup, deLst, daCons, daNil, daStar, deChain, dtChain, dtV, dtAnd, dtOr, dtNot, dtYes, deIf, deSl, doNone, doSome, rdAdd, rdSub, rdMul, rdMod, rdDiv, rdPow, rdI, rdIc, rdB, rdLt, rdLe, rdGt, rdGe, rdNeg, rdIs, rdEq, rdNe, rdIx, rdIsN, rdNotN, rdIsB, rdNotB, rdRev, rdSeats, rdCatL, rdCatT, rdRepL, rdLen, rdTuple, rdList, rxList, rdInt, rdMax2, rdMin2, dgName, dgTup, dgCons, dgNil, deRefused, rdRepr, rdNeS, rdEqL, rdNeL, rdRepT, rdIsLn, noOwn, diSeq, diEn, diZp, diR1, diR2, noX,  eqOk_int, eqOk_bl, eqOk_non, eqv_int, eqv_bl, eqv_non, atI_0, atI_1, atI_2, atI_3, qty_non, qisI_non, qisB_non, qisL_non, qisU_non, qisS_non, qisD_non, qisNon_non, qcooked_non, qseq_non, qty_bl, qisI_bl, qisB_bl, qisL_bl, qisU_bl, qisS_bl, qisD_bl, qisNon_bl, qcooked_bl, qseq_bl, qty_int, qisI_int, qisB_int, qisL_int, qisU_int, qisS_int, qisD_int, qisNon_int, qcooked_int, qseq_int, qty_str, qisI_str, qisB_str, qisL_str, qisU_str, qisS_str, qisD_str, qisNon_str, qcooked_str, qseq_str, qty_lst, qisI_lst, qisB_lst, qisL_lst, qisU_lst, qisS_lst, qisD_lst, qisNon_lst, qcooked_lst, qseq_lst, qty_tup, qisI_tup, qisB_tup, qisL_tup, qisU_tup, qisS_tup, qisD_tup, qisNon_tup, qcooked_tup, qseq_tup, qty_dct, qisI_dct, qisB_dct, qisL_dct, qisU_dct, qisS_dct, qisD_dct, qisNon_dct, qcooked_dct, qseq_dct, qix_lst, qsl_lst, qix_tup, qsl_tup, qisNon_ln, qcooked_ln, and_assoc, exists_and_left, exists_eq_left, exists_eq_left', exists_eq_right, dxLc_eq, dsFor_eq, rngD_0, rngD_eq, zipD_map, enumD_map0]
    have good : ∀ (m : Nat) (d : D), m < 100 → d ∈ [D.int (-1), .int (m : Int), .non, .bl true] → d.okv = true ∧ d.rok 1 = true ∧ isWithin d 0 ((m : Int) - 1) = false := fun m d hm hd => by
      simp only [List.mem_cons, List.not_mem_nil, or_false] at hd
      rcases hd with rfl | rfl | rfl | rfl
      · exact ⟨rfl, rfl, rfl⟩
      · exact ⟨rfl, rok_int (by omega), by simp [isWithin]; omega⟩
      · exact ⟨rfl, rfl, rfl⟩
      · exact ⟨rfl, rfl, rfl⟩
    refine ⟨r, sa, _, _, rfl, hrow, rfl, by simp, by simp, fun od hod => ?_⟩
    refine ⟨r, sa, _, _, rfl, hrow, rfl, by simp, by simp, fun wr hwr => ?_⟩
    exact hN _ ⟨od, wr, ⟨good _ _ (by omega) hod, good _ _ (by omega) hwr⟩, rfl⟩
  obtain ⟨od, wr, ⟨⟨od1, od2, od3⟩, wr1, wr2, wr3⟩, rfl⟩ := hj
  -- refused
  refine seq_gen (fun δ' => ∃ x15, δ' = [.dat (.raw (.ref sa)), .dat (.raw (.ref r)), .dat (.tup (ss.map D.int)), .dat (.lst (rs.map Rq.d)), .dat (.ln (ss.map D.int)), .dat (.int (leg : Int)), .dat (.int v), .dat (.int (w - v)), .dat lo, .dat (.int p), x10, x11, x12, .dat od, .dat wr, x15]) (fun N hN => ?_) (fun δ' hj => ?_)
  · simp [startD, wipeD, dsRet, dsRetN, dsIf, dsSeq, dsNext, dsAsg, dsDrop, dsBreak, dsCont, dsPar, dsAug, dsFrz, dsApp, dsExt, dsPut, dsAugO, dsOwn, dsParOO, dsParDO, dsParDDO, dsFrzA, dxRep, diOwn, dsRaise, deAnd, deOr, deNot, de1, de2, deB, deX, dxB, dxLst, deName, deC, deCall, deIxO, deLenO, deTup, deLst, daCons, daNil, daStar, deChain, dtChain, dtV, dtAnd, dtOr, dtNot, dtYes, deIf, deSl, doNone, doSome, rdAdd, rdSub, rdMul, rdMod, rdDiv, rdPow, rdI, rdIc, rdB, rdLt, rdLe, rdGt, rdGe, rdNeg, rdIs, rdEq, rdNe, rdIx, rdIsN, rdNotN, rdIsB, rdNotB, rdRev, rdSeats, rdCatL, rdCatT, rdRepL, rdLen, rdTuple, rdList, rxList, rdInt, rdMax2, rdMin2, dgName, dgTup, dgCons, dgNil, deRefused, rdRepr, rdNeS, rdEqL, rdNeL, rdRepT, rdIsLn, noOwn, diSeq, diEn, diZp, diR1, diR2, noX,  eqOk_int, eqOk_bl, eqOk_non, eqv_int, eqv_bl, eqv_non, atI_0, atI_1, atI_2, atI_3, qty_non, qisI_non, qisB_non, qisL_non, qisU_non, qisS_non, qisD_non, qisNon_non, qcooked_non, qseq_non, qty_bl, qisI_bl, qisB_bl, qisL_bl, qisU_bl, qisS_bl, qisD_bl, qisNon_bl, qcooked_bl, qseq_bl, qty_int, qisI_int, qisB_int, qisL_int, qisU_int, qisS_int, qisD_int, qisNon_int, qcooked_int, qseq_int, qty_str, qisI_str, qisB_str, qisL_str, qisU_str, qisS_str, qisD_str, qisNon_str, qcooked_str, qseq_str, qty_lst, qisI_lst, qisB_lst, qisL_lst, qisU_lst, qisS_lst, qisD_lst, qisNon_lst, qcooked_lst, qseq_lst, qty_tup, qisI_tup, qisB_tup, qisL_tup, qisU_tup, qisS_tup, qisD_tup, qisNon_tup, qcooked_tup, qseq_tup, qty_dct, qisI_dct, qisB_dct, qisL_dct, qisU_dct, qisS_dct, qisD_dct, qisNon_dct, qcooked_dct, qseq_dct, qix_lst, qsl_lst, qix_tup, qsl_tup, qisNon_ln, qcooked_ln, and_assoc, exists_and_left, exists_eq_left, exists_eq_left', exists_eq_right, dxLc_eq, dsFor_eq, rngD_0, rngD_eq, zipD_map, enumD_map0]
    refine fb_id _ (fun _ δ' => ∃ x15 : Sl, δ' = [.dat (.raw (.ref sa)), .dat (.raw (.ref r)), .dat (.tup (ss.map D.int)), .dat (.lst (rs.map Rq.d)), .dat (.ln (ss.map D.int)), .dat (.int (leg : Int)), .dat (.int v), .dat (.int (w - v)), .dat lo, .dat (.int p), x10, x11, x12, .dat od, .dat wr, x15]) ⟨_, rfl⟩ (fun i z δ' hz hj => ?_) (fun δ' hj => hN _ hj)
    obtain ⟨x15, rfl⟩ := hj
    have hz : z = .raw (.ref (He.ga K "seat_gain")) ∨ z = .raw (.ref (He.ga K "seat_loss")) := by simpa using hz
    show dsSeq _ _ _ [.dat (.raw (.ref sa)), .dat (.raw (.ref r)), .dat (.tup (ss.map D.int)), .dat (.lst (rs.map Rq.d)), .dat (.ln (ss.map D.int)), .dat (.int (leg : Int)), .dat (.int v), .dat (.int (w - v)), .dat lo, .dat (.int p), x10, x11, x12, .dat od, .dat wr, .dat z]
    refine seq_gen (fun δ' => δ' = [.dat (.raw (.ref sa)), .dat (.raw (.ref r)), .dat (.tup (ss.map D.int)), .dat (.lst (rs.map Rq.d)), .dat (.ln (ss.map D.int)), .dat (.int (leg : Int)), .dat (.int v), .dat (.int (w - v)), .dat lo, .dat (.int p), x10, x11, x12, .dat od, .dat wr, .dat z]) (fun N2 hN2 => ?_) (fun δ' hj => ?_)
    · simp [startD, wipeD, dsRet, dsRetN, dsIf, dsSeq, dsNext, dsAsg, dsDrop, dsBreak, dsCont, dsPar, dsAug, dsFrz, dsApp, dsExt, dsPut, dsAugO, dsOwn, dsParOO, dsParDO, dsParDDO, dsFrzA, dxRep, diOwn, dsRaise, deAnd, deOr, deNot, de1, de2, deB, deX, dxB, dxLst, deName, deC, deCall, deIxO, deLenO, deTup, deLst, daCons, daNil, daStar, deChain, dtChain, dtV, dtAnd, dtOr, dtNot, dtYes, deIf, deSl, doNone, doSome, rdAdd, rdSub, rdMul, rdMod, rdDiv, rdPow, rdI, rdIc, rdB, rdLt, rdLe, rdGt, rdGe, rdNeg, rdIs, rdEq, rdNe, rdIx, rdIsN, rdNotN, rdIsB, rdNotB, rdRev, rdSeats, rdCatL, rdCatT, rdRepL, rdLen, rdTuple, rdList, rxList, rdInt, rdMax2, rdMin2, dgName, dgTup, dgCons, dgNil, deRefused, rdRepr, rdNeS, rdEqL, rdNeL, rdRepT, rdIsLn, noOwn, diSeq, diEn, diZp, diR1, diR2, noX,  eqOk_int, eqOk_bl, eqOk_non, eqv_int, eqv_bl, eqv_non, atI_0, atI_1, atI_2, atI_3, qty_non, qisI_non, qisB_non, qisL_non, qisU_non, qisS_non, qisD_non, qisNon_non, qcooked_non, qseq_non, qty_bl, qisI_bl, qisB_bl, qisL_bl, qisU_bl, qisS_bl, qisD_bl, qisNon_bl, qcooked_bl, qseq_bl, qty_int, qisI_int, qisB_int, qisL_int, qisU_int, qisS_int, qisD_int, qisNon_int, qcooked_int, qseq_int, qty_str, qisI_str, qisB_str, qisL_str, qisU_str, qisS_str, qisD_str, qisNon_str, qcooked_str, qseq_str, qty_lst, qisI_lst, qisB_lst, qisL_lst, qisU_lst, qisS_lst, qisD_lst, qisNon_lst, qcooked_lst, qseq_lst, qty_tup, qisI_tup, qisB_tup, qisL_tup, qisU_tup, qisS_tup, qisD_tup, qisNon_tup, qcooked_tup, qseq_tup, qty_dct, qisI_dct, qisB_dct, qisL_dct, qisU_dct, qisS_dct, qisD_dct, qisNon_dct, qcooked_dct, qseq_dct, qix_lst, qsl_lst, qix_tup, qsl_tup, qisNon_ln, qcooked_ln, and_assoc, exists_and_left, exists_eq_left, exists_eq_left', exists_eq_right, dxLc_eq, dsFor_eq, rngD_0, rngD_eq, zipD_map, enumD_map0]
      have bad : ∀ {l : Nat}, od = D.int (l : Int) → l < ss.length → False := fun el hl => by
        rw [el] at od3
        simp [isWithin] at od3
        omega
      rcases hz with rfl | rfl
      · refine .inl ⟨rfl, ?_⟩
        simp [startD, wipeD, dsRet, dsRetN, dsIf, dsSeq, dsNext, dsAsg, dsDrop, dsBreak, dsCont, dsPar, dsAug, dsFrz, dsApp, dsExt, dsPut, dsAugO, dsOwn, dsParOO, dsParDO, dsParDDO, dsFrzA, dxRep, diOwn, dsRaise, deAnd, deOr, deNot, de1, de2, deB, deX, dxB, dxLst, deName, deC, deCall, deIxO, deLenO, deTup, deLst, daCons, daNil, daStar, deChain, dtChain, dtV, dtAnd, dtOr, dtNot, dtYes, deIf, deSl, doNone, doSome, rdAdd, rdSub, rdMul, rdMod, rdDiv, rdPow, rdI, rdIc, rdB, rdLt, rdLe, rdGt, rdGe, rdNeg, rdIs, rdEq, rdNe, rdIx, rdIsN, rdNotN, rdIsB, rdNotB, rdRev, rdSeats, rdCatL, rdCatT, rdRepL, rdLen, rdTuple, rdList, rxList, rdInt, rdMax2, rdMin2, dgName, dgTup, dgCons, dgNil, deRefused, rdRepr, rdNeS, rdEqL, rdNeL, rdRepT, rdIsLn, noOwn, diSeq, diEn, diZp, diR1, diR2, noX,  eqOk_int, eqOk_bl, eqOk_non, eqv_int, eqv_bl, eqv_non, atI_0, atI_1, atI_2, atI_3, qty_non, qisI_non, qisB_non, qisL_non, qisU_non, qisS_non, qisD_non, qisNon_non, qcooked_non, qseq_non, qty_bl, qisI_bl, qisB_bl, qisL_bl, qisU_bl, qisS_bl, qisD_bl, qisNon_bl, qcooked_bl, qseq_bl, qty_int, qisI_int, qisB_int, qisL_int, qisU_int, qisS_int, qisD_int, qisNon_int, qcooked_int, qseq_int, qty_str, qisI_str, qisB_str, qisL_str, qisU_str, qisS_str, qisD_str, qisNon_str, qcooked_str, qseq_str, qty_lst, qisI_lst, qisB_lst, qisL_lst, qisU_lst, qisS_lst, qisD_lst, qisNon_lst, qcooked_lst, qseq_lst, qty_tup, qisI_tup, qisB_tup, qisL_tup, qisU_tup, qisS_tup, qisD_tup, qisNon_tup, qcooked_tup, qseq_tup, qty_dct, qisI_dct, qisB_dct, qisL_dct, qisU_dct, qisS_dct, qisD_dct, qisNon_dct, qcooked_dct, qseq_dct, qix_lst, qsl_lst, qix_tup, qsl_tup, qisNon_ln, qcooked_ln, and_assoc, exists_and_left, exists_eq_left, exists_eq_left', exists_eq_right, dxLc_eq, dsFor_eq, rngD_0, rngD_eq, zipD_map, enumD_map0]
        refine ⟨ss, _, _, rfl, by omega, s0, ov, od1, with_of (rs := rs) rfl ok (by omega) ⟨fun z => ⟨"leg", lkL, rkL od2, rkL od2, rfl, hN2 _ rfl⟩, fun l el hl => (bad el hl).elim⟩⟩
      · refine .inr ⟨rfl, ?_⟩
        simp [startD, wipeD, dsRet, dsRetN, dsIf, dsSeq, dsNext, dsAsg, dsDrop, dsBreak, dsCont, dsPar, dsAug, dsFrz, dsApp, dsExt, dsPut, dsAugO, dsOwn, dsParOO, dsParDO, dsParDDO, dsFrzA, dxRep, diOwn, dsRaise, deAnd, deOr, deNot, de1, de2, deB, deX, dxB, dxLst, deName, deC, deCall, deIxO, deLenO, deTup, deLst, daCons, daNil, daStar, deChain, dtChain, dtV, dtAnd, dtOr, dtNot, dtYes, deIf, deSl, doNone, doSome, rdAdd, rdSub, rdMul, rdMod, rdDiv, rdPow, rdI, rdIc, rdB, rdLt, rdLe, rdGt, rdGe, rdNeg, rdIs, rdEq, rdNe, rdIx, rdIsN, rdNotN, rdIsB, rdNotB, rdRev, rdSeats, rdCatL, rdCatT, rdRepL, rdLen, rdTuple, rdList, rxList, rdInt, rdMax2, rdMin2, dgName, dgTup, dgCons, dgNil, deRefused, rdRepr, rdNeS, rdEqL, rdNeL, rdRepT, rdIsLn, noOwn, diSeq, diEn, diZp, diR1, diR2, noX,  eqOk_int, eqOk_bl, eqOk_non, eqv_int, eqv_bl, eqv_non, atI_0, atI_1, atI_2, atI_3, qty_non, qisI_non, qisB_non, qisL_non, qisU_non, qisS_non, qisD_non, qisNon_non, qcooked_non, qseq_non, qty_bl, qisI_bl, qisB_bl, qisL_bl, qisU_bl, qisS_bl, qisD_bl, qisNon_bl, qcooked_bl, qseq_bl, qty_int, qisI_int, qisB_int, qisL_int, qisU_int, qisS_int, qisD_int, qisNon_int, qcooked_int, qseq_int, qty_str, qisI_str, qisB_str, qisL_str, qisU_str, qisS_str, qisD_str, qisNon_str, qcooked_str, qseq_str, qty_lst, qisI_lst, qisB_lst, qisL_lst, qisU_lst, qisS_lst, qisD_lst, qisNon_lst, qcooked_lst, qseq_lst, qty_tup, qisI_tup, qisB_tup, qisL_tup, qisU_tup, qisS_tup, qisD_tup, qisNon_tup, qcooked_tup, qseq_tup, qty_dct, qisI_dct, qisB_dct, qisL_dct, qisU_dct, qisS_dct, qisD_dct, qisNon_dct, qcooked_dct, qseq_dct, qix_lst, qsl_lst, qix_tup, qsl_tup, qisNon_ln, qcooked_ln, and_assoc, exists_and_left, exists_eq_left, exists_eq_left', exists_eq_right, dxLc_eq, dsFor_eq, rngD_0, rngD_eq, zipD_map, enumD_map0]
        refine ⟨ss, _, _, rfl, by omega, s0, ov, od1, with_of (rs := rs) rfl ok (by omega) ⟨fun z => ⟨"leg", lkL, rkL od2, rkL od2, rfl, hN2 _ rfl⟩, fun l el hl => (bad el hl).elim⟩⟩
    subst hj
    have hb0 : badReqs ss.length (.lst [.non]) = some 0 := by rfl
    have eqR : (D.tup [.str "requests", .int 0]).eqOk = true := eqOk_fit (n := 1) (by rw [fit_tup]; simp [fit_int]; decide +kernel)
    simp [startD, wipeD, dsRet, dsRetN, dsIf, dsSeq, dsNext, dsAsg, dsDrop, dsBreak, dsCont, dsPar, dsAug, dsFrz, dsApp, dsExt, dsPut, dsAugO, dsOwn, dsParOO, dsParDO, dsParDDO, dsFrzA, dxRep, diOwn, dsRaise, deAnd, deOr, deNot, de1, de2, deB, deX, dxB, dxLst, deName, deC, deCall, deIxO, deLenO, deTup, deLst, daCons, daNil, daStar, deChain, dtChain, dtV, dtAnd, dtOr, dtNot, dtYes, deIf, deSl, doNone, doSome, rdAdd, rdSub, rdMul, rdMod, rdDiv, rdPow, rdI, rdIc, rdB, rdLt, rdLe, rdGt, rdGe, rdNeg, rdIs, rdEq, rdNe, rdIx, rdIsN, rdNotN, rdIsB, rdNotB, rdRev, rdSeats, rdCatL, rdCatT, rdRepL, rdLen, rdTuple, rdList, rxList, rdInt, rdMax2, rdMin2, dgName, dgTup, dgCons, dgNil, deRefused, rdRepr, rdNeS, rdEqL, rdNeL, rdRepT, rdIsLn, noOwn, diSeq, diEn, diZp, diR1, diR2, noX,  eqOk_int, eqOk_bl, eqOk_non, eqv_int, eqv_bl, eqv_non, atI_0, atI_1, atI_2, atI_3, qty_non, qisI_non, qisB_non, qisL_non, qisU_non, qisS_non, qisD_non, qisNon_non, qcooked_non, qseq_non, qty_bl, qisI_bl, qisB_bl, qisL_bl, qisU_bl, qisS_bl, qisD_bl, qisNon_bl, qcooked_bl, qseq_bl, qty_int, qisI_int, qisB_int, qisL_int, qisU_int, qisS_int, qisD_int, qisNon_int, qcooked_int, qseq_int, qty_str, qisI_str, qisB_str, qisL_str, qisU_str, qisS_str, qisD_str, qisNon_str, qcooked_str, qseq_str, qty_lst, qisI_lst, qisB_lst, qisL_lst, qisU_lst, qisS_lst, qisD_lst, qisNon_lst, qcooked_lst, qseq_lst, qty_tup, qisI_tup, qisB_tup, qisL_tup, qisU_tup, qisS_tup, qisD_tup, qisNon_tup, qcooked_tup, qseq_tup, qty_dct, qisI_dct, qisB_dct, qisL_dct, qisU_dct, qisS_dct, qisD_dct, qisNon_dct, qcooked_dct, qseq_dct, qix_lst, qsl_lst, qix_tup, qsl_tup, qisNon_ln, qcooked_ln, and_assoc, exists_and_left, exists_eq_left, exists_eq_left', exists_eq_right, dxLc_eq, dsFor_eq, rngD_0, rngD_eq, zipD_map, enumD_map0]
    rcases hz with rfl | rfl
    · refine .inl ⟨rfl, ?_⟩
      simp [startD, wipeD, dsRet, dsRetN, dsIf, dsSeq, dsNext, dsAsg, dsDrop, dsBreak, dsCont, dsPar, dsAug, dsFrz, dsApp, dsExt, dsPut, dsAugO, dsOwn, dsParOO, dsParDO, dsParDDO, dsFrzA, dxRep, diOwn, dsRaise, deAnd, deOr, deNot, de1, de2, deB, deX, dxB, dxLst, deName, deC, deCall, deIxO, deLenO, deTup, deLst, daCons, daNil, daStar, deChain, dtChain, dtV, dtAnd, dtOr, dtNot, dtYes, deIf, deSl, doNone, doSome, rdAdd, rdSub, rdMul, rdMod, rdDiv, rdPow, rdI, rdIc, rdB, rdLt, rdLe, rdGt, rdGe, rdNeg, rdIs, rdEq, rdNe, rdIx, rdIsN, rdNotN, rdIsB, rdNotB, rdRev, rdSeats, rdCatL, rdCatT, rdRepL, rdLen, rdTuple, rdList, rxList, rdInt, rdMax2, rdMin2, dgName, dgTup, dgCons, dgNil, deRefused, rdRepr, rdNeS, rdEqL, rdNeL, rdRepT, rdIsLn, noOwn, diSeq, diEn, diZp, diR1, diR2, noX,  eqOk_int, eqOk_bl, eqOk_non, eqv_int, eqv_bl, eqv_non, atI_0, atI_1, atI_2, atI_3, qty_non, qisI_non, qisB_non, qisL_non, qisU_non, qisS_non, qisD_non, qisNon_non, qcooked_non, qseq_non, qty_bl, qisI_bl, qisB_bl, qisL_bl, qisU_bl, qisS_bl, qisD_bl, qisNon_bl, qcooked_bl, qseq_bl, qty_int, qisI_int, qisB_int, qisL_int, qisU_int, qisS_int, qisD_int, qisNon_int, qcooked_int, qseq_int, qty_str, qisI_str, qisB_str, qisL_str, qisU_str, qisS_str, qisD_str, qisNon_str, qcooked_str, qseq_str, qty_lst, qisI_lst, qisB_lst, qisL_lst, qisU_lst, qisS_lst, qisD_lst, qisNon_lst, qcooked_lst, qseq_lst, qty_tup, qisI_tup, qisB_tup, qisL_tup, qisU_tup, qisS_tup, qisD_tup, qisNon_tup, qcooked_tup, qseq_tup, qty_dct, qisI_dct, qisB_dct, qisL_dct, qisU_dct, qisS_dct, qisD_dct, qisNon_dct, qcooked_dct, qseq_dct, qix_lst, qsl_lst, qix_tup, qsl_tup, qisNon_ln, qcooked_ln, and_assoc, exists_and_left, exists_eq_left, exists_eq_left', exists_eq_right, dxLc_eq, dsFor_eq, rngD_0, rngD_eq, zipD_map, enumD_map0]
      exact ⟨ss, _, _, rfl, by omega, s0, rfl, od1, with_bad hb0 ⟨"requests", lkR, eqR, eqR, D.eqv_refl eqR⟩⟩
    · refine .inr ⟨rfl, ?_⟩
      simp [startD, wipeD, dsRet, dsRetN, dsIf, dsSeq, dsNext, dsAsg, dsDrop, dsBreak, dsCont, dsPar, dsAug, dsFrz, dsApp, dsExt, dsPut, dsAugO, dsOwn, dsParOO, dsParDO, dsParDDO, dsFrzA, dxRep, diOwn, dsRaise, deAnd, deOr, deNot, de1, de2, deB, deX, dxB, dxLst, deName, deC, deCall, deIxO, deLenO, deTup, deLst, daCons, daNil, daStar, deChain, dtChain, dtV, dtAnd, dtOr, dtNot, dtYes, deIf, deSl, doNone, doSome, rdAdd, rdSub, rdMul, rdMod, rdDiv, rdPow, rdI, rdIc, rdB, rdLt, rdLe, rdGt, rdGe, rdNeg, rdIs, rdEq, rdNe, rdIx, rdIsN, rdNotN, rdIsB, rdNotB, rdRev, rdSeats, rdCatL, rdCatT, rdRepL, rdLen, rdTuple, rdList, rxList, rdInt, rdMax2, rdMin2, dgName, dgTup, dgCons, dgNil, deRefused, rdRepr, rdNeS, rdEqL, rdNeL, rdRepT, rdIsLn, noOwn, diSeq, diEn, diZp, diR1, diR2, noX,  eqOk_int, eqOk_bl, eqOk_non, eqv_int, eqv_bl, eqv_non, atI_0, atI_1, atI_2, atI_3, qty_non, qisI_non, qisB_non, qisL_non, qisU_non, qisS_non, qisD_non, qisNon_non, qcooked_non, qseq_non, qty_bl, qisI_bl, qisB_bl, qisL_bl, qisU_bl, qisS_bl, qisD_bl, qisNon_bl, qcooked_bl, qseq_bl, qty_int, qisI_int, qisB_int, qisL_int, qisU_int, qisS_int, qisD_int, qisNon_int, qcooked_int, qseq_int, qty_str, qisI_str, qisB_str, qisL_str, qisU_str, qisS_str, qisD_str, qisNon_str, qcooked_str, qseq_str, qty_lst, qisI_lst, qisB_lst, qisL_lst, qisU_lst, qisS_lst, qisD_lst, qisNon_lst, qcooked_lst, qseq_lst, qty_tup, qisI_tup, qisB_tup, qisL_tup, qisU_tup, qisS_tup, qisD_tup, qisNon_tup, qcooked_tup, qseq_tup, qty_dct, qisI_dct, qisB_dct, qisL_dct, qisU_dct, qisS_dct, qisD_dct, qisNon_dct, qcooked_dct, qseq_dct, qix_lst, qsl_lst, qix_tup, qsl_tup, qisNon_ln, qcooked_ln, and_assoc, exists_and_left, exists_eq_left, exists_eq_left', exists_eq_right, dxLc_eq, dsFor_eq, rngD_0, rngD_eq, zipD_map, enumD_map0]
      exact ⟨ss, _, _, rfl, by omega, s0, rfl, od1, with_bad hb0 ⟨"requests", lkR, eqR, eqR, D.eqv_refl eqR⟩⟩
  obtain ⟨x15, rfl⟩ := hj
  simp [startD, wipeD, dsRet, dsRetN, dsIf, dsSeq, dsNext, dsAsg, dsDrop, dsBreak, dsCont, dsPar, dsAug, dsFrz, dsApp, dsExt, dsPut, dsAugO, dsOwn, dsParOO, dsParDO, dsParDDO, dsFrzA, dxRep, diOwn, dsRaise, deAnd, deOr, deNot, de1, de2, deB, deX, dxB, dxLst, deName, deC, deCall, deIxO, deLenO, deTup, deLst, daCons, daNil, daStar, deChain, dtChain, dtV, dtAnd, dtOr, dtNot, dtYes, deIf, deSl, doNone, doSome, rdAdd, rdSub, rdMul, rdMod, rdDiv, rdPow, rdI, rdIc, rdB, rdLt, rdLe, rdGt, rdGe, rdNeg, rdIs, rdEq, rdNe, rdIx, rdIsN, rdNotN, rdIsB, rdNotB, rdRev, rdSeats, rdCatL, rdCatT, rdRepL, rdLen, rdTuple, rdList, rxList, rdInt, rdMax2, rdMin2, dgName, dgTup, dgCons, dgNil, deRefused, rdRepr, rdNeS, rdEqL, rdNeL, rdRepT, rdIsLn, noOwn, diSeq, diEn, diZp, diR1, diR2, noX,  eqOk_int, eqOk_bl, eqOk_non, eqv_int, eqv_bl, eqv_non, atI_0, atI_1, atI_2, atI_3, qty_non, qisI_non, qisB_non, qisL_non, qisU_non, qisS_non, qisD_non, qisNon_non, qcooked_non, qseq_non, qty_bl, qisI_bl, qisB_bl, qisL_bl, qisU_bl, qisS_bl, qisD_bl, qisNon_bl, qcooked_bl, qseq_bl, qty_int, qisI_int, qisB_int, qisL_int, qisU_int, qisS_int, qisD_int, qisNon_int, qcooked_int, qseq_int, qty_str, qisI_str, qisB_str, qisL_str, qisU_str, qisS_str, qisD_str, qisNon_str, qcooked_str, qseq_str, qty_lst, qisI_lst, qisB_lst, qisL_lst, qisU_lst, qisS_lst, qisD_lst, qisNon_lst, qcooked_lst, qseq_lst, qty_tup, qisI_tup, qisB_tup, qisL_tup, qisU_tup, qisS_tup, qisD_tup, qisNon_tup, qcooked_tup, qseq_tup, qty_dct, qisI_dct, qisB_dct, qisL_dct, qisU_dct, qisS_dct, qisD_dct, qisNon_dct, qcooked_dct, qseq_dct, qix_lst, qsl_lst, qix_tup, qsl_tup, qisNon_ln, qcooked_ln, and_assoc, exists_and_left, exists_eq_left, exists_eq_left', exists_eq_right, dxLc_eq, dsFor_eq, rngD_0, rngD_eq, zipD_map, enumD_map0, rdEqS]
  refine ⟨ss, _, _, rfl, by omega, s0, ov, wr1, with_of (rs := rs) rfl ok (by omega) ⟨fun z => ⟨"number", lkN, rkN wr2, rkN wr2, rfl⟩, fun n q en hq => ?_⟩⟩
  have hlt := (List.getElem?_eq_some_iff.mp hq).1
  rw [en] at wr3
  simp [isWithin] at wr3
  omega
theorem run_law (T : Txt K mg) {f c Pt gR a : Addr} {fd fdR : FuncData} {ns : List Int} (F : FnP K "law" s_law f fd) (c__law_alike : Cl P w K mg base 8 "_law_alike" sp__law_alike []) (c__law_asks : Cl P w K mg base 3 "_law_asks" sp__law_asks00 []) (c__law_leaves_one : Cl P w K mg base 7 "_law_leaves_one" sp__law_leaves_one []) (c__law_line : Cl P w K mg base 3 "_law_line" sp__law_line []) (c__law_more : Cl P w K mg base 1 "_law_more" sp__law_more []) (c__law_most : Cl P w K mg base 6 "_law_most" sp__law_most []) (c__law_pick : Cl P w K mg base 2 "_law_pick" sp__law_pick []) (c__law_taken : Cl P w K mg base 1 "_law_taken" sp__law_taken []) (c__law_takes_one : Cl P w K mg base 7 "_law_takes_one" sp__law_takes_one []) (c_best_prices : Cl P w K mg base 6 "best_prices" sp_best_prices []) (c_fare_range : Cl P w K mg base 9 "fare_range" sp_fare_range []) (c_seat_gain : Cl P w K mg base 7 "seat_gain" sp_seat_gain []) (c_seat_loss : Cl P w K mg base 7 "seat_loss" sp_seat_loss [])  (lnOk : Ln P w K mg base 3) (lnEq : LnEq P w K mg base 1) (FR : FnP K "_law_refused" s__law_refused gR fdR) (bR : Binds K fdR ["ask"] []) (hmR : mg "_law_refused" = some (.ref gR)) (hx : exmAll K refTab) (x_BadLeg : Er P w K mg base 1 "BadLeg") (x_BadNumber : Er P w K mg base 1 "BadNumber") (x_BadRequests : Er P w K mg base 1 "BadRequests")
    (TB : LamX.TabB base mg c Pt) (hcode : fd.code = .ref c) {s : Shared} {H : Hp} (e0 : Env0 P w K mg base callerA [] s H) (bt : BindsTo s fd ⟨[.ref a], []⟩ [("script", .ref a)]) (scr : SqL K H a (ns.map V.int)) (hP : H Pt = some (.tbl #[])) (only : ∀ b ps, H b = some (.tbl ps) → b = Pt) :
    codeAny (model P w) callerA (.call (.ref f) ⟨[.ref a], []⟩) (CR (L2.CX P w) [] P w H s (fun v _ => v = .bl true) E0) s := by
  have sc := sc_law
  have hr0 : Room 14 callerA := ⟨rfl, by decide, by decide⟩
  obtain ⟨oc, od, dV, kV, doc, pm, an, cdv, ct, osl, efd, lk, hcd, _, _⟩ := F.ex
  have ec : cdv = .ref c := by
    rw [efd] at hcode
    exact hcode
  subst ec
  subst efd
  refine LamX.run_ofS (N := ["script", "row", "seats", "asks", "line", "leg", "whole", "gain", "loss", "price", "at", "least", "most", "odd", "wrong", "ask"]) (ps := ["script"]) (us := [.ref a]) (vs := [.ref a]) lk hcd sc hr0 e0 bt (.cons rfl .nil) rfl (fun hr => ?_)
  refine ⟨_, pss_cons (ps_set (i := 1) sc.nd rfl (Or.inl rfl) (pe_lst (pa_cons (pv 0) (pa_cons pe_int (pa_cons pe_int (pa_cons pe_int pa_nil))))))
    (show PSs (cxLaw P w K mg base f c callerA s H) (defBody s_law).tail (fun D σ H' => ∃ (G : Gx) (t : DS), PSsd (cxLaw P w K mg base f c callerA s H) G (defBody s_law).tail t ∧ tsOf K G t D σ H') from ⟨fun pins s' σ H' D I ⟨G, t, h, z⟩ => h.run pins s' σ H' D I z⟩), ?_⟩
  refine ⟨.ref a, rfl, by show 4 ≤ sizeLine; decide, fun p hp => ?_⟩
  have pne : Pt ≠ p := fun z => by
    rw [← z, hP] at hp
    cases hp
  let B : Hp := fun b => if b = Pt then none else H b
  let H1 : Hp := upd H p (.lst [.ref a, .int 0, .int 1212, .int 0])
  let Fr : Fs := ⟨some (p, a), tabsL Pt⟩
  have eB : Evl.Ex B H1 := fun b o h => by
    have h : (if b = Pt then none else H b) = some o := h
    by_cases hb : b = Pt
    · rw [if_pos hb] at h
      cases h
    · rw [if_neg hb] at h
      have hbp : b ≠ p := fun z => by
        rw [z, hp] at h
        cases h
      show upd H p _ b = some o
      rw [upd_ne hbp]
      exact h
  have sB : SqL K B a (ns.map V.int) := by
    have keep : ∀ u, H a = some u → (∀ ps, u ≠ .tbl ps) → B a = some u := fun u h hn => by
      show (if a = Pt then none else H a) = some u
      rw [if_neg fun z => ?_]
      · exact h
      · rw [z, hP] at h
        exact hn _ (Option.some.inj h).symm
    rcases scr with (h | ⟨o, h⟩) | h
    · exact .inl (.inl (keep _ h fun _ z => by cases z))
    · exact .inl (.inr ⟨o, keep _ h fun _ z => by cases z⟩)
    · exact .inr h
  have fk : Fok K Fr B H1 := by
    refine ⟨fun r sa h => ?_, fun q hq => ?_, fun q hq => ?_, fun b ps h => ?_⟩
    · cases h
      refine ⟨?_, ⟨ns, sB⟩, 0, 1212, 0, upd_same, by decide, by decide, by decide⟩
      show (if p = Pt then none else H p) = none
      split
      · rfl
      · exact hp
    · rw [List.mem_singleton.mp hq]
      exact LamX.TabS.nil (show upd H p _ Pt = _ by rw [upd_ne pne]; exact hP)
    · rw [List.mem_singleton.mp hq]
      exact if_pos rfl
    · have h : (if b = Pt then none else H b) = some (.tbl ps) := h
      by_cases hb : b = Pt
      · rw [if_pos hb] at h
        cases h
      · rw [if_neg hb] at h
        exact hb (only b ps h)
  obtain ⟨t, ht, hread⟩ := law_data (P := P) (w := w) (K := K) (mg := mg) (base := base) (f := f) (c := c) (Pt := Pt) (gR := gR) (r := p) (sa := a) (fdR := fdR) (s0 := s) (H0 := H) T c__law_alike c__law_asks c__law_leaves_one c__law_line c__law_more c__law_most c__law_pick c__law_taken c__law_takes_one c_best_prices c_fare_range c_seat_gain c_seat_loss lnOk lnEq FR bR hmR hx x_BadLeg x_BadNumber x_BadRequests TB (A := callerA) rfl hr ⟨Fr, B, H1⟩ rfl rfl
  have st0 : Stt K ⟨Fr, B, H1⟩ (L2.start ["script", "row", "seats", "asks", "line", "leg", "whole", "gain", "loss", "price", "at", "least", "most", "odd", "wrong", "ask"] [.ref a]) B H1 (startD ["script", "row", "seats", "asks", "line", "leg", "whole", "gain", "loss", "price", "at", "least", "most", "odd", "wrong", "ask"] [.raw (.ref a)]) := RpA.start eB fk (.cons (.raw _) .nil)
  have st1 := st0.put (i := 1) (v := .ref p) (d := .raw (.ref p)) (.raw _)
  exact ⟨⟨Fr, B, H1⟩, t, ht, B, _, _, st1, hread, ⟨fun _ _ _ _ _ _ z => z.elim, fun v d B' H' m e r => by
    have e : d = .bl true := e
    subst e
    cases r
    rfl, fun _ _ _ _ _ _ z => z.elim, fun _ _ _ _ _ _ z => z.elim⟩⟩

end
end K12
end
-- H_12
section
set_option Elab.async false
set_option linter.all false
set_option maxRecDepth 100000
set_option maxHeartbeats 0
set_option autoImplicit false
namespace K12
open PySem PySem.Spec PyProof.Rows L2 Sd
def dd_is_integer : He.DefD := ⟨("is_integer", none), "is_integer", "is_integer", defArgs s_is_integer, defBody s_is_integer, defScope s_is_integer, [], []⟩
def dd_is_within : He.DefD := ⟨("is_within", none), "is_within", "is_within", defArgs s_is_within, defBody s_is_within, defScope s_is_within, [], []⟩
def dd_is_row : He.DefD := ⟨("is_row", none), "is_row", "is_row", defArgs s_is_row, defBody s_is_row, defScope s_is_row, [], []⟩
def dd_is_tuple_of : He.DefD := ⟨("is_tuple_of", none), "is_tuple_of", "is_tuple_of", defArgs s_is_tuple_of, defBody s_is_tuple_of, defScope s_is_tuple_of, [], []⟩
def dd_SeatError___init__ : He.DefD := ⟨("SeatError", some "__init__"), "__init__", "SeatError.__init__", defArgs s_SeatError___init__, defBody s_SeatError___init__, defScope s_SeatError___init__, [.non], []⟩
def dd_is_request : He.DefD := ⟨("is_request", none), "is_request", "is_request", defArgs s_is_request, defBody s_is_request, defScope s_is_request, [], []⟩
def dd_check_requests : He.DefD := ⟨("check_requests", none), "check_requests", "check_requests", defArgs s_check_requests, defBody s_check_requests, defScope s_check_requests, [], []⟩
def dd_told_loads : He.DefD := ⟨("told_loads", none), "told_loads", "told_loads", defArgs s_told_loads, defBody s_told_loads, defScope s_told_loads, [], []⟩
def dd_told_takings : He.DefD := ⟨("told_takings", none), "told_takings", "told_takings", defArgs s_told_takings, defBody s_told_takings, defScope s_told_takings, [], []⟩
def dd_Market___init__ : He.DefD := ⟨("Market", some "__init__"), "__init__", "Market.__init__", defArgs s_Market___init__, defBody s_Market___init__, defScope s_Market___init__, [], []⟩
def dd_Market_lay_roads : He.DefD := ⟨("Market", some "lay_roads"), "lay_roads", "Market.lay_roads", defArgs s_Market_lay_roads, defBody s_Market_lay_roads, defScope s_Market_lay_roads, [], []⟩
def dd_Market_lengths : He.DefD := ⟨("Market", some "lengths"), "lengths", "Market.lengths", defArgs s_Market_lengths, defBody s_Market_lengths, defScope s_Market_lengths, [], []⟩
def dd_Market_better : He.DefD := ⟨("Market", some "better"), "better", "Market.better", defArgs s_Market_better, defBody s_Market_better, defScope s_Market_better, [], []⟩
def dd_Market_prices : He.DefD := ⟨("Market", some "prices"), "prices", "Market.prices", defArgs s_Market_prices, defBody s_Market_prices, defScope s_Market_prices, [], []⟩
def dd_told_best : He.DefD := ⟨("told_best", none), "told_best", "told_best", defArgs s_told_best, defBody s_told_best, defScope s_told_best, [], []⟩
def dd_best_prices : He.DefD := ⟨("best_prices", none), "best_prices", "best_prices", defArgs s_best_prices, defBody s_best_prices, defScope s_best_prices, [], []⟩
def dd_Line___init__ : He.DefD := ⟨("Line", some "__init__"), "__init__", "Line.__init__", defArgs s_Line___init__, defBody s_Line___init__, defScope s_Line___init__, [], []⟩
def dd_Line___eq__ : He.DefD := ⟨("Line", some "__eq__"), "__eq__", "Line.__eq__", defArgs s_Line___eq__, defBody s_Line___eq__, defScope s_Line___eq__, [], []⟩
def dd_check_leg : He.DefD := ⟨("check_leg", none), "check_leg", "check_leg", defArgs s_check_leg, defBody s_check_leg, defScope s_check_leg, [], []⟩
def dd_with_seats : He.DefD := ⟨("with_seats", none), "with_seats", "with_seats", defArgs s_with_seats, defBody s_with_seats, defScope s_with_seats, [], []⟩
def dd_seat_gain : He.DefD := ⟨("seat_gain", none), "seat_gain", "seat_gain", defArgs s_seat_gain, defBody s_seat_gain, defScope s_seat_gain, [], []⟩
def dd_seat_loss : He.DefD := ⟨("seat_loss", none), "seat_loss", "seat_loss", defArgs s_seat_loss, defBody s_seat_loss, defScope s_seat_loss, [], []⟩
def dd_with_request : He.DefD := ⟨("with_request", none), "with_request", "with_request", defArgs s_with_request, defBody s_with_request, defScope s_with_request, [], []⟩
def dd_takes_one : He.DefD := ⟨("takes_one", none), "takes_one", "takes_one", defArgs s_takes_one, defBody s_takes_one, defScope s_takes_one, [], []⟩
def dd_leaves_one : He.DefD := ⟨("leaves_one", none), "leaves_one", "leaves_one", defArgs s_leaves_one, defBody s_leaves_one, defScope s_leaves_one, [], []⟩
def dd_fare_range : He.DefD := ⟨("fare_range", none), "fare_range", "fare_range", defArgs s_fare_range, defBody s_fare_range, defScope s_fare_range, [], []⟩
def dd_least_taken : He.DefD := ⟨("least_taken", none), "least_taken", "least_taken", defArgs s_least_taken, defBody s_least_taken, defScope s_least_taken, [], []⟩
def dd_most_left : He.DefD := ⟨("most_left", none), "most_left", "most_left", defArgs s_most_left, defBody s_most_left, defScope s_most_left, [], []⟩
def dd__law_taken : He.DefD := ⟨("_law_taken", none), "_law_taken", "_law_taken", defArgs s__law_taken, defBody s__law_taken, defScope s__law_taken, [], []⟩
def dd__law_pick : He.DefD := ⟨("_law_pick", none), "_law_pick", "_law_pick", defArgs s__law_pick, defBody s__law_pick, defScope s__law_pick, [], []⟩
def dd__law_alike : He.DefD := ⟨("_law_alike", none), "_law_alike", "_law_alike", defArgs s__law_alike, defBody s__law_alike, defScope s__law_alike, [], []⟩
def dd__law_line : He.DefD := ⟨("_law_line", none), "_law_line", "_law_line", defArgs s__law_line, defBody s__law_line, defScope s__law_line, [], []⟩
def dd__law_asks : He.DefD := ⟨("_law_asks", none), "_law_asks", "_law_asks", defArgs s__law_asks, defBody s__law_asks, defScope s__law_asks, [], []⟩
def dd__law_most : He.DefD := ⟨("_law_most", none), "_law_most", "_law_most", defArgs s__law_most, defBody s__law_most, defScope s__law_most, [], []⟩
def dd__law_more : He.DefD := ⟨("_law_more", none), "_law_more", "_law_more", defArgs s__law_more, defBody s__law_more, defScope s__law_more, [], []⟩
def dd__law_takes_one : He.DefD := ⟨("_law_takes_one", none), "_law_takes_one", "_law_takes_one", defArgs s__law_takes_one, defBody s__law_takes_one, defScope s__law_takes_one, [], []⟩
def dd__law_leaves_one : He.DefD := ⟨("_law_leaves_one", none), "_law_leaves_one", "_law_leaves_one", defArgs s__law_leaves_one, defBody s__law_leaves_one, defScope s__law_leaves_one, [], []⟩
def dd__law_refused : He.DefD := ⟨("_law_refused", none), "_law_refused", "_law_refused", defArgs s__law_refused, defBody s__law_refused, defScope s__law_refused, [], []⟩
def dd_law : He.DefD := ⟨("law", none), "law", "law", defArgs s_law, defBody s_law, defScope s_law, [], []⟩
def fn : List He.DefD := [dd_is_integer, dd_is_within, dd_is_row, dd_is_tuple_of, dd_SeatError___init__, dd_is_request, dd_check_requests, dd_told_loads, dd_told_takings, dd_Market___init__, dd_Market_lay_roads, dd_Market_lengths, dd_Market_better, dd_Market_prices, dd_told_best, dd_best_prices, dd_Line___init__, dd_Line___eq__, dd_check_leg, dd_with_seats, dd_seat_gain, dd_seat_loss, dd_with_request, dd_takes_one, dd_leaves_one, dd_fare_range, dd_least_taken, dd_most_left, dd__law_taken, dd__law_pick] ++ [dd__law_alike, dd__law_line, dd__law_asks, dd__law_most, dd__law_more, dd__law_takes_one, dd__law_leaves_one, dd__law_refused, dd_law]
def fa : List He.Fa := [.free "bool", .free "dict", .free "enumerate", .free "int", .free "isinstance", .free "len", .free "list", .free "max", .free "min", .free "range", .free "repr", .free "str", .free "sum", .free "tuple", .free "zip", .int "FAR" 1000000000, .int "MOST_FARE" 1000, .int "MOST_LEGS" 10, .int "MOST_MANY" 20, .int "MOST_REQUESTS" 12, .int "MOST_SEATS" 20, .glo "Line", .glo "Market", .glo "seat_gain", .glo "seat_loss", .glo "is_integer", .glo "is_within", .glo "is_row", .glo "is_tuple_of", .glo "is_request"] ++ [.glo "check_requests", .glo "told_loads", .glo "told_takings", .glo "told_best", .glo "best_prices", .glo "check_leg", .glo "with_seats", .glo "with_request", .glo "takes_one", .glo "leaves_one", .glo "fare_range", .glo "least_taken", .glo "most_left", .glo "_law_taken", .glo "_law_pick", .glo "_law_alike", .glo "_law_line", .glo "_law_asks", .glo "_law_most", .glo "_law_more", .glo "_law_takes_one", .glo "_law_leaves_one", .glo "_law_refused", .glo "law", .glo "BadLeg", .glo "BadNumber", .glo "BadRequests", .glo "BadSeats", .cls "Line", .noat "Line" "seats"] ++ [.mkr "Line", .cls "Market", .noat "Market" "seats", .noat "Market" "requests", .noat "Market" "sale", .noat "Market" "roads", .mkr "Market", .meth "Market" "lay_roads", .meth "Market" "lengths", .meth "Market" "better", .meth "Market" "prices"]
def tf : List He.Defn := [("law", none)]
def exmB (K : PySem.W.Frag) : Bool := refTab.all fun p => refTab.all fun q => decide (PySem.W.exmOne K (.ref (He.ga K p.1)) (.ref (He.ga K q.1)) = some (decide (p.1 = q.1)))
theorem exmB_ok {K : PySem.W.Frag} (h : exmB K = true) : exmAll K refTab := fun p hp q hq => of_decide_eq_true (List.all_eq_true.mp (List.all_eq_true.mp h p hp) q hq)
def ex (K : PySem.W.Frag) : Bool := errB K "BadLeg" && errB K "BadNumber" && errB K "BadRequests" && errB K "BadSeats" && (lineB K && exmB K)
abbrev R : PySem.W.OpenRow := PySem.W.OpenLaw.row PySem.Challenge.rw_seatsold_k12_whole_one_seat_more
abbrev hk : PySem.W.Hook := He.hookX 5 fa fn [] tf ex
def ob (s : PySem.W.SharedT) : He.AlX := He.obsX 5 fa fn [] tf ex (HandSHeadRun.getT s)
theorem ob_eq (s : PySem.W.SharedT) : ob s = hk.obs s.abs := He.obsX_eq (HandSHeadRun.getT_eq s)
def n1 : List Str := ["is_integer", "is_within", "is_row", "is_tuple_of", "SeatError", "BadSeats", "BadRequests", "BadLeg", "BadNumber", "MOST_FARE", "MOST_MANY", "MOST_REQUESTS", "is_request", "check_requests", "told_loads", "told_takings", "FAR", "Market", "told_best", "best_prices", "MOST_LEGS"]
def n2 : List Str := ["MOST_SEATS", "Line", "check_leg", "with_seats", "seat_gain", "seat_loss", "with_request", "takes_one", "leaves_one", "fare_range", "least_taken", "most_left", "_law_taken", "_law_pick", "_law_alike", "_law_line", "_law_asks", "_law_most", "_law_more", "_law_takes_one", "_law_leaves_one"]
def n3 : List Str := ["_law_refused", "__name__"]
theorem run (w : World) : HandSHeadRun.RunEq R (PySem.W.view R.prog [50]) hk ob 4000 (n1 ++ n2 ++ n3) w := by
  intro os
  kernel_rfl
theorem txt_ok {K : PySem.W.Frag} {h : Heap} {mg : Str → Option Value} (X : K.In h) (G : h.Ns mainGlobals mg) (c : He.SaysD fa fn K) (m : ex K = true) : Txt K mg where
  b_bool := He.free_ok X G (c.fact 0 (f := .free "bool") rfl)
  b_dict := He.free_ok X G (c.fact 1 (f := .free "dict") rfl)
  b_enumerate := He.free_ok X G (c.fact 2 (f := .free "enumerate") rfl)
  b_int := He.free_ok X G (c.fact 3 (f := .free "int") rfl)
  b_isinstance := He.free_ok X G (c.fact 4 (f := .free "isinstance") rfl)
  b_len := He.free_ok X G (c.fact 5 (f := .free "len") rfl)
  b_list := He.free_ok X G (c.fact 6 (f := .free "list") rfl)
  b_max := He.free_ok X G (c.fact 7 (f := .free "max") rfl)
  b_min := He.free_ok X G (c.fact 8 (f := .free "min") rfl)
  b_range := He.free_ok X G (c.fact 9 (f := .free "range") rfl)
  b_repr := He.free_ok X G (c.fact 10 (f := .free "repr") rfl)
  b_str := He.free_ok X G (c.fact 11 (f := .free "str") rfl)
  b_sum := He.free_ok X G (c.fact 12 (f := .free "sum") rfl)
  b_tuple := He.free_ok X G (c.fact 13 (f := .free "tuple") rfl)
  b_zip := He.free_ok X G (c.fact 14 (f := .free "zip") rfl)
  c_FAR := He.int_ok X G (c.fact 15 (f := .int "FAR" 1000000000) rfl)
  c_MOST_FARE := He.int_ok X G (c.fact 16 (f := .int "MOST_FARE" 1000) rfl)
  c_MOST_LEGS := He.int_ok X G (c.fact 17 (f := .int "MOST_LEGS" 10) rfl)
  c_MOST_MANY := He.int_ok X G (c.fact 18 (f := .int "MOST_MANY" 20) rfl)
  c_MOST_REQUESTS := He.int_ok X G (c.fact 19 (f := .int "MOST_REQUESTS" 12) rfl)
  c_MOST_SEATS := He.int_ok X G (c.fact 20 (f := .int "MOST_SEATS" 20) rfl)
  g_Line := He.glo_ok X G (c.fact 21 (f := .glo "Line") rfl)
  g_Market := He.glo_ok X G (c.fact 22 (f := .glo "Market") rfl)
  g_seat_gain := He.glo_ok X G (c.fact 23 (f := .glo "seat_gain") rfl)
  g_seat_loss := He.glo_ok X G (c.fact 24 (f := .glo "seat_loss") rfl)
  clLine := He.cls_ok (c.fact 58 (f := .cls "Line") rfl)
  nSeats := He.noat_ok (c.fact 59 (f := .noat "Line" "seats") rfl)
  lnF := by
    unfold ex at m
    simp only [Bool.and_eq_true] at m
    exact lineB_ok m.2.1
  clMarket := He.cls_ok (c.fact 61 (f := .cls "Market") rfl)
  nMarket_seats := He.noat_ok (c.fact 62 (f := .noat "Market" "seats") rfl)
  nMarket_requests := He.noat_ok (c.fact 63 (f := .noat "Market" "requests") rfl)
  nMarket_sale := He.noat_ok (c.fact 64 (f := .noat "Market" "sale") rfl)
  nMarket_roads := He.noat_ok (c.fact 65 (f := .noat "Market" "roads") rfl)
theorem errs_ok {K : PySem.W.Frag} (m : ex K = true) : (ErrF K "BadLeg" ∧ ErrF K "BadNumber" ∧ ErrF K "BadRequests" ∧ ErrF K "BadSeats") ∧ exmAll K refTab := by
  unfold ex at m
  simp only [Bool.and_eq_true] at m
  obtain ⟨m, _, m2⟩ := m
  obtain ⟨⟨⟨e0, e1⟩, e2⟩, e3⟩ := m
  exact ⟨⟨errB_ok e0, errB_ok e1, errB_ok e2, errB_ok e3⟩, exmB_ok m2⟩
theorem at_law {P : Program} {w : World} {K : PySem.W.Frag} {mg : Str → Option Value} {s1 : Shared} {a : Addr} {ns : List Int} {base : Heap} {H : Hp} (A : AtCall P w K mg [He.cT K ("law", none)] s1 a ns base H) (c : He.SaysD fa fn K) (m : ex K = true) :
    codeAny (model P w) callerA (.call (.ref (He.ga K "law")) ⟨[.ref a], []⟩) (CR (L2.CX P w) [] P w H s1 (fun v _ => v = .bl true) E0) s1 := by
  have X := A.kin
  have G := A.glo
  have T := txt_ok X G c m
  obtain ⟨⟨er0, er1, er2, er3⟩, hx⟩ := errs_ok m
  obtain ⟨fd_SeatError___init__, F_SeatError___init__⟩ : ∃ fd, FunD K "__init__" "SeatError.__init__" (defArgs s_SeatError___init__) (defBody s_SeatError___init__) (defScope s_SeatError___init__) [.non] [] (He.fAd K ("SeatError", some "__init__")) fd := c.def_ 4 (d := dd_SeatError___init__) rfl
  obtain ⟨d0, v0, b0⟩ := F_SeatError___init__.binds1 (ps := ["self", "value"]) 2 1 (by simp) rfl (fun _ _ _ _ _ _ _ us its h1 h2 => match us, its, h1, h2 with | [_, _], [_], _, _ => ⟨_, rfl, rfl⟩)
  obtain ⟨d1, v1, b1⟩ := F_SeatError___init__.binds1 (ps := ["self", "value"]) 1 0 (by simp) rfl (fun _ _ _ _ _ _ _ us its h1 h2 => match us, its, h1, h2 with | [_], [_], _, _ => ⟨_, rfl, rfl⟩)
  cases v0
  obtain ⟨u1, rfl, r1⟩ := vals1 v1
  cases r1
  have x_BadLeg : Er P w K mg base 1 "BadLeg" := ⟨er0, He.glo_ok X G (c.fact 54 (f := .glo "BadLeg") rfl), fd_SeatError___init__, [], ok_SeatError_init F_SeatError___init__, b0, b1⟩
  have x_BadNumber : Er P w K mg base 1 "BadNumber" := ⟨er1, He.glo_ok X G (c.fact 55 (f := .glo "BadNumber") rfl), fd_SeatError___init__, [], ok_SeatError_init F_SeatError___init__, b0, b1⟩
  have x_BadRequests : Er P w K mg base 1 "BadRequests" := ⟨er2, He.glo_ok X G (c.fact 56 (f := .glo "BadRequests") rfl), fd_SeatError___init__, [], ok_SeatError_init F_SeatError___init__, b0, b1⟩
  have x_BadSeats : Er P w K mg base 1 "BadSeats" := ⟨er3, He.glo_ok X G (c.fact 57 (f := .glo "BadSeats") rfl), fd_SeatError___init__, [], ok_SeatError_init F_SeatError___init__, b0, b1⟩
  obtain ⟨fd_is_integer, F_is_integer⟩ : ∃ fd, FnP K "is_integer" s_is_integer (He.ga K "is_integer") fd := c.def_ 0 (d := dd_is_integer) rfl
  have b_is_integer : Binds K fd_is_integer ["thing"] [] := F_is_integer.bindsN fun _ _ _ _ _ _ us hl => match us, hl with | [_], _ => rfl
  have c_is_integer : Sd.Cl P w K mg base 1 "is_integer" sp_is_integer [] := Cl.mk' F_is_integer (ok_is_integer T F_is_integer   ) (He.glo_ok X G (c.fact 25 (f := .glo "is_integer") rfl)) b_is_integer
  obtain ⟨fd_is_within, F_is_within⟩ : ∃ fd, FnP K "is_within" s_is_within (He.ga K "is_within") fd := c.def_ 1 (d := dd_is_within) rfl
  have b_is_within : Binds K fd_is_within ["thing", "least", "most"] [] := F_is_within.bindsN fun _ _ _ _ _ _ us hl => match us, hl with | [_, _, _], _ => rfl
  have c_is_within : Sd.Cl P w K mg base 2 "is_within" sp_is_within [] := Cl.mk' F_is_within (ok_is_within T F_is_within (c_is_integer := c_is_integer)  ) (He.glo_ok X G (c.fact 26 (f := .glo "is_within") rfl)) b_is_within
  obtain ⟨fd_is_row, F_is_row⟩ : ∃ fd, FnP K "is_row" s_is_row (He.ga K "is_row") fd := c.def_ 2 (d := dd_is_row) rfl
  have b_is_row : Binds K fd_is_row ["thing"] [] := F_is_row.bindsN fun _ _ _ _ _ _ us hl => match us, hl with | [_], _ => rfl
  have c_is_row : Sd.Cl P w K mg base 1 "is_row" sp_is_row [] := Cl.mk' F_is_row (ok_is_row T F_is_row   ) (He.glo_ok X G (c.fact 27 (f := .glo "is_row") rfl)) b_is_row
  obtain ⟨fd_is_tuple_of, F_is_tuple_of⟩ : ∃ fd, FnP K "is_tuple_of" s_is_tuple_of (He.ga K "is_tuple_of") fd := c.def_ 3 (d := dd_is_tuple_of) rfl
  have b_is_tuple_of : Binds K fd_is_tuple_of ["thing", "many"] [] := F_is_tuple_of.bindsN fun _ _ _ _ _ _ us hl => match us, hl with | [_, _], _ => rfl
  have c_is_tuple_of : Sd.Cl P w K mg base 1 "is_tuple_of" sp_is_tuple_of [] := Cl.mk' F_is_tuple_of (ok_is_tuple_of T F_is_tuple_of   ) (He.glo_ok X G (c.fact 28 (f := .glo "is_tuple_of") rfl)) b_is_tuple_of
  obtain ⟨fd_is_request, F_is_request⟩ : ∃ fd, FnP K "is_request" s_is_request (He.ga K "is_request") fd := c.def_ 5 (d := dd_is_request) rfl
  have b_is_request : Binds K fd_is_request ["line", "thing"] [] := F_is_request.bindsN fun _ _ _ _ _ _ us hl => match us, hl with | [_, _], _ => rfl
  have c_is_request : Sd.Cl P w K mg base 3 "is_request" sp_is_request [] := Cl.mk' F_is_request (ok_is_request T F_is_request (c_is_tuple_of := c_is_tuple_of) (c_is_within := c_is_within)  ) (He.glo_ok X G (c.fact 29 (f := .glo "is_request") rfl)) b_is_request
  obtain ⟨fd_check_requests, F_check_requests⟩ : ∃ fd, FnP K "check_requests" s_check_requests (He.ga K "check_requests") fd := c.def_ 6 (d := dd_check_requests) rfl
  have b_check_requests : Binds K fd_check_requests ["line", "requests"] [] := F_check_requests.bindsN fun _ _ _ _ _ _ us hl => match us, hl with | [_, _], _ => rfl
  have c_check_requests : Sd.Cl P w K mg base 4 "check_requests" sp_check_requests [] := Cl.mk' F_check_requests (ok_check_requests T F_check_requests (c_is_request := c_is_request) (c_is_row := c_is_row) (x_BadRequests := x_BadRequests) ) (He.glo_ok X G (c.fact 30 (f := .glo "check_requests") rfl)) b_check_requests
  obtain ⟨fd_told_loads, F_told_loads⟩ : ∃ fd, FnP K "told_loads" s_told_loads (He.ga K "told_loads") fd := c.def_ 7 (d := dd_told_loads) rfl
  have b_told_loads : Binds K fd_told_loads ["seats", "requests", "sale"] [] := F_told_loads.bindsN fun _ _ _ _ _ _ us hl => match us, hl with | [_, _, _], _ => rfl
  have c_told_loads : Sd.Cl P w K mg base 1 "told_loads" sp_told_loads [] := Cl.mk' F_told_loads (ok_told_loads T F_told_loads   ) (He.glo_ok X G (c.fact 31 (f := .glo "told_loads") rfl)) b_told_loads
  have n_told_loads : ClN P w K mg base 1 "told_loads" sp_told_loadsN := ⟨_, fd_told_loads, _, ok_told_loads_N T F_told_loads, He.glo_ok X G (c.fact 31 (f := .glo "told_loads") rfl), F_told_loads.kp, b_told_loads⟩
  obtain ⟨fd_Market_lay_roads, F_Market_lay_roads⟩ : ∃ fd, FunD K "lay_roads" "Market.lay_roads" (defArgs s_Market_lay_roads) (defBody s_Market_lay_roads) (defScope s_Market_lay_roads) [] [] (He.fAd K ("Market", some "lay_roads")) fd := c.def_ 10 (d := dd_Market_lay_roads) rfl
  have b_Market_lay_roads : Binds K fd_Market_lay_roads ["self"] [] := F_Market_lay_roads.bindsN fun _ _ _ _ _ _ us hl => match us, hl with | [_], _ => rfl
  have m_Market_lay_roads : Mt P w K mg base 2 "Market" "lay_roads" sp_lay_roads := ⟨T.clMarket, _, fd_Market_lay_roads, He.meth_ok (c.fact 67 (f := .meth "Market" "lay_roads") rfl), ok_Market_lay_roads T F_Market_lay_roads n_told_loads, b_Market_lay_roads⟩
  obtain ⟨fd_Market_lengths, F_Market_lengths⟩ : ∃ fd, FunD K "lengths" "Market.lengths" (defArgs s_Market_lengths) (defBody s_Market_lengths) (defScope s_Market_lengths) [] [] (He.fAd K ("Market", some "lengths")) fd := c.def_ 11 (d := dd_Market_lengths) rfl
  have b_Market_lengths : Binds K fd_Market_lengths ["self"] [] := F_Market_lengths.bindsN fun _ _ _ _ _ _ us hl => match us, hl with | [_], _ => rfl
  have m_Market_lengths : Mt P w K mg base 1 "Market" "lengths" sp_lengths := ⟨T.clMarket, _, fd_Market_lengths, He.meth_ok (c.fact 68 (f := .meth "Market" "lengths") rfl), ok_Market_lengths T F_Market_lengths , b_Market_lengths⟩
  obtain ⟨fd_Market_better, F_Market_better⟩ : ∃ fd, FunD K "better" "Market.better" (defArgs s_Market_better) (defBody s_Market_better) (defScope s_Market_better) [] [] (He.fAd K ("Market", some "better")) fd := c.def_ 12 (d := dd_Market_better) rfl
  have b_Market_better : Binds K fd_Market_better ["self"] [] := F_Market_better.bindsN fun _ _ _ _ _ _ us hl => match us, hl with | [_], _ => rfl
  have m_Market_better : Mt P w K mg base 3 "Market" "better" sp_better := ⟨T.clMarket, _, fd_Market_better, He.meth_ok (c.fact 69 (f := .meth "Market" "better") rfl), ok_Market_better T F_Market_better m_Market_lay_roads m_Market_lengths, b_Market_better⟩
  obtain ⟨fd_Market_prices, F_Market_prices⟩ : ∃ fd, FunD K "prices" "Market.prices" (defArgs s_Market_prices) (defBody s_Market_prices) (defScope s_Market_prices) [] [] (He.fAd K ("Market", some "prices")) fd := c.def_ 13 (d := dd_Market_prices) rfl
  have b_Market_prices : Binds K fd_Market_prices ["self"] [] := F_Market_prices.bindsN fun _ _ _ _ _ _ us hl => match us, hl with | [_], _ => rfl
  have m_Market_prices : Mt P w K mg base 3 "Market" "prices" sp_prices := ⟨T.clMarket, _, fd_Market_prices, He.meth_ok (c.fact 70 (f := .meth "Market" "prices") rfl), ok_Market_prices T F_Market_prices m_Market_lay_roads m_Market_lengths, b_Market_prices⟩
  obtain ⟨fd_Market___init__, F_Market___init__⟩ : ∃ fd, FunD K "__init__" "Market.__init__" (defArgs s_Market___init__) (defBody s_Market___init__) (defScope s_Market___init__) [] [] (He.fAd K ("Market", some "__init__")) fd := c.def_ 9 (d := dd_Market___init__) rfl
  have b_Market___init__ : Binds K fd_Market___init__ ["self", "seats", "requests"] [] := F_Market___init__.bindsN fun _ _ _ _ _ _ us hl => match us, hl with | [_, _, _], _ => rfl
  have mk_Market : MkO P w K mg base 4 "Market" sp_Market := ⟨T.clMarket, He.glo_ok X G (c.fact 22 (f := .glo "Market") rfl), _, fd_Market___init__, _, He.mkr_ok (c.fact 66 (f := .mkr "Market") rfl), ok_Market_init T F_Market___init__ m_Market_better, b_Market___init__⟩
  obtain ⟨fd_told_takings, F_told_takings⟩ : ∃ fd, FnP K "told_takings" s_told_takings (He.ga K "told_takings") fd := c.def_ 8 (d := dd_told_takings) rfl
  have b_told_takings : Binds K fd_told_takings ["requests", "sale"] [] := F_told_takings.bindsN fun _ _ _ _ _ _ us hl => match us, hl with | [_, _], _ => rfl
  have c_told_takings : Sd.Cl P w K mg base 1 "told_takings" sp_told_takings [] := Cl.mk' F_told_takings (ok_told_takings T F_told_takings   ) (He.glo_ok X G (c.fact 32 (f := .glo "told_takings") rfl)) b_told_takings
  obtain ⟨fd_told_best, F_told_best⟩ : ∃ fd, FnP K "told_best" s_told_best (He.ga K "told_best") fd := c.def_ 14 (d := dd_told_best) rfl
  have b_told_best : Binds K fd_told_best ["seats", "requests"] [] := F_told_best.bindsN fun _ _ _ _ _ _ us hl => match us, hl with | [_, _], _ => rfl
  have c_told_best : Sd.Cl P w K mg base 6 "told_best" sp_told_best00 [] := Cl.mk' F_told_best (ok_told_best T F_told_best (c_told_takings := c_told_takings)  (mk_Market := mk_Market)) (He.glo_ok X G (c.fact 33 (f := .glo "told_best") rfl)) b_told_best
  obtain ⟨fd_best_prices, F_best_prices⟩ : ∃ fd, FnP K "best_prices" s_best_prices (He.ga K "best_prices") fd := c.def_ 15 (d := dd_best_prices) rfl
  have b_best_prices : Binds K fd_best_prices ["line", "requests"] [] := F_best_prices.bindsN fun _ _ _ _ _ _ us hl => match us, hl with | [_, _], _ => rfl
  have c_best_prices : Sd.Cl P w K mg base 6 "best_prices" sp_best_prices [] := Cl.mk' F_best_prices (ok_best_prices T F_best_prices (c_check_requests := c_check_requests)  (mk_Market := mk_Market) (m_Market_prices := m_Market_prices)) (He.glo_ok X G (c.fact 34 (f := .glo "best_prices") rfl)) b_best_prices
  obtain ⟨fd_Line___init__, F_Line___init__⟩ : ∃ fd, FunD K "__init__" "Line.__init__" (defArgs s_Line___init__) (defBody s_Line___init__) (defScope s_Line___init__) [] [] (He.fAd K ("Line", some "__init__")) fd := c.def_ 16 (d := dd_Line___init__) rfl
  have b_Line___init__ : Binds K fd_Line___init__ ["self", "seats"] [] := F_Line___init__.bindsN fun _ _ _ _ _ _ us hl => match us, hl with | [_, _], _ => rfl
  have lnOk : Ln P w K mg base 3 := ⟨He.glo_ok X G (c.fact 21 (f := .glo "Line") rfl), _, fd_Line___init__, He.mkr_ok (c.fact 60 (f := .mkr "Line") rfl), ok_Line_init T F_Line___init__ (c_is_row := c_is_row) (c_is_within := c_is_within) (x_BadSeats := x_BadSeats) , b_Line___init__⟩
  obtain ⟨fd_Line___eq__, F_Line___eq__⟩ : ∃ fd, FunD K "__eq__" "Line.__eq__" (defArgs s_Line___eq__) (defBody s_Line___eq__) (defScope s_Line___eq__) [] [] (He.fAd K ("Line", some "__eq__")) fd := c.def_ 17 (d := dd_Line___eq__) rfl
  have b_Line___eq__ : Binds K fd_Line___eq__ ["self", "other"] [] := F_Line___eq__.bindsN fun _ _ _ _ _ _ us hl => match us, hl with | [_, _], _ => rfl
  have lnEq : LnEq P w K mg base 1 := ⟨T.lnF, fd_Line___eq__, ok_Line_eq T F_Line___eq__, b_Line___eq__⟩
  obtain ⟨fd_check_leg, F_check_leg⟩ : ∃ fd, FnP K "check_leg" s_check_leg (He.ga K "check_leg") fd := c.def_ 18 (d := dd_check_leg) rfl
  have b_check_leg : Binds K fd_check_leg ["line", "leg"] [] := F_check_leg.bindsN fun _ _ _ _ _ _ us hl => match us, hl with | [_, _], _ => rfl
  have c_check_leg : Sd.Cl P w K mg base 3 "check_leg" sp_check_leg [] := Cl.mk' F_check_leg (ok_check_leg T F_check_leg (c_is_within := c_is_within) (x_BadLeg := x_BadLeg) ) (He.glo_ok X G (c.fact 35 (f := .glo "check_leg") rfl)) b_check_leg
  obtain ⟨fd_with_seats, F_with_seats⟩ : ∃ fd, FnP K "with_seats" s_with_seats (He.ga K "with_seats") fd := c.def_ 19 (d := dd_with_seats) rfl
  have b_with_seats : Binds K fd_with_seats ["line", "leg", "more"] [] := F_with_seats.bindsN fun _ _ _ _ _ _ us hl => match us, hl with | [_, _, _], _ => rfl
  have c_with_seats : Sd.Cl P w K mg base 1 "with_seats" sp_with_seats [] := Cl.mk' F_with_seats (ok_with_seats T F_with_seats   ) (He.glo_ok X G (c.fact 36 (f := .glo "with_seats") rfl)) b_with_seats
  obtain ⟨fd_seat_gain, F_seat_gain⟩ : ∃ fd, FnP K "seat_gain" s_seat_gain (He.ga K "seat_gain") fd := c.def_ 20 (d := dd_seat_gain) rfl
  have b_seat_gain : Binds K fd_seat_gain ["line", "requests", "leg"] [] := F_seat_gain.bindsN fun _ _ _ _ _ _ us hl => match us, hl with | [_, _, _], _ => rfl
  have c_seat_gain : Sd.Cl P w K mg base 7 "seat_gain" sp_seat_gain [] := Cl.mk' F_seat_gain (ok_seat_gain T F_seat_gain (c_check_leg := c_check_leg) (c_check_requests := c_check_requests) (c_told_best := c_told_best) (c_with_seats := c_with_seats)  ) (He.glo_ok X G (c.fact 23 (f := .glo "seat_gain") rfl)) b_seat_gain
  obtain ⟨fd_seat_loss, F_seat_loss⟩ : ∃ fd, FnP K "seat_loss" s_seat_loss (He.ga K "seat_loss") fd := c.def_ 21 (d := dd_seat_loss) rfl
  have b_seat_loss : Binds K fd_seat_loss ["line", "requests", "leg"] [] := F_seat_loss.bindsN fun _ _ _ _ _ _ us hl => match us, hl with | [_, _, _], _ => rfl
  have c_seat_loss : Sd.Cl P w K mg base 7 "seat_loss" sp_seat_loss [] := Cl.mk' F_seat_loss (ok_seat_loss T F_seat_loss (c_check_leg := c_check_leg) (c_check_requests := c_check_requests) (c_told_best := c_told_best) (c_with_seats := c_with_seats)  ) (He.glo_ok X G (c.fact 24 (f := .glo "seat_loss") rfl)) b_seat_loss
  obtain ⟨fd_with_request, F_with_request⟩ : ∃ fd, FnP K "with_request" s_with_request (He.ga K "with_request") fd := c.def_ 22 (d := dd_with_request) rfl
  have b_with_request : Binds K fd_with_request ["requests", "number", "fare", "many"] [] := F_with_request.bindsN fun _ _ _ _ _ _ us hl => match us, hl with | [_, _, _, _], _ => rfl
  have c_with_request : Sd.Cl P w K mg base 1 "with_request" sp_with_request [] := Cl.mk' F_with_request (ok_with_request T F_with_request   ) (He.glo_ok X G (c.fact 37 (f := .glo "with_request") rfl)) b_with_request
  obtain ⟨fd_takes_one, F_takes_one⟩ : ∃ fd, FnP K "takes_one" s_takes_one (He.ga K "takes_one") fd := c.def_ 23 (d := dd_takes_one) rfl
  have b_takes_one : Binds K fd_takes_one ["line", "requests", "number", "fare"] [] := F_takes_one.bindsN fun _ _ _ _ _ _ us hl => match us, hl with | [_, _, _, _], _ => rfl
  have c_takes_one : Sd.Cl P w K mg base 7 "takes_one" sp_takes_one [] := Cl.mk' F_takes_one (ok_takes_one T F_takes_one (c_told_best := c_told_best) (c_with_request := c_with_request)  ) (He.glo_ok X G (c.fact 38 (f := .glo "takes_one") rfl)) b_takes_one
  obtain ⟨fd_leaves_one, F_leaves_one⟩ : ∃ fd, FnP K "leaves_one" s_leaves_one (He.ga K "leaves_one") fd := c.def_ 24 (d := dd_leaves_one) rfl
  have b_leaves_one : Binds K fd_leaves_one ["line", "requests", "number", "fare"] [] := F_leaves_one.bindsN fun _ _ _ _ _ _ us hl => match us, hl with | [_, _, _, _], _ => rfl
  have c_leaves_one : Sd.Cl P w K mg base 7 "leaves_one" sp_leaves_one [] := Cl.mk' F_leaves_one (ok_leaves_one T F_leaves_one (c_told_best := c_told_best) (c_with_request := c_with_request)  ) (He.glo_ok X G (c.fact 39 (f := .glo "leaves_one") rfl)) b_leaves_one
  obtain ⟨fd_least_taken, F_least_taken⟩ : ∃ fd, FnP K "least_taken" s_least_taken (He.ga K "least_taken") fd := c.def_ 26 (d := dd_least_taken) rfl
  have b_least_taken : Binds K fd_least_taken ["line", "requests", "number"] [] := F_least_taken.bindsN fun _ _ _ _ _ _ us hl => match us, hl with | [_, _, _], _ => rfl
  have c_least_taken : Sd.Cl P w K mg base 8 "least_taken" sp_least_taken [] := Cl.mk' F_least_taken (ok_least_taken T F_least_taken (c_takes_one := c_takes_one)  ) (He.glo_ok X G (c.fact 41 (f := .glo "least_taken") rfl)) b_least_taken
  obtain ⟨fd_most_left, F_most_left⟩ : ∃ fd, FnP K "most_left" s_most_left (He.ga K "most_left") fd := c.def_ 27 (d := dd_most_left) rfl
  have b_most_left : Binds K fd_most_left ["line", "requests", "number"] [] := F_most_left.bindsN fun _ _ _ _ _ _ us hl => match us, hl with | [_, _, _], _ => rfl
  have c_most_left : Sd.Cl P w K mg base 8 "most_left" sp_most_left [] := Cl.mk' F_most_left (ok_most_left T F_most_left (c_leaves_one := c_leaves_one)  ) (He.glo_ok X G (c.fact 42 (f := .glo "most_left") rfl)) b_most_left
  obtain ⟨fd_fare_range, F_fare_range⟩ : ∃ fd, FnP K "fare_range" s_fare_range (He.ga K "fare_range") fd := c.def_ 25 (d := dd_fare_range) rfl
  have b_fare_range : Binds K fd_fare_range ["line", "requests", "number"] [] := F_fare_range.bindsN fun _ _ _ _ _ _ us hl => match us, hl with | [_, _, _], _ => rfl
  have c_fare_range : Sd.Cl P w K mg base 9 "fare_range" sp_fare_range [] := Cl.mk' F_fare_range (ok_fare_range T F_fare_range (c_check_requests := c_check_requests) (c_is_within := c_is_within) (c_least_taken := c_least_taken) (c_most_left := c_most_left) (x_BadNumber := x_BadNumber) ) (He.glo_ok X G (c.fact 40 (f := .glo "fare_range") rfl)) b_fare_range
  obtain ⟨fd__law_taken, F__law_taken⟩ : ∃ fd, FnP K "_law_taken" s__law_taken (He.ga K "_law_taken") fd := c.def_ 28 (d := dd__law_taken) rfl
  have b__law_taken : Binds K fd__law_taken ["row", "many"] [] := F__law_taken.bindsN fun _ _ _ _ _ _ us hl => match us, hl with | [_, _], _ => rfl
  have c__law_taken : Sd.Cl P w K mg base 1 "_law_taken" sp__law_taken [] := Cl.mk' F__law_taken (ok__law_taken T F__law_taken   ) (He.glo_ok X G (c.fact 43 (f := .glo "_law_taken") rfl)) b__law_taken
  obtain ⟨fd__law_pick, F__law_pick⟩ : ∃ fd, FnP K "_law_pick" s__law_pick (He.ga K "_law_pick") fd := c.def_ 29 (d := dd__law_pick) rfl
  have b__law_pick : Binds K fd__law_pick ["row", "some"] [] := F__law_pick.bindsN fun _ _ _ _ _ _ us hl => match us, hl with | [_, _], _ => rfl
  have c__law_pick : Sd.Cl P w K mg base 2 "_law_pick" sp__law_pick [] := Cl.mk' F__law_pick (ok__law_pick T F__law_pick (c__law_taken := c__law_taken)  ) (He.glo_ok X G (c.fact 44 (f := .glo "_law_pick") rfl)) b__law_pick
  obtain ⟨fd__law_alike, F__law_alike⟩ : ∃ fd, FnP K "_law_alike" s__law_alike (He.ga K "_law_alike") fd := c.def_ 30 (d := dd__law_alike) rfl
  have b__law_alike : Binds K fd__law_alike ["found", "due"] [] := F__law_alike.bindsN fun _ _ _ _ _ _ us hl => match us, hl with | [_, _], _ => rfl
  have gl__law_alike := He.glo_ok X G (c.fact 45 (f := .glo "_law_alike") rfl)
  have c__law_alike : Sd.Cl P w K mg base 8 "_law_alike" sp__law_alike [] := Cl.mk' F__law_alike (ok__law_alike T F__law_alike gl__law_alike b__law_alike) gl__law_alike b__law_alike
  obtain ⟨fd__law_line, F__law_line⟩ : ∃ fd, FnP K "_law_line" s__law_line (He.ga K "_law_line") fd := c.def_ 31 (d := dd__law_line) rfl
  have b__law_line : Binds K fd__law_line ["row"] [] := F__law_line.bindsN fun _ _ _ _ _ _ us hl => match us, hl with | [_], _ => rfl
  have c__law_line : Sd.Cl P w K mg base 3 "_law_line" sp__law_line [] := Cl.mk' F__law_line (ok__law_line T F__law_line (c__law_pick := c__law_pick) (c__law_taken := c__law_taken)  ) (He.glo_ok X G (c.fact 46 (f := .glo "_law_line") rfl)) b__law_line
  obtain ⟨fd__law_asks, F__law_asks⟩ : ∃ fd, FnP K "_law_asks" s__law_asks (He.ga K "_law_asks") fd := c.def_ 32 (d := dd__law_asks) rfl
  have b__law_asks : Binds K fd__law_asks ["row", "seats", "most", "many"] [] := F__law_asks.bindsN fun _ _ _ _ _ _ us hl => match us, hl with | [_, _, _, _], _ => rfl
  have c__law_asks : Sd.Cl P w K mg base 3 "_law_asks" sp__law_asks00 [] := Cl.mk' F__law_asks (ok__law_asks T F__law_asks (c__law_pick := c__law_pick) (c__law_taken := c__law_taken)  ) (He.glo_ok X G (c.fact 47 (f := .glo "_law_asks") rfl)) b__law_asks
  obtain ⟨fd__law_most, F__law_most⟩ : ∃ fd, FnP K "_law_most" s__law_most (He.ga K "_law_most") fd := c.def_ 33 (d := dd__law_most) rfl
  have b__law_most : Binds K fd__law_most ["seats", "asks"] [] := F__law_most.bindsN fun _ _ _ _ _ _ us hl => match us, hl with | [_, _], _ => rfl
  have gl__law_most := He.glo_ok X G (c.fact 48 (f := .glo "_law_most") rfl)
  have c__law_most : Sd.Cl P w K mg base 6 "_law_most" sp__law_most [] := Cl.mk' F__law_most (ok__law_most T F__law_most gl__law_most b__law_most) gl__law_most b__law_most
  obtain ⟨fd__law_more, F__law_more⟩ : ∃ fd, FnP K "_law_more" s__law_more (He.ga K "_law_more") fd := c.def_ 34 (d := dd__law_more) rfl
  have b__law_more : Binds K fd__law_more ["seats", "leg", "more"] [] := F__law_more.bindsN fun _ _ _ _ _ _ us hl => match us, hl with | [_, _, _], _ => rfl
  have c__law_more : Sd.Cl P w K mg base 1 "_law_more" sp__law_more [] := Cl.mk' F__law_more (ok__law_more T F__law_more   ) (He.glo_ok X G (c.fact 49 (f := .glo "_law_more") rfl)) b__law_more
  obtain ⟨fd__law_takes_one, F__law_takes_one⟩ : ∃ fd, FnP K "_law_takes_one" s__law_takes_one (He.ga K "_law_takes_one") fd := c.def_ 35 (d := dd__law_takes_one) rfl
  have b__law_takes_one : Binds K fd__law_takes_one ["seats", "asks", "at", "fare"] [] := F__law_takes_one.bindsN fun _ _ _ _ _ _ us hl => match us, hl with | [_, _, _, _], _ => rfl
  have c__law_takes_one : Sd.Cl P w K mg base 7 "_law_takes_one" sp__law_takes_one [] := Cl.mk' F__law_takes_one (ok__law_takes_one T F__law_takes_one (c__law_most := c__law_most)  ) (He.glo_ok X G (c.fact 50 (f := .glo "_law_takes_one") rfl)) b__law_takes_one
  obtain ⟨fd__law_leaves_one, F__law_leaves_one⟩ : ∃ fd, FnP K "_law_leaves_one" s__law_leaves_one (He.ga K "_law_leaves_one") fd := c.def_ 36 (d := dd__law_leaves_one) rfl
  have b__law_leaves_one : Binds K fd__law_leaves_one ["seats", "asks", "at", "fare"] [] := F__law_leaves_one.bindsN fun _ _ _ _ _ _ us hl => match us, hl with | [_, _, _, _], _ => rfl
  have c__law_leaves_one : Sd.Cl P w K mg base 7 "_law_leaves_one" sp__law_leaves_one [] := Cl.mk' F__law_leaves_one (ok__law_leaves_one T F__law_leaves_one (c__law_most := c__law_most)  ) (He.glo_ok X G (c.fact 51 (f := .glo "_law_leaves_one") rfl)) b__law_leaves_one
  obtain ⟨fd__law_refused, F__law_refused⟩ : ∃ fd, FnP K "_law_refused" s__law_refused (He.ga K "_law_refused") fd := c.def_ 37 (d := dd__law_refused) rfl
  have b__law_refused : Binds K fd__law_refused ["ask"] [] := F__law_refused.bindsN fun _ _ _ _ _ _ us hl => match us, hl with | [_], _ => rfl
  obtain ⟨fd_law, F_law⟩ : ∃ fd, FnP K "law" s_law (He.ga K "law") fd := c.def_ 38 (d := dd_law) rfl
  have b_law : Binds K fd_law ["script"] [] := F_law.bindsN fun _ _ _ _ _ _ us hl => match us, hl with | [_], _ => rfl
  obtain ⟨oc, od, dV, kV, doc, pm, an, cdv, ct, osl, efd, lk, hcd, _, _⟩ := id F_law.ex
  obtain ⟨cc, ecc⟩ := He.codeIn_ref hcd
  have hcode : fd_law.code = .ref cc := by
    rw [efd]
    exact ecc
  have ec : He.codeOf K ("law", none) = cc := He.codeOf_eq lk hcode
  have hmem : He.cT K ("law", none) ∈ [He.cT K ("law", none)] := List.mem_singleton.mpr rfl
  have TB : LamX.TabB base mg cc (He.cT K ("law", none)).2 := by
    have := A.tab _ hmem
    rw [show (He.cT K ("law", none)).1 = cc from ec] at this
    exact this
  refine run_law T F_law c__law_alike c__law_asks c__law_leaves_one c__law_line c__law_more c__law_most c__law_pick c__law_taken c__law_takes_one c_best_prices c_fare_range c_seat_gain c_seat_loss lnOk lnEq F__law_refused b__law_refused (He.glo_ok X G (c.fact 52 (f := .glo "_law_refused") rfl)) hx x_BadLeg x_BadNumber x_BadRequests TB hcode A.env (FunD.bindsA (ps := ["script"]) F_law (fun _ _ _ _ _ _ us hl => match us, hl with | [_], _ => rfl) s1 [.ref a] rfl) A.scr (A.emp _ hmem) (fun b ps hb => ?_)
  rcases A.only b _ hb with ⟨p, hp, e⟩ | ⟨o, xs, e⟩
  · rw [List.mem_singleton.mp hp] at e
    exact e.symm
  · cases e
end K12
open PySem PySem.W PySem.Calls PyProof.Rows
theorem PySem.Challenge.cw_seatsold_k12_whole_one_seat_more_holds : PySem.Challenge.rw_seatsold_k12_whole_one_seat_more.Holds := by
  w_on; o_law
  refine HandSHeadRun.head_any (r := OpenLaw.row PySem.Challenge.rw_seatsold_k12_whole_one_seat_more) (q := view (OpenLaw.row PySem.Challenge.rw_seatsold_k12_whole_one_seat_more).prog [50]) (H := K12.hk) (ob := K12.ob) (M := 4000) (loose := (K12.n1 ++ K12.n2 ++ K12.n3)) (d := HandSHeadRun.topDef (OpenLaw.row PySem.Challenge.rw_seatsold_k12_whole_one_seat_more).prog 50) (kwd := []) K12.ob_eq
    (by kernel_rfl) (fun s => by kernel_rfl) K12.run (by kernel_rfl) (by kernel_rfl) (by kernel_rfl) (by rfl) (by first | assumption | decide +kernel) (by decide +kernel) ⟨rfl, rfl, rfl, rfl, rfl, by decide +kernel⟩ ?hw ?hc
  case hw => w_witness2
  case hc =>
    refine Sd.walk_at (l := PySem.Challenge.rw_seatsold_k12_whole_one_seat_more) rfl (by decide) (by kernel_rfl) ?F
    intro w mg fa h Y G hmg0
    obtain ⟨K, KX, c⟩ := Y
    have hmg : mg ("law" : PySem.Str) = some (.ref fa) := by
      have e : (HandSHeadRun.topDef (OpenLaw.row PySem.Challenge.rw_seatsold_k12_whole_one_seat_more).prog 50).name = ("law" : PySem.Str) := by kernel_rfl
      rw [← e]
      exact hmg0
    have e := hmg.symm.trans (He.glo_ok KX G (c.t.d.fact 53 (f := .glo "law") rfl))
    cases e
    refine ⟨K, [He.cT K ("law", none)], KX, fun p hp => (by rw [List.mem_singleton.mp hp]; exact c.empty _ (List.mem_singleton.mpr rfl)), fun p hp => (by rw [List.mem_singleton.mp hp]; exact c.out _ (List.mem_singleton.mpr rfl)), fun p hp => (by rw [List.mem_singleton.mp hp]; exact PySem.W.codeHd_of_K KX (c.hd _ (List.mem_singleton.mpr rfl))), fun s1 a ns base H _ _ A => ?_⟩
    exact K12.at_law A c.t.d c.more
end
