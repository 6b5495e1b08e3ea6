import PyProof.Rows.All
import Wide.All
import OpenK.AllK
import Wide.FinOn
import HandS.ForMost
import HandS.ForExc
import HandS.TryMany
import HandS.ExcField
import HandS.ExcInit
import HandS.Lambda
import HandS.EndTab
import HandS.IsInst
import HandS.Flow
import HandS.Style
import HandS.Wide
import HandS.Deep
import HandS.Zip
import HandS.CallSlots
import HandS.TupAny
import HandS.More
import KE.SortData
import KE.GoesMore
import KE.KTupSum
import HandS.TupMul
import HandS.Walk
import KE.DataMinMax
import HandS.WordsDict
import HandS.SetFor
import HandS.Strs
import KE.KRevSl
import KE.KExcSuper
import HandS.Words
import HandS.EndOwn
import HandS.ExcIs
import PySem.Challenge.RW_panehouse_k11_slits_and_lamps
set_option Elab.async false
set_option autoImplicit false
set_option linter.all false
set_option pp.deepTerms false
set_option pp.maxSteps 200
set_option maxRecDepth 100000
set_option maxHeartbeats 1000000
/-! The general layer, part A: pure data, how a heap holds them, the state of a walk. -/
namespace Gl
open PySem PySem.Spec PyProof.Rows L2

abbrev D := PyData

/-! ### data and heaps -/
theorem seqL_mono {K : PySem.W.Frag} {F F' : Hp} {a : Addr} {xs : List V} (s : Same F F') (h : SqL K F a xs) : SqL K F' a xs := s.seq h
theorem seqT_mono {K : PySem.W.Frag} {F F' : Hp} {a : Addr} {xs : List V} (s : Same F F') (h : SqT K F a xs) : SqT K F' a xs := by
  rcases h with (h | ⟨o, h⟩) | h
  · exact .inl (.inl (s _ _ h))
  · exact .inl (.inr ⟨o, s _ _ h⟩)
  · exact .inr h
mutual
theorem dp_mono {K : PySem.W.Frag} {F F' : Hp} (s : Same F F') : ∀ (d : D) (v : V), Dp K F v d → Dp K F' v d
  | .none, _, h => by cases h; exact .non
  | .bool _, _, h => by cases h; exact .bl _
  | .int _, _, h => by cases h; exact .int _
  | .str _, _, h => by cases h; exact .str _
  | .list ds, _, h => by
    cases h with
    | lst h1 h2 => exact .lst (seqL_mono s h1) (dpAll_mono s ds _ h2)
  | .tuple ds, _, h => by
    cases h with
    | tup h1 h2 => exact .tup (seqT_mono s h1) (dpAll_mono s ds _ h2)
  | .dict _, _, h => by cases h
theorem dpAll_mono {K : PySem.W.Frag} {F F' : Hp} (s : Same F F') : ∀ (ds : List D) (vs : List V), DpAll K F vs ds → DpAll K F' vs ds
  | [], _, h => by cases h; exact .nil
  | d :: ds, _, h => by
    cases h with
    | cons h1 h2 => exact .cons (dp_mono s d _ h1) (dpAll_mono s ds _ h2)
end
theorem dpl_len {K : PySem.W.Frag} {F : Hp} : ∀ {ds : List D} {vs : List V}, DpAll K F vs ds → vs.length = ds.length
  | [], _, h => by cases h; rfl
  | _ :: _, _, h => by
    cases h with
    | cons h1 h2 => rw [List.length_cons, List.length_cons, dpl_len h2]
theorem dpl_get {K : PySem.W.Frag} {F : Hp} : ∀ {ds : List D} {vs : List V} {i : Nat} {d : D}, DpAll K F vs ds → ds[i]? = some d → ∃ v, vs[i]? = some v ∧ Dp K F v d
  | [], _, _, _, _, e => by simp at e
  | _ :: _, _, 0, _, h, e => by
    cases h with
    | cons h1 h2 =>
      simp at e
      subst e
      exact ⟨_, rfl, h1⟩
  | _ :: ds, _, i + 1, d, h, e => by
    cases h with
    | cons h1 h2 =>
      obtain ⟨v, e1, e2⟩ := dpl_get (ds := ds) (i := i) (d := d) h2 (by simpa using e)
      exact ⟨v, by simpa using e1, e2⟩
theorem dpl_getV {K : PySem.W.Frag} {F : Hp} {ds : List D} {vs : List V} {i : Nat} {v : V} (h : DpAll K F vs ds) (e : vs[i]? = some v) : ∃ d, ds[i]? = some d ∧ Dp K F v d := by
  have hl := dpl_len h
  have hi : i < ds.length := by
    obtain ⟨q, _⟩ := List.getElem?_eq_some_iff.mp e
    omega
  obtain ⟨v', e1, e2⟩ := dpl_get h (List.getElem?_eq_getElem hi)
  rw [e] at e1
  cases e1
  exact ⟨_, List.getElem?_eq_getElem hi, e2⟩
theorem dpl_app {K : PySem.W.Frag} {F : Hp} : ∀ {ds es : List D} {vs ws : List V}, DpAll K F vs ds → DpAll K F ws es → DpAll K F (vs ++ ws) (ds ++ es)
  | [], _, _, _, h, k => by cases h; exact k
  | _ :: ds, _, _, _, h, k => by
    cases h with
    | cons h1 h2 => exact .cons h1 (dpl_app h2 k)
theorem dpl_take {K : PySem.W.Frag} {F : Hp} : ∀ {ds : List D} {vs : List V} (n : Nat), DpAll K F vs ds → DpAll K F (vs.take n) (ds.take n)
  | _, _, 0, _ => by simp only [List.take_zero]; exact .nil
  | [], _, _ + 1, h => by cases h; exact .nil
  | _ :: ds, _, n + 1, h => by
    cases h with
    | cons h1 h2 => exact .cons h1 (dpl_take n h2)
theorem dpl_drop {K : PySem.W.Frag} {F : Hp} : ∀ {ds : List D} {vs : List V} (n : Nat), DpAll K F vs ds → DpAll K F (vs.drop n) (ds.drop n)
  | _, _, 0, h => h
  | [], _, _ + 1, h => by cases h; exact .nil
  | _ :: ds, _, n + 1, h => by
    cases h with
    | cons h1 h2 => exact dpl_drop n h2
theorem dpl_set {K : PySem.W.Frag} {F : Hp} {d : D} {v : V} (hv : Dp K F v d) : ∀ {ds : List D} {vs : List V} (i : Nat), DpAll K F vs ds → DpAll K F (vs.set i v) (ds.set i d)
  | [], _, _, h => by cases h; exact .nil
  | _ :: ds, _, 0, h => by
    cases h with
    | cons h1 h2 => exact .cons hv h2
  | _ :: ds, _, i + 1, h => by
    cases h with
    | cons h1 h2 => exact .cons h1 (dpl_set hv i h2)

/-! ### the states of the plain functions -/
/-- a slot: not known; data; data of a list of one's own (it may be changed); the box of digits -/
inductive DV where
  | un | sh (d : D) | ow (d : D) | bx
/-- the box: the digits, the place -/
abbrev Bx := Option (List Int × Int)
structure Sto where
  sl : List DV
  bx : Bx
inductive R (α : Type) where
  | ok (a : α) (s : Sto)
  | exc (c : Nat) (d : D) (b : Bx)
  | stuck
inductive Arg where
  | d (x : D) | box
/-- what a def gives -/
inductive Res where
  | ret (d : D) (b : Bx)
  | exc (c : Nat) (d : D) (b : Bx)
  | stuck
abbrev FM := List Arg → Bx → Res
/-- what a statement gives -/
inductive O where
  | next (s : Sto)
  | brk (s : Sto)
  | cont (s : Sto)
  | ret (d : D) (s : Sto)
  | exc (c : Nat) (d : D) (b : Bx)
  | stuck

/-! ### what a state of the model must be -/
/-- the base: the box's place (if there is a box), the tables of code objects, the exceptions' classes with their field, the frozen part and the heap at the entry -/
structure Gx where
  T : List (Addr × Str)
  cl : Nat → Option (Addr × Str)
structure Bs where
  B : Addr
  hb : Bool
  F0 : Hp
  H0 : Hp
def notTbl (o : HO) : Prop := ∀ ps, o ≠ .tbl ps
/-- all that is tracked stays, but the box and the tables -/
def Fr (b : Bs) (H H' : Hp) : Prop := ∀ a o, H a = some o → (b.hb = true → a ≠ b.B) → notTbl o → H' a = some o
theorem Fr.refl (b : Bs) (H : Hp) : Fr b H H := fun a o h _ _ => h
/-- nothing stands there, but a table -/
def Vac (H : Hp) (a : Addr) : Prop := ∀ o, H a = some o → ¬ notTbl o
theorem Vac.of {H : Hp} {a : Addr} (h : H a = none) : Vac H a := fun o e => by
  rw [h] at e
  cases e
theorem Vac.not {H : Hp} {a : Addr} {o : HO} (v : Vac H a) (h : H a = some o) (n : notTbl o) : False := v o h n
/-- what stands at an address of one's own list -/
def Own (K : PySem.W.Frag) (b : Bs) (F H : Hp) (a : Addr) (d : D) : Prop :=
  F a = none ∧ Vac b.H0 a ∧ (b.hb = true → a ≠ b.B) ∧ ∃ (vs : List V) (ds : List D), d = .list ds ∧ H a = some (.lst vs) ∧ DpAll K F vs ds
def SlotOk (K : PySem.W.Frag) (b : Bs) (F H : Hp) (x : DV) (y : Option V) : Prop :=
  match x with
  | .un => True
  | .sh d => ∃ v, y = some v ∧ Dp K F v d
  | .ow d => ∃ a, y = some (.ref a) ∧ Own K b F H a d
  | .bx => b.hb = true ∧ y = some (.ref b.B)
def BoxOk (K : PySem.W.Frag) (b : Bs) (F H : Hp) (x : Bx) : Prop :=
  match x with
  | none => b.hb = false
  | some (ds, at_) => b.hb = true ∧ F b.B = none ∧ ∃ dg : Addr, H b.B = some (.lst [.ref dg, .int at_]) ∧ Dp K F (.ref dg) (.list (ds.map .int)) ∧ True
structure SR (K : PySem.W.Frag) (g : Gx) (b : Bs) (F : Hp) (S : Sto) (σ : L2.St) (H : Hp) : Prop where
  len : S.sl.length = σ.length
  ff : Same F H
  f0 : Same b.F0 F
  fn : ∀ a o, F a = some o → b.F0 a = some o ∨ Vac b.H0 a
  nt : ∀ a o, F a = some o → notTbl o
  ext : Fr b b.H0 H
  slot : ∀ (i : Nat) x y, S.sl[i]? = some x → σ[i]? = some y → SlotOk K b F H x y
  dist : ∀ (i j : Nat) d e y, i ≠ j → S.sl[i]? = some (.ow d) → S.sl[j]? = some (.ow e) → σ[i]? = some y → σ[j]? ≠ some y
  box : BoxOk K b F H S.bx
  tabs : LamX.Tabs g.T H
abbrev Bs.at (b : Bs) (F H : Hp) : Bs := { b with F0 := F, H0 := H }

theorem own_ne_nt {K : PySem.W.Frag} {b : Bs} {F H : Hp} {a : Addr} {d : D} (h : Own K b F H a d) : ∃ vs, H a = some (.lst vs) := by
  obtain ⟨_, _, _, vs, ds, _, e, _⟩ := h
  exact ⟨vs, e⟩
theorem lst_nt (vs : List V) : notTbl (.lst vs) := fun ps e => by cases e
theorem tup_nt (vs : List V) : notTbl (.tup vs) := fun ps e => by cases e

section
variable {K : PySem.W.Frag} {g : Gx} {b : Bs} {F F' H H' H1 : Hp} {S : Sto} {σ : L2.St} {bx' : Bx}
theorem Fr.trans (x : Fr b H H1) (y : Fr b H1 H') : Fr b H H' := fun a o h nb nt => y a o (x a o h nb nt) nb nt
theorem Fr.new {p : Addr} {o : HO} (n : H p = none) : Fr b H (upd H p o) := fun a u h _ _ => by
  have e : a ≠ p := ne_of_none h n
  rw [upd_ne e]
  exact h
theorem Own.grow {a : Addr} {d : D} (h : Own K b F H a d) (s : Same F F') (f : Fr b H H') (n : F' a = none) : Own K b F' H' a d := by
  obtain ⟨h1, h2, h3, vs, ds, e1, e2, e3⟩ := h
  exact ⟨n, h2, h3, vs, ds, e1, f a _ e2 h3 (lst_nt vs), dpAll_mono s ds vs e3⟩
/-- behind a call (or anything that keeps the base at the call's start): the slots are as they were -/
theorem SR.call (x : SR K g b F S σ H) (y : SR K g (b.at F H) F' ⟨[], bx'⟩ [] H') : SR K g b F' { S with bx := bx' } σ H' where
  len := x.len
  ff := y.ff
  f0 := x.f0.trans y.f0
  fn := fun a o h => by
    rcases y.fn a o h with q | q
    · exact x.fn a o q
    · right
      intro u e nt
      have q' : Vac H a := q
      by_cases nb : b.hb = true → a ≠ b.B
      · exact q'.not (x.ext a u e nb nt) nt
      · have hb : b.hb = true := Classical.byContradiction fun z => nb fun z2 => absurd z2 z
        have ea : a = b.B := Classical.byContradiction fun z => nb fun _ => z
        have bo := x.box
        unfold BoxOk at bo
        cases eb : S.bx with
        | none => rw [eb] at bo; rw [bo] at hb; cases hb
        | some p =>
          obtain ⟨ds, at_⟩ := p
          rw [eb] at bo
          obtain ⟨_, _, dg, h3, _⟩ := bo
          rw [← ea] at h3
          exact q'.not h3 (lst_nt _)
  nt := y.nt
  ext := x.ext.trans y.ext
  slot := fun i u v e1 e2 => by
    have q := x.slot i u v e1 e2
    cases u with
    | un => trivial
    | sh d =>
      obtain ⟨w, e, h⟩ := q
      exact ⟨w, e, dp_mono y.f0 d w h⟩
    | ow d =>
      obtain ⟨a, e, h⟩ := q
      refine ⟨a, e, h.grow y.f0 y.ext ?_⟩
      cases z : F' a with
      | none => rfl
      | some u =>
        rcases y.fn a u z with r | r
        · have r' : F a = some u := r
          rw [h.1] at r'
          cases r'
        · have r' : Vac H a := r
          obtain ⟨vs, e3⟩ := own_ne_nt h
          exact (r'.not e3 (lst_nt vs)).elim
    | bx => exact q
  dist := x.dist
  box := y.box
  tabs := y.tabs
theorem SR.base (x : SR K g b F S σ H) : SR K g (b.at F H) F ⟨[], S.bx⟩ [] H where
  len := rfl
  ff := x.ff
  f0 := Same.refl _
  fn := fun a o h => .inl h
  nt := x.nt
  ext := Fr.refl _ _
  slot := fun i u v e1 e2 => by simp at e1
  dist := fun i j d e y _ h => by simp at h
  box := x.box
  tabs := x.tabs
theorem SR.hb (x : SR K g b F S σ H) : b.hb = S.bx.isSome := by
  have h := x.box
  unfold BoxOk at h
  cases e : S.bx with
  | none => rw [e] at h; exact h
  | some p =>
    rw [e] at h
    exact h.1
/-- a new object, frozen -/
theorem SR.newF {p : Addr} {o : HO} (x : SR K g b F S σ H) (n : H p = none) (nt : notTbl o) : SR K g (b.at F H) (upd F p o) ⟨[], S.bx⟩ [] (upd H p o) where
  len := rfl
  ff := fun a u h => by
    by_cases e : a = p
    · subst e
      rw [upd_same] at h ⊢
      exact h
    · rw [upd_ne e] at h ⊢
      exact x.ff a u h
  f0 := fun a u h => by
    have e : a ≠ p := ne_of_none (x.ff a u h) n
    rw [upd_ne e]
    exact h
  fn := fun a u h => by
    by_cases e : a = p
    · subst e
      exact .inr (Vac.of n)
    · rw [upd_ne e] at h
      exact .inl h
  nt := fun a u h => by
    by_cases e : a = p
    · subst e
      rw [upd_same] at h
      cases h
      exact nt
    · rw [upd_ne e] at h
      exact x.nt a u h
  ext := Fr.new n
  slot := fun i u v e1 e2 => by simp at e1
  dist := fun i j d e y _ h => by simp at h
  box := by
    have h := x.box
    unfold BoxOk at h ⊢
    cases e : S.bx with
    | none => rw [e] at h; exact h
    | some q =>
      obtain ⟨ds, at_⟩ := q
      rw [e] at h
      obtain ⟨h1, h2, dg, h3, h4, h5⟩ := h
      have ne : b.B ≠ p := ne_of_none h3 n
      refine ⟨h1, by show upd F p o b.B = none; rw [upd_ne ne]; exact h2, dg, by show upd H p o b.B = _; rw [upd_ne ne]; exact h3, dp_mono (fun a u h => ?_) _ _ h4, h5⟩
      have e : a ≠ p := ne_of_none (x.ff a u h) n
      rw [upd_ne e]
      exact h
  tabs := x.tabs.ext fun a u h => by
    rw [upd_ne (ne_of_none h n)]
    exact h
/-- a new object, not frozen -/
theorem SR.newU {p : Addr} {o : HO} (x : SR K g b F S σ H) (n : H p = none) : SR K g (b.at F H) F ⟨[], S.bx⟩ [] (upd H p o) where
  len := rfl
  ff := fun a u h => by
    have e : a ≠ p := ne_of_none (x.ff a u h) n
    rw [upd_ne e]
    exact x.ff a u h
  f0 := Same.refl _
  fn := fun a u h => .inl h
  nt := x.nt
  ext := Fr.new n
  slot := fun i u v e1 e2 => by simp at e1
  dist := fun i j d e y _ h => by simp at h
  box := by
    have h := x.box
    unfold BoxOk at h ⊢
    cases e : S.bx with
    | none => rw [e] at h; exact h
    | some q =>
      obtain ⟨ds, at_⟩ := q
      rw [e] at h
      obtain ⟨h1, h2, dg, h3, h4, h5⟩ := h
      have ne : b.B ≠ p := ne_of_none h3 n
      exact ⟨h1, h2, dg, by show upd H p o b.B = _; rw [upd_ne ne]; exact h3, h4, h5⟩
  tabs := x.tabs.ext fun a u h => by
    rw [upd_ne (ne_of_none h n)]
    exact h
theorem SR.forget (x : SR K g b F S σ H) : SR K g b F ⟨[], S.bx⟩ [] H where
  len := rfl
  ff := x.ff
  f0 := x.f0
  fn := x.fn
  nt := x.nt
  ext := x.ext
  slot := fun i u v e1 e2 => by simp at e1
  dist := fun i j d e y _ h => by simp at h
  box := x.box
  tabs := x.tabs
theorem SR.get {i : Nat} {d : D} (x : SR K g b F S σ H) (e : S.sl[i]? = some (.sh d)) : ∃ v, σ[i]? = some (some v) ∧ Dp K F v d := by
  have hi : i < σ.length := by
    rw [← x.len]
    exact (List.getElem?_eq_some_iff.mp e).1
  obtain ⟨v, e1, h⟩ := x.slot i _ _ e (List.getElem?_eq_getElem hi)
  exact ⟨v, by rw [List.getElem?_eq_getElem hi, e1], h⟩
theorem SR.getO {i : Nat} {d : D} (x : SR K g b F S σ H) (e : S.sl[i]? = some (.ow d)) : ∃ a, σ[i]? = some (some (.ref a)) ∧ Own K b F H a d := by
  have hi : i < σ.length := by
    rw [← x.len]
    exact (List.getElem?_eq_some_iff.mp e).1
  obtain ⟨v, e1, h⟩ := x.slot i _ _ e (List.getElem?_eq_getElem hi)
  exact ⟨v, by rw [List.getElem?_eq_getElem hi, e1], h⟩
theorem SR.getB {i : Nat} (x : SR K g b F S σ H) (e : S.sl[i]? = some .bx) : b.hb = true ∧ σ[i]? = some (some (.ref b.B)) := by
  have hi : i < σ.length := by
    rw [← x.len]
    exact (List.getElem?_eq_some_iff.mp e).1
  obtain ⟨h, e1⟩ := x.slot i _ _ e (List.getElem?_eq_getElem hi)
  exact ⟨h, by rw [List.getElem?_eq_getElem hi, e1]⟩
/-- one's own list is handed on: it is frozen -/
def share (S : Sto) (i : Nat) (d : D) : Sto := { S with sl := S.sl.set i (.sh d) }
theorem get_set {α : Type} {l : List α} {i j : Nat} {x y : α} (h : (l.set i x)[j]? = some y) : (j = i ∧ y = x) ∨ (j ≠ i ∧ l[j]? = some y) := by
  by_cases e : j = i
  · subst e
    rw [List.getElem?_set] at h
    simp only [if_true] at h
    split at h
    · exact .inl ⟨rfl, (Option.some.inj h).symm⟩
    · cases h
  · rw [List.getElem?_set_ne (Ne.symm e)] at h
    exact .inr ⟨e, h⟩
theorem SR.share {i : Nat} {d : D} {a : Addr} {vs : List V} (x : SR K g b F S σ H) (e : S.sl[i]? = some (.ow d)) (eσ : σ[i]? = some (some (.ref a))) (o : Own K b F H a d) (ho : H a = some (.lst vs)) :
    SR K g b (upd F a (.lst vs)) (Gl.share S i d) σ H ∧ Same F (upd F a (.lst vs)) ∧ Dp K (upd F a (.lst vs)) (.ref a) d := by
  obtain ⟨o1, o2, o3, vs', ds, ed, e3, o4⟩ := id o
  rw [ho] at e3
  cases e3
  have sm : Same F (upd F a (.lst vs)) := fun c u h => by
    rw [upd_ne (ne_of_none h o1)]
    exact h
  refine ⟨⟨by rw [Gl.share, List.length_set]; exact x.len, fun c u h => ?_, x.f0.trans sm, fun c u h => ?_, fun c u h => ?_, x.ext, fun j u v h1 h2 => ?_, fun j k d1 d2 y ne h1 h2 h3 => ?_, ?_, x.tabs⟩, sm, ?_⟩
  · by_cases q : c = a
    · subst q
      rw [upd_same] at h
      cases h
      exact ho
    · rw [upd_ne q] at h
      exact x.ff c u h
  · by_cases q : c = a
    · subst q
      exact .inr o2
    · rw [upd_ne q] at h
      exact x.fn c u h
  · by_cases q : c = a
    · subst q
      rw [upd_same] at h
      cases h
      exact lst_nt vs
    · rw [upd_ne q] at h
      exact x.nt c u h
  · rcases get_set h1 with ⟨rfl, rfl⟩ | ⟨ne, h1⟩
    · rw [eσ] at h2
      cases h2
      refine ⟨_, rfl, ?_⟩
      rw [ed]
      exact .lst (.inl (.inl upd_same)) (dpAll_mono sm ds vs o4)
    · have q := x.slot j u v h1 h2
      cases u with
      | un => trivial
      | sh d' =>
        obtain ⟨w, e1, h⟩ := q
        exact ⟨w, e1, dp_mono sm d' w h⟩
      | ow d' =>
        obtain ⟨c, e1, h⟩ := q
        refine ⟨c, e1, h.grow sm (Fr.refl _ _) ?_⟩
        have nc : c ≠ a := fun z => by
          subst z
          exact x.dist j i d' d v ne h1 e h2 (by rw [e1]; exact eσ)
        rw [upd_ne nc]
        exact h.1
      | bx => exact q
  · rcases get_set h1 with ⟨rfl, z⟩ | ⟨_, h1⟩
    · cases z
    · rcases get_set h2 with ⟨rfl, z⟩ | ⟨_, h2⟩
      · cases z
      · exact x.dist j k d1 d2 y ne h1 h2 h3
  · have h := x.box
    unfold BoxOk at h ⊢
    have eb : (Gl.share S i d).bx = S.bx := rfl
    rw [eb]
    cases z : S.bx with
    | none => rw [z] at h; exact h
    | some p =>
      obtain ⟨dg, at_⟩ := p
      rw [z] at h
      obtain ⟨h1, h2, c, h3, h4, h5⟩ := h
      refine ⟨h1, ?_, c, h3, dp_mono sm _ _ h4, h5⟩
      show upd F a (.lst vs) b.B = none
      rw [upd_ne (fun q => o3 h1 q.symm)]
      exact h2
  · rw [ed]
    exact .lst (.inl (.inl upd_same)) (dpAll_mono sm ds vs o4)
/-- what may be read: data, or a list of one's own -/
def BRep (K : PySem.W.Frag) (b : Bs) (F H : Hp) (v : V) (d : D) : Prop :=
  Dp K F v d ∨ ∃ (a : Addr) (vs : List V) (ds : List D), v = .ref a ∧ d = .list ds ∧ (b.hb = true → a ≠ b.B) ∧ H a = some (.lst vs) ∧ DpAll K F vs ds
theorem BRep.dp {v : V} {d : D} (s : Same F H) (h : BRep K b F H v d) : Dp K H v d := by
  rcases h with h | ⟨a, vs, ds, rfl, rfl, _, h1, h2⟩
  · exact dp_mono s _ _ h
  · exact .lst (.inl (.inl h1)) (dpAll_mono s _ _ h2)
theorem BRep.list {v : V} {ds : List D} (s : Same F H) (h : BRep K b F H v (.list ds)) : ∃ a vs, v = .ref a ∧ SqL K H a vs ∧ DpAll K F vs ds := by
  rcases h with h | ⟨a, vs, ds, rfl, e, _, h1, h2⟩
  · cases h with
    | lst h1 h2 => exact ⟨_, _, rfl, seqL_mono s h1, h2⟩
  · cases e
    exact ⟨a, vs, rfl, .inl (.inl h1), h2⟩
theorem BRep.tuple {v : V} {ds : List D} (s : Same F H) (h : BRep K b F H v (.tuple ds)) : ∃ a vs, v = .ref a ∧ SqT K H a vs ∧ SqT K F a vs ∧ DpAll K F vs ds := by
  rcases h with h | ⟨a, vs, ds, rfl, e, _, h1, h2⟩
  · cases h with
    | tup h1 h2 => exact ⟨_, _, rfl, seqT_mono s h1, h1, h2⟩
  · cases e
end
end Gl

set_option maxRecDepth 100000
set_option maxHeartbeats 1000000
/-! The general layer: all and any of a list whose items may be long themselves. -/
namespace Gl
open PySem PySem.Spec PyProof.Rows L2
/-- what a value's truth is, in a heap -/
def TrAt (h : Heap) (v : Value) (k : Bool) : Prop := match v with
  | .none => k = false
  | .bool b => k = b
  | .int i _ => k = (i != 0)
  | .str y _ => y.length ≤ sizeLine ∧ k = ((y.length : Int) != 0)
  | .ref p => (∃ its : Array Value, PlainL h p its ∧ its.size ≤ sizeLine ∧ k = !its.isEmpty) ∨ ∃ its : Array Value, IsTup h p its ∧ its.size ≤ sizeLine ∧ k = !its.isEmpty
  | _ => False
theorem TrAt.keeps {h h' : Heap} {v : Value} {k : Bool} (x : TrAt h v k) (e : ∀ b o, h.get? b = some o → h'.get? b = some o) : TrAt h' v k := by
  unfold TrAt at x ⊢
  split at x
  · exact x
  · exact x
  · exact x
  · exact x
  · rcases x with ⟨its, a, r⟩ | ⟨its, ⟨o, a, a2⟩, r⟩
    · exact .inl ⟨its, a.keeps e, r⟩
    · exact .inr ⟨its, ⟨o, e _ _ a, a2⟩, r⟩
  · exact x.elim
theorem trAt_ok {prog : Program} {w : World} {A : Around} {E : Value → Shared → Prop} {s : Shared} {v : Value} {k : Bool} {Q : Bool → Shared → Prop} (x : TrAt s.heap v k) (h : ∀ tk, Q k { s with toks := tk }) : wpAny (model prog w) A (truthy v) Q E s := by
  have hl := line63
  have hs : sizeLine = 16777216 := sizeLine_eq
  unfold TrAt at x
  split at x
  · subst x
    exact truthy_none (h s.toks)
  · subst x
    exact wpAny_truthy_bool (h s.toks)
  · subst x
    exact PySem.P.truthy_int (h s.toks)
  · obtain ⟨a, rfl⟩ := x
    exact PySem.P.truthy_str (by omega) (h _)
  · rcases x with ⟨its, a, b, rfl⟩ | ⟨its, a, b, rfl⟩
    · exact wpAny_truthy_list a.isList (by omega) (h _)
    · exact truthy_tuple a (by omega) (h _)
  · exact x.elim
section
variable {prog : Program} {w : World} {A : Around} {R : Result → Shared → Prop} {I : Addr} {fp wr : List Addr} {n : Nat} {P : Nat → Value → Prop} {St : Nat → Heap → Prop} {Ok : Heap → Prop} {tr : Nat → Bool}
theorem all_turns (W : Walks prog w A.in1 I fp wr n P St) (hOk : ∀ h h', Ok h → (∀ b o, b ∉ wr → h.get? b = some o → h'.get? b = some o) → Ok h')
    (ht : ∀ i v s (Q : Bool → Shared → Prop) (E : Value → Shared → Prop), Ok s.heap → P i v → (∀ tk, Q (tr i) { s with toks := tk }) → wpAny (model prog w) A.in1 (truthy v) Q E s) : ∀ (k i : Nat) (s : Shared), n - i = k → i ≤ n → St i s.heap → Ok s.heap →
    (∀ h' tk, (∀ b o, b ∉ wr → s.heap.get? b = some o → h'.get? b = some o) → R (.ok (.ret (.bool (((List.range n).drop i).all tr)))) { s with heap := h', toks := tk }) →
    codeAny (model prog w) A (.builtin "all.loop" ⟨[.ref I], []⟩) R s
  | 0, i, s, hk, hi, st, ok, hR => by
    have hin : i = n := by omega
    subst hin
    refine codeAny_builtin F.entry_all_loop ?_
    rw [Around.under_plainId F.plain_all_loop _]
    refine wpAny_bind (m := pyNext (.ref I)) (W.done s _ _ st fun h' tk hk' => ?_)
    refine wpAny_bind (wpAny_rule (wpAny_pure ?_))
    have := hR h' tk hk'
    rw [List.drop_of_length_le (by simp)] at this
    exact this
  | k + 1, i, s, hk, hi, st, ok, hR => by
    have hlt : i < n := by omega
    have hd : (List.range n).drop i = i :: (List.range n).drop (i + 1) := by
      rw [List.drop_eq_getElem_cons (by simpa using hlt)]; simp
    refine codeAny_builtin F.entry_all_loop ?_
    rw [Around.under_plainId F.plain_all_loop _]
    refine wpAny_bind (m := pyNext (.ref I)) (W.item i s _ _ hlt st fun v h' tk hP hst' hk' => ?_)
    have ok' := hOk _ _ ok hk'
    refine wpAny_bind (wpAny_holding (ht i v _ _ _ ok' hP fun tk2 => ?_))
    refine wpAny_bind (wpAny_letGo ?_)
    cases hb : tr i with
    | true =>
      simp only [if_true]
      refine wpAny_pure ⟨plainId_quiet F.plain_all_loop _, all_turns W hOk ht k (i + 1) _ (by omega) hlt hst' ok' fun h'' tk'' hk'' => ?_⟩
      have := hR h'' tk'' fun b o hbw e => hk'' b o hbw (hk' b o hbw e)
      rw [hd, List.all_cons, hb, Bool.true_and] at this
      exact this
    | false =>
      simp only [Bool.false_eq_true, if_false]
      refine wpAny_bind (wpAny_rule (wpAny_pure ?_))
      have := hR h' tk2 hk'
      rw [hd, List.all_cons, hb, Bool.false_and] at this
      exact this
theorem any_turns (W : Walks prog w A.in1 I fp wr n P St) (hOk : ∀ h h', Ok h → (∀ b o, b ∉ wr → h.get? b = some o → h'.get? b = some o) → Ok h')
    (ht : ∀ i v s (Q : Bool → Shared → Prop) (E : Value → Shared → Prop), Ok s.heap → P i v → (∀ tk, Q (tr i) { s with toks := tk }) → wpAny (model prog w) A.in1 (truthy v) Q E s) : ∀ (k i : Nat) (s : Shared), n - i = k → i ≤ n → St i s.heap → Ok s.heap →
    (∀ h' tk, (∀ b o, b ∉ wr → s.heap.get? b = some o → h'.get? b = some o) → R (.ok (.ret (.bool (((List.range n).drop i).any tr)))) { s with heap := h', toks := tk }) →
    codeAny (model prog w) A (.builtin "any.loop" ⟨[.ref I], []⟩) R s
  | 0, i, s, hk, hi, st, ok, hR => by
    have hin : i = n := by omega
    subst hin
    refine codeAny_builtin F.entry_any_loop ?_
    rw [Around.under_plainId F.plain_any_loop _]
    refine wpAny_bind (m := pyNext (.ref I)) (W.done s _ _ st fun h' tk hk' => ?_)
    refine wpAny_bind (wpAny_rule (wpAny_pure ?_))
    have := hR h' tk hk'
    rw [List.drop_of_length_le (by simp)] at this
    exact this
  | k + 1, i, s, hk, hi, st, ok, hR => by
    have hlt : i < n := by omega
    have hd : (List.range n).drop i = i :: (List.range n).drop (i + 1) := by
      rw [List.drop_eq_getElem_cons (by simpa using hlt)]; simp
    refine codeAny_builtin F.entry_any_loop ?_
    rw [Around.under_plainId F.plain_any_loop _]
    refine wpAny_bind (m := pyNext (.ref I)) (W.item i s _ _ hlt st fun v h' tk hP hst' hk' => ?_)
    have ok' := hOk _ _ ok hk'
    refine wpAny_bind (wpAny_holding (ht i v _ _ _ ok' hP fun tk2 => ?_))
    refine wpAny_bind (wpAny_letGo ?_)
    cases hb : tr i with
    | false =>
      simp only [Bool.false_eq_true, if_false]
      refine wpAny_pure ⟨plainId_quiet F.plain_any_loop _, any_turns W hOk ht k (i + 1) _ (by omega) hlt hst' ok' fun h'' tk'' hk'' => ?_⟩
      have := hR h'' tk'' fun b o hbw e => hk'' b o hbw (hk' b o hbw e)
      rw [hd, List.any_cons, hb, Bool.false_or] at this
      exact this
    | true =>
      simp only [if_true]
      refine wpAny_bind (wpAny_rule (wpAny_pure ?_))
      have := hR h' tk2 hk'
      rw [hd, List.any_cons, hb, Bool.true_or] at this
      exact this
end
section
variable {X : Cx}
/-- the truth of what stands in a list -/
def TrV (K : PySem.W.Frag) (x : V) (H : Hp) (k : Bool) : Prop :=
  match x with
  | .non => k = false
  | .bl b => k = b
  | .int i => k = (i != 0)
  | .str y => y.length ≤ sizeLine ∧ k = ((y.length : Int) != 0)
  | .ref p => (∃ xs, SqL K H p xs ∧ k = !xs.isEmpty) ∨ (∃ xs, SqT K H p xs ∧ k = !xs.isEmpty)
  | _ => False
theorem trAt_of {pins : List (Addr × Obj)} {σ : L2.St} {H : Hp} {s : Shared} (I : Inv X pins σ H s) {x : V} {v : Value} {k : Bool} (r : RelV x v) (h : TrV X.K x H k) : TrAt s.heap v k := by
  cases x with
  | non => cases r; exact h
  | bl b => cases r; exact h
  | int i => obtain ⟨t, rfl⟩ := r; exact h
  | str y => obtain ⟨t, rfl⟩ := r; exact h
  | ref p =>
    cases r
    rcases (show (∃ xs, SqL X.K H p xs ∧ k = !xs.isEmpty) ∨ (∃ xs, SqT X.K H p xs ∧ k = !xs.isEmpty) from h) with ⟨xs, hx, e'⟩ | ⟨xs, hx, e'⟩
    · obtain ⟨its, r, pl, hz⟩ := I.list hx
      have hlen := r.length
      exact .inl ⟨_, pl, by rw [List.size_toArray]; omega, by rw [isEmpty_of r]; exact e'⟩
    · obtain ⟨its, r, pl, hz⟩ := I.tuple hx
      have hlen := r.length
      exact .inr ⟨_, pl, by rw [List.size_toArray]; omega, by rw [isEmpty_of r]; exact e'⟩
  | _ => exact (show False from h).elim
def TrVs (K : PySem.W.Frag) (H : Hp) (vs : List V) (bs : List Bool) : Prop := vs.length = bs.length ∧ ∀ (i : Nat) x k, vs[i]? = some x → bs[i]? = some k → TrV K x H k
theorem trs_at {pins : List (Addr × Obj)} {σ : L2.St} {H : Hp} {s : Shared} (I : Inv X pins σ H s) {vs : List V} {bs : List Bool} {its : List Value} (h : TrVs X.K H vs bs) (r : Vals vs its) (i : Nat) {v : Value} (e : its.toArray[i]? = some v) : TrAt s.heap v (bs.getD i false) := by
  have e : its[i]? = some v := by simpa using e
  have hl := r.length
  have hi := (List.getElem?_eq_some_iff.mp e).1
  obtain ⟨u, e2, r2⟩ := Vals.get r (List.getElem?_eq_getElem (show i < vs.length by omega))
  rw [e] at e2
  cases e2
  have hlb : i < bs.length := by have := h.1; omega
  have hb : bs[i]? = some bs[i] := List.getElem?_eq_getElem hlb
  have := trAt_of I r2 (h.2 i _ _ (List.getElem?_eq_getElem _) hb)
  rw [List.getD_eq_getElem?_getD, hb]
  exact this
def rAnyV (K : PySem.W.Frag) : List V → Hp → VK → Prop := fun xs H Q => ∃ (a : Addr) (vs : List V) (bs : List Bool), xs = [V.ref a] ∧ SqL K H a vs ∧ TrVs K H vs bs ∧ Q (.bl (bs.any id)) H
def rAllV (K : PySem.W.Frag) : List V → Hp → VK → Prop := fun xs H Q => ∃ (a : Addr) (vs : List V) (bs : List Bool), xs = [V.ref a] ∧ SqL K H a vs ∧ TrVs K H vs bs ∧ Q (.bl (bs.all id)) H
theorem cr_allV (hc : X.calm = true) : CallR X (.builtin "all") (rAllV X.K) := by
  intro pins s σ H vs us Q I r h
  obtain ⟨a, ws, bs, rfl, hs, hb, q⟩ := h
  obtain ⟨its, rv, hl, _⟩ := I.list hs
  rw [Vals.ref1 r]
  have hl2 : its.length = bs.length := by rw [← Vals.length rv, hb.1]
  have tr := fun i v (e : its.toArray[i]? = some v) => trs_at I hb rv i e
  refine call_function_tree F.kind_all F.plain_all F.entry_all (F.args_all1 _) ?_
  unfold Builtin.«all»
  refine wpAny_bind (m := oneArg "all" _) (wpAny_pure ?_)
  refine wpAny_bind (wpAny_mono (iter_any (Q := fun it s₂ => it = .ref s.heap.objs.size ∧ s₂ = { s with heap := s.heap.push { cls := .type "list_iterator", data := .fields #[.ref a, .int 0 0] } } ∧ (s₂.heap.IsListIter s.heap.objs.size a 0 ∧ s₂.heap.IsList a its.toArray) ∧ a ≠ s.heap.objs.size) hl.isList fun s₂ e2 st hne => ⟨rfl, e2, st, hne⟩) (fun it s₂ h₂ => ?_) fun _ _ e => e)
  obtain ⟨rfl, e2, st, hne⟩ := h₂
  subst e2
  refine wpAny_pure ⟨plainId_quiet F.plain_all_loop _, ?_⟩
  have kp : ∀ b u, s.heap.get? b = some u → b ∉ [s.heap.objs.size] := fun b u e z => by
    rw [List.mem_singleton] at z
    exact absurd (z ▸ Heap.lt_size e) (Nat.lt_irrefl _)
  refine all_turns (Ok := fun h => ∀ b u, s.heap.get? b = some u → h.get? b = some u) (tr := fun i => bs.getD i false) (Walks.list (A := X.A.in1) (I.ok.hd hc) _ a hne its.toArray)
    (fun h h' ok k b u e => k b u (kp b u e) (ok b u e)) (fun i v s' Q E ok hP hQ => trAt_ok ((tr i v hP).keeps ok) hQ) _ 0 _ rfl (Nat.zero_le _) st (fun b u e => Heap.get?_push_of_some _ e) fun h' tk hk => ?_
  refine ⟨.bl _, H, I.kept fun b o eo => hk b o (kp b o eo) (Heap.get?_push_of_some _ eo), ?_, q⟩
  show Value.bool _ = Value.bool _
  rw [List.drop_zero, ← L2.all_range, List.size_toArray, hl2]
theorem cr_anyV (hc : X.calm = true) : CallR X (.builtin "any") (rAnyV X.K) := by
  intro pins s σ H vs us Q I r h
  obtain ⟨a, ws, bs, rfl, hs, hb, q⟩ := h
  obtain ⟨its, rv, hl, _⟩ := I.list hs
  rw [Vals.ref1 r]
  have hl2 : its.length = bs.length := by rw [← Vals.length rv, hb.1]
  have tr := fun i v (e : its.toArray[i]? = some v) => trs_at I hb rv i e
  refine call_function_tree F.kind_any F.plain_any F.entry_any (F.args_any1 _) ?_
  unfold Builtin.«any»
  refine wpAny_bind (m := oneArg "any" _) (wpAny_pure ?_)
  refine wpAny_bind (wpAny_mono (iter_any (Q := fun it s₂ => it = .ref s.heap.objs.size ∧ s₂ = { s with heap := s.heap.push { cls := .type "list_iterator", data := .fields #[.ref a, .int 0 0] } } ∧ (s₂.heap.IsListIter s.heap.objs.size a 0 ∧ s₂.heap.IsList a its.toArray) ∧ a ≠ s.heap.objs.size) hl.isList fun s₂ e2 st hne => ⟨rfl, e2, st, hne⟩) (fun it s₂ h₂ => ?_) fun _ _ e => e)
  obtain ⟨rfl, e2, st, hne⟩ := h₂
  subst e2
  refine wpAny_pure ⟨plainId_quiet F.plain_any_loop _, ?_⟩
  have kp : ∀ b u, s.heap.get? b = some u → b ∉ [s.heap.objs.size] := fun b u e z => by
    rw [List.mem_singleton] at z
    exact absurd (z ▸ Heap.lt_size e) (Nat.lt_irrefl _)
  refine any_turns (Ok := fun h => ∀ b u, s.heap.get? b = some u → h.get? b = some u) (tr := fun i => bs.getD i false) (Walks.list (A := X.A.in1) (I.ok.hd hc) _ a hne its.toArray)
    (fun h h' ok k b u e => k b u (kp b u e) (ok b u e)) (fun i v s' Q E ok hP hQ => trAt_ok ((tr i v hP).keeps ok) hQ) _ 0 _ rfl (Nat.zero_le _) st (fun b u e => Heap.get?_push_of_some _ e) fun h' tk hk => ?_
  refine ⟨.bl _, H, I.kept fun b o eo => hk b o (kp b o eo) (Heap.get?_push_of_some _ eo), ?_, q⟩
  show Value.bool _ = Value.bool _
  rw [List.drop_zero, ← L2.any_range, List.size_toArray, hl2]
end
end Gl

set_option maxRecDepth 100000
set_option maxHeartbeats 1000000
/-! The general layer: enumerate of a tuple. -/
namespace Gl
open PySem PySem.Spec PyProof.Rows L2
theorem meets_enum_tup (l : Addr) (items : Array Value) (o : Obj) (ho : o.cls = .type "tuple") (n : Nat) (hd : o.data = .seq items n) :
    Meets (Builtin.«enumerate.__new__» ⟨[.type "enumerate", .ref l], []⟩) (fun _ R s => s.heap.get? l = some o ∧
      R (.ok (.ret (.ref (s.heap.push { cls := .type "tuple_iterator", data := .fields #[.ref l, .int 0 0] }).objs.size)))
        { s with heap := (s.heap.push { cls := .type "tuple_iterator", data := .fields #[.ref l, .int 0 0] }).push { cls := .type "enumerate", data := .fields #[.none, .bool false, .ref s.heap.objs.size, rawInt 0, .none, .none] } }) :=
  .of_wp fun prog w A R s h => by
    obtain ⟨hp, g, d, tk, os⟩ := s; obtain ⟨hl, h⟩ := h
    have hsub := sub_enumerate
    have hL : Heap.IsTuple (Shared.heap ⟨hp, g, d, tk, os⟩) l items := ⟨_, hl, ho, n, hd⟩
    wp_walk using AutoSeq1.wpAny_loadPart' hl
    refine wpAny_stack_any fun st => wpAny_pure ?_
    split
    · rename_i c _ _ _ _ _
      cases (c == Value.type "enumerate")
      · wp_walk using AutoSeq1.wpAny_loadPart' hl, wpAny_pyIter_tuple hL
        exact ⟨_, rfl, h⟩
      · wp_walk using AutoSeq1.wpAny_loadPart' hl, wpAny_pyIter_tuple hL
        exact ⟨_, rfl, h⟩
    · wp_walk using AutoSeq1.wpAny_loadPart' hl, wpAny_pyIter_tuple hL
      exact ⟨_, rfl, h⟩
section
variable {prog : Program} {w : World} {A : Around} {E : Value → Shared → Prop} {s : Shared}
theorem call_enum_tup {l : Addr} {items : Array Value} {Q : Value → Shared → Prop} (hL : s.heap.IsTuple l items)
    (h : ∀ h', IsEnum h' (s.heap.objs.size + 1) s.heap.objs.size 0 .none → h'.IsTupleIter s.heap.objs.size l 0 →
      (∀ b o, s.heap.get? b = some o → h'.get? b = some o) → Q (.ref (s.heap.objs.size + 1)) { s with heap := h' }) :
    wpAny (model prog w) A (call (.type "enumerate") [.ref l]) Q E s := by
  obtain ⟨o, hl, hc, n, hd⟩ := hL
  refine callType_new F.called_enumerate (by decide) (F.typeCall_enumerate_1 _) (F.newCall_enumerate_1 _) (fun obj => F.args_object_init_2 obj _) F.entry_enumerate_new
    (meets_enum_tup l items o hc n hd) ⟨hl, ?_⟩
  have hz : (s.heap.push { cls := .type "tuple_iterator", data := .fields #[.ref l, .int 0 0] }).objs.size = s.heap.objs.size + 1 := Heap.size_push ..
  show _ ∧ _
  rw [hz]
  have he : IsEnum ((s.heap.push { cls := .type "tuple_iterator", data := .fields #[.ref l, .int 0 0] }).push
      { cls := .type "enumerate", data := .fields #[.none, .bool false, .ref s.heap.objs.size, rawInt 0, .none, .none] }) (s.heap.objs.size + 1) s.heap.objs.size 0 .none := by
    have := Heap.get?_push_size (s.heap.push { cls := .type "tuple_iterator", data := .fields #[.ref l, .int 0 0] })
      (o := { cls := .type "enumerate", data := .fields #[.none, .bool false, .ref s.heap.objs.size, rawInt 0, .none, .none] }) rfl
    rw [hz] at this; exact this
  exact ⟨⟨_, he, rfl⟩, h _ he ⟨_, Heap.get?_push_of_some _ (Heap.get?_push_size _ rfl), rfl, rfl⟩ fun b o x => Heap.get?_push_of_some _ (Heap.get?_push_of_some _ x)⟩
end
/-- the tuple at a, each item in a new pair with its place -/
def IteT (K : PySem.W.Frag) (a : Addr) : It :=
  ⟨fun i H => ∃ (xs : List V) (x : V), SqT K H a xs ∧ xs[i]? = some x, fun i H v H' => ∃ T x, v = .ref T ∧ H T = none ∧ H' = upd H T (.tup [.int (i : Nat), x]) ∧ ∀ xs, SqT K H a xs → xs[i]? = some x, fun i H => ∃ xs : List V, SqT K H a xs ∧ xs.length ≤ i⟩
theorem turn_enumT {P : Program} {w : World} {K : PySem.W.Frag} {elts : List Expr} {kk : Nat} {tpos : Pos} (a e it : Addr) :
    Turn P w K (.Tuple elts kk tpos) (IteT K a) [e, it] e (fun i h => (∃ old, IsEnum h e it ((i : Nat) : Int) old) ∧ h.IsTupleIter it a i ∧ e ≠ it ∧ e ≠ a ∧ a ≠ it) where
  mem := by simp
  obj := fun i h st b hb => by
    obtain ⟨⟨old, he⟩, ⟨o, ho, hc, hd⟩, _⟩ := st
    have e' : b = e ∨ b = it := by simpa using hb
    rcases e' with z | z
    · rw [z]; exact ⟨_, he, fun v q => nomatch q⟩
    · rw [z]; exact ⟨o, ho, fun v q => by rw [hd] at q; cases q⟩
  keep := fun i h h' st k => let ⟨⟨old, he⟩, hi, hne⟩ := st; ⟨⟨old, k e (by simp) _ he⟩, hi.at fun o q => k it (by simp) o q, hne⟩
  item := by
    intro X hP hw hK hc i pins s σ H E I hf st hg
    subst hP hw hK
    obtain ⟨⟨old, he⟩, hit, hne, hea, hai⟩ := st
    obtain ⟨xs, x, hq, hx⟩ := hg
    obtain ⟨its, rv, p, hz⟩ := I.tuple hq
    obtain ⟨u, hu, ru⟩ := rv.get hx
    have hel : e < s.heap.objs.size := Heap.lt_size he
    have hil : it < s.heap.objs.size := by obtain ⟨_, q, _⟩ := hit; exact Heap.lt_size q
    have hi' : i < its.toArray.size := by
      have := (List.getElem?_eq_some_iff.mp hu).1
      simpa using this
    refine wpAny_pyNext_enum_itemD (Draws.tuple (A := X.A.in1) (I.ok.hd hc) it a hai its.toArray) he ⟨hit, p⟩ hi' hne (by simp [hne, hea]) fun x' h' tk hP ho hit' hT hsz hk => ?_
    have hx' : u = x' := by
      have e1 : its.toArray[i]? = some x' := hP
      have : its[i]? = some x' := by simpa using e1
      rw [hu] at this
      exact Option.some.inj this
    subst hx'
    refine ⟨_, rfl, wpAny_letOwnedTupleGo_enum (s := { s with heap := h', toks := tk + 1 }) ho fun h'' he' sb => ?_⟩
    have hT2 : h''.get? s.heap.objs.size = some { cls := .type "tuple", data := .seq #[.int i tk, u] } := (sb.2 _ (Nat.ne_of_gt hel)).trans hT
    have new : ObjOk X.prog X.w (upd H s.heap.objs.size (.tup [.int (i : Nat), x])) h'' s.heap.objs.size (.tup [.int (i : Nat), x]) :=
      ⟨by show 2 ≤ sizeLine; decide, [.int i tk, u], .cons ⟨_, rfl⟩ (.cons ru .nil), ⟨_, hT2, rfl, _, rfl⟩⟩
    have I1 : Inv X pins σ (upd H s.heap.objs.size (.tup [.int (i : Nat), x])) { s with heap := h'', toks := tk + 1 } :=
      I.turnedNew (ch := [e, it]) (fun b ob hb q => (sb.2 b (fun z => hb (by simp [z]))).trans (hk b ob (fun z => hb (by simp [z])) (fun z => hb (by simp [z])) q)) hf (Nat.le_refl _) new
    refine ⟨.ref s.heap.objs.size, _, I1, rfl, ⟨_, x, rfl, I.hok.fresh (Nat.le_refl _), rfl, fun ys hy => by rw [I.tuple_inj hy hq]; exact hx⟩, ⟨⟨u, ?_⟩, hit'.1.at fun o q => (sb.2 it (Ne.symm hne)).trans q, hne, hea, hai⟩, fun b hb => ?_⟩
    · have e1 : ((i + 1 : Nat) : Int) = (i : Int) + 1 := by omega
      rw [e1]; exact he'
    · have hb' : b < s.heap.objs.size := by
        have e' : b = e ∨ b = it := by simpa using hb
        rcases e' with z | z
        · rw [z]; exact hel
        · rw [z]; exact hil
      rw [upd_ne (Nat.ne_of_lt hb')]
      exact (hf b hb).1
  done := by
    intro X hP hw hK hc i pins s σ H E I hf st hg
    subst hP hw hK
    obtain ⟨⟨old, he⟩, hit, hne, hea, hai⟩ := st
    obtain ⟨xs, hq, hx⟩ := hg
    obtain ⟨its, rv, p, hz⟩ := I.tuple hq
    obtain ⟨f0, f1, f2, f3, f4, f5⟩ := hf it (by simp)
    have hl := rv.length
    have hT : s.TypeIs (.ref e) "enumerate" := ⟨_, he, rfl⟩
    unfold pyNext
    refine wpAny_bind (wpAny_attempt (wpAny_callSpecial?_slot (name := Str.ofString "__next__") hT F.slot_enumerate_next
      (wpAny_call_entry F.slot_enumerate_next hT F.entry_enumerate_next ?_ (F.args_enumerate_next_1 _))))
    show wpAny _ _ (field (.ref e) 2 >>= _) _ _ _
    refine wpAny_bind (wpAny_field he rfl (x := .ref it) rfl ?_)
    refine wpAny_bind (wpAny_nextOf_tuple_end (I.ok.hd hc) hit p (by simp; omega) fun h' x eb hx' => ?_)
    obtain ⟨o, ho, hc'⟩ := hx'
    refine wpAny_bind (wpAny_isInstance (T := "StopIteration") (b := true) ⟨o, ho, hc'⟩ isSubtype_stop ?_)
    exact wpAny_pure ⟨rfl, I.turned (t' := s.toks) (fun b o hb q => eb b o hb q) f0 f1 f3 f4 f5⟩
  self := fun A i s Q E st h => let ⟨⟨_, he⟩, _⟩ := st; wpAny_pyIter_enum he h
def iEnumA (K : PySem.W.Frag) (ta : TA) : TI := fun σ H R => ta σ H fun vs H1 => ∃ a xs, vs = [.ref a] ∧ ((SqL K H1 a xs ∧ R (Ite K a) H1) ∨ (SqT K H1 a xs ∧ R (IteT K a) H1))
theorem pi_enumA {X : Cx} {e : Expr} {ta : TA} {p pos tpos : Pos} {elts : List Expr} {kk : Nat} (hg : L2.Gl X "enumerate") (hm : X.mg "enumerate" = none) (ha : PA X [e] ta) (hs : starEach [e] X.env = [(false, eval e X.env)] := by rfl) :
    PI X (.Tuple elts kk tpos) (.Call (.Name "enumerate" p) [e] [] pos) (iEnumA X.K ta) := by
  refine ⟨fun pins s σ H R I h => ?_⟩
  refine Call_ (ld_blt I hg hm boot_enumerate (PyProof.Rows.callWith_type1 (thn (ha.run pos pins s σ H _ I h) fun us s1 ⟨vs, H1, I1, r1, q1⟩ => ?_) hs rfl))
  obtain ⟨a, xs, ex, q⟩ := q1
  subst ex
  cases r1 with
  | cons r rr =>
    cases rr
    cases r
    rcases q with ⟨hq, q⟩ | ⟨hq, q⟩
    · obtain ⟨its, rv, p', hz⟩ := I1.list hq
      refine call_enumerate_list p'.isList fun h' he hit hsz hk => wpAny_pyIter_enum he ?_
      have I2 : Inv X pins σ H1 { s1 with heap := h' } := I1.kept (t' := s1.toks) hk
      refine ⟨s1.heap.objs.size + 1, [s1.heap.objs.size + 1, s1.heap.objs.size], _, _, H1, rfl, I2, turn_enum a (s1.heap.objs.size + 1) s1.heap.objs.size, ⟨⟨.none, he⟩, hit, Nat.succ_ne_self _⟩, fun b hb => ?_, q⟩
      have e' : b = s1.heap.objs.size + 1 ∨ b = s1.heap.objs.size := by simpa using hb
      have hle : s1.heap.objs.size ≤ b := by
        rcases e' with z | z
        · rw [z]; exact Nat.le_add_right _ _
        · rw [z]; exact Nat.le_refl _
      exact I1.fpOk hle (I1.hok.fresh hle)
    · obtain ⟨its, rv, p', hz⟩ := I1.tuple hq
      have hal : a < s1.heap.objs.size := by obtain ⟨_, q, _⟩ := id p'; exact Heap.lt_size q
      refine call_enum_tup p' fun h' he hit hk => wpAny_pyIter_enum he ?_
      have I2 : Inv X pins σ H1 { s1 with heap := h' } := I1.kept (t' := s1.toks) hk
      refine ⟨s1.heap.objs.size + 1, [s1.heap.objs.size + 1, s1.heap.objs.size], _, _, H1, rfl, I2, turn_enumT a (s1.heap.objs.size + 1) s1.heap.objs.size, ⟨⟨.none, he⟩, hit, Nat.succ_ne_self _, Nat.ne_of_gt (Nat.lt_succ_of_lt hal), Nat.ne_of_lt hal⟩, fun b hb => ?_, q⟩
      have e' : b = s1.heap.objs.size + 1 ∨ b = s1.heap.objs.size := by simpa using hb
      have hle : s1.heap.objs.size ≤ b := by
        rcases e' with z | z
        · rw [z]; exact Nat.le_add_right _ _
        · rw [z]; exact Nat.le_refl _
      exact I1.fpOk hle (I1.hok.fresh hle)
end Gl

set_option maxRecDepth 100000
set_option maxHeartbeats 1000000
/-! The general layer, part B: operations on data. -/
namespace Gl
open PySem PySem.Spec PyProof.Rows L2

/-! ### the operations, in plain words -/
def sumOk (n : Nat) : Bool := decide (n ≤ sizeLine)
def mulOk (i j : Int) : Bool := decide (i.natAbs < 2 ^ 64) || decide (j.natAbs < 2 ^ 64) || decide (i.natAbs.log2 + j.natAbs.log2 < 1000000)
def divOk (j : Int) : Bool := decide (j ≠ 0) && (decide (j.natAbs < 1073741824) || decide (j.natAbs.log2 < 9000))
def addD : D → D → Option D
  | .int i, .int j => some (.int (i + j))
  | .str x, .str y => if sumOk (x.length + y.length) then some (.str (x ++ y)) else none
  | .list xs, .list ys => if sumOk (xs.length + ys.length) then some (.list (xs ++ ys)) else none
  | .tuple xs, .tuple ys => if sumOk (xs.length + ys.length) then some (.tuple (xs ++ ys)) else none
  | _, _ => none
def subD : D → D → Option D
  | .int i, .int j => some (.int (i - j))
  | _, _ => none
def repOk (n : Nat) (k : Int) : Bool := decide (-(2 ^ 63) ≤ k) && decide (k < 2 ^ 63) && sumOk (n * k.toNat)
def repDs (ds : List D) (k : Nat) : List D := (List.replicate k ds).flatten
def repTOk (n : Nat) (k : Int) : Bool := decide (0 < n) && (decide (n ≤ 1000) && (decide (2 ≤ k) && decide (k ≤ 1000)))
def mulD : D → D → Option D
  | .int i, .int j => if mulOk i j then some (.int (i * j)) else none
  | .list ds, .int k => if repOk ds.length k then some (.list (repDs ds k.toNat)) else none
  | .tuple ds, .int k => if repTOk ds.length k then some (.tuple (repDs ds k.toNat)) else none
  | _, _ => none
def fdivD : D → D → Option D
  | .int i, .int j => if divOk j then some (.int (i.fdiv j)) else none
  | _, _ => none
def modD : D → D → Option D
  | .int i, .int j => if j ≠ 0 then some (.int (i.fmod j)) else none
  | _, _ => none
def binD : Operator → D → D → Option D
  | .Add => addD
  | .Sub => subD
  | .Mult => mulD
  | .FloorDiv => fdivD
  | .Mod => modD
  | _ => fun _ _ => none
def shp (d : D) : Bool := SeqAt.shaped d
def isNon : D → Bool
  | .none => true
  | _ => false
def strIn (x y : Str) : Bool := !(Builtin.Str.occurrences y x 0 y.length 1).isEmpty
def inD : D → D → Option Bool
  | .str x, .str y => some (strIn x y)
  | d, .list ds => if shp d && shp (.list ds) then some (ds.any fun z => PyData.eqv z d) else none
  | d, .tuple ds => if shp d && shp (.tuple ds) then some (ds.any fun z => PyData.eqv z d) else none
  | _, _ => none
def ltD (x y : D) : Option Bool :=
  match x, y with
  | .int i, .int j => some (decide (i < j))
  | x, y => if PySem.W.alike x y && !isNon x && decide (x.depth ≤ 64) then some (PySem.W.dataLt x y) else none
def eqD (x y : D) : Option Bool := if shp x && shp y then some (PyData.eqv x y) else none
def neD (x y : D) : Option Bool := if shp x && shp y then some (!PyData.eqv x y) else none
def leD : D → D → Option Bool
  | .int i, .int j => some (decide (i ≤ j))
  | _, _ => none
def gtD : D → D → Option Bool
  | .int i, .int j => some (decide (j < i))
  | _, _ => none
def geD : D → D → Option Bool
  | .int i, .int j => some (decide (j ≤ i))
  | _, _ => none
def notInD (x y : D) : Option Bool := (inD x y).map (!·)
def isD : D → D → Option Bool
  | x, .none => some (isNon x)
  | .bool a, .bool c => some (decide (a = c))
  | _, _ => none
def isNotD (x y : D) : Option Bool := (isD x y).map (!·)
def cmpD : CmpOp → D → D → Option Bool
  | .Eq => eqD
  | .NotEq => neD
  | .Lt => ltD
  | .LtE => leD
  | .Gt => gtD
  | .GtE => geD
  | .In => inD
  | .NotIn => notInD
  | .Is => isD
  | .IsNot => isNotD
def truD : D → Option Bool
  | .none => some false
  | .bool b => some b
  | .int i => some (i != 0)
  | .str x => if sumOk x.length then some ((x.length : Int) != 0) else none
  | .list ds => some (!ds.isEmpty)
  | .tuple ds => some (!ds.isEmpty)
  | .dict _ => none
def negD : D → Option D
  | .int i => some (.int (-i))
  | _ => none
def ixD (x i : D) : Option D :=
  match x, i with
  | .list ds, .int i => atI ds i
  | .tuple ds, .int i => atI ds i
  | .str z, .int i => if sumOk z.length then (atI z.cps.toList i).map fun c => .str ⟨#[c]⟩ else none
  | _, _ => none
def cutL {α : Type} (xs : List α) (lo hi : Option Int) : List α := (xs.drop (HT.sIx xs.length 0 lo)).take (HT.sIx xs.length xs.length hi - HT.sIx xs.length 0 lo)
def cutD (x : D) (lo hi : Option Int) : Option D :=
  match x with
  | .list ds => some (.list (cutL ds lo hi))
  | .tuple ds => some (.tuple (cutL ds lo hi))
  | .str z => if sumOk z.length then some (.str (L2.cutS z lo hi)) else none
  | _ => none

/-! ### readings -/
/-- where an operation is asked: the state, its operands -/
def r2 (K : PySem.W.Frag) (g : Gx) (f : D → D → Option D) : R2 := fun x y H Q => ∃ (b : Bs) (F : Hp) (S : Sto) (σ : L2.St) (d1 d2 d : D), SR K g b F S σ H ∧ BRep K b F H x d1 ∧ BRep K b F H y d2 ∧ f d1 d2 = some d ∧
  ∀ v F' H', SR K g (b.at F H) F' ⟨[], S.bx⟩ [] H' → Dp K F' v d → Q v H'
def r2b (K : PySem.W.Frag) (g : Gx) (f : D → D → Option Bool) : R2 := fun x y H Q => ∃ (b : Bs) (F : Hp) (S : Sto) (σ : L2.St) (d1 d2 : D) (k : Bool), SR K g b F S σ H ∧ BRep K b F H x d1 ∧ BRep K b F H y d2 ∧ f d1 d2 = some k ∧ Q (.bl k) H
def r1 (K : PySem.W.Frag) (g : Gx) (f : D → Option D) : V → Hp → VK → Prop := fun x H Q => ∃ (b : Bs) (F : Hp) (S : Sto) (σ : L2.St) (d1 d : D), SR K g b F S σ H ∧ BRep K b F H x d1 ∧ f d1 = some d ∧
  ∀ v F' H', SR K g (b.at F H) F' ⟨[], S.bx⟩ [] H' → Dp K F' v d → Q v H'
section
variable {X : Cx} {g : Gx}
theorem list_addW (l : Addr) (items : Array Value) (n : Nat) (b : Addr) (items2 : Array Value) (n2 : Nat) (sl sl2 : Array (Option Value)) (hc0 : items.size + items2.size ≤ sizeLine) :
    Meets (Builtin.«list.__add__» ⟨[.ref l, .ref b], []⟩) (fun _ R s => s.heap.get? l = some { cls := .type "list", dict := none, data := .seq items n, slots := sl } ∧ s.heap.get? b = some { cls := .type "list", dict := none, data := .seq items2 n2, slots := sl2 } ∧ R (.ok (.ret (Value.ref s.heap.objs.size))) { s with heap := s.heap.push { cls := Value.type "list", data := Data.seq (items ++ items2) }, toks := s.toks }) :=
  .of_wp fun prog w A R s h => by obtain ⟨hp, g, d, tk, os⟩ := s; obtain ⟨hl, hb, h⟩ := h; have f3 := AutoSeq1.sub_list_list; wp_walk using wpAny_loadPart' hl, wpAny_loadPart' hb; exact ⟨_, rfl, h⟩
theorem op_catL : OpR X (binaryOp .Add) (fun x y H Q => ∃ l b xs zs, x = .ref l ∧ y = .ref b ∧ SqL X.K H l xs ∧ SqL X.K H b zs ∧ xs.length + zs.length ≤ sizeLine ∧ ∀ p, H p = none → Q (.ref p) (upd H p (.lst (xs ++ zs)))) := by
  intro pins s σ H x y v u Q I rx ry h
  obtain ⟨l, b, xs, zs, rfl, rfl, hH, hB, hz, q⟩ := h
  cases rx
  cases ry
  obtain ⟨its, r, ⟨o, n, e, e1, e2, e3⟩, _⟩ := I.list hH
  obtain ⟨its2, r2, ⟨o2, n2, e', e1', e2', e3'⟩, _⟩ := I.list hB
  obtain ⟨c, dd, dt, sl⟩ := o
  obtain ⟨c2, dd2, dt2, sl2⟩ := o2
  simp only at e1 e2 e3 e1' e2' e3'
  subst e1 e2 e3 e1' e2' e3'
  have hl : xs.length = its.length := r.length
  have hl2 : zs.length = its2.length := r2.length
  refine concat_meets ⟨_, e, rfl⟩ ⟨_, e', rfl⟩ noFill_list_add seq_list_add F.slot_list_add F.entry_list_add (F.args_list_add_2 _ _) (list_addW l its.toArray n b its2.toArray n2 sl sl2 (by rw [List.size_toArray, List.size_toArray]; omega)) ⟨e, e', ?_⟩
  have ea : its.toArray ++ its2.toArray = (its ++ its2).toArray := by simp
  rw [ea]
  exact ⟨.ref _, _, I.lnew (t' := s.toks) (r.append r2) (by rw [List.length_append]; omega), rfl, q _ I.fresh⟩
theorem BRep.int_ {K : PySem.W.Frag} {b : Bs} {F H : Hp} {v : V} {i : Int} (h : BRep K b F H v (.int i)) : v = .int i := by
  rcases h with h | ⟨a, vs, ds, rfl, e, _⟩
  · cases h; rfl
  · cases e
theorem BRep.str_ {K : PySem.W.Frag} {b : Bs} {F H : Hp} {v : V} {i : Str} (h : BRep K b F H v (.str i)) : v = .str i := by
  rcases h with h | ⟨a, vs, ds, rfl, e, _⟩
  · cases h; rfl
  · cases e
theorem BRep.bool_ {K : PySem.W.Frag} {b : Bs} {F H : Hp} {v : V} {i : Bool} (h : BRep K b F H v (.bool i)) : v = .bl i := by
  rcases h with h | ⟨a, vs, ds, rfl, e, _⟩
  · cases h; rfl
  · cases e
theorem BRep.none_ {K : PySem.W.Frag} {b : Bs} {F H : Hp} {v : V} (h : BRep K b F H v .none) : v = .non := by
  rcases h with h | ⟨a, vs, ds, rfl, e, _⟩
  · cases h; rfl
  · cases e
/-- a new list, a new tuple, frozen -/
theorem SR.lst {K : PySem.W.Frag} {b : Bs} {F H : Hp} {S : Sto} {σ : L2.St} {p : Addr} {vs : List V} {ds : List D} (x : SR K g b F S σ H) (n : H p = none) (h : DpAll K F vs ds) :
    SR K g (b.at F H) (upd F p (.lst vs)) ⟨[], S.bx⟩ [] (upd H p (.lst vs)) ∧ Dp K (upd F p (.lst vs)) (.ref p) (.list ds) := by
  have y := x.newF n (lst_nt vs)
  exact ⟨y, .lst (.inl (.inl upd_same)) (dpAll_mono y.f0 _ _ h)⟩
theorem SR.tup {K : PySem.W.Frag} {b : Bs} {F H : Hp} {S : Sto} {σ : L2.St} {p : Addr} {vs : List V} {ds : List D} (x : SR K g b F S σ H) (n : H p = none) (h : DpAll K F vs ds) :
    SR K g (b.at F H) (upd F p (.tup vs)) ⟨[], S.bx⟩ [] (upd H p (.tup vs)) ∧ Dp K (upd F p (.tup vs)) (.ref p) (.tuple ds) := by
  have y := x.newF n (tup_nt vs)
  exact ⟨y, .tup (.inl (.inl upd_same)) (dpAll_mono y.f0 _ _ h)⟩
theorem OpR.of {f : Value → Value → Sem Value} {r r' : R2} (h : OpR X f r) (i : ∀ x y H Q, r' x y H Q → r x y H Q) : OpR X f r' := fun pins s σ H x y v u Q I rx ry q => h pins s σ H x y v u Q I rx ry (i _ _ _ _ q)
theorem sumOk_le {n : Nat} (h : sumOk n = true) : n ≤ sizeLine := of_decide_eq_true h

theorem op_addD : OpR X (binaryOp .Add) (r2 X.K g addD) := by
  intro pins s σ H x y v u Q I rx ry h
  obtain ⟨b, F, S, σ', d1, d2, d, x1, h1, h2, e, q⟩ := h
  unfold addD at e
  split at e
  · cases e
    have e1 := h1.int_
    have e2 := h2.int_
    exact op_add pins s σ H x y v u Q I rx ry ⟨_, _, e1, e2, q _ _ _ x1.base (.int _)⟩
  · split at e
    · rename_i hz
      cases e
      have e1 := h1.str_
      have e2 := h2.str_
      exact op_add_str pins s σ H x y v u Q I rx ry ⟨_, _, e1, e2, sumOk_le hz, q _ _ _ x1.base (.str _)⟩
    · cases e
  · split at e
    · rename_i hz
      cases e
      obtain ⟨a, vs, rfl, s1, k1⟩ := h1.list x1.ff
      obtain ⟨c, ws, rfl, s2, k2⟩ := h2.list x1.ff
      have z := sumOk_le hz
      rw [← dpl_len k1, ← dpl_len k2] at z
      refine op_catL pins s σ H _ _ v u Q I rx ry ⟨a, c, vs, ws, rfl, rfl, s1, s2, z, fun p hp => ?_⟩
      obtain ⟨y1, y2⟩ := x1.lst hp (dpl_app k1 k2)
      exact q _ _ _ y1 y2
    · cases e
  · split at e
    · rename_i hz
      cases e
      obtain ⟨a, vs, rfl, s1, s1', k1⟩ := h1.tuple x1.ff
      obtain ⟨c, ws, rfl, s2, s2', k2⟩ := h2.tuple x1.ff
      have z := sumOk_le hz
      rw [← dpl_len k1, ← dpl_len k2] at z
      refine op_catA pins s σ H _ _ v u Q I rx ry ⟨a, c, vs, ws, rfl, rfl, s1, s2, z, fun z0 => ?_, fun _ z0 => ?_, fun _ _ p hp => ?_⟩
      · subst z0
        cases k1
        exact q _ _ _ x1.base (.tup s2' k2)
      · subst z0
        cases k2
        rw [List.append_nil] at q
        exact q _ _ _ x1.base (.tup s1' k1)
      · obtain ⟨y1, y2⟩ := x1.tup hp (dpl_app k1 k2)
        exact q _ _ _ y1 y2
    · cases e
  · cases e
theorem op_subD : OpR X (binaryOp .Sub) (r2 X.K g subD) := by
  intro pins s σ H x y v u Q I rx ry h
  obtain ⟨b, F, S, σ', d1, d2, d, x1, h1, h2, e, q⟩ := h
  unfold subD at e
  split at e
  · cases e
    exact op_sub pins s σ H x y v u Q I rx ry ⟨_, _, h1.int_, h2.int_, q _ _ _ x1.base (.int _)⟩
  · cases e
theorem natAbs_range {i : Int} (h : i.natAbs < 2 ^ 64) : -(2 ^ 64) < i ∧ i < 2 ^ 64 := by omega
theorem mulOk_ok {i j : Int} (h : mulOk i j = true) : IntMulOk i j := by
  unfold mulOk at h
  rw [Bool.or_eq_true, Bool.or_eq_true] at h
  rcases h with (h | h) | h
  · obtain ⟨a, c⟩ := natAbs_range (of_decide_eq_true h)
    exact .of_left (intBits_le_64 a c)
  · obtain ⟨a, c⟩ := natAbs_range (of_decide_eq_true h)
    exact .of_right (intBits_le_64 a c)
  · exact CMulW.ok (show i.natAbs.log2 + j.natAbs.log2 < 1000000 from of_decide_eq_true h)
theorem op_mulG : OpR X (binaryOp .Mult) (rI (fun i j => mulOk i j = true) fun i j => .int (i * j)) := opI fun _ _ _ _ _ _ _ hc q => mul_int q (mulOk_ok hc)
theorem dpl_rep {K : PySem.W.Frag} {F : Hp} {ds : List D} {vs : List V} (h : DpAll K F vs ds) : ∀ k : Nat, DpAll K F (List.replicate k vs).flatten (repDs ds k)
  | 0 => .nil
  | k + 1 => by
    unfold repDs
    rw [List.replicate_succ, List.replicate_succ, List.flatten_cons, List.flatten_cons]
    exact dpl_app h (dpl_rep h k)
theorem int_rmul_listW (a : Int) (t : Tok) (l : Addr) (items : Array Value) (n : Nat) (sl : Array (Option Value)) :
    Meets (Builtin.«int.__rmul__» ⟨[.int a t, .ref l], []⟩) (fun _ R s => s.heap.get? l = some { cls := .type "list", dict := none, data := .seq items n, slots := sl } ∧ R (.ok (.ret Value.notImplemented)) s) :=
  .of_wp fun prog w A R s h => by obtain ⟨hp, g, d, tk, os⟩ := s; obtain ⟨hl, h⟩ := h; wp_walk using wpAny_loadPart' hl; exact ⟨_, rfl, h⟩
theorem list_mulW (l : Addr) (items : Array Value) (n : Nat) (x : Int) (u : Tok) (sl : Array (Option Value)) (hc0 : ¬(!Builtin.List.listFitsIndex x) = true) (hc1 : ¬items.size * x.toNat > (2 ^ 63 - 1) / 8) (hc2 : ¬Builtin.List.listTooLong (items.size * x.toNat) = true) :
    Meets (Builtin.«list.__mul__» ⟨[.ref l, .int x u], []⟩) (fun _ R s => s.heap.get? l = some { cls := .type "list", dict := none, data := .seq items n, slots := sl } ∧ R (.ok (.ret (Value.ref s.heap.objs.size))) { s with heap := s.heap.push { cls := Value.type "list", data := Data.seq (List.foldl (fun x1 x2 => x1 ++ x2) #[] (List.replicate (if items.isEmpty = true then 0 else x.toNat) items)) }, toks := s.toks }) :=
  .of_wp fun prog w A R s h => by
    obtain ⟨hp, g, d, tk, os⟩ := s; obtain ⟨hl, h⟩ := h
    have hsz := PySem.AutoListH.joined_fits hc2
    wp_walk using wpAny_loadPart' hl; refine wpAny_ite_false (decide_eq_false (Nat.not_lt.mpr hsz)) ?_; wp_walk using wpAny_loadPart' hl; exact ⟨_, rfl, h⟩
theorem op_repL : OpR X (binaryOp .Mult) (fun x y H Q => ∃ l k xs, x = .ref l ∧ y = .int k ∧ SqL X.K H l xs ∧ -(2 ^ 63) ≤ k ∧ k < 2 ^ 63 ∧ xs.length * k.toNat ≤ sizeLine ∧ ∀ p, H p = none → Q (.ref p) (upd H p (.lst (List.replicate k.toNat xs).flatten))) := by
  intro pins s σ H x y v u Q I rx ry h
  obtain ⟨l, k, xs, rfl, rfl, hH, h1, h2, hz, q⟩ := h
  cases rx
  obtain ⟨t, rfl⟩ := ry
  obtain ⟨its, r, ⟨⟨c, dd, dt, sl⟩, n, e, e1, e2, e3⟩, _⟩ := I.list hH
  simp only at e1 e2 e3
  subst e1 e2 e3
  have hl : xs.length = its.length := r.length
  have hlen : its.toArray.size * k.toNat ≤ sizeLine := by rw [List.size_toArray, ← hl]; exact hz
  have hcap : ¬ its.toArray.size * k.toNat > (2 ^ 63 - 1) / 8 := by
    have : (sizeLine : Nat) ≤ (2 ^ 63 - 1) / 8 := by decide
    omega
  have hfit : ¬ (!Builtin.List.listFitsIndex k) = true := by
    rw [fitsIndex_both h1 h2]
    exact Bool.false_ne_true
  have hlong : ¬ Builtin.List.listTooLong (its.toArray.size * k.toNat) = true := by
    rw [notLongL hlen]
    exact Bool.false_ne_true
  have hnew : List.foldl (fun x1 x2 => x1 ++ x2) #[] (List.replicate (if its.toArray.isEmpty = true then 0 else k.toNat) its.toArray) = (List.replicate k.toNat its).flatten.toArray := by
    have f0 : ∀ m : Nat, List.foldl (fun x1 x2 => x1 ++ x2) #[] (List.replicate m its.toArray) = (List.replicate m its).flatten.toArray := fun m => by
      have := foldl_rep its m []
      rw [List.nil_append] at this
      exact this
    rw [f0]
    cases its with
    | nil => simp
    | cons a r' => rw [if_neg (by simp)]
  refine wpAny_binaryOp_repeat_ref (T := "list") (U := "int") (by decide) ⟨_, e, rfl⟩ (fun s' => typeIs_int s' k t) noFill_list_mul F.fills_int_mul F.slot_int_rmul repeat_list F.slot_int_index.lookup
    (call_meets F.slot_int_rmul (typeIs_int s k t) F.entry_int_rmul (F.args_int_rmul_2 _ _) (int_rmul_listW k t l its.toArray n sl)
      ⟨e, rfl, ⟨_, e, rfl⟩, call_meets F.slot_list_mul ⟨_, e, rfl⟩ F.entry_list_mul (F.args_list_mul_2 _ _) (list_mulW l its.toArray n k t sl hfit hcap hlong) ⟨e, ?_⟩⟩)
  rw [hnew]
  exact ⟨.ref _, _, I.lnew (t' := s.toks) (r.rep k.toNat) (by rw [PyProof.Rows.lm_len_rep_flat, Nat.mul_comm]; exact hz), rfl, q _ I.fresh⟩
theorem op_mulD : OpR X (binaryOp .Mult) (r2 X.K g mulD) := by
  intro pins s σ H x y v u Q I rx ry h
  obtain ⟨b, F, S, σ', d1, d2, d, x1, h1, h2, e, q⟩ := h
  unfold mulD at e
  split at e
  · split at e
    · rename_i hz
      cases e
      exact op_mulG pins s σ H x y v u Q I rx ry ⟨_, _, h1.int_, h2.int_, hz, q _ _ _ x1.base (.int _)⟩
    · cases e
  · split at e
    · rename_i hz
      cases e
      unfold repOk at hz
      rw [Bool.and_eq_true, Bool.and_eq_true] at hz
      obtain ⟨a, vs, rfl, s1, k1⟩ := h1.list x1.ff
      refine op_repL pins s σ H _ _ v u Q I rx ry ⟨a, _, vs, rfl, h2.int_, s1, of_decide_eq_true hz.1.1, of_decide_eq_true hz.1.2, by rw [dpl_len k1]; exact sumOk_le hz.2, fun p hp => ?_⟩
      obtain ⟨y1, y2⟩ := x1.lst hp (dpl_rep k1 _)
      exact q _ _ _ y1 y2
    · cases e
  · split at e
    · rename_i hz
      cases e
      unfold repTOk at hz
      rw [Bool.and_eq_true, Bool.and_eq_true, Bool.and_eq_true, decide_eq_true_eq, decide_eq_true_eq, decide_eq_true_eq, decide_eq_true_eq] at hz
      obtain ⟨a, vs, rfl, s1, _, k1⟩ := h1.tuple x1.ff
      have hl := dpl_len k1
      refine L2.op_repT pins s σ H _ _ v u Q I rx ry ⟨a, _, vs, rfl, h2.int_, s1, fun z => ?_, hz.2.2.1, hz.2.2.2, by rw [hl]; exact hz.2.1, fun p hp => ?_⟩
      · rw [z] at hl
        have := hz.1
        rw [← hl] at this
        exact absurd this (by simp)
      · obtain ⟨y1, y2⟩ := x1.tup hp (dpl_rep k1 _)
        exact q _ _ _ y1 y2
    · cases e
  · cases e
theorem op_fdivG : OpR X (binaryOp .FloorDiv) (rI (fun _ j => divOk j = true) fun i j => .int (i.fdiv j)) := opI fun i j _ _ _ _ _ hc q => by
  have hc' : divOk j = true := hc
  unfold divOk at hc'
  rw [Bool.and_eq_true, Bool.or_eq_true] at hc'
  obtain ⟨h0, h | h2⟩ := hc'
  · exact floordiv_int (of_decide_eq_true h0) q (.inl (PyProof.noPylong_small (of_decide_eq_true h)))
  · exact floordiv_int (of_decide_eq_true h0) q (.inl (PyProof.noPylong_of_log2 (of_decide_eq_true h2)))
theorem op_fdivD : OpR X (binaryOp .FloorDiv) (r2 X.K g fdivD) := by
  intro pins s σ H x y v u Q I rx ry h
  obtain ⟨b, F, S, σ', d1, d2, d, x1, h1, h2, e, q⟩ := h
  unfold fdivD at e
  split at e
  · split at e
    · rename_i hz
      cases e
      exact op_fdivG pins s σ H x y v u Q I rx ry ⟨_, _, h1.int_, h2.int_, hz, q _ _ _ x1.base (.int _)⟩
    · cases e
  · cases e
theorem op_modD : OpR X (binaryOp .Mod) (r2 X.K g modD) := by
  intro pins s σ H x y v u Q I rx ry h
  obtain ⟨b, F, S, σ', d1, d2, d, x1, h1, h2, e, q⟩ := h
  unfold modD at e
  split at e
  · split at e
    · rename_i hz
      cases e
      exact op_modN pins s σ H x y v u Q I rx ry ⟨_, _, h1.int_, h2.int_, hz, q _ _ _ x1.base (.int _)⟩
    · cases e
  · cases e
theorem op_binD (op : Operator) : OpR X (binaryOp op) (r2 X.K g (binD op)) := by
  cases op
  case Add => exact op_addD
  case Sub => exact op_subD
  case Mult => exact op_mulD
  case FloorDiv => exact op_fdivD
  case Mod => exact op_modD
  all_goals
    intro pins s σ H x y v u Q I rx ry h
    obtain ⟨b, F, S, σ', d1, d2, d, x1, h1, h2, e, q⟩ := h
    cases e

/-! ### comparisons -/
theorem OpR.of2b {op : CmpOp} {r : R2} {f : D → D → Option Bool} (h : OpR X (compareOp op) r)
    (i : ∀ (x y : V) (H : Hp) (Q : VK) (b : Bs) (F : Hp) (S : Sto) (σ : L2.St) (d1 d2 : D) (k : Bool), SR X.K g b F S σ H → BRep X.K b F H x d1 → BRep X.K b F H y d2 → f d1 d2 = some k → Q (.bl k) H → r x y H Q) : OpR X (compareOp op) (r2b X.K g f) := by
  intro pins s σ H x y v u Q I rx ry h'
  obtain ⟨b, F, S, σ', d1, d2, k, x1, h1, h2, e, q⟩ := h'
  exact h pins s σ H x y v u Q I rx ry (i _ _ _ _ _ _ _ _ _ _ _ x1 h1 h2 e q)
theorem op_inTG (hu : X.A.units + 65 < cLine) : OpR X (compareOp .In) (fun x y H Q => ∃ d ds, Dp X.K H x d ∧ Dp X.K H y (.tuple ds) ∧ SeqAt.shaped d = true ∧ SeqAt.shaped (.tuple ds) = true ∧ Q (.bl (ds.any fun z => PyData.eqv z d)) H) := by
  intro pins s σ H x y v u Q I rx ry h
  obtain ⟨d, ds, hd, he, sd, se, q⟩ := h
  obtain ⟨as, r1⟩ := Dp.reads I d x v hd rx
  obtain ⟨bs, r2⟩ := Dp.reads I (.tuple ds) y u he ry
  exact SeqAt.in_tuple_reads r2 r1 (SeqAt.canLay_of_shaped se) (SeqAt.canLay_of_shaped sd) (room_in_shaped sd hu) ⟨.bl _, H, I, rfl, q⟩
theorem op_notInTG (hu : X.A.units + 65 < cLine) : OpR X (compareOp .NotIn) (fun x y H Q => ∃ d ds, Dp X.K H x d ∧ Dp X.K H y (.tuple ds) ∧ SeqAt.shaped d = true ∧ SeqAt.shaped (.tuple ds) = true ∧ Q (.bl (!ds.any fun z => PyData.eqv z d)) H) := by
  intro pins s σ H x y v u Q I rx ry h
  obtain ⟨d, ds, hd, he, sd, se, q⟩ := h
  obtain ⟨as, r1⟩ := Dp.reads I d x v hd rx
  obtain ⟨bs, r2⟩ := Dp.reads I (.tuple ds) y u he ry
  exact SeqAt.notIn_tuple_reads r2 r1 (SeqAt.canLay_of_shaped se) (SeqAt.canLay_of_shaped sd) (room_in_shaped sd hu) ⟨.bl _, H, I, rfl, q⟩
theorem op_inG (hu : X.A.units + 65 < cLine) : OpR X (compareOp .In) (r2b X.K g inD) := by
  intro pins s σ H x y v u Q I rx ry h
  obtain ⟨b, F, S, σ', d1, d2, k, x1, h1, h2, e, q⟩ := h
  unfold inD at e
  split at e
  · cases e
    exact op_in_str pins s σ H x y v u Q I rx ry ⟨_, _, h1.str_, h2.str_, q⟩
  · split at e
    · rename_i hz
      rw [Bool.and_eq_true] at hz
      cases e
      exact op_inD hu pins s σ H x y v u Q I rx ry ⟨_, _, h1.dp x1.ff, h2.dp x1.ff, hz.1, hz.2, q⟩
    · cases e
  · split at e
    · rename_i hz
      rw [Bool.and_eq_true] at hz
      cases e
      exact op_inTG hu pins s σ H x y v u Q I rx ry ⟨_, _, h1.dp x1.ff, h2.dp x1.ff, hz.1, hz.2, q⟩
    · cases e
  · cases e
theorem op_notInG (hu : X.A.units + 65 < cLine) : OpR X (compareOp .NotIn) (r2b X.K g notInD) := by
  intro pins s σ H x y v u Q I rx ry h
  obtain ⟨b, F, S, σ', d1, d2, k, x1, h1, h2, e0, q⟩ := h
  obtain ⟨k', e, rfl⟩ := Option.map_eq_some_iff.mp (show (inD d1 d2).map (!·) = some k from e0)
  clear e0
  unfold inD at e
  split at e
  · cases e
    exact op_notin_str pins s σ H x y v u Q I rx ry ⟨_, _, h1.str_, h2.str_, q⟩
  · split at e
    · rename_i hz
      rw [Bool.and_eq_true] at hz
      cases e
      exact op_notInD hu pins s σ H x y v u Q I rx ry ⟨_, _, h1.dp x1.ff, h2.dp x1.ff, hz.1, hz.2, q⟩
    · cases e
  · split at e
    · rename_i hz
      rw [Bool.and_eq_true] at hz
      cases e
      exact op_notInTG hu pins s σ H x y v u Q I rx ry ⟨_, _, h1.dp x1.ff, h2.dp x1.ff, hz.1, hz.2, q⟩
    · cases e
  · cases e
theorem isNon_ne {d : D} (h : isNon d = false) : d ≠ .none := fun e => by
  rw [e] at h
  cases h
theorem op_ltG (hu : X.A.units + 64 < cLine) : OpR X (compareOp .Lt) (r2b X.K g ltD) := by
  intro pins s σ H x y v u Q I rx ry h
  obtain ⟨b, F, S, σ', d1, d2, k, x1, h1, h2, e, q⟩ := h
  unfold ltD at e
  split at e
  · cases e
    exact op_lt pins s σ H x y v u Q I rx ry ⟨_, _, h1.int_, h2.int_, q⟩
  · split at e
    · rename_i hz
      rw [Bool.and_eq_true, Bool.and_eq_true] at hz
      cases e
      obtain ⟨as, r1⟩ := Dp.reads I d1 x v (h1.dp x1.ff) rx
      obtain ⟨bs, r2⟩ := Dp.reads I d2 y u (h2.dp x1.ff) ry
      have hd := of_decide_eq_true hz.2
      have hn : isNon d1 = false := by simpa using hz.1.2
      exact PySem.W.rcLt_alike d1 d2 X.A s v u as bs r1 r2 hz.1.1 (isNon_ne hn) (by have := Nat.min_le_left d1.depth d2.depth; omega) X.prog X.w X.xe _ ⟨.bl _, H, I, rfl, q⟩
    · cases e
theorem isN_iff {K : PySem.W.Frag} {b : Bs} {F H : Hp} {v : V} {d : D} (h : BRep K b F H v d) : decide (v = .non) = isNon d := by
  rcases h with h | ⟨a, vs, ds, rfl, rfl, _⟩
  · cases h <;> simp [isNon]
  · simp [isNon]
theorem isD_V {K : PySem.W.Frag} {b : Bs} {F H : Hp} {x y : V} {d1 d2 : D} {k : Bool} (h1 : BRep K b F H x d1) (h2 : BRep K b F H y d2) (e : isD d1 d2 = some k) : (y = .non ∧ decide (x = .non) = k) ∨ ∃ a c, x = .bl a ∧ y = .bl c ∧ decide (a = c) = k := by
  cases d2 with
  | none => exact .inl ⟨h2.none_, by rw [isN_iff h1]; cases d1 <;> exact Option.some.inj e⟩
  | bool c =>
    cases d1 with
    | bool a => exact .inr ⟨_, _, h1.bool_, h2.bool_, Option.some.inj e⟩
    | _ => cases e
  | _ => cases d1 <;> cases e
theorem op_cmpD (hu : X.A.units + 65 < cLine) (op : CmpOp) : OpR X (compareOp op) (r2b X.K g (cmpD op)) := by
  cases op with
  | Eq =>
    refine OpR.of2b (op_eqD (by omega)) fun x y H Q b F S σ d1 d2 k x1 h1 h2 e q => ?_
    have e' : (if shp d1 && shp d2 then some (PyData.eqv d1 d2) else none) = some k := e
    split at e'
    · rename_i hz
      rw [Bool.and_eq_true] at hz
      cases e'
      exact ⟨d1, d2, h1.dp x1.ff, h2.dp x1.ff, hz.1, hz.2, q⟩
    · cases e'
  | NotEq =>
    refine OpR.of2b (op_neD (by omega)) fun x y H Q b F S σ d1 d2 k x1 h1 h2 e q => ?_
    have e' : (if shp d1 && shp d2 then some (!PyData.eqv d1 d2) else none) = some k := e
    split at e'
    · rename_i hz
      rw [Bool.and_eq_true] at hz
      cases e'
      exact ⟨d1, d2, h1.dp x1.ff, h2.dp x1.ff, hz.1, hz.2, q⟩
    · cases e'
  | Lt => exact op_ltG (by omega)
  | LtE =>
    refine OpR.of2b op_le fun x y H Q b F S σ d1 d2 k x1 h1 h2 e q => ?_
    cases d1 <;> cases d2 <;> cases e
    exact ⟨_, _, h1.int_, h2.int_, q⟩
  | Gt =>
    refine OpR.of2b op_gt fun x y H Q b F S σ d1 d2 k x1 h1 h2 e q => ?_
    cases d1 <;> cases d2 <;> cases e
    exact ⟨_, _, h1.int_, h2.int_, q⟩
  | GtE =>
    refine OpR.of2b op_ge fun x y H Q b F S σ d1 d2 k x1 h1 h2 e q => ?_
    cases d1 <;> cases d2 <;> cases e
    exact ⟨_, _, h1.int_, h2.int_, q⟩
  | In => exact op_inG hu
  | NotIn => exact op_notInG hu
  | Is =>
    refine OpR.of2b (OpR.or op_isN op_isBl) fun x y H Q b F S σ d1 d2 k x1 h1 h2 e q => ?_
    rcases isD_V h1 h2 e with ⟨e1, e2⟩ | ⟨a, c, e1, e2, e3⟩
    · exact .inl ⟨e1, by rw [e2]; exact q⟩
    · exact .inr ⟨a, c, e1, e2, by rw [e3]; exact q⟩
  | IsNot =>
    refine OpR.of2b (OpR.or op_notN op_notBl) fun x y H Q b F S σ d1 d2 k x1 h1 h2 e q => ?_
    obtain ⟨k', e', rfl⟩ := Option.map_eq_some_iff.mp (show (isD d1 d2).map (!·) = some k from e)
    rcases isD_V h1 h2 e' with ⟨e1, e2⟩ | ⟨a, c, e1, e2, e3⟩
    · exact .inl ⟨e1, by rw [e2]; exact q⟩
    · exact .inr ⟨a, c, e1, e2, by rw [e3]; exact q⟩

/-! ### truth -/
theorem tru_V {b : Bs} {F H : Hp} {S : Sto} {σ : L2.St} {x : V} {d : D} {k : Bool} (x1 : SR X.K g b F S σ H) (h : BRep X.K b F H x d) (e : truD d = some k) : TruV X.K x H k := by
  cases d with
  | none =>
    cases e
    have := h.none_
    subst this
    rfl
  | bool c =>
    cases e
    have := h.bool_
    subst this
    rfl
  | int i =>
    cases e
    have := h.int_
    subst this
    rfl
  | str z =>
    have e' : (if sumOk z.length then some ((z.length : Int) != 0) else none) = some k := e
    split at e'
    · rename_i hz
      cases e'
      have := h.str_
      subst this
      exact ⟨sumOk_le hz, rfl⟩
    · cases e'
  | list ds =>
    cases e
    obtain ⟨a, vs, rfl, s1, k1⟩ := h.list x1.ff
    refine .inl ⟨vs, s1, ?_⟩
    have := dpl_len k1
    cases ds <;> cases vs <;> simp_all
  | tuple ds =>
    cases e
    obtain ⟨a, vs, rfl, s1, _, k1⟩ := h.tuple x1.ff
    refine .inr (.inl ⟨vs, s1, ?_⟩)
    have := dpl_len k1
    cases ds <;> cases vs <;> simp_all
  | dict _ => cases e
theorem un_negD : UnR X (unaryOp .USub) (r1 X.K g negD) := by
  intro pins s σ H x v Q I rx h
  obtain ⟨b, F, S, σ', d1, d, x1, h1, e, q⟩ := h
  cases d1 <;> cases e
  exact un_neg pins s σ H x v Q I rx ⟨_, h1.int_, q _ _ _ x1.base (.int _)⟩

/-! ### subscripts, slices -/
theorem atI_dp {K : PySem.W.Frag} {F : Hp} {vs : List V} {ds : List D} {i : Int} {d : D} (k : DpAll K F vs ds) (e : atI ds i = some d) : ∃ v, atI vs i = some v ∧ Dp K F v d := by
  unfold atI at e ⊢
  rw [dpl_len k]
  cases h : ixN ds.length i with
  | none => rw [h] at e; cases e
  | some j =>
    rw [h] at e
    exact dpl_get k e
theorem ix_D : IxR X (r2 X.K g ixD) := by
  intro value slice pins s σ H x y v u Q I rx ry h hsub
  obtain ⟨b, F, S, σ', d1, d2, d, x1, h1, h2, e, q⟩ := h
  unfold ixD at e
  split at e
  · obtain ⟨a, vs, rfl, s1, k1⟩ := h1.list x1.ff
    obtain ⟨w, e1, e2⟩ := atI_dp k1 e
    exact ix_list value slice pins s σ H _ y v u Q I rx ry ⟨a, vs, _, w, rfl, h2.int_, s1, e1, q _ _ _ x1.base e2⟩ hsub
  · obtain ⟨a, vs, rfl, s1, _, k1⟩ := h1.tuple x1.ff
    obtain ⟨w, e1, e2⟩ := atI_dp k1 e
    exact ix_tup value slice pins s σ H _ y v u Q I rx ry ⟨a, vs, _, w, rfl, h2.int_, s1, e1, q _ _ _ x1.base e2⟩ hsub
  · split at e
    · rename_i hz
      obtain ⟨c, e1, rfl⟩ := Option.map_eq_some_iff.mp e
      exact ix_str value slice pins s σ H x y v u Q I rx ry ⟨_, _, c, h1.str_, h2.int_, sumOk_le hz, e1, q _ _ _ x1.base (.str _)⟩ hsub
    · cases e
  · cases e
def rSl (K : PySem.W.Frag) (g : Gx) : V → Option Int → Option Int → Hp → VK → Prop := fun x lo hi H Q => ∃ (b : Bs) (F : Hp) (S : Sto) (σ : L2.St) (d1 d : D), SR K g b F S σ H ∧ BRep K b F H x d1 ∧ cutD d1 lo hi = some d ∧
  ∀ v F' H', SR K g (b.at F H) F' ⟨[], S.bx⟩ [] H' → Dp K F' v d → Q v H'
theorem cutV_dp {K : PySem.W.Frag} {F : Hp} {vs : List V} {ds : List D} {lo hi : Option Int} (k : DpAll K F vs ds) : DpAll K F (cutV vs lo hi) (cutL ds lo hi) := by
  unfold cutV cutL
  rw [dpl_len k]
  exact dpl_take _ (dpl_drop _ k)
theorem sl_D : SlR X (rSl X.K g) := by
  intro pins s σ H x v vl vu lo hi sl Q I rx hs pl pu h
  obtain ⟨b, F, S, σ', d1, d, x1, h1, e, q⟩ := h
  unfold cutD at e
  split at e
  · cases e
    obtain ⟨a, vs, rfl, s1, k1⟩ := h1.list x1.ff
    refine sl_list pins s σ H _ v vl vu lo hi sl Q I rx hs pl pu ⟨a, vs, rfl, s1, fun p hp => ?_⟩
    obtain ⟨y1, y2⟩ := x1.lst hp (cutV_dp k1)
    exact q _ _ _ y1 y2
  · cases e
    obtain ⟨a, vs, rfl, s1, s1', k1⟩ := h1.tuple x1.ff
    refine sl_tupA pins s σ H _ v vl vu lo hi sl Q I rx hs pl pu ⟨a, vs, rfl, s1, fun z => ?_, fun _ p hp => ?_⟩
    · rename_i ds
      have e2 : cutL ds lo hi = ds := by
        unfold cutL
        rw [← dpl_len k1, z.1, z.2, List.drop_zero, Nat.sub_zero, dpl_len k1, List.take_length]
      rw [e2] at q
      exact q _ _ _ x1.base (.tup s1' k1)
    · obtain ⟨y1, y2⟩ := x1.tup hp (cutV_dp k1)
      exact q _ _ _ y1 y2
  · split at e
    · rename_i hz
      cases e
      exact sl_str pins s σ H x v vl vu lo hi sl Q I rx hs pl pu ⟨_, h1.str_, sumOk_le hz, q _ _ _ x1.base (.str _)⟩
    · cases e
  · cases e

/-! ### built-ins -/
/-- one argument, read -/
def c1 (K : PySem.W.Frag) (g : Gx) (f : D → Option D) : List V → Hp → VK → Prop := fun xs H Q => ∃ (b : Bs) (F : Hp) (S : Sto) (σ : L2.St) (x : V) (d1 d : D), xs = [x] ∧ SR K g b F S σ H ∧ BRep K b F H x d1 ∧ f d1 = some d ∧
  ∀ v F' H', SR K g (b.at F H) F' ⟨[], S.bx⟩ [] H' → Dp K F' v d → Q v H'
def c2 (K : PySem.W.Frag) (g : Gx) (f : D → D → Option D) : List V → Hp → VK → Prop := fun xs H Q => ∃ (b : Bs) (F : Hp) (S : Sto) (σ : L2.St) (x y : V) (d1 d2 d : D), xs = [x, y] ∧ SR K g b F S σ H ∧ BRep K b F H x d1 ∧ BRep K b F H y d2 ∧ f d1 d2 = some d ∧
  ∀ v F' H', SR K g (b.at F H) F' ⟨[], S.bx⟩ [] H' → Dp K F' v d → Q v H'
def lenD : D → Option D
  | .list ds => some (.int ds.length)
  | .tuple ds => some (.int ds.length)
  | .str x => if sumOk x.length then some (.int x.length) else none
  | _ => none
def absD : D → Option D
  | .int i => some (.int (if i < 0 then -i else i))
  | _ => none
def intD : D → Option D
  | .int i => some (.int i)
  | .bool k => some (.int (if k then 1 else 0))
  | _ => none
/-- what all and any ask of an item -/
def truA : D → Option Bool
  | .bool b => some b
  | .int i => some (i != 0)
  | .none => some false
  | .str x => if sumOk x.length then some ((x.length : Int) != 0) else none
  | .list ds => some (!ds.isEmpty)
  | .tuple ds => some (!ds.isEmpty)
  | .dict _ => none
def boolsOf : List D → Option (List Bool)
  | [] => some []
  | d :: r => (truA d).bind fun b => (boolsOf r).map (b :: ·)
def intsOf : List D → Option (List Int)
  | [] => some []
  | .int b :: r => (intsOf r).map (b :: ·)
  | _ :: _ => none
def allD : D → Option D
  | .list ds => (boolsOf ds).map fun bs => .bool (bs.all id)
  | _ => none
def anyD : D → Option D
  | .list ds => (boolsOf ds).map fun bs => .bool (bs.any id)
  | _ => none
def sumD : D → Option D
  | .list ds => (intsOf ds).map fun ns => .int ns.sum
  | .tuple ds => (intsOf ds).map fun ns => .int ns.sum
  | _ => none
def tupleD : D → Option D
  | .list ds => some (.tuple ds)
  | .tuple ds => some (.tuple ds)
  | _ => none
def listD : D → Option D
  | .list ds => some (.list ds)
  | .tuple ds => some (.list ds)
  | _ => none
def max2D : D → D → Option D
  | .int i, .int j => some (.int (if j > i then j else i))
  | _, _ => none
def min2D : D → D → Option D
  | .int i, .int j => some (.int (if j < i then j else i))
  | _, _ => none
def reprD (d : D) : Option D := if d.showable && sumOk d.shown.length && !d.hasDict && decide (d.depth ≤ 64) then some (.str d.shown) else none

theorem truA_V {K : PySem.W.Frag} {F H : Hp} (ff : Same F H) {v : V} {d : D} {k : Bool} (h : Dp K F v d) (e : truA d = some k) : TrV K v H k := by
  cases h with
  | non => cases e; rfl
  | bl _ => cases e; rfl
  | int _ => cases e; rfl
  | str z =>
    have e' : (if sumOk z.length then some ((z.length : Int) != 0) else none) = some k := e
    split at e'
    · rename_i hz
      cases e'
      exact ⟨sumOk_le hz, rfl⟩
    · cases e'
  | lst h1 h2 =>
    cases e
    refine .inl ⟨_, seqL_mono ff h1, ?_⟩
    have := dpl_len h2
    rename_i a xs ds
    cases ds <;> cases xs <;> simp_all
  | tup h1 h2 =>
    cases e
    refine .inr ⟨_, seqT_mono ff h1, ?_⟩
    have := dpl_len h2
    rename_i a xs ds
    cases ds <;> cases xs <;> simp_all
theorem boolsOf_V {K : PySem.W.Frag} {F H : Hp} (ff : Same F H) : ∀ {ds : List D} {vs : List V} {bs : List Bool}, DpAll K F vs ds → boolsOf ds = some bs → TrVs K H vs bs
  | [], _, _, h, e => by
    cases h
    cases e
    exact ⟨rfl, fun i x k e => by simp at e⟩
  | d :: ds, _, bs, h, e => by
    cases h with
    | cons h1 h2 =>
      unfold boolsOf at e
      obtain ⟨b, eb, e⟩ := Option.bind_eq_some_iff.mp e
      obtain ⟨bs', e1, rfl⟩ := Option.map_eq_some_iff.mp e
      obtain ⟨a1, a2⟩ := boolsOf_V ff h2 e1
      refine ⟨by simp [a1], fun i x k e3 e4 => ?_⟩
      cases i with
      | zero =>
        simp at e3 e4
        subst e3 e4
        exact truA_V ff h1 eb
      | succ i => exact a2 i x k (by simpa using e3) (by simpa using e4)
theorem intsOf_V {K : PySem.W.Frag} {F : Hp} : ∀ {ds : List D} {vs : List V} {bs : List Int}, DpAll K F vs ds → intsOf ds = some bs → vs = bs.map V.int
  | [], _, _, h, e => by
    cases h
    cases e
    rfl
  | d :: ds, _, bs, h, e => by
    cases h with
    | cons h1 h2 =>
      cases d with
      | int b =>
        obtain ⟨bs', e1, rfl⟩ := Option.map_eq_some_iff.mp (show (intsOf ds).map (b :: ·) = some bs from e)
        cases h1
        rw [intsOf_V h2 e1]
        rfl
      | _ => cases e
theorem CallR.ofC {f : Value} {r r' : List V → Hp → VK → Prop} (h : CallR X f r) (i : ∀ xs H Q, r' xs H Q → r xs H Q) : CallR X f r' := fun pins s σ H xs us Q I rr q => h pins s σ H xs us Q I rr (i _ _ _ q)
theorem call_lenD : CallR X (.builtin "len") (c1 X.K g lenD) := by
  refine CallR.ofC call_len fun xs H Q h => ?_
  obtain ⟨b, F, S, σ, x, d1, d, rfl, x1, h1, e, q⟩ := h
  cases d1 with
  | list ds =>
    cases e
    obtain ⟨a, vs, rfl, s1, k1⟩ := h1.list x1.ff
    refine ⟨_, _, rfl, .inl ⟨vs, s1, rfl⟩, ?_⟩
    rw [dpl_len k1]
    exact q _ _ _ x1.base (.int _)
  | tuple ds =>
    cases e
    obtain ⟨a, vs, rfl, s1, _, k1⟩ := h1.tuple x1.ff
    refine ⟨_, _, rfl, .inr ⟨vs, s1, rfl⟩, ?_⟩
    rw [dpl_len k1]
    exact q _ _ _ x1.base (.int _)
  | str z =>
    have e' : (if sumOk z.length then some (PyData.int z.length) else none) = some d := e
    split at e'
    · rename_i hz
      cases e'
      have := h1.str_
      subst this
      exact ⟨_, _, rfl, ⟨sumOk_le hz, rfl⟩, q _ _ _ x1.base (.int _)⟩
    · cases e'
  | _ => cases e
theorem call_absD : CallR X (.builtin "abs") (c1 X.K g absD) := by
  refine CallR.ofC call_abs fun xs H Q h => ?_
  obtain ⟨b, F, S, σ, x, d1, d, rfl, x1, h1, e, q⟩ := h
  cases d1 <;> cases e
  have := h1.int_
  subst this
  exact ⟨_, rfl, q _ _ _ x1.base (.int _)⟩
theorem call_intD : CallR X (.type "int") (c1 X.K g intD) := by
  refine CallR.ofC call_int1 fun xs H Q h => ?_
  obtain ⟨b, F, S, σ, x, d1, d, rfl, x1, h1, e, q⟩ := h
  cases d1 <;> cases e
  · have := h1.bool_
    subst this
    exact .inr ⟨_, rfl, q _ _ _ x1.base (.int _)⟩
  · have := h1.int_
    subst this
    exact .inl ⟨_, rfl, q _ _ _ x1.base (.int _)⟩
theorem call_allD (hc : X.calm = true) : CallR X (.builtin "all") (c1 X.K g allD) := by
  refine CallR.ofC (cr_allV hc) fun xs H Q h => ?_
  obtain ⟨b, F, S, σ, x, d1, d, rfl, x1, h1, e, q⟩ := h
  cases d1 with
  | list ds =>
    obtain ⟨bs, e1, rfl⟩ := Option.map_eq_some_iff.mp (show (boolsOf ds).map (fun bs => PyData.bool (bs.all id)) = some d from e)
    obtain ⟨a, vs, rfl, s1, k1⟩ := h1.list x1.ff
    exact ⟨a, vs, bs, rfl, s1, boolsOf_V x1.ff k1 e1, q _ _ _ x1.base (.bl _)⟩
  | _ => cases e
theorem call_anyD (hc : X.calm = true) : CallR X (.builtin "any") (c1 X.K g anyD) := by
  refine CallR.ofC (cr_anyV hc) fun xs H Q h => ?_
  obtain ⟨b, F, S, σ, x, d1, d, rfl, x1, h1, e, q⟩ := h
  cases d1 with
  | list ds =>
    obtain ⟨bs, e1, rfl⟩ := Option.map_eq_some_iff.mp (show (boolsOf ds).map (fun bs => PyData.bool (bs.any id)) = some d from e)
    obtain ⟨a, vs, rfl, s1, k1⟩ := h1.list x1.ff
    exact ⟨a, vs, bs, rfl, s1, boolsOf_V x1.ff k1 e1, q _ _ _ x1.base (.bl _)⟩
  | _ => cases e
/-- sum(xs) of a tuple of ints -/
def rSumT (K : PySem.W.Frag) : List V → Hp → VK → Prop := fun vs H Q => ∃ (a : Addr) (ns : List Int), vs = [V.ref a] ∧ SqT K H a (ns.map V.int) ∧ Q (.int ns.sum) H
theorem cr_sumT (hc : X.calm = true) : CallR X (.builtin "sum") (rSumT X.K) := by
  intro pins s σ H vs us Q I r h
  obtain ⟨a, ns, rfl, hs, q⟩ := h
  obtain ⟨its, rv, hl, _⟩ := I.tuple hs
  rw [Vals.ref1 r]
  have hi := rv.ints
  obtain ⟨xs, e⟩ := hi.allInts.items
  have hn : numsOf (intItems xs).toList = ns := by rw [← e]; exact hi.numsOf
  rw [nums_intItems] at hn
  rw [e] at hl
  refine PySem.W.ktm_sumG (I.ok.hd hc) hl fun h' tk t' hk => ?_
  rw [preSum_eq, List.take_of_length_le (by simp), hn]
  exact ⟨.int _, H, I.kept hk, ⟨_, rfl⟩, q⟩
theorem call_sumD (hc : X.calm = true) : CallR X (.builtin "sum") (c1 X.K g sumD) := by
  refine CallR.ofC (r := fun xs H Q => rSum X.K xs H Q ∨ rSumT X.K xs H Q) (fun pins s σ H vs us Q I r h => h.elim (cr_sum hc pins s σ H vs us Q I r) (cr_sumT hc pins s σ H vs us Q I r)) fun xs H Q h => ?_
  obtain ⟨b, F, S, σ, x, d1, d, rfl, x1, h1, e, q⟩ := h
  cases d1 with
  | list ds =>
    obtain ⟨bs, e1, rfl⟩ := Option.map_eq_some_iff.mp (show (intsOf ds).map (fun bs => PyData.int bs.sum) = some d from e)
    obtain ⟨a, vs, rfl, s1, k1⟩ := h1.list x1.ff
    have := intsOf_V k1 e1
    subst this
    exact .inl ⟨a, bs, rfl, s1, q _ _ _ x1.base (.int _)⟩
  | tuple ds =>
    obtain ⟨bs, e1, rfl⟩ := Option.map_eq_some_iff.mp (show (intsOf ds).map (fun bs => PyData.int bs.sum) = some d from e)
    obtain ⟨a, vs, rfl, s1, _, k1⟩ := h1.tuple x1.ff
    have := intsOf_V k1 e1
    subst this
    exact .inr ⟨a, bs, rfl, s1, q _ _ _ x1.base (.int _)⟩
  | _ => cases e
theorem call_tupleD : CallR X (.type "tuple") (c1 X.K g tupleD) := by
  refine CallR.ofC call_tuple_of fun xs H Q h => ?_
  obtain ⟨b, F, S, σ, x, d1, d, rfl, x1, h1, e, q⟩ := h
  cases d1 with
  | list ds =>
    cases e
    obtain ⟨a, vs, rfl, s1, k1⟩ := h1.list x1.ff
    refine ⟨a, vs, rfl, .inl ⟨s1, fun l hl => ?_⟩⟩
    obtain ⟨y1, y2⟩ := x1.tup hl k1
    exact q _ _ _ y1 y2
  | tuple ds =>
    cases e
    obtain ⟨a, vs, rfl, s1, s1', k1⟩ := h1.tuple x1.ff
    exact ⟨a, vs, rfl, .inr ⟨s1, q _ _ _ x1.base (.tup s1' k1)⟩⟩
  | _ => cases e
theorem call_listD : CallR X (.type "list") (c1 X.K g listD) := by
  refine CallR.ofC call_list_of fun xs H Q h => ?_
  obtain ⟨b, F, S, σ, x, d1, d, rfl, x1, h1, e, q⟩ := h
  cases d1 with
  | list ds =>
    cases e
    obtain ⟨a, vs, rfl, s1, k1⟩ := h1.list x1.ff
    refine ⟨a, vs, rfl, .inl s1, fun l hl => ?_⟩
    obtain ⟨y1, y2⟩ := x1.lst hl k1
    exact q _ _ _ y1 y2
  | tuple ds =>
    cases e
    obtain ⟨a, vs, rfl, s1, s1', k1⟩ := h1.tuple x1.ff
    refine ⟨a, vs, rfl, .inr s1, fun l hl => ?_⟩
    obtain ⟨y1, y2⟩ := x1.lst hl k1
    exact q _ _ _ y1 y2
  | _ => cases e
theorem call_max2D (hc : X.calm = true) : CallR X (.builtin "max") (c2 X.K g max2D) := by
  refine CallR.ofC (call_max2 hc) fun xs H Q h => ?_
  obtain ⟨b, F, S, σ, x, y, d1, d2, d, rfl, x1, h1, h2, e, q⟩ := h
  cases d1 <;> cases d2 <;> cases e
  have := h1.int_
  subst this
  have := h2.int_
  subst this
  exact ⟨_, _, rfl, q _ _ _ x1.base (.int _)⟩
theorem call_min2D (hc : X.calm = true) : CallR X (.builtin "min") (c2 X.K g min2D) := by
  refine CallR.ofC (call_min2 hc) fun xs H Q h => ?_
  obtain ⟨b, F, S, σ, x, y, d1, d2, d, rfl, x1, h1, h2, e, q⟩ := h
  cases d1 <;> cases d2 <;> cases e
  have := h1.int_
  subst this
  have := h2.int_
  subst this
  exact ⟨_, _, rfl, q _ _ _ x1.base (.int _)⟩
theorem call_reprD (hg : X.A.guards = some []) (hu : X.A.units + 66 < cLine) : CallR X (.builtin "repr") (c1 X.K g reprD) := by
  intro pins s σ H xs us Q I rr h
  obtain ⟨b, F, S, σ', x, d1, d, rfl, x1, h1, e, q⟩ := h
  unfold reprD at e
  split at e
  · rename_i hz
    cases e
    rw [Bool.and_eq_true, Bool.and_eq_true, Bool.and_eq_true] at hz
    obtain ⟨⟨⟨z1, z2⟩, z3⟩, z4⟩ := hz
    have z4 := of_decide_eq_true z4
    have z3 : d1.hasDict = false := by simpa using z3
    have z2 := sumOk_le z2
    obtain ⟨u, rfl, rx⟩ := vals1 rr
    have hq := q _ _ _ x1.base (.str d1.shown)
    have hd := h1.dp x1.ff
    obtain ⟨as, r⟩ := Dp.reads I d1 x u hd rx
    cases d1 with
    | none =>
      cases r
      exact PySem.P.repr_of_none ⟨.str _, H, I.tok _, ⟨_, rfl⟩, by simpa only [PyData.shown] using hq⟩
    | bool c =>
      cases r
      exact PySem.P.repr_of_bool ⟨.str _, H, I.tok _, ⟨_, rfl⟩, by
        simp only [PyData.shown] at hq
        have e : ((if c then "True" else "False" : String) : Str) = (if c then ("True" : Str) else ("False" : Str)) := by cases c <;> rfl
        first | (rw [e]; exact hq) | exact hq⟩
    | int i =>
      cases r
      have z5 : i.natAbs.log2 < 1920 := by simpa [PyData.showable] using z1
      exact PySem.P.repr_of_int z5 ⟨.str _, H, I.tok _, ⟨_, rfl⟩, by simpa only [PyData.shown] using hq⟩
    | str z =>
      cases r
      simp only [PyData.shown] at z2 hq
      exact PySem.P.repr_of_str ⟨.str _, H, I.tok _, ⟨_, rfl⟩, hq⟩ z2
    | list ds =>
      cases hd with
      | lst s1 k1 =>
        cases rx
        exact PySem.repr_of_reads' r z1 (fun e => by rw [z3] at e; cases e) hg (by omega) (fun _ _ e => e) (fun h' u tk k => ⟨.str _, H, I.kept k, ⟨_, rfl⟩, hq⟩) z2
    | tuple ds =>
      cases hd with
      | tup s1 k1 =>
        cases rx
        exact PySem.repr_of_reads' r z1 (fun e => by rw [z3] at e; cases e) hg (by omega) (fun _ _ e => e) (fun h' u tk k => ⟨.str _, H, I.kept k, ⟨_, rfl⟩, hq⟩) z2
    | dict _ => cases hd
  · cases e
end
end Gl

set_option maxRecDepth 100000
set_option maxHeartbeats 1000000
/-! The general layer, part C: plain functions over the state, what they promise of an expression. -/
namespace Gl
open PySem PySem.Spec PyProof.Rows L2

def R.bind {α β : Type} : R α → (α → Sto → R β) → R β
  | .ok a s, k => k a s
  | .exc c d b, _ => .exc c d b
  | .stuck, _ => .stuck
abbrev M (α : Type) := Sto → R α
def M.bind {α β : Type} (m : M α) (k : α → M β) : M β := fun S => (m S).bind k
def ofO {α : Type} : Option α → M α
  | some a => fun S => .ok a S
  | none => fun _ => .stuck
def mC {α : Type} (a : α) : M α := fun S => .ok a S

abbrev Rp (α β : Type) := Bs → Hp → Hp → β → α → Prop
def ExcP (K : PySem.W.Frag) (g : Gx) (W : WX) (σ : L2.St) (b : Bs) (c : Nat) (d : D) (bx' : Bx) : Prop :=
  ∀ (a C : Addr) (f : Str) (v : V) (F' H' : Hp), g.cl c = some (C, f) → SR K g b F' ⟨[], bx'⟩ [] H' → H' a = some (.xd [(f, v)]) → Dp K F' v d → W (.ref C) (some a) σ H'
def PostG {α β : Type} (K : PySem.W.Frag) (g : Gx) (W : WX) (σ : L2.St) (b : Bs) (F H : Hp) (rep : Rp α β) (Q : β → Hp → Prop) : R α → Prop
  | .ok a S' => ∀ (v : β) (F' H' : Hp), SR K g b F' S' σ H' → Same F F' → Fr b H H' → rep b F' H' v a → Q v H'
  | .exc c d bx' => ExcP K g W σ b c d bx'
  | .stuck => False
def tG {α β : Type} (K : PySem.W.Frag) (g : Gx) (W : WX) (rep : Rp α β) (m : M α) : L2.St → Hp → (β → Hp → Prop) → Prop :=
  fun σ H Q => ∃ (b : Bs) (F : Hp) (S : Sto), SR K g b F S σ H ∧ PostG K g W σ b F H rep Q (m S)
def repE (K : PySem.W.Frag) : Rp D V := fun _ F _ v d => Dp K F v d
def repB (K : PySem.W.Frag) : Rp D V := fun b F H v d => BRep K b F H v d
def repT : Rp Bool Bool := fun _ _ _ k k' => k = k'
def repL {α : Type} (rep : Rp α V) : Rp (List α) (List V) := fun b F H vs as => vs.length = as.length ∧ ∀ (i : Nat) v a, vs[i]? = some v → as[i]? = some a → rep b F H v a
def repA (K : PySem.W.Frag) : Rp Arg V := fun b F _ v a => match a with
  | .d x => Dp K F v x
  | .box => b.hb = true ∧ v = .ref b.B
/-- the reading stays true when the frozen part and the heap grow -/
def Mono {α β : Type} (rep : Rp α β) : Prop := ∀ (b : Bs) (F F' H H' : Hp) v a, Same F F' → Fr b H H' → rep b F H v a → rep b F' H' v a
theorem mono_E (K : PySem.W.Frag) : Mono (repE K) := fun _ _ _ _ _ _ _ s _ h => dp_mono s _ _ h
theorem brep_mono {K : PySem.W.Frag} {b : Bs} {F F' H H' : Hp} {v : V} {d : D} (s : Same F F') (f : Fr b H H') (h : BRep K b F H v d) : BRep K b F' H' v d := by
  rcases h with h | ⟨a, vs, ds, rfl, rfl, nb, h1, h2⟩
  · exact .inl (dp_mono s _ _ h)
  · exact .inr ⟨a, vs, ds, rfl, rfl, nb, f a _ h1 nb (lst_nt vs), dpAll_mono s _ _ h2⟩
theorem mono_B (K : PySem.W.Frag) : Mono (repB K) := fun _ _ _ _ _ _ _ s f h => brep_mono s f h
theorem mono_A (K : PySem.W.Frag) : Mono (repA K) := fun b F F' H H' v a s f h => by
  cases a with
  | d x => exact dp_mono s _ _ h
  | box => exact h
theorem mono_L {α : Type} {rep : Rp α V} (m : Mono rep) : Mono (repL rep) := fun b F F' H H' vs as s f h => ⟨h.1, fun i v a e1 e2 => m b F F' H H' v a s f (h.2 i v a e1 e2)⟩
theorem repL_dpAll {K : PySem.W.Frag} {b : Bs} {F H : Hp} : ∀ {ds : List D} {vs : List V}, repL (repE K) b F H vs ds → DpAll K F vs ds
  | [], [], _ => .nil
  | [], _ :: _, h => by cases h.1
  | _ :: _, [], h => by cases h.1
  | d :: ds, v :: vs, h => .cons (h.2 0 v d rfl rfl) (repL_dpAll ⟨by simpa using h.1, fun i w a e1 e2 => h.2 (i + 1) w a (by simpa using e1) (by simpa using e2)⟩)

section
variable {α β α' β' : Type} {K : PySem.W.Frag} {g : Gx} {W : WX} {σ : L2.St} {b : Bs} {F F1 H H1 : Hp} {S : Sto} {rep1 : Rp α β} {rep2 : Rp α' β'} {Q : β' → Hp → Prop} {T : β → Hp → Prop}
theorem PostG.shift {r : R α'} (h : PostG K g W σ b F H rep2 Q r) (s : Same F F1) (f : Fr b H H1) : PostG K g W σ b F1 H1 rep2 Q r := by
  cases r with
  | ok a S' => exact fun v F' H' x s' f' r => h v F' H' x (s.trans s') (f.trans f') r
  | exc c d bx' => exact h
  | stuck => exact h
theorem bindP {m : M α} {k : α → Sto → R α'} (x : SR K g b F S σ H) (h : PostG K g W σ b F H rep2 Q ((m S).bind k))
    (hT : ∀ (a : α) (S1 : Sto) (v : β) (F1 H1 : Hp), SR K g b F1 S1 σ H1 → Same F F1 → Fr b H H1 → rep1 b F1 H1 v a → PostG K g W σ b F1 H1 rep2 Q (k a S1) → T v H1) : tG K g W rep1 m σ H T := by
  refine ⟨b, F, S, x, ?_⟩
  cases e : m S with
  | stuck => rw [e] at h; exact h
  | exc c d bx' => rw [e] at h; exact h
  | ok a S1 =>
    rw [e] at h
    exact fun v F1 H1 x1 s1 f1 r1 => hT a S1 v F1 H1 x1 s1 f1 r1 (PostG.shift (show PostG K g W σ b F H rep2 Q (k a S1) from h) s1 f1)
/-- the last one: an operation that gives an answer -/
theorem ofO_post {o : Option α'} (h : PostG K g W σ b F H rep2 Q (ofO o S)) : ∃ a, o = some a ∧ PostG K g W σ b F H rep2 Q (.ok a S) := by
  cases o with
  | none => exact h.elim
  | some a => exact ⟨a, rfl, h⟩
end
section
variable {X : Cx}
theorem PE.of {e : Expr} {t t' : TE} (h : PE X e t) (i : ∀ σ H Q, t' σ H Q → t σ H Q) : PE X e t' := ⟨fun pins s σ H Q I q => h.run pins s σ H Q I (i σ H Q q)⟩
theorem PT.of {e : Expr} {t t' : TT} (h : PT X e t) (i : ∀ σ H Q, t' σ H Q → t σ H Q) : PT X e t' := ⟨fun pins s σ H Q I q => h.run pins s σ H Q I (i σ H Q q)⟩
theorem PW.of {e : Expr} {t t' : TT} (h : PW X e t) (i : ∀ σ H Q, t' σ H Q → t σ H Q) : PW X e t' := ⟨fun wh pins s σ H Q I q => h.run wh pins s σ H Q I (i σ H Q q)⟩
theorem PA.of {e : List Expr} {t t' : TA} (h : PA X e t) (i : ∀ σ H Q, t' σ H Q → t σ H Q) : PA X e t' := ⟨fun p pins s σ H Q I q => h.run p pins s σ H Q I (i σ H Q q)⟩
theorem PS.of {e : Stmt} {t t' : TS} (h : PS X e t) (i : ∀ D σ H, t' D σ H → t D σ H) : PS X e t' := ⟨fun pins s σ H D I q => h.run pins s σ H D I (i D σ H q)⟩
theorem PSs.of {e : List Stmt} {t t' : TS} (h : PSs X e t) (i : ∀ D σ H, t' D σ H → t D σ H) : PSs X e t' := ⟨fun pins s σ H D I q => h.run pins s σ H D I (i D σ H q)⟩
end
abbrev JE (X : Cx) (g : Gx) (W : WX) (e : Expr) (m : M D) : Prop := PE X e (tG X.K g W (repE X.K) m)
abbrev JB (X : Cx) (g : Gx) (W : WX) (e : Expr) (m : M D) : Prop := PE X e (tG X.K g W (repB X.K) m)
abbrev JT (X : Cx) (g : Gx) (W : WX) (e : Expr) (m : M Bool) : Prop := PT X e (tG X.K g W repT m)
abbrev JW (X : Cx) (g : Gx) (W : WX) (e : Expr) (m : M Bool) : Prop := PW X e (tG X.K g W repT m)

/-! ### the plain functions -/
def mVar (i : Nat) : M D := fun S => match S.sl[i]? with
  | some (.sh d) => .ok d S
  | some (.ow d) => .ok d (share S i d)
  | _ => .stuck
def mPeek (i : Nat) : M D := fun S => match S.sl[i]? with
  | some (.sh d) => .ok d S
  | some (.ow d) => .ok d S
  | _ => .stuck
def mArgV (i : Nat) : M Arg := fun S => match S.sl[i]? with
  | some (.sh d) => .ok (.d d) S
  | some (.ow d) => .ok (.d d) (share S i d)
  | some .bx => .ok .box S
  | _ => .stuck
def mArgE (m : M D) : M Arg := m.bind fun d => mC (.d d)
def mOp2 (f : D → D → Option D) (ma mb : M D) : M D := ma.bind fun x => mb.bind fun y => ofO (f x y)
def mOp1 (f : D → Option D) (ma : M D) : M D := ma.bind fun x => ofO (f x)
def mCmp (f : D → D → Option Bool) (ma mb : M D) : M Bool := ma.bind fun x => mb.bind fun y => ofO (f x y)
def mBl (m : M Bool) : M D := m.bind fun k => mC (.bool k)
def mChain (f f' : D → D → Option Bool) (ma mb mc : M D) : M Bool := ma.bind fun x => mb.bind fun y => (ofO (f x y)).bind fun k => if k then mc.bind fun z => ofO (f' y z) else mC false
def mTru (m : M D) : M Bool := m.bind fun x => ofO (truD x)
def mAndV (ma mb : M D) : M D := ma.bind fun x => (ofO (truD x)).bind fun k => if k then mb else mC x
def mOrV (ma mb : M D) : M D := ma.bind fun x => (ofO (truD x)).bind fun k => if k then mC x else mb
def mNotV (ma : M D) : M D := ma.bind fun x => (ofO (truD x)).bind fun k => mC (.bool (!k))
def mAndT (ma mb : M Bool) : M Bool := ma.bind fun k => if k then mb else mC false
def mOrT (ma mb : M Bool) : M Bool := ma.bind fun k => if k then mC true else mb
def mNotT (ma : M Bool) : M Bool := ma.bind fun k => mC (!k)
def mIf {α : Type} (c : M Bool) (ma mb : M α) : M α := c.bind fun k => if k then ma else mb
def mSeq {α : Type} : List (M α) → M (List α)
  | [] => mC []
  | m :: ms => m.bind fun a => (mSeq ms).bind fun as => mC (a :: as)
def mTup (ms : List (M D)) : M D := (mSeq ms).bind fun ds => if sumOk ds.length then mC (.tuple ds) else fun _ => .stuck
def mLst (ms : List (M D)) : M D := (mSeq ms).bind fun ds => if sumOk ds.length then mC (.list ds) else fun _ => .stuck
def mCut (m : M D) (lo hi : M (Option Int)) : M D := m.bind fun x => lo.bind fun l => hi.bind fun h => ofO (cutD x l h)
def mPart (m : M D) : M (Option Int) := m.bind fun x => match x with
  | .int i => mC (some i)
  | _ => fun _ => .stuck

section
variable {X : Cx} {g : Gx} {W : WX}
theorem jb_of {e : Expr} {m : M D} (h : JE X g W e m) : JB X g W e m := PE.of h fun σ H Q ⟨b, F, S, x, q⟩ => ⟨b, F, S, x, by
  cases z : m S with
  | ok a S' => rw [z] at q; exact fun v F' H' x' s f r => q v F' H' x' s f (.inl r)
  | exc c d bx' => rw [z] at q; exact q
  | stuck => rw [z] at q; exact q⟩
theorem mVar_ok {i : Nat} {σ : L2.St} {H : Hp} {Q : VK} (h : tG X.K g W (repE X.K) (mVar i) σ H Q) : tVar i σ H Q := by
  obtain ⟨b, F, S, x, q⟩ := h
  unfold mVar at q
  split at q
  · rename_i d e
    obtain ⟨v, e1, h1⟩ := x.get e
    exact ⟨v, e1, q v F H x (Same.refl _) (Fr.refl _ _) h1⟩
  · rename_i d e
    obtain ⟨a, e1, h1⟩ := x.getO e
    obtain ⟨vs, hv⟩ := own_ne_nt h1
    obtain ⟨x2, s2, d2⟩ := x.share e e1 h1 hv
    exact ⟨_, e1, q _ _ H x2 s2 (Fr.refl _ _) d2⟩
  · exact q.elim
theorem je_var {i : Nat} {x : Str} {pos : Pos} (h : PE X (.Name x pos) (tVar i)) : JE X g W (.Name x pos) (mVar i) := PE.of h fun _ _ _ => mVar_ok
theorem jb_peek {i : Nat} {x : Str} {pos : Pos} (h : PE X (.Name x pos) (tVar i)) : JB X g W (.Name x pos) (mPeek i) := PE.of h fun σ H Q ⟨b, F, S, x, q⟩ => by
  unfold mPeek at q
  split at q
  · rename_i d e
    obtain ⟨v, e1, h1⟩ := x.get e
    exact ⟨v, e1, q v F H x (Same.refl _) (Fr.refl _ _) (.inl h1)⟩
  · rename_i d e
    obtain ⟨a, e1, _, _, nb, vs, ds, e2, e3, e4⟩ := x.getO e
    exact ⟨_, e1, q _ F H x (Same.refl _) (Fr.refl _ _) (.inr ⟨a, vs, ds, rfl, e2, nb, e3, e4⟩)⟩
  · exact q.elim
theorem ja_var {i : Nat} {x : Str} {pos : Pos} (h : PE X (.Name x pos) (tVar i)) : PE X (.Name x pos) (tG X.K g W (repA X.K) (mArgV i)) := PE.of h fun σ H Q ⟨b, F, S, x, q⟩ => by
  unfold mArgV at q
  split at q
  · rename_i d e
    obtain ⟨v, e1, h1⟩ := x.get e
    exact ⟨v, e1, q v F H x (Same.refl _) (Fr.refl _ _) h1⟩
  · rename_i d e
    obtain ⟨a, e1, h1⟩ := x.getO e
    obtain ⟨vs, hv⟩ := own_ne_nt h1
    obtain ⟨x2, s2, d2⟩ := x.share e e1 h1 hv
    exact ⟨_, e1, q _ _ H x2 s2 (Fr.refl _ _) d2⟩
  · rename_i e
    obtain ⟨e1, e2⟩ := x.getB e
    exact ⟨_, e2, q _ F H x (Same.refl _) (Fr.refl _ _) ⟨e1, rfl⟩⟩
  · exact q.elim
theorem ja_of {e : Expr} {m : M D} (h : JE X g W e m) : PE X e (tG X.K g W (repA X.K) (mArgE m)) := PE.of h fun σ H Q ⟨b, F, S, x, q⟩ =>
  bindP x q fun a S1 v F1 H1 x1 s1 f1 r1 q1 => q1 v F1 H1 x1 (Same.refl _) (Fr.refl _ _) r1
theorem je_const {e : Expr} {v : V} {d : D} (h : PE X e (tC v)) (r : ∀ F, Dp X.K F v d) : JE X g W e (mC d) := PE.of h fun σ H Q ⟨b, F, S, x, q⟩ => q v F H x (Same.refl _) (Fr.refl _ _) (r F)
theorem je_op2 {a c : Expr} {op : Operator} {pos : Pos} {ma mb : M D} (ha : JB X g W a ma) (hb : JB X g W c mb) : JE X g W (.BinOp a op c pos) (mOp2 (binD op) ma mb) :=
  PE.of (pe_op (op_binD (g := g) op) ha hb) fun σ H Q ⟨b, F, S, x, q⟩ => bindP x q fun d1 S1 v F1 H1 x1 s1 f1 r1 q1 => bindP x1 q1 fun d2 S2 u F2 H2 x2 s2 f2 r2 q2 => by
    obtain ⟨d, e, q3⟩ := ofO_post q2
    exact ⟨b, F2, S2, σ, d1, d2, d, x2, brep_mono s2 f2 r1, r2, e, fun w F' H' y1 y2 => q3 w F' H' (x2.call y1) y1.f0 y1.ext y2⟩
theorem je_neg {a : Expr} {pos : Pos} {ma : M D} (ha : JB X g W a ma) : JE X g W (.UnaryOp .USub a pos) (mOp1 negD ma) :=
  PE.of (pe_un (un_negD (g := g)) ha) fun σ H Q ⟨b, F, S, x, q⟩ => bindP x q fun d1 S1 v F1 H1 x1 s1 f1 r1 q1 => by
    obtain ⟨d, e, q3⟩ := ofO_post q1
    exact ⟨b, F1, S1, σ, d1, d, x1, r1, e, fun w F' H' y1 y2 => q3 w F' H' (x1.call y1) y1.f0 y1.ext y2⟩
/-- a comparison, as a value and as a test -/
theorem cmp_read {f : D → D → Option Bool} {ma mb : M D} {σ : L2.St} {H : Hp} {Q : Bool → Hp → Prop} {T : VK} (hT : ∀ k H', Q k H' → T (.bl k) H') (h : tG X.K g W repT (mCmp f ma mb) σ H Q) :
    tOp (r2b X.K g f) (tG X.K g W (repB X.K) ma) (tG X.K g W (repB X.K) mb) σ H T := by
  obtain ⟨b, F, S, x, q⟩ := h
  exact bindP x q fun d1 S1 v F1 H1 x1 s1 f1 r1 q1 => bindP x1 q1 fun d2 S2 u F2 H2 x2 s2 f2 r2 q2 => by
    obtain ⟨k, e, q3⟩ := ofO_post q2
    exact ⟨b, F2, S2, σ, d1, d2, k, x2, brep_mono s2 f2 r1, r2, e, hT _ _ (q3 k F2 H2 x2 (Same.refl _) (Fr.refl _ _) rfl)⟩
theorem mBl_read {m : M Bool} {σ : L2.St} {H : Hp} {Q : VK} (h : tG X.K g W (repE X.K) (mBl m) σ H Q) : tG X.K g W repT m σ H fun k H' => Q (.bl k) H' := by
  obtain ⟨b, F, S, x, q⟩ := h
  exact bindP x q fun k S1 v F1 H1 x1 s1 f1 r1 q1 => by
    cases (show v = k from r1)
    exact q1 (.bl k) F1 H1 x1 (Same.refl _) (Fr.refl _ _) (.bl k)
theorem jt_cmp {a c : Expr} {op : CmpOp} {pos : Pos} {ma mb : M D} (hu : X.A.units + 65 < cLine) (ha : JB X g W a ma) (hb : JB X g W c mb) (hm : behindInMarks op c = false) : JT X g W (.Compare a [op] [c] pos) (mCmp (cmpD op) ma mb) :=
  PT.of (pt_cmpR (op_cmpD (g := g) hu op) ha hb hm) fun σ H Q h => cmp_read (fun k H' q => ⟨k, rfl, q⟩) h
theorem je_cmp {a c : Expr} {op : CmpOp} {pos : Pos} {ma mb : M D} (hu : X.A.units + 65 < cLine) (ha : JB X g W a ma) (hb : JB X g W c mb) (hm : behindInMarks op c = false) : JE X g W (.Compare a [op] [c] pos) (mBl (mCmp (cmpD op) ma mb)) :=
  PE.of (pe_cmpR (op_cmpD (g := g) hu op) ha hb hm) fun σ H Q h => cmp_read (fun k H' q => q) (mBl_read h)
theorem chain_read {f f' : D → D → Option Bool} {ma mb mc : M D} {σ : L2.St} {H : Hp} {Q : Bool → Hp → Prop} {T : VK} (hT : ∀ k H', Q k H' → T (.bl k) H') (h : tG X.K g W repT (mChain f f' ma mb mc) σ H Q) :
    tChain (r2b X.K g f) (r2b X.K g f') (tG X.K g W (repB X.K) ma) (tG X.K g W (repB X.K) mb) (tG X.K g W (repB X.K) mc) σ H T := by
  obtain ⟨b, F, S, x, q⟩ := h
  refine bindP x q fun d1 S1 v F1 H1 x1 s1 f1 r1 q1 => bindP x1 q1 fun d2 S2 u F2 H2 x2 s2 f2 r2 q2 => ?_
  cases e : f d1 d2 with
  | none => rw [e] at q2; exact q2.elim
  | some k =>
    rw [e] at q2
    refine ⟨b, F2, S2, σ, d1, d2, k, x2, brep_mono s2 f2 r1, r2, e, k, rfl, ?_⟩
    cases k with
    | false => exact iteF (hT _ _ (q2 false F2 H2 x2 (Same.refl _) (Fr.refl _ _) rfl))
    | true =>
      refine iteT (bindP x2 (show PostG X.K g W σ b F2 H2 repT Q ((mc S2).bind fun z => ofO (f' d2 z)) from q2) fun d3 S3 w F3 H3 x3 s3 f3 r3 q3 => ?_)
      obtain ⟨k', e', q4⟩ := ofO_post q3
      exact ⟨b, F3, S3, σ, d2, d3, k', x3, brep_mono s3 f3 r2, r3, e', hT _ _ (q4 k' F3 H3 x3 (Same.refl _) (Fr.refl _ _) rfl)⟩
theorem jt_chain {a c e : Expr} {op op' : CmpOp} {pos : Pos} {ma mb mc : M D} (hu : X.A.units + 65 < cLine) (ha : JB X g W a ma) (hb : JB X g W c mb) (hc : JB X g W e mc) (hm : lastMarks [op, op'] [c, e] = false) :
    JT X g W (.Compare a [op, op'] [c, e] pos) (mChain (cmpD op) (cmpD op') ma mb mc) :=
  PT.of (pt_chain (op_cmpD (g := g) hu op) (op_cmpD (g := g) hu op') ha hb hc hm) fun σ H Q h => chain_read (fun k H' q => ⟨k, rfl, q⟩) h
theorem je_chain {a c e : Expr} {op op' : CmpOp} {pos : Pos} {ma mb mc : M D} (hu : X.A.units + 65 < cLine) (ha : JB X g W a ma) (hb : JB X g W c mb) (hc : JB X g W e mc) (hm : lastMarks [op, op'] [c, e] = false) :
    JE X g W (.Compare a [op, op'] [c, e] pos) (mBl (mChain (cmpD op) (cmpD op') ma mb mc)) :=
  PE.of (pe_chain (op_cmpD (g := g) hu op) (op_cmpD (g := g) hu op') ha hb hc hm) fun σ H Q h => chain_read (fun k H' q => q) (mBl_read h)
/-! truth -/
theorem jt_tru {a : Expr} {ma : M D} (ha : JB X g W a ma) (he : ∀ whole, isTrue a X.env whole = (do let v ← whole; standAt a.pos; holding [v] (truthy v))) : JT X g W a (mTru ma) :=
  PT.of (pt_truth ha he) fun σ H Q ⟨b, F, S, x, q⟩ => bindP x q fun d S1 v F1 H1 x1 s1 f1 r1 q1 => by
    obtain ⟨k, e, q3⟩ := ofO_post q1
    exact ⟨k, tru_V x1 r1 e, q3 k F1 H1 x1 (Same.refl _) (Fr.refl _ _) rfl⟩
theorem je_andV {a c : Expr} {rest : List Expr} {pos : Pos} {ma mb : M D} (ha : JE X g W a ma) (hb : JE X g W (.BoolOp .And (c :: rest) pos) mb) : JE X g W (.BoolOp .And (a :: c :: rest) pos) (mAndV ma mb) :=
  PE.of (pe_andT ha hb) fun σ H Q ⟨b, F, S, x, q⟩ => bindP x q fun d S1 v F1 H1 x1 s1 f1 r1 q1 => by
    cases e : truD d with
    | none => rw [e] at q1; exact q1.elim
    | some k =>
      rw [e] at q1
      refine ⟨k, tru_V x1 (.inl r1) e, ?_⟩
      cases k with
      | false => exact iteF (q1 v F1 H1 x1 (Same.refl _) (Fr.refl _ _) r1)
      | true => exact iteT ⟨b, F1, S1, x1, q1⟩
theorem je_orV {a c : Expr} {rest : List Expr} {pos : Pos} {ma mb : M D} (ha : JE X g W a ma) (hb : JE X g W (.BoolOp .Or (c :: rest) pos) mb) : JE X g W (.BoolOp .Or (a :: c :: rest) pos) (mOrV ma mb) :=
  PE.of (pe_orT ha hb) fun σ H Q ⟨b, F, S, x, q⟩ => bindP x q fun d S1 v F1 H1 x1 s1 f1 r1 q1 => by
    cases e : truD d with
    | none => rw [e] at q1; exact q1.elim
    | some k =>
      rw [e] at q1
      refine ⟨k, tru_V x1 (.inl r1) e, ?_⟩
      cases k with
      | true => exact iteT (q1 v F1 H1 x1 (Same.refl _) (Fr.refl _ _) r1)
      | false => exact iteF ⟨b, F1, S1, x1, q1⟩
theorem je_notV {a : Expr} {pos : Pos} {ma : M D} (ha : JB X g W a ma) : JE X g W (.UnaryOp .Not a pos) (mNotV ma) :=
  PE.of (pe_notT ha) fun σ H Q ⟨b, F, S, x, q⟩ => bindP x q fun d S1 v F1 H1 x1 s1 f1 r1 q1 => by
    cases e : truD d with
    | none => rw [e] at q1; exact q1.elim
    | some k =>
      rw [e] at q1
      exact ⟨k, tru_V x1 r1 e, q1 (.bl (!k)) F1 H1 x1 (Same.refl _) (Fr.refl _ _) (.bl _)⟩
theorem jt_not {a : Expr} {pos : Pos} {ma : M Bool} (ha : JT X g W a ma) : JT X g W (.UnaryOp .Not a pos) (mNotT ma) :=
  PT.of (pt_not ha) fun σ H Q ⟨b, F, S, x, q⟩ => bindP x q fun k S1 v F1 H1 x1 s1 f1 r1 q1 => by
    cases (show v = k from r1)
    exact q1 (!k) F1 H1 x1 (Same.refl _) (Fr.refl _ _) rfl
theorem jw_and1 {a : Expr} {pos : Pos} {ma : M Bool} (ha : JT X g W a ma) : JW X g W (.BoolOp .And [a] pos) ma := pw_and1 ha
theorem jw_or1 {a : Expr} {pos : Pos} {ma : M Bool} (ha : JT X g W a ma) : JW X g W (.BoolOp .Or [a] pos) ma := pw_or1 ha
theorem jw_and {a c : Expr} {rest : List Expr} {pos : Pos} {ma mb : M Bool} (ha : JT X g W a ma) (hb : JW X g W (.BoolOp .And (c :: rest) pos) mb) : JW X g W (.BoolOp .And (a :: c :: rest) pos) (mAndT ma mb) :=
  PW.of (pw_and ha hb) fun σ H Q ⟨b, F, S, x, q⟩ => bindP x q fun k S1 v F1 H1 x1 s1 f1 r1 q1 => by
    cases (show v = k from r1)
    cases k with
    | false => exact iteF (q1 false F1 H1 x1 (Same.refl _) (Fr.refl _ _) rfl)
    | true => exact iteT ⟨b, F1, S1, x1, q1⟩
theorem jw_or {a c : Expr} {rest : List Expr} {pos : Pos} {ma mb : M Bool} (ha : JT X g W a ma) (hb : JW X g W (.BoolOp .Or (c :: rest) pos) mb) : JW X g W (.BoolOp .Or (a :: c :: rest) pos) (mOrT ma mb) :=
  PW.of (pw_or ha hb) fun σ H Q ⟨b, F, S, x, q⟩ => bindP x q fun k S1 v F1 H1 x1 s1 f1 r1 q1 => by
    cases (show v = k from r1)
    cases k with
    | true => exact iteT (q1 true F1 H1 x1 (Same.refl _) (Fr.refl _ _) rfl)
    | false => exact iteF ⟨b, F1, S1, x1, q1⟩
theorem pe_if {rep : Rp D V} {c a e : Expr} {pos : Pos} {mc : M Bool} {ma mb : M D} (hc : JT X g W c mc) (ha : PE X a (tG X.K g W rep ma)) (hb : PE X e (tG X.K g W rep mb)) : PE X (.IfExp c a e pos) (tG X.K g W rep (mIf mc ma mb)) :=
  PE.of (pe_ifExp hc ha hb) fun σ H Q ⟨b, F, S, x, q⟩ => bindP x q fun k S1 v F1 H1 x1 s1 f1 r1 q1 => by
    cases (show v = k from r1)
    cases k with
    | true => exact iteT ⟨b, F1, S1, x1, q1⟩
    | false => exact iteF ⟨b, F1, S1, x1, q1⟩
/-! argument lists, displays -/
theorem ja_nil {α : Type} {rep : Rp α V} : PA X [] (tG X.K g W (repL rep) (mSeq [])) := PA.of pa_nil fun σ H Q ⟨b, F, S, x, q⟩ => q [] F H x (Same.refl _) (Fr.refl _ _) ⟨rfl, fun i v a e _ => by simp at e⟩
theorem ja_cons {α : Type} {rep : Rp α V} (mo : Mono rep) {e : Expr} {es : List Expr} {m : M α} {ms : List (M α)} (he : PE X e (tG X.K g W rep m)) (hs : PA X es (tG X.K g W (repL rep) (mSeq ms)))
    (hst : starEach (e :: es) X.env = (false, eval e X.env) :: starEach es X.env) : PA X (e :: es) (tG X.K g W (repL rep) (mSeq (m :: ms))) :=
  PA.of (pa_cons he hs hst) fun σ H Q ⟨b, F, S, x, q⟩ => bindP x q fun a S1 v F1 H1 x1 s1 f1 r1 q1 => bindP x1 q1 fun as S2 vs F2 H2 x2 s2 f2 r2 q2 => by
    refine q2 (v :: vs) F2 H2 x2 (Same.refl _) (Fr.refl _ _) ⟨by simp [r2.1], fun i w a' e1 e2 => ?_⟩
    cases i with
    | zero =>
      simp at e1 e2
      subst e1
      subst e2
      exact mo b _ _ _ _ _ _ s2 f2 r1
    | succ i => exact r2.2 i w a' (by simpa using e1) (by simpa using e2)
theorem je_tup {es : List Expr} {k : Nat} {pos : Pos} {ms : List (M D)} (h : PA X es (tG X.K g W (repL (repE X.K)) (mSeq ms))) : JE X g W (.Tuple es k pos) (mTup ms) :=
  PE.of (pe_tup h) fun σ H Q ⟨b, F, S, x, q⟩ => bindP x q fun ds S1 vs F1 H1 x1 s1 f1 r1 q1 => by
    split at q1
    · rename_i hz
      refine ⟨by rw [r1.1]; exact sumOk_le hz, fun p hp => ?_⟩
      obtain ⟨y1, y2⟩ := x1.tup hp (repL_dpAll r1)
      exact q1 _ _ _ (x1.call y1) y1.f0 y1.ext y2
    · exact q1.elim
theorem je_lst {es : List Expr} {pos : Pos} {ms : List (M D)} (h : PA X es (tG X.K g W (repL (repE X.K)) (mSeq ms))) : JE X g W (.List es pos) (mLst ms) :=
  PE.of (pe_lst h) fun σ H Q ⟨b, F, S, x, q⟩ => bindP x q fun ds S1 vs F1 H1 x1 s1 f1 r1 q1 => by
    split at q1
    · rename_i hz
      refine ⟨by rw [r1.1]; exact sumOk_le hz, fun p hp => ?_⟩
      obtain ⟨y1, y2⟩ := x1.lst hp (repL_dpAll r1)
      exact q1 _ _ _ (x1.call y1) y1.f0 y1.ext y2
    · exact q1.elim
/-! subscripts -/
theorem je_ix {a c : Expr} {pos : Pos} {ma mb : M D} (ha : JB X g W a ma) (hb : JB X g W c mb) (hs : PlainIx c) : JE X g W (.Subscript a c pos) (mOp2 ixD ma mb) :=
  PE.of (pe_ix (ix_D (g := g)) ha hb hs) fun σ H Q ⟨b, F, S, x, q⟩ => bindP x q fun d1 S1 v F1 H1 x1 s1 f1 r1 q1 => bindP x1 q1 fun d2 S2 u F2 H2 x2 s2 f2 r2 q2 => by
    obtain ⟨d, e, q3⟩ := ofO_post q2
    exact ⟨b, F2, S2, σ, d1, d2, d, x2, brep_mono s2 f2 r1, r2, e, fun w F' H' y1 y2 => q3 w F' H' (x2.call y1) y1.f0 y1.ext y2⟩
def repO : Rp (Option Int) (Option Int) := fun _ _ _ k k' => k = k'
theorem jo_none : PO X none (tG X.K g W repO (mC none)) := by
  refine ⟨fun pins s σ H Q I h => ?_⟩
  obtain ⟨b, F, S, x, q⟩ := h
  exact (po_none (X := X)).run pins s σ H Q I (q none F H x (Same.refl _) (Fr.refl _ _) rfl)
theorem jo_some {e : Expr} {m : M D} (h : JB X g W e m) : PO X (some e) (tG X.K g W repO (mPart m)) := by
  refine ⟨fun pins s σ H Q I h' => (po_some h).run pins s σ H Q I ?_⟩
  obtain ⟨b, F, S, x, q⟩ := h'
  refine bindP x q fun d S1 v F1 H1 x1 s1 f1 r1 q1 => ?_
  split at q1
  · have := BRep.int_ (show BRep X.K b F1 H1 v _ from r1)
    exact ⟨_, this, q1 _ F1 H1 x1 (Same.refl _) (Fr.refl _ _) rfl⟩
  · exact q1.elim
theorem je_cut {a : Expr} {lo hi : Option Expr} {pos p2 : Pos} {ma : M D} {ml mh : M (Option Int)} (ha : JB X g W a ma) (hl : PO X lo (tG X.K g W repO ml)) (hh : PO X hi (tG X.K g W repO mh)) :
    JE X g W (.Subscript a (.Slice lo hi none p2) pos) (mCut ma ml mh) :=
  PE.of (pe_slice (sl_D (g := g)) ha hl hh) fun σ H Q ⟨b, F, S, x, q⟩ => bindP x q fun d1 S1 v F1 H1 x1 s1 f1 r1 q1 => bindP x1 q1 fun l S2 l' F2 H2 x2 s2 f2 r2 q2 => bindP x2 q2 fun h S3 h' F3 H3 x3 s3 f3 r3 q3 => by
    cases (show l' = l from r2)
    cases (show h' = h from r3)
    obtain ⟨d, e, q4⟩ := ofO_post q3
    exact ⟨b, F3, S3, σ, d1, d, x3, brep_mono s3 f3 (brep_mono s2 f2 r1), e, fun w F' H' y1 y2 => q4 w F' H' (x3.call y1) y1.f0 y1.ext y2⟩
/-! built-ins by their name -/
theorem je_c1 {x : Str} {p pos : Pos} {e : Expr} {ma : M D} {f : D → Option D} (h : ∀ t, PA X [e] t → PE X (.Call (.Name x p) [e] [] pos) (tCB (c1 X.K g f) t)) (ha : PA X [e] (tG X.K g W (repL (repB X.K)) (mSeq [ma]))) : JE X g W (.Call (.Name x p) [e] [] pos) (mOp1 f ma) :=
  PE.of (h _ ha) fun σ H Q ⟨b, F, S, x, q⟩ => by
    refine ⟨b, F, S, x, ?_⟩
    show PostG _ _ _ _ _ _ _ _ _ ((ma S).bind fun a S' => .ok [a] S')
    cases z : ma S with
    | stuck => unfold mOp1 M.bind at q; rw [z] at q; exact q.elim
    | exc c d bx' => unfold mOp1 M.bind at q; rw [z] at q; exact q
    | ok d1 S1 =>
      unfold mOp1 M.bind at q
      rw [z] at q
      intro vs F1 H1 x1 s1 f1 r1
      obtain ⟨d, e, q3⟩ := ofO_post (S := S1) q
      obtain ⟨v, rfl⟩ : ∃ v, vs = [v] := by
        have := r1.1
        match vs, this with
        | [v], _ => exact ⟨v, rfl⟩
      exact ⟨b, F1, S1, σ, v, d1, d, rfl, x1, r1.2 0 v d1 rfl rfl, e, fun w F' H' y1 y2 => q3 w F' H' (x1.call y1) (s1.trans y1.f0) (f1.trans y1.ext) y2⟩
theorem je_c2 {x : Str} {p pos : Pos} {e e' : Expr} {ma mb : M D} {f : D → D → Option D} (h : ∀ t, PA X [e, e'] t → PE X (.Call (.Name x p) [e, e'] [] pos) (tCB (c2 X.K g f) t)) (ha : PA X [e, e'] (tG X.K g W (repL (repB X.K)) (mSeq [ma, mb]))) : JE X g W (.Call (.Name x p) [e, e'] [] pos) (mOp2 f ma mb) :=
  PE.of (h _ ha) fun σ H Q ⟨b, F, S, x, q⟩ => by
    refine ⟨b, F, S, x, ?_⟩
    show PostG _ _ _ _ _ _ _ _ _ ((ma S).bind fun a S' => ((mb S').bind fun a' S'' => R.ok [a'] S'').bind fun as S'' => .ok (a :: as) S'')
    cases z : ma S with
    | stuck => unfold mOp2 M.bind at q; rw [z] at q; exact q.elim
    | exc c d bx' => unfold mOp2 M.bind at q; rw [z] at q; exact q
    | ok d1 S1 =>
      unfold mOp2 M.bind at q
      rw [z] at q
      show PostG _ _ _ _ _ _ _ _ _ (((mb S1).bind fun a' S'' => R.ok [a'] S'').bind fun as S'' => .ok (d1 :: as) S'')
      have q : PostG X.K g W σ b F H (repE X.K) Q ((mb S1).bind fun y => ofO (f d1 y)) := q
      cases z2 : mb S1 with
      | stuck => rw [z2] at q; exact q.elim
      | exc c d bx' => rw [z2] at q; exact q
      | ok d2 S2 =>
        rw [z2] at q
        intro vs F1 H1 x1 s1 f1 r1
        obtain ⟨d, e, q3⟩ := ofO_post (S := S2) q
        obtain ⟨v, w, rfl⟩ : ∃ v w, vs = [v, w] := by
          have := r1.1
          match vs, this with
          | [v, w], _ => exact ⟨v, w, rfl⟩
        exact ⟨b, F1, S2, σ, v, w, d1, d2, d, rfl, x1, r1.2 0 v d1 rfl rfl, r1.2 1 w d2 rfl rfl, e, fun w F' H' y1 y2 => q3 w F' H' (x1.call y1) (s1.trans y1.f0) (f1.trans y1.ext) y2⟩
end
end Gl

set_option maxRecDepth 100000
set_option maxHeartbeats 1000000
/-! The general layer, part D: names, calls, what a def promises. -/
namespace Gl
open PySem PySem.Spec PyProof.Rows L2

def mStuck {α : Type} : M α := fun _ => .stuck
/-- a def of the text: its level, how many parameters, what it computes -/
structure FnE where
  lv : Nat
  gr : Bool
  ar : Nat
  fm : FM
/-- what the compiler knows -/
structure Ct where
  N : List Str
  sc : Scope
  fn : Str → Option FnE
  ks : Str → Option D
  xs : Str → Option Nat
  lv : Nat
  own : Str → Bool
  gr : Bool
  told : Str → Option (Nat → Option Str)
def ownOf (s : Scope) (x : Str) : Bool := match s.names.lookup x with
  | some .local => true
  | some .cell => true
  | _ => false
abbrev Ct.blk (c : Ct) (s : Scope) : Ct := { c with sc := relS s c.sc, own := ownOf s, told := fun _ => none }

/-- what a def promises -/
def spG (K : PySem.W.Frag) (g : Gx) (m : FM) (n : Nat) : Sp := fun vs H Q E => vs.length = n ∧ ∃ (b : Bs) (as : List Arg) (bx : Bx), b.H0 = H ∧ SR K g b b.F0 ⟨[], bx⟩ [] H ∧ repL (repA K) b b.F0 H vs as ∧
  match m as bx with
  | .ret d bx' => ∀ v F' H', SR K g b F' ⟨[], bx'⟩ [] H' → Dp K F' v d → Q v H'
  | .exc c d bx' => ∀ (a C : Addr) (f : Str) (v : V) (F' H' : Hp), g.cl c = some (C, f) → SR K g b F' ⟨[], bx'⟩ [] H' → H' a = some (.xd [(f, v)]) → Dp K F' v d → E (.ref C) (some a) H'
  | .stuck => False
structure FnG (P : Program) (w : World) (K : PySem.W.Frag) (mg : Str → Option Value) (base : Heap) (g : Gx) (k : Nat) (gr : Bool) (f : Addr) (n : Nat) (m : FM) : Prop where
  run : ∀ (A : Around) (outer : List Env) (s : Shared) (H : Hp) (us : List Value) (vs : List V) (Q : VK) (E : XK), Room k A → (gr = true → A.guards = some []) → Env0 P w K mg base A outer s H → Vals vs us → spG K g m n vs H Q E →
    codeAny (model P w) A (.call (.ref f) ⟨us, []⟩) (CR (L2.CX P w) outer P w H s Q E) s
theorem FnG.mono {P : Program} {w : World} {K : PySem.W.Frag} {mg : Str → Option Value} {base : Heap} {g : Gx} {j k : Nat} {gr : Bool} {f : Addr} {n : Nat} {m : FM} (F : FnG P w K mg base g j gr f n m) (h : j ≤ k) : FnG P w K mg base g k gr f n m :=
  ⟨fun A outer s H us vs Q E hr => F.run A outer s H us vs Q E (hr.mono h)⟩
/-- C(e) makes an exception with one field -/
def tEx (C : Addr) (f : Str) (te : TE) : L2.St → Hp → XK → Prop := fun σ H Q => te σ H fun v H1 => ∀ a, H1 a = none → Q (.ref C) (some a) (upd H1 a (.xd [(f, v)]))
structure ExG (P : Program) (w : World) (K : PySem.W.Frag) (mg : Str → Option Value) (base : Heap) (g : Gx) (k : Nat) (x : Str) (n : Nat) : Prop where
  make : ∃ (C : Addr) (f : Str), g.cl n = some (C, f) ∧ ∀ (X : Cx) (te : TE) (e : Expr) (p pos : Pos), X.prog = P → X.w = w → X.K = K → X.mg = mg → X.base = base → Room k X.A → L2.Gl X x → PE X e te →
    starEach [e] X.env = (false, eval e X.env) :: starEach [] X.env → (backTo pos (starEach [] X.env)).any (·.1) = false → PMk X (.Call (.Name x p) [e] [] pos) (tEx C f te)
/-- the built-ins that are named -/
def blts : List Str := ["len", "abs", "int", "all", "any", "sum", "tuple", "list", "max", "min", "repr", "range", "zip", "enumerate", "isinstance", "bool", "str", "set", "sorted", "reversed", "dict", "ord", "chr", "divmod", "pow"]
structure Glo (P : Program) (w : World) (K : PySem.W.Frag) (mg : Str → Option Value) (base : Heap) (g : Gx) (fn : Str → Option FnE) (ks : Str → Option D) (xs : Str → Option Nat) : Prop where
  fn : ∀ x e, fn x = some e → ∃ f, mg x = some (.ref f) ∧ PySem.W.keepIn K (.ref f) = true ∧ FnG P w K mg base g e.lv e.gr f e.ar e.fm
  ks : ∀ x d, ks x = some d → ∃ v u, mg x = some u ∧ RelV v u ∧ ∀ F, Dp K F v d
  xs : ∀ x n, xs x = some n → ExG P w K mg base g 2 x n
  bl : ∀ x, x ∈ blts → mg x = none
/-- what is known of a context -/
structure Fx (X : Cx) (g : Gx) (W : WX) (c : Ct) : Prop where
  glo : Glo X.prog X.w X.K X.mg X.base g c.fn c.ks c.xs
  N : X.N = c.N
  nd : c.N.Nodup
  sc : X.env.scope = c.sc
  calm : X.calm = true
  gd : c.gr = true → X.A.guards = some []
  room : Room c.lv X.A
  hf : ∀ x, c.own x = true → Loc c.sc x → X.fn x = true ∨ c.sc.names.lookup x = some .local
  tk : Takes X W
/-- a star is nowhere -/
def noStar : List Expr → Bool
  | [] => true
  | .Starred .. :: _ => false
  | _ :: r => noStar r
theorem star_cons {e : Expr} {es : List Expr} {env : Env} (h : noStar (e :: es) = true) : starEach (e :: es) env = (false, eval e env) :: starEach es env := by
  cases e <;> first | rfl | (exact absurd h (by simp [noStar]))
theorem noStar_tail {e : Expr} {es : List Expr} (h : noStar (e :: es) = true) : noStar es = true := by
  cases e <;> first | exact h | (exact absurd h (by simp [noStar]))
theorem star_any {pos : Pos} {env : Env} : ∀ {es : List Expr}, noStar es = true → (backTo pos (starEach es env)).any (·.1) = false
  | [], _ => rfl
  | e :: es, h => by
    rw [star_cons h]
    exact star_any (noStar_tail h)

section
variable {X : Cx} {g : Gx} {W : WX} {c : Ct}
/-- nothing may leave a comprehension's block -/
abbrev noW : WX := fun _ _ _ _ => False
theorem Fx.blk (f : Fx X g W c) (s : Shared) (H : Hp) (scope : Scope) (cl : List (Str × Addr)) (C : Addr) (fp : List Addr) : Fx (X.blk s H scope (compEnvC scope cl C X.env) fp) g noW (c.blk scope) where
  glo := f.glo
  N := f.N
  nd := f.nd
  sc := by
    show relS scope X.env.scope = relS scope c.sc
    rw [f.sc]
  calm := f.calm
  gd := f.gd
  room := f.room
  hf := fun x ho hl => by
    have ho : ownOf scope x = true := ho
    unfold ownOf at ho
    split at ho
    · rename_i e
      exact .inr (lookup_relS_keep (by decide) e)
    · rename_i e
      left
      show (scope.names.lookup x == some .cell) = true
      rw [e]
      rfl
    · cases ho
  tk := fun u s' ⟨_, _, _, _, _, _, _, _, _, _, _, _, _, _, _, _, w⟩ => w.elim
theorem Fx.un (f : Fx X g W c) : X.A.units + 65 < cLine := by
  have := f.room.un
  omega
theorem pe_stuck {α : Type} {e : Expr} {rep : Rp α V} : PE X e (tG X.K g W rep mStuck) := ⟨fun pins s σ H Q I ⟨b, F, S, x, q⟩ => q.elim⟩
theorem pt_stuck {e : Expr} : JT X g W e mStuck := ⟨fun pins s σ H Q I ⟨b, F, S, x, q⟩ => q.elim⟩
theorem pw_stuck {e : Expr} : JW X g W e mStuck := ⟨fun _ pins s σ H Q I ⟨b, F, S, x, q⟩ => q.elim⟩
/-! names -/
def kindC (c : Ct) (x : Str) : Nat := match c.sc.names.lookup x with
  | some .local => 1
  | some .cell => 1
  | some .free => 1
  | some .globalImplicit => 2
  | _ => 0
/-- the slot of a name that is seen -/
def slotC (c : Ct) (x : Str) : Option Nat := if kindC c x = 1 ∧ (x == ("__debug__" : Str)) = false ∧ (x == ("__classdict__" : Str)) = false then c.N.idxOf? x else none
theorem kind_vis {x : Str} (h : kindC c x = 1) : Vis c.sc x := by
  unfold kindC at h
  unfold Vis
  split at h <;> first | (rename_i e; rw [e]; simp; done) | cases h
theorem idx_get {N : List Str} {x : Str} {i : Nat} (h : N.idxOf? x = some i) : N[i]? = some x := by
  unfold List.idxOf? at h
  rw [List.findIdx?_eq_some_iff_getElem] at h
  obtain ⟨hi, e, _⟩ := h
  have e' : N[i] = x := by simpa using e
  rw [List.getElem?_eq_getElem hi, e']
theorem slot_ok {x : Str} {i : Nat} (h : slotC c x = some i) : c.N[i]? = some x ∧ Vis c.sc x ∧ (x == ("__debug__" : Str)) = false ∧ (x == ("__classdict__" : Str)) = false := by
  unfold slotC at h
  split at h
  · rename_i q
    exact ⟨idx_get h, kind_vis q.1, q.2.1, q.2.2⟩
  · cases h
theorem pe_slot (f : Fx X g W c) {x : Str} {i : Nat} {pos : Pos} (h : slotC c x = some i) : PE X (.Name x pos) (tVar i) := by
  obtain ⟨h1, h2, h3, h4⟩ := slot_ok h
  exact pe_var (by rw [f.N]; exact h1) (by rw [f.sc]; exact h2) h3 h4
def isG (c : Ct) (x : Str) : Bool := kindC c x == 2 && !(x == ("__debug__" : Str))
theorem isG_ok (f : Fx X g W c) {x : Str} (h : isG c x = true) : L2.Gl X x ∧ (x == ("__debug__" : Str)) = false := by
  unfold isG at h
  rw [Bool.and_eq_true] at h
  obtain ⟨h1, h2⟩ := h
  refine ⟨?_, by simpa using h2⟩
  have h1 : kindC c x = 2 := by simpa using h1
  show X.env.scope.names.lookup x = _
  rw [f.sc]
  unfold kindC at h1
  split at h1 <;> first | assumption | cases h1
/-- a name for a value -/
def cName (c : Ct) (x : Str) : M D := match slotC c x with
  | some i => mVar i
  | none => if isG c x then (match c.ks x with | some d => mC d | none => mStuck) else mStuck
def cNameB (c : Ct) (x : Str) : M D := match slotC c x with
  | some i => mPeek i
  | none => if isG c x then (match c.ks x with | some d => mC d | none => mStuck) else mStuck
def cNameA (c : Ct) (x : Str) : M Arg := match slotC c x with
  | some i => mArgV i
  | none => if isG c x then (match c.ks x with | some d => mArgE (mC d) | none => mStuck) else mStuck
theorem je_glob (f : Fx X g W c) {x : Str} {d : D} {pos : Pos} (hg : isG c x = true) (hk : c.ks x = some d) : JE X g W (.Name x pos) (mC d) := by
  obtain ⟨v, u, h1, h2, h3⟩ := f.glo.ks x d hk
  obtain ⟨g1, g2⟩ := isG_ok f hg
  exact je_const (pe_glob g1 h1 h2 g2) h3
theorem cName_ok (f : Fx X g W c) {x : Str} {pos : Pos} : JE X g W (.Name x pos) (cName c x) := by
  unfold cName
  split
  · exact je_var (pe_slot f (by assumption))
  · split
    · split
      · exact je_glob f (by assumption) (by assumption)
      · exact pe_stuck
    · exact pe_stuck
theorem cNameB_ok (f : Fx X g W c) {x : Str} {pos : Pos} : JB X g W (.Name x pos) (cNameB c x) := by
  unfold cNameB
  split
  · exact jb_peek (pe_slot f (by assumption))
  · split
    · split
      · exact jb_of (je_glob f (by assumption) (by assumption))
      · exact pe_stuck
    · exact pe_stuck
theorem cNameA_ok (f : Fx X g W c) {x : Str} {pos : Pos} : PE X (.Name x pos) (tG X.K g W (repA X.K) (cNameA c x)) := by
  unfold cNameA
  split
  · exact ja_var (pe_slot f (by assumption))
  · split
    · split
      · exact ja_of (je_glob f (by assumption) (by assumption))
      · exact pe_stuck
    · exact pe_stuck
/-! calls of defs -/
def mCall (e : FnE) (ms : M (List Arg)) : M D := ms.bind fun as S => if as.length = e.ar then (match e.fm as S.bx with
  | .ret d bx' => .ok d { S with bx := bx' }
  | .exc x d bx' => .exc x d bx'
  | .stuck => .stuck) else .stuck
theorem run_fnG {pins : List (Addr × Obj)} {σ : L2.St} {H : Hp} {s : Shared} {Q : VK} {E : XK} {us : List Value} {vs : List V} {k n : Nat} {gr : Bool} {fa : Addr} {m : FM} (F : FnG X.prog X.w X.K X.mg X.base g k gr fa n m) (hr : Room k X.A) (hgd : gr = true → X.A.guards = some [])
    (tk : Takes X W) (hW : ∀ cls d H, E cls d H → W cls d σ H) (I : Inv X pins σ H s) (r : Vals vs us) (h : spG X.K g m n vs H Q E) : wpAny (model X.prog X.w) X.A (call (.ref fa) us) (EP X pins σ Q) X.xe s := by
  refine wpAny_call (codeAny_mono (F.run X.A X.stack s H us vs Q E hr hgd I.env0 r h) fun r s' hq => ?_)
  cases r with
  | error e => exact tk e s' (XE.of_call I (fun cls d H' h => hW cls d H' h) hq)
  | ok fl =>
    cases fl with
    | ret u => exact I.after hq
    | next => exact False.elim hq
    | brk => exact False.elim hq
    | cont => exact False.elim hq
theorem call_read {pins : List (Addr × Obj)} {σ : L2.St} {H : Hp} {s : Shared} {Q : VK} {us : List Value} {vs : List V} {b : Bs} {F : Hp} {S : Sto} {as : List Arg} {k : Nat} {fa : Addr} {e : FnE} (f : Fx X g W c) (Fn : FnG X.prog X.w X.K X.mg X.base g e.lv e.gr fa e.ar e.fm) (hl : e.lv ≤ c.lv) (hgr : e.gr = true → c.gr = true)
    (I : Inv X pins σ H s) (r : Vals vs us) (x : SR X.K g b F S σ H) (ra : repL (repA X.K) b F H vs as)
    (q : PostG X.K g W σ b F H (repE X.K) Q (if as.length = e.ar then (match e.fm as S.bx with | .ret d bx' => R.ok d { S with bx := bx' } | .exc x d bx' => .exc x d bx' | .stuck => .stuck) else .stuck)) :
    wpAny (model X.prog X.w) X.A (call (.ref fa) us) (EP X pins σ Q) X.xe s := by
  split at q
  · rename_i hz
    refine run_fnG (E := fun cls d H' => W cls d σ H') Fn (f.room.mono hl) (fun z => f.gd (hgr z)) f.tk (fun _ _ _ z => z) I r ⟨ra.1.trans hz, b.at F H, as, S.bx, rfl, x.base, ⟨ra.1, fun i v a e1 e2 => ?_⟩, ?_⟩
    · have z := ra.2 i v a e1 e2
      cases a with
      | d y => exact z
      | box => exact z
    · cases em : e.fm as S.bx with
      | ret d bx' =>
        rw [em] at q
        exact fun v F' H' y1 y2 => q v F' H' (x.call y1) y1.f0 y1.ext y2
      | exc n d bx' =>
        rw [em] at q
        exact fun a C fl v F' H' hc y1 y2 y3 => q a C fl v F' H' hc (x.call y1).forget y2 y3
      | stuck =>
        rw [em] at q
        exact q
  · exact q.elim
theorem je_call (f : Fx X g W c) {x : Str} {e : FnE} {p pos : Pos} {a : Expr} {es : List Expr} {ms : M (List Arg)} (hg : isG c x = true) (he : c.fn x = some e) (hl : e.lv ≤ c.lv) (hgr : e.gr = true → c.gr = true) (hs : noStar (a :: es) = true)
    (ha : PA X (a :: es) (tG X.K g W (repL (repA X.K)) ms)) : JE X g W (.Call (.Name x p) (a :: es) [] pos) (mCall e ms) := by
  obtain ⟨fa, h1, h2, h3⟩ := f.glo.fn x e he
  obtain ⟨g1, g2⟩ := isG_ok f hg
  refine ⟨fun pins s σ H Q I h => ?_⟩
  refine wpAny_Call_Name_kw (ld_glob I g1 h1 ?_ g2)
  refine PySem.W.callWith_K (h₀ := X.base) I.ok.mod.kin h2 (thn (ha.run pos pins s σ H (fun vs H1 => ∃ (b : Bs) (F : Hp) (S : Sto) (as : List Arg), SR X.K g b F S σ H1 ∧ repL (repA X.K) b F H1 vs as ∧ PostG X.K g W σ b F H1 (repE X.K) Q
    (if as.length = e.ar then (match e.fm as S.bx with | .ret d bx' => R.ok d { S with bx := bx' } | .exc x d bx' => .exc x d bx' | .stuck => .stuck) else .stuck)) I ?_) fun us s1 ⟨vs, H1, I1, r, q⟩ => ⟨I1.kIn, ?_⟩) (star_cons hs) (star_any (noStar_tail hs))
  · obtain ⟨b, F, S, x, q⟩ := h
    exact bindP x q fun as S1 vs F1 H1 x1 s1 f1 r1 q1 => ⟨b, F1, S1, as, x1, r1, q1⟩
  · obtain ⟨b, F, S, as, x1, ra, q1⟩ := q
    exact call_read (k := 0) f h3 hl hgr I1 r x1 ra q1
theorem je_call0 (f : Fx X g W c) {x : Str} {e : FnE} {p pos : Pos} (hg : isG c x = true) (he : c.fn x = some e) (hl : e.lv ≤ c.lv) (hgr : e.gr = true → c.gr = true) : JE X g W (.Call (.Name x p) [] [] pos) (mCall e (mC [])) := by
  obtain ⟨fa, h1, h2, h3⟩ := f.glo.fn x e he
  obtain ⟨g1, g2⟩ := isG_ok f hg
  refine ⟨fun pins s σ H Q I ⟨b, F, S, y, q⟩ => ?_⟩
  refine wpAny_Call_Name_kw (ld_glob I g1 h1 ?_ g2)
  exact PySem.W.callWith_K0 I.kIn h2 (call_read (us := []) (vs := []) (as := []) (k := 0) f h3 hl hgr I .nil y ⟨rfl, fun i v a e _ => by simp at e⟩ q)
end
end Gl

set_option maxRecDepth 100000
set_option maxHeartbeats 1000000
/-! The general layer, part E: what is walked, targets, statements. -/
namespace Gl
open PySem PySem.Spec PyProof.Rows L2

/-! ### what is walked -/
def YD (K : PySem.W.Frag) (F : Hp) (ds : List D) : Nat → Hp → V → Hp → Prop := fun i H' v H'' => ∃ d, ds[i]? = some d ∧ ((H'' = H' ∧ Dp K F v d) ∨
  ∃ (T : Addr) (x y : V) (dx dy : D), v = .ref T ∧ H' T = none ∧ H'' = upd H' T (.tup [x, y]) ∧ d = .tuple [dx, dy] ∧ Dp K F x dx ∧ Dp K F y dy)
def repIt (K : PySem.W.Frag) : Rp (List D) It := fun _ F _ J ds => Walk J ds.length (fun H' => Same F H') (YD K F ds)
abbrev JI (X : Cx) (g : Gx) (W : WX) (tg it : Expr) (m : M (List D)) : Prop := PI X tg it (tG X.K g W (repIt X.K) m)
def signsD (z : Str) : List D := z.cps.toList.map fun c => .str ⟨#[c]⟩
def itemsOf : D → Option (List D)
  | .list ds => some ds
  | .tuple ds => some ds
  | .str z => some (signsD z)
  | _ => none
def mItems (m : M D) : M (List D) := m.bind fun d => ofO (itemsOf d)
def rangeD (lo c : Int) (n : Nat) : List D := (List.range n).map fun i => .int (lo + (i : Nat) * c)
def in62 (i : Int) : Bool := decide (-(2 ^ 62) ≤ i) && decide (i < 2 ^ 62)
theorem in62_ok {i : Int} (h : in62 i = true) : -(2 ^ 62) ≤ i ∧ i < 2 ^ 62 := by
  unfold in62 at h
  simpa using h
def rangeOf : List D → Option (List D)
  | [.int j] => if in62 j then some (rangeD 0 1 j.toNat) else none
  | [.int i, .int j] => if in62 i && in62 j then some (rangeD i 1 (j - i).toNat) else none
  | [.int i, .int j, .int c] => if c = -1 ∧ in62 i = true ∧ in62 j = true then some (rangeD i (-1) (i - j).toNat) else none
  | _ => none
def mRange (ms : M (List D)) : M (List D) := ms.bind fun ds => ofO (rangeOf ds)
def pairD (x y : D) : D := .tuple [x, y]
def zipOf : List D → Option (List D)
  | [.list xs, .list ys] => some (List.zipWith pairD xs ys)
  | [.tuple xs, .tuple ys] => some (List.zipWith pairD xs ys)
  | _ => none
def mZip (ms : M (List D)) : M (List D) := ms.bind fun ds => ofO (zipOf ds)
def enumL : Nat → List D → List D
  | _, [] => []
  | n, d :: ds => pairD (.int (n : Nat)) d :: enumL (n + 1) ds
def enumOf : List D → Option (List D)
  | [.list xs] => some (enumL 0 xs)
  | [.tuple xs] => some (enumL 0 xs)
  | _ => none
def mEnum (ms : M (List D)) : M (List D) := ms.bind fun ds => ofO (enumOf ds)
theorem enumL_len : ∀ (ds : List D) (n : Nat), (enumL n ds).length = ds.length
  | [], _ => rfl
  | _ :: ds, n => by rw [enumL, List.length_cons, List.length_cons, enumL_len ds]
theorem enumL_get : ∀ (ds : List D) (n i : Nat), (enumL n ds)[i]? = (ds[i]?).map fun d => pairD (.int ((n + i : Nat) : Int)) d
  | [], _, _ => by simp [enumL]
  | d :: ds, n, 0 => by simp [enumL]
  | d :: ds, n, i + 1 => by
    rw [enumL, List.getElem?_cons_succ, List.getElem?_cons_succ, enumL_get ds (n + 1) i]
    have : n + 1 + i = n + (i + 1) := by omega
    rw [this]

section
variable {X : Cx} {g : Gx} {W : WX} {tg : Expr}
theorem ji_stuck {it : Expr} : JI X g W tg it mStuck := ⟨fun pins s σ H Q I ⟨b, F, S, x, q⟩ => q.elim⟩
theorem wk_list {K : PySem.W.Frag} {F : Hp} {a : Addr} {xs : List V} {ds : List D} (h : SqL K F a xs) (hd : DpAll K F xs ds) : Walk (Itl K a) ds.length (fun H' => Same F H') (YD K F ds) := by
  rw [← dpl_len hd]
  refine walk_list.mono (fun H s => seqL_mono s h) fun i H x H' hi s y => ?_
  obtain ⟨e, y⟩ := y
  obtain ⟨d, e1, e2⟩ := dpl_getV hd y
  exact ⟨d, e1, .inl ⟨e, e2⟩⟩
theorem wk_tup {K : PySem.W.Frag} {F : Hp} {a : Addr} {xs : List V} {ds : List D} (h : SqT K F a xs) (hd : DpAll K F xs ds) : Walk (Itt K a) ds.length (fun H' => Same F H') (YD K F ds) := by
  rw [← dpl_len hd]
  refine walk_tup.mono (fun H s => seqT_mono s h) fun i H x H' hi s y => ?_
  obtain ⟨e, y⟩ := y
  obtain ⟨d, e1, e2⟩ := dpl_getV hd y
  exact ⟨d, e1, .inl ⟨e, e2⟩⟩
theorem wk_str {K : PySem.W.Frag} {F : Hp} {z : Str} : Walk (Its z) (signsD z).length (fun H' => Same F H') (YD K F (signsD z)) := by
  have e : (signsD z).length = z.cps.size := by simp [signsD]
  rw [e]
  refine walk_str.mono (fun _ _ => trivial) fun i H x H' hi s y => ?_
  obtain ⟨e, c, hc, rfl⟩ := y
  refine ⟨.str ⟨#[c]⟩, ?_, .inl ⟨e, .str _⟩⟩
  simp [signsD, hc]
theorem wk_range {K : PySem.W.Frag} {F : Hp} {lo : Int} {n : Nat} : Walk (Itr lo n) (rangeD lo 1 n).length (fun H' => Same F H') (YD K F (rangeD lo 1 n)) := by
  have e : (rangeD lo 1 n).length = n := by simp [rangeD]
  rw [e]
  refine walk_range.mono (fun _ _ => trivial) fun i H x H' hi s y => ?_
  obtain ⟨e, rfl⟩ := y
  refine ⟨.int (lo + i), ?_, .inl ⟨e, .int _⟩⟩
  simp [rangeD, hi]
theorem wk_rangeC {K : PySem.W.Frag} {F : Hp} {lo c : Int} {n : Nat} : Walk (Itc lo c n) (rangeD lo c n).length (fun H' => Same F H') (YD K F (rangeD lo c n)) := by
  have e : (rangeD lo c n).length = n := by simp [rangeD]
  rw [e]
  refine walk_rangeC.mono (fun _ _ => trivial) fun i H x H' hi s y => ?_
  obtain ⟨e, rfl⟩ := y
  refine ⟨.int (lo + (i : Nat) * c), ?_, .inl ⟨e, .int _⟩⟩
  simp [rangeD, hi]
theorem yd_pair {K : PySem.W.Frag} {F : Hp} {ds : List D} {xs ys : Nat → Option V} {i : Nat} {H H' : Hp} {v : V} (y : YPair xs ys i H v H') (h : ∀ x z, xs i = some x → ys i = some z → ∃ dx dy, ds[i]? = some (pairD dx dy) ∧ Dp K F x dx ∧ Dp K F z dy) : YD K F ds i H v H' := by
  obtain ⟨T, x, z, rfl, h1, h2, h3, h4⟩ := y
  obtain ⟨dx, dy, e, d1, d2⟩ := h x z h3 h4
  exact ⟨_, e, .inr ⟨T, x, z, dx, dy, rfl, h1, h2, rfl, d1, d2⟩⟩
theorem wk_enum {K : PySem.W.Frag} {F : Hp} {a : Addr} {xs : List V} {ds : List D} (h : SqL K F a xs) (hd : DpAll K F xs ds) : Walk (Ite K a) (enumL 0 ds).length (fun H' => Same F H') (YD K F (enumL 0 ds)) := by
  rw [enumL_len, ← dpl_len hd]
  refine walk_enum.mono (fun H s => seqL_mono s h) fun i H x H' hi s y => yd_pair y fun x z h3 h4 => ?_
  obtain ⟨d, e1, e2⟩ := dpl_getV hd h4
  cases h3
  refine ⟨.int (i : Nat), d, ?_, .int _, e2⟩
  rw [enumL_get, e1, Nat.zero_add]
  rfl
theorem walk_enumT {K : PySem.W.Frag} {a : Addr} {xs : List V} : Walk (IteT K a) xs.length (fun H => SqT K H a xs) (YPair (fun i => some (.int (i : Nat))) (fun i => xs[i]?)) := by
  refine ⟨fun i _ hi q => ⟨xs, xs[i], q, by simp [hi]⟩, fun _ q => ⟨xs, q, Nat.le_refl _⟩, fun i H v H' _ q y => ?_⟩
  obtain ⟨T, x, h1, h2, h3, h4⟩ := y
  exact ⟨T, .int (i : Nat), x, h1, h2, h3, rfl, h4 xs q⟩
theorem wk_enumT {K : PySem.W.Frag} {F : Hp} {a : Addr} {xs : List V} {ds : List D} (h : SqT K F a xs) (hd : DpAll K F xs ds) : Walk (IteT K a) (enumL 0 ds).length (fun H' => Same F H') (YD K F (enumL 0 ds)) := by
  rw [enumL_len, ← dpl_len hd]
  refine walk_enumT.mono (fun H s => seqT_mono s h) fun i H x H' hi s y => yd_pair y fun x z h3 h4 => ?_
  obtain ⟨d, e1, e2⟩ := dpl_getV hd h4
  cases h3
  refine ⟨.int (i : Nat), d, ?_, .int _, e2⟩
  rw [enumL_get, e1, Nat.zero_add]
  rfl
theorem zip_get {xs ys : List D} {i : Nat} {x y : D} (h1 : xs[i]? = some x) (h2 : ys[i]? = some y) : (List.zipWith pairD xs ys)[i]? = some (pairD x y) := by
  rw [List.getElem?_zipWith, h1, h2]
theorem wk_zipL {K : PySem.W.Frag} {F : Hp} {a b : Addr} {xs ys : List V} {ds es : List D} (h : SqL K F a xs) (hd : DpAll K F xs ds) (h' : SqL K F b ys) (hd' : DpAll K F ys es) : Walk (Itz K a b) (List.zipWith pairD ds es).length (fun H' => Same F H') (YD K F (List.zipWith pairD ds es)) := by
  refine (walk_zip (xs := xs) (ys := ys) (by rw [List.length_zipWith, dpl_len hd, dpl_len hd'])).mono (fun H s => ⟨seqL_mono s h, seqL_mono s h'⟩) fun i H x H' hi s y => yd_pair y fun x z h3 h4 => ?_
  obtain ⟨d, e1, e2⟩ := dpl_getV hd h3
  obtain ⟨d', e1', e2'⟩ := dpl_getV hd' h4
  exact ⟨d, d', zip_get e1 e1', e2, e2'⟩
theorem walk_zipTT {K : PySem.W.Frag} {a b : Addr} {xs ys : List V} {n : Nat} (hn : n = min xs.length ys.length) : Walk (RZ.ItzT K a b) n (fun H => SqT K H a xs ∧ SqT K H b ys) (YPair (fun i => xs[i]?) (fun i => ys[i]?)) where
  goes i H hi q := by
    subst hn
    have h1 : i < xs.length := by omega
    have h2 : i < ys.length := by omega
    exact ⟨xs, ys, _, _, q.1, q.2, List.getElem?_eq_getElem h1, List.getElem?_eq_getElem h2⟩
  stops H q := ⟨xs, ys, q.1, q.2, by omega⟩
  yields i H v H' _ q y := by
    obtain ⟨T, x, z, h1, h2, h3, h4, h5⟩ := y
    exact ⟨T, x, z, h1, h2, h3, h4 _ q.1, h5 _ q.2⟩
theorem wk_zipT {K : PySem.W.Frag} {F : Hp} {a b : Addr} {xs ys : List V} {ds es : List D} (h : SqT K F a xs) (hd : DpAll K F xs ds) (h' : SqT K F b ys) (hd' : DpAll K F ys es) : Walk (RZ.ItzT K a b) (List.zipWith pairD ds es).length (fun H' => Same F H') (YD K F (List.zipWith pairD ds es)) := by
  refine (walk_zipTT (xs := xs) (ys := ys) (by rw [List.length_zipWith, dpl_len hd, dpl_len hd'])).mono (fun H s => ⟨seqT_mono s h, seqT_mono s h'⟩) fun i H x H' hi s y => yd_pair y fun x z h3 h4 => ?_
  obtain ⟨d, e1, e2⟩ := dpl_getV hd h3
  obtain ⟨d', e1', e2'⟩ := dpl_getV hd' h4
  exact ⟨d, d', zip_get e1 e1', e2, e2'⟩

/-- an expression that gives an own walk by its kind -/
theorem dp_list {K : PySem.W.Frag} {F : Hp} {v : V} {ds : List D} (h : Dp K F v (.list ds)) : ∃ a xs, v = .ref a ∧ SqL K F a xs ∧ DpAll K F xs ds := by
  cases h with
  | lst h1 h2 => exact ⟨_, _, rfl, h1, h2⟩
theorem dp_tup {K : PySem.W.Frag} {F : Hp} {v : V} {ds : List D} (h : Dp K F v (.tuple ds)) : ∃ a xs, v = .ref a ∧ SqT K F a xs ∧ DpAll K F xs ds := by
  cases h with
  | tup h1 h2 => exact ⟨_, _, rfl, h1, h2⟩
theorem dp_int {K : PySem.W.Frag} {F : Hp} {v : V} {i : Int} (h : Dp K F v (.int i)) : v = .int i := by
  cases h
  rfl
theorem dp_strE {K : PySem.W.Frag} {F : Hp} {v : V} {z : Str} (h : Dp K F v (.str z)) : v = .str z := by
  cases h
  rfl
theorem ji_items {e : Expr} {m : M D} (h : JE X g W e m) : JI X g W tg e (mItems m) := by
  refine ⟨fun pins s σ H R I ⟨b, F, S, x, q⟩ => ?_⟩
  have key : ∀ {T : VK}, (∀ (d : D) (S1 : Sto) (v : V) (F1 H1 : Hp), m S = .ok d S1 → SR X.K g b F1 S1 σ H1 → Dp X.K F1 v d → PostG X.K g W σ b F1 H1 (repIt X.K) R (ofO (itemsOf d) S1) → T v H1) → tG X.K g W (repE X.K) m σ H T := fun {T} hT => by
    refine ⟨b, F, S, x, ?_⟩
    unfold mItems M.bind at q
    cases e : m S with
    | stuck => rw [e] at q; exact q
    | exc c d bx' => rw [e] at q; exact q
    | ok d S1 =>
      rw [e] at q
      exact fun v F1 H1 x1 s1 f1 r1 => hT d S1 v F1 H1 e x1 r1 (PostG.shift (show PostG X.K g W σ b F H (repIt X.K) R (ofO (itemsOf d) S1) from q) s1 f1)
  cases hm : m S with
  | stuck => unfold mItems M.bind at q; rw [hm] at q; exact q.elim
  | exc c d bx' => exact (pi_list h).run pins s σ H R I (key fun d S1 v F1 H1 e _ _ _ => by rw [hm] at e; cases e)
  | ok d S1 =>
    have stk : (∀ ds, d ≠ .list ds) → (∀ ds, d ≠ .tuple ds) → (∀ z, d ≠ .str z) → False := fun n1 n2 n3 => by
      unfold mItems M.bind at q
      rw [hm] at q
      cases d with
      | list ds => exact n1 ds rfl
      | tuple ds => exact n2 ds rfl
      | str z => exact n3 z rfl
      | none => exact q
      | bool _ => exact q
      | int _ => exact q
      | dict _ => exact q
    cases d with
    | list ds =>
      refine (pi_list h).run pins s σ H R I (key fun d S2 v F1 H1 e x1 r1 q1 => ?_)
      rw [hm] at e
      cases e
      obtain ⟨a, xs, rfl, h1, h2⟩ := dp_list r1
      exact ⟨a, rfl, ⟨xs, seqL_mono x1.ff h1⟩, q1 _ F1 H1 x1 (Same.refl _) (Fr.refl _ _) (wk_list h1 h2)⟩
    | tuple ds =>
      refine (pi_tup h).run pins s σ H R I (key fun d S2 v F1 H1 e x1 r1 q1 => ?_)
      rw [hm] at e
      cases e
      obtain ⟨a, xs, rfl, h1, h2⟩ := dp_tup r1
      exact ⟨a, rfl, ⟨xs, seqT_mono x1.ff h1⟩, q1 _ F1 H1 x1 (Same.refl _) (Fr.refl _ _) (wk_tup h1 h2)⟩
    | str z =>
      refine (pi_str h).run pins s σ H R I (key fun d S2 v F1 H1 e x1 r1 q1 => ?_)
      rw [hm] at e
      cases e
      cases dp_strE r1
      exact ⟨z, rfl, q1 _ F1 H1 x1 (Same.refl _) (Fr.refl _ _) wk_str⟩
    | none => exact (stk (fun _ z => by cases z) (fun _ z => by cases z) (fun _ z => by cases z)).elim
    | bool _ => exact (stk (fun _ z => by cases z) (fun _ z => by cases z) (fun _ z => by cases z)).elim
    | int _ => exact (stk (fun _ z => by cases z) (fun _ z => by cases z) (fun _ z => by cases z)).elim
    | dict _ => exact (stk (fun _ z => by cases z) (fun _ z => by cases z) (fun _ z => by cases z)).elim
/-- an argument list, then an operation on it -/
theorem PI.of {it : Expr} {t t' : TI} (h : PI X tg it t) (i : ∀ σ H Q, t' σ H Q → t σ H Q) : PI X tg it t' := ⟨fun pins s σ H Q I q => h.run pins s σ H Q I (i σ H Q q)⟩
theorem repL1 {K : PySem.W.Frag} {b : Bs} {F H : Hp} {vs : List V} {d : D} (h : repL (repE K) b F H vs [d]) : ∃ v, vs = [v] ∧ Dp K F v d := by
  have l := h.1
  match vs, l with
  | [v], _ => exact ⟨v, rfl, h.2 0 v d rfl rfl⟩
theorem repL2 {K : PySem.W.Frag} {b : Bs} {F H : Hp} {vs : List V} {d d' : D} (h : repL (repE K) b F H vs [d, d']) : ∃ v v', vs = [v, v'] ∧ Dp K F v d ∧ Dp K F v' d' := by
  have l := h.1
  match vs, l with
  | [v, v'], _ => exact ⟨v, v', rfl, h.2 0 v d rfl rfl, h.2 1 v' d' rfl rfl⟩
theorem repL3 {K : PySem.W.Frag} {b : Bs} {F H : Hp} {vs : List V} {d d' d'' : D} (h : repL (repE K) b F H vs [d, d', d'']) : ∃ v v' v'', vs = [v, v', v''] ∧ Dp K F v d ∧ Dp K F v' d' ∧ Dp K F v'' d'' := by
  have l := h.1
  match vs, l with
  | [v, v', v''], _ => exact ⟨v, v', v'', rfl, h.2 0 v d rfl rfl, h.2 1 v' d' rfl rfl, h.2 2 v'' d'' rfl rfl⟩
abbrev JAe (X : Cx) (g : Gx) (W : WX) (es : List Expr) (m : M (List D)) : Prop := PA X es (tG X.K g W (repL (repE X.K)) m)
theorem seq_len {α : Type} : ∀ {ms : List (M α)} {S S' : Sto} {as : List α}, mSeq ms S = .ok as S' → as.length = ms.length
  | [], S, S', as, h => by cases h; rfl
  | m :: ms, S, S', as, h => by
    unfold mSeq M.bind R.bind at h
    split at h
    · rename_i a S1 e
      dsimp only at h
      split at h
      · rename_i bs S2 e2
        cases h
        rw [List.length_cons, List.length_cons, seq_len e2]
      · cases h
      · cases h
    · cases h
    · cases h
/-- bindP that keeps the run's equation -/
theorem bindPE {α β α' β' : Type} {K : PySem.W.Frag} {σ : L2.St} {b : Bs} {F H : Hp} {S : Sto} {rep1 : Rp α β} {rep2 : Rp α' β'} {Q : β' → Hp → Prop} {T : β → Hp → Prop}
    {m : M α} {k : α → Sto → R α'} (x : SR K g b F S σ H) (h : PostG K g W σ b F H rep2 Q ((m S).bind k))
    (hT : ∀ (a : α) (S1 : Sto) (v : β) (F1 H1 : Hp), m S = .ok a S1 → SR K g b F1 S1 σ H1 → Same F F1 → Fr b H H1 → rep1 b F1 H1 v a → PostG K g W σ b F1 H1 rep2 Q (k a S1) → T v H1) : tG K g W rep1 m σ H T := by
  refine ⟨b, F, S, x, ?_⟩
  cases e : m S with
  | stuck => rw [e] at h; exact h
  | exc c d bx' => rw [e] at h; exact h
  | ok a S1 =>
    rw [e] at h
    exact fun v F1 H1 x1 s1 f1 r1 => hT a S1 v F1 H1 e x1 s1 f1 r1 (PostG.shift (show PostG K g W σ b F H rep2 Q (k a S1) from h) s1 f1)
theorem rangeOf2 {ds : List D} {o : List D} (h : rangeOf ds = some o) (hl : ds.length = 2) : ∃ i j, ds = [.int i, .int j] ∧ (-(2 ^ 62) ≤ i ∧ i < 2 ^ 62) ∧ (-(2 ^ 62) ≤ j ∧ j < 2 ^ 62) ∧ o = rangeD i 1 (j - i).toNat := by
  unfold rangeOf at h
  split at h
  · cases hl
  · rename_i i j
    split at h
    · rename_i z
      rw [Bool.and_eq_true] at z
      cases h
      exact ⟨i, j, rfl, in62_ok z.1, in62_ok z.2, rfl⟩
    · cases h
  · cases hl
  · cases h
theorem rangeOf1 {ds : List D} {o : List D} (h : rangeOf ds = some o) (hl : ds.length = 1) : ∃ j, ds = [.int j] ∧ (-(2 ^ 62) ≤ j ∧ j < 2 ^ 62) ∧ o = rangeD 0 1 j.toNat := by
  unfold rangeOf at h
  split at h
  · rename_i j
    split at h
    · rename_i z
      cases h
      exact ⟨j, rfl, in62_ok z, rfl⟩
    · cases h
  · cases hl
  · cases hl
  · cases h
theorem rangeOf3 {ds : List D} {o : List D} (h : rangeOf ds = some o) (hl : ds.length = 3) : ∃ i j, ds = [.int i, .int j, .int (-1)] ∧ (-(2 ^ 62) ≤ i ∧ i < 2 ^ 62) ∧ (-(2 ^ 62) ≤ j ∧ j < 2 ^ 62) ∧ o = rangeD i (-1) (i - j).toNat := by
  unfold rangeOf at h
  split at h
  · cases hl
  · cases hl
  · rename_i i j c
    split at h
    · rename_i z
      cases h
      obtain ⟨rfl, z1, z2⟩ := z
      exact ⟨i, j, rfl, in62_ok z1, in62_ok z2, rfl⟩
    · cases h
  · cases h
theorem ji_range1 {a : Expr} {p pos : Pos} {ms : List (M D)} (hl : ms.length = 1) (hg : L2.Gl X "range") (hm : X.mg "range" = none) (ha : JAe X g W [a] (mSeq ms)) (hs : starEach [a] X.env = [(false, eval a X.env)]) : JI X g W tg (.Call (.Name "range" p) [a] [] pos) (mRange (mSeq ms)) :=
  PI.of (pi_range1 hg hm ha hs) fun σ H R ⟨b, F, S, x, q⟩ => bindPE x q fun ds S1 vs F1 H1 e x1 s1 f1 r1 q1 => by
    obtain ⟨o, e2, q2⟩ := ofO_post q1
    obtain ⟨j, rfl, z, rfl⟩ := rangeOf1 e2 ((seq_len e).trans hl)
    obtain ⟨v, rfl, r⟩ := repL1 r1
    cases dp_int r
    exact ⟨j, rfl, z.1, z.2, q2 _ F1 H1 x1 (Same.refl _) (Fr.refl _ _) wk_range⟩
theorem ji_range2 {a a' : Expr} {p pos : Pos} {ms : List (M D)} (hl : ms.length = 2) (hg : L2.Gl X "range") (hm : X.mg "range" = none) (ha : JAe X g W [a, a'] (mSeq ms)) (hs : starEach [a, a'] X.env = [(false, eval a X.env), (false, eval a' X.env)]) (hs' : starEach [a'] X.env = [(false, eval a' X.env)]) :
    JI X g W tg (.Call (.Name "range" p) [a, a'] [] pos) (mRange (mSeq ms)) :=
  PI.of (pi_range2 hg hm ha hs hs') fun σ H R ⟨b, F, S, x, q⟩ => bindPE x q fun ds S1 vs F1 H1 e x1 s1 f1 r1 q1 => by
    obtain ⟨o, e2, q2⟩ := ofO_post q1
    obtain ⟨i, j, rfl, z, z', rfl⟩ := rangeOf2 e2 ((seq_len e).trans hl)
    obtain ⟨v, v', rfl, r, r'⟩ := repL2 r1
    cases dp_int r
    cases dp_int r'
    exact ⟨i, j, rfl, ⟨z.1, z.2, z'.1, z'.2⟩, q2 _ F1 H1 x1 (Same.refl _) (Fr.refl _ _) wk_range⟩
theorem ji_range3 {a a' a'' : Expr} {p pos : Pos} {ms : List (M D)} (hl : ms.length = 3) (hg : L2.Gl X "range") (hm : X.mg "range" = none) (ha : JAe X g W [a, a', a''] (mSeq ms)) (h : PI X tg (.Call (.Name "range" p) [a, a', a''] [] pos) (iRng3 (tG X.K g W (repL (repE X.K)) (mSeq ms)))) :
    JI X g W tg (.Call (.Name "range" p) [a, a', a''] [] pos) (mRange (mSeq ms)) :=
  PI.of h fun σ H R ⟨b, F, S, x, q⟩ => bindPE x q fun ds S1 vs F1 H1 e x1 s1 f1 r1 q1 => by
    obtain ⟨o, e2, q2⟩ := ofO_post q1
    obtain ⟨i, j, rfl, z, z', rfl⟩ := rangeOf3 e2 ((seq_len e).trans hl)
    obtain ⟨v, v', v'', rfl, r, r', r''⟩ := repL3 r1
    cases dp_int r
    cases dp_int r'
    cases dp_int r''
    exact ⟨i, j, -1, _, rfl, RgC.neg z.1 z.2 z'.1 z'.2, q2 _ F1 H1 x1 (Same.refl _) (Fr.refl _ _) wk_rangeC⟩
theorem ji_zip {a a' : Expr} {p pos tpos : Pos} {elts : List Expr} {kk : Nat} {ms : List (M D)} (hl : ms.length = 2) (hg : L2.Gl X "zip") (hm : X.mg "zip" = none) (ha : JAe X g W [a, a'] (mSeq ms)) (hs : noStar [a, a'] = true) :
    JI X g W (.Tuple elts kk tpos) (.Call (.Name "zip" p) [a, a'] [] pos) (mZip (mSeq ms)) :=
  PI.of (RZ.pi_zipA hg hm ha (star_cons hs) (star_any (noStar_tail hs))) fun σ H R ⟨b, F, S, x, q⟩ => bindPE x q fun ds S1 vs F1 H1 e x1 s1 f1 r1 q1 => by
    obtain ⟨o, e2, q2⟩ := ofO_post q1
    unfold zipOf at e2
    split at e2
    · cases e2
      obtain ⟨v, v', rfl, r, r'⟩ := repL2 r1
      obtain ⟨a, xs, rfl, h1, h2⟩ := dp_list r
      obtain ⟨a', ys, rfl, h1', h2'⟩ := dp_list r'
      exact ⟨a, a', xs, ys, rfl, .inl ⟨seqL_mono x1.ff h1, seqL_mono x1.ff h1', q2 _ F1 H1 x1 (Same.refl _) (Fr.refl _ _) (wk_zipL h1 h2 h1' h2')⟩⟩
    · cases e2
      obtain ⟨v, v', rfl, r, r'⟩ := repL2 r1
      obtain ⟨a, xs, rfl, h1, h2⟩ := dp_tup r
      obtain ⟨a', ys, rfl, h1', h2'⟩ := dp_tup r'
      exact ⟨a, a', xs, ys, rfl, .inr ⟨seqT_mono x1.ff h1, seqT_mono x1.ff h1', q2 _ F1 H1 x1 (Same.refl _) (Fr.refl _ _) (wk_zipT h1 h2 h1' h2')⟩⟩
    · cases e2
theorem ji_enum {a : Expr} {p pos tpos : Pos} {elts : List Expr} {kk : Nat} {ms : List (M D)} (hl : ms.length = 1) (hg : L2.Gl X "enumerate") (hm : X.mg "enumerate" = none) (ha : JAe X g W [a] (mSeq ms)) (hs : starEach [a] X.env = [(false, eval a X.env)]) :
    JI X g W (.Tuple elts kk tpos) (.Call (.Name "enumerate" p) [a] [] pos) (mEnum (mSeq ms)) :=
  PI.of (pi_enumA hg hm ha hs) fun σ H R ⟨b, F, S, x, q⟩ => bindPE x q fun ds S1 vs F1 H1 e x1 s1 f1 r1 q1 => by
    obtain ⟨o, e2, q2⟩ := ofO_post q1
    unfold enumOf at e2
    split at e2
    · cases e2
      obtain ⟨v, rfl, r⟩ := repL1 r1
      obtain ⟨a, xs, rfl, h1, h2⟩ := dp_list r
      exact ⟨a, xs, rfl, .inl ⟨seqL_mono x1.ff h1, q2 _ F1 H1 x1 (Same.refl _) (Fr.refl _ _) (wk_enum h1 h2)⟩⟩
    · cases e2
      obtain ⟨v, rfl, r⟩ := repL1 r1
      obtain ⟨a, xs, rfl, h1, h2⟩ := dp_tup r
      exact ⟨a, xs, rfl, .inr ⟨seqT_mono x1.ff h1, q2 _ F1 H1 x1 (Same.refl _) (Fr.refl _ _) (wk_enumT h1 h2)⟩⟩
    · cases e2

/-! ### targets -/
abbrev Tgt := D → List DV → Option (List DV)
/-- a target does as st tells, in the slots js -/
def TgOk (X : Cx) (g : Gx) (tg : Expr) (G : TG) (st : Tgt) (js : List Nat) : Prop := PG X tg G ∧ ∀ (b : Bs) (F : Hp) (S : Sto) (σ : L2.St) (H : Hp) (v : V) (d : D) (sl' : List DV) (Q : L2.St → Hp → Prop), SR X.K g b F S σ H → Dp X.K F v d → st d S.sl = some sl' →
  (∀ σ', SR X.K g b F { S with sl := sl' } σ' H → (∀ vs : List Nat, (∀ j ∈ js, j ∈ vs) → wipe σ' vs = wipe σ vs) → Q σ' H) → G v σ H Q
def TgsOk (X : Cx) (g : Gx) (tgs : List Expr) (G : TGs) (st : List D → List DV → Option (List DV)) (js : List Nat) : Prop := PGs X tgs G ∧ ∀ (b : Bs) (F : Hp) (S : Sto) (σ : L2.St) (H : Hp) (vs : List V) (ds : List D) (sl' : List DV) (Q : L2.St → Hp → Prop), SR X.K g b F S σ H → DpAll X.K F vs ds → st ds S.sl = some sl' →
  (∀ σ', SR X.K g b F { S with sl := sl' } σ' H → (∀ ws : List Nat, (∀ j ∈ js, j ∈ ws) → wipe σ' ws = wipe σ ws) → Q σ' H) → G vs σ H Q
theorem wipe_set {x : Option V} {i : Nat} : ∀ {vs : List Nat} {σ : L2.St}, i ∈ vs → wipe (σ.set i x) vs = wipe σ vs
  | v :: vs, σ, h => by
    unfold wipe
    by_cases e : i ∈ vs
    · rw [wipe_set e]
    · rcases List.mem_cons.mp h with rfl | h
      · have : ∀ (ws : List Nat) (τ : L2.St), (wipe (τ.set i x) ws).set i none = (wipe τ ws).set i none := fun ws => by
          induction ws with
          | nil => intro τ; show (τ.set i x).set i none = τ.set i none; rw [List.set_set]
          | cons w ws ih =>
            intro τ
            show ((wipe (τ.set i x) ws).set w none).set i none = ((wipe τ ws).set w none).set i none
            by_cases z : w = i
            · subst z
              rw [List.set_set, List.set_set, ih]
            · rw [List.set_comm _ _ z, ih, List.set_comm _ _ (Ne.symm z)]
        exact this vs σ
      · exact absurd h e
theorem SR.set {K : PySem.W.Frag} {b : Bs} {F H : Hp} {S : Sto} {σ : L2.St} {i : Nat} {v : V} {d : D} (x : SR K g b F S σ H) (h : Dp K F v d) : SR K g b F { S with sl := S.sl.set i (.sh d) } (σ.set i (some v)) H where
  len := by
    show (S.sl.set i (.sh d)).length = _
    rw [List.length_set, List.length_set]
    exact x.len
  ff := x.ff
  f0 := x.f0
  fn := x.fn
  nt := x.nt
  ext := x.ext
  slot j u w e1 e2 := by
    rcases get_set e1 with ⟨rfl, rfl⟩ | ⟨n1, e1⟩
    · rcases get_set e2 with ⟨_, rfl⟩ | ⟨n2, _⟩
      · exact ⟨v, rfl, h⟩
      · exact absurd rfl n2
    · rcases get_set e2 with ⟨z, _⟩ | ⟨_, e2⟩
      · exact absurd z n1
      · exact x.slot j u w e1 e2
  dist j k d1 d2 y n e1 e2 e3 := by
    rcases get_set e1 with ⟨_, z⟩ | ⟨n1, e1⟩
    · cases z
    rcases get_set e2 with ⟨_, z⟩ | ⟨n2, e2⟩
    · cases z
    rcases get_set e3 with ⟨z, _⟩ | ⟨_, e3⟩
    · exact absurd z n1
    intro e4
    rcases get_set e4 with ⟨z, _⟩ | ⟨_, e4⟩
    · exact absurd z n2
    exact x.dist j k d1 d2 y n e1 e2 e3 e4
  box := x.box
  tabs := x.tabs
/-- the slot of a name that may be stored to -/
def locC (c : Ct) (x : Str) : Option Nat := if c.own x = true then match c.sc.names.lookup x with
  | some .local => c.N.idxOf? x
  | some .cell => c.N.idxOf? x
  | _ => none else none
theorem loc_ok {c : Ct} {x : Str} {i : Nat} (h : locC c x = some i) : c.N[i]? = some x ∧ Loc c.sc x ∧ c.own x = true := by
  unfold locC at h
  split at h
  rotate_left
  · cases h
  rename_i ho
  unfold L2.Loc
  split at h
  · rename_i e; exact ⟨idx_get h, .inl e, ho⟩
  · rename_i e; exact ⟨idx_get h, .inr e, ho⟩
  · cases h
theorem pg_loc {c : Ct} (f : Fx X g W c) {x : Str} {i : Nat} {pos : Pos} (h : locC c x = some i) : PG X (.Name x pos) (gName i) := by
  obtain ⟨h1, h2, ho⟩ := loc_ok h
  have hz := f.hf x ho h2
  rw [← f.sc] at h2 hz
  rw [← f.N] at h1
  exact pg_name (by rw [f.N]; exact f.nd) h1 h2 hz
def stName (i : Nat) : Tgt := fun d sl => some (sl.set i (.sh d))
theorem tg_name {c : Ct} (f : Fx X g W c) {x : Str} {i : Nat} {pos : Pos} (h : locC c x = some i) : TgOk X g (.Name x pos) (gName i) (stName i) [i] :=
  ⟨pg_loc f h, fun b F S σ H v d sl' Q x r e k => by
    cases e
    exact k _ (x.set r) fun vs hv => wipe_set (hv i (by simp))⟩
def stNone : Tgt := fun _ _ => none
theorem tg_none (X : Cx) (g : Gx) (tg : Expr) : TgOk X g tg (fun _ _ _ _ => False) stNone [] := ⟨⟨fun _ _ _ _ _ _ _ _ _ h => h.elim⟩, fun b F S σ H v d sl' Q x r e k => by cases e⟩
def stNil : List D → List DV → Option (List DV) := fun ds sl => if ds = [] then some sl else none
def stCons (t : Tgt) (u : List D → List DV → Option (List DV)) : List D → List DV → Option (List DV) := fun ds sl => match ds with
  | [] => none
  | d :: ds => (t d sl).bind fun sl' => u ds sl'
def stTup (n : Nat) (u : List D → List DV → Option (List DV)) : Tgt := fun d sl => match d with
  | .tuple ds => if ds.length = n then u ds sl else none
  | _ => none
theorem tgs_nil (X : Cx) (g : Gx) : TgsOk X g [] gNil stNil [] := ⟨pgs_nil, fun b F S σ H vs ds sl' Q x r e k => by
  unfold stNil at e
  split at e
  · rename_i z
    subst z
    cases e
    cases r
    exact ⟨rfl, k σ x fun _ _ => rfl⟩
  · cases e⟩
theorem tgs_cons {e : Expr} {es : List Expr} {t : Tgt} {u : List D → List DV → Option (List DV)} {js ks : List Nat} {G1 : TG} {G2 : TGs} (h1 : TgOk X g e G1 t js) (h2 : TgsOk X g es G2 u ks) (hs : (assignEach (e :: es) X.env).map (·.2) = assign e X.env :: (assignEach es X.env).map (·.2)) : TgsOk X g (e :: es) (gCons G1 G2) (stCons t u) (js ++ ks) := by
  obtain ⟨p1, q1⟩ := h1
  obtain ⟨p2, q2⟩ := h2
  refine ⟨pgs_cons p1 p2 hs, fun b F S σ H vs ds sl' Q x r e k => ?_⟩
  cases r with
  | nil => cases e
  | @cons v0 vs0 d0 ds0 r rr =>
    have e : (t d0 S.sl).bind (fun sl' => u ds0 sl') = some sl' := e
    cases et : t d0 S.sl with
    | none => rw [et] at e; cases e
    | some sl1 =>
      rw [et] at e
      refine ⟨_, _, rfl, q1 b F S σ H _ _ sl1 _ x r et fun σ1 x1 w1 => ?_⟩
      exact q2 b F { S with sl := sl1 } σ1 H _ _ sl' Q x1 rr e fun σ2 x2 w2 => k σ2 x2 fun ws hw => (w2 ws fun j hj => hw j (List.mem_append_right _ hj)).trans (w1 ws fun j hj => hw j (List.mem_append_left _ hj))
theorem tg_tup {es : List Expr} {k : Nat} {pos : Pos} {u : List D → List DV → Option (List DV)} {n : Nat} {js : List Nat} {G : TGs} (hc : X.calm = true) (h : TgsOk X g es G u js) (hn : (assignEach es X.env).length = n) (hst : (assignEach es X.env).findIdx? (·.1) = none) : TgOk X g (.Tuple es k pos) (gTup X.K n G) (stTup n u) js := by
  obtain ⟨p, q⟩ := h
  refine ⟨pg_tup hc p hn hst, fun b F S σ H v d sl' Q x r e k => ?_⟩
  unfold stTup at e
  split at e
  · split at e
    · rename_i hz
      obtain ⟨a, xs, rfl, h1, h2⟩ := dp_tup r
      exact ⟨a, xs, rfl, seqT_mono x.ff h1, (dpl_len h2).trans hz, q b F S σ H _ _ sl' Q x h2 e k⟩
    · cases e
  · cases e
end
end Gl

set_option maxRecDepth 100000
set_option maxHeartbeats 1000000
/-! The general layer, part F: statements. -/
namespace Gl
open PySem PySem.Spec PyProof.Rows L2

def R.toO {α : Type} : R α → (α → Sto → O) → O
  | .ok a s, k => k a s
  | .exc c d b, _ => .exc c d b
  | .stuck, _ => .stuck
def O.bind : O → (Sto → O) → O
  | .next s, k => k s
  | o, _ => o
abbrev MS := Sto → O
def PostS (K : PySem.W.Frag) (g : Gx) (W : WX) (b : Bs) (F H : Hp) (E : Ends) : O → Prop
  | .next S' => ∀ (σ' : L2.St) (F' H' : Hp), SR K g b F' S' σ' H' → Same F F' → E.nx σ' H'
  | .brk S' => ∀ (σ' : L2.St) (F' H' : Hp), SR K g b F' S' σ' H' → Same F F' → E.bk σ' H'
  | .cont S' => ∀ (σ' : L2.St) (F' H' : Hp), SR K g b F' S' σ' H' → Same F F' → E.ct σ' H'
  | .ret d S' => ∀ (v : V) (F' H' : Hp), SR K g b F' ⟨[], S'.bx⟩ [] H' → Same F F' → Dp K F' v d → E.rt v H'
  | .exc c d bx' => ∀ σ, ExcP K g W σ b c d bx'
  | .stuck => False
def tS (K : PySem.W.Frag) (g : Gx) (W : WX) (m : MS) : TS := fun E σ H => ∃ (b : Bs) (F : Hp) (S : Sto), SR K g b F S σ H ∧ PostS K g W b F H E (m S)
abbrev JS (X : Cx) (g : Gx) (W : WX) (st : Stmt) (m : MS) : Prop := PS X st (tS X.K g W m)
abbrev JSs (X : Cx) (g : Gx) (W : WX) (st : List Stmt) (m : MS) : Prop := PSs X st (tS X.K g W m)
def sStuck : MS := fun _ => .stuck
def sNext : MS := fun S => .next S
def sSeq (m n : MS) : MS := fun S => (m S).bind n
def sE {α : Type} (m : M α) (k : α → MS) : MS := fun S => (m S).toO k
def sSet (i : Nat) (d : D) : MS := fun S => .next { S with sl := S.sl.set i (.sh d) }
def sStore (st : Tgt) (d : D) : MS := fun S => match st d S.sl with
  | some sl' => .next { S with sl := sl' }
  | none => .stuck
def sRet (m : M D) : MS := sE m fun d S => .ret d S
def sIf (m : M Bool) (a b : MS) : MS := sE m fun k => if k then a else b
def sRaise (n : Nat) (m : M D) : MS := sE m fun d S => .exc n d S.bx
def loopF (st : Tgt) (mb : MS) : List D → MS
  | [], S => .next S
  | d :: ds, S => match st d S.sl with
    | none => .stuck
    | some sl' => match mb { S with sl := sl' } with
      | .next S' => loopF st mb ds S'
      | .cont S' => loopF st mb ds S'
      | .brk S' => .next S'
      | .ret d S' => .ret d S'
      | .exc c d b => .exc c d b
      | .stuck => .stuck
def sFor (mi : M (List D)) (st : Tgt) (mb : MS) : MS := sE mi fun ds => loopF st mb ds
def loopW (mc : M Bool) (mb : MS) : Nat → MS
  | 0, _ => .stuck
  | n + 1, S => match mc S with
    | .ok true S1 => match mb S1 with
      | .next S' => loopW mc mb n S'
      | .cont S' => loopW mc mb n S'
      | .brk S' => .next S'
      | .ret d S' => .ret d S'
      | .exc c d b => .exc c d b
      | .stuck => .stuck
    | .ok false S1 => .next S1
    | .exc c d b => .exc c d b
    | .stuck => .stuck
open Classical in
/-- a while: what it gives with enough turns -/
noncomputable def sWhile (mc : M Bool) (mb : MS) : MS := fun S => if h : ∃ n, loopW mc mb n S ≠ .stuck then loopW mc mb (Classical.choose h) S else .stuck
theorem loopW_mono {mc : M Bool} {mb : MS} : ∀ {n : Nat} {S : Sto}, loopW mc mb n S ≠ .stuck → ∀ k, loopW mc mb (n + k) S = loopW mc mb n S
  | 0, _, h, _ => absurd rfl h
  | n + 1, S, h, k => by
    have e : n + 1 + k = (n + k) + 1 := by omega
    rw [e]
    unfold loopW at h ⊢
    split <;> rename_i e1
    · rw [e1] at h
      dsimp only at h ⊢
      split <;> rename_i e2
      · rw [e2] at h
        exact loopW_mono h k
      · rw [e2] at h
        exact loopW_mono h k
      all_goals rfl
    all_goals rfl
/-- the way to know a while -/
theorem sWhile_eq {mc : M Bool} {mb : MS} {S : Sto} {n : Nat} {o : O} (h : loopW mc mb n S = o) (ho : o ≠ .stuck) : sWhile mc mb S = o := by
  have hx : ∃ n, loopW mc mb n S ≠ .stuck := ⟨n, by rw [h]; exact ho⟩
  unfold sWhile
  rw [dif_pos hx]
  have h1 := Classical.choose_spec hx
  have h2 := loopW_mono h1 n
  have h3 := loopW_mono (n := n) (S := S) (by rw [h]; exact ho) (Classical.choose hx)
  rw [Nat.add_comm] at h3
  rw [← h2, h3, h]

section
variable {X : Cx} {g : Gx} {W : WX} {c : Ct}
theorem PostS.shift {K : PySem.W.Frag} {b : Bs} {F F1 H H1 : Hp} {E : Ends} {o : O} (h : PostS K g W b F H E o) (s : Same F F1) : PostS K g W b F1 H1 E o := by
  cases o with
  | next S' => exact fun σ' F' H' x s' => h σ' F' H' x (s.trans s')
  | brk S' => exact fun σ' F' H' x s' => h σ' F' H' x (s.trans s')
  | cont S' => exact fun σ' F' H' x s' => h σ' F' H' x (s.trans s')
  | ret d S' => exact fun v F' H' x s' r => h v F' H' x (s.trans s') r
  | exc c d bx' => exact h
  | stuck => exact h
/-- other ends -/
theorem PostS.ends {K : PySem.W.Frag} {b : Bs} {F H : Hp} {E E' : Ends} {o : O} (h : PostS K g W b F H E o) (hn : ∀ σ H, E.nx σ H → E'.nx σ H) (hb : ∀ σ H, E.bk σ H → E'.bk σ H) (hc : ∀ σ H, E.ct σ H → E'.ct σ H) (hr : ∀ v H, E.rt v H → E'.rt v H) : PostS K g W b F H E' o := by
  cases o with
  | next S' => exact fun σ' F' H' x s => hn _ _ (h σ' F' H' x s)
  | brk S' => exact fun σ' F' H' x s => hb _ _ (h σ' F' H' x s)
  | cont S' => exact fun σ' F' H' x s => hc _ _ (h σ' F' H' x s)
  | ret d S' => exact fun v F' H' x s r => hr _ _ (h v F' H' x s r)
  | exc c d bx' => exact h
  | stuck => exact h
theorem js_stuck {st : Stmt} : JS X g W st sStuck := ⟨fun pins s σ H E I ⟨b, F, S, x, q⟩ => q.elim⟩
theorem jss_stuck {st : List Stmt} : JSs X g W st sStuck := ⟨fun pins s σ H E I ⟨b, F, S, x, q⟩ => q.elim⟩
/-- an expression first -/
theorem bindS {α β : Type} {K : PySem.W.Frag} {σ : L2.St} {b : Bs} {F H : Hp} {S : Sto} {rep1 : Rp α β} {T : β → Hp → Prop} {E : Ends} {m : M α} {k : α → MS} (x : SR K g b F S σ H) (h : PostS K g W b F H E (sE m k S))
    (hT : ∀ (a : α) (S1 : Sto) (v : β) (F1 H1 : Hp), SR K g b F1 S1 σ H1 → Same F F1 → Fr b H H1 → rep1 b F1 H1 v a → PostS K g W b F1 H1 E (k a S1) → T v H1) : tG K g W rep1 m σ H T := by
  refine ⟨b, F, S, x, ?_⟩
  unfold sE R.toO at h
  cases e : m S with
  | stuck => rw [e] at h; exact h
  | exc c d bx' => rw [e] at h; exact h σ
  | ok a S1 =>
    rw [e] at h
    exact fun v F1 H1 x1 s1 f1 r1 => hT a S1 v F1 H1 x1 s1 f1 r1 (PostS.shift h s1)
theorem jss_nil : JSs X g W [] sNext := PSs.of pss_nil fun E σ H ⟨b, F, S, x, q⟩ => q σ F H x (Same.refl _)
theorem jss_cons {st : Stmt} {r : List Stmt} {m n : MS} (h1 : JS X g W st m) (h2 : JSs X g W r n) : JSs X g W (st :: r) (sSeq m n) := PSs.of (pss_cons h1 h2) fun E σ H ⟨b, F, S, x, q⟩ => by
  refine ⟨b, F, S, x, ?_⟩
  unfold sSeq at q
  cases e : m S with
  | next S' =>
    rw [e] at q
    exact fun σ' F' H' x' s' => ⟨b, F', S', x', PostS.shift (show PostS X.K g W b F H E (n S') from q) s'⟩
  | brk S' => rw [e] at q; exact q
  | cont S' => rw [e] at q; exact q
  | ret d S' => rw [e] at q; exact q
  | exc c d bx' => rw [e] at q; exact q
  | stuck => rw [e] at q; exact q
theorem js_pass {pos : Pos} : JS X g W (.Pass pos) sNext := PS.of ps_pass fun E σ H ⟨b, F, S, x, q⟩ => q σ F H x (Same.refl _)
theorem js_break {pos : Pos} : JS X g W (.Break pos) (fun S => .brk S) := PS.of ps_break fun E σ H ⟨b, F, S, x, q⟩ => q σ F H x (Same.refl _)
theorem js_continue {pos : Pos} : JS X g W (.Continue pos) (fun S => .cont S) := PS.of ps_continue fun E σ H ⟨b, F, S, x, q⟩ => q σ F H x (Same.refl _)
theorem js_ret {e : Expr} {pos : Pos} {m : M D} (h : JE X g W e m) : JS X g W (.Return (some e) pos) (sRet m) := PS.of (ps_ret h) fun E σ H ⟨b, F, S, x, q⟩ =>
  bindS x q fun d S1 v F1 H1 x1 s1 f1 r1 q1 => q1 v F1 H1 x1.forget (Same.refl _) r1
theorem js_retN {pos : Pos} : JS X g W (.Return none pos) (fun S => .ret .none S) := PS.of ps_retN fun E σ H ⟨b, F, S, x, q⟩ => q .non F H x.forget (Same.refl _) .non
def notComp : Expr → Bool
  | .ListComp .. => false
  | .SetComp .. => false
  | .DictComp .. => false
  | _ => true
theorem swaps_no {e : Expr} {t : Option Expr} {l : Nat} {env : Env} (h : notComp e = true) : swapsWith e t l env = pure false := by
  cases e <;> first | rfl | cases h
theorem js_expr {e : Expr} {pos : Pos} {m : M D} (h : JE X g W e m) (hn : notComp e = true) : JS X g W (.Expr e pos) (sE m fun _ => sNext) := PS.of (ps_expr h (swaps_no hn)) fun E σ H ⟨b, F, S, x, q⟩ =>
  bindS x q fun d S1 v F1 H1 x1 s1 f1 r1 q1 => q1 σ F1 H1 x1 (Same.refl _)
theorem js_if {t : Expr} {a e : List Stmt} {pos : Pos} {mc : M Bool} {ma mb : MS} (hc : JT X g W t mc) (ha : JSs X g W a ma) (hb : JSs X g W e mb) : JS X g W (.If t a e pos) (sIf mc ma mb) := PS.of (ps_if hc ha hb) fun E σ H ⟨b, F, S, x, q⟩ =>
  bindS x q fun k S1 v F1 H1 x1 s1 f1 r1 q1 => by
    cases (show v = k from r1)
    cases k with
    | true => exact iteT ⟨b, F1, S1, x1, q1⟩
    | false => exact iteF ⟨b, F1, S1, x1, q1⟩
theorem js_raise (f : Fx X g W c) {x : Str} {e : Expr} {p pos pos' : Pos} {n : Nat} {m : M D} (hg : isG c x = true) (hx : c.xs x = some n) (hl : 2 ≤ c.lv) (hs : noStar [e] = true) (h : JE X g W e m) :
    JS X g W (.Raise (some (.Call (.Name x p) [e] [] pos)) none pos') (sRaise n m) := by
  obtain ⟨C, fl, hC, mk⟩ := f.glo.xs x n hx
  have pm := mk X _ e p pos rfl rfl rfl rfl rfl (f.room.mono hl) (isG_ok f hg).1 h (star_cons hs) (star_any (noStar_tail hs))
  refine PS.of (ps_raise f.calm f.tk pm) fun E σ H ⟨b, F, S, x, q⟩ => ?_
  refine bindS x q fun d S1 v F1 H1 x1 s1 f1 r1 q1 => fun a ha => ?_
  have x2 := x1.call (x1.newU (o := .xd [(fl, v)]) ha)
  exact q1 σ a C fl v F1 _ hC x2.forget upd_same r1
/-- name = e -/
theorem js_set (f : Fx X g W c) {x : Str} {i : Nat} {e : Expr} {p pos : Pos} {m : M D} (hi : locC c x = some i) (h : JE X g W e m) (hn : notComp e = true) : JS X g W (.Assign [.Name x p] e pos) (sE m (sSet i)) :=
  PS.of (ps_asg h (pg_loc f hi) (swaps_no (t := some (.Name x p)) (l := pos.line) hn) rfl rfl) fun E σ H ⟨b, F, S, x, q⟩ => bindS x q fun d S1 v F1 H1 x1 s1 f1 r1 q1 => q1 _ F1 H1 (x1.set r1) (Same.refl _)
theorem js_asg {tg e : Expr} {pos : Pos} {m : M D} {st : Tgt} {js : List Nat} {G : TG} (ht : TgOk X g tg G st js) (h : JE X g W e m) (hs : swapsWithSole [tg] e pos.line X.env = pure false) (hw : swappedStores [tg] e X.env = pure none)
    (h1 : (assignEach [tg] X.env).map (·.2) = [assign tg X.env]) : JS X g W (.Assign [tg] e pos) (sE m (sStore st)) := by
  obtain ⟨p, k⟩ := ht
  refine PS.of (ps_asg h p hs hw h1) fun E σ H ⟨b, F, S, x, q⟩ => bindS x q fun d S1 v F1 H1 x1 s1 f1 r1 q1 => ?_
  unfold sStore at q1
  split at q1
  · rename_i sl' e
    exact k b F1 S1 σ H1 v d sl' _ x1 r1 e fun σ' x' _ => q1 σ' F1 H1 x' (Same.refl _)
  · exact q1.elim
/-- a, b = x, y stored from the right -/
def sPar (is : List Nat) (ds : List D) : MS := fun S => if ds.length = is.length then .next { S with sl := (is.zip ds).foldl (fun sl p => sl.set p.1 (.sh p.2)) S.sl } else .stuck
theorem js_par2 (f : Fx X g W c) {i j : Nat} {x y : Str} {a e : Expr} {ms : List (M D)} {px py pt pos pt2 : Pos} {kt k2 : Nat} (hi : locC c x = some i) (hj : locC c y = some j) (hij : i ≠ j) (ha : JAe X g W [a, e] (mSeq ms))
    (h : PS X (.Assign [.Tuple [.Name x px, .Name y py] kt pt] (.Tuple [a, e] k2 pt2) pos) (tPar i j (tG X.K g W (repL (repE X.K)) (mSeq ms)))) :
    JS X g W (.Assign [.Tuple [.Name x px, .Name y py] kt pt] (.Tuple [a, e] k2 pt2) pos) (sE (mSeq ms) (sPar [i, j])) := by
  refine PS.of h fun E σ H ⟨b, F, S, x, q⟩ => bindS x q fun ds S1 vs F1 H1 x1 s1 f1 r1 q1 => ?_
  unfold sPar at q1
  split at q1
  · rename_i hz
    match ds, hz with
    | [d, d'], _ =>
      obtain ⟨v, v', rfl, r, r'⟩ := repL2 r1
      exact ⟨v, v', rfl, q1 _ F1 H1 ((x1.set r).set r') (Same.refl _)⟩
  · exact q1.elim
theorem js_par3 {i j l : Nat} {x y z : Str} {a e e' : Expr} {ms : List (M D)} {px py pz pt pos pt2 : Pos} {kt k2 : Nat} (ha : JAe X g W [a, e, e'] (mSeq ms))
    (h : PS X (.Assign [.Tuple [.Name x px, .Name y py, .Name z pz] kt pt] (.Tuple [a, e, e'] k2 pt2) pos) (tPar3 i j l (tG X.K g W (repL (repE X.K)) (mSeq ms)))) :
    JS X g W (.Assign [.Tuple [.Name x px, .Name y py, .Name z pz] kt pt] (.Tuple [a, e, e'] k2 pt2) pos) (sE (mSeq ms) (sPar [i, j, l])) := by
  refine PS.of h fun E σ H ⟨b, F, S, x, q⟩ => bindS x q fun ds S1 vs F1 H1 x1 s1 f1 r1 q1 => ?_
  unfold sPar at q1
  split at q1
  · rename_i hz
    match ds, hz with
    | [d, d', d''], _ =>
      obtain ⟨v, v', v'', rfl, r, r', r''⟩ := repL3 r1
      exact ⟨v, v', v'', rfl, q1 _ F1 H1 (((x1.set r).set r').set r'') (Same.refl _)⟩
  · exact q1.elim
/-- name op= e, of ints -/
def augI : Operator → Int → Int → Option Int
  | .Add, i, j => some (i + j)
  | .Sub, i, j => some (i - j)
  | .Mult, i, j => if mulOk i j then some (i * j) else none
  | .FloorDiv, i, j => if divOk j then some (i.fdiv j) else none
  | .Mod, i, j => if j ≠ 0 then some (i.fmod j) else none
  | _, _, _ => none
def augD (op : Operator) : D → D → Option D
  | .int i, .int j => (augI op i j).map .int
  | _, _ => none
def sAug (op : Operator) (i : Nat) (m : M D) : MS := fun S => match S.sl[i]? with
  | some (.sh x) => sE (m.bind fun y => ofO (augD op x y)) (sSet i) S
  | _ => .stuck
theorem ip_augI (op : Operator) : PIp X op (fun x y H Q => ∃ i j k : Int, x = .int i ∧ y = .int j ∧ augI op i j = some k ∧ Q (.int k) H) := by
  intro pins s σ H x y v u Q I rx ry h
  obtain ⟨i, j, k, rfl, rfl, e, q⟩ := h
  obtain ⟨t, rfl⟩ := rx
  obtain ⟨t', rfl⟩ := ry
  have fin : EP X pins σ Q (.int k s.toks) { s with toks := s.toks + 1 } := ⟨.int k, H, I.tok _, ⟨_, rfl⟩, q⟩
  cases op with
  | Add => cases e; exact iadd_int fin
  | Sub => cases e; exact isub_int fin
  | Mult =>
    have e : (if mulOk i j then some (i * j) else none) = some k := e
    split at e
    · rename_i hz
      cases e
      exact imul_int fin (mulOk_ok hz)
    · cases e
  | FloorDiv =>
    have e : (if divOk j then some (i.fdiv j) else none) = some k := e
    split at e
    · rename_i hc'
      cases e
      unfold divOk at hc'
      rw [Bool.and_eq_true, Bool.or_eq_true] at hc'
      obtain ⟨h0, h | h2⟩ := hc'
      · exact ifloordiv_int (of_decide_eq_true h0) fin (.inl (PyProof.noPylong_small (of_decide_eq_true h)))
      · exact ifloordiv_int (of_decide_eq_true h0) fin (.inl (PyProof.noPylong_of_log2 (of_decide_eq_true h2)))
    · cases e
  | Mod =>
    have e : (if j ≠ 0 then some (i.fmod j) else none) = some k := e
    split at e
    · rename_i hz
      cases e
      exact imod_int hz fin
    · cases e
  | _ => cases e
theorem js_aug (f : Fx X g W c) {x : Str} {i : Nat} {e : Expr} {p pos : Pos} {op : Operator} {m : M D} (hi : locC c x = some i) (h : JE X g W e m) : JS X g W (.AugAssign (.Name x p) op e pos) (sAug op i m) := by
  obtain ⟨h1, h2, ho⟩ := loc_ok hi
  have hz := f.hf x ho h2
  rw [← f.sc] at h2 hz
  rw [← f.N] at h1
  refine PS.of (ps_aug (by rw [f.N]; exact f.nd) h1 h2 h (ip_augI op) hz) fun E σ H ⟨b, F, S, x, q⟩ => ?_
  unfold sAug at q
  split at q
  · rename_i d e1
    obtain ⟨v, e2, hv⟩ := x.get e1
    refine ⟨v, e2, ?_⟩
    have q' : PostS X.K g W b F H E (sE m (fun y => sE (ofO (augD op d y)) (sSet i)) S) := by
      have : sE (m.bind fun y => ofO (augD op d y)) (sSet i) S = sE m (fun y => sE (ofO (augD op d y)) (sSet i)) S := by
        unfold sE M.bind
        cases m S <;> rfl
      rw [← this]
      exact q
    refine bindS x q' fun d2 S1 w F1 H1 x1 s1 f1 r1 q1 => ?_
    cases eo : augD op d d2 with
    | none => rw [eo] at q1; exact q1.elim
    | some d3 =>
      rw [eo] at q1
      unfold augD at eo
      split at eo
      · rename_i i1 j1
        cases ek : augI op i1 j1 with
        | none => rw [ek] at eo; cases eo
        | some k =>
          rw [ek] at eo
          cases eo
          cases dp_int hv
          cases dp_int r1
          exact ⟨i1, j1, k, rfl, rfl, ek, q1 _ F1 H1 (x1.set (.int k)) (Same.refl _)⟩
      · cases eo
  · exact q.elim

/-! ### loops -/
theorem yd_next {K : PySem.W.Frag} {b : Bs} {F1 F H H' : Hp} {S : Sto} {σ : L2.St} {ds : List D} {i : Nat} {v : V} (x : SR K g b F S σ H) (s : Same F1 F) (y : YD K F1 ds i H v H') :
    ∃ (d : D) (F' : Hp), ds[i]? = some d ∧ SR K g (b.at F H) F' ⟨[], S.bx⟩ [] H' ∧ Dp K F' v d := by
  obtain ⟨d, e, ⟨rfl, h⟩ | ⟨T, u, w, dx, dy, rfl, hT, rfl, rfl, h1, h2⟩⟩ := y
  · exact ⟨d, F, e, x.base, dp_mono s _ _ h⟩
  · obtain ⟨y1, y2⟩ := x.tup (vs := [u, w]) (ds := [dx, dy]) hT (.cons (dp_mono s _ _ h1) (.cons (dp_mono s _ _ h2) .nil))
    exact ⟨_, _, e, y1, y2⟩
theorem drop_get {α : Type} {l : List α} {i : Nat} {a : α} (h : l[i]? = some a) : l.drop i = a :: l.drop (i + 1) := by
  obtain ⟨hi, e⟩ := List.getElem?_eq_some_iff.mp h
  rw [List.drop_eq_getElem_cons hi, e]
def noSet : Expr → Bool
  | .Set .. => false
  | _ => true
theorem noSet_ok {e : Expr} {env : Env} (h : noSet e = true) : ∀ x, foldedSetIterable e env x = pure x := by
  intro x
  cases e <;> first | rfl | cases h
theorem js_for {tg it : Expr} {body : List Stmt} {pos : Pos} {mi : M (List D)} {st : Tgt} {js : List Nat} {G : TG} {mb : MS} (hp : PassesOwn (model X.prog X.w) X.A X.env X.xe) (hc : X.calm = true) (hi : JI X g W tg it mi) (ht : TgOk X g tg G st js) (hb : JSs X g W body mb)
    (hn : noSet it = true) : JS X g W (.For tg it body [] pos) (sFor mi st mb) := by
  obtain ⟨p, k⟩ := ht
  refine PS.of (ps_for hp hc hi p hb (noSet_ok hn)) fun E σ H ⟨b, F, S, x, q⟩ => bindS x q fun ds S1 J F1 H1 x1 s1 f1 wk q1 => ?_
  refine for_it wk (fun i σ H => ∃ (F : Hp) (S : Sto), SR X.K g b F S σ H ∧ Same F1 F ∧ PostS X.K g W b F H E (loopF st mb (ds.drop i) S)) ⟨F1, S1, x1, Same.refl _, q1⟩ (fun i σ H _ ⟨F, S, x, s, _⟩ => s.trans x.ff) (fun i v σ H H' hi ⟨F, S, x, s, q⟩ y => ?_) fun σ H ⟨F, S, x, s, q⟩ => ?_
  · obtain ⟨d, F', e, yb, r⟩ := yd_next x s y
    have x' := x.call yb
    have s' : Same F F' := yb.f0
    rw [drop_get e] at q
    unfold loopF at q
    cases es : st d S.sl with
    | none => rw [es] at q; exact q.elim
    | some sl' =>
      rw [es] at q
      refine k b F' S σ H' v d sl' _ x' r es fun σ' x2 _ => ⟨b, F', _, x2, ?_⟩
      have q := PostS.shift (H1 := H') q s'
      cases eb : mb { S with sl := sl' } with
      | next S2 =>
        simp only [eb] at q
        exact fun σ3 F3 H3 x3 s3 => ⟨F3, S2, x3, s.trans (s'.trans s3), q.shift s3⟩
      | cont S2 =>
        simp only [eb] at q
        exact fun σ3 F3 H3 x3 s3 => ⟨F3, S2, x3, s.trans (s'.trans s3), q.shift s3⟩
      | brk S2 => simp only [eb] at q; exact q
      | ret d2 S2 => simp only [eb] at q; exact q
      | exc c d2 bx' => simp only [eb] at q; exact q
      | stuck => simp only [eb] at q; exact q
  · rw [List.drop_length] at q
    exact q σ F H x (Same.refl _)
theorem js_while {t : Expr} {body : List Stmt} {pos : Pos} {mc : M Bool} {mb : MS} (hp : PassesOwn (model X.prog X.w) X.A X.env X.xe) (hc : JT X g W t mc) (hb : JSs X g W body mb) : JS X g W (.While t body [] pos) (sWhile mc mb) := by
  refine PS.of (ps_while hp hc hb) fun E σ H ⟨b, F, S, x, q⟩ => ?_
  refine ⟨fun m σ H => ∃ (F : Hp) (S : Sto), SR X.K g b F S σ H ∧ PostS X.K g W b F H E (loopW mc mb m S), ?_, fun m σ H ⟨F, S, x, q⟩ => ?_⟩
  · unfold sWhile at q
    split at q
    · exact ⟨_, F, S, x, q⟩
    · exact q.elim
  · cases m with
    | zero => exact q.elim
    | succ n =>
      unfold loopW at q
      refine ⟨b, F, S, x, ?_⟩
      cases ec : mc S with
      | stuck => simp only [ec] at q; exact q
      | exc c d bx' => simp only [ec] at q; exact q σ
      | ok k S1 =>
        simp only [ec] at q
        intro v F1 H1 x1 s1 f1 r1
        cases (show v = k from r1)
        have q := PostS.shift (H1 := H1) q s1
        cases k with
        | false => exact iteF (q σ F1 H1 x1 (Same.refl _))
        | true =>
          refine iteT ⟨fun σ H => ∃ (F : Hp) (S : Sto), SR X.K g b F S σ H ∧ PostS X.K g W b F H E (loopW mc mb n S), fun σ' H' h => ⟨n, Nat.lt_succ_self _, h⟩, b, F1, S1, x1, ?_⟩
          cases eb : mb S1 with
          | next S2 =>
            simp only [eb] at q
            exact fun σ3 F3 H3 x3 s3 => ⟨F3, S2, x3, q.shift s3⟩
          | cont S2 =>
            simp only [eb] at q
            exact fun σ3 F3 H3 x3 s3 => ⟨F3, S2, x3, q.shift s3⟩
          | brk S2 => simp only [eb] at q; exact q
          | ret d2 S2 => simp only [eb] at q; exact q
          | exc c d2 bx' => simp only [eb] at q; exact q
          | stuck => simp only [eb] at q; exact q
end
end Gl

set_option maxRecDepth 100000
set_option maxHeartbeats 1000000
/-! The general layer: values that are new (lists of one's own on their way to a slot). -/
namespace Gl
open PySem PySem.Spec PyProof.Rows L2

theorem get_snoc {α : Type} {l : List α} {u y : α} {i : Nat} (h : (l ++ [u])[i]? = some y) : (i < l.length ∧ l[i]? = some y) ∨ (i = l.length ∧ y = u) := by
  by_cases hi : i < l.length
  · rw [List.getElem?_append_left hi] at h
    exact .inl ⟨hi, h⟩
  · rw [List.getElem?_append_right (by omega)] at h
    by_cases e : i = l.length
    · subst e
      rw [Nat.sub_self] at h
      exact .inr ⟨rfl, (Option.some.inj h).symm⟩
    · rw [show i - l.length = (i - l.length - 1) + 1 by omega] at h
      simp at h
section
variable {K : PySem.W.Frag} {g : Gx} {b : Bs} {F F' H H' H1 : Hp} {S : Sto} {σ : L2.St} {bx' : Bx}
/-- the slots without what hangs behind them -/
theorem SR.pre {gs : List DV} {ts : L2.St} {bx : Bx} {sl : List DV} (hl : sl.length = σ.length) (x : SR K g b F ⟨sl ++ gs, bx⟩ (σ ++ ts) H) : SR K g b F ⟨sl, bx⟩ σ H where
  len := hl
  ff := x.ff
  f0 := x.f0
  fn := x.fn
  nt := x.nt
  ext := x.ext
  slot i u y e1 e2 := x.slot i u y (by
    show (sl ++ gs)[i]? = _
    rw [List.getElem?_append_left (List.getElem?_eq_some_iff.mp e1).1]
    exact e1) (by
    rw [List.getElem?_append_left (List.getElem?_eq_some_iff.mp e2).1]
    exact e2)
  dist i j d e y n h1 h2 h3 := by
    have a : ∀ {k : Nat} {z : DV}, sl[k]? = some z → (sl ++ gs)[k]? = some z := fun {k z} e => by
      rw [List.getElem?_append_left (List.getElem?_eq_some_iff.mp e).1]
      exact e
    have c : ∀ {k : Nat} {z : Option V}, σ[k]? = some z → (σ ++ ts)[k]? = some z := fun {k z} e => by
      rw [List.getElem?_append_left (List.getElem?_eq_some_iff.mp e).1]
      exact e
    exact fun h4 => x.dist i j d e y n (a h1) (a h2) (c h3) (c h4)
  box := x.box
  tabs := x.tabs
/-- one more slot behind -/
theorem SR.snoc {u : DV} {t : Option V} {sl : List DV} {bx : Bx} (x : SR K g b F ⟨sl, bx⟩ σ H) (h : SlotOk K b F H u t) (hd : ∀ (d : D), u = DV.ow d → ∀ (i : Nat) (e : D) (y : Option V), sl[i]? = some (DV.ow e) → σ[i]? = some y → y ≠ t) : SR K g b F ⟨sl ++ [u], bx⟩ (σ ++ [t]) H where
  len := by
    have : sl.length = σ.length := x.len
    show (sl ++ [u]).length = (σ ++ [t]).length
    rw [List.length_append, List.length_append, this]
    rfl
  ff := x.ff
  f0 := x.f0
  fn := x.fn
  nt := x.nt
  ext := x.ext
  slot i w y e1 e2 := by
    have hl : sl.length = σ.length := x.len
    rcases get_snoc e1 with ⟨h1, e1⟩ | ⟨h1, rfl⟩
    · rcases get_snoc e2 with ⟨h2, e2⟩ | ⟨h2, _⟩
      · exact x.slot i w y e1 e2
      · omega
    · rcases get_snoc e2 with ⟨h2, _⟩ | ⟨h2, rfl⟩
      · omega
      · exact h
  dist i j d e y n h1 h2 h3 := by
    have hl : sl.length = σ.length := x.len
    intro h4
    rcases get_snoc h1 with ⟨l1, g1⟩ | ⟨l1, g1⟩
    · rcases get_snoc h3 with ⟨_, g3⟩ | ⟨l3, _⟩
      · rcases get_snoc h2 with ⟨l2, g2⟩ | ⟨l2, g2⟩
        · rcases get_snoc h4 with ⟨_, g4⟩ | ⟨l4, _⟩
          · exact x.dist i j d e y n g1 g2 g3 g4
          · omega
        · rcases get_snoc h4 with ⟨l4, _⟩ | ⟨_, g4⟩
          · omega
          · exact hd e g2.symm i d y g1 g3 g4
      · omega
    · rcases get_snoc h3 with ⟨l3, _⟩ | ⟨_, g3⟩
      · omega
      · rcases get_snoc h2 with ⟨l2, g2⟩ | ⟨l2, _⟩
        · rcases get_snoc h4 with ⟨_, g4⟩ | ⟨l4, _⟩
          · exact hd d g1.symm j e y g2 g4 g3
          · omega
        · omega
  box := x.box
  tabs := x.tabs
theorem SR.ne_own {i : Nat} {e : D} {y : Option V} {p : Addr} (x : SR K g b F S σ H) (h1 : S.sl[i]? = some (.ow e)) (h2 : σ[i]? = some y) (v : Vac H p) : y ≠ some (.ref p) := fun z => by
  subst z
  obtain ⟨c, e1, o⟩ := x.slot i _ _ h1 h2
  cases e1
  obtain ⟨vs, hv⟩ := own_ne_nt o
  exact v.not hv (lst_nt vs)
/-- what is new above the base is new below it -/
theorem SR.vac {p : Addr} (x : SR K g b F S σ H) (v : Vac H p) (nb : b.hb = true → p ≠ b.B) : Vac b.H0 p := fun o e nt => v.not (x.ext p o e nb nt) nt
/-- behind something that gives a value above the base -/
theorem SR.callN {u : DV} {t : Option V} (x : SR K g b F S σ H) (y : SR K g (b.at F H) F' ⟨[u], bx'⟩ [t] H') : SR K g b F' ⟨S.sl ++ [u], bx'⟩ (σ ++ [t]) H' := by
  have y0 : SR K g (b.at F H) F' ⟨[], bx'⟩ [] H' := SR.pre (sl := []) (σ := []) (gs := [u]) (ts := [t]) rfl y
  have x1 := x.call y0
  refine x1.snoc ?_ ?_
  · have q := y.slot 0 u t rfl rfl
    cases u with
    | un => trivial
    | sh d => exact q
    | bx => exact q
    | ow d =>
      obtain ⟨a, e, h1, h2, h3, r⟩ := q
      exact ⟨a, e, h1, x.vac h2 h3, h3, r⟩
  · rintro d rfl i e w h1 h2
    obtain ⟨a, rfl, _, h4, _⟩ := y.slot 0 _ t rfl rfl
    exact x.ne_own h1 h2 h4
/-- a new list, not frozen -/
theorem SR.newN {p : Addr} {vs : List V} {ds : List D} (x : SR K g b F S σ H) (hp : H p = none) (hd : DpAll K F vs ds) : SR K g (b.at F H) F ⟨[.ow (.list ds)], S.bx⟩ [some (.ref p)] (upd H p (.lst vs)) := by
  have y := x.newU (o := .lst vs) hp
  refine y.snoc (u := .ow (.list ds)) (t := some (.ref p)) ⟨p, rfl, ?_, Vac.of hp, ?_, vs, ds, rfl, upd_same, hd⟩ (fun d _ i e w h => by simp at h)
  · cases z : F p with
    | none => rfl
    | some u => rw [x.ff _ _ z] at hp; cases hp
  · intro hb z
    have q := x.box
    unfold BoxOk at q
    cases eb : S.bx with
    | none => rw [eb] at q; rw [q] at hb; cases hb
    | some r =>
      obtain ⟨dd, at_⟩ := r
      rw [eb] at q
      obtain ⟨_, _, dg, h3, _⟩ := q
      rw [z] at hp
      have hp' : H b.B = none := hp
      rw [hp'] at h3
      cases h3
/-- a frozen value hangs behind -/
theorem SR.shN {v : V} {d : D} (y : SR K g b F ⟨[], bx'⟩ [] H) (h : Dp K F v d) : SR K g b F ⟨[.sh d], bx'⟩ [some v] H := y.snoc (u := .sh d) (t := some v) ⟨v, rfl, h⟩ (fun d z => by cases z)
/-- what hangs behind is put into a slot -/
theorem SR.moveN {u : DV} {v : V} {i : Nat} {sl : List DV} {bx : Bx} (x : SR K g b F ⟨sl ++ [u], bx⟩ (σ ++ [some v]) H) : SR K g b F ⟨sl.set i u, bx⟩ (σ.set i (some v)) H := by
  have hl : sl.length = σ.length := by
    have := x.len
    simpa using this
  have x0 : SR K g b F ⟨sl, bx⟩ σ H := x.pre hl
  have hu : (sl ++ [u])[sl.length]? = some u := by simp
  have ht : (σ ++ [some v])[sl.length]? = some (some v) := by rw [hl]; simp
  have up : ∀ {k : Nat} {z : DV}, sl[k]? = some z → (sl ++ [u])[k]? = some z := fun {k z} e => by
    rw [List.getElem?_append_left (List.getElem?_eq_some_iff.mp e).1]
    exact e
  have upt : ∀ {k : Nat} {z : Option V}, σ[k]? = some z → (σ ++ [some v])[k]? = some z := fun {k z} e => by
    rw [List.getElem?_append_left (List.getElem?_eq_some_iff.mp e).1]
    exact e
  refine ⟨by show (sl.set i u).length = (σ.set i _).length; rw [List.length_set, List.length_set]; exact hl, x.ff, x.f0, x.fn, x.nt, x.ext, fun j w y e1 e2 => ?_, fun j k d1 d2 y n e1 e2 e3 e4 => ?_, x.box, x.tabs⟩
  · rcases get_set e1 with ⟨rfl, rfl⟩ | ⟨n1, e1⟩
    · rcases get_set e2 with ⟨_, rfl⟩ | ⟨n2, _⟩
      · exact x.slot _ _ _ hu ht
      · exact absurd rfl n2
    · rcases get_set e2 with ⟨z, _⟩ | ⟨_, e2⟩
      · exact absurd z n1
      · exact x0.slot j w y e1 e2
  · rcases get_set e1 with ⟨rfl, z1⟩ | ⟨n1, g1⟩
    · rcases get_set e2 with ⟨rfl, _⟩ | ⟨n2, e2⟩
      · exact n rfl
      · rcases get_set e3 with ⟨_, rfl⟩ | ⟨z, _⟩
        · rcases get_set e4 with ⟨z, _⟩ | ⟨_, e4⟩
          · exact n2 z
          · have hk := (List.getElem?_eq_some_iff.mp e2).1
            exact x.dist k sl.length d2 d1 _ (by omega) (up e2) (by rw [hu, z1]) (upt e4) ht
        · exact z rfl
    · rcases get_set e3 with ⟨z, _⟩ | ⟨_, g3⟩
      · exact n1 z
      rcases get_set e2 with ⟨z0, z2⟩ | ⟨n2, g2⟩
      · rcases get_set e4 with ⟨_, z5⟩ | ⟨z, _⟩
        · have hk := (List.getElem?_eq_some_iff.mp g1).1
          exact x.dist j sl.length d1 d2 _ (by omega) (up g1) (by rw [hu, z2]) (upt g3) (by rw [z5]; exact ht)
        · exact z z0
      · rcases get_set e4 with ⟨z, _⟩ | ⟨_, g4⟩
        · exact n2 z
        · exact x0.dist j k d1 d2 y n g1 g2 g3 g4
/-- what hangs behind is frozen -/
theorem SR.frzN {u : DV} {v : V} {d : D} {sl : List DV} {bx : Bx} (x : SR K g b F ⟨sl ++ [u], bx⟩ (σ ++ [some v]) H) (hu : u = .sh d ∨ u = .ow d) : ∃ F', SR K g b F' ⟨sl, bx⟩ σ H ∧ Same F F' ∧ Dp K F' v d := by
  have hl : sl.length = σ.length := by
    have := x.len
    simpa using this
  have ht : (σ ++ [some v])[sl.length]? = some (some v) := by rw [hl]; simp
  rcases hu with rfl | rfl
  · obtain ⟨w, e, h⟩ := x.get (i := sl.length) (d := d) (by simp)
    rw [ht] at e
    cases e
    exact ⟨F, x.pre hl, Same.refl _, h⟩
  · obtain ⟨a, e, h⟩ := x.getO (i := sl.length) (d := d) (by simp)
    rw [ht] at e
    cases e
    obtain ⟨vs, hv⟩ := own_ne_nt h
    obtain ⟨x2, s2, h2⟩ := x.share (i := sl.length) (d := d) (by simp) ht h hv
    refine ⟨_, SR.pre (gs := [.sh d]) hl (?_ : SR K g b _ ⟨sl ++ [.sh d], bx⟩ (σ ++ [some (.ref a)]) H), s2, h2⟩
    have e : Gl.share ⟨sl ++ [.ow d], bx⟩ sl.length d = ⟨sl ++ [.sh d], bx⟩ := by
      unfold Gl.share
      congr 1
      simp
    rwa [e] at x2
end
/-! ### expressions whose value may be new -/
def PostN (K : PySem.W.Frag) (g : Gx) (W : WX) (σ : L2.St) (b : Bs) (F H : Hp) (Q : V → Hp → Prop) : R DV → Prop
  | .ok u S' => ∀ (v : V) (F' H' : Hp), SR K g b F' ⟨S'.sl ++ [u], S'.bx⟩ (σ ++ [some v]) H' → Same F F' → Fr b H H' → Q v H'
  | .exc c d bx' => ExcP K g W σ b c d bx'
  | .stuck => False
def tN (K : PySem.W.Frag) (g : Gx) (W : WX) (m : M DV) : L2.St → Hp → VK → Prop := fun σ H Q => ∃ (b : Bs) (F : Hp) (S : Sto), SR K g b F S σ H ∧ PostN K g W σ b F H Q (m S)
abbrev JN (X : Cx) (g : Gx) (W : WX) (e : Expr) (m : M DV) : Prop := PE X e (tN X.K g W m)
def mSh (m : M D) : M DV := m.bind fun d => mC (.sh d)
def fzD : DV → M D
  | .sh d => mC d
  | .ow d => mC d
  | _ => fun _ => .stuck
/-- the value, frozen -/
def mFz (m : M DV) : M D := m.bind fzD
section
variable {X : Cx} {g : Gx} {W : WX}
theorem jn_of {e : Expr} {m : M D} (h : JE X g W e m) : JN X g W e (mSh m) := PE.of h fun σ H Q ⟨b, F, S, x, q⟩ => ⟨b, F, S, x, by
  unfold mSh M.bind at q
  cases z : m S with
  | ok d S' =>
    rw [z] at q
    exact fun v F' H' x' s' f' r' => q v F' H' (x'.snoc (u := .sh d) (t := some v) ⟨v, rfl, r'⟩ (fun d z => by cases z)) s' f'
  | exc c d bx' => rw [z] at q; exact q
  | stuck => rw [z] at q; exact q⟩
theorem PostN.shift {K : PySem.W.Frag} {σ : L2.St} {b : Bs} {F F1 H H1 : Hp} {Q : V → Hp → Prop} {r : R DV} (h : PostN K g W σ b F H Q r) (s : Same F F1) (f : Fr b H H1) : PostN K g W σ b F1 H1 Q r := by
  cases r with
  | ok a S' => exact fun v F' H' x s' f' => h v F' H' x (s.trans s') (f.trans f')
  | exc c d bx' => exact h
  | stuck => exact h
theorem tN_fz {K : PySem.W.Frag} {σ : L2.St} {H : Hp} {Q : VK} {m : M DV} (h : tG K g W (repE K) (mFz m) σ H Q) : tN K g W m σ H Q := by
  obtain ⟨b, F, S, x, q⟩ := h
  refine ⟨b, F, S, x, ?_⟩
  unfold mFz M.bind at q
  cases z : m S with
  | ok u S' =>
    rw [z] at q
    have key : ∀ d : D, (u = .sh d ∨ u = .ow d) → PostG K g W σ b F H (repE K) Q (.ok d S') → ∀ (v : V) (F' H' : Hp), SR K g b F' ⟨S'.sl ++ [u], S'.bx⟩ (σ ++ [some v]) H' → Same F F' → Fr b H H' → Q v H' := fun d hu q v F' H' x' s' f' => by
      obtain ⟨F2, x2, s2, r2⟩ := x'.frzN hu
      exact q v F2 H' x2 (s'.trans s2) f' r2
    cases u with
    | un => exact q.elim
    | bx => exact q.elim
    | sh d => exact key d (.inl rfl) q
    | ow d => exact key d (.inr rfl) q
  | exc c d bx' => rw [z] at q; exact q
  | stuck => rw [z] at q; exact q
theorem je_of_jn {e : Expr} {m : M DV} (h : JN X g W e m) : JE X g W e (mFz m) := PE.of h fun _ _ _ => tN_fz
/-- something first, then something new -/
theorem bindN {α β : Type} {K : PySem.W.Frag} {σ : L2.St} {b : Bs} {F H : Hp} {S : Sto} {rep1 : Rp α β} {T : β → Hp → Prop} {Q : VK} {m : M α} {k : α → M DV} (x : SR K g b F S σ H) (h : PostN K g W σ b F H Q ((m S).bind k))
    (hT : ∀ (a : α) (S1 : Sto) (v : β) (F1 H1 : Hp), SR K g b F1 S1 σ H1 → Same F F1 → Fr b H H1 → rep1 b F1 H1 v a → PostN K g W σ b F1 H1 Q (k a S1) → T v H1) : tG K g W rep1 m σ H T := by
  refine ⟨b, F, S, x, ?_⟩
  cases e : m S with
  | stuck => rw [e] at h; exact h
  | exc c d bx' => rw [e] at h; exact h
  | ok a S1 =>
    rw [e] at h
    exact fun v F1 H1 x1 s1 f1 r1 => hT a S1 v F1 H1 x1 s1 f1 r1 (PostN.shift (show PostN K g W σ b F H Q (k a S1) from h) s1 f1)
theorem ofO_postN {K : PySem.W.Frag} {σ : L2.St} {b : Bs} {F H : Hp} {S : Sto} {Q : VK} {o : Option DV} (h : PostN K g W σ b F H Q (ofO o S)) : ∃ a, o = some a ∧ PostN K g W σ b F H Q (.ok a S) := by
  cases o with
  | none => exact h.elim
  | some a => exact ⟨a, rfl, h⟩
/-- at the end: something that gives a value above the base -/
theorem PostN.fin {K : PySem.W.Frag} {σ : L2.St} {b : Bs} {F H F' H' : Hp} {S : Sto} {Q : VK} {u : DV} {v : V} {bx' : Bx} (h : PostN K g W σ b F H Q (.ok u ⟨S.sl, bx'⟩)) (x : SR K g b F S σ H) (y : SR K g (b.at F H) F' ⟨[u], bx'⟩ [some v] H') : Q v H' := h v F' H' (x.callN y) y.f0 y.ext
end
end Gl

set_option maxRecDepth 100000
set_option maxHeartbeats 1000000
/-! The general layer, part G: list comprehensions. -/
namespace Gl
open PySem PySem.Spec PyProof.Rows L2

def hideD : DV → DV
  | .ow _ => .un
  | x => x
def wipeD (sl : List DV) : List Nat → List DV
  | [] => sl
  | v :: vs => (wipeD sl vs).set v .un
def noOw (sl : List DV) : Prop := ∀ (i : Nat) (d : D), sl[i]? ≠ some (.ow d)
def shareJ (S : Sto) (j : Nat) : Sto := match S.sl[j]? with
  | some (.ow d) => share S j d
  | _ => S
def shareJs (S : Sto) (js : List Nat) : Sto := js.foldl shareJ S
theorem wipeD_len (sl : List DV) : ∀ vs : List Nat, (wipeD sl vs).length = sl.length
  | [] => rfl
  | v :: vs => by
    unfold wipeD
    rw [List.length_set, wipeD_len sl vs]
theorem wipeD_get {sl : List DV} {i : Nat} {x : DV} : ∀ {vs : List Nat}, (wipeD sl vs)[i]? = some x → x = .un ∨ (i ∉ vs ∧ sl[i]? = some x)
  | [], h => .inr ⟨by simp, h⟩
  | v :: vs, h => by
    unfold wipeD at h
    rcases get_set h with ⟨_, rfl⟩ | ⟨n, h⟩
    · exact .inl rfl
    · rcases wipeD_get h with e | ⟨n2, h2⟩
      · exact .inl e
      · exact .inr ⟨by simp only [List.mem_cons, not_or]; exact ⟨n, n2⟩, h2⟩
theorem hide_noOw (sl : List DV) (vs : List Nat) : noOw (wipeD (sl.map hideD) vs) := fun i d h => by
  rcases wipeD_get h with e | ⟨_, e⟩
  · cases e
  · rw [List.getElem?_map] at e
    cases z : sl[i]? with
    | none => rw [z] at e; cases e
    | some x =>
      rw [z] at e
      cases x <;> cases e
section
variable {K : PySem.W.Frag} {g : Gx} {b : Bs} {F F' H H' H1 : Hp} {S : Sto} {σ : L2.St}
theorem SR.hide (x : SR K g b F S σ H) (vs : List Nat) : SR K g (b.at F H) F ⟨wipeD (S.sl.map hideD) vs, S.bx⟩ (wipe σ vs) H where
  len := by
    show (wipeD (S.sl.map hideD) vs).length = _
    rw [wipeD_len, wipe_length, List.length_map]
    exact x.len
  ff := x.ff
  f0 := Same.refl _
  fn := fun a o h => .inl h
  nt := x.nt
  ext := Fr.refl _ _
  slot i u v e1 e2 := by
    rcases wipeD_get e1 with e | ⟨n, e⟩
    · subst e
      trivial
    · rw [List.getElem?_map] at e
      rw [wipe_out n] at e2
      cases z : S.sl[i]? with
      | none => rw [z] at e; cases e
      | some y =>
        rw [z] at e
        have q := x.slot i y v z e2
        cases y <;> cases e
        · trivial
        · exact q
        · trivial
        · exact q
  dist i j d e y _ h := absurd h (hide_noOw _ _ i d)
  box := x.box
  tabs := x.tabs
/-- the base moved up, where no slot is one's own -/
theorem SR.up (x : SR K g b F S σ H) (n : noOw S.sl) : SR K g (b.at F H) F S σ H where
  len := x.len
  ff := x.ff
  f0 := Same.refl _
  fn := fun a o h => .inl h
  nt := x.nt
  ext := Fr.refl _ _
  slot i u v e1 e2 := by
    have q := x.slot i u v e1 e2
    cases u with
    | ow d => exact absurd e1 (n i d)
    | un => trivial
    | sh d => exact q
    | bx => exact q
  dist i j d e y _ h := absurd h (n i d)
  box := x.box
  tabs := x.tabs
theorem SR.share1 (x : SR K g b F S σ H) (j : Nat) : ∃ F', SR K g b F' (shareJ S j) σ H ∧ Same F F' := by
  unfold shareJ
  split
  · rename_i d e
    obtain ⟨a, e1, h1⟩ := x.getO e
    obtain ⟨vs, hv⟩ := own_ne_nt h1
    obtain ⟨x2, s2, _⟩ := x.share e e1 h1 hv
    exact ⟨_, x2, s2⟩
  · exact ⟨F, x, Same.refl _⟩
theorem SR.shares : ∀ (js : List Nat) {F : Hp} {S : Sto}, SR K g b F S σ H → ∃ F', SR K g b F' (shareJs S js) σ H ∧ Same F F'
  | [], F, S, x => ⟨F, x, Same.refl _⟩
  | j :: js, F, S, x => by
    obtain ⟨F1, x1, s1⟩ := x.share1 j
    obtain ⟨F2, x2, s2⟩ := SR.shares js x1
    exact ⟨F2, x2, s1.trans s2⟩
theorem tabS_put {T : List (Addr × Str)} {p : Addr} {xs ys : List V} (t : LamX.Tabs T H) (h : H p = some (.lst xs)) : LamX.Tabs T (upd H p (.lst ys)) := fun q hq => by
  obtain ⟨ps, h1, h2, h3⟩ := t q hq
  have ne : q.1 ≠ p := fun z => by
    rw [z, h] at h1
    cases h1
  refine ⟨ps, by rw [upd_ne ne]; exact h1, h2, fun pos cv hc => ?_⟩
  obtain ⟨c, e1, e2⟩ := h3 pos cv hc
  have nc : c ≠ p := fun z => by
    rw [z, h] at e2
    have e3 : HO.lst xs = HO.ext _ := Option.some.inj e2
    cases e3
  exact ⟨c, e1, by rw [upd_ne nc]; exact e2⟩
/-- a list that is no slot's own is changed -/
theorem SR.put {p : Addr} {xs ys : List V} (x : SR K g b F S σ H) (n : noOw S.sl) (hF : F p = none) (h0 : b.H0 p = none) (hB : b.hb = true → p ≠ b.B) (h : H p = some (.lst xs)) : SR K g b F S σ (upd H p (.lst ys)) where
  len := x.len
  ff a o q := by
    rw [upd_ne (ne_of_none q hF)]
    exact x.ff a o q
  f0 := x.f0
  fn := x.fn
  nt := x.nt
  ext a o q := by
    have ne : a ≠ p := ne_of_none q h0
    rw [upd_ne ne]
    exact x.ext a o q
  slot i u v e1 e2 := by
    have q := x.slot i u v e1 e2
    cases u with
    | ow d => exact absurd e1 (n i d)
    | un => trivial
    | sh d => exact q
    | bx => exact q
  dist i j d e y _ h := absurd h (n i d)
  box := by
    have q := x.box
    unfold BoxOk at q ⊢
    cases e : S.bx with
    | none => rw [e] at q; exact q
    | some r =>
      obtain ⟨ds, at_⟩ := r
      rw [e] at q
      obtain ⟨h1, h2, dg, h3, h4, h5⟩ := q
      exact ⟨h1, h2, dg, by rw [upd_ne (fun z => hB h1 z.symm)]; exact h3, h4, h5⟩
  tabs := tabS_put x.tabs h
/-- a list that nobody else knows is frozen -/
theorem SR.freeze {p : Addr} {vs : List V} {bx : Bx} (x : SR K g b F ⟨[], bx⟩ [] H) (hF : F p = none) (h0 : b.H0 p = none) (hB : b.hb = true → p ≠ b.B) (h : H p = some (.lst vs)) :
    SR K g b (upd F p (.lst vs)) ⟨[], bx⟩ [] H ∧ Same F (upd F p (.lst vs)) := by
  have sm : Same F (upd F p (.lst vs)) := fun a o q => by
    rw [upd_ne (ne_of_none q hF)]
    exact q
  refine ⟨⟨rfl, fun a o q => ?_, x.f0.trans sm, fun a o q => ?_, fun a o q => ?_, x.ext, fun i u v e1 e2 => by simp at e1, fun i j d e y _ h => by simp at h, ?_, x.tabs⟩, sm⟩
  · by_cases e : a = p
    · subst e
      rw [upd_same] at q
      cases q
      exact h
    · rw [upd_ne e] at q
      exact x.ff a o q
  · by_cases e : a = p
    · subst e
      exact .inr (Vac.of h0)
    · rw [upd_ne e] at q
      exact x.fn a o q
  · by_cases e : a = p
    · subst e
      rw [upd_same] at q
      cases q
      exact lst_nt vs
    · rw [upd_ne e] at q
      exact x.nt a o q
  · have q := x.box
    unfold BoxOk at q ⊢
    have eb : (⟨[], bx⟩ : Sto).bx = bx := rfl
    rw [eb] at q ⊢
    cases e : bx with
    | none => rw [e] at q; exact q
    | some r =>
      obtain ⟨ds, at_⟩ := r
      rw [e] at q
      obtain ⟨h1, h2, dg, h3, h4, h5⟩ := q
      exact ⟨h1, by show upd F p (.lst vs) b.B = none; rw [upd_ne (fun z => hB h1 z.symm)]; exact h2, dg, h3, dp_mono sm _ _ h4, h5⟩
/-- where a new object is no frozen one -/
theorem SR.fnone {F0 : Hp} {H0 : Hp} {p : Addr} {o : HO} (y : SR K g (b.at F0 H0) F S σ H) (hF : F0 p = none) (hH : H0 p = some o) (nt : notTbl o) : F p = none := by
  cases e : F p with
  | none => rfl
  | some u =>
    rcases y.fn p u e with q | q
    · have q' : F0 p = some u := q
      rw [hF] at q'
      cases q'
    · have q' : Vac H0 p := q
      exact (q'.not hH nt).elim
end

theorem wipe_in {σ : L2.St} {i : Nat} : ∀ {vs : List Nat}, i ∈ vs → i < σ.length → (wipe σ vs)[i]? = some none
  | v :: vs, h, hi => by
    unfold wipe
    by_cases e : v = i
    · subst e
      rw [List.getElem?_set_self (by rw [wipe_length]; exact hi)]
    · rw [List.getElem?_set_ne e]
      exact wipe_in ((List.mem_cons.mp h).resolve_left (fun z => e z.symm)) hi
theorem wipe_twice (σ : L2.St) (vs : List Nat) : wipe (wipe σ vs) vs = wipe σ vs := by
  apply List.ext_getElem?
  intro i
  by_cases h : i ∈ vs
  · by_cases hi : i < σ.length
    · rw [wipe_in h (by rw [wipe_length]; exact hi), wipe_in h hi]
    · rw [List.getElem?_eq_none (by rw [wipe_length, wipe_length]; omega), List.getElem?_eq_none (by rw [wipe_length]; omega)]
  · rw [wipe_out h]

/-! ### one clause -/
/-- the items that a comprehension gives -/
def compL (sl : List DV) (st : Tgt) (mt : M Bool) (me : M D) : List D → Bx → Option (List D × Bx)
  | [], bx => some ([], bx)
  | d :: ds, bx => (st d sl).bind fun sl' => match mt ⟨sl', bx⟩ with
    | .ok false S1 => compL sl st mt me ds S1.bx
    | .ok true S1 => match me S1 with
      | .ok y S2 => (compL sl st mt me ds S2.bx).map fun p => (y :: p.1, p.2)
      | _ => none
    | _ => none
def mCompN (js vs : List Nat) (mi : M (List D)) (st : Tgt) (mt : M Bool) (me : M D) : M DV := mi.bind fun ds S =>
  match compL (wipeD ((shareJs S js).sl.map hideD) vs) st mt me ds (shareJs S js).bx with
  | some (ys, bx') => if sumOk ys.length then .ok (.ow (.list ys)) { shareJs S js with bx := bx' } else .stuck
  | none => .stuck
def mComp (js vs : List Nat) (mi : M (List D)) (st : Tgt) (mt : M Bool) (me : M D) : M D := mi.bind fun ds S =>
  match compL (wipeD ((shareJs S js).sl.map hideD) vs) st mt me ds (shareJs S js).bx with
  | some (ys, bx') => if sumOk ys.length then .ok (.list ys) { shareJs S js with bx := bx' } else .stuck
  | none => .stuck
theorem shareJ_bx (S : Sto) (j : Nat) : (shareJ S j).bx = S.bx := by
  unfold shareJ
  split <;> rfl
section
variable {X : Cx} {g : Gx} {W : WX} {c : Ct}
theorem lcN {own : List (Str × Nat)} {js ks : List Nat} {mi : M (List D)} {G : TG} {st : Tgt} {mt : M Bool} {me : M D}
    (hks : ∀ k ∈ ks, k ∈ own.map (·.2)) (hG : ∀ (b : Bs) (F : Hp) (S : Sto) (σ : L2.St) (H : Hp) (v : V) (d : D) (sl' : List DV) (Q : L2.St → Hp → Prop), SR X.K g b F S σ H → Dp X.K F v d → st d S.sl = some sl' →
      (∀ σ', SR X.K g b F { S with sl := sl' } σ' H → (∀ vs : List Nat, (∀ j ∈ ks, j ∈ vs) → wipe σ' vs = wipe σ vs) → Q σ' H) → G v σ H Q)
    {σ : L2.St} {H : Hp} {Q : VK} (h : tN X.K g W (mCompN js (own.map (·.2)) mi st mt me) σ H Q) :
    tLc (tG X.K g W (repIt X.K) mi) G (tG X.K g noW repT mt) (tG X.K g noW (repE X.K) me) (own.map (·.2)) σ H Q := by
  obtain ⟨b, F, S, x, q⟩ := h
  generalize own.map (·.2) = vs at *
  refine bindN x q fun ds S1 J F1 H1 x1 s1 f1 wk q1 => fun Dd hD => ?_
  obtain ⟨F2, x2, s2⟩ := x1.shares js
  generalize shareJs S1 js = T at *
  have q1 := q1.shift s2 (Fr.refl _ _)
  cases ec : compL (wipeD (T.sl.map hideD) vs) st mt me ds T.bx with
  | none => rw [ec] at q1; exact q1.elim
  | some p =>
    obtain ⟨ys, bx'⟩ := p
    rw [ec] at q1
    dsimp only at q1
    split at q1
    rotate_left
    · exact q1.elim
    rename_i hz
    have hz := sumOk_le hz
    have no := hide_noOw T.sl vs
    have x3 := x2.hide vs
    generalize wipeD (T.sl.map hideD) vs = sl0 at *
    have hDB : b.hb = true → Dd ≠ b.B := fun hb z => by
      have e := x2.box
      unfold BoxOk at e
      cases eb : T.bx with
      | none => rw [eb] at e; rw [e] at hb; cases hb
      | some r =>
        obtain ⟨a1, a2⟩ := r
        rw [eb] at e
        obtain ⟨_, _, dg, e3, _⟩ := e
        rw [← z, hD] at e3
        cases e3
    have hF2 : F2 Dd = none := by
      cases z : F2 Dd with
      | none => rfl
      | some u => rw [x2.ff _ _ z] at hD; cases hD
    -- the invariant
    refine lc_it wk (fun i H => ∃ (F : Hp) (bx : Bx) (accV : List V) (acc rest : List D), SR X.K g (b.at F2 H1) F ⟨sl0, bx⟩ (wipe σ vs) H ∧ H Dd = some (.lst accV) ∧ F Dd = none ∧ DpAll X.K F accV acc ∧ compL sl0 st mt me (ds.drop i) bx = some (rest, bx') ∧ acc ++ rest = ys)
      ⟨F2, T.bx, [], [], ys, ?_, upd_same, hF2, .nil, by simpa using ec, rfl⟩ (fun i H _ ⟨F, _, _, _, _, y, _⟩ => s2.trans (y.f0.trans y.ff)) (fun i v H H' hi ⟨F, bx, accV, acc, rest, y, hDl, hFD, da, el, ey⟩ yy => ?_) fun H ⟨F, bx, accV, acc, rest, y, hDl, hFD, da, el, ey⟩ => ?_
    · have x4 := x3.call (x3.newU (o := .lst []) hD)
      exact ⟨x4.len, x4.ff, x4.f0, x4.fn, x4.nt, x4.ext, x4.slot, x4.dist, x4.box, x4.tabs⟩
    · -- a turn
      obtain ⟨d, F', e, yb, r⟩ := yd_next y (s2.trans y.f0) yy
      have y' : SR X.K g (b.at F2 H1) F' ⟨sl0, bx⟩ (wipe σ vs) H' := y.call yb
      have hD' : H' Dd = some (.lst accV) := yb.ext Dd _ hDl hDB (lst_nt accV)
      have hFD' : F' Dd = none := yb.fnone hFD hDl (lst_nt _)
      have da' := dpAll_mono (show Same F F' from yb.f0) _ _ da
      rw [drop_get e] at el
      unfold compL at el
      cases es : st d sl0 with
      | none => rw [es] at el; cases el
      | some sl' =>
        rw [es, Option.bind_some] at el
        refine hG _ F' ⟨sl0, bx⟩ (wipe σ vs) H' v d sl' _ (y'.up no) r es fun σ2 x5 w5 => ⟨(w5 vs hks).trans (wipe_twice σ vs), _, F', ⟨sl', bx⟩, x5, ?_⟩
        cases em : mt ⟨sl', bx⟩ with
        | stuck => rw [em] at el; cases el
        | exc n d2 b2 => rw [em] at el; cases el
        | ok k S1 =>
          rw [em] at el
          intro v3 F3 H3 x6 s6 f6 r6
          cases (show v3 = k from r6)
          have hF3 : F3 Dd = none := x6.fnone hFD' hD' (lst_nt _)
          have hD3 : H3 Dd = some (.lst accV) := f6 Dd _ hD' hDB (lst_nt accV)
          cases k with
          | false =>
            dsimp only at el
            exact iteF ⟨F3, S1.bx, accV, acc, rest, y'.call x6.forget, hD3, hF3, dpAll_mono s6 _ _ da', el, ey⟩
          | true =>
            dsimp only at el
            refine iteT ⟨_, F3, S1, x6, ?_⟩
            cases ee : me S1 with
            | stuck => rw [ee] at el; cases el
            | exc n d2 b2 => rw [ee] at el; cases el
            | ok yd S2 =>
              rw [ee] at el
              dsimp only at el
              cases er : compL sl0 st mt me (ds.drop (i + 1)) S2.bx with
              | none => rw [er] at el; cases el
              | some p2 =>
                rw [er] at el
                obtain ⟨r2, b2⟩ := p2
                cases el
                intro v4 F4 H4 x7 s7 f7 r7
                have hF4 : F4 Dd = none := x7.fnone hFD' hD' (lst_nt _)
                have hD4 : H4 Dd = some (.lst accV) := f7 Dd _ hD3 hDB (lst_nt accV)
                have x8 : SR X.K g (b.at F2 H1) F4 ⟨sl0, S2.bx⟩ (wipe σ vs) H4 := y'.call x7.forget
                refine ⟨accV, hD4, ?_, F4, S2.bx, accV ++ [v4], acc ++ [yd], r2, x8.put no hF4 hD hDB hD4, upd_same, hF4, dpl_app (dpAll_mono (s6.trans s7) _ _ da') (.cons r7 .nil), er, by rw [← ey]; simp⟩
                have l1 := dpl_len da
                have l2 := congrArg List.length ey
                rw [List.length_append, List.length_cons] at l2
                omega
    · -- the end
      rw [List.drop_length] at el
      cases el
      rw [List.append_nil] at ey
      subst ey
      have y1 := (SR.forget y).snoc (u := .ow (.list acc)) (t := some (.ref Dd)) ⟨Dd, rfl, hFD, Vac.of hD, hDB, accV, acc, rfl, hDl, da⟩ (fun d _ i e w h => by simp at h)
      exact q1 _ _ H (x2.callN y1) y.f0 y.ext
theorem mComp_fz {js vs : List Nat} {mi : M (List D)} {st : Tgt} {mt : M Bool} {me : M D} : mComp js vs mi st mt me = mFz (mCompN js vs mi st mt me) := by
  funext S
  unfold mComp mFz mCompN M.bind
  cases mi S with
  | ok ds S1 =>
    show (match compL (wipeD ((shareJs S1 js).sl.map hideD) vs) st mt me ds (shareJs S1 js).bx with | some (ys, bx') => _ | none => _) = R.bind (match compL (wipeD ((shareJs S1 js).sl.map hideD) vs) st mt me ds (shareJs S1 js).bx with | some (ys, bx') => _ | none => _) fzD
    cases compL (wipeD ((shareJs S1 js).sl.map hideD) vs) st mt me ds (shareJs S1 js).bx with
    | none => rfl
    | some p =>
      obtain ⟨ys, bx'⟩ := p
      dsimp only
      cases sumOk ys.length <;> rfl
  | exc c d b => rfl
  | stuck => rfl
theorem je_lc {own : List (Str × Nat)} {js ks : List Nat} {mi : M (List D)} {G : TG} {st : Tgt} {mt : M Bool} {me : M D}
    (hks : ∀ k ∈ ks, k ∈ own.map (·.2)) (hG : ∀ (b : Bs) (F : Hp) (S : Sto) (σ : L2.St) (H : Hp) (v : V) (d : D) (sl' : List DV) (Q : L2.St → Hp → Prop), SR X.K g b F S σ H → Dp X.K F v d → st d S.sl = some sl' →
      (∀ σ', SR X.K g b F { S with sl := sl' } σ' H → (∀ vs : List Nat, (∀ j ∈ ks, j ∈ vs) → wipe σ' vs = wipe σ vs) → Q σ' H) → G v σ H Q)
    {σ : L2.St} {H : Hp} {Q : VK} (h : tG X.K g W (repE X.K) (mComp js (own.map (·.2)) mi st mt me) σ H Q) :
    tLc (tG X.K g W (repIt X.K) mi) G (tG X.K g noW repT mt) (tG X.K g noW (repE X.K) me) (own.map (·.2)) σ H Q := by
  rw [mComp_fz] at h
  exact lcN hks hG (tN_fz h)
end
end Gl

set_option maxRecDepth 100000
set_option maxHeartbeats 1000000
/-! The general layer, part G a: lists of one's own; the box of digits. -/
namespace Gl
open PySem PySem.Spec PyProof.Rows L2

section
variable {K : PySem.W.Frag} {g : Gx} {b : Bs} {F F' H H' H1 : Hp} {S : Sto} {σ : L2.St}
/-- a list of one's own is rewritten -/
theorem SR.putOw {i : Nat} {ds es : List D} {a : Addr} {vs ws : List V} (x : SR K g b F S σ H) (e : S.sl[i]? = some (.ow (.list ds))) (es' : σ[i]? = some (some (.ref a))) (o : Own K b F H a (.list ds)) (h : H a = some (.lst vs)) (hd : DpAll K F ws es) :
    SR K g b F { S with sl := S.sl.set i (.ow (.list es)) } σ (upd H a (.lst ws)) where
  len := by
    show (S.sl.set i _).length = _
    rw [List.length_set]
    exact x.len
  ff c u q := by
    rw [upd_ne (ne_of_none q o.1)]
    exact x.ff c u q
  f0 := x.f0
  fn := x.fn
  nt := x.nt
  ext c u q nb nt := by
    have ne : c ≠ a := fun z => by
      subst z
      exact o.2.1.not q nt
    rw [upd_ne ne]
    exact x.ext c u q nb nt
  slot j u y e1 e2 := by
    rcases get_set e1 with ⟨rfl, rfl⟩ | ⟨n1, e1⟩
    · rw [es'] at e2
      cases e2
      exact ⟨a, rfl, o.1, o.2.1, o.2.2.1, ws, es, rfl, upd_same, hd⟩
    · have q := x.slot j u y e1 e2
      cases u with
      | un => trivial
      | sh d => exact q
      | bx => exact q
      | ow d =>
        obtain ⟨c, rfl, h1, h2, h3, vs', ds', e3, e4, h4⟩ := q
        have ne : c ≠ a := fun z => by
          subst z
          exact x.dist j i d _ _ n1 e1 e e2 es'
        exact ⟨c, rfl, h1, h2, h3, vs', ds', e3, by rw [upd_ne ne]; exact e4, h4⟩
  dist j k d1 d2 y n e1 e2 e3 := by
    have get : ∀ {j : Nat} {d : D}, (S.sl.set i (.ow (.list es)))[j]? = some (.ow d) → ∃ d', S.sl[j]? = some (.ow d') := fun {j d} h => by
      rcases get_set h with ⟨rfl, _⟩ | ⟨_, h⟩
      · exact ⟨_, e⟩
      · exact ⟨_, h⟩
    obtain ⟨d1', f1⟩ := get e1
    obtain ⟨d2', f2⟩ := get e2
    exact x.dist j k d1' d2' y n f1 f2 e3
  box := by
    have q := x.box
    unfold BoxOk at q ⊢
    have eb : ({ S with sl := S.sl.set i (.ow (.list es)) } : Sto).bx = S.bx := rfl
    rw [eb]
    cases z : S.bx with
    | none => rw [z] at q; exact q
    | some r =>
      obtain ⟨dd, at_⟩ := r
      rw [z] at q
      obtain ⟨h1, h2, dg, h3, h4, h5⟩ := q
      exact ⟨h1, h2, dg, by rw [upd_ne (fun z => o.2.2.1 h1 z.symm)]; exact h3, h4, h5⟩
  tabs := tabS_put x.tabs h
/-- a new list of one's own comes into a slot -/
theorem SR.setOw {i : Nat} {ds : List D} {p : Addr} {vs : List V} (x : SR K g b F S σ H) (hp : H p = none) (hd : DpAll K F vs ds) : SR K g b F { S with sl := S.sl.set i (.ow (.list ds)) } (σ.set i (some (.ref p))) (upd H p (.lst vs)) := by
  have y := x.call (x.newU (o := .lst vs) hp)
  have hF : F p = none := by
    cases z : F p with
    | none => rfl
    | some u => rw [x.ff _ _ z] at hp; cases hp
  have hB : b.hb = true → p ≠ b.B := fun hb z => by
    have q := x.box
    unfold BoxOk at q
    cases eb : S.bx with
    | none => rw [eb] at q; rw [q] at hb; cases hb
    | some r =>
      obtain ⟨dd, at_⟩ := r
      rw [eb] at q
      obtain ⟨_, _, dg, h3, _⟩ := q
      rw [← z, hp] at h3
      cases h3
  have hV : Vac b.H0 p := fun o q nt => by
    by_cases nb : b.hb = true → p ≠ b.B
    · rw [x.ext p o q nb nt] at hp
      cases hp
    · exact nb hB
  refine ⟨?_, y.ff, y.f0, y.fn, y.nt, y.ext, fun j u w e1 e2 => ?_, fun j k d1 d2 w n e1 e2 e3 => ?_, y.box, y.tabs⟩
  · show (S.sl.set i _).length = (σ.set i _).length
    rw [List.length_set, List.length_set]
    exact x.len
  · rcases get_set e1 with ⟨rfl, rfl⟩ | ⟨n1, e1⟩
    · rcases get_set e2 with ⟨_, rfl⟩ | ⟨n2, _⟩
      · exact ⟨p, rfl, hF, hV, hB, vs, ds, rfl, upd_same, hd⟩
      · exact absurd rfl n2
    · rcases get_set e2 with ⟨z, _⟩ | ⟨_, e2⟩
      · exact absurd z n1
      · exact y.slot j u w e1 e2
  · have off : ∀ {j : Nat} {d : D} {w : Option V}, j ≠ i → S.sl[j]? = some (.ow d) → σ[j]? = some w → w ≠ some (.ref p) := fun {j d w} n f1 f2 z => by
      subst z
      obtain ⟨c, e, h⟩ := x.slot j _ _ f1 f2
      cases e
      obtain ⟨vs', hv⟩ := own_ne_nt h
      rw [hp] at hv
      cases hv
    intro e4
    rcases get_set e3 with ⟨rfl, rfl⟩ | ⟨n1, g3⟩
    · rcases get_set e4 with ⟨z, _⟩ | ⟨n2, g4⟩
      · exact n z.symm
      · rcases get_set e2 with ⟨z, _⟩ | ⟨_, g2⟩
        · exact n2 z
        · exact off n2 g2 g4 rfl
    · rcases get_set e1 with ⟨z, _⟩ | ⟨_, g1⟩
      · exact n1 z
      rcases get_set e4 with ⟨rfl, rfl⟩ | ⟨n2, g4⟩
      · exact off n1 g1 g3 rfl
      · rcases get_set e2 with ⟨z, _⟩ | ⟨_, g2⟩
        · exact n2 z
        · exact x.dist j k d1 d2 w n g1 g2 g3 g4
/-- the box's place is moved -/
theorem SR.putBx {ds : List Int} {at_ at' : Int} {dg : Addr} (x : SR K g b F S σ H) (e : S.bx = some (ds, at_)) (h3 : H b.B = some (.lst [.ref dg, .int at_])) (h4 : Dp K F (.ref dg) (.list (ds.map .int))) (h5 : True) :
    SR K g b F { S with bx := some (ds, at') } σ (upd H b.B (.lst [.ref dg, .int at'])) := by
  have q := x.box
  unfold BoxOk at q
  rw [e] at q
  obtain ⟨hb, hF, _⟩ := q
  refine ⟨x.len, fun c u z => ?_, x.f0, x.fn, x.nt, fun c u z nb nt => ?_, fun j u y e1 e2 => ?_, x.dist, ⟨hb, hF, dg, upd_same, h4, h5⟩, tabS_put x.tabs h3⟩
  · rw [upd_ne (ne_of_none z hF)]
    exact x.ff c u z
  · rw [upd_ne (nb hb)]
    exact x.ext c u z nb nt
  · have q := x.slot j u y e1 e2
    cases u with
    | un => trivial
    | sh d => exact q
    | bx => exact q
    | ow d =>
      obtain ⟨c, rfl, h1, h2, h3', vs', ds', e3, e4, h4'⟩ := q
      exact ⟨c, rfl, h1, h2, h3', vs', ds', e3, by rw [upd_ne (h3' hb)]; exact e4, h4'⟩
theorem SR.bxAt {ds : List Int} {at_ : Int} (x : SR K g b F S σ H) (e : S.bx = some (ds, at_)) : ∃ dg, H b.B = some (.lst [.ref dg, .int at_]) ∧ Dp K F (.ref dg) (.list (ds.map .int)) ∧ True := by
  have q := x.box
  unfold BoxOk at q
  rw [e] at q
  exact q.2.2
end
def notSl : Expr → Bool
  | .Slice .. => false
  | _ => true
/-! ### reading and writing the box -/
def mBox (i : Nat) (k : Int) (m : M D) : M D := fun S => match S.sl[i]?, S.bx with
  | some .bx, some (ds, at_) => if k = 0 then .ok (.list (ds.map .int)) S else if k = 1 then .ok (.int at_) S else .stuck
  | some .bx, none => .stuck
  | _, _ => m S
def sBox (i : Nat) (m : M D) : MS := fun S => match S.sl[i]?, S.bx with
  | some .bx, some _ => sE m (fun d S1 => match d, S1.bx with
    | .int v, some (ds, _) => .next { S1 with bx := some (ds, v) }
    | _, _ => .stuck) S
  | _, _ => .stuck
def sOwn (i : Nat) (m : M (List D)) : MS := sE m fun ds S => if sumOk ds.length = true then .next { S with sl := S.sl.set i (.ow (.list ds)) } else .stuck
def sAppend (i : Nat) (m : M D) : MS := fun S => match S.sl[i]? with
  | some (.ow _) => sE m (fun d S1 => match S1.sl[i]? with
    | some (.ow (.list ds)) => if sumOk (ds.length + 1) = true then .next { S1 with sl := S1.sl.set i (.ow (.list (ds ++ [d]))) } else .stuck
    | _ => .stuck) S
  | _ => .stuck
def sPutAt (i : Nat) (mi mv : M D) : MS := fun S => match S.sl[i]? with
  | some (.ow _) => sE mv (fun d S1 => match S1.sl[i]? with
    | some (.ow _) => sE mi (fun k S2 => match S2.sl[i]?, k with
      | some (.ow (.list ds)), .int k => match ixN ds.length k with
        | some j => .next { S2 with sl := S2.sl.set i (.ow (.list (ds.set j d))) }
        | none => .stuck
      | _, _ => .stuck) S1
    | _ => .stuck) S
  | _ => .stuck
def isBx (o : Option DV) : Bool := match o with
  | some .bx => true
  | _ => false
def sSub (one : Bool) (i : Nat) (mi m : M D) : MS := fun S => if isBx S.sl[i]? = true then (if one = true then sBox i m S else .stuck) else sPutAt i mi m S
section
variable {X : Cx} {g : Gx} {W : WX} {c : Ct}
theorem je_box (f : Fx X g W c) {x : Str} {i : Nat} {k : Int} {j : Nat} {p pos p2 : Pos} {m : M D} (hi : slotC c x = some i) (h : JE X g W (.Subscript (.Name x p) (.Constant (.int k) j p2) pos) m) : JE X g W (.Subscript (.Name x p) (.Constant (.int k) j p2) pos) (mBox i k m) := by
  refine ⟨fun pins s σ H Q I ⟨b, F, S, y, q⟩ => ?_⟩
  have px := pe_ix (pos := pos) (r := rIxL X.K) ix_list (pe_slot f (pos := p) hi) (pe_int (X := X) (i := k) (j := j) (pos := p2)) (fun _ _ => rfl)
  cases eb : S.bx with
  | none =>
    unfold mBox at q
    rw [eb] at q
    cases es : S.sl[i]? with
    | none => rw [es] at q; exact h.run pins s σ H Q I ⟨b, F, S, y, q⟩
    | some u =>
      rw [es] at q
      cases u with
      | bx => exact q.elim
      | un => exact h.run pins s σ H Q I ⟨b, F, S, y, q⟩
      | sh d => exact h.run pins s σ H Q I ⟨b, F, S, y, q⟩
      | ow d => exact h.run pins s σ H Q I ⟨b, F, S, y, q⟩
  | some r =>
    obtain ⟨ds, at_⟩ := r
    unfold mBox at q
    rw [eb] at q
    cases es : S.sl[i]? with
    | none => rw [es] at q; exact h.run pins s σ H Q I ⟨b, F, S, y, q⟩
    | some u =>
      rw [es] at q
      cases u with
      | un => exact h.run pins s σ H Q I ⟨b, F, S, y, q⟩
      | sh d => exact h.run pins s σ H Q I ⟨b, F, S, y, q⟩
      | ow d => exact h.run pins s σ H Q I ⟨b, F, S, y, q⟩
      | bx =>
        obtain ⟨dg, h3, h4, h5⟩ := y.bxAt eb
        obtain ⟨hb, e2⟩ := y.getB es
        dsimp only at q
        refine px.run pins s σ H Q I ⟨.ref b.B, e2, ?_⟩
        split at q
        · rename_i hk
          subst hk
          exact ⟨b.B, _, 0, .ref dg, rfl, rfl, .inl (.inl h3), rfl, q _ F H y (Same.refl _) (Fr.refl _ _) h4⟩
        · split at q
          · rename_i hk
            subst hk
            exact ⟨b.B, _, 1, .int at_, rfl, rfl, .inl (.inl h3), rfl, q _ F H y (Same.refl _) (Fr.refl _ _) (.int _)⟩
          · exact q.elim
theorem js_box (f : Fx X g W c) {x : Str} {i j : Nat} {e : Expr} {p p2 pos pos' : Pos} {m : M D} (hi : slotC c x = some i) (h : JE X g W e m) (hn : notComp e = true) : JS X g W (.Assign [.Subscript (.Name x p) (.Constant (.int 1) j p2) pos] e pos') (sBox i m) := by
  refine PS.of (ps_asg h (pg_sub (pe_slot f (pos := p) hi) (pe_int (X := X) (i := 1) (j := j) (pos := p2)) set_list) (swaps_no (t := some (.Subscript (.Name x p) (.Constant (.int 1) j p2) pos)) (l := pos'.line) (env := X.env) hn) (by cases e <;> rfl) rfl) fun E σ H ⟨b, F, S, y, q⟩ => ?_
  unfold sBox at q
  split at q
  · rename_i ds0 es eb
    refine bindS y q fun d S1 v F1 H1 x1 s1 f1 r1 q1 => ?_
    have eb1 : S1.bx.isSome = true := by
      rw [← x1.hb, y.hb, eb]
      rfl
    split at q1
    · rename_i d' b' v' ds at_ e2
      cases dp_int r1
      obtain ⟨hb, e3⟩ := y.getB es
      obtain ⟨dg, h3, h4, h5⟩ := x1.bxAt e2
      refine ⟨.ref b.B, e3, b.B, _, 1, 1, rfl, rfl, h3, rfl, ?_⟩
      exact q1 σ F1 _ (x1.putBx e2 h3 h4 h5) (Same.refl _)
    · exact q1.elim
  · exact q.elim
theorem js_own (f : Fx X g W c) {x : Str} {i : Nat} {es : List Expr} {p pos p2 : Pos} {ms : List (M D)} (hi : locC c x = some i) (h : JAe X g W es (mSeq ms)) : JS X g W (.Assign [.Name x p] (.List es p2) pos) (sOwn i (mSeq ms)) := by
  refine PS.of (ps_asg (pe_lst h) (pg_loc f hi) rfl rfl rfl) fun E σ H ⟨b, F, S, y, q⟩ => bindS y q fun ds S1 vs F1 H1 x1 s1 f1 r1 q1 => ?_
  split at q1
  · rename_i hz
    have da := repL_dpAll r1
    exact ⟨by rw [r1.1]; exact sumOk_le hz, fun p hp => q1 _ F1 _ (x1.setOw hp da) (Same.refl _)⟩
  · exact q1.elim
theorem js_append (f : Fx X g W c) {x : Str} {i : Nat} {e : Expr} {p p2 cpos pos : Pos} {m : M D} (hi : slotC c x = some i) (h : JE X g W e m) (hs : noStar [e] = true) (hl : (p2.endLine == cpos.line) = true) :
    JS X g W (.Expr (.Call (.Attribute (.Name x p) "append" p2) [e] [] cpos) pos) (sAppend i m) := by
  have hfew : ((backTo cpos (starEach [e] X.env)).all (fun x => !x.1) && (backToKw cpos (keywordEach [] X.env)).all (fun x => x.1.isSome) && decide ([e].length + ([] : List Keyword).length + (if ([] : List Keyword).isEmpty then 0 else 1) < 30)) = true := by
    rw [star_cons hs]
    rfl
  have pe := pe_bm (cpos := cpos) (apos := p2) PySem.F.plainAttrs_list PySem.F.slot_list_append PySem.F.type_list_append mt_append (pe_slot f (pos := p) hi) (pa_cons h pa_nil (star_cons hs)) rfl hfew hl (star_cons hs) (star_any (noStar_tail hs))
  refine PS.of (ps_expr pe rfl) fun E σ H ⟨b, F, S, y, q⟩ => ?_
  unfold sAppend at q
  split at q
  · rename_i d0 es
    obtain ⟨a, e1, o1⟩ := y.getO es
    obtain ⟨vs0, hv0⟩ := own_ne_nt o1
    refine ⟨.ref a, e1, .inl ⟨rfl, vs0, .inl (.inl hv0)⟩, ?_⟩
    refine bindS y q fun d S1 v F1 H1 x1 s1 f1 r1 q1 => ?_
    split at q1
    · rename_i ds e2
      split at q1
      · rename_i hz
        obtain ⟨a', e3, o3⟩ := x1.getO e2
        rw [e1] at e3
        cases e3
        obtain ⟨o4, o5, o6, vs, ds', e4, e5, e6⟩ := id o3
        cases e4
        have hz := sumOk_le hz
        have hl := dpl_len e6
        refine ⟨a, vs, v, rfl, rfl, e5, by omega, ?_⟩
        exact q1 σ F1 _ (x1.putOw e2 e1 o3 e5 (dpl_app e6 (.cons r1 .nil))) (Same.refl _)
      · exact q1.elim
    · exact q1.elim
  · exact q.elim
theorem js_putAt (f : Fx X g W c) {x : Str} {i : Nat} {ei e : Expr} {p pos pos' : Pos} {mi m : M D} (hi : slotC c x = some i) (hm : JE X g W ei mi) (h : JE X g W e m) (hn : notComp e = true) (hs : notSl ei = true) : JS X g W (.Assign [.Subscript (.Name x p) ei pos] e pos') (sPutAt i mi m) := by
  have ha : ∀ v, assign (.Subscript (.Name x p) ei pos) X.env v = (do
      let ov ← holding [v] (eval (.Name x p) X.env)
      let iv ← holding [v, ov] (eval ei X.env)
      standAt pos
      holding [v, ov, iv] (setItem ov iv v)
      release [v, ov, iv] []) := fun v => by cases ei <;> first | rfl | cases hs
  refine PS.of (ps_asg h (pg_sub (pe_slot f (pos := p) hi) hm set_list ha) (swaps_no (t := some (.Subscript (.Name x p) ei pos)) (l := pos'.line) (env := X.env) hn) (by cases e <;> rfl) rfl) fun E σ H ⟨b, F, S, y, q⟩ => ?_
  unfold sPutAt at q
  split at q
  · rename_i d0 es
    refine bindS y q fun d S1 v F1 H1 x1 s1 f1 r1 q1 => ?_
    split at q1
    · rename_i d2 e2
      obtain ⟨a, e3, o3⟩ := x1.getO e2
      refine ⟨.ref a, e3, ?_⟩
      refine bindS x1 q1 fun k S2 w F2 H2 x2 s2 f2 r2 q2 => ?_
      split at q2
      · rename_i ds k e4
        split at q2
        · rename_i j hj
          cases dp_int r2
          obtain ⟨a', e5, o5⟩ := x2.getO e4
          rw [e3] at e5
          cases e5
          obtain ⟨o6, o7, o8, vs, ds', e6, e7, e8⟩ := id o5
          cases e6
          refine ⟨a, vs, k, j, rfl, rfl, e7, by rw [dpl_len e8]; exact hj, ?_⟩
          exact q2 σ F2 _ (x2.putOw e4 e3 o5 e7 (dpl_set (dp_mono s2 _ _ r1) j e8)) (Same.refl _)
        · exact q2.elim
      · exact q2.elim
    · exact q1.elim
  · exact q.elim
end
end Gl

set_option maxRecDepth 100000
set_option maxHeartbeats 1000000
/-! The general layer: list comprehensions of two clauses. -/
namespace Gl
open PySem PySem.Spec PyProof.Rows L2
theorem walk_W {J : It} {n : Nat} {G : Hp → Prop} {Y : Nat → Hp → V → Hp → Prop} (w : Walk J n G Y) {T : V → Hp → (Hp → Prop) → Prop} {H0 : Hp} {Qd : Hp → Prop} (Pv : Nat → Hp → Prop) (h0 : Pv 0 H0) (hG : ∀ i H, i ≤ n → Pv i H → G H)
    (hs : ∀ i x H H', i < n → Pv i H → Y i H x H' → T x H' (Pv (i + 1))) (hd : ∀ H, Pv n H → Qd H) :
    ∃ W : Nat → Nat → Hp → Prop, (∃ m, W 0 m H0) ∧ ∀ i m H, W i m H →
      (J.stop i H ∧ Qd H) ∨ (J.go i H ∧ ∃ Nx : Hp → Prop, (∀ H', Nx H' → ∃ m', m' < m ∧ W (i + 1) m' H') ∧ ∀ x H', J.yld i H x H' → T x H' Nx) := by
  refine ⟨fun i m H => m = n - i ∧ i ≤ n ∧ Pv i H, ⟨n, by simp, Nat.zero_le _, h0⟩, ?_⟩
  rintro i m H ⟨rfl, hi, p⟩
  have q := hG i H hi p
  by_cases hlt : i < n
  · refine .inr ⟨w.goes i H hlt q, Pv (i + 1), fun H' p' => ⟨n - (i + 1), by omega, rfl, hlt, p'⟩, fun x H' y => hs i x H H' hlt p (w.yields i H x H' hlt q y)⟩
  · have e : i = n := by omega
    subst e
    exact .inl ⟨w.stops H q, hd H p⟩
section
variable {K : PySem.W.Frag} {g : Gx} {b B : Bs} {F F' H H' H1 : Hp} {S : Sto} {σ σ0 : L2.St}
/-- slots that hold nothing of their own, in a later heap -/
theorem SR.reslot {sl sl0 : List DV} {bx bx0 : Bx} (x : SR K g b F' ⟨sl, bx0⟩ σ H') (n : noOw sl) (y : SR K g B F ⟨sl0, bx⟩ σ0 H) (s : Same F' F) (eB : b.B = B.B) (eh : b.hb = B.hb) : SR K g (B.at F H) F ⟨sl, bx⟩ σ H where
  len := x.len
  ff := y.ff
  f0 := Same.refl _
  fn := fun a o h => .inl h
  nt := y.nt
  ext := Fr.refl _ _
  slot i u v e1 e2 := by
    have q := x.slot i u v e1 e2
    cases u with
    | ow d => exact absurd e1 (n i d)
    | un => trivial
    | sh d =>
      obtain ⟨w, e, k⟩ := q
      exact ⟨w, e, dp_mono s _ _ k⟩
    | bx =>
      have q' : b.hb = true ∧ v = some (.ref b.B) := q
      rw [eB, eh] at q'
      exact q'
  dist i j d e y _ h := absurd h (n i d)
  box := y.box
  tabs := y.tabs
end
/-- the items that a comprehension of two clauses gives -/
def compL2 (sl : List DV) (st : Tgt) (mt : M Bool) (mi1 : M (List D)) (vs1 : List Nat) (st1 : Tgt) (mt1 : M Bool) (me : M D) : List D → Bx → Option (List D × Bx)
  | [], bx => some ([], bx)
  | d :: ds, bx => (st d sl).bind fun sl' => match mt ⟨sl', bx⟩ with
    | .ok false S1 => compL2 sl st mt mi1 vs1 st1 mt1 me ds S1.bx
    | .ok true S1 => match mi1 S1 with
      | .ok ds1 S2 => (compL (wipeD (sl'.map hideD) vs1) st1 mt1 me ds1 S2.bx).bind fun p => (compL2 sl st mt mi1 vs1 st1 mt1 me ds p.2).map fun q => (p.1 ++ q.1, q.2)
      | _ => none
    | _ => none
def mComp2N (js vs : List Nat) (mi : M (List D)) (st : Tgt) (mt : M Bool) (mi1 : M (List D)) (vs1 : List Nat) (st1 : Tgt) (mt1 : M Bool) (me : M D) : M DV := mi.bind fun ds S =>
  match compL2 (wipeD ((shareJs S js).sl.map hideD) vs) st mt mi1 vs1 st1 mt1 me ds (shareJs S js).bx with
  | some (ys, bx') => if sumOk ys.length then .ok (.ow (.list ys)) { shareJs S js with bx := bx' } else .stuck
  | none => .stuck
def mComp2 (js vs : List Nat) (mi : M (List D)) (st : Tgt) (mt : M Bool) (mi1 : M (List D)) (vs1 : List Nat) (st1 : Tgt) (mt1 : M Bool) (me : M D) : M D := mi.bind fun ds S =>
  match compL2 (wipeD ((shareJs S js).sl.map hideD) vs) st mt mi1 vs1 st1 mt1 me ds (shareJs S js).bx with
  | some (ys, bx') => if sumOk ys.length then .ok (.list ys) { shareJs S js with bx := bx' } else .stuck
  | none => .stuck
section
variable {X : Cx} {g : Gx} {W : WX} {c : Ct}
abbrev TgW (X : Cx) (g : Gx) (ks : List Nat) (G : TG) (st : Tgt) : Prop := ∀ (b : Bs) (F : Hp) (S : Sto) (σ : L2.St) (H : Hp) (v : V) (d : D) (sl' : List DV) (Q : L2.St → Hp → Prop), SR X.K g b F S σ H → Dp X.K F v d → st d S.sl = some sl' →
      (∀ σ', SR X.K g b F { S with sl := sl' } σ' H → (∀ vs : List Nat, (∀ j ∈ ks, j ∈ vs) → wipe σ' vs = wipe σ vs) → Q σ' H) → G v σ H Q
theorem lcN2 {own : List (Str × Nat)} {js ks ks1 : List Nat} {mi mi1 : M (List D)} {G G1 : TG} {st st1 : Tgt} {mt mt1 : M Bool} {me : M D}
    (hks : ∀ k ∈ ks, k ∈ own.map (·.2)) (hG : TgW X g ks G st) (hG1 : TgW X g ks1 G1 st1)
    {σ : L2.St} {H : Hp} {Q : VK} (h : tN X.K g W (mComp2N js (own.map (·.2)) mi st mt mi1 ks1 st1 mt1 me) σ H Q) :
    tLc2 (tG X.K g W (repIt X.K) mi) G (tG X.K g noW repT mt) (tG X.K g noW (repIt X.K) mi1) G1 (tG X.K g noW repT mt1) (tG X.K g noW (repE X.K) me) (own.map (·.2)) ks1 σ H Q := by
  obtain ⟨b, F, S, x, q⟩ := h
  generalize own.map (·.2) = vs at *
  refine bindN x q fun ds S1 J F1 H1 x1 s1 f1 wk q1 => fun Dd hD => ?_
  obtain ⟨F2, x2, s2⟩ := x1.shares js
  generalize shareJs S1 js = T at *
  have q1 := q1.shift s2 (Fr.refl _ _)
  cases ec : compL2 (wipeD (T.sl.map hideD) vs) st mt mi1 ks1 st1 mt1 me ds T.bx with
  | none => rw [ec] at q1; exact q1.elim
  | some p =>
    obtain ⟨ys, bx'⟩ := p
    rw [ec] at q1
    dsimp only at q1
    split at q1
    rotate_left
    · exact q1.elim
    rename_i hz
    have hz := sumOk_le hz
    have no := hide_noOw T.sl vs
    have x3 := x2.hide vs
    generalize wipeD (T.sl.map hideD) vs = sl0 at *
    have hDB : b.hb = true → Dd ≠ b.B := fun hb z => by
      have e := x2.box
      unfold BoxOk at e
      cases eb : T.bx with
      | none => rw [eb] at e; rw [e] at hb; cases hb
      | some r =>
        obtain ⟨a1, a2⟩ := r
        rw [eb] at e
        obtain ⟨_, _, dg, e3, _⟩ := e
        rw [← z, hD] at e3
        cases e3
    have hF2 : F2 Dd = none := by
      cases z : F2 Dd with
      | none => rfl
      | some u => rw [x2.ff _ _ z] at hD; cases hD
    -- the invariant
    refine walk_W wk (fun i H => ∃ (F : Hp) (bx : Bx) (accV : List V) (acc rest : List D), SR X.K g (b.at F2 H1) F ⟨sl0, bx⟩ (wipe σ vs) H ∧ H Dd = some (.lst accV) ∧ F Dd = none ∧ DpAll X.K F accV acc ∧ compL2 sl0 st mt mi1 ks1 st1 mt1 me (ds.drop i) bx = some (rest, bx') ∧ acc ++ rest = ys)
      ⟨F2, T.bx, [], [], ys, ?_, upd_same, hF2, .nil, by simpa using ec, rfl⟩ (fun i H _ ⟨F, _, _, _, _, y, _⟩ => s2.trans (y.f0.trans y.ff)) (fun i v H H' hi ⟨F, bx, accV, acc, rest, y, hDl, hFD, da, el, ey⟩ yy => ?_) fun H ⟨F, bx, accV, acc, rest, y, hDl, hFD, da, el, ey⟩ => ?_
    · have x4 := x3.call (x3.newU (o := .lst []) hD)
      exact ⟨x4.len, x4.ff, x4.f0, x4.fn, x4.nt, x4.ext, x4.slot, x4.dist, x4.box, x4.tabs⟩
    · -- a turn
      obtain ⟨d, F', e, yb, r⟩ := yd_next y (s2.trans y.f0) yy
      have y' : SR X.K g (b.at F2 H1) F' ⟨sl0, bx⟩ (wipe σ vs) H' := y.call yb
      have hD' : H' Dd = some (.lst accV) := yb.ext Dd _ hDl hDB (lst_nt accV)
      have hFD' : F' Dd = none := yb.fnone hFD hDl (lst_nt _)
      have da' := dpAll_mono (show Same F F' from yb.f0) _ _ da
      rw [drop_get e] at el
      unfold compL2 at el
      cases es : st d sl0 with
      | none => rw [es] at el; cases el
      | some sl' =>
        rw [es, Option.bind_some] at el
        refine hG _ F' ⟨sl0, bx⟩ (wipe σ vs) H' v d sl' _ (y'.up no) r es fun σ2 x5 w5 => ⟨(w5 vs hks).trans (wipe_twice σ vs), _, F', ⟨sl', bx⟩, x5, ?_⟩
        cases em : mt ⟨sl', bx⟩ with
        | stuck => rw [em] at el; cases el
        | exc n d2 b2 => rw [em] at el; cases el
        | ok k S1 =>
          rw [em] at el
          intro v3 F3 H3 x6 s6 f6 r6
          cases (show v3 = k from r6)
          have hF3 : F3 Dd = none := x6.fnone hFD' hD' (lst_nt _)
          have hD3 : H3 Dd = some (.lst accV) := f6 Dd _ hD' hDB (lst_nt accV)
          cases k with
          | false =>
            dsimp only at el
            exact iteF ⟨F3, S1.bx, accV, acc, rest, y'.call x6.forget, hD3, hF3, dpAll_mono s6 _ _ da', el, ey⟩
          | true =>
            dsimp only at el
            refine iteT ⟨_, F3, S1, x6, ?_⟩
            cases ei : mi1 S1 with
            | stuck => rw [ei] at el; cases el
            | exc n d2 b2 => rw [ei] at el; cases el
            | ok ds1 S2 =>
              rw [ei] at el
              dsimp only at el
              intro J1 F4 H4 x7 s7 f7 wk1
              have hF4 : F4 Dd = none := x7.fnone hFD' hD' (lst_nt _)
              have hD4 : H4 Dd = some (.lst accV) := f7 Dd _ hD3 hDB (lst_nt accV)
              have x8 : SR X.K g (b.at F2 H1) F4 ⟨sl0, S2.bx⟩ (wipe σ vs) H4 := y'.call x7.forget
              have noI := hide_noOw sl' ks1
              have xI := x5.hide ks1
              obtain ⟨p1, ep, el⟩ := Option.bind_eq_some_iff.mp el
              obtain ⟨p2, ep2, epq⟩ := Option.map_eq_some_iff.mp el
              obtain ⟨l1, b1⟩ := p1
              obtain ⟨l2, b2⟩ := p2
              cases epq
              have s47 : Same F' F4 := s6.trans s7
              generalize wipeD (List.map hideD sl') ks1 = slI at *
              refine walk_W wk1 (fun j H => ∃ (F : Hp) (bx : Bx) (accV : List V) (acc rest : List D), SR X.K g (b.at F2 H1) F ⟨sl0, bx⟩ (wipe σ vs) H ∧ Same F4 F ∧ H Dd = some (.lst accV) ∧ F Dd = none ∧ DpAll X.K F accV acc ∧ compL slI st1 mt1 me (ds1.drop j) bx = some (rest, b1) ∧ acc ++ (rest ++ l2) = ys)
                ⟨F4, S2.bx, accV, acc, l1, x8, Same.refl _, hD4, hF4, dpAll_mono s47 _ _ da', by simpa using ep, ey⟩ (fun j H _ ⟨F, _, _, _, _, y, s, _⟩ => s.trans y.ff) (fun j v H H' hi ⟨F, bx, accV, acc, rest, y, sF, hDl, hFD, da, el, ey⟩ yy => ?_) fun H ⟨F, bx, accV, acc, rest, y, sF, hDl, hFD, da, el, ey⟩ => ?_
              · -- an inner turn
                obtain ⟨d, F', e, yb, r⟩ := yd_next y sF yy
                have y' : SR X.K g (b.at F2 H1) F' ⟨sl0, bx⟩ (wipe σ vs) H' := y.call yb
                have hD' : H' Dd = some (.lst accV) := yb.ext Dd _ hDl hDB (lst_nt accV)
                have hFD' : F' Dd = none := yb.fnone hFD hDl (lst_nt _)
                have da' := dpAll_mono (show Same F F' from yb.f0) _ _ da
                have xJ := xI.reslot noI y' (s47.trans (sF.trans (show Same F F' from yb.f0))) rfl rfl
                rw [drop_get e] at el
                unfold compL at el
                cases es : st1 d slI with
                | none => rw [es] at el; cases el
                | some sl1 =>
                  rw [es, Option.bind_some] at el
                  refine hG1 _ F' ⟨slI, bx⟩ (wipe σ2 ks1) H' v d sl1 _ xJ r es fun σ3 x5 w5 => ⟨(w5 ks1 fun _ h => h).trans (wipe_twice σ2 ks1), _, F', ⟨sl1, bx⟩, x5, ?_⟩
                  cases em : mt1 ⟨sl1, bx⟩ with
                  | stuck => rw [em] at el; cases el
                  | exc n d2 b2 => rw [em] at el; cases el
                  | ok k S1 =>
                    rw [em] at el
                    intro v3 F3 H3 x6 s6 f6 r6
                    cases (show v3 = k from r6)
                    have hF3 : F3 Dd = none := x6.fnone hFD' hD' (lst_nt _)
                    have hD3 : H3 Dd = some (.lst accV) := f6 Dd _ hD' hDB (lst_nt accV)
                    cases k with
                    | false =>
                      dsimp only at el
                      exact iteF ⟨F3, S1.bx, accV, acc, rest, y'.call x6.forget, sF.trans ((show Same F F' from yb.f0).trans s6), hD3, hF3, dpAll_mono s6 _ _ da', el, ey⟩
                    | true =>
                      dsimp only at el
                      refine iteT ⟨_, F3, S1, x6, ?_⟩
                      cases ee : me S1 with
                      | stuck => rw [ee] at el; cases el
                      | exc n d2 b2 => rw [ee] at el; cases el
                      | ok yd S2 =>
                        rw [ee] at el
                        dsimp only at el
                        cases er : compL slI st1 mt1 me (ds1.drop (j + 1)) S2.bx with
                        | none => rw [er] at el; cases el
                        | some p2 =>
                          rw [er] at el
                          obtain ⟨r2, b2⟩ := p2
                          have e9 : (yd :: r2, b2) = (rest, b1) := Option.some.inj el
                          have e10 : b2 = b1 := congrArg Prod.snd e9
                          have e11 : yd :: r2 = rest := congrArg Prod.fst e9
                          rw [e10] at er
                          subst e11
                          intro v4 F5 H5 x7 s7 f7 r7
                          have hF5 : F5 Dd = none := x7.fnone hFD' hD' (lst_nt _)
                          have hD5 : H5 Dd = some (.lst accV) := f7 Dd _ hD3 hDB (lst_nt accV)
                          have x8 : SR X.K g (b.at F2 H1) F5 ⟨sl0, S2.bx⟩ (wipe σ vs) H5 := y'.call x7.forget
                          refine ⟨accV, hD5, ?_, F5, S2.bx, accV ++ [v4], acc ++ [yd], r2, x8.put no hF5 hD hDB hD5, sF.trans ((show Same F F' from yb.f0).trans (s6.trans s7)), upd_same, hF5, dpl_app (dpAll_mono (s6.trans s7) _ _ da') (.cons r7 .nil), er, by rw [← ey]; simp⟩
                          have l1 := dpl_len da
                          have l2 := congrArg List.length ey
                          rw [List.length_append, List.length_append, List.length_cons] at l2
                          omega
              · -- the inner end
                rw [List.drop_length] at el
                cases el
                exact ⟨F, b1, accV, acc, l2, y, hDl, hFD, da, ep2, ey⟩
    · -- the end
      rw [List.drop_length] at el
      cases el
      rw [List.append_nil] at ey
      subst ey
      have y1 := (SR.forget y).snoc (u := .ow (.list acc)) (t := some (.ref Dd)) ⟨Dd, rfl, hFD, Vac.of hD, hDB, accV, acc, rfl, hDl, da⟩ (fun d _ i e w h => by simp at h)
      exact q1 _ _ H (x2.callN y1) y.f0 y.ext
theorem mComp2_fz {js vs vs1 : List Nat} {mi mi1 : M (List D)} {st st1 : Tgt} {mt mt1 : M Bool} {me : M D} : mComp2 js vs mi st mt mi1 vs1 st1 mt1 me = mFz (mComp2N js vs mi st mt mi1 vs1 st1 mt1 me) := by
  funext S
  unfold mComp2 mFz mComp2N M.bind
  cases mi S with
  | ok ds S1 =>
    show (match compL2 (wipeD ((shareJs S1 js).sl.map hideD) vs) st mt mi1 vs1 st1 mt1 me ds (shareJs S1 js).bx with | some (ys, bx') => _ | none => _) = R.bind (match compL2 (wipeD ((shareJs S1 js).sl.map hideD) vs) st mt mi1 vs1 st1 mt1 me ds (shareJs S1 js).bx with | some (ys, bx') => _ | none => _) fzD
    cases compL2 (wipeD ((shareJs S1 js).sl.map hideD) vs) st mt mi1 vs1 st1 mt1 me ds (shareJs S1 js).bx with
    | none => rfl
    | some p =>
      obtain ⟨ys, bx'⟩ := p
      dsimp only
      cases sumOk ys.length <;> rfl
  | exc c d b => rfl
  | stuck => rfl
end
end Gl

set_option maxRecDepth 100000
set_option maxHeartbeats 1000000
/-! The general layer: what makes new lists; several values at once; targets that are places in lists. -/
namespace Gl
open PySem PySem.Spec PyProof.Rows L2

/-! ### operations whose answer may be new -/
def addN : D → D → Option DV
  | .list xs, .list ys => if sumOk (xs.length + ys.length) then some (.ow (.list (xs ++ ys))) else none
  | a, b => (addD a b).map .sh
def mulN : D → D → Option DV
  | .list ds, .int k => if repOk ds.length k then some (.ow (.list (repDs ds k.toNat))) else none
  | a, b => (mulD a b).map .sh
def binN : Operator → D → D → Option DV
  | .Add => addN
  | .Mult => mulN
  | op => fun a b => (binD op a b).map .sh
def r2N (K : PySem.W.Frag) (g : Gx) (f : D → D → Option DV) : R2 := fun x y H Q => ∃ (b : Bs) (F : Hp) (S : Sto) (σ : L2.St) (d1 d2 : D) (u : DV), SR K g b F S σ H ∧ BRep K b F H x d1 ∧ BRep K b F H y d2 ∧ f d1 d2 = some u ∧
  ∀ v F' H', SR K g (b.at F H) F' ⟨[u], S.bx⟩ [some v] H' → Q v H'
section
variable {X : Cx} {g : Gx} {W : WX}
theorem op_shN {op : Operator} {f : D → D → Option D} (h : OpR X (binaryOp op) (r2 X.K g f)) : OpR X (binaryOp op) (r2N X.K g fun a b => (f a b).map .sh) := fun pins s σ H x y v u Q I rx ry ⟨b, F, S, σ', d1, d2, u', x1, h1, h2, e, q⟩ => by
  obtain ⟨d, e1, rfl⟩ := Option.map_eq_some_iff.mp e
  exact h pins s σ H x y v u Q I rx ry ⟨b, F, S, σ', d1, d2, d, x1, h1, h2, e1, fun w F' H' y r => q w F' H' (y.shN r)⟩
theorem op_addN : OpR X (binaryOp .Add) (r2N X.K g addN) := by
  intro pins s σ H x y v u Q I rx ry h
  obtain ⟨b, F, S, σ', d1, d2, u', x1, h1, h2, e, q⟩ := id h
  unfold addN at e
  split at e
  · split at e
    · rename_i hz
      cases e
      obtain ⟨a, vs, rfl, s1, k1⟩ := h1.list x1.ff
      obtain ⟨c, ws, rfl, s2, k2⟩ := h2.list x1.ff
      have z := sumOk_le hz
      rw [← dpl_len k1, ← dpl_len k2] at z
      exact op_catL pins s σ H _ _ v u Q I rx ry ⟨a, c, vs, ws, rfl, rfl, s1, s2, z, fun p hp => q _ _ _ (x1.newN hp (dpl_app k1 k2))⟩
    · cases e
  · exact op_shN (g := g) op_addD pins s σ H x y v u Q I rx ry ⟨b, F, S, σ', d1, d2, u', x1, h1, h2, e, q⟩
theorem op_mulN : OpR X (binaryOp .Mult) (r2N X.K g mulN) := by
  intro pins s σ H x y v u Q I rx ry h
  obtain ⟨b, F, S, σ', d1, d2, u', x1, h1, h2, e, q⟩ := id h
  unfold mulN at e
  split at e
  · split at e
    · rename_i hz
      cases e
      unfold repOk at hz
      rw [Bool.and_eq_true, Bool.and_eq_true] at hz
      obtain ⟨a, vs, rfl, s1, k1⟩ := h1.list x1.ff
      exact op_repL pins s σ H _ _ v u Q I rx ry ⟨a, _, vs, rfl, h2.int_, s1, of_decide_eq_true hz.1.1, of_decide_eq_true hz.1.2, by rw [dpl_len k1]; exact sumOk_le hz.2, fun p hp => q _ _ _ (x1.newN hp (dpl_rep k1 _))⟩
    · cases e
  · exact op_shN (g := g) op_mulD pins s σ H x y v u Q I rx ry ⟨b, F, S, σ', d1, d2, u', x1, h1, h2, e, q⟩
theorem op_binN (op : Operator) : OpR X (binaryOp op) (r2N X.K g (binN op)) := by
  cases op
  case Add => exact op_addN
  case Mult => exact op_mulN
  all_goals exact op_shN (op_binD _)
def mOpN (f : D → D → Option DV) (ma mb : M D) : M DV := ma.bind fun x => mb.bind fun y => ofO (f x y)
theorem jn_op2 {a c : Expr} {op : Operator} {pos : Pos} {ma mb : M D} (ha : JB X g W a ma) (hb : JB X g W c mb) : JN X g W (.BinOp a op c pos) (mOpN (binN op) ma mb) :=
  PE.of (pe_op (op_binN (g := g) op) ha hb) fun σ H Q ⟨b, F, S, x, q⟩ => bindN x q fun d1 S1 v F1 H1 x1 s1 f1 r1 q1 => bindN x1 q1 fun d2 S2 u F2 H2 x2 s2 f2 r2 q2 => by
    obtain ⟨w, e, q3⟩ := ofO_postN q2
    exact ⟨b, F2, S2, σ, d1, d2, w, x2, brep_mono s2 f2 r1, r2, e, fun w F' H' y1 => q3.fin x2 y1⟩
def mLstN (ms : M (List D)) : M DV := ms.bind fun ds => if sumOk ds.length then mC (.ow (.list ds)) else fun _ => .stuck
theorem jn_lst {es : List Expr} {pos : Pos} {ms : List (M D)} (h : PA X es (tG X.K g W (repL (repE X.K)) (mSeq ms))) : JN X g W (.List es pos) (mLstN (mSeq ms)) :=
  PE.of (pe_lst h) fun σ H Q ⟨b, F, S, x, q⟩ => bindN x q fun ds S1 vs F1 H1 x1 s1 f1 r1 q1 => by
    split at q1
    · rename_i hz
      exact ⟨by rw [r1.1]; exact sumOk_le hz, fun p hp => PostN.fin (bx' := S1.bx) q1 x1 (x1.newN hp (repL_dpAll r1))⟩
    · exact q1.elim
/-- slices -/
def cutN (x : D) (lo hi : Option Int) : Option DV := match x with
  | .list ds => some (.ow (.list (cutL ds lo hi)))
  | x => (cutD x lo hi).map .sh
def rSlN (K : PySem.W.Frag) (g : Gx) : V → Option Int → Option Int → Hp → VK → Prop := fun x lo hi H Q => ∃ (b : Bs) (F : Hp) (S : Sto) (σ : L2.St) (d1 : D) (u : DV), SR K g b F S σ H ∧ BRep K b F H x d1 ∧ cutN d1 lo hi = some u ∧
  ∀ v F' H', SR K g (b.at F H) F' ⟨[u], S.bx⟩ [some v] H' → Q v H'
theorem sl_N : SlR X (rSlN X.K g) := by
  intro pins s σ H x v vl vu lo hi sl Q I rx hs pl pu h
  obtain ⟨b, F, S, σ', d1, u', x1, h1, e, q⟩ := h
  unfold cutN at e
  split at e
  · cases e
    obtain ⟨a, vs, rfl, s1, k1⟩ := h1.list x1.ff
    exact sl_list pins s σ H _ v vl vu lo hi sl Q I rx hs pl pu ⟨a, vs, rfl, s1, fun p hp => q _ _ _ (x1.newN hp (cutV_dp k1))⟩
  · obtain ⟨d, e1, rfl⟩ := Option.map_eq_some_iff.mp e
    exact sl_D (g := g) pins s σ H x v vl vu lo hi sl Q I rx hs pl pu ⟨b, F, S, σ', d1, d, x1, h1, e1, fun w F' H' y r => q w F' H' (y.shN r)⟩
def mCutN (m : M D) (lo hi : M (Option Int)) : M DV := m.bind fun x => lo.bind fun l => hi.bind fun h => ofO (cutN x l h)
theorem jn_cut {a : Expr} {lo hi : Option Expr} {pos p2 : Pos} {ma : M D} {ml mh : M (Option Int)} (ha : JB X g W a ma) (hl : PO X lo (tG X.K g W repO ml)) (hh : PO X hi (tG X.K g W repO mh)) :
    JN X g W (.Subscript a (.Slice lo hi none p2) pos) (mCutN ma ml mh) :=
  PE.of (pe_slice (sl_N (g := g)) ha hl hh) fun σ H Q ⟨b, F, S, x, q⟩ => bindN x q fun d1 S1 v F1 H1 x1 s1 f1 r1 q1 => bindN x1 q1 fun l S2 l' F2 H2 x2 s2 f2 r2 q2 => bindN x2 q2 fun h S3 h' F3 H3 x3 s3 f3 r3 q3 => by
    cases (show l' = l from r2)
    cases (show h' = h from r3)
    obtain ⟨d, e, q4⟩ := ofO_postN q3
    exact ⟨b, F3, S3, σ, d1, d, x3, brep_mono s3 f3 (brep_mono s2 f2 r1), e, fun w F' H' y1 => q4.fin x3 y1⟩
/-- built-ins of one argument -/
def c1N (K : PySem.W.Frag) (g : Gx) (f : D → Option DV) : List V → Hp → VK → Prop := fun xs H Q => ∃ (b : Bs) (F : Hp) (S : Sto) (σ : L2.St) (x : V) (d1 : D) (u : DV), xs = [x] ∧ SR K g b F S σ H ∧ BRep K b F H x d1 ∧ f d1 = some u ∧
  ∀ v F' H', SR K g (b.at F H) F' ⟨[u], S.bx⟩ [some v] H' → Q v H'
def listN : D → Option DV
  | .list ds => some (.ow (.list ds))
  | .tuple ds => some (.ow (.list ds))
  | _ => none
theorem call_listN : CallR X (.type "list") (c1N X.K g listN) := by
  refine CallR.ofC call_list_of fun xs H Q h => ?_
  obtain ⟨b, F, S, σ, x, d1, d, rfl, x1, h1, e, q⟩ := h
  cases d1 with
  | list ds =>
    cases e
    obtain ⟨a, vs, rfl, s1, k1⟩ := h1.list x1.ff
    exact ⟨a, vs, rfl, .inl s1, fun l hl => q _ _ _ (x1.newN hl k1)⟩
  | tuple ds =>
    cases e
    obtain ⟨a, vs, rfl, s1, s1', k1⟩ := h1.tuple x1.ff
    exact ⟨a, vs, rfl, .inr s1, fun l hl => q _ _ _ (x1.newN hl k1)⟩
  | _ => cases e
def mOp1N (f : D → Option DV) (m : M D) : M DV := m.bind fun x => ofO (f x)
theorem jn_c1 {x : Str} {p pos : Pos} {e : Expr} {ma : M D} {f : D → Option DV} (h : ∀ t, PA X [e] t → PE X (.Call (.Name x p) [e] [] pos) (tCB (c1N X.K g f) t)) (ha : PA X [e] (tG X.K g W (repL (repB X.K)) (mSeq [ma]))) : JN X g W (.Call (.Name x p) [e] [] pos) (mOp1N f ma) :=
  PE.of (h _ ha) fun σ H Q ⟨b, F, S, x, q⟩ => by
    refine ⟨b, F, S, x, ?_⟩
    show PostG _ _ _ _ _ _ _ _ _ ((ma S).bind fun a S' => .ok [a] S')
    cases z : ma S with
    | stuck => unfold mOp1N M.bind at q; rw [z] at q; exact q.elim
    | exc c d bx' => unfold mOp1N M.bind at q; rw [z] at q; exact q
    | ok d1 S1 =>
      unfold mOp1N M.bind at q
      rw [z] at q
      intro vs F1 H1 x1 s1 f1 r1
      obtain ⟨u, e, q3⟩ := ofO_postN (S := S1) q
      obtain ⟨v, rfl⟩ : ∃ v, vs = [v] := by
        have := r1.1
        match vs, this with
        | [v], _ => exact ⟨v, rfl⟩
      exact ⟨b, F1, S1, σ, v, d1, u, rfl, x1, r1.2 0 v d1 rfl rfl, e, fun w F' H' y1 => (PostN.shift q3 s1 f1).fin x1 y1⟩
/-! ### a name = something that may be new -/
def sSetV (i : Nat) (u : DV) : MS := fun S => .next { S with sl := S.sl.set i u }
theorem bindSN {K : PySem.W.Frag} {σ : L2.St} {b : Bs} {F H : Hp} {S : Sto} {T : VK} {E : Ends} {m : M DV} {k : DV → MS} (x : SR K g b F S σ H) (h : PostS K g W b F H E (sE m k S))
    (hT : ∀ (u : DV) (S1 : Sto) (v : V) (F1 H1 : Hp), SR K g b F1 ⟨S1.sl ++ [u], S1.bx⟩ (σ ++ [some v]) H1 → Same F F1 → Fr b H H1 → PostS K g W b F1 H1 E (k u S1) → T v H1) : tN K g W m σ H T := by
  refine ⟨b, F, S, x, ?_⟩
  unfold sE R.toO at h
  cases e : m S with
  | stuck => rw [e] at h; exact h
  | exc c d bx' => rw [e] at h; exact h σ
  | ok a S1 =>
    rw [e] at h
    exact fun v F1 H1 x1 s1 f1 => hT a S1 v F1 H1 x1 s1 f1 (PostS.shift h s1)
theorem js_setN {c : Ct} (f : Fx X g W c) {x : Str} {i : Nat} {e : Expr} {p pos : Pos} {m : M DV} (hi : locC c x = some i) (h : JN X g W e m) (hn : notComp e = true) : JS X g W (.Assign [.Name x p] e pos) (sE m (sSetV i)) :=
  PS.of (ps_asg h (pg_loc f hi) (swaps_no (t := some (.Name x p)) (l := pos.line) hn) rfl rfl) fun E σ H ⟨b, F, S, x, q⟩ => bindSN x q fun u S1 v F1 H1 x1 s1 f1 q1 => q1 _ F1 H1 x1.moveN (Same.refl _)
/-! ### several values, some of them new -/
def anyOw (gs : List DV) : Bool := gs.any fun u => match u with
  | .ow _ => true
  | _ => false
/-- where something new waits, the rest is worked out with one's own lists out of sight -/
def mHid (h : Bool) (m : M DV) : M DV := fun S => if h = true then (match m ⟨S.sl.map hideD, S.bx⟩ with
  | .ok u S' => .ok u ⟨S.sl, S'.bx⟩
  | .exc c d b => .exc c d b
  | .stuck => .stuck) else m S
def mSeqN : List DV → List (M DV) → M (List DV)
  | gs, [] => mC gs
  | gs, m :: ms => (mHid (anyOw gs) m).bind fun u => mSeqN (gs ++ [u]) ms
theorem anyOw_no {gs : List DV} (h : anyOw gs = false) {d : D} : DV.ow d ∉ gs := fun z => by
  unfold anyOw at h
  rw [List.any_eq_false] at h
  exact h _ z rfl
theorem SR.last {K : PySem.W.Frag} {b : Bs} {F H : Hp} {σ : L2.St} {sl : List DV} {u : DV} {t : Option V} {bx : Bx} (x : SR K g b F ⟨sl ++ [u], bx⟩ (σ ++ [t]) H) : SlotOk K b F H u t ∧ ∀ (d : D), u = DV.ow d → ∀ (i : Nat) (e : D) (y : Option V), sl[i]? = some (DV.ow e) → σ[i]? = some y → y ≠ t := by
  have hl : sl.length = σ.length := by
    have := x.len
    simpa using this
  have hu : (sl ++ [u])[sl.length]? = some u := by simp
  have ht : (σ ++ [t])[sl.length]? = some t := by rw [hl]; simp
  refine ⟨x.slot _ _ _ hu ht, fun d e i e' y h1 h2 z => ?_⟩
  have hi := (List.getElem?_eq_some_iff.mp h1).1
  refine x.dist i sl.length e' d y (by omega) ?_ (by rw [hu, e]) ?_ (by rw [ht, z])
  · show (sl ++ [u])[i]? = _
    rw [List.getElem?_append_left hi]
    exact h1
  · rw [List.getElem?_append_left (by omega)]
    exact h2
/-- a slot that is not one's own comes in ahead of the last one -/
theorem SR.ins {K : PySem.W.Frag} {b : Bs} {F H : Hp} {σ : L2.St} {sl : List DV} {u w : DV} {t tw : Option V} {bx : Bx} (x : SR K g b F ⟨sl ++ [u], bx⟩ (σ ++ [t]) H) (h : SlotOk K b F H w tw) (hw : ∀ d, w ≠ DV.ow d) : SR K g b F ⟨(sl ++ [w]) ++ [u], bx⟩ ((σ ++ [tw]) ++ [t]) H := by
  have hl : sl.length = σ.length := by
    have := x.len
    simpa using this
  obtain ⟨h1, h2⟩ := x.last
  have x1 := SR.snoc (u := w) (t := tw) (x.pre hl) h fun d e => absurd e (hw d)
  refine x1.snoc h1 fun d e i e' y g1 g2 => ?_
  rcases get_snoc g1 with ⟨l1, g1⟩ | ⟨_, g1⟩
  · rcases get_snoc g2 with ⟨_, g2⟩ | ⟨l2, _⟩
    · exact h2 d e i e' y g1 g2
    · omega
  · exact absurd g1.symm (hw e')
theorem SR.inss {K : PySem.W.Frag} {b : Bs} {F H : Hp} {u : DV} {t : Option V} {bx : Bx} : ∀ {gs : List DV} {ts : L2.St} {sl : List DV} {σ : L2.St}, SR K g b F ⟨sl ++ [u], bx⟩ (σ ++ [t]) H → gs.length = ts.length → (∀ (i : Nat) (w : DV) (tw : Option V), gs[i]? = some w → ts[i]? = some tw → SlotOk K b F H w tw ∧ ∀ d, w ≠ DV.ow d) → SR K g b F ⟨sl ++ gs ++ [u], bx⟩ (σ ++ ts ++ [t]) H
  | [], [], sl, σ, x, _, _ => by simpa using x
  | w :: gs, tw :: ts, sl, σ, x, hl, h => by
    obtain ⟨h1, h2⟩ := h 0 w tw rfl rfl
    have x1 := SR.inss (gs := gs) (ts := ts) (x.ins h1 h2) (by simpa using hl) fun i w tw e1 e2 => h (i + 1) w tw (by simpa using e1) (by simpa using e2)
    simpa using x1
  | [], _ :: _, _, _, _, h, _ => by cases h
  | _ :: _, [], _, _, _, h, _ => by cases h
/-- the values that wait hang behind the slots -/
def PostQ (K : PySem.W.Frag) (g : Gx) (W : WX) (σ : L2.St) (b : Bs) (F : Hp) (ws : List V) (Q : List V → Hp → Prop) : R (List DV) → Prop
  | .ok us S' => ∀ (vs : List V) (F' H' : Hp), S'.sl.length = σ.length → us.length = (ws ++ vs).length → SR K g b F' ⟨S'.sl ++ us, S'.bx⟩ (σ ++ (ws ++ vs).map some) H' → Same F F' → Q vs H'
  | .exc c d bx' => ExcP K g W σ b c d bx'
  | .stuck => False
def tSeqN (K : PySem.W.Frag) (g : Gx) (W : WX) (ms : List (M DV)) : TA := fun σ H Q => ∃ (gs : List DV) (ws : List V) (b : Bs) (F : Hp) (S : Sto), S.sl.length = σ.length ∧ gs.length = ws.length ∧ SR K g b F ⟨S.sl ++ gs, S.bx⟩ (σ ++ ws.map some) H ∧
  PostQ K g W σ b F ws Q (mSeqN gs ms S)
theorem PostQ.shift {K : PySem.W.Frag} {σ : L2.St} {b : Bs} {F F1 : Hp} {ws : List V} {Q : List V → Hp → Prop} {r : R (List DV)} (h : PostQ K g W σ b F ws Q r) (s : Same F F1) : PostQ K g W σ b F1 ws Q r := by
  cases r with
  | ok a S' => exact fun vs F' H' h1 h2 x s' => h vs F' H' h1 h2 x (s.trans s')
  | exc c d bx' => exact h
  | stuck => exact h
theorem PostQ.tail {K : PySem.W.Frag} {σ : L2.St} {b : Bs} {F : Hp} {ws : List V} {v : V} {Q : List V → Hp → Prop} {r : R (List DV)} (h : PostQ K g W σ b F ws Q r) : PostQ K g W σ b F (ws ++ [v]) (fun vs H' => Q (v :: vs) H') r := by
  cases r with
  | ok a S' => exact fun vs F' H' h1 h2 x s' => h (v :: vs) F' H' h1 (by simpa using h2) (by simpa using x) s'
  | exc c d bx' => exact h
  | stuck => exact h
theorem ja_seqN : ∀ {es : List Expr} {ms : List (M DV)}, noStar es = true → es.length = ms.length → (∀ (i : Nat) e m, es[i]? = some e → ms[i]? = some m → JN X g W e m) → PA X es (tSeqN X.K g W ms)
  | [], [], _, _, _ => PA.of pa_nil fun σ H Q ⟨gs, ws, b, F, S, hl, hg, x, q⟩ => q [] F H hl (by rw [List.append_nil]; exact hg) (by rw [List.append_nil]; exact x) (Same.refl _)
  | e :: es, m :: ms, hs, hlen, hj => by
    have hm : JN X g W e m := hj 0 e m rfl rfl
    have tl := ja_seqN (es := es) (ms := ms) (noStar_tail hs) (by simpa using hlen) fun i e m h1 h2 => hj (i + 1) e m (by simpa using h1) (by simpa using h2)
    refine PA.of (pa_cons hm tl (star_cons hs)) fun σ H Q ⟨gs, ws, b, F, S, hl, hg, x, q⟩ => ?_
    have x0 : SR X.K g b F S σ H := x.pre hl
    show tN X.K g W m σ H _
    unfold mSeqN at q
    have q : PostQ X.K g W σ b F ws Q ((mHid (anyOw gs) m S).bind fun u => mSeqN (gs ++ [u]) ms) := q
    unfold mHid at q
    cases ho : anyOw gs with
    | false =>
      rw [ho, if_neg (by decide)] at q
      refine ⟨b, F, S, x0, ?_⟩
      cases em : m S with
      | stuck => rw [em] at q; exact q
      | exc c d bx' => rw [em] at q; exact q
      | ok u S1 =>
        rw [em] at q
        intro v F' H' y s' f'
        have hl1 : S1.sl.length = σ.length := by
          have := y.len
          simpa using this
        refine ⟨gs ++ [u], ws ++ [v], b, F', S1, hl1, by simp [hg], ?_, (PostQ.shift (show PostQ X.K g W σ b F ws Q (mSeqN (gs ++ [u]) ms S1) from q) s').tail⟩
        have := SR.inss (gs := gs) (ts := ws.map some) y (by simpa using hg) fun i w tw e1 e2 => by
          have nw : ∀ d, w ≠ DV.ow d := fun d z => anyOw_no ho (z ▸ List.mem_of_getElem? e1)
          refine ⟨?_, nw⟩
          have hi := (List.getElem?_eq_some_iff.mp e1).1
          have sk := x.slot (S.sl.length + i) w tw (by
            show (S.sl ++ gs)[_]? = _
            rw [List.getElem?_append_right (by omega), Nat.add_sub_cancel_left]
            exact e1) (by
            rw [List.getElem?_append_right (by omega), ← hl, Nat.add_sub_cancel_left]
            exact e2)
          cases w with
          | un => trivial
          | bx => exact sk
          | sh d =>
            obtain ⟨z, h1, h2⟩ := sk
            exact ⟨z, h1, dp_mono s' _ _ h2⟩
          | ow d => exact absurd rfl (nw d)
        simpa using this
    | true =>
      rw [ho, if_pos rfl] at q
      have xh := x0.hide []
      refine ⟨b.at F H, F, ⟨S.sl.map hideD, S.bx⟩, xh, ?_⟩
      cases em : m ⟨S.sl.map hideD, S.bx⟩ with
      | stuck => rw [em] at q; exact q
      | exc c d bx' =>
        rw [em] at q
        have q : ExcP X.K g W σ b c d bx' := q
        exact fun a C f v F' H' hc y ha hd => q a C f v F' H' hc (x0.call y).forget ha hd
      | ok u S1 =>
        rw [em] at q
        intro v F' H' y s' f'
        have hl1 : S1.sl.length = σ.length := by
          have := y.len
          simpa using this
        obtain ⟨k1, k2⟩ := y.last
        have y1 : SR X.K g (b.at F H) F' ⟨[u], S1.bx⟩ [some v] H' := SR.snoc (sl := []) (σ := []) (SR.forget (S := ⟨S1.sl ++ [u], S1.bx⟩) y) k1 fun d _ i e w h => by simp at h
        have x1 := x.callN y1
        refine ⟨gs ++ [u], ws ++ [v], b, F', ⟨S.sl, S1.bx⟩, hl, by simp [hg], by simpa using x1, (PostQ.shift (show PostQ X.K g W σ b F ws Q (mSeqN (gs ++ [u]) ms ⟨S.sl, S1.bx⟩) from q) s').tail⟩
  | [], _ :: _, _, h, _ => by cases h
  | _ :: _, [], _, h, _ => by cases h
/-- several names are stored to at once -/
def sParN (is : List Nat) (us : List DV) : MS := fun S => if us.length = is.length then .next { S with sl := (is.zip us).foldl (fun sl p => sl.set p.1 p.2) S.sl } else .stuck
/-- something waits behind, then stored: one after another -/
theorem SR.moves {K : PySem.W.Frag} {b : Bs} {F H : Hp} {bx : Bx} : ∀ {us : List DV} {vs : List V} {is : List Nat} {sl : List DV} {σ : L2.St}, sl.length = σ.length → us.length = vs.length → is.length = us.length → SR K g b F ⟨sl ++ us, bx⟩ (σ ++ vs.map some) H →
    SR K g b F ⟨(is.zip us).foldl (fun sl p => sl.set p.1 p.2) sl, bx⟩ ((is.zip vs).foldl (fun σ p => σ.set p.1 (some p.2)) σ) H
  | [], [], [], sl, σ, _, _, _, x => by simpa using x
  | u :: us, v :: vs, i :: is, sl, σ, hl, h1, h2, x => by
    -- the first one moves: bring it to the end
    have h1' : us.length = vs.length := by simpa using h1
    have hsl : (sl.set i u).length = (σ.set i (some v)).length := by rw [List.length_set, List.length_set]; exact hl
    have key : SR K g b F ⟨sl.set i u ++ us, bx⟩ (σ.set i (some v) ++ vs.map some) H := by
      have x0 : SR K g b F ⟨sl ++ [u], bx⟩ (σ ++ [some v]) H := SR.pre (gs := us) (ts := vs.map some) (by simp [hl]) (by simpa using x)
      have x1 := x0.moveN (i := i)
      refine ⟨by simp only [List.length_append, List.length_map]; rw [hsl]; omega, x1.ff, x1.f0, x1.fn, x1.nt, x1.ext, fun j w y e1 e2 => ?_, fun j k d1 d2 y n e1 e2 e3 e4 => ?_, x1.box, x1.tabs⟩
      · by_cases hj : j < (sl.set i u).length
        · have e1 : (sl.set i u ++ us)[j]? = some w := e1
          rw [List.getElem?_append_left hj] at e1
          rw [List.getElem?_append_left (by omega)] at e2
          exact x1.slot j w y e1 e2
        · have e1 : (sl.set i u ++ us)[j]? = some w := e1
          rw [List.getElem?_append_right (by omega)] at e1
          rw [List.getElem?_append_right (by omega)] at e2
          refine x.slot (j + 1) w y ?_ ?_
          · show (sl ++ u :: us)[j + 1]? = _
            rw [List.getElem?_append_right (by simp at hj; omega), show j + 1 - sl.length = (j - sl.length) + 1 by simp at hj; omega, List.getElem?_cons_succ, ← e1, List.length_set]
          · rw [List.map_cons, List.getElem?_append_right (by simp at hj; omega), show j + 1 - σ.length = (j - σ.length) + 1 by simp at hj; omega, List.getElem?_cons_succ, ← e2, List.length_set]
      · -- where a slot of the new state stood in the old one
        have back : ∀ {j : Nat} {w : DV} {y : Option V}, (sl.set i u ++ us)[j]? = some w → (σ.set i (some v) ++ vs.map some)[j]? = some y → ∃ j', (sl ++ u :: us)[j']? = some w ∧ (σ ++ (v :: vs).map some)[j']? = some y ∧ (j' = if j < sl.length then (if j = i then sl.length else j) else j + 1) := fun {j w y} e1 e2 => by
          by_cases hj : j < sl.length
          · rw [List.getElem?_append_left (by simpa using hj)] at e1
            rw [List.getElem?_append_left (by simp; omega)] at e2
            rw [if_pos hj]
            by_cases hi : j = i
            · subst hi
              rw [if_pos rfl]
              rw [List.getElem?_set] at e1 e2
              rw [if_pos rfl, if_pos (by omega)] at e1 e2
              refine ⟨_, ?_, ?_, rfl⟩
              · rw [List.getElem?_append_right (by omega), Nat.sub_self]
                exact e1
              · rw [hl, List.getElem?_append_right (by omega), Nat.sub_self]
                exact e2
            · rw [if_neg hi]
              rw [List.getElem?_set_ne (Ne.symm hi)] at e1 e2
              refine ⟨j, ?_, ?_, rfl⟩
              · rw [List.getElem?_append_left hj]
                exact e1
              · rw [List.getElem?_append_left (by omega)]
                exact e2
          · rw [if_neg hj]
            rw [List.getElem?_append_right (by simp; omega), List.length_set] at e1
            rw [List.getElem?_append_right (by simp; omega), List.length_set] at e2
            refine ⟨j + 1, ?_, ?_, rfl⟩
            · rw [List.getElem?_append_right (by omega), show j + 1 - sl.length = (j - sl.length) + 1 by omega, List.getElem?_cons_succ]
              exact e1
            · rw [List.map_cons, List.getElem?_append_right (by omega), show j + 1 - σ.length = (j - σ.length) + 1 by omega, List.getElem?_cons_succ]
              exact e2
        obtain ⟨j', a1, a2, a3⟩ := back e1 e3
        have hlen : (sl.set i u ++ us).length = (σ.set i (some v) ++ vs.map some).length := by simp [hl]; simpa using h1
        obtain ⟨k', c1, c2, c3⟩ := back (y := y) e2 e4
        refine x.dist j' k' d1 d2 y ?_ a1 c1 a2 c2
        rw [a3, c3]
        split <;> split <;> (try split) <;> (try split) <;> omega
    have := SR.moves (us := us) (vs := vs) (is := is) hsl (by simpa using h1) (by simpa using h2) key
    simpa using this
  | [], _ :: _, _, _, _, _, h, _, _ => by cases h
  | _ :: _, [], _, _, _, _, h, _, _ => by cases h
  | [], [], _ :: _, _, _, _, _, h, _ => by cases h
  | _ :: _, _ :: _, [], _, _, _, _, h, _ => by cases h
/-- the names are stored to, each the value at its place -/
theorem parN_read {K : PySem.W.Frag} {σ : L2.St} {H : Hp} {b : Bs} {F : Hp} {S : Sto} {E : Ends} {is : List Nat} {ms : List (M DV)} (x : SR K g b F S σ H) (q : PostS K g W b F H E (sE (mSeqN [] ms) (sParN is) S)) :
    tSeqN K g W ms σ H fun vs H1 => is.length = vs.length ∧ E.nx ((is.zip vs).foldl (fun σ p => σ.set p.1 (some p.2)) σ) H1 := by
  refine ⟨[], [], b, F, S, x.len, rfl, by simpa using x, ?_⟩
  unfold sE R.toO at q
  cases em : mSeqN [] ms S with
  | stuck => rw [em] at q; exact q
  | exc c d bx' => rw [em] at q; exact q σ
  | ok us S' =>
    rw [em] at q
    intro vs F' H' h1 h2 y s'
    have q : PostS K g W b F H E (sParN is us S') := q
    unfold sParN at q
    split at q
    · rename_i hz
      rw [List.nil_append] at h2 y
      exact ⟨by omega, q _ F' H' (SR.moves h1 h2 (by omega) y) s'⟩
    · exact q.elim
theorem js_parN2 {i j : Nat} {x y : Str} {a e : Expr} {ms : List (M DV)} {px py pt pos pt2 : Pos} {kt k2 : Nat} (ha : PA X [a, e] (tSeqN X.K g W ms))
    (h : PS X (.Assign [.Tuple [.Name x px, .Name y py] kt pt] (.Tuple [a, e] k2 pt2) pos) (tPar i j (tSeqN X.K g W ms))) :
    JS X g W (.Assign [.Tuple [.Name x px, .Name y py] kt pt] (.Tuple [a, e] k2 pt2) pos) (sE (mSeqN [] ms) (sParN [i, j])) := by
  refine PS.of h fun E σ H ⟨b, F, S, x, q⟩ => ?_
  obtain ⟨gs, ws, b2, F2, S2, h1, h2, h3, h4⟩ := parN_read x q
  refine ⟨gs, ws, b2, F2, S2, h1, h2, h3, ?_⟩
  cases em : mSeqN gs ms S2 with
  | stuck => rw [em] at h4; exact h4
  | exc c d bx' => rw [em] at h4; exact h4
  | ok us S' =>
    rw [em] at h4
    intro vs F' H' a1 a2 a3 a4
    obtain ⟨z1, z2⟩ := h4 vs F' H' a1 a2 a3 a4
    match vs, z1 with
    | [v, w], _ => exact ⟨v, w, rfl, z2⟩
theorem js_parN3 {i j l : Nat} {x y z : Str} {a e e' : Expr} {ms : List (M DV)} {px py pz pt pos pt2 : Pos} {kt k2 : Nat} (ha : PA X [a, e, e'] (tSeqN X.K g W ms))
    (h : PS X (.Assign [.Tuple [.Name x px, .Name y py, .Name z pz] kt pt] (.Tuple [a, e, e'] k2 pt2) pos) (tPar3 i j l (tSeqN X.K g W ms))) :
    JS X g W (.Assign [.Tuple [.Name x px, .Name y py, .Name z pz] kt pt] (.Tuple [a, e, e'] k2 pt2) pos) (sE (mSeqN [] ms) (sParN [i, j, l])) := by
  refine PS.of h fun E σ H ⟨b, F, S, x, q⟩ => ?_
  obtain ⟨gs, ws, b2, F2, S2, h1, h2, h3, h4⟩ := parN_read x q
  refine ⟨gs, ws, b2, F2, S2, h1, h2, h3, ?_⟩
  cases em : mSeqN gs ms S2 with
  | stuck => rw [em] at h4; exact h4
  | exc c d bx' => rw [em] at h4; exact h4
  | ok us S' =>
    rw [em] at h4
    intro vs F' H' a1 a2 a3 a4
    obtain ⟨z1, z2⟩ := h4 vs F' H' a1 a2 a3 a4
    match vs, z1 with
    | [u, v, w], _ => exact ⟨u, v, w, rfl, z2⟩
/-! ### targets that may be places in one's own lists -/
def PostTg (K : PySem.W.Frag) (g : Gx) (W : WX) (b : Bs) (F : Hp) (Q : L2.St → Hp → Prop) : O → Prop
  | .next S' => ∀ (σ' : L2.St) (F' H' : Hp), SR K g b F' S' σ' H' → Same F F' → Q σ' H'
  | .exc c d bx' => ∀ σ, ExcP K g W σ b c d bx'
  | _ => False
def TgMOk (X : Cx) (g : Gx) (W : WX) (tg : Expr) (G : TG) (st : D → MS) : Prop := PG X tg G ∧ ∀ (b : Bs) (F : Hp) (S : Sto) (σ : L2.St) (H : Hp) (v : V) (d : D) (Q : L2.St → Hp → Prop), SR X.K g b F S σ H → Dp X.K F v d → PostTg X.K g W b F Q (st d S) → G v σ H Q
def TgsMOk (X : Cx) (g : Gx) (W : WX) (tgs : List Expr) (G : TGs) (st : List D → MS) : Prop := PGs X tgs G ∧ ∀ (b : Bs) (F : Hp) (S : Sto) (σ : L2.St) (H : Hp) (vs : List V) (ds : List D) (Q : L2.St → Hp → Prop), SR X.K g b F S σ H → DpAll X.K F vs ds → PostTg X.K g W b F Q (st ds S) → G vs σ H Q
theorem PostTg.shift {K : PySem.W.Frag} {b : Bs} {F F1 : Hp} {Q : L2.St → Hp → Prop} {o : O} (h : PostTg K g W b F Q o) (s : Same F F1) : PostTg K g W b F1 Q o := by
  cases o with
  | next S' => exact fun σ' F' H' x s' => h σ' F' H' x (s.trans s')
  | exc c d bx' => exact h
  | _ => exact h
def tmNone : D → MS := fun _ _ => .stuck
theorem tgm_none (X : Cx) (g : Gx) (W : WX) (tg : Expr) : TgMOk X g W tg (fun _ _ _ _ => False) tmNone := ⟨⟨fun _ _ _ _ _ _ _ _ _ h => h.elim⟩, fun b F S σ H v d Q x r q => q.elim⟩
theorem tgm_name {c : Ct} (f : Fx X g W c) {x : Str} {i : Nat} {pos : Pos} (h : locC c x = some i) : TgMOk X g W (.Name x pos) (gName i) (sSet i) :=
  ⟨pg_loc f h, fun b F S σ H v d Q x r q => q _ F H (x.set r) (Same.refl _)⟩
/-- xs[i] = d -/
def sPutV (i : Nat) (mi : M D) (d : D) : MS := fun S => match S.sl[i]? with
  | some (.ow _) => sE mi (fun k S2 => match S2.sl[i]?, k with
      | some (.ow (.list ds)), .int k => match ixN ds.length k with
        | some j => .next { S2 with sl := S2.sl.set i (.ow (.list (ds.set j d))) }
        | none => .stuck
      | _, _ => .stuck) S
  | _ => .stuck
theorem tgm_sub {c : Ct} (f : Fx X g W c) {x : Str} {i : Nat} {ei : Expr} {p pos : Pos} {mi : M D} (hi : slotC c x = some i) (hm : JE X g W ei mi) (hs : notSl ei = true) : TgMOk X g W (.Subscript (.Name x p) ei pos) (gSub (tVar i) (tG X.K g W (repE X.K) mi) (rSetL)) (sPutV i mi) := by
  have ha : ∀ v, assign (.Subscript (.Name x p) ei pos) X.env v = (do
      let ov ← holding [v] (eval (.Name x p) X.env)
      let iv ← holding [v, ov] (eval ei X.env)
      standAt pos
      holding [v, ov, iv] (setItem ov iv v)
      release [v, ov, iv] []) := fun v => by cases ei <;> first | rfl | cases hs
  refine ⟨pg_sub (pe_slot f (pos := p) hi) hm set_list ha, fun b F S σ H v d Q y r q => ?_⟩
  unfold sPutV at q
  split at q
  · rename_i d2 e2
    obtain ⟨a, e3, o3⟩ := y.getO e2
    refine ⟨.ref a, e3, b, F, S, y, ?_⟩
    unfold sE R.toO at q
    cases em : mi S with
    | stuck => rw [em] at q; exact q
    | exc c d bx' => rw [em] at q; exact q σ
    | ok k S2 =>
      rw [em] at q
      intro w F2 H2 x2 s2 f2 r2
      dsimp only at q
      split at q
      · rename_i ds k e4
        split at q
        · rename_i j hj
          cases dp_int r2
          obtain ⟨a', e5, o5⟩ := x2.getO e4
          rw [e3] at e5
          cases e5
          obtain ⟨o6, o7, o8, vs, ds', e6, e7, e8⟩ := id o5
          cases e6
          refine ⟨a, vs, k, j, rfl, rfl, e7, by rw [dpl_len e8]; exact hj, ?_⟩
          exact q σ F2 _ (x2.putOw e4 e3 o5 e7 (dpl_set (dp_mono s2 _ _ r) j e8)) s2
        · exact q.elim
      · exact q.elim
  · exact q.elim
def tmNil : List D → MS := fun ds S => if ds = [] then .next S else .stuck
def tmCons (t : D → MS) (u : List D → MS) : List D → MS := fun ds S => match ds with
  | [] => .stuck
  | d :: ds => match t d S with
    | .next S' => u ds S'
    | .exc c d b => .exc c d b
    | _ => .stuck
def tmTup (n : Nat) (u : List D → MS) : D → MS := fun d S => match d with
  | .tuple ds => if ds.length = n then u ds S else .stuck
  | _ => .stuck
theorem tgsm_nil (X : Cx) (g : Gx) (W : WX) : TgsMOk X g W [] gNil tmNil := ⟨pgs_nil, fun b F S σ H vs ds Q x r q => by
  unfold tmNil at q
  split at q
  · rename_i z
    subst z
    cases r
    exact ⟨rfl, q σ F H x (Same.refl _)⟩
  · exact q.elim⟩
theorem tgsm_cons {e : Expr} {es : List Expr} {t : D → MS} {u : List D → MS} {G1 : TG} {G2 : TGs} (h1 : TgMOk X g W e G1 t) (h2 : TgsMOk X g W es G2 u) (hs : (assignEach (e :: es) X.env).map (·.2) = assign e X.env :: (assignEach es X.env).map (·.2)) : TgsMOk X g W (e :: es) (gCons G1 G2) (tmCons t u) := by
  obtain ⟨p1, q1⟩ := h1
  obtain ⟨p2, q2⟩ := h2
  refine ⟨pgs_cons p1 p2 hs, fun b F S σ H vs ds Q x r q => ?_⟩
  cases r with
  | nil => exact q.elim
  | @cons v0 vs0 d0 ds0 r rr =>
    refine ⟨_, _, rfl, q1 b F S σ H _ _ _ x r ?_⟩
    unfold tmCons at q
    dsimp only at q
    cases et : t d0 S with
    | next S1 =>
      rw [et] at q
      intro σ1 F1 H1 x1 s1
      exact q2 b F1 S1 σ1 H1 _ _ Q x1 (dpAll_mono s1 _ _ rr) (PostTg.shift q s1)
    | exc c d b2 => rw [et] at q; exact q
    | brk S1 => rw [et] at q; exact q
    | cont S1 => rw [et] at q; exact q
    | ret d S1 => rw [et] at q; exact q
    | stuck => rw [et] at q; exact q
theorem tgm_tup {es : List Expr} {k : Nat} {pos : Pos} {u : List D → MS} {G : TGs} (hc : X.calm = true) (h : TgsMOk X g W es G u) (hn : (assignEach es X.env).length = es.length) (hst : (assignEach es X.env).findIdx? (·.1) = none) : TgMOk X g W (.Tuple es k pos) (gTup X.K es.length G) (tmTup es.length u) := by
  obtain ⟨p, q⟩ := h
  refine ⟨pg_tup hc p hn hst, fun b F S σ H v d Q x r qq => ?_⟩
  unfold tmTup at qq
  split at qq
  · rename_i ds
    split at qq
    · rename_i hz
      cases r with
      | tup h1 h2 => exact ⟨_, _, rfl, seqT_mono x.ff h1, by rw [dpl_len h2]; exact hz, q b F S σ H _ _ Q x h2 qq⟩
    · exact qq.elim
  · exact qq.elim
def tgO : O → O
  | .next S => .next S
  | .exc c d b => .exc c d b
  | _ => .stuck
theorem js_asgM {tg e : Expr} {pos : Pos} {m : M D} {st : D → MS} {G : TG} (ht : TgMOk X g W tg G st) (h : JE X g W e m) (hs : swapsWithSole [tg] e pos.line X.env = pure false) (hw : swappedStores [tg] e X.env = pure none)
    (h1 : (assignEach [tg] X.env).map (·.2) = [assign tg X.env]) : JS X g W (.Assign [tg] e pos) (sE m fun d S => tgO (st d S)) := by
  obtain ⟨p, k⟩ := ht
  refine PS.of (ps_asg h p hs hw h1) fun E σ H ⟨b, F, S, x, q⟩ => bindS x q fun d S1 v F1 H1 x1 s1 f1 r1 q1 => ?_
  refine k b F1 S1 σ H1 v d _ x1 r1 ?_
  cases es : st d S1 with
  | next S' => rw [es] at q1; exact q1
  | exc c d b2 => rw [es] at q1; exact q1
  | brk S' => rw [es] at q1; exact q1
  | cont S' => rw [es] at q1; exact q1
  | ret d S' => rw [es] at q1; exact q1
  | stuck => rw [es] at q1; exact q1
end
end Gl

set_option maxRecDepth 100000
set_option maxHeartbeats 1000000
/-! The general layer: sorted, min, max of one list or tuple. -/
namespace Gl
open PySem PySem.Spec PyProof.Rows L2
section
variable {prog : Program} {w : World} {A : Around} {E : Value → Shared → Prop} {s : Shared}
/-- a tuple's items, gathered -/
theorem collect_tup {l : Addr} {vs : List Value} {Q : List Value → Shared → Prop} (hl : IsTup s.heap l vs.toArray)
    (h : Q vs { s with heap := (s.heap.push (seqObj "list" #[] 0)).update s.heap.objs.size (Obj.mapSeq (· ++ vs.toArray)) }) (hsz : vs.length ≤ sizeLine) :
    wpAny (model prog w) A (collect (.ref l)) Q E s := by
  obtain ⟨o, ho, hc, n, hd⟩ := id hl
  unfold collect
  refine wpAny_bind (wpAny_runValue (codeAny_builtin entry_proto_collect' ?_))
  show wpAny _ _ (do again (.builtin "list.__iadd__" ⟨[← newList [], .ref l], []⟩)) _ _ s
  refine wpAny_bind (wpAny_newList (wpAny_pure ⟨Code.quiet_builtin _ (by decide +kernel), codeAny_builtin entry_list_iadd' ?_⟩))
  show wpAny _ _ (Builtin.List.listExtendWith (.ref s.heap.objs.size) (.ref l) (.ref s.heap.objs.size)) _ _ { s with heap := s.heap.push (seqObj "list" #[] 0) }
  unfold Builtin.List.listExtendWith
  have ho' : (s.heap.push (seqObj "list" #[] 0)).get? l = some o := Heap.get?_push_of_some _ ho
  refine wpAny_bind (wpAny_typeOf (T := "tuple") ⟨o, ho', hc⟩ ?_)
  have ht : (Value.type "tuple" == Value.type "tuple") = true := by rfl
  rw [if_pos (by rw [ht]; simp)]
  refine wpAny_bind (listItems_at ho' hd ?_)
  refine wpAny_bind (listItems_at (xs := #[]) (n := 0) (Heap.get?_push_size _ rfl) rfl ?_)
  rw [if_neg (by simp)]
  refine wpAny_bind (listUpdate_at (xs := #[]) (n := 0) (Heap.get?_push_size _ rfl) rfl ?_ (Nat.zero_le _) (by show (#[] ++ vs.toArray).size ≤ sizeLine + 1; simp only [Array.size_append, List.size_toArray, List.length_nil]; omega))
  refine wpAny_pure ?_
  show wpAny (model prog w) A (do
      let o ← load s.heap.objs.size
      match o.data with
      | .seq xs _ => pure xs.toList
      | _ => unsupported "internal:collect") Q E { s with heap := (s.heap.push (seqObj "list" #[] 0)).update s.heap.objs.size (Obj.mapSeq (· ++ vs.toArray)) }
  refine wpAny_bind (wpAny_load (get?_update_seq (Heap.get?_push_size _ rfl) _) ?_)
  show wpAny _ _ (pure ((#[] : Array Value) ++ vs.toArray).toList) Q E _
  rw [show ((#[] : Array Value) ++ vs.toArray).toList = vs by simp]
  exact wpAny_pure h
theorem sorted_of_tup {l : Addr} {vs : List Value} {Q : Value → Shared → Prop} (hl : IsTup s.heap l vs.toArray) (hL : vs.length ≤ sizeLine)
    (body : ∀ E' : Value → Shared → Prop, wpAny (model prog w) A.in1.in1 (Builtin.«list.sort» ⟨[.ref (s.heap.objs.size + 1)], []⟩) (fun f s' => f = .done (.ret .none) ∧ Q (.ref (s.heap.objs.size + 1)) s') E' { s with heap := PySem.W.copyHeap s.heap vs }) :
    wpAny (model prog w) A (call (.builtin "sorted") [.ref l] []) Q E s := by
  refine call_function_entry_kw PyProof.Rows.kind_sorted PyProof.Rows.plain_sorted PyProof.Rows.entry_sorted (PyProof.Rows.args_sorted1 _) ?_
  unfold Builtin.«sorted»
  refine wpAny_bind (m := checkCount "sorted" 1 1 _) (wpAny_pure ?_)
  refine wpAny_bind (collect_tup hl ?_ hL)
  refine wpAny_bind (wpAny_newList ?_ hL)
  have hsz : ((s.heap.push (seqObj "list" #[] 0)).update s.heap.objs.size (Obj.mapSeq (· ++ vs.toArray))).objs.size = s.heap.objs.size + 1 := by
    rw [Heap.size_update, size_push']
  show wpAny _ _ _ _ _ { s with heap := PySem.W.copyHeap s.heap vs }
  rw [hsz]
  refine wpAny_bind (wpAny_holding (wpAny_call_entry_kw PyProof.Rows.slot_list_sort ⟨_, PySem.W.copyHeap_at s.heap vs, rfl⟩ PyProof.Rows.entry_list_sort ?body (PyProof.Rows.args_list_sort _)))
  case body =>
    show wpAny (model prog w) A.in1.in1 (Builtin.«list.sort» ⟨[.ref (s.heap.objs.size + 1)], []⟩) _ _ _
    refine wpAny_mono (body _) (fun f s' hf => ?_) fun _ _ e => e
    obtain ⟨rfl, hq⟩ := hf
    exact ⟨_, rfl, wpAny_pure ⟨_, rfl, hq⟩⟩
/-- sorted of a tuple of data -/
theorem sorted_tupD {β : Type} {vs : List Value} {bs : List β} {enc : β → PyData} {R : Value → β → Prop} {l : Addr} {Q : Value → Shared → Prop} (hl : IsTup s.heap l vs.toArray) (e : PySem.W.EachIs R vs bs) (er : PySem.W.EachIs (fun v b => ∃ as, Reads s.heap v (enc b) as) vs bs)
    (hal : PySem.W.AllAlike (bs.map enc)) (hk : PySem.W.Sortable (bs.map enc)) (hL : bs.length ≤ sizeLine) (hu : ∀ b, b ∈ bs → A.units + 2 + (enc b).depth < cLine)
    (h : ∀ out, out.length = bs.length → PySem.W.EachIs R out (bs.mergeSort (PySem.W.dataLe false enc)) → Q (.ref (s.heap.objs.size + 1)) { s with heap := PyProof.Rows.sortedAll s.heap vs (List.toArray out) }) :
    wpAny (model prog w) A (call (.builtin "sorted") [.ref l]) Q E s := by
  have er' : PySem.W.EachIs (fun v b => ∃ as, Reads (PySem.W.sortingHeap (PySem.W.copyHeap s.heap vs) (s.heap.objs.size + 1) vs) v (enc b) as) vs bs := er.mono fun _ _ ⟨as, r⟩ => ⟨as, PyProof.Rows.Reads.keeps (fun _ _ => PySem.W.sorting_copy_old) r⟩
  refine sorted_of_tup hl (by rw [e.length]; exact hL) fun _ => PySem.W.list_sort_vals (s := { s with heap := PySem.W.copyHeap s.heap vs }) (PySem.W.copyHeap_at s.heap vs)
    (PySem.W.SortsAt.data (s := { s with heap := PySem.W.sortingHeap (PySem.W.copyHeap s.heap vs) (s.heap.objs.size + 1) vs }) (PySem.W.each_map (R := fun v d => ∃ as, Reads (PySem.W.sortingHeap (PySem.W.copyHeap s.heap vs) (s.heap.objs.size + 1) vs) v d as) enc er') hal hk (PySem.W.bound_map hu)) (by rw [e.length]; exact hL)
    ⟨rfl, h _ (by rw [PySem.W.sortVals_length false rfl]; exact e.length) (PySem.W.sortVals_data false e er' hal)⟩
end
/-- what can be sorted -/
def srtOk (ds : List D) : Bool := ds.all (fun d => ds.all fun d' => PySem.W.alike d d') && (ds.all (fun d => match d with
    | .tuple (_ :: _) => true
    | _ => false) || ds.all (fun d => match d with
    | .none => false
    | .tuple _ => false
    | _ => true)) && decide (PyData.depthAll ds ≤ 62)
def srtL (ds : List D) : List D := ds.mergeSort (PySem.W.dataLe false id)
def sortN : D → Option DV
  | .list ds => if srtOk ds then some (.ow (.list (srtL ds))) else none
  | .tuple ds => if srtOk ds then some (.ow (.list (srtL ds))) else none
  | _ => none
/-- a value, what it stands for, and its data -/
def Rvd (K : PySem.W.Frag) (F : Hp) (u : Value) (p : V × D) : Prop := RelV p.1 u ∧ Dp K F p.1 p.2
theorem each_vd {K : PySem.W.Frag} {F : Hp} : ∀ {ds : List D} {vs : List V} {its : List Value}, DpAll K F vs ds → Vals vs its → PySem.W.EachIs (Rvd K F) its (vs.zip ds)
  | [], _, _, h, r => by
    cases h
    cases r
    exact .nil
  | d :: ds, _, _, h, r => by
    cases h with
    | cons h1 h2 =>
      cases r with
      | cons r1 r2 => exact .cons ⟨r1, h1⟩ (each_vd h2 r2)
theorem each_back {K : PySem.W.Frag} {F : Hp} : ∀ {ps : List (V × D)} {out : List Value}, PySem.W.EachIs (Rvd K F) out ps → Vals (ps.map (·.1)) out ∧ DpAll K F (ps.map (·.1)) (ps.map (·.2))
  | [], _, h => by
    cases h
    exact ⟨.nil, .nil⟩
  | p :: ps, _, h => by
    cases h with
    | cons h1 h2 =>
      obtain ⟨a, b⟩ := each_back h2
      exact ⟨.cons h1.1 a, .cons h1.2 b⟩
theorem zip_snd {α β : Type} : ∀ {l : List α} {k : List β}, l.length = k.length → (l.zip k).map (·.2) = k
  | [], [], _ => rfl
  | a :: l, b :: k, h => by
    rw [List.zip_cons_cons, List.map_cons, zip_snd (l := l) (k := k) (by simpa using h)]
  | [], _ :: _, h => by cases h
  | _ :: _, [], h => by cases h
theorem depth_mem {ds : List D} : ∀ {d : D}, d ∈ ds → d.depth ≤ PyData.depthAll ds := by
  induction ds with
  | nil => intro d h; cases h
  | cons x ds ih =>
    intro d h
    simp only [PyData.depthAll]
    rcases List.mem_cons.mp h with rfl | h
    · exact Nat.le_max_left _ _
    · exact Nat.le_trans (ih h) (Nat.le_max_right _ _)
theorem srt_facts {ds : List D} (h : srtOk ds = true) : PySem.W.AllAlike ds ∧ PySem.W.Sortable ds ∧ PyData.depthAll ds ≤ 62 := by
  unfold srtOk at h
  rw [Bool.and_eq_true, Bool.and_eq_true, Bool.or_eq_true, List.all_eq_true, List.all_eq_true, List.all_eq_true] at h
  obtain ⟨⟨h1, h2⟩, h3⟩ := h
  refine ⟨fun d hd d' hd' => List.all_eq_true.mp (h1 d hd) d' hd', ?_, of_decide_eq_true h3⟩
  rcases h2 with h2 | h2
  · refine .inl fun d hd => ?_
    have := h2 d hd
    split at this
    · exact ⟨_, _, rfl⟩
    · cases this
  · refine .inr fun d hd => ?_
    have := h2 d hd
    constructor
    · rintro rfl
      cases this
    · rintro xs rfl
      cases this
section
variable {X : Cx} {g : Gx}
theorem srt_map {vs : List V} {ds : List D} (h : vs.length = ds.length) : ((vs.zip ds).mergeSort (PySem.W.dataLe false (·.2))).map (·.2) = srtL ds := by
  have e := List.map_mergeSort (r := PySem.W.dataLe false fun x : V × D => x.2) (s := PySem.W.dataLe false id) (f := fun x : V × D => x.2) (l := vs.zip ds) (fun a _ b _ => rfl)
  exact e.trans (by rw [zip_snd h]; rfl)
theorem call_sortN (hu : X.A.units + 65 < cLine) : CallR X (.builtin "sorted") (c1N X.K g sortN) := by
  intro pins s σ H xs us Q I r h
  obtain ⟨b, F, S, σ', x, d1, u, rfl, x1, h1, e, q⟩ := h
  have key : ∀ (a : Addr) (vs : List V) (ds : List D) (its : List Value), DpAll X.K F vs ds → Vals vs its → vs.length ≤ sizeLine → srtOk ds = true → u = .ow (.list (srtL ds)) →
      ∀ out : List Value, out.length = (vs.zip ds).length → PySem.W.EachIs (Rvd X.K F) out ((vs.zip ds).mergeSort (PySem.W.dataLe false (·.2))) →
        EP X pins σ Q (.ref (s.heap.objs.size + 1)) { s with heap := PyProof.Rows.sortedAll s.heap its (List.toArray out) } := by
    intro a vs ds its k1 rv hz hs hu' out ho eo
    subst hu'
    obtain ⟨r1, r2⟩ := each_back eo
    rw [srt_map (dpl_len k1)] at r2
    obtain ⟨c, hc⟩ := PyProof.Rows.sortedAll_at s.heap its (List.toArray out)
    refine ⟨.ref (s.heap.objs.size + 1), _, I.laid (t' := s.toks) (fun _ _ e => PyProof.Rows.sortedAll_old e) (Nat.le_succ _) (show ObjOk X.prog X.w _ _ _ (.lst _) from ⟨?_, out, c, r1, hc⟩), rfl, q _ _ _ (x1.newN (I.hok.fresh (Nat.le_succ _)) r2)⟩
    rw [List.length_map, List.length_mergeSort, List.length_zip]
    exact Nat.le_trans (Nat.min_le_left _ _) hz
  unfold sortN at e
  split at e
  · rename_i ds
    split at e
    · rename_i hs
      cases e
      obtain ⟨a, vs, rfl, s1, k1⟩ := h1.list x1.ff
      obtain ⟨its, rv, pl, hz⟩ := I.list s1
      rw [Vals.ref1 r]
      obtain ⟨f1, f2, f3⟩ := srt_facts hs
      have hm := zip_snd (dpl_len k1)
      refine PySem.W.sorted_data (enc := fun p : V × D => p.2) pl.isList (each_vd k1 rv) ((each_vd k1 rv).mono fun v p h => ?_) (by rw [hm]; exact f1) (by rw [hm]; exact f2) (by rw [List.length_zip]; exact Nat.le_trans (Nat.min_le_left _ _) hz) (fun p hp => ?_) (key a vs ds its k1 rv hz hs rfl)
      · exact Dp.reads I _ _ _ (dp_mono x1.ff _ _ h.2) h.1
      · have := depth_mem (List.of_mem_zip hp).2
        omega
    · cases e
  · rename_i ds
    split at e
    · rename_i hs
      cases e
      obtain ⟨a, vs, rfl, s1, _, k1⟩ := h1.tuple x1.ff
      obtain ⟨its, rv, pl, hz⟩ := I.tuple s1
      rw [Vals.ref1 r]
      obtain ⟨f1, f2, f3⟩ := srt_facts hs
      have hm := zip_snd (dpl_len k1)
      refine sorted_tupD (enc := fun p : V × D => p.2) pl (each_vd k1 rv) ((each_vd k1 rv).mono fun v p h => ?_) (by rw [hm]; exact f1) (by rw [hm]; exact f2) (by rw [List.length_zip]; exact Nat.le_trans (Nat.min_le_left _ _) hz) (fun p hp => ?_) (key a vs ds its k1 rv hz hs rfl)
      · exact Dp.reads I _ _ _ (dp_mono x1.ff _ _ h.2) h.1
      · have := depth_mem (List.of_mem_zip hp).2
        omega
    · cases e
  · cases e
theorem fold_mem {α : Type} (f : α → α → Bool) : ∀ (xs : List α) (x : α), xs.foldl (fun a y => if f a y = true then y else a) x ∈ x :: xs
  | [], x => by simp
  | y :: xs, x => by
    rw [List.foldl_cons]
    have := fold_mem f xs (if f x y = true then y else x)
    rcases List.mem_cons.mp this with h | h
    · rw [h]
      split <;> simp
    · simp [h]
/-- what has a least and a greatest item -/
def mmOk (ds : List D) : Bool := ds.all (fun d => ds.all fun d' => PySem.W.alike d d') && ds.all (fun d => match d with
    | .none => false
    | _ => true) && decide (PyData.depthAll ds ≤ 62)
theorem mm_facts {ds : List D} (h : mmOk ds = true) : PySem.W.AlikeAll ds ∧ PyData.depthAll ds ≤ 62 := by
  unfold mmOk at h
  rw [Bool.and_eq_true, Bool.and_eq_true, List.all_eq_true, List.all_eq_true] at h
  obtain ⟨⟨h1, h2⟩, h3⟩ := h
  refine ⟨⟨fun d hd d' hd' => List.all_eq_true.mp (h1 d hd) d' hd', fun d hd z => ?_⟩, of_decide_eq_true h3⟩
  have := h2 d hd
  rw [z] at this
  cases this
def minL : List D → Option D
  | x :: xs => if mmOk (x :: xs) then some (PySem.W.minD x xs) else none
  | [] => none
def maxL : List D → Option D
  | x :: xs => if mmOk (x :: xs) then some (PySem.W.maxD x xs) else none
  | [] => none
def seqD : D → List D
  | .list ds => ds
  | .tuple ds => ds
  | _ => []
def min1D (d : D) : Option D := minL (seqD d)
def max1D (d : D) : Option D := maxL (seqD d)
theorem dpAll_at {K : PySem.W.Frag} {F : Hp} : ∀ {ds : List D} {vs : List V} {its : List Value} {i : Nat} {u : Value}, DpAll K F vs ds → Vals vs its → its[i]? = some u → ∃ x d, d ∈ ds ∧ RelV x u ∧ Dp K F x d
  | [], _, _, _, _, h, r, e => by
    cases h
    cases r
    simp at e
  | d :: ds, _, _, i, u, h, r, e => by
    cases h with
    | cons h1 h2 =>
      cases r with
      | cons r1 r2 =>
        cases i with
        | zero =>
          simp at e
          subst e
          exact ⟨_, d, by simp, r1, h1⟩
        | succ i =>
          obtain ⟨x, d', a, b, c⟩ := dpAll_at h2 r2 (by simpa using e)
          exact ⟨x, d', List.mem_cons_of_mem _ a, b, c⟩
theorem mm_found {pins : List (Addr × Obj)} {σ : L2.St} {H F : Hp} {s : Shared} (I : Inv X pins σ H s) (ff : Same F H) {ds : List D} {vs : List V} {its : List Value} {i : Nat} {u : Value} {d : D} {h' : Heap} {bs : List Addr} (k1 : DpAll X.K F vs ds) (rv : Vals vs its) (e : its[i]? = some u)
    (hal : PySem.W.AlikeAll ds) (hd : d ∈ ds) (rd : Reads h' u d bs) (k : ∀ b o, s.heap.get? b = some o → h'.get? b = some o) : ∃ x, RelV x u ∧ Dp X.K F x d := by
  obtain ⟨x, d', a, b, c⟩ := dpAll_at k1 rv e
  obtain ⟨as, r⟩ := Dp.reads I _ _ _ (dp_mono ff _ _ c) b
  have := PySem.W.alike_unique _ _ _ _ _ (hal.1 _ a _ hd) (PyProof.Rows.Reads.keeps k r) rd
  subst this
  exact ⟨x, b, c⟩
theorem min_mem (x : D) (xs : List D) : PySem.W.minD x xs ∈ x :: xs := fold_mem (fun a y => PySem.W.dataLt y a) xs x
theorem max_mem (x : D) (xs : List D) : PySem.W.maxD x xs ∈ x :: xs := fold_mem (fun a y => PySem.W.dataLt a y) xs x
theorem call_min1 (hc : X.calm = true) (hu : X.A.units + 65 < cLine) : CallR X (.builtin "min") (c1 X.K g min1D) := by
  intro pins s σ H xs us Q I r h
  obtain ⟨b, F, S, σ', x, d1, d, rfl, x1, h1, e, q⟩ := h
  cases d1 with
  | list ds =>
    cases ds with
    | nil => cases e
    | cons y ys =>
      have e' : (if mmOk (y :: ys) = true then some (PySem.W.minD y ys) else none) = some d := e
      split at e'
      · rename_i hs
        cases e'
        obtain ⟨a, vs, rfl, s1, k1⟩ := h1.list x1.ff
        obtain ⟨its, rv, pl, hz⟩ := I.list s1
        rw [Vals.ref1 r]
        obtain ⟨f1, f2⟩ := mm_facts hs
        obtain ⟨as, hr⟩ := Dp.readsAll I _ _ _ (dpAll_mono x1.ff _ _ k1) rv
        refine PySem.W.min_list_data (I.ok.hd hc) pl.isList hr f1 (by omega) fun i v h' tk bs ev rd kp => ?_
        obtain ⟨z, rz, dz⟩ := mm_found I x1.ff k1 rv (by simpa using ev) f1 (min_mem y ys) rd kp
        exact ⟨z, H, I.kept kp, rz, q _ _ _ x1.base dz⟩
      · cases e'
  | tuple ds =>
    cases ds with
    | nil => cases e
    | cons y ys =>
      have e' : (if mmOk (y :: ys) = true then some (PySem.W.minD y ys) else none) = some d := e
      split at e'
      · rename_i hs
        cases e'
        obtain ⟨a, vs, rfl, s1, _, k1⟩ := h1.tuple x1.ff
        obtain ⟨its, rv, pl, hz⟩ := I.tuple s1
        rw [Vals.ref1 r]
        obtain ⟨f1, f2⟩ := mm_facts hs
        obtain ⟨as, hr⟩ := Dp.readsAll I _ _ _ (dpAll_mono x1.ff _ _ k1) rv
        refine PySem.W.min_tuple_data (I.ok.hd hc) pl hr f1 (by omega) fun i v h' tk bs ev rd kp => ?_
        obtain ⟨z, rz, dz⟩ := mm_found I x1.ff k1 rv (by simpa using ev) f1 (min_mem y ys) rd kp
        exact ⟨z, H, I.kept kp, rz, q _ _ _ x1.base dz⟩
      · cases e'
  | _ => cases e
theorem call_max1 (hc : X.calm = true) (hu : X.A.units + 65 < cLine) : CallR X (.builtin "max") (c1 X.K g max1D) := by
  intro pins s σ H xs us Q I r h
  obtain ⟨b, F, S, σ', x, d1, d, rfl, x1, h1, e, q⟩ := h
  cases d1 with
  | list ds =>
    cases ds with
    | nil => cases e
    | cons y ys =>
      have e' : (if mmOk (y :: ys) = true then some (PySem.W.maxD y ys) else none) = some d := e
      split at e'
      · rename_i hs
        cases e'
        obtain ⟨a, vs, rfl, s1, k1⟩ := h1.list x1.ff
        obtain ⟨its, rv, pl, hz⟩ := I.list s1
        rw [Vals.ref1 r]
        obtain ⟨f1, f2⟩ := mm_facts hs
        obtain ⟨as, hr⟩ := Dp.readsAll I _ _ _ (dpAll_mono x1.ff _ _ k1) rv
        refine PySem.W.max_list_data (I.ok.hd hc) pl.isList hr f1 (by omega) fun i v h' tk bs ev rd kp => ?_
        obtain ⟨z, rz, dz⟩ := mm_found I x1.ff k1 rv (by simpa using ev) f1 (max_mem y ys) rd kp
        exact ⟨z, H, I.kept kp, rz, q _ _ _ x1.base dz⟩
      · cases e'
  | tuple ds =>
    cases ds with
    | nil => cases e
    | cons y ys =>
      have e' : (if mmOk (y :: ys) = true then some (PySem.W.maxD y ys) else none) = some d := e
      split at e'
      · rename_i hs
        cases e'
        obtain ⟨a, vs, rfl, s1, _, k1⟩ := h1.tuple x1.ff
        obtain ⟨its, rv, pl, hz⟩ := I.tuple s1
        rw [Vals.ref1 r]
        obtain ⟨f1, f2⟩ := mm_facts hs
        obtain ⟨as, hr⟩ := Dp.readsAll I _ _ _ (dpAll_mono x1.ff _ _ k1) rv
        refine PySem.W.max_tuple_data (I.ok.hd hc) pl hr f1 (by omega) fun i v h' tk bs ev rd kp => ?_
        obtain ⟨z, rz, dz⟩ := mm_found I x1.ff k1 rv (by simpa using ev) f1 (max_mem y ys) rd kp
        exact ⟨z, H, I.kept kp, rz, q _ _ _ x1.base dz⟩
      · cases e'
  | _ => cases e
/-- sorted, frozen at once -/
def sortedD : D → Option D
  | .list ds => if srtOk ds then some (.list (srtL ds)) else none
  | .tuple ds => if srtOk ds then some (.list (srtL ds)) else none
  | _ => none
theorem sortedD_N {d e : D} (h : sortedD d = some e) : sortN d = some (.ow e) := by
  unfold sortedD at h
  unfold sortN
  split at h
  · split at h
    · rename_i hs
      cases h
      simp only [if_pos hs]
    · cases h
  · split at h
    · rename_i hs
      cases h
      simp only [if_pos hs]
    · cases h
  · cases h
theorem call_sortedD (hu : X.A.units + 65 < cLine) : CallR X (.builtin "sorted") (c1 X.K g sortedD) := by
  refine CallR.ofC (call_sortN (g := g) hu) fun xs H Q h => ?_
  obtain ⟨b, F, S, σ, x, d1, d, rfl, x1, h1, e, q⟩ := h
  refine ⟨b, F, S, σ, x, d1, _, rfl, x1, h1, sortedD_N e, fun v F' H' y => ?_⟩
  obtain ⟨F2, y2, s2, r2⟩ := SR.frzN (sl := []) (σ := []) y (.inr rfl)
  exact q v F2 H' y2 r2
end
end Gl

set_option maxRecDepth 100000
set_option maxHeartbeats 1000000
/-! The general layer: len(dict(..)), sorted(dict(..)) where the dict itself is never seen. -/
namespace Gl
open PySem PySem.Spec PyProof.Rows L2
def keyD : D → Option Key
  | .int i => some (.inl i)
  | .str x => some (.inr x)
  | _ => none
def kD : Key → D
  | .inl i => .int i
  | .inr x => .str x
def pairsOf : List D → Option (List (Key × D))
  | [] => some []
  | .tuple [k, v] :: ds => (keyD k).bind fun q => (pairsOf ds).map fun ps => (q, v) :: ps
  | _ :: _ => none
/-- the keys, each once, in the order they come -/
def keysU (acc : List Key) : List Key → List Key
  | [] => acc
  | k :: ks => keysU (if (acc.any fun j => decide (j = k)) = true then acc else acc ++ [k]) ks
theorem keyD_V {K : PySem.W.Frag} {F : Hp} {v : V} {d : D} {k : Key} (h : Dp K F v d) (e : keyD d = some k) : v = kV k ∧ d = kD k := by
  cases h with
  | int i => cases e; exact ⟨rfl, rfl⟩
  | str x => cases e; exact ⟨rfl, rfl⟩
  | _ => cases e
theorem pairs_V {K : PySem.W.Frag} {F : Hp} : ∀ {ds : List D} {vs : List V} {ps : List (Key × D)}, DpAll K F vs ds → pairsOf ds = some ps → ∃ (as : List Addr) (kvs : List (Key × V)), vs = as.map V.ref ∧ Paired (fun p kv => SqT K F p [kV kv.1, kv.2]) as kvs ∧ kvs.map (·.1) = ps.map (·.1) ∧ DpAll K F (kvs.map (·.2)) (ps.map (·.2))
  | [], _, _, h, e => by
    cases h
    cases e
    exact ⟨[], [], rfl, .nil, rfl, .nil⟩
  | d :: ds, _, ps, h, e => by
    cases h with
    | cons h1 h2 =>
      unfold pairsOf at e
      split at e
      · rename_i heq
        cases heq
      · rename_i k v ds' heq
        cases heq
        obtain ⟨q, e1, e⟩ := Option.bind_eq_some_iff.mp e
        obtain ⟨ps', e2, rfl⟩ := Option.map_eq_some_iff.mp e
        obtain ⟨as, kvs, rfl, b, c, dd⟩ := pairs_V h2 e2
        cases h1 with
        | @tup a xs _ s1 k1 =>
          cases k1 with
          | cons g1 g2 =>
            cases g2 with
            | cons g3 g4 =>
              cases g4
              obtain ⟨rfl, _⟩ := keyD_V g1 e1
              exact ⟨a :: as, (q, _) :: kvs, rfl, .cons s1 b, by simp [c], .cons g3 dd⟩
      · cases e
theorem put_keys (kvs : List (Key × V)) (k : Key) (v : V) : (putK kvs k v).map (·.1) = if ((kvs.map (·.1)).any fun j => decide (j = k)) = true then kvs.map (·.1) else kvs.map (·.1) ++ [k] := by
  have e : ((kvs.map (·.1)).any fun j => decide (j = k)) = kvs.any fun kv => decide (kv.1 = k) := by
    rw [List.any_map]
    rfl
  rw [e]
  unfold putK
  by_cases h : (kvs.any fun kv => decide (kv.1 = k)) = true
  · rw [if_pos h, if_pos h, List.map_map]
    refine List.map_congr_left fun p _ => ?_
    show (if p.1 = k then (p.1, v) else p).1 = p.1
    split <;> rfl
  · rw [if_neg h, if_neg h, List.map_append]
    rfl
theorem merge_keys : ∀ (more kvs : List (Key × V)), (mergeK kvs more).map (·.1) = keysU (kvs.map (·.1)) (more.map (·.1))
  | [], kvs => rfl
  | p :: more, kvs => by
    show (mergeK (putK kvs p.1 p.2) more).map (·.1) = keysU (if ((kvs.map (·.1)).any fun j => decide (j = p.1)) = true then kvs.map (·.1) else kvs.map (·.1) ++ [p.1]) (more.map (·.1))
    rw [merge_keys more, put_keys]
def lenDictD : D → Option D
  | .list ds => (pairsOf ds).map fun ps => .int ((keysU [] (ps.map (·.1))).length : Nat)
  | _ => none
section
variable {X : Cx} {g : Gx} {W : WX} {c : Ct}
/-- one value, worked upon by what E does with it -/
theorem je_one {E : Expr} {ma : M D} {f : D → Option D} {R : List V → Hp → VK → Prop} (h : PE X E (fun σ H Q => tG X.K g W (repL (repB X.K)) (mSeq [ma]) σ H fun xs H1 => R xs H1 Q)) (hr : ∀ xs H Q, c1 X.K g f xs H Q → R xs H Q) : JE X g W E (mOp1 f ma) :=
  PE.of h fun σ H Q ⟨b, F, S, x, q⟩ => by
    refine ⟨b, F, S, x, ?_⟩
    show PostG _ _ _ _ _ _ _ _ _ ((ma S).bind fun a S' => .ok [a] S')
    cases z : ma S with
    | stuck => unfold mOp1 M.bind at q; rw [z] at q; exact q.elim
    | exc c d bx' => unfold mOp1 M.bind at q; rw [z] at q; exact q
    | ok d1 S1 =>
      unfold mOp1 M.bind at q
      rw [z] at q
      intro vs F1 H1 x1 s1 f1 r1
      obtain ⟨d, e, q3⟩ := ofO_post (S := S1) q
      obtain ⟨v, rfl⟩ : ∃ v, vs = [v] := by
        have := r1.1
        match vs, this with
        | [v], _ => exact ⟨v, rfl⟩
      exact hr _ _ _ ⟨b, F1, S1, σ, v, d1, d, rfl, x1, r1.2 0 v d1 rfl rfl, e, fun w F' H' y1 y2 => q3 w F' H' (x1.call y1) (s1.trans y1.f0) (f1.trans y1.ext) y2⟩
def rDictP (K : PySem.W.Frag) : List V → Hp → VK → Prop := fun xs H Q => ∃ (a : Addr) (ps : List Addr) (kvs : List (Key × V)), xs = [.ref a] ∧ SqL K H a (ps.map V.ref) ∧ Paired (fun p kv => SqT K H p [kV kv.1, kv.2]) ps kvs ∧
  ∀ p, H p = none → Q (.ref p) (upd H p (.dK (mergeK [] kvs)))
theorem cr_dictP (hc : X.calm = true) : CallR X (.type "dict") (rDictP X.K) := call_dictP hc
def rLenK : List V → Hp → VK → Prop := fun xs H Q => ∃ a kvs, xs = [V.ref a] ∧ H a = some (.dK kvs) ∧ Q (.int kvs.length) H
theorem cr_lenK : CallR X (.builtin "len") rLenK := L2.call_lenD
theorem je_lenDict (f : Fx X g W c) {e : Expr} {p p' pos pos' : Pos} {m : M D} (h1 : isG c "len" = true) (h2 : isG c "dict" = true) (hs : noStar [e] = true) (h : JB X g W e m) :
    JE X g W (.Call (.Name "len" p) [.Call (.Name "dict" p') [e] [] pos'] [] pos) (mOp1 lenDictD m) := by
  have pa : PA X [e] (tG X.K g W (repL (repB X.K)) (mSeq [m])) := ja_cons (mono_B _) h ja_nil (star_cons hs)
  have pd := pe_callTy (pos := pos') (p := p') (cr_dictP f.calm) (isG_ok f h2).1 (f.glo.bl _ (by decide +kernel)) boot_dict pa (by decide) (by decide) (star_cons hs) (by rfl)
  have pl : PE X (.Call (.Name "len" p) [.Call (.Name "dict" p') [e] [] pos'] [] pos) (fun σ H Q => tG X.K g W (repL (repB X.K)) (mSeq [m]) σ H fun xs H1 => rDictP X.K xs H1 fun v H2 => rLenK [v] H2 Q) :=
    pe_callB (pos := pos) (p := p) cr_lenK (isG_ok f h1).1 (f.glo.bl _ (by decide +kernel)) boot_len (pa_cons pd pa_nil (by rfl)) (by decide) (by decide) (by rfl) (by rfl)
  refine je_one (f := lenDictD) (R := fun xs H1 Q => rDictP X.K xs H1 fun v H2 => rLenK [v] H2 Q) pl fun xs H Q hq => ?_
  obtain ⟨b, F, S, σ, x, d1, d, rfl, x1, r1, e1, q⟩ := hq
  cases d1 with
  | list ds =>
    obtain ⟨ps, e2, rfl⟩ := Option.map_eq_some_iff.mp (show (pairsOf ds).map (fun ps => PyData.int ((keysU [] (ps.map (·.1))).length : Nat)) = some d from e1)
    obtain ⟨a, vs, rfl, s1, k1⟩ := r1.list x1.ff
    obtain ⟨as, kvs, rfl, b1, b2, b3⟩ := pairs_V k1 e2
    refine ⟨a, as, kvs, rfl, s1, b1.mono fun p kv s => seqT_mono x1.ff s, fun p hp => ⟨p, _, rfl, upd_same, ?_⟩⟩
    have el : (mergeK [] kvs).length = (keysU [] (ps.map (·.1))).length := by
      have mk := congrArg List.length (merge_keys kvs [])
      rw [List.length_map, b2] at mk
      exact mk
    rw [el]
    exact q _ _ _ (x1.newU hp) (.int _)
  | _ => cases e1
/-- one value, worked upon by what E makes of it -/
theorem jn_one {E : Expr} {ma : M D} {f : D → Option DV} {R : List V → Hp → VK → Prop} (h : PE X E (fun σ H Q => tG X.K g W (repL (repB X.K)) (mSeq [ma]) σ H fun xs H1 => R xs H1 Q)) (hr : ∀ xs H Q, c1N X.K g f xs H Q → R xs H Q) : JN X g W E (mOp1N f ma) :=
  PE.of h fun σ H Q ⟨b, F, S, x, q⟩ => by
    refine ⟨b, F, S, x, ?_⟩
    show PostG _ _ _ _ _ _ _ _ _ ((ma S).bind fun a S' => .ok [a] S')
    cases z : ma S with
    | stuck => unfold mOp1N M.bind at q; rw [z] at q; exact q.elim
    | exc c d bx' => unfold mOp1N M.bind at q; rw [z] at q; exact q
    | ok d1 S1 =>
      unfold mOp1N M.bind at q
      rw [z] at q
      intro vs F1 H1 x1 s1 f1 r1
      obtain ⟨u, e, q3⟩ := ofO_postN (S := S1) q
      obtain ⟨v, rfl⟩ : ∃ v, vs = [v] := by
        have := r1.1
        match vs, this with
        | [v], _ => exact ⟨v, rfl⟩
      exact hr _ _ _ ⟨b, F1, S1, σ, v, d1, u, rfl, x1, r1.2 0 v d1 rfl rfl, e, fun w F' H' y1 => (PostN.shift q3 s1 f1).fin x1 y1⟩
def intsK : List Key → Option (List Int)
  | [] => some []
  | .inl i :: ks => (intsK ks).map (i :: ·)
  | .inr _ :: _ => none
theorem intsK_eq : ∀ {ks : List Key} {ns : List Int}, intsK ks = some ns → ks = ns.map Sum.inl
  | [], _, e => by cases e; rfl
  | .inl i :: ks, ns, e => by
    obtain ⟨ms, e1, rfl⟩ := Option.map_eq_some_iff.mp (show (intsK ks).map (i :: ·) = some ns from e)
    rw [intsK_eq e1]
    rfl
  | .inr _ :: _, _, e => by cases e
def srtI (ns : List Int) : List Int := ns.mergeSort fun a b => decide (a ≤ b)
theorem srtI_eq {ys ns : List Int} (h : ys.Perm ns) (k : ys.Pairwise (· ≤ ·)) : ys = srtI ns := by
  have p2 : (srtI ns).Perm ns := List.mergeSort_perm _ _
  have s2 : (srtI ns).Pairwise (· ≤ ·) := by
    have := List.pairwise_mergeSort (le := fun a b : Int => decide (a ≤ b)) (fun a b c h1 h2 => by simp at *; omega) (fun a b => by simp; omega) ns
    exact this.imp fun h => by simpa using h
  exact List.Perm.eq_of_pairwise (le := (· ≤ ·)) (fun a b _ _ h1 h2 => by omega) k s2 (h.trans p2.symm)
/-- the ascending list of a dict's keys, all ints, fewer than 64 -/
def sortDictN : D → Option DV
  | .list ds => (pairsOf ds).bind fun ps => (intsK (keysU [] (ps.map (·.1)))).bind fun ns => if ns.length < 64 then some (.ow (.list ((srtI ns).map .int))) else none
  | _ => none
def rSortDI (K : PySem.W.Frag) : List V → Hp → VK → Prop := fun xs H Q => ∃ (a : Addr) (kvs : List (Key × V)) (ks : List Int), xs = [.ref a] ∧ Rd H a (.dK kvs) ∧ kvs.map (·.1) = ks.map Sum.inl ∧ ks.length < 64 ∧
    ∀ (ys : List Int) (p : Addr), ys.Perm ks → ys.Pairwise (· ≤ ·) → H p = none → Q (.ref p) (upd H p (.lst (ys.map V.int)))
theorem cr_sortDI (hc : X.calm = true) : CallR X (.builtin "sorted") (rSortDI X.K) := call_sortedDI hc
theorem dpAll_ints {K : PySem.W.Frag} {F : Hp} : ∀ ns : List Int, DpAll K F (ns.map V.int) (ns.map PyData.int)
  | [] => .nil
  | n :: ns => .cons (.int n) (dpAll_ints ns)
theorem jn_sortDict (f : Fx X g W c) {e : Expr} {p p' pos pos' : Pos} {m : M D} (h1 : isG c "sorted" = true) (h2 : isG c "dict" = true) (hs : noStar [e] = true) (h : JB X g W e m) :
    JN X g W (.Call (.Name "sorted" p) [.Call (.Name "dict" p') [e] [] pos'] [] pos) (mOp1N sortDictN m) := by
  have pa : PA X [e] (tG X.K g W (repL (repB X.K)) (mSeq [m])) := ja_cons (mono_B _) h ja_nil (star_cons hs)
  have pd := pe_callTy (pos := pos') (p := p') (cr_dictP f.calm) (isG_ok f h2).1 (f.glo.bl _ (by decide +kernel)) boot_dict pa (by decide) (by decide) (star_cons hs) (by rfl)
  have pl : PE X (.Call (.Name "sorted" p) [.Call (.Name "dict" p') [e] [] pos'] [] pos) (fun σ H Q => tG X.K g W (repL (repB X.K)) (mSeq [m]) σ H fun xs H1 => rDictP X.K xs H1 fun v H2 => rSortDI X.K [v] H2 Q) :=
    pe_callB (pos := pos) (p := p) (cr_sortDI f.calm) (isG_ok f h1).1 (f.glo.bl _ (by decide +kernel)) boot_sorted (pa_cons pd pa_nil (by rfl)) (by decide) (by decide) (by rfl) (by rfl)
  refine jn_one (f := sortDictN) (R := fun xs H1 Q => rDictP X.K xs H1 fun v H2 => rSortDI X.K [v] H2 Q) pl fun xs H Q hq => ?_
  obtain ⟨b, F, S, σ, x, d1, u, rfl, x1, r1, e1, q⟩ := hq
  cases d1 with
  | list ds =>
    obtain ⟨ps, e2, e3⟩ := Option.bind_eq_some_iff.mp (show (pairsOf ds).bind _ = some u from e1)
    obtain ⟨ns, e4, e5⟩ := Option.bind_eq_some_iff.mp e3
    split at e5
    · rename_i h64
      cases e5
      obtain ⟨a, vs, rfl, s1, k1⟩ := r1.list x1.ff
      obtain ⟨as, kvs, rfl, b1, b2, b3⟩ := pairs_V k1 e2
      refine ⟨a, as, kvs, rfl, s1, b1.mono fun p kv s => seqT_mono x1.ff s, fun p hp => ⟨p, _, ns, rfl, .inl upd_same, ?_, h64, fun ys p2 h1 h2 hp2 => ?_⟩⟩
      · have mk := merge_keys kvs []
        rw [b2] at mk
        rw [mk]
        exact intsK_eq e4
      · have y := x1.newU (o := .dK (mergeK [] kvs)) hp
        have z := y.newN hp2 (dpAll_ints ys)
        have w := y.callN z
        rw [srtI_eq h1 h2] at w ⊢
        exact q _ _ _ w
    · cases e5
  | _ => cases e1
end
end Gl

set_option maxRecDepth 100000
set_option maxHeartbeats 3200000
/-! The general layer: len(set(..)), sorted(set(..)) of ints where the set itself is never seen. -/
namespace Gl
open PySem PySem.Spec PyProof.Rows L2
section
variable {P : Program} {w : World} {A : Around} {E : Value → Shared → Prop} {s : Shared}
theorem call_set_listI {l : Addr} {items : Array Value} (ns : List Int) {Q : Value → Shared → Prop} (hh : A.handled = none) (hl : s.heap.IsList l items) (hit : IntsAre items.toList ns) (hb : ns.length + 1 < scanBound)
    (h : ∀ (h' : Heap) (tk c : Nat), SetR w h' s.heap.objs.size (fun j => decide (j ∈ ns)) c → c ≤ ns.length → (∀ b o, s.heap.get? b = some o → h'.get? b = some o) → Q (.ref s.heap.objs.size) { s with heap := h', toks := tk }) :
    wpAny (model P w) A (call (.type "set") [.ref l]) Q E s := by
  have hisz : items.size = ns.length := by
    have q := IntsAre.length hit
    rw [Array.length_toList] at q
    exact q
  obtain ⟨c, tl, hmro⟩ := F.called_set.mro
  have hmade := F.called_set.made
  have hsub := F.called_set.sub
  refine wpAny_call (codeAny_of_tree ?_)
  show wpAny _ _ (callAny (.type "set") _) _ _ _
  refine wpAny_pure ⟨Code.quiet_builtin _ (by decide +kernel), codeAny_builtin F.entry_type_call ?_⟩
  rw [Around.under_plain (weight_type_call_type "set" [.ref l] []) rfl]
  have h1 := F.called_set.notType
  have h2 := F.called_set.canCreate
  have hct := F.typeCall_set_1 (.ref l)
  repeat (any_goals (first | assumption | wp_step))

  refine codeAny_mono (code_set_led1 (.ref l) (E := E) (Q₁ := fun obj s₁ => obj = .ref s.heap.objs.size ∧ s₁ = { s with heap := s.heap.push { cls := .type "set", dict := none, data := .set #[] 0 (.fresh 0 0 (!w.params.followText "set-order")) } }) ⟨rfl, rfl⟩) fun r s₁ hr => ?_
  cases r with
  | error e => exact hr
  | ok fl =>
    cases fl with
    | ret obj =>
      obtain ⟨rfl, rfl⟩ := hr
      have hS : (s.heap.push { cls := .type "set", dict := none, data := .set #[] 0 (.fresh 0 0 (!w.params.followText "set-order")) }).get? s.heap.objs.size = some { cls := .type "set", dict := none, data := .set #[] 0 (.fresh 0 0 (!w.params.followText "set-order")) } := Heap.get?_push_size _ rfl
      have hT : Shared.TypeIs { s with heap := s.heap.push { cls := .type "set", dict := none, data := .set #[] 0 (.fresh 0 0 (!w.params.followText "set-order")) } } (.ref s.heap.objs.size) "set" := ⟨_, hS, rfl⟩
      have hli := F.called_set.init.lookup
      have hbi := F.called_set.init.bind (.ref s.heap.objs.size)
      repeat (any_goals (first | assumption | wp_step))

      refine codeAny_mono (codeAny_call_builtin (R := wants (fun r s₂ => r = .none ∧ ∃ h' tk c, s₂ = { s with heap := h', toks := tk } ∧ SetR w h' s.heap.objs.size (fun j => decide (j ∈ ns)) c ∧ c ≤ ns.length ∧
          (∀ b o, s.heap.get? b = some o → h'.get? b = some o)) E) F.called_set.init.plain F.entry_set_init (check_set_init_1 hT ?_)) fun r₂ s₂ hr₂ => ?_
      · obtain ⟨ol, hol, hcl, nl, hdl⟩ := hl
        obtain ⟨ocls, odict, odata, oslots⟩ := ol
        simp only at hcl hdl
        subst hcl; subst hdl
        have hol' : (s.heap.push { cls := .type "set", dict := none, data := .set #[] 0 (.fresh 0 0 (!w.params.followText "set-order")) }).get? l = some { cls := .type "list", dict := odict, data := .seq items nl, slots := oslots } := Heap.get?_push_of_some _ hol
        have hsls := F.sub_list_set
        have hslf := F.sub_list_frozenset
        have hne : (Value.type "list" == Value.type "dict") = false := by decide
        have hl1 : (s.heap.push { cls := .type "set", dict := none, data := .set #[] 0 (.fresh 0 0 (!w.params.followText "set-order")) }).IsList l items := ⟨_, hol', rfl, nl, rfl⟩
        unfold Builtin.«set.__init__» noKeywords Builtin.Frozenset.updateFrom
        generalize hPI : pyIter = PI
        wp_walk
        subst hPI

        refine wpAny_pyIter_list hl1 ?_
        refine wpAny_bind (wpAny_runValue ?_)
        have hlS : l < s.heap.objs.size := Heap.lt_size hol
        have hh3 : A.in1.in1.in1.handled = none := by simp [hh]
        have hz1 : (s.heap.push { cls := .type "set", dict := none, data := .set #[] 0 (.fresh 0 0 (!w.params.followText "set-order")) }).objs.size = s.heap.objs.size + 1 := Heap.size_push ..
        have hneI : l ≠ (s.heap.push { cls := .type "set", dict := none, data := .set #[] 0 (.fresh 0 0 (!w.params.followText "set-order")) }).objs.size := by
          rw [Heap.size_push]; exact Nat.ne_of_lt (Nat.lt_succ_of_lt hlS)
        have hSf : s.heap.objs.size ∉ [(s.heap.push { cls := .type "set", dict := none, data := .set #[] 0 (.fresh 0 0 (!w.params.followText "set-order")) }).objs.size, l] := by
          rw [Heap.size_push]; simp only [List.mem_cons, List.mem_singleton, List.not_mem_nil, or_false, not_or]
          exact ⟨Nat.ne_of_lt (Nat.lt_succ_self _), Nat.ne_of_gt hlS⟩
        have hval : ∀ (i : Nat) (v : Value), items[i]? = some v → ∃ k t, ns[i]? = some k ∧ v = .int k t := fun i v hv => by
          have hi : i < ns.length := by rw [← hisz]; exact (Array.getElem?_eq_some_iff.mp hv).1
          obtain ⟨t, e⟩ := PyProof.Rows.IntsAre.int_at hit i v (by rw [Array.getElem?_toList]; exact hv)
          refine ⟨ns[i], t, List.getElem?_eq_getElem hi, ?_⟩
          rw [e, List.getD_eq_getElem?_getD, List.getElem?_eq_getElem hi] <;> rfl
        refine set_update_ints ((Walks.list hh3 _ l hneI items).toS) s.heap.objs.size
          hSf ns hisz hb hval (items.size - 0) 0 _ (by omega) (Nat.zero_le _)
          ⟨⟨_, Heap.get?_push_size _ rfl, rfl, rfl⟩, (hl1.push _)⟩ ?hS0 ?hR
        case hS0 =>
          have hget : ((s.heap.push { cls := .type "set", dict := none, data := .set #[] 0 (.fresh 0 0 (!w.params.followText "set-order")) }).push { cls := .type "list_iterator", data := .fields #[.ref l, .int 0 0] }).get? s.heap.objs.size
              = some { cls := .type "set", dict := none, data := .set #[] 0 (.fresh 0 0 (!w.params.followText "set-order")) } := Heap.get?_push_of_some _ hS
          exact ⟨0, Nat.le_refl 0, setR_new_at hget⟩
        case hR =>
          intro s' c' hm hc' hS'
          obtain ⟨h', g2, d', tk', os'⟩ := s'
          have eg : g2 = s.gens := hm.gens
          have ed : d' = s.drawn := hm.drawn
          have eo : os' = s.os := hm.os
          subst eg; subst ed; subst eo
          show wpAny _ _ _ _ _ _
          refine wpAny_pure ?_
          show wpAny _ _ (ret Value.none) _ _ _
          rw [hisz] at hc'
          refine wpAny_pure ⟨rfl, h', tk', c', rfl, hS', hc', fun b o e => ?_⟩
          have hb0 : b < s.heap.objs.size := Heap.lt_size e
          have hb1 : b ≠ s.heap.objs.size := Nat.ne_of_lt hb0
          have hb2 : b ≠ (s.heap.push { cls := .type "set", dict := none, data := .set #[] 0 (.fresh 0 0 (!w.params.followText "set-order")) }).objs.size := by
            rw [Heap.size_push]; exact Nat.ne_of_lt (Nat.lt_succ_of_lt hb0)
          exact hm.heap b o (by simp only [List.mem_cons, List.mem_singleton, List.not_mem_nil, or_false, not_or]; exact ⟨hb1, hb2⟩) (Heap.get?_push_of_some _ (Heap.get?_push_of_some _ e))

      · cases r₂ with
        | error e => exact hr₂
        | ok fl₂ =>
          cases fl₂ with
          | ret r =>
            obtain ⟨rfl, h', tk, c', rfl, hS', hc', hk'⟩ := hr₂
            repeat (any_goals (first | assumption | wp_step))
            exact h _ _ _ hS' hc' hk'
          | _ => exact hr₂.elim
    | _ => exact hr.elim

end
/-- the ints, each once, in the order they come -/
def intsU (acc : List Int) : List Int → List Int
  | [] => acc
  | k :: ks => intsU (if k ∈ acc then acc else acc ++ [k]) ks
theorem intsU_facts : ∀ (ks acc : List Int), acc.Nodup → (intsU acc ks).Nodup ∧ ∀ a, a ∈ intsU acc ks ↔ a ∈ acc ∨ a ∈ ks
  | [], acc, h => ⟨h, fun a => by simp [intsU]⟩
  | k :: ks, acc, h => by
    unfold intsU
    by_cases hk : k ∈ acc
    · rw [if_pos hk]
      obtain ⟨h1, h2⟩ := intsU_facts ks acc h
      refine ⟨h1, fun a => ?_⟩
      rw [h2, List.mem_cons]
      constructor
      · rintro (x | x)
        · exact .inl x
        · exact .inr (.inr x)
      · rintro (x | rfl | x)
        · exact .inl x
        · exact .inl hk
        · exact .inr x
    · rw [if_neg hk]
      have hn : (acc ++ [k]).Nodup := by
        rw [List.nodup_append]
        exact ⟨h, by simp, fun a ha b hb => by
          rw [List.mem_singleton] at hb
          subst hb
          rintro rfl
          exact hk ha⟩
      obtain ⟨h1, h2⟩ := intsU_facts ks (acc ++ [k]) hn
      refine ⟨h1, fun a => ?_⟩
      rw [h2, List.mem_append, List.mem_singleton, List.mem_cons, or_assoc]
theorem setR_count {w : World} {h : Heap} {a : Addr} {ns : List Int} {c : Nat} (R : SetR w h a (fun j => decide (j ∈ ns)) c) : c = (intsU [] ns).length := by
  obtain ⟨o, es, ep, t, _, _, _, _, nd, mem, _, _, hc, _⟩ := R
  obtain ⟨h1, h2⟩ := intsU_facts ns [] List.nodup_nil
  have p := (List.perm_ext_iff_of_nodup nd h1).mpr fun k => by
    rw [← mem k, h2]
    simp
  have := p.length_eq
  rw [List.length_map, Array.length_toList] at this
  omega
section
variable {X : Cx} {g : Gx} {W : WX} {c : Ct}
def rSetI (K : PySem.W.Frag) (w : World) : List V → Hp → VK → Prop := fun xs H Q => ∃ (a : Addr) (ns : List Int), xs = [.ref a] ∧ (SqL K H a (ns.map V.int) ∨ SqT K H a (ns.map V.int)) ∧ ns.length < 1000 ∧
  ∀ p, H p = none → Q (.ref p) (upd H p (SetO w p (fun j => decide (j ∈ ns)) (intsU [] ns).length))
theorem cr_setI (hc : X.calm = true) : CallR X (.type "set") (rSetI X.K X.w) := by
  intro pins s σ H xs us Q I r h
  obtain ⟨a, ns, rfl, hs, hn, q⟩ := h
  rw [Vals.ref1 r]
  have sc : ns.length + 1 < scanBound := by unfold scanBound; omega
  have fin : ∀ (h' : Heap) (tk c : Nat), SetR X.w h' s.heap.objs.size (fun j => decide (j ∈ ns)) c → c ≤ ns.length → (∀ b o, s.heap.get? b = some o → h'.get? b = some o) → EP X pins σ Q (.ref s.heap.objs.size) { s with heap := h', toks := tk } := fun h' tk c R _ k => by
    have e := setR_count R
    subst e
    exact ⟨.ref _, _, I.laid k (Nat.le_refl _) (setO_new R), rfl, q _ (I.hok.fresh (Nat.le_refl _))⟩
  rcases hs with hs | hs
  · obtain ⟨its, rv, pl, hz⟩ := I.list hs
    exact call_set_listI ns (I.ok.hd hc) pl.isList (by rw [List.toList_toArray]; exact ints_of_vals rv) sc fin
  · obtain ⟨its, rv, pl, hz⟩ := I.tuple hs
    exact call_set_tupI ns (I.ok.hd hc) pl (by rw [List.toList_toArray]; exact ints_of_vals rv) sc fin
def rLenSet (w : World) : List V → Hp → VK → Prop := fun xs H Q => ∃ (a : Addr) (S : Int → Bool) (n : Nat), xs = [V.ref a] ∧ H a = some (SetO w a S n) ∧ n < 1000 ∧ Q (.int n) H
theorem cr_lenSet : CallR X (.builtin "len") (rLenSet X.w) := by
  intro pins s σ H xs us Q I r h
  obtain ⟨a, S, n, rfl, ha, h64, q⟩ := h
  rw [Vals.ref1 r]
  obtain ⟨o, es, ep, t, ho, hex, hd, _, _, _, hf, hn⟩ := (setO_get I ha).setOf (P := X.prog)
  exact call_len_set ho hex hd hf (by rw [hn] <;> omega) ⟨.int n, H, I.tok _, ⟨_, by rw [hn]⟩, q⟩
/-- how many different ints -/
def lenSetD : D → Option D
  | .list ds => (intsOf ds).bind fun ns => if ns.length < 1000 then some (.int ((intsU [] ns).length : Nat)) else none
  | .tuple ds => (intsOf ds).bind fun ns => if ns.length < 1000 then some (.int ((intsU [] ns).length : Nat)) else none
  | _ => none
/-- the different ints, ascending -/
def sortSetN : D → Option DV
  | .list ds => (intsOf ds).bind fun ns => if ns.length < 1000 ∧ (intsU [] ns).length < 64 then some (.ow (.list ((srtI (intsU [] ns)).map .int))) else none
  | .tuple ds => (intsOf ds).bind fun ns => if ns.length < 1000 ∧ (intsU [] ns).length < 64 then some (.ow (.list ((srtI (intsU [] ns)).map .int))) else none
  | _ => none
def intsD : D → Option (List Int)
  | .list ds => intsOf ds
  | .tuple ds => intsOf ds
  | _ => none
theorem lenSet_eq (d : D) : lenSetD d = (intsD d).bind fun ns => if ns.length < 1000 then some (.int ((intsU [] ns).length : Nat)) else none := by
  cases d <;> rfl
theorem sortSet_eq (d : D) : sortSetN d = (intsD d).bind fun ns => if ns.length < 1000 ∧ (intsU [] ns).length < 64 then some (.ow (.list ((srtI (intsU [] ns)).map .int))) else none := by
  cases d <;> rfl
theorem intsD_V {K : PySem.W.Frag} {b : Bs} {F H : Hp} {v : V} {d : D} {ns : List Int} (ff : Same F H) (h : BRep K b F H v d) (e : intsD d = some ns) : ∃ a, v = .ref a ∧ (SqL K H a (ns.map V.int) ∨ SqT K H a (ns.map V.int)) := by
  cases d with
  | list ds =>
    obtain ⟨a, vs, rfl, s1, k1⟩ := h.list ff
    rw [intsOf_V k1 e] at s1
    exact ⟨a, rfl, .inl s1⟩
  | tuple ds =>
    obtain ⟨a, vs, rfl, s1, k1⟩ := h.tuple ff
    rw [intsOf_V k1.2 e] at s1
    exact ⟨a, rfl, .inr s1⟩
  | _ => cases e
theorem je_lenSet (f : Fx X g W c) {e : Expr} {p p' pos pos' : Pos} {m : M D} (h1 : isG c "len" = true) (h2 : isG c "set" = true) (hs : noStar [e] = true) (h : JB X g W e m) :
    JE X g W (.Call (.Name "len" p) [.Call (.Name "set" p') [e] [] pos'] [] pos) (mOp1 lenSetD m) := by
  have pa : PA X [e] (tG X.K g W (repL (repB X.K)) (mSeq [m])) := ja_cons (mono_B _) h ja_nil (star_cons hs)
  have pd := pe_callTy (pos := pos') (p := p') (cr_setI f.calm) (isG_ok f h2).1 (f.glo.bl _ (by decide +kernel)) boot_set pa (by decide) (by decide) (star_cons hs) (by rfl)
  have pl : PE X (.Call (.Name "len" p) [.Call (.Name "set" p') [e] [] pos'] [] pos) (fun σ H Q => tG X.K g W (repL (repB X.K)) (mSeq [m]) σ H fun xs H1 => rSetI X.K X.w xs H1 fun v H2 => rLenSet X.w [v] H2 Q) :=
    pe_callB (pos := pos) (p := p) cr_lenSet (isG_ok f h1).1 (f.glo.bl _ (by decide +kernel)) boot_len (pa_cons pd pa_nil (by rfl)) (by decide) (by decide) (by rfl) (by rfl)
  refine je_one (f := lenSetD) (R := fun xs H1 Q => rSetI X.K X.w xs H1 fun v H2 => rLenSet X.w [v] H2 Q) pl fun xs H Q hq => ?_
  obtain ⟨b, F, S, σ, x, d1, d, rfl, x1, r1, e1, q⟩ := hq
  rw [lenSet_eq] at e1
  obtain ⟨ns, e2, e3⟩ := Option.bind_eq_some_iff.mp e1
  split at e3
  · rename_i hn
    cases e3
    obtain ⟨a, rfl, s1⟩ := intsD_V x1.ff r1 e2
    refine ⟨a, ns, rfl, s1, hn, fun p hp => ⟨p, _, _, rfl, upd_same, ?_, q _ _ _ (x1.newU hp) (.int _)⟩⟩
    have : ∀ (ns acc : List Int), (intsU acc ns).length ≤ acc.length + ns.length := by
      intro ns
      induction ns with
      | nil => intro acc; simp [intsU]
      | cons k ks ih =>
        intro acc
        unfold intsU
        have := ih (if k ∈ acc then acc else acc ++ [k])
        split at this <;> rename_i hk <;> simp only [List.length_append, List.length_cons, List.length_nil] at this ⊢
        · rw [if_pos hk]; omega
        · rw [if_neg hk]; omega
    have := this ns []
    simp at this
    omega
  · cases e3
theorem jn_sortSet (f : Fx X g W c) {e : Expr} {p p' pos pos' : Pos} {m : M D} (h1 : isG c "sorted" = true) (h2 : isG c "set" = true) (hs : noStar [e] = true) (h : JB X g W e m) :
    JN X g W (.Call (.Name "sorted" p) [.Call (.Name "set" p') [e] [] pos'] [] pos) (mOp1N sortSetN m) := by
  have pa : PA X [e] (tG X.K g W (repL (repB X.K)) (mSeq [m])) := ja_cons (mono_B _) h ja_nil (star_cons hs)
  have pd := pe_callTy (pos := pos') (p := p') (cr_setI f.calm) (isG_ok f h2).1 (f.glo.bl _ (by decide +kernel)) boot_set pa (by decide) (by decide) (star_cons hs) (by rfl)
  have pl : PE X (.Call (.Name "sorted" p) [.Call (.Name "set" p') [e] [] pos'] [] pos) (fun σ H Q => tG X.K g W (repL (repB X.K)) (mSeq [m]) σ H fun xs H1 => rSetI X.K X.w xs H1 fun v H2 => rSortedSet X.w [v] H2 Q) :=
    pe_callB (pos := pos) (p := p) (cr_sortedSet f.calm) (isG_ok f h1).1 (f.glo.bl _ (by decide +kernel)) boot_sorted (pa_cons pd pa_nil (by rfl)) (by decide) (by decide) (by rfl) (by rfl)
  refine jn_one (f := sortSetN) (R := fun xs H1 Q => rSetI X.K X.w xs H1 fun v H2 => rSortedSet X.w [v] H2 Q) pl fun xs H Q hq => ?_
  obtain ⟨b, F, S, σ, x, d1, u, rfl, x1, r1, e1, q⟩ := hq
  rw [sortSet_eq] at e1
  obtain ⟨ns, e2, e3⟩ := Option.bind_eq_some_iff.mp e1
  split at e3
  · rename_i hn
    cases e3
    obtain ⟨a, rfl, s1⟩ := intsD_V x1.ff r1 e2
    refine ⟨a, ns, rfl, s1, hn.1, fun p hp => ⟨p, _, _, rfl, upd_same, hn.2, fun ys p2 h1 h2 h3 hp2 => ?_⟩⟩
    have y := x1.newU (o := SetO X.w p (fun j => decide (j ∈ ns)) (intsU [] ns).length) hp
    have z := y.newN hp2 (dpAll_ints ys)
    have w := y.callN z
    obtain ⟨u1, u2⟩ := intsU_facts ns [] List.nodup_nil
    have pm : ys.Perm (intsU [] ns) := (List.perm_ext_iff_of_nodup (h1.imp fun h => by omega) u1).mpr fun k => by
      rw [h2, u2]
      simp
    rw [srtI_eq pm (h1.imp fun h => by omega)] at w ⊢
    exact q _ _ _ w
  · cases e3
end
end Gl

set_option maxRecDepth 100000
set_option maxHeartbeats 1000000
/-! The general layer: xs[i] op= e, xs a list of one's own. -/
namespace Gl
open PySem PySem.Spec PyProof.Rows L2
theorem pget_list {X : Cx} : PGet X (rIxL X.K) := by
  intro pins s σ H x y v u Q I rx ry h
  obtain ⟨p, xs, i, z, rfl, rfl, hq, he, q⟩ := h
  cases rx
  obtain ⟨t, rfl⟩ := ry
  obtain ⟨its, r, pl, hz⟩ := I.list hq
  obtain ⟨j, h1, h2, h3, h4, h5⟩ := atI_get he
  obtain ⟨w, ew, rw'⟩ := r.get h2
  have hl := r.length
  have hn := line63
  have fin : EP X pins σ Q w s := ⟨z, H, I, rw', q⟩
  by_cases h0 : 0 ≤ i
  · have hj : i.toNat = j := by
      rw [seqIndex_of h0 h5] at h1
      exact Option.some.inj h1
    exact wpAny_getItem_list pl.isList h0 (by omega) (by rw [hj]; simpa using ew) fin
  · have hj : (i + (its.toArray.size : Int)).toNat = j := by
      rw [seqIndex_neg (by omega) h4] at h1
      rw [List.size_toArray, ← hl]
      exact Option.some.inj h1
    exact wpAny_getItem_list_neg pl.isList (by omega) (by rw [List.size_toArray] <;> omega) (by omega) (by rw [hj]; simpa using ew) fin
/-- xs[i] op= y, xs a list of one's own, ints -/
def sAugAt (op : Operator) (i : Nat) (mi mv : M D) : MS := fun S => match S.sl[i]? with
  | some (.ow _) => sE mi (fun k S1 => match S1.sl[i]?, k with
    | some (.ow (.list ds)), .int k => match ixN ds.length k with
      | some j => match ds[j]? with
        | some d => sE mv (fun y S2 => match S2.sl[i]?, augD op d y with
          | some (.ow (.list ds2)), some z => if ds2.length = ds.length then .next { S2 with sl := S2.sl.set i (.ow (.list (ds2.set j z))) } else .stuck
          | _, _ => .stuck) S1
        | none => .stuck
      | none => .stuck
    | _, _ => .stuck) S
  | _ => .stuck
section
variable {X : Cx} {g : Gx} {W : WX} {c : Ct}
theorem js_augAt (f : Fx X g W c) {x : Str} {i : Nat} {ei e : Expr} {p pos pos' : Pos} {op : Operator} {mi m : M D} (hi : slotC c x = some i) (hm : JE X g W ei mi) (h : JE X g W e m) (hs : notSl ei = true) : JS X g W (.AugAssign (.Subscript (.Name x p) ei pos) op e pos') (sAugAt op i mi m) := by
  have ha : ∀ ov iv new, augStore ei ov iv new = (do holding [new, ov, iv] (setItem ov iv new); release [new, ov, iv] []; pure .next) := fun ov iv new => by cases ei <;> first | rfl | cases hs
  refine PS.of (ps_augS (pe_slot f (pos := p) hi) hm pget_list h (ip_augI op) set_list ha) fun E σ H ⟨b, F, S, y, q⟩ => ?_
  unfold sAugAt at q
  split at q
  · rename_i d0 es
    obtain ⟨a, e1, o1⟩ := y.getO es
    refine ⟨.ref a, e1, ?_⟩
    refine bindS y q fun k S1 w F1 H1 x1 s1 f1 r1 q1 => ?_
    split at q1
    · rename_i ds k e2
      split at q1
      · rename_i j hj
        split at q1
        · rename_i d ed
          cases dp_int r1
          obtain ⟨a', e3, o3⟩ := x1.getO e2
          rw [e1] at e3
          cases e3
          obtain ⟨o4, o5, o6, vs, ds', e4, e5, e6⟩ := id o3
          cases e4
          obtain ⟨v, ev, hv⟩ := dpl_get e6 ed
          refine ⟨a, vs, k, v, rfl, rfl, .inl (.inl e5), by unfold atI; rw [dpl_len e6, hj]; exact ev, ?_⟩
          refine bindS x1 q1 fun y2 S2 v2 F2 H2 x2 s2 f2 r2 q2 => ?_
          split at q2
          · rename_i ds2 z e7 ez
            split at q2
            · rename_i hl
              unfold augD at ez
              split at ez
              · rename_i i1 j1
                cases ek : augI op i1 j1 with
                | none => rw [ek] at ez; cases ez
                | some kk =>
                  rw [ek] at ez
                  cases ez
                  cases dp_int hv
                  cases dp_int r2
                  obtain ⟨a', e8, o8⟩ := x2.getO e7
                  rw [e1] at e8
                  cases e8
                  obtain ⟨_, _, _, vs2, ds', e9, e10, e11⟩ := id o8
                  cases e9
                  refine ⟨i1, j1, kk, rfl, rfl, ek, a, vs2, k, j, rfl, rfl, e10, by rw [dpl_len e11, hl]; exact hj, ?_⟩
                  exact q2 σ F2 _ (x2.putOw e7 e1 o8 e10 (dpl_set (.int kk) j e11)) (Same.refl _)
              · cases ez
            · exact q2.elim
          · exact q2.elim
        · exact q1.elim
      · exact q1.elim
    · exact q1.elim
  · exact q.elim
end
end Gl

set_option maxRecDepth 100000
set_option maxHeartbeats 1000000
/-! The general layer, part H: built-ins by their names; the compiler of expressions. -/
namespace Gl
open PySem PySem.Spec PyProof.Rows L2

/-! ### isinstance -/
def tyD : D → Option String
  | .none => some "NoneType"
  | .bool _ => some "bool"
  | .int _ => some "int"
  | .str _ => some "str"
  | .list _ => some "list"
  | .tuple _ => some "tuple"
  | .dict _ => none
def isaB (t T : String) : Bool := t == T || (t == "bool" && T == "int")
def typesK : List String := ["int", "bool", "tuple", "list", "str"]
def typeOfName (x : Str) : Option String := typesK.find? fun T => decide (x = Str.ofString T)
def instD (T : String) (d : D) : Option D := (tyD d).map fun t => .bool (isaB t T)
theorem kit_tab : (["NoneType", "bool", "int", "str", "list", "tuple"].all fun t => typesK.all fun T => kitB t T == some (isaB t T)) = true := by decide +kernel
theorem kit_ok {d : D} {t T : String} (h : tyD d = some t) (hT : T ∈ typesK) : kitB t T = some (isaB t T) := by
  have ht : t ∈ ["NoneType", "bool", "int", "str", "list", "tuple"] := by
    cases d <;> cases h <;> decide
  have q := List.all_eq_true.mp (List.all_eq_true.mp kit_tab t ht) T hT
  simpa using q
theorem tyX_of {K : PySem.W.Frag} {b : Bs} {F H : Hp} {v : V} {d : D} {t : String} (s : Same F H) (r : BRep K b F H v d) (h : tyD d = some t) : TyX K H v (.type t) := by
  cases d with
  | none => cases h; rw [r.none_]; exact .base .non
  | bool k => cases h; rw [r.bool_]; exact .base (.bl _)
  | int i => cases h; rw [r.int_]; exact .base (.int _)
  | str z => cases h; rw [r.str_]; exact .base (.str _)
  | list ds =>
    cases h
    obtain ⟨a, vs, rfl, h1, _⟩ := r.list s
    rcases h1 with (h1 | ⟨o, h1⟩) | ⟨o, its, n, e, c, _⟩
    · exact .base (.lst h1)
    · exact .base (.frz h1)
    · exact .kList e c
  | tuple ds =>
    cases h
    obtain ⟨a, vs, rfl, h1, _⟩ := r.tuple s
    rcases h1 with (h1 | ⟨o, h1⟩) | ⟨o, its, n, e, c, _⟩
    · exact .base (.tup h1)
    · exact .fTuple h1
    · exact .kTuple e c
  | dict _ => cases h
theorem typeOfName_ok {x : Str} {T : String} (h : typeOfName x = some T) : T ∈ typesK ∧ x = Str.ofString T := by
  unfold typeOfName at h
  exact ⟨List.mem_of_find?_eq_some h, by simpa using List.find?_some h⟩
theorem type_facts {T : String} (h : T ∈ typesK) : bootBuiltins (Str.ofString T) = some (.type T) ∧ Str.ofString T ∈ blts ∧ Str.ofString T ≠ "__name__" ∧ (Str.ofString T == ("__debug__" : Str)) = false := by
  simp only [typesK, List.mem_cons, List.not_mem_nil, or_false] at h
  rcases h with rfl | rfl | rfl | rfl | rfl
  · exact ⟨boot_int, by decide +kernel, by decide +kernel, by decide +kernel⟩
  · exact ⟨boot_bool, by decide +kernel, by decide +kernel, by decide +kernel⟩
  · exact ⟨boot_tuple, by decide +kernel, by decide +kernel, by decide +kernel⟩
  · exact ⟨boot_list, by decide +kernel, by decide +kernel, by decide +kernel⟩
  · exact ⟨boot_str, by decide +kernel, by decide +kernel, by decide +kernel⟩

section
variable {X : Cx} {g : Gx} {W : WX} {c : Ct}
theorem je_inst (f : Fx X g W c) {x y : Str} {T : String} {e : Expr} {p p2 pos : Pos} {m : M D} (hx : x = "isinstance") (hg : isG c x = true) (hy : typeOfName y = some T) (hgy : isG c y = true) (hs : noStar [e, .Name y p2] = true) (h : JB X g W e m) :
    JE X g W (.Call (.Name x p) [e, .Name y p2] [] pos) (mOp1 (instD T) m) := by
  obtain ⟨h1, rfl⟩ := typeOfName_ok hy
  obtain ⟨b1, b2, b3, b4⟩ := type_facts h1
  subst hx
  have gx := (isG_ok f hg).1
  have gy := (isG_ok f hgy).1
  have ta : PE X (.Name (Str.ofString T) p2) (tC (.ty T)) := pe_bltn gy (f.glo.bl _ b2) b1 rfl b3 b4
  refine PE.of (pe_callB call_isi gx (f.glo.bl _ (by decide +kernel)) boot_isinstance (pa_cons h (pa_cons ta pa_nil rfl) (star_cons hs)) (by decide) (by decide) (star_cons hs) (star_any (noStar_tail hs))) fun σ H Q ⟨b, F, S, x, q⟩ => bindP x q fun d S1 v F1 H1 x1 s1 f1 r1 q1 => ?_
  obtain ⟨d2, e2, q2⟩ := ofO_post q1
  unfold instD at e2
  cases et : tyD d with
  | none => rw [et] at e2; cases e2
  | some t =>
    rw [et] at e2
    cases e2
    exact ⟨v, .ty T, .type t, .type T, isaB t T, rfl, .ty T, tyX_of x1.ff r1 et, kit_ty (kit_ok et h1), q2 _ F1 H1 x1 (Same.refl _) (Fr.refl _ _) (.bl _)⟩
/-! ### built-ins of one and of two -/
def b1 (gr : Bool) (x : Str) : Option (D → Option D) :=
  if x = "len" then some lenD else if x = "abs" then some absD else if x = "int" then some intD else if x = "all" then some allD else if x = "any" then some anyD else if x = "sum" then some sumD else
  if x = "tuple" then some tupleD else if x = "list" then some listD else if x = "repr" ∧ gr = true then some reprD else
  if x = "max" then some max1D else if x = "min" then some min1D else if x = "sorted" then some sortedD else none
def b2 (x : Str) : Option (D → D → Option D) := if x = "max" then some max2D else if x = "min" then some min2D else none
theorem je_b1 (f : Fx X g W c) {x : Str} {o : D → Option D} {e : Expr} {p pos : Pos} {m : M D} (hb : b1 c.gr x = some o) (hg : isG c x = true) (hs : noStar [e] = true) (h : JB X g W e m) : JE X g W (.Call (.Name x p) [e] [] pos) (mOp1 o m) := by
  have gx := (isG_ok f hg).1
  have pa : PA X [e] (tG X.K g W (repL (repB X.K)) (mSeq [m])) := ja_cons (mono_B _) h ja_nil (star_cons hs)
  have s1 := star_cons (env := X.env) hs
  have s2 : ∀ pos : Pos, (backTo pos (starEach [] X.env)).any (·.1) = false := fun _ => rfl
  unfold b1 at hb
  repeat' split at hb
  all_goals first | (cases hb; done) | skip
  all_goals cases hb
  · rename_i z; subst z; exact je_c1 (fun t ha => pe_callB call_lenD gx (f.glo.bl _ (by decide +kernel)) boot_len ha (by decide) (by decide) s1 (s2 _)) pa
  · rename_i z; subst z; exact je_c1 (fun t ha => pe_callB call_absD gx (f.glo.bl _ (by decide +kernel)) boot_abs ha (by decide) (by decide) s1 (s2 _)) pa
  · rename_i z; subst z; exact je_c1 (fun t ha => pe_callTy call_intD gx (f.glo.bl _ (by decide +kernel)) boot_int ha (by decide) (by decide) s1 (s2 _)) pa
  · rename_i z; subst z; exact je_c1 (fun t ha => pe_callB (call_allD f.calm) gx (f.glo.bl _ (by decide +kernel)) boot_all ha (by decide) (by decide) s1 (s2 _)) pa
  · rename_i z; subst z; exact je_c1 (fun t ha => pe_callB (call_anyD f.calm) gx (f.glo.bl _ (by decide +kernel)) boot_any ha (by decide) (by decide) s1 (s2 _)) pa
  · rename_i z; subst z; exact je_c1 (fun t ha => pe_callB (call_sumD f.calm) gx (f.glo.bl _ (by decide +kernel)) boot_sum ha (by decide) (by decide) s1 (s2 _)) pa
  · rename_i z; subst z; exact je_c1 (fun t ha => pe_callTy call_tupleD gx (f.glo.bl _ (by decide +kernel)) boot_tuple ha (by decide) (by decide) s1 (s2 _)) pa
  · rename_i z; subst z; exact je_c1 (fun t ha => pe_callTy call_listD gx (f.glo.bl _ (by decide +kernel)) boot_list ha (by decide) (by decide) s1 (s2 _)) pa
  · rename_i z; obtain ⟨rfl, zg⟩ := z; exact je_c1 (fun t ha => pe_callB (call_reprD (f.gd zg) (by have := f.room.un; omega)) gx (f.glo.bl _ (by decide +kernel)) boot_repr ha (by decide) (by decide) s1 (s2 _)) pa
  · rename_i z; subst z; exact je_c1 (fun t ha => pe_callB (call_max1 f.calm f.un) gx (f.glo.bl _ (by decide +kernel)) boot_max ha (by decide) (by decide) s1 (s2 _)) pa
  · rename_i z; subst z; exact je_c1 (fun t ha => pe_callB (call_min1 f.calm f.un) gx (f.glo.bl _ (by decide +kernel)) boot_min ha (by decide) (by decide) s1 (s2 _)) pa
  · rename_i z; subst z; exact je_c1 (fun t ha => pe_callB (call_sortedD f.un) gx (f.glo.bl _ (by decide +kernel)) boot_sorted ha (by decide) (by decide) s1 (s2 _)) pa
theorem je_b2 (f : Fx X g W c) {x : Str} {o : D → D → Option D} {e e' : Expr} {p pos : Pos} {m m' : M D} (hb : b2 x = some o) (hg : isG c x = true) (hs : noStar [e, e'] = true) (h : JB X g W e m) (h' : JB X g W e' m') : JE X g W (.Call (.Name x p) [e, e'] [] pos) (mOp2 o m m') := by
  have gx := (isG_ok f hg).1
  have hs' := noStar_tail hs
  have pa : PA X [e, e'] (tG X.K g W (repL (repB X.K)) (mSeq [m, m'])) := ja_cons (mono_B _) h (ja_cons (mono_B _) h' ja_nil (star_cons hs')) (star_cons hs)
  unfold b2 at hb
  split at hb
  · cases hb
    rename_i z; subst z
    exact je_c2 (fun t ha => pe_callB (call_max2D f.calm) gx (f.glo.bl _ (by decide +kernel)) boot_max ha (by decide) (by decide) (star_cons hs) (star_any hs')) pa
  · split at hb
    · cases hb
      rename_i z; subst z
      exact je_c2 (fun t ha => pe_callB (call_min2D f.calm) gx (f.glo.bl _ (by decide +kernel)) boot_min ha (by decide) (by decide) (star_cons hs) (star_any hs')) pa
    · cases hb

/-! ### what the compiler gives of an expression -/
structure Cd where
  e : M D
  b : M D
  a : M Arg
  t : M Bool
def Cd.of (m : M D) : Cd := ⟨m, m, mArgE m, mTru m⟩
def Cd.tst (m : M Bool) : Cd := ⟨mBl m, mBl m, mArgE (mBl m), m⟩
def Cd.no : Cd := ⟨mStuck, mStuck, mStuck, mStuck⟩
structure OkX (X : Cx) (g : Gx) (W : WX) (ex : Expr) (c : Cd) : Prop where
  e : JE X g W ex c.e
  b : JB X g W ex c.b
  a : PE X ex (tG X.K g W (repA X.K) c.a)
  t : JT X g W ex c.t
def plainT : Expr → Bool
  | .UnaryOp .Not _ _ => false
  | .BoolOp .. => false
  | .IfExp .. => false
  | .Compare .. => false
  | _ => true
theorem plainT_ok {e : Expr} {env : Env} (h : plainT e = true) : ∀ whole, isTrue e env whole = (do let v ← whole; standAt e.pos; holding [v] (truthy v)) := by
  intro whole
  cases e with
  | UnaryOp op x p => cases op <;> first | rfl | cases h
  | BoolOp => cases h
  | IfExp => cases h
  | Compare => cases h
  | _ => rfl
theorem ok_of {e : Expr} {m : M D} (h : JE X g W e m) (hp : plainT e = true) : OkX X g W e (.of m) := ⟨h, jb_of h, ja_of h, jt_tru (jb_of h) (plainT_ok hp)⟩
theorem ok_ofE {e : Expr} {m : M D} {t : M Bool} (h : JE X g W e m) (ht : JT X g W e t) : OkX X g W e ⟨m, m, mArgE m, t⟩ := ⟨h, jb_of h, ja_of h, ht⟩
theorem ok_no {e : Expr} : OkX X g W e .no := ⟨pe_stuck, pe_stuck, pe_stuck, pt_stuck⟩
theorem ok_tst {e : Expr} {m : M Bool} (h : JE X g W e (mBl m)) (ht : JT X g W e m) : OkX X g W e (.tst m) := ⟨h, jb_of h, ja_of h, ht⟩
/-! chains of and, or -/
def chV (op : BoolOp) (f : Expr → M D) : List Expr → M D
  | [] => mStuck
  | a :: r => match r with
    | [] => f a
    | _ :: _ => match op with
      | .And => mAndV (f a) (chV op f r)
      | .Or => mOrV (f a) (chV op f r)
def chT (op : BoolOp) (f : Expr → M Bool) : List Expr → M Bool
  | [] => mStuck
  | a :: r => match r with
    | [] => f a
    | _ :: _ => match op with
      | .And => mAndT (f a) (chT op f r)
      | .Or => mOrT (f a) (chT op f r)
theorem chV_ok {op : BoolOp} {f : Expr → M D} {pos : Pos} : ∀ {vs : List Expr}, (∀ e ∈ vs, JE X g W e (f e)) → JE X g W (.BoolOp op vs pos) (chV op f vs)
  | [], _ => pe_stuck
  | [a], h => pe_one (h a (by simp))
  | a :: b :: r, h => by
    have ih := chV_ok (op := op) (f := f) (pos := pos) (vs := b :: r) fun e he => h e (List.mem_cons_of_mem _ he)
    cases op with
    | And => exact je_andV (h a (by simp)) ih
    | Or => exact je_orV (h a (by simp)) ih
theorem chT_ok {op : BoolOp} {f : Expr → M Bool} {pos : Pos} : ∀ {vs : List Expr}, (∀ e ∈ vs, JT X g W e (f e)) → JW X g W (.BoolOp op vs pos) (chT op f vs)
  | [], _ => pw_stuck
  | [a], h => by
    cases op with
    | And => exact jw_and1 (h a (by simp))
    | Or => exact jw_or1 (h a (by simp))
  | a :: b :: r, h => by
    have ih := chT_ok (op := op) (f := f) (pos := pos) (vs := b :: r) fun e he => h e (List.mem_cons_of_mem _ he)
    cases op with
    | And => exact jw_and (h a (by simp)) ih
    | Or => exact jw_or (h a (by simp)) ih
theorem ja_all {α : Type} {rep : Rp α V} (mo : Mono rep) {f : Expr → M α} : ∀ {es : List Expr}, noStar es = true → (∀ e ∈ es, PE X e (tG X.K g W rep (f e))) → PA X es (tG X.K g W (repL rep) (mSeq (es.map f)))
  | [], _, _ => ja_nil
  | e :: es, hs, h => ja_cons mo (h e (by simp)) (ja_all mo (noStar_tail hs) fun e he => h e (List.mem_cons_of_mem _ he)) (star_cons hs)
end
end Gl

set_option maxRecDepth 100000
set_option maxHeartbeats 1000000
/-! The general layer, part R: the reversed of a list, a tuple. -/
namespace HT
open PySem PySem.Spec PyProof.Rows L2
variable {prog : Program} {w : World} {A : Around} {E : Value → Shared → Prop} {s : Shared}
theorem slices_rev {sl : Addr} {vl vu vs : Value} {n : Nat} {Q : Int × Int × Nat → Shared → Prop} (hs : s.heap.IsSliceOf sl vl vu vs) (pl : IsPart vl none) (pu : IsPart vu none) (ps : IsPart vs (some (-1)))
    (h : Q ((n : Int) - 1, -1, n) s) : wpAny (model prog w) A (Builtin.Slice.sliceApplied (.ref sl) (pure (n : Int))) Q E s := by
  obtain ⟨os, hos, hcs, hds⟩ := id hs
  unfold Builtin.Slice.sliceApplied Builtin.Slice.sliceFields
  refine wpAny_bind (wpAny_bind (wpAny_field hos hds (x := vl) rfl (wpAny_bind (wpAny_field hos hds (x := vu) rfl (wpAny_bind (wpAny_field hos hds (x := vs) rfl (wpAny_pure ?_)))))))
  refine wpAny_bind (slicePart_ ps ?_)
  show wpAny _ _ (if ((-1 : Int) == 0) = true then _ else _) _ _ s
  rw [if_neg (by decide)]
  refine wpAny_bind (slicePart_ pl (wpAny_bind (slicePart_ pu (wpAny_bind (wpAny_pure ?_)))))
  have e : Builtin.Slice.slicePlaces ((n : Int) - 1) (-1) (-1) = n := by
    unfold Builtin.Slice.slicePlaces
    have h1 : ¬ ((-1 : Int) > 0) := by decide
    rw [if_neg h1, show (- -1 : Int) = 1 by decide, Int.ediv_one]
    split <;> omega
  show wpAny _ _ (pure ((n : Int) - 1, (-1 : Int), Builtin.Slice.slicePlaces ((n : Int) - 1) (-1) (-1))) _ _ s
  rw [e]
  exact wpAny_pure h
theorem filterMap_cong' {α β : Type} {f g : α → Option β} : ∀ {l : List α}, (∀ a ∈ l, f a = g a) → l.filterMap f = l.filterMap g
  | [], _ => rfl
  | a :: l, h => by
    rw [List.filterMap_cons, List.filterMap_cons, h a (by simp), filterMap_cong' fun b hb => h b (List.mem_cons_of_mem _ hb)]
theorem pick_back (xs : Array Value) : ((List.range xs.size).filterMap fun (m : Nat) => xs[(((xs.size : Int) - 1) + (m : Int) * (-1)).toNat]?).toArray = xs.toList.reverse.toArray := by
  rw [← PySem.W.krv_pick xs]
  unfold slicePick
  rw [PySem.W.krv_bounds]
  show _ = ((sliceRange ((xs.size : Int) - 1) (-1) (-1)).filterMap (xs[·]?)).toArray
  rw [PySem.W.krv_sliceRange, List.filterMap_map]
  congr 1
  refine filterMap_cong' fun m hm => ?_
  have := List.mem_range.mp hm
  show xs[_]? = xs[xs.size - 1 - m]?
  congr 1
  omega
theorem getItem_tuple_rev {t sl : Addr} {items : Array Value} {vl vu vs : Value} {Q : Value → Shared → Prop} (ht : IsTup s.heap t items) (hs : s.heap.IsSliceOf sl vl vu vs) (pl : IsPart vl none) (pu : IsPart vu none) (ps : IsPart vs (some (-1)))
    (h : Q (.ref s.heap.objs.size) { s with heap := s.heap.push { cls := .type "tuple", data := .seq items.toList.reverse.toArray } })
    (hsz : items.size ≤ sizeLine) : wpAny (model prog w) A (getItem (.ref t) (.ref sl)) Q E s := by
  have htake : sizeOk (.seq items.toList.reverse.toArray) := by
    show items.toList.reverse.toArray.size ≤ sizeLine
    rw [List.size_toArray, List.length_reverse, Array.length_toList]
    omega
  obtain ⟨os, hos, hcs, hds⟩ := id hs
  have hTs : s.TypeIs (.ref sl) "slice" := ⟨os, hos, hcs⟩
  unfold getItem
  try with_reducible refine wpAny_holding ?_
  first | refine wpAny_bind (wpAny_pure ?_) | skip
  refine wpAny_bind (wpAny_sequenceKey ht.typeIs (by decide) ?_)
  refine wpAny_bind (wpAny_callSpecial?_slot (name := Str.ofString "__getitem__") ht.typeIs PyProof.Rows.slot_tuple_getitem
    (wpAny_call_entry PyProof.Rows.slot_tuple_getitem ht.typeIs entry_tuple_getitem ?_ (args_tuple_getitem _ _)))
  show wpAny _ _ (Builtin.Tuple.tupleItemsOf (.ref t) >>= _) _ _ s
  refine wpAny_bind (tupleItemsOf_ ht ?_)
  refine wpAny_bind (wpAny_typeOf hTs ?_)
  rw [if_pos (by decide)]
  refine wpAny_bind (slices_rev hs pl pu ps ?_)
  have hno : ¬ (((((items.size : Nat) : Int) - 1) == 0 && (-1 : Int) == 1 && items.size == items.size) = true) := by
    intro q
    rw [Bool.and_eq_true, Bool.and_eq_true] at q
    exact absurd q.1.2 (by decide)
  show wpAny _ _ (if ((((items.size : Nat) : Int) - 1) == 0 && (-1 : Int) == 1 && items.size == items.size) = true then _ else _) _ _ s
  rw [if_neg hno, pick_back]
  first
    | exact wpAny_bind (m := Builtin.Tuple.tupleExact _) (wpAny_newObj_type (wpAny_pure ⟨_, rfl, wpAny_pure h⟩) htake)
    | exact wpAny_bind (m := Builtin.Tuple.tupleExact _) (wpAny_newObj_type (wpAny_bind (wpAny_pure (wpAny_pure ⟨_, rfl, wpAny_pure h⟩))) htake)
    | exact wpAny_bind (wpAny_bind (m := Builtin.Tuple.tupleExact _) (wpAny_newObj_type (wpAny_pure (wpAny_pure ⟨_, rfl, wpAny_pure h⟩)) htake))
    | exact wpAny_bind (wpAny_bind (m := Builtin.Tuple.tupleExact _) (wpAny_newObj_type (wpAny_pure ⟨_, rfl, wpAny_pure h⟩) htake))
end HT
namespace Gl
open PySem PySem.Spec PyProof.Rows L2
def revS (z : Str) : Str := ⟨(z.cps.toList.reverse).toArray⟩
def revD : D → Option D
  | .list ds => some (.list ds.reverse)
  | .tuple ds => some (.tuple ds.reverse)
  | .str z => if sumOk z.length then some (.str (revS z)) else none
  | _ => none
theorem dpl_rev {K : PySem.W.Frag} {F : Hp} : ∀ {vs : List V} {ds : List D}, DpAll K F vs ds → DpAll K F vs.reverse ds.reverse
  | _, _, .nil => .nil
  | _, _, .cons a b => by
    rw [List.reverse_cons, List.reverse_cons]
    exact dpl_app (dpl_rev b) (.cons a .nil)
theorem str_back (z : Str) : (⟨((Builtin.Str.strSliceIndices none none (-1) z.length).filterMap (z.cps[·]?)).toArray⟩ : Str) = revS z := by
  rw [picked_rev, PySem.W.krv_range]
  show (⟨((List.range z.cps.size).reverse.filterMap (z.cps[·]?)).toArray⟩ : Str) = _
  rw [List.filterMap_reverse, PySem.W.krv_all]
  rfl
section
variable {X : Cx} {g : Gx} {W : WX}
theorem pe_revG {e : Expr} {te : TE} {k : Nat} {p1 p2 p3 pos : Pos} (he : PE X e te) : PE X (.Subscript e (.Slice none none (some (.UnaryOp .USub (.Constant (.int 1) k p1) p2)) p3) pos) (fun σ H Q => te σ H fun x H1 => r1 X.K g revD x H1 Q) := by
  refine ⟨fun pins s σ H Q I h => ?_⟩
  refine Subscript_ (thn (he.run pins s σ H _ I h) fun v s1 ⟨x, H1, I1, r1, q1⟩ => ?_)
  have hst : PO X (some (.UnaryOp .USub (.Constant (.int 1) k p1) p2)) (tPart (tUn (rU fun i => .int (-i)) (tC (.int 1)))) := po_some (pe_un un_neg pe_int)
  refine wpAny_Slice (thn (po_none.run pins s1 σ H1 (fun o H2 => o = none ∧ H2 = H1) I1 ⟨rfl, rfl⟩) fun vl s2 ⟨l, H2, I2, pl, el, e2⟩ => ?_)
  subst el e2
  refine thn (po_none.run pins s2 σ H2 (fun o H3 => o = none ∧ H3 = H2) I2 ⟨rfl, rfl⟩) fun vu s3 ⟨u, H3, I3, pu, eu, e3⟩ => ?_
  subst eu e3
  refine thn (hst.run pins s3 σ H3 (fun o H4 => o = some (-1) ∧ H4 = H3) I3 ⟨1, rfl, -1, rfl, rfl, rfl⟩) fun vs s4 ⟨o, H4, I4, ps, eo, e4⟩ => ?_
  subst eo e4
  have I5 : Inv X pins σ H4 { s4 with heap := s4.heap.push { cls := .type "slice", data := .fields #[vl, vu, vs] } } := I4.kept (t' := s4.toks) fun b ob q => Heap.get?_push_of_some _ q
  obtain ⟨b, F, S, σ', d1, d, x1, h1, e5, q⟩ := q1
  unfold revD at e5
  split at e5
  · cases e5
    obtain ⟨a, xs, rfl, hx, k1⟩ := h1.list x1.ff
    cases r1
    obtain ⟨its, r, ht, hz⟩ := I5.list hx
    have hlen := r.length
    refine tail_any (ops := [.ref a, .ref s4.heap.objs.size]) ht.isList.typeIs (PySem.slot_list_getitem.lookup) ?_ (by with_unfolding_all rfl)
    refine wpAny_getItem_list_slice ht.isList (Heap.IsSliceOf.new _ vl vu vs) pl pu ps (by decide) ?_ (by rw [List.size_toArray]; omega)
    rw [PySem.W.krv_pick]
    have hp := I5.hok.fresh (Nat.le_refl _)
    obtain ⟨y1, y2⟩ := x1.lst hp (dpl_rev k1)
    refine ⟨.ref _, _, I5.laid (t' := s4.toks) (o := .lst xs.reverse) (fun b ob q => Heap.get?_push_of_some _ q) (Nat.le_refl _) ?_, rfl, q _ _ _ y1 y2⟩
    exact ⟨by rw [List.length_reverse]; exact hz, _, 0, r.reverse, Heap.get?_push_size _ rfl⟩
  · cases e5
    obtain ⟨a, xs, rfl, hx, hx', k1⟩ := h1.tuple x1.ff
    cases r1
    obtain ⟨its, r, ht, hz⟩ := I5.tuple hx
    have hlen := r.length
    refine tail_any (ops := [.ref a, .ref s4.heap.objs.size]) ht.typeIs PyProof.Rows.slot_tuple_getitem.lookup ?_ (by with_unfolding_all rfl)
    refine HT.getItem_tuple_rev ht (Heap.IsSliceOf.new _ vl vu vs) pl pu ps ?_ (by rw [List.size_toArray]; omega)
    have hp := I5.hok.fresh (Nat.le_refl _)
    obtain ⟨y1, y2⟩ := x1.tup hp (dpl_rev k1)
    refine ⟨.ref _, _, I5.laid (t' := s4.toks) (o := .tup xs.reverse) (fun b ob q => Heap.get?_push_of_some _ q) (Nat.le_refl _) ?_, rfl, q _ _ _ y1 y2⟩
    exact ⟨by rw [List.length_reverse]; exact hz, _, r.reverse, IsTup.new _ _⟩
  · split at e5
    · rename_i z hz
      cases e5
      have ex := h1.str_
      subst ex
      obtain ⟨t, rfl⟩ := r1
      obtain ⟨l, rfl, el⟩ := IsPart.raw pl
      obtain ⟨u, rfl, eu⟩ := IsPart.raw pu
      obtain ⟨st, rfl, es⟩ := IsPart.raw ps
      refine tail_any (ops := [.str z t, .ref s4.heap.objs.size]) (typeIs_str _ _ _) PySem.F.slot_str_getitem.lookup ?_ (by with_unfolding_all rfl)
      refine wpAny_getItem_str_slice (l := l) (u := u) (st := st) ⟨_, Heap.get?_push_size _ rfl, rfl, rfl⟩ (by rw [es]; rfl) ?_
      have e6 : sliceMade z t l u st = Made.str (revS z) := by
        unfold sliceMade slicePicked
        rw [el, eu, es]
        show (if ((-1 : Int) == 1 && _) = true then _ else _) = _
        rw [if_neg (by simp)]
        congr 1
        exact str_back z
      rw [e6]
      refine ⟨?_, .str _, _, I5.tok _, ⟨_, rfl⟩, q _ _ _ x1.base (.str _)⟩
      show (z.cps.toList.reverse).toArray.size ≤ sizeLine
      rw [List.size_toArray, List.length_reverse, Array.length_toList]
      exact sumOk_le hz
    · cases e5
  · cases e5
theorem je_rev {e : Expr} {ma : M D} {k : Nat} {p1 p2 p3 pos : Pos} (ha : JB X g W e ma) : JE X g W (.Subscript e (.Slice none none (some (.UnaryOp .USub (.Constant (.int 1) k p1) p2)) p3) pos) (mOp1 revD ma) :=
  PE.of (pe_revG (g := g) ha) fun σ H Q ⟨b, F, S, x, q⟩ => bindP x q fun d1 S1 v F1 H1 x1 s1 f1 r1 q1 => by
    obtain ⟨d, e, q4⟩ := ofO_post q1
    exact ⟨b, F1, S1, σ, d1, d, x1, r1, e, fun w F' H' y1 y2 => q4 w F' H' (x1.call y1) y1.f0 y1.ext y2⟩
end
end Gl

set_option maxRecDepth 100000
set_option maxHeartbeats 2000000
/-! The general layer, part I: the compiler of expressions. -/
namespace Gl
open PySem PySem.Spec PyProof.Rows L2

/-! ### targets -/
structure TgC where
  G : PySem.W.Frag → TG
  st : Tgt
  js : List Nat
structure TgsC where
  G : PySem.W.Frag → TGs
  st : List D → List DV → Option (List DV)
  js : List Nat
def TgC.no : TgC := ⟨fun _ _ _ _ _ => False, stNone, []⟩
def cGs (f : Expr → TgC) : List Expr → TgsC
  | [] => ⟨fun _ => gNil, stNil, []⟩
  | e :: es => ⟨fun K => gCons ((f e).G K) ((cGs f es).G K), stCons (f e).st (cGs f es).st, (f e).js ++ (cGs f es).js⟩
def cG : Nat → Ct → Expr → TgC
  | 0, _, _ => .no
  | n + 1, c, e => match e with
    | .Name x _ => match locC c x with
      | some i => ⟨fun _ => gName i, stName i, [i]⟩
      | none => .no
    | .Tuple es _ _ => if noStar es = true then ⟨fun K => gTup K es.length ((cGs (cG n c) es).G K), stTup es.length (cGs (cG n c) es).st, (cGs (cG n c) es).js⟩ else .no
    | _ => .no
theorem asg_cons {e : Expr} {es : List Expr} {env : Env} (h : noStar (e :: es) = true) : assignEach (e :: es) env = (false, assign e env) :: assignEach es env := by
  cases e <;> first | rfl | (exact absurd h (by simp [noStar]))
theorem asg_len {env : Env} : ∀ {es : List Expr}, noStar es = true → (assignEach es env).length = es.length
  | [], _ => rfl
  | e :: es, h => by rw [asg_cons h, List.length_cons, List.length_cons, asg_len (noStar_tail h)]
theorem asg_find {env : Env} : ∀ {es : List Expr}, noStar es = true → (assignEach es env).findIdx? (·.1) = none
  | [], _ => rfl
  | e :: es, h => by
    rw [asg_cons h, List.findIdx?_cons, asg_find (noStar_tail h)]
    rfl
section
variable {X : Cx} {g : Gx} {W : WX} {c : Ct}
theorem cG_ok (f : Fx X g W c) : ∀ (n : Nat) (e : Expr), TgOk X g e ((cG n c e).G X.K) (cG n c e).st (cG n c e).js
  | 0, e => tg_none X g e
  | n + 1, e => by
    have key : ∀ {es : List Expr}, noStar es = true → TgsOk X g es ((cGs (cG n c) es).G X.K) (cGs (cG n c) es).st (cGs (cG n c) es).js := fun {es} => by
      induction es with
      | nil => exact fun _ => tgs_nil X g
      | cons a r ih => exact fun hs => tgs_cons (cG_ok f n a) (ih (noStar_tail hs)) (by rw [asg_cons hs]; rfl)
    unfold cG
    split
    · split
      · exact tg_name f (by assumption)
      · exact tg_none X g _
    · split
      · rename_i hs
        exact tg_tup f.calm (key hs) (asg_len hs) (asg_find hs)
      · exact tg_none X g _
    · exact tg_none X g _
end

/-! ### small readings of the syntax -/
def revOf (i : Expr) : Bool := match i with
  | .Slice none none (some (.UnaryOp .USub (.Constant (.int 1) _ _) _)) _ => true
  | _ => false
theorem revOf_eq {i : Expr} (h : revOf i = true) : ∃ (k : Nat) (p1 p2 p3 : Pos), i = .Slice none none (some (.UnaryOp .USub (.Constant (.int 1) k p1) p2)) p3 := by
  unfold revOf at h
  split at h
  · exact ⟨_, _, _, _, rfl⟩
  · cases h
def cutOf : Expr → Option (Option Expr × Option Expr)
  | .Slice lo hi none _ => some (lo, hi)
  | _ => none
theorem cutOf_eq {e : Expr} {lo hi : Option Expr} (h : cutOf e = some (lo, hi)) : ∃ p, e = .Slice lo hi none p := by
  unfold cutOf at h
  split at h
  · cases h
    exact ⟨_, rfl⟩
  · cases h
theorem plainIx_of {e : Expr} (h : notSl e = true) : PlainIx e := by
  intro o i
  cases e <;> first | rfl | cases h
def callOf : Expr → Option (Str × List Expr)
  | .Call (.Name x _) args [] _ => some (x, args)
  | _ => none
theorem callOf_eq {e : Expr} {x : Str} {args : List Expr} (h : callOf e = some (x, args)) : ∃ p pos, e = .Call (.Name x p) args [] pos := by
  unfold callOf at h
  split at h
  · cases h
    exact ⟨_, _, rfl⟩
  · cases h
def isTup : Expr → Bool
  | .Tuple .. => true
  | _ => false
theorem isTup_eq {e : Expr} (h : isTup e = true) : ∃ es k p, e = .Tuple es k p := by
  unfold isTup at h
  split at h
  · exact ⟨_, _, _, rfl⟩
  · cases h
def nameOf : Expr → Option Str
  | .Name x _ => some x
  | _ => none
theorem nameOf_eq {e : Expr} {x : Str} (h : nameOf e = some x) : ∃ p, e = .Name x p := by
  unfold nameOf at h
  split at h
  · cases h
    exact ⟨_, rfl⟩
  · cases h
def boxOf : Expr → Expr → Option (Str × Int)
  | .Name x _, .Constant (.int k) _ _ => some (x, k)
  | _, _ => none
theorem boxOf_eq {a i : Expr} {x : Str} {k : Int} (h : boxOf a i = some (x, k)) : ∃ p j p2, a = .Name x p ∧ i = .Constant (.int k) j p2 := by
  unfold boxOf at h
  split at h
  · cases h
    exact ⟨_, _, _, rfl, rfl⟩
  · cases h
def appOf : Expr → Option (Str × Expr × Bool)
  | .Call (.Attribute (.Name x _) nm p2) [e] [] cpos => if nm = "append" then some (x, e, p2.endLine == cpos.line) else none
  | _ => none
theorem appOf_eq {a e : Expr} {x : Str} {l : Bool} (h : appOf a = some (x, e, l)) : ∃ p p2 cpos, a = .Call (.Attribute (.Name x p) "append" p2) [e] [] cpos ∧ l = (p2.endLine == cpos.line) := by
  unfold appOf at h
  split at h
  · split at h
    · rename_i hn
      subst hn
      cases h
      exact ⟨_, _, _, rfl, rfl⟩
    · cases h
  · cases h
def subOf : Expr → Option (Str × Expr)
  | .Subscript (.Name x _) i _ => some (x, i)
  | _ => none
theorem subOf_eq {a i : Expr} {x : Str} (h : subOf a = some (x, i)) : ∃ p pos, a = .Subscript (.Name x p) i pos := by
  unfold subOf at h
  split at h
  · cases h
    exact ⟨_, _, rfl⟩
  · cases h
def isOne : Expr → Bool
  | .Constant (.int k) _ _ => k == 1
  | _ => false
theorem isOne_eq {e : Expr} (h : isOne e = true) : ∃ j p, e = .Constant (.int 1) j p := by
  unfold isOne at h
  split at h
  · rename_i k j p
    obtain rfl : k = 1 := by simpa using h
    exact ⟨_, _, rfl⟩
  · cases h
def noArgs : Arguments := { posonlyargs := [], args := [], vararg := none, kwonlyargs := [], kw_defaults := [], kwarg := none, defaults := [] }
def lamOf : Expr → Option (Expr × Scope)
  | .Lambda ⟨[], [], none, [], [], none, []⟩ body scope _ => some (body, scope)
  | _ => none
theorem lamOf_eq {e : Expr} {body : Expr} {scope : Scope} (h : lamOf e = some (body, scope)) : ∃ p, e = .Lambda ⟨[], [], none, [], [], none, []⟩ body scope p := by
  unfold lamOf at h
  split at h
  · cases h
    exact ⟨_, rfl⟩
  · cases h
/-! ### what is walked -/
def cI (c : Ct) (f : Expr → M D) (tg it : Expr) : M (List D) := match callOf it with
  | some (x, args) => if isG c x = true ∧ noStar args = true then
      (if x = "range" ∧ (args.length = 1 ∨ args.length = 2 ∨ args.length = 3) then mRange (mSeq (args.map f))
      else if x = "zip" ∧ args.length = 2 ∧ isTup tg = true then mZip (mSeq (args.map f))
      else if x = "enumerate" ∧ args.length = 1 ∧ isTup tg = true then mEnum (mSeq (args.map f))
      else mItems (f it)) else mItems (f it)
  | none => mItems (f it)
section
variable {X : Cx} {g : Gx} {W : WX} {c : Ct}
theorem cI_ok (fx : Fx X g W c) {f : Expr → M D} (hf : ∀ e, JE X g W e (f e)) (tg it : Expr) : JI X g W tg it (cI c f tg it) := by
  unfold cI
  split
  · rename_i x args h
    obtain ⟨p, pos, rfl⟩ := callOf_eq h
    split
    · rename_i hh
      obtain ⟨hg, hs⟩ := hh
      have gx := (isG_ok fx hg).1
      have pa : JAe X g W args (mSeq (args.map f)) := ja_all (mono_E _) hs fun e _ => hf e
      split
      · rename_i h2
        obtain ⟨rfl, h2⟩ := h2
        have hm := fx.glo.bl "range" (by decide +kernel)
        match args, h2, hs, pa with
        | [a], _, hs, pa => exact ji_range1 rfl gx hm pa (star_cons hs)
        | [a, b], _, hs, pa => exact ji_range2 rfl gx hm pa (by rw [star_cons hs, star_cons (noStar_tail hs)]; rfl) (star_cons (noStar_tail hs))
        | [a, b, d], _, hs, pa =>
          exact ji_range3 rfl gx hm pa (pi_range3 gx hm pa (star_cons hs) (star_any (noStar_tail hs)))
      · split
        · rename_i h2
          obtain ⟨rfl, h2, ht⟩ := h2
          obtain ⟨es, k, tp, rfl⟩ := isTup_eq ht
          match args, h2, hs, pa with
          | [a, b], _, hs, pa => exact ji_zip rfl gx (fx.glo.bl "zip" (by decide +kernel)) pa hs
        · split
          · rename_i h2
            obtain ⟨rfl, h2, ht⟩ := h2
            obtain ⟨es, k, tp, rfl⟩ := isTup_eq ht
            match args, h2, hs, pa with
            | [a], _, hs, pa => exact ji_enum rfl gx (fx.glo.bl "enumerate" (by decide +kernel)) pa (star_cons hs)
          · exact ji_items (hf _)
    · exact ji_items (hf _)
  · exact ji_items (hf _)
end

/-! ### lambdas that are told -/
def freeSl (c : Ct) (scope : Scope) : List Nat := scope.names.filterMap fun p => match p.2 with
  | .free => c.N.idxOf? p.1
  | _ => none
def mTold (js : List Nat) (h : Nat → Option Str) (m : M D) : M D := fun S =>
  match m ⟨(shareJs S js).sl.map hideD, (shareJs S js).bx⟩ with
  | .ok d S' => .ok d { shareJs S js with bx := S'.bx }
  | .exc n d bx' => match h n with
    | some tag => .ok (.list [.str tag, d]) { shareJs S js with bx := bx' }
    | none => .stuck
  | .stuck => .stuck
abbrev Ct.lam (c : Ct) (scope : Scope) : Ct := { c with sc := scope, own := fun _ => false, gr := false, lv := c.lv - 3, told := fun _ => none }
def ToldR (X : Cx) (g : Gx) (W : WX) (c : Ct) (x : Str) (h : Nat → Option Str) : Prop := ∀ (body : Expr) (scope : Scope) (p lpos pos : Pos) (m : M D), LamX.lamSB c.sc scope = true → isG c x = true →
  (∀ (X' : Cx) (W' : WX), Fx X' g W' (c.lam scope) → JE X' g W' body m) → JE X g W (.Call (.Name x p) [.Lambda ⟨[], [], none, [], [], none, []⟩ body scope lpos] [] pos) (mTold (freeSl c scope) h m)
def TOk (X : Cx) (g : Gx) (W : WX) (c : Ct) : Prop := ∀ x h, c.told x = some h → ToldR X g W c x h

/-! ### the compiler -/
def ownSl (c : Ct) (scope : Scope) : List (Str × Nat) := scope.names.filterMap fun p => if ownOf scope p.1 = true then (c.N.idxOf? p.1).map fun i => (p.1, i) else none
/-- dict(e) -/
def dictOf : Expr → Option Expr
  | .Call (.Name y _) [e] [] _ => if y = "dict" then some e else none
  | _ => none
theorem dictOf_eq {a e : Expr} (h : dictOf a = some e) : ∃ p pos, a = .Call (.Name "dict" p) [e] [] pos := by
  unfold dictOf at h
  split at h
  · split at h
    · rename_i z
      subst z
      cases h
      exact ⟨_, _, rfl⟩
    · cases h
  · cases h
/-- set(e) -/
def setOf : Expr → Option Expr
  | .Call (.Name y _) [e] [] _ => if y = "set" then some e else none
  | _ => none
theorem setOf_eq {a e : Expr} (h : setOf a = some e) : ∃ p pos, a = .Call (.Name "set" p) [e] [] pos := by
  unfold setOf at h
  split at h
  · split at h
    · rename_i z
      subst z
      cases h
      exact ⟨_, _, rfl⟩
    · cases h
  · cases h
def cBlt1 (c : Ct) (f : Expr → Cd) (x : Str) (a : Expr) : M D := match dictOf a with
  | some e => if isG c "dict" = true ∧ noStar [e] = true ∧ x = "len" then mOp1 lenDictD (f e).b
    else if isG c "dict" = true ∧ noStar [e] = true ∧ x = "sorted" then mFz (mOp1N sortDictN (f e).b) else mStuck
  | none => match setOf a with
    | some e => if isG c "set" = true ∧ noStar [e] = true ∧ x = "len" then mOp1 lenSetD (f e).b
      else if isG c "set" = true ∧ noStar [e] = true ∧ x = "sorted" then mFz (mOp1N sortSetN (f e).b) else mStuck
    | none => match b1 c.gr x with
      | some o => mOp1 o (f a).b
      | none => mStuck
def cBlt (c : Ct) (f : Expr → Cd) (x : Str) (args : List Expr) : M D := match args with
  | [a] => cBlt1 c f x a
  | [a, b] => if x = "isinstance" then (match nameOf b with
      | some y => if isG c y = true then (match typeOfName y with
        | some T => mOp1 (instD T) (f a).b
        | none => mStuck) else mStuck
      | none => mStuck)
    else match b2 x with
    | some o => mOp2 o (f a).b (f b).b
    | none => mStuck
  | _ => mStuck
def cCall (c : Ct) (f : Expr → Cd) (x : Str) (args : List Expr) : M D := match c.fn x with
  | some e => if e.lv ≤ c.lv ∧ (e.gr = true → c.gr = true) then mCall e (mSeq (args.map fun a => (f a).a)) else mStuck
  | none => cBlt c f x args
def cIx (c : Ct) (o : Option (Str × Int)) (m : M D) : M D := match o with
  | some (x, k) => match slotC c x with
    | some j => mBox j k m
    | none => m
  | none => m
def cIfs (f : Expr → M Bool) : List Expr → M Bool
  | [] => mC true
  | [t] => f t
  | _ => mStuck
def ifsOk : List Expr → Bool
  | [] => true
  | [_] => true
  | _ => false
def genOk (c : Ct) (scope : Scope) (gn : Comprehension) (js : List Nat) : Bool := gn.is_async == 0 && noSet gn.iter && blkC c.N c.sc scope (ownSl c scope) && ifsOk gn.ifs && js.all fun j => (ownSl c scope).any fun p => p.2 == j
def gen2Ok (c : Ct) (scope : Scope) (gn gn1 : Comprehension) (js js1 : List Nat) : Bool := genOk c scope gn js && gn1.is_async == 0 && noSet gn1.iter && ifsOk gn1.ifs && js1.all fun j => (ownSl c scope).any fun p => p.2 == j
def cX : Nat → Ct → Expr → Cd
  | 0, _, _ => .no
  | n + 1, c, e => match e with
    | .Constant k _ _ => match k with
      | .int i => .of (mC (.int i))
      | .bool b => .of (mC (.bool b))
      | .none => .of (mC .none)
      | .str x => .of (mC (.str x))
      | _ => .no
    | .Name x _ => ⟨cName c x, cNameB c x, cNameA c x, mTru (cNameB c x)⟩
    | .BinOp a op b _ => .of (mOp2 (binD op) (cX n c a).b (cX n c b).b)
    | .UnaryOp op a _ => match op with
      | .USub => .of (mOp1 negD (cX n c a).b)
      | .Not => ⟨mNotV (cX n c a).b, mNotV (cX n c a).b, mArgE (mNotV (cX n c a).b), mNotT (cX n c a).t⟩
      | _ => .no
    | .BoolOp op vs _ => ⟨chV op (fun e => (cX n c e).e) vs, chV op (fun e => (cX n c e).e) vs, mArgE (chV op (fun e => (cX n c e).e) vs), chT op (fun e => (cX n c e).t) vs⟩
    | .Compare a ops cs _ => match ops, cs with
      | [op], [d] => if noSet d = true then .tst (mCmp (cmpD op) (cX n c a).b (cX n c d).b) else .no
      | [op, op'], [d, d'] => if noSet d' = true then .tst (mChain (cmpD op) (cmpD op') (cX n c a).b (cX n c d).b (cX n c d').b) else .no
      | _, _ => .no
    | .IfExp t a b _ => ⟨mIf (cX n c t).t (cX n c a).e (cX n c b).e, mIf (cX n c t).t (cX n c a).b (cX n c b).b, mArgE (mIf (cX n c t).t (cX n c a).e (cX n c b).e), mStuck⟩
    | .Tuple es _ _ => if noStar es = true then .of (mTup (es.map fun e => (cX n c e).e)) else .no
    | .List es _ => if noStar es = true then .of (mLst (es.map fun e => (cX n c e).e)) else .no
    | .Subscript a i _ => if revOf i = true then .of (mOp1 revD (cX n c a).b) else match cutOf i with
      | some (lo, hi) => .of (mCut (cX n c a).b (match lo with | none => mC none | some e => mPart (cX n c e).b) (match hi with | none => mC none | some e => mPart (cX n c e).b))
      | none => if notSl i = true then .of (cIx c (boxOf a i) (mOp2 ixD (cX n c a).b (cX n c i).b)) else .no
    | .ListComp elt gens scope _ => match gens with
      | [gn] => if genOk c scope gn (cG n (c.blk scope) gn.target).js = true then
          .of (mComp (freeSl c scope) ((ownSl c scope).map (·.2)) (cI c (fun e => (cX n c e).e) gn.target gn.iter) (cG n (c.blk scope) gn.target).st (cIfs (fun e => (cX n (c.blk scope) e).t) gn.ifs) (cX n (c.blk scope) elt).e)
        else .no
      | [gn, gn1] => if gen2Ok c scope gn gn1 (cG n (c.blk scope) gn.target).js (cG n (c.blk scope) gn1.target).js = true then
          .of (mComp2 (freeSl c scope) ((ownSl c scope).map (·.2)) (cI c (fun e => (cX n c e).e) gn.target gn.iter) (cG n (c.blk scope) gn.target).st (cIfs (fun e => (cX n (c.blk scope) e).t) gn.ifs)
            (cI (c.blk scope) (fun e => (cX n (c.blk scope) e).e) gn1.target gn1.iter) (cG n (c.blk scope) gn1.target).js (cG n (c.blk scope) gn1.target).st (cIfs (fun e => (cX n (c.blk scope) e).t) gn1.ifs) (cX n (c.blk scope) elt).e)
        else .no
      | _ => .no
    | e => match callOf e with
      | some (x, args) => if isG c x = true ∧ noStar args = true then
          (match c.told x, args with
          | some h, [l] => match lamOf l with
            | some (body, scope) => if LamX.lamSB c.sc scope = true then .of (mTold (freeSl c scope) h (cX n (c.lam scope) body).e) else .no
            | none => .no
          | _, _ => .of (cCall c (cX n c) x args))
        else .no
      | none => .no
section
variable {X : Cx} {g : Gx} {W : WX} {c : Ct}
theorem nobeh {op : CmpOp} {d : Expr} (h : noSet d = true) : behindInMarks op d = false := by
  cases d <;> first | rfl | cases h
theorem cBlt_ok (f : Fx X g W c) {fx : Expr → Cd} (h : ∀ e, OkX X g W e (fx e)) {x : Str} {args : List Expr} {p pos : Pos} (hg : isG c x = true) (hs : noStar args = true) : JE X g W (.Call (.Name x p) args [] pos) (cBlt c fx x args) := by
  unfold cBlt
  split
  · unfold cBlt1
    split
    · rename_i e he
      obtain ⟨p2, pos2, rfl⟩ := dictOf_eq he
      split
      · rename_i z
        obtain ⟨z1, z2, rfl⟩ := z
        exact je_lenDict f hg z1 z2 (h _).b
      · split
        · rename_i z
          obtain ⟨z1, z2, rfl⟩ := z
          exact je_of_jn (jn_sortDict f hg z1 z2 (h _).b)
        · exact pe_stuck
    · split
      · rename_i e he
        obtain ⟨p2, pos2, rfl⟩ := setOf_eq he
        split
        · rename_i z
          obtain ⟨z1, z2, rfl⟩ := z
          exact je_lenSet f hg z1 z2 (h _).b
        · split
          · rename_i z
            obtain ⟨z1, z2, rfl⟩ := z
            exact je_of_jn (jn_sortSet f hg z1 z2 (h _).b)
          · exact pe_stuck
      · split
        · exact je_b1 f (by assumption) hg hs (h _).b
        · exact pe_stuck
  · split
    · rename_i hx
      split
      · rename_i y hy
        obtain ⟨p2, rfl⟩ := nameOf_eq hy
        split
        · rename_i gy
          split
          · exact je_inst f hx hg (by assumption) gy hs (h _).b
          · exact pe_stuck
        · exact pe_stuck
      · exact pe_stuck
    · split
      · exact je_b2 f (by assumption) hg hs (h _).b (h _).b
      · exact pe_stuck
  · exact pe_stuck
theorem cCall_ok (f : Fx X g W c) {fx : Expr → Cd} (h : ∀ e, OkX X g W e (fx e)) {x : Str} {args : List Expr} {p pos : Pos} (hg : isG c x = true) (hs : noStar args = true) : JE X g W (.Call (.Name x p) args [] pos) (cCall c fx x args) := by
  unfold cCall
  split
  · rename_i e he
    split
    · rename_i hz
      cases args with
      | nil => exact je_call0 f hg he hz.1 hz.2
      | cons a r => exact je_call f hg he hz.1 hz.2 hs (ja_all (mono_A _) hs fun e _ => (h e).a)
    · exact pe_stuck
  · exact cBlt_ok f h hg hs
theorem cIfs_ok {h : Expr → M Bool} {ifs : List Expr} (ho : ifsOk ifs = true) (hh : ∀ e, JT X g W e (h e)) : PTs X ifs (tG X.K g W repT (cIfs h ifs)) := by
  match ifs, ho with
  | [], _ => exact ⟨fun pins s σ H Q I ⟨b, F, S, x, q⟩ => pts_nil.run pins s σ H Q I (q true F H x (Same.refl _) (Fr.refl _ _) rfl)⟩
  | [t], _ => exact pts_one (hh t)
theorem cIx_ok (f : Fx X g W c) {a i : Expr} {pos : Pos} {m : M D} (h : JE X g W (.Subscript a i pos) m) : JE X g W (.Subscript a i pos) (cIx c (boxOf a i) m) := by
  unfold cIx
  split
  · rename_i x k hb
    obtain ⟨p, j, p2, rfl, rfl⟩ := boxOf_eq hb
    split
    · exact je_box f (by assumption) h
    · exact h
  · exact h
theorem jn_comp2 (f : Fx X g W c) {n : Nat} {elt : Expr} {gn gn1 : Comprehension} {scope : Scope} {pos : Pos} (ih : ∀ e : Expr, OkX X g W e (cX n c e)) (ihB : ∀ (X' : Cx) (W' : WX), Fx X' g W' (c.blk scope) → ∀ e : Expr, OkX X' g W' e (cX n (c.blk scope) e))
    (hg : gen2Ok c scope gn gn1 (cG n (c.blk scope) gn.target).js (cG n (c.blk scope) gn1.target).js = true) :
    JN X g W (.ListComp elt [gn, gn1] scope pos) (mComp2N (freeSl c scope) ((ownSl c scope).map (·.2)) (cI c (fun e => (cX n c e).e) gn.target gn.iter) (cG n (c.blk scope) gn.target).st (cIfs (fun e => (cX n (c.blk scope) e).t) gn.ifs)
            (cI (c.blk scope) (fun e => (cX n (c.blk scope) e).e) gn1.target gn1.iter) (cG n (c.blk scope) gn1.target).js (cG n (c.blk scope) gn1.target).st (cIfs (fun e => (cX n (c.blk scope) e).t) gn1.ifs) (cX n (c.blk scope) elt).e) := by
  obtain ⟨tg, it, ifs, as⟩ := gn
  obtain ⟨tg1, it1, ifs1, as1⟩ := gn1
  unfold gen2Ok genOk at hg
  simp only [Bool.and_eq_true] at hg
  obtain ⟨⟨⟨⟨⟨⟨⟨⟨h1, h2⟩, h3⟩, h4⟩, h5⟩, h6⟩, h7⟩, h8⟩, h9⟩ := hg
  obtain rfl : as = 0 := by simpa using h1
  obtain rfl : as1 = 0 := by simpa using h6
  have ok : BlkOk X.N X.env.scope scope (ownSl c scope) := by
    rw [f.N, f.sc]
    exact blkOk_by h3
  have hk : ∀ {js : List Nat}, (js.all fun j => (ownSl c scope).any fun p => p.2 == j) = true → ∀ k ∈ js, k ∈ (ownSl c scope).map (·.2) := fun {js} h5 k hk => by
    have q := List.all_eq_true.mp h5 k hk
    obtain ⟨p, hp, e⟩ := List.any_eq_true.mp q
    exact List.mem_map.mpr ⟨p, hp, by simpa using e⟩
  have blk := fun s H C cl fp => f.blk s H scope cl C fp
  have tgk := fun (s : Shared) (H : Hp) (C : Addr) (cl : List (Str × Addr)) (fp : List Addr) (e : Expr) => cG_ok (blk s H C cl fp) n e
  exact PE.of (pe_lc2 (te := tG X.K g noW (repE X.K) (cX n (c.blk scope) elt).e) (tt := tG X.K g noW repT (cIfs (fun e => (cX n (c.blk scope) e).t) ifs)) (g := (cG n (c.blk scope) tg).G X.K) (wi := tG X.K g W (repIt X.K) (cI c (fun e => (cX n c e).e) tg it))
    (tt1 := tG X.K g noW repT (cIfs (fun e => (cX n (c.blk scope) e).t) ifs1)) (g1 := (cG n (c.blk scope) tg1).G X.K) (wi1 := tG X.K g noW (repIt X.K) (cI (c.blk scope) (fun e => (cX n (c.blk scope) e).e) tg1 it1)) (vs1 := (cG n (c.blk scope) tg1).js)
    f.calm (by rw [f.N]; exact f.nd) (cI_ok f (fun e => (ih e).e) tg it) ok (hk h9) (fun s H C cl fp => (tgk s H C cl fp tg).1)
    (fun s H C cl fp => cIfs_ok h4 fun e => (ihB _ noW (blk s H C cl fp) e).t) (fun s H C cl fp => cI_ok (blk s H C cl fp) (fun e => (ihB _ noW (blk s H C cl fp) e).e) tg1 it1) (fun s H C cl fp => (tgk s H C cl fp tg1).1)
    (fun s H C cl fp => cIfs_ok h8 fun e => (ihB _ noW (blk s H C cl fp) e).t) (fun s H C cl fp => (ihB _ noW (blk s H C cl fp) elt).e) (noSet_ok h2) (fun env => noSet_ok h7)) fun σ H Q q => lcN2 (hk h5) (tgk X.s_0 (fun _ => none) 0 [] [] tg).2 (tgk X.s_0 (fun _ => none) 0 [] [] tg1).2 q
theorem cX_ok : ∀ (n : Nat) (X : Cx) (W : WX) (c : Ct), Fx X g W c → TOk X g W c → ∀ e : Expr, OkX X g W e (cX n c e)
  | 0, _, _, _, _, _, _ => ok_no
  | n + 1, X, W, c, f, hT, e => by
    have ih := cX_ok n X W c f hT
    unfold cX
    split
    · -- constants
      split
      · exact ok_of (je_const pe_int fun F => .int _) rfl
      · exact ok_of (je_const pe_bl fun F => .bl _) rfl
      · exact ok_of (je_const pe_non fun F => .non) rfl
      · exact ok_of (je_const pe_str fun F => .str _) rfl
      · exact ok_no
    · exact ⟨cName_ok f, cNameB_ok f, cNameA_ok f, jt_tru (cNameB_ok f) (plainT_ok rfl)⟩
    · exact ok_of (je_op2 (ih _).b (ih _).b) rfl
    · split
      · exact ok_of (je_neg (ih _).b) rfl
      · exact ok_ofE (je_notV (ih _).b) (jt_not (ih _).t)
      · exact ok_no
    · exact ok_ofE (chV_ok fun e _ => (ih e).e) (chT_ok fun e _ => (ih e).t).pt
    · split
      · split
        · exact ok_tst (je_cmp f.un (ih _).b (ih _).b (nobeh (by assumption))) (jt_cmp f.un (ih _).b (ih _).b (nobeh (by assumption)))
        · exact ok_no
      · split
        · exact ok_tst (je_chain f.un (ih _).b (ih _).b (ih _).b (nobeh (by assumption))) (jt_chain f.un (ih _).b (ih _).b (ih _).b (nobeh (by assumption)))
        · exact ok_no
      · exact ok_no
    · exact ⟨pe_if (ih _).t (ih _).e (ih _).e, pe_if (ih _).t (ih _).b (ih _).b, ja_of (pe_if (ih _).t (ih _).e (ih _).e), pt_stuck⟩
    · split
      · exact ok_of (je_tup (ja_all (mono_E _) (by assumption) fun e _ => (ih e).e)) rfl
      · exact ok_no
    · split
      · exact ok_of (je_lst (ja_all (mono_E _) (by assumption) fun e _ => (ih e).e)) rfl
      · exact ok_no
    · split
      · rename_i hr
        obtain ⟨k, p1, p2, p3, rfl⟩ := revOf_eq hr
        exact ok_of (je_rev (ih _).b) rfl
      split
      · rename_i lo hi hc
        obtain ⟨p, rfl⟩ := cutOf_eq hc
        refine ok_of (je_cut (ih _).b ?_ ?_) rfl
        · split
          · exact jo_none
          · exact jo_some (ih _).b
        · split
          · exact jo_none
          · exact jo_some (ih _).b
      · split
        · refine ok_of (cIx_ok f (je_ix (ih _).b (ih _).b (plainIx_of (by assumption)))) rfl
        · exact ok_no
    · split
      · rename_i elt scope pos gens gn
        split
        · rename_i hg
          obtain ⟨tg, it, ifs, as⟩ := gn
          unfold genOk at hg
          simp only [Bool.and_eq_true] at hg
          obtain ⟨⟨⟨⟨h1, h2⟩, h3⟩, h4⟩, h5⟩ := hg
          obtain rfl : as = 0 := by simpa using h1
          have ok : BlkOk X.N X.env.scope scope (ownSl c scope) := by
            rw [f.N, f.sc]
            exact blkOk_by h3
          have hks : ∀ k ∈ (cG n (c.blk scope) tg).js, k ∈ (ownSl c scope).map (·.2) := fun k hk => by
            have q := List.all_eq_true.mp h5 k hk
            obtain ⟨p, hp, e⟩ := List.any_eq_true.mp q
            exact List.mem_map.mpr ⟨p, hp, by simpa using e⟩
          have noT : ∀ X' W', TOk X' g W' (c.blk scope) := fun X' W' x h e => by cases e
          have blk := fun s H C cl fp => f.blk s H scope cl C fp
          have tgk := fun (s : Shared) (H : Hp) (C : Addr) (cl : List (Str × Addr)) (fp : List Addr) => cG_ok (blk s H C cl fp) n tg
          refine ok_of (PE.of (pe_lc (te := tG X.K g noW (repE X.K) (cX n (c.blk scope) elt).e) (tt := tG X.K g noW repT (cIfs (fun e => (cX n (c.blk scope) e).t) ifs)) (g := (cG n (c.blk scope) tg).G X.K) (wi := tG X.K g W (repIt X.K) (cI c (fun e => (cX n c e).e) tg it)) f.calm (by rw [f.N]; exact f.nd) (cI_ok f (fun e => (ih e).e) tg it) ok (fun s H C cl fp => (tgk s H C cl fp).1)
            (fun s H C cl fp => cIfs_ok h4 fun e => (cX_ok n _ noW _ (blk s H C cl fp) (noT _ _) e).t) (fun s H C cl fp => (cX_ok n _ noW _ (blk s H C cl fp) (noT _ _) elt).e) (noSet_ok h2)) fun σ H Q q => ?_) rfl
          exact je_lc hks (tgk X.s_0 (fun _ => none) 0 [] []).2 q
        · exact ok_no
      · split
        · rename_i hg
          refine ok_of ?_ rfl
          rw [mComp2_fz]
          exact je_of_jn (jn_comp2 f ih (fun X' W' f' e => cX_ok n X' W' _ f' (fun x h e => by cases e) e) hg)
        · exact ok_no
      · exact ok_no
    · split
      · rename_i x args hc
        obtain ⟨p, pos, rfl⟩ := callOf_eq hc
        split
        · rename_i hz
          obtain ⟨hg, hs⟩ := hz
          split
          · split
            · rename_i body scope hl
              obtain ⟨lp, rfl⟩ := lamOf_eq hl
              split
              · rename_i hb
                exact ok_of (hT x _ (by assumption) body scope p lp pos _ hb hg fun X' W' f' => (cX_ok n X' W' _ f' (fun x h e => by cases e) body).e) rfl
              · exact ok_no
            · exact ok_no
          · exact ok_of (cCall_ok f ih hg hs) rfl
        · exact ok_no
      · exact ok_no
end
/-! ### what may be new -/
def partO (n : Nat) (c : Ct) : Option Expr → M (Option Int)
  | none => mC none
  | some e => mPart (cX n c e).b
def cN (n : Nat) (c : Ct) (e : Expr) : M DV := match e with
    | .List es _ => if noStar es = true then mLstN (mSeq (es.map fun e => (cX n c e).e)) else mStuck
    | .BinOp a op b _ => mOpN (binN op) (cX n c a).b (cX n c b).b
    | .Subscript a i p => match cutOf i with
      | some (lo, hi) => mCutN (cX n c a).b (partO n c lo) (partO n c hi)
      | none => mSh (cX (n + 1) c (.Subscript a i p)).e
    | .ListComp elt gens scope _ => match gens with
      | [gn] => if genOk c scope gn (cG n (c.blk scope) gn.target).js = true then
          mCompN (freeSl c scope) ((ownSl c scope).map (·.2)) (cI c (fun e => (cX n c e).e) gn.target gn.iter) (cG n (c.blk scope) gn.target).st (cIfs (fun e => (cX n (c.blk scope) e).t) gn.ifs) (cX n (c.blk scope) elt).e
        else mStuck
      | [gn, gn1] => if gen2Ok c scope gn gn1 (cG n (c.blk scope) gn.target).js (cG n (c.blk scope) gn1.target).js = true then
          (mComp2N (freeSl c scope) ((ownSl c scope).map (·.2)) (cI c (fun e => (cX n c e).e) gn.target gn.iter) (cG n (c.blk scope) gn.target).st (cIfs (fun e => (cX n (c.blk scope) e).t) gn.ifs)
            (cI (c.blk scope) (fun e => (cX n (c.blk scope) e).e) gn1.target gn1.iter) (cG n (c.blk scope) gn1.target).js (cG n (c.blk scope) gn1.target).st (cIfs (fun e => (cX n (c.blk scope) e).t) gn1.ifs) (cX n (c.blk scope) elt).e)
        else mStuck
      | _ => mStuck
    | e => match callOf e with
      | some (x, args) => match args with
        | [a] => if isG c x = true ∧ noStar [a] = true ∧ x = "list" ∧ c.fn x = none then mOp1N listN (cX n c a).b
          else if isG c x = true ∧ noStar [a] = true ∧ x = "sorted" ∧ c.fn x = none then (match dictOf a with
            | some d => if isG c "dict" = true ∧ noStar [d] = true then mOp1N sortDictN (cX n c d).b else mStuck
            | none => match setOf a with
              | some d => if isG c "set" = true ∧ noStar [d] = true then mOp1N sortSetN (cX n c d).b else mStuck
              | none => mOp1N sortN (cX n c a).b) else mSh (cX (n + 1) c e).e
        | _ => mSh (cX (n + 1) c e).e
      | none => mSh (cX (n + 1) c e).e
/-- what makes something new -/
def isFresh (c : Ct) : Expr → Bool
  | .List .. => true
  | .ListComp .. => true
  | .BinOp _ .Add _ _ => true
  | .BinOp _ .Mult _ _ => true
  | .Subscript _ (.Slice _ _ none _) _ => true
  | .Call (.Name x _) [_] [] _ => isG c x && (x == ("list" : Str) || x == ("sorted" : Str)) && (c.fn x).isNone
  | _ => false
theorem jn_stuck {X : Cx} {g : Gx} {W : WX} {e : Expr} : JN X g W e mStuck := ⟨fun pins s σ H Q I ⟨b, F, S, x, q⟩ => q.elim⟩
section
variable {X : Cx} {g : Gx} {W : WX} {c : Ct}
theorem jo_partO {n : Nat} (ih : ∀ e : Expr, OkX X g W e (cX n c e)) (o : Option Expr) : PO X o (tG X.K g W repO (partO n c o)) := by
  unfold partO
  split
  · exact jo_none
  · exact jo_some (ih _).b
theorem cN_ok (f : Fx X g W c) (hT : TOk X g W c) (n : Nat) (e : Expr) : JN X g W e (cN n c e) := by
  have ih := cX_ok n X W c f hT
  have ih1 := cX_ok (n + 1) X W c f hT
  unfold cN
  split
  · split
    · exact jn_lst (ja_all (mono_E _) (by assumption) fun e _ => (ih e).e)
    · exact jn_stuck
  · exact jn_op2 (ih _).b (ih _).b
  · split
    · rename_i lo hi hc
      obtain ⟨p, rfl⟩ := cutOf_eq hc
      exact jn_cut (ih _).b (jo_partO ih lo) (jo_partO ih hi)
    · exact jn_of (ih1 _).e
  · split
    · rename_i elt scope pos gens gn
      split
      · rename_i hg
        obtain ⟨tg, it, ifs, as⟩ := gn
        unfold genOk at hg
        simp only [Bool.and_eq_true] at hg
        obtain ⟨⟨⟨⟨h1, h2⟩, h3⟩, h4⟩, h5⟩ := hg
        obtain rfl : as = 0 := by simpa using h1
        have ok : BlkOk X.N X.env.scope scope (ownSl c scope) := by
          rw [f.N, f.sc]
          exact blkOk_by h3
        have hks : ∀ k ∈ (cG n (c.blk scope) tg).js, k ∈ (ownSl c scope).map (·.2) := fun k hk => by
          have q := List.all_eq_true.mp h5 k hk
          obtain ⟨p, hp, e⟩ := List.any_eq_true.mp q
          exact List.mem_map.mpr ⟨p, hp, by simpa using e⟩
        have noT : ∀ X' W', TOk X' g W' (c.blk scope) := fun X' W' x h e => by cases e
        have blk := fun s H C cl fp => f.blk s H scope cl C fp
        have tgk := fun (s : Shared) (H : Hp) (C : Addr) (cl : List (Str × Addr)) (fp : List Addr) => cG_ok (blk s H C cl fp) n tg
        exact PE.of (pe_lc (te := tG X.K g noW (repE X.K) (cX n (c.blk scope) elt).e) (tt := tG X.K g noW repT (cIfs (fun e => (cX n (c.blk scope) e).t) ifs)) (g := (cG n (c.blk scope) tg).G X.K) (wi := tG X.K g W (repIt X.K) (cI c (fun e => (cX n c e).e) tg it)) f.calm (by rw [f.N]; exact f.nd) (cI_ok f (fun e => (ih e).e) tg it) ok (fun s H C cl fp => (tgk s H C cl fp).1)
          (fun s H C cl fp => cIfs_ok h4 fun e => (cX_ok n _ noW _ (blk s H C cl fp) (noT _ _) e).t) (fun s H C cl fp => (cX_ok n _ noW _ (blk s H C cl fp) (noT _ _) elt).e) (noSet_ok h2)) fun σ H Q q => lcN hks (tgk X.s_0 (fun _ => none) 0 [] []).2 q
      · exact jn_stuck
    · split
      · rename_i hg
        exact jn_comp2 f ih (fun X' W' f' e => cX_ok n X' W' _ f' (fun x h e => by cases e) e) hg
      · exact jn_stuck
    · exact jn_stuck
  · split
    · rename_i x args hc
      obtain ⟨p, pos, rfl⟩ := callOf_eq hc
      split
      · rename_i a
        split
        · rename_i hz
          obtain ⟨h1, h2, rfl, h4⟩ := hz
          have gx := (isG_ok f h1).1
          exact jn_c1 (fun t ha => pe_callTy call_listN gx (f.glo.bl _ (by decide +kernel)) boot_list ha (by decide) (by decide) (star_cons h2) (by rfl)) (ja_cons (mono_B _) (ih _).b ja_nil (star_cons h2))
        · split
          · rename_i hz
            obtain ⟨h1, h2, rfl, h4⟩ := hz
            have gx := (isG_ok f h1).1
            split
            · rename_i d hd
              obtain ⟨p2, pos2, rfl⟩ := dictOf_eq hd
              split
              · rename_i z
                exact jn_sortDict f h1 z.1 z.2 (ih _).b
              · exact jn_stuck
            split
            · rename_i d hd
              obtain ⟨p2, pos2, rfl⟩ := setOf_eq hd
              split
              · rename_i z
                exact jn_sortSet f h1 z.1 z.2 (ih _).b
              · exact jn_stuck
            exact jn_c1 (fun t ha => pe_callB (call_sortN f.un) gx (f.glo.bl _ (by decide +kernel)) boot_sorted ha (by decide) (by decide) (star_cons h2) (by rfl)) (ja_cons (mono_B _) (ih _).b ja_nil (star_cons h2))
          · exact jn_of (ih1 _).e
      · exact jn_of (ih1 _).e
    · exact jn_of (ih1 _).e
end
/-! ### targets that may be places -/
structure TgM where
  G : PySem.W.Frag → Gx → WX → TG
  st : D → MS
structure TgsM where
  G : PySem.W.Frag → Gx → WX → TGs
  st : List D → MS
def TgM.no : TgM := ⟨fun _ _ _ _ _ _ _ => False, tmNone⟩
def cMs (f : Expr → TgM) : List Expr → TgsM
  | [] => ⟨fun _ _ _ => gNil, tmNil⟩
  | e :: es => ⟨fun K g W => gCons ((f e).G K g W) ((cMs f es).G K g W), tmCons (f e).st (cMs f es).st⟩
def cM : Nat → Ct → Expr → TgM
  | 0, _, _ => .no
  | n + 1, c, e => match e with
    | .Name x _ => match locC c x with
      | some i => ⟨fun _ _ _ => gName i, sSet i⟩
      | none => .no
    | .Subscript (.Name x _) ei _ => match slotC c x with
      | some i => if notSl ei = true then ⟨fun K g W => gSub (tVar i) (tG K g W (repE K) (cX n c ei).e) rSetL, sPutV i (cX n c ei).e⟩ else .no
      | none => .no
    | .Tuple es _ _ => if noStar es = true then ⟨fun K g W => gTup K es.length ((cMs (cM n c) es).G K g W), tmTup es.length (cMs (cM n c) es).st⟩ else .no
    | _ => .no
section
variable {X : Cx} {g : Gx} {W : WX} {c : Ct}
theorem cM_ok (f : Fx X g W c) (hT : TOk X g W c) : ∀ (n : Nat) (e : Expr), TgMOk X g W e ((cM n c e).G X.K g W) (cM n c e).st
  | 0, e => tgm_none X g W e
  | n + 1, e => by
    have key : ∀ {es : List Expr}, noStar es = true → TgsMOk X g W es ((cMs (cM n c) es).G X.K g W) (cMs (cM n c) es).st := fun {es} => by
      induction es with
      | nil => exact fun _ => tgsm_nil X g W
      | cons a r ih => exact fun hs => tgsm_cons (cM_ok f hT n a) (ih (noStar_tail hs)) (by rw [asg_cons hs]; rfl)
    unfold cM
    split
    · split
      · exact tgm_name f (by assumption)
      · exact tgm_none X g W _
    · split
      · split
        · exact tgm_sub f (by assumption) (cX_ok n X W c f hT _).e (by assumption)
        · exact tgm_none X g W _
      · exact tgm_none X g W _
    · split
      · rename_i hs
        exact tgm_tup f.calm (key hs) (asg_len hs) (asg_find hs)
      · exact tgm_none X g W _
    · exact tgm_none X g W _
end
end Gl

set_option maxRecDepth 100000
set_option maxHeartbeats 2000000
/-! The general layer, part J: the compiler of statements; what a def promises. -/
namespace Gl
open PySem PySem.Spec PyProof.Rows L2

/-! ### which stores are swapped -/
section
variable {env : Env} {x y z : Str} {px py pz p p2 : Pos} {a b d : Expr} {k k2 : Nat}
theorem swap_not {ts : List Expr} {e : Expr} (h : isTup e = false) : swappedStores [.Tuple ts k p] e env = pure none := by
  cases e <;> first | rfl | cases h
theorem swap_len {ts vs : List Expr} (h : (ts.length == 2 || ts.length == 3) = false) : swappedStores [.Tuple ts k p] (.Tuple vs k2 p2) env = pure none := by
  unfold swappedStores
  simp only [h]
  rfl
theorem noStar_any : ∀ {vs : List Expr}, noStar vs = true → (vs.any fun | .Starred .. => true | _ => false) = false
  | [], _ => rfl
  | v :: vs, h => by
    have h2 := noStar_tail h
    rw [List.any_cons, noStar_any h2]
    cases v <;> first | rfl | (exact absurd h (by simp [noStar]))
end
/-- which names of a tuple of targets count -/
def namesIn (isL : Str → Bool) (line : Nat) (ts : List Expr) : List Str := ts.filterMap fun
  | .Name id pos => if isL id && pos.line == line then some id else none
  | _ => none
/-- what becomes of (..) = (..): none: not served; some none: as any store; some names: the names are stored to -/
def swapOut (isL : Str → Bool) (ts vs : List Expr) : Option (Option (List Str)) :=
  if (!(ts.length == 2 || ts.length == 3) || vs.length != ts.length) = true then some none
  else if noStar vs = false then none
  else if ((namesIn isL ((ts.head?.map (·.pos.line)).getD 0) ts).length != ts.length || (namesIn isL ((ts.head?.map (·.pos.line)).getD 0) ts).eraseDups.length != (namesIn isL ((ts.head?.map (·.pos.line)).getD 0) ts).length) = true then some none
  else if vs.all (foldedForSure 8) = true then some none
  else if vs.all (constantsAlone 8) = true then none
  else some (some (namesIn isL ((ts.head?.map (·.pos.line)).getD 0) ts))
theorem swap_out {isL : Str → Bool} {ts vs : List Expr} {k k2 : Nat} {p p2 : Pos} {env : Env} {r : Option (List Str)} (hk : env.scope.kind = .function) (hl : ∀ x, (env.kindOf x == some .local) = isL x) (h : swapOut isL ts vs = some r) : swappedStores [.Tuple ts k p] (.Tuple vs k2 p2) env = pure r := by
  have hb : env.blockKind = .function := by unfold Env.blockKind; rw [hk]; rfl
  have hn : ∀ line, (ts.filterMap fun | .Name id pos => if env.kindOf id == some .local && pos.line == line then some id else none | _ => none) = namesIn isL line ts := fun line => by
    unfold namesIn
    congr 1
    funext e
    cases e <;> simp only [hl]
  unfold swapOut at h
  unfold swappedStores
  dsimp only
  split at h
  · rename_i h1
    cases h
    refine if_pos ?_
    rw [h1, Bool.true_or]
  · rename_i h1
    have e1 : (!(ts.length == 2 || ts.length == 3) || vs.length != ts.length || env.blockKind != .function) = false := by
      rw [Bool.eq_false_iff.mpr h1, hb]
      rfl
    refine (if_neg (by rw [e1]; exact Bool.false_ne_true)).trans ?_
    split at h
    · cases h
    · rename_i h2
      have e2 := noStar_any (vs := vs) (by simpa using h2)
      refine (if_neg (fun q => ?_)).trans ?_
      · have q' : (vs.any fun | .Starred .. => true | _ => false) = true := q
        rw [e2] at q'
        cases q'
      · have hn := hn ((ts.head?.map (·.pos.line)).getD 0)
        split at h
        · rename_i h3
          cases h
          refine if_pos ?_
          rw [← hn] at h3
          exact h3
        · rename_i h3
          refine (if_neg (by rw [← hn] at h3; exact h3)).trans ?_
          split at h
          · rename_i h4
            cases h
            exact if_pos h4
          · rename_i h4
            refine (if_neg h4).trans ?_
            split at h
            · cases h
            · rename_i h5
              cases h
              refine (if_neg h5).trans ?_
              rw [← hn]
              rfl

/-! ### the compiler of statements -/
def sAll (f : Stmt → MS) : List Stmt → MS
  | [] => sNext
  | s :: r => sSeq (f s) (sAll f r)
def isLoc (c : Ct) (x : Str) : Bool := c.sc.names.lookup x == some .local
def names2 : List Expr → Option (Str × Pos × Str × Pos)
  | [.Name x px, .Name y py] => some (x, px, y, py)
  | _ => none
def two : List Expr → Option (Expr × Expr)
  | [a, b] => some (a, b)
  | _ => none
def tupOf : Expr → Option (List Expr)
  | .Tuple es _ _ => some es
  | _ => none
def names3 : List Expr → Option ((Str × Pos) × (Str × Pos) × (Str × Pos))
  | [.Name x px, .Name y py, .Name z pz] => some ((x, px), (y, py), (z, pz))
  | _ => none
def three : List Expr → Option (Expr × Expr × Expr)
  | [a, b, c] => some (a, b, c)
  | _ => none
theorem names3_eq {ts : List Expr} {x y z : Str} {px py pz : Pos} (h : names3 ts = some ((x, px), (y, py), (z, pz))) : ts = [.Name x px, .Name y py, .Name z pz] := by
  unfold names3 at h
  split at h
  · cases h; rfl
  · cases h
theorem three_eq {vs : List Expr} {a b c : Expr} (h : three vs = some (a, b, c)) : vs = [a, b, c] := by
  unfold three at h
  split at h
  · cases h; rfl
  · cases h
/-- a target without places -/
def plainTg : Expr → Bool
  | .Name .. => true
  | .Tuple es _ _ => es.all fun e => match e with
    | .Name .. => true
    | .Tuple fs _ _ => fs.all fun
      | .Name .. => true
      | _ => false
    | _ => false
  | _ => false
def cGen (n : Nat) (c : Ct) (tg value : Expr) : MS := if plainTg tg = true then sE (cX n c value).e (sStore (cG n c tg).st) else sE (cX n c value).e fun d S => tgO ((cM n c tg).st d S)
def cPar (n : Nat) (c : Ct) (is : List Nat) (vs : List Expr) : MS := if vs.any (isFresh c) = true then sE (mSeqN [] (vs.map (cN n c))) (sParN is) else sE (mSeq (vs.map fun e => (cX n c e).e)) (sPar is)
def cTup2 (n : Nat) (c : Ct) (ts : List Expr) (tg value : Expr) (vs : List Expr) : MS := if swapOut (isLoc c) ts vs = some none then cGen n c tg value else sStuck
/-- a store to a tuple of targets -/
def cTup (n : Nat) (c : Ct) (ts : List Expr) (tg value : Expr) : MS :=
  match tupOf value with
  | none => if notComp value = true then cGen n c tg value else sStuck
  | some vs => match names2 ts, two vs with
    | some (x, _, y, _), some (a, b) => if swapOut (isLoc c) ts vs = some (some [x, y]) ∧ isLoc c x = true ∧ isLoc c y = true ∧ noStar vs = true then (match locC c x, locC c y with
        | some i, some j => if i ≠ j then cPar n c [i, j] [a, b] else sStuck
        | _, _ => sStuck) else cTup2 n c ts tg value vs
    | _, _ => match names3 ts, three vs with
      | some ((x, _), (y, _), (z, _)), some (a, b, d) => if swapOut (isLoc c) ts vs = some (some [x, y, z]) ∧ isLoc c x = true ∧ isLoc c y = true ∧ isLoc c z = true ∧ noStar vs = true then (match locC c x, locC c y, locC c z with
          | some i, some j, some l => if i ≠ j ∧ i ≠ l ∧ j ≠ l then cPar n c [i, j, l] [a, b, d] else sStuck
          | _, _, _ => sStuck) else cTup2 n c ts tg value vs
      | _, _ => cTup2 n c ts tg value vs
/-- where a comprehension's list is put at once -/
def swB (c : Ct) (y : Str) (py : Pos) (e : Expr) : Bool := match e with
  | .ListComp _ _ scope pos => isLoc c y && (py.line == pos.line) && !(scope.names.any fun (n, k) => n == y && (k == .local || k == .cell))
  | _ => false
def lstOf : Expr → Option (List Expr)
  | .List es _ => some es
  | _ => none
theorem lstOf_eq {e : Expr} {es : List Expr} (h : lstOf e = some es) : ∃ p, e = .List es p := by
  unfold lstOf at h
  split at h
  · cases h
    exact ⟨_, rfl⟩
  · cases h
def cAsg (n : Nat) (c : Ct) (tg value : Expr) : MS := match nameOf tg with
  | some x => match locC c x with
    | some i => if notComp value = true then (match lstOf value with
        | some es => if noStar es = true then sOwn i (mSeq (es.map fun e => (cX n c e).e)) else sStuck
        | none => if isFresh c value = true then sE (cN n c value) (sSetV i) else sE (cX n c value).e (sSet i)) else
      (match value with
      | .ListComp .. => sE (cN n c value) (sSetV i)
      | _ => sStuck)
    | none => sStuck
  | none => match tupOf tg with
    | some ts => cTup n c ts tg value
    | none => match subOf tg with
      | some (x, ix) => match slotC c x with
        | some i => if notComp value = true ∧ notSl ix = true then sSub (isOne ix) i (cX n c ix).e (cX n c value).e else sStuck
        | none => sStuck
      | none => sStuck
noncomputable def cS : Nat → Ct → Stmt → MS
  | 0, _, _ => sStuck
  | n + 1, c, st => match st with
    | .Expr e _ => match appOf e with
      | some (x, a, l) => match slotC c x with
        | some i => if l = true ∧ noStar [a] = true then sAppend i (cX n c a).e else sStuck
        | none => sStuck
      | none => if notComp e = true then sE (cX n c e).e (fun _ => sNext) else sStuck
    | .Return v _ => match v with
      | some e => sRet (cX n c e).e
      | none => fun S => .ret .none S
    | .If t a b _ => sIf (cX n c t).t (sAll (cS n c) a) (sAll (cS n c) b)
    | .For tg it body els _ => if els.isEmpty = true ∧ noSet it = true then sFor (cI c (fun e => (cX n c e).e) tg it) (cG n c tg).st (sAll (cS n c) body) else sStuck
    | .While t body els _ => if els.isEmpty = true then sWhile (cX n c t).t (sAll (cS n c) body) else sStuck
    | .Pass _ => sNext
    | .Break _ => fun S => .brk S
    | .Continue _ => fun S => .cont S
    | .Raise ex cause _ => match ex, cause with
      | some e, none => match callOf e with
        | some (x, args) => match args with
          | [a] => if isG c x = true ∧ noStar [a] = true ∧ 2 ≤ c.lv then (match c.xs x with
              | some k => sRaise k (cX n c a).e
              | none => sStuck) else sStuck
          | _ => sStuck
        | none => sStuck
      | _, _ => sStuck
    | .AugAssign tg op e _ => match nameOf tg with
      | some x => match locC c x with
        | some i => sAug op i (cX n c e).e
        | none => sStuck
      | none => match subOf tg with
        | some (x, ix) => match slotC c x with
          | some i => if notSl ix = true then sAugAt op i (cX n c ix).e (cX n c e).e else sStuck
          | none => sStuck
        | none => sStuck
    | .Assign tgs e _ => match tgs with
      | [tg] => cAsg n c tg e
      | _ => sStuck
    | _ => sStuck
structure Fs (X : Cx) (g : Gx) (W : WX) (c : Ct) : Prop where
  fx : Fx X g W c
  told : TOk X g W c
  po : PassesOwn (model X.prog X.w) X.A X.env X.xe
  kind : c.sc.kind = .function
section
variable {X : Cx} {g : Gx} {W : WX} {c : Ct}
theorem sAll_ok {f : Stmt → MS} (h : ∀ s, JS X g W s (f s)) : ∀ l : List Stmt, JSs X g W l (sAll f l)
  | [] => jss_nil
  | s :: r => jss_cons (h s) (sAll_ok h r)
theorem tupOf_eq {e : Expr} {es : List Expr} (h : tupOf e = some es) : ∃ k p, e = .Tuple es k p := by
  unfold tupOf at h
  split at h
  · cases h
    exact ⟨_, _, rfl⟩
  · cases h
theorem names2_eq {ts : List Expr} {x y : Str} {px py : Pos} (h : names2 ts = some (x, px, y, py)) : ts = [.Name x px, .Name y py] := by
  unfold names2 at h
  split at h
  · cases h
    rfl
  · cases h
theorem two_eq {ts : List Expr} {a b : Expr} (h : two ts = some (a, b)) : ts = [a, b] := by
  unfold two at h
  split at h
  · cases h
    rfl
  · cases h
theorem asg1 {tg : Expr} {env : Env} (h : noStar [tg] = true) : (assignEach [tg] env).map (·.2) = [assign tg env] := by
  rw [asg_cons h]
  rfl
theorem cGen_ok (f : Fs X g W c) (n : Nat) {ts : List Expr} {k : Nat} {p pos : Pos} (value : Expr) (hs : swapsWithSole [.Tuple ts k p] value pos.line X.env = pure false) (hw : swappedStores [.Tuple ts k p] value X.env = pure none) : JS X g W (.Assign [.Tuple ts k p] value pos) (cGen n c (.Tuple ts k p) value) := by
  have ih := cX_ok n X W c f.fx f.told
  unfold cGen
  split
  · exact js_asg (cG_ok f.fx n _) (ih _).e hs hw (asg1 rfl)
  · exact js_asgM (cM_ok f.fx f.told n _) (ih _).e hs hw (asg1 rfl)
theorem isLoc_eq (f : Fs X g W c) (z : Str) : (X.env.kindOf z == some .local) = isLoc c z := by
  unfold isLoc Env.kindOf
  rw [f.fx.sc]
theorem cTup2_ok (f : Fs X g W c) (n : Nat) {ts vs : List Expr} {k k2 : Nat} {p p2 pos : Pos} : JS X g W (.Assign [.Tuple ts k p] (.Tuple vs k2 p2) pos) (cTup2 n c ts (.Tuple ts k p) (.Tuple vs k2 p2) vs) := by
  unfold cTup2
  split
  · exact cGen_ok f n _ rfl (swap_out (by rw [f.fx.sc]; exact f.kind) (isLoc_eq f) (by assumption))
  · exact js_stuck
theorem cTup_ok (f : Fs X g W c) (n : Nat) {ts : List Expr} {k : Nat} {p pos : Pos} (value : Expr) : JS X g W (.Assign [.Tuple ts k p] value pos) (cTup n c ts (.Tuple ts k p) value) := by
  have ih := cX_ok n X W c f.fx f.told
  have jn := cN_ok f.fx f.told n
  have loc : ∀ {x : Str}, isLoc c x = true → X.env.scope.names.lookup x = some .local := fun {x} h => by
    rw [f.fx.sc]
    simpa [isLoc] using h
  have hk : X.env.scope.kind = .function := by rw [f.fx.sc]; exact f.kind
  unfold cTup
  split
  · rename_i hv
    split
    · rename_i hn
      refine cGen_ok f n _ (show swapsWith _ (some (.Tuple ts k p)) pos.line X.env = pure false from swaps_no hn) (swap_not ?_)
      cases value <;> first | rfl | cases hv
    · exact js_stuck
  · rename_i vs hv
    obtain ⟨k2, p2, rfl⟩ := tupOf_eq hv
    split
    · rename_i x px y py a b h1 h2
      obtain rfl := names2_eq h1
      obtain rfl := two_eq h2
      split
      · rename_i hz
        obtain ⟨z1, z2, z3, hs⟩ := hz
        split
        · rename_i i j hi hj
          split
          · rename_i hij
            have n1 := (loc_ok hi).1
            have n2 := (loc_ok hj).1
            rw [← f.fx.N] at n1 n2
            have hw := swap_out (k := k) (p := p) (k2 := k2) (p2 := p2) hk (isLoc_eq f) z1
            unfold cPar
            split
            · have pa : PA X [a, b] (tSeqN X.K g W ([a, b].map (cN n c))) := ja_seqN hs (by simp) fun i e m e1 e2 => by
                rw [List.getElem?_map, e1] at e2
                cases e2
                exact jn e
              exact js_parN2 pa (ps_par f.fx.calm (by rw [f.fx.N]; exact f.fx.nd) n1 n2 hij (loc z2) (loc z3) pa hw rfl)
            · have pa : JAe X g W [a, b] (mSeq [(cX n c a).e, (cX n c b).e]) := ja_all (f := fun e => (cX n c e).e) (mono_E _) hs fun e _ => (ih e).e
              exact js_par2 f.fx hi hj hij pa (ps_par f.fx.calm (by rw [f.fx.N]; exact f.fx.nd) n1 n2 hij (loc z2) (loc z3) pa hw rfl)
          · exact js_stuck
        · exact js_stuck
      · exact cTup2_ok f n
    · split
      · rename_i x px y py z pz a b d h1 h2
        obtain rfl := names3_eq h1
        obtain rfl := three_eq h2
        split
        · rename_i hz
          obtain ⟨z1, z2, z3, z4, hs⟩ := hz
          split
          · rename_i i j l hi hj hl
            split
            · rename_i hij
              have m1 := (loc_ok hi).1
              have m2 := (loc_ok hj).1
              have m3 := (loc_ok hl).1
              rw [← f.fx.N] at m1 m2 m3
              have hw := swap_out (k := k) (p := p) (k2 := k2) (p2 := p2) hk (isLoc_eq f) z1
              unfold cPar
              split
              · have pa : PA X [a, b, d] (tSeqN X.K g W ([a, b, d].map (cN n c))) := ja_seqN hs (by simp) fun i e m e1 e2 => by
                  rw [List.getElem?_map, e1] at e2
                  cases e2
                  exact jn e
                exact js_parN3 pa (ps_par3 f.fx.calm (by rw [f.fx.N]; exact f.fx.nd) m1 m2 m3 hij.1 hij.2.1 hij.2.2 (loc z2) (loc z3) (loc z4) pa hw rfl)
              · have pa : JAe X g W [a, b, d] (mSeq [(cX n c a).e, (cX n c b).e, (cX n c d).e]) := ja_all (f := fun e => (cX n c e).e) (mono_E _) hs fun e _ => (ih e).e
                exact js_par3 pa (ps_par3 f.fx.calm (by rw [f.fx.N]; exact f.fx.nd) m1 m2 m3 hij.1 hij.2.1 hij.2.2 (loc z2) (loc z3) (loc z4) pa hw rfl)
            · exact js_stuck
          · exact js_stuck
        · exact cTup2_ok f n
      · exact cTup2_ok f n
/-- name = [.. for ..] -/
theorem sw_lc {elt : Expr} {gens : List Comprehension} {scope : Scope} {pos py : Pos} {y : Str} {l : Nat} (f : Fs X g W c) (h : swB c y py (.ListComp elt gens scope pos) = false) : swapsWith (.ListComp elt gens scope pos) (some (.Name y py)) l X.env = pure false := by
  have hb : X.env.blockKind = .function := by
    unfold Env.blockKind
    rw [f.fx.sc, f.kind]
    rfl
  have hk : X.env.kindOf y = c.sc.names.lookup y := by
    unfold Env.kindOf
    rw [f.fx.sc]
  unfold swB isLoc at h
  unfold swapsWith
  simp only [hb, hk, Expr.pos]
  show pure (_ && _ && _ && _) = pure false
  congr 1
theorem js_lc (f : Fs X g W c) {n : Nat} {x : Str} {i : Nat} {elt : Expr} {gens : List Comprehension} {scope : Scope} {p pos spos : Pos} (hi : locC c x = some i) :
    JS X g W (.Assign [.Name x p] (.ListComp elt gens scope pos) spos) (sE (cN n c (.ListComp elt gens scope pos)) (sSetV i)) := by
  cases hb : swB c x p (.ListComp elt gens scope pos) with
  | false => exact PS.of (ps_asg (cN_ok f.fx f.told n _) (pg_loc f.fx hi) (show swapsWith _ (some (.Name x p)) spos.line X.env = pure false from sw_lc f hb) rfl rfl) fun E σ H ⟨b, F, S, x, q⟩ => bindSN x q fun u S1 v F1 H1 x1 s1 f1 q1 => q1 _ F1 H1 x1.moveN (Same.refl _)
  | true =>
    unfold cN
    dsimp only
    split
    · rename_i gn
      split
      · rename_i hg
        obtain ⟨tg, it, ifs, as⟩ := gn
        unfold genOk at hg
        simp only [Bool.and_eq_true] at hg
        obtain ⟨⟨⟨⟨h1, h2⟩, h3⟩, h4⟩, h5⟩ := hg
        obtain rfl : as = 0 := by simpa using h1
        have ok : BlkOk X.N X.env.scope scope (ownSl c scope) := by
          rw [f.fx.N, f.fx.sc]
          exact blkOk_by h3
        have hks : ∀ k ∈ (cG n (c.blk scope) tg).js, k ∈ (ownSl c scope).map (·.2) := fun k hk => by
          have q := List.all_eq_true.mp h5 k hk
          obtain ⟨p, hp, e⟩ := List.any_eq_true.mp q
          exact List.mem_map.mpr ⟨p, hp, by simpa using e⟩
        have noT : ∀ X' W', TOk X' g W' (c.blk scope) := fun X' W' x h e => by cases e
        have blk := fun s H C cl fp => f.fx.blk s H scope cl C fp
        have tgk := fun (s : Shared) (H : Hp) (C : Addr) (cl : List (Str × Addr)) (fp : List Addr) => cG_ok (blk s H C cl fp) n tg
        unfold swB isLoc at hb
        simp only [Bool.and_eq_true] at hb
        obtain ⟨⟨hb1, hb2⟩, hb3⟩ := hb
        have ly : X.env.scope.names.lookup x = some .local := by
          rw [f.fx.sc]
          simpa using hb1
        have n1 := (loc_ok hi).1
        rw [← f.fx.N] at n1
        refine PS.of (ps_setLc (te := tG X.K g noW (repE X.K) (cX n (c.blk scope) elt).e) (tt := tG X.K g noW repT (cIfs (fun e => (cX n (c.blk scope) e).t) ifs)) (g := (cG n (c.blk scope) tg).G X.K) (wi := tG X.K g W (repIt X.K) (cI c (fun e => (cX n c e).e) tg it)) f.fx.calm (by rw [f.fx.N]; exact f.fx.nd) n1 ly
          (sw_true (by rw [f.fx.sc]; exact f.kind) ly hb2 (by simpa using hb3)) (cI_ok f.fx (fun e => (cX_ok n X W c f.fx f.told e).e) tg it) ok (fun s H C cl fp => (tgk s H C cl fp).1)
          (fun s H C cl fp => cIfs_ok h4 fun e => (cX_ok n _ noW _ (blk s H C cl fp) (noT _ _) e).t) (fun s H C cl fp => (cX_ok n _ noW _ (blk s H C cl fp) (noT _ _) elt).e) (noSet_ok h2)) fun E σ H ⟨b, F, S, x, q⟩ => ?_
        refine lcN (js := freeSl c scope) (mi := cI c (fun e => (cX n c e).e) tg it) (mt := cIfs (fun e => (cX n (c.blk scope) e).t) ifs) (me := (cX n (c.blk scope) elt).e) hks (tgk X.s_0 (fun _ => none) 0 [] []).2 ?_
        exact bindSN x q fun u S1 v F1 H1 x1 s1 f1 q1 => q1 _ F1 H1 x1.moveN (Same.refl _)
      · exact ⟨fun pins s σ H E I ⟨b, F, S, x, q⟩ => q.elim⟩
    · rename_i gn gn1
      split
      · rename_i hg
        obtain ⟨tg, it, ifs, as⟩ := gn
        obtain ⟨tg1, it1, ifs1, as1⟩ := gn1
        unfold gen2Ok genOk at hg
        simp only [Bool.and_eq_true] at hg
        obtain ⟨⟨⟨⟨⟨⟨⟨⟨h1, h2⟩, h3⟩, h4⟩, h5⟩, h6⟩, h7⟩, h8⟩, h9⟩ := hg
        obtain rfl : as = 0 := by simpa using h1
        obtain rfl : as1 = 0 := by simpa using h6
        have ok : BlkOk X.N X.env.scope scope (ownSl c scope) := by
          rw [f.fx.N, f.fx.sc]
          exact blkOk_by h3
        have hk : ∀ {js : List Nat}, (js.all fun j => (ownSl c scope).any fun p => p.2 == j) = true → ∀ k ∈ js, k ∈ (ownSl c scope).map (·.2) := fun {js} h5 k hk => by
          have q := List.all_eq_true.mp h5 k hk
          obtain ⟨p, hp, e⟩ := List.any_eq_true.mp q
          exact List.mem_map.mpr ⟨p, hp, by simpa using e⟩
        have noT : ∀ X' W', TOk X' g W' (c.blk scope) := fun X' W' x h e => by cases e
        have ihB : ∀ (X' : Cx) (W' : WX), Fx X' g W' (c.blk scope) → ∀ e : Expr, OkX X' g W' e (cX n (c.blk scope) e) := fun X' W' f' e => cX_ok n X' W' _ f' (noT _ _) e
        have blk := fun s H C cl fp => f.fx.blk s H scope cl C fp
        have tgk := fun (s : Shared) (H : Hp) (C : Addr) (cl : List (Str × Addr)) (fp : List Addr) (e : Expr) => cG_ok (blk s H C cl fp) n e
        unfold swB isLoc at hb
        simp only [Bool.and_eq_true] at hb
        obtain ⟨⟨hb1, hb2⟩, hb3⟩ := hb
        have ly : X.env.scope.names.lookup x = some .local := by
          rw [f.fx.sc]
          simpa using hb1
        have n1 := (loc_ok hi).1
        rw [← f.fx.N] at n1
        refine PS.of (ps_setLc2 (te := tG X.K g noW (repE X.K) (cX n (c.blk scope) elt).e) (tt := tG X.K g noW repT (cIfs (fun e => (cX n (c.blk scope) e).t) ifs)) (g := (cG n (c.blk scope) tg).G X.K) (wi := tG X.K g W (repIt X.K) (cI c (fun e => (cX n c e).e) tg it))
          (tt1 := tG X.K g noW repT (cIfs (fun e => (cX n (c.blk scope) e).t) ifs1)) (g1 := (cG n (c.blk scope) tg1).G X.K) (wi1 := tG X.K g noW (repIt X.K) (cI (c.blk scope) (fun e => (cX n (c.blk scope) e).e) tg1 it1)) (vs1 := (cG n (c.blk scope) tg1).js)
          f.fx.calm (by rw [f.fx.N]; exact f.fx.nd) n1 ly
          (sw_true (by rw [f.fx.sc]; exact f.kind) ly hb2 (by simpa using hb3)) (cI_ok f.fx (fun e => (cX_ok n X W c f.fx f.told e).e) tg it) ok (hk h9) (fun s H C cl fp => (tgk s H C cl fp tg).1)
          (fun s H C cl fp => cIfs_ok h4 fun e => (ihB _ noW (blk s H C cl fp) e).t) (fun s H C cl fp => cI_ok (blk s H C cl fp) (fun e => (ihB _ noW (blk s H C cl fp) e).e) tg1 it1) (fun s H C cl fp => (tgk s H C cl fp tg1).1)
          (fun s H C cl fp => cIfs_ok h8 fun e => (ihB _ noW (blk s H C cl fp) e).t) (fun s H C cl fp => (ihB _ noW (blk s H C cl fp) elt).e) (noSet_ok h2) (fun env => noSet_ok h7)) fun E σ H ⟨b, F, S, x, q⟩ => ?_
        refine lcN2 (js := freeSl c scope) (mi := cI c (fun e => (cX n c e).e) tg it) (mt := cIfs (fun e => (cX n (c.blk scope) e).t) ifs) (mi1 := cI (c.blk scope) (fun e => (cX n (c.blk scope) e).e) tg1 it1) (mt1 := cIfs (fun e => (cX n (c.blk scope) e).t) ifs1) (me := (cX n (c.blk scope) elt).e) (hk h5) (tgk X.s_0 (fun _ => none) 0 [] [] tg).2 (tgk X.s_0 (fun _ => none) 0 [] [] tg1).2 ?_
        exact bindSN x q fun u S1 v F1 H1 x1 s1 f1 q1 => q1 _ F1 H1 x1.moveN (Same.refl _)
      · exact ⟨fun pins s σ H E I ⟨b, F, S, x, q⟩ => q.elim⟩
    · exact ⟨fun pins s σ H E I ⟨b, F, S, x, q⟩ => q.elim⟩
theorem cAsg_ok (f : Fs X g W c) (n : Nat) (tg value : Expr) {pos : Pos} : JS X g W (.Assign [tg] value pos) (cAsg n c tg value) := by
  unfold cAsg
  split
  · rename_i x hx
    obtain ⟨p, rfl⟩ := nameOf_eq hx
    split
    · rename_i i hi
      split
      · rename_i hn
        split
        · rename_i es hl
          obtain ⟨p2, rfl⟩ := lstOf_eq hl
          split
          · exact js_own f.fx hi (ja_all (mono_E _) (by assumption) fun e _ => (cX_ok n X W c f.fx f.told e).e)
          · exact js_stuck
        · split
          · exact js_setN f.fx hi (cN_ok f.fx f.told n _) hn
          · exact js_set f.fx hi (cX_ok n X W c f.fx f.told _).e hn
      · split
        · exact js_lc f hi
        · exact js_stuck
    · exact js_stuck
  · split
    · rename_i ts ht
      obtain ⟨k, p, rfl⟩ := tupOf_eq ht
      exact cTup_ok f n value
    · split
      · rename_i x ix hs
        obtain ⟨p, pos, rfl⟩ := subOf_eq hs
        split
        · rename_i i hi
          split
          · rename_i hz
            have j2 := fun pos' => js_putAt f.fx (p := p) (pos := pos) (pos' := pos') hi (cX_ok n X W c f.fx f.told ix).e (cX_ok n X W c f.fx f.told value).e hz.1 hz.2
            refine ⟨fun pins s σ H E I ⟨b, F, S, y, q⟩ => ?_⟩
            unfold sSub at q
            split at q
            · split at q
              · rename_i h1
                obtain ⟨j, p2, rfl⟩ := isOne_eq h1
                exact (js_box f.fx hi (cX_ok n X W c f.fx f.told value).e hz.1).run pins s σ H E I ⟨b, F, S, y, q⟩
              · exact q.elim
            · exact (j2 _).run pins s σ H E I ⟨b, F, S, y, q⟩
          · exact js_stuck
        · exact js_stuck
      · exact js_stuck
theorem cS_ok (f : Fs X g W c) : ∀ (n : Nat) (st : Stmt), JS X g W st (cS n c st)
  | 0, _ => js_stuck
  | n + 1, st => by
    have ih := fun l => sAll_ok (cS_ok f n) l
    have ix := cX_ok n X W c f.fx f.told
    unfold cS
    split
    · split
      · rename_i x a l hp
        obtain ⟨p, p2, cpos, rfl, rfl⟩ := appOf_eq hp
        split
        · split
          · rename_i hz
            exact js_append f.fx (by assumption) (ix _).e hz.2 hz.1
          · exact js_stuck
        · exact js_stuck
      · split
        · exact js_expr (ix _).e (by assumption)
        · exact js_stuck
    · split
      · exact js_ret (ix _).e
      · exact js_retN
    · exact js_if (ix _).t (ih _) (ih _)
    · split
      · rename_i tg it body els pos hz
        obtain ⟨h1, h2⟩ := hz
        obtain rfl : els = [] := by simpa using h1
        exact js_for f.po f.fx.calm (cI_ok f.fx (fun e => (ix e).e) tg it) (cG_ok f.fx n tg) (ih body) h2
      · exact js_stuck
    · split
      · rename_i t body els pos h1
        obtain rfl : els = [] := by simpa using h1
        exact js_while f.po (ix t).t (ih body)
      · exact js_stuck
    · exact js_pass
    · exact js_break
    · exact js_continue
    · split
      · split
        · rename_i hc
          obtain ⟨p, pos, rfl⟩ := callOf_eq hc
          split
          · split
            · rename_i hz
              obtain ⟨h1, h2, h3⟩ := hz
              split
              · exact js_raise f.fx h1 (by assumption) h3 h2 (ix _).e
              · exact js_stuck
            · exact js_stuck
          · exact js_stuck
        · exact js_stuck
      · exact js_stuck
    · split
      · rename_i hx
        obtain ⟨p, rfl⟩ := nameOf_eq hx
        split
        · exact js_aug f.fx (by assumption) (ix _).e
        · exact js_stuck
      · split
        · rename_i x i2 hs
          obtain ⟨p, pos, rfl⟩ := subOf_eq hs
          split
          · split
            · exact js_augAt f.fx (by assumption) (ix _).e (ix _).e (by assumption)
            · exact js_stuck
          · exact js_stuck
        · exact js_stuck
    · split
      · exact cAsg_ok f n _ _
      · exact js_stuck
    · exact js_stuck

/-! ### a def keeps its promise -/
def slotA : Arg → DV
  | .d x => .sh x
  | .box => .bx
def fmOf (n N : Nat) (m : MS) : FM := fun as bx => if as.length = n then (match m ⟨as.map slotA ++ List.replicate (N - n) DV.un, bx⟩ with
  | .next S => .ret .none S.bx
  | .ret d S => .ret d S.bx
  | .exc c d b => .exc c d b
  | _ => .stuck) else .stuck
theorem SR.enter {K : PySem.W.Frag} {b : Bs} {H : Hp} {bx : Bx} {vs : List V} {as : List Arg} {N : List Str} (x : SR K g b b.F0 ⟨[], bx⟩ [] H) (r : repL (repA K) b b.F0 H vs as) : SR K g b b.F0 ⟨as.map slotA ++ List.replicate (N.length - as.length) DV.un, bx⟩ (L2.start N vs) H where
  len := by
    show (as.map slotA ++ List.replicate (N.length - as.length) DV.un).length = (L2.start N vs).length
    unfold L2.start
    rw [List.length_append, List.length_append, List.length_map, List.length_map, List.length_replicate, List.length_replicate, r.1]
  ff := x.ff
  f0 := x.f0
  fn := x.fn
  nt := x.nt
  ext := x.ext
  slot i u y e1 e2 := by
    by_cases hi : i < as.length
    · have e1 : (as.map slotA ++ List.replicate (N.length - as.length) DV.un)[i]? = some u := e1
      rw [List.getElem?_append_left (by simpa using hi), List.getElem?_map] at e1
      unfold L2.start at e2
      rw [List.getElem?_append_left (by rw [List.length_map, r.1]; exact hi), List.getElem?_map] at e2
      cases ea : as[i]? with
      | none => rw [ea] at e1; cases e1
      | some a =>
        cases ev : vs[i]? with
        | none => rw [ev] at e2; cases e2
        | some v =>
          rw [ea] at e1
          rw [ev] at e2
          cases e1
          cases e2
          have q := r.2 i v a ev ea
          cases a with
          | d z => exact ⟨v, rfl, q⟩
          | box => exact ⟨q.1, by rw [q.2]⟩
    · have e1 : (as.map slotA ++ List.replicate (N.length - as.length) DV.un)[i]? = some u := e1
      rw [List.getElem?_append_right (by rw [List.length_map]; omega), List.getElem?_replicate] at e1
      split at e1
      · cases e1
        trivial
      · cases e1
  dist i j d e y _ h := by
    have h : (as.map slotA ++ List.replicate (N.length - as.length) DV.un)[i]? = some (.ow d) := h
    by_cases hi : i < as.length
    · rw [List.getElem?_append_left (by simpa using hi), List.getElem?_map] at h
      cases ea : as[i]? with
      | none => rw [ea] at h; cases h
      | some a => rw [ea] at h; cases a <;> cases h
    · rw [List.getElem?_append_right (by rw [List.length_map]; omega), List.getElem?_replicate] at h
      split at h <;> cases h
  box := x.box
  tabs := x.tabs
theorem fnG_of {P : Program} {w : World} {K : PySem.W.Frag} {mg : Str → Option Value} {base : Heap} {k : Nat} {gr : Bool} {f : Addr} {name qual : Str} {params : Arguments} {body : List Stmt} {scope : Scope} {dV kV doc pm cdv ct oc : Value} {an od : Option Addr}
    {osl : Array (Option Value)} {N ps : List Str} {m : MS} (lk : K.lookup f = some ⟨oc, od, .func (PySem.W.fnOf name qual params body scope dV kV doc pm an cdv ct), osl⟩) (hcd : PySem.W.codeIn K cdv qual = true) (S : FnScope N ps scope)
    (hb : ∀ us : List Value, us.length = ps.length → bindArgs (PySem.W.fnOf name qual params body scope dV kV doc pm an cdv ct) ⟨us, []⟩ = pure (ps.zip us))
    (hbody : ∀ (A : Around) (outer : List Env) (s : Shared) (H : Hp) (E : XK), Room k (A.deeper (envOfC qual scope s.heap.objs.size f cdv)) → (gr = true → A.guards = some []) →
      JSs (cxOf (L2.CX P w) P w K mg base N qual scope f cdv A outer s H E) g (fun cls d _ H => E cls d H) body m) :
    FnG P w K mg base g (k + 1) gr f ps.length (fmOf ps.length N.length m) := by
  refine ⟨fun A outer s H us vs Q E hr hgd e0 r sp => ?_⟩
  obtain ⟨hl, b, as, bx, hH, x, ra, hm⟩ := sp
  refine LamX.run_ofS (N := N) (ps := ps) (us := us) (vs := vs) lk hcd S hr e0 (.of_eq (hb us (by rw [← r.length]; exact hl))) r hl fun hr' => ⟨_, hbody A outer s H E hr' hgd, ?_⟩
  have hal : as.length = ps.length := ra.1.symm.trans hl
  refine ⟨b, b.F0, _, x.enter ra, ?_⟩
  unfold fmOf at hm
  rw [if_pos hal, ← hal] at hm
  cases em : m ⟨as.map slotA ++ List.replicate (N.length - as.length) DV.un, bx⟩ with
  | next S' =>
    rw [em] at hm
    exact fun σ' F' H' x' _ => hm .non F' H' x'.forget .non
  | ret d S' =>
    rw [em] at hm
    exact fun v F' H' x' _ r' => hm v F' H' x' r'
  | exc n d bx' =>
    rw [em] at hm
    exact fun σ a C fl v F' H' hc x' e' r' => hm a C fl v F' H' hc x' e' r'
  | brk S' => rw [em] at hm; exact hm.elim
  | cont S' => rw [em] at hm; exact hm.elim
  | stuck => rw [em] at hm; exact hm
end
end Gl

set_option maxRecDepth 100000
set_option maxHeartbeats 1000000
/-! The general layer, part K: an own error, class E(B) with B(ValueError): its making. -/
namespace Gl
open PySem PySem.W PySem.Calls PyProof.Rows PySem.HandSPX
/-- def __init__(self, f): super().__init__(f); self.f = f -/
def xA (f : Str) (p1 p2 : Pos) : Arguments := { posonlyargs := [], args := [{ arg := "self", annotation := none, pos := p1 }, { arg := f, annotation := none, pos := p2 }], vararg := none, kwonlyargs := [], kw_defaults := [], kwarg := none, defaults := [] }
def xB (f : Str) (q1 q2 q3 q4 q5 q6 q7 q8 q9 q10 : Pos) : List Stmt :=
  [.Expr (.Call (.Attribute (.Call (.Name "super" q1) [] [] q2) "__init__" q3) [.Name f q4] [] q5) q6, .Assign [.Attribute (.Name "self" q7) f q8] (.Name f q9) q10]
def xS (f : Str) : Scope := { kind := .function, names := [("self", .local), (f, .local), ("__class__", .free), ("super", .globalImplicit)], isGenerator := false, isCoroutine := false, more := [] }
/-- what the written part says of the class at C -/
structure XTxt (P : Program) (K : Frag) (mg : Str → Option Value) (nm f : Str) (C fI : Addr) : Prop where
  gC : mg nm = some (.ref C)
  gS : mg "super" = none
  cls : ∃ nm q N bs bm sn sub ab col dd k0 k1 k2 k3 k5, K.lookup C = some (excClassObj nm q C N bs bm true sn sub ab col dd k0 k1 k2 k3 k5 "ValueError.__new__") ∧ refsVE bm = true
  sup : ks_superIn K C C "__init__" = some (some (.builtin "ValueError.__init__"))
  sa : findIn K (.ref C) "__setattr__" = some (some (.builtin "object.__setattr__"))
  noN : findIn K (.ref C) f = some none
  iC : findIn K (.ref C) "__init__" = some (some (.ref fI))
  tC : typeIn K (.ref fI) = some (.type "function")
  kC : keepIn K (.ref C) = true
  exC : subIn K (.ref C) (.type "BaseException") = some true
  veC : subIn K (.ref C) (.type "ValueError") = some true
  ccC : subIn K (.ref C) (.ref C) = some true
  tyC : typeIn K (.ref C) = some (.type "type")
  opq : nsIn K cStatics "thirdparty.any" = some none
  top : (P.main.scope.names.lookup ("super" : Str)).isSome = false
  fok : f ≠ "self" ∧ (f == ("__debug__" : Str)) = false ∧ f ≠ "__class__" ∧ f ≠ "super"
  fn : ∃ (oc : Value) (od : Option Addr) (osl : Array (Option Value)) (nm q : Str) (p1 p2 q1 q2 q3 q4 q5 q6 q7 q8 q9 q10 : Pos) (cc : Addr) (dV kV doc pm : Value) (an : Option Addr) (cda : Addr) (ct : Value) (occ : Obj) (oco : Obj) (vs : Array Value) (file : Str) (tf : Tok),
    K.lookup fI = some ⟨oc, od, .func ⟨nm, q, xA f p1 p2, .stmts (xB f q1 q2 q3 q4 q5 q6 q7 q8 q9 q10), xS f, mainGlobals, [("__class__", cc)], dV, kV, doc, pm, an, .ref cda, ct, builtinsNs⟩, osl⟩ ∧
    codeIn K (.ref cda) q = true ∧ K.lookup cc = some occ ∧ occ.data = .cell (some (.ref C)) ∧ K.lookup cda = some oco ∧ oco.data = .fields vs ∧ vs[2]? = some (.str file tf) ∧ (P.main.file == file) = true ∧ (q3.endLine == q5.line) = true ∧
    ∀ a v : Value, bindArgs ⟨nm, q, xA f p1 p2, .stmts (xB f q1 q2 q3 q4 q5 q6 q7 q8 q9 q10), xS f, mainGlobals, [("__class__", cc)], dV, kV, doc, pm, an, .ref cda, ct, builtinsNs⟩ ⟨[a, v], []⟩ = pure [(("self" : Str), a), (f, v)]
/-- what __init__ leaves of a fresh error at x -/
structure XEnd (h h' : Heap) (x C dx t1 : Addr) (f : Str) (v : Value) : Prop where
  keep : ∀ b o, b ≠ x → h.get? b = some o → h'.get? b = some o
  obj : h'.get? x = some { cls := .ref C, dict := some dx, data := .fields #[.ref t1, .none, .none, .none, .bool false, .none] }
  dbig : h.objs.size ≤ dx
  dne : dx ≠ x
  ns : h'.Ns1 dx (fun y => if y = f then some v else none)
section
variable {prog : Program} {w : World} {A : Around} {E : Value → Shared → Prop} {R : Result → Shared → Prop} {s : Shared} {K : Frag} {mg : Str → Option Value} {C fI : Addr} {nm f : Str}
theorem ldE {M : Model} {env : Env} {m : Str → Option Value} {x : Str} {pos : Pos} {v : Value} {Q : Value → Shared → Prop} (hn : s.heap.Ns env.locals m) (hv : m x = some v) (h : Q v s)
    (hk : env.scope.kind = .function) (hl : env.kindOf x = some .local) (hd : (x == ("__debug__" : Str)) = false) : wpAny M A (eval (.Name x pos) env) Q E s := wpAny_Name (wpAny_loadName_local hk hl hn hv h) hd
/-- the wrapper of ValueError.__init__ is called -/
theorem x_bound {u e t0 : Addr} {rest : List Value} {Q : Value → Shared → Prop} {h : Heap} {g : Array GenState} {d : Drawn} {t : Nat} {os : OsState} {nm q : Str} {N : Addr} {bs bm : List Value} {hdct : Bool} {sn : List Str} {sub : List Value} {ab : Bool} {col : Option Bool} {dd : Option Addr} {k0 k1 k2 k3 k5 : Option Value}
    (hC : h.get? C = some (excClassObj nm q C N bs bm hdct sn sub ab col dd k0 k1 k2 k3 k5 "ValueError.__new__")) (he : h.get? e = some (excO C t0)) (hu : h.get? u = some (kxs_mw "ValueError.__init__" e)) (hz : rest.length ≤ sizeLine)
    (hq : ∀ h' t1, (∀ b o, b ≠ e → h.get? b = some o → h'.get? b = some o) → h'.get? e = some (excO C t1) → Q .none ⟨h', g, d, t, os⟩) : wpAny (model prog w) A (call (.ref u) rest) Q E ⟨h, g, d, t, os⟩ := by
  have FB := F.excBase_ValueError
  refine wpAny_call (codeAny_of_tree ?_)
  show wpAny _ A.in1 (callAny (.ref u) ⟨rest, []⟩) _ _ _
  simp only [callAny]
  refine wpAny_bind (wpAny_load hu ?_)
  have two : (Value.type "method-wrapper" == Value.type "method" || Value.type "method-wrapper" == Value.type "builtin_function_or_method" || Value.type "method-wrapper" == Value.type "method-wrapper") = true := by decide
  simp only [kxs_mw, two, if_true]
  refine KFB.if_so (by decide) (wpAny_bind (check_bound_init FB.toExcCallFacts hC he rfl ?_))
  refine wpAny_bind (wpAny_pure (wpAny_pure ⟨plainId_quiet FB.init.plain _, codeAny_builtin FB.initEntry ?_⟩))
  exact exc_init_tree (cls := .ref C) (t0 := t0) (dv := none) (c2 := .none) (c3 := .none) (b4 := .bool false) he hz fun h' k e' _ => hq h' _ k e'
theorem x_init (T : XTxt prog K mg nm f C fI) {x t0 : Addr} {v : Value} (X : K.In s.heap) (hg : s.heap.Ns mainGlobals mg) (hb : ∃ mb, s.heap.Ns builtinsNs mb ∧ ∀ x : Str, x ≠ "__name__" → mb x = bootBuiltins x) (hlim : s.heap.NoLimit) (hx : s.heap.get? x = some (excO C t0)) (hnx : K.lookup x = none) (hroom : A.depth < recursionLimit)
    (hq : ∀ h' tk dx t1, XEnd s.heap h' x C dx t1 f v → R (.ok (.ret .none)) { s with heap := h', toks := tk }) : codeAny (model prog w) A (.call (.ref fI) ⟨[.ref x, v], []⟩) R s := by
  obtain ⟨oc, od, osl, nm', qn, p1, p2, q1, q2, q3, q4, q5, q6, q7, q8, q9, q10, cc, dV, kV, doc, pm, an, cda, ct, occ, oco, vs, file, tf, ho, hcd, hcc, hccd, hco, hcod, hvs, hfile, hln, hbi⟩ := T.fn
  obtain ⟨cn, cq, N, bs, bm, sn, sub, ab, col, dd, k0, k1, k2, k3, k5, hC, hbm⟩ := T.cls
  obtain ⟨f1, f2, f3, f4⟩ := T.fok
  have hcl : clsIn K C = some { name := cn, bases := bs, mro := .ref C :: bm, ns := N, qualname := cq, hasDict := true, slotNames := sn, subclasses := sub, abstract := ab, collection := col, hasDel := false } := by unfold clsIn; rw [hC] <;> rfl
  have lkf : (xS f).names.lookup f = some .local := by
    have z1 : (f == ("self" : Str)) = false := by simpa using f1
    simp [xS, List.lookup_cons, z1]
  refine ks_codeAny_call_defAt (binds := [("self", .ref x), (f, v)]) hroom (X _ _ ho) rfl hlim (codeRec_of X hcd) rfl (BindsTo.of_eq (hbi _ _)) ?_ ?_ fun h₁ hn kp => ?_
  · intro y hy
    have hy : y ∈ (xS f).names := hy
    simp only [xS, List.mem_cons, List.not_mem_nil, or_false] at hy
    rcases hy with rfl | rfl | rfl | rfl <;> exact fun z => by cases z
  · intro y hy
    have hy : y ∈ [(("self" : Str), Value.ref x), (f, v)] := hy
    simp only [List.mem_cons, List.not_mem_nil, or_false] at hy
    rcases hy with rfl | rfl
    · rfl
    · exact lkf
  generalize henv : callEnv _ s.heap.objs.size fI = env
  have esc : env.scope = xS f := by rw [← henv]; rfl
  have ecl : env.cells = [(("__class__" : Str), cc)] := by rw [← henv]; rfl
  have elo : env.locals = s.heap.objs.size := by rw [← henv]; rfl
  have eco : env.code = .ref cda := by rw [← henv]; rfl
  have efu : env.func = some fI := by rw [← henv]; rfl
  have egl : env.globals = mainGlobals := by rw [← henv]; rfl
  have ebl : env.builtins = builtinsNs := by rw [← henv]; rfl
  have ek : env.scope.kind = .function := by rw [esc]; rfl
  have kS : env.kindOf "super" = some .globalImplicit := by
    have z1 : (("super" : Str) == f) = false := by simpa using (fun z => f4 z.symm)
    unfold Env.kindOf
    rw [esc]
    simp only [xS, List.lookup_cons, z1]
    rfl
  have kc : env.kindOf "__class__" = some .free := by
    have z1 : (("__class__" : Str) == f) = false := by simpa using (fun z => f3 z.symm)
    unfold Env.kindOf
    rw [esc]
    simp only [xS, List.lookup_cons, z1]
    rfl
  have kf : env.kindOf f = some .local := by
    unfold Env.kindOf
    rw [esc]
    exact lkf
  have ks : env.kindOf "self" = some .local := by
    unfold Env.kindOf
    rw [esc]
    rfl
  have X1 : K.In h₁ := X.keeps kp
  have hx1 := kp _ _ hx
  obtain ⟨mb, hb1, hb2⟩ := hb
  have ms : (fun y => List.lookup y [(("self" : Str), Value.ref x), (f, v)].reverse) "self" = some (.ref x) := by
    have z1 : (("self" : Str) == f) = false := by simpa using (fun z => f1 z.symm)
    simp [List.lookup_cons, z1]
  have mf : (fun y => List.lookup y [(("self" : Str), Value.ref x), (f, v)].reverse) f = some v := by
    simp [List.lookup_cons]
  rw [← elo] at hn
  have xC : x ≠ C := fun z => by
    rw [z, hC] at hnx
    cases hnx
  -- super().__init__(f)
  have he : eval (.Call (.Attribute (.Call (.Name "super" q1) [] [] q2) "__init__" q3) [.Name f q4] [] q5) env = (do
      let ov ← attributeBase (.Call (.Name "super" q1) [] [] q2) "__init__" env (eval (.Call (.Name "super" q1) [] [] q2) env)
      standAt q3.atName
      let (f1, first) ← holding [ov] (getMethod ov "__init__" (do return (← importBound (.Call (.Name "super" q1) [] [] q2) env).getD true))
      callWith q5 f1 first (backTo q5 (starEach [.Name f q4] env)) []) := by
    have e1 : methodCallPos (methodCallForm 1 (backTo q5 (starEach [.Name f q4] env)) []) (.Call (.Name "super" q1) [] [] q2) env q3 q5 = pure q5 := by
      unfold methodCallPos
      rw [if_pos (by rw [hln]; simp)]
    show (attributeBase (.Call (.Name "super" q1) [] [] q2) "__init__" env (eval (.Call (.Name "super" q1) [] [] q2) env) >>= fun ov => standAt q3.atName >>= fun _ => methodCall (.Call (.Name "super" q1) [] [] q2) "__init__" q3 q5 env ov 1 (backTo q5 (starEach [.Name f q4] env)) []) = _
    unfold methodCall
    rw [e1]
    rfl
  refine ks_wpAt_execs_cons (ks_wpAt_Expr_any (ks_wpAt_MethodCall (ks_wpAt_super_base kS kc (by decide) efu (X1 _ _ ho) rfl rfl eco (X1 _ _ hco) hcod hvs hfile T.top ?_) he) (by simp [interactive, ek]) rfl)
  have ldS : ∀ {Q : Value → Shared → Prop} {E : Value → Shared → Prop} {A : Around} {s' : Shared}, (∀ b o, s.heap.get? b = some o → s'.heap.get? b = some o) → Q (.type "super") s' → wpAny (model prog w) A (loadName env "super") Q E s' := fun {Q E A s'} kk q => by
    unfold loadName
    simp only [Env.blockKind, ek, kS, ScopeKind.isAnnotationScope, Bool.false_and, Bool.false_eq_true, if_false]
    exact loadGlobal_builtin (by rw [egl]; exact hg.keeps kk) T.gS (by rw [ebl]; exact hb1.keeps kk) ((hb2 "super" (by decide)).trans (by decide +kernel)) q
  refine ldS kp ⟨rfl, ?_⟩
  refine wpAny_loadName_free ek kc (by rw [ecl]; rfl) ⟨occ, X1 _ _ hcc, hccd⟩ ?_ (by decide)
  refine wpAny_loadName_local ek ks hn ms ?_
  obtain ⟨hp, gg, dd2, tt, oos⟩ := s
  refine ks_wpAny_isType_cls (X1 _ _ hC) rfl ⟨rfl, ?_⟩
  have sub1 : Looks (model prog w) h₁ (isSubtype (.ref C) (.ref C)) true := looks_subIn X1 T.ccC
  refine ks_wpAny_call_super (X1 _ _ hC) rfl hx1 rfl (fun c z => by cases z) sub1 fun h2 hso k2 => ?_
  have X2 := X1.keeps k2
  have hx2 := k2 _ _ hx1
  have sup := T.sup
  unfold ks_superIn at sup
  rw [hcl] at sup
  have I2 : InstAt h2 x (excO C t0) C none := ⟨hx2, rfl, rfl, trivial⟩
  have hin : Looks (model prog w) h2 (isInstance (.ref x) (.type "ValueError")) true := I2.type.andThen (looks_subIn X2 T.veC)
  refine kxs_getMethod kxs_ValueError hso (looks_opaque X2 T.opq) (l₀ := .ref C :: bm) (fun A Q E s k q => wpAny_bind ((looks_clsIn X2 hcl) A _ E s k (wpAny_pure q))) rfl X2 sup hin xC (by decide) ?_
  have k3 : ∀ b o, h2.get? b = some o → (h2.push (kxs_mw "ValueError.__init__" x)).get? b = some o := fun b o e => Heap.get?_push_of_some _ e
  have X3 := X2.keeps k3
  have hx3 := k3 _ _ hx2
  have hn3 : (h2.push (kxs_mw "ValueError.__init__" x)).Ns env.locals (fun y => List.lookup y [(("self" : Str), Value.ref x), (f, v)].reverse) := (hn.keeps k2).keeps k3
  refine kxs_callWith (i := "ValueError.__init__") (x := x) (by rfl) (evalArgs_plain ?_)
  refine Calls.spliced_cons (ldE hn3 mf (Calls.spliced_nil ⟨Heap.get?_push_size _ rfl, ?_⟩) ek kf f2)
  refine x_bound (X3 _ _ hC) hx3 (Heap.get?_push_size _ rfl) (show 1 ≤ sizeLine by rw [sizeLine_eq]; decide) fun h4 t1 k4 hx4 => ?_
  -- self.f = f
  have X4 : K.In h4 := fun b o e => k4 b o (fun z => by rw [z, hnx] at e; cases e) (X3 b o e)
  have neL : env.locals ≠ x := by
    rw [elo]
    exact Nat.ne_of_gt (Heap.lt_size hx)
  have hn4 : h4.Ns env.locals (fun y => List.lookup y [(("self" : Str), Value.ref x), (f, v)].reverse) := hn3.at fun o e => k4 _ _ neL e
  refine ks_wpAt_execs_cons (wpAt_of_wpAny (plainObj_wpAny_Assign_Attribute ?_))
  refine ldE hn4 mf (ldE hn4 ms ?_ ek ks (by decide)) ek kf f2
  refine set_plain X4 (ox := excO C t1) (od := none) ⟨hx4, rfl, rfl, trivial⟩ T.sa ?_
  refine exc_osa X4 hx4 hcl (show refsVE (.ref C :: bm) = true from hbm) rfl T.noN (fun h5 tk5 dx k5' dn dne hx5 hn5 => ?_)
  have old : ∀ b o, b ≠ x → hp.get? b = some o → h5.get? b = some o := fun b o nb e => k5' b o nb (k4 b o nb (k3 b o (k2 b o (kp b o e))))
  refine wpAt_of_wpAny (wpAny_execs_nil (hq h5 tk5 dx t1 ⟨old, hx5, ?_, dne, hn5⟩))
  have dn' : h4.objs.size ≤ dx := dn
  show hp.objs.size ≤ dx
  have z1 : hp.objs.size ≤ h₁.objs.size := by
    have z0 := hn.lt
    rw [elo] at z0
    exact Nat.le_of_lt z0
  have z2 : h₁.objs.size ≤ h2.objs.size := Nat.le_of_lt (Heap.lt_size hso)
  have z3 : h2.objs.size ≤ h4.objs.size := by
    have e := k4 h2.objs.size _ (fun z => by
      have := Heap.lt_size hx2
      rw [← z] at this
      exact absurd this (Nat.lt_irrefl _)) (Heap.get?_push_size _ rfl)
    exact Nat.le_of_lt (Heap.lt_size e)
  omega
/-- the class called: a new error with its dict -/
structure XMade (h h' : Heap) (e C d : Addr) (f : Str) (v : Value) : Prop where
  keep : ∀ b o, h.get? b = some o → h'.get? b = some o
  new : h.objs.size ≤ e
  obj : ∃ oe vs, h'.get? e = some oe ∧ oe.cls = .ref C ∧ oe.dict = some d ∧ oe.data = .fields vs ∧ vs[1]? = some .none
  dbig : h.objs.size ≤ d
  dne : d ≠ e
  ns : h'.Ns1 d (fun y => if y = f then some v else none)
theorem x_made (T : XTxt prog K mg nm f C fI) {v : Value} (X : K.In s.heap) (hg : s.heap.Ns mainGlobals mg) (hb : ∃ mb, s.heap.Ns builtinsNs mb ∧ ∀ x : Str, x ≠ "__name__" → mb x = bootBuiltins x) (hlim : s.heap.NoLimit) (hroom : A.depth + 1 < recursionLimit)
    (hq : ∀ h' tk e d, XMade s.heap h' e C d f v → R (.ok (.ret (.ref e))) { s with heap := h', toks := tk }) : codeAny (model prog w) A (.call (.ref C) ⟨[v], []⟩) R s := by
  obtain ⟨cn, cq, N, bs, bm, sn, sub, ab, col, dd, k0, k1, k2, k3, k5, hC, hbm⟩ := T.cls
  obtain ⟨hp, gg, dr, tk, os⟩ := s
  generalize eP : (hp.push (kdv_tup [v])).push (excO C hp.objs.size) = hP
  have kP : ∀ b o, hp.get? b = some o → hP.get? b = some o := fun b o e => by
    rw [← eP]
    exact Heap.get?_push_of_some _ (Heap.get?_push_of_some _ e)
  have xP : hP.get? (hp.objs.size + 1) = some (excO C hp.objs.size) := by
    rw [← eP]
    heap_get
  have nK : K.lookup (hp.objs.size + 1) = none := by
    cases e : K.lookup (hp.objs.size + 1) with
    | none => rfl
    | some o => exact absurd (Nat.lt_of_succ_lt (Heap.lt_size (show hp.get? (hp.objs.size + 1) = some o from X _ _ e))) (Nat.lt_irrefl _)
  have sP : hP.objs.size = hp.objs.size + 1 + 1 := by
    rw [← eP, Heap.size_push, Heap.size_push]
  refine call_own F.excBase_ValueError (fun Y => refsVE_contains Y bm hbm) (X _ _ hC) (looks_findIn X T.iC) (fun self => bind_fn X self T.tC) (show 1 ≤ sizeLine by rw [sizeLine_eq]; decide) ?_
  rw [eP]
  obtain ⟨mb, b1, b2⟩ := hb
  refine x_init (s := ⟨hP, gg, dr, tk, os⟩) T (X.keeps kP) (hg.keeps kP) ⟨mb, b1.keeps kP, b2⟩ (hlim.keeps kP) xP nK (show A.depth + 1 < recursionLimit from hroom) fun h' tk' dx t1 Z => ?_
  have old : ∀ b o, hp.get? b = some o → h'.get? b = some o := fun b o e => Z.keep b o (Nat.ne_of_lt (Nat.lt_succ_of_lt (Heap.lt_size e))) (kP b o e)
  have big := Z.dbig
  have big' : hP.objs.size ≤ dx := big
  exact ⟨rfl, hq h' tk' (hp.objs.size + 1) dx ⟨old, Nat.le_succ _, ⟨_, _, Z.obj, rfl, rfl, rfl, rfl⟩, by show hp.objs.size ≤ dx; omega, Z.dne, Z.ns⟩⟩
end
end Gl
namespace Gl
open PySem PySem.Spec PyProof.Rows L2
theorem relO_f {f : Str} {v : V} {u : Value} (r : RelV v u) (y : Str) : RelO (List.lookup y [(f, v)]) (if y = f then some u else none) := by
  by_cases e : y = f
  · subst e
    rw [if_pos rfl]
    have z : List.lookup y [(y, v)] = some v := by simp [List.lookup_cons]
    rw [z]
    exact r
  · rw [if_neg e]
    have z0 : (y == f) = false := by simpa using e
    have z : List.lookup y [(f, v)] = none := by simp [List.lookup_cons, z0]
    rw [z]
    trivial
theorem exG_of {P : Program} {w : World} {K : PySem.W.Frag} {mg : Str → Option Value} {base : Heap} {g : Gx} {k n : Nat} {x f : Str} {C fI : Addr} (T : XTxt P K mg x f C fI) (hn : g.cl n = some (C, f)) (hx : (x == ("__debug__" : Str)) = false) : ExG P w K mg base g (k + 1) x n := by
  refine ⟨C, f, hn, fun X te e p pos hP hw hK hm hb hr hg he hs hp => ?_⟩
  subst hP hw hK hm hb
  intro pins s σ H Q I h
  refine wpAny_Call_Name_kw (ld_glob I hg T.gC ?_ hx)
  refine PySem.W.callWith_K (h₀ := X.base) I.ok.mod.kin T.kC ?_ hs hp
  rw [hs]
  show wpAny _ _ (spliced ((false, eval e X.env) :: backTo pos (starEach [] X.env))) _ _ s
  refine Calls.spliced_cons (thn (he.run pins s σ H _ I h) fun u s1 ⟨v, H1, I1, r1, q1⟩ => Calls.spliced_nil ⟨I1.kIn, ?_⟩)
  show wpAny _ _ (call (.ref C) [u]) _ _ _
  have lim := I1.nolimit
  have ns1 : s1.heap.Ns mainGlobals X.mg := I1.mod.glob.keeps I1.bk
  obtain ⟨mb, b1, b2⟩ := I1.mod.blt
  have bl1 : ∃ mb, s1.heap.Ns builtinsNs mb ∧ ∀ x : Str, x ≠ "__name__" → mb x = bootBuiltins x := ⟨mb, b1.keeps I1.bk, b2⟩
  have kin1 := I1.kIn
  obtain ⟨hp, gg, dr, tk, os⟩ := s1
  refine wpAny_call (x_made T kin1 ns1 bl1 lim (by have := hr.dp; omega) fun h' tk' a d M => ?_)
  obtain ⟨oe, fv, hoe, hc, hd, hdat, h1⟩ := M.obj
  obtain ⟨G, g1, g2⟩ := restrict h' fun b => decide (b ≠ a)
  have gk : ∀ b, b ≠ a → G.get? b = h'.get? b := fun b hb => g1 b (decide_eq_true hb)
  have ga : G.get? a = none := g2 a (by simp)
  have old : ∀ b o, hp.get? b = some o → G.get? b = some o := fun b o z => (gk b (Nat.ne_of_lt (Nat.lt_of_lt_of_le (Heap.lt_size z) M.new))).trans (M.keep b o z)
  have ob : ObjOk X.prog X.w (upd H1 d (.xd [(f, v)])) G d (.xd [(f, v)]) := ⟨_, M.ns.at (fun o z => (gk d M.dne).trans z), fun y => relO_f r1 y⟩
  have J : L2.Inv X pins σ (upd H1 d (.xd [(f, v)])) ⟨G, gg, dr, tk', os⟩ := I1.laid (t' := tk') old M.dbig ob
  refine ⟨a, oe, fv, ⟨G, gg, dr, tk', os⟩, _, .ref C, some d, rfl, J, fun b o z => ?_, ga, hoe, ⟨hc, hd⟩, hdat, h1, ?_, rfl, I1.bare, raises_own T.exC T.tyC, q1 d (I1.hok.fresh M.dbig)⟩
  · by_cases e1 : b = a
    · have z' : G.get? b = some o := z
      rw [e1, ga] at z'
      cases z'
    · exact (gk b e1).symm.trans z
  · rw [upd_ne (Ne.symm M.dne)]
    exact I1.hok.fresh M.new
end Gl

set_option maxRecDepth 100000
set_option maxHeartbeats 1000000
/-! The general layer, part L: try with several clauses `except X as n`; lambdas that are told. -/
namespace Gl
open PySem PySem.Spec PyProof.Rows L2
/-- behind the suite the name is gone -/
abbrev Ends.gone (E : Ends) (i : Nat) : Ends := { nx := fun σ' H' => E.nx (σ'.set i none) H', rt := E.rt, bk := fun σ' H' => E.bk (σ'.set i none) H', ct := fun σ' H' => E.ct (σ'.set i none) H' }
def wManyA (K : PySem.W.Frag) (i : Nat) (Wo : WX) (E : Ends) : List (Value × (Addr → Value → Option Addr → TS)) → WX
  | [] => Wo
  | (c, ts) :: r => fun cls d σ H => ∃ k, PySem.W.exmOne K cls c = some k ∧ (k = true → ∀ a, H a = none → ts a cls d (Ends.gone E i) (σ.set i (some (.ref a))) H) ∧ (k = false → wManyA K i Wo E r cls d σ H)
inductive HdsA (X : Cx) (n : Str) : List ExceptHandler → List (Value × (Addr → Value → Option Addr → TS)) → Prop
  | nil : HdsA X n [] []
  | cons {x : Str} {c : Value} {ts : Addr → Value → Option Addr → TS} {b0 : Stmt} {su : List Stmt} {np pos' : Pos} {hds : List ExceptHandler} {l : List (Value × (Addr → Value → Option Addr → TS))} (hc : Names X x c)
      (hsu : ∀ (a : Addr) (oe : Obj) (cls : Value) (d : Option Addr) (pn : List (Addr × Obj)), Zc cls d oe → (∃ vs, oe.data = .fields vs) → PSs (X.suite a ((a, oe) :: pn)) (b0 :: su) (ts a cls d)) (r : HdsA X n hds l) :
      HdsA X n (.ExceptHandler (some (.Name x np)) (some n) (b0 :: su) pos' :: hds) ((c, ts) :: l)
section
variable {X : Cx} {n : Str} {i : Nat} {body : List Stmt} {h0 : ExceptHandler} {hds : List ExceptHandler} {l : List (Value × (Addr → Value → Option Addr → TS))} {pos : Pos} {tb : WX → TS} {Wo : WX}
/-- what the clauses do with an error that is caught -/
theorem clauses {pins : List (Addr × Obj)} {E : Ends} {a : Addr} {B : Heap} {sI s' : Shared} {σ' : L2.St} {H' : Hp} {cls : Value} {d : Option Addr} {h3 : Heap} (ok : X.Ok) (hs : X.stack = X.env :: X.outer) (hf : X.env.frame = some X.env.locals) (tk : Takes X Wo)
    (hN : X.N.Nodup) (hi : X.N[i]? = some n) (hln : X.env.kindOf n = some .local) (J : Inv X pins σ' H' sI) (nb : ∀ b o, sI.heap.get? b = some o → b ∉ frs X.stack → B.get? b = some o) (up : sI.heap.UpToSlots h3) (na : H' a = none) (os : s'.os = sI.os) (ag : AllBare s'.gens)
    (fl : HandSPX.FlyingZ B (X.env :: X.outer) a (Zc cls d) h3) :
    ∀ {hds : List ExceptHandler} {l : List (Value × (Addr → Value → Option Addr → TS))}, HdsA X n hds l → wManyA X.K i Wo E l cls d σ' H' →
      wpAny (model X.prog X.w) X.A (handleBy (.ref a) X.env hds) (SP X pins E) X.xe { s' with heap := h3 } := by
  have J3 : Inv X pins σ' H' { s' with heap := h3 } := J.landed nb fl.1 up os ag
  obtain ⟨oe3, vs3, he3, hz3, hd3⟩ := fl.there
  have offF : a ∉ frs (X.env :: X.outer) := fun hm => by
    obtain ⟨_, o2, e2, nf2⟩ := fl.2.2.1.mem hm
    rw [he3] at e2
    cases e2
    exact nf2 _ hd3
  have offL : a ≠ X.env.locals := fun z => offF (List.mem_filterMap.mpr ⟨X.env, List.mem_cons_self, by rw [hf, z]⟩)
  have offO : a ∉ X.fs := fun hm => by
    obtain ⟨e, he, q⟩ := List.mem_filterMap.mp hm
    exact offF (List.mem_filterMap.mpr ⟨e, List.mem_cons_of_mem _ he, q⟩)
  have S3 := J3.suite he3 hd3 na offL offO
  intro hds l hk
  induction hk with
  | nil =>
    intro w
    refine wpAny_handleBy_nil ?_
    obtain ⟨k1, k2, k3, oe, vs, T, oT, ts', he, hz, hd, h1, hr⟩ := id fl
    have out : wpAny (model X.prog X.w) X.A (setFlight (.ref a) X.env.frame) (fun _ s4 => wpAny (model X.prog X.w) X.A (throw (.ref a) : Sem Flow) (SP X pins E) X.xe s4) X.xe { s' with heap := h3 } := by
      rw [hf]
      exact HandSPX.setFlight_upZ fl fun h4 hh4 up4 => wpAny_throw (tk _ _ ⟨a, B, sI, pins, σ', H', cls, d, rfl, J, nb, up.trans up4, .inr (.inr (by rw [hs]; exact hh4)), na, os, ag, w⟩)
    unfold PySem.passOn
    refine wpAny_bind (wpAny_field he hd h1 ?_)
    have z : ¬ ((Value.ref T == Value.none) = true) := by simp
    rw [if_neg z]
    first
      | exact wpAny_bind (wpAny_pure (wpAny_bind out))
      | exact wpAny_bind out
  | @cons x c ts b0 su np pos' hds2 l2 hc hsu r ih =>
    intro w
    obtain ⟨k, hk1, hyes, hno⟩ := w
    refine wpAny_handleBy_cons (codeAny_handlers_test ?_) (by intro q; cases q)
    have LT : PySem.W.Looks (model X.prog X.w) h3 (typeOf (.ref a)) cls := fun A Q E s kk q => wpAny_typeOf_ref (kk _ _ he3) (by rw [hz3.1]; exact q)
    have LM := PySem.W.exm_one (M := model X.prog X.w) (J3.kIn) LT hk1
    have look : ∀ {Q : Value → Shared → Prop} {E : Value → Shared → Prop}, Q c { s' with heap := h3 } → wpAny (model X.prog X.w) (X.A.mark (some (.ref a))) (eval (.Name x np) X.env) Q E { s' with heap := h3 } := fun {Q E} q => by
      obtain ⟨c1, c2, c3 | ⟨c3, c4, c5⟩⟩ := hc
      · exact ld_glob (X := X.suite a ((a, oe3) :: (X.pn ++ pins))) S3 c1 c3 q c2
      · exact ld_blt (X := X.suite a ((a, oe3) :: (X.pn ++ pins))) S3 c1 c3 c4 q c5 c2
    refine look (LM.here ?_)
    cases k with
    | false =>
      show wpAny _ X.A (handleBy (.ref a) X.env hds2) _ _ _
      exact ih (hno rfl)
    | true =>
      refine codeAny_handlers_suite_as (HandSPX.lands_againZ fl fun h4 fl4 up4 => ?_)
      have J4 : Inv X pins σ' H' { s' with heap := h4 } := J.landed nb fl4.1 (up.trans up4) os ag
      obtain ⟨oe4, vs4, he4, hz4, hd4⟩ := fl4.there
      have S4 := J4.suite he4 hd4 na offL offO
      refine store_ok (X := X.suite a ((a, oe4) :: (X.pn ++ pins))) (v := .ref a) S4 hN hi (.inl hln) rfl (fun s5 S5 => ?_) (.inr hln)
      refine wpAny_mono ((hsu a oe4 cls d (X.pn ++ pins) hz4 ⟨_, hd4⟩).run [] s5 _ H' _ S5 (hyes rfl a na)) (fun f s6 hsp => ?_) (fun _ _ z => z.elim)
      have gone : ∀ {σ6 : L2.St} {H6 : Hp} {Q : Shared → Prop}, Inv (X.suite a ((a, oe4) :: (X.pn ++ pins))) [] σ6 H6 s6 → (∀ s7, Inv X pins (σ6.set i none) H6 s7 → Q s7) →
          wpAny (model X.prog X.w) X.A (do bindName X.env n .none; unbindBehindTheSuite X.env n pos') (fun _ s7 => Q s7) X.xe s6 := fun {σ6 H6 Q} S6 hq => gone_ok (S6.unsuite ok) hN hi hln hq
      cases f with
      | next => obtain ⟨σ6, H6, S6, q6⟩ := hsp; exact gone S6 fun s7 J7 => ⟨_, _, J7, q6⟩
      | brk => obtain ⟨σ6, H6, S6, q6⟩ := hsp; exact gone S6 fun s7 J7 => ⟨_, _, J7, q6⟩
      | cont => obtain ⟨σ6, H6, S6, q6⟩ := hsp; exact gone S6 fun s7 J7 => ⟨_, _, J7, q6⟩
      | ret u => obtain ⟨v6, σ6, H6, S6, r6, q6⟩ := hsp; exact gone S6 fun s7 J7 => ⟨_, _, _, J7, r6, q6⟩
theorem ps_try_manyA (hs : X.stack = X.env :: X.outer) (hf : X.env.frame = some X.env.locals) (hN : X.N.Nodup) (hi : X.N[i]? = some n) (hln : X.env.kindOf n = some .local) (tk : Takes X Wo)
    (hb : ∀ (W : WX) (pn : List (Addr × Obj)) (xe : Value → Shared → Prop), Takes (X.tr pn xe) W → PassesOwn (model X.prog X.w) X.A X.env xe → PSs (X.tr pn xe) body (tb W))
    (hh : HdsA X n (h0 :: hds) l) : PS X (.Try body (h0 :: hds) [] [] pos) (fun E σ H => tb (wManyA X.K i Wo E l) E σ H) := by
  refine ⟨fun pins s σ H E I h => ?_⟩
  have ok := I.ok
  have hfr : X.A.frames = some (X.env :: X.outer) := by rw [ok.frames, hs]
  refine wpAny_Try_except (wpAny_mono ((hb (wManyA X.K i Wo E l) (X.pn ++ pins) (fun e s₁ => wpAny (model X.prog X.w) X.A (noteFrame e X.env) (fun _ s₂ => wpAny (model X.prog X.w) X.A (setFlight e none) (fun _ s₃ =>
    wpAny (model X.prog X.w) X.A (handleBy e X.env (h0 :: hds)) (SP X pins E) X.xe s₃) X.xe s₂) X.xe s₁) (fun u s' caught => ?_) PassesOwn.looking).run [] s σ H E (I.toTry _) h) (fun f s1 hsp => ?_) (fun e s1 he => he))
  · obtain ⟨a, B, sI, pins', σ', H', cls, d, rfl, J', nb, up, sky, na, os, ag, w⟩ := caught
    show wpAny (model X.prog X.w) X.A (noteFrame (.ref a) X.env) _ _ _
    have sky2 : Sky B (X.env :: X.outer) a (Zc cls d) X.env.locals s'.heap := by rw [← hs]; exact sky
    exact Sky.land Zc.steady hfr hf sky2 fun h3 fl3 up3 => clauses ok hs hf tk hN hi hln (J'.ofTry ok) nb (up.trans up3) na os ag fl3 hh w
  · cases f with
    | next => obtain ⟨σ', H', J', q⟩ := hsp; exact wpAny_execs_nil ⟨σ', H', J'.ofTry ok, q⟩
    | brk => obtain ⟨σ', H', J', q⟩ := hsp; exact ⟨σ', H', J'.ofTry ok, q⟩
    | cont => obtain ⟨σ', H', J', q⟩ := hsp; exact ⟨σ', H', J'.ofTry ok, q⟩
    | ret u => obtain ⟨v, σ', H', J', r, q⟩ := hsp; exact ⟨v, σ', H', J'.ofTry ok, r, q⟩
end

/-! ### def told(call): try: return call() / except X as e: return [tag, e.field] .. -/
theorem takes_len {X : Cx} {W : WX} (t : Takes X W) : Takes X (fun cls d σ H => σ.length = X.N.length → W cls d σ H) := fun u s' ⟨a, B, sI, pins, σ, H, cls, d, e, I, nb, up, sky, na, os, ag, w⟩ =>
  t u s' ⟨a, B, sI, pins, σ, H, cls, d, e, I, nb, up, sky, na, os, ag, w I.len⟩
/-- a clause: the class's name and place, the tag, the field -/
structure HSp where
  x : Str
  C : Addr
  tag : Str
  fld : Str
def EQ (K : PySem.W.Frag) (Q : VK) : List HSp → XK
  | [] => fun _ _ _ => False
  | h :: r => fun cls d H => ∃ k, PySem.W.exmOne K cls (.ref h.C) = some k ∧ (k = true → cls = .ref h.C ∧ ∃ (dd : Addr) (v : V), d = some dd ∧ H dd = some (.xd [(h.fld, v)]) ∧ ∀ p, H p = none → Q (.ref p) (upd H p (.lst [.str h.tag, v]))) ∧ (k = false → EQ K Q r cls d H)
def tsH (h : HSp) : Addr → Value → Option Addr → TS := fun a cls d => tRet (tLst (tCons (tC (.str h.tag)) (tCons (tXf a cls d h.C h.fld (tVar 1)) tNil)))
/-- the clauses as they are written -/
inductive HdsW : List ExceptHandler → List HSp → Prop
  | nil : HdsW [] []
  | cons {h : HSp} {np q1 q2 q3 q4 q5 q6 : Pos} {j : Nat} {hds : List ExceptHandler} {l : List HSp} (r : HdsW hds l) :
      HdsW (.ExceptHandler (some (.Name h.x np)) (some "e") [.Return (some (.List [.Constant (.str h.tag) j q1, .Attribute (.Name "e" q2) h.fld q3] q4)) q5] q6 :: hds) (h :: l)
/-- what the written part says of the clauses' classes -/
structure HFact (K : PySem.W.Frag) (mg : Str → Option Value) (sg : Scope) (h : HSp) : Prop where
  g : mg h.x = some (.ref h.C)
  gl : sg.names.lookup h.x = some .globalImplicit
  db : (h.x == ("__debug__" : Str)) = false
  xf : XfC K h.C
  no : PySem.W.findIn K (.ref h.C) h.fld = some none
theorem hds_of {X : Cx} {sg : Scope} (hsc : X.env.scope = sg) (hN : X.N = [("call" : Str), ("e" : Str)]) (he : sg.names.lookup ("e" : Str) = some .local) : ∀ {hds : List ExceptHandler} {l : List HSp}, HdsW hds l → (∀ h ∈ l, HFact X.K X.mg sg h) → HdsA X "e" hds (l.map fun h => (.ref h.C, tsH h))
  | _, _, .nil, _ => .nil
  | _, _, .cons (h := h) r, f => by
    have fh := f h (by simp)
    refine .cons ⟨by show X.env.scope.names.lookup h.x = _; rw [hsc]; exact fh.gl, fh.db, .inl fh.g⟩ (fun a oe cls d pn hz hf => ?_) (hds_of hsc hN he r fun z hz => f z (List.mem_cons_of_mem _ hz))
    have pv : ∀ p : Pos, PE (X.suite a ((a, oe) :: pn)) (.Name "e" p) (tVar 1) := fun p => pe_var (by show X.N[1]? = _; rw [hN]; rfl) (.inl (by show X.env.scope.names.lookup ("e" : Str) = _; rw [hsc]; exact he))
    exact pss_one (ps_ret (pe_lst (pa_cons pe_str (pa_cons (pe_xf fh.xf fh.no hz hf (pv _) rfl) pa_nil rfl) rfl)))
theorem many_of {K : PySem.W.Frag} {Wo : WX} {E : Ends} {σ : L2.St} (hl : σ.length = 2) : ∀ {l : List HSp} {cls : Value} {d : Option Addr} {H : Hp}, EQ K E.rt l cls d H → wManyA K 1 Wo E (l.map fun h => (.ref h.C, tsH h)) cls d σ H
  | [], _, _, _, q => q.elim
  | h :: l, cls, d, H, q => by
    obtain ⟨k, e, q1, q2⟩ := q
    refine ⟨k, e, fun hk a na => ?_, fun hk => many_of hl (q2 hk)⟩
    obtain ⟨rfl, dd, v, rfl, e2, q3⟩ := q1 hk
    have z : (σ.set 1 (some (V.ref a)))[1]? = some (some (V.ref a)) := List.getElem?_set_self (by omega)
    exact ⟨.ref a, z, rfl, rfl, dd, _, v, rfl, e2, by simp [List.lookup_cons], by show 2 ≤ sizeLine; decide, q3⟩
def TTold (K : PySem.W.Frag) (l : List HSp) : (XK → Hp → VK → Prop) → Hp → VK → Prop := fun tl H Q => tl (EQ K Q l) H Q
theorem told_ok {X : Cx} {x q : Str} {sg : Scope} {g : Addr} {cdg : Value} {hds : List ExceptHandler} {h0 : ExceptHandler} {l : List HSp} {p1 p2 p3 p4 : Pos} (he : sg.names.lookup ("e" : Str) = some .local) (hw : HdsW (h0 :: hds) l) (hf : ∀ h ∈ l, HFact X.K X.mg sg h) :
    LamX.GivesTo X ["call", "e"] x sg g cdg [.Try [.Return (some (.Call (.Name "call" p1) [] [] p2)) p3] (h0 :: hds) [] [] p4] "call" q (TTold X.K l) := by
  intro f c' s H Q tl act hc h
  refine ⟨_, pss_one (ps_try_manyA (X := (cxOf C8.CX0 X.prog X.w X.K X.mg X.base ["call", "e"] x sg g cdg X.A X.stack s H C8.E0).nox) (n := "e") (i := 1) (Wo := fun _ _ _ _ => False) (l := l.map fun h => (.ref h.C, tsH h))
    (tb := fun W E σ H => ∃ Ech : XK, (∀ cls d σ' H', Ech cls d H' → σ'.length = 2 → W cls d σ' H') ∧ σ[0]? = some (some (.ref f)) ∧ H c' = some (LamX.CodeO c' q) ∧ tl Ech H E.rt)
    rfl rfl (show [("call" : Str), ("e" : Str)].Nodup by decide +kernel) rfl he LamX.takes0 (fun W pn xe tk _ => ?_) (hds_of rfl rfl he hw hf)), ?_⟩
  · refine ⟨fun pins s' σ H' E I h' => ?_⟩
    obtain ⟨Ech, hW, h1, h2, h3⟩ := h'
    have hp := act _ pn xe Ech p1 p2 (takes_len tk) (fun cls d σ' H' z hl => hW cls d σ' H' z hl)
    exact (pss_one (ps_ret (pos := p3) hp)).run pins s' σ H' E I ⟨h1, h2, h3⟩
  · exact ⟨EQ X.K Q l, fun cls d σ' H' z hl => many_of (E := { nx := fun _ H' => Q .non H', rt := Q }) hl z, rfl, hc, h⟩
/-! ### the table grows -/
theorem SR.grown {K : PySem.W.Frag} {g : Gx} {b : Bs} {F H H1 : Hp} {S : Sto} {σ : L2.St} (x : SR K g b F S σ H) (e : LamX.ExtN H H1) (t : LamX.Tabs g.T H1) : SR K g (b.at F H) F ⟨[], S.bx⟩ [] H1 where
  len := rfl
  ff a o q := e a o (x.ff a o q) (x.nt a o q)
  f0 := Same.refl _
  fn a o h := .inl h
  nt := x.nt
  ext a o q _ nt := e a o q nt
  slot i u v e1 e2 := by simp at e1
  dist i j d e y _ h := by simp at h
  box := by
    have q := x.box
    unfold BoxOk at q ⊢
    have eb : (⟨[], S.bx⟩ : Sto).bx = S.bx := rfl
    rw [eb]
    cases z : S.bx with
    | none => rw [z] at q; exact q
    | some r =>
      obtain ⟨ds, at_⟩ := r
      rw [z] at q
      obtain ⟨h1, h2, dg, h3, h4, h5⟩ := q
      exact ⟨h1, h2, dg, e _ _ h3 (lst_nt _), h4, h5⟩
  tabs := t
theorem EQ_of {K : PySem.W.Frag} {Q : VK} {H : Hp} {a C : Addr} {f tag : Str} {v : V} (ha : H a = some (.xd [(f, v)])) (hq : ∀ p, H p = none → Q (.ref p) (upd H p (.lst [.str tag, v]))) :
    ∀ {l : List HSp}, (∀ h ∈ l, PySem.W.exmOne K (.ref C) (.ref h.C) = some (decide (h.C = C))) → (∀ h ∈ l, h.C = C → h.tag = tag ∧ h.fld = f) → (∃ h ∈ l, h.C = C) → EQ K Q l (.ref C) (some a) H
  | [], _, _, h3 => by
    obtain ⟨_, h, _⟩ := h3
    cases h
  | h :: l, h1, h2, h3 => by
    refine ⟨_, h1 h (by simp), fun hk => ?_, fun hk => ?_⟩
    · have e : h.C = C := of_decide_eq_true hk
      obtain ⟨rfl, rfl⟩ := h2 h (by simp) e
      exact ⟨by rw [e], a, v, rfl, ha, hq⟩
    · have e : h.C ≠ C := of_decide_eq_false hk
      refine EQ_of ha hq (fun z hz => h1 z (List.mem_cons_of_mem _ hz)) (fun z hz => h2 z (List.mem_cons_of_mem _ hz)) ?_
      obtain ⟨z, hz, ez⟩ := h3
      rcases List.mem_cons.mp hz with rfl | hz
      · exact absurd ez e
      · exact ⟨z, hz, ez⟩
/-- what is to be known of the def that tells -/
structure ToldF (X : Cx) (g : Gx) (x : Str) (h : Nat → Option Str) (l : List HSp) (gf cT : Addr) (P : Addr) : Prop where
  gx : X.mg x = some (.ref gf)
  kp : PySem.W.keepIn X.K (.ref gf) = true
  fn : ∃ (pg : Arguments) (bg : List Stmt) (sg : Scope) (dV kV doc pm cdv ct oc : Value) (an od : Option Addr) (osl : Array (Option Value)) (h0 : ExceptHandler) (hds : List ExceptHandler) (p1 p2 p3 p4 : Pos),
    X.K.lookup gf = some ⟨oc, od, .func (PySem.W.fnOf x x pg [.Try [.Return (some (.Call (.Name "call" p1) [] [] p2)) p3] (h0 :: hds) [] [] p4] sg dV kV doc pm an cdv ct), osl⟩ ∧ PySem.W.codeIn X.K cdv x = true ∧
    L2.Binds X.K (PySem.W.fnOf x x pg [.Try [.Return (some (.Call (.Name "call" p1) [] [] p2)) p3] (h0 :: hds) [] [] p4] sg dV kV doc pm an cdv ct) ["call"] [] ∧ FnScope ["call", "e"] ["call"] sg ∧ sg.names.lookup ("e" : Str) = some .local ∧ sg.names.lookup ("call" : Str) = some .local ∧ HdsW (h0 :: hds) l ∧ ∀ h ∈ l, HFact X.K X.mg sg h
  ex : ∀ n tag C f, h n = some tag → g.cl n = some (C, f) → (∀ h ∈ l, PySem.W.exmOne X.K (.ref C) (.ref h.C) = some (decide (h.C = C))) ∧ (∀ h ∈ l, h.C = C → h.tag = tag ∧ h.fld = f) ∧ ∃ h ∈ l, h.C = C
  tab : LamX.TabB X.base X.mg cT P
  code : X.env.code = .ref cT
  inT : (P, X.env.qual ++ "<lambda>") ∈ g.T
  uq : ∀ p ∈ g.T, p.1 = P → p.2 = X.env.qual ++ "<lambda>"
theorem toldR_of {X : Cx} {g : Gx} {W : WX} {c : Ct} {x : Str} {h : Nat → Option Str} {l : List HSp} {gf cT P : Addr} (f : Fx X g W c) (T : ToldF X g x h l gf cT P) (hlv : 3 ≤ c.lv) : ToldR X g W c x h := by
  intro body scope p lpos pos m hL hg hbody
  obtain ⟨pg, bg, sg, dV, kV, doc, pm, cdv, ct, oc, an, od, osl, h0, hds, p1, p2, p3, p4, lk, cg, hb, Sg, le, lc, hw, hf⟩ := T.fn
  obtain ⟨gx, dbx⟩ := isG_ok f hg
  refine PE.of (LamX.pe_lamcall (T := g.T) (TT := TTold X.K l) (t := fun E => tG X.K g (fun cls d _ H => E cls d H) (repE X.K) m) (k := c.lv - 3) gx T.gx T.kp lk cg hb Sg rfl (.inl lc) (told_ok le hw hf) T.tab T.code T.inT T.uq (f.room.mono (by omega)) (LamX.lamS_by (by rw [f.sc]; exact hL)) rfl
    (fun _ _ _ _ _ => rfl) (fun A outer s H E ff c' hr => ?_) dbx (by decide) (by decide)) fun σ H Q ⟨b, F, S, y, q⟩ => ?_
  · refine hbody _ _ ⟨f.glo, f.N, f.nd, rfl, rfl, (fun z => by cases z), hr, (fun x z => by cases z), ?_⟩
    exact takes_of rfl rfl rfl rfl
  · obtain ⟨F2, x2, s2⟩ := y.shares (freeSl c scope)
    unfold mTold at q
    generalize shareJs S (freeSl c scope) = T2 at *
    refine ⟨x2.tabs, fun H1 eN t1 => ?_⟩
    have x4 : SR X.K g b F2 T2 σ H1 := x2.call (x2.grown eN t1)
    have x5 := x4.hide []
    have f1 : Fr b H H1 := fun a o z _ nt => eN a o z nt
    refine ⟨_, F2, ⟨T2.sl.map hideD, T2.bx⟩, x5, ?_⟩
    cases em : m ⟨T2.sl.map hideD, T2.bx⟩ with
    | stuck => rw [em] at q; exact q.elim
    | ok d S' =>
      rw [em] at q
      exact fun v F' H' y1 y2 y3 y4 => q v F' H' (x4.call y1.forget) (s2.trans y2) (f1.trans y3) y4
    | exc n d bx' =>
      rw [em] at q
      dsimp only at q
      cases eh : h n with
      | none => rw [eh] at q; exact q.elim
      | some tag =>
        rw [eh] at q
        intro a C fl v F' H' hC y1 ha y2
        obtain ⟨z1, z2, z3⟩ := T.ex n tag C fl eh hC
        refine EQ_of ha (fun p hp => ?_) z1 z2 z3
        obtain ⟨w1, w2⟩ := y1.lst (vs := [.str tag, v]) (ds := [.str tag, d]) hp (.cons (.str _) (.cons y2 .nil))
        have w3 := y1.call w1
        have w4 := x4.call w3
        exact q _ _ _ w4 (s2.trans w3.f0) (f1.trans w3.ext) w2
end Gl

set_option maxRecDepth 100000
set_option maxHeartbeats 1000000
/-! The general layer, part M: the defs of a row; the end of a law. -/
namespace Gl
open PySem PySem.Spec PyProof.Rows L2

/-! ### the law is called -/
abbrev tabE : Obj := { cls := .none, data := .fields #[] }
abbrev scrO (vs : List Value) : Obj := { cls := .type "list", data := .seq vs.toArray }
open Classical in
/-- what is tracked at the start: the tables, the script (if it is not written) -/
noncomputable def startH (K : PySem.W.Frag) (cs : List (Addr × Addr)) (a : Addr) (vs : List Value) (ns : List Int) : Hp := fun b => if b ∈ cs.map (·.2) then some (.tbl #[]) else if b = a ∧ K.lookup a = none then some (.frz (scrO vs) (.lst (ns.map V.int))) else none
section
variable {P : Program} {w : World} {K : PySem.W.Frag} {mg mb : Str → Option Value} {cs : List (Addr × Addr)} {a fa : Addr} {vs : List Value} {ns : List Int} {s : Shared}
theorem startH_tab {p : Addr × Addr} (h : p ∈ cs) : startH K cs a vs ns p.2 = some (.tbl #[]) := if_pos (List.mem_map.mpr ⟨p, h, rfl⟩)
theorem startH_cases (b : Addr) : startH K cs a vs ns b = none ∨ (∃ p ∈ cs, p.2 = b ∧ startH K cs a vs ns b = some (.tbl #[])) ∨ (b = a ∧ K.lookup a = none ∧ startH K cs a vs ns b = some (.frz (scrO vs) (.lst (ns.map V.int)))) := by
  by_cases h1 : b ∈ cs.map (·.2)
  · obtain ⟨p, hp, e⟩ := List.mem_map.mp h1
    exact .inr (.inl ⟨p, hp, e, if_pos h1⟩)
  · by_cases h2 : b = a ∧ K.lookup a = none
    · exact .inr (.inr ⟨h2.1, h2.2, (if_neg h1).trans (if_pos h2)⟩)
    · exact .inl ((if_neg h1).trans (if_neg h2))
theorem law_run (kin : K.In s.heap) (gl : s.heap.Ns mainGlobals mg) (bl : s.heap.Ns builtinsNs mb) (blt : ∀ x : Str, x ≠ "__name__" → mb x = bootBuiltins x) (lim : s.heap.NoLimit) (gens : s.gens = #[])
    (tabs : ∀ p ∈ cs, s.heap.get? p.2 = some tabE) (tabK : ∀ p ∈ cs, K.lookup p.2 = none) (code : ∀ p ∈ cs, PySem.W.CodeHd s.heap p.1 p.2)
    (bm : ∃ (m : Addr) (ob : Obj), mg "__builtins__" = some (.ref m) ∧ m ≠ builtinsNs ∧ s.heap.get? m = some ob ∧ ob.cls = .type "module" ∧ ob.dict = some builtinsNs ∧ ob.data = .plain)
    (scr : s.heap.get? a = some (scrO vs)) (ints_ : IntsAre vs ns) (len : ns.length ≤ sizeLine)
    (run : ∀ base : Heap, K.In base → base.Ns mainGlobals mg → (∀ p ∈ cs, LamX.TabB base mg p.1 p.2) → Env0 P w K mg base callerA [] s (startH K cs a vs ns) → SqL K (startH K cs a vs ns) a (ns.map V.int) →
      codeAny (model P w) callerA (.call (.ref fa) ⟨[.ref a], []⟩) (CR (L2.CX P w) [] P w (startH K cs a vs ns) s (fun v _ => v = .bl true) fun _ _ _ => False) s) :
    codeAny (model P w) callerA (.call (.ref fa) ⟨[.ref a], []⟩) (fun r s' => r = .ok (.ret (.bool true)) ∧ OldK s.heap s'.heap ∧ s'.os = s.os ∧ AllBare s'.gens) s := by
  have rv := vals_ints ints_
  have lv : vs.length = ns.length := ints_.length
  generalize eH : startH K cs a vs ns = H0
  have cas : ∀ b, H0 b = none ∨ (∃ p ∈ cs, p.2 = b ∧ H0 b = some (.tbl #[])) ∨ (b = a ∧ K.lookup a = none ∧ H0 b = some (.frz (scrO vs) (.lst (ns.map V.int)))) := fun b => by
    rw [← eH]
    exact startH_cases b
  have tb : ∀ p ∈ cs, H0 p.2 = some (.tbl #[]) := fun p hp => by
    rw [← eH]
    exact startH_tab hp
  have plain : ∀ {b : Addr} {o : Obj}, s.heap.get? b = some o → (∀ us n, o.data ≠ .seq us n) → o.data ≠ .fields #[] → H0 b = none := fun {b o} e n1 n2 => by
    rcases cas b with z | ⟨p, hp, eb, _⟩ | ⟨eb, _, _⟩
    · exact z
    · rw [← eb, tabs p hp] at e
      cases e
      exact absurd rfl n2
    · rw [eb, scr] at e
      cases e
      exact absurd rfl (n1 _ _)
  have dic : ∀ {b : Addr} {o : Obj} {es : Array DictEntry} {ep : Nat}, s.heap.get? b = some o → o.data = .dict es ep → H0 b = none := fun {b o es ep} e d => plain e (fun us n z => by rw [d] at z; cases z) fun z => by rw [d] at z; cases z
  have low : ∀ {b : Addr} {o : Obj}, s.heap.get? b = some o → H0 b = none → (hidT s.heap H0).get? b = some o := fun e n => hidT_get e n
  have lowN : ∀ {b : Addr} {m : Str → Option Value}, s.heap.Ns b m → (hidT s.heap H0).Ns b m := fun {b m} ⟨o, es, ep, e, d, r⟩ => ⟨o, es, ep, low e (dic e d), d, r⟩
  have lowK : K.In (hidT s.heap H0) := fun b o e => low (kin b o e) (by
    rcases cas b with z | ⟨p, hp, eb, _⟩ | ⟨eb, nk, _⟩
    · exact z
    · rw [← eb, tabK p hp] at e
      cases e
    · rw [eb, nk] at e
      cases e)
  have md : L2.Mod K mg (hidT s.heap H0) := ⟨lowK, lowN gl, ⟨mb, lowN bl, blt⟩, let ⟨mc, h1, h2⟩ := lim; ⟨mc, lowN h1, h2⟩⟩
  have hok : HOk P w H0 s.heap := fun b u z => by
    rcases cas b with z' | ⟨p, hp, eb, z'⟩ | ⟨eb, _, z'⟩
    · rw [z'] at z
      cases z
    · rw [z'] at z
      cases z
      rw [← eb]
      exact tabs p hp
    · rw [z'] at z
      cases z
      rw [eb]
      exact ⟨scr, by rw [List.length_map]; exact len, vs, _, rv, scr⟩
  have sq : SqL K H0 a (ns.map V.int) := by
    cases hk : K.lookup a with
    | some o =>
      have e := kin a o hk
      rw [scr] at e
      cases e
      exact .inr ⟨_, vs.toArray, _, hk, rfl, rfl, rfl, by rw [List.size_toArray, lv]; exact len, by simpa using rv⟩
    | none =>
      rcases cas a with z | ⟨p, hp, eb, z⟩ | ⟨_, _, z⟩
      · exfalso
        rw [← eH] at z
        have z : (if a ∈ cs.map (·.2) then some (HO.tbl #[]) else if a = a ∧ K.lookup a = none then some (.frz (scrO vs) (.lst (ns.map V.int))) else none) = none := by
          rw [← z]
          unfold startH
          congr
        split at z
        · cases z
        · rw [if_pos ⟨rfl, hk⟩] at z
          cases z
      · have q := tabs p hp
        rw [eb, scr] at q
        cases q
      · exact .inl (.inr ⟨_, z⟩)
  have TB : ∀ p ∈ cs, LamX.TabB (hidT s.heap H0) mg p.1 p.2 := fun p hp => by
    refine ⟨?_, ?_, fun z => ?_⟩
    · obtain ⟨o, us, file, tf, flags, tg, inF, text, tt, e1, r1, r2, r3, r⟩ := code p hp
      refine ⟨o, us, file, tf, flags, tg, inF, text, tt, low e1 (plain e1 (fun vs n z => ?_) fun z => ?_), r1, r2, r3, r⟩
      · rw [r2] at z
        cases z
      · rw [r2] at z
        cases z
        simp at r3
    · obtain ⟨m, ob, b1, b2, b3, b4, b5, b6⟩ := bm
      refine ⟨m, ob, b1, b2, fun q => ?_, fun q => ?_, low b3 (plain b3 (fun us n z => ?_) fun z => ?_), b4, b5, b6⟩
      · obtain ⟨o, es, ep, e, hd, _⟩ := gl
        rw [q, e] at b3
        cases b3
        rw [hd] at b6
        cases b6
      · rw [q, tabs p hp] at b3
        cases b3
        cases b6
      · rw [b6] at z
        cases z
      · rw [b6] at z
        cases z
    · obtain ⟨o, es, ep, e, hd, _⟩ := gl
      rw [z, tabs p hp] at e
      cases e
      cases hd
  have e0 : Env0 P w K mg (hidT s.heap H0) callerA [] s H0 := ⟨rfl, md, fun b o e => of_hidT e, Nat.le_of_eq (hidT_size _ _), trivial, fun b hb => absurd (show b ∈ ([] : List Addr) from hb) (by simp), hok, .of_eq gens⟩
  rw [eH] at run
  refine codeAny_mono (run _ lowK (lowN gl) TB e0 sq) fun r s' h => ?_
  cases r with
  | error e =>
    obtain ⟨_, _, _, _, _, _, _, _, _, _, _, _, z⟩ := (show L2.CX P w [] H0 s (fun _ _ _ => False) e s' from h)
    exact z.elim
  | ok fl =>
    cases fl with
    | next => exact False.elim h
    | brk => exact False.elim h
    | cont => exact False.elim h
    | ret u =>
      obtain ⟨v, H', os, bare, un, hok', r', q⟩ := h
      have q' : v = .bl true := q
      subst q'
      obtain rfl : u = Value.bool true := r'
      have same : ∀ b o, (∀ p ∈ cs, p.2 ≠ b) → s.heap.get? b = some o → s'.heap.get? b = some o := fun b o nb e => by
        rcases cas b with z | ⟨p, hp, eb, _⟩ | ⟨_, _, z⟩
        · exact un.keep b o e z (by intro z; exact absurd (show b ∈ ([] : List Addr) from z) (by simp)) (by simp)
        · exact absurd eb (nb p hp)
        · have z2 := un.frzs b _ _ z
          obtain ⟨e1, _⟩ := hok b _ z
          obtain ⟨e2, _⟩ := hok' b _ z2
          rw [e] at e1
          cases e1
          exact e2
      have more : ∀ p ∈ cs, ∃ m : Array Value, s'.heap.get? p.2 = some { cls := .none, data := .fields m } := fun p hp => by
        obtain ⟨m, z⟩ := un.tbls p.2 #[] (tb p hp)
        exact ⟨_, hok' p.2 _ z⟩
      refine ⟨rfl, ⟨fun b o e => ?_, fun b o e => ?_⟩, os, bare⟩
      · by_cases hb : ∃ p ∈ cs, p.2 = b
        · obtain ⟨p, hp, ep⟩ := hb
          obtain ⟨m, hm⟩ := more p hp
          rw [← ep] at e ⊢
          rw [tabs p hp] at e
          cases e
          exact .inr (.inl ⟨((code p hp).tab (tabs p hp)).isCodeTable, rfl, #[], m, rfl, by rw [Array.empty_append]; exact hm⟩)
        · exact .inl (same b o (fun p hp z => hb ⟨p, hp, z⟩) e)
      · by_cases hb : ∃ p ∈ cs, p.2 = b
        · obtain ⟨p, hp, ep⟩ := hb
          obtain ⟨m, hm⟩ := more p hp
          rw [← ep]
          exact ⟨_, hm⟩
        · exact ⟨o, same b o (fun p hp z => hb ⟨p, hp, z⟩) e⟩
end
/-- what a law's def must do, at the head's heap h -/
def LawG (l : PySem.W.OpenLaw) (w : World) (K : PySem.W.Frag) (n : Nat) (mg : Str → Option Value) (fa : Addr) (h : Heap) : Prop :=
  ∃ cs : List (Addr × Addr), (∀ p ∈ cs, h.get? p.2 = some tabE) ∧ (∀ p ∈ cs, K.lookup p.2 = none) ∧ (∀ p ∈ cs, PySem.W.CodeHd h p.1 p.2) ∧
    ∀ (base : Heap) (s : Shared) (a : Addr) (vs : List Value) (ns : List Int), K.In base → base.Ns mainGlobals mg → (∀ p ∈ cs, LamX.TabB base mg p.1 p.2) → Env0 l.prog w K mg base callerA [] s (startH K cs a vs ns) → SqL K (startH K cs a vs ns) a (ns.map V.int) →
      ns.length ≤ n → (∀ z ∈ ns, Builtin.Int.intBits z ≤ 1048576) → codeAny (model l.prog w) callerA (.call (.ref fa) ⟨[.ref a], []⟩) (CR (L2.CX l.prog w) [] l.prog w (startH K cs a vs ns) s (fun v _ => v = .bl true) fun _ _ _ => False) s
open PySem.W in
theorem walkG {l : PySem.W.OpenLaw} {n : Nat} {q : Program} {loose : List Str} {XP : (Str → Option Value) → Heap → Prop} {YP : World → Heap → Prop} {d : DefRec} {K : Params → PySem.W.Frag} (hn : l.most = some n) (hn2 : n ≤ sizeLine) (hdf : d.params.defaults = []) (L : List Str) (hrec : (L.all fun x => (recsOf q).any fun e => e.name == x) = true)
    (hY : ∀ (w : World) (h : Heap), YP w h → (K w.params).In h)
    (F : ∀ (w : World) (mg : Str → Option Value) (fa : Addr) (h : Heap), (K w.params).In h → h.Ns mainGlobals mg → mg d.name = some (.ref fa) → (∀ x ∈ L, ∀ f, mg x = some (.ref f) → LamX.OwnTab (K w.params) f h) → LawG l w (K w.params) n mg fa h) :
    PySem.W.WalkO q loose XP YP l.row.toRowW d [] (fun f vs => PySem.call f vs) := by
  refine Att.attach_callB hn hdf fun w s0 s1 mg mb fa o pm cd doc a vs ns G Y ho hd hcd hmg hobj hints hlen hbits hg => ?_
  have kin := hY w _ Y
  have own : ∀ x ∈ L, ∀ f, mg x = some (.ref f) → LamX.OwnTab (K w.params) f s1.heap := fun x hx f hf c P o1 fd1 e dd vs1 sl k1 k2 k3 k4 k5 => by
    obtain ⟨dl, mem, en⟩ := List.any_eq_true.mp (List.all_eq_true.mp hrec x hx)
    obtain ⟨a1, o2, fd2, c2, P2, t1, t2, t3, t4, t5, ⟨oc, vc, u1, _, u3, u4⟩, u5⟩ := G.T.tab dl mem
    rw [beq_iff_eq.mp en, hf] at t1
    cases t1
    rw [kin _ _ k1] at t2
    cases t2
    rw [k2] at t3
    cases t3
    rw [k3] at t4
    cases t4
    rw [kin _ _ k4] at u1
    cases u1
    cases u3
    rw [k5] at u4
    cases u4
    exact u5
  obtain ⟨cs, hT, nT, C, hF⟩ := F w mg fa _ kin G.T.g hmg own
  exact law_run kin G.T.g G.T.b G.T.builtins G.T.nolimit hg hT nT C G.T.bmain hobj hints (Nat.le_trans hlen hn2) fun base b1 b2 b3 b4 b5 => hF base s1 a vs ns b1 b2 b3 b4 b5 hlen hbits

/-! ### the defs of a row -/
/-- a def as it is written -/
def DefK (K : PySem.W.Frag) (x : Str) (st : Stmt) : Prop := ∃ (f : Addr) (oc : Value) (od : Option Addr) (osl : Array (Option Value)) (kV dc pm cd ct : Value) (an : Option Addr), PySem.W.nsIn K mainGlobals x = some (some (.ref f)) ∧
  K.lookup f = some ⟨oc, od, .func (PySem.W.fnOf x x (defArgs st) (defBody st) (defScope st) .none kV dc pm an cd ct), osl⟩ ∧ PySem.W.codeIn K cd x = true ∧ PySem.W.keepIn K (.ref f) = true
theorem defK_mk {K : PySem.W.Frag} {x : Str} {st : Stmt} {f : Addr} {oc : Value} {od : Option Addr} {osl : Array (Option Value)} {kV dc pm cd ct : Value} {an : Option Addr} (h1 : PySem.W.nsIn K mainGlobals x = some (some (.ref f)))
    (h2 : K.lookup f = some ⟨oc, od, .func (PySem.W.fnOf x x (defArgs st) (defBody st) (defScope st) .none kV dc pm an cd ct), osl⟩) (h3 : PySem.W.codeIn K cd x = true) (h4 : PySem.W.keepIn K (.ref f) = true) : DefK K x st :=
  ⟨f, oc, od, osl, kV, dc, pm, cd, ct, an, h1, h2, h3, h4⟩
/-- a def whose code object is named: it makes lambdas -/
def DefC (K : PySem.W.Frag) (x : Str) (st : Stmt) (c : Addr) : Prop := ∃ (f : Addr) (oc : Value) (od : Option Addr) (osl : Array (Option Value)) (kV dc pm ct : Value) (an : Option Addr), PySem.W.nsIn K mainGlobals x = some (some (.ref f)) ∧
  K.lookup f = some ⟨oc, od, .func (PySem.W.fnOf x x (defArgs st) (defBody st) (defScope st) .none kV dc pm an (.ref c) ct), osl⟩ ∧ PySem.W.codeIn K (.ref c) x = true ∧ PySem.W.keepIn K (.ref f) = true
theorem defC_mk {K : PySem.W.Frag} {x : Str} {st : Stmt} {f c : Addr} {oc : Value} {od : Option Addr} {osl : Array (Option Value)} {kV dc pm ct : Value} {an : Option Addr} (h1 : PySem.W.nsIn K mainGlobals x = some (some (.ref f)))
    (h2 : K.lookup f = some ⟨oc, od, .func (PySem.W.fnOf x x (defArgs st) (defBody st) (defScope st) .none kV dc pm an (.ref c) ct), osl⟩) (h3 : PySem.W.codeIn K (.ref c) x = true) (h4 : PySem.W.keepIn K (.ref f) = true) : DefC K x st c :=
  ⟨f, oc, od, osl, kV, dc, pm, ct, an, h1, h2, h3, h4⟩
def AllF (P : Program) (w : World) (K : PySem.W.Frag) (mg : Str → Option Value) (base : Heap) (g : Gx) (l : List (Str × FnE)) : Prop := ∀ p ∈ l, ∃ f, mg p.1 = some (.ref f) ∧ PySem.W.keepIn K (.ref f) = true ∧ FnG P w K mg base g p.2.lv p.2.gr f p.2.ar p.2.fm
def AllX (P : Program) (w : World) (K : PySem.W.Frag) (mg : Str → Option Value) (base : Heap) (g : Gx) (l : List (Str × Nat)) : Prop := ∀ p ∈ l, ExG P w K mg base g 2 p.1 p.2
theorem look_mem {α : Type} : ∀ {l : List (Str × α)} {x : Str} {a : α}, l.lookup x = some a → (x, a) ∈ l := fun h => PySem.mem_of_lookup h
theorem glo_of {P : Program} {w : World} {K : PySem.W.Frag} {mg : Str → Option Value} {base : Heap} {g : Gx} {l : List (Str × FnE)} {xs : List (Str × Nat)} (h : AllF P w K mg base g l) (hx : AllX P w K mg base g xs) (hb : ∀ x, x ∈ blts → mg x = none) :
    Glo P w K mg base g (fun x => l.lookup x) (fun _ => none) (fun x => xs.lookup x) :=
  ⟨fun x e z => h (x, e) (look_mem z), (fun x d z => by cases z), fun x n z => hx (x, n) (look_mem z), hb⟩
def mkCt (N : List Str) (sc : Scope) (l : List (Str × FnE)) (xs : List (Str × Nat)) (k : Nat) (gr : Bool) (told : List (Str × (Nat → Option Str))) : Ct := ⟨N, sc, fun x => l.lookup x, fun _ => none, fun x => xs.lookup x, k, fun _ => true, gr, fun x => told.lookup x⟩
theorem AllF.step {P : Program} {w : World} {K : PySem.W.Frag} {mg : Str → Option Value} {base : Heap} {g : Gx} {l : List (Str × FnE)} {xs : List (Str × Nat)} {x : Str} {st : Stmt} {N ps : List Str} {k n : Nat} {gr : Bool} {m : MS} (h : AllF P w K mg base g l) (hx : AllX P w K mg base g xs) (hb : ∀ x, x ∈ blts → mg x = none)
    (kin : K.In base) (gl : base.Ns mainGlobals mg) (D : DefK K x st) (S : FnScope N ps (defScope st))
    (bind : ∀ (kV dc pm cd ct : Value) (an : Option Addr) (us : List Value), us.length = ps.length → bindArgs (PySem.W.fnOf x x (defArgs st) (defBody st) (defScope st) .none kV dc pm an cd ct) ⟨us, []⟩ = pure (ps.zip us))
    (t : sAll (cS n (mkCt N (defScope st) l xs k gr [])) (defBody st) = m) : AllF P w K mg base g ((x, ⟨k + 1, gr, ps.length, fmOf ps.length N.length m⟩) :: l) := by
  intro p hp
  rcases List.mem_cons.mp hp with rfl | hp
  · obtain ⟨f, oc, od, osl, kV, dc, pm, cd, ct, an, h1, h2, h3, h4⟩ := D
    refine ⟨f, PySem.W.mg_of kin gl h1, h4, fnG_of h2 h3 S (bind kV dc pm cd ct an) fun A outer s H E hr hgd => ?_⟩
    have fx : Fx (cxOf (L2.CX P w) P w K mg base N x (defScope st) f cd A outer s H E) g (fun cls d _ H => E cls d H) (mkCt N (defScope st) l xs k gr []) :=
      ⟨glo_of h hx hb, rfl, S.nd, rfl, rfl, hgd, hr, fun _ _ _ => .inl rfl, takes_of rfl rfl rfl rfl⟩
    rw [← t]
    exact sAll_ok (cS_ok ⟨fx, (fun x h e => by cases e), passes_of rfl, S.kind⟩ n) _
  · exact h p hp
theorem AllF.nil {P : Program} {w : World} {K : PySem.W.Frag} {mg : Str → Option Value} {base : Heap} {g : Gx} : AllF P w K mg base g [] := fun p hp => by cases hp

/-! ### the law's def -/
section
variable {K : PySem.W.Frag} {g : Gx} {b : Bs} {F H : Hp} {S : Sto} {σ : L2.St}
open Classical in
noncomputable def startF (K : PySem.W.Frag) (cs : List (Addr × Addr)) (a : Addr) (vs : List Value) (ns : List Int) : Hp := fun b => if b ∈ cs.map (·.2) then none else startH K cs a vs ns b
theorem startF_some {cs : List (Addr × Addr)} {a : Addr} {vs : List Value} {ns : List Int} {c : Addr} {o : HO} (h : startF K cs a vs ns c = some o) : startH K cs a vs ns c = some o ∧ notTbl o := by
  unfold startF at h
  split at h
  · cases h
  · rename_i nc
    refine ⟨h, ?_⟩
    rcases startH_cases (K := K) (cs := cs) (a := a) (vs := vs) (ns := ns) c with z | ⟨p, hp, e, z⟩ | ⟨_, _, z⟩
    · rw [z] at h
      cases h
    · exact absurd (List.mem_map.mpr ⟨p, hp, e⟩) nc
    · rw [z] at h
      cases h
      exact fun ps e => by cases e
theorem start_seq {cs : List (Addr × Addr)} {a : Addr} {vs : List Value} {ns : List Int} {xs : List V} (h : SqL K (startH K cs a vs ns) a xs) : SqL K (startF K cs a vs ns) a xs := by
  have key : ∀ {o : HO}, notTbl o → startH K cs a vs ns a = some o → startF K cs a vs ns a = some o := fun {o} nt e => by
    unfold startF
    split
    · rename_i hc
      obtain ⟨p, hp, ep⟩ := List.mem_map.mp hc
      have z := startH_tab (K := K) (a := a) (vs := vs) (ns := ns) hp
      rw [ep, e] at z
      cases z
      exact absurd rfl (nt _)
    · exact e
  rcases h with (h | ⟨o, h⟩) | h
  · exact .inl (.inl (key (lst_nt _) h))
  · exact .inl (.inr ⟨o, key (fun ps e => by cases e) h⟩)
  · exact .inr h
theorem startSR {cs : List (Addr × Addr)} {a : Addr} {vs : List Value} {ns : List Int} (hT : ∀ p ∈ g.T, ∃ q ∈ cs, q.2 = p.1) : SR K g ⟨0, false, startF K cs a vs ns, startH K cs a vs ns⟩ (startF K cs a vs ns) ⟨[], none⟩ [] (startH K cs a vs ns) where
  len := rfl
  ff c o h := (startF_some h).1
  f0 := Same.refl _
  fn c o h := .inl h
  nt c o h := (startF_some h).2
  ext := Fr.refl _ _
  slot i u v e1 e2 := by simp at e1
  dist i j d e y _ h := by simp at h
  box := rfl
  tabs p hp := by
    obtain ⟨q, hq, e⟩ := hT p hp
    exact LamX.TabS.nil (by rw [← e]; exact startH_tab hq)
theorem ints_dp (ns : List Int) : DpAll K F (ns.map V.int) (ns.map .int) := by
  induction ns with
  | nil => exact .nil
  | cons n r ih => exact .cons (.int n) ih
/-- the box is made -/
theorem SR.mkBox {i : Nat} {p dg : Addr} {ds : List Int} (x : SR K g b F S σ H) (n : noOw S.sl) (hb : S.bx = none) (hp : H p = none) (hd : Dp K F (.ref dg) (.list (ds.map .int))) :
    SR K g ⟨p, true, F, upd H p (.lst [.ref dg, .int 0])⟩ F ⟨S.sl.set i .bx, some (ds, 0)⟩ (σ.set i (some (.ref p))) (upd H p (.lst [.ref dg, .int 0])) where
  len := by
    show (S.sl.set i .bx).length = _
    rw [List.length_set, List.length_set]
    exact x.len
  ff a o q := by
    rw [upd_ne (ne_of_none (x.ff a o q) hp)]
    exact x.ff a o q
  f0 := Same.refl _
  fn a o h := .inl h
  nt := x.nt
  ext := Fr.refl _ _
  slot j u y e1 e2 := by
    rcases get_set e1 with ⟨rfl, rfl⟩ | ⟨n1, e1⟩
    · rcases get_set e2 with ⟨_, rfl⟩ | ⟨n2, _⟩
      · exact ⟨rfl, rfl⟩
      · exact absurd rfl n2
    · rcases get_set e2 with ⟨z, _⟩ | ⟨_, e2⟩
      · exact absurd z n1
      · have q := x.slot j u y e1 e2
        cases u with
        | un => trivial
        | sh d => exact q
        | ow d => exact absurd e1 (n j d)
        | bx =>
          have z := x.hb
          rw [hb] at z
          rw [q.1] at z
          cases z
  dist j k d e y _ h := by
    rcases get_set h with ⟨_, z⟩ | ⟨_, h⟩
    · cases z
    · exact absurd h (n j d)
  box := by
    have hF : F p = none := by
      cases z : F p with
      | none => rfl
      | some u =>
        rw [x.ff _ _ z] at hp
        cases hp
    exact ⟨rfl, hF, dg, upd_same, hd, trivial⟩
  tabs := x.tabs.ext fun a o q => by
    rw [upd_ne (ne_of_none q hp)]
    exact q
end
theorem law_body {X : Cx} {g : Gx} {W : WX} {c : Ct} {i : Nat} {e1 : Expr} {j : Nat} {p p2 p3 p4 : Pos} {rest : List Stmt} {m1 : M D} {mr : MS} {b : Bs} {F H : Hp} {S S1 S2 : Sto} {σ : L2.St} {ds : List Int} (f : Fs X g W c) (hi : locC c "box" = some i) (hs : noStar [e1, .Constant (.int 0) j p2] = true)
    (h1 : JE X g W e1 m1) (h2 : JSs X g W rest mr) (hm : m1 S = .ok (.list (ds.map .int)) S1) (no : noOw S1.sl) (hb : S1.bx = none) (hr : mr ⟨S1.sl.set i .bx, some (ds, 0)⟩ = .ret (.bool true) S2) (x : SR X.K g b F S σ H) :
    ∃ t, PSs X (.Assign [.Name "box" p] (.List [e1, .Constant (.int 0) j p2] p3) p4 :: rest) t ∧ t { nx := fun _ H' => (fun v _ => v = V.bl true) V.non H', rt := fun v _ => v = .bl true } σ H := by
  refine ⟨_, pss_cons (ps_asg (pe_lst (pa_cons h1 (pa_cons pe_int pa_nil rfl) (star_cons hs))) (pg_loc f.fx hi) rfl rfl rfl) h2, ?_⟩
  refine ⟨b, F, S, x, ?_⟩
  rw [hm]
  intro v F1 H1 x1 s1 f1 r1
  obtain ⟨dg, xs, rfl, _, _⟩ := dp_list r1
  refine ⟨by show 2 ≤ sizeLine; decide, fun q hq => ?_⟩
  refine ⟨_, F1, _, x1.mkBox (i := i) no hb hq r1, ?_⟩
  rw [hr]
  intro v F2 H2 x2 s2 r2
  cases r2
  rfl
end Gl
namespace Gl
open PySem PySem.Spec PyProof.Rows L2
/-- the facts of an own error's class, told of the written part alone -/
theorem xtxt_mk {P : Program} {K : PySem.W.Frag} {h : Heap} {mg : Str → Option Value} {nm f : Str} {C fI cc cda : Addr} (kin : K.In h) (gl : h.Ns mainGlobals mg) {cn cq : Str} {N : Addr} {bs bm : List Value} {sn : List Str} {sub : List Value} {ab : Bool} {col : Option Bool} {dd : Option Addr} {k0 k1 k2 k3 k5 : Option Value}
    {oc : Value} {od : Option Addr} {osl : Array (Option Value)} {fn q : Str} {p1 p2 q1 q2 q3 q4 q5 q6 q7 q8 q9 q10 : Pos} {dV kV doc pm : Value} {an : Option Addr} {ct : Value} {occ oco : Obj} {vs : Array Value} {file : Str} {tf : Tok}
    (aC : PySem.W.nsIn K mainGlobals nm = some (some (.ref C))) (aS : PySem.W.nsIn K mainGlobals "super" = some none) (iC : PySem.W.findIn K (.ref C) "__init__" = some (some (.ref fI)))
    (lC : K.lookup C = some (excClassObj cn cq C N bs bm true sn sub ab col dd k0 k1 k2 k3 k5 "ValueError.__new__"))
    (lF : K.lookup fI = some ⟨oc, od, .func ⟨fn, q, xA f p1 p2, .stmts (xB f q1 q2 q3 q4 q5 q6 q7 q8 q9 q10), xS f, mainGlobals, [("__class__", cc)], dV, kV, doc, pm, an, .ref cda, ct, builtinsNs⟩, osl⟩)
    (cF : PySem.W.codeIn K (.ref cda) q = true) (lc : K.lookup cc = some occ) (lo : K.lookup cda = some oco)
    (sa : PySem.W.findIn K (.ref C) "__setattr__" = some (some (.builtin "object.__setattr__"))) (noN : PySem.W.findIn K (.ref C) f = some none) (tC : PySem.W.typeIn K (.ref fI) = some (.type "function")) (kC : PySem.W.keepIn K (.ref C) = true)
    (exC : PySem.W.subIn K (.ref C) (.type "BaseException") = some true) (veC : PySem.W.subIn K (.ref C) (.type "ValueError") = some true) (ccC : PySem.W.subIn K (.ref C) (.ref C) = some true) (tyC : PySem.W.typeIn K (.ref C) = some (.type "type")) (opq : PySem.W.nsIn K cStatics "thirdparty.any" = some none)
    (rv : PySem.HandSPX.refsVE bm = true) (sup : PySem.W.ks_superIn K C C "__init__" = some (some (.builtin "ValueError.__init__"))) (dc : occ.data = .cell (some (.ref C))) (dO : oco.data = .fields vs) (dv : vs[2]? = some (.str file tf)) (fl : (P.main.file == file) = true) (ln : (q3.endLine == q5.line) = true)
    (top : (P.main.scope.names.lookup ("super" : Str)).isSome = false) (fok : f ≠ "self" ∧ (f == ("__debug__" : Str)) = false ∧ f ≠ "__class__" ∧ f ≠ "super")
    (bi : ∀ a v : Value, bindArgs ⟨fn, q, xA f p1 p2, .stmts (xB f q1 q2 q3 q4 q5 q6 q7 q8 q9 q10), xS f, mainGlobals, [("__class__", cc)], dV, kV, doc, pm, an, .ref cda, ct, builtinsNs⟩ ⟨[a, v], []⟩ = pure [(("self" : Str), a), (f, v)]) : XTxt P K mg nm f C fI where
  gC := PySem.W.mg_of kin gl aC
  gS := PySem.W.mg_none_of kin gl aS
  cls := ⟨cn, cq, N, bs, bm, sn, sub, ab, col, dd, k0, k1, k2, k3, k5, lC, rv⟩
  sup := sup
  sa := sa
  noN := noN
  iC := iC
  tC := tC
  kC := kC
  exC := exC
  veC := veC
  ccC := ccC
  tyC := tyC
  opq := opq
  top := top
  fok := fok
  fn := ⟨oc, od, osl, fn, q, p1, p2, q1, q2, q3, q4, q5, q6, q7, q8, q9, q10, cc, dV, kV, doc, pm, an, cda, ct, occ, oco, vs, file, tf, lF, cF, lc, dc, lo, dO, dv, fl, ln, bi⟩
end Gl

set_option maxRecDepth 100000
set_option maxHeartbeats 1000000
/-! The general layer, part N: the law of a row, told of its plain functions. -/
namespace Gl
open PySem PySem.Spec PyProof.Rows L2
/-- the def that tells, as it is written -/
def ToldK (K : PySem.W.Frag) (mg : Str → Option Value) (x : Str) (l : List HSp) (gf : Addr) : Prop :=
  PySem.W.nsIn K mainGlobals x = some (some (.ref gf)) ∧ PySem.W.keepIn K (.ref gf) = true ∧ ∃ (pg : Arguments) (bg : List Stmt) (sg : Scope) (dV kV doc pm cdv ct oc : Value) (an od : Option Addr) (osl : Array (Option Value)) (h0 : ExceptHandler) (hds : List ExceptHandler) (p1 p2 p3 p4 : Pos),
    K.lookup gf = some ⟨oc, od, .func (PySem.W.fnOf x x pg [.Try [.Return (some (.Call (.Name "call" p1) [] [] p2)) p3] (h0 :: hds) [] [] p4] sg dV kV doc pm an cdv ct), osl⟩ ∧ PySem.W.codeIn K cdv x = true ∧
    L2.Binds K (PySem.W.fnOf x x pg [.Try [.Return (some (.Call (.Name "call" p1) [] [] p2)) p3] (h0 :: hds) [] [] p4] sg dV kV doc pm an cdv ct) ["call"] [] ∧ FnScope ["call", "e"] ["call"] sg ∧ sg.names.lookup ("e" : Str) = some .local ∧ sg.names.lookup ("call" : Str) = some .local ∧ HdsW (h0 :: hds) l ∧ ∀ h ∈ l, HFact K mg sg h
/-- the law's def and its tables, as written -/
structure LawK (K : PySem.W.Frag) (st : Stmt) (c P : Addr) : Prop where
  fn : ∃ (f : Addr) (oc : Value) (od : Option Addr) (osl : Array (Option Value)) (kV dc pm ct : Value) (an : Option Addr), PySem.W.nsIn K mainGlobals "law" = some (some (.ref f)) ∧
    K.lookup f = some ⟨oc, od, .func (PySem.W.fnOf "law" "law" (defArgs st) (defBody st) (defScope st) .none kV dc pm an (.ref c) ct), osl⟩ ∧ PySem.W.codeIn K (.ref c) "law" = true
  tab : ∃ (e : Value) (dd : Option Addr) (vs : Array Value) (sl : Array (Option Value)), K.lookup c = some ⟨e, dd, .fields vs, sl⟩ ∧ vs[11]? = some (.ref P)
  nP : K.lookup P = none
  hd : PySem.W.codeHdIn K c P = true
theorem told_mk {K : PySem.W.Frag} {mg : Str → Option Value} {x : Str} {l : List HSp} {gf : Addr} {pg : Arguments} {sg : Scope} {dV kV doc pm cdv ct oc : Value} {an od : Option Addr} {osl : Array (Option Value)} {h0 : ExceptHandler} {hds : List ExceptHandler} {p1 p2 p3 p4 : Pos}
    (a : PySem.W.nsIn K mainGlobals x = some (some (.ref gf))) (b : K.lookup gf = some ⟨oc, od, .func (PySem.W.fnOf x x pg [.Try [.Return (some (.Call (.Name "call" p1) [] [] p2)) p3] (h0 :: hds) [] [] p4] sg dV kV doc pm an cdv ct), osl⟩) (c : PySem.W.codeIn K cdv x = true) (d : PySem.W.keepIn K (.ref gf) = true)
    (e : ∀ us : List Value, us.length = 1 → bindArgs (PySem.W.fnOf x x pg [.Try [.Return (some (.Call (.Name "call" p1) [] [] p2)) p3] (h0 :: hds) [] [] p4] sg dV kV doc pm an cdv ct) ⟨us, []⟩ = pure ((["call"] : List Str).zip us))
    (f : FnScope ["call", "e"] ["call"] sg) (g1 : sg.names.lookup ("e" : Str) = some .local) (g2 : sg.names.lookup ("call" : Str) = some .local) (h : HdsW (h0 :: hds) l) (i : ∀ h ∈ l, HFact K mg sg h) : ToldK K mg x l gf :=
  ⟨a, d, pg, [], sg, dV, kV, doc, pm, cdv, ct, oc, an, od, osl, h0, hds, p1, p2, p3, p4, b, c, .all e, f, g1, g2, h, i⟩
theorem lawK_mk {K : PySem.W.Frag} {st : Stmt} {f c P : Addr} {oc : Value} {od : Option Addr} {osl : Array (Option Value)} {kV dc pm ct : Value} {an : Option Addr} {e : Value} {dd : Option Addr} {vs : Array Value} {sl : Array (Option Value)}
    (a : PySem.W.nsIn K mainGlobals "law" = some (some (.ref f))) (b : K.lookup f = some ⟨oc, od, .func (PySem.W.fnOf "law" "law" (defArgs st) (defBody st) (defScope st) .none kV dc pm an (.ref c) ct), osl⟩) (d : PySem.W.codeIn K (.ref c) "law" = true)
    (t : K.lookup c = some ⟨e, dd, .fields vs, sl⟩) (t2 : vs[11]? = some (.ref P)) (n : K.lookup P = none) (h : PySem.W.codeHdIn K c P = true) : LawK K st c P :=
  ⟨⟨f, oc, od, osl, kV, dc, pm, ct, an, a, b, d⟩, ⟨e, dd, vs, sl, t, t2⟩, n, h⟩
theorem hfact_mk {K : PySem.W.Frag} {h : Heap} {mg : Str → Option Value} {sg : Scope} {x : Str} {C : Addr} {tag fld : Str} (kin : K.In h) (gl : h.Ns mainGlobals mg) (a : PySem.W.nsIn K mainGlobals x = some (some (.ref C))) (b : sg.names.lookup x = some .globalImplicit) (d : (x == ("__debug__" : Str)) = false)
    (x1 : PySem.W.findIn K (.ref C) "__getattribute__" = some (some (.builtin "BaseException.__getattribute__"))) (x2 : PySem.W.findIn K (.ref C) "__getattr__" = some none) (x3 : PySem.W.subIn K (.ref C) (.type "BaseException") = some true) (x4 : PySem.W.hasDictIn K C = true) (no : PySem.W.findIn K (.ref C) fld = some none) : HFact K mg sg ⟨x, C, tag, fld⟩ :=
  ⟨PySem.W.mg_of kin gl a, b, d, ⟨x1, x2, x3, x4⟩, no⟩
theorem exm_mk {K : PySem.W.Frag} {C D : Addr} {b : Bool} (h1 : PySem.W.subIn K (.ref C) (.type "BaseException") = some true) (h2 : PySem.W.hasDictIn K C = true) (h3 : PySem.W.typeIn K (.ref C) = some (.type "type")) (h4 : PySem.W.subIn K (.ref D) (.ref C) = some b) : PySem.W.exmOne K (.ref D) (.ref C) = some b := PySem.W.exm_ref h1 h2 h3 h4
/-- a def that makes lambdas: its code object and its table -/
structure TabK (K : PySem.W.Frag) (t : Str × Addr × Addr) : Prop where
  fn : ∃ (f : Addr) (o : Obj) (fd : FuncData), PySem.W.nsIn K mainGlobals t.1 = some (some (.ref f)) ∧ K.lookup f = some o ∧ o.data = .func fd ∧ fd.code = .ref t.2.1
  tab : ∃ (e : Value) (dd : Option Addr) (vs : Array Value) (sl : Array (Option Value)), K.lookup t.2.1 = some ⟨e, dd, .fields vs, sl⟩ ∧ vs[11]? = some (.ref t.2.2)
  nP : K.lookup t.2.2 = none
  hd : PySem.W.codeHdIn K t.2.1 t.2.2 = true
theorem tabK_mk {K : PySem.W.Frag} {x : Str} {st : Stmt} {c P : Addr} {e : Value} {dd : Option Addr} {vs : Array Value} {sl : Array (Option Value)} (D : DefC K x st c) (t : K.lookup c = some ⟨e, dd, .fields vs, sl⟩) (t2 : vs[11]? = some (.ref P)) (n : K.lookup P = none) (h : PySem.W.codeHdIn K c P = true) : TabK K (x, c, P) := by
  obtain ⟨f, oc, od, osl, kV, dc, pm, ct, an, h1, h2, h3, h4⟩ := D
  exact ⟨⟨f, _, _, h1, h2, rfl, rfl⟩, ⟨e, dd, vs, sl, t, t2⟩, n, h⟩
theorem LawK.tabK {K : PySem.W.Frag} {st : Stmt} {c P : Addr} (L : LawK K st c P) : TabK K ("law", c, P) := by
  obtain ⟨f, oc, od, osl, kV, dc, pm, ct, an, a1, a2, a3⟩ := L.fn
  exact ⟨⟨f, _, _, a1, a2, rfl, rfl⟩, L.tab, L.nP, L.hd⟩
def lamQ (x : Str) : Str := (x ++ ".<locals>.") ++ "<lambda>"
abbrev csOf (ts : List (Str × Addr × Addr)) : List (Addr × Addr) := ts.map fun t => (t.2.1, t.2.2)
abbrev gxOf (ts : List (Str × Addr × Addr)) (cl : Nat → Option (Addr × Str)) : Gx := ⟨ts.map fun t => (t.2.2, lamQ t.1), cl⟩
/-- no two makers share a table -/
def Apart (ts : List (Str × Addr × Addr)) : Prop := ∀ t ∈ ts, ∀ u ∈ ts, t.2.2 = u.2.2 → t.1 = u.1
theorem apart_inT {ts : List (Str × Addr × Addr)} {cl : Nat → Option (Addr × Str)} {x : Str} {c P : Addr} (h : (x, c, P) ∈ ts) : (P, lamQ x) ∈ (gxOf ts cl).T := List.mem_map.mpr ⟨(x, c, P), h, rfl⟩
theorem apart_uq {ts : List (Str × Addr × Addr)} {cl : Nat → Option (Addr × Str)} {x : Str} {c P : Addr} (A : Apart ts) (h : (x, c, P) ∈ ts) : ∀ p ∈ (gxOf ts cl).T, p.1 = P → p.2 = lamQ x := fun p hp e => by
  obtain ⟨t, ht, rfl⟩ := List.mem_map.mp hp
  have := A t ht (x, c, P) h e
  show lamQ t.1 = lamQ x
  rw [this]
/-- what the clauses' classes say of the errors -/
def ExTold (K : PySem.W.Frag) (tg : Nat → Option Str) (cl : Nat → Option (Addr × Str)) (sp : List HSp) : Prop := ∀ m tag C f, tg m = some tag → cl m = some (C, f) → (∀ h ∈ sp, PySem.W.exmOne K (.ref C) (.ref h.C) = some (decide (h.C = C))) ∧ (∀ h ∈ sp, h.C = C → h.tag = tag ∧ h.fld = f) ∧ ∃ h ∈ sp, h.C = C
theorem AllF.stepT {P : Program} {w : World} {K : PySem.W.Frag} {mg : Str → Option Value} {base : Heap} {ts : List (Str × Addr × Addr)} {cl : Nat → Option (Addr × Str)} {l : List (Str × FnE)} {xs : List (Str × Nat)} {x : Str} {st : Stmt} {N ps : List Str} {k n : Nat} {gr : Bool} {m : MS} {c' P' : Addr} {sp : List HSp} {gf : Addr} {tg : Nat → Option Str}
    (h : AllF P w K mg base (gxOf ts cl) l) (hx : AllX P w K mg base (gxOf ts cl) xs) (hb : ∀ x, x ∈ blts → mg x = none)
    (kin : K.In base) (gl : base.Ns mainGlobals mg) (tab : ∀ p ∈ csOf ts, LamX.TabB base mg p.1 p.2) (A : Apart ts) (T : ToldK K mg "_law_told" sp gf) (ex : ExTold K tg cl sp) (hk : 3 ≤ k) (D : DefC K x st c') (mem : (x, c', P') ∈ ts) (S : FnScope N ps (defScope st))
    (bind : ∀ (kV dc pm cd ct : Value) (an : Option Addr) (us : List Value), us.length = ps.length → bindArgs (PySem.W.fnOf x x (defArgs st) (defBody st) (defScope st) .none kV dc pm an cd ct) ⟨us, []⟩ = pure (ps.zip us))
    (t : sAll (cS n (mkCt N (defScope st) l xs k gr [("_law_told", tg)])) (defBody st) = m) : AllF P w K mg base (gxOf ts cl) ((x, ⟨k + 1, gr, ps.length, fmOf ps.length N.length m⟩) :: l) := by
  intro p hp
  rcases List.mem_cons.mp hp with rfl | hp
  · obtain ⟨f, oc, od, osl, kV, dc, pm, ct, an, h1, h2, h3, h4⟩ := D
    refine ⟨f, PySem.W.mg_of kin gl h1, h4, fnG_of h2 h3 S (bind kV dc pm (.ref c') ct an) fun A' outer s H E hr hgd => ?_⟩
    have fx : Fx (cxOf (L2.CX P w) P w K mg base N x (defScope st) f (.ref c') A' outer s H E) (gxOf ts cl) (fun cls d _ H => E cls d H) (mkCt N (defScope st) l xs k gr [("_law_told", tg)]) :=
      ⟨glo_of h hx hb, rfl, S.nd, rfl, rfl, hgd, hr, fun _ _ _ => .inl rfl, takes_of rfl rfl rfl rfl⟩
    have told : TOk (cxOf (L2.CX P w) P w K mg base N x (defScope st) f (.ref c') A' outer s H E) (gxOf ts cl) (fun cls d _ H => E cls d H) (mkCt N (defScope st) l xs k gr [("_law_told", tg)]) := fun y hh hy => by
      have hy : ([("_law_told", tg)] : List (Str × (Nat → Option Str))).lookup y = some hh := hy
      have memy := look_mem hy
      obtain ⟨rfl, rfl⟩ : y = "_law_told" ∧ hh = tg := by
        have := List.mem_singleton.mp memy
        exact ⟨congrArg Prod.fst this, congrArg Prod.snd this⟩
      obtain ⟨g1, g2, pg, bg, sg, dV', kV', doc', pm', cdv', ct', oc', an', od', osl', h0, hds, q1, q2, q3, q4, k1, k2, k3, k4, k5, k6, k7, k8⟩ := T
      exact toldR_of (l := sp) (gf := gf) (cT := c') (P := P') fx ⟨PySem.W.mg_of kin gl g1, g2, ⟨pg, bg, sg, dV', kV', doc', pm', cdv', ct', oc', an', od', osl', h0, hds, q1, q2, q3, q4, k1, k2, k3, k4, k5, k6, k7, k8⟩, ex, tab (c', P') (List.mem_map.mpr ⟨_, mem, rfl⟩), rfl, apart_inT mem, apart_uq A mem⟩ hk
    rw [← t]
    exact sAll_ok (cS_ok ⟨fx, told, passes_of rfl, S.kind⟩ n) _
  · exact h p hp
theorem lawG_of {l : PySem.W.OpenLaw} {w : World} {K : PySem.W.Frag} {mg : Str → Option Value} {fa : Addr} {h : Heap} {n : Nat} {st : Stmt} {c P : Addr} {ts : List (Str × Addr × Addr)} {cl : Nat → Option (Addr × Str)} {N : List Str} {fs : List (Str × FnE)} {xs : List (Str × Nat)} {k fuel i : Nat} {tg : Nat → Option Str} {sp : List HSp} {gf : Addr}
    {pb p1 p2 p3 p4 p5 p6 p7 p8 : Pos} {j1 j2 j3 : Nat} {rest : List Stmt} {mr : MS} {fe : FnE}
    (kin : K.In h) (gl : h.Ns mainGlobals mg) (hmg : mg "law" = some (.ref fa)) (own : ∀ t ∈ ts, ∀ f, mg t.1 = some (.ref f) → LamX.OwnTab K f h) (L : LawK K st c P) (memL : (("law" : Str), c, P) ∈ ts) (tk : ∀ t ∈ ts, TabK K t) (A : Apart ts) (T : ToldK K mg "_law_told" sp gf)
    (hX : ∀ base, AllX l.prog w K mg base (gxOf ts cl) xs) (hF : ∀ base, K.In base → base.Ns mainGlobals mg → (∀ p ∈ csOf ts, LamX.TabB base mg p.1 p.2) → AllF l.prog w K mg base (gxOf ts cl) fs)
    (bl : ∀ x, x ∈ blts → mg x = none) (hk : 3 ≤ k) (room : Room (k + 1) callerA) (S : FnScope N ["script"] (defScope st))
    (bind : ∀ (kV dc pm cd ct : Value) (an : Option Addr) (us : List Value), us.length = 1 → bindArgs (PySem.W.fnOf "law" "law" (defArgs st) (defBody st) (defScope st) .none kV dc pm an cd ct) ⟨us, []⟩ = pure ((["script"] : List Str).zip us))
    (ex : ExTold K tg cl sp)
    (body : defBody st = .Assign [.Name "box" pb] (.List [.Call (.Name "_law_digits" p1) [.Name "script" p2, .Constant (.int 0) j1 p3, .Constant (.int 63) j2 p4] [] p5, .Constant (.int 0) j3 p6] p7) p8 :: rest)
    (hi : locC (mkCt N (defScope st) fs xs k true [("_law_told", tg)]) "box" = some i)
    (h1 : (cX fuel (mkCt N (defScope st) fs xs k true [("_law_told", tg)]) (.Call (.Name "_law_digits" p1) [.Name "script" p2, .Constant (.int 0) j1 p3, .Constant (.int 63) j2 p4] [] p5)).e = mCall fe (mSeq [mArgV 0, mArgE (mC (.int 0)), mArgE (mC (.int 63))])) (har : fe.ar = 3)
    (h2 : sAll (cS fuel (mkCt N (defScope st) fs xs k true [("_law_told", tg)])) rest = mr)
    (dig : ∀ ns : List Int, ns.length ≤ n → ∃ ds : List Int, fe.fm [.d (.list (ns.map .int)), .d (.int 0), .d (.int 63)] none = .ret (.list (ds.map .int)) none)
    (law : ∀ ns ds : List Int, ∃ S2, mr ⟨((.sh (.list (ns.map .int))) :: List.replicate (N.length - 1) DV.un).set i .bx, some (ds, 0)⟩ = .ret (.bool true) S2) : LawG l w K n mg fa h := by
  obtain ⟨f, oc, od, osl, kV, dc, pm, ct, an, a1, a2, a3⟩ := L.fn
  obtain rfl : f = fa := by
    have z := PySem.W.mg_of kin gl a1
    rw [hmg] at z
    cases z
    rfl
  refine ⟨csOf ts, fun p hp => ?_, fun p hp => ?_, fun p hp => ?_, fun base s a vs ns b1 b2 b3 b4 b5 hl _ => ?_⟩
  · obtain ⟨t, ht, rfl⟩ := List.mem_map.mp hp
    obtain ⟨⟨f', o', fd', m1, m2, m3, m4⟩, ⟨e, dd, us, sl, t1, t2⟩, -, -⟩ := tk t ht
    exact own t ht f' (PySem.W.mg_of kin gl m1) _ _ _ _ e dd us sl m2 m3 m4 t1 t2
  · obtain ⟨t, ht, rfl⟩ := List.mem_map.mp hp
    exact (tk t ht).nP
  · obtain ⟨t, ht, rfl⟩ := List.mem_map.mp hp
    exact PySem.W.codeHd_of_K kin (tk t ht).hd
  · obtain ⟨g1, g2, pg, bg, sg, dV', kV', doc', pm', cdv', ct', oc', an', od', osl', h0, hds, q1, q2, q3, q4, k1, k2, k3, k4, k5, k6, k7, k8⟩ := T
    obtain ⟨ds, hd⟩ := dig ns hl
    obtain ⟨S2, hr⟩ := law ns ds
    have sr := startSR (K := K) (g := gxOf ts cl) (cs := csOf ts) (a := a) (vs := vs) (ns := ns) fun p hp => by
      obtain ⟨t, ht, rfl⟩ := List.mem_map.mp hp
      exact ⟨(t.2.1, t.2.2), List.mem_map.mpr ⟨t, ht, rfl⟩, rfl⟩
    have rep : repL (repA K) ⟨0, false, startF K (csOf ts) a vs ns, startH K (csOf ts) a vs ns⟩ (startF K (csOf ts) a vs ns) (startH K (csOf ts) a vs ns) [.ref a] [.d (.list (ns.map .int))] := ⟨rfl, fun i v x e1 e2 => by
      cases i with
      | zero =>
        cases e1
        cases e2
        exact .lst (start_seq b5) (ints_dp ns)
      | succ i => simp at e1⟩
    have ent := sr.enter (N := N) rep
    refine LamX.run_ofS (N := N) (ps := ["script"]) (us := [.ref a]) (vs := [.ref a]) a2 a3 S room b4 (.of_eq (bind kV dc pm (.ref c) ct an [.ref a] rfl)) (.cons rfl .nil) rfl fun hr' => ?_
    have fx : Fx (cxOf (L2.CX l.prog w) l.prog w K mg base N "law" (defScope st) f (.ref c) callerA [] s (startH K (csOf ts) a vs ns) fun _ _ _ => False) (gxOf ts cl) (fun cls d _ H => (fun _ _ _ => False : XK) cls d H) (mkCt N (defScope st) fs xs k true [("_law_told", tg)]) :=
      ⟨glo_of (hF base b1 b2 b3) (hX base) bl, rfl, S.nd, rfl, rfl, fun _ => rfl, hr', fun _ _ _ => .inl rfl, takes_of rfl rfl rfl rfl⟩
    have told : TOk (cxOf (L2.CX l.prog w) l.prog w K mg base N "law" (defScope st) f (.ref c) callerA [] s (startH K (csOf ts) a vs ns) fun _ _ _ => False) (gxOf ts cl) (fun cls d _ H => (fun _ _ _ => False : XK) cls d H) (mkCt N (defScope st) fs xs k true [("_law_told", tg)]) := fun x hh hx => by
      have hx : ([("_law_told", tg)] : List (Str × (Nat → Option Str))).lookup x = some hh := hx
      have mem := look_mem hx
      obtain ⟨rfl, rfl⟩ : x = "_law_told" ∧ hh = tg := by
        have := List.mem_singleton.mp mem
        exact ⟨congrArg Prod.fst this, congrArg Prod.snd this⟩
      refine toldR_of (l := sp) (gf := gf) (cT := c) (P := P) fx ⟨PySem.W.mg_of kin gl g1, g2, ⟨pg, bg, sg, dV', kV', doc', pm', cdv', ct', oc', an', od', osl', h0, hds, q1, q2, q3, q4, k1, k2, k3, k4, k5, k6, k7, k8⟩, ex, b3 (c, P) (List.mem_map.mpr ⟨(("law" : Str), c, P), memL, rfl⟩), rfl, apart_inT memL, apart_uq A memL⟩ hk
    have F : Fs (cxOf (L2.CX l.prog w) l.prog w K mg base N "law" (defScope st) f (.ref c) callerA [] s (startH K (csOf ts) a vs ns) fun _ _ _ => False) (gxOf ts cl) (fun cls d _ H => (fun _ _ _ => False : XK) cls d H) (mkCt N (defScope st) fs xs k true [("_law_told", tg)]) := ⟨fx, told, passes_of rfl, S.kind⟩
    rw [body]
    have e1 := (cX_ok fuel _ _ _ fx told (.Call (.Name "_law_digits" p1) [.Name "script" p2, .Constant (.int 0) j1 p3, .Constant (.int 63) j2 p4] [] p5)).e
    rw [h1] at e1
    refine law_body (S := ⟨[Arg.d (.list (ns.map .int))].map slotA ++ List.replicate (N.length - 1) DV.un, none⟩) (S1 := ⟨[Arg.d (.list (ns.map .int))].map slotA ++ List.replicate (N.length - 1) DV.un, none⟩) F hi (by rfl) e1 (sAll_ok (cS_ok F fuel) rest) ?_ ?_ rfl (by rw [h2]; exact hr) ent
    · show (if 3 = fe.ar then _ else _) = _
      rw [if_pos har.symm]
      show (match fe.fm [.d (.list (ns.map .int)), .d (.int 0), .d (.int 63)] none with | .ret d bx' => _ | .exc x d bx' => _ | .stuck => _) = _
      rw [hd]
    · intro i d z
      have z : ([DV.sh (.list (ns.map .int))] ++ List.replicate (N.length - 1) DV.un)[i]? = some (.ow d) := z
      cases i with
      | zero => cases z
      | succ i =>
        rw [List.getElem?_append_right (by simp), List.getElem?_replicate] at z
        split at z <;> cases z
theorem lawG0_of {l : PySem.W.OpenLaw} {w : World} {K : PySem.W.Frag} {mg : Str → Option Value} {fa : Addr} {h : Heap} {n : Nat} {st : Stmt} {ts : List (Str × Addr × Addr)} {cl : Nat → Option (Addr × Str)} {N : List Str} {fs : List (Str × FnE)} {xs : List (Str × Nat)} {k fuel i : Nat} {tg : Nat → Option Str} {sp : List HSp} {gf : Addr}
    {pb p1 p2 p3 p4 p5 p6 p7 p8 : Pos} {j1 j2 j3 : Nat} {rest : List Stmt} {mr : MS} {fe : FnE}
    (kin : K.In h) (gl : h.Ns mainGlobals mg) (hmg : mg "law" = some (.ref fa)) (own : ∀ t ∈ ts, ∀ f, mg t.1 = some (.ref f) → LamX.OwnTab K f h) (L : DefK K "law" st) (tk : ∀ t ∈ ts, TabK K t) (A : Apart ts) (T : ToldK K mg "_law_told" sp gf)
    (hX : ∀ base, AllX l.prog w K mg base (gxOf ts cl) xs) (hF : ∀ base, K.In base → base.Ns mainGlobals mg → (∀ p ∈ csOf ts, LamX.TabB base mg p.1 p.2) → AllF l.prog w K mg base (gxOf ts cl) fs)
    (bl : ∀ x, x ∈ blts → mg x = none) (hk : 3 ≤ k) (room : Room (k + 1) callerA) (S : FnScope N ["script"] (defScope st))
    (bind : ∀ (kV dc pm cd ct : Value) (an : Option Addr) (us : List Value), us.length = 1 → bindArgs (PySem.W.fnOf "law" "law" (defArgs st) (defBody st) (defScope st) .none kV dc pm an cd ct) ⟨us, []⟩ = pure ((["script"] : List Str).zip us))
    (ex : ExTold K tg cl sp)
    (body : defBody st = .Assign [.Name "box" pb] (.List [.Call (.Name "_law_digits" p1) [.Name "script" p2, .Constant (.int 0) j1 p3, .Constant (.int 63) j2 p4] [] p5, .Constant (.int 0) j3 p6] p7) p8 :: rest)
    (hi : locC (mkCt N (defScope st) fs xs k true []) "box" = some i)
    (h1 : (cX fuel (mkCt N (defScope st) fs xs k true []) (.Call (.Name "_law_digits" p1) [.Name "script" p2, .Constant (.int 0) j1 p3, .Constant (.int 63) j2 p4] [] p5)).e = mCall fe (mSeq [mArgV 0, mArgE (mC (.int 0)), mArgE (mC (.int 63))])) (har : fe.ar = 3)
    (h2 : sAll (cS fuel (mkCt N (defScope st) fs xs k true [])) rest = mr)
    (dig : ∀ ns : List Int, ns.length ≤ n → ∃ ds : List Int, fe.fm [.d (.list (ns.map .int)), .d (.int 0), .d (.int 63)] none = .ret (.list (ds.map .int)) none)
    (law : ∀ ns ds : List Int, ∃ S2, mr ⟨((.sh (.list (ns.map .int))) :: List.replicate (N.length - 1) DV.un).set i .bx, some (ds, 0)⟩ = .ret (.bool true) S2) : LawG l w K n mg fa h := by
  obtain ⟨f, oc, od, osl, kV, dc, pm, cd, ct, an, a1, a2, a3, a4⟩ := L
  obtain rfl : f = fa := by
    have z := PySem.W.mg_of kin gl a1
    rw [hmg] at z
    cases z
    rfl
  refine ⟨csOf ts, fun p hp => ?_, fun p hp => ?_, fun p hp => ?_, fun base s a vs ns b1 b2 b3 b4 b5 hl _ => ?_⟩
  · obtain ⟨t, ht, rfl⟩ := List.mem_map.mp hp
    obtain ⟨⟨f', o', fd', m1, m2, m3, m4⟩, ⟨e, dd, us, sl, t1, t2⟩, -, -⟩ := tk t ht
    exact own t ht f' (PySem.W.mg_of kin gl m1) _ _ _ _ e dd us sl m2 m3 m4 t1 t2
  · obtain ⟨t, ht, rfl⟩ := List.mem_map.mp hp
    exact (tk t ht).nP
  · obtain ⟨t, ht, rfl⟩ := List.mem_map.mp hp
    exact PySem.W.codeHd_of_K kin (tk t ht).hd
  · obtain ⟨g1, g2, pg, bg, sg, dV', kV', doc', pm', cdv', ct', oc', an', od', osl', h0, hds, q1, q2, q3, q4, k1, k2, k3, k4, k5, k6, k7, k8⟩ := T
    obtain ⟨ds, hd⟩ := dig ns hl
    obtain ⟨S2, hr⟩ := law ns ds
    have sr := startSR (K := K) (g := gxOf ts cl) (cs := csOf ts) (a := a) (vs := vs) (ns := ns) fun p hp => by
      obtain ⟨t, ht, rfl⟩ := List.mem_map.mp hp
      exact ⟨(t.2.1, t.2.2), List.mem_map.mpr ⟨t, ht, rfl⟩, rfl⟩
    have rep : repL (repA K) ⟨0, false, startF K (csOf ts) a vs ns, startH K (csOf ts) a vs ns⟩ (startF K (csOf ts) a vs ns) (startH K (csOf ts) a vs ns) [.ref a] [.d (.list (ns.map .int))] := ⟨rfl, fun i v x e1 e2 => by
      cases i with
      | zero =>
        cases e1
        cases e2
        exact .lst (start_seq b5) (ints_dp ns)
      | succ i => simp at e1⟩
    have ent := sr.enter (N := N) rep
    refine LamX.run_ofS (N := N) (ps := ["script"]) (us := [.ref a]) (vs := [.ref a]) a2 a3 S room b4 (.of_eq (bind kV dc pm cd ct an [.ref a] rfl)) (.cons rfl .nil) rfl fun hr' => ?_
    have fx : Fx (cxOf (L2.CX l.prog w) l.prog w K mg base N "law" (defScope st) f cd callerA [] s (startH K (csOf ts) a vs ns) fun _ _ _ => False) (gxOf ts cl) (fun cls d _ H => (fun _ _ _ => False : XK) cls d H) (mkCt N (defScope st) fs xs k true []) :=
      ⟨glo_of (hF base b1 b2 b3) (hX base) bl, rfl, S.nd, rfl, rfl, fun _ => rfl, hr', fun _ _ _ => .inl rfl, takes_of rfl rfl rfl rfl⟩
    have told : TOk (cxOf (L2.CX l.prog w) l.prog w K mg base N "law" (defScope st) f cd callerA [] s (startH K (csOf ts) a vs ns) fun _ _ _ => False) (gxOf ts cl) (fun cls d _ H => (fun _ _ _ => False : XK) cls d H) (mkCt N (defScope st) fs xs k true []) := fun x hh hx => by cases hx
    have F : Fs (cxOf (L2.CX l.prog w) l.prog w K mg base N "law" (defScope st) f cd callerA [] s (startH K (csOf ts) a vs ns) fun _ _ _ => False) (gxOf ts cl) (fun cls d _ H => (fun _ _ _ => False : XK) cls d H) (mkCt N (defScope st) fs xs k true []) := ⟨fx, told, passes_of rfl, S.kind⟩
    rw [body]
    have e1 := (cX_ok fuel _ _ _ fx told (.Call (.Name "_law_digits" p1) [.Name "script" p2, .Constant (.int 0) j1 p3, .Constant (.int 63) j2 p4] [] p5)).e
    rw [h1] at e1
    refine law_body (S := ⟨[Arg.d (.list (ns.map .int))].map slotA ++ List.replicate (N.length - 1) DV.un, none⟩) (S1 := ⟨[Arg.d (.list (ns.map .int))].map slotA ++ List.replicate (N.length - 1) DV.un, none⟩) F hi (by rfl) e1 (sAll_ok (cS_ok F fuel) rest) ?_ ?_ rfl (by rw [h2]; exact hr) ent
    · show (if 3 = fe.ar then _ else _) = _
      rw [if_pos har.symm]
      show (match fe.fm [.d (.list (ns.map .int)), .d (.int 0), .d (.int 63)] none with | .ret d bx' => _ | .exc x d bx' => _ | .stuck => _) = _
      rw [hd]
    · intro i d z
      have z : ([DV.sh (.list (ns.map .int))] ++ List.replicate (N.length - 1) DV.un)[i]? = some (.ow d) := z
      cases i with
      | zero => cases z
      | succ i =>
        rw [List.getElem?_append_right (by simp), List.getElem?_replicate] at z
        split at z <;> cases z
end Gl

set_option maxRecDepth 100000
set_option maxHeartbeats 1000000
/-! The plain tools: how what the general layer tells is worked out. -/
namespace Gl
open PySem PySem.Spec PyProof.Rows L2
variable {α β : Type}
@[simp] theorem z_ok {a : α} {s : Sto} {k : α → Sto → R β} : (R.ok a s).bind k = k a s := Eq.trans rfl rfl
@[simp] theorem z_exc {c : Nat} {d : D} {b : Bx} {k : α → Sto → R β} : (R.exc c d b).bind k = .exc c d b := Eq.trans rfl rfl
@[simp] theorem z_bind {m : M α} {k : α → M β} {S : Sto} : M.bind m k S = (m S).bind k := Eq.trans rfl rfl
@[simp] theorem z_some {a : α} {S : Sto} : ofO (some a) S = .ok a S := Eq.trans rfl rfl
@[simp] theorem z_c {a : α} {S : Sto} : mC a S = .ok a S := Eq.trans rfl rfl
@[simp] theorem z_nil {S : Sto} : mSeq ([] : List (M α)) S = .ok [] S := Eq.trans rfl rfl
@[simp] theorem z_cons {m : M α} {ms : List (M α)} {S : Sto} : mSeq (m :: ms) S = (m S).bind fun a S1 => (mSeq ms S1).bind fun as S2 => .ok (a :: as) S2 := Eq.trans rfl rfl
@[simp] theorem z_op2 {f : D → D → Option D} {ma mb : M D} {S : Sto} : mOp2 f ma mb S = (ma S).bind fun x S1 => (mb S1).bind fun y S2 => ofO (f x y) S2 := Eq.trans rfl rfl
@[simp] theorem z_op1 {f : D → Option D} {ma : M D} {S : Sto} : mOp1 f ma S = (ma S).bind fun x S1 => ofO (f x) S1 := Eq.trans rfl rfl
@[simp] theorem z_cmp {f : D → D → Option Bool} {ma mb : M D} {S : Sto} : mCmp f ma mb S = (ma S).bind fun x S1 => (mb S1).bind fun y S2 => ofO (f x y) S2 := Eq.trans rfl rfl
@[simp] theorem z_bl {m : M Bool} {S : Sto} : mBl m S = (m S).bind fun k S1 => .ok (.bool k) S1 := Eq.trans rfl rfl
@[simp] theorem z_chain {f f' : D → D → Option Bool} {ma mb mc : M D} {S : Sto} : mChain f f' ma mb mc S = (ma S).bind fun x S1 => (mb S1).bind fun y S2 => (ofO (f x y) S2).bind fun k S3 => (if k then mc.bind fun z => ofO (f' y z) else mC false) S3 := Eq.trans rfl rfl
@[simp] theorem z_tru {m : M D} {S : Sto} : mTru m S = (m S).bind fun x S1 => ofO (truD x) S1 := Eq.trans rfl rfl
@[simp] theorem z_andV {ma mb : M D} {S : Sto} : mAndV ma mb S = (ma S).bind fun x S1 => (ofO (truD x) S1).bind fun k S2 => (if k then mb else mC x) S2 := Eq.trans rfl rfl
@[simp] theorem z_orV {ma mb : M D} {S : Sto} : mOrV ma mb S = (ma S).bind fun x S1 => (ofO (truD x) S1).bind fun k S2 => (if k then mC x else mb) S2 := Eq.trans rfl rfl
@[simp] theorem z_notV {ma : M D} {S : Sto} : mNotV ma S = (ma S).bind fun x S1 => (ofO (truD x) S1).bind fun k S2 => .ok (.bool (!k)) S2 := Eq.trans rfl rfl
@[simp] theorem z_andT {ma mb : M Bool} {S : Sto} : mAndT ma mb S = (ma S).bind fun k S1 => (if k then mb else mC false) S1 := Eq.trans rfl rfl
@[simp] theorem z_orT {ma mb : M Bool} {S : Sto} : mOrT ma mb S = (ma S).bind fun k S1 => (if k then mC true else mb) S1 := Eq.trans rfl rfl
@[simp] theorem z_notT {ma : M Bool} {S : Sto} : mNotT ma S = (ma S).bind fun k S1 => .ok (!k) S1 := Eq.trans rfl rfl
@[simp] theorem z_if {c : M Bool} {ma mb : M α} {S : Sto} : mIf c ma mb S = (c S).bind fun k S1 => (if k then ma else mb) S1 := Eq.trans rfl rfl
@[simp] theorem z_argE {m : M D} {S : Sto} : mArgE m S = (m S).bind fun d S1 => .ok (.d d) S1 := Eq.trans rfl rfl
@[simp] theorem z_items {m : M D} {S : Sto} : mItems m S = (m S).bind fun d S1 => ofO (itemsOf d) S1 := Eq.trans rfl rfl
@[simp] theorem z_range {m : M (List D)} {S : Sto} : mRange m S = (m S).bind fun d S1 => ofO (rangeOf d) S1 := Eq.trans rfl rfl
@[simp] theorem z_zip {m : M (List D)} {S : Sto} : mZip m S = (m S).bind fun d S1 => ofO (zipOf d) S1 := Eq.trans rfl rfl
@[simp] theorem z_enum {m : M (List D)} {S : Sto} : mEnum m S = (m S).bind fun d S1 => ofO (enumOf d) S1 := Eq.trans rfl rfl
theorem sumOk_lt {n : Nat} (h : n ≤ 16777216) : sumOk n = true := decide_eq_true h
@[simp] theorem z_tup {ms : List (M D)} {S : Sto} : mTup ms S = (mSeq ms S).bind fun ds S1 => (if sumOk ds.length then mC (.tuple ds) else fun _ => .stuck) S1 := Eq.trans rfl rfl
@[simp] theorem z_lst {ms : List (M D)} {S : Sto} : mLst ms S = (mSeq ms S).bind fun ds S1 => (if sumOk ds.length then mC (.list ds) else fun _ => .stuck) S1 := Eq.trans rfl rfl
theorem v_sh {i : Nat} {S : Sto} {d : D} (h : S.sl[i]? = some (.sh d)) : mVar i S = .ok d S := by unfold mVar; rw [h]
theorem p_sh {i : Nat} {S : Sto} {d : D} (h : S.sl[i]? = some (.sh d)) : mPeek i S = .ok d S := by unfold mPeek; rw [h]
theorem a_sh {i : Nat} {S : Sto} {d : D} (h : S.sl[i]? = some (.sh d)) : mArgV i S = .ok (.d d) S := by unfold mArgV; rw [h]
theorem v_ow {i : Nat} {S : Sto} {d : D} (h : S.sl[i]? = some (.ow d)) : mVar i S = .ok d (share S i d) := by unfold mVar; rw [h]
theorem p_ow {i : Nat} {S : Sto} {d : D} (h : S.sl[i]? = some (.ow d)) : mPeek i S = .ok d S := by unfold mPeek; rw [h]
theorem a_bx {i : Nat} {S : Sto} (h : S.sl[i]? = some .bx) : mArgV i S = .ok .box S := by unfold mArgV; rw [h]
@[simp] theorem z_toO {a : α} {s : Sto} {k : α → Sto → O} : (R.ok a s).toO k = k a s := Eq.trans rfl rfl
@[simp] theorem z_toOe {c : Nat} {d : D} {b : Bx} {k : α → Sto → O} : (R.exc c d b : R α).toO k = .exc c d b := Eq.trans rfl rfl
@[simp] theorem z_onext {s : Sto} {k : Sto → O} : (O.next s).bind k = k s := Eq.trans rfl rfl
@[simp] theorem z_oret {d : D} {s : Sto} {k : Sto → O} : (O.ret d s).bind k = .ret d s := Eq.trans rfl rfl
@[simp] theorem z_oexc {c : Nat} {d : D} {b : Bx} {k : Sto → O} : (O.exc c d b).bind k = .exc c d b := Eq.trans rfl rfl
@[simp] theorem z_next {S : Sto} : sNext S = .next S := Eq.trans rfl rfl
@[simp] theorem z_seq {m n : MS} {S : Sto} : sSeq m n S = (m S).bind n := Eq.trans rfl rfl
@[simp] theorem z_e {m : M α} {k : α → MS} {S : Sto} : sE m k S = (m S).toO k := Eq.trans rfl rfl
@[simp] theorem z_set {i : Nat} {d : D} {S : Sto} : sSet i d S = .next ⟨S.sl.set i (.sh d), S.bx⟩ := Eq.trans rfl rfl
@[simp] theorem z_ret {m : M D} {S : Sto} : sRet m S = (m S).toO fun d S1 => .ret d S1 := Eq.trans rfl rfl
@[simp] theorem z_sif {m : M Bool} {a b : MS} {S : Sto} : sIf m a b S = (m S).toO fun k S1 => (if k then a else b) S1 := Eq.trans rfl rfl
@[simp] theorem z_raise {n : Nat} {m : M D} {S : Sto} : sRaise n m S = (m S).toO fun d S1 => .exc n d S1.bx := Eq.trans rfl rfl
@[simp] theorem z_for {mi : M (List D)} {st : Tgt} {mb : MS} {S : Sto} : sFor mi st mb S = (mi S).toO fun ds => loopF st mb ds := Eq.trans rfl rfl
@[simp] theorem z_ite {k : Prop} [Decidable k] {a b : Sto → β} {S : Sto} : (if k then a else b) S = if k then a S else b S := by split <;> rfl
theorem store2 {i j : Nat} {x y : D} {sl : List DV} {bx : Bx} : sStore (stTup 2 (stCons (stName i) (stCons (stName j) stNil))) (.tuple [x, y]) ⟨sl, bx⟩ = .next ⟨(sl.set i (.sh x)).set j (.sh y), bx⟩ := rfl
/-! calls -/
theorem call_ret {e : FnE} {ms : M (List Arg)} {S S1 : Sto} {as : List Arg} {d : D} {bx' : Bx} (h1 : ms S = .ok as S1) (h2 : as.length = e.ar) (h3 : e.fm as S1.bx = .ret d bx') : mCall e ms S = .ok d { S1 with bx := bx' } := by
  unfold mCall M.bind
  rw [h1]
  show (if as.length = e.ar then _ else _) = _
  rw [if_pos h2, h3]
theorem call_exc {e : FnE} {ms : M (List Arg)} {S S1 : Sto} {as : List Arg} {c : Nat} {d : D} {bx' : Bx} (h1 : ms S = .ok as S1) (h2 : as.length = e.ar) (h3 : e.fm as S1.bx = .exc c d bx') : mCall e ms S = .exc c d bx' := by
  unfold mCall M.bind
  rw [h1]
  show (if as.length = e.ar then _ else _) = _
  rw [if_pos h2, h3]
/-- what a call does with what the function gives -/
def goR (S1 : Sto) : Res → R D
  | .ret d bx' => .ok d { S1 with bx := bx' }
  | .exc x d bx' => .exc x d bx'
  | .stuck => .stuck
@[simp] theorem goR_ret {S : Sto} {d : D} {b : Bx} : goR S (.ret d b) = .ok d ⟨S.sl, b⟩ := Eq.trans rfl rfl
@[simp] theorem goR_exc {S : Sto} {c : Nat} {d : D} {b : Bx} : goR S (.exc c d b) = .exc c d b := Eq.trans rfl rfl
@[simp] theorem z_call {e : FnE} {ms : M (List Arg)} {S : Sto} : mCall e ms S = (ms S).bind fun as S1 => if as.length = e.ar then goR S1 (e.fm as S1.bx) else .stuck := Eq.trans rfl rfl
theorem fm_ret {f : FM} {n N : Nat} {m : MS} {as : List Arg} {bx bx' : Bx} {d : D} {S : Sto} (he : f = fmOf n N m) (hl : as.length = n) (h : m ⟨as.map slotA ++ List.replicate (N - n) DV.un, bx⟩ = .ret d S) (hS : S.bx = bx') : f as bx = .ret d bx' := by
  rw [he]
  unfold fmOf
  rw [if_pos hl, h, ← hS]
theorem fm_next {f : FM} {n N : Nat} {m : MS} {as : List Arg} {bx bx' : Bx} {S : Sto} (he : f = fmOf n N m) (hl : as.length = n) (h : m ⟨as.map slotA ++ List.replicate (N - n) DV.un, bx⟩ = .next S) (hS : S.bx = bx') : f as bx = .ret .none bx' := by
  rw [he]
  unfold fmOf
  rw [if_pos hl, h, ← hS]
theorem fm_exc {f : FM} {n N : Nat} {m : MS} {as : List Arg} {bx b : Bx} {c : Nat} {d : D} (he : f = fmOf n N m) (hl : as.length = n) (h : m ⟨as.map slotA ++ List.replicate (N - n) DV.un, bx⟩ = .exc c d b) : f as bx = .exc c d b := by
  rw [he]
  unfold fmOf
  rw [if_pos hl, h]
/-! arithmetic -/
theorem modD_pos {i j : Int} (h : 0 < j) : modD (.int i) (.int j) = some (.int (i % j)) := by
  show (if j ≠ 0 then _ else _) = _
  rw [if_pos (by omega), Int.fmod_eq_emod_of_nonneg i (by omega)]
theorem fdivD_pos {i j : Int} (h : 0 < j) (h2 : j < 1073741824) : fdivD (.int i) (.int j) = some (.int (i / j)) := by
  show (if divOk j = true then _ else _) = _
  rw [if_pos, Int.fdiv_eq_ediv_of_nonneg i (by omega)]
  unfold divOk
  simp only [Bool.and_eq_true, Bool.or_eq_true, decide_eq_true_eq]
  exact ⟨by omega, .inl (by omega)⟩
theorem mulD_ok {i j : Int} (h : i.natAbs < 2 ^ 64 ∨ j.natAbs < 2 ^ 64) : mulD (.int i) (.int j) = some (.int (i * j)) := by
  show (if mulOk i j = true then _ else _) = _
  rw [if_pos]
  unfold mulOk
  simp only [Bool.or_eq_true, decide_eq_true_eq]
  rcases h with h | h
  · exact .inl (.inl h)
  · exact .inl (.inr h)
@[simp] theorem z_add {i j : Int} : addD (.int i) (.int j) = some (.int (i + j)) := Eq.trans rfl rfl
@[simp] theorem z_sub {i j : Int} : subD (.int i) (.int j) = some (.int (i - j)) := Eq.trans rfl rfl
@[simp] theorem z_neg {i : Int} : negD (.int i) = some (.int (-i)) := Eq.trans rfl rfl
@[simp] theorem z_abs {i : Int} : absD (.int i) = some (.int (i.natAbs : Int)) := by
  show some (PyData.int (if i < 0 then -i else i)) = _
  congr 2
  split <;> omega
@[simp] theorem z_int {i : Int} : intD (.int i) = some (.int i) := Eq.trans rfl rfl
@[simp] theorem z_tlist {ds : List D} : tupleD (.list ds) = some (.tuple ds) := Eq.trans rfl rfl
@[simp] theorem z_ttup {ds : List D} : tupleD (.tuple ds) = some (.tuple ds) := Eq.trans rfl rfl
@[simp] theorem z_llist {ds : List D} : lenD (.list ds) = some (.int ds.length) := Eq.trans rfl rfl
@[simp] theorem z_ltup {ds : List D} : lenD (.tuple ds) = some (.int ds.length) := Eq.trans rfl rfl
@[simp] theorem z_ilist {ds : List D} : itemsOf (.list ds) = some ds := Eq.trans rfl rfl
@[simp] theorem z_itup {ds : List D} : itemsOf (.tuple ds) = some ds := Eq.trans rfl rfl
@[simp] theorem z_tint {i : Int} : truD (.int i) = some (i != 0) := Eq.trans rfl rfl
@[simp] theorem z_tbool {i : Bool} : truD (.bool i) = some i := Eq.trans rfl rfl
@[simp] theorem z_le {i j : Int} : leD (.int i) (.int j) = some (decide (i ≤ j)) := Eq.trans rfl rfl
@[simp] theorem z_ge {i j : Int} : geD (.int i) (.int j) = some (decide (j ≤ i)) := Eq.trans rfl rfl
@[simp] theorem z_gt {i j : Int} : gtD (.int i) (.int j) = some (decide (j < i)) := Eq.trans rfl rfl
@[simp] theorem z_lt {i j : Int} : ltD (.int i) (.int j) = some (decide (i < j)) := Eq.trans rfl rfl
theorem shp_int (i : Int) : shp (.int i) = true := rfl
@[simp] theorem z_eq {i j : Int} : eqD (.int i) (.int j) = some (decide (i = j)) := by
  show (if (shp (.int i) && shp (.int j)) = true then some (PyData.eqv (.int i) (.int j)) else none) = _
  rw [shp_int, shp_int, PyData.eqv]
  rfl
@[simp] theorem z_ne {i j : Int} : neD (.int i) (.int j) = some (!decide (i = j)) := by
  show (if (shp (.int i) && shp (.int j)) = true then some (!PyData.eqv (.int i) (.int j)) else none) = _
  rw [shp_int, shp_int, PyData.eqv]
  rfl
/-! loops -/
theorem loopF_next {st : Tgt} {mb : MS} {d : D} {ds : List D} {S S' : Sto} {sl' : List DV} (e : st d S.sl = some sl') (e2 : mb { S with sl := sl' } = .next S') : loopF st mb (d :: ds) S = loopF st mb ds S' := by
  simp only [loopF, e, e2]
theorem loopF_out {st : Tgt} {mb : MS} {d : D} {ds : List D} {S S' : Sto} {r : D} {sl' : List DV} (e : st d S.sl = some sl') (e2 : mb { S with sl := sl' } = .ret r S') : loopF st mb (d :: ds) S = .ret r S' := by
  simp only [loopF, e, e2]
theorem loopF_ret {P : Nat → Sto → Prop} {Q : D → Sto → Prop} {st : Tgt} {mb : MS} : ∀ {ds : List D} {n : Nat} {S : Sto}, (∀ i d S, ds[i]? = some d → P (n + i) S → ∃ sl', st d S.sl = some sl' ∧ ((∃ S', mb { S with sl := sl' } = .next S' ∧ P (n + i + 1) S') ∨ ∃ r S', mb { S with sl := sl' } = .ret r S' ∧ Q r S')) →
    P n S → (∃ S', loopF st mb ds S = .next S' ∧ P (n + ds.length) S') ∨ ∃ r S', loopF st mb ds S = .ret r S' ∧ Q r S'
  | [], n, S, _, p => .inl ⟨S, rfl, p⟩
  | d :: ds, n, S, h, p => by
    obtain ⟨sl', e, k⟩ := h 0 d S rfl p
    rcases k with ⟨S', e2, p2⟩ | ⟨r, S', e2, q⟩
    · rw [loopF_next e e2]
      have := loopF_ret (P := P) (Q := Q) (st := st) (mb := mb) (ds := ds) (n := n + 1) (S := S') (fun i d S e p => by
        have z := h (i + 1) d S e (by rw [show n + (i + 1) = n + 1 + i by omega]; exact p)
        rwa [show n + (i + 1) = n + 1 + i by omega] at z) p2
      rwa [show n + (d :: ds).length = n + 1 + ds.length by rw [List.length_cons]; omega]
    · rw [loopF_out e e2]
      exact .inr ⟨r, S', rfl, q⟩
theorem loopF_inv {P : Nat → Sto → Prop} {st : Tgt} {mb : MS} {ds : List D} {S : Sto} (h : ∀ i d S, ds[i]? = some d → P i S → ∃ sl' S', st d S.sl = some sl' ∧ mb { S with sl := sl' } = .next S' ∧ P (i + 1) S') (p : P 0 S) : ∃ S', loopF st mb ds S = .next S' ∧ P ds.length S' := by
  rcases loopF_ret (P := P) (Q := fun _ _ => False) (n := 0) (st := st) (mb := mb) (fun i d S e p => by
    rw [Nat.zero_add] at p ⊢
    obtain ⟨sl', S', a, b, c⟩ := h i d S e p
    exact ⟨sl', a, .inl ⟨S', b, c⟩⟩) p with ⟨S', a, b⟩ | ⟨_, _, _, q⟩
  · exact ⟨S', a, by rwa [Nat.zero_add] at b⟩
  · exact q.elim
/-- a loop that walks a list and leaves the slots as a function of what it has seen -/
theorem loopF_fold {γ δ : Type} {st : Tgt} {mb : MS} {P : γ → Prop} (g : δ → D) (f : γ → δ → γ) (ab : γ → Sto) : ∀ {l : List δ} {c : γ}, (∀ x ∈ l, ∀ c, P c → ∃ sl', st (g x) (ab c).sl = some sl' ∧ mb { ab c with sl := sl' } = .next (ab (f c x)) ∧ P (f c x)) → P c → loopF st mb (l.map g) (ab c) = .next (ab (l.foldl f c)) ∧ P (l.foldl f c)
  | [], c, _, p => ⟨rfl, p⟩
  | x :: l, c, h, p => by
    obtain ⟨sl', e, e2, p2⟩ := h x (by simp) c p
    rw [List.map_cons, loopF_next e e2]
    exact loopF_fold g f ab (fun y hy => h y (List.mem_cons_of_mem _ hy)) p2
theorem loopW_inv {P Q : Sto → Prop} {mc : M Bool} {mb : MS} (μ : Sto → Nat) (h : ∀ S, P S → (∃ S1, mc S = .ok false S1 ∧ Q S1) ∨ ∃ S1 S2, mc S = .ok true S1 ∧ mb S1 = .next S2 ∧ P S2 ∧ μ S2 < μ S) : ∀ (n : Nat) (S : Sto), μ S < n → P S → ∃ S', loopW mc mb n S = .next S' ∧ Q S'
  | 0, _, z, _ => absurd z (Nat.not_lt_zero _)
  | n + 1, S, z, p => by
    rcases h S p with ⟨S1, e, q⟩ | ⟨S1, S2, e, e2, p2, m⟩
    · exact ⟨S1, by simp only [loopW, e], q⟩
    · rw [show loopW mc mb (n + 1) S = loopW mc mb n S2 by simp only [loopW, e, e2]]
      exact loopW_inv μ h n S2 (by omega) p2
theorem while_inv {P Q : Sto → Prop} {mc : M Bool} {mb : MS} {S : Sto} (μ : Sto → Nat) (h : ∀ S, P S → (∃ S1, mc S = .ok false S1 ∧ Q S1) ∨ ∃ S1 S2, mc S = .ok true S1 ∧ mb S1 = .next S2 ∧ P S2 ∧ μ S2 < μ S) (p : P S) : ∃ S', sWhile mc mb S = .next S' ∧ Q S' := by
  obtain ⟨S', e, q⟩ := loopW_inv μ h (μ S + 1) S (by omega) p
  exact ⟨S', sWhile_eq e (by intro z; cases z), q⟩
@[simp] theorem js_nil {S : Sto} : shareJs S [] = S := rfl
@[simp] theorem js_cons {S : Sto} {j : Nat} {js : List Nat} : shareJs S (j :: js) = shareJs (shareJ S j) js := rfl
theorem j_sh {S : Sto} {j : Nat} (h : ∀ d, S.sl[j]? ≠ some (.ow d)) : shareJ S j = S := by
  unfold shareJ
  split
  · next d e => exact absurd e (h d)
  · rfl
abbrev tI (l : List Int) : D := .tuple (l.map .int)
abbrev lI (l : List Int) : D := .list (l.map .int)
theorem at_ints {l : List Int} {i : Nat} {x : Int} (h : l[i]? = some x) : ixD (tI l) (.int (i : Nat)) = some (.int x) := by
  have hl := (List.getElem?_eq_some_iff.mp h).1
  show atI (l.map PyData.int) ((i : Nat) : Int) = _
  unfold atI ixN
  rw [List.length_map, if_pos (by omega), if_pos (by omega)]
  show (l.map PyData.int)[((i : Nat) : Int).toNat]? = _
  rw [Int.toNat_natCast, List.getElem?_map, h]
  rfl
/-! comprehensions -/
theorem compL_pure {sl : List DV} {st : Tgt} {mt : M Bool} {me : M D} {bx : Bx} (p : D → Bool) (f : D → D) : ∀ {ds : List D}, (∀ d ∈ ds, ∃ sl' S1, st d sl = some sl' ∧ mt ⟨sl', bx⟩ = .ok (p d) S1 ∧ S1.bx = bx ∧ (p d = true → ∃ S2, me S1 = .ok (f d) S2 ∧ S2.bx = bx)) → compL sl st mt me ds bx = some ((ds.filter p).map f, bx)
  | [], _ => rfl
  | d :: ds, h => by
    obtain ⟨sl', S1, e1, e2, e3, e4⟩ := h d (by simp)
    have ih := compL_pure p f (ds := ds) fun d hd => h d (List.mem_cons_of_mem _ hd)
    cases hp : p d with
    | false =>
      rw [hp] at e2
      simp only [compL, e1, Option.bind_some, e2, e3, ih]
      rw [List.filter_cons_of_neg (by rw [hp]; simp)]
    | true =>
      obtain ⟨S2, e5, e6⟩ := e4 hp
      rw [hp] at e2
      simp only [compL, e1, Option.bind_some, e2, e5, e6, ih]
      rw [List.filter_cons_of_pos hp]
      rfl
theorem compL_inv {sl : List DV} {st : Tgt} {mt : M Bool} {me : M D} {B : Nat → Bx → Prop} {G : D → Prop} {K : Nat} : ∀ {ds : List D} {k : Nat} {bx : Bx}, (∀ d ∈ ds, ∀ k bx, k < K → B k bx → ∃ sl' S1 y S2, st d sl = some sl' ∧ mt ⟨sl', bx⟩ = .ok true S1 ∧ me S1 = .ok y S2 ∧ G y ∧ B (k + 1) S2.bx) → B k bx → k + ds.length ≤ K → ∃ ys bx', compL sl st mt me ds bx = some (ys, bx') ∧ ys.length = ds.length ∧ (∀ y ∈ ys, G y) ∧ B (k + ds.length) bx'
  | [], k, bx, _, hb, _ => ⟨[], bx, rfl, rfl, by simp, hb⟩
  | d :: ds, k, bx, h, hb, hk => by
    rw [List.length_cons] at hk
    obtain ⟨sl', S1, y, S2, e1, e2, e3, g, b⟩ := h d (by simp) k bx (by omega) hb
    obtain ⟨ys, bx', e4, e5, e6, e7⟩ := compL_inv (ds := ds) (k := k + 1) (bx := S2.bx) (fun d hd => h d (List.mem_cons_of_mem _ hd)) b (by omega)
    refine ⟨y :: ys, bx', ?_, by simp [e5], by simpa using ⟨g, e6⟩, by rw [List.length_cons, show k + (ds.length + 1) = k + 1 + ds.length by omega]; exact e7⟩
    simp only [compL, e1, Option.bind_some, e2, e3, e4]
    rfl
theorem comp_of {js vs : List Nat} {mi : M (List D)} {st : Tgt} {mt : M Bool} {me : M D} {S S1 : Sto} {ds ys : List D} {bx' : Bx} (hi : mi S = .ok ds S1) (h : compL (wipeD ((shareJs S1 js).sl.map hideD) vs) st mt me ds (shareJs S1 js).bx = some (ys, bx')) (hl : ys.length ≤ 16777216) : mComp js vs mi st mt me S = .ok (.list ys) ⟨(shareJs S1 js).sl, bx'⟩ := by
  unfold mComp M.bind
  rw [hi]
  simp only [z_ok, h, if_pos (sumOk_lt hl)]
theorem comp_pure {γ : Type} {js vs : List Nat} {mi : M (List D)} {st : Tgt} {mt : M Bool} {me : M D} {S S1 S2 : Sto} {l : List γ} {ys : List D} (g : γ → D) (p : γ → Bool) (f : γ → D) (hi : mi S = .ok (l.map g) S1) (hS : shareJs S1 js = S2)
    (h : ∀ x ∈ l, ∃ sl' T1, st (g x) (wipeD (S2.sl.map hideD) vs) = some sl' ∧ mt ⟨sl', S2.bx⟩ = .ok (p x) T1 ∧ T1.bx = S2.bx ∧ (p x = true → ∃ T2, me T1 = .ok (f x) T2 ∧ T2.bx = S2.bx)) (hl : l.length ≤ 16777216) (hy : (l.filter p).map f = ys) : mComp js vs mi st mt me S = .ok (.list ys) S2 := by
  have key : ∀ (l : List γ), (∀ x ∈ l, ∃ sl' T1, st (g x) (wipeD (S2.sl.map hideD) vs) = some sl' ∧ mt ⟨sl', S2.bx⟩ = .ok (p x) T1 ∧ T1.bx = S2.bx ∧ (p x = true → ∃ T2, me T1 = .ok (f x) T2 ∧ T2.bx = S2.bx)) → compL (wipeD (S2.sl.map hideD) vs) st mt me (l.map g) S2.bx = some ((l.filter p).map f, S2.bx) := by
    intro l
    induction l with
    | nil => exact fun _ => rfl
    | cons x l ih =>
      intro h
      obtain ⟨sl', T1, e1, e2, e3, e4⟩ := h x (by simp)
      have ih := ih fun y hy => h y (List.mem_cons_of_mem _ hy)
      cases hp : p x with
      | false =>
        rw [hp] at e2
        simp only [List.map_cons, compL, e1, Option.bind_some, e2, e3, ih]
        rw [List.filter_cons_of_neg (by rw [hp]; simp)]
      | true =>
        obtain ⟨T2, e5, e6⟩ := e4 hp
        rw [hp] at e2
        simp only [List.map_cons, compL, e1, Option.bind_some, e2, e5, e6, ih]
        rw [List.filter_cons_of_pos hp]
        rfl
  have hc := key l h
  rw [← hS] at hc
  rw [← hy, comp_of hi hc (by rw [List.length_map]; exact Nat.le_trans (List.length_filter_le ..) hl), hS]
theorem comp_draw {γ : Type} {js vs : List Nat} {mi : M (List D)} {st : Tgt} {mt : M Bool} {me : M D} {S S1 S2 : Sto} {l : List γ} (g : γ → D) {B : Nat → Bx → Prop} {G : D → Prop} (hi : mi S = .ok (l.map g) S1) (hS : shareJs S1 js = S2) (hb : B 0 S2.bx)
    (h : ∀ x ∈ l, ∀ k bx, k < l.length → B k bx → ∃ sl' T1 y T2, st (g x) (wipeD (S2.sl.map hideD) vs) = some sl' ∧ mt ⟨sl', bx⟩ = .ok true T1 ∧ me T1 = .ok y T2 ∧ G y ∧ B (k + 1) T2.bx) (hl : l.length ≤ 16777216) : ∃ ys bx', mComp js vs mi st mt me S = .ok (.list ys) ⟨S2.sl, bx'⟩ ∧ ys.length = l.length ∧ (∀ y ∈ ys, G y) ∧ B l.length bx' := by
  obtain ⟨ys, bx', e1, e2, e3, e4⟩ := compL_inv (sl := wipeD (S2.sl.map hideD) vs) (st := st) (mt := mt) (me := me) (B := B) (G := G) (K := l.length) (ds := l.map g) (k := 0) (bx := S2.bx) (fun d hd k bx hk hb => by
    obtain ⟨x, hx, rfl⟩ := List.mem_map.mp hd
    exact h x hx k bx hk hb) hb (by rw [List.length_map]; omega)
  rw [List.length_map] at e2 e4
  rw [← hS] at e1
  rw [Nat.zero_add] at e4
  exact ⟨ys, bx', by rw [comp_of hi e1 (by omega), hS], e2, e3, e4⟩
theorem ints_of {P : Int → Prop} : ∀ {ys : List D}, (∀ y ∈ ys, ∃ x : Int, y = .int x ∧ P x) → ∃ xs : List Int, ys = xs.map .int ∧ ∀ x ∈ xs, P x
  | [], _ => ⟨[], rfl, by simp⟩
  | y :: ys, h => by
    obtain ⟨x, rfl, px⟩ := h y (by simp)
    obtain ⟨xs, e, p⟩ := ints_of (ys := ys) fun y hy => h y (List.mem_cons_of_mem _ hy)
    exact ⟨x :: xs, by rw [e]; rfl, by simpa using ⟨px, p⟩⟩
theorem bools_map {γ : Type} (p : γ → Bool) : ∀ l : List γ, boolsOf (l.map fun x => .bool (p x)) = some (l.map p)
  | [] => rfl
  | x :: l => by
    show (boolsOf (l.map fun x => .bool (p x))).map (p x :: ·) = _
    rw [bools_map p l]
    rfl
theorem all_map {γ : Type} (p : γ → Bool) (l : List γ) : allD (.list (l.map fun x => .bool (p x))) = some (.bool (l.all p)) := by
  show (boolsOf _).map _ = _
  rw [bools_map]
  show some (PyData.bool ((l.map p).all id)) = _
  rw [List.all_map]
  rfl
theorem range1 {j : Int} (h : 0 ≤ j) (h2 : j < 2 ^ 62) : rangeOf [.int j] = some ((List.range j.toNat).map fun i => .int (i : Nat)) := by
  show (if in62 j = true then _ else _) = _
  rw [if_pos]
  · congr 1
    unfold rangeD
    congr 1
    funext i
    simp
  · unfold in62
    simp only [Bool.and_eq_true, decide_eq_true_eq]
    omega
theorem range2 {i j : Int} (h : 0 ≤ i) (h' : i < 2 ^ 62) (h2 : 0 ≤ j) (h3 : j < 2 ^ 62) : rangeOf [.int i, .int j] = some ((List.range (j - i).toNat).map fun k => .int (i + (k : Nat))) := by
  show (if (in62 i && in62 j) = true then _ else _) = _
  rw [if_pos]
  · congr 1
    unfold rangeD
    congr 1
    funext i
    simp
  · unfold in62
    simp only [Bool.and_eq_true, decide_eq_true_eq]
    omega
end Gl

set_option maxRecDepth 100000
set_option maxHeartbeats 1000000
/-! What the helpers that every law shares work out to. -/
namespace Gl
open PySem PySem.Spec PyProof.Rows L2
def b_digits_1 : MS := (sSeq (sIf (mCmp gtD (mPeek 5) (mC (.int 0))) (sSeq (sAppend 3 (mOp2 modD (mOp1 intD (mPeek 5)) (mC (.int 1009)))) (sSeq (sE (mOp2 fdivD (mPeek 5) (mC (.int 1009))) (sSet 5)) sNext)) sNext) sNext)
def f_digits_2 : MS := (sFor (mRange (mSeq [(mC (.int 60))])) (stName 6) b_digits_1)
def b_digits_3 : MS := (sSeq (sE (mOp2 modD (mOp1 intD (mOp2 addD (mOp2 addD (mOp2 mulD (mPeek 7) (mC (.int 40014))) (mOp2 mulD (mC (.int 11)) (mPeek 6))) (mC (.int 7)))) (mC (.int 2147483563))) (sSet 7)) (sSeq (sAppend 3 (mOp2 modD (mOp1 intD (mOp2 fdivD (mPeek 7) (mC (.int 1013)))) (mC (.int 1009)))) sNext))
def f_digits_4 : MS := (sFor (mRange (mSeq [(mC (.int 12))])) (stName 6) b_digits_3)
def b_digits_5 : MS := (sSeq (sE (mIf (mCmp ltD (mPeek 4) (mOp1 lenD (mPeek 0))) (mOp2 ixD (mPeek 0) (mPeek 4)) (mC (.int 0))) (sSet 5)) (sSeq (sIf (mCmp ltD (mPeek 5) (mC (.int 0))) (sSeq (sE (mOp2 subD (mC (.int 1)) (mOp2 mulD (mC (.int 2)) (mPeek 5))) (sSet 5)) sNext) sNext) (sSeq (sIf (mCmp geD (mPeek 5) (mC (.int 1000000000000000000))) (sSeq f_digits_2 sNext) (sSeq (sE (mOp2 modD (mOp1 intD (mOp2 addD (mOp2 addD (mOp2 mulD (mPeek 5) (mC (.int 40699))) (mOp2 mulD (mPeek 4) (mC (.int 52769)))) (mC (.int 31)))) (mC (.int 2147483399))) (sSet 7)) (sSeq f_digits_4 sNext))) sNext)))
def f_digits_6 : MS := (sFor (mRange (mSeq [(mVar 1), (mVar 2)])) (stName 4) b_digits_5)
def m_digits : MS := (sSeq (sOwn 3 (mSeq [])) (sSeq f_digits_6 (sSeq (sRet (mVar 3)) sNext)))
def m_draw : MS := (sSeq (sE (mBox 0 1 (mOp2 ixD (mPeek 0) (mC (.int 1)))) (sSet 2)) (sSeq (sSub true 0 (mC (.int 1)) (mOp2 addD (mPeek 2) (mC (.int 1)))) (sSeq (sIf (mCmp ltD (mPeek 2) (mOp1 lenD (mBox 0 0 (mOp2 ixD (mPeek 0) (mC (.int 0)))))) (sSeq (sRet (mOp2 modD (mOp1 intD (mOp2 ixD (mBox 0 0 (mOp2 ixD (mPeek 0) (mC (.int 0)))) (mPeek 2))) (mPeek 1))) sNext) sNext) (sSeq (sRet (mOp2 modD (mOp1 intD (mOp2 addD (mOp2 addD (mOp2 addD (mOp2 mulD (mOp2 mulD (mPeek 2) (mPeek 2)) (mC (.int 3))) (mOp2 mulD (mPeek 2) (mC (.int 4)))) (mOp2 fdivD (mPeek 2) (mC (.int 3)))) (mC (.int 1)))) (mPeek 1))) sNext))))
def m_pick (e : FnE) : MS := (sSeq (sRet (mOp2 ixD (mPeek 1) (mCall e (mSeq [(mArgV 0), (mArgE (mOp1 lenD (mPeek 1)))])))) sNext)
def m_same : MS := (sSeq (sRet (mBl (mCmp eqD (mOp1 reprD (mPeek 0)) (mOp1 reprD (mPeek 1))))) sNext)
def b_common_1 : MS := (sSeq (sIf (mCmp eqD (mPeek 1) (mC (.int 0))) (sSeq (sRet (mVar 0)) sNext) sNext) (sSeq (sE (mSeq [(mVar 1), (mOp2 modD (mPeek 0) (mPeek 1))]) (sPar [0, 1])) sNext))
def f_common_2 : MS := (sFor (mRange (mSeq [(mC (.int 30000))])) (stName 2) b_common_1)
def m_common : MS := (sSeq (sE (mSeq [(mOp1 absD (mPeek 0)), (mOp1 absD (mPeek 1))]) (sPar [0, 1])) (sSeq f_common_2 (sSeq (sRet (mVar 0)) sNext)))
def m_low (e : FnE) : MS := (sSeq (sE (mCall e (mSeq [(mArgV 0), (mArgV 1)])) (sSet 2)) (sSeq (sIf (mCmp ltD (mPeek 1) (mC (.int 0))) (sSeq (sE (mOp2 subD (mC (.int 0)) (mPeek 2)) (sSet 2)) sNext) sNext) (sSeq (sRet (mTup [(mOp2 fdivD (mPeek 0) (mPeek 2)), (mOp2 fdivD (mPeek 1) (mPeek 2))])) sNext)))
/-! the draw -/
theorem bx_1 {i : Nat} {k : Int} {m : M D} {S : Sto} {ds : List Int} {at_ : Int} (h : S.sl[i]? = some .bx) (hb : S.bx = some (ds, at_)) (hk : k = 1) : mBox i k m S = .ok (.int at_) S := by
  subst hk
  simp only [mBox, h, hb]
  rfl
theorem bx_0 {i : Nat} {k : Int} {m : M D} {S : Sto} {ds : List Int} {at_ : Int} (h : S.sl[i]? = some .bx) (hb : S.bx = some (ds, at_)) (hk : k = 0) : mBox i k m S = .ok (.list (ds.map .int)) S := by
  subst hk
  simp only [mBox, h, hb]
  rfl
theorem bx_no {i : Nat} {k : Int} {m : M D} {S : Sto} {d : D} (h : S.sl[i]? = some (.sh d)) : mBox i k m S = m S := by
  simp only [mBox, h]
theorem at_nat {ds : List D} {i : Int} (h0 : 0 ≤ i) (h1 : i < ds.length) : atI ds i = ds[i.toNat]? := by
  unfold atI ixN
  rw [if_pos h0, if_pos h1]
  rfl
theorem draw_ok {ds : List Int} {a m : Int} (hm : 0 < m) (ha : 0 ≤ a) (h2 : a < 2 ^ 60) : ∃ r, fmOf 2 3 m_draw [.box, .d (.int m)] (some (ds, a)) = .ret (.int r) (some (ds, a + 1)) ∧ 0 ≤ r ∧ r < m := by
  have b1 : ∀ (S : Sto) (x : M D), S.sl = [.bx, .sh (.int m), .un] → S.bx = some (ds, a) → mBox 0 1 x S = .ok (.int a) S := fun S x e1 e2 => bx_1 (by rw [e1]; rfl) e2 rfl
  have b0 : ∀ (x : M D), mBox 0 0 x ⟨[.bx, .sh (.int m), .sh (.int a)], some (ds, a + 1)⟩ = .ok (.list (ds.map .int)) ⟨[.bx, .sh (.int m), .sh (.int a)], some (ds, a + 1)⟩ := fun x => bx_0 (by rfl) (by rfl) rfl
  by_cases hl : a < ds.length
  · have hd : ds[a.toNat]? = some (ds[a.toNat]'(by omega)) := List.getElem?_eq_getElem _
    refine ⟨ds[a.toNat]'(by omega) % m, fm_ret (S := ⟨[.bx, .sh (.int m), .sh (.int a)], some (ds, a + 1)⟩) rfl rfl ?_ rfl, Int.emod_nonneg _ (by omega), Int.emod_lt_of_pos _ hm⟩
    have e : ixD (.list (ds.map .int)) (.int a) = some (.int (ds[a.toNat]'(by omega))) := by
      show atI (ds.map PyData.int) a = _
      rw [at_nat ha (by simpa using hl), List.getElem?_map, hd]
      rfl
    simp [m_draw, slotA, b1, b0, sSub, isBx, sBox, mPeek, hl, e, modD_pos hm]
  · refine ⟨(a * a * 3 + a * 4 + a / 3 + 1) % m, fm_ret (S := ⟨[.bx, .sh (.int m), .sh (.int a)], some (ds, a + 1)⟩) rfl rfl ?_ rfl, Int.emod_nonneg _ (by omega), Int.emod_lt_of_pos _ hm⟩
    simp [m_draw, slotA, b1, b0, sSub, isBx, sBox, mPeek, hl, modD_pos hm, mulD_ok (i := a) (j := a) (.inl (by omega)), mulD_ok (i := a * a) (j := 3) (.inr (by omega)), mulD_ok (i := a) (j := 4) (.inr (by omega)), fdivD_pos (i := a) (j := 3) (by omega) (by omega)]
/-- a function that draws -/
def Draws (e : FnE) : Prop := e.ar = 2 ∧ e.fm = fmOf 2 3 m_draw
/-- the box when at most n digits are drawn -/
def BxN (ds : List Int) (n : Int) (bx : Bx) : Prop := ∃ a : Int, bx = some (ds, a) ∧ 0 ≤ a ∧ a ≤ n
theorem Draws.ok {e : FnE} (h : Draws e) {ds : List Int} {n m : Int} {bx : Bx} (hb : BxN ds n bx) (hm : 0 < m) (hn : n < 2 ^ 60) : ∃ r bx', e.fm [.box, .d (.int m)] bx = .ret (.int r) bx' ∧ 0 ≤ r ∧ r < m ∧ BxN ds (n + 1) bx' := by
  obtain ⟨a, rfl, a1, a2⟩ := hb
  rw [h.2]
  obtain ⟨r, e1, e2, e3⟩ := draw_ok (ds := ds) hm a1 (by omega)
  exact ⟨r, _, e1, e2, e3, a + 1, rfl, by omega, by omega⟩
theorem pick_ok {e : FnE} (h : Draws e) {ds : List Int} {n : Int} {bx : Bx} {things : List D} (hb : BxN ds n bx) (hn : n < 2 ^ 60) (ht : things ≠ []) : ∃ d bx', fmOf 2 2 (m_pick e) [.box, .d (.list things)] bx = .ret d bx' ∧ d ∈ things ∧ BxN ds (n + 1) bx' := by
  have hl : 0 < things.length := List.length_pos_iff.mpr ht
  obtain ⟨r, bx', e1, e2, e3, e4⟩ := h.ok hb (m := things.length) (by omega) hn
  have hd : things[r.toNat]? = some (things[r.toNat]'(by omega)) := List.getElem?_eq_getElem _
  refine ⟨things[r.toNat]'(by omega), bx', fm_ret (S := ⟨[.bx, .sh (.list things)], bx'⟩) rfl rfl ?_ rfl, List.getElem_mem _, e4⟩
  have e5 : ixD (.list things) (.int r) = some (things[r.toNat]'(by omega)) := by
    show atI things r = _
    rw [at_nat e2 (by omega), hd]
  simp [m_pick, slotA, mPeek, mArgV, h.1, e1, e5]
/-! the highest common divisor -/
theorem common_ok {a b : Int} (hb : b.natAbs < 30000) (bx : Bx) : fmOf 2 3 m_common [.d (.int a), .d (.int b)] bx = .ret (.int (Int.gcd a b)) bx := by
  have key := loopF_ret (n := 0) (st := stName 2) (mb := b_common_1) (ds := (List.range 30000).map fun i => .int (i : Nat)) (S := ⟨[.sh (.int (a.natAbs : Int)), .sh (.int (b.natAbs : Int)), .un], bx⟩)
    (P := fun i S => ∃ (x y : Nat) (o : DV), S = ⟨[.sh (.int (x : Int)), .sh (.int (y : Int)), o], bx⟩ ∧ Nat.gcd x y = Int.gcd a b ∧ y + i ≤ b.natAbs)
    (Q := fun r S => r = .int (Int.gcd a b) ∧ S.bx = bx) ?_ ⟨_, _, _, rfl, rfl, by omega⟩
  · rcases key with ⟨S', e, x, y, o, rfl, h1, h2⟩ | ⟨r, S', e, rfl, hb'⟩
    · rw [List.length_map, List.length_range] at h2
      omega
    · refine fm_ret rfl rfl (S := S') ?_ hb'
      have e3 : rangeOf [.int 30000] = some ((List.range 30000).map fun i => .int (i : Nat)) := range1 (by omega) (by omega)
      simp only [m_common, z_seq, z_e, z_cons, z_nil, z_op1, slotA, List.map, List.replicate, List.append]
      simp [mPeek, sPar, f_common_2, e3, e]
  · rintro i d S hd ⟨x, y, o, rfl, h1, h2⟩
    refine ⟨[.sh (.int (x : Int)), .sh (.int (y : Int)), .sh d], rfl, ?_⟩
    by_cases hy : y = 0
    · subst hy
      refine .inr ⟨.int (Int.gcd a b), ⟨[.sh (.int (x : Int)), .sh (.int 0), .sh d], bx⟩, ?_, rfl, rfl⟩
      rw [Nat.gcd_zero_right] at h1
      simp [b_common_1, mPeek, mVar, ← h1]
    · refine .inl ⟨⟨[.sh (.int (y : Int)), .sh (.int ((x % y : Nat) : Int)), .sh d], bx⟩, ?_, y, x % y, _, rfl, ?_, ?_⟩
      · simp [b_common_1, mPeek, mVar, sPar, hy, modD_pos (show (0 : Int) < y by omega)]
      · rw [← h1, Nat.gcd_comm y, ← Nat.gcd_rec, Nat.gcd_comm]
      · have := Nat.mod_lt x (Nat.pos_of_ne_zero hy)
        omega
def Commons (e : FnE) : Prop := e.ar = 2 ∧ e.fm = fmOf 2 3 m_common
theorem Commons.ok {e : FnE} (h : Commons e) {a b : Int} (hb : b.natAbs < 30000) (bx : Bx) : e.fm [.d (.int a), .d (.int b)] bx = .ret (.int (Int.gcd a b)) bx := by
  rw [h.2]
  exact common_ok hb bx
theorem low_ok {e : FnE} (h : Commons e) {a b : Int} (hb : 0 < b) (hb2 : b < 30000) (bx : Bx) : fmOf 2 3 (m_low e) [.d (.int a), .d (.int b)] bx = .ret (.tuple [.int (a / (Int.gcd a b)), .int (b / (Int.gcd a b))]) bx := by
  have hg : 0 < (Int.gcd a b : Int) := by
    have : Int.gcd a b ≠ 0 := by
      rw [Ne, Int.gcd_eq_zero_iff]
      omega
    omega
  have hg2 : (Int.gcd a b : Int) ≤ b := Int.le_of_dvd hb (Int.gcd_dvd_right ..)
  refine fm_ret rfl rfl (S := ⟨[.sh (.int a), .sh (.int b), .sh (.int (Int.gcd a b))], bx⟩) ?_ rfl
  have e2 : sumOk 2 = true := rfl
  simp [m_low, slotA, mPeek, mArgV, h.1, h.ok (a := a) (b := b) (by omega) bx, show ¬ b < 0 by omega, fdivD_pos hg (by omega), e2]
/-! the digits -/
theorem grow {ds : List Int} {x : Int} {i : Nat} {A B C E F G H : DV} {bx : Bx} {m : M D} (hm : m ⟨[A, B, C, .ow (.list (ds.map .int)), E, F, G, H], bx⟩ = .ok (.int x) ⟨[A, B, C, .ow (.list (ds.map .int)), E, F, G, H], bx⟩) (hl : ds.length < 16777216) : sAppend 3 m ⟨[A, B, C, .ow (.list (ds.map .int)), E, F, G, H], bx⟩ = .next ⟨[A, B, C, .ow (.list ((ds ++ [x]).map .int)), E, F, G, H], bx⟩ := by
  have e : sumOk (ds.length + 1) = true := sumOk_lt (by omega)
  simp [sAppend, hm, e]
theorem digits_ok (ns : List Int) (bx : Bx) : ∃ ds : List Int, fmOf 3 8 m_digits [.d (.list (ns.map .int)), .d (.int 0), .d (.int 63)] bx = .ret (.list (ds.map .int)) bx := by
  have key := loopF_ret (n := 0) (st := stName 4) (mb := b_digits_5) (ds := (List.range 63).map fun i => .int (0 + (i : Nat))) (S := ⟨[.sh (lI ns), .sh (.int 0), .sh (.int 63), .ow (lI []), .un, .un, .un, .un], bx⟩)
    (P := fun i S => ∃ (ds : List Int) (k c t s : DV), S = ⟨[.sh (lI ns), .sh (.int 0), .sh (.int 63), .ow (lI ds), k, c, t, s], bx⟩ ∧ ds.length ≤ 60 * i)
    (Q := fun r S => False) ?_ ⟨[], _, _, _, _, rfl, by simp⟩
  · rcases key with ⟨S', e, ds, k, c, t, s, rfl, h1⟩ | ⟨r, S', e, q⟩
    · refine ⟨ds, fm_ret rfl rfl (S := ⟨[.sh (lI ns), .sh (.int 0), .sh (.int 63), .sh (lI ds), k, c, t, s], bx⟩) ?_ rfl⟩
      have e3 : rangeOf [.int 0, .int 63] = some ((List.range 63).map fun i => .int (0 + (i : Nat))) := range2 (by omega) (by omega) (by omega) (by omega)
      have e4 : sumOk 0 = true := rfl
      have e5 : f_digits_6 ⟨[.sh (lI ns), .sh (.int 0), .sh (.int 63), .ow (lI []), .un, .un, .un, .un], bx⟩ = .next ⟨[.sh (lI ns), .sh (.int 0), .sh (.int 63), .ow (lI ds), k, c, t, s], bx⟩ := by
        unfold f_digits_6
        rw [z_for, z_range]
        simp only [z_cons, z_nil, v_sh (S := ⟨[.sh (lI ns), .sh (.int 0), .sh (.int 63), .ow (lI []), .un, .un, .un, .un], bx⟩) (i := 1) rfl, v_sh (S := ⟨[.sh (lI ns), .sh (.int 0), .sh (.int 63), .ow (lI []), .un, .un, .un, .un], bx⟩) (i := 2) rfl, z_ok, e3, z_some, z_toO]
        exact e
      have e5' := e5
      simp only [lI, List.map_nil] at e5'
      simp [m_digits, slotA, sOwn, e4, e5', mVar, share]
    · exact q.elim
  · rintro i d S hd ⟨ds, k, c, t, s, rfl, h1⟩
    rw [Nat.zero_add] at h1 ⊢
    rw [List.getElem?_map] at hd
    have hi : i < 63 := by
      cases hr : (List.range 63)[i]? with
      | none => rw [hr] at hd; cases hd
      | some j =>
        have := (List.getElem?_eq_some_iff.mp hr).1
        simpa using this
    rw [List.getElem?_range hi] at hd
    cases hd
    refine ⟨[.sh (lI ns), .sh (.int 0), .sh (.int 63), .ow (lI ds), .sh (.int (0 + (i : Nat))), c, t, s], rfl, .inl ?_⟩
    obtain ⟨cell, hcell⟩ : ∃ cell : Int, (mIf (mCmp ltD (mPeek 4) (mOp1 lenD (mPeek 0))) (mOp2 ixD (mPeek 0) (mPeek 4)) (mC (.int 0))) ⟨[.sh (lI ns), .sh (.int 0), .sh (.int 63), .ow (lI ds), .sh (.int (0 + (i : Nat))), c, t, s], bx⟩ = .ok (.int cell) ⟨[.sh (lI ns), .sh (.int 0), .sh (.int 63), .ow (lI ds), .sh (.int (0 + (i : Nat))), c, t, s], bx⟩ := by
      by_cases hl : i < ns.length
      · refine ⟨ns[i], ?_⟩
        have e : ixD (.list (ns.map .int)) (.int (i : Nat)) = some (.int ns[i]) := by
          show atI (ns.map PyData.int) ((i : Nat) : Int) = _
          rw [at_nat (by omega) (by simpa using hl)]
          simp [hl]
        simp [mPeek, hl, e]
      · exact ⟨0, by simp [mPeek, hl]⟩
    obtain ⟨cell2, hcell2⟩ : ∃ cell2 : Int, (sIf (mCmp ltD (mPeek 5) (mC (.int 0))) (sSeq (sE (mOp2 subD (mC (.int 1)) (mOp2 mulD (mC (.int 2)) (mPeek 5))) (sSet 5)) sNext) sNext) ⟨[.sh (lI ns), .sh (.int 0), .sh (.int 63), .ow (lI ds), .sh (.int (0 + (i : Nat))), .sh (.int cell), t, s], bx⟩ = .next ⟨[.sh (lI ns), .sh (.int 0), .sh (.int 63), .ow (lI ds), .sh (.int (0 + (i : Nat))), .sh (.int cell2), t, s], bx⟩ := by
      by_cases h0 : cell < 0
      · exact ⟨1 - 2 * cell, by simp [mPeek, h0, mulD_ok (i := 2) (j := cell) (.inl (by omega))]⟩
      · exact ⟨cell, by simp [mPeek, h0]⟩
    have ha : ∀ (n : Nat) (j : Nat), j < n → ((List.range n).map fun i => PyData.int (i : Nat))[j]? = some (.int (j : Nat)) := fun n j hj => by
      rw [List.getElem?_map, List.getElem?_range hj]
      rfl
    by_cases hbig : 1000000000000000000 ≤ cell2
    · have key2 := loopF_ret (n := 0) (st := stName 6) (mb := b_digits_1) (ds := (List.range 60).map fun i => .int (i : Nat)) (S := ⟨[.sh (lI ns), .sh (.int 0), .sh (.int 63), .ow (lI ds), .sh (.int (0 + (i : Nat))), .sh (.int cell2), t, s], bx⟩)
        (P := fun j S => ∃ (ds' : List Int) (c : Int) (t : DV), S = ⟨[.sh (lI ns), .sh (.int 0), .sh (.int 63), .ow (lI ds'), .sh (.int (0 + (i : Nat))), .sh (.int c), t, s], bx⟩ ∧ ds'.length ≤ 60 * i + j)
        (Q := fun r S => False) ?_ ⟨ds, cell2, t, rfl, by simpa using h1⟩
      · rcases key2 with ⟨S', e, ds', c', t', rfl, h2⟩ | ⟨r, S', e, q⟩
        · refine ⟨⟨[.sh (lI ns), .sh (.int 0), .sh (.int 63), .ow (lI ds'), .sh (.int (0 + (i : Nat))), .sh (.int c'), t', s], bx⟩, ?_, ds', _, _, _, _, rfl, by simp at h2; omega⟩
          have e3 : rangeOf [.int 60] = some ((List.range 60).map fun i => .int (i : Nat)) := range1 (by omega) (by omega)
          have e5 : f_digits_2 ⟨[.sh (lI ns), .sh (.int 0), .sh (.int 63), .ow (lI ds), .sh (.int (0 + (i : Nat))), .sh (.int cell2), t, s], bx⟩ = .next ⟨[.sh (lI ns), .sh (.int 0), .sh (.int 63), .ow (lI ds'), .sh (.int (0 + (i : Nat))), .sh (.int c'), t', s], bx⟩ := by
            unfold f_digits_2
            rw [z_for, z_range]
            simp only [z_cons, z_nil, z_c, z_ok, e3, z_some, z_toO]
            exact e
          unfold b_digits_5
          rw [z_seq, z_e, hcell, z_toO, z_set, z_onext, z_seq]
          show ((sIf _ _ _) ⟨[.sh (lI ns), .sh (.int 0), .sh (.int 63), .ow (lI ds), .sh (.int (0 + (i : Nat))), .sh (.int cell), t, s], bx⟩).bind _ = _
          rw [hcell2, z_onext, z_seq, z_sif, z_cmp, p_sh (d := .int cell2) rfl, z_ok, z_c, z_ok, z_ge, z_some, z_toO, decide_eq_true hbig, if_pos rfl, z_seq, e5]
          rfl
        · exact q.elim
      · rintro j d S hd ⟨ds', c', t', rfl, h2⟩
        rw [Nat.zero_add] at h2 ⊢
        have hj : j < 60 := by
          have := (List.getElem?_eq_some_iff.mp hd).1
          simpa using this
        rw [ha 60 j hj] at hd
        cases hd
        refine ⟨_, rfl, .inl ?_⟩
        by_cases hc : 0 < c'
        · refine ⟨⟨[.sh (lI ns), .sh (.int 0), .sh (.int 63), .ow (lI (ds' ++ [c' % 1009])), .sh (.int (0 + (i : Nat))), .sh (.int (c' / 1009)), .sh (.int (j : Nat)), s], bx⟩, ?_, _, _, _, rfl, by simp; omega⟩
          unfold b_digits_1
          rw [z_seq, z_sif, z_cmp]
          have g := grow (ds := ds') (x := c' % 1009) (i := i) (A := .sh (lI ns)) (B := .sh (.int 0)) (C := .sh (.int 63)) (E := .sh (.int (0 + (i : Nat)))) (F := .sh (.int c')) (G := .sh (.int (j : Nat))) (H := s) (bx := bx) (m := mOp2 modD (mOp1 intD (mPeek 5)) (mC (.int 1009))) (by simp [mPeek, modD_pos (i := c') (j := 1009) (by omega)]) (by omega)
          simp [mPeek, hc] at g ⊢
          simp [g, mPeek, fdivD_pos (i := c') (j := 1009) (by omega) (by omega)]
        · refine ⟨⟨[.sh (lI ns), .sh (.int 0), .sh (.int 63), .ow (lI ds'), .sh (.int (0 + (i : Nat))), .sh (.int c'), .sh (.int (j : Nat)), s], bx⟩, ?_, ds', c', _, rfl, by omega⟩
          simp [b_digits_1, mPeek, hc]
    · have key2 : ∀ seed : Int, _ := fun seed => loopF_ret (n := 0) (st := stName 6) (mb := b_digits_3) (ds := (List.range 12).map fun i => .int (i : Nat)) (S := ⟨[.sh (lI ns), .sh (.int 0), .sh (.int 63), .ow (lI ds), .sh (.int (0 + (i : Nat))), .sh (.int cell2), t, .sh (.int seed)], bx⟩)
        (P := fun j S => ∃ (ds' : List Int) (c : Int) (t : DV), S = ⟨[.sh (lI ns), .sh (.int 0), .sh (.int 63), .ow (lI ds'), .sh (.int (0 + (i : Nat))), .sh (.int cell2), t, .sh (.int c)], bx⟩ ∧ ds'.length ≤ 60 * i + j)
        (Q := fun r S => False) (by
          rintro j d S hd ⟨ds', c', t', rfl, h2⟩
          rw [Nat.zero_add] at h2 ⊢
          have hj : j < 12 := by
            have := (List.getElem?_eq_some_iff.mp hd).1
            simpa using this
          rw [ha 12 j hj] at hd
          cases hd
          refine ⟨_, rfl, .inl ?_⟩
          refine ⟨⟨[.sh (lI ns), .sh (.int 0), .sh (.int 63), .ow (lI (ds' ++ [(c' * 40014 + 11 * (j : Nat) + 7) % 2147483563 / 1013 % 1009])), .sh (.int (0 + (i : Nat))), .sh (.int cell2), .sh (.int (j : Nat)), .sh (.int ((c' * 40014 + 11 * (j : Nat) + 7) % 2147483563))], bx⟩, ?_, _, _, _, rfl, by simp; omega⟩
          unfold b_digits_3
          have g := grow (ds := ds') (x := (c' * 40014 + 11 * (j : Nat) + 7) % 2147483563 / 1013 % 1009) (i := i) (A := .sh (lI ns)) (B := .sh (.int 0)) (C := .sh (.int 63)) (E := .sh (.int (0 + (i : Nat)))) (F := .sh (.int cell2)) (G := .sh (.int (j : Nat))) (H := .sh (.int ((c' * 40014 + 11 * (j : Nat) + 7) % 2147483563))) (bx := bx) (m := mOp2 modD (mOp1 intD (mOp2 fdivD (mPeek 7) (mC (.int 1013)))) (mC (.int 1009))) (by simp [mPeek, modD_pos (j := 1009) (by omega), fdivD_pos (j := 1013) (by omega) (by omega)]) (by omega)
          simp [mPeek, modD_pos (j := 2147483563) (by omega), mulD_ok (i := c') (j := 40014) (.inr (by omega)), mulD_ok (i := 11) (j := (j : Nat)) (.inl (by omega))] at g ⊢
          simp [g]) ⟨ds, seed, t, rfl, by simpa using h1⟩
      rcases key2 ((cell2 * 40699 + (0 + (i : Nat)) * 52769 + 31) % 2147483399) with ⟨S', e, ds', c', t', rfl, h2⟩ | ⟨r, S', e, q⟩
      · refine ⟨⟨[.sh (lI ns), .sh (.int 0), .sh (.int 63), .ow (lI ds'), .sh (.int (0 + (i : Nat))), .sh (.int cell2), t', .sh (.int c')], bx⟩, ?_, ds', _, _, _, _, rfl, by simp at h2; omega⟩
        have e3 : rangeOf [.int 12] = some ((List.range 12).map fun i => .int (i : Nat)) := range1 (by omega) (by omega)
        have e5 : f_digits_4 ⟨[.sh (lI ns), .sh (.int 0), .sh (.int 63), .ow (lI ds), .sh (.int (0 + (i : Nat))), .sh (.int cell2), t, .sh (.int ((cell2 * 40699 + (0 + (i : Nat)) * 52769 + 31) % 2147483399))], bx⟩ = .next ⟨[.sh (lI ns), .sh (.int 0), .sh (.int 63), .ow (lI ds'), .sh (.int (0 + (i : Nat))), .sh (.int cell2), t', .sh (.int c')], bx⟩ := by
          unfold f_digits_4
          rw [z_for, z_range]
          simp only [z_cons, z_nil, z_c, z_ok, e3, z_some, z_toO]
          exact e
        unfold b_digits_5
        rw [z_seq, z_e, hcell, z_toO, z_set, z_onext, z_seq]
        show ((sIf _ _ _) ⟨[.sh (lI ns), .sh (.int 0), .sh (.int 63), .ow (lI ds), .sh (.int (0 + (i : Nat))), .sh (.int cell), t, s], bx⟩).bind _ = _
        rw [hcell2, z_onext, z_seq, z_sif, z_cmp, p_sh (d := .int cell2) rfl, z_ok, z_c, z_ok, z_ge, z_some, z_toO, decide_eq_false hbig, if_neg (by simp), z_seq, z_e]
        have e6 : (mOp2 modD (mOp1 intD (mOp2 addD (mOp2 addD (mOp2 mulD (mPeek 5) (mC (.int 40699))) (mOp2 mulD (mPeek 4) (mC (.int 52769)))) (mC (.int 31)))) (mC (.int 2147483399))) ⟨[.sh (lI ns), .sh (.int 0), .sh (.int 63), .ow (lI ds), .sh (.int (0 + (i : Nat))), .sh (.int cell2), t, s], bx⟩ = .ok (.int ((cell2 * 40699 + (0 + (i : Nat)) * 52769 + 31) % 2147483399)) ⟨[.sh (lI ns), .sh (.int 0), .sh (.int 63), .ow (lI ds), .sh (.int (0 + (i : Nat))), .sh (.int cell2), t, s], bx⟩ := by
          simp only [z_op2, z_op1, z_c, p_sh (i := 5) (d := .int cell2) (S := ⟨[.sh (lI ns), .sh (.int 0), .sh (.int 63), .ow (lI ds), .sh (.int (0 + (i : Nat))), .sh (.int cell2), t, s], bx⟩) rfl, p_sh (i := 4) (d := .int (0 + (i : Nat))) (S := ⟨[.sh (lI ns), .sh (.int 0), .sh (.int 63), .ow (lI ds), .sh (.int (0 + (i : Nat))), .sh (.int cell2), t, s], bx⟩) rfl, z_ok, mulD_ok (i := cell2) (j := 40699) (.inr (by omega)), mulD_ok (i := 0 + (i : Nat)) (j := 52769) (.inr (by omega)), z_some, z_add, z_int, modD_pos (j := 2147483399) (by omega)]
        rw [e6, z_toO, z_set, z_onext, z_seq]
        show ((f_digits_4 ⟨[.sh (lI ns), .sh (.int 0), .sh (.int 63), .ow (lI ds), .sh (.int (0 + (i : Nat))), .sh (.int cell2), t, .sh (.int ((cell2 * 40699 + (0 + (i : Nat)) * 52769 + 31) % 2147483399))], bx⟩).bind sNext).bind sNext = _
        rw [e5]
        rfl
      · exact q.elim
/-! values that show alike -/
structure RS (k n : Nat) (d : D) : Prop where
  lv : d.leavesShort 13 = true
  sw : d.showable = true
  cl : d.canLay0 = true
  dp : d.depth ≤ k
  bk : d.bulk ≤ n
  as : ∀ c ∈ d.shown.cps.toList, c < 1114112
theorem RS.mono {k n k' n' : Nat} {d : D} (h : RS k n d) (hk : k ≤ k') (hn : n ≤ n') : RS k' n' d := ⟨h.lv, h.sw, h.cl, Nat.le_trans h.dp hk, Nat.le_trans h.bk hn, h.as⟩
theorem rs_int {i : Int} (h : i.natAbs < 10 ^ 12) : RS 0 0 (.int i) where
  lv := by
    show decide _ = true
    exact decide_eq_true (PyData.shown_int_le h)
  sw := by
    show decide _ = true
    refine decide_eq_true ?_
    by_cases z : i.natAbs = 0
    · rw [z]; decide
    · have : i.natAbs.log2 < 64 := (Nat.log2_lt z).mpr (by omega)
      omega
  cl := rfl
  dp := Nat.le_refl _
  bk := Nat.le_refl _
  as := fun c hc => by
    by_cases h : c < 1114112
    · exact h
    · exact absurd hc (shown_int_free' ⟨by omega, .inr (by omega)⟩ i)
theorem rs_none : RS 0 0 .none := ⟨rfl, rfl, rfl, Nat.le_refl _, Nat.le_refl _, by decide⟩
theorem rs_bool (b : Bool) : RS 0 0 (.bool b) := by
  cases b
  · exact ⟨rfl, rfl, rfl, Nat.le_refl _, Nat.le_refl _, by decide⟩
  · exact ⟨rfl, rfl, rfl, Nat.le_refl _, Nat.le_refl _, by decide⟩
section
open PyData
theorem rs_all {k n : Nat} : ∀ {ds : List D}, (∀ d ∈ ds, RS k n d) → PyData.leavesShortAll 13 ds = true ∧ PyData.showableAll ds = true ∧ PyData.canLayAll0 ds = true ∧ PyData.depthAll ds ≤ k ∧ PyData.bulkAll ds ≤ ds.length * (n + 1) ∧ ∀ t ∈ PyData.shownAll ds, ∀ c ∈ t.cps.toList, c < 1114112
  | [], _ => ⟨rfl, rfl, rfl, Nat.zero_le _, Nat.zero_le _, by rw [PyData.shownAll_nil]; simp⟩
  | d :: ds, h => by
    have hd := h d (by simp)
    obtain ⟨a1, a2, a3, a4, a5, a6⟩ := rs_all (ds := ds) fun d hd => h d (List.mem_cons_of_mem _ hd)
    refine ⟨?_, ?_, ?_, ?_, ?_, ?_⟩
    · simp only [PyData.leavesShortAll, hd.lv, a1, Bool.and_self]
    · simp only [PyData.showableAll, hd.sw, a2, Bool.and_self]
    · simp only [PyData.canLayAll0, hd.cl, a3, Bool.and_self]
    · simp only [PyData.depthAll]
      exact Nat.max_le.mpr ⟨hd.dp, a4⟩
    · have := hd.bk
      simp only [PyData.bulkAll, List.length_cons]
      rw [Nat.add_mul]
      omega
    · intro t ht
      rw [PyData.shownAll_cons, List.mem_cons] at ht
      rcases ht with rfl | ht
      · exact hd.as
      · exact a6 t ht
end
theorem rs_tup {k n : Nat} {ds : List D} (h : ∀ d ∈ ds, RS k n d) : RS (k + 1) (ds.length * (n + 1)) (.tuple ds) := by
  obtain ⟨a1, a2, a3, a4, a5, a6⟩ := rs_all h
  refine ⟨a1, a2, a3, ?_, a5, ?_⟩
  · show PyData.depthAll ds + 1 ≤ k + 1
    omega
  · intro c hc
    rw [PyData.shown_tuple, mem_cps_append, mem_cps_append, signs_lparen, mem_join, signs_sep] at hc
    rcases hc with (hc | ⟨t, ht, hc⟩ | ⟨_, hc⟩) | hc
    · simp at hc; omega
    · exact a6 t ht c hc
    · simp at hc; omega
    · split at hc
      · have e : ((",)" : String) : Str).cps.toList = [44, 41] := by decide
        rw [e] at hc
        simp at hc; omega
      · have e : ((")" : String) : Str).cps.toList = [41] := by decide
        rw [e] at hc
        simp at hc; omega
theorem rs_lst {k n : Nat} {ds : List D} (h : ∀ d ∈ ds, RS k n d) : RS (k + 1) (ds.length * (n + 1)) (.list ds) := by
  obtain ⟨a1, a2, a3, a4, a5, a6⟩ := rs_all h
  refine ⟨a1, a2, a3, ?_, a5, ?_⟩
  · show PyData.depthAll ds + 1 ≤ k + 1
    omega
  · intro c hc
    rw [PyData.shown_list, mem_cps_append, mem_cps_append, signs_lbrack, signs_rbrack, mem_join, signs_sep] at hc
    rcases hc with (hc | ⟨t, ht, hc⟩ | ⟨_, hc⟩) | hc
    · simp at hc; omega
    · exact a6 t ht c hc
    · simp at hc; omega
    · simp at hc; omega
theorem rs_ints {l : List Int} (h : ∀ x ∈ l, x.natAbs < 10 ^ 12) : RS 1 (l.length * 1) (tI l) := by
  have := rs_tup (k := 0) (n := 0) (ds := l.map .int) fun d hd => by
    obtain ⟨x, hx, rfl⟩ := List.mem_map.mp hd
    exact rs_int (h x hx)
  rwa [List.length_map] at this
theorem eqv_str (x : Str) : PyData.eqv (.str x) (.str x) = true := by
  rw [PyData.eqv]
  exact beq_self_eq_true x
theorem same_ok {k n : Nat} {d : D} (h : RS k n d) (hk : k ≤ 64) (hn : n ≤ 2 ^ 20) (bx : Bx) : fmOf 2 2 m_same [.d d, .d d] bx = .ret (.bool true) bx := by
  have e1 : sumOk d.shown.length = true := decide_eq_true (PyData.shown_fits_bulk (B := 13) (by omega) (by omega) h.lv (Nat.le_trans h.bk hn))
  have e2 : reprD d = some (.str d.shown) := by
    show (if (d.showable && sumOk d.shown.length && !d.hasDict && decide (d.depth ≤ 64)) = true then _ else _) = _
    rw [h.sw, e1, PyData.hasDict_of_canLay d h.cl, decide_eq_true (Nat.le_trans h.dp hk)]
    rfl
  have e3 : shp (.str d.shown) = true := by
    show (PyData.canLay0 (.str d.shown) && decide (PyData.depth (.str d.shown) ≤ 64)) = true
    have : PyData.strOk d.shown = true := by
      show d.shown.cps.all (· < 0x110000) = true
      rw [Array.all_eq_true']
      intro c hc
      exact decide_eq_true (h.as c (Array.mem_toList_iff.mpr hc))
    simp only [PyData.canLay0, this]
    rfl
  have e4 : eqD (.str d.shown) (.str d.shown) = some true := by
    show (if (shp (.str d.shown) && shp (.str d.shown)) = true then some (PyData.eqv (.str d.shown) (.str d.shown)) else none) = _
    rw [e3, eqv_str]
    rfl
  refine fm_ret rfl rfl (S := ⟨[.sh d, .sh d], bx⟩) ?_ rfl
  simp [m_same, slotA, mPeek, e2, e4]
def Sames (e : FnE) : Prop := e.ar = 2 ∧ e.fm = fmOf 2 2 m_same
theorem Sames.ok {e : FnE} (h : Sames e) {k n : Nat} {d : D} (hd : RS k n d) (hk : k ≤ 64) (hn : n ≤ 2 ^ 20) (bx : Bx) : e.fm [.d d, .d d] bx = .ret (.bool true) bx := by
  rw [h.2]
  exact same_ok hd hk hn bx
theorem RS.shp {k n : Nat} {d : D} (h : RS k n d) (hk : k ≤ 64) : shp d = true := by
  show (d.canLay0 && decide (d.depth ≤ 64)) = true
  rw [h.cl, decide_eq_true (Nat.le_trans h.dp hk)]
  rfl
end Gl

set_option maxRecDepth 100000
set_option maxHeartbeats 1000000
/-! Fractions. -/
namespace Gl
open PySem PySem.Spec PyProof.Rows L2
/-- Euclid's turns: of b below 2^k at most 2 k + 1 -/
theorem common_big {a b : Int} {k : Nat} (hk : k ≤ 14999) (hb : b.natAbs < 2 ^ k) (bx : Bx) : fmOf 2 3 m_common [.d (.int a), .d (.int b)] bx = .ret (.int (Int.gcd a b)) bx := by
  have key := loopF_ret (n := 0) (st := stName 2) (mb := b_common_1) (ds := (List.range 30000).map fun i => .int (i : Nat)) (S := ⟨[.sh (.int (a.natAbs : Int)), .sh (.int (b.natAbs : Int)), .un], bx⟩)
    (P := fun i S => ∃ (x y : Nat) (o : DV), S = ⟨[.sh (.int (x : Int)), .sh (.int (y : Int)), o], bx⟩ ∧ Nat.gcd x y = Int.gcd a b ∧ ((∃ m, i = 2 * m ∧ m ≤ k ∧ y < 2 ^ (k - m)) ∨ ∃ m, i = 2 * m + 1 ∧ m ≤ k ∧ y < x ∧ x < 2 ^ (k - m)))
    (Q := fun r S => r = .int (Int.gcd a b) ∧ S.bx = bx) ?_ ⟨_, _, _, rfl, rfl, .inl ⟨0, rfl, Nat.zero_le _, hb⟩⟩
  · rcases key with ⟨S', e, x, y, o, rfl, h1, h2⟩ | ⟨r, S', e, rfl, hb'⟩
    · rw [List.length_map, List.length_range] at h2
      rcases h2 with ⟨m, z, z2, _⟩ | ⟨m, z, z2, _⟩ <;> omega
    · refine fm_ret rfl rfl (S := S') ?_ hb'
      have e3 : rangeOf [.int 30000] = some ((List.range 30000).map fun i => .int (i : Nat)) := range1 (by omega) (by omega)
      simp only [m_common, z_seq, z_e, z_cons, z_nil, z_op1, slotA, List.map, List.replicate, List.append]
      simp [mPeek, sPar, f_common_2, e3, e]
  · rintro i d S hd ⟨x, y, o, rfl, h1, h2⟩
    refine ⟨[.sh (.int (x : Int)), .sh (.int (y : Int)), .sh d], rfl, ?_⟩
    by_cases hy : y = 0
    · subst hy
      refine .inr ⟨.int (Int.gcd a b), ⟨[.sh (.int (x : Int)), .sh (.int 0), .sh d], bx⟩, ?_, rfl, rfl⟩
      rw [Nat.gcd_zero_right] at h1
      simp [b_common_1, mPeek, mVar, ← h1]
    · refine .inl ⟨⟨[.sh (.int (y : Int)), .sh (.int ((x % y : Nat) : Int)), .sh d], bx⟩, ?_, y, x % y, _, rfl, ?_, ?_⟩
      · simp [b_common_1, mPeek, mVar, sPar, hy, modD_pos (show (0 : Int) < y by omega)]
      · rw [← h1, Nat.gcd_comm y, ← Nat.gcd_rec, Nat.gcd_comm]
      · have lt := Nat.mod_lt x (Nat.pos_of_ne_zero hy)
        rcases h2 with ⟨m, z, z2, z3⟩ | ⟨m, z, z2, z3, z4⟩
        · exact .inr ⟨m, by omega, z2, lt, z3⟩
        · have hm : m < k := by
            by_cases e : m = k
            · subst e
              rw [Nat.sub_self] at z4
              omega
            · omega
          refine .inl ⟨m + 1, by omega, hm, ?_⟩
          have e1 := Nat.div_add_mod x y
          have e2 : 1 ≤ x / y := (Nat.one_le_div_iff (Nat.pos_of_ne_zero hy)).mpr (by omega)
          have e3 : y ≤ y * (x / y) := Nat.le_mul_of_pos_right _ e2
          have e4 : 2 ^ (k - m) = 2 * 2 ^ (k - (m + 1)) := by
            rw [show k - m = k - (m + 1) + 1 by omega, Nat.pow_succ, Nat.mul_comm]
          omega
/-! fractions as rational numbers -/
def frD (q : Rat) : D := .tuple [.int q.num, .int (q.den : Nat)]
theorem divInt_nat {a : Int} {n : Nat} (h : n ≠ 0) : Rat.divInt a (n : Int) = Rat.normalize a n h := by
  rw [Rat.normalize_eq_mkRat, Rat.divInt_ofNat]
theorem red_pos {a b : Int} (hb : 0 < b) : (.tuple [.int (a / (Int.gcd a b)), .int (b / (Int.gcd a b))] : D) = frD (Rat.divInt a b) := by
  obtain ⟨n, rfl⟩ := Int.eq_ofNat_of_zero_le (show 0 ≤ b by omega)
  have hn : n ≠ 0 := by omega
  rw [divInt_nat hn, Rat.normalize_eq]
  rfl
theorem red_neg {a b : Int} (hb : b < 0) : (.tuple [.int (a / (0 - (Int.gcd a b : Int))), .int (b / (0 - (Int.gcd a b : Int)))] : D) = frD (Rat.divInt a b) := by
  have h1 := red_pos (a := -a) (b := -b) (by omega)
  have e : Int.gcd (-a) (-b) = Int.gcd a b := by rw [Int.neg_gcd, Int.gcd_neg]
  rw [e] at h1
  have e2 : Rat.divInt (-a) (-b) = Rat.divInt a b := by
    rw [Rat.divInt_eq_divInt_iff (by omega) (by omega), Int.neg_mul, Int.mul_neg]
  rw [e2] at h1
  rw [← h1, Int.zero_sub, Int.ediv_neg, Int.ediv_neg]
  have d1 : (Int.gcd a b : Int) ∣ a := Int.gcd_dvd_left a b
  have d2 : (Int.gcd a b : Int) ∣ b := Int.gcd_dvd_right a b
  rw [Int.neg_ediv_of_dvd d1, Int.neg_ediv_of_dvd d2]
theorem fr_add (p q : Rat) : Rat.divInt (p.num * q.den + q.num * p.den) ((p.den : Int) * q.den) = p + q := by
  rw [← Rat.divInt_add_divInt p.num q.num (by have := p.den_pos; omega) (by have := q.den_pos; omega), Rat.num_divInt_den, Rat.num_divInt_den]
theorem fr_sub (p q : Rat) : Rat.divInt (p.num * q.den - q.num * p.den) ((p.den : Int) * q.den) = p - q := by
  rw [← Rat.divInt_sub_divInt p.num q.num (by have := p.den_pos; omega) (by have := q.den_pos; omega), Rat.num_divInt_den, Rat.num_divInt_den]
theorem fr_mul (p q : Rat) : Rat.divInt (p.num * q.num) ((p.den : Int) * q.den) = p * q := by
  rw [← Rat.divInt_mul_divInt p.num q.num, Rat.num_divInt_den, Rat.num_divInt_den]
theorem fr_div (p q : Rat) : Rat.divInt (p.num * q.den) ((p.den : Int) * q.num) = p / q := by
  rw [Rat.div_def, ← Rat.divInt_mul_divInt p.num q.den, Rat.num_divInt_den, Rat.inv_def]
theorem fr_lt (p q : Rat) : p.num * q.den < q.num * p.den ↔ p < q := (Rat.lt_iff p q).symm
/-- how many bits a fraction takes -/
structure FB (n : Nat) (q : Rat) : Prop where
  num : q.num.natAbs < 2 ^ n
  den : q.den < 2 ^ n
theorem FB.mono {n m : Nat} {q : Rat} (h : FB n q) (k : n ≤ m) : FB m q := ⟨Nat.lt_of_lt_of_le h.num (Nat.pow_le_pow_right (by omega) k), Nat.lt_of_lt_of_le h.den (Nat.pow_le_pow_right (by omega) k)⟩
theorem normalize_le (a : Int) (n : Nat) (h : n ≠ 0) : (Rat.normalize a n h).num.natAbs ≤ a.natAbs ∧ (Rat.normalize a n h).den ≤ n := by
  rw [Rat.normalize_eq]
  refine ⟨?_, Nat.div_le_self _ _⟩
  show (a / ((a.natAbs.gcd n : Nat) : Int)).natAbs ≤ _
  rw [Int.natAbs_ediv_of_dvd (by exact Int.ofNat_dvd_left.mpr (Nat.gcd_dvd_left _ _)), Int.natAbs_natCast]
  exact Nat.div_le_self _ _
theorem pow_mul_lt {a b n m : Nat} (h1 : a < 2 ^ n) (h2 : b < 2 ^ m) : a * b < 2 ^ (n + m) := by
  rw [Nat.pow_add]
  have p1 := Nat.two_pow_pos n
  have p2 := Nat.two_pow_pos m
  have : a * b ≤ (2 ^ n - 1) * (2 ^ m - 1) := Nat.mul_le_mul (by omega) (by omega)
  have : (2 ^ n - 1) * (2 ^ m - 1) < 2 ^ n * 2 ^ m := Nat.lt_of_le_of_lt (Nat.mul_le_mul_left _ (Nat.sub_le _ _)) (Nat.mul_lt_mul_of_pos_right (by omega) p2)
  omega
theorem natAbs_mul_lt {a b : Int} {n m : Nat} (h1 : a.natAbs < 2 ^ n) (h2 : b.natAbs < 2 ^ m) : (a * b).natAbs < 2 ^ (n + m) := by
  rw [Int.natAbs_mul]
  exact pow_mul_lt h1 h2
theorem FB.add {n m : Nat} {p q : Rat} (h : FB n p) (k : FB m q) : FB (n + m + 1) (p + q) := by
  obtain ⟨a, b⟩ := normalize_le (p.num * q.den + q.num * p.den) (p.den * q.den) (Nat.mul_ne_zero (Nat.ne_of_gt p.den_pos) (Nat.ne_of_gt q.den_pos))
  rw [← Rat.add_def] at a b
  have x1 := natAbs_mul_lt h.num (b := (q.den : Int)) (m := m) (by rw [Int.natAbs_natCast]; exact k.den)
  have x2 := natAbs_mul_lt k.num (b := (p.den : Int)) (m := n) (by rw [Int.natAbs_natCast]; exact h.den)
  have x3 := pow_mul_lt h.den k.den
  have e : 2 ^ (n + m + 1) = 2 ^ (n + m) * 2 := Nat.pow_succ ..
  rw [Nat.add_comm m n] at x2
  exact ⟨by omega, by omega⟩
theorem FB.sub {n m : Nat} {p q : Rat} (h : FB n p) (k : FB m q) : FB (n + m + 1) (p - q) := by
  obtain ⟨a, b⟩ := normalize_le (p.num * q.den - q.num * p.den) (p.den * q.den) (Nat.mul_ne_zero (Nat.ne_of_gt p.den_pos) (Nat.ne_of_gt q.den_pos))
  rw [← Rat.sub_def] at a b
  have x1 := natAbs_mul_lt h.num (b := (q.den : Int)) (m := m) (by rw [Int.natAbs_natCast]; exact k.den)
  have x2 := natAbs_mul_lt k.num (b := (p.den : Int)) (m := n) (by rw [Int.natAbs_natCast]; exact h.den)
  have x3 := pow_mul_lt h.den k.den
  have e : 2 ^ (n + m + 1) = 2 ^ (n + m) * 2 := Nat.pow_succ ..
  rw [Nat.add_comm m n] at x2
  exact ⟨by omega, by omega⟩
theorem FB.mul {n m : Nat} {p q : Rat} (h : FB n p) (k : FB m q) : FB (n + m) (p * q) := by
  obtain ⟨a, b⟩ := normalize_le (p.num * q.num) (p.den * q.den) (Nat.mul_ne_zero (Nat.ne_of_gt p.den_pos) (Nat.ne_of_gt q.den_pos))
  rw [← Rat.mul_def] at a b
  have x1 := natAbs_mul_lt h.num k.num
  have x3 := pow_mul_lt h.den k.den
  exact ⟨by omega, by omega⟩
/-- a function that makes fractions of two numbers of at most K bits -/
def Lows (K : Nat) (e : FnE) : Prop := e.ar = 2 ∧ ∀ (a b : Int) (bx : Bx), b ≠ 0 → a.natAbs < 2 ^ K → b.natAbs < 2 ^ K → e.fm [.d (.int a), .d (.int b)] bx = .ret (frD (Rat.divInt a b)) bx
theorem gcd_lt {a b : Int} {k : Nat} (hb : b ≠ 0) (h : b.natAbs < 2 ^ k) : 0 < (Int.gcd a b : Int) ∧ Int.gcd a b < 2 ^ k := by
  have h1 : Int.gcd a b ≠ 0 := by
    rw [Ne, Int.gcd_eq_zero_iff]
    exact fun z => hb z.2
  have h2 : Int.gcd a b ≤ b.natAbs := Nat.le_of_dvd (by omega) (Nat.gcd_dvd_right _ _)
  exact ⟨by omega, by omega⟩
theorem divOk_bits {j : Int} {k : Nat} (hj : j ≠ 0) (h : j.natAbs < 2 ^ k) (hk : k ≤ 9000) : divOk j = true := by
  unfold divOk
  rw [Bool.and_eq_true, Bool.or_eq_true]
  exact ⟨decide_eq_true hj, .inr (decide_eq_true (by
    have : j.natAbs.log2 < k := (Nat.log2_lt (by omega)).mpr h
    omega))⟩
theorem fdivD_bits {i j : Int} {k : Nat} (hj : j ≠ 0) (h : j.natAbs < 2 ^ k) (hk : k ≤ 9000) : fdivD (.int i) (.int j) = some (.int (i.fdiv j)) := if_pos (divOk_bits hj h hk)
theorem fdiv_dvd {a g : Int} (hg : g ∣ a) : a.fdiv g = a / g := Int.fdiv_eq_ediv_of_dvd hg
/-- _law_low -/
theorem low_lows {e : FnE} (hc : e.ar = 2 ∧ e.fm = fmOf 2 3 m_common) {K : Nat} (hK : K ≤ 8999) (a b : Int) (bx : Bx) (hb : b ≠ 0) (h1 : a.natAbs < 2 ^ K) (h2 : b.natAbs < 2 ^ K) : fmOf 2 3 (m_low e) [.d (.int a), .d (.int b)] bx = .ret (frD (Rat.divInt a b)) bx := by
  obtain ⟨g0, g1⟩ := gcd_lt (a := a) hb h2
  have co : e.fm [.d (.int a), .d (.int b)] bx = .ret (.int (Int.gcd a b)) bx := by
    rw [hc.2]
    exact common_big (by omega) h2 bx
  have d1 : (Int.gcd a b : Int) ∣ a := Int.gcd_dvd_left a b
  have d2 : (Int.gcd a b : Int) ∣ b := Int.gcd_dvd_right a b
  have e2 : sumOk 2 = true := rfl
  by_cases hn : b < 0
  · rw [← red_neg hn]
    have n1 : (0 : Int) - (Int.gcd a b : Int) ∣ a := by rw [Int.zero_sub]; exact Int.neg_dvd.mpr d1
    have n2 : (0 : Int) - (Int.gcd a b : Int) ∣ b := by rw [Int.zero_sub]; exact Int.neg_dvd.mpr d2
    refine fm_ret rfl rfl (S := ⟨[.sh (.int a), .sh (.int b), .sh (.int (0 - (Int.gcd a b : Int)))], bx⟩) ?_ rfl
    have f1 := fdivD_bits (i := a) (j := 0 - (Int.gcd a b : Int)) (k := K) (by omega) (by omega) (by omega)
    have f2 := fdivD_bits (i := b) (j := 0 - (Int.gcd a b : Int)) (k := K) (by omega) (by omega) (by omega)
    rw [fdiv_dvd n1] at f1
    rw [fdiv_dvd n2] at f2
    simp only [Int.zero_sub] at f1 f2 ⊢
    simp [m_low, slotA, mPeek, mArgV, hc.1, co, hn, f1, f2, e2]
  · rw [← red_pos (by omega : 0 < b)]
    refine fm_ret rfl rfl (S := ⟨[.sh (.int a), .sh (.int b), .sh (.int (Int.gcd a b))], bx⟩) ?_ rfl
    have f1 := fdivD_bits (i := a) (j := (Int.gcd a b : Int)) (k := K) (by omega) (by omega) (by omega)
    have f2 := fdivD_bits (i := b) (j := (Int.gcd a b : Int)) (k := K) (by omega) (by omega) (by omega)
    rw [fdiv_dvd d1] at f1
    rw [fdiv_dvd d2] at f2
    simp [m_low, slotA, mPeek, mArgV, hc.1, co, hn, f1, f2, e2]
def gm_plus (e : FnE) : MS := (sSeq (sRet (mCall e (mSeq [(mArgE (mOp2 addD (mOp2 mulD (mBox 0 0 (mOp2 ixD (mPeek 0) (mC (.int 0)))) (mBox 1 1 (mOp2 ixD (mPeek 1) (mC (.int 1))))) (mOp2 mulD (mBox 1 0 (mOp2 ixD (mPeek 1) (mC (.int 0)))) (mBox 0 1 (mOp2 ixD (mPeek 0) (mC (.int 1))))))), (mArgE (mOp2 mulD (mBox 0 1 (mOp2 ixD (mPeek 0) (mC (.int 1)))) (mBox 1 1 (mOp2 ixD (mPeek 1) (mC (.int 1))))))]))) sNext)
def gm_minus (e : FnE) : MS := (sSeq (sRet (mCall e (mSeq [(mArgE (mOp2 subD (mOp2 mulD (mBox 0 0 (mOp2 ixD (mPeek 0) (mC (.int 0)))) (mBox 1 1 (mOp2 ixD (mPeek 1) (mC (.int 1))))) (mOp2 mulD (mBox 1 0 (mOp2 ixD (mPeek 1) (mC (.int 0)))) (mBox 0 1 (mOp2 ixD (mPeek 0) (mC (.int 1))))))), (mArgE (mOp2 mulD (mBox 0 1 (mOp2 ixD (mPeek 0) (mC (.int 1)))) (mBox 1 1 (mOp2 ixD (mPeek 1) (mC (.int 1))))))]))) sNext)
def gm_times (e : FnE) : MS := (sSeq (sRet (mCall e (mSeq [(mArgE (mOp2 mulD (mBox 0 0 (mOp2 ixD (mPeek 0) (mC (.int 0)))) (mBox 1 0 (mOp2 ixD (mPeek 1) (mC (.int 0)))))), (mArgE (mOp2 mulD (mBox 0 1 (mOp2 ixD (mPeek 0) (mC (.int 1)))) (mBox 1 1 (mOp2 ixD (mPeek 1) (mC (.int 1))))))]))) sNext)
def gm_over (e : FnE) : MS := (sSeq (sRet (mCall e (mSeq [(mArgE (mOp2 mulD (mBox 0 0 (mOp2 ixD (mPeek 0) (mC (.int 0)))) (mBox 1 1 (mOp2 ixD (mPeek 1) (mC (.int 1)))))), (mArgE (mOp2 mulD (mBox 0 1 (mOp2 ixD (mPeek 0) (mC (.int 1)))) (mBox 1 0 (mOp2 ixD (mPeek 1) (mC (.int 0))))))]))) sNext)
def gm_less : MS := (sSeq (sRet (mBl (mCmp ltD (mOp2 mulD (mBox 0 0 (mOp2 ixD (mPeek 0) (mC (.int 0)))) (mBox 1 1 (mOp2 ixD (mPeek 1) (mC (.int 1))))) (mOp2 mulD (mBox 1 0 (mOp2 ixD (mPeek 1) (mC (.int 0)))) (mBox 0 1 (mOp2 ixD (mPeek 0) (mC (.int 1)))))))) sNext)
theorem fr_0 (q : Rat) : ixD (frD q) (.int 0) = some (.int q.num) := rfl
theorem fr_1 (q : Rat) : ixD (frD q) (.int 1) = some (.int (q.den : Nat)) := rfl
theorem fr_box {i : Nat} {k : Int} {S : Sto} {q : Rat} {d : D} (h : S.sl[i]? = some (.sh (frD q))) (e : ixD (frD q) (.int k) = some d) : mBox i k (mOp2 ixD (mPeek i) (mC (.int k))) S = .ok d S := by
  rw [bx_no h, z_op2, p_sh h, z_ok, z_c, z_ok, e]
  rfl
theorem mulD_bits {i j : Int} {n m : Nat} (h1 : i.natAbs < 2 ^ n) (h2 : j.natAbs < 2 ^ m) (h : n + m < 900000) : mulD (.int i) (.int j) = some (.int (i * j)) := by
  show (if mulOk i j = true then _ else _) = _
  rw [if_pos]
  unfold mulOk
  simp only [Bool.or_eq_true, decide_eq_true_eq]
  by_cases z1 : i.natAbs = 0
  · left; left; rw [z1]; exact Nat.two_pow_pos 64
  · by_cases z2 : j.natAbs = 0
    · left; right; rw [z2]; exact Nat.two_pow_pos 64
    · right
      have a := (Nat.log2_lt z1).mpr h1
      have b := (Nat.log2_lt z2).mpr h2
      omega
theorem plus_ok {e : FnE} {K n m : Nat} (L : Lows K e) {p q : Rat} (hp : FB n p) (hq : FB m q) (h : n + m + 1 ≤ K) (hK : K ≤ 9000) (bx : Bx) : fmOf 2 2 (gm_plus e) [.d (frD p), .d (frD q)] bx = .ret (frD (p + q)) bx := by
  have dp := p.den_pos
  have dq := q.den_pos
  have np : (p.den : Int).natAbs < 2 ^ n := by rw [Int.natAbs_natCast]; exact hp.den
  have nq : (q.den : Int).natAbs < 2 ^ m := by rw [Int.natAbs_natCast]; exact hq.den
  have x1 := natAbs_mul_lt hp.num nq
  have x2 := natAbs_mul_lt hq.num np
  have x3 := natAbs_mul_lt np nq
  have e1 : 2 ^ (n + m + 1) = 2 ^ (n + m) * 2 := Nat.pow_succ ..
  have e2 : 2 ^ (n + m + 1) ≤ 2 ^ K := Nat.pow_le_pow_right (by omega) h
  rw [Nat.add_comm m n] at x2
  have nz : (p.den : Int) * q.den ≠ 0 := Int.mul_ne_zero (by omega) (by omega)
  have r := L.2 (p.num * q.den + q.num * p.den) ((p.den : Int) * q.den) bx nz (by omega) (by omega)
  rw [fr_add] at r
  have b0 : ∀ x : M D, True := fun _ => trivial
  have s0 : (⟨[.sh (frD p), .sh (frD q)], bx⟩ : Sto).sl[0]? = some (.sh (frD p)) := rfl
  have s1 : (⟨[.sh (frD p), .sh (frD q)], bx⟩ : Sto).sl[1]? = some (.sh (frD q)) := rfl
  refine fm_ret rfl rfl (S := ⟨[.sh (frD p), .sh (frD q)], bx⟩) ?_ rfl
  simp only [gm_plus, slotA, List.map, List.replicate, List.append_nil, Nat.sub_self, z_seq, z_ret, z_call, z_cons, z_argE, z_op2, fr_box s0 (fr_0 p), fr_box s0 (fr_1 p), fr_box s1 (fr_0 q), fr_box s1 (fr_1 q), z_ok, mulD_bits hp.num nq (by omega), mulD_bits hq.num np (by omega), mulD_bits np nq (by omega), z_some, z_add, z_nil]
  simp [L.1, r]
theorem minus_ok {e : FnE} {K n m : Nat} (L : Lows K e) {p q : Rat} (hp : FB n p) (hq : FB m q) (h : n + m + 1 ≤ K) (hK : K ≤ 9000) (bx : Bx) : fmOf 2 2 (gm_minus e) [.d (frD p), .d (frD q)] bx = .ret (frD (p - q)) bx := by
  have dp := p.den_pos
  have dq := q.den_pos
  have np : (p.den : Int).natAbs < 2 ^ n := by rw [Int.natAbs_natCast]; exact hp.den
  have nq : (q.den : Int).natAbs < 2 ^ m := by rw [Int.natAbs_natCast]; exact hq.den
  have x1 := natAbs_mul_lt hp.num nq
  have x2 := natAbs_mul_lt hq.num np
  have x3 := natAbs_mul_lt np nq
  have e1 : 2 ^ (n + m + 1) = 2 ^ (n + m) * 2 := Nat.pow_succ ..
  have e2 : 2 ^ (n + m + 1) ≤ 2 ^ K := Nat.pow_le_pow_right (by omega) h
  rw [Nat.add_comm m n] at x2
  have nz : (p.den : Int) * q.den ≠ 0 := Int.mul_ne_zero (by omega) (by omega)
  have r := L.2 (p.num * q.den - q.num * p.den) ((p.den : Int) * q.den) bx nz (by omega) (by omega)
  rw [fr_sub] at r
  have b0 : ∀ x : M D, True := fun _ => trivial
  have s0 : (⟨[.sh (frD p), .sh (frD q)], bx⟩ : Sto).sl[0]? = some (.sh (frD p)) := rfl
  have s1 : (⟨[.sh (frD p), .sh (frD q)], bx⟩ : Sto).sl[1]? = some (.sh (frD q)) := rfl
  refine fm_ret rfl rfl (S := ⟨[.sh (frD p), .sh (frD q)], bx⟩) ?_ rfl
  simp only [gm_minus, slotA, List.map, List.replicate, List.append_nil, Nat.sub_self, z_seq, z_ret, z_call, z_cons, z_argE, z_op2, fr_box s0 (fr_0 p), fr_box s0 (fr_1 p), fr_box s1 (fr_0 q), fr_box s1 (fr_1 q), z_ok, mulD_bits hp.num nq (by omega), mulD_bits hq.num np (by omega), mulD_bits np nq (by omega), z_some, z_sub, z_nil]
  simp [L.1, r]
theorem times_ok {e : FnE} {K n m : Nat} (L : Lows K e) {p q : Rat} (hp : FB n p) (hq : FB m q) (h : n + m ≤ K) (hK : K ≤ 9000) (bx : Bx) : fmOf 2 2 (gm_times e) [.d (frD p), .d (frD q)] bx = .ret (frD (p * q)) bx := by
  have dp := p.den_pos
  have dq := q.den_pos
  have np : (p.den : Int).natAbs < 2 ^ n := by rw [Int.natAbs_natCast]; exact hp.den
  have nq : (q.den : Int).natAbs < 2 ^ m := by rw [Int.natAbs_natCast]; exact hq.den
  have x1 := natAbs_mul_lt hp.num hq.num
  have x3 := natAbs_mul_lt np nq
  have e2 : 2 ^ (n + m) ≤ 2 ^ K := Nat.pow_le_pow_right (by omega) h
  have nz : (p.den : Int) * q.den ≠ 0 := Int.mul_ne_zero (by omega) (by omega)
  have r := L.2 (p.num * q.num) ((p.den : Int) * q.den) bx nz (by omega) (by omega)
  rw [fr_mul] at r
  have s0 : (⟨[.sh (frD p), .sh (frD q)], bx⟩ : Sto).sl[0]? = some (.sh (frD p)) := rfl
  have s1 : (⟨[.sh (frD p), .sh (frD q)], bx⟩ : Sto).sl[1]? = some (.sh (frD q)) := rfl
  refine fm_ret rfl rfl (S := ⟨[.sh (frD p), .sh (frD q)], bx⟩) ?_ rfl
  simp only [gm_times, slotA, List.map, List.replicate, List.append_nil, Nat.sub_self, z_seq, z_ret, z_call, z_cons, z_argE, z_op2, fr_box s0 (fr_0 p), fr_box s0 (fr_1 p), fr_box s1 (fr_0 q), fr_box s1 (fr_1 q), z_ok, mulD_bits hp.num hq.num (by omega), mulD_bits np nq (by omega), z_some, z_nil]
  simp [L.1, r]
theorem over_ok {e : FnE} {K n m : Nat} (L : Lows K e) {p q : Rat} (hp : FB n p) (hq : FB m q) (h : n + m ≤ K) (hK : K ≤ 9000) (q0 : q.num ≠ 0) (bx : Bx) : fmOf 2 2 (gm_over e) [.d (frD p), .d (frD q)] bx = .ret (frD (p / q)) bx := by
  have dp := p.den_pos
  have np : (p.den : Int).natAbs < 2 ^ n := by rw [Int.natAbs_natCast]; exact hp.den
  have nq : (q.den : Int).natAbs < 2 ^ m := by rw [Int.natAbs_natCast]; exact hq.den
  have x1 := natAbs_mul_lt hp.num nq
  have x3 := natAbs_mul_lt np hq.num
  have e2 : 2 ^ (n + m) ≤ 2 ^ K := Nat.pow_le_pow_right (by omega) h
  have nz : (p.den : Int) * q.num ≠ 0 := Int.mul_ne_zero (by omega) q0
  have r := L.2 (p.num * q.den) ((p.den : Int) * q.num) bx nz (by omega) (by omega)
  rw [fr_div] at r
  have s0 : (⟨[.sh (frD p), .sh (frD q)], bx⟩ : Sto).sl[0]? = some (.sh (frD p)) := rfl
  have s1 : (⟨[.sh (frD p), .sh (frD q)], bx⟩ : Sto).sl[1]? = some (.sh (frD q)) := rfl
  refine fm_ret rfl rfl (S := ⟨[.sh (frD p), .sh (frD q)], bx⟩) ?_ rfl
  simp only [gm_over, slotA, List.map, List.replicate, List.append_nil, Nat.sub_self, z_seq, z_ret, z_call, z_cons, z_argE, z_op2, fr_box s0 (fr_0 p), fr_box s0 (fr_1 p), fr_box s1 (fr_0 q), fr_box s1 (fr_1 q), z_ok, mulD_bits hp.num nq (by omega), mulD_bits np hq.num (by omega), z_some, z_nil]
  simp [L.1, r]
theorem FB.inv {n : Nat} {q : Rat} (h : FB n q) (q0 : q ≠ 0) : FB n q⁻¹ := by
  have nz : q.num ≠ 0 := fun z => q0 (Rat.num_eq_zero.mp z)
  have hd := q.den_pos
  by_cases hn : 0 < q.num
  · have e : q⁻¹ = Rat.normalize (q.den : Nat) q.num.natAbs (by omega) := by
      rw [Rat.inv_def, ← divInt_nat (a := (q.den : Nat)) (n := q.num.natAbs) (by omega), show ((q.num.natAbs : Nat) : Int) = q.num by omega]
    obtain ⟨a, b⟩ := normalize_le (q.den : Nat) q.num.natAbs (by omega)
    rw [← e, Int.natAbs_natCast] at a
    rw [← e] at b
    exact ⟨Nat.lt_of_le_of_lt a h.den, Nat.lt_of_le_of_lt b h.num⟩
  · have e : q⁻¹ = Rat.normalize (-(q.den : Int)) q.num.natAbs (by omega) := by
      rw [Rat.inv_def, ← divInt_nat (a := -(q.den : Int)) (n := q.num.natAbs) (by omega), Rat.divInt_eq_divInt_iff nz (by omega)]
      rw [show ((q.num.natAbs : Nat) : Int) = -q.num by omega, Int.mul_neg, Int.neg_mul]
    obtain ⟨a, b⟩ := normalize_le (-(q.den : Int)) q.num.natAbs (by omega)
    rw [← e, Int.natAbs_neg, Int.natAbs_natCast] at a
    rw [← e] at b
    exact ⟨Nat.lt_of_le_of_lt a h.den, Nat.lt_of_le_of_lt b h.num⟩
theorem FB.div {n m : Nat} {p q : Rat} (h : FB n p) (k : FB m q) (q0 : q ≠ 0) : FB (n + m) (p / q) := by
  rw [Rat.div_def]
  exact h.mul (k.inv q0)
def gg_gcd : M Bool := (mTru (mPeek 1))
def gb_gcd : MS := (sSeq (sE (mSeq [(mVar 1), (mOp2 modD (mPeek 0) (mPeek 1))]) (sPar [0, 1])) sNext)
noncomputable def gw_gcd : MS := sWhile gg_gcd gb_gcd
noncomputable def gm_gcd : MS := (sSeq (sE (mSeq [(mOp1 absD (mPeek 0)), (mOp1 absD (mPeek 1))]) (sPar [0, 1])) (sSeq gw_gcd (sSeq (sRet (mVar 0)) sNext)))
def gm_reduced (e : FnE) : MS := (sSeq (sIf (mCmp eqD (mPeek 1) (mC (.int 0))) (sSeq (sRaise 0 (mC (.str "zero"))) sNext) sNext) (sSeq (sE (mIf (mCmp gtD (mPeek 1) (mC (.int 0))) (mCall e (mSeq [(mArgV 0), (mArgV 1)])) (mOp1 negD (mCall e (mSeq [(mArgV 0), (mArgV 1)])))) (sSet 2)) (sSeq (sRet (mTup [(mOp2 fdivD (mPeek 0) (mPeek 2)), (mOp2 fdivD (mPeek 1) (mPeek 2))])) sNext)))
theorem gcd_w (a b : Nat) (bx : Bx) : ∃ S', gw_gcd ⟨[.sh (.int (a : Int)), .sh (.int (b : Int))], bx⟩ = .next S' ∧ S' = ⟨[.sh (.int (Nat.gcd a b : Nat)), .sh (.int 0)], bx⟩ := by
  refine while_inv (P := fun S => ∃ x y : Nat, Nat.gcd x y = Nat.gcd a b ∧ S = ⟨[.sh (.int (x : Int)), .sh (.int (y : Int))], bx⟩) (fun S => match S.sl[1]? with | some (DV.sh (PyData.int y)) => y.toNat | _ => 0) ?_ ⟨a, b, rfl, rfl⟩
  rintro S ⟨x, y, e, rfl⟩
  by_cases hy : y = 0
  · subst hy
    rw [Nat.gcd_zero_right] at e
    subst e
    exact .inl ⟨_, rfl, rfl⟩
  · refine .inr ⟨⟨[.sh (.int (x : Int)), .sh (.int (y : Int))], bx⟩, ⟨[.sh (.int (y : Int)), .sh (.int ((x % y : Nat) : Int))], bx⟩, ?_, ?_, ⟨y, x % y, ?_, rfl⟩, ?_⟩
    · simp [gg_gcd, mPeek, hy]
    · simp [gb_gcd, mPeek, mVar, modD_pos (show (0 : Int) < y by omega), sPar]
    · rw [← e, Nat.gcd_comm y, ← Nat.gcd_rec, Nat.gcd_comm]
    · show (((x % y : Nat) : Int)).toNat < ((y : Int)).toNat
      have := Nat.mod_lt x (Nat.pos_of_ne_zero hy)
      omega
theorem gcd_ok (a b : Int) (bx : Bx) : fmOf 2 2 gm_gcd [.d (.int a), .d (.int b)] bx = .ret (.int (Int.gcd a b)) bx := by
  obtain ⟨S', e, rfl⟩ := gcd_w a.natAbs b.natAbs bx
  refine fm_ret (S := ⟨[.sh (.int (Nat.gcd a.natAbs b.natAbs : Nat)), .sh (.int 0)], bx⟩) rfl rfl ?_ rfl
  simp [gm_gcd, mPeek, mVar, sPar, e, slotA, Int.gcd]
/-- reduced -/
theorem reduced_lows {e : FnE} (hc : e.ar = 2 ∧ e.fm = fmOf 2 2 gm_gcd) {K : Nat} (hK : K ≤ 8999) (a b : Int) (bx : Bx) (hb : b ≠ 0) (h1 : a.natAbs < 2 ^ K) (h2 : b.natAbs < 2 ^ K) : fmOf 2 3 (gm_reduced e) [.d (.int a), .d (.int b)] bx = .ret (frD (Rat.divInt a b)) bx := by
  obtain ⟨g0, g1⟩ := gcd_lt (a := a) hb h2
  have co : e.fm [.d (.int a), .d (.int b)] bx = .ret (.int (Int.gcd a b)) bx := by
    rw [hc.2]
    exact gcd_ok a b bx
  have d1 : (Int.gcd a b : Int) ∣ a := Int.gcd_dvd_left a b
  have d2 : (Int.gcd a b : Int) ∣ b := Int.gcd_dvd_right a b
  have e2 : sumOk 2 = true := rfl
  by_cases hn : b < 0
  · have rn := red_neg (a := a) hn
    rw [Int.zero_sub] at rn
    rw [← rn]
    have n1 : -(Int.gcd a b : Int) ∣ a := Int.neg_dvd.mpr d1
    have n2 : -(Int.gcd a b : Int) ∣ b := Int.neg_dvd.mpr d2
    refine fm_ret rfl rfl (S := ⟨[.sh (.int a), .sh (.int b), .sh (.int (-(Int.gcd a b : Int)))], bx⟩) ?_ rfl
    have f1 := fdivD_bits (i := a) (j := -(Int.gcd a b : Int)) (k := K) (by omega) (by omega) (by omega)
    have f2 := fdivD_bits (i := b) (j := -(Int.gcd a b : Int)) (k := K) (by omega) (by omega) (by omega)
    rw [fdiv_dvd n1] at f1
    rw [fdiv_dvd n2] at f2
    simp [gm_reduced, slotA, mPeek, mArgV, hc.1, co, hb, show ¬ 0 < b by omega, f1, f2, e2]
  · have hp : 0 < b := by omega
    rw [← red_pos hp]
    refine fm_ret rfl rfl (S := ⟨[.sh (.int a), .sh (.int b), .sh (.int (Int.gcd a b))], bx⟩) ?_ rfl
    have f1 := fdivD_bits (i := a) (j := (Int.gcd a b : Int)) (k := K) (by omega) (by omega) (by omega)
    have f2 := fdivD_bits (i := b) (j := (Int.gcd a b : Int)) (k := K) (by omega) (by omega) (by omega)
    rw [fdiv_dvd d1] at f1
    rw [fdiv_dvd d2] at f2
    simp [gm_reduced, slotA, mPeek, mArgV, hc.1, co, hb, hp, f1, f2, e2]
end Gl

set_option maxRecDepth 100000
set_option maxHeartbeats 1000000
/-! The plain tools, second part: comprehensions that simp works out by itself. -/
namespace Gl
open PySem PySem.Spec PyProof.Rows L2
variable {α β γ : Type}
/-! ### functions -/
def finO : O → Res
  | .next S => .ret .none S.bx
  | .ret d S => .ret d S.bx
  | .exc c d b => .exc c d b
  | _ => .stuck
@[simp] theorem finO_next {S : Sto} : finO (.next S) = .ret .none S.bx := Eq.trans rfl rfl
@[simp] theorem finO_ret {d : D} {S : Sto} : finO (.ret d S) = .ret d S.bx := Eq.trans rfl rfl
@[simp] theorem finO_exc {c : Nat} {d : D} {b : Bx} : finO (.exc c d b) = .exc c d b := Eq.trans rfl rfl
theorem z_fm {n N : Nat} {m : MS} {as : List Arg} {bx : Bx} (h : as.length = n) : fmOf n N m as bx = finO (m ⟨as.map slotA ++ List.replicate (N - n) DV.un, bx⟩) := by
  unfold fmOf
  rw [if_pos h]
  cases m ⟨as.map slotA ++ List.replicate (N - n) DV.un, bx⟩ <;> rfl
/-! ### names -/
def rdV (i : Nat) (S : Sto) : Option DV → R D
  | some (.sh d) => .ok d S
  | some (.ow d) => .ok d (share S i d)
  | _ => .stuck
def rdP (S : Sto) : Option DV → R D
  | some (.sh d) => .ok d S
  | some (.ow d) => .ok d S
  | _ => .stuck
def rdA (i : Nat) (S : Sto) : Option DV → R Arg
  | some (.sh d) => .ok (.d d) S
  | some (.ow d) => .ok (.d d) (share S i d)
  | some .bx => .ok .box S
  | _ => .stuck
@[simp] theorem rdV_sh {i : Nat} {S : Sto} {d : D} : rdV i S (some (.sh d)) = .ok d S := Eq.trans rfl rfl
@[simp] theorem rdV_ow {i : Nat} {S : Sto} {d : D} : rdV i S (some (.ow d)) = .ok d ⟨S.sl.set i (.sh d), S.bx⟩ := Eq.trans rfl rfl
@[simp] theorem rdP_sh {S : Sto} {d : D} : rdP S (some (.sh d)) = .ok d S := Eq.trans rfl rfl
@[simp] theorem rdP_ow {S : Sto} {d : D} : rdP S (some (.ow d)) = .ok d S := Eq.trans rfl rfl
@[simp] theorem rdA_sh {i : Nat} {S : Sto} {d : D} : rdA i S (some (.sh d)) = .ok (.d d) S := Eq.trans rfl rfl
@[simp] theorem rdA_ow {i : Nat} {S : Sto} {d : D} : rdA i S (some (.ow d)) = .ok (.d d) ⟨S.sl.set i (.sh d), S.bx⟩ := Eq.trans rfl rfl
@[simp] theorem rdA_bx {i : Nat} {S : Sto} : rdA i S (some .bx) = .ok .box S := Eq.trans rfl rfl
@[simp] theorem y_var {i : Nat} {sl : List DV} {bx : Bx} : mVar i ⟨sl, bx⟩ = rdV i ⟨sl, bx⟩ sl[i]? := by
  unfold mVar rdV
  cases sl[i]? with
  | none => rfl
  | some x => cases x <;> rfl
@[simp] theorem y_peek {i : Nat} {sl : List DV} {bx : Bx} : mPeek i ⟨sl, bx⟩ = rdP ⟨sl, bx⟩ sl[i]? := by
  unfold mPeek rdP
  cases sl[i]? with
  | none => rfl
  | some x => cases x <;> rfl
@[simp] theorem y_argV {i : Nat} {sl : List DV} {bx : Bx} : mArgV i ⟨sl, bx⟩ = rdA i ⟨sl, bx⟩ sl[i]? := by
  unfold mArgV rdA
  cases sl[i]? with
  | none => rfl
  | some x => cases x <;> rfl
/-- the box, or any other -/
def rdB (k : Int) (m : M D) (S : Sto) : Option DV → R D
  | some .bx => match S.bx with
    | some (ds, at_) => if k = 0 then .ok (.list (ds.map .int)) S else if k = 1 then .ok (.int at_) S else .stuck
    | none => .stuck
  | _ => m S
@[simp] theorem rdB_sh {k : Int} {m : M D} {S : Sto} {d : D} : rdB k m S (some (.sh d)) = m S := Eq.trans rfl rfl
@[simp] theorem rdB_ow {k : Int} {m : M D} {S : Sto} {d : D} : rdB k m S (some (.ow d)) = m S := Eq.trans rfl rfl
@[simp] theorem y_box {i : Nat} {k : Int} {m : M D} {sl : List DV} {bx : Bx} : mBox i k m ⟨sl, bx⟩ = rdB k m ⟨sl, bx⟩ sl[i]? := by
  unfold mBox rdB
  cases bx with
  | none =>
    cases sl[i]? with
    | none => rfl
    | some x => cases x <;> rfl
  | some p =>
    cases sl[i]? with
    | none => rfl
    | some x => cases x <;> rfl
/-! ### one's own lists -/
def shOf : Option DV → Nat → Sto → Sto
  | some (.ow d), j, S => ⟨S.sl.set j (.sh d), S.bx⟩
  | _, _, S => S
@[simp] theorem shOf_sh {d : D} {j : Nat} {S : Sto} : shOf (some (.sh d)) j S = S := Eq.trans rfl rfl
@[simp] theorem shOf_bx {j : Nat} {S : Sto} : shOf (some .bx) j S = S := Eq.trans rfl rfl
@[simp] theorem shOf_un {j : Nat} {S : Sto} : shOf (some .un) j S = S := Eq.trans rfl rfl
@[simp] theorem shOf_ow {d : D} {j : Nat} {S : Sto} : shOf (some (.ow d)) j S = ⟨S.sl.set j (.sh d), S.bx⟩ := Eq.trans rfl rfl
@[simp] theorem y_shJ {j : Nat} {sl : List DV} {bx : Bx} : shareJ ⟨sl, bx⟩ j = shOf sl[j]? j ⟨sl, bx⟩ := by
  unfold shareJ shOf
  cases sl[j]? with
  | none => rfl
  | some x => cases x <;> rfl
@[simp] theorem hide_sh' {d : D} : hideD (.sh d) = .sh d := Eq.trans rfl rfl
@[simp] theorem hide_ow' {d : D} : hideD (.ow d) = .un := Eq.trans rfl rfl
@[simp] theorem hide_bx' : hideD .bx = .bx := Eq.trans rfl rfl
@[simp] theorem hide_un' : hideD .un = .un := Eq.trans rfl rfl
@[simp] theorem hide_hide {x : DV} : hideD (hideD x) = hideD x := by cases x <;> rfl
@[simp] theorem wipe_nil' {sl : List DV} : wipeD sl [] = sl := Eq.trans rfl rfl
@[simp] theorem wipe_cons' {sl : List DV} {v : Nat} {vs : List Nat} : wipeD sl (v :: vs) = (wipeD sl vs).set v .un := Eq.trans rfl rfl
@[simp] theorem st_name {i : Nat} {d : D} {sl : List DV} : stName i d sl = some (sl.set i (.sh d)) := Eq.trans rfl rfl
@[simp] theorem st_nil {sl : List DV} : stNil [] sl = some sl := by unfold stNil; rw [if_pos rfl]
@[simp] theorem st_cons {t : Tgt} {u : List D → List DV → Option (List DV)} {d : D} {ds : List D} {sl : List DV} : stCons t u (d :: ds) sl = (t d sl).bind (u ds) := Eq.trans rfl rfl
@[simp] theorem st_tup {n : Nat} {u : List D → List DV → Option (List DV)} {ds : List D} {sl : List DV} (h : ds.length = n) : stTup n u (.tuple ds) sl = u ds sl := by
  unfold stTup
  exact if_pos h
def sto (S : Sto) : Option (List DV) → O
  | some sl => .next ⟨sl, S.bx⟩
  | none => .stuck
@[simp] theorem sto_some {S : Sto} {sl : List DV} : sto S (some sl) = .next ⟨sl, S.bx⟩ := Eq.trans rfl rfl
@[simp] theorem y_store {st : Tgt} {d : D} {S : Sto} : sStore st d S = sto S (st d S.sl) := by
  unfold sStore sto
  cases st d S.sl <;> rfl
def apO (i : Nat) (d : D) (S1 : Sto) : Option DV → O
  | some (.ow (.list ds)) => if sumOk (ds.length + 1) = true then .next { S1 with sl := S1.sl.set i (.ow (.list (ds ++ [d]))) } else .stuck
  | _ => .stuck
def isOw : Option DV → Bool
  | some (.ow _) => true
  | _ => false
@[simp] theorem isOw_ow {d : D} : isOw (some (.ow d)) = true := Eq.trans rfl rfl
@[simp] theorem apO_ow {i : Nat} {d : D} {S : Sto} {ds : List D} (h : sumOk (ds.length + 1) = true) : apO i d S (some (.ow (.list ds))) = .next ⟨S.sl.set i (.ow (.list (ds ++ [d]))), S.bx⟩ := if_pos h
@[simp] theorem y_append {i : Nat} {m : M D} {sl : List DV} {bx : Bx} (h : isOw sl[i]? = true) : sAppend i m ⟨sl, bx⟩ = (m ⟨sl, bx⟩).toO fun d S1 => apO i d S1 S1.sl[i]? := by
  unfold sAppend
  dsimp only
  cases hx : sl[i]? with
  | none => rw [hx] at h; cases h
  | some x =>
    cases x with
    | ow d =>
      show sE m _ _ = _
      unfold sE
      rfl
    | _ => rw [hx] at h; cases h
@[simp] theorem y_own {i : Nat} {m : M (List D)} {S : Sto} : sOwn i m S = (m S).toO fun ds S1 => if sumOk ds.length = true then .next ⟨S1.sl.set i (.ow (.list ds)), S1.bx⟩ else .stuck := Eq.trans rfl rfl
@[simp] theorem y_par {is : List Nat} {ds : List D} {S : Sto} (h : ds.length = is.length) : sPar is ds S = .next ⟨(is.zip ds).foldl (fun sl p => sl.set p.1 (.sh p.2)) S.sl, S.bx⟩ := if_pos h
def agO (op : Operator) (i : Nat) (m : M D) (S : Sto) : Option DV → O
  | some (.sh x) => (m S).toO fun y S1 => (ofO (augD op x y) S1).toO (sSet i)
  | _ => .stuck
@[simp] theorem agO_sh {op : Operator} {i : Nat} {m : M D} {S : Sto} {x : D} : agO op i m S (some (.sh x)) = (m S).toO fun y S1 => (ofO (augD op x y) S1).toO (sSet i) := Eq.trans rfl rfl
@[simp] theorem y_aug {op : Operator} {i : Nat} {m : M D} {sl : List DV} {bx : Bx} : sAug op i m ⟨sl, bx⟩ = agO op i m ⟨sl, bx⟩ sl[i]? := by
  unfold sAug agO
  dsimp only
  cases sl[i]? with
  | none => rfl
  | some x =>
    cases x with
    | sh d =>
      show sE _ _ _ = _
      unfold sE M.bind
      cases m ⟨sl, bx⟩ <;> rfl
    | _ => rfl
def paO : D → Sto → R (Option Int)
  | .int i, S => .ok (some i) S
  | _, _ => .stuck
@[simp] theorem paO_int {i : Int} {S : Sto} : paO (.int i) S = .ok (some i) S := Eq.trans rfl rfl
@[simp] theorem z_part {m : M D} {S : Sto} : mPart m S = (m S).bind paO := by
  unfold mPart M.bind
  congr 1
  funext x S1
  cases x <;> rfl
@[simp] theorem z_cut {m : M D} {lo hi : M (Option Int)} {S : Sto} : mCut m lo hi S = (m S).bind fun x S1 => (lo S1).bind fun l S2 => (hi S2).bind fun h S3 => ofO (cutD x l h) S3 := Eq.trans rfl rfl
/-! ### comprehensions -/
def stepC (sl : List DV) (st : Tgt) (mt : M Bool) (me : M D) (d : D) (bx : Bx) : Option (Option D × Bx) :=
  (st d sl).bind fun sl' => match mt ⟨sl', bx⟩ with
    | .ok false S1 => some (none, S1.bx)
    | .ok true S1 => match me S1 with
      | .ok y S2 => some (some y, S2.bx)
      | _ => none
    | _ => none
def compG {δ : Type} (f : γ → Bx → Option (Option δ × Bx)) : List γ → Bx → Option (List δ × Bx)
  | [], bx => some ([], bx)
  | x :: l, bx => (f x bx).bind fun p => (compG f l p.2).map fun q => (p.1.toList ++ q.1, q.2)
theorem compL_G {sl : List DV} {st : Tgt} {mt : M Bool} {me : M D} : ∀ {ds : List D} {bx : Bx}, compL sl st mt me ds bx = compG (stepC sl st mt me) ds bx
  | [], _ => rfl
  | d :: ds, bx => by
    unfold compL compG stepC
    cases st d sl with
    | none => rfl
    | some sl' =>
      dsimp only [Option.bind_some]
      cases mt ⟨sl', bx⟩ with
      | ok b S1 =>
        cases b with
        | false =>
          dsimp only [Option.bind_some]
          rw [compL_G]
          show compG (stepC sl st mt me) ds S1.bx = (compG (stepC sl st mt me) ds S1.bx).map fun q => (none.toList ++ q.1, q.2)
          cases compG (stepC sl st mt me) ds S1.bx <;> rfl
        | true =>
          dsimp only
          cases me S1 with
          | ok y S2 =>
            dsimp only [Option.bind_some]
            rw [compL_G]
            rfl
          | exc c d b => rfl
          | stuck => rfl
      | exc c d b => rfl
      | stuck => rfl
def finC (sl : List DV) : Option (List D × Bx) → R D
  | some (ys, bx') => if sumOk ys.length then .ok (.list ys) ⟨sl, bx'⟩ else .stuck
  | none => .stuck
theorem finC_ok {sl : List DV} {ys : List D} {bx : Bx} (h : ys.length ≤ 16777216) : finC sl (some (ys, bx)) = .ok (.list ys) ⟨sl, bx⟩ := if_pos (sumOk_lt h)
@[simp] theorem y_comp {js vs : List Nat} {mi : M (List D)} {st : Tgt} {mt : M Bool} {me : M D} {S : Sto} : mComp js vs mi st mt me S = (mi S).bind fun ds S1 => finC (shareJs S1 js).sl (compG (stepC (wipeD ((shareJs S1 js).sl.map hideD) vs) st mt me) ds (shareJs S1 js).bx) := by
  unfold mComp M.bind finC
  cases mi S with
  | ok ds S1 =>
    simp only [z_ok, compL_G]
    try rfl
  | exc c d b => rfl
  | stuck => rfl
theorem compG_map {δ ε : Type} {f : γ → Bx → Option (Option δ × Bx)} (g : ε → γ) : ∀ {l : List ε} {bx : Bx}, compG f (l.map g) bx = compG (fun x => f (g x)) l bx
  | [], _ => rfl
  | x :: l, bx => by
    rw [List.map_cons]
    unfold compG
    congr 1
    funext p
    rw [compG_map]
theorem compG_congr {δ : Type} {f f' : γ → Bx → Option (Option δ × Bx)} {l l' : List γ} {bx bx' : Bx} (hl : l = l') (hb : bx = bx') (h : ∀ x, x ∈ l' → ∀ b, f x b = f' x b) : compG f l bx = compG f' l' bx' := by
  subst hl hb
  induction l generalizing bx with
  | nil => rfl
  | cons x l ih =>
    unfold compG
    rw [h x (by simp)]
    congr 1
    funext p
    rw [ih fun y hy => h y (List.mem_cons_of_mem _ hy)]
theorem compG_pure {δ : Type} {h : γ → Option δ} : ∀ {l : List γ} {bx : Bx}, compG (fun x b => some (h x, b)) l bx = some (l.filterMap h, bx)
  | [], _ => rfl
  | x :: l, bx => by
    unfold compG
    simp only [Option.bind_some, compG_pure, Option.map_some, List.filterMap_cons]
    cases h x <;> rfl
theorem fm_some {δ : Type} {f : γ → δ} {l : List γ} : l.filterMap (fun x => some (f x)) = l.map f := by
  induction l with
  | nil => rfl
  | cons x l ih => rw [List.filterMap_cons, List.map_cons, ih]
theorem fm_ite {δ : Type} {p : γ → Bool} {f : γ → δ} {l : List γ} : l.filterMap (fun x => if p x = true then some (f x) else none) = (l.filter p).map f := by
  induction l with
  | nil => rfl
  | cons x l ih =>
    rw [List.filterMap_cons]
    cases hp : p x with
    | true => rw [List.filter_cons_of_pos hp, List.map_cons, ← ih]; rfl
    | false => rw [List.filter_cons_of_neg (by rw [hp]; simp), ← ih]; rfl
/-- what a step gives, when the test and the item are known -/
def stp (me : M D) : R Bool → Option (Option D × Bx)
  | .ok false S1 => some (none, S1.bx)
  | .ok true S1 => stpE (me S1)
  | _ => none
where stpE : R D → Option (Option D × Bx)
  | .ok y S2 => some (some y, S2.bx)
  | _ => none
@[simp] theorem y_step {sl : List DV} {st : Tgt} {mt : M Bool} {me : M D} {d : D} {bx : Bx} : stepC sl st mt me d bx = (st d sl).bind fun sl' => stp me (mt ⟨sl', bx⟩) := by
  unfold stepC stp
  rfl
@[simp] theorem stpE_ok {y : D} {S : Sto} : stp.stpE (.ok y S) = some (some y, S.bx) := Eq.trans rfl rfl
@[simp] theorem stp_ok {me : M D} {b : Bool} {S : Sto} : stp me (.ok b S) = if b = true then stp.stpE (me S) else some (none, S.bx) := by cases b <;> rfl
theorem some_ite {p : Bool} {a b : Option α} {bx : β} : (if p = true then some (a, bx) else some (b, bx)) = some (if p = true then a else b, bx) := by cases p <;> rfl
section
variable {γ δ : Type}
theorem cG_cond {f : γ → Bx → Option (Option δ × Bx)} {h : γ → Option δ} {l : List γ} {bx : Bx} (hx : ∀ x, x ∈ l → ∀ b, f x b = some (h x, b)) : compG f l bx = some (l.filterMap h, bx) := by
  rw [compG_congr (f' := fun x b => some (h x, b)) rfl rfl hx, compG_pure]
theorem cG_cons {f : γ → Bx → Option (Option δ × Bx)} {x : γ} {l : List γ} {bx : Bx} : compG f (x :: l) bx = (f x bx).bind fun p => (compG f l p.2).map fun q => (p.1.toList ++ q.1, q.2) := rfl
theorem cG_nil {f : γ → Bx → Option (Option δ × Bx)} {bx : Bx} : compG f [] bx = some ([], bx) := rfl
end
/-! ### loops over known things -/
def lpO (st : Tgt) (mb : MS) (ds : List D) : O → O
  | .next S' => loopF st mb ds S'
  | .cont S' => loopF st mb ds S'
  | .brk S' => .next S'
  | .ret d S' => .ret d S'
  | .exc c d b => .exc c d b
  | .stuck => .stuck
def lpS (st : Tgt) (mb : MS) (ds : List D) (bx : Bx) : Option (List DV) → O
  | some sl => lpO st mb ds (mb ⟨sl, bx⟩)
  | none => .stuck
section
variable {st : Tgt} {mb : MS} {ds : List D}
@[simp] theorem lpO_next {S : Sto} : lpO st mb ds (.next S) = loopF st mb ds S := Eq.trans rfl rfl
@[simp] theorem lpO_cont {S : Sto} : lpO st mb ds (.cont S) = loopF st mb ds S := Eq.trans rfl rfl
@[simp] theorem lpO_brk {S : Sto} : lpO st mb ds (.brk S) = .next S := Eq.trans rfl rfl
@[simp] theorem lpO_ret {d : D} {S : Sto} : lpO st mb ds (.ret d S) = .ret d S := Eq.trans rfl rfl
@[simp] theorem lpO_exc {c : Nat} {d : D} {b : Bx} : lpO st mb ds (.exc c d b) = .exc c d b := Eq.trans rfl rfl
@[simp] theorem lpS_some {sl : List DV} {bx : Bx} : lpS st mb ds bx (some sl) = lpO st mb ds (mb ⟨sl, bx⟩) := Eq.trans rfl rfl
@[simp] theorem loop_nil {S : Sto} : loopF st mb [] S = .next S := Eq.trans rfl rfl
@[simp] theorem loop_cons {d : D} {S : Sto} : loopF st mb (d :: ds) S = lpS st mb ds S.bx (st d S.sl) := by
  unfold lpS
  simp only [loopF]
  cases st d S.sl with
  | none => rfl
  | some sl =>
    dsimp only
    unfold lpO
    cases mb { S with sl := sl } <;> rfl
end
@[simp] theorem truA_bool {b : Bool} : truA (.bool b) = some b := Eq.trans rfl rfl
@[simp] theorem truA_int {i : Int} : truA (.int i) = some (i != 0) := Eq.trans rfl rfl
@[simp] theorem truA_none : truA .none = some false := Eq.trans rfl rfl
@[simp] theorem bools_nil : boolsOf [] = some [] := Eq.trans rfl rfl
@[simp] theorem bools_cons {d : D} {ds : List D} : boolsOf (d :: ds) = (truA d).bind fun b => (boolsOf ds).map (b :: ·) := Eq.trans rfl rfl
@[simp] theorem z_all {ds : List D} : allD (.list ds) = (boolsOf ds).map fun bs => .bool (bs.all id) := Eq.trans rfl rfl
@[simp] theorem z_any {ds : List D} : anyD (.list ds) = (boolsOf ds).map fun bs => .bool (bs.any id) := Eq.trans rfl rfl
/-! ### the tell -/
def tlO (sl : List DV) (h : Nat → Option Str) : R D → R D
  | .ok d S' => .ok d ⟨sl, S'.bx⟩
  | .exc n d bx' => match h n with
    | some tag => .ok (.list [.str tag, d]) ⟨sl, bx'⟩
    | none => .stuck
  | .stuck => .stuck
@[simp] theorem tlO_ok {sl : List DV} {h : Nat → Option Str} {d : D} {S : Sto} : tlO sl h (.ok d S) = .ok d ⟨sl, S.bx⟩ := Eq.trans rfl rfl
@[simp] theorem tlO_exc {sl : List DV} {h : Nat → Option Str} {n : Nat} {d : D} {b : Bx} {tag : Str} (e : h n = some tag) : tlO sl h (.exc n d b) = .ok (.list [.str tag, d]) ⟨sl, b⟩ := by
  unfold tlO
  dsimp only
  rw [e]
@[simp] theorem y_told {js : List Nat} {h : Nat → Option Str} {m : M D} {S : Sto} : mTold js h m S = tlO (shareJs S js).sl h (m ⟨(shareJs S js).sl.map hideD, (shareJs S js).bx⟩) := by
  unfold mTold tlO
  cases m ⟨(shareJs S js).sl.map hideD, (shareJs S js).bx⟩ with
  | ok d S' => rfl
  | exc n d b =>
    show (match h n with
      | some tag => R.ok (PyData.list [PyData.str tag, d]) _
      | none => R.stuck) = (match h n with
      | some tag => R.ok (PyData.list [PyData.str tag, d]) _
      | none => R.stuck)
    cases h n <;> rfl
  | stuck => rfl
/-- the law gives True -/
def Tr (o : O) : Prop := ∃ S2, o = .ret (.bool true) S2
@[simp] theorem Tr_ret {S : Sto} : Tr (.ret (.bool true) S) = True := eq_true ⟨S, rfl⟩
end Gl

set_option maxRecDepth 100000
set_option maxHeartbeats 1000000
/-! Fractions by classes; what shows alike when numbers are long; equal data. -/
namespace Gl
open PySem PySem.Spec PyProof.Rows L2
variable {γ δ : Type}
/-! ### how many bits, by classes -/
class FBc (n : outParam Nat) (q : Rat) : Prop where
  out : FB n q
instance {n m : Nat} {p q : Rat} [a : FBc n p] [b : FBc m q] : FBc (n + m + 1) (p + q) := ⟨a.out.add b.out⟩
instance {n m : Nat} {p q : Rat} [a : FBc n p] [b : FBc m q] : FBc (n + m + 1) (p - q) := ⟨a.out.sub b.out⟩
instance {n m : Nat} {p q : Rat} [a : FBc n p] [b : FBc m q] : FBc (n + m) (p * q) := ⟨a.out.mul b.out⟩

theorem FB.divC {n m : Nat} {p q : Rat} (h : FB n p) (k : FB m q) : FB (n + m + 1) (p / q) := by
  by_cases q0 : q = 0
  · subst q0
    rw [Rat.div_def, Rat.inv_zero, Rat.mul_zero]
    exact ⟨Nat.two_pow_pos _, by show 1 < 2 ^ (n + m + 1); exact Nat.one_lt_two_pow (by omega)⟩
  · exact (h.div k q0).mono (by omega)
instance {n m : Nat} {p q : Rat} [a : FBc n p] [b : FBc m q] : FBc (n + m + 1) (p / q) := ⟨a.out.divC b.out⟩
theorem FB.neg {n : Nat} {q : Rat} (h : FB n q) : FB n (-q) := ⟨by rw [Rat.neg_num, Int.natAbs_neg]; exact h.num, by rw [Rat.neg_den]; exact h.den⟩
instance {n : Nat} {q : Rat} [a : FBc n q] : FBc n (-q) := ⟨a.out.neg⟩
instance : FBc 1 (0 : Rat) := ⟨by decide, by decide⟩
instance : FBc 1 (1 : Rat) := ⟨by decide, by decide⟩
instance : FBc 2 (2 : Rat) := ⟨by decide, by decide⟩
theorem fr_c0 : (PyData.tuple [.int 0, .int 1]) = frD 0 := rfl
theorem fr_c1 : (PyData.tuple [.int 1, .int 1]) = frD 1 := rfl
theorem fr_cm1 : (PyData.tuple [.int (-1), .int 1]) = frD (-1) := rfl
theorem fr_c2 : (PyData.tuple [.int 2, .int 1]) = frD 2 := rfl
theorem fr_cm2 : (PyData.tuple [.int (-2), .int 1]) = frD (-2) := rfl
theorem num_ne {q : Rat} (h : q ≠ 0) : q.num ≠ 0 := fun z => h (Rat.num_eq_zero.mp z)
/-! ### equal data -/
theorem shp_fr (q : Rat) : shp (frD q) = true := rfl
theorem eqv_fr (p q : Rat) : PyData.eqv (frD p) (frD q) = decide (p = q) := by
  unfold frD
  simp only [PyData.eqv, PyData.eqvAll, Bool.and_true]
  rw [Bool.eq_iff_iff, Bool.and_eq_true, beq_iff_eq, beq_iff_eq, decide_eq_true_eq]
  constructor
  · rintro ⟨a, b⟩
    exact Rat.ext a (by omega)
  · rintro rfl
    exact ⟨rfl, rfl⟩
@[simp] theorem z_eqfr {p q : Rat} : eqD (frD p) (frD q) = some (decide (p = q)) := by
  unfold eqD
  rw [shp_fr, shp_fr, eqv_fr]
  rfl
@[simp] theorem z_nefr {p q : Rat} : neD (frD p) (frD q) = some (!decide (p = q)) := by
  unfold neD
  rw [shp_fr, shp_fr, eqv_fr]
  rfl
@[simp] theorem z_none_isNot_fr {q : Rat} : isNotD (frD q) .none = some true := Eq.trans rfl rfl
@[simp] theorem z_none_is_fr {q : Rat} : isD (frD q) .none = some false := Eq.trans rfl rfl
theorem ne_of_eq' {x y : D} {b : Bool} (h : eqD x y = some b) : neD x y = some (!b) := by
  unfold eqD at h
  unfold neD
  split at h
  · rename_i hz
    cases h
    rw [if_pos hz]
  · cases h
theorem eqD_refl {d : D} (h : shp d = true) : eqD d d = some true := by
  unfold eqD
  rw [h]
  unfold shp SeqAt.shaped at h
  rw [Bool.and_eq_true] at h
  rw [SeqAt.eqv_refl d h.1]
  rfl
theorem neD_refl {d : D} (h : shp d = true) : neD d d = some false := ne_of_eq' (eqD_refl h)
theorem shp_tup {ds : List D} (h : ∀ d ∈ ds, shp d = true ∧ PyData.depth d ≤ 20) : shp (.tuple ds) = true ∧ PyData.depth (.tuple ds) ≤ 21 := by
  have key : PyData.canLayAll0 ds = true ∧ PyData.depthAll ds ≤ 20 := by
    induction ds with
    | nil => exact ⟨rfl, Nat.zero_le _⟩
    | cons d ds ih =>
      obtain ⟨a, b⟩ := h d (by simp)
      obtain ⟨c, e⟩ := ih fun d hd => h d (List.mem_cons_of_mem _ hd)
      unfold shp SeqAt.shaped at a
      rw [Bool.and_eq_true] at a
      refine ⟨?_, ?_⟩
      · simp only [PyData.canLayAll0, a.1, c, Bool.and_self]
      · simp only [PyData.depthAll]
        exact Nat.max_le.mpr ⟨b, e⟩
  refine ⟨?_, ?_⟩
  · show (PyData.canLayAll0 ds && decide (PyData.depthAll ds + 1 ≤ 64)) = true
    rw [key.1, decide_eq_true (by omega)]
    rfl
  · show PyData.depthAll ds + 1 ≤ 21
    omega
/-! ### long numbers shown -/
/-- data that shows alike: numbers of at most 1900 bits -/
structure RW (k n : Nat) (d : D) : Prop where
  lv : d.leavesShort 600 = true
  sw : d.showable = true
  cl : d.canLay0 = true
  dp : d.depth ≤ k
  bk : d.bulk ≤ n
  as : ∀ c ∈ d.shown.cps.toList, c < 1114112
theorem RW.mono {k n k' n' : Nat} {d : D} (h : RW k n d) (hk : k ≤ k') (hn : n ≤ n') : RW k' n' d := ⟨h.lv, h.sw, h.cl, Nat.le_trans h.dp hk, Nat.le_trans h.bk hn, h.as⟩
theorem rw_int {i : Int} (h : i.natAbs < 2 ^ 1900) : RW 0 0 (.int i) where
  lv := by
    show decide _ = true
    refine decide_eq_true ?_
    have e := int_text_length_le10 (k := 599) (a := i) (by decide) (Nat.lt_of_lt_of_le h (by decide +kernel))
    show (Str.ofString (toString i)).length ≤ 600
    rw [PySem.ofString_length]
    exact e
  sw := by
    show decide _ = true
    refine decide_eq_true ?_
    by_cases z : i.natAbs = 0
    · rw [z]; decide
    · have : i.natAbs.log2 < 1900 := (Nat.log2_lt z).mpr h
      omega
  cl := rfl
  dp := Nat.le_refl _
  bk := Nat.le_refl _
  as := fun c hc => by
    by_cases h : c < 1114112
    · exact h
    · exact absurd hc (shown_int_free' ⟨by omega, .inr (by omega)⟩ i)
theorem rw_none : RW 0 0 .none := ⟨rfl, rfl, rfl, Nat.le_refl _, Nat.le_refl _, by decide⟩
theorem rw_bool (b : Bool) : RW 0 0 (.bool b) := by
  cases b
  · exact ⟨rfl, rfl, rfl, Nat.le_refl _, Nat.le_refl _, by decide⟩
  · exact ⟨rfl, rfl, rfl, Nat.le_refl _, Nat.le_refl _, by decide⟩
section
open PyData
theorem rw_all {k n : Nat} : ∀ {ds : List D}, (∀ d ∈ ds, RW k n d) → PyData.leavesShortAll 600 ds = true ∧ PyData.showableAll ds = true ∧ PyData.canLayAll0 ds = true ∧ PyData.depthAll ds ≤ k ∧ PyData.bulkAll ds ≤ ds.length * (n + 1) ∧ ∀ t ∈ PyData.shownAll ds, ∀ c ∈ t.cps.toList, c < 1114112
  | [], _ => ⟨rfl, rfl, rfl, Nat.zero_le _, Nat.zero_le _, by rw [PyData.shownAll_nil]; simp⟩
  | d :: ds, h => by
    have hd := h d (by simp)
    obtain ⟨a1, a2, a3, a4, a5, a6⟩ := rw_all (ds := ds) fun d hd => h d (List.mem_cons_of_mem _ hd)
    refine ⟨?_, ?_, ?_, ?_, ?_, ?_⟩
    · simp only [PyData.leavesShortAll, hd.lv, a1, Bool.and_self]
    · simp only [PyData.showableAll, hd.sw, a2, Bool.and_self]
    · simp only [PyData.canLayAll0, hd.cl, a3, Bool.and_self]
    · simp only [PyData.depthAll]
      exact Nat.max_le.mpr ⟨hd.dp, a4⟩
    · have := hd.bk
      simp only [PyData.bulkAll, List.length_cons]
      rw [Nat.add_mul]
      omega
    · intro t ht
      rw [PyData.shownAll_cons, List.mem_cons] at ht
      rcases ht with rfl | ht
      · exact hd.as
      · exact a6 t ht
end
theorem rw_tup {k n : Nat} {ds : List D} (h : ∀ d ∈ ds, RW k n d) : RW (k + 1) (ds.length * (n + 1)) (.tuple ds) := by
  obtain ⟨a1, a2, a3, a4, a5, a6⟩ := rw_all h
  refine ⟨a1, a2, a3, ?_, a5, ?_⟩
  · show PyData.depthAll ds + 1 ≤ k + 1
    omega
  · intro c hc
    rw [PyData.shown_tuple, mem_cps_append, mem_cps_append, signs_lparen, mem_join, signs_sep] at hc
    rcases hc with (hc | ⟨t, ht, hc⟩ | ⟨_, hc⟩) | hc
    · simp at hc; omega
    · exact a6 t ht c hc
    · simp at hc; omega
    · split at hc
      · have e : ((",)" : String) : Str).cps.toList = [44, 41] := by decide
        rw [e] at hc
        simp at hc; omega
      · have e : ((")" : String) : Str).cps.toList = [41] := by decide
        rw [e] at hc
        simp at hc; omega
theorem rw_lst {k n : Nat} {ds : List D} (h : ∀ d ∈ ds, RW k n d) : RW (k + 1) (ds.length * (n + 1)) (.list ds) := by
  obtain ⟨a1, a2, a3, a4, a5, a6⟩ := rw_all h
  refine ⟨a1, a2, a3, ?_, a5, ?_⟩
  · show PyData.depthAll ds + 1 ≤ k + 1
    omega
  · intro c hc
    rw [PyData.shown_list, mem_cps_append, mem_cps_append, signs_lbrack, signs_rbrack, mem_join, signs_sep] at hc
    rcases hc with (hc | ⟨t, ht, hc⟩ | ⟨_, hc⟩) | hc
    · simp at hc; omega
    · exact a6 t ht c hc
    · simp at hc; omega
    · simp at hc; omega
theorem rw_fr {n : Nat} {q : Rat} (h : FB n q) (hn : n ≤ 1900) : RW 1 2 (frD q) := by
  have e : (2 : Nat) ^ n ≤ 2 ^ 1900 := Nat.pow_le_pow_right (by omega) hn
  have := rw_tup (k := 0) (n := 0) (ds := [.int q.num, .int (q.den : Nat)]) fun d hd => by
    simp at hd
    rcases hd with rfl | rfl
    · exact rw_int (Nat.lt_of_lt_of_le h.num e)
    · exact rw_int (by rw [Int.natAbs_natCast]; exact Nat.lt_of_lt_of_le h.den e)
  exact this
theorem sameW_ok {k n : Nat} {d : D} (h : RW k n d) (hk : k ≤ 64) (hn : n ≤ 2 ^ 14) (bx : Bx) : fmOf 2 2 m_same [.d d, .d d] bx = .ret (.bool true) bx := by
  have hl := PyData.shown_le_bulk 600 (by omega) d h.lv
  have hb := h.bk
  have e1 : sumOk d.shown.length = true := sumOk_lt (by omega)
  have e2 : reprD d = some (.str d.shown) := by
    show (if (d.showable && sumOk d.shown.length && !d.hasDict && decide (d.depth ≤ 64)) = true then _ else _) = _
    rw [h.sw, e1, PyData.hasDict_of_canLay d h.cl, decide_eq_true (Nat.le_trans h.dp hk)]
    rfl
  have e3 : shp (.str d.shown) = true := by
    show (PyData.canLay0 (.str d.shown) && decide (PyData.depth (.str d.shown) ≤ 64)) = true
    have : PyData.strOk d.shown = true := by
      show d.shown.cps.all (· < 0x110000) = true
      rw [Array.all_eq_true']
      intro c hc
      exact decide_eq_true (h.as c (Array.mem_toList_iff.mpr hc))
    simp only [PyData.canLay0, this]
    rfl
  have e4 : eqD (.str d.shown) (.str d.shown) = some true := eqD_refl e3
  refine fm_ret rfl rfl (S := ⟨[.sh d, .sh d], bx⟩) ?_ rfl
  simp [m_same, slotA, mPeek, e2, e4]
theorem Sames.okW {e : FnE} (h : Sames e) {k n : Nat} {d : D} (hd : RW k n d) (hk : k ≤ 64) (hn : n ≤ 2 ^ 14) (bx : Bx) : e.fm [.d d, .d d] bx = .ret (.bool true) bx := by
  rw [h.2]
  exact sameW_ok hd hk hn bx
end Gl

set_option maxRecDepth 100000
set_option maxHeartbeats 1000000
/-! The plain tools, third part: what makes new lists; several stores; places as targets. -/
namespace Gl
open PySem PySem.Spec PyProof.Rows L2
@[simp] theorem sumOk_s {n : Nat} (h : n ≤ 16777216) : sumOk n = true := sumOk_lt h
@[simp high] theorem z_obs {α β : Type} {a : α} {f : α → Option β} : (some a).bind f = f a := Eq.trans rfl rfl
@[simp] theorem z_mSh {m : M D} {S : Sto} : mSh m S = (m S).bind fun d S1 => .ok (.sh d) S1 := Eq.trans rfl rfl
@[simp] theorem z_mFz {m : M DV} {S : Sto} : mFz m S = (m S).bind fun u S1 => fzD u S1 := Eq.trans rfl rfl
@[simp] theorem z_fz_sh {d : D} {S : Sto} : fzD (.sh d) S = .ok d S := Eq.trans rfl rfl
@[simp] theorem z_fz_ow {d : D} {S : Sto} : fzD (.ow d) S = .ok d S := Eq.trans rfl rfl
@[simp] theorem z_opN {f : D → D → Option DV} {ma mb : M D} {S : Sto} : mOpN f ma mb S = (ma S).bind fun x S1 => (mb S1).bind fun y S2 => ofO (f x y) S2 := Eq.trans rfl rfl
@[simp] theorem z_op1N {f : D → Option DV} {ma : M D} {S : Sto} : mOp1N f ma S = (ma S).bind fun x S1 => ofO (f x) S1 := Eq.trans rfl rfl
@[simp] theorem z_lstN {ms : M (List D)} {S : Sto} : mLstN ms S = (ms S).bind fun ds S1 => (if sumOk ds.length then mC (.ow (.list ds)) else fun _ => .stuck) S1 := Eq.trans rfl rfl
@[simp] theorem z_cutN {m : M D} {lo hi : M (Option Int)} {S : Sto} : mCutN m lo hi S = (m S).bind fun x S1 => (lo S1).bind fun l S2 => (hi S2).bind fun h S3 => ofO (cutN x l h) S3 := Eq.trans rfl rfl
@[simp] theorem z_bAdd {a b : D} : binN .Add a b = addN a b := Eq.trans rfl rfl
@[simp] theorem z_bMul {a b : D} : binN .Mult a b = mulN a b := Eq.trans rfl rfl
@[simp] theorem z_bSub {a b : D} : binN .Sub a b = (subD a b).map .sh := Eq.trans rfl rfl
@[simp] theorem z_bMod {a b : D} : binN .Mod a b = (modD a b).map .sh := Eq.trans rfl rfl
@[simp] theorem z_bDiv {a b : D} : binN .FloorDiv a b = (fdivD a b).map .sh := Eq.trans rfl rfl
@[simp] theorem z_addN_int {i j : Int} : addN (.int i) (.int j) = some (.sh (.int (i + j))) := Eq.trans rfl rfl
@[simp] theorem z_addN_lst {xs ys : List D} (h : sumOk (xs.length + ys.length) = true) : addN (.list xs) (.list ys) = some (.ow (.list (xs ++ ys))) := if_pos h
@[simp] theorem z_add_lst {xs ys : List D} (h : sumOk (xs.length + ys.length) = true) : addD (.list xs) (.list ys) = some (.list (xs ++ ys)) := if_pos h
@[simp] theorem z_add_tup {xs ys : List D} (h : sumOk (xs.length + ys.length) = true) : addD (.tuple xs) (.tuple ys) = some (.tuple (xs ++ ys)) := if_pos h
@[simp] theorem z_addN_tup {xs ys : List D} (h : sumOk (xs.length + ys.length) = true) : addN (.tuple xs) (.tuple ys) = some (.sh (.tuple (xs ++ ys))) := by
  show (addD (.tuple xs) (.tuple ys)).map DV.sh = _
  rw [z_add_tup h]
  rfl
theorem repOk_of {n k : Nat} (h : n * k ≤ 16777216) (hk : k < 2 ^ 63) : repOk n (k : Int) = true := by
  unfold repOk
  rw [Bool.and_eq_true, Bool.and_eq_true]
  exact ⟨⟨decide_eq_true (by omega), decide_eq_true (by exact_mod_cast hk)⟩, sumOk_lt (by simpa using h)⟩
theorem mulN_rep {d : D} {k : Nat} (h : k ≤ 16777216) : mulN (.list [d]) (.int k) = some (.ow (.list (List.replicate k d))) := by
  show (if repOk 1 (k : Int) = true then some (DV.ow (.list (repDs [d] (k : Int).toNat))) else none) = _
  rw [if_pos (repOk_of (by omega) (by omega))]
  simp [repDs, List.flatten_replicate_singleton]
theorem mulD_rep {d : D} {k : Nat} (h : k ≤ 16777216) : mulD (.list [d]) (.int k) = some (.list (List.replicate k d)) := by
  show (if repOk 1 (k : Int) = true then some (PyData.list (repDs [d] (k : Int).toNat)) else none) = _
  rw [if_pos (repOk_of (by omega) (by omega))]
  simp [repDs, List.flatten_replicate_singleton]
@[simp] theorem z_listN_l {ds : List D} : listN (.list ds) = some (.ow (.list ds)) := Eq.trans rfl rfl
@[simp] theorem z_listN_t {ds : List D} : listN (.tuple ds) = some (.ow (.list ds)) := Eq.trans rfl rfl
@[simp] theorem z_setV {i : Nat} {u : DV} {S : Sto} : sSetV i u S = .next ⟨S.sl.set i u, S.bx⟩ := Eq.trans rfl rfl
@[simp] theorem z_anyOw_nil : anyOw [] = false := Eq.trans rfl rfl
@[simp] theorem z_anyOw_sh {d : D} {gs : List DV} : anyOw (.sh d :: gs) = anyOw gs := Eq.trans rfl rfl
@[simp] theorem z_anyOw_ow {d : D} {gs : List DV} : anyOw (.ow d :: gs) = true := Eq.trans rfl rfl
/-- worked out with one's own lists out of sight -/
def hidO (sl : List DV) : R DV → R DV
  | .ok u S' => .ok u ⟨sl, S'.bx⟩
  | .exc c d b => .exc c d b
  | .stuck => .stuck
@[simp] theorem hidO_ok {sl : List DV} {u : DV} {S : Sto} : hidO sl (.ok u S) = .ok u ⟨sl, S.bx⟩ := Eq.trans rfl rfl
@[simp] theorem hidO_exc {sl : List DV} {c : Nat} {d : D} {b : Bx} : hidO sl (.exc c d b) = .exc c d b := Eq.trans rfl rfl
@[simp] theorem z_hid_f {m : M DV} {S : Sto} : mHid false m S = m S := by
  unfold mHid
  rw [if_neg (by decide)]
@[simp] theorem z_hid_t {m : M DV} {S : Sto} : mHid true m S = hidO S.sl (m ⟨S.sl.map hideD, S.bx⟩) := by
  unfold mHid
  rw [if_pos rfl]
  cases m ⟨S.sl.map hideD, S.bx⟩ <;> rfl
@[simp] theorem z_seqN_nil {gs : List DV} {S : Sto} : mSeqN gs [] S = .ok gs S := Eq.trans rfl rfl
@[simp] theorem z_seqN_cons {gs : List DV} {m : M DV} {ms : List (M DV)} {S : Sto} : mSeqN gs (m :: ms) S = (mHid (anyOw gs) m S).bind fun u S1 => mSeqN (gs ++ [u]) ms S1 := Eq.trans rfl rfl
@[simp] theorem z_parN {is : List Nat} {us : List DV} {S : Sto} (h : us.length = is.length) : sParN is us S = .next ⟨(is.zip us).foldl (fun sl p => sl.set p.1 p.2) S.sl, S.bx⟩ := if_pos h
/-- a new list -/
def finN (sl : List DV) : Option (List D × Bx) → R DV
  | some (ys, bx') => if sumOk ys.length then .ok (.ow (.list ys)) ⟨sl, bx'⟩ else .stuck
  | none => .stuck
theorem finN_ok {sl : List DV} {ys : List D} {bx : Bx} (h : ys.length ≤ 16777216) : finN sl (some (ys, bx)) = .ok (.ow (.list ys)) ⟨sl, bx⟩ := if_pos (sumOk_lt h)
@[simp] theorem y_compN {js vs : List Nat} {mi : M (List D)} {st : Tgt} {mt : M Bool} {me : M D} {S : Sto} : mCompN js vs mi st mt me S = (mi S).bind fun ds S1 => finN (shareJs S1 js).sl (compG (stepC (wipeD ((shareJs S1 js).sl.map hideD) vs) st mt me) ds (shareJs S1 js).bx) := by
  unfold mCompN M.bind finN
  cases mi S with
  | ok ds S1 =>
    simp only [z_ok, compL_G]
    try rfl
  | exc c d b => rfl
  | stuck => rfl
/-! ### places as targets -/
def tcO (u : List D → MS) (ds : List D) : O → O
  | .next S' => u ds S'
  | .exc c d b => .exc c d b
  | _ => .stuck
@[simp] theorem tcO_next {u : List D → MS} {ds : List D} {S : Sto} : tcO u ds (.next S) = u ds S := Eq.trans rfl rfl
@[simp] theorem tgO_next {S : Sto} : tgO (.next S) = .next S := Eq.trans rfl rfl
@[simp] theorem tm_nil {S : Sto} : tmNil [] S = .next S := if_pos rfl
@[simp] theorem tm_cons {t : D → MS} {u : List D → MS} {d : D} {ds : List D} {S : Sto} : tmCons t u (d :: ds) S = tcO u ds (t d S) := by
  unfold tmCons tcO
  dsimp only
  try cases t d S <;> rfl
@[simp] theorem tm_tup {n : Nat} {u : List D → MS} {ds : List D} {S : Sto} (h : ds.length = n) : tmTup n u (.tuple ds) S = u ds S := if_pos h
/-- what is put at a place of one's own list -/
def ptO (i : Nat) (d : D) (k : D) (S2 : Sto) : Option DV → O
  | some (.ow (.list ds)) => match k with
    | .int k => match ixN ds.length k with
      | some j => .next ⟨S2.sl.set i (.ow (.list (ds.set j d))), S2.bx⟩
      | none => .stuck
    | _ => .stuck
  | _ => .stuck
theorem ptO_ok {i : Nat} {d : D} {k : Nat} {S2 : Sto} {ds : List D} (h : k < ds.length) : ptO i d (.int k) S2 (some (.ow (.list ds))) = .next ⟨S2.sl.set i (.ow (.list (ds.set k d))), S2.bx⟩ := by
  have e : ixN ds.length (k : Int) = some k := by
    unfold ixN
    simp [h]
  unfold ptO
  dsimp only
  rw [e]
@[simp] theorem y_putV {i : Nat} {mi : M D} {d : D} {sl : List DV} {bx : Bx} (h : isOw sl[i]? = true) : sPutV i mi d ⟨sl, bx⟩ = (mi ⟨sl, bx⟩).toO fun k S2 => ptO i d k S2 S2.sl[i]? := by
  unfold sPutV
  dsimp only
  cases hx : sl[i]? with
  | none => rw [hx] at h; cases h
  | some x =>
    cases x with
    | ow e =>
      show sE mi _ _ = _
      rw [z_e]
      congr 1
      funext k S2
      unfold ptO
      cases S2.sl[i]? with
      | none => rfl
      | some y => 
        cases y with
        | ow f =>
          cases f with
          | list ds =>
            cases k with
            | int k =>
              dsimp only
              try cases ixN ds.length k <;> rfl
            | _ => rfl
          | _ => cases k <;> rfl
        | _ => cases k <;> rfl
    | _ => rw [hx] at h; cases h
def sbO (i : Nat) (mi : M D) (d : D) (S1 : Sto) : Option DV → O
  | some (.ow _) => (mi S1).toO fun k S2 => ptO i d k S2 S2.sl[i]?
  | _ => .stuck
@[simp] theorem sbO_ow {i : Nat} {mi : M D} {d e : D} {S1 : Sto} : sbO i mi d S1 (some (.ow e)) = (mi S1).toO fun k S2 => ptO i d k S2 S2.sl[i]? := Eq.trans rfl rfl
@[simp] theorem y_sub {one : Bool} {i : Nat} {mi m : M D} {sl : List DV} {bx : Bx} (h : isOw sl[i]? = true) : sSub one i mi m ⟨sl, bx⟩ = (m ⟨sl, bx⟩).toO fun d S1 => sbO i mi d S1 S1.sl[i]? := by
  unfold sSub sPutAt
  dsimp only
  cases hx : sl[i]? with
  | none => rw [hx] at h; cases h
  | some x =>
    cases x with
    | ow e =>
      show sE m _ _ = _
      rw [z_e]
      congr 1
      funext d S1
      unfold sbO
      cases S1.sl[i]? with
      | none => rfl
      | some y =>
        cases y with
        | ow f =>
          show sE mi _ _ = _
          rw [z_e]
          congr 1
          funext k S2
          unfold ptO
          cases S2.sl[i]? with
          | none => rfl
          | some y =>
            cases y with
            | ow f =>
              cases f with
              | list ds =>
                cases k with
                | int k =>
                  dsimp only
                  try cases ixN ds.length k <;> rfl
                | _ => rfl
              | _ => cases k <;> rfl
            | _ => cases k <;> rfl
        | _ => rfl
    | _ => rw [hx] at h; cases h
/-! ### loops that look for the first one -/
theorem loop_first {γ : Type} {st : Tgt} {mb : MS} {f : γ → D} {g : γ → Option D} {P : Sto → Prop} {Q : D → Sto → Prop} : ∀ {l : List γ} {S : Sto}, (∀ x ∈ l, ∀ S, P S → ∃ sl', st (f x) S.sl = some sl' ∧
    ((g x = none ∧ ∃ S', mb ⟨sl', S.bx⟩ = .next S' ∧ P S') ∨ ∃ d, g x = some d ∧ ∃ S', mb ⟨sl', S.bx⟩ = .ret d S' ∧ Q d S')) → P S →
    (l.findSome? g = none ∧ ∃ S', loopF st mb (l.map f) S = .next S' ∧ P S') ∨ ∃ d, l.findSome? g = some d ∧ ∃ S', loopF st mb (l.map f) S = .ret d S' ∧ Q d S'
  | [], S, _, p => .inl ⟨rfl, S, rfl, p⟩
  | x :: l, S, h, p => by
    obtain ⟨sl', e, k⟩ := h x (by simp) S p
    rcases k with ⟨e1, S', e2, p2⟩ | ⟨d, e1, S', e2, q⟩
    · rcases loop_first (l := l) (fun y hy => h y (List.mem_cons_of_mem _ hy)) p2 with ⟨a, S2, b, c⟩ | ⟨d, a, S2, b, c⟩
      · exact .inl ⟨by rw [List.findSome?_cons, e1]; exact a, S2, by rw [List.map_cons, loopF_next e e2]; exact b, c⟩
      · exact .inr ⟨d, by rw [List.findSome?_cons, e1]; exact a, S2, by rw [List.map_cons, loopF_next e e2]; exact b, c⟩
    · exact .inr ⟨d, by rw [List.findSome?_cons, e1], S', by rw [List.map_cons, loopF_out e e2], q⟩
theorem boolsOf_map {γ : Type} {f : γ → D} {g : γ → Bool} : ∀ {l : List γ}, (∀ x ∈ l, truA (f x) = some (g x)) → boolsOf (l.map f) = some (l.map g)
  | [], _ => rfl
  | x :: l, h => by
    rw [List.map_cons, bools_cons, h x (by simp), boolsOf_map (l := l) fun y hy => h y (List.mem_cons_of_mem _ hy)]
    rfl
theorem all_map' {γ : Type} {f : γ → D} {g : γ → Bool} {l : List γ} (h : ∀ x ∈ l, truA (f x) = some (g x)) : allD (.list (l.map f)) = some (.bool (l.all g)) := by
  rw [z_all, boolsOf_map h, Option.map_some, List.all_map]
  rfl
theorem any_map' {γ : Type} {f : γ → D} {g : γ → Bool} {l : List γ} (h : ∀ x ∈ l, truA (f x) = some (g x)) : anyD (.list (l.map f)) = some (.bool (l.any g)) := by
  rw [z_any, boolsOf_map h, Option.map_some, List.any_map]
  rfl
@[simp high] theorem all_trueH {γ : Type} (l : List γ) : allD (.list (l.map fun _ => .bool true)) = some (.bool true) := by
  rw [all_map' (g := fun _ => true) (fun _ _ => rfl)]
  simp
theorem zip_map {α β : Type} {f : α → D} {g : β → D} : ∀ {l : List α} {k : List β}, (List.zip (l.map f) (k.map g)) = (l.zip k).map fun p => (f p.1, g p.2)
  | [], _ => by simp
  | _ :: _, [] => by simp
  | a :: l, b :: k => by simp [zip_map]
end Gl

set_option maxRecDepth 100000
set_option maxHeartbeats 4000000
namespace K11
open PySem PySem.Spec PyProof.Rows L2 Gl
def stm (i : Nat) : Stmt := PySem.Challenge.pw_panehouse_k11_slits_and_lamps.main.body.getD i (.Pass ⟨0, 0, 0, 0⟩)
def xs : List (Str × Nat) := [("BadThing", 0), ("TooMany", 1), ("Refused", 2)]
def tagOf : Nat → Option Str
  | 0 => some "bad thing"
  | 2 => some "refused"
  | 1 => some "too many"
  | _ => none
noncomputable def l0 : List (Str × FnE) := []
def N_is_integer : List Str := ["thing"]
noncomputable def m_is_integer : MS := (sSeq (sRet (mAndV (mOp1 (instD "int") (mPeek 0)) (mNotV (mOp1 (instD "bool") (mPeek 0))))) sNext)
noncomputable def fe_is_integer : FnE := ⟨2 + 1, false, 1, fmOf 1 1 m_is_integer⟩
@[simp] theorem ar_is_integer : fe_is_integer.ar = 1 := rfl
theorem t_is_integer : sAll (cS 60 (mkCt N_is_integer (defScope (stm 6)) l0 xs 2 false [])) (defBody (stm 6)) = m_is_integer := by kernel_rfl
theorem s_is_integer : FnScope N_is_integer ["thing"] (defScope (stm 6)) := ⟨rfl, rfl, rfl, by decide +kernel, rfl, by decide +kernel, by decide +kernel⟩
noncomputable def l_is_integer : List (Str × FnE) := ("is_integer", fe_is_integer) :: l0
def N_common : List Str := ["one", "other"]
noncomputable def g_common_1 : M Bool := (mTru (mPeek 1))
noncomputable def b_common_2 : MS := (sSeq (sE (mSeq [(mVar 1), (mOp2 modD (mPeek 0) (mPeek 1))]) (sPar [0, 1])) sNext)
noncomputable def w_common_3 : MS := (sWhile g_common_1 b_common_2)
noncomputable def m_common : MS := (sSeq (sE (mSeq [(mOp1 absD (mPeek 0)), (mOp1 absD (mPeek 1))]) (sPar [0, 1])) (sSeq w_common_3 (sSeq (sRet (mVar 0)) sNext)))
noncomputable def fe_common : FnE := ⟨2 + 1, false, 2, fmOf 2 2 m_common⟩
@[simp] theorem ar_common : fe_common.ar = 2 := rfl
theorem t_common : sAll (cS 60 (mkCt N_common (defScope (stm 7)) l_is_integer xs 2 false [])) (defBody (stm 7)) = m_common := by kernel_rfl
theorem s_common : FnScope N_common ["one", "other"] (defScope (stm 7)) := ⟨rfl, rfl, rfl, by decide +kernel, rfl, by decide +kernel, by decide +kernel⟩
noncomputable def l_common : List (Str × FnE) := ("common", fe_common) :: l_is_integer
def N_reduced : List Str := ["above", "below", "by"]
noncomputable def m_reduced : MS := (sSeq (sIf (mCmp eqD (mPeek 1) (mC (.int 0))) (sSeq (sRaise 0 (mC (.str "zero"))) sNext) sNext) (sSeq (sE (mIf (mCmp gtD (mPeek 1) (mC (.int 0))) (mCall fe_common (mSeq [(mArgV 0), (mArgV 1)])) (mOp1 negD (mCall fe_common (mSeq [(mArgV 0), (mArgV 1)])))) (sSet 2)) (sSeq (sRet (mTup [(mOp2 fdivD (mPeek 0) (mPeek 2)), (mOp2 fdivD (mPeek 1) (mPeek 2))])) sNext)))
noncomputable def fe_reduced : FnE := ⟨3 + 1, false, 2, fmOf 2 3 m_reduced⟩
@[simp] theorem ar_reduced : fe_reduced.ar = 2 := rfl
theorem t_reduced : sAll (cS 60 (mkCt N_reduced (defScope (stm 8)) l_common xs 3 false [])) (defBody (stm 8)) = m_reduced := by kernel_rfl
theorem s_reduced : FnScope N_reduced ["above", "below"] (defScope (stm 8)) := ⟨rfl, rfl, rfl, by decide +kernel, rfl, by decide +kernel, by decide +kernel⟩
noncomputable def l_reduced : List (Str × FnE) := ("reduced", fe_reduced) :: l_common
def N_plus : List Str := ["one", "other"]
noncomputable def m_plus : MS := (sSeq (sRet (mCall fe_reduced (mSeq [(mArgE (mOp2 addD (mOp2 mulD (mBox 0 0 (mOp2 ixD (mPeek 0) (mC (.int 0)))) (mBox 1 1 (mOp2 ixD (mPeek 1) (mC (.int 1))))) (mOp2 mulD (mBox 1 0 (mOp2 ixD (mPeek 1) (mC (.int 0)))) (mBox 0 1 (mOp2 ixD (mPeek 0) (mC (.int 1))))))), (mArgE (mOp2 mulD (mBox 0 1 (mOp2 ixD (mPeek 0) (mC (.int 1)))) (mBox 1 1 (mOp2 ixD (mPeek 1) (mC (.int 1))))))]))) sNext)
noncomputable def fe_plus : FnE := ⟨4 + 1, false, 2, fmOf 2 2 m_plus⟩
@[simp] theorem ar_plus : fe_plus.ar = 2 := rfl
theorem t_plus : sAll (cS 60 (mkCt N_plus (defScope (stm 9)) l_reduced xs 4 false [])) (defBody (stm 9)) = m_plus := by kernel_rfl
theorem s_plus : FnScope N_plus ["one", "other"] (defScope (stm 9)) := ⟨rfl, rfl, rfl, by decide +kernel, rfl, by decide +kernel, by decide +kernel⟩
noncomputable def l_plus : List (Str × FnE) := ("plus", fe_plus) :: l_reduced
def N_over : List Str := ["one", "other"]
noncomputable def m_over : MS := (sSeq (sRet (mCall fe_reduced (mSeq [(mArgE (mOp2 mulD (mBox 0 0 (mOp2 ixD (mPeek 0) (mC (.int 0)))) (mBox 1 1 (mOp2 ixD (mPeek 1) (mC (.int 1)))))), (mArgE (mOp2 mulD (mBox 0 1 (mOp2 ixD (mPeek 0) (mC (.int 1)))) (mBox 1 0 (mOp2 ixD (mPeek 1) (mC (.int 0))))))]))) sNext)
noncomputable def fe_over : FnE := ⟨4 + 1, false, 2, fmOf 2 2 m_over⟩
@[simp] theorem ar_over : fe_over.ar = 2 := rfl
theorem t_over : sAll (cS 60 (mkCt N_over (defScope (stm 10)) l_plus xs 4 false [])) (defBody (stm 10)) = m_over := by kernel_rfl
theorem s_over : FnScope N_over ["one", "other"] (defScope (stm 10)) := ⟨rfl, rfl, rfl, by decide +kernel, rfl, by decide +kernel, by decide +kernel⟩
noncomputable def l_over : List (Str × FnE) := ("over", fe_over) :: l_plus
def N_total : List Str := ["numbers", "found", "one"]
noncomputable def b_total_1 : MS := (sSeq (sE (mCall fe_plus (mSeq [(mArgV 1), (mArgV 2)])) (sSet 1)) sNext)
noncomputable def f_total_2 : MS := (sFor (mItems (mVar 0)) (stName 2) b_total_1)
noncomputable def m_total : MS := (sSeq (sE (mTup [(mC (.int 0)), (mC (.int 1))]) (sSet 1)) (sSeq f_total_2 (sSeq (sRet (mVar 1)) sNext)))
noncomputable def fe_total : FnE := ⟨5 + 1, false, 1, fmOf 1 3 m_total⟩
@[simp] theorem ar_total : fe_total.ar = 1 := rfl
theorem t_total : sAll (cS 60 (mkCt N_total (defScope (stm 11)) l_over xs 5 false [])) (defBody (stm 11)) = m_total := by kernel_rfl
theorem s_total : FnScope N_total ["numbers"] (defScope (stm 11)) := ⟨rfl, rfl, rfl, by decide +kernel, rfl, by decide +kernel, by decide +kernel⟩
noncomputable def l_total : List (Str × FnE) := ("total", fe_total) :: l_over
def N_check_set : List Str := ["size", "some", "one", "at"]
noncomputable def c_check_set_1 : M D := (mComp [0] [2] (mItems (mVar 1)) (stName 2) (mC true) (mAndV (mCall fe_is_integer (mSeq [(mArgV 2)])) (mBl (mChain leD ltD (mC (.int 0)) (mPeek 2) (mPeek 0)))))
noncomputable def c_check_set_2 : M D := (mComp [1] [3] (mRange (mSeq [(mOp2 subD (mOp1 lenD (mPeek 1)) (mC (.int 1)))])) (stName 3) (mC true) (mBl (mCmp geD (mOp2 ixD (mPeek 1) (mPeek 3)) (mOp2 ixD (mPeek 1) (mOp2 addD (mPeek 3) (mC (.int 1)))))))
noncomputable def m_check_set : MS := (sSeq (sIf (mOrT (mNotT (mTru (mCall fe_is_integer (mSeq [(mArgV 0)])))) (mOrT (mNotT (mChain leD leD (mC (.int 2)) (mPeek 0) (mC (.int 31)))) (mNotT (mTru (mOp1 (instD "tuple") (mPeek 1)))))) (sSeq (sRaise 0 (mC (.str "slits"))) sNext) sNext) (sSeq (sIf (mNotT (mTru (mOp1 allD c_check_set_1))) (sSeq (sRaise 0 (mC (.str "slits"))) sNext) sNext) (sSeq (sIf (mTru (mOp1 anyD c_check_set_2)) (sSeq (sRaise 0 (mC (.str "slits"))) sNext) sNext) sNext)))
noncomputable def fe_check_set : FnE := ⟨3 + 1, false, 2, fmOf 2 4 m_check_set⟩
@[simp] theorem ar_check_set : fe_check_set.ar = 2 := rfl
theorem t_check_set : sAll (cS 60 (mkCt N_check_set (defScope (stm 13)) l_total xs 3 false [])) (defBody (stm 13)) = m_check_set := by kernel_rfl
theorem s_check_set : FnScope N_check_set ["size", "some"] (defScope (stm 13)) := ⟨rfl, rfl, rfl, by decide +kernel, rfl, by decide +kernel, by decide +kernel⟩
noncomputable def l_check_set : List (Str × FnE) := ("check_set", fe_check_set) :: l_total
def N_differences : List Str := ["size", "some", "found", "one", "other"]
noncomputable def b_differences_1 : MS := (sSeq (sAugAt .Add 2 (mOp2 modD (mOp2 subD (mPeek 3) (mPeek 4)) (mPeek 0)) (mC (.int 1))) sNext)
noncomputable def f_differences_2 : MS := (sFor (mItems (mVar 1)) (stName 4) b_differences_1)
noncomputable def b_differences_3 : MS := (sSeq f_differences_2 sNext)
noncomputable def f_differences_4 : MS := (sFor (mItems (mVar 1)) (stName 3) b_differences_3)
noncomputable def m_differences : MS := (sSeq (sE (mCall fe_check_set (mSeq [(mArgV 0), (mArgV 1)])) fun _ => sNext) (sSeq (sE (mOpN (binN .Mult) (mLst [(mC (.int 0))]) (mPeek 0)) (sSetV 2)) (sSeq f_differences_4 (sSeq (sRet (mOp1 tupleD (mPeek 2))) sNext))))
noncomputable def fe_differences : FnE := ⟨4 + 1, false, 2, fmOf 2 5 m_differences⟩
@[simp] theorem ar_differences : fe_differences.ar = 2 := rfl
theorem t_differences : sAll (cS 60 (mkCt N_differences (defScope (stm 14)) l_check_set xs 4 false [])) (defBody (stm 14)) = m_differences := by kernel_rfl
theorem s_differences : FnScope N_differences ["size", "some"] (defScope (stm 14)) := ⟨rfl, rfl, rfl, by decide +kernel, rfl, by decide +kernel, by decide +kernel⟩
noncomputable def l_differences : List (Str × FnE) := ("differences", fe_differences) :: l_check_set
def N_is_even : List Str := ["size", "some"]
noncomputable def m_is_even : MS := (sSeq (sRet (mBl (mCmp eqD (mOp1 lenSetD (mCut (mCall fe_differences (mSeq [(mArgV 0), (mArgV 1)])) (mPart (mC (.int 1))) (mC none))) (mC (.int 1))))) sNext)
noncomputable def fe_is_even : FnE := ⟨5 + 1, false, 2, fmOf 2 2 m_is_even⟩
@[simp] theorem ar_is_even : fe_is_even.ar = 2 := rfl
theorem t_is_even : sAll (cS 60 (mkCt N_is_even (defScope (stm 15)) l_differences xs 5 false [])) (defBody (stm 15)) = m_is_even := by kernel_rfl
theorem s_is_even : FnScope N_is_even ["size", "some"] (defScope (stm 15)) := ⟨rfl, rfl, rfl, by decide +kernel, rfl, by decide +kernel, by decide +kernel⟩
noncomputable def l_is_even : List (Str × FnE) := ("is_even", fe_is_even) :: l_differences
def N_even_sets : List Str := ["size", "many", "most", "rows", "turn", "later", "row", "one", "fresh"]
noncomputable def b_even_sets_1 : MS := (sSeq (sE (mOpN (binN .Add) (mPeek 6) (mTup [(mVar 7)])) (sSetV 8)) (sSeq (sIf (mCmp leD (mOp1 max1D (mCut (mCall fe_differences (mSeq [(mArgV 0), (mArgV 8)])) (mPart (mC (.int 1))) (mC none))) (mPeek 2)) (sSeq (sAppend 5 (mVar 8)) sNext) sNext) sNext))
noncomputable def f_even_sets_2 : MS := (sFor (mRange (mSeq [(mOp2 addD (mOp2 ixD (mPeek 6) (mOp1 negD (mC (.int 1)))) (mC (.int 1))), (mVar 0)])) (stName 7) b_even_sets_1)
noncomputable def b_even_sets_3 : MS := (sSeq f_even_sets_2 sNext)
noncomputable def f_even_sets_4 : MS := (sFor (mItems (mVar 3)) (stName 6) b_even_sets_3)
noncomputable def b_even_sets_5 : MS := (sSeq (sOwn 5 (mSeq [])) (sSeq f_even_sets_4 (sSeq (sE (mVar 5) (sSet 3)) sNext)))
noncomputable def f_even_sets_6 : MS := (sFor (mRange (mSeq [(mOp2 subD (mPeek 1) (mC (.int 1)))])) (stName 4) b_even_sets_5)
noncomputable def c_even_sets_7 : M D := (mComp [0] [6] (mItems (mVar 3)) (stName 6) (mTru (mCall fe_is_even (mSeq [(mArgV 0), (mArgV 6)]))) (mVar 6))
noncomputable def p_even_sets_6 : MS := (sRet c_even_sets_7)
noncomputable def r_even_sets_6 : MS := sSeq p_even_sets_6 sNext
noncomputable def p_even_sets_5 : MS := f_even_sets_6
noncomputable def r_even_sets_5 : MS := sSeq p_even_sets_5 r_even_sets_6
noncomputable def p_even_sets_4 : MS := (sOwn 3 (mSeq [(mTup [(mC (.int 0))])]))
noncomputable def r_even_sets_4 : MS := sSeq p_even_sets_4 r_even_sets_5
noncomputable def p_even_sets_3 : MS := (sE (mOp2 fdivD (mOp2 mulD (mPeek 1) (mOp2 subD (mPeek 1) (mC (.int 1)))) (mOp2 subD (mPeek 0) (mC (.int 1)))) (sSet 2))
noncomputable def r_even_sets_3 : MS := sSeq p_even_sets_3 r_even_sets_4
noncomputable def p_even_sets_2 : MS := (sIf (mTru (mOp2 modD (mOp2 mulD (mPeek 1) (mOp2 subD (mPeek 1) (mC (.int 1)))) (mOp2 subD (mPeek 0) (mC (.int 1))))) (sSeq (sRet (mLst [])) sNext) sNext)
noncomputable def r_even_sets_2 : MS := sSeq p_even_sets_2 r_even_sets_3
noncomputable def p_even_sets_1 : MS := (sIf (mOrT (mNotT (mTru (mCall fe_is_integer (mSeq [(mArgV 1)])))) (mOrT (mNotT (mChain leD leD (mC (.int 1)) (mPeek 1) (mC (.int 7)))) (mCmp geD (mPeek 1) (mPeek 0)))) (sSeq (sRaise 0 (mC (.str "many"))) sNext) sNext)
noncomputable def r_even_sets_1 : MS := sSeq p_even_sets_1 r_even_sets_2
noncomputable def p_even_sets_0 : MS := (sIf (mOrT (mNotT (mTru (mCall fe_is_integer (mSeq [(mArgV 0)])))) (mNotT (mChain leD leD (mC (.int 2)) (mPeek 0) (mC (.int 15))))) (sSeq (sRaise 0 (mC (.str "slits"))) sNext) sNext)
noncomputable def r_even_sets_0 : MS := sSeq p_even_sets_0 r_even_sets_1
noncomputable def m_even_sets : MS := r_even_sets_0
noncomputable def fe_even_sets : FnE := ⟨6 + 1, false, 2, fmOf 2 9 m_even_sets⟩
@[simp] theorem ar_even_sets : fe_even_sets.ar = 2 := rfl
theorem t_even_sets : sAll (cS 60 (mkCt N_even_sets (defScope (stm 16)) l_is_even xs 6 false [])) (defBody (stm 16)) = m_even_sets := by kernel_rfl
theorem s_even_sets : FnScope N_even_sets ["size", "many"] (defScope (stm 16)) := ⟨rfl, rfl, rfl, by decide +kernel, rfl, by decide +kernel, by decide +kernel⟩
noncomputable def l_even_sets : List (Str × FnE) := ("even_sets", fe_even_sets) :: l_is_even
def N_squares : List Str := ["prime", "one"]
noncomputable def c_squares_1 : M D := (mComp [0] [1] (mRange (mSeq [(mC (.int 2)), (mVar 0)])) (stName 1) (mC true) (mBl (mCmp eqD (mOp2 modD (mPeek 0) (mPeek 1)) (mC (.int 0)))))
noncomputable def c_squares_2 : M D := (mComp [0] [1] (mRange (mSeq [(mC (.int 1)), (mVar 0)])) (stName 1) (mC true) (mOp2 modD (mOp2 mulD (mPeek 1) (mPeek 1)) (mPeek 0)))
noncomputable def m_squares : MS := (sSeq (sIf (mOrT (mNotT (mTru (mCall fe_is_integer (mSeq [(mArgV 0)])))) (mOrT (mNotT (mChain leD leD (mC (.int 3)) (mPeek 0) (mC (.int 31)))) (mTru (mOp1 anyD c_squares_1)))) (sSeq (sRaise 0 (mC (.str "prime"))) sNext) sNext) (sSeq (sRet (mOp1 tupleD (mFz (mOp1N sortSetN c_squares_2)))) sNext))
noncomputable def fe_squares : FnE := ⟨3 + 1, false, 1, fmOf 1 2 m_squares⟩
@[simp] theorem ar_squares : fe_squares.ar = 1 := rfl
theorem t_squares : sAll (cS 60 (mkCt N_squares (defScope (stm 17)) l_even_sets xs 3 false [])) (defBody (stm 17)) = m_squares := by kernel_rfl
theorem s_squares : FnScope N_squares ["prime"] (defScope (stm 17)) := ⟨rfl, rfl, rfl, by decide +kernel, rfl, by decide +kernel, by decide +kernel⟩
noncomputable def l_squares : List (Str × FnE) := ("squares", fe_squares) :: l_even_sets
def N_moved : List Str := ["size", "some", "by", "one"]
noncomputable def c_moved_1 : M D := (mComp [2, 0] [3] (mItems (mVar 1)) (stName 3) (mC true) (mOp2 modD (mOp2 addD (mPeek 3) (mPeek 2)) (mPeek 0)))
noncomputable def m_moved : MS := (sSeq (sE (mCall fe_check_set (mSeq [(mArgV 0), (mArgV 1)])) fun _ => sNext) (sSeq (sRet (mOp1 tupleD (mOp1 sortedD c_moved_1))) sNext))
noncomputable def fe_moved : FnE := ⟨4 + 1, false, 3, fmOf 3 4 m_moved⟩
@[simp] theorem ar_moved : fe_moved.ar = 3 := rfl
theorem t_moved : sAll (cS 60 (mkCt N_moved (defScope (stm 18)) l_squares xs 4 false [])) (defBody (stm 18)) = m_moved := by kernel_rfl
theorem s_moved : FnScope N_moved ["size", "some", "by"] (defScope (stm 18)) := ⟨rfl, rfl, rfl, by decide +kernel, rfl, by decide +kernel, by decide +kernel⟩
noncomputable def l_moved : List (Str × FnE) := ("moved", fe_moved) :: l_squares
def N_spread : List Str := ["size", "some", "by", "a", "b", "one"]
noncomputable def g_spread_1 : M Bool := (mTru (mPeek 4))
noncomputable def b_spread_2 : MS := (sSeq (sE (mSeq [(mVar 4), (mOp2 modD (mPeek 3) (mPeek 4))]) (sPar [3, 4])) sNext)
noncomputable def w_spread_3 : MS := (sWhile g_spread_1 b_spread_2)
noncomputable def c_spread_4 : M D := (mComp [2, 0] [5] (mItems (mVar 1)) (stName 5) (mC true) (mOp2 modD (mOp2 mulD (mPeek 5) (mPeek 2)) (mPeek 0)))
noncomputable def m_spread : MS := (sSeq (sE (mCall fe_check_set (mSeq [(mArgV 0), (mArgV 1)])) fun _ => sNext) (sSeq (sE (mSeq [(mVar 0), (mOp2 modD (mPeek 2) (mPeek 0))]) (sPar [3, 4])) (sSeq w_spread_3 (sSeq (sIf (mCmp neD (mPeek 3) (mC (.int 1))) (sSeq (sRaise 2 (mC (.str "by"))) sNext) sNext) (sSeq (sRet (mOp1 tupleD (mOp1 sortedD c_spread_4))) sNext)))))
noncomputable def fe_spread : FnE := ⟨4 + 1, false, 3, fmOf 3 6 m_spread⟩
@[simp] theorem ar_spread : fe_spread.ar = 3 := rfl
theorem t_spread : sAll (cS 60 (mkCt N_spread (defScope (stm 19)) l_moved xs 4 false [])) (defBody (stm 19)) = m_spread := by kernel_rfl
theorem s_spread : FnScope N_spread ["size", "some", "by"] (defScope (stm 19)) := ⟨rfl, rfl, rfl, by decide +kernel, rfl, by decide +kernel, by decide +kernel⟩
noncomputable def l_spread : List (Str × FnE) := ("spread", fe_spread) :: l_moved
def N_others : List Str := ["size", "some", "one"]
noncomputable def c_others_1 : M D := (mComp [1] [2] (mRange (mSeq [(mVar 0)])) (stName 2) (mCmp notInD (mPeek 2) (mPeek 1)) (mVar 2))
noncomputable def m_others : MS := (sSeq (sE (mCall fe_check_set (mSeq [(mArgV 0), (mArgV 1)])) fun _ => sNext) (sSeq (sRet (mOp1 tupleD c_others_1)) sNext))
noncomputable def fe_others : FnE := ⟨4 + 1, false, 2, fmOf 2 3 m_others⟩
@[simp] theorem ar_others : fe_others.ar = 2 := rfl
theorem t_others : sAll (cS 60 (mkCt N_others (defScope (stm 20)) l_spread xs 4 false [])) (defBody (stm 20)) = m_others := by kernel_rfl
theorem s_others : FnScope N_others ["size", "some"] (defScope (stm 20)) := ⟨rfl, rfl, rfl, by decide +kernel, rfl, by decide +kernel, by decide +kernel⟩
noncomputable def l_others : List (Str × FnE) := ("others", fe_others) :: l_spread
def N_check_lamps : List Str := ["size", "lamps", "one"]
noncomputable def c_check_lamps_1 : M D := (mComp [] [2] (mItems (mVar 1)) (stName 2) (mC true) (mCall fe_is_integer (mSeq [(mArgV 2)])))
noncomputable def m_check_lamps : MS := (sSeq (sIf (mOrT (mNotT (mTru (mOp1 (instD "tuple") (mPeek 1)))) (mOrT (mCmp neD (mOp1 lenD (mPeek 1)) (mPeek 0)) (mNotT (mTru (mOp1 allD c_check_lamps_1))))) (sSeq (sRaise 0 (mC (.str "lamps"))) sNext) sNext) sNext)
noncomputable def fe_check_lamps : FnE := ⟨3 + 1, false, 2, fmOf 2 3 m_check_lamps⟩
@[simp] theorem ar_check_lamps : fe_check_lamps.ar = 2 := rfl
theorem t_check_lamps : sAll (cS 60 (mkCt N_check_lamps (defScope (stm 22)) l_others xs 3 false [])) (defBody (stm 22)) = m_check_lamps := by kernel_rfl
theorem s_check_lamps : FnScope N_check_lamps ["size", "lamps"] (defScope (stm 22)) := ⟨rfl, rfl, rfl, by decide +kernel, rfl, by decide +kernel, by decide +kernel⟩
noncomputable def l_check_lamps : List (Str × FnE) := ("check_lamps", fe_check_lamps) :: l_others
def N_seen : List Str := ["size", "some", "lamps", "at", "one"]
noncomputable def c_seen_1 : M D := (mComp [3, 2, 0] [4] (mItems (mVar 1)) (stName 4) (mC true) (mOp2 ixD (mPeek 2) (mOp2 modD (mOp2 subD (mPeek 3) (mPeek 4)) (mPeek 0))))
noncomputable def c_seen_2 : M D := (mComp [2, 0, 1] [3] (mRange (mSeq [(mVar 0)])) (stName 3) (mC true) (mOp1 sumD c_seen_1))
noncomputable def m_seen : MS := (sSeq (sE (mCall fe_check_set (mSeq [(mArgV 0), (mArgV 1)])) fun _ => sNext) (sSeq (sE (mCall fe_check_lamps (mSeq [(mArgV 0), (mArgV 2)])) fun _ => sNext) (sSeq (sRet (mOp1 tupleD c_seen_2)) sNext)))
noncomputable def fe_seen : FnE := ⟨4 + 1, false, 3, fmOf 3 5 m_seen⟩
@[simp] theorem ar_seen : fe_seen.ar = 3 := rfl
theorem t_seen : sAll (cS 60 (mkCt N_seen (defScope (stm 21)) l_check_lamps xs 4 false [])) (defBody (stm 21)) = m_seen := by kernel_rfl
theorem s_seen : FnScope N_seen ["size", "some", "lamps"] (defScope (stm 21)) := ⟨rfl, rfl, rfl, by decide +kernel, rfl, by decide +kernel, by decide +kernel⟩
noncomputable def l_seen : List (Str × FnE) := ("seen", fe_seen) :: l_check_lamps
def N_lamps_of : List Str := ["size", "some", "told", "many", "whole", "found", "at", "here", "left", "one"]
noncomputable def c_lamps_of_1 : M D := (mComp [6, 0, 2] [9] (mItems (mVar 1)) (stName 9) (mC true) (mOp2 ixD (mPeek 2) (mOp2 modD (mOp2 addD (mPeek 6) (mPeek 9)) (mPeek 0))))
noncomputable def b_lamps_of_2 : MS := (sSeq (sE (mOp1 sumD c_lamps_of_1) (sSet 7)) (sSeq (sE (mCall fe_total (mSeq [(mArgE (mLst [(mTup [(mVar 7), (mC (.int 1))]), (mTup [(mOp2 mulD (mOp1 negD (mBox 3 1 (mOp2 ixD (mPeek 3) (mC (.int 1))))) (mBox 4 0 (mOp2 ixD (mPeek 4) (mC (.int 0))))), (mBox 4 1 (mOp2 ixD (mPeek 4) (mC (.int 1))))])]))])) (sSet 8)) (sSeq (sAppend 5 (mCall fe_over (mSeq [(mArgV 8), (mArgE (mTup [(mOp2 subD (mBox 3 0 (mOp2 ixD (mPeek 3) (mC (.int 0)))) (mBox 3 1 (mOp2 ixD (mPeek 3) (mC (.int 1))))), (mC (.int 1))]))]))) sNext)))
noncomputable def f_lamps_of_3 : MS := (sFor (mRange (mSeq [(mVar 0)])) (stName 6) b_lamps_of_2)
noncomputable def m_lamps_of : MS := (sSeq (sE (mCall fe_check_set (mSeq [(mArgV 0), (mArgV 1)])) fun _ => sNext) (sSeq (sE (mCall fe_check_lamps (mSeq [(mArgV 0), (mArgV 2)])) fun _ => sNext) (sSeq (sE (mCall fe_differences (mSeq [(mArgV 0), (mArgV 1)])) (sSet 3)) (sSeq (sIf (mOrT (mNotT (mTru (mCall fe_is_even (mSeq [(mArgV 0), (mArgV 1)])))) (mCmp eqD (mBox 3 0 (mOp2 ixD (mPeek 3) (mC (.int 0)))) (mBox 3 1 (mOp2 ixD (mPeek 3) (mC (.int 1)))))) (sSeq (sRaise 2 (mC (.str "even"))) sNext) sNext) (sSeq (sE (mCall fe_over (mSeq [(mArgE (mTup [(mOp1 sumD (mPeek 2)), (mC (.int 1))])), (mArgE (mTup [(mOp1 lenD (mPeek 1)), (mC (.int 1))]))])) (sSet 4)) (sSeq (sOwn 5 (mSeq [])) (sSeq f_lamps_of_3 (sSeq (sRet (mOp1 tupleD (mPeek 5))) sNext))))))))
noncomputable def fe_lamps_of : FnE := ⟨6 + 1, false, 3, fmOf 3 10 m_lamps_of⟩
@[simp] theorem ar_lamps_of : fe_lamps_of.ar = 3 := rfl
theorem t_lamps_of : sAll (cS 60 (mkCt N_lamps_of (defScope (stm 23)) l_seen xs 6 false [])) (defBody (stm 23)) = m_lamps_of := by kernel_rfl
theorem s_lamps_of : FnScope N_lamps_of ["size", "some", "told"] (defScope (stm 23)) := ⟨rfl, rfl, rfl, by decide +kernel, rfl, by decide +kernel, by decide +kernel⟩
noncomputable def l_lamps_of : List (Str × FnE) := ("lamps_of", fe_lamps_of) :: l_seen
def N_check_signs : List Str := ["row", "one"]
noncomputable def c_check_signs_1 : M D := (mComp [] [1] (mItems (mVar 0)) (stName 1) (mC true) (mAndV (mCall fe_is_integer (mSeq [(mArgV 1)])) (mBl (mCmp inD (mPeek 1) (mTup [(mC (.int 1)), (mOp1 negD (mC (.int 1)))])))))
noncomputable def m_check_signs : MS := (sSeq (sIf (mOrT (mNotT (mTru (mOp1 (instD "tuple") (mPeek 0)))) (mNotT (mChain leD leD (mC (.int 1)) (mOp1 lenD (mPeek 0)) (mC (.int 20))))) (sSeq (sRaise 0 (mC (.str "signs"))) sNext) sNext) (sSeq (sIf (mNotT (mTru (mOp1 allD c_check_signs_1))) (sSeq (sRaise 0 (mC (.str "signs"))) sNext) sNext) sNext))
noncomputable def fe_check_signs : FnE := ⟨3 + 1, false, 1, fmOf 1 2 m_check_signs⟩
@[simp] theorem ar_check_signs : fe_check_signs.ar = 1 := rfl
theorem t_check_signs : sAll (cS 60 (mkCt N_check_signs (defScope (stm 24)) l_lamps_of xs 3 false [])) (defBody (stm 24)) = m_check_signs := by kernel_rfl
theorem s_check_signs : FnScope N_check_signs ["row"] (defScope (stm 24)) := ⟨rfl, rfl, rfl, by decide +kernel, rfl, by decide +kernel, by decide +kernel⟩
noncomputable def l_check_signs : List (Str × FnE) := ("check_signs", fe_check_signs) :: l_lamps_of
def N_agree : List Str := ["row", "by", "at"]
noncomputable def c_agree_1 : M D := (mComp [1, 0] [2] (mRange (mSeq [(mOp2 subD (mOp1 lenD (mPeek 0)) (mPeek 1))])) (stName 2) (mC true) (mOp2 mulD (mOp2 ixD (mPeek 0) (mPeek 2)) (mOp2 ixD (mPeek 0) (mOp2 addD (mPeek 2) (mPeek 1)))))
noncomputable def m_agree : MS := (sSeq (sE (mCall fe_check_signs (mSeq [(mArgV 0)])) fun _ => sNext) (sSeq (sIf (mOrT (mNotT (mTru (mCall fe_is_integer (mSeq [(mArgV 1)])))) (mNotT (mChain leD ltD (mC (.int 0)) (mPeek 1) (mOp1 lenD (mPeek 0))))) (sSeq (sRaise 0 (mC (.str "by"))) sNext) sNext) (sSeq (sRet (mOp1 sumD c_agree_1)) sNext)))
noncomputable def fe_agree : FnE := ⟨4 + 1, false, 2, fmOf 2 3 m_agree⟩
@[simp] theorem ar_agree : fe_agree.ar = 2 := rfl
theorem t_agree : sAll (cS 60 (mkCt N_agree (defScope (stm 25)) l_check_signs xs 4 false [])) (defBody (stm 25)) = m_agree := by kernel_rfl
theorem s_agree : FnScope N_agree ["row", "by"] (defScope (stm 25)) := ⟨rfl, rfl, rfl, by decide +kernel, rfl, by decide +kernel, by decide +kernel⟩
noncomputable def l_agree : List (Str × FnE) := ("agree", fe_agree) :: l_check_signs
def N_round_agree : List Str := ["row", "by", "at"]
noncomputable def c_round_agree_1 : M D := (mComp [1, 0] [2] (mRange (mSeq [(mOp1 lenD (mPeek 0))])) (stName 2) (mC true) (mOp2 mulD (mOp2 ixD (mPeek 0) (mPeek 2)) (mOp2 ixD (mPeek 0) (mOp2 modD (mOp2 addD (mPeek 2) (mPeek 1)) (mOp1 lenD (mPeek 0))))))
noncomputable def m_round_agree : MS := (sSeq (sE (mCall fe_check_signs (mSeq [(mArgV 0)])) fun _ => sNext) (sSeq (sIf (mNotT (mTru (mCall fe_is_integer (mSeq [(mArgV 1)])))) (sSeq (sRaise 0 (mC (.str "by"))) sNext) sNext) (sSeq (sRet (mOp1 sumD c_round_agree_1)) sNext)))
noncomputable def fe_round_agree : FnE := ⟨4 + 1, false, 2, fmOf 2 3 m_round_agree⟩
@[simp] theorem ar_round_agree : fe_round_agree.ar = 2 := rfl
theorem t_round_agree : sAll (cS 60 (mkCt N_round_agree (defScope (stm 26)) l_agree xs 4 false [])) (defBody (stm 26)) = m_round_agree := by kernel_rfl
theorem s_round_agree : FnScope N_round_agree ["row", "by"] (defScope (stm 26)) := ⟨rfl, rfl, rfl, by decide +kernel, rfl, by decide +kernel, by decide +kernel⟩
noncomputable def l_round_agree : List (Str × FnE) := ("round_agree", fe_round_agree) :: l_agree
def N_is_barker : List Str := ["row", "by"]
noncomputable def c_is_barker_1 : M D := (mComp [0] [1] (mRange (mSeq [(mC (.int 1)), (mOp1 lenD (mPeek 0))])) (stName 1) (mC true) (mBl (mCmp leD (mOp1 absD (mCall fe_agree (mSeq [(mArgV 0), (mArgV 1)]))) (mC (.int 1)))))
noncomputable def m_is_barker : MS := (sSeq (sE (mCall fe_check_signs (mSeq [(mArgV 0)])) fun _ => sNext) (sSeq (sRet (mOp1 allD c_is_barker_1)) sNext))
noncomputable def fe_is_barker : FnE := ⟨5 + 1, false, 1, fmOf 1 2 m_is_barker⟩
@[simp] theorem ar_is_barker : fe_is_barker.ar = 1 := rfl
theorem t_is_barker : sAll (cS 60 (mkCt N_is_barker (defScope (stm 27)) l_round_agree xs 5 false [])) (defBody (stm 27)) = m_is_barker := by kernel_rfl
theorem s_is_barker : FnScope N_is_barker ["row"] (defScope (stm 27)) := ⟨rfl, rfl, rfl, by decide +kernel, rfl, by decide +kernel, by decide +kernel⟩
noncomputable def l_is_barker : List (Str × FnE) := ("is_barker", fe_is_barker) :: l_round_agree
def N_barkers : List Str := ["many", "rows", "turn", "row", "one"]
noncomputable def c_barkers_1 : M DV := (mComp2N [] [3, 4] (mItems (mVar 1)) (stName 3) (mC true) (mItems (mTup [(mOp1 negD (mC (.int 1))), (mC (.int 1))])) [4] (stName 4) (mC true) (mOp2 addD (mPeek 3) (mTup [(mVar 4)])))
noncomputable def b_barkers_2 : MS := (sSeq (sE c_barkers_1 (sSetV 1)) sNext)
noncomputable def f_barkers_3 : MS := (sFor (mRange (mSeq [(mVar 0)])) (stName 2) b_barkers_2)
noncomputable def c_barkers_4 : M D := (mComp [] [3] (mItems (mVar 1)) (stName 3) (mTru (mCall fe_is_barker (mSeq [(mArgV 3)]))) (mVar 3))
noncomputable def m_barkers : MS := (sSeq (sIf (mOrT (mNotT (mTru (mCall fe_is_integer (mSeq [(mArgV 0)])))) (mCmp ltD (mPeek 0) (mC (.int 1)))) (sSeq (sRaise 0 (mC (.str "many"))) sNext) sNext) (sSeq (sIf (mCmp gtD (mPeek 0) (mC (.int 13))) (sSeq (sRaise 1 (mC (.str "signs"))) sNext) sNext) (sSeq (sOwn 1 (mSeq [(mTup [])])) (sSeq f_barkers_3 (sSeq (sRet c_barkers_4) sNext)))))
noncomputable def fe_barkers : FnE := ⟨6 + 1, false, 1, fmOf 1 5 m_barkers⟩
@[simp] theorem ar_barkers : fe_barkers.ar = 1 := rfl
theorem t_barkers : sAll (cS 60 (mkCt N_barkers (defScope (stm 28)) l_is_barker xs 6 false [])) (defBody (stm 28)) = m_barkers := by kernel_rfl
theorem s_barkers : FnScope N_barkers ["many"] (defScope (stm 28)) := ⟨rfl, rfl, rfl, by decide +kernel, rfl, by decide +kernel, by decide +kernel⟩
noncomputable def l_barkers : List (Str × FnE) := ("barkers", fe_barkers) :: l_is_barker
def N_mates : List Str := ["one", "other", "by"]
noncomputable def c_mates_1 : M D := (mComp [0, 1] [2] (mRange (mSeq [(mC (.int 1)), (mOp1 lenD (mPeek 0))])) (stName 2) (mC true) (mBl (mCmp eqD (mOp2 addD (mCall fe_agree (mSeq [(mArgV 0), (mArgV 2)])) (mCall fe_agree (mSeq [(mArgV 1), (mArgV 2)]))) (mC (.int 0)))))
noncomputable def m_mates : MS := (sSeq (sE (mCall fe_check_signs (mSeq [(mArgV 0)])) fun _ => sNext) (sSeq (sE (mCall fe_check_signs (mSeq [(mArgV 1)])) fun _ => sNext) (sSeq (sIf (mCmp neD (mOp1 lenD (mPeek 0)) (mOp1 lenD (mPeek 1))) (sSeq (sRet (mC (.bool false))) sNext) sNext) (sSeq (sRet (mOp1 allD c_mates_1)) sNext))))
noncomputable def fe_mates : FnE := ⟨5 + 1, false, 2, fmOf 2 3 m_mates⟩
@[simp] theorem ar_mates : fe_mates.ar = 2 := rfl
theorem t_mates : sAll (cS 60 (mkCt N_mates (defScope (stm 29)) l_barkers xs 5 false [])) (defBody (stm 29)) = m_mates := by kernel_rfl
theorem s_mates : FnScope N_mates ["one", "other"] (defScope (stm 29)) := ⟨rfl, rfl, rfl, by decide +kernel, rfl, by decide +kernel, by decide +kernel⟩
noncomputable def l_mates : List (Str × FnE) := ("mates", fe_mates) :: l_barkers
def N_doubled : List Str := ["one", "other", "sign"]
noncomputable def c_doubled_1 : M D := (mComp [] [2] (mItems (mVar 1)) (stName 2) (mC true) (mOp1 negD (mPeek 2)))
noncomputable def m_doubled : MS := (sSeq (sIf (mNotT (mTru (mCall fe_mates (mSeq [(mArgV 0), (mArgV 1)])))) (sSeq (sRaise 2 (mC (.str "mates"))) sNext) sNext) (sSeq (sIf (mCmp gtD (mOp1 lenD (mPeek 0)) (mC (.int 10))) (sSeq (sRaise 1 (mC (.str "signs"))) sNext) sNext) (sSeq (sRet (mTup [(mOp2 addD (mPeek 0) (mPeek 1)), (mOp2 addD (mPeek 0) (mOp1 tupleD c_doubled_1))])) sNext)))
noncomputable def fe_doubled : FnE := ⟨6 + 1, false, 2, fmOf 2 3 m_doubled⟩
@[simp] theorem ar_doubled : fe_doubled.ar = 2 := rfl
theorem t_doubled : sAll (cS 60 (mkCt N_doubled (defScope (stm 30)) l_mates xs 6 false [])) (defBody (stm 30)) = m_doubled := by kernel_rfl
theorem s_doubled : FnScope N_doubled ["one", "other"] (defScope (stm 30)) := ⟨rfl, rfl, rfl, by decide +kernel, rfl, by decide +kernel, by decide +kernel⟩
noncomputable def l_doubled : List (Str × FnE) := ("doubled", fe_doubled) :: l_mates
def N__law_digits : List Str := ["script", "first", "last", "digits", "k", "cell", "turn", "seed"]
noncomputable def b__law_digits_1 : MS := (sSeq (sIf (mCmp gtD (mPeek 5) (mC (.int 0))) (sSeq (sAppend 3 (mOp2 modD (mOp1 intD (mPeek 5)) (mC (.int 1009)))) (sSeq (sE (mOp2 fdivD (mPeek 5) (mC (.int 1009))) (sSet 5)) sNext)) sNext) sNext)
noncomputable def f__law_digits_2 : MS := (sFor (mRange (mSeq [(mC (.int 60))])) (stName 6) b__law_digits_1)
noncomputable def b__law_digits_3 : MS := (sSeq (sE (mOp2 modD (mOp1 intD (mOp2 addD (mOp2 addD (mOp2 mulD (mPeek 7) (mC (.int 40014))) (mOp2 mulD (mC (.int 11)) (mPeek 6))) (mC (.int 7)))) (mC (.int 2147483563))) (sSet 7)) (sSeq (sAppend 3 (mOp2 modD (mOp1 intD (mOp2 fdivD (mPeek 7) (mC (.int 1013)))) (mC (.int 1009)))) sNext))
noncomputable def f__law_digits_4 : MS := (sFor (mRange (mSeq [(mC (.int 12))])) (stName 6) b__law_digits_3)
noncomputable def b__law_digits_5 : MS := (sSeq (sE (mIf (mCmp ltD (mPeek 4) (mOp1 lenD (mPeek 0))) (mOp2 ixD (mPeek 0) (mPeek 4)) (mC (.int 0))) (sSet 5)) (sSeq (sIf (mCmp ltD (mPeek 5) (mC (.int 0))) (sSeq (sE (mOp2 subD (mC (.int 1)) (mOp2 mulD (mC (.int 2)) (mPeek 5))) (sSet 5)) sNext) sNext) (sSeq (sIf (mCmp geD (mPeek 5) (mC (.int 1000000000000000000))) (sSeq f__law_digits_2 sNext) (sSeq (sE (mOp2 modD (mOp1 intD (mOp2 addD (mOp2 addD (mOp2 mulD (mPeek 5) (mC (.int 40699))) (mOp2 mulD (mPeek 4) (mC (.int 52769)))) (mC (.int 31)))) (mC (.int 2147483399))) (sSet 7)) (sSeq f__law_digits_4 sNext))) sNext)))
noncomputable def f__law_digits_6 : MS := (sFor (mRange (mSeq [(mVar 1), (mVar 2)])) (stName 4) b__law_digits_5)
noncomputable def p__law_digits_2 : MS := (sRet (mVar 3))
noncomputable def r__law_digits_2 : MS := sSeq p__law_digits_2 sNext
noncomputable def p__law_digits_1 : MS := f__law_digits_6
noncomputable def r__law_digits_1 : MS := sSeq p__law_digits_1 r__law_digits_2
noncomputable def p__law_digits_0 : MS := (sOwn 3 (mSeq []))
noncomputable def r__law_digits_0 : MS := sSeq p__law_digits_0 r__law_digits_1
noncomputable def m__law_digits : MS := r__law_digits_0
noncomputable def fe__law_digits : FnE := ⟨2 + 1, false, 3, fmOf 3 8 m__law_digits⟩
@[simp] theorem ar__law_digits : fe__law_digits.ar = 3 := rfl
theorem t__law_digits : sAll (cS 60 (mkCt N__law_digits (defScope (stm 32)) l_doubled xs 2 false [])) (defBody (stm 32)) = m__law_digits := by kernel_rfl
theorem s__law_digits : FnScope N__law_digits ["script", "first", "last"] (defScope (stm 32)) := ⟨rfl, rfl, rfl, by decide +kernel, rfl, by decide +kernel, by decide +kernel⟩
noncomputable def l__law_digits : List (Str × FnE) := ("_law_digits", fe__law_digits) :: l_doubled
def N__law_draw : List Str := ["box", "many", "at"]
noncomputable def m__law_draw : MS := (sSeq (sE (mBox 0 1 (mOp2 ixD (mPeek 0) (mC (.int 1)))) (sSet 2)) (sSeq (sSub true 0 (mC (.int 1)) (mOp2 addD (mPeek 2) (mC (.int 1)))) (sSeq (sIf (mCmp ltD (mPeek 2) (mOp1 lenD (mBox 0 0 (mOp2 ixD (mPeek 0) (mC (.int 0)))))) (sSeq (sRet (mOp2 modD (mOp1 intD (mOp2 ixD (mBox 0 0 (mOp2 ixD (mPeek 0) (mC (.int 0)))) (mPeek 2))) (mPeek 1))) sNext) sNext) (sSeq (sRet (mOp2 modD (mOp1 intD (mOp2 addD (mOp2 addD (mOp2 addD (mOp2 mulD (mOp2 mulD (mPeek 2) (mPeek 2)) (mC (.int 3))) (mOp2 mulD (mPeek 2) (mC (.int 4)))) (mOp2 fdivD (mPeek 2) (mC (.int 3)))) (mC (.int 1)))) (mPeek 1))) sNext))))
noncomputable def fe__law_draw : FnE := ⟨2 + 1, false, 2, fmOf 2 3 m__law_draw⟩
@[simp] theorem ar__law_draw : fe__law_draw.ar = 2 := rfl
theorem t__law_draw : sAll (cS 60 (mkCt N__law_draw (defScope (stm 33)) l__law_digits xs 2 false [])) (defBody (stm 33)) = m__law_draw := by kernel_rfl
theorem s__law_draw : FnScope N__law_draw ["box", "many"] (defScope (stm 33)) := ⟨rfl, rfl, rfl, by decide +kernel, rfl, by decide +kernel, by decide +kernel⟩
noncomputable def l__law_draw : List (Str × FnE) := ("_law_draw", fe__law_draw) :: l__law_digits
def N__law_pick : List Str := ["box", "things"]
noncomputable def m__law_pick : MS := (sSeq (sRet (mOp2 ixD (mPeek 1) (mCall fe__law_draw (mSeq [(mArgV 0), (mArgE (mOp1 lenD (mPeek 1)))])))) sNext)
noncomputable def fe__law_pick : FnE := ⟨3 + 1, false, 2, fmOf 2 2 m__law_pick⟩
@[simp] theorem ar__law_pick : fe__law_pick.ar = 2 := rfl
theorem t__law_pick : sAll (cS 60 (mkCt N__law_pick (defScope (stm 34)) l__law_draw xs 3 false [])) (defBody (stm 34)) = m__law_pick := by kernel_rfl
theorem s__law_pick : FnScope N__law_pick ["box", "things"] (defScope (stm 34)) := ⟨rfl, rfl, rfl, by decide +kernel, rfl, by decide +kernel, by decide +kernel⟩
noncomputable def l__law_pick : List (Str × FnE) := ("_law_pick", fe__law_pick) :: l__law_draw
def N__law_same : List Str := ["a", "b"]
noncomputable def m__law_same : MS := (sSeq (sRet (mBl (mCmp eqD (mOp1 reprD (mPeek 0)) (mOp1 reprD (mPeek 1))))) sNext)
noncomputable def fe__law_same : FnE := ⟨2 + 1, true, 2, fmOf 2 2 m__law_same⟩
@[simp] theorem ar__law_same : fe__law_same.ar = 2 := rfl
theorem t__law_same : sAll (cS 60 (mkCt N__law_same (defScope (stm 35)) l__law_pick xs 2 true [])) (defBody (stm 35)) = m__law_same := by kernel_rfl
theorem s__law_same : FnScope N__law_same ["a", "b"] (defScope (stm 35)) := ⟨rfl, rfl, rfl, by decide +kernel, rfl, by decide +kernel, by decide +kernel⟩
noncomputable def l__law_same : List (Str × FnE) := ("_law_same", fe__law_same) :: l__law_pick
def N__law_subsets : List Str := ["many", "found", "place", "row"]
noncomputable def c__law_subsets_1 : M D := (mComp [2] [3] (mItems (mVar 1)) (stName 3) (mC true) (mOp2 addD (mPeek 3) (mTup [(mOp1 intD (mPeek 2))])))
noncomputable def b__law_subsets_2 : MS := (sSeq (sE (mOpN (binN .Add) (mPeek 1) c__law_subsets_1) (sSetV 1)) sNext)
noncomputable def f__law_subsets_3 : MS := (sFor (mRange (mSeq [(mVar 0)])) (stName 2) b__law_subsets_2)
noncomputable def m__law_subsets : MS := (sSeq (sOwn 1 (mSeq [(mTup [])])) (sSeq f__law_subsets_3 (sSeq (sRet (mVar 1)) sNext)))
noncomputable def fe__law_subsets : FnE := ⟨2 + 1, false, 1, fmOf 1 4 m__law_subsets⟩
@[simp] theorem ar__law_subsets : fe__law_subsets.ar = 1 := rfl
theorem t__law_subsets : sAll (cS 60 (mkCt N__law_subsets (defScope (stm 37)) l__law_same xs 2 false [])) (defBody (stm 37)) = m__law_subsets := by kernel_rfl
theorem s__law_subsets : FnScope N__law_subsets ["many"] (defScope (stm 37)) := ⟨rfl, rfl, rfl, by decide +kernel, rfl, by decide +kernel, by decide +kernel⟩
noncomputable def l__law_subsets : List (Str × FnE) := ("_law_subsets", fe__law_subsets) :: l__law_same
def N__law_common : List Str := ["a", "b", "turn"]
noncomputable def b__law_common_1 : MS := (sSeq (sIf (mCmp eqD (mPeek 1) (mC (.int 0))) (sSeq (sRet (mVar 0)) sNext) sNext) (sSeq (sE (mSeq [(mVar 1), (mOp2 modD (mPeek 0) (mPeek 1))]) (sPar [0, 1])) sNext))
noncomputable def f__law_common_2 : MS := (sFor (mRange (mSeq [(mC (.int 30000))])) (stName 2) b__law_common_1)
noncomputable def m__law_common : MS := (sSeq (sE (mSeq [(mOp1 absD (mPeek 0)), (mOp1 absD (mPeek 1))]) (sPar [0, 1])) (sSeq f__law_common_2 (sSeq (sRet (mVar 0)) sNext)))
noncomputable def fe__law_common : FnE := ⟨2 + 1, false, 2, fmOf 2 3 m__law_common⟩
@[simp] theorem ar__law_common : fe__law_common.ar = 2 := rfl
theorem t__law_common : sAll (cS 60 (mkCt N__law_common (defScope (stm 38)) l__law_subsets xs 2 false [])) (defBody (stm 38)) = m__law_common := by kernel_rfl
theorem s__law_common : FnScope N__law_common ["a", "b"] (defScope (stm 38)) := ⟨rfl, rfl, rfl, by decide +kernel, rfl, by decide +kernel, by decide +kernel⟩
noncomputable def l__law_common : List (Str × FnE) := ("_law_common", fe__law_common) :: l__law_subsets
def N__law_rows : List Str := ["many", "limit", "found", "turn", "later", "row", "k"]
noncomputable def c__law_rows_1 : M D := (mComp [5] [6] (mRange (mSeq [(mOp2 addD (mPeek 1) (mC (.int 1)))])) (stName 6) (mC true) (mOp2 addD (mPeek 5) (mTup [(mOp1 intD (mPeek 6))])))
noncomputable def b__law_rows_2 : MS := (sSeq (sE (mOpN (binN .Add) (mPeek 4) c__law_rows_1) (sSetV 4)) sNext)
noncomputable def f__law_rows_3 : MS := (sFor (mItems (mVar 2)) (stName 5) b__law_rows_2)
noncomputable def b__law_rows_4 : MS := (sSeq (sOwn 4 (mSeq [])) (sSeq f__law_rows_3 (sSeq (sE (mVar 4) (sSet 2)) sNext)))
noncomputable def f__law_rows_5 : MS := (sFor (mRange (mSeq [(mVar 0)])) (stName 3) b__law_rows_4)
noncomputable def m__law_rows : MS := (sSeq (sOwn 2 (mSeq [(mTup [])])) (sSeq f__law_rows_5 (sSeq (sRet (mVar 2)) sNext)))
noncomputable def fe__law_rows : FnE := ⟨2 + 1, false, 2, fmOf 2 7 m__law_rows⟩
@[simp] theorem ar__law_rows : fe__law_rows.ar = 2 := rfl
theorem t__law_rows : sAll (cS 60 (mkCt N__law_rows (defScope (stm 39)) l__law_common xs 2 false [])) (defBody (stm 39)) = m__law_rows := by kernel_rfl
theorem s__law_rows : FnScope N__law_rows ["many", "limit"] (defScope (stm 39)) := ⟨rfl, rfl, rfl, by decide +kernel, rfl, by decide +kernel, by decide +kernel⟩
noncomputable def l__law_rows : List (Str × FnE) := ("_law_rows", fe__law_rows) :: l__law_common
def N__law_differences : List Str := ["size", "some", "k", "one", "other"]
noncomputable def c__law_differences_1 : M D := (mComp [2, 3, 0] [4] (mItems (mVar 1)) (stName 4) (mCmp eqD (mOp2 modD (mOp2 subD (mPeek 3) (mPeek 4)) (mPeek 0)) (mPeek 2)) (mVar 4))
noncomputable def c__law_differences_2 : M D := (mComp [2, 0, 1] [3] (mItems (mVar 1)) (stName 3) (mCmp neD c__law_differences_1 (mLst [])) (mC (.int 1)))
noncomputable def c__law_differences_3 : M D := (mComp [0, 1] [2] (mRange (mSeq [(mVar 0)])) (stName 2) (mC true) (mOp1 lenD c__law_differences_2))
noncomputable def m__law_differences : MS := (sSeq (sRet (mOp1 tupleD c__law_differences_3)) sNext)
noncomputable def fe__law_differences : FnE := ⟨2 + 1, false, 2, fmOf 2 5 m__law_differences⟩
@[simp] theorem ar__law_differences : fe__law_differences.ar = 2 := rfl
theorem t__law_differences : sAll (cS 60 (mkCt N__law_differences (defScope (stm 40)) l__law_rows xs 2 false [])) (defBody (stm 40)) = m__law_differences := by kernel_rfl
theorem s__law_differences : FnScope N__law_differences ["size", "some"] (defScope (stm 40)) := ⟨rfl, rfl, rfl, by decide +kernel, rfl, by decide +kernel, by decide +kernel⟩
noncomputable def l__law_differences : List (Str × FnE) := ("_law_differences", fe__law_differences) :: l__law_rows
def N__law_agree : List Str := ["row", "by", "k"]
noncomputable def c__law_agree_1 : M D := (mComp [1, 0] [2] (mRange (mSeq [(mOp2 subD (mOp1 lenD (mPeek 0)) (mPeek 1))])) (stName 2) (mC true) (mOp2 mulD (mOp2 ixD (mPeek 0) (mPeek 2)) (mOp2 ixD (mPeek 0) (mOp2 addD (mPeek 2) (mPeek 1)))))
noncomputable def m__law_agree : MS := (sSeq (sRet (mOp1 sumD c__law_agree_1)) sNext)
noncomputable def fe__law_agree : FnE := ⟨2 + 1, false, 2, fmOf 2 3 m__law_agree⟩
@[simp] theorem ar__law_agree : fe__law_agree.ar = 2 := rfl
theorem t__law_agree : sAll (cS 60 (mkCt N__law_agree (defScope (stm 41)) l__law_differences xs 2 false [])) (defBody (stm 41)) = m__law_agree := by kernel_rfl
theorem s__law_agree : FnScope N__law_agree ["row", "by"] (defScope (stm 41)) := ⟨rfl, rfl, rfl, by decide +kernel, rfl, by decide +kernel, by decide +kernel⟩
noncomputable def l__law_agree : List (Str × FnE) := ("_law_agree", fe__law_agree) :: l__law_differences
def N__law_signs : List Str := ["box", "step", "long", "signs", "pair", "due", "here", "turn", "other", "row", "k", "line", "one"]
noncomputable def c__law_signs_1 : M D := (mComp [0] [10] (mRange (mSeq [(mOp2 addD (mC (.int 1)) (mCall fe__law_draw (mSeq [(mArgV 0), (mArgE (mC (.int 8)))])))])) (stName 10) (mC true) (mCall fe__law_pick (mSeq [(mArgV 0), (mArgE (mLst [(mC (.int 1)), (mOp1 negD (mC (.int 1)))]))])))
noncomputable def c__law_signs_2 : M D := (mComp [9, 1] [10] (mRange (mSeq [(mOp1 lenD (mPeek 9))])) (stName 10) (mC true) (mOp2 mulD (mOp2 ixD (mPeek 9) (mPeek 10)) (mOp2 ixD (mPeek 9) (mOp2 modD (mOp2 addD (mPeek 10) (mPeek 1)) (mOp1 lenD (mPeek 9))))))
noncomputable def c__law_signs_3 : M D := (mComp [9] [10] (mRange (mSeq [(mC (.int 1)), (mOp1 lenD (mPeek 9))])) (stName 10) (mCmp gtD (mOp1 absD (mCall fe__law_agree (mSeq [(mArgV 9), (mArgV 10)]))) (mC (.int 1))) (mVar 10))
noncomputable def c__law_signs_4 : M D := (mComp [] [12] (mItems (mVar 11)) (stName 12) (mC true) (mIf (mCmp eqD (mPeek 12) (mC (.int 1))) (mC (.int 1)) (mOp1 negD (mC (.int 1)))))
noncomputable def c__law_signs_5 : M DV := (mCompN [] [11] (mItems (mCall fe__law_rows (mSeq [(mArgV 2), (mArgE (mC (.int 1)))]))) (stName 11) (mC true) (mOp1 tupleD c__law_signs_4))
noncomputable def c__law_signs_6 : M D := (mComp [11] [10] (mRange (mSeq [(mC (.int 1)), (mVar 2)])) (stName 10) (mCmp gtD (mOp1 absD (mCall fe__law_agree (mSeq [(mArgV 11), (mArgV 10)]))) (mC (.int 1))) (mVar 10))
noncomputable def c__law_signs_7 : M D := (mComp [2] [11] (mItems (mVar 3)) (stName 11) (mCmp eqD c__law_signs_6 (mLst [])) (mVar 11))
noncomputable def c__law_signs_8 : M D := (mComp [0] [10] (mRange (mSeq [(mOp1 lenD (mPeek 9))])) (stName 10) (mC true) (mCall fe__law_pick (mSeq [(mArgV 0), (mArgE (mLst [(mC (.int 1)), (mOp1 negD (mC (.int 1)))]))])))
noncomputable def c__law_signs_9 : M D := (mComp [8, 9] [10] (mRange (mSeq [(mC (.int 1)), (mOp1 lenD (mPeek 9))])) (stName 10) (mCmp neD (mOp2 addD (mCall fe__law_agree (mSeq [(mArgV 9), (mArgV 10)])) (mCall fe__law_agree (mSeq [(mArgV 8), (mArgV 10)]))) (mC (.int 0))) (mVar 10))
noncomputable def c__law_signs_10 : M D := (mComp [] [12] (mItems (mVar 8)) (stName 12) (mC true) (mOp2 subD (mC (.int 0)) (mPeek 12)))
noncomputable def b__law_signs_11 : MS := (sSeq (sE (mCall fe_doubled (mSeq [(mArgE (mBox 6 0 (mOp2 ixD (mPeek 6) (mC (.int 0))))), (mArgE (mBox 6 1 (mOp2 ixD (mPeek 6) (mC (.int 1)))))])) (sSet 6)) sNext)
noncomputable def f__law_signs_12 : MS := (sFor (mRange (mSeq [(mCall fe__law_draw (mSeq [(mArgV 0), (mArgE (mC (.int 4)))]))])) (stName 7) b__law_signs_11)
noncomputable def p__law_signs_18 : MS := (sRet (mC (.bool true)))
noncomputable def r__law_signs_18 : MS := sSeq p__law_signs_18 sNext
noncomputable def p__law_signs_17 : MS := (sIf (mCmp neD (mTold [] tagOf (mCall fe_barkers (mSeq [(mArgE (mC (.int 0)))]))) (mLst [(mC (.str "bad thing")), (mC (.str "many"))])) (sSeq (sRet (mC (.bool false))) sNext) sNext)
noncomputable def r__law_signs_17 : MS := sSeq p__law_signs_17 r__law_signs_18
noncomputable def p__law_signs_16 : MS := (sIf (mOrT (mCmp isNotD (mCall fe_mates (mSeq [(mArgE (mBox 6 0 (mOp2 ixD (mPeek 6) (mC (.int 0))))), (mArgE (mBox 6 1 (mOp2 ixD (mPeek 6) (mC (.int 1)))))])) (mC (.bool true))) (mCmp neD (mTold [] tagOf (mCall fe_barkers (mSeq [(mArgE (mC (.int 14)))]))) (mLst [(mC (.str "too many")), (mC (.str "signs"))]))) (sSeq (sRet (mC (.bool false))) sNext) sNext)
noncomputable def r__law_signs_16 : MS := sSeq p__law_signs_16 r__law_signs_17
noncomputable def p__law_signs_15 : MS := f__law_signs_12
noncomputable def r__law_signs_15 : MS := sSeq p__law_signs_15 r__law_signs_16
noncomputable def p__law_signs_14 : MS := (sE (mTup [(mTup [(mC (.int 1))]), (mTup [(mC (.int 1))])]) (sSet 6))
noncomputable def r__law_signs_14 : MS := sSeq p__law_signs_14 r__law_signs_15
noncomputable def p__law_signs_13 : MS := (sIf (mCmp neD (mTold [9] tagOf (mCall fe_agree (mSeq [(mArgV 9), (mArgE (mOp1 lenD (mPeek 9)))]))) (mLst [(mC (.str "bad thing")), (mC (.str "by"))])) (sSeq (sRet (mC (.bool false))) sNext) sNext)
noncomputable def r__law_signs_13 : MS := sSeq p__law_signs_13 r__law_signs_14
noncomputable def p__law_signs_12 : MS := (sIf (mOrT (mNotT (mTru (mCall fe__law_same (mSeq [(mArgE (mTold [8, 9] tagOf (mCall fe_doubled (mSeq [(mArgV 9), (mArgV 8)])))), (mArgV 5)])))) (mAndT (mTru (mPeek 4)) (mCmp isNotD (mCall fe_mates (mSeq [(mArgE (mBox 5 0 (mOp2 ixD (mPeek 5) (mC (.int 0))))), (mArgE (mBox 5 1 (mOp2 ixD (mPeek 5) (mC (.int 1)))))])) (mC (.bool true))))) (sSeq (sRet (mC (.bool false))) sNext) sNext)
noncomputable def r__law_signs_12 : MS := sSeq p__law_signs_12 r__law_signs_13
noncomputable def p__law_signs_11 : MS := (sE (mIf (mTru (mPeek 4)) (mTup [(mOp2 addD (mPeek 9) (mPeek 8)), (mOp2 addD (mPeek 9) (mOp1 tupleD c__law_signs_10))]) (mLst [(mC (.str "refused")), (mC (.str "mates"))])) (sSet 5))
noncomputable def r__law_signs_11 : MS := sSeq p__law_signs_11 r__law_signs_12
noncomputable def p__law_signs_10 : MS := (sIf (mOrT (mCmp neD (mCall fe_mates (mSeq [(mArgV 9), (mArgV 8)])) (mPeek 4)) (mCmp isNotD (mCall fe_mates (mSeq [(mArgV 9), (mArgE (mOp2 addD (mPeek 9) (mTup [(mC (.int 1))])))])) (mC (.bool false)))) (sSeq (sRet (mC (.bool false))) sNext) sNext)
noncomputable def r__law_signs_10 : MS := sSeq p__law_signs_10 r__law_signs_11
noncomputable def p__law_signs_9 : MS := (sE (mBl (mCmp eqD c__law_signs_9 (mLst []))) (sSet 4))
noncomputable def r__law_signs_9 : MS := sSeq p__law_signs_9 r__law_signs_10
noncomputable def p__law_signs_8 : MS := (sE (mOp1 tupleD c__law_signs_8) (sSet 8))
noncomputable def r__law_signs_8 : MS := sSeq p__law_signs_8 r__law_signs_9
noncomputable def p__law_signs_7 : MS := (sIf (mNotT (mTru (mCall fe__law_same (mSeq [(mArgE (mCall fe_barkers (mSeq [(mArgV 2)]))), (mArgE c__law_signs_7)])))) (sSeq (sRet (mC (.bool false))) sNext) sNext)
noncomputable def r__law_signs_7 : MS := sSeq p__law_signs_7 r__law_signs_8
noncomputable def p__law_signs_6 : MS := (sE c__law_signs_5 (sSetV 3))
noncomputable def r__law_signs_6 : MS := sSeq p__law_signs_6 r__law_signs_7
noncomputable def p__law_signs_5 : MS := (sE (mOpN (binN .Add) (mC (.int 1)) (mCall fe__law_draw (mSeq [(mArgV 0), (mArgE (mC (.int 7)))]))) (sSetV 2))
noncomputable def r__law_signs_5 : MS := sSeq p__law_signs_5 r__law_signs_6
noncomputable def p__law_signs_4 : MS := (sIf (mCmp neD (mCall fe_is_barker (mSeq [(mArgV 9)])) (mBl (mCmp eqD c__law_signs_3 (mLst [])))) (sSeq (sRet (mC (.bool false))) sNext) sNext)
noncomputable def r__law_signs_4 : MS := sSeq p__law_signs_4 r__law_signs_5
noncomputable def p__law_signs_3 : MS := (sIf (mAndT (mCmp gtD (mPeek 1) (mC (.int 0))) (mCmp neD (mCall fe_round_agree (mSeq [(mArgV 9), (mArgV 1)])) (mOp2 addD (mCall fe_agree (mSeq [(mArgV 9), (mArgV 1)])) (mCall fe_agree (mSeq [(mArgV 9), (mArgE (mOp2 subD (mOp1 lenD (mPeek 9)) (mPeek 1)))]))))) (sSeq (sRet (mC (.bool false))) sNext) sNext)
noncomputable def r__law_signs_3 : MS := sSeq p__law_signs_3 r__law_signs_4
noncomputable def p__law_signs_2 : MS := (sIf (mOrT (mCmp neD (mCall fe_agree (mSeq [(mArgV 9), (mArgV 1)])) (mCall fe__law_agree (mSeq [(mArgV 9), (mArgV 1)]))) (mCmp neD (mCall fe_round_agree (mSeq [(mArgV 9), (mArgV 1)])) (mOp1 sumD c__law_signs_2))) (sSeq (sRet (mC (.bool false))) sNext) sNext)
noncomputable def r__law_signs_2 : MS := sSeq p__law_signs_2 r__law_signs_3
noncomputable def p__law_signs_1 : MS := (sE (mCall fe__law_draw (mSeq [(mArgV 0), (mArgE (mOp1 lenD (mPeek 9)))])) (sSet 1))
noncomputable def r__law_signs_1 : MS := sSeq p__law_signs_1 r__law_signs_2
noncomputable def p__law_signs_0 : MS := (sE (mOp1 tupleD c__law_signs_1) (sSet 9))
noncomputable def r__law_signs_0 : MS := sSeq p__law_signs_0 r__law_signs_1
noncomputable def m__law_signs : MS := r__law_signs_0
noncomputable def fe__law_signs : FnE := ⟨10 + 1, true, 1, fmOf 1 13 m__law_signs⟩
@[simp] theorem ar__law_signs : fe__law_signs.ar = 1 := rfl
theorem t__law_signs : sAll (cS 60 (mkCt N__law_signs (defScope (stm 42)) l__law_agree xs 10 true [("_law_told", tagOf)])) (defBody (stm 42)) = m__law_signs := by kernel_rfl
theorem s__law_signs : FnScope N__law_signs ["box"] (defScope (stm 42)) := ⟨rfl, rfl, rfl, by decide +kernel, rfl, by decide +kernel, by decide +kernel⟩
noncomputable def l__law_signs : List (Str × FnE) := ("_law_signs", fe__law_signs) :: l__law_agree
def N_law : List Str := ["script", "told", "fits", "due", "own", "prime", "roots", "good", "back", "lights", "box", "by", "lamps", "many", "shown", "size", "small", "some", "k", "one", "row"]
noncomputable def c_law_1 : M D := (mComp [10] [18] (mRange (mSeq [(mVar 15)])) (stName 18) (mCmp eqD (mCall fe__law_draw (mSeq [(mArgV 10), (mArgE (mC (.int 3)))])) (mC (.int 0))) (mOp1 intD (mPeek 18)))
noncomputable def c_law_2 : M D := (mComp [] [19] (mItems (mCut (mPeek 1) (mPart (mC (.int 1))) (mC none))) (stName 19) (mC true) (mTup [(mVar 19), (mC (.int 1))]))
noncomputable def c_law_3 : M D := (mComp [17] [18] (mRange (mSeq [(mVar 15)])) (stName 18) (mCmp notInD (mPeek 18) (mPeek 17)) (mOp1 intD (mPeek 18)))
noncomputable def c_law_4 : M D := (mComp [11, 15] [19] (mItems (mVar 17)) (stName 19) (mC true) (mOp2 modD (mOp2 addD (mPeek 19) (mPeek 11)) (mPeek 15)))
noncomputable def c_law_5 : M D := (mComp [11, 15] [19] (mItems (mVar 17)) (stName 19) (mC true) (mOp2 modD (mOp2 mulD (mPeek 19) (mPeek 11)) (mPeek 15)))
noncomputable def c_law_6 : M D := (mComp [] [19] (mItems (mCut (mCall fe__law_differences (mSeq [(mArgV 16), (mArgV 20)])) (mPart (mC (.int 1))) (mC none))) (stName 19) (mC true) (mTup [(mVar 19), (mC (.int 1))]))
noncomputable def c_law_7 : M DV := (mCompN [13, 16] [20] (mItems (mCall fe__law_subsets (mSeq [(mArgV 16)]))) (stName 20) (mAndT (mCmp eqD (mOp1 lenD (mPeek 20)) (mPeek 13)) (mAndT (mCmp eqD (mBox 20 0 (mOp2 ixD (mPeek 20) (mC (.int 0)))) (mC (.int 0))) (mCmp eqD (mOp1 lenDictD c_law_6) (mC (.int 1))))) (mOp1 tupleD (mPeek 20)))
noncomputable def c_law_8 : M D := (mComp [5] [18] (mRange (mSeq [(mC (.int 1)), (mVar 5)])) (stName 18) (mC true) (mTup [(mOp1 intD (mOp2 modD (mOp2 mulD (mPeek 18) (mPeek 18)) (mPeek 5))), (mC (.int 1))]))
noncomputable def c_law_9 : M D := (mComp [10] [18] (mRange (mSeq [(mVar 15)])) (stName 18) (mC true) (mOp2 subD (mCall fe__law_draw (mSeq [(mArgV 10), (mArgE (mC (.int 9)))])) (mC (.int 2))))
noncomputable def c_law_10 : M D := (mComp [18, 12, 15] [19] (mItems (mVar 17)) (stName 19) (mC true) (mOp2 ixD (mPeek 12) (mOp2 modD (mOp2 subD (mPeek 18) (mPeek 19)) (mPeek 15))))
noncomputable def c_law_11 : M D := (mComp [12, 15, 17] [18] (mRange (mSeq [(mVar 15)])) (stName 18) (mC true) (mOp1 sumD c_law_10))
noncomputable def c_law_12 : M D := (mComp [] [19] (mItems (mCut (mPeek 1) (mPart (mC (.int 1))) (mC none))) (stName 19) (mC true) (mTup [(mVar 19), (mC (.int 1))]))
noncomputable def c_law_13 : M D := (mComp [] [19] (mItems (mVar 12)) (stName 19) (mC true) (mTup [(mVar 19), (mC (.int 1))]))
noncomputable def c_law_14 : M D := (mComp [10] [18] (mRange (mSeq [(mC (.int 7))])) (stName 18) (mC true) (mCall fe__law_draw (mSeq [(mArgV 10), (mArgE (mC (.int 6)))])))
noncomputable def c_law_15 : M D := (mComp [] [19] (mItems (mVar 9)) (stName 19) (mC true) (mTup [(mVar 19), (mC (.int 1))]))
noncomputable def p_law_28 : MS := (sRet (mBl (mCmp eqD (mTold [10] tagOf (mCall fe_differences (mSeq [(mArgE (mCall fe__law_pick (mSeq [(mArgV 10), (mArgE (mLst [(mC (.int 1)), (mC (.int 32)), (mC .none), (mC (.int 3))]))]))), (mArgE (mTup [(mC (.int 0)), (mC (.int 5))]))]))) (mLst [(mC (.str "bad thing")), (mC (.str "slits"))]))))
noncomputable def r_law_28 : MS := sSeq p_law_28 sNext
noncomputable def p_law_27 : MS := (sIf (mCmp neD (mTold [10] tagOf (mCall fe_is_barker (mSeq [(mArgE (mCall fe__law_pick (mSeq [(mArgV 10), (mArgE (mLst [(mTup []), (mTup [(mC (.int 0))]), (mLst [(mC (.int 1))]), (mC .none), (mTup [(mC (.int 2))]), (mTup [(mC (.bool true))]), (mOp2 mulD (mTup [(mC (.int 1))]) (mC (.int 21)))]))])))]))) (mLst [(mC (.str "bad thing")), (mC (.str "signs"))])) (sSeq (sRet (mC (.bool false))) sNext) sNext)
noncomputable def r_law_27 : MS := sSeq p_law_27 r_law_28
noncomputable def p_law_26 : MS := (sIf (mCmp neD (mTold [12, 15, 17] tagOf (mCall fe_seen (mSeq [(mArgV 15), (mArgV 17), (mArgE (mCut (mPeek 12) (mPart (mC (.int 1))) (mC none)))]))) (mLst [(mC (.str "bad thing")), (mC (.str "lamps"))])) (sSeq (sRet (mC (.bool false))) sNext) sNext)
noncomputable def r_law_26 : MS := sSeq p_law_26 r_law_27
noncomputable def p_law_25 : MS := (sIf (mCmp neD (mTold [10] tagOf (mCall fe_squares (mSeq [(mArgE (mCall fe__law_pick (mSeq [(mArgV 10), (mArgE (mLst [(mC (.int 1)), (mC (.int 9)), (mC (.int 33)), (mC (.int 2)), (mC .none), (mC (.bool true))]))])))]))) (mLst [(mC (.str "bad thing")), (mC (.str "prime"))])) (sSeq (sRet (mC (.bool false))) sNext) sNext)
noncomputable def r_law_25 : MS := sSeq p_law_25 r_law_26
noncomputable def p_law_24 : MS := (sIf (mNotT (mTru (mCall fe__law_signs (mSeq [(mArgV 10)])))) (sSeq (sRet (mC (.bool false))) sNext) sNext)
noncomputable def r_law_24 : MS := sSeq p_law_24 r_law_25
noncomputable def p_law_23 : MS := (sIf (mCmp neD (mCall fe_lamps_of (mSeq [(mArgE (mC (.int 7))), (mArgE (mTup [(mC (.int 0)), (mC (.int 1)), (mC (.int 3))])), (mArgE (mCall fe_seen (mSeq [(mArgE (mC (.int 7))), (mArgE (mTup [(mC (.int 0)), (mC (.int 1)), (mC (.int 3))])), (mArgV 9)])))])) (mOp1 tupleD c_law_15)) (sSeq (sRet (mC (.bool false))) sNext) sNext)
noncomputable def r_law_23 : MS := sSeq p_law_23 r_law_24
noncomputable def p_law_22 : MS := (sE (mOp1 tupleD c_law_14) (sSet 9))
noncomputable def r_law_22 : MS := sSeq p_law_22 r_law_23
noncomputable def p_law_21 : MS := (sIf (mOrT (mAndT (mNotT (mTru (mPeek 7))) (mCmp neD (mPeek 8) (mLst [(mC (.str "refused")), (mC (.str "even"))]))) (mAndT (mTru (mPeek 7)) (mCmp neD (mPeek 8) (mOp1 tupleD c_law_13)))) (sSeq (sRet (mC (.bool false))) sNext) sNext)
noncomputable def r_law_21 : MS := sSeq p_law_21 r_law_22
noncomputable def p_law_20 : MS := (sE (mTold [14, 15, 17] tagOf (mCall fe_lamps_of (mSeq [(mArgV 15), (mArgV 17), (mArgV 14)]))) (sSet 8))
noncomputable def r_law_20 : MS := sSeq p_law_20 r_law_21
noncomputable def p_law_19 : MS := (sE (mAndV (mBl (mCmp eqD (mOp1 lenDictD c_law_12) (mC (.int 1)))) (mBl (mCmp neD (mBox 1 0 (mOp2 ixD (mPeek 1) (mC (.int 0)))) (mBox 1 1 (mOp2 ixD (mPeek 1) (mC (.int 1))))))) (sSet 7))
noncomputable def r_law_19 : MS := sSeq p_law_19 r_law_20
noncomputable def p_law_18 : MS := (sIf (mNotT (mTru (mCall fe__law_same (mSeq [(mArgE (mCall fe_seen (mSeq [(mArgV 15), (mArgV 17), (mArgV 12)]))), (mArgV 14)])))) (sSeq (sRet (mC (.bool false))) sNext) sNext)
noncomputable def r_law_18 : MS := sSeq p_law_18 r_law_19
noncomputable def p_law_17 : MS := (sE (mOp1 tupleD c_law_11) (sSet 14))
noncomputable def r_law_17 : MS := sSeq p_law_17 r_law_18
noncomputable def p_law_16 : MS := (sE (mOp1 tupleD c_law_9) (sSet 12))
noncomputable def r_law_16 : MS := sSeq p_law_16 r_law_17
noncomputable def p_law_15 : MS := (sIf (mOrT (mNotT (mTru (mCall fe__law_same (mSeq [(mArgE (mCall fe_squares (mSeq [(mArgV 5)]))), (mArgV 6)])))) (mAndT (mCmp eqD (mOp2 modD (mPeek 5) (mC (.int 4))) (mC (.int 3))) (mAndT (mCmp gtD (mPeek 5) (mC (.int 3))) (mCmp isNotD (mCall fe_is_even (mSeq [(mArgV 5), (mArgV 6)])) (mC (.bool true)))))) (sSeq (sRet (mC (.bool false))) sNext) sNext)
noncomputable def r_law_15 : MS := sSeq p_law_15 r_law_16
noncomputable def p_law_14 : MS := (sE (mOp1 tupleD (mFz (mOp1N sortDictN c_law_8))) (sSet 6))
noncomputable def r_law_14 : MS := sSeq p_law_14 r_law_15
noncomputable def p_law_13 : MS := (sE (mCall fe__law_pick (mSeq [(mArgV 10), (mArgE (mLst [(mC (.int 3)), (mC (.int 5)), (mC (.int 7)), (mC (.int 11)), (mC (.int 13)), (mC (.int 17)), (mC (.int 19)), (mC (.int 23)), (mC (.int 29)), (mC (.int 31))]))])) (sSet 5))
noncomputable def r_law_13 : MS := sSeq p_law_13 r_law_14
noncomputable def p_law_12 : MS := (sIf (mOrT (mCmp neD (mCall fe_even_sets (mSeq [(mArgE (mC (.int 7))), (mArgE (mC (.int 3)))])) (mLst [(mTup [(mC (.int 0)), (mC (.int 1)), (mC (.int 3))]), (mTup [(mC (.int 0)), (mC (.int 1)), (mC (.int 5))]), (mTup [(mC (.int 0)), (mC (.int 2)), (mC (.int 3))]), (mTup [(mC (.int 0)), (mC (.int 2)), (mC (.int 6))]), (mTup [(mC (.int 0)), (mC (.int 4)), (mC (.int 5))]), (mTup [(mC (.int 0)), (mC (.int 4)), (mC (.int 6))])])) (mCmp eqD (mOp1 lenD (mCall fe_even_sets (mSeq [(mArgE (mC (.int 13))), (mArgE (mC (.int 4)))]))) (mC (.int 0)))) (sSeq (sRet (mC (.bool false))) sNext) sNext)
noncomputable def r_law_12 : MS := sSeq p_law_12 r_law_13
noncomputable def p_law_11 : MS := (sIf (mCmp ltD (mPeek 13) (mPeek 16)) (sSeq (sE c_law_7 (sSetV 4)) (sSeq (sIf (mNotT (mTru (mCall fe__law_same (mSeq [(mArgE (mCall fe_even_sets (mSeq [(mArgV 16), (mArgV 13)]))), (mArgE (mOp1 sortedD (mPeek 4)))])))) (sSeq (sRet (mC (.bool false))) sNext) sNext) sNext)) (sSeq (sIf (mCmp neD (mTold [13, 16] tagOf (mCall fe_even_sets (mSeq [(mArgV 16), (mArgV 13)]))) (mLst [(mC (.str "bad thing")), (mC (.str "many"))])) (sSeq (sRet (mC (.bool false))) sNext) sNext) sNext))
noncomputable def r_law_11 : MS := sSeq p_law_11 r_law_12
noncomputable def p_law_10 : MS := (sE (mTup [(mOp2 addD (mC (.int 3)) (mCall fe__law_draw (mSeq [(mArgV 10), (mArgE (mC (.int 7)))]))), (mOp2 addD (mC (.int 1)) (mCall fe__law_draw (mSeq [(mArgV 10), (mArgE (mC (.int 4)))])))]) (sStore (stTup 2 (stCons (stName 16) (stCons (stName 13) stNil)))))
noncomputable def r_law_10 : MS := sSeq p_law_10 r_law_11
noncomputable def p_law_9 : MS := (sIf (mOrT (mNotT (mTru (mCall fe__law_same (mSeq [(mArgE (mTold [11, 15, 17] tagOf (mCall fe_spread (mSeq [(mArgV 15), (mArgV 17), (mArgV 11)])))), (mArgV 3)])))) (mCmp neD (mCall fe_is_even (mSeq [(mArgV 15), (mArgE (mCall fe_others (mSeq [(mArgV 15), (mArgV 17)])))])) (mCall fe_is_even (mSeq [(mArgV 15), (mArgV 17)])))) (sSeq (sRet (mC (.bool false))) sNext) sNext)
noncomputable def r_law_9 : MS := sSeq p_law_9 r_law_10
noncomputable def p_law_8 : MS := (sE (mIf (mTru (mPeek 2)) (mOp1 tupleD (mOp1 sortedD c_law_5)) (mLst [(mC (.str "refused")), (mC (.str "by"))])) (sSet 3))
noncomputable def r_law_8 : MS := sSeq p_law_8 r_law_9
noncomputable def p_law_7 : MS := (sE (mBl (mCmp eqD (mCall fe__law_common (mSeq [(mArgE (mOp2 modD (mPeek 11) (mPeek 15))), (mArgV 15)])) (mC (.int 1)))) (sSet 2))
noncomputable def r_law_7 : MS := sSeq p_law_7 r_law_8
noncomputable def p_law_6 : MS := (sIf (mOrT (mNotT (mTru (mCall fe__law_same (mSeq [(mArgE (mCall fe_moved (mSeq [(mArgV 15), (mArgV 17), (mArgV 11)]))), (mArgE (mOp1 tupleD (mOp1 sortedD c_law_4)))])))) (mCmp neD (mCall fe_differences (mSeq [(mArgV 15), (mArgE (mCall fe_moved (mSeq [(mArgV 15), (mArgV 17), (mArgV 11)])))])) (mPeek 1))) (sSeq (sRet (mC (.bool false))) sNext) sNext)
noncomputable def r_law_6 : MS := sSeq p_law_6 r_law_7
noncomputable def p_law_5 : MS := (sE (mOp2 subD (mCall fe__law_draw (mSeq [(mArgV 10), (mArgE (mC (.int 30)))])) (mC (.int 10))) (sSet 11))
noncomputable def r_law_5 : MS := sSeq p_law_5 r_law_6
noncomputable def p_law_4 : MS := (sIf (mOrT (mCmp neD (mCall fe_is_even (mSeq [(mArgV 15), (mArgV 17)])) (mBl (mCmp eqD (mOp1 lenDictD c_law_2) (mC (.int 1))))) (mNotT (mTru (mCall fe__law_same (mSeq [(mArgE (mCall fe_others (mSeq [(mArgV 15), (mArgV 17)]))), (mArgE (mOp1 tupleD c_law_3))]))))) (sSeq (sRet (mC (.bool false))) sNext) sNext)
noncomputable def r_law_4 : MS := sSeq p_law_4 r_law_5
noncomputable def p_law_3 : MS := (sIf (mOrT (mNotT (mTru (mCall fe__law_same (mSeq [(mArgE (mCall fe_differences (mSeq [(mArgV 15), (mArgV 17)]))), (mArgV 1)])))) (mCmp neD (mOp1 sumD (mPeek 1)) (mOp2 mulD (mOp1 lenD (mPeek 17)) (mOp1 lenD (mPeek 17))))) (sSeq (sRet (mC (.bool false))) sNext) sNext)
noncomputable def r_law_3 : MS := sSeq p_law_3 r_law_4
noncomputable def p_law_2 : MS := (sE (mCall fe__law_differences (mSeq [(mArgV 15), (mArgV 17)])) (sSet 1))
noncomputable def r_law_2 : MS := sSeq p_law_2 r_law_3
noncomputable def p_law_1 : MS := (sE (mOp1 tupleD c_law_1) (sSet 17))
noncomputable def r_law_1 : MS := sSeq p_law_1 r_law_2
noncomputable def p_law_0 : MS := (sE (mOpN (binN .Add) (mC (.int 2)) (mCall fe__law_draw (mSeq [(mArgV 10), (mArgE (mC (.int 12)))]))) (sSetV 15))
noncomputable def r_law_0 : MS := sSeq p_law_0 r_law_1
noncomputable def m_law : MS := r_law_0
noncomputable def l_law : List (Str × FnE) := l__law_signs
def k_law : Nat := 11
noncomputable abbrev ct_law : Ct := mkCt N_law (defScope (stm 43)) l_law xs k_law true [("_law_told", tagOf)]
theorem t_law : sAll (cS 60 ct_law) ((defBody (stm 43)).drop 1) = m_law := by kernel_rfl
theorem s_law : FnScope N_law ["script"] (defScope (stm 43)) := ⟨rfl, rfl, rfl, by decide +kernel, rfl, by decide +kernel, by decide +kernel⟩
variable {w : World} {K : PySem.W.Frag} {mg : Str → Option Value} {base : Heap} {g : Gx}
abbrev tsOf (c P c0 P0 : Addr) : List (Str × Addr × Addr) := [("law", c, P), ("_law_signs", c0, P0)]
theorem allF {c P c0 P0 gf : Addr} {cl : Nat → Option (Addr × Str)} {sp : List HSp} (hx : AllX PySem.Challenge.rw_panehouse_k11_slits_and_lamps.prog w K mg base (gxOf (tsOf c P c0 P0) cl) xs) (hb : ∀ x, x ∈ blts → mg x = none) (kin : K.In base) (gl : base.Ns mainGlobals mg) (tab : ∀ p ∈ csOf (tsOf c P c0 P0), LamX.TabB base mg p.1 p.2) (A : Apart (tsOf c P c0 P0)) (T : ToldK K mg "_law_told" sp gf) (ex : ExTold K tagOf cl sp) (d_is_integer : DefK K "is_integer" (stm 6)) (d_common : DefK K "common" (stm 7)) (d_reduced : DefK K "reduced" (stm 8)) (d_plus : DefK K "plus" (stm 9)) (d_over : DefK K "over" (stm 10)) (d_total : DefK K "total" (stm 11)) (d_check_set : DefK K "check_set" (stm 13)) (d_differences : DefK K "differences" (stm 14)) (d_is_even : DefK K "is_even" (stm 15)) (d_even_sets : DefK K "even_sets" (stm 16)) (d_squares : DefK K "squares" (stm 17)) (d_moved : DefK K "moved" (stm 18)) (d_spread : DefK K "spread" (stm 19)) (d_others : DefK K "others" (stm 20)) (d_check_lamps : DefK K "check_lamps" (stm 22)) (d_seen : DefK K "seen" (stm 21)) (d_lamps_of : DefK K "lamps_of" (stm 23)) (d_check_signs : DefK K "check_signs" (stm 24)) (d_agree : DefK K "agree" (stm 25)) (d_round_agree : DefK K "round_agree" (stm 26)) (d_is_barker : DefK K "is_barker" (stm 27)) (d_barkers : DefK K "barkers" (stm 28)) (d_mates : DefK K "mates" (stm 29)) (d_doubled : DefK K "doubled" (stm 30)) (d__law_digits : DefK K "_law_digits" (stm 32)) (d__law_draw : DefK K "_law_draw" (stm 33)) (d__law_pick : DefK K "_law_pick" (stm 34)) (d__law_same : DefK K "_law_same" (stm 35)) (d__law_subsets : DefK K "_law_subsets" (stm 37)) (d__law_common : DefK K "_law_common" (stm 38)) (d__law_rows : DefK K "_law_rows" (stm 39)) (d__law_differences : DefK K "_law_differences" (stm 40)) (d__law_agree : DefK K "_law_agree" (stm 41)) (d__law_signs : DefC K "_law_signs" (stm 42) c0) : AllF PySem.Challenge.rw_panehouse_k11_slits_and_lamps.prog w K mg base (gxOf (tsOf c P c0 P0) cl) l_law := by
  have h0 : AllF PySem.Challenge.rw_panehouse_k11_slits_and_lamps.prog w K mg base (gxOf (tsOf c P c0 P0) cl) l0 := AllF.nil
  have h1 : AllF PySem.Challenge.rw_panehouse_k11_slits_and_lamps.prog w K mg base (gxOf (tsOf c P c0 P0) cl) l_is_integer := AllF.step h0 hx hb kin gl d_is_integer s_is_integer (fun _ _ _ _ _ _ us hl => match us, hl with | [_], _ => rfl) t_is_integer
  have h2 : AllF PySem.Challenge.rw_panehouse_k11_slits_and_lamps.prog w K mg base (gxOf (tsOf c P c0 P0) cl) l_common := AllF.step h1 hx hb kin gl d_common s_common (fun _ _ _ _ _ _ us hl => match us, hl with | [_, _], _ => rfl) t_common
  have h3 : AllF PySem.Challenge.rw_panehouse_k11_slits_and_lamps.prog w K mg base (gxOf (tsOf c P c0 P0) cl) l_reduced := AllF.step h2 hx hb kin gl d_reduced s_reduced (fun _ _ _ _ _ _ us hl => match us, hl with | [_, _], _ => rfl) t_reduced
  have h4 : AllF PySem.Challenge.rw_panehouse_k11_slits_and_lamps.prog w K mg base (gxOf (tsOf c P c0 P0) cl) l_plus := AllF.step h3 hx hb kin gl d_plus s_plus (fun _ _ _ _ _ _ us hl => match us, hl with | [_, _], _ => rfl) t_plus
  have h5 : AllF PySem.Challenge.rw_panehouse_k11_slits_and_lamps.prog w K mg base (gxOf (tsOf c P c0 P0) cl) l_over := AllF.step h4 hx hb kin gl d_over s_over (fun _ _ _ _ _ _ us hl => match us, hl with | [_, _], _ => rfl) t_over
  have h6 : AllF PySem.Challenge.rw_panehouse_k11_slits_and_lamps.prog w K mg base (gxOf (tsOf c P c0 P0) cl) l_total := AllF.step h5 hx hb kin gl d_total s_total (fun _ _ _ _ _ _ us hl => match us, hl with | [_], _ => rfl) t_total
  have h7 : AllF PySem.Challenge.rw_panehouse_k11_slits_and_lamps.prog w K mg base (gxOf (tsOf c P c0 P0) cl) l_check_set := AllF.step h6 hx hb kin gl d_check_set s_check_set (fun _ _ _ _ _ _ us hl => match us, hl with | [_, _], _ => rfl) t_check_set
  have h8 : AllF PySem.Challenge.rw_panehouse_k11_slits_and_lamps.prog w K mg base (gxOf (tsOf c P c0 P0) cl) l_differences := AllF.step h7 hx hb kin gl d_differences s_differences (fun _ _ _ _ _ _ us hl => match us, hl with | [_, _], _ => rfl) t_differences
  have h9 : AllF PySem.Challenge.rw_panehouse_k11_slits_and_lamps.prog w K mg base (gxOf (tsOf c P c0 P0) cl) l_is_even := AllF.step h8 hx hb kin gl d_is_even s_is_even (fun _ _ _ _ _ _ us hl => match us, hl with | [_, _], _ => rfl) t_is_even
  have h10 : AllF PySem.Challenge.rw_panehouse_k11_slits_and_lamps.prog w K mg base (gxOf (tsOf c P c0 P0) cl) l_even_sets := AllF.step h9 hx hb kin gl d_even_sets s_even_sets (fun _ _ _ _ _ _ us hl => match us, hl with | [_, _], _ => rfl) t_even_sets
  have h11 : AllF PySem.Challenge.rw_panehouse_k11_slits_and_lamps.prog w K mg base (gxOf (tsOf c P c0 P0) cl) l_squares := AllF.step h10 hx hb kin gl d_squares s_squares (fun _ _ _ _ _ _ us hl => match us, hl with | [_], _ => rfl) t_squares
  have h12 : AllF PySem.Challenge.rw_panehouse_k11_slits_and_lamps.prog w K mg base (gxOf (tsOf c P c0 P0) cl) l_moved := AllF.step h11 hx hb kin gl d_moved s_moved (fun _ _ _ _ _ _ us hl => match us, hl with | [_, _, _], _ => rfl) t_moved
  have h13 : AllF PySem.Challenge.rw_panehouse_k11_slits_and_lamps.prog w K mg base (gxOf (tsOf c P c0 P0) cl) l_spread := AllF.step h12 hx hb kin gl d_spread s_spread (fun _ _ _ _ _ _ us hl => match us, hl with | [_, _, _], _ => rfl) t_spread
  have h14 : AllF PySem.Challenge.rw_panehouse_k11_slits_and_lamps.prog w K mg base (gxOf (tsOf c P c0 P0) cl) l_others := AllF.step h13 hx hb kin gl d_others s_others (fun _ _ _ _ _ _ us hl => match us, hl with | [_, _], _ => rfl) t_others
  have h15 : AllF PySem.Challenge.rw_panehouse_k11_slits_and_lamps.prog w K mg base (gxOf (tsOf c P c0 P0) cl) l_check_lamps := AllF.step h14 hx hb kin gl d_check_lamps s_check_lamps (fun _ _ _ _ _ _ us hl => match us, hl with | [_, _], _ => rfl) t_check_lamps
  have h16 : AllF PySem.Challenge.rw_panehouse_k11_slits_and_lamps.prog w K mg base (gxOf (tsOf c P c0 P0) cl) l_seen := AllF.step h15 hx hb kin gl d_seen s_seen (fun _ _ _ _ _ _ us hl => match us, hl with | [_, _, _], _ => rfl) t_seen
  have h17 : AllF PySem.Challenge.rw_panehouse_k11_slits_and_lamps.prog w K mg base (gxOf (tsOf c P c0 P0) cl) l_lamps_of := AllF.step h16 hx hb kin gl d_lamps_of s_lamps_of (fun _ _ _ _ _ _ us hl => match us, hl with | [_, _, _], _ => rfl) t_lamps_of
  have h18 : AllF PySem.Challenge.rw_panehouse_k11_slits_and_lamps.prog w K mg base (gxOf (tsOf c P c0 P0) cl) l_check_signs := AllF.step h17 hx hb kin gl d_check_signs s_check_signs (fun _ _ _ _ _ _ us hl => match us, hl with | [_], _ => rfl) t_check_signs
  have h19 : AllF PySem.Challenge.rw_panehouse_k11_slits_and_lamps.prog w K mg base (gxOf (tsOf c P c0 P0) cl) l_agree := AllF.step h18 hx hb kin gl d_agree s_agree (fun _ _ _ _ _ _ us hl => match us, hl with | [_, _], _ => rfl) t_agree
  have h20 : AllF PySem.Challenge.rw_panehouse_k11_slits_and_lamps.prog w K mg base (gxOf (tsOf c P c0 P0) cl) l_round_agree := AllF.step h19 hx hb kin gl d_round_agree s_round_agree (fun _ _ _ _ _ _ us hl => match us, hl with | [_, _], _ => rfl) t_round_agree
  have h21 : AllF PySem.Challenge.rw_panehouse_k11_slits_and_lamps.prog w K mg base (gxOf (tsOf c P c0 P0) cl) l_is_barker := AllF.step h20 hx hb kin gl d_is_barker s_is_barker (fun _ _ _ _ _ _ us hl => match us, hl with | [_], _ => rfl) t_is_barker
  have h22 : AllF PySem.Challenge.rw_panehouse_k11_slits_and_lamps.prog w K mg base (gxOf (tsOf c P c0 P0) cl) l_barkers := AllF.step h21 hx hb kin gl d_barkers s_barkers (fun _ _ _ _ _ _ us hl => match us, hl with | [_], _ => rfl) t_barkers
  have h23 : AllF PySem.Challenge.rw_panehouse_k11_slits_and_lamps.prog w K mg base (gxOf (tsOf c P c0 P0) cl) l_mates := AllF.step h22 hx hb kin gl d_mates s_mates (fun _ _ _ _ _ _ us hl => match us, hl with | [_, _], _ => rfl) t_mates
  have h24 : AllF PySem.Challenge.rw_panehouse_k11_slits_and_lamps.prog w K mg base (gxOf (tsOf c P c0 P0) cl) l_doubled := AllF.step h23 hx hb kin gl d_doubled s_doubled (fun _ _ _ _ _ _ us hl => match us, hl with | [_, _], _ => rfl) t_doubled
  have h25 : AllF PySem.Challenge.rw_panehouse_k11_slits_and_lamps.prog w K mg base (gxOf (tsOf c P c0 P0) cl) l__law_digits := AllF.step h24 hx hb kin gl d__law_digits s__law_digits (fun _ _ _ _ _ _ us hl => match us, hl with | [_, _, _], _ => rfl) t__law_digits
  have h26 : AllF PySem.Challenge.rw_panehouse_k11_slits_and_lamps.prog w K mg base (gxOf (tsOf c P c0 P0) cl) l__law_draw := AllF.step h25 hx hb kin gl d__law_draw s__law_draw (fun _ _ _ _ _ _ us hl => match us, hl with | [_, _], _ => rfl) t__law_draw
  have h27 : AllF PySem.Challenge.rw_panehouse_k11_slits_and_lamps.prog w K mg base (gxOf (tsOf c P c0 P0) cl) l__law_pick := AllF.step h26 hx hb kin gl d__law_pick s__law_pick (fun _ _ _ _ _ _ us hl => match us, hl with | [_, _], _ => rfl) t__law_pick
  have h28 : AllF PySem.Challenge.rw_panehouse_k11_slits_and_lamps.prog w K mg base (gxOf (tsOf c P c0 P0) cl) l__law_same := AllF.step h27 hx hb kin gl d__law_same s__law_same (fun _ _ _ _ _ _ us hl => match us, hl with | [_, _], _ => rfl) t__law_same
  have h29 : AllF PySem.Challenge.rw_panehouse_k11_slits_and_lamps.prog w K mg base (gxOf (tsOf c P c0 P0) cl) l__law_subsets := AllF.step h28 hx hb kin gl d__law_subsets s__law_subsets (fun _ _ _ _ _ _ us hl => match us, hl with | [_], _ => rfl) t__law_subsets
  have h30 : AllF PySem.Challenge.rw_panehouse_k11_slits_and_lamps.prog w K mg base (gxOf (tsOf c P c0 P0) cl) l__law_common := AllF.step h29 hx hb kin gl d__law_common s__law_common (fun _ _ _ _ _ _ us hl => match us, hl with | [_, _], _ => rfl) t__law_common
  have h31 : AllF PySem.Challenge.rw_panehouse_k11_slits_and_lamps.prog w K mg base (gxOf (tsOf c P c0 P0) cl) l__law_rows := AllF.step h30 hx hb kin gl d__law_rows s__law_rows (fun _ _ _ _ _ _ us hl => match us, hl with | [_, _], _ => rfl) t__law_rows
  have h32 : AllF PySem.Challenge.rw_panehouse_k11_slits_and_lamps.prog w K mg base (gxOf (tsOf c P c0 P0) cl) l__law_differences := AllF.step h31 hx hb kin gl d__law_differences s__law_differences (fun _ _ _ _ _ _ us hl => match us, hl with | [_, _], _ => rfl) t__law_differences
  have h33 : AllF PySem.Challenge.rw_panehouse_k11_slits_and_lamps.prog w K mg base (gxOf (tsOf c P c0 P0) cl) l__law_agree := AllF.step h32 hx hb kin gl d__law_agree s__law_agree (fun _ _ _ _ _ _ us hl => match us, hl with | [_, _], _ => rfl) t__law_agree
  have h34 : AllF PySem.Challenge.rw_panehouse_k11_slits_and_lamps.prog w K mg base (gxOf (tsOf c P c0 P0) cl) l__law_signs := AllF.stepT (P' := P0) h33 hx hb kin gl tab A T ex (by decide) d__law_signs (.tail _ (.head _)) s__law_signs (fun _ _ _ _ _ _ us hl => match us, hl with | [_], _ => rfl) t__law_signs
  exact h34
def clOf (C0 C1 C2 : Addr) : Nat → Option (Addr × Str)
  | 0 => some (C0, "reason")
  | 1 => some (C1, "what")
  | 2 => some (C2, "reason")
  | _ => none
theorem lawG {h : Heap} {fa gf c P : Addr} {C0 I0 C1 I1 C2 I2 c0 P0 : Addr} (kin : K.In h) (gl : h.Ns mainGlobals mg) (hmg : mg "law" = some (.ref fa)) (own : ∀ x ∈ (tsOf c P c0 P0).map (·.1), ∀ f, mg x = some (.ref f) → LamX.OwnTab K f h) (A : Apart (tsOf c P c0 P0)) (tk0 : TabK K ("_law_signs", c0, P0)) (bl : ∀ x, x ∈ blts → PySem.W.nsIn K mainGlobals x = some none)
    (X0 : XTxt PySem.Challenge.rw_panehouse_k11_slits_and_lamps.prog K mg "BadThing" "reason" C0 I0)
    (X1 : XTxt PySem.Challenge.rw_panehouse_k11_slits_and_lamps.prog K mg "TooMany" "what" C1 I1)
    (X2 : XTxt PySem.Challenge.rw_panehouse_k11_slits_and_lamps.prog K mg "Refused" "reason" C2 I2)
    (d_is_integer : DefK K "is_integer" (stm 6)) (d_common : DefK K "common" (stm 7)) (d_reduced : DefK K "reduced" (stm 8)) (d_plus : DefK K "plus" (stm 9)) (d_over : DefK K "over" (stm 10)) (d_total : DefK K "total" (stm 11)) (d_check_set : DefK K "check_set" (stm 13)) (d_differences : DefK K "differences" (stm 14)) (d_is_even : DefK K "is_even" (stm 15)) (d_even_sets : DefK K "even_sets" (stm 16)) (d_squares : DefK K "squares" (stm 17)) (d_moved : DefK K "moved" (stm 18)) (d_spread : DefK K "spread" (stm 19)) (d_others : DefK K "others" (stm 20)) (d_check_lamps : DefK K "check_lamps" (stm 22)) (d_seen : DefK K "seen" (stm 21)) (d_lamps_of : DefK K "lamps_of" (stm 23)) (d_check_signs : DefK K "check_signs" (stm 24)) (d_agree : DefK K "agree" (stm 25)) (d_round_agree : DefK K "round_agree" (stm 26)) (d_is_barker : DefK K "is_barker" (stm 27)) (d_barkers : DefK K "barkers" (stm 28)) (d_mates : DefK K "mates" (stm 29)) (d_doubled : DefK K "doubled" (stm 30)) (d__law_digits : DefK K "_law_digits" (stm 32)) (d__law_draw : DefK K "_law_draw" (stm 33)) (d__law_pick : DefK K "_law_pick" (stm 34)) (d__law_same : DefK K "_law_same" (stm 35)) (d__law_subsets : DefK K "_law_subsets" (stm 37)) (d__law_common : DefK K "_law_common" (stm 38)) (d__law_rows : DefK K "_law_rows" (stm 39)) (d__law_differences : DefK K "_law_differences" (stm 40)) (d__law_agree : DefK K "_law_agree" (stm 41)) (d__law_signs : DefC K "_law_signs" (stm 42) c0)
    (T : ToldK K mg "_law_told" [⟨"BadThing", C0, "bad thing", "reason"⟩, ⟨"Refused", C2, "refused", "reason"⟩, ⟨"TooMany", C1, "too many", "what"⟩] gf) (L : LawK K (stm 43) c P)
    (e0_0 : PySem.W.exmOne K (.ref C0) (.ref C0) = some true)
    (e0_2 : PySem.W.exmOne K (.ref C0) (.ref C2) = some false)
    (e0_1 : PySem.W.exmOne K (.ref C0) (.ref C1) = some false)
    (e2_0 : PySem.W.exmOne K (.ref C2) (.ref C0) = some false)
    (e2_2 : PySem.W.exmOne K (.ref C2) (.ref C2) = some true)
    (e2_1 : PySem.W.exmOne K (.ref C2) (.ref C1) = some false)
    (e1_0 : PySem.W.exmOne K (.ref C1) (.ref C0) = some false)
    (e1_2 : PySem.W.exmOne K (.ref C1) (.ref C2) = some false)
    (e1_1 : PySem.W.exmOne K (.ref C1) (.ref C1) = some true)
    (n0_2 : C0 ≠ C2)
    (n0_1 : C0 ≠ C1)
    (n2_0 : C2 ≠ C0)
    (n2_1 : C2 ≠ C1)
    (n1_0 : C1 ≠ C0)
    (n1_2 : C1 ≠ C2)
    (dig : ∀ ns : List Int, ns.length ≤ 63 → ∃ ds : List Int, fe__law_digits.fm [.d (.list (ns.map .int)), .d (.int 0), .d (.int 63)] none = .ret (.list (ds.map .int)) none)
    (law : ∀ ns ds : List Int, ∃ S2, m_law ⟨((.sh (.list (ns.map .int))) :: List.replicate 20 DV.un).set 10 .bx, some (ds, 0)⟩ = .ret (.bool true) S2) :
    LawG PySem.Challenge.rw_panehouse_k11_slits_and_lamps w K 63 mg fa h := by
  have hb : ∀ x, x ∈ blts → mg x = none := fun x hx => PySem.W.mg_none_of kin gl (bl x hx)
  have hX : ∀ base, AllX PySem.Challenge.rw_panehouse_k11_slits_and_lamps.prog w K mg base (gxOf (tsOf c P c0 P0) (clOf C0 C1 C2)) xs := fun base p hp => by
    simp only [xs, List.mem_cons, List.not_mem_nil, or_false] at hp
    rcases hp with rfl | rfl | rfl
    · exact exG_of (k := 1) X0 rfl (by decide +kernel)
    · exact exG_of (k := 1) X1 rfl (by decide +kernel)
    · exact exG_of (k := 1) X2 rfl (by decide +kernel)
  have ex : ExTold K tagOf (clOf C0 C1 C2) [⟨"BadThing", C0, "bad thing", "reason"⟩, ⟨"Refused", C2, "refused", "reason"⟩, ⟨"TooMany", C1, "too many", "what"⟩] := fun m tag C f ht hc => by
    match m, ht, hc with
    | 0, ht, hc =>
      cases ht
      cases hc
      exact ⟨fun h hh => by
        simp only [List.mem_cons, List.not_mem_nil, or_false] at hh
        rcases hh with rfl | rfl | rfl
        · rw [e0_0, decide_eq_true rfl]
        · rw [e0_2, decide_eq_false n2_0]
        · rw [e0_1, decide_eq_false n1_0], fun h hh he => by
        simp only [List.mem_cons, List.not_mem_nil, or_false] at hh
        rcases hh with rfl | rfl | rfl
        · exact ⟨rfl, rfl⟩
        · exact absurd he n2_0
        · exact absurd he n1_0, ⟨_, (by simp : (⟨"BadThing", C0, "bad thing", "reason"⟩ : HSp) ∈ _), rfl⟩⟩
    | 2, ht, hc =>
      cases ht
      cases hc
      exact ⟨fun h hh => by
        simp only [List.mem_cons, List.not_mem_nil, or_false] at hh
        rcases hh with rfl | rfl | rfl
        · rw [e2_0, decide_eq_false n0_2]
        · rw [e2_2, decide_eq_true rfl]
        · rw [e2_1, decide_eq_false n1_2], fun h hh he => by
        simp only [List.mem_cons, List.not_mem_nil, or_false] at hh
        rcases hh with rfl | rfl | rfl
        · exact absurd he n0_2
        · exact ⟨rfl, rfl⟩
        · exact absurd he n1_2, ⟨_, (by simp : (⟨"Refused", C2, "refused", "reason"⟩ : HSp) ∈ _), rfl⟩⟩
    | 1, ht, hc =>
      cases ht
      cases hc
      exact ⟨fun h hh => by
        simp only [List.mem_cons, List.not_mem_nil, or_false] at hh
        rcases hh with rfl | rfl | rfl
        · rw [e1_0, decide_eq_false n0_1]
        · rw [e1_2, decide_eq_false n2_1]
        · rw [e1_1, decide_eq_true rfl], fun h hh he => by
        simp only [List.mem_cons, List.not_mem_nil, or_false] at hh
        rcases hh with rfl | rfl | rfl
        · exact absurd he n0_1
        · exact absurd he n2_1
        · exact ⟨rfl, rfl⟩, ⟨_, (by simp : (⟨"TooMany", C1, "too many", "what"⟩ : HSp) ∈ _), rfl⟩⟩
    | m + 3, ht, hc => cases hc
  refine lawG_of (l := PySem.Challenge.rw_panehouse_k11_slits_and_lamps) (st := stm 43) (c := c) (P := P) (ts := tsOf c P c0 P0) (cl := clOf C0 C1 C2) (N := N_law) (fs := l_law) (xs := xs) (k := k_law) (fuel := 60) (i := 10) (tg := tagOf) (fe := fe__law_digits) (mr := m_law)
    kin gl hmg (fun t ht => own t.1 (List.mem_map.mpr ⟨t, ht, rfl⟩)) L (.head _) (fun t ht => ?_) A T hX (fun base b1 b2 b3 => allF (hX base) hb b1 b2 b3 A T ex d_is_integer d_common d_reduced d_plus d_over d_total d_check_set d_differences d_is_even d_even_sets d_squares d_moved d_spread d_others d_check_lamps d_seen d_lamps_of d_check_signs d_agree d_round_agree d_is_barker d_barkers d_mates d_doubled d__law_digits d__law_draw d__law_pick d__law_same d__law_subsets d__law_common d__law_rows d__law_differences d__law_agree d__law_signs) hb (by decide) ⟨rfl, by decide, by decide⟩ s_law (fun _ _ _ _ _ _ us hl => match us, hl with | [_], _ => rfl) ex rfl (by rfl) (by rfl) rfl t_law dig law
  simp only [tsOf, List.mem_cons, List.not_mem_nil, or_false] at ht
  rcases ht with rfl | rfl
  · exact L.tabK
  · exact tk0
end K11

set_option maxRecDepth 100000
/-! sums over lists, rounds of places (plain) -/
namespace K11
section
variable {α β : Type}
def S (f : α → Int) : List α → Int
  | [] => 0
  | a :: l => f a + S f l
@[simp] theorem S_nil (f : α → Int) : S f [] = 0 := rfl
@[simp] theorem S_cons (f : α → Int) (a : α) (l : List α) : S f (a :: l) = f a + S f l := rfl
theorem sum_S (f : α → Int) : ∀ l : List α, (l.map f).sum = S f l
  | [] => rfl
  | a :: l => by rw [List.map_cons, List.sum_cons, sum_S f l]; rfl
theorem S_map (g : β → α) (f : α → Int) : ∀ l : List β, S f (l.map g) = S (fun x => f (g x)) l
  | [] => rfl
  | a :: l => by rw [List.map_cons, S_cons, S_cons, S_map g f l]
theorem S_congr {f g : α → Int} : ∀ {l : List α}, (∀ x ∈ l, f x = g x) → S f l = S g l
  | [], _ => rfl
  | a :: l, h => by rw [S_cons, S_cons, h a (by simp), S_congr fun x hx => h x (List.mem_cons_of_mem _ hx)]
theorem S_app (f : α → Int) : ∀ l k : List α, S f (l ++ k) = S f l + S f k
  | [], k => by simp
  | a :: l, k => by rw [List.cons_append, S_cons, S_cons, S_app f l k]; omega
theorem S_perm {f : α → Int} {l k : List α} (h : l.Perm k) : S f l = S f k := by
  induction h with
  | nil => rfl
  | cons x _ ih => rw [S_cons, S_cons, ih]
  | swap x y l => simp only [S_cons]; omega
  | trans _ _ a b => exact a.trans b
theorem S_add (f g : α → Int) : ∀ l : List α, S (fun x => f x + g x) l = S f l + S g l
  | [] => rfl
  | a :: l => by simp only [S_cons, S_add f g l]; omega
theorem S_sub (f g : α → Int) : ∀ l : List α, S (fun x => f x - g x) l = S f l - S g l
  | [] => rfl
  | a :: l => by simp only [S_cons, S_sub f g l]; omega
theorem S_mul (c : Int) (f : α → Int) : ∀ l : List α, S (fun x => c * f x) l = c * S f l
  | [] => by simp
  | a :: l => by simp only [S_cons, S_mul c f l, Int.mul_add]
theorem S_mulr (c : Int) (f : α → Int) (l : List α) : S (fun x => f x * c) l = S f l * c := by
  rw [Int.mul_comm, ← S_mul]
  exact S_congr fun x _ => Int.mul_comm _ _
theorem S_const (c : Int) : ∀ l : List α, S (fun _ => c) l = l.length * c
  | [] => by simp
  | a :: l => by rw [S_cons, S_const c l, List.length_cons]; grind
theorem S_swap (f : α → β → Int) (k : List β) : ∀ l : List α, S (fun a => S (fun b => f a b) k) l = S (fun b => S (fun a => f a b) l) k
  | [] => by
    rw [S_nil]
    have : S (fun b => S (fun a => f a b) []) k = S (fun _ => 0) k := S_congr fun _ _ => rfl
    rw [this, S_const]
    simp
  | a :: l => by
    rw [S_cons, S_swap f k l, ← S_add]
    rfl
theorem S_one [DecidableEq α] {c : α} {v : Int} : ∀ {l : List α}, l.Nodup → S (fun x => if c = x then v else 0) l = if c ∈ l then v else 0
  | [], _ => rfl
  | a :: l, h => by
    rw [List.nodup_cons] at h
    rw [S_cons, S_one h.2]
    by_cases e : c = a
    · subst e
      rw [if_pos rfl, if_neg h.1, if_pos (by simp)]
      omega
    · rw [if_neg e]
      by_cases m : c ∈ l
      · rw [if_pos m, if_pos (by simp [m])]; omega
      · rw [if_neg m, if_neg (by simp [m, e])]; omega
theorem S_pick [DecidableEq α] {c : α} (g : α → Int) : ∀ {l : List α}, l.Nodup → c ∈ l → S (fun x => if c = x then g x else 0) l = g c := fun {l} h m => by
  have : S (fun x => if c = x then g x else 0) l = S (fun x => if c = x then g c else 0) l := S_congr fun x _ => by
    split
    · rename_i e; rw [e]
    · rfl
  rw [this, S_one h, if_pos m]
theorem S_filter (p : α → Bool) (f : α → Int) : ∀ l : List α, S f (l.filter p) = S (fun x => if p x = true then f x else 0) l
  | [] => rfl
  | a :: l => by
    rw [S_cons, ← S_filter p f l]
    by_cases h : p a = true
    · rw [List.filter_cons_of_pos h, if_pos h, S_cons]
    · rw [List.filter_cons_of_neg h, if_neg h]; omega
theorem len_filter (p : α → Bool) (l : List α) : ((l.filter p).length : Int) = S (fun x => if p x = true then 1 else 0) l := by
  rw [← S_filter p (fun _ => 1), S_const]
  omega
end
/-! ### the places below n -/
def R (n : Nat) : List Int := (List.range n).map fun (i : Nat) => (i : Int)
theorem mem_R {n : Nat} {x : Int} : x ∈ R n ↔ 0 ≤ x ∧ x < n := by
  unfold R
  rw [List.mem_map]
  constructor
  · rintro ⟨i, hi, rfl⟩
    rw [List.mem_range] at hi
    omega
  · rintro ⟨h1, h2⟩
    exact ⟨x.toNat, by rw [List.mem_range]; omega, by omega⟩
theorem nd_R (n : Nat) : (R n).Nodup := by
  unfold R
  rw [List.nodup_iff_pairwise_ne, List.pairwise_map]
  exact List.nodup_range.imp fun h e => h (by exact_mod_cast e)
@[simp] theorem len_R (n : Nat) : (R n).length = n := by simp [R]
theorem R_perm {n : Nat} {l : List Int} (h1 : l.Nodup) (h2 : ∀ x, x ∈ l ↔ 0 ≤ x ∧ x < n) : l.Perm (R n) := (List.perm_ext_iff_of_nodup h1 (nd_R n)).mpr fun x => by rw [h2, mem_R]
theorem nd_map {α β : Type} {f : α → β} {l : List α} (h : l.Nodup) (inj : ∀ x ∈ l, ∀ y ∈ l, f x = f y → x = y) : (l.map f).Nodup := by
  induction l with
  | nil => exact List.nodup_nil
  | cons a l ih =>
    rw [List.nodup_cons] at h
    rw [List.map_cons, List.nodup_cons]
    refine ⟨fun m => ?_, ih h.2 fun x hx y hy => inj x (List.mem_cons_of_mem _ hx) y (List.mem_cons_of_mem _ hy)⟩
    obtain ⟨y, hy, e⟩ := List.mem_map.mp m
    have := inj y (List.mem_cons_of_mem _ hy) a (by simp) e
    exact h.1 (this ▸ hy)
theorem md (n : Nat) (h : 0 < n) (x : Int) : 0 ≤ x % n ∧ x % n < n := ⟨Int.emod_nonneg _ (by omega), Int.emod_lt_of_pos _ (by omega)⟩
theorem emod_id {n : Nat} {x : Int} (h0 : 0 ≤ x) (h1 : x < n) : x % n = x := Int.emod_eq_of_lt h0 h1
theorem md_sub (n : Nat) (x y : Int) : (x % n - y) % n = (x - y) % n := Int.emod_sub_emod ..
theorem md_subr (n : Nat) (x y : Int) : (x - y % n) % n = (x - y) % n := Int.sub_emod_emod ..
theorem md_add (n : Nat) (x y : Int) : (x % n + y) % n = (x + y) % n := Int.emod_add_emod ..
theorem md_addr (n : Nat) (x y : Int) : (x + y % n) % n = (x + y) % n := Int.add_emod_emod ..
theorem rot {n : Nat} (hn : 0 < n) (k : Int) (f : Int → Int) : S (fun x => f ((x - k) % n)) (R n) = S f (R n) := by
  rw [← S_map (fun x => (x - k) % n) f]
  refine S_perm (R_perm (nd_map (nd_R n) fun x hx y hy e => ?_) fun y => ?_)
  · rw [mem_R] at hx hy
    have := congrArg (fun z => (z + k) % (n : Int)) e
    simp only [md_add] at this
    rwa [Int.sub_add_cancel, Int.sub_add_cancel, emod_id hx.1 hx.2, emod_id hy.1 hy.2] at this
  · rw [List.mem_map]
    constructor
    · rintro ⟨x, _, rfl⟩
      exact md n hn _
    · rintro ⟨h1, h2⟩
      exact ⟨(y + k) % n, mem_R.mpr (md n hn _), by rw [md_sub, Int.add_sub_cancel, emod_id h1 h2]⟩
theorem flp {n : Nat} (hn : 0 < n) (k : Int) (f : Int → Int) : S (fun x => f ((k - x) % n)) (R n) = S f (R n) := by
  rw [← S_map (fun x => (k - x) % n) f]
  refine S_perm (R_perm (nd_map (nd_R n) fun x hx y hy e => ?_) fun y => ?_)
  · rw [mem_R] at hx hy
    have := congrArg (fun z => (k - z) % (n : Int)) e
    simp only [md_subr] at this
    rwa [show k - (k - x) = x by omega, show k - (k - y) = y by omega, emod_id hx.1 hx.2, emod_id hy.1 hy.2] at this
  · rw [List.mem_map]
    constructor
    · rintro ⟨x, _, rfl⟩
      exact md n hn _
    · rintro ⟨h1, h2⟩
      exact ⟨(k - y) % n, mem_R.mpr (md n hn _), by rw [md_subr, show k - (k - y) = y by omega, emod_id h1 h2]⟩
theorem nd_filter {α : Type} {p : α → Bool} {l : List α} (h : l.Nodup) : (l.filter p).Nodup := by
  rw [List.nodup_iff_pairwise_ne] at *
  exact h.filter _
/-! ### sets of places and their differences -/
structure SetOK (n : Nat) (s : List Int) : Prop where
  asc : s.Pairwise (· < ·)
  rng : ∀ a ∈ s, 0 ≤ a ∧ a < n
theorem SetOK.nd {n : Nat} {s : List Int} (h : SetOK n s) : s.Nodup := List.nodup_iff_pairwise_ne.mpr (h.asc.imp fun h => by omega)
def cnt (n : Nat) (s : List Int) (k : Int) : Int := S (fun a => S (fun b => if (a - b) % n = k then 1 else 0) s) s
def difL (n : Nat) (s : List Int) : List Int := (R n).map (cnt n s)
def ind (s : List Int) (x : Int) : Int := if x ∈ s then 1 else 0
section
variable {n : Nat} {s s' : List Int} (hn : 0 < n)
include hn
theorem dif_iff {a b k : Int} (hb : 0 ≤ b ∧ b < n) (hk : 0 ≤ k ∧ k < n) : (a - b) % n = k ↔ (a - k) % n = b := by
  constructor
  · rintro rfl
    rw [md_subr, show a - (a - b) = b by omega, emod_id hb.1 hb.2]
  · rintro rfl
    rw [md_subr, show a - (a - k) = k by omega, emod_id hk.1 hk.2]
theorem inner (h : SetOK n s) {a k : Int} (hk : 0 ≤ k ∧ k < n) : S (fun b => if (a - b) % n = k then 1 else 0) s = ind s ((a - k) % n) := by
  unfold ind
  rw [← S_one h.nd]
  refine S_congr fun b hb => ?_
  by_cases e : (a - b) % n = k
  · rw [if_pos e, if_pos ((dif_iff hn (h.rng b hb) hk).mp e)]
  · rw [if_neg e, if_neg fun z => e ((dif_iff hn (h.rng b hb) hk).mpr z)]
theorem over_R (h : SetOK n s) (f : Int → Int) : S f s = S (fun x => ind s x * f x) (R n) := by
  have p : s.Perm ((R n).filter fun x => decide (x ∈ s)) := (List.perm_ext_iff_of_nodup h.nd (nd_filter (nd_R n))).mpr fun x => by
    rw [List.mem_filter, mem_R, decide_eq_true_eq]
    exact ⟨fun z => ⟨h.rng x z, z⟩, fun z => z.2⟩
  rw [S_perm p, S_filter]
  refine S_congr fun x _ => ?_
  unfold ind
  by_cases e : x ∈ s <;> simp [e]
theorem cnt_R (h : SetOK n s) {k : Int} (hk : 0 ≤ k ∧ k < n) : cnt n s k = S (fun x => ind s x * ind s ((x - k) % n)) (R n) := by
  unfold cnt
  rw [S_congr fun a _ => inner hn h hk, over_R hn h]
theorem len_ind (h : SetOK n s) : S (ind s) (R n) = s.length := by
  have := over_R hn h fun _ => 1
  rw [S_const] at this
  simp only [Int.mul_one] at this
  exact this.symm
theorem dif_sum : (difL n s).sum = (s.length : Int) * s.length := by
  unfold difL cnt
  rw [sum_S, S_swap]
  have : ∀ a ∈ s, S (fun k => S (fun b => if (a - b) % n = k then 1 else 0) s) (R n) = s.length := fun a _ => by
    rw [S_swap]
    have : ∀ b ∈ s, S (fun k => if (a - b) % (n : Int) = k then (1 : Int) else 0) (R n) = 1 := fun b _ => by
      rw [S_one (nd_R n), if_pos (mem_R.mpr (md n hn _))]
    rw [S_congr this, S_const]
    omega
  rw [S_congr this, S_const]
theorem cnt_zero (h : SetOK n s) : cnt n s 0 = s.length := by
  rw [cnt_R hn h (by omega), ← len_ind hn h]
  refine S_congr fun x hx => ?_
  rw [mem_R] at hx
  rw [Int.sub_zero, emod_id hx.1 hx.2]
  unfold ind
  split <;> rfl
omit hn in
theorem cnt_perm (h : s.Perm s') (k : Int) : cnt n s k = cnt n s' k := by
  unfold cnt
  rw [S_perm h]
  exact S_congr fun a _ => S_perm h
omit hn in
theorem cnt_move (by' k : Int) : cnt n (s.map fun a => (a + by') % n) k = cnt n s k := by
  unfold cnt
  rw [S_map]
  refine S_congr fun a _ => ?_
  rw [S_map]
  refine S_congr fun b _ => ?_
  rw [md_sub, md_subr, show a + by' - (b + by') = a - b by omega]
def oth (n : Nat) (s : List Int) : List Int := (R n).filter fun x => !decide (x ∈ s)
omit hn in
theorem R_asc : (R n).Pairwise (· < ·) := by
  unfold R
  rw [List.pairwise_map]
  exact List.pairwise_lt_range.imp fun h => by omega
omit hn in
theorem oth_ok : SetOK n (oth n s) := ⟨R_asc.filter _, fun a ha => mem_R.mp (List.mem_filter.mp ha).1⟩
theorem cnt_oth (h : SetOK n s) {k : Int} (hk : 0 ≤ k ∧ k < n) : cnt n (oth n s) k = cnt n s k + (n - 2 * s.length) := by
  rw [cnt_R hn oth_ok hk, cnt_R hn h hk]
  have e : ∀ x : Int, 0 ≤ x ∧ x < n → ind (oth n s) x = 1 - ind s x := fun x hx => by
    unfold ind oth
    by_cases m : x ∈ s
    · rw [if_pos m, if_neg]; rfl
      rw [List.mem_filter]; simp [m]
    · rw [if_neg m, if_pos]; rfl
      rw [List.mem_filter]; simp [m, mem_R.mpr hx]
  have e2 : S (fun x => ind (oth n s) x * ind (oth n s) ((x - k) % n)) (R n) = S (fun x => (1 - ind s x) + (ind s x * ind s ((x - k) % n) - ind s ((x - k) % n))) (R n) := S_congr fun x hx => by
    rw [e x (mem_R.mp hx), e _ (md n hn _)]
    grind
  rw [e2, S_add, S_sub, S_sub, S_const, rot hn k (ind s), len_ind hn h, len_R]
  omega
/-! ### lamps seen through slits -/
theorem seen_sum (g : Int → Int) : S (fun t => S (fun a => g ((t - a) % n)) s) (R n) = s.length * S g (R n) := by
  rw [S_swap, S_congr fun a _ => rot hn a g, S_const]
theorem seen_back (g : Int → Int) (t : Int) : S (fun b => S (fun a => g (((t + b) - a) % n)) s) s = S (fun k => cnt n s k * g ((t - k) % n)) (R n) := by
  unfold cnt
  have e : ∀ k ∈ R n, S (fun a => S (fun b => if (a - b) % n = k then 1 else 0) s) s * g ((t - k) % n) = S (fun a => S (fun b => if (a - b) % n = k then g ((t - k) % n) else 0) s) s := fun k _ => by
    rw [← S_mulr]
    refine S_congr fun a _ => ?_
    rw [← S_mulr]
    refine S_congr fun b _ => ?_
    split <;> simp
  rw [S_congr e, S_swap (fun b a => g (((t + b) - a) % (n : Int))) s s, S_swap (fun k a => S (fun b => if (a - b) % (n : Int) = k then g ((t - k) % n) else 0) s) s (R n)]
  refine S_congr fun a _ => ?_
  rw [S_swap (fun k b => if (a - b) % (n : Int) = k then g ((t - k) % n) else 0) s (R n)]
  refine S_congr fun b _ => ?_
  rw [S_pick (fun k => g ((t - k) % n)) (nd_R n) (mem_R.mpr (md n hn _)), md_subr, show t - (a - b) = t + b - a by omega]
theorem seen_even (g : Int → Int) {t m l : Int} (ht : 0 ≤ t ∧ t < n) (h0 : cnt n s 0 = m) (h : ∀ k : Int, 0 < k → k < n → cnt n s k = l) : S (fun k => cnt n s k * g ((t - k) % n)) (R n) = l * S g (R n) + (m - l) * g t := by
  have e : ∀ k ∈ R n, cnt n s k * g ((t - k) % n) = l * g ((t - k) % n) + (if 0 = k then (m - l) * g ((t - k) % n) else 0) := fun k hk => by
    rw [mem_R] at hk
    by_cases z : k = 0
    · subst z
      rw [h0, if_pos rfl]
      grind
    · rw [h k (by omega) hk.2, if_neg (fun e => z e.symm)]
      omega
  rw [S_congr e, S_add, S_mul, flp hn t g, S_pick (fun k => (m - l) * g ((t - k) % n)) (nd_R n) (mem_R.mpr ⟨by omega, by omega⟩), Int.sub_zero, emod_id ht.1 ht.2]
end
end K11

set_option maxRecDepth 100000
namespace K11
open PySem PySem.Spec PyProof.Rows L2 Gl
theorem draws : Draws fe__law_draw := ⟨rfl, rfl⟩
theorem commons : Commons fe__law_common := ⟨rfl, rfl⟩
theorem sames : Sames fe__law_same := ⟨rfl, rfl⟩
theorem dig (ns : List Int) (_ : ns.length ≤ 63) : ∃ ds : List Int, fe__law_digits.fm [.d (.list (ns.map .int)), .d (.int 0), .d (.int 63)] none = .ret (.list (ds.map .int)) none := digits_ok ns none
theorem reds : Lows 8999 fe_reduced := ⟨rfl, fun a b bx h1 h2 h3 => reduced_lows (e := fe_common) ⟨rfl, rfl⟩ (by omega) a b bx h1 h2 h3⟩
@[simp] theorem so2 : sumOk 2 = true := rfl
@[simp] theorem so3 : sumOk 3 = true := rfl
@[simp] theorem so4 : sumOk 4 = true := rfl
@[simp] theorem so1 : sumOk 1 = true := rfl
@[simp] theorem so0 : sumOk 0 = true := rfl
section
variable {n m : Nat} {p q : Rat} (hp : FB n p) (hq : FB m q) (bx : Bx)
include hp hq
theorem plus_q (h : n + m < 8998) : fe_plus.fm [.d (frD p), .d (frD q)] bx = .ret (frD (p + q)) bx := plus_ok reds hp hq (by omega) (by omega) bx
theorem over_q (h : n + m < 8998) (q0 : q.num ≠ 0) : fe_over.fm [.d (frD p), .d (frD q)] bx = .ret (frD (p / q)) bx := over_ok reds hp hq (by omega) (by omega) q0 bx
end
@[simp] theorem isi_int (i : Int) (bx : Bx) : fe_is_integer.fm [.d (.int i)] bx = .ret (.bool true) bx := rfl
@[simp] theorem isi_none (bx : Bx) : fe_is_integer.fm [.d .none] bx = .ret (.bool false) bx := rfl
@[simp] theorem isi_bool (b : Bool) (bx : Bx) : fe_is_integer.fm [.d (.bool b)] bx = .ret (.bool false) bx := rfl
/-! ### rows of ints -/
theorem ints_map : ∀ l : List Int, intsOf (l.map .int) = some l
  | [] => rfl
  | x :: l => by
    show (intsOf (l.map PyData.int)).map (x :: ·) = _
    rw [ints_map l]
    rfl
@[simp] theorem sum_list (l : List Int) : sumD (.list (l.map .int)) = some (.int l.sum) := by
  show (intsOf (l.map PyData.int)).map (fun ns => PyData.int ns.sum) = _
  rw [ints_map]
  rfl
@[simp] theorem sum_tup (l : List Int) : sumD (.tuple (l.map .int)) = some (.int l.sum) := by
  show (intsOf (l.map PyData.int)).map (fun ns => PyData.int ns.sum) = _
  rw [ints_map]
  rfl
theorem srt_ints (l : List Int) : srtL (l.map .int) = (srtI l).map .int := by
  unfold srtL srtI
  symm
  refine List.map_mergeSort fun a _ b _ => ?_
  show decide (a ≤ b) = (!PySem.W.dataLt (.int b) (.int a))
  rw [PySem.W.dataLt_int]
  by_cases h : a ≤ b <;> simp [h] <;> omega
theorem depth_ints : ∀ l : List Int, PyData.depthAll (l.map .int) ≤ 1
  | [] => by simp [PyData.depthAll]
  | x :: l => by
    have := depth_ints l
    simp only [List.map_cons, PyData.depthAll, PyData.depth]
    omega
theorem srtOk_ints (l : List Int) : srtOk (l.map .int) = true := by
  have := depth_ints l
  unfold srtOk
  simp only [Bool.and_eq_true, Bool.or_eq_true, decide_eq_true_eq, List.all_eq_true, List.mem_map, forall_exists_index, and_imp, forall_apply_eq_imp_iff₂]
  refine ⟨⟨fun a _ b _ => rfl, .inr fun a _ => trivial⟩, by omega⟩
@[simp] theorem sorted_ints (l : List Int) : sortedD (.list (l.map .int)) = some (.list ((srtI l).map .int)) := by
  show (if srtOk _ = true then some (PyData.list (srtL _)) else none) = _
  rw [if_pos (srtOk_ints l), srt_ints]
theorem shp_tI (l : List Int) : shp (.tuple (l.map .int)) = true ∧ PyData.depth (.tuple (l.map .int)) ≤ 21 := shp_tup fun d hd => by
  obtain ⟨x, _, rfl⟩ := List.mem_map.mp hd
  exact ⟨rfl, by simp [PyData.depth]⟩
theorem eqv_ints : ∀ l k : List Int, PyData.eqvAll (l.map .int) (k.map .int) = decide (l = k)
  | [], [] => by simp [PyData.eqvAll]
  | [], _ :: _ => by simp [PyData.eqvAll]
  | _ :: _, [] => by simp [PyData.eqvAll]
  | a :: l, b :: k => by
    simp only [List.map_cons, PyData.eqvAll, PyData.eqv, eqv_ints l k]
    by_cases h : a = b <;> simp [h]
@[simp] theorem eq_tI (l k : List Int) : eqD (.tuple (l.map .int)) (.tuple (k.map .int)) = some (decide (l = k)) := by
  unfold eqD
  rw [(shp_tI l).1, (shp_tI k).1, PyData.eqv, eqv_ints]
  rfl
@[simp] theorem ne_tI (l k : List Int) : neD (.tuple (l.map .int)) (.tuple (k.map .int)) = some (!decide (l = k)) := ne_of_eq' (eq_tI l k)
@[simp] theorem in_tI (x : Int) (l : List Int) : inD (.int x) (.tuple (l.map .int)) = some (decide (x ∈ l)) := by
  show (if (shp (.int x) && shp (.tuple (l.map .int))) = true then some ((l.map PyData.int).any fun z => PyData.eqv z (.int x)) else none) = _
  rw [(shp_tI l).1, if_pos (show (shp (.int x) && true) = true from rfl), List.any_map]
  congr 1
  rw [Bool.eq_iff_iff, List.any_eq_true, decide_eq_true_eq]
  constructor
  · rintro ⟨y, hy, e⟩
    have : y = x := by simpa [PyData.eqv] using e
    rwa [← this]
  · intro h
    exact ⟨x, h, by simp [PyData.eqv]⟩
@[simp] theorem nin_tI (x : Int) (l : List Int) : notInD (.int x) (.tuple (l.map .int)) = some (!decide (x ∈ l)) := by
  show (inD (.int x) (.tuple (l.map .int))).map (!·) = _
  rw [in_tI]
  rfl
theorem cut1 (l : List D) : cutD (.tuple l) (some 1) none = some (.tuple (l.drop 1)) := by
  cases l with
  | nil => rfl
  | cons a l =>
    show some (PyData.tuple (cutL (a :: l) (some 1) none)) = _
    have e1 : HT.sIx (a :: l).length 0 (some 1) = 1 := by simp [HT.sIx]
    have e2 : HT.sIx (a :: l).length (a :: l).length none = (a :: l).length := rfl
    unfold cutL
    rw [e1, e2]
    simp
@[simp] theorem cut1I (l : List D) : cutD (.tuple l) (some 1) none = some (.tuple l.tail) := by rw [cut1, List.drop_one]
/-! ### how many different ones -/
def uq (l : List Int) : Nat := (intsU [] l).length
theorem keysU_ints : ∀ (l acc : List Int), keysU (acc.map .inl) (l.map .inl) = (intsU acc l).map .inl
  | [], _ => rfl
  | a :: l, acc => by
    have e : ((acc.map (Sum.inl : Int → Key)).any fun j => decide (j = .inl a)) = decide (a ∈ acc) := by
      rw [Bool.eq_iff_iff, List.any_map, List.any_eq_true, decide_eq_true_eq]
      constructor
      · rintro ⟨x, hx, e⟩
        have : x = a := by simpa using e
        rwa [← this]
      · intro h
        exact ⟨a, h, by simp⟩
    rw [List.map_cons]
    unfold keysU intsU
    rw [e]
    by_cases h : a ∈ acc
    · rw [if_pos (decide_eq_true h), if_pos h, keysU_ints]
    · rw [if_neg (by simpa using h), if_neg h, ← keysU_ints l (acc ++ [a]), List.map_append]
      rfl
def oneP (x : Int) : D := .tuple [.int x, .int 1]
theorem pairs_one : ∀ l : List Int, ∃ ps, pairsOf (l.map oneP) = some ps ∧ ps.map (·.1) = l.map .inl
  | [] => ⟨[], rfl, rfl⟩
  | a :: l => by
    obtain ⟨ps, e1, e2⟩ := pairs_one l
    refine ⟨(.inl a, .int 1) :: ps, ?_, by simp [e2]⟩
    show (some (Sum.inl a : Key)).bind (fun q => (pairsOf (l.map oneP)).map fun ps => (q, PyData.int 1) :: ps) = _
    rw [e1]
    rfl
@[simp] theorem lenDict_one (l : List Int) : lenDictD (.list (l.map oneP)) = some (.int (uq l)) := by
  obtain ⟨ps, e1, e2⟩ := pairs_one l
  show (pairsOf (l.map oneP)).map (fun ps => PyData.int ((keysU [] (ps.map (·.1))).length : Nat)) = _
  rw [e1, Option.map_some, e2]
  have := keysU_ints l []
  rw [List.map_nil] at this
  rw [this, List.length_map]
  rfl
theorem intsK_map : ∀ l : List Int, intsK (l.map .inl) = some l
  | [] => rfl
  | a :: l => by
    show (intsK (l.map .inl)).map (a :: ·) = _
    rw [intsK_map l]
    rfl
theorem sortDict_one {l : List Int} (h : uq l < 64) : sortDictN (.list (l.map oneP)) = some (.ow (.list ((srtI (intsU [] l)).map .int))) := by
  obtain ⟨ps, e1, e2⟩ := pairs_one l
  show (pairsOf (l.map oneP)).bind (fun ps => (intsK (keysU [] (ps.map (·.1)))).bind fun ns => if ns.length < 64 then some (DV.ow (.list ((srtI ns).map .int))) else none) = _
  have := keysU_ints l []
  rw [List.map_nil] at this
  rw [e1, Option.bind_some, e2, this, intsK_map, Option.bind_some, if_pos (show (intsU [] l).length < 64 from h)]
theorem lenSet_tup {l : List Int} (h : l.length < 1000) : lenSetD (.tuple (l.map .int)) = some (.int (uq l)) := by
  rw [lenSet_eq]
  show (intsOf (l.map PyData.int)).bind _ = _
  rw [ints_map, Option.bind_some, if_pos h]
  rfl
theorem sortSet_lst {l : List Int} (h : l.length < 1000) (h2 : uq l < 64) : sortSetN (.list (l.map .int)) = some (.ow (.list ((srtI (intsU [] l)).map .int))) := by
  rw [sortSet_eq]
  show (intsOf (l.map PyData.int)).bind _ = _
  rw [ints_map, Option.bind_some, if_pos ⟨h, h2⟩]
theorem uq_le (l : List Int) : uq l ≤ l.length := by
  have : ∀ (ns acc : List Int), (intsU acc ns).length ≤ acc.length + ns.length := by
    intro ns
    induction ns with
    | nil => intro acc; simp [intsU]
    | cons k ks ih =>
      intro acc
      unfold intsU
      have := ih (if k ∈ acc then acc else acc ++ [k])
      split at this <;> rename_i hk <;> simp only [List.length_append, List.length_cons, List.length_nil] at this ⊢
      · rw [if_pos hk]; omega
      · rw [if_neg hk]; omega
  simpa [uq] using this l []
theorem uq_one {l : List Int} (h : uq l = 1) : ∃ c, ∀ x ∈ l, x = c := by
  obtain ⟨h1, h2⟩ := intsU_facts l [] List.nodup_nil
  unfold uq at h
  match e : intsU [] l, h with
  | [c], _ =>
    refine ⟨c, fun x hx => ?_⟩
    have := (h2 x).mpr (.inr hx)
    rw [e] at this
    simpa using this
theorem uq_shift (c : Int) (l : List Int) : uq (l.map (· + c)) = uq l := by
  have : ∀ (l acc : List Int), intsU (acc.map (· + c)) (l.map (· + c)) = (intsU acc l).map (· + c) := by
    intro l
    induction l with
    | nil => intro acc; rfl
    | cons a l ih =>
      intro acc
      rw [List.map_cons]
      unfold intsU
      have e : (a + c ∈ acc.map (· + c)) ↔ a ∈ acc := by
        rw [List.mem_map]
        exact ⟨fun ⟨x, hx, e⟩ => by rwa [← show x = a by omega], fun h => ⟨a, h, rfl⟩⟩
      by_cases h : a ∈ acc
      · rw [if_pos (e.mpr h), if_pos h, ih]
      · rw [if_neg fun z => h (e.mp z), if_neg h, ← ih, List.map_append]
        rfl
  have := this l []
  rw [List.map_nil] at this
  unfold uq
  rw [this, List.length_map]
end K11

set_option maxRecDepth 100000
namespace K11
open PySem PySem.Spec PyProof.Rows L2 Gl
theorem range1' {j : Int} (h : -1000 ≤ j) (h2 : j < 2 ^ 62) : rangeOf [.int j] = some ((List.range j.toNat).map fun i => .int (i : Nat)) := by
  show (if in62 j = true then _ else _) = _
  rw [if_pos]
  · congr 1
    unfold rangeD
    congr 1
    funext i
    simp
  · unfold in62
    simp only [Bool.and_eq_true, decide_eq_true_eq]
    omega
theorem rangeN (n : Nat) (h : n < 1000000) : rangeOf [.int n] = some ((R n).map .int) := by
  rw [range1' (by omega) (by omega), Int.toNat_natCast]
  unfold R
  rw [List.map_map]
  rfl
theorem SetOK.len {n : Nat} {s : List Int} (h : SetOK n s) : s.length ≤ n := by
  have p : s.Perm ((R n).filter fun x => decide (x ∈ s)) := (List.perm_ext_iff_of_nodup h.nd (nd_filter (nd_R n))).mpr fun x => by
    rw [List.mem_filter, mem_R, decide_eq_true_eq]
    exact ⟨fun z => ⟨h.rng x z, z⟩, fun z => z.2⟩
  rw [p.length_eq]
  exact Nat.le_trans (List.length_filter_le ..) (by simp)
theorem asc_at {s : List Int} (h : s.Pairwise (· < ·)) {i : Nat} (hi : i + 1 < s.length) : ∃ a b, s[i]? = some a ∧ s[i + 1]? = some b ∧ a < b :=
  ⟨s[i], s[i + 1], List.getElem?_eq_getElem _, List.getElem?_eq_getElem _, List.pairwise_iff_getElem.mp h i (i + 1) (by omega) hi (by omega)⟩
section
variable {n : Nat} {s : List Int}
theorem cs1 (h : SetOK n s) (hl : s.length ≤ 1000) (x2 x3 : DV) (bx : Bx) : c_check_set_1 ⟨[.sh (.int n), .sh (.tuple (s.map .int)), x2, x3], bx⟩ = .ok (.list (s.map fun _ => .bool true)) ⟨[.sh (.int n), .sh (.tuple (s.map .int)), x2, x3], bx⟩ := by
  simp [c_check_set_1, compG_map]
  rw [cG_cond (h := fun _ => some (.bool true)) (by
    intro x hx b
    have := h.rng x hx
    simp [this.1, this.2]), fm_some, finC_ok (by simp; omega)]
theorem cs2 (h : s.Pairwise (· < ·)) (hl : s.length ≤ 1000) (x0 x2 x3 : DV) (bx : Bx) : c_check_set_2 ⟨[x0, .sh (.tuple (s.map .int)), x2, x3], bx⟩ = .ok (.list ((List.range ((s.length : Int) - 1).toNat).map fun _ => .bool false)) ⟨[x0, .sh (.tuple (s.map .int)), x2, x3], bx⟩ := by
  simp [c_check_set_2, range1' (show -1000 ≤ (s.length : Int) - 1 by omega) (by omega), compG_map]
  rw [cG_cond (h := fun _ => some (.bool false)) (by
    intro i hi b
    rw [List.mem_range] at hi
    obtain ⟨u, v, e1, e2, e3⟩ := asc_at h (i := i) (by omega)
    have e4 := at_ints e1
    have e5 := at_ints e2
    rw [show ((i + 1 : Nat) : Int) = (i : Int) + 1 by omega] at e5
    simp only [tI] at e4 e5
    simp [e4, e5, show ¬ v ≤ u by omega]), fm_some, finC_ok (by simp; omega)]
theorem all_t {γ : Type} (l : List γ) : allD (.list (l.map fun _ => .bool true)) = some (.bool true) := all_trueH l
@[simp high] theorem any_f {γ : Type} (l : List γ) : anyD (.list (l.map fun _ => .bool false)) = some (.bool false) := by
  rw [any_map' (g := fun _ => false) (fun _ _ => rfl)]
  simp
@[simp] theorem inst_t (l : List D) : instD "tuple" (.tuple l) = some (.bool true) := rfl
theorem check_ok (h : SetOK n s) (h2 : 2 ≤ n) (h3 : n ≤ 31) (bx : Bx) : fe_check_set.fm [.d (.int n), .d (.tuple (s.map .int))] bx = .ret .none bx := by
  have hl := h.len
  simp [fe_check_set, z_fm, m_check_set, slotA, cs1 h (by omega), cs2 h.asc (by omega), show (2 : Int) ≤ n by omega, show (n : Int) ≤ 31 by omega]
/-- found, when so much is counted -/
def bump (l : List Int) (i : Nat) : List Int := l.set i (l.getD i 0 + 1)
theorem augAt_ok {sl : List DV} {bx : Bx} {i : Nat} {mi : M D} {l : List Int} {k : Int} (h : sl[i]? = some (.ow (.list (l.map .int)))) (hm : mi ⟨sl, bx⟩ = .ok (.int k) ⟨sl, bx⟩) (k0 : 0 ≤ k) (k1 : k < l.length) :
    sAugAt .Add i mi (mC (.int 1)) ⟨sl, bx⟩ = .next ⟨sl.set i (.ow (.list ((bump l k.toNat).map .int))), bx⟩ := by
  have e : ixN (l.map PyData.int).length k = some k.toNat := by
    unfold ixN
    rw [if_pos k0, List.length_map, if_pos k1]
  have e2 : (l.map PyData.int)[k.toNat]? = some (.int (l.getD k.toNat 0)) := by
    rw [List.getElem?_map, List.getD_eq_getElem?_getD, List.getElem?_eq_getElem (by omega)]
    rfl
  unfold sAugAt
  rw [h]
  simp only [z_e, hm, z_toO, h, e, e2, z_c]
  simp only [augD, augI, Option.map_some]
  rw [if_pos trivial]
  unfold bump
  rw [List.map_set]
theorem bump_len (l : List Int) (i : Nat) : (bump l i).length = l.length := by simp [bump]
theorem bump_at (l : List Int) (i j : Nat) (hj : j < l.length) : (bump l i).getD j 0 = l.getD j 0 + (if i = j then 1 else 0) := by
  unfold bump
  rw [List.getD_eq_getElem?_getD, List.getElem?_set, List.getD_eq_getElem?_getD, List.getD_eq_getElem?_getD]
  by_cases e : i = j
  · subst e
    simp [hj]
  · simp [e]
/-- what the inner loop does -/
def ins (n : Nat) (a : Int) (l : List Int) (bs : List Int) : List Int := bs.foldl (fun l b => bump l ((a - b) % n).toNat) l
theorem ins_len (n : Nat) (a : Int) : ∀ (bs l : List Int), (ins n a l bs).length = l.length
  | [], _ => rfl
  | b :: bs, l => by
    show (ins n a (bump l _) bs).length = _
    rw [ins_len n a bs, bump_len]
theorem ins_at (hn : 0 < n) (a : Int) {j : Nat} (hj : j < n) : ∀ (bs l : List Int), l.length = n → (ins n a l bs).getD j 0 = l.getD j 0 + S (fun b => if (a - b) % n = j then 1 else 0) bs
  | [], l, _ => by simp [ins]
  | b :: bs, l, hl => by
    show (ins n a (bump l _) bs).getD j 0 = _
    rw [ins_at hn a hj bs _ (by rw [bump_len]; exact hl), bump_at _ _ _ (by omega), S_cons]
    have := md n hn (a - b)
    by_cases e : (a - b) % n = j
    · rw [if_pos e, if_pos (by omega)]; omega
    · rw [if_neg e, if_neg (by omega)]; omega
theorem dif_in (hn : 0 < n) (a : Int) (x1 x4 : DV) (bx : Bx) : ∀ (bs l : List Int) (x4 : DV), l.length = n → ∃ x4', loopF (stName 4) b_differences_1 (bs.map .int) ⟨[.sh (.int n), x1, .ow (.list (l.map .int)), .sh (.int a), x4], bx⟩ = .next ⟨[.sh (.int n), x1, .ow (.list ((ins n a l bs).map .int)), .sh (.int a), x4'], bx⟩
  | [], l, x4, _ => ⟨x4, rfl⟩
  | b :: bs, l, x4, hl => by
    have := md n hn (a - b)
    obtain ⟨y, ih⟩ := dif_in hn a x1 x4 bx bs (bump l ((a - b) % n).toNat) (.sh (.int b)) (by rw [bump_len]; exact hl)
    refine ⟨y, ?_⟩
    have e := augAt_ok (sl := [.sh (.int n), x1, .ow (.list (l.map .int)), .sh (.int a), .sh (.int b)]) (bx := bx) (i := 2) (mi := mOp2 modD (mOp2 subD (mPeek 3) (mPeek 4)) (mPeek 0)) (l := l) (k := (a - b) % n) rfl (by simp [modD_pos (show (0 : Int) < n by omega)]) this.1 (by omega)
    rw [List.map_cons, loop_cons]
    simp only [st_name, lpS_some, List.set_cons_succ, List.set_cons_zero, b_differences_1, z_seq, e, z_onext, z_next, lpO_next]
    exact ih
def outs (n : Nat) (s l as : List Int) : List Int := as.foldl (fun l a => ins n a l s) l
theorem outs_len (n : Nat) (s : List Int) : ∀ (as l : List Int), (outs n s l as).length = l.length
  | [], _ => rfl
  | a :: as, l => by
    show (outs n s (ins n a l s) as).length = _
    rw [outs_len n s as, ins_len]
theorem outs_at (hn : 0 < n) {j : Nat} (hj : j < n) : ∀ (as l : List Int), l.length = n → (outs n s l as).getD j 0 = l.getD j 0 + S (fun a => S (fun b => if (a - b) % n = (j : Int) then 1 else 0) s) as
  | [], l, _ => by simp [outs]
  | a :: as, l, hl => by
    show (outs n s (ins n a l s) as).getD j 0 = _
    rw [outs_at hn hj as _ (by rw [ins_len]; exact hl), ins_at hn a hj _ _ hl, S_cons]
    omega
theorem dif_out (hn : 0 < n) (bx : Bx) : ∀ (as l : List Int) (x3 x4 : DV), l.length = n → ∃ x3' x4', loopF (stName 3) b_differences_3 (as.map .int) ⟨[.sh (.int n), .sh (.tuple (s.map .int)), .ow (.list (l.map .int)), x3, x4], bx⟩ = .next ⟨[.sh (.int n), .sh (.tuple (s.map .int)), .ow (.list ((outs n s l as).map .int)), x3', x4'], bx⟩
  | [], l, x3, x4, _ => ⟨x3, x4, rfl⟩
  | a :: as, l, x3, x4, hl => by
    obtain ⟨y, e⟩ := dif_in hn a (.sh (.tuple (s.map .int))) x4 bx s l x4 hl
    obtain ⟨y3, y4, ih⟩ := dif_out hn bx as (ins n a l s) (.sh (.int a)) y (by rw [ins_len]; exact hl)
    refine ⟨y3, y4, ?_⟩
    rw [List.map_cons, loop_cons]
    simp only [st_name, lpS_some, List.set_cons_succ, List.set_cons_zero, b_differences_3, f_differences_2, z_seq, z_for, z_items, y_var, List.getElem?_cons_succ, List.getElem?_cons_zero, rdV_sh, z_ok, z_itup, z_some, z_toO, e, z_onext, z_next, lpO_next]
    exact ih
theorem outs_dif (hn : 0 < n) : outs n s (List.replicate n 0) s = difL n s := by
  apply List.ext_getElem?
  intro i
  by_cases hi : i < n
  · have h1 := outs_at (s := s) hn hi s (List.replicate n 0) (by simp)
    have l1 : i < (outs n s (List.replicate n 0) s).length := by rw [outs_len]; simpa using hi
    rw [List.getD_eq_getElem?_getD, List.getElem?_eq_getElem l1, Option.getD_some] at h1
    rw [List.getElem?_eq_getElem l1, h1]
    unfold difL R
    rw [List.map_map, List.getElem?_map, List.getElem?_range hi]
    simp [hi, cnt, List.getD_eq_getElem?_getD]
  · rw [List.getElem?_eq_none (by rw [outs_len]; simpa using hi), List.getElem?_eq_none (by simpa [difL] using hi)]
theorem differences_ok (h : SetOK n s) (h2 : 2 ≤ n) (h3 : n ≤ 31) (bx : Bx) : fe_differences.fm [.d (.int n), .d (.tuple (s.map .int))] bx = .ret (.tuple ((difL n s).map .int)) bx := by
  obtain ⟨y3, y4, e⟩ := dif_out (s := s) (show 0 < n by omega) bx s (List.replicate n 0) .un .un (by simp)
  rw [outs_dif (by omega), List.map_replicate] at e
  have er : mulN (.list [.int 0]) (.int n) = some (.ow (.list (List.replicate n (.int 0)))) := mulN_rep (by omega)
  simp [fe_differences, z_fm, m_differences, slotA, check_ok h h2 h3, er, f_differences_4, e]
def evenB (n : Nat) (s : List Int) : Bool := uq (difL n s).tail == 1
@[simp] theorem len_dif : (difL n s).length = n := by simp [difL]
theorem is_even_ok (h : SetOK n s) (h2 : 2 ≤ n) (h3 : n ≤ 31) (bx : Bx) : fe_is_even.fm [.d (.int n), .d (.tuple (s.map .int))] bx = .ret (.bool (evenB n s)) bx := by
  have e := lenSet_tup (l := (difL n s).tail) (by simp; omega)
  rw [List.map_tail] at e
  simp [fe_is_even, z_fm, m_is_even, slotA, differences_ok h h2 h3, e, evenB]
  rw [Bool.eq_iff_iff, decide_eq_true_eq, beq_iff_eq]
  omega
end
end K11

set_option maxRecDepth 100000
namespace K11
open PySem PySem.Spec PyProof.Rows L2 Gl
variable {n : Nat} {s : List Int}
theorem c_oth (hn : n ≤ 31) (x2 : DV) (bx : Bx) : c_others_1 ⟨[.sh (.int n), .sh (.tuple (s.map .int)), x2], bx⟩ = .ok (.list ((oth n s).map .int)) ⟨[.sh (.int n), .sh (.tuple (s.map .int)), x2], bx⟩ := by
  simp [c_others_1, rangeN n (by omega), compG_map]
  rw [cG_cond (h := fun x => if (!decide (x ∈ s)) = true then some (PyData.int x) else none) (by
    intro x hx b
    simp [some_ite]
    try (by_cases h : x ∈ s <;> simp [h])), fm_ite, finC_ok (by
    rw [List.length_map]
    exact Nat.le_trans (List.length_filter_le ..) (by simp; omega))]
  rfl
theorem others_ok (h : SetOK n s) (h2 : 2 ≤ n) (h3 : n ≤ 31) (bx : Bx) : fe_others.fm [.d (.int n), .d (.tuple (s.map .int))] bx = .ret (.tuple ((oth n s).map .int)) bx := by
  simp [fe_others, z_fm, m_others, slotA, check_ok h h2 h3, c_oth h3]
def mvL (n : Nat) (by' : Int) (s : List Int) : List Int := srtI (s.map fun a => (a + by') % n)
def spL (n : Nat) (by' : Int) (s : List Int) : List Int := srtI (s.map fun a => a * by' % n)
theorem sort_map (f : Int → Int) (l : List Int) : sortedD (.list (l.map fun x => .int (f x))) = some (.list ((srtI (l.map f)).map .int)) := by
  have := sorted_ints (l.map f)
  rwa [List.map_map] at this
theorem c_mv (h2 : 0 < n) (hl : s.length ≤ 1000) (by' : Int) (x3 : DV) (bx : Bx) : c_moved_1 ⟨[.sh (.int n), .sh (.tuple (s.map .int)), .sh (.int by'), x3], bx⟩ = .ok (.list (s.map fun a => .int ((a + by') % n))) ⟨[.sh (.int n), .sh (.tuple (s.map .int)), .sh (.int by'), x3], bx⟩ := by
  simp [c_moved_1, compG_map]
  rw [cG_cond (h := fun a => some (.int ((a + by') % n))) (by
    intro x hx b
    simp [modD_pos (show (0 : Int) < n by omega)]), fm_some, finC_ok (by simp; omega)]
theorem moved_ok (h : SetOK n s) (h2 : 2 ≤ n) (h3 : n ≤ 31) (by' : Int) (bx : Bx) : fe_moved.fm [.d (.int n), .d (.tuple (s.map .int)), .d (.int by')] bx = .ret (.tuple ((mvL n by' s).map .int)) bx := by
  have hl := h.len
  simp [fe_moved, z_fm, m_moved, slotA, check_ok h h2 h3, c_mv (show 0 < n by omega) (show s.length ≤ 1000 by omega), sort_map, mvL]
theorem srtI_perm (l : List Int) : (srtI l).Perm l := List.mergeSort_perm _ _
theorem srtI_asc {l : List Int} (h : l.Nodup) : (srtI l).Pairwise (· < ·) := by
  have s2 : (srtI l).Pairwise (· ≤ ·) := by
    have := List.pairwise_mergeSort (le := fun a b : Int => decide (a ≤ b)) (fun a b c h1 h2 => by simp at *; omega) (fun a b => by simp; omega) l
    exact this.imp fun h => by simpa using h
  have s3 : (srtI l).Nodup := (srtI_perm l).nodup_iff.mpr h
  rw [List.nodup_iff_pairwise_ne] at s3
  exact (s2.and s3).imp fun ⟨h1, h2⟩ => by omega
theorem mv_set (h : SetOK n s) (hn : 0 < n) (by' : Int) : SetOK n (mvL n by' s) := by
  refine ⟨srtI_asc (nd_map h.nd fun x hx y hy e => ?_), fun a ha => ?_⟩
  · have h1 := h.rng x hx
    have h2 := h.rng y hy
    have := congrArg (fun z => (z - by') % (n : Int)) e
    simp only [md_sub] at this
    rwa [Int.add_sub_cancel, Int.add_sub_cancel, emod_id h1.1 h1.2, emod_id h2.1 h2.2] at this
  · obtain ⟨x, _, rfl⟩ := List.mem_map.mp ((srtI_perm _).mem_iff.mp ha)
    exact md n hn _
theorem mv_dif (by' : Int) : difL n (mvL n by' s) = difL n s := by
  unfold difL
  refine List.map_congr_left fun k _ => ?_
  unfold mvL
  rw [cnt_perm (srtI_perm _), cnt_move]
theorem oth_dif (h : SetOK n s) (hn : 0 < n) : difL n (oth n s) = (difL n s).map (· + (n - 2 * s.length : Int)) := by
  unfold difL
  rw [List.map_map]
  refine List.map_congr_left fun k hk => ?_
  exact cnt_oth hn h (mem_R.mp hk)
theorem even_oth (h : SetOK n s) (hn : 0 < n) : evenB n (oth n s) = evenB n s := by
  unfold evenB
  rw [oth_dif h hn, ← List.map_tail, uq_shift]
/-! ### spread -/
theorem w_spread (a b : Nat) (x0 x1 x2 x5 : DV) (bx : Bx) : w_spread_3 ⟨[x0, x1, x2, .sh (.int (a : Int)), .sh (.int (b : Int)), x5], bx⟩ = .next ⟨[x0, x1, x2, .sh (.int (Nat.gcd a b : Nat)), .sh (.int 0), x5], bx⟩ := by
  have : ∃ S', w_spread_3 ⟨[x0, x1, x2, .sh (.int (a : Int)), .sh (.int (b : Int)), x5], bx⟩ = .next S' ∧ S' = ⟨[x0, x1, x2, .sh (.int (Nat.gcd a b : Nat)), .sh (.int 0), x5], bx⟩ := by
    refine while_inv (P := fun S => ∃ x y : Nat, Nat.gcd x y = Nat.gcd a b ∧ S = ⟨[x0, x1, x2, .sh (.int (x : Int)), .sh (.int (y : Int)), x5], bx⟩) (fun S => match S.sl[4]? with | some (DV.sh (PyData.int y)) => y.toNat | _ => 0) ?_ ⟨a, b, rfl, rfl⟩
    rintro S ⟨x, y, e, rfl⟩
    by_cases hy : y = 0
    · subst hy
      rw [Nat.gcd_zero_right] at e
      subst e
      exact .inl ⟨_, rfl, rfl⟩
    · refine .inr ⟨⟨[x0, x1, x2, .sh (.int (x : Int)), .sh (.int (y : Int)), x5], bx⟩, ⟨[x0, x1, x2, .sh (.int (y : Int)), .sh (.int ((x % y : Nat) : Int)), x5], bx⟩, ?_, ?_, ⟨y, x % y, ?_, rfl⟩, ?_⟩
      · simp [g_spread_1, hy]
      · simp [b_spread_2, modD_pos (show (0 : Int) < y by omega)]
      · rw [← e, Nat.gcd_comm y, ← Nat.gcd_rec, Nat.gcd_comm]
      · show (((x % y : Nat) : Int)).toNat < ((y : Int)).toNat
        have := Nat.mod_lt x (Nat.pos_of_ne_zero hy)
        omega
  obtain ⟨S', e, rfl⟩ := this
  exact e
theorem mulC {a b : Int} (h : a.natAbs < 1000) : mulD (.int a) (.int b) = some (.int (a * b)) := mulD_ok (.inl (by omega))
theorem c_sp (h2 : 0 < n) (hl : s.length ≤ 1000) (hs : ∀ a ∈ s, 0 ≤ a ∧ a < 100) (by' : Int) (x3 x4 x5 : DV) (bx : Bx) : c_spread_4 ⟨[.sh (.int n), .sh (.tuple (s.map .int)), .sh (.int by'), x3, x4, x5], bx⟩ = .ok (.list (s.map fun a => .int (a * by' % n))) ⟨[.sh (.int n), .sh (.tuple (s.map .int)), .sh (.int by'), x3, x4, x5], bx⟩ := by
  simp [c_spread_4, compG_map]
  rw [cG_cond (h := fun a => some (.int (a * by' % n))) (by
    intro x hx b
    have := hs x hx
    simp [mulC (a := x) (b := by') (by omega), modD_pos (show (0 : Int) < n by omega)]), fm_some, finC_ok (by simp; omega)]
/-- without a common divisor -/
def fits (n : Nat) (by' : Int) : Bool := decide (Nat.gcd n (by' % n).toNat = 1)
theorem spread_ok (h : SetOK n s) (h2 : 2 ≤ n) (h3 : n ≤ 31) (by' : Int) (bx : Bx) : fe_spread.fm [.d (.int n), .d (.tuple (s.map .int)), .d (.int by')] bx =
    if fits n by' = true then .ret (.tuple ((spL n by' s).map .int)) bx else .exc 2 (.str "by") bx := by
  have hl := h.len
  obtain ⟨k, hk⟩ := Int.eq_ofNat_of_zero_le (md n (by omega) by').1
  have e := w_spread n k (.sh (.int n)) (.sh (.tuple (s.map .int))) (.sh (.int by')) .un bx
  have c := c_sp (n := n) (s := s) (by omega) (by omega) (fun a ha => by have := h.rng a ha; omega) by' (.sh (.int 1)) (.sh (.int 0)) .un bx
  unfold fits
  rw [hk, Int.toNat_natCast]
  by_cases z : Nat.gcd n k = 1
  · rw [z] at e
    simp [fe_spread, z_fm, m_spread, slotA, check_ok h h2 h3, modD_pos (show (0 : Int) < n by omega), hk, e, z, c, sort_map, spL]
  · simp [fe_spread, z_fm, m_spread, slotA, check_ok h h2 h3, modD_pos (show (0 : Int) < n by omega), hk, e, z, show ¬ ((Nat.gcd n k : Nat) : Int) = 1 by omega]
end K11

set_option maxRecDepth 100000
namespace K11
open PySem PySem.Spec PyProof.Rows L2 Gl
variable {n : Nat} {s l : List Int}
/-! ### lamps -/
theorem c_lm (hl : l.length ≤ 1000) (x0 x2 : DV) (bx : Bx) : c_check_lamps_1 ⟨[x0, .sh (.tuple (l.map .int)), x2], bx⟩ = .ok (.list (l.map fun _ => .bool true)) ⟨[x0, .sh (.tuple (l.map .int)), x2], bx⟩ := by
  simp [c_check_lamps_1, compG_map]
  rw [cG_cond (h := fun _ => some (.bool true)) (by
    intro x hx b
    simp), fm_some, finC_ok (by simp; omega)]
theorem lamps_ok (hn : n ≤ 31) (h : l.length = n) (bx : Bx) : fe_check_lamps.fm [.d (.int n), .d (.tuple (l.map .int))] bx = .ret .none bx := by
  simp [fe_check_lamps, z_fm, m_check_lamps, slotA, c_lm (show l.length ≤ 1000 by omega), h]
theorem lamps_bad (hn : n ≤ 31) (h : l.length ≠ n) (bx : Bx) : fe_check_lamps.fm [.d (.int n), .d (.tuple (l.map .int))] bx = .exc 0 (.str "lamps") bx := by
  simp [fe_check_lamps, z_fm, m_check_lamps, slotA, show ¬ (l.length : Int) = n by omega]
/-- the lamp at a place -/
def lp (l : List Int) (i : Int) : Int := l.getD i.toNat 0
theorem ix_lp {i : Int} (h0 : 0 ≤ i) (h1 : i < l.length) : ixD (.tuple (l.map .int)) (.int i) = some (.int (lp l i)) := by
  have e : l[i.toNat]? = some (lp l i) := by
    unfold lp
    rw [List.getD_eq_getElem?_getD, List.getElem?_eq_getElem (by omega)]
    rfl
  have := at_ints e
  rwa [Int.toNat_of_nonneg h0] at this
/-- what is seen -/
def seenL (n : Nat) (s l : List Int) : List Int := (R n).map fun t => S (fun a => lp l ((t - a) % n)) s
theorem sumS (f : Int → Int) (l : List Int) : sumD (.list (l.map fun x => .int (f x))) = some (.int (S f l)) := by
  have := sum_list (l.map f)
  rw [List.map_map] at this
  rw [← sum_S]
  exact this
theorem c_seen1 (hn : 0 < n) (hl : l.length = n) (hs : s.length ≤ 1000) (t : Int) (x4 : DV) (bx : Bx) : c_seen_1 ⟨[.sh (.int n), .sh (.tuple (s.map .int)), .sh (.tuple (l.map .int)), .sh (.int t), x4], bx⟩ = .ok (.list (s.map fun a => .int (lp l ((t - a) % n)))) ⟨[.sh (.int n), .sh (.tuple (s.map .int)), .sh (.tuple (l.map .int)), .sh (.int t), x4], bx⟩ := by
  simp [c_seen_1, compG_map]
  rw [cG_cond (h := fun a => some (.int (lp l ((t - a) % n)))) (by
    intro x hx b
    have := md n hn (t - x)
    simp [modD_pos (show (0 : Int) < n by omega), ix_lp (l := l) this.1 (by omega)]), fm_some, finC_ok (by simp; omega)]
theorem c_seen2 (hn : 0 < n) (h31 : n ≤ 31) (hl : l.length = n) (hs : s.length ≤ 1000) (x3 x4 : DV) (bx : Bx) : c_seen_2 ⟨[.sh (.int n), .sh (.tuple (s.map .int)), .sh (.tuple (l.map .int)), x3, x4], bx⟩ = .ok (.list ((seenL n s l).map .int)) ⟨[.sh (.int n), .sh (.tuple (s.map .int)), .sh (.tuple (l.map .int)), x3, x4], bx⟩ := by
  simp [c_seen_2, rangeN n (by omega), compG_map]
  rw [cG_cond (h := fun t => some (.int (S (fun a => lp l ((t - a) % n)) s))) (by
    intro x hx b
    simp [c_seen1 hn hl hs, sumS]), fm_some, finC_ok (by simp; omega)]
  unfold seenL
  rw [List.map_map]
  rfl
theorem seen_ok (h : SetOK n s) (h2 : 2 ≤ n) (h3 : n ≤ 31) (hl : l.length = n) (bx : Bx) : fe_seen.fm [.d (.int n), .d (.tuple (s.map .int)), .d (.tuple (l.map .int))] bx = .ret (.tuple ((seenL n s l).map .int)) bx := by
  have := h.len
  simp [fe_seen, z_fm, m_seen, slotA, check_ok h h2 h3, lamps_ok h3 hl, c_seen2 (show 0 < n by omega) h3 hl (show s.length ≤ 1000 by omega)]
theorem seen_bad (h : SetOK n s) (h2 : 2 ≤ n) (h3 : n ≤ 31) (hl : l.length ≠ n) (bx : Bx) : fe_seen.fm [.d (.int n), .d (.tuple (s.map .int)), .d (.tuple (l.map .int))] bx = .exc 0 (.str "lamps") bx := by
  simp [fe_seen, z_fm, m_seen, slotA, check_ok h h2 h3, lamps_bad h3 hl]
/-! ### lamps told back -/
def fI (a : Int) : D := .tuple [.int a, .int 1]
theorem fr_I (a : Int) : fI a = frD (a : Rat) := rfl
theorem fb_I {a : Int} {k : Nat} (h : a.natAbs < 2 ^ k) (hk : 1 ≤ k) : FB k (a : Rat) := ⟨by simpa using h, by
  show (1 : Nat) < 2 ^ k
  exact Nat.lt_of_lt_of_le (by decide) (Nat.pow_le_pow_right (by decide) hk)⟩
theorem total_2 {k : Nat} {p q : Rat} (hp : FB k p) (hq : FB k q) (hk : k ≤ 1000) (hk1 : 1 ≤ k) (bx : Bx) : fe_total.fm [.d (.list [frD p, frD q])] bx = .ret (frD (p + q)) bx := by
  have h0 : FB 1 (0 : Rat) := ⟨by decide, by decide⟩
  have e1 := plus_q h0 hp bx (by omega)
  have e2 := plus_q (h0.add hp) hq bx (by omega)
  rw [Rat.zero_add] at e1 e2
  simp [fe_total, z_fm, m_total, slotA, f_total_2, b_total_1, fr_c0, e1, e2]
theorem at_dif (h2 : 2 ≤ n) : (difL n s)[0]? = some (cnt n s 0) ∧ (difL n s)[1]? = some (cnt n s 1) := by
  unfold difL R
  rw [List.map_map, List.getElem?_map, List.getElem?_map, List.getElem?_range (by omega), List.getElem?_range (by omega)]
  exact ⟨rfl, rfl⟩
theorem even_all (h2 : 2 ≤ n) (e : evenB n s = true) : ∀ k : Int, 0 < k → k < n → cnt n s k = cnt n s 1 := fun k h0 h1 => by
  unfold evenB at e
  rw [beq_iff_eq] at e
  obtain ⟨c, hc⟩ := uq_one e
  have key : ∀ j : Nat, 0 < j → j < n → cnt n s j = c := fun j h0 h1 => by
    refine hc _ (List.mem_of_getElem? (i := j - 1) ?_)
    rw [List.getElem?_tail]
    unfold difL R
    rw [List.map_map, List.getElem?_map, show j - 1 + 1 = j by omega, List.getElem?_range h1]
    rfl
  have a := key k.toNat (by omega) (by omega)
  have b := key 1 (by omega) (by omega)
  rw [Int.toNat_of_nonneg (by omega)] at a
  rw [a]
  exact b.symm
theorem S_bound {α : Type} {f : α → Int} {B : Int} : ∀ {l : List α}, (∀ x ∈ l, -B ≤ f x ∧ f x ≤ B) → -(l.length * B) ≤ S f l ∧ S f l ≤ l.length * B
  | [], _ => by simp
  | a :: l, h => by
    have h1 := h a (by simp)
    have h2 := S_bound (l := l) fun x hx => h x (List.mem_cons_of_mem _ hx)
    rw [S_cons, List.length_cons, show ((l.length + 1 : Nat) : Int) * B = l.length * B + B by grind]
    omega
end K11

set_option maxRecDepth 100000
namespace K11
open PySem PySem.Spec PyProof.Rows L2 Gl
variable {n : Nat} {s g : List Int}
theorem over_I {a b : Int} (ha : a.natAbs < 2 ^ 40) (hb : b.natAbs < 2 ^ 40) (h0 : a ≠ 0) (bx : Bx) : fe_over.fm [.d (.tuple [.int (a * b), .int 1]), .d (.tuple [.int a, .int 1])] bx = .ret (.tuple [.int b, .int 1]) bx := by
  have hab : (a * b).natAbs < 2 ^ 80 := by
    rw [Int.natAbs_mul]
    calc a.natAbs * b.natAbs < 2 ^ 40 * 2 ^ 40 := Nat.mul_lt_mul'' ha hb
      _ = 2 ^ 80 := by decide
  have e := over_q (fb_I hab (by omega)) (fb_I (k := 40) ha (by omega)) bx (by omega) (show ((a : Rat)).num ≠ 0 from h0)
  have e2 : ((a * b : Int) : Rat) / (a : Rat) = (b : Rat) := by
    have : (a : Rat) ≠ 0 := fun z => h0 (by exact_mod_cast z)
    rw [Rat.intCast_mul]
    grind
  rw [e2] at e
  exact e
theorem total_I {a b : Int} (ha : a.natAbs < 2 ^ 80) (hb : b.natAbs < 2 ^ 80) (bx : Bx) : fe_total.fm [.d (.list [.tuple [.int a, .int 1], .tuple [.int b, .int 1]])] bx = .ret (.tuple [.int (a + b), .int 1]) bx := by
  have e := total_2 (fb_I ha (by omega)) (fb_I hb (by omega)) (by omega) (by omega) bx
  rw [← Rat.intCast_add] at e
  exact e
theorem c_lo (hn : 0 < n) {l : List Int} (hl : l.length = n) (hs : s.length ≤ 1000) (t : Int) (x3 x4 x5 x7 x8 x9 : DV) (bx : Bx) : c_lamps_of_1 ⟨[.sh (.int n), .sh (.tuple (s.map .int)), .sh (.tuple (l.map .int)), x3, x4, x5, .sh (.int t), x7, x8, x9], bx⟩ =
    .ok (.list (s.map fun b => .int (lp l ((t + b) % n)))) ⟨[.sh (.int n), .sh (.tuple (s.map .int)), .sh (.tuple (l.map .int)), x3, x4, x5, .sh (.int t), x7, x8, x9], bx⟩ := by
  simp [c_lamps_of_1, compG_map]
  rw [cG_cond (h := fun b => some (.int (lp l ((t + b) % n)))) (by
    intro x hx b
    have := md n hn (t + x)
    simp [modD_pos (show (0 : Int) < n by omega), ix_lp (l := l) this.1 (by omega)]), fm_some, finC_ok (by simp; omega)]
theorem lp_R {f : Int → Int} {i : Int} (h0 : 0 ≤ i) (h1 : i < n) : lp ((R n).map f) i = f i := by
  unfold lp R
  rw [List.map_map, List.getD_eq_getElem?_getD, List.getElem?_map, List.getElem?_range (by omega)]
  show f ((i.toNat : Nat) : Int) = _
  rw [Int.toNat_of_nonneg h0]
/-- what is known of an even set whose differences differ -/
structure Ev (n : Nat) (s : List Int) : Prop where
  set : SetOK n s
  n2 : 2 ≤ n
  n31 : n ≤ 31
  ev : evenB n s = true
  ne : cnt n s 0 ≠ cnt n s 1
theorem Ev.pos (h : Ev n s) : s.length ≠ 0 := fun z => by
  have : s = [] := List.length_eq_zero_iff.mp z
  subst this
  exact h.ne rfl
theorem cnt_b (hs : s.length ≤ 31) (k : Int) : 0 ≤ cnt n s k ∧ cnt n s k ≤ 961 := by
  unfold cnt
  have i : ∀ a : Int, 0 ≤ S (fun b => if (a - b) % n = k then (1 : Int) else 0) s ∧ S (fun b => if (a - b) % n = k then (1 : Int) else 0) s ≤ s.length := fun a => by
    have : ∀ l : List Int, 0 ≤ S (fun b => if (a - b) % n = k then (1 : Int) else 0) l ∧ S (fun b => if (a - b) % n = k then (1 : Int) else 0) l ≤ l.length := fun l => by
      induction l with
      | nil => simp
      | cons b l ih => rw [S_cons, List.length_cons]; split <;> omega
    exact this s
  have : ∀ l : List Int, 0 ≤ S (fun a => S (fun b => if (a - b) % n = k then (1 : Int) else 0) s) l ∧ S (fun a => S (fun b => if (a - b) % n = k then (1 : Int) else 0) s) l ≤ l.length * 31 := fun l => by
    induction l with
    | nil => simp
    | cons a l ih => have := i a; rw [S_cons, List.length_cons]; omega
  have := this s
  omega
theorem lp_b (hg : ∀ x ∈ g, -10 ≤ x ∧ x ≤ 10) (i : Int) : -10 ≤ lp g i ∧ lp g i ≤ 10 := by
  unfold lp
  rw [List.getD_eq_getElem?_getD]
  cases e : g[i.toNat]? with
  | none => simp
  | some x => simpa using hg x (List.mem_of_getElem? e)
theorem told_sum (hn : 0 < n) : (seenL n s g).sum = s.length * S (lp g) (R n) := by
  unfold seenL
  rw [sum_S, seen_sum hn]
theorem told_back (h : Ev n s) {t : Int} (ht : 0 ≤ t ∧ t < n) : S (fun b => lp (seenL n s g) ((t + b) % n)) s = cnt n s 1 * S (lp g) (R n) + (cnt n s 0 - cnt n s 1) * lp g t := by
  have hn : 0 < n := by have := h.n2; omega
  rw [← seen_even hn (lp g) ht rfl (even_all h.n2 h.ev), ← seen_back hn]
  refine S_congr fun b _ => ?_
  have := md n hn (t + b)
  rw [seenL, lp_R this.1 this.2]
  refine S_congr fun a _ => ?_
  rw [md_sub]
theorem lo_loop (h : Ev n s) (hg : ∀ x ∈ g, -10 ≤ x ∧ x ≤ 10) (bx : Bx) : ∀ (ts acc : List Int) (x6 x7 x8 x9 : DV), (∀ t ∈ ts, 0 ≤ t ∧ t < n) → acc.length + ts.length ≤ 1000 →
    ∃ x6' x7' x8', loopF (stName 6) b_lamps_of_2 (ts.map .int) ⟨[.sh (.int n), .sh (.tuple (s.map .int)), .sh (.tuple ((seenL n s g).map .int)), .sh (.tuple ((difL n s).map .int)), .sh (.tuple [.int (S (lp g) (R n)), .int 1]), .ow (.list (acc.map oneP)), x6, x7, x8, x9], bx⟩ =
      .next ⟨[.sh (.int n), .sh (.tuple (s.map .int)), .sh (.tuple ((seenL n s g).map .int)), .sh (.tuple ((difL n s).map .int)), .sh (.tuple [.int (S (lp g) (R n)), .int 1]), .ow (.list ((acc ++ ts.map (lp g)).map oneP)), x6', x7', x8', x9], bx⟩
  | [], acc, x6, x7, x8, x9, _, _ => ⟨x6, x7, x8, by simp⟩
  | t :: ts, acc, x6, x7, x8, x9, ht, ha => by
    have hn : 0 < n := by have := h.n2; omega
    have h31 := h.n31
    have hl := h.set.len
    obtain ⟨y6, y7, y8, ih⟩ := lo_loop h hg bx ts (acc ++ [lp g t]) (.sh (.int t)) (.sh (.int (S (fun b => lp (seenL n s g) ((t + b) % n)) s))) (.sh (.tuple [.int ((cnt n s 0 - cnt n s 1) * lp g t), .int 1])) x9 (fun t ht' => ht t (by simp [ht'])) (by simp at ha ⊢; omega)
    refine ⟨y6, y7, y8, ?_⟩
    have tb := told_back (g := g) h (ht t (by simp))
    have b1 := cnt_b (n := n) (s := s) (by omega) 0
    have b2 := cnt_b (n := n) (s := s) (by omega) 1
    have b3 := lp_b hg t
    have b4 : -310 ≤ S (lp g) (R n) ∧ S (lp g) (R n) ≤ 310 := by
      have := S_bound (f := lp g) (B := 10) (l := R n) fun x _ => lp_b hg x
      rw [len_R] at this
      omega
    obtain ⟨a1, a2⟩ := at_dif (s := s) h.n2
    have q1 := at_ints a1
    have q2 := at_ints a2
    have hne := h.ne
    have c := c_lo hn (l := seenL n s g) (by simp [seenL]) (show s.length ≤ 1000 by omega) t (.sh (.tuple ((difL n s).map .int))) (.sh (.tuple [.int (S (lp g) (R n)), .int 1])) (.ow (.list (acc.map oneP))) x7 x8 x9 bx
    generalize cnt n s 0 = m at *
    generalize cnt n s 1 = l at *
    generalize S (lp g) (R n) = G at *
    have m1 : (m - l).natAbs < 2 ^ 40 := by omega
    have m2 : (lp g t).natAbs < 2 ^ 40 := by omega
    have m3 : mulD (.int (-l)) (.int G) = some (.int (-l * G)) := mulD_ok (.inl (by omega))
    have v : l.natAbs * G.natAbs ≤ 961 * 310 := Nat.mul_le_mul (by omega) (by omega)
    have v2 : (m - l).natAbs * (lp g t).natAbs ≤ 961 * 10 := Nat.mul_le_mul (by omega) (by omega)
    rw [← Int.natAbs_mul] at v v2
    have e1 := total_I (a := S (fun b => lp (seenL n s g) ((t + b) % n)) s) (b := -l * G) (by rw [tb]; omega) (by rw [Int.neg_mul]; omega) bx
    rw [show S (fun b => lp (seenL n s g) ((t + b) % n)) s + -l * G = (m - l) * lp g t by rw [tb, Int.neg_mul]; omega] at e1
    have e2 := over_I m1 m2 (by omega) bx
    have e3 : sumOk (acc.length + 1) = true := sumOk_lt (by simp at ha; omega)
    simp only [tI] at q1 q2
    have q1' : ixD (.tuple ((difL n s).map .int)) (.int 0) = some (.int m) := q1
    have q2' : ixD (.tuple ((difL n s).map .int)) (.int 1) = some (.int l) := q2
    have q3 : ixD (.tuple [.int G, .int 1]) (.int 0) = some (.int G) := rfl
    have q4 : ixD (.tuple [.int G, .int 1]) (.int 1) = some (.int 1) := rfl
    rw [List.append_assoc] at ih
    rw [List.map_cons, List.map_cons, ← List.singleton_append (l := List.map (lp g) ts), ← ih]
    clear ih q1 q2
    generalize (difL n s).map PyData.int = Z at *
    generalize (seenL n s g).map PyData.int = Z2 at *
    simp [b_lamps_of_2, c, sumS, q1', q2', q3, q4, m3, e1, e2, e3, -Int.neg_mul, oneP]
theorem lamps_of_ok (h : Ev n s) (hl : g.length = n) (hg : ∀ x ∈ g, -10 ≤ x ∧ x ≤ 10) (bx : Bx) : fe_lamps_of.fm [.d (.int n), .d (.tuple (s.map .int)), .d (.tuple ((seenL n s g).map .int))] bx = .ret (.tuple (g.map oneP)) bx := by
  have hn : 0 < n := by have := h.n2; omega
  have h31 := h.n31
  have hsl := h.set.len
  have h2 := h.n2
  have ls : (seenL n s g).length = n := by simp [seenL]
  obtain ⟨y6, y7, y8, e⟩ := lo_loop h hg bx (R n) [] .un .un .un .un (fun t ht => mem_R.mp ht) (by simp; omega)
  have b4 : -310 ≤ S (lp g) (R n) ∧ S (lp g) (R n) ≤ 310 := by
    have := S_bound (f := lp g) (B := 10) (l := R n) fun x _ => lp_b hg x
    rw [len_R] at this
    omega
  have eg : (R n).map (lp g) = g := by
    apply List.ext_getElem?
    intro i
    unfold R lp
    rw [List.map_map, List.getElem?_map]
    by_cases hi : i < n
    · rw [List.getElem?_range hi, List.getElem?_eq_getElem (by omega)]
      simp [List.getD_eq_getElem?_getD, show i < g.length by omega]
    · rw [List.getElem?_eq_none (by simpa using hi), List.getElem?_eq_none (by omega)]
      rfl
  rw [List.nil_append, eg, List.map_nil] at e
  obtain ⟨a1, a2⟩ := at_dif (s := s) h.n2
  have q1 := at_ints a1
  have q2 := at_ints a2
  simp only [tI] at q1 q2
  have q1' : ixD (.tuple ((difL n s).map .int)) (.int 0) = some (.int (cnt n s 0)) := q1
  have q2' : ixD (.tuple ((difL n s).map .int)) (.int 1) = some (.int (cnt n s 1)) := q2
  have hp := h.pos
  have e2 := over_I (a := s.length) (b := S (lp g) (R n)) (by omega) (by omega) (by omega) bx
  simp [fe_lamps_of, z_fm, m_lamps_of, slotA, check_ok h.set h2 h31, lamps_ok h31 ls, differences_ok h.set h2 h31, is_even_ok h.set h2 h31, h.ev, q1', q2', h.ne, told_sum hn, e2, rangeN n (by omega), f_lamps_of_3, e]
theorem lamps_of_no (h : SetOK n s) (h2 : 2 ≤ n) (h31 : n ≤ 31) {l : List Int} (hl : l.length = n) (hz : evenB n s = false ∨ cnt n s 0 = cnt n s 1) (bx : Bx) : fe_lamps_of.fm [.d (.int n), .d (.tuple (s.map .int)), .d (.tuple (l.map .int))] bx = .exc 2 (.str "even") bx := by
  obtain ⟨a1, a2⟩ := at_dif (s := s) h2
  have q1 := at_ints a1
  have q2 := at_ints a2
  simp only [tI] at q1 q2
  have q1' : ixD (.tuple ((difL n s).map .int)) (.int 0) = some (.int (cnt n s 0)) := q1
  have q2' : ixD (.tuple ((difL n s).map .int)) (.int 1) = some (.int (cnt n s 1)) := q2
  cases e : evenB n s with
  | false => simp [fe_lamps_of, z_fm, m_lamps_of, slotA, check_ok h h2 h31, lamps_ok h31 hl, differences_ok h h2 h31, is_even_ok h h2 h31, e]
  | true =>
    have z : cnt n s 0 = cnt n s 1 := hz.resolve_left (by rw [e]; simp)
    simp [fe_lamps_of, z_fm, m_lamps_of, slotA, check_ok h h2 h31, lamps_ok h31 hl, differences_ok h h2 h31, is_even_ok h h2 h31, e, q1', q2', z]
end K11

set_option maxRecDepth 100000
namespace K11
open PySem PySem.Spec PyProof.Rows L2 Gl
/-! ### signs -/
structure Sg (r : List Int) : Prop where
  lo : 1 ≤ r.length
  hi : r.length ≤ 20
  pm : ∀ x ∈ r, x = 1 ∨ x = -1
@[simp] theorem in_pm (x : Int) : inD (.int x) (.tuple [.int 1, .int (-1)]) = some (decide (x = 1 ∨ x = -1)) := by
  have := in_tI x [1, -1]
  simpa using this
theorem c_cs (r : List Int) (h : ∀ x ∈ r, x = 1 ∨ x = -1) (hl : r.length ≤ 1000) (x1 : DV) (bx : Bx) : c_check_signs_1 ⟨[.sh (.tuple (r.map .int)), x1], bx⟩ = .ok (.list (r.map fun _ => .bool true)) ⟨[.sh (.tuple (r.map .int)), x1], bx⟩ := by
  simp [c_check_signs_1, compG_map]
  rw [cG_cond (h := fun _ => some (.bool true)) (by
    intro x hx b
    simp [h x hx]), fm_some, finC_ok (by simp; omega)]
theorem signs_ok {r : List Int} (h : Sg r) (bx : Bx) : fe_check_signs.fm [.d (.tuple (r.map .int))] bx = .ret .none bx := by
  have := h.lo
  have := h.hi
  simp [fe_check_signs, z_fm, m_check_signs, slotA, c_cs r h.pm (by omega), show (1 : Int) ≤ r.length by omega, show (r.length : Int) ≤ 20 by omega]
/-- the sign at a place -/
def sg (r : List Int) (i : Nat) : Int := r.getD i 0
theorem ix_sg {r : List Int} {i : Nat} (h : i < r.length) : ixD (.tuple (r.map .int)) (.int i) = some (.int (sg r i)) := by
  refine at_ints (l := r) ?_
  unfold sg
  rw [List.getD_eq_getElem?_getD, List.getElem?_eq_getElem h]
  rfl
theorem sg_b {r : List Int} (h : Sg r) (i : Nat) : (sg r i).natAbs < 1000 := by
  unfold sg
  rw [List.getD_eq_getElem?_getD]
  cases e : r[i]? with
  | none => simp
  | some x => rcases h.pm x (List.mem_of_getElem? e) with rfl | rfl <;> simp
def agr (r : List Int) (k : Nat) : Int := S (fun i => sg r i * sg r (i + k)) (List.range (r.length - k))
def rnd (r : List Int) (k : Nat) : Int := S (fun i => sg r i * sg r ((i + k) % r.length)) (List.range r.length)
theorem sumN {γ : Type} (f : γ → Int) (l : List γ) : sumD (.list (l.map fun x => .int (f x))) = some (.int (S f l)) := by
  have := sum_list (l.map f)
  rw [List.map_map] at this
  rw [← sum_S]
  exact this
theorem c_ag {r : List Int} (h : Sg r) {k : Nat} (hk : k ≤ r.length) (x2 : DV) (bx : Bx) : c_agree_1 ⟨[.sh (.tuple (r.map .int)), .sh (.int k), x2], bx⟩ = .ok (.list ((List.range (r.length - k)).map fun i => .int (sg r i * sg r (i + k)))) ⟨[.sh (.tuple (r.map .int)), .sh (.int k), x2], bx⟩ := by
  have := h.hi
  simp [c_agree_1, range1' (show -1000 ≤ (r.length : Int) - k by omega) (by omega), compG_map]
  rw [cG_cond (h := fun i => some (.int (sg r i * sg r (i + k)))) (by
    intro i hi b
    rw [List.mem_range] at hi
    have e1 := ix_sg (r := r) (i := i) (by omega)
    have e2 := ix_sg (r := r) (i := i + k) (by omega)
    rw [Int.natCast_add] at e2
    simp [e1, e2, mulC (sg_b h i)]), fm_some, finC_ok (by simp; omega)]
theorem c_lag {r : List Int} (h : Sg r) {k : Nat} (hk : k ≤ r.length) (x2 : DV) (bx : Bx) : c__law_agree_1 ⟨[.sh (.tuple (r.map .int)), .sh (.int k), x2], bx⟩ = .ok (.list ((List.range (r.length - k)).map fun i => .int (sg r i * sg r (i + k)))) ⟨[.sh (.tuple (r.map .int)), .sh (.int k), x2], bx⟩ := c_ag h hk x2 bx
theorem agree_ok {r : List Int} (h : Sg r) {k : Nat} (hk : k < r.length) (bx : Bx) : fe_agree.fm [.d (.tuple (r.map .int)), .d (.int k)] bx = .ret (.int (agr r k)) bx := by
  simp [fe_agree, z_fm, m_agree, slotA, signs_ok h, c_ag h (show k ≤ r.length by omega), sumN, hk, agr]
theorem agree_bad {r : List Int} (h : Sg r) (bx : Bx) : fe_agree.fm [.d (.tuple (r.map .int)), .d (.int r.length)] bx = .exc 0 (.str "by") bx := by
  simp [fe_agree, z_fm, m_agree, slotA, signs_ok h]
theorem lagree_ok {r : List Int} (h : Sg r) {k : Nat} (hk : k ≤ r.length) (bx : Bx) : fe__law_agree.fm [.d (.tuple (r.map .int)), .d (.int k)] bx = .ret (.int (agr r k)) bx := by
  simp [fe__law_agree, z_fm, m__law_agree, slotA, c_lag h hk, sumN, agr]
theorem c_rd {r : List Int} (h : Sg r) {k : Nat} (x2 : DV) (bx : Bx) : c_round_agree_1 ⟨[.sh (.tuple (r.map .int)), .sh (.int k), x2], bx⟩ = .ok (.list ((List.range r.length).map fun i => .int (sg r i * sg r ((i + k) % r.length)))) ⟨[.sh (.tuple (r.map .int)), .sh (.int k), x2], bx⟩ := by
  have := h.hi
  have := h.lo
  simp [c_round_agree_1, range1' (show -1000 ≤ (r.length : Int) by omega) (by omega), compG_map]
  rw [cG_cond (h := fun i => some (.int (sg r i * sg r ((i + k) % r.length)))) (by
    intro i hi b
    rw [List.mem_range] at hi
    have e1 := ix_sg (r := r) (i := i) (by omega)
    have e2 := ix_sg (r := r) (i := (i + k) % r.length) (Nat.mod_lt _ (by omega))
    rw [Int.natCast_emod, Int.natCast_add] at e2
    simp [e1, e2, modD_pos (show (0 : Int) < r.length by omega), mulC (sg_b h i)]), fm_some, finC_ok (by simp; omega)]
theorem round_ok {r : List Int} (h : Sg r) {k : Nat} (bx : Bx) : fe_round_agree.fm [.d (.tuple (r.map .int)), .d (.int k)] bx = .ret (.int (rnd r k)) bx := by
  simp [fe_round_agree, z_fm, m_round_agree, slotA, signs_ok h, c_rd h, sumN, rnd]
theorem S_range_add (f : Nat → Int) (x y : Nat) : S f (List.range (x + y)) = S f (List.range x) + S (fun i => f (x + i)) (List.range y) := by
  rw [List.range_add, S_app, S_map]
theorem rnd_split {r : List Int} {k : Nat} (h0 : 0 < k) (h1 : k < r.length) : rnd r k = agr r k + agr r (r.length - k) := by
  unfold rnd agr
  generalize hN : r.length = N at *
  rw [show List.range N = List.range ((N - k) + k) by rw [Nat.sub_add_cancel (by omega)], S_range_add, show N - (N - k) = k by omega]
  congr 1
  · refine S_congr fun i hi => ?_
    rw [List.mem_range] at hi
    rw [Nat.mod_eq_of_lt (by omega)]
  · refine S_congr fun i hi => ?_
    rw [List.mem_range] at hi
    rw [show N - k + i + k = i + N by omega, Nat.add_mod_right, Nat.mod_eq_of_lt (by omega), Int.mul_comm, Nat.add_comm (N - k)]
/-! ### Barker's rows, mates -/
def bark (r : List Int) : Bool := (List.range (r.length - 1)).all fun i => decide ((agr r (1 + i)).natAbs ≤ 1)
theorem range_1 {N : Nat} (h1 : 1 ≤ N) (h : N < 1000) : rangeOf [.int 1, .int N] = some ((List.range (N - 1)).map fun k => .int ((1 + k : Nat) : Int)) := by
  rw [range2 (by omega) (by omega) (by omega) (by omega), show ((N : Int) - 1).toNat = N - 1 by omega]
  rfl
theorem barker_ok {r : List Int} (h : Sg r) (bx : Bx) : fe_is_barker.fm [.d (.tuple (r.map .int))] bx = .ret (.bool (bark r)) bx := by
  have := h.hi
  have := h.lo
  have c : c_is_barker_1 ⟨[.sh (.tuple (r.map .int)), .un], bx⟩ = .ok (.list ((List.range (r.length - 1)).map fun i => .bool (decide ((agr r (1 + i)).natAbs ≤ 1)))) ⟨[.sh (.tuple (r.map .int)), .un], bx⟩ := by
    simp [c_is_barker_1, range_1 (N := r.length) (by omega) (by omega), compG_map, -Int.natCast_add]
    rw [cG_cond (h := fun i => some (.bool (decide ((agr r (1 + i)).natAbs ≤ 1)))) (by
      intro i hi b
      rw [List.mem_range] at hi
      simp [agree_ok h (show 1 + i < r.length by omega), -Int.natCast_add]
      try omega), fm_some, finC_ok (by simp; omega)]
  have e := all_map (fun i => decide ((agr r (1 + i)).natAbs ≤ 1)) (List.range (r.length - 1))
  simp only [fe_is_barker, z_fm, List.length_cons, List.length_nil, m_is_barker, slotA, List.map_cons, List.map_nil, List.cons_append, List.nil_append]
  simp [slotA, signs_ok h, c, e, bark, -z_all]
def mate (a b : List Int) : Bool := (List.range (a.length - 1)).all fun i => decide (agr a (1 + i) + agr b (1 + i) = 0)
theorem mates_ok {a b : List Int} (ha : Sg a) (hb : Sg b) (bx : Bx) : fe_mates.fm [.d (.tuple (a.map .int)), .d (.tuple (b.map .int))] bx = .ret (.bool (if a.length = b.length then mate a b else false)) bx := by
  have := ha.hi
  have := ha.lo
  by_cases hl : a.length = b.length
  · have c : c_mates_1 ⟨[.sh (.tuple (a.map .int)), .sh (.tuple (b.map .int)), .un], bx⟩ = .ok (.list ((List.range (a.length - 1)).map fun i => .bool (decide (agr a (1 + i) + agr b (1 + i) = 0)))) ⟨[.sh (.tuple (a.map .int)), .sh (.tuple (b.map .int)), .un], bx⟩ := by
      simp [c_mates_1, range_1 (N := a.length) (by omega) (by omega), compG_map, -Int.natCast_add]
      rw [cG_cond (h := fun i => some (.bool (decide (agr a (1 + i) + agr b (1 + i) = 0)))) (by
        intro i hi b
        rw [List.mem_range] at hi
        simp [agree_ok ha (show 1 + i < a.length by omega), agree_ok hb (show 1 + i < _ by omega), -Int.natCast_add]), fm_some, finC_ok (by simp; omega)]
    have e := all_map (fun i => decide (agr a (1 + i) + agr b (1 + i) = 0)) (List.range (a.length - 1))
    have hl' : (a.length : Int) = b.length := by omega
    rw [if_pos hl]
    simp [fe_mates, z_fm, m_mates, slotA, signs_ok ha, signs_ok hb, c, e, mate, hl', -z_all]
  · rw [if_neg hl]
    simp [fe_mates, z_fm, m_mates, slotA, signs_ok ha, signs_ok hb, show ¬ (a.length : Int) = b.length by omega]
end K11

set_option maxRecDepth 100000
namespace K11
open PySem PySem.Spec PyProof.Rows L2 Gl
/-! ### mates doubled -/
theorem S_zero {α : Type} {f : α → Int} {l : List α} (h : ∀ x ∈ l, f x = 0) : S f l = 0 := by
  rw [S_congr h, S_const]
  omega
theorem sg_l {a b : List Int} {i : Nat} (h : i < a.length) : sg (a ++ b) i = sg a i := by
  unfold sg
  rw [List.getD_eq_getElem?_getD, List.getD_eq_getElem?_getD, List.getElem?_append_left h]
theorem sg_r {a b : List Int} {i : Nat} (h : a.length ≤ i) : sg (a ++ b) i = sg b (i - a.length) := by
  unfold sg
  rw [List.getD_eq_getElem?_getD, List.getD_eq_getElem?_getD, List.getElem?_append_right h]
def neg (b : List Int) : List Int := b.map fun x => -x
@[simp] theorem len_neg (b : List Int) : (neg b).length = b.length := by simp [neg]
theorem sg_neg (b : List Int) (i : Nat) : sg (neg b) i = - sg b i := by
  unfold sg neg
  rw [List.getD_eq_getElem?_getD, List.getD_eq_getElem?_getD, List.getElem?_map]
  cases b[i]? <;> simp
theorem golay {a b : List Int} (hl : a.length = b.length) (k : Nat) : agr (a ++ b) k + agr (a ++ neg b) k = if k < a.length then 2 * (agr a k + agr b k) else if k < 2 * a.length then 0 else 0 := by
  unfold agr
  rw [List.length_append, List.length_append, len_neg, ← hl]
  generalize hN : a.length = N at *
  rw [← S_add]
  have z : ∀ i, i < N → N ≤ i + k → i + k < 2 * N → sg (a ++ b) i * sg (a ++ b) (i + k) + sg (a ++ neg b) i * sg (a ++ neg b) (i + k) = 0 := fun i h1 h2 h3 => by
    rw [sg_l (a := a) (b := b) (i := i) (by omega), sg_r (a := a) (b := b) (i := i + k) (by omega), sg_l (a := a) (b := neg b) (i := i) (by omega), sg_r (a := a) (b := neg b) (i := i + k) (by omega), sg_neg]
    grind
  by_cases hk : k < N
  · rw [if_pos hk, show N + N - k = (N - k) + (k + (N - k)) by omega, S_range_add, S_range_add]
    have e1 : S (fun i => sg (a ++ b) i * sg (a ++ b) (i + k) + sg (a ++ neg b) i * sg (a ++ neg b) (i + k)) (List.range (N - k)) = 2 * S (fun i => sg a i * sg a (i + k)) (List.range (N - k)) := by
      rw [← S_mul]
      refine S_congr fun i hi => ?_
      rw [List.mem_range] at hi
      rw [sg_l (by omega), sg_l (by omega), sg_l (by omega), sg_l (by omega)]
      omega
    have e2 : S (fun i => sg (a ++ b) (N - k + i) * sg (a ++ b) (N - k + i + k) + sg (a ++ neg b) (N - k + i) * sg (a ++ neg b) (N - k + i + k)) (List.range k) = 0 := S_zero fun i hi => by
      rw [List.mem_range] at hi
      exact z _ (by omega) (by omega) (by omega)
    have e3 : S (fun i => sg (a ++ b) (N - k + (k + i)) * sg (a ++ b) (N - k + (k + i) + k) + sg (a ++ neg b) (N - k + (k + i)) * sg (a ++ neg b) (N - k + (k + i) + k)) (List.range (N - k)) = 2 * S (fun i => sg b i * sg b (i + k)) (List.range (N - k)) := by
      rw [← S_mul]
      refine S_congr fun i hi => ?_
      rw [List.mem_range] at hi
      rw [sg_r (by omega), sg_r (by omega), sg_r (by omega), sg_r (by omega), sg_neg, sg_neg, hN, show N - k + (k + i) - N = i by omega, show N - k + (k + i) + k - N = i + k by omega]
      grind
    rw [e1, e2, e3]
    omega
  · rw [if_neg hk]
    have : S (fun i => sg (a ++ b) i * sg (a ++ b) (i + k) + sg (a ++ neg b) i * sg (a ++ neg b) (i + k)) (List.range (N + N - k)) = 0 := S_zero fun i hi => by
      rw [List.mem_range] at hi
      exact z _ (by omega) (by omega) (by omega)
    rw [this]
    split <;> rfl
theorem mate_dbl {a b : List Int} (hl : a.length = b.length) (h : mate a b = true) : mate (a ++ b) (a ++ neg b) = true := by
  unfold mate at h ⊢
  rw [List.all_eq_true] at h ⊢
  intro i hi
  rw [List.mem_range] at hi
  rw [decide_eq_true_eq, golay hl]
  split
  · rename_i hk
    have := h i (by rw [List.mem_range]; omega)
    rw [decide_eq_true_eq] at this
    omega
  · split <;> rfl
theorem Sg.app {a b : List Int} (ha : Sg a) (hb : Sg b) (hl : a.length + b.length ≤ 20) : Sg (a ++ b) := ⟨by have := ha.lo; simp; omega, by simpa using hl, fun x hx => (List.mem_append.mp hx).elim (ha.pm x) (hb.pm x)⟩
theorem Sg.neg {b : List Int} (h : Sg b) : Sg (neg b) := ⟨by rw [len_neg]; exact h.lo, by rw [len_neg]; exact h.hi, fun x hx => by
  obtain ⟨y, hy, rfl⟩ := List.mem_map.mp hx
  rcases h.pm y hy with rfl | rfl <;> simp⟩
theorem c_db {b : List Int} (hb : b.length ≤ 1000) (x0 x2 : DV) (bx : Bx) : c_doubled_1 ⟨[x0, .sh (.tuple (b.map .int)), x2], bx⟩ = .ok (.list ((neg b).map .int)) ⟨[x0, .sh (.tuple (b.map .int)), x2], bx⟩ := by
  simp [c_doubled_1, compG_map]
  rw [cG_cond (h := fun x => some (.int (-x))) (by
    intro i hi b
    simp), fm_some, finC_ok (by simp; omega)]
  unfold neg
  rw [List.map_map]
  rfl
def pairD (a b : List Int) : D := .tuple [.tuple (a.map .int), .tuple (b.map .int)]
theorem doubled_ok {a b : List Int} (ha : Sg a) (hb : Sg b) (hl : a.length = b.length) (h10 : a.length ≤ 10) (bx : Bx) : fe_doubled.fm [.d (.tuple (a.map .int)), .d (.tuple (b.map .int))] bx = if mate a b = true then .ret (pairD (a ++ b) (a ++ neg b)) bx else .exc 2 (.str "mates") bx := by
  have m := mates_ok ha hb bx
  rw [if_pos hl] at m
  have s1 : sumOk (a.length + b.length) = true := sumOk_lt (by omega)
  cases e : mate a b with
  | false => simp [fe_doubled, z_fm, m_doubled, slotA, m, e]
  | true => simp [fe_doubled, z_fm, m_doubled, slotA, m, e, show ¬ (10 : Int) < a.length by omega, c_db (b := b) (by omega), s1, pairD]
/-! ### rows of signs -/
theorem compL2_pure {γ : Type} {sl : List DV} {st st1 : Tgt} {mt mt1 : M Bool} {mi1 : M (List D)} {vs1 : List Nat} {me : M D} {bx : Bx} (g : γ → D) (f : γ → List D) : ∀ {l : List γ}, (∀ x ∈ l, ∃ sl' S1 ds1 S2, st (g x) sl = some sl' ∧ mt ⟨sl', bx⟩ = .ok true S1 ∧ mi1 S1 = .ok ds1 S2 ∧ compL (wipeD (sl'.map hideD) vs1) st1 mt1 me ds1 S2.bx = some (f x, bx)) →
    compL2 sl st mt mi1 vs1 st1 mt1 me (l.map g) bx = some (l.flatMap f, bx)
  | [], _ => rfl
  | x :: l, h => by
    obtain ⟨sl', S1, ds1, S2, e1, e2, e3, e4⟩ := h x (by simp)
    have ih := compL2_pure (sl := sl) (st := st) (st1 := st1) (mt := mt) (mt1 := mt1) (mi1 := mi1) (vs1 := vs1) (me := me) (bx := bx) g f (l := l) fun y hy => h y (List.mem_cons_of_mem _ hy)
    rw [List.map_cons]
    simp only [compL2, e1, Option.bind_some, e2, e3, e4, ih, Option.map_some, List.flatMap_cons]
def pm2 (u v : Int) : Nat → List (List Int)
  | 0 => [[]]
  | k + 1 => (pm2 u v k).flatMap fun r => [r ++ [u], r ++ [v]]
theorem flat2_len {α : Type} (f g : α → α) : ∀ l : List α, (l.flatMap fun r => [f r, g r]).length = 2 * l.length
  | [] => rfl
  | a :: l => by rw [List.flatMap_cons, List.length_append, flat2_len f g l, List.length_cons]; simp; omega
theorem pm2_len (u v : Int) : ∀ k, (pm2 u v k).length = 2 ^ k
  | 0 => rfl
  | k + 1 => by
    show ((pm2 u v k).flatMap fun r => [r ++ [u], r ++ [v]]).length = _
    rw [flat2_len, pm2_len u v k, Nat.pow_succ]
    omega
theorem pm2_mem {u v : Int} : ∀ {k : Nat} {r : List Int}, r ∈ pm2 u v k → r.length = k ∧ ∀ x ∈ r, x = u ∨ x = v
  | 0, r, h => by
    have : r = [] := by simpa [pm2] using h
    subst this
    simp
  | k + 1, r, h => by
    obtain ⟨q, hq, hr⟩ := List.mem_flatMap.mp (show r ∈ (pm2 u v k).flatMap fun r => [r ++ [u], r ++ [v]] from h)
    obtain ⟨h1, h2⟩ := pm2_mem hq
    simp only [List.mem_cons, List.not_mem_nil, or_false] at hr
    rcases hr with rfl | rfl
    · refine ⟨by simp [h1], fun x hx => ?_⟩
      rcases List.mem_append.mp hx with z | z
      · exact h2 x z
      · exact .inl (by simpa using z)
    · refine ⟨by simp [h1], fun x hx => ?_⟩
      rcases List.mem_append.mp hx with z | z
      · exact h2 x z
      · exact .inr (by simpa using z)
theorem pm2_map {u v : Int} (f : Int → Int) : ∀ k, (pm2 u v k).map (fun r => r.map f) = pm2 (f u) (f v) k
  | 0 => rfl
  | k + 1 => by
    show ((pm2 u v k).flatMap fun r => [r ++ [u], r ++ [v]]).map _ = (pm2 (f u) (f v) k).flatMap fun r => [r ++ [f u], r ++ [f v]]
    rw [← pm2_map f k, List.map_flatMap, List.flatMap_map]
    congr 1
    funext r
    simp
abbrev rowI (r : List Int) : D := .tuple (r.map .int)
theorem c_bk {l : List (List Int)} (hl : l.length ≤ 1000) (hr : ∀ r ∈ l, r.length ≤ 100) (x0 x2 x3 x4 : DV) (bx : Bx) : c_barkers_1 ⟨[x0, .ow (.list (l.map rowI)), x2, x3, x4], bx⟩ = .ok (.ow (.list ((l.flatMap fun r => [r ++ [-1], r ++ [1]]).map rowI))) ⟨[x0, .sh (.list (l.map rowI)), x2, x3, x4], bx⟩ := by
  have e := compL2_pure (sl := wipeD ([x0, .sh (.list (l.map rowI)), x2, x3, x4].map hideD) [3, 4]) (st := stName 3) (st1 := stName 4) (mt := mC true) (mt1 := mC true) (mi1 := mItems (mTup [(mOp1 negD (mC (.int 1))), (mC (.int 1))])) (vs1 := [4]) (me := mOp2 addD (mPeek 3) (mTup [(mVar 4)])) (bx := bx) rowI (fun r => [rowI (r ++ [-1]), rowI (r ++ [1])]) (l := l) fun r hr' => by
    have := hr r hr'
    have s1 : sumOk (r.length + 1) = true := sumOk_lt (by omega)
    exact ⟨[hideD x0, .sh (.list (l.map rowI)), hideD x2, .sh (rowI r), .un], ⟨[hideD x0, .sh (.list (l.map rowI)), hideD x2, .sh (rowI r), .un], bx⟩, [.int (-1), .int 1], ⟨[hideD x0, .sh (.list (l.map rowI)), hideD x2, .sh (rowI r), .un], bx⟩, by simp, by simp, by simp, by simp [compL, s1]⟩
  unfold c_barkers_1 mComp2N
  rw [z_bind, z_items, y_var]
  simp only [List.getElem?_cons_succ, List.getElem?_cons_zero, rdV_ow, z_ok, z_ilist, z_some, List.set_cons_succ, List.set_cons_zero, js_nil, e]
  have hlen : (l.flatMap fun r => [rowI (r ++ [-1]), rowI (r ++ [1])]) = (l.flatMap fun r => [r ++ [-1], r ++ [1]]).map rowI := by
    rw [List.map_flatMap]
    rfl
  rw [hlen, if_pos (sumOk_lt (by rw [List.length_map, flat2_len (fun r => r ++ [(-1 : Int)]) (fun r => r ++ [(1 : Int)])]; omega))]
theorem bk_loop (x0 x3 x4 : DV) (bx : Bx) : ∀ (m k : Nat) (x2 : DV) (ts : List Int), ts.length = m → k + m ≤ 9 → ∃ x2', loopF (stName 2) b_barkers_2 (ts.map .int) ⟨[x0, .ow (.list ((pm2 (-1) 1 k).map rowI)), x2, x3, x4], bx⟩ = .next ⟨[x0, .ow (.list ((pm2 (-1) 1 (k + m)).map rowI)), x2', x3, x4], bx⟩
  | 0, k, x2, ts, h, _ => by
    obtain rfl : ts = [] := List.length_eq_zero_iff.mp h
    exact ⟨x2, rfl⟩
  | m + 1, k, x2, t :: ts, h, hk => by
    obtain ⟨y, ih⟩ := bk_loop x0 x3 x4 bx m (k + 1) (.sh (.int t)) ts (by simpa using h) (by omega)
    refine ⟨y, ?_⟩
    have hp : 2 ^ k ≤ 2 ^ 9 := Nat.pow_le_pow_right (by decide) (by omega)
    have e := c_bk (l := pm2 (-1) 1 k) (by rw [pm2_len]; omega) (fun r hr => by have := (pm2_mem hr).1; omega) x0 (.sh (.int t)) x3 x4 bx
    rw [show k + (m + 1) = k + 1 + m by omega, ← ih]
    simp [b_barkers_2, e, pm2]
theorem barkers_ok {m : Nat} (h1 : 1 ≤ m) (h9 : m ≤ 9) (bx : Bx) : fe_barkers.fm [.d (.int m)] bx = .ret (.list (((pm2 (-1) 1 m).filter bark).map rowI)) bx := by
  obtain ⟨y, e⟩ := bk_loop (.sh (.int m)) .un .un bx m 0 .un (R m) (by simp) (by omega)
  rw [Nat.zero_add] at e
  have e' : loopF (stName 2) b_barkers_2 ((R m).map .int) ⟨[.sh (.int m), .ow (.list [.tuple []]), .un, .un, .un], bx⟩ = _ := e
  have hp : 2 ^ m ≤ 2 ^ 9 := Nat.pow_le_pow_right (by decide) h9
  have c : c_barkers_4 ⟨[.sh (.int m), .ow (.list ((pm2 (-1) 1 m).map rowI)), y, .un, .un], bx⟩ = .ok (.list (((pm2 (-1) 1 m).filter bark).map rowI)) ⟨[.sh (.int m), .sh (.list ((pm2 (-1) 1 m).map rowI)), y, .un, .un], bx⟩ := by
    simp [c_barkers_4, compG_map]
    rw [cG_cond (h := fun r => if bark r = true then some (rowI r) else none) (by
      intro r hr b
      obtain ⟨a1, a2⟩ := pm2_mem hr
      have : Sg r := ⟨by omega, by omega, fun x hx => (a2 x hx).symm⟩
      simp [barker_ok this, some_ite]), fm_ite, finC_ok (by
        rw [List.length_map]
        exact Nat.le_trans (List.length_filter_le ..) (by rw [pm2_len]; omega))]
  simp [fe_barkers, z_fm, m_barkers, slotA, show ¬ (m : Int) < 1 by omega, show ¬ (13 : Int) < m by omega, rangeN m (by omega), f_barkers_3, e', c]
theorem barkers_0 (bx : Bx) : fe_barkers.fm [.d (.int 0)] bx = .exc 0 (.str "many") bx := by
  simp [fe_barkers, z_fm, m_barkers, slotA]
theorem barkers_14 (bx : Bx) : fe_barkers.fm [.d (.int 14)] bx = .exc 1 (.str "signs") bx := by
  simp [fe_barkers, z_fm, m_barkers, slotA]
end K11

set_option maxRecDepth 100000
namespace K11
open PySem PySem.Spec PyProof.Rows L2 Gl
/-! ### squares by a prime -/
def sqs (p : Nat) : List Int := (List.range (p - 1)).map fun k => ((1 + k : Nat) : Int) * ((1 + k : Nat) : Int) % p
def sqL (p : Nat) : List Int := srtI (intsU [] (sqs p))
def hasD (p : Nat) : Bool := (List.range (p - 2)).any fun k => decide ((p : Int) % ((2 + k : Nat) : Int) = 0)
theorem c_sq1 {p : Nat} (h : 3 ≤ p) (h2 : p ≤ 31) (x1 : DV) (bx : Bx) : c_squares_1 ⟨[.sh (.int p), x1], bx⟩ = .ok (.list ((List.range (p - 2)).map fun k => .bool (decide ((p : Int) % ((2 + k : Nat) : Int) = 0)))) ⟨[.sh (.int p), x1], bx⟩ := by
  have r : rangeOf [.int 2, .int p] = some ((List.range (p - 2)).map fun k => .int ((2 + k : Nat) : Int)) := by
    rw [range2 (by omega) (by omega) (by omega) (by omega), show ((p : Int) - 2).toNat = p - 2 by omega]
    rfl
  simp [c_squares_1, r, compG_map, -Int.natCast_add]
  rw [cG_cond (h := fun k => some (.bool (decide ((p : Int) % ((2 + k : Nat) : Int) = 0)))) (by
    intro x hx b
    simp [modD_pos (i := p) (show (0 : Int) < ((2 + x : Nat) : Int) by omega), -Int.natCast_add]), fm_some, finC_ok (by simp; omega)]
theorem any_sq (p : Nat) : anyD (.list ((List.range (p - 2)).map fun k => .bool (decide ((p : Int) % ((2 + k : Nat) : Int) = 0)))) = some (.bool (hasD p)) := any_map' fun _ _ => rfl
theorem c_sqE {p : Nat} (h : 3 ≤ p) (h2 : p ≤ 31) (x1 : DV) (bx : Bx) : ∃ l, c_squares_1 ⟨[.sh (.int p), x1], bx⟩ = .ok (.list l) ⟨[.sh (.int p), x1], bx⟩ ∧ anyD (.list l) = some (.bool (hasD p)) := ⟨_, c_sq1 h h2 x1 bx, any_sq p⟩
theorem c_sq2 {p : Nat} (h : 3 ≤ p) (h2 : p ≤ 31) (x1 : DV) (bx : Bx) : c_squares_2 ⟨[.sh (.int p), x1], bx⟩ = .ok (.list ((sqs p).map .int)) ⟨[.sh (.int p), x1], bx⟩ := by
  simp [c_squares_2, range_1 (N := p) (by omega) (by omega), compG_map, -Int.natCast_add]
  rw [cG_cond (h := fun k => some (.int (((1 + k : Nat) : Int) * ((1 + k : Nat) : Int) % p))) (by
    intro x hx b
    rw [List.mem_range] at hx
    simp [mulC (a := ((1 + x : Nat) : Int)) (b := ((1 + x : Nat) : Int)) (by omega), modD_pos (show (0 : Int) < p by omega), -Int.natCast_add]), fm_some, finC_ok (by simp; omega)]
  unfold sqs
  rw [List.map_map]
  rfl
theorem uq_sq {p : Nat} (h2 : p ≤ 31) : uq (sqs p) < 64 := by
  have := uq_le (sqs p)
  have e : (sqs p).length = p - 1 := by simp [sqs]
  omega
theorem squares_ok {p : Nat} (h : 3 ≤ p) (h2 : p ≤ 31) (hd : hasD p = false) (bx : Bx) : fe_squares.fm [.d (.int p)] bx = .ret (.tuple ((sqL p).map .int)) bx := by
  have e := sortSet_lst (l := sqs p) (by simp [sqs]; omega) (uq_sq h2)
  obtain ⟨l, a1, a2⟩ := c_sqE h h2 .un bx
  rw [hd] at a2
  simp [fe_squares, z_fm, m_squares, slotA, a1, a2, hd, c_sq2 h h2, e, sqL, show (3 : Int) ≤ p by omega, show (p : Int) ≤ 31 by omega, -z_any]
theorem squares_bad {d : D} (h : d ∈ [PyData.int 1, .int 9, .int 33, .int 2, .none, .bool true]) (bx : Bx) : fe_squares.fm [.d d] bx = .exc 0 (.str "prime") bx := by
  obtain ⟨l, e9, a9⟩ := c_sqE (p := 9) (by omega) (by omega) .un bx
  have d9 : hasD 9 = true := by decide
  rw [d9] at a9
  have e9' : c_squares_1 ⟨[.sh (.int 9), .un], bx⟩ = .ok (.list l) ⟨[.sh (.int 9), .un], bx⟩ := e9
  simp only [List.mem_cons, List.not_mem_nil, or_false] at h
  rcases h with rfl | rfl | rfl | rfl | rfl | rfl
  · simp [fe_squares, z_fm, m_squares, slotA]
  · simp only [fe_squares, z_fm, List.length_cons, List.length_nil, m_squares, slotA, List.map_cons, List.map_nil, List.cons_append, List.nil_append]
    simp [e9', a9, -z_any, -List.map_const', slotA]
  · simp [fe_squares, z_fm, m_squares, slotA]
  · simp [fe_squares, z_fm, m_squares, slotA]
  · simp [fe_squares, z_fm, m_squares, slotA]
  · simp [fe_squares, z_fm, m_squares, slotA]
def primes : List Nat := [3, 5, 7, 11, 13, 17, 19, 23, 29, 31]
theorem pr_ok : ∀ p ∈ primes, 3 ≤ p ∧ p ≤ 31 ∧ hasD p = false := by decide +kernel
theorem sq_set {p : Nat} (h : 3 ≤ p) (h0 : ∀ x ∈ sqs p, x ≠ -1) : SetOK p (sqL p) := by
  obtain ⟨h1, h2⟩ := intsU_facts (sqs p) [] List.nodup_nil
  refine ⟨srtI_asc h1, fun a ha => ?_⟩
  have := (h2 a).mp ((srtI_perm _).mem_iff.mp ha)
  rcases this with z | z
  · simp at z
  · obtain ⟨k, _, rfl⟩ := List.mem_map.mp z
    exact md p (by omega) _
theorem sq_set' {p : Nat} (h : 3 ≤ p) : SetOK p (sqL p) := sq_set h fun x hx => by
  obtain ⟨k, _, rfl⟩ := List.mem_map.mp hx
  have := md p (by omega) (((1 + k : Nat) : Int) * ((1 + k : Nat) : Int))
  omega
theorem sq_dif (p : Nat) : difL p (sqL p) = difL p (intsU [] (sqs p)) := by
  unfold difL sqL
  exact List.map_congr_left fun k _ => cnt_perm (srtI_perm _) k
theorem ev_ok : ∀ p ∈ primes, p % 4 = 3 → 3 < p → evenB p (intsU [] (sqs p)) = true := by decide +kernel
theorem sq_even {p : Nat} (h : p ∈ primes) (h4 : p % 4 = 3) (h3 : 3 < p) : evenB p (sqL p) = true := by
  unfold evenB
  rw [sq_dif]
  exact ev_ok p h h4 h3
end K11

set_option maxRecDepth 100000
namespace K11
open PySem PySem.Spec PyProof.Rows L2 Gl
/-! ### even sets -/
def mxI : List Int → Int
  | [] => 0
  | x :: xs => xs.foldl max x
theorem mmOk_ints (l : List Int) : mmOk (l.map .int) = true := by
  have := depth_ints l
  unfold mmOk
  simp only [Bool.and_eq_true, decide_eq_true_eq, List.all_eq_true, List.mem_map, forall_exists_index, and_imp, forall_apply_eq_imp_iff₂]
  exact ⟨⟨fun a _ b _ => rfl, fun a _ => trivial⟩, by omega⟩
theorem max_ints {l : List Int} (h : l ≠ []) : max1D (.tuple (l.map .int)) = some (.int (mxI l)) := by
  cases l with
  | nil => exact absurd rfl h
  | cons x xs =>
    show (if mmOk ((x :: xs).map PyData.int) = true then some (PySem.W.maxD (.int x) (xs.map .int)) else none) = _
    rw [if_pos (mmOk_ints _), PySem.W.maxD_ints]
    rfl
def lastI (r : List Int) : Int := r.getLastD 0
def cand (n : Nat) (x : Int) : List Int := (List.range (n - (x + 1)).toNat).map fun (k : Nat) => x + 1 + (k : Int)
def small (n : Nat) (most : Int) (f : List Int) : Bool := decide (mxI (difL n f).tail ≤ most)
def stepR (n : Nat) (most : Int) (rows : List (List Int)) : List (List Int) := rows.flatMap fun r => ((cand n (lastI r)).map fun o => r ++ [o]).filter (small n most)
def iterR (n : Nat) (most : Int) : Nat → List (List Int) → List (List Int)
  | 0, rows => rows
  | k + 1, rows => iterR n most k (stepR n most rows)
def evenP (n m : Nat) : List (List Int) := if (m : Int) * (m - 1) % (n - 1) = 0 then (iterR n ((m : Int) * (m - 1) / (n - 1)) (m - 1) [[0]]).filter (evenB n) else []
/-- a row of places, not empty -/
structure Rw (n : Nat) (r : List Int) : Prop where
  set : SetOK n r
  ne : r ≠ []
theorem Rw.last {n : Nat} {r : List Int} (h : Rw n r) : ixD (rowI r) (.int (-1)) = some (.int (lastI r)) ∧ 0 ≤ lastI r ∧ lastI r < n ∧ ∀ a ∈ r, a ≤ lastI r := by
  have hl : 0 < r.length := List.length_pos_iff.mpr h.ne
  have e : r[r.length - 1]? = some (lastI r) := by
    unfold lastI
    rw [← List.getLast?_eq_getElem?, List.getLastD_eq_getLast?]
    cases e : r.getLast? with
    | none => exact absurd (List.getLast?_eq_none_iff.mp e) h.ne
    | some x => rfl
  have hm := List.mem_of_getElem? e
  refine ⟨?_, (h.set.rng _ hm).1, (h.set.rng _ hm).2, fun a ha => ?_⟩
  · show atI (r.map PyData.int) (-1) = _
    unfold atI ixN
    rw [List.length_map, if_neg (by omega), if_pos (by omega)]
    show (r.map PyData.int)[((-1 : Int) + (r.length : Nat)).toNat]? = _
    rw [show ((-1 : Int) + (r.length : Nat)).toNat = r.length - 1 by omega, List.getElem?_map, e]
    rfl
  · obtain ⟨i, hi, rfl⟩ := List.mem_iff_getElem.mp ha
    obtain ⟨h1, h2⟩ := List.getElem?_eq_some_iff.mp e
    by_cases hi' : i = r.length - 1
    · subst hi'
      omega
    · have := List.pairwise_iff_getElem.mp h.set.asc i (r.length - 1) hi h1 (by omega)
      omega
theorem Rw.ext {n : Nat} {r : List Int} (h : Rw n r) {o : Int} (ho : o ∈ cand n (lastI r)) : Rw n (r ++ [o]) := by
  obtain ⟨_, l0, l1, l2⟩ := h.last
  obtain ⟨k, hk, rfl⟩ := List.mem_map.mp ho
  rw [List.mem_range] at hk
  refine ⟨⟨?_, fun a ha => ?_⟩, by simp⟩
  · rw [List.pairwise_append]
    refine ⟨h.set.asc, by simp, fun a ha b hb => ?_⟩
    have := l2 a ha
    rw [List.mem_singleton] at hb
    omega
  · rcases List.mem_append.mp ha with z | z
    · exact h.set.rng a z
    · rw [List.mem_singleton] at z
      omega
theorem step_rw {n : Nat} {most : Int} {rows : List (List Int)} (h : ∀ r ∈ rows, Rw n r) : ∀ r ∈ stepR n most rows, Rw n r := fun r hr => by
  obtain ⟨q, hq, hr⟩ := List.mem_flatMap.mp hr
  obtain ⟨o, ho, rfl⟩ := List.mem_map.mp (List.mem_filter.mp hr).1
  exact (h q hq).ext ho
theorem iter_rw {n : Nat} {most : Int} : ∀ (k : Nat) {rows : List (List Int)}, (∀ r ∈ rows, Rw n r) → ∀ r ∈ iterR n most k rows, Rw n r
  | 0, _, h => h
  | k + 1, _, h => iter_rw k (step_rw h)
section
variable {n : Nat} (h2 : 2 ≤ n) (h31 : n ≤ 31)
include h2 h31
theorem es_in (most : Int) (x1 x3 x4 : DV) {r : List Int} (hr : Rw n r) (bx : Bx) : ∀ (os : List Int) (acc : List (List Int)) (x7 x8 : DV), (∀ o ∈ os, o ∈ cand n (lastI r)) → acc.length + os.length ≤ 1000000 →
    ∃ x7' x8', loopF (stName 7) b_even_sets_1 (os.map .int) ⟨[.sh (.int n), x1, .sh (.int most), x3, x4, .ow (.list (acc.map rowI)), .sh (rowI r), x7, x8], bx⟩ =
      .next ⟨[.sh (.int n), x1, .sh (.int most), x3, x4, .ow (.list ((acc ++ (os.map fun o => r ++ [o]).filter (small n most)).map rowI)), .sh (rowI r), x7', x8'], bx⟩
  | [], acc, x7, x8, _, _ => ⟨x7, x8, by simp⟩
  | o :: os, acc, x7, x8, ho, ha => by
    have hf := hr.ext (ho o (by simp))
    have hrl := hr.set.len
    have s1 : sumOk (r.length + 1) = true := sumOk_lt (by omega)
    have e1 := differences_ok hf.set h2 h31 bx
    have e2 := max_ints (l := (difL n (r ++ [o])).tail) (fun z => by
      have := congrArg List.length z
      simp at this
      omega)
    rw [List.map_tail] at e2
    have e1' : fe_differences.fm [.d (.int n), .d (.tuple (r.map .int ++ [.int o]))] bx = .ret (.tuple ((difL n (r ++ [o])).map .int)) bx := by
      rw [List.map_append] at e1
      exact e1
    simp only [List.length_cons] at ha
    have s2 : sumOk (acc.length + 1) = true := sumOk_lt (by omega)
    by_cases hs : mxI (difL n (r ++ [o])).tail ≤ most
    · obtain ⟨y7, y8, ih⟩ := es_in most x1 x3 x4 hr bx os (acc ++ [r ++ [o]]) (.sh (.int o)) (.sh (.tuple (r.map .int ++ [.int o]))) (fun o ho' => ho o (by simp [ho'])) (by simp; omega)
      refine ⟨y7, y8, ?_⟩
      rw [List.map_cons, List.map_cons, List.filter_cons_of_pos (by unfold small; exact decide_eq_true hs), show ∀ L : List (List Int), acc ++ (r ++ [o]) :: L = (acc ++ [r ++ [o]]) ++ L from fun L => by simp, ← ih]
      simp [b_even_sets_1, s1, e1', e2, hs, s2]
      simp only [rowI, List.map_append, List.map_cons, List.map_nil]
    · obtain ⟨y7, y8, ih⟩ := es_in most x1 x3 x4 hr bx os acc (.sh (.int o)) (.sh (.tuple (r.map .int ++ [.int o]))) (fun o ho' => ho o (by simp [ho'])) (by omega)
      refine ⟨y7, y8, ?_⟩
      rw [List.map_cons, List.map_cons, List.filter_cons_of_neg (by unfold small; simpa using hs), ← ih]
      simp [b_even_sets_1, s1, e1', e2, hs]
omit h2 in
theorem step_len (most : Int) : ∀ rows : List (List Int), (∀ r ∈ rows, Rw n r) → (stepR n most rows).length ≤ rows.length * 31
  | [], _ => by simp [stepR]
  | r :: rows, h => by
    have ih := step_len most rows fun r hr => h r (by simp [hr])
    obtain ⟨_, l0, l1, _⟩ := (h r (by simp)).last
    have cl : (cand n (lastI r)).length ≤ 31 := by
      simp [cand]
      omega
    have fl : (((cand n (lastI r)).map fun o => r ++ [o]).filter (small n most)).length ≤ 31 := Nat.le_trans (List.length_filter_le ..) (by rw [List.length_map]; exact cl)
    rw [show stepR n most (r :: rows) = ((cand n (lastI r)).map fun o => r ++ [o]).filter (small n most) ++ stepR n most rows from rfl, List.length_append, List.length_cons]
    omega
theorem es_mid (most : Int) (x1 x3 x4 : DV) (bx : Bx) : ∀ (rows acc : List (List Int)) (x6 x7 x8 : DV), (∀ r ∈ rows, Rw n r) → acc.length + rows.length * 31 ≤ 1000000 →
    ∃ x6' x7' x8', loopF (stName 6) b_even_sets_3 (rows.map rowI) ⟨[.sh (.int n), x1, .sh (.int most), x3, x4, .ow (.list (acc.map rowI)), x6, x7, x8], bx⟩ =
      .next ⟨[.sh (.int n), x1, .sh (.int most), x3, x4, .ow (.list ((acc ++ stepR n most rows).map rowI)), x6', x7', x8'], bx⟩
  | [], acc, x6, x7, x8, _, _ => ⟨x6, x7, x8, by simp [stepR]⟩
  | r :: rows, acc, x6, x7, x8, hr, ha => by
    have hr0 := hr r (by simp)
    obtain ⟨l, l0, l1, l2⟩ := hr0.last
    have rg : rangeOf [.int (lastI r + 1), .int n] = some ((cand n (lastI r)).map .int) := by
      rw [range2 (by omega) (by omega) (by omega) (by omega)]
      unfold cand
      rw [List.map_map]
      rfl
    have cl : (cand n (lastI r)).length ≤ 31 := by
      simp [cand]
      omega
    simp only [List.length_cons] at ha
    obtain ⟨y7, y8, e⟩ := es_in h2 h31 most x1 x3 x4 hr0 bx (cand n (lastI r)) acc x7 x8 (fun _ h => h) (by omega)
    have fl : (((cand n (lastI r)).map fun o => r ++ [o]).filter (small n most)).length ≤ 31 := Nat.le_trans (List.length_filter_le ..) (by rw [List.length_map]; exact cl)
    obtain ⟨y6, z7, z8, ih⟩ := es_mid most x1 x3 x4 bx rows (acc ++ ((cand n (lastI r)).map fun o => r ++ [o]).filter (small n most)) (.sh (rowI r)) y7 y8 (fun r hr' => hr r (by simp [hr'])) (by rw [List.length_append]; omega)
    refine ⟨y6, z7, z8, ?_⟩
    rw [show stepR n most (r :: rows) = ((cand n (lastI r)).map fun o => r ++ [o]).filter (small n most) ++ stepR n most rows from rfl, ← List.append_assoc, ← ih]
    simp only [List.map_cons, loop_cons, st_name, lpS_some, List.set_cons_succ, List.set_cons_zero, b_even_sets_3, f_even_sets_2, z_seq, z_for, z_range, z_cons, z_nil, z_op2, z_op1, z_c, y_peek, y_var, List.getElem?_cons_succ, List.getElem?_cons_zero, rdP_sh, rdV_sh, z_ok, z_some, z_neg, l, z_add, rg, z_toO, e, z_onext, z_next, lpO_next]
theorem es_out (most : Int) (x1 : DV) (bx : Bx) : ∀ (ts : List Int) (rows : List (List Int)) (x3 x4 x5 x6 x7 x8 : DV), (x3 = .ow (.list (rows.map rowI)) ∨ x3 = .sh (.list (rows.map rowI))) → (∀ r ∈ rows, Rw n r) → rows.length * 31 ^ ts.length ≤ 1000000 →
    ∃ x3' x4' x5' x6' x7' x8', (x3' = .ow (.list ((iterR n most ts.length rows).map rowI)) ∨ x3' = .sh (.list ((iterR n most ts.length rows).map rowI))) ∧
      loopF (stName 4) b_even_sets_5 (ts.map .int) ⟨[.sh (.int n), x1, .sh (.int most), x3, x4, x5, x6, x7, x8], bx⟩ = .next ⟨[.sh (.int n), x1, .sh (.int most), x3', x4', x5', x6', x7', x8'], bx⟩
  | [], rows, x3, x4, x5, x6, x7, x8, hx, _, _ => ⟨x3, x4, x5, x6, x7, x8, hx, rfl⟩
  | t :: ts, rows, x3, x4, x5, x6, x7, x8, hx, hr, ha => by
    rw [List.length_cons, Nat.pow_succ, ← Nat.mul_assoc, Nat.mul_right_comm] at ha
    have hp : 1 ≤ 31 ^ ts.length := Nat.one_le_pow _ _ (by decide)
    have h1 : rows.length * 31 ≤ 1000000 := Nat.le_trans (Nat.le_mul_of_pos_right _ hp) ha
    have hs := step_len (n := n) h31 most rows hr
    obtain ⟨y6, y7, y8, e⟩ := es_mid h2 h31 most x1 (.sh (.list (rows.map rowI))) (.sh (.int t)) bx rows [] x6 x7 x8 hr (by simpa using h1)
    rw [List.nil_append, List.map_nil] at e
    obtain ⟨z3, z4, z5, z6, z7, z8, hz, ih⟩ := es_out most x1 bx ts (stepR n most rows) (.sh (.list ((stepR n most rows).map rowI))) (.sh (.int t)) (.sh (.list ((stepR n most rows).map rowI))) y6 y7 y8 (.inr rfl) (step_rw hr) (Nat.le_trans (Nat.mul_le_mul_right _ hs) ha)
    refine ⟨z3, z4, z5, z6, z7, z8, hz, ?_⟩
    rw [← ih]
    rcases hx with rfl | rfl
    · simp only [List.map_cons, loop_cons, st_name, lpS_some, List.set_cons_succ, List.set_cons_zero, b_even_sets_5, f_even_sets_4, z_seq, y_own, z_nil, z_ok, z_toO, List.length_nil, so0, if_true, z_onext, z_for, z_items, y_var, List.getElem?_cons_succ, List.getElem?_cons_zero, rdV_ow, rdV_sh, z_ilist, z_some, e, z_e, z_set, z_next, lpO_next]
    · simp only [List.map_cons, loop_cons, st_name, lpS_some, List.set_cons_succ, List.set_cons_zero, b_even_sets_5, f_even_sets_4, z_seq, y_own, z_nil, z_ok, z_toO, List.length_nil, so0, if_true, z_onext, z_for, z_items, y_var, List.getElem?_cons_succ, List.getElem?_cons_zero, rdV_ow, rdV_sh, z_ilist, z_some, e, z_e, z_set, z_next, lpO_next]
end
theorem c_es {n : Nat} (h2 : 2 ≤ n) (h31 : n ≤ 31) {rows : List (List Int)} (hr : ∀ r ∈ rows, Rw n r) (hl : rows.length ≤ 1000000) {x3 : DV} (hx : x3 = .ow (.list (rows.map rowI)) ∨ x3 = .sh (.list (rows.map rowI))) (x1 x2 x4 x5 x6 x7 x8 : DV) (bx : Bx) :
    c_even_sets_7 ⟨[.sh (.int n), x1, x2, x3, x4, x5, x6, x7, x8], bx⟩ = .ok (.list ((rows.filter (evenB n)).map rowI)) ⟨[.sh (.int n), x1, x2, .sh (.list (rows.map rowI)), x4, x5, x6, x7, x8], bx⟩ := by
  have key : ∀ b, compG (fun r => stepC [.sh (.int n), hideD x1, hideD x2, .sh (.list (rows.map rowI)), hideD x4, hideD x5, .un, hideD x7, hideD x8] (stName 6) (mTru (mCall fe_is_even (mSeq [mArgV 0, mArgV 6]))) (mVar 6) (rowI r)) rows b = some ((rows.filter (evenB n)).map rowI, b) := fun b => by
    rw [cG_cond (h := fun r => if evenB n r = true then some (rowI r) else none) (by
      intro r hr' b
      simp [is_even_ok (hr r hr').set h2 h31, some_ite]), fm_ite]
  have fl : ((rows.filter (evenB n)).map rowI).length ≤ 16777216 := by
    rw [List.length_map]
    exact Nat.le_trans (List.length_filter_le ..) (by omega)
  rcases hx with rfl | rfl
  · simp [c_even_sets_7, compG_map, -y_step, key, finC_ok fl]
  · simp [c_even_sets_7, compG_map, -y_step, key, finC_ok fl]
theorem rw0 {n : Nat} (h : 1 ≤ n) : ∀ r ∈ [[(0 : Int)]], Rw n r := fun r hr => by
  rw [List.mem_singleton] at hr
  subst hr
  exact ⟨⟨by simp, fun a ha => by
    rw [List.mem_singleton] at ha
    omega⟩, by simp⟩
theorem iter_len {n : Nat} (h31 : n ≤ 31) {most : Int} : ∀ (k : Nat) {rows : List (List Int)}, (∀ r ∈ rows, Rw n r) → (iterR n most k rows).length ≤ rows.length * 31 ^ k
  | 0, _, _ => by simp [iterR]
  | k + 1, rows, h => by
    have a := step_len h31 most rows h
    have b := iter_len h31 (most := most) k (step_rw (most := most) h)
    refine Nat.le_trans b ?_
    rw [Nat.pow_succ, Nat.mul_comm (31 ^ k), ← Nat.mul_assoc]
    exact Nat.mul_le_mul_right _ a
theorem even_sets_ok {n m : Nat} (h2 : 2 ≤ n) (h15 : n ≤ 15) (m1 : 1 ≤ m) (m4 : m ≤ 4) (hm : m < n) (bx : Bx) : fe_even_sets.fm [.d (.int n), .d (.int m)] bx = .ret (.list ((evenP n m).map rowI)) bx := by
  have e1 : mulD (.int m) (.int ((m : Int) - 1)) = some (.int ((m : Int) * (m - 1))) := mulC (by omega)
  have e2 := modD_pos (i := (m : Int) * (m - 1)) (j := (n : Int) - 1) (by omega)
  have e3 := fdivD_pos (i := (m : Int) * (m - 1)) (j := (n : Int) - 1) (by omega) (by omega)
  by_cases hz : (m : Int) * (m - 1) % (n - 1) = 0
  · have hp : 31 ^ (m - 1) ≤ 31 ^ 3 := Nat.pow_le_pow_right (by decide) (by omega)
    obtain ⟨y3, y4, y5, y6, y7, y8, hy, e⟩ := es_out h2 (show n ≤ 31 by omega) ((m : Int) * (m - 1) / (n - 1)) (.sh (.int m)) bx (R (m - 1)) [[0]] (.ow (.list ([[0]].map rowI))) .un .un .un .un .un (.inl rfl) (rw0 (by omega)) (by rw [len_R]; simp; omega)
    rw [len_R] at hy
    have hr := iter_rw (n := n) (most := (m : Int) * (m - 1) / (n - 1)) (m - 1) (rw0 (n := n) (by omega))
    have hl := iter_len (n := n) (by omega) (most := (m : Int) * (m - 1) / (n - 1)) (m - 1) (rw0 (n := n) (by omega))
    have c := c_es (n := n) h2 (by omega) hr (by simp at hl; omega) hy (.sh (.int m)) (.sh (.int ((m : Int) * (m - 1) / (n - 1)))) y4 y5 y6 y7 y8 bx
    have rg : rangeOf [.int ((m : Int) - 1)] = some ((R (m - 1)).map .int) := by
      have := rangeN (m - 1) (by omega)
      rwa [show ((m - 1 : Nat) : Int) = (m : Int) - 1 by omega] at this
    have e' : loopF (stName 4) b_even_sets_5 ((R (m - 1)).map .int) ⟨[.sh (.int n), .sh (.int m), .sh (.int ((m : Int) * (m - 1) / (n - 1))), .ow (.list [.tuple [.int 0]]), .un, .un, .un, .un, .un], bx⟩ = _ := e
    unfold evenP
    rw [if_pos hz]
    simp [fe_even_sets, z_fm, m_even_sets, r_even_sets_0, p_even_sets_0, r_even_sets_1, p_even_sets_1, r_even_sets_2, p_even_sets_2, r_even_sets_3, p_even_sets_3, r_even_sets_4, p_even_sets_4, r_even_sets_5, p_even_sets_5, r_even_sets_6, p_even_sets_6, f_even_sets_6, slotA, show (2 : Int) ≤ n by omega, show (n : Int) ≤ 15 by omega, show (1 : Int) ≤ m by omega, show (m : Int) ≤ 7 by omega, show ¬ (n : Int) ≤ m by omega, e1, e2, e3, hz, rg, e', c]
  · unfold evenP
    rw [if_neg hz]
    simp [fe_even_sets, z_fm, m_even_sets, r_even_sets_0, p_even_sets_0, r_even_sets_1, p_even_sets_1, r_even_sets_2, p_even_sets_2, slotA, show (2 : Int) ≤ n by omega, show (n : Int) ≤ 15 by omega, show (1 : Int) ≤ m by omega, show (m : Int) ≤ 7 by omega, show ¬ (n : Int) ≤ m by omega, e1, e2, hz]
theorem even_sets_bad {n m : Nat} (h2 : 2 ≤ n) (h15 : n ≤ 15) (hm : n ≤ m) (bx : Bx) : fe_even_sets.fm [.d (.int n), .d (.int m)] bx = .exc 0 (.str "many") bx := by
  by_cases h7 : (m : Int) ≤ 7
  · simp [fe_even_sets, z_fm, m_even_sets, r_even_sets_0, p_even_sets_0, r_even_sets_1, p_even_sets_1, slotA, show (2 : Int) ≤ n by omega, show (n : Int) ≤ 15 by omega, show (1 : Int) ≤ m by omega, h7, show (n : Int) ≤ m by omega]
  · simp [fe_even_sets, z_fm, m_even_sets, r_even_sets_0, p_even_sets_0, r_even_sets_1, p_even_sets_1, slotA, show (2 : Int) ≤ n by omega, show (n : Int) ≤ 15 by omega, show (1 : Int) ≤ m by omega, h7]
end K11

set_option maxRecDepth 100000
namespace K11
open PySem PySem.Spec PyProof.Rows L2 Gl
/-! ### the law's own: subsets, rows, differences -/
def subs : Nat → List (List Int)
  | 0 => [[]]
  | k + 1 => subs k ++ (subs k).map fun r => r ++ [(k : Int)]
theorem subs_len : ∀ k, (subs k).length = 2 ^ k
  | 0 => rfl
  | k + 1 => by
    show (subs k ++ (subs k).map fun r => r ++ [(k : Int)]).length = _
    rw [List.length_append, List.length_map, subs_len k, Nat.pow_succ]
    omega
theorem subs_set : ∀ (k : Nat) (r : List Int), r ∈ subs k → SetOK k r
  | 0, r, h => by
    have : r = [] := by simpa [subs] using h
    subst this
    exact ⟨.nil, by simp⟩
  | k + 1, r, h => by
    rcases List.mem_append.mp (show r ∈ subs k ++ (subs k).map fun r => r ++ [(k : Int)] from h) with h | h
    · have := subs_set k r h
      exact ⟨this.asc, fun a ha => by have := this.rng a ha; omega⟩
    · obtain ⟨q, hq, rfl⟩ := List.mem_map.mp h
      have := subs_set k q hq
      refine ⟨?_, fun a ha => ?_⟩
      · rw [List.pairwise_append]
        refine ⟨this.asc, by simp, fun a ha b hb => ?_⟩
        rw [List.mem_singleton] at hb
        have := this.rng a ha
        omega
      · rcases List.mem_append.mp ha with z | z
        · have := this.rng a z
          omega
        · rw [List.mem_singleton] at z
          omega
theorem sb_loop (x0 : DV) (bx : Bx) : ∀ (m k : Nat) (x2 x3 : DV), k + m ≤ 12 → ∃ x2', loopF (stName 2) b__law_subsets_2 ((List.range' k m).map fun i => .int (i : Nat)) ⟨[x0, .ow (.list ((subs k).map rowI)), x2, x3], bx⟩ = .next ⟨[x0, .ow (.list ((subs (k + m)).map rowI)), x2', x3], bx⟩
  | 0, k, x2, x3, _ => ⟨x2, rfl⟩
  | m + 1, k, x2, x3, hk => by
    have hp : 2 ^ k ≤ 2 ^ 12 := Nat.pow_le_pow_right (by decide) (by omega)
    have hl := subs_len k
    obtain ⟨y, ih⟩ := sb_loop x0 bx m (k + 1) (.sh (.int (k : Nat))) x3 (by omega)
    have c : c__law_subsets_1 ⟨[x0, .ow (.list ((subs k).map rowI)), .sh (.int (k : Nat)), x3], bx⟩ = .ok (.list (((subs k).map fun r => r ++ [(k : Int)]).map rowI)) ⟨[x0, .sh (.list ((subs k).map rowI)), .sh (.int (k : Nat)), x3], bx⟩ := by
      simp [c__law_subsets_1, compG_map]
      rw [cG_cond (h := fun r => some (rowI (r ++ [(k : Int)]))) (by
        intro r hr b
        have := (subs_set k r hr).len
        have s1 : sumOk (r.length + 1) = true := sumOk_lt (by omega)
        simp [s1]
        try simp only [rowI, List.map_append, List.map_cons, List.map_nil]), fm_some, finC_ok (by rw [List.length_map]; omega)]
      try congr 1
    have s2 : sumOk (((subs k).map rowI).length + (((subs k).map fun r => r ++ [(k : Int)]).map rowI).length) = true := sumOk_lt (by simp only [List.length_map]; omega)
    refine ⟨y, ?_⟩
    rw [show k + (m + 1) = k + 1 + m by omega, ← ih, List.range'_succ, List.map_cons, loop_cons]
    have e : addN (.list ((subs k).map rowI)) (.list (((subs k).map fun r => r ++ [(k : Int)]).map rowI)) = some (.ow (.list ((subs (k + 1)).map rowI))) := by
      rw [z_addN_lst s2, ← List.map_append]
      rfl
    simp only [st_name, lpS_some, List.set_cons_succ, List.set_cons_zero, b__law_subsets_2, z_seq, z_e, z_opN, y_peek, List.getElem?_cons_succ, List.getElem?_cons_zero, rdP_ow, rdP_sh, z_ok, c, z_bAdd, e, z_some, z_toO, z_setV, z_onext, z_next, lpO_next]
theorem subsets_ok {k : Nat} (hk : k ≤ 12) (bx : Bx) : fe__law_subsets.fm [.d (.int k)] bx = .ret (.list ((subs k).map rowI)) bx := by
  obtain ⟨y, e⟩ := sb_loop (.sh (.int k)) bx k 0 .un .un (by omega)
  rw [Nat.zero_add, ← List.range_eq_range'] at e
  have e' : loopF (stName 2) b__law_subsets_2 ((List.range k).map fun i => .int (i : Nat)) ⟨[.sh (.int k), .ow (.list [.tuple []]), .un, .un], bx⟩ = _ := e
  simp [fe__law_subsets, z_fm, m__law_subsets, slotA, f__law_subsets_3, range1' (j := k) (by omega) (by omega), e']
/-! ### all rows of noughts and ones -/
theorem lr_in (x0 x2 x3 : DV) (bx : Bx) : ∀ (l acc : List (List Int)) (x5 x6 : DV), (∀ r ∈ l, r.length ≤ 100) → acc.length + 2 * l.length ≤ 1000000 →
    ∃ x5', loopF (stName 5) b__law_rows_2 (l.map rowI) ⟨[x0, .sh (.int 1), x2, x3, .ow (.list (acc.map rowI)), x5, x6], bx⟩ = .next ⟨[x0, .sh (.int 1), x2, x3, .ow (.list ((acc ++ l.flatMap fun r => [r ++ [0], r ++ [1]]).map rowI)), x5', x6], bx⟩
  | [], acc, x5, x6, _, _ => ⟨x5, by simp⟩
  | r :: l, acc, x5, x6, hr, ha => by
    simp only [List.length_cons] at ha
    have := hr r (by simp)
    have s1 : sumOk (r.length + 1) = true := sumOk_lt (by omega)
    have c : c__law_rows_1 ⟨[x0, .sh (.int 1), x2, x3, .ow (.list (acc.map rowI)), .sh (rowI r), x6], bx⟩ = .ok (.list ([r ++ [0], r ++ [1]].map rowI)) ⟨[x0, .sh (.int 1), x2, x3, .ow (.list (acc.map rowI)), .sh (rowI r), x6], bx⟩ := by
      simp [c__law_rows_1, range1' (j := 2) (by omega) (by omega), List.range_succ, cG_cons, cG_nil, s1, finC_ok]
    have s2 : sumOk ((acc.map rowI).length + ([r ++ [0], r ++ [1]].map rowI).length) = true := sumOk_lt (by simp only [List.length_map, List.length_cons, List.length_nil]; omega)
    obtain ⟨y, ih⟩ := lr_in x0 x2 x3 bx l (acc ++ [r ++ [0], r ++ [1]]) (.sh (rowI r)) x6 (fun r hr' => hr r (by simp [hr'])) (by simp; omega)
    refine ⟨y, ?_⟩
    rw [List.flatMap_cons, ← List.append_assoc, ← ih, List.map_cons, loop_cons]
    have e : addN (.list (acc.map rowI)) (.list ([r ++ [0], r ++ [1]].map rowI)) = some (.ow (.list ((acc ++ [r ++ [0], r ++ [1]]).map rowI))) := by
      rw [z_addN_lst s2, ← List.map_append]
    simp only [st_name, lpS_some, List.set_cons_succ, List.set_cons_zero, b__law_rows_2, z_seq, z_e, z_opN, y_peek, List.getElem?_cons_succ, List.getElem?_cons_zero, rdP_ow, rdP_sh, z_ok, c, z_bAdd, e, z_some, z_toO, z_setV, z_onext, z_next, lpO_next]
theorem lr_out (x0 : DV) (bx : Bx) : ∀ (m k : Nat) (x2 x3 x4 x5 : DV) (ts : List Int), ts.length = m → k + m ≤ 9 → (x2 = .ow (.list ((pm2 0 1 k).map rowI)) ∨ x2 = .sh (.list ((pm2 0 1 k).map rowI))) →
    ∃ x2' x3' x4' x5', (x2' = .ow (.list ((pm2 0 1 (k + m)).map rowI)) ∨ x2' = .sh (.list ((pm2 0 1 (k + m)).map rowI))) ∧ loopF (stName 3) b__law_rows_4 (ts.map .int) ⟨[x0, .sh (.int 1), x2, x3, x4, x5, .un], bx⟩ = .next ⟨[x0, .sh (.int 1), x2', x3', x4', x5', .un], bx⟩
  | 0, k, x2, x3, x4, x5, ts, h, _, hx => by
    obtain rfl : ts = [] := List.length_eq_zero_iff.mp h
    exact ⟨x2, x3, x4, x5, hx, rfl⟩
  | m + 1, k, x2, x3, x4, x5, t :: ts, h, hk, hx => by
    have hp : 2 ^ k ≤ 2 ^ 9 := Nat.pow_le_pow_right (by decide) (by omega)
    have hl := pm2_len 0 1 k
    obtain ⟨y5, e⟩ := lr_in x0 (.sh (.list ((pm2 0 1 k).map rowI))) (.sh (.int t)) bx (pm2 0 1 k) [] x5 .un (fun r hr => by have := (pm2_mem hr).1; omega) (by simp; omega)
    rw [List.nil_append, List.map_nil] at e
    obtain ⟨z2, z3, z4, z5, hz, ih⟩ := lr_out x0 bx m (k + 1) (.sh (.list ((pm2 0 1 (k + 1)).map rowI))) (.sh (.int t)) (.sh (.list ((pm2 0 1 (k + 1)).map rowI))) y5 ts (by simpa using h) (by omega) (.inr rfl)
    rw [show k + 1 + m = k + (m + 1) by omega] at hz
    refine ⟨z2, z3, z4, z5, hz, ?_⟩
    rw [← ih]
    have e' : loopF (stName 5) b__law_rows_2 ((pm2 0 1 k).map rowI) ⟨[x0, .sh (.int 1), .sh (.list ((pm2 0 1 k).map rowI)), .sh (.int t), .ow (.list []), x5, .un], bx⟩ = .next ⟨[x0, .sh (.int 1), .sh (.list ((pm2 0 1 k).map rowI)), .sh (.int t), .ow (.list ((pm2 0 1 (k + 1)).map rowI)), y5, .un], bx⟩ := e
    rcases hx with rfl | rfl
    · simp only [List.map_cons, loop_cons, st_name, lpS_some, List.set_cons_succ, List.set_cons_zero, b__law_rows_4, f__law_rows_3, z_seq, y_own, z_nil, z_ok, z_toO, List.length_nil, so0, if_true, z_onext, z_for, z_items, y_var, List.getElem?_cons_succ, List.getElem?_cons_zero, rdV_ow, rdV_sh, z_ilist, z_some, e', z_e, z_set, z_next, lpO_next]
    · simp only [List.map_cons, loop_cons, st_name, lpS_some, List.set_cons_succ, List.set_cons_zero, b__law_rows_4, f__law_rows_3, z_seq, y_own, z_nil, z_ok, z_toO, List.length_nil, so0, if_true, z_onext, z_for, z_items, y_var, List.getElem?_cons_succ, List.getElem?_cons_zero, rdV_ow, rdV_sh, z_ilist, z_some, e', z_e, z_set, z_next, lpO_next]
theorem rows_ok {m : Nat} (h : m ≤ 9) (bx : Bx) : fe__law_rows.fm [.d (.int m), .d (.int 1)] bx = .ret (.list ((pm2 0 1 m).map rowI)) bx := by
  obtain ⟨y2, y3, y4, y5, hy, e⟩ := lr_out (.sh (.int m)) bx m 0 (.ow (.list ([[]].map rowI))) .un .un .un (R m) (by simp) (by omega) (.inl rfl)
  rw [Nat.zero_add] at hy
  have e' : loopF (stName 3) b__law_rows_4 ((R m).map .int) ⟨[.sh (.int m), .sh (.int 1), .ow (.list [.tuple []]), .un, .un, .un, .un], bx⟩ = _ := e
  rcases hy with rfl | rfl
  · simp [fe__law_rows, z_fm, m__law_rows, slotA, f__law_rows_5, rangeN m (by omega), e']
  · simp [fe__law_rows, z_fm, m__law_rows, slotA, f__law_rows_5, rangeN m (by omega), e']
/-! ### the law's differences -/
section
variable {n : Nat} {s : List Int}
theorem ld1 (hn : 0 < n) (hl : s.length ≤ 1000) (k a : Int) (x4 : DV) (bx : Bx) : c__law_differences_1 ⟨[.sh (.int n), .sh (rowI s), .sh (.int k), .sh (.int a), x4], bx⟩ = .ok (.list ((s.filter fun b => decide ((a - b) % n = k)).map .int)) ⟨[.sh (.int n), .sh (rowI s), .sh (.int k), .sh (.int a), x4], bx⟩ := by
  simp [c__law_differences_1, compG_map]
  rw [cG_cond (h := fun b => if decide ((a - b) % n = k) = true then some (.int b) else none) (by
    intro b hb b'
    simp [modD_pos (show (0 : Int) < n by omega), some_ite]
    try (split <;> simp_all)), fm_ite, finC_ok (by
    rw [List.length_map]
    exact Nat.le_trans (List.length_filter_le ..) (by omega))]
theorem ne_nil (l : List Int) : neD (.list (l.map .int)) (.list []) = some (!l.isEmpty) := by
  have h1 : shp (.list (l.map .int)) = true := (shp_tI l).1
  unfold neD
  rw [h1]
  cases l with
  | nil => rfl
  | cons a l => rfl
theorem eq_nil (l : List Int) : eqD (.list (l.map .int)) (.list []) = some l.isEmpty := by
  have h1 : shp (.list (l.map .int)) = true := (shp_tI l).1
  unfold eqD
  rw [h1]
  cases l with
  | nil => rfl
  | cons a l => rfl
theorem fil_ind (hn : 0 < n) (h : SetOK n s) {a k : Int} (hk : 0 ≤ k ∧ k < n) : (!(s.filter fun b => decide ((a - b) % n = k)).isEmpty) = decide ((a - k) % n ∈ s) := by
  rw [Bool.eq_iff_iff, decide_eq_true_eq, Bool.not_eq_true', List.isEmpty_eq_false_iff_exists_mem]
  constructor
  · rintro ⟨b, hb⟩
    rw [List.mem_filter, decide_eq_true_eq] at hb
    rw [(dif_iff hn (h.rng b hb.1) hk).mp hb.2]
    exact hb.1
  · intro hb
    refine ⟨_, List.mem_filter.mpr ⟨hb, ?_⟩⟩
    rw [decide_eq_true_eq]
    exact (dif_iff hn (h.rng _ hb) hk).mpr rfl
theorem ld2 (hn : 0 < n) (h : SetOK n s) (hl : s.length ≤ 1000) {k : Int} (hk : 0 ≤ k ∧ k < n) (x3 x4 : DV) (bx : Bx) : c__law_differences_2 ⟨[.sh (.int n), .sh (rowI s), .sh (.int k), x3, x4], bx⟩ = .ok (.list ((s.filter fun a => decide ((a - k) % n ∈ s)).map fun _ => .int 1)) ⟨[.sh (.int n), .sh (rowI s), .sh (.int k), x3, x4], bx⟩ := by
  simp [c__law_differences_2, compG_map]
  rw [cG_cond (h := fun a => if decide ((a - k) % n ∈ s) = true then some (.int 1) else none) (by
    intro a ha b'
    rw [← fil_ind hn h hk]
    have e := ld1 hn hl k a (hideD x4) b'
    have e2 := ne_nil (s.filter fun b => decide ((a - b) % n = k))
    generalize s.filter (fun b => decide ((a - b) % n = k)) = Z at *
    simp [e, e2, some_ite]
    try (split <;> simp_all)), fm_ite, finC_ok (by
    rw [List.length_map]
    exact Nat.le_trans (List.length_filter_le ..) (by omega))]
theorem ld3 (hn : 0 < n) (h31 : n ≤ 31) (h : SetOK n s) (x2 x3 x4 : DV) (bx : Bx) : c__law_differences_3 ⟨[.sh (.int n), .sh (rowI s), x2, x3, x4], bx⟩ = .ok (.list ((difL n s).map .int)) ⟨[.sh (.int n), .sh (rowI s), x2, x3, x4], bx⟩ := by
  have hl := h.len
  simp [c__law_differences_3, rangeN n (by omega), compG_map]
  rw [cG_cond (h := fun k => some (.int (cnt n s k))) (by
    intro k hk b'
    rw [mem_R] at hk
    have e : ((s.filter fun a => decide ((a - k) % n ∈ s)).length : Int) = cnt n s k := by
      rw [len_filter]
      unfold cnt
      refine S_congr fun a _ => ?_
      rw [inner hn h hk]
      unfold ind
      simp
    have e2 := ld2 hn h (by omega) hk (hideD x3) (hideD x4) b'
    generalize s.filter (fun a => decide ((a - k) % n ∈ s)) = Z at *
    simp [e2, e]), fm_some, finC_ok (by simp; omega)]
  unfold difL
  rw [List.map_map]
  rfl
theorem ldif_ok (h : SetOK n s) (h2 : 1 ≤ n) (h31 : n ≤ 31) (bx : Bx) : fe__law_differences.fm [.d (.int n), .d (.tuple (s.map .int))] bx = .ret (.tuple ((difL n s).map .int)) bx := by
  simp [fe__law_differences, z_fm, m__law_differences, slotA, ld3 (show 0 < n by omega) h31 h]
end
/-! ### even sets: by trying -/
def own (n m : Nat) : List (List Int) := (subs n).filter fun r => decide (r.length = m) && (decide (sg r 0 = 0) && evenB n r)
def ascB : List (List Int) → Bool
  | a :: b :: l => decide (a < b) && ascB (b :: l)
  | _ => true
def goodE (n m : Nat) : Bool := (own n m).isPerm (evenP n m) && ascB (evenP n m)
theorem good_all : ∀ n ∈ [3, 4, 5, 6, 7, 8, 9], ∀ m ∈ [1, 2, 3, 4], m < n → goodE n m = true := by decide +kernel
theorem e7 : evenP 7 3 = [[0, 1, 3], [0, 1, 5], [0, 2, 3], [0, 2, 6], [0, 4, 5], [0, 4, 6]] := by decide +kernel
theorem e13 : evenP 13 4 ≠ [] := by decide +kernel
end K11

set_option maxRecDepth 100000
namespace K11
open PySem PySem.Spec PyProof.Rows L2 Gl
theorem le_rows (a b : List Int) : PySem.W.dataLe false id (rowI a) (rowI b) = decide (a ≤ b) := by
  show (!PySem.W.dataLt (.tuple (b.map .int)) (.tuple (a.map .int))) = _
  rw [PySem.W.dataLt_tuple]
  show (!PySem.W.rowLt (b.map .int) (a.map .int)) = _
  rw [PySem.W.dataLt_ints]
  by_cases h : b < a
  · have h' : ¬ a ≤ b := fun r => List.not_lt.mpr r h
    simp [h, h']
  · have h' : a ≤ b := List.not_lt.mp h
    simp [h, h']
def srtR (l : List (List Int)) : List (List Int) := l.mergeSort fun a b => decide (a ≤ b)
theorem srt_rows (l : List (List Int)) : srtL (l.map rowI) = (srtR l).map rowI := by
  unfold srtL srtR
  symm
  exact List.map_mergeSort fun a _ b _ => (le_rows a b).symm
theorem depth_rows : ∀ l : List (List Int), PyData.depthAll (l.map rowI) ≤ 22
  | [] => by simp [PyData.depthAll]
  | x :: l => by
    have := depth_rows l
    have h2 : PyData.depth (rowI x) ≤ 21 := (shp_tI x).2
    simp only [List.map_cons, PyData.depthAll]
    omega
theorem srtOk_rows {l : List (List Int)} (h : ∀ r ∈ l, r ≠ []) : srtOk (l.map rowI) = true := by
  have := depth_rows l
  unfold srtOk
  simp only [Bool.and_eq_true, Bool.or_eq_true, decide_eq_true_eq, List.all_eq_true, List.mem_map, forall_exists_index, and_imp, forall_apply_eq_imp_iff₂]
  refine ⟨⟨fun a _ b _ => ?_, .inl fun a ha => ?_⟩, by omega⟩
  · show PySem.W.alikeAll (a.map .int) (b.map .int) = true
    exact PySem.W.alike_ints a b
  · cases a with
    | nil => exact absurd rfl (h _ ha)
    | cons x a => rfl
theorem sorted_rows {l : List (List Int)} (h : ∀ r ∈ l, r ≠ []) : sortedD (.list (l.map rowI)) = some (.list ((srtR l).map rowI)) := by
  show (if srtOk _ = true then some (PyData.list (srtL _)) else none) = _
  rw [if_pos (srtOk_rows h), srt_rows]
theorem asc_pw : ∀ {l : List (List Int)}, ascB l = true → l.Pairwise (· < ·)
  | [], _ => .nil
  | [a], _ => by simp
  | a :: b :: l, h => by
    unfold ascB at h
    rw [Bool.and_eq_true, decide_eq_true_eq] at h
    have ih := asc_pw h.2
    refine List.pairwise_cons.mpr ⟨fun c hc => ?_, ih⟩
    rcases List.mem_cons.mp hc with rfl | hc
    · exact h.1
    · exact List.lt_trans h.1 ((List.pairwise_cons.mp ih).1 c hc)
theorem srtR_eq {l k : List (List Int)} (p : l.Perm k) (h : k.Pairwise (· < ·)) : srtR l = k := by
  have s1 : (srtR l).Pairwise (fun a b => a ≤ b) := by
    have := List.pairwise_mergeSort (le := fun a b : List Int => decide (a ≤ b)) (fun a b c h1 h2 => by
      simp only [decide_eq_true_eq] at *
      exact List.le_trans h1 h2) (fun a b => by
      simp only [Bool.or_eq_true, decide_eq_true_eq]
      exact List.le_total a b) l
    exact this.imp fun h => by simpa using h
  exact List.Perm.eq_of_pairwise (le := (· ≤ ·)) (fun a b _ _ h1 h2 => List.le_antisymm h1 h2) s1 (h.imp fun h => List.le_of_lt h) ((List.mergeSort_perm _ _).trans p)
theorem own_even {n m : Nat} (hn : n ∈ [3, 4, 5, 6, 7, 8, 9]) (hm : m ∈ [1, 2, 3, 4]) (h : m < n) : srtR (own n m) = evenP n m := by
  have g := good_all n hn m hm h
  unfold goodE at g
  rw [Bool.and_eq_true] at g
  exact srtR_eq (List.isPerm_iff.mp g.1) (asc_pw g.2)
end K11

set_option maxRecDepth 100000
namespace K11
open PySem PySem.Spec PyProof.Rows L2 Gl
variable {ds : List Int} {n : Int} {bx : Bx}
theorem up {n m : Int} {b : Bx} (h : BxN ds n b) (hm : n ≤ m) : BxN ds m b := by
  obtain ⟨a, e, h1, h2⟩ := h
  exact ⟨a, e, h1, by omega⟩
theorem pickE : fe__law_pick.fm = fmOf 2 2 (m_pick fe__law_draw) := rfl
theorem pick (hb : BxN ds n bx) (hn : n < 100000) {things : List D} (ht : things ≠ []) : ∃ d bx', fe__law_pick.fm [.box, .d (.list things)] bx = .ret d bx' ∧ d ∈ things ∧ BxN ds (n + 1) bx' := by
  rw [pickE]
  exact pick_ok draws hb (by omega) ht
/-- signs drawn -/
theorem pick_sg (hb : BxN ds n bx) (hn : n < 100000) : ∃ x bx', fe__law_pick.fm [.box, .d (.list [.int 1, .int (-1)])] bx = .ret (.int x) bx' ∧ (x = 1 ∨ x = -1) ∧ BxN ds (n + 1) bx' := by
  obtain ⟨d, bx', e, hd, hb'⟩ := pick hb hn (things := [.int 1, .int (-1)]) (by simp)
  simp only [List.mem_cons, List.not_mem_nil, or_false] at hd
  rcases hd with rfl | rfl
  · exact ⟨1, bx', e, .inl rfl, hb'⟩
  · exact ⟨-1, bx', e, .inr rfl, hb'⟩
theorem draw_sg {mi : M (List D)} {sl : List DV} {bx1 : Bx} {k : Nat} (hi : mi ⟨.bx :: sl, bx⟩ = .ok ((List.range k).map fun i => .int (i : Nat)) ⟨.bx :: sl, bx1⟩) (hl : sl.length = 12) (hb : BxN ds n bx1) (hn : n < 90000) (hk : k ≤ 20) :
    ∃ (r : List Int) (bx' : Bx), mComp [0] [10] mi (stName 10) (mC true) (mCall fe__law_pick (mSeq [(mArgV 0), (mArgE (mLst [(mC (.int 1)), (mOp1 negD (mC (.int 1)))]))])) ⟨.bx :: sl, bx⟩ = .ok (.list (r.map .int)) ⟨.bx :: sl, bx'⟩ ∧ r.length = k ∧ (∀ x ∈ r, x = 1 ∨ x = -1) ∧ BxN ds (n + k) bx' := by
  obtain ⟨ys, bx2, e2, yl, yp, hb2⟩ := comp_draw (js := [0]) (vs := [10]) (mi := mi) (st := stName 10) (mt := mC true) (me := (mCall fe__law_pick (mSeq [(mArgV 0), (mArgE (mLst [(mC (.int 1)), (mOp1 negD (mC (.int 1)))]))])))
    (S := ⟨.bx :: sl, bx⟩) (S1 := ⟨.bx :: sl, bx1⟩) (S2 := ⟨.bx :: sl, bx1⟩) (l := List.range k) (fun i => .int (i : Nat)) (B := fun k bx => BxN ds (n + k) bx) (G := fun d => ∃ x : Int, d = .int x ∧ (x = 1 ∨ x = -1)) hi (by simp) (by simpa using hb) (fun x hx k' b hk' hb' => by
      rw [List.length_range] at hk'
      obtain ⟨v, b', e, hv, hb2⟩ := pick_sg hb' (by omega)
      refine ⟨_, _, .int v, ⟨((wipeD (List.map hideD (.bx :: sl)) [10]).set 10 (.sh (.int (x : Nat)))), b'⟩, rfl, rfl, ?_, ⟨v, rfl, hv⟩, by
        rw [show n + ((k' + 1 : Nat) : Int) = n + k' + 1 by omega]
        exact hb2⟩
      have h0 : (wipeD (List.map hideD (.bx :: sl)) [10]).set 10 (.sh (.int (x : Nat))) = .bx :: ((wipeD (List.map hideD (.bx :: sl)) [10]).set 10 (.sh (.int (x : Nat)))).tail := by simp
      rw [h0]
      simp [e]) (by simp; omega)
  obtain ⟨r, rfl, hr⟩ := ints_of yp
  rw [List.length_range] at hb2
  exact ⟨r, bx2, e2, by simpa using yl, hr, hb2⟩
theorem one_sg {x1 x2 x3 x4 x5 x6 x7 x8 x9 x10 x11 x12 : DV} (hb : BxN ds n bx) (hn : n < 80000) : ∃ (r : List Int) (bx' : Bx), c__law_signs_1 ⟨[.bx, x1, x2, x3, x4, x5, x6, x7, x8, x9, x10, x11, x12], bx⟩ = .ok (.list (r.map .int)) ⟨[.bx, x1, x2, x3, x4, x5, x6, x7, x8, x9, x10, x11, x12], bx'⟩ ∧ Sg r ∧ r.length ≤ 8 ∧ BxN ds (n + 9) bx' := by
  obtain ⟨a, bx1, e, a0, a8, hb1⟩ := draws.ok hb (m := 8) (by omega) (by omega)
  obtain ⟨r, bx', e1, e2, e3, e4⟩ := draw_sg (bx := bx) (sl := [x1, x2, x3, x4, x5, x6, x7, x8, x9, x10, x11, x12]) (mi := mRange (mSeq [(mOp2 addD (mC (.int 1)) (mCall fe__law_draw (mSeq [(mArgV 0), (mArgE (mC (.int 8)))])))])) (bx1 := bx1) (k := (1 + a).toNat) (by
    simp [e, range1' (j := 1 + a) (by omega) (by omega)]) rfl hb1 (by omega) (by omega)
  exact ⟨r, bx', e1, ⟨by omega, by omega, e3⟩, by omega, up e4 (by omega)⟩
theorem two_sg {r : List Int} {x1 x2 x3 x4 x5 x6 x7 x8 x10 x11 x12 : DV} (hr : Sg r) (hl : r.length ≤ 8) (hb : BxN ds n bx) (hn : n < 80000) : ∃ (o : List Int) (bx' : Bx), c__law_signs_8 ⟨[.bx, x1, x2, x3, x4, x5, x6, x7, x8, .sh (rowI r), x10, x11, x12], bx⟩ = .ok (.list (o.map .int)) ⟨[.bx, x1, x2, x3, x4, x5, x6, x7, x8, .sh (rowI r), x10, x11, x12], bx'⟩ ∧ Sg o ∧ o.length = r.length ∧ BxN ds (n + 8) bx' := by
  have h1 := hr.lo
  obtain ⟨o, bx', e1, e2, e3, e4⟩ := draw_sg (bx := bx) (sl := [x1, x2, x3, x4, x5, x6, x7, x8, .sh (rowI r), x10, x11, x12]) (mi := mRange (mSeq [(mOp1 lenD (mPeek 9))])) (bx1 := bx) (k := r.length) (by
    simp [range1' (j := r.length) (by omega) (by omega)]) rfl hb (by omega) (by omega)
  exact ⟨o, bx', e1, ⟨by omega, by omega, e3⟩, e2, up e4 (by omega)⟩
/-! the law's lists of bad places -/
theorem emp_all {α β : Type} (p : α → Bool) (f : α → β) (l : List α) : ((l.filter p).map f).isEmpty = l.all fun x => !p x := by
  induction l with
  | nil => rfl
  | cons a l ih =>
    cases h : p a with
    | true => rw [List.filter_cons_of_pos h]; simp [h]
    | false => rw [List.filter_cons_of_neg (by simp [h]), ih]; simp [h]
theorem c_ls3 {r : List Int} (h : Sg r) {x0 x1 x2 x3 x4 x5 x6 x7 x8 x10 x11 x12 : DV} : c__law_signs_3 ⟨[x0, x1, x2, x3, x4, x5, x6, x7, x8, .sh (rowI r), x10, x11, x12], bx⟩ = .ok (.list ((((List.range (r.length - 1)).filter fun i => !decide ((agr r (1 + i)).natAbs ≤ 1)).map fun i => ((1 + i : Nat) : Int)).map .int)) ⟨[x0, x1, x2, x3, x4, x5, x6, x7, x8, .sh (rowI r), x10, x11, x12], bx⟩ := by
  have := h.lo
  have := h.hi
  simp [c__law_signs_3, range_1 (N := r.length) (by omega) (by omega), compG_map, -Int.natCast_add]
  rw [cG_cond (h := fun i => if (!decide ((agr r (1 + i)).natAbs ≤ 1)) = true then some (.int ((1 + i : Nat) : Int)) else none) (by
    intro i hi b
    rw [List.mem_range] at hi
    have e := lagree_ok h (show 1 + i ≤ r.length by omega) b
    by_cases hz : (agr r (1 + i)).natAbs ≤ 1
    · simp [e, hz, -Int.natCast_add, show ¬ (1 : Int) < (agr r (1 + i)).natAbs by omega]
    · simp [e, hz, -Int.natCast_add, show (1 : Int) < (agr r (1 + i)).natAbs by omega]), fm_ite, finC_ok (by
    rw [List.length_map]
    exact Nat.le_trans (List.length_filter_le ..) (by simp; omega))]
  simp
theorem c_ls6 {r : List Int} (h : Sg r) {x0 x1 x3 x4 x5 x6 x7 x8 x9 x10 x12 : DV} : c__law_signs_6 ⟨[x0, x1, .sh (.int r.length), x3, x4, x5, x6, x7, x8, x9, x10, .sh (rowI r), x12], bx⟩ = .ok (.list ((((List.range (r.length - 1)).filter fun i => !decide ((agr r (1 + i)).natAbs ≤ 1)).map fun i => ((1 + i : Nat) : Int)).map .int)) ⟨[x0, x1, .sh (.int r.length), x3, x4, x5, x6, x7, x8, x9, x10, .sh (rowI r), x12], bx⟩ := by
  have := h.lo
  have := h.hi
  simp [c__law_signs_6, range_1 (N := r.length) (by omega) (by omega), compG_map, -Int.natCast_add]
  rw [cG_cond (h := fun i => if (!decide ((agr r (1 + i)).natAbs ≤ 1)) = true then some (.int ((1 + i : Nat) : Int)) else none) (by
    intro i hi b
    rw [List.mem_range] at hi
    have e := lagree_ok h (show 1 + i ≤ r.length by omega) b
    by_cases hz : (agr r (1 + i)).natAbs ≤ 1
    · simp [e, hz, -Int.natCast_add, show ¬ (1 : Int) < (agr r (1 + i)).natAbs by omega]
    · simp [e, hz, -Int.natCast_add, show (1 : Int) < (agr r (1 + i)).natAbs by omega]), fm_ite, finC_ok (by
    rw [List.length_map]
    exact Nat.le_trans (List.length_filter_le ..) (by simp; omega))]
  simp
theorem c_ls9 {r o : List Int} (h : Sg r) (ho : Sg o) (hl : o.length = r.length) {x0 x1 x2 x3 x4 x5 x6 x7 x10 x11 x12 : DV} : c__law_signs_9 ⟨[x0, x1, x2, x3, x4, x5, x6, x7, .sh (rowI o), .sh (rowI r), x10, x11, x12], bx⟩ = .ok (.list ((((List.range (r.length - 1)).filter fun i => !decide (agr r (1 + i) + agr o (1 + i) = 0)).map fun i => ((1 + i : Nat) : Int)).map .int)) ⟨[x0, x1, x2, x3, x4, x5, x6, x7, .sh (rowI o), .sh (rowI r), x10, x11, x12], bx⟩ := by
  have := h.lo
  have := h.hi
  simp [c__law_signs_9, range_1 (N := r.length) (by omega) (by omega), compG_map, -Int.natCast_add]
  rw [cG_cond (h := fun i => if (!decide (agr r (1 + i) + agr o (1 + i) = 0)) = true then some (.int ((1 + i : Nat) : Int)) else none) (by
    intro i hi b
    rw [List.mem_range] at hi
    have e := lagree_ok h (show 1 + i ≤ r.length by omega) b
    have e2 := lagree_ok ho (show 1 + i ≤ o.length by omega) b
    by_cases hz : agr r (1 + i) + agr o (1 + i) = 0
    · simp [e, e2, hz, -Int.natCast_add]
    · simp [e, e2, hz, -Int.natCast_add]), fm_ite, finC_ok (by
    rw [List.length_map]
    exact Nat.le_trans (List.length_filter_le ..) (by simp; omega))]
  simp
theorem ev_bark (r : List Int) : eqD (.list ((((List.range (r.length - 1)).filter fun i => !decide ((agr r (1 + i)).natAbs ≤ 1)).map fun i => ((1 + i : Nat) : Int)).map .int)) (.list []) = some (bark r) := by
  rw [eq_nil, emp_all]
  unfold bark
  congr 2
  funext i
  simp
theorem ev_mate (r o : List Int) : eqD (.list ((((List.range (r.length - 1)).filter fun i => !decide (agr r (1 + i) + agr o (1 + i) = 0)).map fun i => ((1 + i : Nat) : Int)).map .int)) (.list []) = some (mate r o) := by
  rw [eq_nil, emp_all]
  unfold mate
  congr 2
  funext i
  simp
end K11

set_option maxRecDepth 100000
namespace K11
open PySem PySem.Spec PyProof.Rows L2 Gl
variable {ds : List Int} {n N : Int} {bx : Bx} {a b r o : List Int}
def TrN (ds : List Int) (N : Int) (o : O) : Prop := ∃ S2, o = .ret (.bool true) S2 ∧ BxN ds N S2.bx
theorem TrN_ret {S : Sto} : TrN ds N (.ret (.bool true) S) = BxN ds N S.bx := propext ⟨fun ⟨S2, e, h⟩ => by
  cases e
  exact h, fun h => ⟨S, rfl, h⟩⟩
structure GPr (a b : List Int) : Prop where
  sa : Sg a
  sb : Sg b
  l : a.length = b.length
  m : mate a b = true
theorem p0 (a b : List Int) : ixD (pairD a b) (.int 0) = some (.tuple (a.map .int)) := rfl
theorem p1 (a b : List Int) : ixD (pairD a b) (.int 1) = some (.tuple (b.map .int)) := rfl
theorem isn_tt : isNotD (.bool true) (.bool true) = some false := rfl
theorem isn_ff : isNotD (.bool false) (.bool false) = some false := rfl
theorem ne_tm : neD (.list [.str "too many", .str "signs"]) (.list [.str "too many", .str "signs"]) = some false := by decide +kernel
theorem ne_bm : neD (.list [.str "bad thing", .str "many"]) (.list [.str "bad thing", .str "many"]) = some false := by decide +kernel
theorem ne_bb : neD (.list [.str "bad thing", .str "by"]) (.list [.str "bad thing", .str "by"]) = some false := by decide +kernel
theorem bm : fe_barkers.fm [.d (.int 0)] = fun bx => .exc 0 (.str "many") bx := funext barkers_0
theorem b14 : fe_barkers.fm [.d (.int 14)] = fun bx => .exc 1 (.str "signs") bx := funext barkers_14
theorem s16 (g : GPr a b) (hb : BxN ds N bx) (x1 x2 x3 x4 x5 x7 x8 x9 x10 x11 x12 : DV) : TrN ds N (r__law_signs_16 ⟨[.bx, x1, x2, x3, x4, x5, .sh (pairD a b), x7, x8, x9, x10, x11, x12], bx⟩) := by
  have m := mates_ok g.sa g.sb bx
  rw [if_pos g.l, g.m] at m
  simp [r__law_signs_16, p__law_signs_16, r__law_signs_17, p__law_signs_17, r__law_signs_18, p__law_signs_18, p0, p1, m, isn_tt, bm, b14, tagOf, ne_tm, ne_bm, TrN_ret, hb]
theorem dbl_loop (x1 x2 x3 x4 x5 x8 x9 x10 x11 x12 : DV) (bx : Bx) : ∀ (ts a b : List Int) (x7 : DV), GPr a b → a.length * 2 ^ ts.length ≤ 8 → ∃ a' b' x7', GPr a' b' ∧ loopF (stName 7) b__law_signs_11 (ts.map .int) ⟨[.bx, x1, x2, x3, x4, x5, .sh (pairD a b), x7, x8, x9, x10, x11, x12], bx⟩ = .next ⟨[.bx, x1, x2, x3, x4, x5, .sh (pairD a' b'), x7', x8, x9, x10, x11, x12], bx⟩
  | [], a, b, x7, g, _ => ⟨a, b, x7, g, rfl⟩
  | t :: ts, a, b, x7, g, h => by
    rw [List.length_cons, Nat.pow_succ, Nat.mul_comm (2 ^ ts.length), ← Nat.mul_assoc] at h
    have h1 : a.length * 2 ≤ 8 := Nat.le_trans (Nat.le_mul_of_pos_right _ (Nat.pow_pos (by decide))) h
    have hl := g.l
    have d := doubled_ok g.sa g.sb g.l (by omega) bx
    rw [if_pos g.m] at d
    have g2 : GPr (a ++ b) (a ++ neg b) := ⟨g.sa.app g.sb (by omega), g.sa.app g.sb.neg (by rw [len_neg]; omega), by simp, mate_dbl g.l g.m⟩
    obtain ⟨a', b', y, g', ih⟩ := dbl_loop x1 x2 x3 x4 x5 x8 x9 x10 x11 x12 bx ts (a ++ b) (a ++ neg b) (.sh (.int t)) g2 (by
      rw [List.length_append, ← hl, show a.length + a.length = a.length * 2 by omega]
      exact h)
    refine ⟨a', b', y, g', ?_⟩
    rw [← ih]
    simp [b__law_signs_11, p0, p1, d]
theorem s14 (hb : BxN ds N bx) (hN : N < 80000) (x1 x2 x3 x4 x5 x6 x7 x8 x9 x10 x11 x12 : DV) : TrN ds (N + 1) (r__law_signs_14 ⟨[.bx, x1, x2, x3, x4, x5, x6, x7, x8, x9, x10, x11, x12], bx⟩) := by
  obtain ⟨t, bx1, e, t0, t4, hb1⟩ := draws.ok hb (m := 4) (by omega) (by omega)
  obtain ⟨k, rfl⟩ := Int.eq_ofNat_of_zero_le t0
  have hp : 2 ^ k ≤ 2 ^ 3 := Nat.pow_le_pow_right (by decide) (by omega)
  obtain ⟨a, b, y, g, el⟩ := dbl_loop x1 x2 x3 x4 x5 x8 x9 x10 x11 x12 bx1 (R k) [1] [1] x7 ⟨⟨by decide, by decide, by simp⟩, ⟨by decide, by decide, by simp⟩, rfl, rfl⟩ (by rw [len_R]; simpa using hp)
  have nx := s16 g hb1 x1 x2 x3 x4 x5 y x8 x9 x10 x11 x12
  have el' : loopF (stName 7) b__law_signs_11 ((R k).map .int) ⟨[.bx, x1, x2, x3, x4, x5, .sh (.tuple [.tuple [.int 1], .tuple [.int 1]]), x7, x8, x9, x10, x11, x12], bx1⟩ = _ := el
  simp [r__law_signs_14, p__law_signs_14, r__law_signs_15, p__law_signs_15, f__law_signs_12, e, rangeN k (by omega), el', nx]
theorem rs_pair (ha : a.length ≤ 100) (hb : b.length ≤ 100) (h1 : ∀ x ∈ a, x = 1 ∨ x = -1) (h2 : ∀ x ∈ b, x = 1 ∨ x = -1) : RS 2 202 (pairD a b) := by
  have q : ∀ {l : List Int}, l.length ≤ 100 → (∀ x ∈ l, x = 1 ∨ x = -1) → RS 1 100 (.tuple (l.map .int)) := fun {l} hl h => (rs_ints (l := l) fun x hx => by rcases h x hx with rfl | rfl <;> decide).mono (by omega) (by omega)
  exact rs_tup (k := 1) (n := 100) (ds := [.tuple (a.map .int), .tuple (b.map .int)]) fun d hd => by
    simp only [List.mem_cons, List.not_mem_nil, or_false] at hd
    rcases hd with rfl | rfl
    · exact q ha h1
    · exact q hb h2
theorem same_rm (bx : Bx) : fe__law_same.fm [.d (.list [.str "refused", .str "mates"]), .d (.list [.str "refused", .str "mates"])] bx = .ret (.bool true) bx := sames.ok (k := 2) (n := 100) ⟨by decide +kernel, by decide +kernel, by decide +kernel, by decide +kernel, by decide +kernel, by decide +kernel⟩ (by omega) (by omega) bx
def dueS (r o : List Int) : D := if mate r o = true then pairD (r ++ o) (r ++ neg o) else .list [.str "refused", .str "mates"]
theorem s12 (hr : Sg r) (ho : Sg o) (hl : o.length = r.length) (h8 : r.length ≤ 8) (hb : BxN ds N bx) (hN : N < 80000) (x1 x2 x3 x6 x7 x10 x11 x12 : DV) : TrN ds (N + 1) (r__law_signs_12 ⟨[.bx, x1, x2, x3, .sh (.bool (mate r o)), .sh (dueS r o), x6, x7, .sh (rowI o), .sh (rowI r), x10, x11, x12], bx⟩) := by
  have nx := s14 hb hN x1 x2 x3 (.sh (.bool (mate r o))) (.sh (dueS r o)) x6 x7 (.sh (rowI o)) (.sh (rowI r)) x10 x11 x12
  have d := doubled_ok hr ho hl.symm (by omega) bx
  have ab := agree_bad hr bx
  cases e : mate r o with
  | false =>
    rw [e] at nx d
    rw [if_neg (by decide)] at d
    have e2 : dueS r o = .list [.str "refused", .str "mates"] := by unfold dueS; rw [e]; rfl
    rw [e2] at nx ⊢
    simp [r__law_signs_12, p__law_signs_12, r__law_signs_13, p__law_signs_13, d, tagOf, same_rm, ab, ne_bb, nx]
  | true =>
    rw [e] at nx d
    rw [if_pos rfl] at d
    have e2 : dueS r o = pairD (r ++ o) (r ++ neg o) := by unfold dueS; rw [e]; rfl
    rw [e2] at nx ⊢
    have s1 : Sg (r ++ o) := hr.app ho (by omega)
    have s2 : Sg (r ++ neg o) := hr.app ho.neg (by rw [len_neg]; omega)
    have m := mates_ok s1 s2 bx
    rw [if_pos (by simp), mate_dbl hl.symm e] at m
    have sm := sames.ok (rs_pair (a := r ++ o) (b := r ++ neg o) (by have := s1.hi; omega) (by have := s2.hi; omega) s1.pm s2.pm) (by omega) (by omega) bx
    generalize hA : r ++ o = A at *
    generalize hB : r ++ neg o = B at *
    simp [r__law_signs_12, p__law_signs_12, r__law_signs_13, p__law_signs_13, d, sm, p0, p1, m, isn_tt, tagOf, ab, ne_bb, nx]
theorem c_ls10 (ho : o.length ≤ 100) (x0 x1 x2 x3 x4 x5 x6 x7 x9 x10 x11 x12 : DV) : c__law_signs_10 ⟨[x0, x1, x2, x3, x4, x5, x6, x7, .sh (rowI o), x9, x10, x11, x12], bx⟩ = .ok (.list ((neg o).map .int)) ⟨[x0, x1, x2, x3, x4, x5, x6, x7, .sh (rowI o), x9, x10, x11, x12], bx⟩ := by
  simp [c__law_signs_10, compG_map]
  rw [cG_cond (h := fun x => some (.int (-x))) (by
    intro i hi b
    simp), fm_some, finC_ok (by simp; omega)]
  unfold neg
  rw [List.map_map]
  rfl
theorem ne_b (k : Bool) : neD (.bool k) (.bool k) = some false := by cases k <;> rfl
theorem s9 (hr : Sg r) (ho : Sg o) (hl : o.length = r.length) (h8 : r.length ≤ 8) (hb : BxN ds N bx) (hN : N < 80000) (x1 x2 x3 x4 x5 x6 x7 x10 x11 x12 : DV) : TrN ds (N + 1) (r__law_signs_9 ⟨[.bx, x1, x2, x3, x4, x5, x6, x7, .sh (rowI o), .sh (rowI r), x10, x11, x12], bx⟩) := by
  have nx := s12 hr ho hl h8 hb hN x1 x2 x3 x6 x7 x10 x11 x12
  have c := c_ls9 (bx := bx) hr ho hl (x0 := .bx) (x1 := x1) (x2 := x2) (x3 := x3) (x4 := x4) (x5 := x5) (x6 := x6) (x7 := x7) (x10 := x10) (x11 := x11) (x12 := x12)
  have ev := ev_mate r o
  have m := mates_ok hr ho bx
  rw [if_pos hl.symm] at m
  have s1 : Sg [1] := ⟨by decide, by decide, by simp⟩
  have m2 := mates_ok hr (hr.app s1 (by simp; omega)) bx
  rw [if_neg (by simp)] at m2
  have so : sumOk (r.length + 1) = true := sumOk_lt (by omega)
  have so2 : sumOk (r.length + o.length) = true := sumOk_lt (by omega)
  have so3 : sumOk (r.length + (neg o).length) = true := sumOk_lt (by rw [len_neg]; omega)
  have m2' : fe_mates.fm [.d (.tuple (r.map .int)), .d (.tuple (r.map .int ++ [.int 1]))] bx = .ret (.bool false) bx := by
    rw [List.map_append] at m2
    exact m2
  have c10 := fun x4 x5 => c_ls10 (bx := bx) (o := o) (by omega) .bx x1 x2 x3 x4 x5 x6 x7 (.sh (rowI r)) x10 x11 x12
  generalize ((List.range (r.length - 1)).filter fun i => !decide (agr r (1 + i) + agr o (1 + i) = 0)).map (fun i => ((1 + i : Nat) : Int)) = Z at *
  have ed : dueS r o = if mate r o = true then .tuple [.tuple (r.map .int ++ o.map .int), .tuple (r.map .int ++ (neg o).map .int)] else .list [.str "refused", .str "mates"] := by
    unfold dueS pairD
    rw [List.map_append, List.map_append]
  rw [ed] at nx
  cases e : mate r o with
  | false =>
    rw [e] at nx m ev
    simp at nx
    simp [r__law_signs_9, p__law_signs_9, r__law_signs_10, p__law_signs_10, r__law_signs_11, p__law_signs_11, c, ev, m, ne_b, so, m2', isn_ff, nx]
  | true =>
    rw [e] at nx m ev
    simp at nx
    simp [r__law_signs_9, p__law_signs_9, r__law_signs_10, p__law_signs_10, r__law_signs_11, p__law_signs_11, c, ev, m, ne_b, so, m2', isn_ff, so2, so3, c10, nx]
end K11

set_option maxRecDepth 100000
namespace K11
open PySem PySem.Spec PyProof.Rows L2 Gl
variable {ds : List Int} {n N : Int} {bx : Bx} {a b r o : List Int}
theorem rs_rows {l : List (List Int)} (hl : l.length ≤ 600) (h : ∀ r ∈ l, r.length ≤ 100 ∧ ∀ x ∈ r, x.natAbs < 10 ^ 12) : RS 2 60600 (.list (l.map rowI)) := by
  refine (rs_lst (k := 1) (n := 100) (ds := l.map rowI) fun d hd => ?_).mono (by omega) (by rw [List.length_map]; omega)
  obtain ⟨r, hr, rfl⟩ := List.mem_map.mp hd
  obtain ⟨h1, h2⟩ := h r hr
  exact (rs_ints (l := r) h2).mono (by omega) (by omega)
theorem c_ls5 {k : Nat} (hk : k ≤ 8) (x0 x1 x3 x4 x5 x6 x7 x8 x9 x10 x11 x12 : DV) : c__law_signs_5 ⟨[x0, x1, .sh (.int k), x3, x4, x5, x6, x7, x8, x9, x10, x11, x12], bx⟩ = .ok (.ow (.list ((pm2 (-1) 1 k).map rowI))) ⟨[x0, x1, .sh (.int k), x3, x4, x5, x6, x7, x8, x9, x10, x11, x12], bx⟩ := by
  have hp : 2 ^ k ≤ 2 ^ 8 := Nat.pow_le_pow_right (by decide) hk
  have c4 : ∀ (r : List Int), r.length ≤ 100 → ∀ x0 x1 x2 x3 x4 x5 x6 x7 x8 x9 x10 x12 b, c__law_signs_4 ⟨[x0, x1, x2, x3, x4, x5, x6, x7, x8, x9, x10, .sh (rowI r), x12], b⟩ = .ok (.list ((r.map fun x => if x = 1 then (1 : Int) else -1).map .int)) ⟨[x0, x1, x2, x3, x4, x5, x6, x7, x8, x9, x10, .sh (rowI r), x12], b⟩ := fun r hl x0 x1 x2 x3 x4 x5 x6 x7 x8 x9 x10 x12 b => by
    simp [c__law_signs_4, compG_map]
    rw [cG_cond (h := fun x => some (.int (if x = 1 then (1 : Int) else -1))) (by
      intro i hi b
      by_cases h : i = 1 <;> simp [h]), fm_some, finC_ok (by simp; omega)]
    try rfl
  have rw' := rows_ok (m := k) (by omega) bx
  simp [c__law_signs_5, rw', compG_map]
  rw [cG_cond (h := fun r => some (rowI (r.map fun x => if x = 1 then (1 : Int) else -1))) (by
    intro r hr b
    simp [c4 r (by have := (pm2_mem hr).1; omega)]), fm_some, finN_ok (by rw [List.length_map, pm2_len]; omega)]
  have := pm2_map (u := 0) (v := 1) (fun x => if x = 1 then (1 : Int) else -1) k
  rw [if_neg (by decide), if_pos rfl] at this
  rw [← this, List.map_map]
  rfl
theorem c_ls7 {k : Nat} (h1 : 1 ≤ k) (hk : k ≤ 8) (x0 x1 x4 x5 x6 x7 x8 x9 x10 x11 x12 : DV) : c__law_signs_7 ⟨[x0, x1, .sh (.int k), .ow (.list ((pm2 (-1) 1 k).map rowI)), x4, x5, x6, x7, x8, x9, x10, x11, x12], bx⟩ = .ok (.list (((pm2 (-1) 1 k).filter bark).map rowI)) ⟨[x0, x1, .sh (.int k), .sh (.list ((pm2 (-1) 1 k).map rowI)), x4, x5, x6, x7, x8, x9, x10, x11, x12], bx⟩ := by
  have hp : 2 ^ k ≤ 2 ^ 8 := Nat.pow_le_pow_right (by decide) hk
  simp [c__law_signs_7, compG_map]
  rw [cG_cond (h := fun r => if bark r = true then some (rowI r) else none) (by
    intro r hr b
    obtain ⟨a1, a2⟩ := pm2_mem hr
    have sr : Sg r := ⟨by omega, by omega, fun x hx => (a2 x hx).symm⟩
    subst a1
    have c6 := c_ls6 (bx := b) sr (x0 := hideD x0) (x1 := hideD x1) (x3 := .sh (.list ((pm2 (-1) 1 r.length).map rowI))) (x4 := hideD x4) (x5 := hideD x5) (x6 := hideD x6) (x7 := hideD x7) (x8 := hideD x8) (x9 := hideD x9) (x10 := hideD x10) (x12 := hideD x12)
    have ev := ev_bark r
    generalize ((List.range (r.length - 1)).filter fun i => !decide ((agr r (1 + i)).natAbs ≤ 1)).map (fun i => ((1 + i : Nat) : Int)) = Z at *
    simp [c6, ev, some_ite]), fm_ite, finC_ok (by
      rw [List.length_map]
      exact Nat.le_trans (List.length_filter_le ..) (by rw [pm2_len]; omega))]
theorem s5 (hr : Sg r) (h8 : r.length ≤ 8) (hb : BxN ds N bx) (hN : N < 70000) (x1 x2 x3 x4 x5 x6 x7 x8 x10 x11 x12 : DV) : TrN ds (N + 10) (r__law_signs_5 ⟨[.bx, x1, x2, x3, x4, x5, x6, x7, x8, .sh (rowI r), x10, x11, x12], bx⟩) := by
  obtain ⟨t, bx1, e, t0, t4, hb1⟩ := draws.ok hb (m := 7) (by omega) (by omega)
  obtain ⟨j, rfl⟩ := Int.eq_ofNat_of_zero_le t0
  obtain ⟨k, hk⟩ : ∃ k, k = 1 + j := ⟨_, rfl⟩
  have hk' : (1 : Int) + j = (k : Nat) := by omega
  have hp : 2 ^ k ≤ 2 ^ 8 := Nat.pow_le_pow_right (by decide) (by omega)
  have c5 := c_ls5 (bx := bx1) (k := k) (by omega) .bx x1 x3 x4 x5 x6 x7 x8 (.sh (rowI r)) x10 x11 x12
  have c7 := c_ls7 (bx := bx1) (k := k) (by omega) (by omega) .bx x1 x4 x5 x6 x7 x8 (.sh (rowI r)) x10 x11 x12
  have bk := barkers_ok (m := k) (by omega) (by omega) bx1
  have sm := sames.ok (rs_rows (l := (pm2 (-1) 1 k).filter bark) (Nat.le_trans (List.length_filter_le ..) (by rw [pm2_len]; omega)) (fun r hr => by
    obtain ⟨a1, a2⟩ := pm2_mem (List.mem_filter.mp hr).1
    exact ⟨by omega, fun x hx => by rcases a2 x hx with rfl | rfl <;> decide⟩)) (by omega) (by omega) bx1
  obtain ⟨o, bx2, e8, so, lo, hb2⟩ := two_sg (bx := bx1) (x1 := x1) (x2 := .sh (.int k)) (x3 := .sh (.list ((pm2 (-1) 1 k).map rowI))) (x4 := x4) (x5 := x5) (x6 := x6) (x7 := x7) (x8 := x8) (x10 := x10) (x11 := x11) (x12 := x12) hr h8 hb1 (by omega)
  have nx := s9 hr so lo h8 hb2 (by omega) x1 (.sh (.int k)) (.sh (.list ((pm2 (-1) 1 k).map rowI))) x4 x5 x6 x7 x10 x11 x12
  rw [show N + 1 + 8 + 1 = N + 10 by omega] at nx
  generalize (pm2 (-1) 1 k).filter bark = Z at *
  generalize pm2 (-1) 1 k = Z2 at *
  simp [r__law_signs_5, p__law_signs_5, r__law_signs_6, p__law_signs_6, r__law_signs_7, p__law_signs_7, r__law_signs_8, p__law_signs_8, e, hk', c5, bk, c7, sm, e8, nx]
theorem c_ls2 (h : Sg r) {k : Nat} (x0 x2 x3 x4 x5 x6 x7 x8 x10 x11 x12 : DV) : c__law_signs_2 ⟨[x0, .sh (.int k), x2, x3, x4, x5, x6, x7, x8, .sh (rowI r), x10, x11, x12], bx⟩ = .ok (.list ((List.range r.length).map fun i => .int (sg r i * sg r ((i + k) % r.length)))) ⟨[x0, .sh (.int k), x2, x3, x4, x5, x6, x7, x8, .sh (rowI r), x10, x11, x12], bx⟩ := by
  have := h.hi
  have := h.lo
  simp [c__law_signs_2, range1' (show -1000 ≤ (r.length : Int) by omega) (by omega), compG_map]
  rw [cG_cond (h := fun i => some (.int (sg r i * sg r ((i + k) % r.length)))) (by
    intro i hi b
    rw [List.mem_range] at hi
    have e1 := ix_sg (r := r) (i := i) (by omega)
    have e2 := ix_sg (r := r) (i := (i + k) % r.length) (Nat.mod_lt _ (by omega))
    rw [Int.natCast_emod, Int.natCast_add] at e2
    simp [e1, e2, modD_pos (show (0 : Int) < r.length by omega), mulC (sg_b h i)]), fm_some, finC_ok (by simp; omega)]
theorem signs_law (hb : BxN ds N bx) (hN : N < 60000) : ∃ bx', fe__law_signs.fm [.box] bx = .ret (.bool true) bx' ∧ BxN ds (N + 20) bx' := by
  obtain ⟨r, bx1, e1, sr, h8, hb1⟩ := one_sg (bx := bx) (x1 := .un) (x2 := .un) (x3 := .un) (x4 := .un) (x5 := .un) (x6 := .un) (x7 := .un) (x8 := .un) (x9 := .un) (x10 := .un) (x11 := .un) (x12 := .un) hb (by omega)
  have hlo := sr.lo
  obtain ⟨t, bx2, e2, t0, t4, hb2⟩ := draws.ok hb1 (m := r.length) (by omega) (by omega)
  obtain ⟨k, rfl⟩ := Int.eq_ofNat_of_zero_le t0
  have hk : k < r.length := by omega
  have nx := s5 sr h8 hb2 (by omega) (.sh (.int k)) .un .un .un .un .un .un .un .un .un .un
  have a1 := agree_ok sr hk bx2
  have a2 := lagree_ok sr (show k ≤ r.length by omega) bx2
  have a3 := round_ok sr (k := k) bx2
  have c2 := c_ls2 (bx := bx2) sr (k := k) .bx .un .un .un .un .un .un .un .un .un .un
  have c3 := c_ls3 (bx := bx2) sr (x0 := .bx) (x1 := .sh (.int k)) (x2 := .un) (x3 := .un) (x4 := .un) (x5 := .un) (x6 := .un) (x7 := .un) (x8 := .un) (x10 := .un) (x11 := .un) (x12 := .un)
  have ev := ev_bark r
  have bk := barker_ok sr bx2
  have r3 : TrN ds (N + 20) (r__law_signs_4 ⟨[.bx, .sh (.int k), .un, .un, .un, .un, .un, .un, .un, .sh (rowI r), .un, .un, .un], bx2⟩) := by
    rw [show N + 9 + 1 + 10 = N + 20 by omega] at nx
    generalize ((List.range (r.length - 1)).filter fun i => !decide ((agr r (1 + i)).natAbs ≤ 1)).map (fun i => ((1 + i : Nat) : Int)) = Z at *
    simp [r__law_signs_4, p__law_signs_4, bk, c3, ev, ne_b, nx]
  have r2 : TrN ds (N + 20) (r__law_signs_2 ⟨[.bx, .sh (.int k), .un, .un, .un, .un, .un, .un, .un, .sh (rowI r), .un, .un, .un], bx2⟩) := by
    have sm := sumN (fun i => sg r i * sg r ((i + k) % r.length)) (List.range r.length)
    have sm' : sumD (.list ((List.range r.length).map fun i => .int (sg r i * sg r ((i + k) % r.length)))) = some (.int (rnd r k)) := sm
    generalize (List.range r.length).map (fun i => PyData.int (sg r i * sg r ((i + k) % r.length))) = Z at *
    by_cases hk0 : 0 < k
    · have sp := rnd_split hk0 hk
      have a4 := agree_ok sr (show r.length - k < r.length by omega) bx2
      rw [show ((r.length - k : Nat) : Int) = (r.length : Int) - k by omega] at a4
      simp [r__law_signs_2, p__law_signs_2, r__law_signs_3, p__law_signs_3, a1, a2, a3, c2, sm', hk0, a4, sp, r3]
    · simp [r__law_signs_2, p__law_signs_2, r__law_signs_3, p__law_signs_3, a1, a2, a3, c2, sm', hk0, r3]
  have go : TrN ds (N + 20) (m__law_signs ⟨[.bx, .un, .un, .un, .un, .un, .un, .un, .un, .un, .un, .un, .un], bx⟩) := by
    simp [m__law_signs, r__law_signs_0, p__law_signs_0, r__law_signs_1, p__law_signs_1, e1, e2, r2]
  obtain ⟨S2, e, h⟩ := go
  refine ⟨S2.bx, ?_, h⟩
  have e' : m__law_signs ⟨[.bx] ++ List.replicate 12 DV.un, bx⟩ = .ret (.bool true) S2 := e
  simp [fe__law_signs, z_fm, slotA]
  rw [show ([.bx, .un, .un, .un, .un, .un, .un, .un, .un, .un, .un, .un, .un] : List DV) = [.bx] ++ List.replicate 12 DV.un from rfl, e']
  rfl
end K11

set_option maxRecDepth 100000
namespace K11
open PySem PySem.Spec PyProof.Rows L2 Gl
variable {ds : List Int} {N : Int} {bx : Bx} {n : Nat} {s g : List Int}
theorem eq_bs : eqD (.list [.str "bad thing", .str "slits"]) (.list [.str "bad thing", .str "slits"]) = some true := by decide +kernel
theorem ne_bsg : neD (.list [.str "bad thing", .str "signs"]) (.list [.str "bad thing", .str "signs"]) = some false := by decide +kernel
theorem ne_bl : neD (.list [.str "bad thing", .str "lamps"]) (.list [.str "bad thing", .str "lamps"]) = some false := by decide +kernel
theorem ne_bp : neD (.list [.str "bad thing", .str "prime"]) (.list [.str "bad thing", .str "prime"]) = some false := by decide +kernel
theorem ne_re : neD (.list [.str "refused", .str "even"]) (.list [.str "refused", .str "even"]) = some false := by decide +kernel
theorem dif_bad {d : D} (h : d ∈ [PyData.int 1, .int 32, .none, .int 3]) (bx : Bx) : fe_differences.fm [.d d, .d (.tuple [.int 0, .int 5])] bx = .exc 0 (.str "slits") bx := by
  simp only [List.mem_cons, List.not_mem_nil, or_false] at h
  have hc : fe_check_set.fm [.d d, .d (.tuple [.int 0, .int 5])] bx = .exc 0 (.str "slits") bx := by
    rcases h with rfl | rfl | rfl | rfl
    · simp [fe_check_set, z_fm, m_check_set, slotA]
    · simp [fe_check_set, z_fm, m_check_set, slotA]
    · simp [fe_check_set, z_fm, m_check_set, slotA]
    · simp [fe_check_set, z_fm, m_check_set, slotA, c_check_set_1, cG_cons, cG_nil, finC_ok]
  simp [fe_differences, z_fm, m_differences, slotA, hc]
theorem inst_l (l : List D) : instD "tuple" (.list l) = some (.bool false) := rfl
theorem inst_n : instD "tuple" .none = some (.bool false) := rfl
theorem bark_bad {d : D} (h : d ∈ [PyData.tuple [], .tuple [.int 0], .list [.int 1], .none, .tuple [.int 2], .tuple [.bool true], .tuple (List.replicate 21 (.int 1))]) (bx : Bx) : fe_is_barker.fm [.d d] bx = .exc 0 (.str "signs") bx := by
  simp only [List.mem_cons, List.not_mem_nil, or_false] at h
  have hc : fe_check_signs.fm [.d d] bx = .exc 0 (.str "signs") bx := by
    rcases h with rfl | rfl | rfl | rfl | rfl | rfl | rfl
    · simp [fe_check_signs, z_fm, m_check_signs, slotA]
    · simp [fe_check_signs, z_fm, m_check_signs, slotA, c_check_signs_1, cG_cons, cG_nil, finC_ok]
    · simp [fe_check_signs, z_fm, m_check_signs, slotA, inst_l]
    · simp [fe_check_signs, z_fm, m_check_signs, slotA, inst_n]
    · simp [fe_check_signs, z_fm, m_check_signs, slotA, c_check_signs_1, cG_cons, cG_nil, finC_ok]
    · simp [fe_check_signs, z_fm, m_check_signs, slotA, c_check_signs_1, cG_cons, cG_nil, finC_ok]
    · simp [fe_check_signs, z_fm, m_check_signs, slotA]
  simp [fe_is_barker, z_fm, m_is_barker, slotA, hc]
theorem mul21 : mulD (.tuple [.int 1]) (.int 21) = some (.tuple (List.replicate 21 (.int 1))) := by rfl
theorem r28 (hb : BxN ds N bx) (hN : N < 90000) (x0 x1 x2 x3 x4 x5 x6 x7 x8 x9 x11 x12 x13 x14 x15 x16 x17 x18 x19 x20 : DV) : Tr (r_law_28 ⟨[x0, x1, x2, x3, x4, x5, x6, x7, x8, x9, .bx, x11, x12, x13, x14, x15, x16, x17, x18, x19, x20], bx⟩) := by
  obtain ⟨d, bx', e, hd, hb'⟩ := pick hb (by omega) (things := [.int 1, .int 32, .none, .int 3]) (by simp)
  have hm := dif_bad hd bx'
  simp [r_law_28, p_law_28, e, hm, tagOf, eq_bs]
theorem r27 (hb : BxN ds N bx) (hN : N < 80000) (x0 x1 x2 x3 x4 x5 x6 x7 x8 x9 x11 x12 x13 x14 x15 x16 x17 x18 x19 x20 : DV) : Tr (r_law_27 ⟨[x0, x1, x2, x3, x4, x5, x6, x7, x8, x9, .bx, x11, x12, x13, x14, x15, x16, x17, x18, x19, x20], bx⟩) := by
  obtain ⟨d, bx', e, hd, hb'⟩ := pick hb (by omega) (things := [PyData.tuple [], .tuple [.int 0], .list [.int 1], .none, .tuple [.int 2], .tuple [.bool true], .tuple (List.replicate 21 (.int 1))]) (by simp)
  have hm := bark_bad hd bx'
  have nx := r28 hb' (by omega) x0 x1 x2 x3 x4 x5 x6 x7 x8 x9 x11 x12 x13 x14 x15 x16 x17 x18 x19 x20
  generalize hZ : (PyData.tuple (List.replicate 21 (.int 1))) = Z at *
  have m21 : mulD (.tuple [.int 1]) (.int 21) = some Z := by rw [← hZ]; exact mul21
  simp [r_law_27, p_law_27, m21, e, hm, tagOf, ne_bsg, nx]
theorem r26 (h : SetOK n s) (h2 : 2 ≤ n) (h3 : n ≤ 31) (hg : g.length = n) (hb : BxN ds N bx) (hN : N < 80000) (x0 x1 x2 x3 x4 x5 x6 x7 x8 x9 x11 x13 x14 x16 x18 x19 x20 : DV) : Tr (r_law_26 ⟨[x0, x1, x2, x3, x4, x5, x6, x7, x8, x9, .bx, x11, .sh (rowI g), x13, x14, .sh (.int n), x16, .sh (rowI s), x18, x19, x20], bx⟩) := by
  have hm := seen_bad (l := g.tail) h h2 h3 (by rw [List.length_tail]; omega) bx
  rw [List.map_tail] at hm
  have nx := r27 hb (by omega) x0 x1 x2 x3 x4 x5 x6 x7 x8 x9 x11 (.sh (rowI g)) x13 x14 (.sh (.int n)) x16 (.sh (rowI s)) x18 x19 x20
  simp [r_law_26, p_law_26, hm, tagOf, ne_bl, nx]
theorem r25 (h : SetOK n s) (h2 : 2 ≤ n) (h3 : n ≤ 31) (hg : g.length = n) (hb : BxN ds N bx) (hN : N < 70000) (x0 x1 x2 x3 x4 x5 x6 x7 x8 x9 x11 x13 x14 x16 x18 x19 x20 : DV) : Tr (r_law_25 ⟨[x0, x1, x2, x3, x4, x5, x6, x7, x8, x9, .bx, x11, .sh (rowI g), x13, x14, .sh (.int n), x16, .sh (rowI s), x18, x19, x20], bx⟩) := by
  obtain ⟨d, bx', e, hd, hb'⟩ := pick hb (by omega) (things := [.int 1, .int 9, .int 33, .int 2, .none, .bool true]) (by simp)
  have hm := squares_bad hd bx'
  have nx := r26 h h2 h3 hg hb' (by omega) x0 x1 x2 x3 x4 x5 x6 x7 x8 x9 x11 x13 x14 x16 x18 x19 x20
  simp [r_law_25, p_law_25, e, hm, tagOf, ne_bp, nx]
theorem r24 (h : SetOK n s) (h2 : 2 ≤ n) (h3 : n ≤ 31) (hg : g.length = n) (hb : BxN ds N bx) (hN : N < 50000) (x0 x1 x2 x3 x4 x5 x6 x7 x8 x9 x11 x13 x14 x16 x18 x19 x20 : DV) : Tr (r_law_24 ⟨[x0, x1, x2, x3, x4, x5, x6, x7, x8, x9, .bx, x11, .sh (rowI g), x13, x14, .sh (.int n), x16, .sh (rowI s), x18, x19, x20], bx⟩) := by
  obtain ⟨bx', e, hb'⟩ := signs_law hb (by omega)
  have nx := r25 h h2 h3 hg hb' (by omega) x0 x1 x2 x3 x4 x5 x6 x7 x8 x9 x11 x13 x14 x16 x18 x19 x20
  simp [r_law_24, p_law_24, e, nx]
theorem ev7 : Ev 7 [0, 1, 3] := ⟨⟨by decide, by decide⟩, by decide, by decide, by decide +kernel, by decide +kernel⟩
theorem shp_one : ∀ l : List Int, shp (.tuple (l.map oneP)) = true := fun l => (shp_tup fun d hd => by
  obtain ⟨x, _, rfl⟩ := List.mem_map.mp hd
  exact ⟨rfl, by simp [oneP, PyData.depth, PyData.depthAll]⟩).1
theorem ne_one (l : List Int) : neD (.tuple (l.map oneP)) (.tuple (l.map oneP)) = some false := neD_refl (shp_one l)
theorem c_law_15_ok (hg : g.length ≤ 1000) (x0 x1 x2 x3 x4 x5 x6 x7 x8 x10 x11 x12 x13 x14 x15 x16 x17 x18 x19 x20 : DV) : c_law_15 ⟨[x0, x1, x2, x3, x4, x5, x6, x7, x8, .sh (rowI g), x10, x11, x12, x13, x14, x15, x16, x17, x18, x19, x20], bx⟩ = .ok (.list (g.map oneP)) ⟨[x0, x1, x2, x3, x4, x5, x6, x7, x8, .sh (rowI g), x10, x11, x12, x13, x14, x15, x16, x17, x18, x19, x20], bx⟩ := by
  simp [c_law_15, compG_map]
  rw [cG_cond (h := fun x => some (oneP x)) (by
    intro x hx b
    simp [oneP]), fm_some, finC_ok (by simp; omega)]
theorem c_law_13_ok (hg : g.length ≤ 1000) (x0 x1 x2 x3 x4 x5 x6 x7 x8 x9 x10 x11 x13 x14 x15 x16 x17 x18 x19 x20 : DV) : c_law_13 ⟨[x0, x1, x2, x3, x4, x5, x6, x7, x8, x9, x10, x11, .sh (rowI g), x13, x14, x15, x16, x17, x18, x19, x20], bx⟩ = .ok (.list (g.map oneP)) ⟨[x0, x1, x2, x3, x4, x5, x6, x7, x8, x9, x10, x11, .sh (rowI g), x13, x14, x15, x16, x17, x18, x19, x20], bx⟩ := by
  simp [c_law_13, compG_map]
  rw [cG_cond (h := fun x => some (oneP x)) (by
    intro x hx b
    simp [oneP]), fm_some, finC_ok (by simp; omega)]
theorem r22 (h : SetOK n s) (h2 : 2 ≤ n) (h3 : n ≤ 31) (hg : g.length = n) (hb : BxN ds N bx) (hN : N < 40000) (x0 x1 x2 x3 x4 x5 x6 x7 x8 x9 x11 x13 x14 x16 x18 x19 x20 : DV) : Tr (r_law_22 ⟨[x0, x1, x2, x3, x4, x5, x6, x7, x8, x9, .bx, x11, .sh (rowI g), x13, x14, .sh (.int n), x16, .sh (rowI s), x18, x19, x20], bx⟩) := by
  obtain ⟨ys, bx2, e2, yl, yp, hb2⟩ := comp_draw (js := [10]) (vs := [18]) (mi := (mRange (mSeq [(mC (.int 7))]))) (st := stName 18) (mt := mC true) (me := (mCall fe__law_draw (mSeq [(mArgV 10), (mArgE (mC (.int 6)))])))
    (S := ⟨[x0, x1, x2, x3, x4, x5, x6, x7, x8, x9, .bx, x11, .sh (rowI g), x13, x14, .sh (.int n), x16, .sh (rowI s), x18, x19, x20], bx⟩) (S1 := ⟨[x0, x1, x2, x3, x4, x5, x6, x7, x8, x9, .bx, x11, .sh (rowI g), x13, x14, .sh (.int n), x16, .sh (rowI s), x18, x19, x20], bx⟩) (S2 := ⟨[x0, x1, x2, x3, x4, x5, x6, x7, x8, x9, .bx, x11, .sh (rowI g), x13, x14, .sh (.int n), x16, .sh (rowI s), x18, x19, x20], bx⟩) (l := List.range 7) (fun i => .int (i : Nat)) (B := fun k bx => BxN ds (N + k) bx) (G := fun d => ∃ x : Int, d = .int x ∧ (-10 ≤ x ∧ x ≤ 10)) (by
      simp [range1' (j := 7) (by omega) (by omega)]) (by simp) (by simpa using hb) (fun x hx k' b hk' hb' => by
      rw [List.length_range] at hk'
      obtain ⟨v, b', e, v0, v1, hb2⟩ := draws.ok hb' (m := 6) (by omega) (by omega)
      refine ⟨_, _, .int v, _, rfl, rfl, by simp [e]; rfl, ⟨v, rfl, by omega, by omega⟩, ?_⟩
      rw [show N + ((k' + 1 : Nat) : Int) = N + k' + 1 by omega]
      exact hb2) (by simp)
  obtain ⟨l, rfl, hl⟩ := ints_of yp
  rw [List.length_range] at hb2
  have ll : l.length = 7 := by simpa using yl
  have c : c_law_14 ⟨[x0, x1, x2, x3, x4, x5, x6, x7, x8, x9, .bx, x11, .sh (rowI g), x13, x14, .sh (.int n), x16, .sh (rowI s), x18, x19, x20], bx⟩ = .ok (.list (l.map .int)) ⟨[x0, x1, x2, x3, x4, x5, x6, x7, x8, x9, .bx, x11, .sh (rowI g), x13, x14, .sh (.int n), x16, .sh (rowI s), x18, x19, x20], bx2⟩ := e2
  have e3 : fe_seen.fm [.d (.int 7), .d (.tuple [.int 0, .int 1, .int 3]), .d (.tuple (l.map .int))] bx2 = .ret (.tuple ((seenL 7 [0, 1, 3] l).map .int)) bx2 := seen_ok ev7.set (by decide) (by decide) ll bx2
  have e4 : fe_lamps_of.fm [.d (.int 7), .d (.tuple [.int 0, .int 1, .int 3]), .d (.tuple ((seenL 7 [0, 1, 3] l).map .int))] bx2 = .ret (.tuple (l.map oneP)) bx2 := lamps_of_ok ev7 ll hl bx2
  have nx := r24 h h2 h3 hg hb2 (by omega) x0 x1 x2 x3 x4 x5 x6 x7 x8 (.sh (rowI l)) x11 x13 x14 x16 x18 x19 x20
  have c15 := c_law_15_ok (bx := bx2) (g := l) (by omega) x0 x1 x2 x3 x4 x5 x6 x7 x8 (.bx) x11 (.sh (rowI g)) x13 x14 (.sh (.int n)) x16 (.sh (rowI s)) x18 x19 x20
  generalize (seenL 7 [0, 1, 3] l).map PyData.int = Z at *
  simp [r_law_22, p_law_22, r_law_23, p_law_23, c, e3, e4, c15, ne_one, nx]
theorem c_law_12_ok (x0 x2 x3 x4 x5 x6 x7 x8 x9 x10 x11 x12 x13 x14 x15 x16 x17 x18 x19 x20 : DV) (hn : n ≤ 31) : c_law_12 ⟨[x0, .sh (rowI (difL n s)), x2, x3, x4, x5, x6, x7, x8, x9, x10, x11, x12, x13, x14, x15, x16, x17, x18, x19, x20], bx⟩ = .ok (.list ((difL n s).tail.map oneP)) ⟨[x0, .sh (rowI (difL n s)), x2, x3, x4, x5, x6, x7, x8, x9, x10, x11, x12, x13, x14, x15, x16, x17, x18, x19, x20], bx⟩ := by
  simp [c_law_12, compG_map, -List.map_tail, ← List.map_tail]
  rw [cG_cond (h := fun x => some (oneP x)) (by
    intro x hx b
    simp [oneP]), fm_some, finC_ok (by simp; omega)]
theorem ev_dec : decide (((uq (difL n s).tail : Nat) : Int) = 1) = evenB n s := by
  unfold evenB
  rw [Bool.eq_iff_iff, decide_eq_true_eq, beq_iff_eq]
  omega
theorem r19 (h : SetOK n s) (h2 : 2 ≤ n) (h3 : n ≤ 31) (hg : g.length = n) (hb : BxN ds N bx) (hN : N < 40000) (hl : ∀ x ∈ g, -10 ≤ x ∧ x ≤ 10) (x0 x2 x3 x4 x5 x6 x7 x8 x9 x11 x13 x16 x18 x19 x20 : DV) : Tr (r_law_19 ⟨[x0, .sh (rowI (difL n s)), x2, x3, x4, x5, x6, x7, x8, x9, .bx, x11, .sh (rowI g), x13, .sh (rowI (seenL n s g)), .sh (.int n), x16, .sh (rowI s), x18, x19, x20], bx⟩) := by
  have c12 := c_law_12_ok (n := n) (s := s) (bx := bx) x0 x2 x3 x4 x5 x6 x7 x8 x9 (.bx) x11 (.sh (rowI g)) x13 (.sh (rowI (seenL n s g))) (.sh (.int n)) x16 (.sh (rowI s)) x18 x19 x20 h3
  have ld := lenDict_one (difL n s).tail
  have ed := ev_dec (n := n) (s := s)
  obtain ⟨a1, a2⟩ := at_dif (s := s) h2
  have q1 : ixD (rowI (difL n s)) (.int 0) = some (.int (cnt n s 0)) := at_ints a1
  have q2 : ixD (rowI (difL n s)) (.int 1) = some (.int (cnt n s 1)) := at_ints a2
  have nx := fun x7 x8 => r22 h h2 h3 hg hb (by omega) x0 (.sh (rowI (difL n s))) x2 x3 x4 x5 x6 x7 x8 x9 x11 x13 (.sh (rowI (seenL n s g))) x16 x18 x19 x20
  have c13 := fun x7 x8 => c_law_13_ok (bx := bx) (g := g) (by omega) x0 (.sh (rowI (difL n s))) x2 x3 x4 x5 x6 x7 x8 x9 (.bx) x11 x13 (.sh (rowI (seenL n s g))) (.sh (.int n)) x16 (.sh (rowI s)) x18 x19 x20
  by_cases z : evenB n s = true ∧ cnt n s 0 ≠ cnt n s 1
  · have e := lamps_of_ok ⟨h, h2, h3, z.1, z.2⟩ hg hl bx
    rw [z.1] at ed
    generalize (difL n s).tail.map oneP = Z at *
    simp [r_law_19, p_law_19, r_law_20, p_law_20, r_law_21, p_law_21, c12, ld, ed, q1, q2, z.2, e, c13, ne_one, nx]
  · have z' : evenB n s = false ∨ cnt n s 0 = cnt n s 1 := by
      cases e : evenB n s with
      | false => exact .inl rfl
      | true => exact .inr (Decidable.not_not.mp fun z2 => z ⟨e, z2⟩)
    have e := lamps_of_no h h2 h3 (l := seenL n s g) (by simp [seenL]) z' bx
    generalize (difL n s).tail.map oneP = Z at *
    cases ee : evenB n s with
    | false =>
      rw [ee] at ed
      simp [r_law_19, p_law_19, r_law_20, p_law_20, r_law_21, p_law_21, c12, ld, ed, e, tagOf, ne_re, nx]
    | true =>
      rw [ee] at ed
      have z2 := z'.resolve_left (by rw [ee]; simp)
      simp [r_law_19, p_law_19, r_law_20, p_law_20, r_law_21, p_law_21, c12, ld, ed, q1, q2, z2, e, tagOf, ne_re, nx]
end K11

set_option maxRecDepth 100000
namespace K11
open PySem PySem.Spec PyProof.Rows L2 Gl
variable {ds : List Int} {N : Int} {bx : Bx} {n : Nat} {s g : List Int}
theorem c10 (hn : 0 < n) (hl : g.length = n) (hs : s.length ≤ 1000) (t : Int) (x0 x1 x2 x3 x4 x5 x6 x7 x8 x9 x10 x11 x13 x14 x16 x19 x20 : DV) : c_law_10 ⟨[x0, x1, x2, x3, x4, x5, x6, x7, x8, x9, x10, x11, .sh (rowI g), x13, x14, .sh (.int n), x16, .sh (rowI s), .sh (.int t), x19, x20], bx⟩ = .ok (.list (s.map fun a => .int (lp g ((t - a) % n)))) ⟨[x0, x1, x2, x3, x4, x5, x6, x7, x8, x9, x10, x11, .sh (rowI g), x13, x14, .sh (.int n), x16, .sh (rowI s), .sh (.int t), x19, x20], bx⟩ := by
  simp [c_law_10, compG_map]
  rw [cG_cond (h := fun a => some (.int (lp g ((t - a) % n)))) (by
    intro x hx b
    have := md n hn (t - x)
    simp [modD_pos (show (0 : Int) < n by omega), ix_lp (l := g) this.1 (by omega)]), fm_some, finC_ok (by simp; omega)]
theorem c11 (hn : 0 < n) (h31 : n ≤ 31) (hl : g.length = n) (hs : s.length ≤ 1000) (x0 x1 x2 x3 x4 x5 x6 x7 x8 x9 x10 x11 x13 x14 x16 x18 x19 x20 : DV) : c_law_11 ⟨[x0, x1, x2, x3, x4, x5, x6, x7, x8, x9, x10, x11, .sh (rowI g), x13, x14, .sh (.int n), x16, .sh (rowI s), x18, x19, x20], bx⟩ = .ok (.list ((seenL n s g).map .int)) ⟨[x0, x1, x2, x3, x4, x5, x6, x7, x8, x9, x10, x11, .sh (rowI g), x13, x14, .sh (.int n), x16, .sh (rowI s), x18, x19, x20], bx⟩ := by
  simp [c_law_11, rangeN n (by omega), compG_map]
  rw [cG_cond (h := fun t => some (.int (S (fun a => lp g ((t - a) % n)) s))) (by
    intro x hx b
    simp [c10 hn hl hs, sumS]), fm_some, finC_ok (by simp; omega)]
  unfold seenL
  rw [List.map_map]
  rfl
theorem rs_I {l : List Int} (hl : l.length ≤ 1000) (h : ∀ x ∈ l, x.natAbs < 10 ^ 12) : RS 1 1000 (rowI l) := (rs_ints (l := l) h).mono (by omega) (by omega)
theorem same_I {l : List Int} (hl : l.length ≤ 1000) (h : ∀ x ∈ l, x.natAbs < 10 ^ 12) (bx : Bx) : fe__law_same.fm [.d (rowI l), .d (rowI l)] bx = .ret (.bool true) bx := sames.ok (rs_I hl h) (by omega) (by omega) bx
theorem seen_b (hs : s.length ≤ 31) (hg : ∀ x ∈ g, -10 ≤ x ∧ x ≤ 10) : ∀ x ∈ seenL n s g, x.natAbs < 10 ^ 12 := fun x hx => by
  obtain ⟨t, _, rfl⟩ := List.mem_map.mp hx
  have := S_bound (f := fun a => lp g ((t - a) % n)) (B := 10) (l := s) fun a _ => lp_b hg _
  omega
theorem r16 (h : SetOK n s) (h2 : 2 ≤ n) (h3 : n ≤ 13) (hb : BxN ds N bx) (hN : N < 30000) (x0 x2 x3 x4 x5 x6 x7 x8 x9 x11 x12 x13 x14 x16 x18 x19 x20 : DV) : Tr (r_law_16 ⟨[x0, .sh (rowI (difL n s)), x2, x3, x4, x5, x6, x7, x8, x9, .bx, x11, x12, x13, x14, .sh (.int n), x16, .sh (rowI s), x18, x19, x20], bx⟩) := by
  have hsl := h.len
  obtain ⟨ys, bx2, e2, yl, yp, hb2⟩ := comp_draw (js := [10]) (vs := [18]) (mi := (mRange (mSeq [(mVar 15)]))) (st := stName 18) (mt := mC true) (me := (mOp2 subD (mCall fe__law_draw (mSeq [(mArgV 10), (mArgE (mC (.int 9)))])) (mC (.int 2))))
    (S := ⟨[x0, .sh (rowI (difL n s)), x2, x3, x4, x5, x6, x7, x8, x9, .bx, x11, x12, x13, x14, .sh (.int n), x16, .sh (rowI s), x18, x19, x20], bx⟩) (S1 := ⟨[x0, .sh (rowI (difL n s)), x2, x3, x4, x5, x6, x7, x8, x9, .bx, x11, x12, x13, x14, .sh (.int n), x16, .sh (rowI s), x18, x19, x20], bx⟩) (S2 := ⟨[x0, .sh (rowI (difL n s)), x2, x3, x4, x5, x6, x7, x8, x9, .bx, x11, x12, x13, x14, .sh (.int n), x16, .sh (rowI s), x18, x19, x20], bx⟩) (l := R n) PyData.int (B := fun k bx => BxN ds (N + k) bx) (G := fun d => ∃ x : Int, d = .int x ∧ (-10 ≤ x ∧ x ≤ 10)) (by
      simp [rangeN n (by omega)]) (by simp) (by simpa using hb) (fun x hx k' b hk' hb' => by
      rw [len_R] at hk'
      obtain ⟨v, b', e, v0, v1, hb2⟩ := draws.ok hb' (m := 9) (by omega) (by omega)
      refine ⟨_, _, .int (v - 2), _, rfl, rfl, by simp [e]; rfl, ⟨v - 2, rfl, by omega, by omega⟩, ?_⟩
      rw [show N + ((k' + 1 : Nat) : Int) = N + k' + 1 by omega]
      exact hb2) (by rw [len_R]; omega)
  obtain ⟨l, rfl, hl⟩ := ints_of yp
  rw [len_R] at hb2
  have ll : l.length = n := by simpa using yl
  have c : c_law_9 ⟨[x0, .sh (rowI (difL n s)), x2, x3, x4, x5, x6, x7, x8, x9, .bx, x11, x12, x13, x14, .sh (.int n), x16, .sh (rowI s), x18, x19, x20], bx⟩ = .ok (.list (l.map .int)) ⟨[x0, .sh (rowI (difL n s)), x2, x3, x4, x5, x6, x7, x8, x9, .bx, x11, x12, x13, x14, .sh (.int n), x16, .sh (rowI s), x18, x19, x20], bx2⟩ := e2
  have nx := r19 (g := l) h h2 (show n ≤ 31 by omega) ll hb2 (by omega) hl x0 x2 x3 x4 x5 x6 x7 x8 x9 x11 x13 x16 x18 x19 x20
  have c11' := c11 (bx := bx2) (n := n) (s := s) (g := l) (by omega) (by omega) ll (by omega) x0 (.sh (rowI (difL n s))) x2 x3 x4 x5 x6 x7 x8 x9 (.bx) x11 x13 x14 x16 x18 x19 x20
  have sn := seen_ok h h2 (show n ≤ 31 by omega) ll bx2
  have sm := same_I (l := seenL n s l) (by simp [seenL]; omega) (seen_b (n := n) (by omega) hl) bx2
  generalize seenL n s l = Z at *
  simp [r_law_16, p_law_16, r_law_17, p_law_17, r_law_18, p_law_18, c, c11', sn, sm, nx]
theorem c8 {p : Nat} (hp : 3 ≤ p) (hp2 : p ≤ 31) (x0 x1 x2 x3 x4 x6 x7 x8 x9 x10 x11 x12 x13 x14 x15 x16 x17 x18 x19 x20 : DV) : c_law_8 ⟨[x0, x1, x2, x3, x4, .sh (.int p), x6, x7, x8, x9, x10, x11, x12, x13, x14, x15, x16, x17, x18, x19, x20], bx⟩ = .ok (.list ((sqs p).map oneP)) ⟨[x0, x1, x2, x3, x4, .sh (.int p), x6, x7, x8, x9, x10, x11, x12, x13, x14, x15, x16, x17, x18, x19, x20], bx⟩ := by
  simp [c_law_8, range_1 (N := p) (by omega) (by omega), compG_map, -Int.natCast_add]
  rw [cG_cond (h := fun k => some (oneP (((1 + k : Nat) : Int) * ((1 + k : Nat) : Int) % p))) (by
    intro x hx b
    rw [List.mem_range] at hx
    simp [mulC (a := ((1 + x : Nat) : Int)) (b := ((1 + x : Nat) : Int)) (by omega), modD_pos (show (0 : Int) < p by omega), -Int.natCast_add, oneP]), fm_some, finC_ok (by simp; omega)]
  unfold sqs
  rw [List.map_map]
  rfl
theorem pr_mem {d : D} (h : d ∈ [PyData.int 3, .int 5, .int 7, .int 11, .int 13, .int 17, .int 19, .int 23, .int 29, .int 31]) : ∃ p ∈ primes, d = .int (p : Nat) := by
  simp only [List.mem_cons, List.not_mem_nil, or_false] at h
  rcases h with rfl | rfl | rfl | rfl | rfl | rfl | rfl | rfl | rfl | rfl
  · exact ⟨3, by decide, rfl⟩
  · exact ⟨5, by decide, rfl⟩
  · exact ⟨7, by decide, rfl⟩
  · exact ⟨11, by decide, rfl⟩
  · exact ⟨13, by decide, rfl⟩
  · exact ⟨17, by decide, rfl⟩
  · exact ⟨19, by decide, rfl⟩
  · exact ⟨23, by decide, rfl⟩
  · exact ⟨29, by decide, rfl⟩
  · exact ⟨31, by decide, rfl⟩
theorem r13 (h : SetOK n s) (h2 : 2 ≤ n) (h3 : n ≤ 13) (hb : BxN ds N bx) (hN : N < 20000) (x0 x2 x3 x4 x5 x6 x7 x8 x9 x11 x12 x13 x14 x16 x18 x19 x20 : DV) : Tr (r_law_13 ⟨[x0, .sh (rowI (difL n s)), x2, x3, x4, x5, x6, x7, x8, x9, .bx, x11, x12, x13, x14, .sh (.int n), x16, .sh (rowI s), x18, x19, x20], bx⟩) := by
  obtain ⟨d, bx', e, hd, hb'⟩ := pick hb (by omega) (things := [.int 3, .int 5, .int 7, .int 11, .int 13, .int 17, .int 19, .int 23, .int 29, .int 31]) (by simp)
  obtain ⟨p, hp, rfl⟩ := pr_mem hd
  obtain ⟨q1, q2, q3⟩ := pr_ok p hp
  have c := c8 (bx := bx') q1 q2 x0 (.sh (rowI (difL n s))) x2 x3 x4 x6 x7 x8 x9 (.bx) x11 x12 x13 x14 (.sh (.int n)) x16 (.sh (rowI s)) x18 x19 x20
  have e2 := sortDict_one (uq_sq (p := p) q2)
  have e3 := squares_ok q1 q2 q3 bx'
  have ss := sq_set' q1
  have sm := same_I (l := sqL p) (by have := ss.len; omega) (fun x hx => by have := ss.rng x hx; omega) bx'
  have e4 := is_even_ok ss (by omega) q2 bx'
  have nx := fun x5 x6 => r16 h h2 h3 hb' (by omega) x0 x2 x3 x4 x5 x6 x7 x8 x9 x11 x12 x13 x14 x16 x18 x19 x20
  have e2' : sortDictN (.list ((sqs p).map oneP)) = some (.ow (.list ((sqL p).map .int))) := e2
  clear e2
  have m4 := modD_pos (i := p) (j := 4) (by omega)
  by_cases z : p % 4 = 3 ∧ 3 < p
  · rw [sq_even hp z.1 z.2] at e4
    generalize sqL p = Z at *
    simp [r_law_13, p_law_13, r_law_14, p_law_14, r_law_15, p_law_15, e, c, e2', e3, sm, m4, show (p : Int) % 4 = 3 by omega, show (3 : Int) < p by omega, e4, isn_tt, nx]
  · by_cases z1 : p % 4 = 3
    · have z2 : ¬ 3 < p := fun z2 => z ⟨z1, z2⟩
      generalize sqL p = Z at *
      simp [r_law_13, p_law_13, r_law_14, p_law_14, r_law_15, p_law_15, e, c, e2', e3, sm, m4, show (p : Int) % 4 = 3 by omega, show ¬ (3 : Int) < p by omega, nx]
    · generalize sqL p = Z at *
      simp [r_law_13, p_law_13, r_law_14, p_law_14, r_law_15, p_law_15, e, c, e2', e3, sm, m4, show ¬ (p : Int) % 4 = 3 by omega, nx]
theorem shp_rows (l : List (List Int)) : shp (.list (l.map rowI)) = true := (shp_tup (ds := l.map rowI) fun d hd => by
  obtain ⟨r, _, rfl⟩ := List.mem_map.mp hd
  exact ⟨(shp_tI r).1, by
    have := (shp_tI r).2
    have : PyData.depth (rowI r) = PyData.depthAll (r.map .int) + 1 := rfl
    have := depth_ints r
    omega⟩).1
theorem ne_rows (l : List (List Int)) : neD (.list (l.map rowI)) (.list (l.map rowI)) = some false := neD_refl (shp_rows l)
theorem es7 (bx : Bx) : fe_even_sets.fm [.d (.int 7), .d (.int 3)] bx = .ret (.list ((evenP 7 3).map rowI)) bx := even_sets_ok (n := 7) (m := 3) (by decide) (by decide) (by decide) (by decide) (by decide) bx
theorem es13 (bx : Bx) : fe_even_sets.fm [.d (.int 13), .d (.int 4)] bx = .ret (.list ((evenP 13 4).map rowI)) bx := even_sets_ok (n := 13) (m := 4) (by decide) (by decide) (by decide) (by decide) (by decide) bx
theorem ne7 : neD (.list ((evenP 7 3).map rowI)) (.list [.tuple [.int 0, .int 1, .int 3], .tuple [.int 0, .int 1, .int 5], .tuple [.int 0, .int 2, .int 3], .tuple [.int 0, .int 2, .int 6], .tuple [.int 0, .int 4, .int 5], .tuple [.int 0, .int 4, .int 6]]) = some false := by
  rw [e7]
  exact ne_rows [[0, 1, 3], [0, 1, 5], [0, 2, 3], [0, 2, 6], [0, 4, 5], [0, 4, 6]]
theorem r12 (h : SetOK n s) (h2 : 2 ≤ n) (h3 : n ≤ 13) (hb : BxN ds N bx) (hN : N < 20000) (x0 x2 x3 x4 x5 x6 x7 x8 x9 x11 x12 x13 x14 x16 x18 x19 x20 : DV) : Tr (r_law_12 ⟨[x0, .sh (rowI (difL n s)), x2, x3, x4, x5, x6, x7, x8, x9, .bx, x11, x12, x13, x14, .sh (.int n), x16, .sh (rowI s), x18, x19, x20], bx⟩) := by
  have nx := r13 h h2 h3 hb (by omega) x0 x2 x3 x4 x5 x6 x7 x8 x9 x11 x12 x13 x14 x16 x18 x19 x20
  have a := es7 bx
  have b := es13 bx
  have c := ne7
  have d := e13
  generalize evenP 7 3 = Z at *
  generalize evenP 13 4 = Z2 at *
  have d' : ¬ ((Z2.map rowI).length : Int) = 0 := by
    rw [List.length_map]
    have := List.length_pos_iff.mpr d
    omega
  rw [List.length_map] at d'
  simp [r_law_12, p_law_12, a, b, c, d', d, nx]
theorem c6 {k : Nat} {q : List Int} (hq : SetOK k q) (hk : 1 ≤ k) (hk2 : k ≤ 31) (x0 x1 x2 x3 x4 x5 x6 x7 x8 x9 x10 x11 x12 x13 x14 x15 x17 x18 x19 : DV) : c_law_6 ⟨[x0, x1, x2, x3, x4, x5, x6, x7, x8, x9, x10, x11, x12, x13, x14, x15, .sh (.int k), x17, x18, x19, .sh (rowI q)], bx⟩ = .ok (.list ((difL k q).tail.map oneP)) ⟨[x0, x1, x2, x3, x4, x5, x6, x7, x8, x9, x10, x11, x12, x13, x14, x15, .sh (.int k), x17, x18, x19, .sh (rowI q)], bx⟩ := by
  have e := ldif_ok hq hk hk2 bx
  have c1 := cut1I ((difL k q).map .int)
  simp only [← List.map_tail] at c1
  simp only [c_law_6, y_comp, z_items, z_cut, z_call, z_cons, z_nil, y_argV, List.getElem?_cons_succ, List.getElem?_cons_zero, rdA_sh, z_ok, List.length_cons, List.length_nil, ar__law_differences, if_true, e, goR_ret, z_part, z_c, paO_int, c1, z_some, z_itup, compG_map, js_nil]
  rw [cG_cond (h := fun x => some (oneP x)) (by
    intro x hx b
    simp [oneP]), fm_some, finC_ok (by simp; omega)]
theorem c7 {k m : Nat} (hk : 3 ≤ k) (hk2 : k ≤ 9) (hm : 1 ≤ m) (x0 x1 x2 x3 x4 x5 x6 x7 x8 x9 x10 x11 x12 x14 x15 x17 x18 x19 x20 : DV) : c_law_7 ⟨[x0, x1, x2, x3, x4, x5, x6, x7, x8, x9, x10, x11, x12, .sh (.int m), x14, x15, .sh (.int k), x17, x18, x19, x20], bx⟩ = .ok (.ow (.list ((own k m).map rowI))) ⟨[x0, x1, x2, x3, x4, x5, x6, x7, x8, x9, x10, x11, x12, .sh (.int m), x14, x15, .sh (.int k), x17, x18, x19, x20], bx⟩ := by
  have hp : 2 ^ k ≤ 2 ^ 9 := Nat.pow_le_pow_right (by decide) hk2
  have e := subsets_ok (k := k) (by omega) bx
  simp [c_law_7, e, compG_map]
  rw [cG_cond (h := fun q => if (decide (q.length = m) && (decide (sg q 0 = 0) && evenB k q)) = true then some (rowI q) else none) (by
    intro q hq b
    have sq := subs_set k q hq
    by_cases hl : q.length = m
    · have i0 : ixD (rowI q) (.int 0) = some (.int (sg q 0)) := ix_sg (i := 0) (by omega)
      by_cases h0 : sg q 0 = 0
      · have c := c6 (bx := b) sq (by omega) (by omega) (hideD x0) (hideD x1) (hideD x2) (hideD x3) (hideD x4) (hideD x5) (hideD x6) (hideD x7) (hideD x8) (hideD x9) (hideD x10) (hideD x11) (hideD x12) (.sh (.int m)) (hideD x14) (hideD x15) (hideD x17) (hideD x18) (hideD x19)
        have ld := lenDict_one (difL k q).tail
        have ed := ev_dec (n := k) (s := q)
        generalize (difL k q).tail.map oneP = Z at *
        simp [hl, i0, h0, c, ld, ed, some_ite]
      · simp [hl, i0, h0]
    · simp [hl, show ¬ (q.length : Int) = m by omega]), fm_ite, finN_ok (by
      rw [List.length_map]
      exact Nat.le_trans (List.length_filter_le ..) (by rw [subs_len]; omega))]
  rfl
theorem ne_bmany : neD (.list [.str "bad thing", .str "many"]) (.list [.str "bad thing", .str "many"]) = some false := ne_bm
theorem r11 {k m : Nat} (h : SetOK n s) (h2 : 2 ≤ n) (h3 : n ≤ 13) (hk : k ∈ [3, 4, 5, 6, 7, 8, 9]) (hm : m ∈ [1, 2, 3, 4]) (hb : BxN ds N bx) (hN : N < 20000) (x0 x2 x3 x4 x5 x6 x7 x8 x9 x11 x12 x14 x18 x19 x20 : DV) : Tr (r_law_11 ⟨[x0, .sh (rowI (difL n s)), x2, x3, x4, x5, x6, x7, x8, x9, .bx, x11, x12, .sh (.int m), x14, .sh (.int n), .sh (.int k), .sh (rowI s), x18, x19, x20], bx⟩) := by
  have hk' : 3 ≤ k ∧ k ≤ 9 := by
    simp only [List.mem_cons, List.not_mem_nil, or_false] at hk
    omega
  have hm' : 1 ≤ m ∧ m ≤ 4 := by
    simp only [List.mem_cons, List.not_mem_nil, or_false] at hm
    omega
  have nx := fun x4 => r12 h h2 h3 hb (by omega) x0 x2 x3 x4 x5 x6 x7 x8 x9 x11 x12 (.sh (.int m)) x14 (.sh (.int k)) x18 x19 x20
  by_cases z : m < k
  · have c := c7 (bx := bx) (k := k) (m := m) hk'.1 hk'.2 hm'.1 x0 (.sh (rowI (difL n s))) x2 x3 x4 x5 x6 x7 x8 x9 (.bx) x11 x12 x14 (.sh (.int n)) (.sh (rowI s)) x18 x19 x20
    have e := even_sets_ok (n := k) (m := m) (by omega) (by omega) hm'.1 hm'.2 z bx
    have so := sorted_rows (l := own k m) (fun r hr z => by
      have := (List.mem_filter.mp hr).2
      rw [z] at this
      simp at this
      omega)
    rw [own_even hk hm z] at so
    have hlen : (evenP k m).length ≤ 600 ∧ ∀ r ∈ evenP k m, r.length ≤ 100 ∧ ∀ x ∈ r, x.natAbs < 10 ^ 12 := by
      have p : (srtR (own k m)).Perm (own k m) := List.mergeSort_perm _ _
      rw [own_even hk hm z] at p
      have hp : 2 ^ k ≤ 2 ^ 9 := Nat.pow_le_pow_right (by decide) hk'.2
      refine ⟨?_, fun r hr => ?_⟩
      · rw [p.length_eq]
        exact Nat.le_trans (List.length_filter_le ..) (by rw [subs_len]; omega)
      · have sr := subs_set k r (List.mem_filter.mp (p.mem_iff.mp hr)).1
        have := sr.len
        exact ⟨by omega, fun x hx => by have := sr.rng x hx; omega⟩
    have sm := sames.ok (rs_rows hlen.1 hlen.2) (by omega) (by omega) bx
    generalize evenP k m = Z at *
    generalize own k m = Z2 at *
    simp [r_law_11, p_law_11, show (m : Int) < k by omega, c, e, so, sm, nx]
  · have e := even_sets_bad (n := k) (m := m) (by omega) (by omega) (by omega) bx
    simp [r_law_11, p_law_11, show ¬ (m : Int) < k by omega, e, tagOf, ne_bm, nx]
theorem r10 (h : SetOK n s) (h2 : 2 ≤ n) (h3 : n ≤ 13) (hb : BxN ds N bx) (hN : N < 10000) (x0 x2 x3 x4 x5 x6 x7 x8 x9 x11 x12 x13 x14 x16 x18 x19 x20 : DV) : Tr (r_law_10 ⟨[x0, .sh (rowI (difL n s)), x2, x3, x4, x5, x6, x7, x8, x9, .bx, x11, x12, x13, x14, .sh (.int n), x16, .sh (rowI s), x18, x19, x20], bx⟩) := by
  obtain ⟨a, bx1, e1, a0, a1, hb1⟩ := draws.ok hb (m := 7) (by omega) (by omega)
  obtain ⟨b, bx2, e2, b0, b1, hb2⟩ := draws.ok hb1 (m := 4) (by omega) (by omega)
  obtain ⟨k, hk⟩ : ∃ k : Nat, (3 : Int) + a = k := Int.eq_ofNat_of_zero_le (by omega)
  obtain ⟨m, hm⟩ : ∃ m : Nat, (1 : Int) + b = m := Int.eq_ofNat_of_zero_le (by omega)
  have nx := r11 (k := k) (m := m) h h2 h3 (by simp only [List.mem_cons, List.not_mem_nil, or_false]; omega) (by simp only [List.mem_cons, List.not_mem_nil, or_false]; omega) hb2 (by omega) x0 x2 x3 x4 x5 x6 x7 x8 x9 x11 x12 x14 x18 x19 x20
  simp [r_law_10, p_law_10, e1, hk, e2, hm, nx]
end K11

set_option maxRecDepth 100000
namespace K11
open PySem PySem.Spec PyProof.Rows L2 Gl
variable {ds : List Int} {N : Int} {bx : Bx} {n : Nat} {s g : List Int}
theorem same_rb (bx : Bx) : fe__law_same.fm [.d (.list [.str "refused", .str "by"]), .d (.list [.str "refused", .str "by"])] bx = .ret (.bool true) bx := sames.ok (k := 2) (n := 100) ⟨by decide +kernel, by decide +kernel, by decide +kernel, by decide +kernel, by decide +kernel, by decide +kernel⟩ (by omega) (by omega) bx
theorem fits_gcd (hn : 0 < n) (b : Int) : decide (((Int.gcd (b % n) n : Nat) : Int) = 1) = fits n b := by
  unfold fits
  have := (md n hn b).1
  have e : Int.gcd (b % n) n = Nat.gcd n (b % n).toNat := by
    unfold Int.gcd
    rw [Int.natAbs_natCast, Nat.gcd_comm, show (b % (n : Int)).natAbs = (b % (n : Int)).toNat by omega]
  rw [e, Bool.eq_iff_iff, decide_eq_true_eq, decide_eq_true_eq]
  omega
theorem c5 (hn : 0 < n) (hl : s.length ≤ 1000) (hs : ∀ a ∈ s, 0 ≤ a ∧ a < 100) (b : Int) (x0 x1 x2 x3 x4 x5 x6 x7 x8 x9 x10 x12 x13 x14 x16 x18 x19 x20 : DV) : c_law_5 ⟨[x0, x1, x2, x3, x4, x5, x6, x7, x8, x9, x10, .sh (.int b), x12, x13, x14, .sh (.int n), x16, .sh (rowI s), x18, x19, x20], bx⟩ = .ok (.list (s.map fun a => .int (a * b % n))) ⟨[x0, x1, x2, x3, x4, x5, x6, x7, x8, x9, x10, .sh (.int b), x12, x13, x14, .sh (.int n), x16, .sh (rowI s), x18, x19, x20], bx⟩ := by
  simp [c_law_5, compG_map]
  rw [cG_cond (h := fun a => some (.int (a * b % n))) (by
    intro x hx b'
    have := hs x hx
    simp [mulC (a := x) (b := b) (by omega), modD_pos (show (0 : Int) < n by omega)]), fm_some, finC_ok (by simp; omega)]
theorem c4 (hn : 0 < n) (hl : s.length ≤ 1000) (b : Int) (x0 x1 x2 x3 x4 x5 x6 x7 x8 x9 x10 x12 x13 x14 x16 x18 x19 x20 : DV) : c_law_4 ⟨[x0, x1, x2, x3, x4, x5, x6, x7, x8, x9, x10, .sh (.int b), x12, x13, x14, .sh (.int n), x16, .sh (rowI s), x18, x19, x20], bx⟩ = .ok (.list (s.map fun a => .int ((a + b) % n))) ⟨[x0, x1, x2, x3, x4, x5, x6, x7, x8, x9, x10, .sh (.int b), x12, x13, x14, .sh (.int n), x16, .sh (rowI s), x18, x19, x20], bx⟩ := by
  simp [c_law_4, compG_map]
  rw [cG_cond (h := fun a => some (.int ((a + b) % n))) (by
    intro x hx b'
    simp [modD_pos (show (0 : Int) < n by omega)]), fm_some, finC_ok (by simp; omega)]
theorem c3 (hn : n ≤ 31) (x0 x1 x2 x3 x4 x5 x6 x7 x8 x9 x10 x11 x12 x13 x14 x16 x18 x19 x20 : DV) : c_law_3 ⟨[x0, x1, x2, x3, x4, x5, x6, x7, x8, x9, x10, x11, x12, x13, x14, .sh (.int n), x16, .sh (rowI s), x18, x19, x20], bx⟩ = .ok (.list ((oth n s).map .int)) ⟨[x0, x1, x2, x3, x4, x5, x6, x7, x8, x9, x10, x11, x12, x13, x14, .sh (.int n), x16, .sh (rowI s), x18, x19, x20], bx⟩ := by
  simp [c_law_3, rangeN n (by omega), compG_map]
  rw [cG_cond (h := fun x => if (!decide (x ∈ s)) = true then some (PyData.int x) else none) (by
    intro x hx b
    simp [some_ite]
    try (by_cases h : x ∈ s <;> simp [h])), fm_ite, finC_ok (by
    rw [List.length_map]
    exact Nat.le_trans (List.length_filter_le ..) (by simp; omega))]
  rfl
theorem c2 (x0 x2 x3 x4 x5 x6 x7 x8 x9 x10 x11 x12 x13 x14 x15 x16 x17 x18 x19 x20 : DV) (hn : n ≤ 31) : c_law_2 ⟨[x0, .sh (rowI (difL n s)), x2, x3, x4, x5, x6, x7, x8, x9, x10, x11, x12, x13, x14, x15, x16, x17, x18, x19, x20], bx⟩ = .ok (.list ((difL n s).tail.map oneP)) ⟨[x0, .sh (rowI (difL n s)), x2, x3, x4, x5, x6, x7, x8, x9, x10, x11, x12, x13, x14, x15, x16, x17, x18, x19, x20], bx⟩ := by
  simp [c_law_2, compG_map, -List.map_tail, ← List.map_tail]
  rw [cG_cond (h := fun x => some (oneP x)) (by
    intro x hx b
    simp [oneP]), fm_some, finC_ok (by simp; omega)]
theorem r7 (b : Int) (h : SetOK n s) (h2 : 2 ≤ n) (h3 : n ≤ 13) (hb : BxN ds N bx) (hN : N < 9000) (x0 x2 x3 x4 x5 x6 x7 x8 x9 x12 x13 x14 x16 x18 x19 x20 : DV) : Tr (r_law_7 ⟨[x0, .sh (rowI (difL n s)), x2, x3, x4, x5, x6, x7, x8, x9, .bx, .sh (.int b), x12, x13, x14, .sh (.int n), x16, .sh (rowI s), x18, x19, x20], bx⟩) := by
  have hsl := h.len
  have hn : 0 < n := by omega
  have cm := commons.ok (a := b % n) (b := n) (by omega) bx
  have fg := fits_gcd hn b
  have sp := spread_ok h h2 (show n ≤ 31 by omega) b bx
  have m := md n hn b
  have hs : ∀ a ∈ s, 0 ≤ a ∧ a < 100 := fun a ha => by have := h.rng a ha; omega
  have c := fun x2 => c5 (bx := bx) hn (show s.length ≤ 1000 by omega) hs b x0 (.sh (rowI (difL n s))) x2 x3 x4 x5 x6 x7 x8 x9 (.bx) x12 x13 x14 x16 x18 x19 x20
  have ot := others_ok h h2 (show n ≤ 31 by omega) bx
  have eo := is_even_ok (oth_ok (n := n) (s := s)) h2 (show n ≤ 31 by omega) bx
  rw [even_oth h hn] at eo
  have es := is_even_ok h h2 (show n ≤ 31 by omega) bx
  have nx := fun x2 x3 => r10 h h2 h3 hb (by omega) x0 x2 x3 x4 x5 x6 x7 x8 x9 (.sh (.int b)) x12 x13 x14 x16 x18 x19 x20
  have so := sort_map (fun a => a * b % n) s
  have sm : fe__law_same.fm [.d (rowI (spL n b s)), .d (rowI (spL n b s))] bx = .ret (.bool true) bx := same_I (l := spL n b s) (by unfold spL; rw [(srtI_perm _).length_eq, List.length_map]; omega) (fun x hx => by
    obtain ⟨a, _, rfl⟩ := List.mem_map.mp ((srtI_perm _).mem_iff.mp hx)
    have := md n hn (a * b)
    omega) bx
  have so' : sortedD (.list (s.map fun a => .int (a * b % n))) = some (.list ((spL n b s).map .int)) := so
  clear so
  generalize (s.map fun a => PyData.int (a * b % n)) = Z at *
  generalize spL n b s = Z2 at *
  have hm := modD_pos (i := b) (j := n) (by omega)
  cases hf : fits n b with
  | true =>
    rw [hf] at sp fg
    rw [if_pos rfl] at sp
    simp [r_law_7, p_law_7, r_law_8, p_law_8, r_law_9, p_law_9, hm, cm, fg, c, so', sp, sm, ot, eo, es, ne_b, nx]
  | false =>
    rw [hf] at sp fg
    rw [if_neg (by decide)] at sp
    simp [r_law_7, p_law_7, r_law_8, p_law_8, r_law_9, p_law_9, hm, cm, fg, sp, tagOf, same_rb, ot, eo, es, ne_b, nx]
theorem r5 (h : SetOK n s) (h2 : 2 ≤ n) (h3 : n ≤ 13) (hb : BxN ds N bx) (hN : N < 8000) (x0 x2 x3 x4 x5 x6 x7 x8 x9 x11 x12 x13 x14 x16 x18 x19 x20 : DV) : Tr (r_law_5 ⟨[x0, .sh (rowI (difL n s)), x2, x3, x4, x5, x6, x7, x8, x9, .bx, x11, x12, x13, x14, .sh (.int n), x16, .sh (rowI s), x18, x19, x20], bx⟩) := by
  have hsl := h.len
  have hn : 0 < n := by omega
  obtain ⟨a, bx1, e1, a0, a1, hb1⟩ := draws.ok hb (m := 30) (by omega) (by omega)
  obtain ⟨b, hbb⟩ : ∃ b, b = a - 10 := ⟨_, rfl⟩
  have mv := moved_ok h h2 (show n ≤ 31 by omega) b bx1
  have ms := mv_set h hn b
  have df := differences_ok ms h2 (show n ≤ 31 by omega) bx1
  rw [mv_dif] at df
  have c := c4 (bx := bx1) hn (show s.length ≤ 1000 by omega) b x0 (.sh (rowI (difL n s))) x2 x3 x4 x5 x6 x7 x8 x9 (.bx) x12 x13 x14 x16 x18 x19 x20
  have so : sortedD (.list (s.map fun a => .int ((a + b) % n))) = some (.list ((mvL n b s).map .int)) := sort_map (fun a => (a + b) % n) s
  have sm := same_I (l := mvL n b s) (by have := ms.len; omega) (fun x hx => by have := ms.rng x hx; omega) bx1
  have nx := r7 b h h2 h3 hb1 (by omega) x0 x2 x3 x4 x5 x6 x7 x8 x9 x12 x13 x14 x16 x18 x19 x20
  generalize (s.map fun a => PyData.int ((a + b) % n)) = Z at *
  generalize mvL n b s = Z2 at *
  simp [r_law_5, p_law_5, r_law_6, p_law_6, e1, ← hbb, mv, c, so, sm, df, nx]
theorem r2 (h : SetOK n s) (h2 : 2 ≤ n) (h3 : n ≤ 13) (hb : BxN ds N bx) (hN : N < 8000) (x0 x1 x2 x3 x4 x5 x6 x7 x8 x9 x11 x12 x13 x14 x16 x18 x19 x20 : DV) : Tr (r_law_2 ⟨[x0, x1, x2, x3, x4, x5, x6, x7, x8, x9, .bx, x11, x12, x13, x14, .sh (.int n), x16, .sh (rowI s), x18, x19, x20], bx⟩) := by
  have hsl := h.len
  have hn : 0 < n := by omega
  have ld := ldif_ok h (show 1 ≤ n by omega) (show n ≤ 31 by omega) bx
  have df := differences_ok h h2 (show n ≤ 31 by omega) bx
  have sm := same_I (l := difL n s) (by rw [len_dif]; omega) (fun x hx => by
    obtain ⟨k, _, rfl⟩ := List.mem_map.mp hx
    have := cnt_b (n := n) (s := s) (by omega) k
    omega) bx
  have sd := dif_sum (s := s) hn
  have ml : mulD (.int s.length) (.int s.length) = some (.int ((s.length : Int) * s.length)) := mulC (by omega)
  have es := is_even_ok h h2 (show n ≤ 31 by omega) bx
  have c := c2 (bx := bx) (n := n) (s := s) x0 x2 x3 x4 x5 x6 x7 x8 x9 (.bx) x11 x12 x13 x14 (.sh (.int n)) x16 (.sh (rowI s)) x18 x19 x20 (by omega)
  have le := lenDict_one (difL n s).tail
  have ed := ev_dec (n := n) (s := s)
  have ot := others_ok h h2 (show n ≤ 31 by omega) bx
  have c' := c3 (bx := bx) (n := n) (s := s) (show n ≤ 31 by omega) x0 (.sh (rowI (difL n s))) x2 x3 x4 x5 x6 x7 x8 x9 (.bx) x11 x12 x13 x14 x16 x18 x19 x20
  have so := same_I (l := oth n s) (by have := (oth_ok (n := n) (s := s)).len; omega) (fun x hx => by have := (oth_ok (n := n) (s := s)).rng x hx; omega) bx
  have nx := r5 h h2 h3 hb (by omega) x0 x2 x3 x4 x5 x6 x7 x8 x9 x11 x12 x13 x14 x16 x18 x19 x20
  generalize oth n s = Z3 at *
  generalize (difL n s).tail.map oneP = Z at *
  simp [r_law_2, p_law_2, r_law_3, p_law_3, r_law_4, p_law_4, ld, df, sm, sd, ml, es, c, le, ed, ne_b, ot, c', so, nx]
theorem sub_draw (y0 y1 y2 y3 y4 y5 y6 y7 y8 y9 y11 y12 y13 y14 y15 y16 y17 y18 y19 y20 : DV) : ∀ (l : List Int) (M : Int) (bx : Bx), BxN ds M bx → M + l.length < 8000 → ∃ (ys : List Int) (bx' : Bx), compL [y0, y1, y2, y3, y4, y5, y6, y7, y8, y9, .bx, y11, y12, y13, y14, y15, y16, y17, y18, y19, y20] (stName 18) (mCmp eqD (mCall fe__law_draw (mSeq [(mArgV 10), (mArgE (mC (.int 3)))])) (mC (.int 0))) (mOp1 intD (mPeek 18)) (l.map .int) bx = some (ys.map .int, bx') ∧ ys.Sublist l ∧ BxN ds (M + l.length) bx'
  | [], M, bx, hb, _ => ⟨[], bx, rfl, .slnil, by simpa using hb⟩
  | a :: l, M, bx, hb, hM => by
    rw [List.length_cons] at hM
    obtain ⟨v, bx1, e, v0, v1, hb1⟩ := draws.ok hb (m := 3) (by omega) (by omega)
    obtain ⟨ys, bx2, e2, sb, hb2⟩ := sub_draw y0 y1 y2 y3 y4 y5 y6 y7 y8 y9 y11 y12 y13 y14 y15 y16 y17 y18 y19 y20 l (M + 1) bx1 hb1 (by omega)
    rw [show M + 1 + (l.length : Int) = M + ((a :: l).length : Nat) by rw [List.length_cons]; omega] at hb2
    by_cases hv : v = 0
    · subst hv
      refine ⟨a :: ys, bx2, ?_, sb.cons_cons a, hb2⟩
      simp [compL, e, e2]
    · refine ⟨ys, bx2, ?_, sb.cons a, hb2⟩
      simp [compL, e, hv, e2]
theorem law (ns ds : List Int) : ∃ S2, m_law ⟨((.sh (.list (ns.map .int))) :: List.replicate 20 DV.un).set 10 .bx, some (ds, 0)⟩ = .ret (.bool true) S2 := by
  have hb : BxN ds 0 (some (ds, 0)) := ⟨0, rfl, by omega, by omega⟩
  obtain ⟨t, bx1, e1, t0, t1, hb1⟩ := draws.ok hb (m := 12) (by omega) (by omega)
  obtain ⟨n, hn⟩ : ∃ n : Nat, (2 : Int) + t = n := Int.eq_ofNat_of_zero_le (by omega)
  obtain ⟨s, bx2, e2, sb, hb2⟩ := sub_draw (ds := ds) (.sh (.list (ns.map .int))) .un .un .un .un .un .un .un .un .un .un .un .un .un (.sh (.int n)) .un .un .un .un .un (R n) (0 + 1) bx1 hb1 (by rw [len_R]; omega)
  rw [len_R] at hb2
  have hs : SetOK n s := ⟨R_asc.sublist sb, fun a ha => mem_R.mp (sb.subset ha)⟩
  have hl := hs.len
  have c : c_law_1 ⟨[.sh (.list (ns.map .int)), .un, .un, .un, .un, .un, .un, .un, .un, .un, .bx, .un, .un, .un, .un, .sh (.int n), .un, .un, .un, .un, .un], bx1⟩ = .ok (.list (s.map .int)) ⟨[.sh (.list (ns.map .int)), .un, .un, .un, .un, .un, .un, .un, .un, .un, .bx, .un, .un, .un, .un, .sh (.int n), .un, .un, .un, .un, .un], bx2⟩ :=
    comp_of (S1 := ⟨[.sh (.list (ns.map .int)), .un, .un, .un, .un, .un, .un, .un, .un, .un, .bx, .un, .un, .un, .un, .sh (.int n), .un, .un, .un, .un, .un], bx1⟩) (ds := (R n).map .int) (by simp [rangeN n (by omega)]) e2 (by rw [List.length_map]; omega)
  have nx := r2 hs (show 2 ≤ n by omega) (show n ≤ 13 by omega) hb2 (by omega) (.sh (.list (ns.map .int))) .un .un .un .un .un .un .un .un .un .un .un .un .un .un .un .un .un
  have go : Tr (m_law ⟨((.sh (.list (ns.map .int))) :: List.replicate 20 DV.un).set 10 .bx, some (ds, 0)⟩) := by
    simp [m_law, r_law_0, p_law_0, r_law_1, p_law_1, List.replicate, e1, hn, c, nx]
  exact go
end K11

open PySem PySem.W PyProof.Rows L2 Gl K11 in
set_option maxRecDepth 100000 in
set_option maxHeartbeats 0 in
theorem PySem.Challenge.cw_panehouse_k11_slits_and_lamps_holds : PySem.Challenge.rw_panehouse_k11_slits_and_lamps.Holds := by
  w_on; o_law; k_head; (case hw => w_witness2)
  k_fill
  refine walkG (l := PySem.Challenge.rw_panehouse_k11_slits_and_lamps) (n := 63) rfl (by decide) rfl ["law", "_law_signs"] ?R (fun w h Y => PySem.W.km_in_of Y) ?F
  case R => first | rfl | decide +kernel
  case F =>
    intro w mg fa h kin gl hmg own
    refine' K11.lawG kin gl hmg own ?apart (tabK_mk (defC_mk ?a__law_signs ?b__law_signs ?c__law_signs ?d__law_signs) ?kt__law_signs ?kt2__law_signs ?kn__law_signs ?kh__law_signs) ?bl (xtxt_mk kin gl ?aC0 ?aS0 ?iC0 ?lC0 ?lF0 ?cF0 ?lc0 ?lo0 ?sa0 ?noN0 ?tC0 ?kC0 ?exC0 ?veC0 ?ccC0 ?tyC0 ?opq0 ?rv0 ?sup0 ?dc0 ?dO0 ?dv0 ?fl0 ?ln0 ?top0 ?fok0 ?bi0)
      (xtxt_mk kin gl ?aC1 ?aS1 ?iC1 ?lC1 ?lF1 ?cF1 ?lc1 ?lo1 ?sa1 ?noN1 ?tC1 ?kC1 ?exC1 ?veC1 ?ccC1 ?tyC1 ?opq1 ?rv1 ?sup1 ?dc1 ?dO1 ?dv1 ?fl1 ?ln1 ?top1 ?fok1 ?bi1)
      (xtxt_mk kin gl ?aC2 ?aS2 ?iC2 ?lC2 ?lF2 ?cF2 ?lc2 ?lo2 ?sa2 ?noN2 ?tC2 ?kC2 ?exC2 ?veC2 ?ccC2 ?tyC2 ?opq2 ?rv2 ?sup2 ?dc2 ?dO2 ?dv2 ?fl2 ?ln2 ?top2 ?fok2 ?bi2)
      (defK_mk ?a_is_integer ?b_is_integer ?c_is_integer ?d_is_integer)
      (defK_mk ?a_common ?b_common ?c_common ?d_common)
      (defK_mk ?a_reduced ?b_reduced ?c_reduced ?d_reduced)
      (defK_mk ?a_plus ?b_plus ?c_plus ?d_plus)
      (defK_mk ?a_over ?b_over ?c_over ?d_over)
      (defK_mk ?a_total ?b_total ?c_total ?d_total)
      (defK_mk ?a_check_set ?b_check_set ?c_check_set ?d_check_set)
      (defK_mk ?a_differences ?b_differences ?c_differences ?d_differences)
      (defK_mk ?a_is_even ?b_is_even ?c_is_even ?d_is_even)
      (defK_mk ?a_even_sets ?b_even_sets ?c_even_sets ?d_even_sets)
      (defK_mk ?a_squares ?b_squares ?c_squares ?d_squares)
      (defK_mk ?a_moved ?b_moved ?c_moved ?d_moved)
      (defK_mk ?a_spread ?b_spread ?c_spread ?d_spread)
      (defK_mk ?a_others ?b_others ?c_others ?d_others)
      (defK_mk ?a_check_lamps ?b_check_lamps ?c_check_lamps ?d_check_lamps)
      (defK_mk ?a_seen ?b_seen ?c_seen ?d_seen)
      (defK_mk ?a_lamps_of ?b_lamps_of ?c_lamps_of ?d_lamps_of)
      (defK_mk ?a_check_signs ?b_check_signs ?c_check_signs ?d_check_signs)
      (defK_mk ?a_agree ?b_agree ?c_agree ?d_agree)
      (defK_mk ?a_round_agree ?b_round_agree ?c_round_agree ?d_round_agree)
      (defK_mk ?a_is_barker ?b_is_barker ?c_is_barker ?d_is_barker)
      (defK_mk ?a_barkers ?b_barkers ?c_barkers ?d_barkers)
      (defK_mk ?a_mates ?b_mates ?c_mates ?d_mates)
      (defK_mk ?a_doubled ?b_doubled ?c_doubled ?d_doubled)
      (defK_mk ?a__law_digits ?b__law_digits ?c__law_digits ?d__law_digits)
      (defK_mk ?a__law_draw ?b__law_draw ?c__law_draw ?d__law_draw)
      (defK_mk ?a__law_pick ?b__law_pick ?c__law_pick ?d__law_pick)
      (defK_mk ?a__law_same ?b__law_same ?c__law_same ?d__law_same)
      (defK_mk ?a__law_subsets ?b__law_subsets ?c__law_subsets ?d__law_subsets)
      (defK_mk ?a__law_common ?b__law_common ?c__law_common ?d__law_common)
      (defK_mk ?a__law_rows ?b__law_rows ?c__law_rows ?d__law_rows)
      (defK_mk ?a__law_differences ?b__law_differences ?c__law_differences ?d__law_differences)
      (defK_mk ?a__law_agree ?b__law_agree ?c__law_agree ?d__law_agree)
      (defC_mk ?a__law_signs ?b__law_signs ?c__law_signs ?d__law_signs)
      (told_mk ?ta ?tb ?tc ?td ?te ?tf ?tg1 ?tg2 ?th ?ti)
      (lawK_mk ?la ?lb ?ld ?lt ?lt2 ?ln ?lh)
      ?e_0_0
      ?e_0_2
      ?e_0_1
      ?e_2_0
      ?e_2_2
      ?e_2_1
      ?e_1_0
      ?e_1_2
      ?e_1_1
      ?n_0_2
      ?n_0_1
      ?n_2_0
      ?n_2_1
      ?n_1_0
      ?n_1_2
      dig
      law
    case aC0 => k_is
    case aS0 => k_is
    case iC0 => k_is
    case lC0 => k_is
    case lF0 => k_is
    case cF0 => k_is
    case lc0 => k_is
    case lo0 => k_is
    case sa0 => k_is
    case noN0 => k_is
    case tC0 => k_is
    case kC0 => k_is
    case exC0 => k_is
    case veC0 => k_is
    case ccC0 => k_is
    case tyC0 => k_is
    case opq0 => first | k_is | kernel_rfl | decide +kernel
    case rv0 => rfl
    case sup0 => first | kernel_rfl | rfl
    case dc0 => rfl
    case dO0 => rfl
    case dv0 => rfl
    case ln0 => rfl
    case fl0 => first | rfl | decide +kernel
    case top0 => first | rfl | decide +kernel
    case fok0 => decide +kernel
    case bi0 => intro a v; rfl
    case aC1 => k_is
    case aS1 => k_is
    case iC1 => k_is
    case lC1 => k_is
    case lF1 => k_is
    case cF1 => k_is
    case lc1 => k_is
    case lo1 => k_is
    case sa1 => k_is
    case noN1 => k_is
    case tC1 => k_is
    case kC1 => k_is
    case exC1 => k_is
    case veC1 => k_is
    case ccC1 => k_is
    case tyC1 => k_is
    case opq1 => first | k_is | kernel_rfl | decide +kernel
    case rv1 => rfl
    case sup1 => first | kernel_rfl | rfl
    case dc1 => rfl
    case dO1 => rfl
    case dv1 => rfl
    case ln1 => rfl
    case fl1 => first | rfl | decide +kernel
    case top1 => first | rfl | decide +kernel
    case fok1 => decide +kernel
    case bi1 => intro a v; rfl
    case aC2 => k_is
    case aS2 => k_is
    case iC2 => k_is
    case lC2 => k_is
    case lF2 => k_is
    case cF2 => k_is
    case lc2 => k_is
    case lo2 => k_is
    case sa2 => k_is
    case noN2 => k_is
    case tC2 => k_is
    case kC2 => k_is
    case exC2 => k_is
    case veC2 => k_is
    case ccC2 => k_is
    case tyC2 => k_is
    case opq2 => first | k_is | kernel_rfl | decide +kernel
    case rv2 => rfl
    case sup2 => first | kernel_rfl | rfl
    case dc2 => rfl
    case dO2 => rfl
    case dv2 => rfl
    case ln2 => rfl
    case fl2 => first | rfl | decide +kernel
    case top2 => first | rfl | decide +kernel
    case fok2 => decide +kernel
    case bi2 => intro a v; rfl
    case a_is_integer => k_is
    case b_is_integer => k_is
    case c_is_integer => k_is
    case d_is_integer => k_is
    case a_common => k_is
    case b_common => k_is
    case c_common => k_is
    case d_common => k_is
    case a_reduced => k_is
    case b_reduced => k_is
    case c_reduced => k_is
    case d_reduced => k_is
    case a_plus => k_is
    case b_plus => k_is
    case c_plus => k_is
    case d_plus => k_is
    case a_over => k_is
    case b_over => k_is
    case c_over => k_is
    case d_over => k_is
    case a_total => k_is
    case b_total => k_is
    case c_total => k_is
    case d_total => k_is
    case a_check_set => k_is
    case b_check_set => k_is
    case c_check_set => k_is
    case d_check_set => k_is
    case a_differences => k_is
    case b_differences => k_is
    case c_differences => k_is
    case d_differences => k_is
    case a_is_even => k_is
    case b_is_even => k_is
    case c_is_even => k_is
    case d_is_even => k_is
    case a_even_sets => k_is
    case b_even_sets => k_is
    case c_even_sets => k_is
    case d_even_sets => k_is
    case a_squares => k_is
    case b_squares => k_is
    case c_squares => k_is
    case d_squares => k_is
    case a_moved => k_is
    case b_moved => k_is
    case c_moved => k_is
    case d_moved => k_is
    case a_spread => k_is
    case b_spread => k_is
    case c_spread => k_is
    case d_spread => k_is
    case a_others => k_is
    case b_others => k_is
    case c_others => k_is
    case d_others => k_is
    case a_check_lamps => k_is
    case b_check_lamps => k_is
    case c_check_lamps => k_is
    case d_check_lamps => k_is
    case a_seen => k_is
    case b_seen => k_is
    case c_seen => k_is
    case d_seen => k_is
    case a_lamps_of => k_is
    case b_lamps_of => k_is
    case c_lamps_of => k_is
    case d_lamps_of => k_is
    case a_check_signs => k_is
    case b_check_signs => k_is
    case c_check_signs => k_is
    case d_check_signs => k_is
    case a_agree => k_is
    case b_agree => k_is
    case c_agree => k_is
    case d_agree => k_is
    case a_round_agree => k_is
    case b_round_agree => k_is
    case c_round_agree => k_is
    case d_round_agree => k_is
    case a_is_barker => k_is
    case b_is_barker => k_is
    case c_is_barker => k_is
    case d_is_barker => k_is
    case a_barkers => k_is
    case b_barkers => k_is
    case c_barkers => k_is
    case d_barkers => k_is
    case a_mates => k_is
    case b_mates => k_is
    case c_mates => k_is
    case d_mates => k_is
    case a_doubled => k_is
    case b_doubled => k_is
    case c_doubled => k_is
    case d_doubled => k_is
    case a__law_digits => k_is
    case b__law_digits => k_is
    case c__law_digits => k_is
    case d__law_digits => k_is
    case a__law_draw => k_is
    case b__law_draw => k_is
    case c__law_draw => k_is
    case d__law_draw => k_is
    case a__law_pick => k_is
    case b__law_pick => k_is
    case c__law_pick => k_is
    case d__law_pick => k_is
    case a__law_same => k_is
    case b__law_same => k_is
    case c__law_same => k_is
    case d__law_same => k_is
    case a__law_subsets => k_is
    case b__law_subsets => k_is
    case c__law_subsets => k_is
    case d__law_subsets => k_is
    case a__law_common => k_is
    case b__law_common => k_is
    case c__law_common => k_is
    case d__law_common => k_is
    case a__law_rows => k_is
    case b__law_rows => k_is
    case c__law_rows => k_is
    case d__law_rows => k_is
    case a__law_differences => k_is
    case b__law_differences => k_is
    case c__law_differences => k_is
    case d__law_differences => k_is
    case a__law_agree => k_is
    case b__law_agree => k_is
    case c__law_agree => k_is
    case d__law_agree => k_is
    case a__law_signs => k_is
    case b__law_signs => k_is
    case c__law_signs => k_is
    case d__law_signs => k_is
    case ta => k_is
    case tb => k_is
    case tc => k_is
    case td => k_is
    case te => exact fun us hl => match us, hl with | [_], _ => rfl
    case tf => exact ⟨rfl, rfl, rfl, by decide +kernel, rfl, by decide +kernel, by decide +kernel⟩
    case tg1 => rfl
    case tg2 => rfl
    case th => exact HdsW.cons (h := ⟨"BadThing", _, "bad thing", "reason"⟩) (HdsW.cons (h := ⟨"Refused", _, "refused", "reason"⟩) (HdsW.cons (h := ⟨"TooMany", _, "too many", "what"⟩) (HdsW.nil)))
    case ti =>
      intro h hh
      simp only [List.mem_cons, List.not_mem_nil, or_false] at hh
      rcases hh with rfl | rfl | rfl
      · refine' hfact_mk kin gl ?a ?b ?d ?x1 ?x2 ?x3 ?x4 ?no
        case a => k_is
        case b => rfl
        case d => rfl
        case x1 => k_is
        case x2 => k_is
        case x3 => k_is
        case x4 => k_is
        case no => k_is
      · refine' hfact_mk kin gl ?a ?b ?d ?x1 ?x2 ?x3 ?x4 ?no
        case a => k_is
        case b => rfl
        case d => rfl
        case x1 => k_is
        case x2 => k_is
        case x3 => k_is
        case x4 => k_is
        case no => k_is
      · refine' hfact_mk kin gl ?a ?b ?d ?x1 ?x2 ?x3 ?x4 ?no
        case a => k_is
        case b => rfl
        case d => rfl
        case x1 => k_is
        case x2 => k_is
        case x3 => k_is
        case x4 => k_is
        case no => k_is
    case la => k_is
    case lb => k_is
    case ld => k_is
    case lt => k_is
    case lt2 => rfl
    case ln => first | kernel_rfl | rfl | decide +kernel
    case lh => first | kernel_rfl | decide +kernel
    case kt__law_signs => k_is
    case kt2__law_signs => rfl
    case kn__law_signs => first | kernel_rfl | rfl | decide +kernel
    case kh__law_signs => first | kernel_rfl | decide +kernel
    case apart =>
      intro t ht u hu e
      simp only [K11.tsOf, List.mem_cons, List.not_mem_nil, or_false] at ht hu
      rcases ht with rfl | rfl <;> rcases hu with rfl | rfl <;> first | rfl | exact absurd e (by decide)
    case e_0_0 =>
      refine' exm_mk ?h1 ?h2 ?h3 ?h4
      case h1 => k_is
      case h2 => k_is
      case h3 => k_is
      case h4 => k_is
    case e_0_2 =>
      refine' exm_mk ?h1 ?h2 ?h3 ?h4
      case h1 => k_is
      case h2 => k_is
      case h3 => k_is
      case h4 => k_is
    case e_0_1 =>
      refine' exm_mk ?h1 ?h2 ?h3 ?h4
      case h1 => k_is
      case h2 => k_is
      case h3 => k_is
      case h4 => k_is
    case e_2_0 =>
      refine' exm_mk ?h1 ?h2 ?h3 ?h4
      case h1 => k_is
      case h2 => k_is
      case h3 => k_is
      case h4 => k_is
    case e_2_2 =>
      refine' exm_mk ?h1 ?h2 ?h3 ?h4
      case h1 => k_is
      case h2 => k_is
      case h3 => k_is
      case h4 => k_is
    case e_2_1 =>
      refine' exm_mk ?h1 ?h2 ?h3 ?h4
      case h1 => k_is
      case h2 => k_is
      case h3 => k_is
      case h4 => k_is
    case e_1_0 =>
      refine' exm_mk ?h1 ?h2 ?h3 ?h4
      case h1 => k_is
      case h2 => k_is
      case h3 => k_is
      case h4 => k_is
    case e_1_2 =>
      refine' exm_mk ?h1 ?h2 ?h3 ?h4
      case h1 => k_is
      case h2 => k_is
      case h3 => k_is
      case h4 => k_is
    case e_1_1 =>
      refine' exm_mk ?h1 ?h2 ?h3 ?h4
      case h1 => k_is
      case h2 => k_is
      case h3 => k_is
      case h4 => k_is
    case n_0_2 => decide
    case n_0_1 => decide
    case n_2_0 => decide
    case n_2_1 => decide
    case n_1_0 => decide
    case n_1_2 => decide
    case bl =>
      intro x hx
      simp only [blts, List.mem_cons, List.not_mem_nil, or_false] at hx
      rcases hx with rfl | rfl | rfl | rfl | rfl | rfl | rfl | rfl | rfl | rfl | rfl | rfl | rfl | rfl | rfl | rfl | rfl | rfl | rfl | rfl | rfl | rfl | rfl | rfl | rfl <;> k_is

