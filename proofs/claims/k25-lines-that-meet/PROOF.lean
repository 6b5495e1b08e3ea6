import PyProof.Rows.All
import Wide.All
import OpenK.AllK
import Wide.FinOn
import HandS.ForMost
import HandS.ForExc
import HandS.TryMany
import HandS.ExcField
import HandS.ExcInit
import HandS.Lambda
import HandS.EndTab
import HandS.IsInst
import HandS.Flow
import HandS.Style
import HandS.Wide
import HandS.Deep
import HandS.Zip
import HandS.CallSlots
import HandS.TupAny
import HandS.More
import KE.SortData
import HandS.Walk
import KE.KExcSuper
import HandS.Words
import HandS.EndOwn
import HandS.ExcIs
import PySem.Challenge.RW_panehouse_k25_lines_that_meet
set_option Elab.async false
set_option autoImplicit false
set_option linter.all false
set_option pp.deepTerms false
set_option pp.maxSteps 200
set_option maxRecDepth 100000
set_option maxHeartbeats 1000000
/-! The general layer, part A: pure data, how a heap holds them, the state of a walk. -/
namespace Gl
open PySem PySem.Spec PyProof.Rows L2

abbrev D := PyData

/-! ### data and heaps -/
theorem seqL_mono {K : PySem.W.Frag} {F F' : Hp} {a : Addr} {xs : List V} (s : Same F F') (h : SqL K F a xs) : SqL K F' a xs := s.seq h
theorem seqT_mono {K : PySem.W.Frag} {F F' : Hp} {a : Addr} {xs : List V} (s : Same F F') (h : SqT K F a xs) : SqT K F' a xs := by
  rcases h with (h | ⟨o, h⟩) | h
  · exact .inl (.inl (s _ _ h))
  · exact .inl (.inr ⟨o, s _ _ h⟩)
  · exact .inr h
mutual
theorem dp_mono {K : PySem.W.Frag} {F F' : Hp} (s : Same F F') : ∀ (d : D) (v : V), Dp K F v d → Dp K F' v d
  | .none, _, h => by cases h; exact .non
  | .bool _, _, h => by cases h; exact .bl _
  | .int _, _, h => by cases h; exact .int _
  | .str _, _, h => by cases h; exact .str _
  | .list ds, _, h => by
    cases h with
    | lst h1 h2 => exact .lst (seqL_mono s h1) (dpAll_mono s ds _ h2)
  | .tuple ds, _, h => by
    cases h with
    | tup h1 h2 => exact .tup (seqT_mono s h1) (dpAll_mono s ds _ h2)
  | .dict _, _, h => by cases h
theorem dpAll_mono {K : PySem.W.Frag} {F F' : Hp} (s : Same F F') : ∀ (ds : List D) (vs : List V), DpAll K F vs ds → DpAll K F' vs ds
  | [], _, h => by cases h; exact .nil
  | d :: ds, _, h => by
    cases h with
    | cons h1 h2 => exact .cons (dp_mono s d _ h1) (dpAll_mono s ds _ h2)
end
theorem dpl_len {K : PySem.W.Frag} {F : Hp} : ∀ {ds : List D} {vs : List V}, DpAll K F vs ds → vs.length = ds.length
  | [], _, h => by cases h; rfl
  | _ :: _, _, h => by
    cases h with
    | cons h1 h2 => rw [List.length_cons, List.length_cons, dpl_len h2]
theorem dpl_get {K : PySem.W.Frag} {F : Hp} : ∀ {ds : List D} {vs : List V} {i : Nat} {d : D}, DpAll K F vs ds → ds[i]? = some d → ∃ v, vs[i]? = some v ∧ Dp K F v d
  | [], _, _, _, _, e => by simp at e
  | _ :: _, _, 0, _, h, e => by
    cases h with
    | cons h1 h2 =>
      simp at e
      subst e
      exact ⟨_, rfl, h1⟩
  | _ :: ds, _, i + 1, d, h, e => by
    cases h with
    | cons h1 h2 =>
      obtain ⟨v, e1, e2⟩ := dpl_get (ds := ds) (i := i) (d := d) h2 (by simpa using e)
      exact ⟨v, by simpa using e1, e2⟩
theorem dpl_getV {K : PySem.W.Frag} {F : Hp} {ds : List D} {vs : List V} {i : Nat} {v : V} (h : DpAll K F vs ds) (e : vs[i]? = some v) : ∃ d, ds[i]? = some d ∧ Dp K F v d := by
  have hl := dpl_len h
  have hi : i < ds.length := by
    obtain ⟨q, _⟩ := List.getElem?_eq_some_iff.mp e
    omega
  obtain ⟨v', e1, e2⟩ := dpl_get h (List.getElem?_eq_getElem hi)
  rw [e] at e1
  cases e1
  exact ⟨_, List.getElem?_eq_getElem hi, e2⟩
theorem dpl_app {K : PySem.W.Frag} {F : Hp} : ∀ {ds es : List D} {vs ws : List V}, DpAll K F vs ds → DpAll K F ws es → DpAll K F (vs ++ ws) (ds ++ es)
  | [], _, _, _, h, k => by cases h; exact k
  | _ :: ds, _, _, _, h, k => by
    cases h with
    | cons h1 h2 => exact .cons h1 (dpl_app h2 k)
theorem dpl_take {K : PySem.W.Frag} {F : Hp} : ∀ {ds : List D} {vs : List V} (n : Nat), DpAll K F vs ds → DpAll K F (vs.take n) (ds.take n)
  | _, _, 0, _ => by simp only [List.take_zero]; exact .nil
  | [], _, _ + 1, h => by cases h; exact .nil
  | _ :: ds, _, n + 1, h => by
    cases h with
    | cons h1 h2 => exact .cons h1 (dpl_take n h2)
theorem dpl_drop {K : PySem.W.Frag} {F : Hp} : ∀ {ds : List D} {vs : List V} (n : Nat), DpAll K F vs ds → DpAll K F (vs.drop n) (ds.drop n)
  | _, _, 0, h => h
  | [], _, _ + 1, h => by cases h; exact .nil
  | _ :: ds, _, n + 1, h => by
    cases h with
    | cons h1 h2 => exact dpl_drop n h2
theorem dpl_set {K : PySem.W.Frag} {F : Hp} {d : D} {v : V} (hv : Dp K F v d) : ∀ {ds : List D} {vs : List V} (i : Nat), DpAll K F vs ds → DpAll K F (vs.set i v) (ds.set i d)
  | [], _, _, h => by cases h; exact .nil
  | _ :: ds, _, 0, h => by
    cases h with
    | cons h1 h2 => exact .cons hv h2
  | _ :: ds, _, i + 1, h => by
    cases h with
    | cons h1 h2 => exact .cons h1 (dpl_set hv i h2)

/-! ### the states of the plain functions -/
/-- a slot: not known; data; data of a list of one's own (it may be changed); the box of digits -/
inductive DV where
  | un | sh (d : D) | ow (d : D) | bx
/-- the box: the digits, the place -/
abbrev Bx := Option (List Int × Int)
structure Sto where
  sl : List DV
  bx : Bx
inductive R (α : Type) where
  | ok (a : α) (s : Sto)
  | exc (c : Nat) (d : D) (b : Bx)
  | stuck
inductive Arg where
  | d (x : D) | box
/-- what a def gives -/
inductive Res where
  | ret (d : D) (b : Bx)
  | exc (c : Nat) (d : D) (b : Bx)
  | stuck
abbrev FM := List Arg → Bx → Res
/-- what a statement gives -/
inductive O where
  | next (s : Sto)
  | brk (s : Sto)
  | cont (s : Sto)
  | ret (d : D) (s : Sto)
  | exc (c : Nat) (d : D) (b : Bx)
  | stuck

/-! ### what a state of the model must be -/
/-- the base: the box's place (if there is a box), the tables of code objects, the exceptions' classes with their field, the frozen part and the heap at the entry -/
structure Gx where
  T : List (Addr × Str)
  cl : Nat → Option (Addr × Str)
structure Bs where
  B : Addr
  hb : Bool
  F0 : Hp
  H0 : Hp
def notTbl (o : HO) : Prop := ∀ ps, o ≠ .tbl ps
/-- all that is tracked stays, but the box and the tables -/
def Fr (b : Bs) (H H' : Hp) : Prop := ∀ a o, H a = some o → (b.hb = true → a ≠ b.B) → notTbl o → H' a = some o
theorem Fr.refl (b : Bs) (H : Hp) : Fr b H H := fun a o h _ _ => h
/-- nothing stands there, but a table -/
def Vac (H : Hp) (a : Addr) : Prop := ∀ o, H a = some o → ¬ notTbl o
theorem Vac.of {H : Hp} {a : Addr} (h : H a = none) : Vac H a := fun o e => by
  rw [h] at e
  cases e
theorem Vac.not {H : Hp} {a : Addr} {o : HO} (v : Vac H a) (h : H a = some o) (n : notTbl o) : False := v o h n
/-- what stands at an address of one's own list -/
def Own (K : PySem.W.Frag) (b : Bs) (F H : Hp) (a : Addr) (d : D) : Prop :=
  F a = none ∧ Vac b.H0 a ∧ (b.hb = true → a ≠ b.B) ∧ ∃ (vs : List V) (ds : List D), d = .list ds ∧ H a = some (.lst vs) ∧ DpAll K F vs ds
def SlotOk (K : PySem.W.Frag) (b : Bs) (F H : Hp) (x : DV) (y : Option V) : Prop :=
  match x with
  | .un => True
  | .sh d => ∃ v, y = some v ∧ Dp K F v d
  | .ow d => ∃ a, y = some (.ref a) ∧ Own K b F H a d
  | .bx => b.hb = true ∧ y = some (.ref b.B)
def BoxOk (K : PySem.W.Frag) (b : Bs) (F H : Hp) (x : Bx) : Prop :=
  match x with
  | none => b.hb = false
  | some (ds, at_) => b.hb = true ∧ F b.B = none ∧ ∃ dg : Addr, H b.B = some (.lst [.ref dg, .int at_]) ∧ Dp K F (.ref dg) (.list (ds.map .int)) ∧ True
structure SR (K : PySem.W.Frag) (g : Gx) (b : Bs) (F : Hp) (S : Sto) (σ : L2.St) (H : Hp) : Prop where
  len : S.sl.length = σ.length
  ff : Same F H
  f0 : Same b.F0 F
  fn : ∀ a o, F a = some o → b.F0 a = some o ∨ Vac b.H0 a
  nt : ∀ a o, F a = some o → notTbl o
  ext : Fr b b.H0 H
  slot : ∀ (i : Nat) x y, S.sl[i]? = some x → σ[i]? = some y → SlotOk K b F H x y
  dist : ∀ (i j : Nat) d e y, i ≠ j → S.sl[i]? = some (.ow d) → S.sl[j]? = some (.ow e) → σ[i]? = some y → σ[j]? ≠ some y
  box : BoxOk K b F H S.bx
  tabs : LamX.Tabs g.T H
abbrev Bs.at (b : Bs) (F H : Hp) : Bs := { b with F0 := F, H0 := H }

theorem own_ne_nt {K : PySem.W.Frag} {b : Bs} {F H : Hp} {a : Addr} {d : D} (h : Own K b F H a d) : ∃ vs, H a = some (.lst vs) := by
  obtain ⟨_, _, _, vs, ds, _, e, _⟩ := h
  exact ⟨vs, e⟩
theorem lst_nt (vs : List V) : notTbl (.lst vs) := fun ps e => by cases e
theorem tup_nt (vs : List V) : notTbl (.tup vs) := fun ps e => by cases e

section
variable {K : PySem.W.Frag} {g : Gx} {b : Bs} {F F' H H' H1 : Hp} {S : Sto} {σ : L2.St} {bx' : Bx}
theorem Fr.trans (x : Fr b H H1) (y : Fr b H1 H') : Fr b H H' := fun a o h nb nt => y a o (x a o h nb nt) nb nt
theorem Fr.new {p : Addr} {o : HO} (n : H p = none) : Fr b H (upd H p o) := fun a u h _ _ => by
  have e : a ≠ p := ne_of_none h n
  rw [upd_ne e]
  exact h
theorem Own.grow {a : Addr} {d : D} (h : Own K b F H a d) (s : Same F F') (f : Fr b H H') (n : F' a = none) : Own K b F' H' a d := by
  obtain ⟨h1, h2, h3, vs, ds, e1, e2, e3⟩ := h
  exact ⟨n, h2, h3, vs, ds, e1, f a _ e2 h3 (lst_nt vs), dpAll_mono s ds vs e3⟩
/-- behind a call (or anything that keeps the base at the call's start): the slots are as they were -/
theorem SR.call (x : SR K g b F S σ H) (y : SR K g (b.at F H) F' ⟨[], bx'⟩ [] H') : SR K g b F' { S with bx := bx' } σ H' where
  len := x.len
  ff := y.ff
  f0 := x.f0.trans y.f0
  fn := fun a o h => by
    rcases y.fn a o h with q | q
    · exact x.fn a o q
    · right
      intro u e nt
      have q' : Vac H a := q
      by_cases nb : b.hb = true → a ≠ b.B
      · exact q'.not (x.ext a u e nb nt) nt
      · have hb : b.hb = true := Classical.byContradiction fun z => nb fun z2 => absurd z2 z
        have ea : a = b.B := Classical.byContradiction fun z => nb fun _ => z
        have bo := x.box
        unfold BoxOk at bo
        cases eb : S.bx with
        | none => rw [eb] at bo; rw [bo] at hb; cases hb
        | some p =>
          obtain ⟨ds, at_⟩ := p
          rw [eb] at bo
          obtain ⟨_, _, dg, h3, _⟩ := bo
          rw [← ea] at h3
          exact q'.not h3 (lst_nt _)
  nt := y.nt
  ext := x.ext.trans y.ext
  slot := fun i u v e1 e2 => by
    have q := x.slot i u v e1 e2
    cases u with
    | un => trivial
    | sh d =>
      obtain ⟨w, e, h⟩ := q
      exact ⟨w, e, dp_mono y.f0 d w h⟩
    | ow d =>
      obtain ⟨a, e, h⟩ := q
      refine ⟨a, e, h.grow y.f0 y.ext ?_⟩
      cases z : F' a with
      | none => rfl
      | some u =>
        rcases y.fn a u z with r | r
        · have r' : F a = some u := r
          rw [h.1] at r'
          cases r'
        · have r' : Vac H a := r
          obtain ⟨vs, e3⟩ := own_ne_nt h
          exact (r'.not e3 (lst_nt vs)).elim
    | bx => exact q
  dist := x.dist
  box := y.box
  tabs := y.tabs
theorem SR.base (x : SR K g b F S σ H) : SR K g (b.at F H) F ⟨[], S.bx⟩ [] H where
  len := rfl
  ff := x.ff
  f0 := Same.refl _
  fn := fun a o h => .inl h
  nt := x.nt
  ext := Fr.refl _ _
  slot := fun i u v e1 e2 => by simp at e1
  dist := fun i j d e y _ h => by simp at h
  box := x.box
  tabs := x.tabs
theorem SR.hb (x : SR K g b F S σ H) : b.hb = S.bx.isSome := by
  have h := x.box
  unfold BoxOk at h
  cases e : S.bx with
  | none => rw [e] at h; exact h
  | some p =>
    rw [e] at h
    exact h.1
/-- a new object, frozen -/
theorem SR.newF {p : Addr} {o : HO} (x : SR K g b F S σ H) (n : H p = none) (nt : notTbl o) : SR K g (b.at F H) (upd F p o) ⟨[], S.bx⟩ [] (upd H p o) where
  len := rfl
  ff := fun a u h => by
    by_cases e : a = p
    · subst e
      rw [upd_same] at h ⊢
      exact h
    · rw [upd_ne e] at h ⊢
      exact x.ff a u h
  f0 := fun a u h => by
    have e : a ≠ p := ne_of_none (x.ff a u h) n
    rw [upd_ne e]
    exact h
  fn := fun a u h => by
    by_cases e : a = p
    · subst e
      exact .inr (Vac.of n)
    · rw [upd_ne e] at h
      exact .inl h
  nt := fun a u h => by
    by_cases e : a = p
    · subst e
      rw [upd_same] at h
      cases h
      exact nt
    · rw [upd_ne e] at h
      exact x.nt a u h
  ext := Fr.new n
  slot := fun i u v e1 e2 => by simp at e1
  dist := fun i j d e y _ h => by simp at h
  box := by
    have h := x.box
    unfold BoxOk at h ⊢
    cases e : S.bx with
    | none => rw [e] at h; exact h
    | some q =>
      obtain ⟨ds, at_⟩ := q
      rw [e] at h
      obtain ⟨h1, h2, dg, h3, h4, h5⟩ := h
      have ne : b.B ≠ p := ne_of_none h3 n
      refine ⟨h1, by show upd F p o b.B = none; rw [upd_ne ne]; exact h2, dg, by show upd H p o b.B = _; rw [upd_ne ne]; exact h3, dp_mono (fun a u h => ?_) _ _ h4, h5⟩
      have e : a ≠ p := ne_of_none (x.ff a u h) n
      rw [upd_ne e]
      exact h
  tabs := x.tabs.ext fun a u h => by
    rw [upd_ne (ne_of_none h n)]
    exact h
/-- a new object, not frozen -/
theorem SR.newU {p : Addr} {o : HO} (x : SR K g b F S σ H) (n : H p = none) : SR K g (b.at F H) F ⟨[], S.bx⟩ [] (upd H p o) where
  len := rfl
  ff := fun a u h => by
    have e : a ≠ p := ne_of_none (x.ff a u h) n
    rw [upd_ne e]
    exact x.ff a u h
  f0 := Same.refl _
  fn := fun a u h => .inl h
  nt := x.nt
  ext := Fr.new n
  slot := fun i u v e1 e2 => by simp at e1
  dist := fun i j d e y _ h => by simp at h
  box := by
    have h := x.box
    unfold BoxOk at h ⊢
    cases e : S.bx with
    | none => rw [e] at h; exact h
    | some q =>
      obtain ⟨ds, at_⟩ := q
      rw [e] at h
      obtain ⟨h1, h2, dg, h3, h4, h5⟩ := h
      have ne : b.B ≠ p := ne_of_none h3 n
      exact ⟨h1, h2, dg, by show upd H p o b.B = _; rw [upd_ne ne]; exact h3, h4, h5⟩
  tabs := x.tabs.ext fun a u h => by
    rw [upd_ne (ne_of_none h n)]
    exact h
theorem SR.forget (x : SR K g b F S σ H) : SR K g b F ⟨[], S.bx⟩ [] H where
  len := rfl
  ff := x.ff
  f0 := x.f0
  fn := x.fn
  nt := x.nt
  ext := x.ext
  slot := fun i u v e1 e2 => by simp at e1
  dist := fun i j d e y _ h => by simp at h
  box := x.box
  tabs := x.tabs
theorem SR.get {i : Nat} {d : D} (x : SR K g b F S σ H) (e : S.sl[i]? = some (.sh d)) : ∃ v, σ[i]? = some (some v) ∧ Dp K F v d := by
  have hi : i < σ.length := by
    rw [← x.len]
    exact (List.getElem?_eq_some_iff.mp e).1
  obtain ⟨v, e1, h⟩ := x.slot i _ _ e (List.getElem?_eq_getElem hi)
  exact ⟨v, by rw [List.getElem?_eq_getElem hi, e1], h⟩
theorem SR.getO {i : Nat} {d : D} (x : SR K g b F S σ H) (e : S.sl[i]? = some (.ow d)) : ∃ a, σ[i]? = some (some (.ref a)) ∧ Own K b F H a d := by
  have hi : i < σ.length := by
    rw [← x.len]
    exact (List.getElem?_eq_some_iff.mp e).1
  obtain ⟨v, e1, h⟩ := x.slot i _ _ e (List.getElem?_eq_getElem hi)
  exact ⟨v, by rw [List.getElem?_eq_getElem hi, e1], h⟩
theorem SR.getB {i : Nat} (x : SR K g b F S σ H) (e : S.sl[i]? = some .bx) : b.hb = true ∧ σ[i]? = some (some (.ref b.B)) := by
  have hi : i < σ.length := by
    rw [← x.len]
    exact (List.getElem?_eq_some_iff.mp e).1
  obtain ⟨h, e1⟩ := x.slot i _ _ e (List.getElem?_eq_getElem hi)
  exact ⟨h, by rw [List.getElem?_eq_getElem hi, e1]⟩
/-- one's own list is handed on: it is frozen -/
def share (S : Sto) (i : Nat) (d : D) : Sto := { S with sl := S.sl.set i (.sh d) }
theorem get_set {α : Type} {l : List α} {i j : Nat} {x y : α} (h : (l.set i x)[j]? = some y) : (j = i ∧ y = x) ∨ (j ≠ i ∧ l[j]? = some y) := by
  by_cases e : j = i
  · subst e
    rw [List.getElem?_set] at h
    simp only [if_true] at h
    split at h
    · exact .inl ⟨rfl, (Option.some.inj h).symm⟩
    · cases h
  · rw [List.getElem?_set_ne (Ne.symm e)] at h
    exact .inr ⟨e, h⟩
theorem SR.share {i : Nat} {d : D} {a : Addr} {vs : List V} (x : SR K g b F S σ H) (e : S.sl[i]? = some (.ow d)) (eσ : σ[i]? = some (some (.ref a))) (o : Own K b F H a d) (ho : H a = some (.lst vs)) :
    SR K g b (upd F a (.lst vs)) (Gl.share S i d) σ H ∧ Same F (upd F a (.lst vs)) ∧ Dp K (upd F a (.lst vs)) (.ref a) d := by
  obtain ⟨o1, o2, o3, vs', ds, ed, e3, o4⟩ := id o
  rw [ho] at e3
  cases e3
  have sm : Same F (upd F a (.lst vs)) := fun c u h => by
    rw [upd_ne (ne_of_none h o1)]
    exact h
  refine ⟨⟨by rw [Gl.share, List.length_set]; exact x.len, fun c u h => ?_, x.f0.trans sm, fun c u h => ?_, fun c u h => ?_, x.ext, fun j u v h1 h2 => ?_, fun j k d1 d2 y ne h1 h2 h3 => ?_, ?_, x.tabs⟩, sm, ?_⟩
  · by_cases q : c = a
    · subst q
      rw [upd_same] at h
      cases h
      exact ho
    · rw [upd_ne q] at h
      exact x.ff c u h
  · by_cases q : c = a
    · subst q
      exact .inr o2
    · rw [upd_ne q] at h
      exact x.fn c u h
  · by_cases q : c = a
    · subst q
      rw [upd_same] at h
      cases h
      exact lst_nt vs
    · rw [upd_ne q] at h
      exact x.nt c u h
  · rcases get_set h1 with ⟨rfl, rfl⟩ | ⟨ne, h1⟩
    · rw [eσ] at h2
      cases h2
      refine ⟨_, rfl, ?_⟩
      rw [ed]
      exact .lst (.inl (.inl upd_same)) (dpAll_mono sm ds vs o4)
    · have q := x.slot j u v h1 h2
      cases u with
      | un => trivial
      | sh d' =>
        obtain ⟨w, e1, h⟩ := q
        exact ⟨w, e1, dp_mono sm d' w h⟩
      | ow d' =>
        obtain ⟨c, e1, h⟩ := q
        refine ⟨c, e1, h.grow sm (Fr.refl _ _) ?_⟩
        have nc : c ≠ a := fun z => by
          subst z
          exact x.dist j i d' d v ne h1 e h2 (by rw [e1]; exact eσ)
        rw [upd_ne nc]
        exact h.1
      | bx => exact q
  · rcases get_set h1 with ⟨rfl, z⟩ | ⟨_, h1⟩
    · cases z
    · rcases get_set h2 with ⟨rfl, z⟩ | ⟨_, h2⟩
      · cases z
      · exact x.dist j k d1 d2 y ne h1 h2 h3
  · have h := x.box
    unfold BoxOk at h ⊢
    have eb : (Gl.share S i d).bx = S.bx := rfl
    rw [eb]
    cases z : S.bx with
    | none => rw [z] at h; exact h
    | some p =>
      obtain ⟨dg, at_⟩ := p
      rw [z] at h
      obtain ⟨h1, h2, c, h3, h4, h5⟩ := h
      refine ⟨h1, ?_, c, h3, dp_mono sm _ _ h4, h5⟩
      show upd F a (.lst vs) b.B = none
      rw [upd_ne (fun q => o3 h1 q.symm)]
      exact h2
  · rw [ed]
    exact .lst (.inl (.inl upd_same)) (dpAll_mono sm ds vs o4)
/-- what may be read: data, or a list of one's own -/
def BRep (K : PySem.W.Frag) (b : Bs) (F H : Hp) (v : V) (d : D) : Prop :=
  Dp K F v d ∨ ∃ (a : Addr) (vs : List V) (ds : List D), v = .ref a ∧ d = .list ds ∧ (b.hb = true → a ≠ b.B) ∧ H a = some (.lst vs) ∧ DpAll K F vs ds
theorem BRep.dp {v : V} {d : D} (s : Same F H) (h : BRep K b F H v d) : Dp K H v d := by
  rcases h with h | ⟨a, vs, ds, rfl, rfl, _, h1, h2⟩
  · exact dp_mono s _ _ h
  · exact .lst (.inl (.inl h1)) (dpAll_mono s _ _ h2)
theorem BRep.list {v : V} {ds : List D} (s : Same F H) (h : BRep K b F H v (.list ds)) : ∃ a vs, v = .ref a ∧ SqL K H a vs ∧ DpAll K F vs ds := by
  rcases h with h | ⟨a, vs, ds, rfl, e, _, h1, h2⟩
  · cases h with
    | lst h1 h2 => exact ⟨_, _, rfl, seqL_mono s h1, h2⟩
  · cases e
    exact ⟨a, vs, rfl, .inl (.inl h1), h2⟩
theorem BRep.tuple {v : V} {ds : List D} (s : Same F H) (h : BRep K b F H v (.tuple ds)) : ∃ a vs, v = .ref a ∧ SqT K H a vs ∧ SqT K F a vs ∧ DpAll K F vs ds := by
  rcases h with h | ⟨a, vs, ds, rfl, e, _, h1, h2⟩
  · cases h with
    | tup h1 h2 => exact ⟨_, _, rfl, seqT_mono s h1, h1, h2⟩
  · cases e
end
end Gl

set_option maxRecDepth 100000
set_option maxHeartbeats 1000000
/-! The general layer, part B: operations on data. -/
namespace Gl
open PySem PySem.Spec PyProof.Rows L2

/-! ### the operations, in plain words -/
def sumOk (n : Nat) : Bool := decide (n ≤ sizeLine)
def mulOk (i j : Int) : Bool := decide (i.natAbs < 2 ^ 64) || decide (j.natAbs < 2 ^ 64) || decide (i.natAbs.log2 + j.natAbs.log2 < 1000000)
def divOk (j : Int) : Bool := decide (j ≠ 0) && (decide (j.natAbs < 1073741824) || (decide (0 < j) && decide (j.natAbs.log2 < 9000)))
def addD : D → D → Option D
  | .int i, .int j => some (.int (i + j))
  | .str x, .str y => if sumOk (x.length + y.length) then some (.str (x ++ y)) else none
  | .list xs, .list ys => if sumOk (xs.length + ys.length) then some (.list (xs ++ ys)) else none
  | .tuple xs, .tuple ys => if sumOk (xs.length + ys.length) then some (.tuple (xs ++ ys)) else none
  | _, _ => none
def subD : D → D → Option D
  | .int i, .int j => some (.int (i - j))
  | _, _ => none
def mulD : D → D → Option D
  | .int i, .int j => if mulOk i j then some (.int (i * j)) else none
  | _, _ => none
def fdivD : D → D → Option D
  | .int i, .int j => if divOk j then some (.int (i.fdiv j)) else none
  | _, _ => none
def modD : D → D → Option D
  | .int i, .int j => if j ≠ 0 then some (.int (i.fmod j)) else none
  | _, _ => none
def binD : Operator → D → D → Option D
  | .Add => addD
  | .Sub => subD
  | .Mult => mulD
  | .FloorDiv => fdivD
  | .Mod => modD
  | _ => fun _ _ => none
def shp (d : D) : Bool := SeqAt.shaped d
def isNon : D → Bool
  | .none => true
  | _ => false
def strIn (x y : Str) : Bool := !(Builtin.Str.occurrences y x 0 y.length 1).isEmpty
def inD : D → D → Option Bool
  | .str x, .str y => some (strIn x y)
  | d, .list ds => if shp d && shp (.list ds) then some (ds.any fun z => PyData.eqv z d) else none
  | d, .tuple ds => if shp d && shp (.tuple ds) then some (ds.any fun z => PyData.eqv z d) else none
  | _, _ => none
def ltD (x y : D) : Option Bool :=
  match x, y with
  | .int i, .int j => some (decide (i < j))
  | x, y => if PySem.W.alike x y && !isNon x && decide (x.depth ≤ 64) then some (PySem.W.dataLt x y) else none
def eqD (x y : D) : Option Bool := if shp x && shp y then some (PyData.eqv x y) else none
def neD (x y : D) : Option Bool := if shp x && shp y then some (!PyData.eqv x y) else none
def leD : D → D → Option Bool
  | .int i, .int j => some (decide (i ≤ j))
  | _, _ => none
def gtD : D → D → Option Bool
  | .int i, .int j => some (decide (j < i))
  | _, _ => none
def geD : D → D → Option Bool
  | .int i, .int j => some (decide (j ≤ i))
  | _, _ => none
def notInD (x y : D) : Option Bool := (inD x y).map (!·)
def isD : D → D → Option Bool
  | x, .none => some (isNon x)
  | .bool a, .bool c => some (decide (a = c))
  | _, _ => none
def isNotD (x y : D) : Option Bool := (isD x y).map (!·)
def cmpD : CmpOp → D → D → Option Bool
  | .Eq => eqD
  | .NotEq => neD
  | .Lt => ltD
  | .LtE => leD
  | .Gt => gtD
  | .GtE => geD
  | .In => inD
  | .NotIn => notInD
  | .Is => isD
  | .IsNot => isNotD
def truD : D → Option Bool
  | .none => some false
  | .bool b => some b
  | .int i => some (i != 0)
  | .str x => if sumOk x.length then some ((x.length : Int) != 0) else none
  | .list ds => some (!ds.isEmpty)
  | .tuple ds => some (!ds.isEmpty)
  | .dict _ => none
def negD : D → Option D
  | .int i => some (.int (-i))
  | _ => none
def ixD (x i : D) : Option D :=
  match x, i with
  | .list ds, .int i => atI ds i
  | .tuple ds, .int i => atI ds i
  | .str z, .int i => if sumOk z.length then (atI z.cps.toList i).map fun c => .str ⟨#[c]⟩ else none
  | _, _ => none
def cutL {α : Type} (xs : List α) (lo hi : Option Int) : List α := (xs.drop (HT.sIx xs.length 0 lo)).take (HT.sIx xs.length xs.length hi - HT.sIx xs.length 0 lo)
def cutD (x : D) (lo hi : Option Int) : Option D :=
  match x with
  | .list ds => some (.list (cutL ds lo hi))
  | .tuple ds => some (.tuple (cutL ds lo hi))
  | .str z => if sumOk z.length then some (.str (L2.cutS z lo hi)) else none
  | _ => none

/-! ### readings -/
/-- where an operation is asked: the state, its operands -/
def r2 (K : PySem.W.Frag) (g : Gx) (f : D → D → Option D) : R2 := fun x y H Q => ∃ (b : Bs) (F : Hp) (S : Sto) (σ : L2.St) (d1 d2 d : D), SR K g b F S σ H ∧ BRep K b F H x d1 ∧ BRep K b F H y d2 ∧ f d1 d2 = some d ∧
  ∀ v F' H', SR K g (b.at F H) F' ⟨[], S.bx⟩ [] H' → Dp K F' v d → Q v H'
def r2b (K : PySem.W.Frag) (g : Gx) (f : D → D → Option Bool) : R2 := fun x y H Q => ∃ (b : Bs) (F : Hp) (S : Sto) (σ : L2.St) (d1 d2 : D) (k : Bool), SR K g b F S σ H ∧ BRep K b F H x d1 ∧ BRep K b F H y d2 ∧ f d1 d2 = some k ∧ Q (.bl k) H
def r1 (K : PySem.W.Frag) (g : Gx) (f : D → Option D) : V → Hp → VK → Prop := fun x H Q => ∃ (b : Bs) (F : Hp) (S : Sto) (σ : L2.St) (d1 d : D), SR K g b F S σ H ∧ BRep K b F H x d1 ∧ f d1 = some d ∧
  ∀ v F' H', SR K g (b.at F H) F' ⟨[], S.bx⟩ [] H' → Dp K F' v d → Q v H'
section
variable {X : Cx} {g : Gx}
theorem list_addW (l : Addr) (items : Array Value) (n : Nat) (b : Addr) (items2 : Array Value) (n2 : Nat) (sl sl2 : Array (Option Value)) (hc0 : items.size + items2.size ≤ sizeLine) :
    Meets (Builtin.«list.__add__» ⟨[.ref l, .ref b], []⟩) (fun _ R s => s.heap.get? l = some { cls := .type "list", dict := none, data := .seq items n, slots := sl } ∧ s.heap.get? b = some { cls := .type "list", dict := none, data := .seq items2 n2, slots := sl2 } ∧ R (.ok (.ret (Value.ref s.heap.objs.size))) { s with heap := s.heap.push { cls := Value.type "list", data := Data.seq (items ++ items2) }, toks := s.toks }) :=
  .of_wp fun prog w A R s h => by obtain ⟨hp, g, d, tk, os⟩ := s; obtain ⟨hl, hb, h⟩ := h; have f3 := AutoSeq1.sub_list_list; wp_walk using wpAny_loadPart' hl, wpAny_loadPart' hb; exact ⟨_, rfl, h⟩
theorem op_catL : OpR X (binaryOp .Add) (fun x y H Q => ∃ l b xs zs, x = .ref l ∧ y = .ref b ∧ SqL X.K H l xs ∧ SqL X.K H b zs ∧ xs.length + zs.length ≤ sizeLine ∧ ∀ p, H p = none → Q (.ref p) (upd H p (.lst (xs ++ zs)))) := by
  intro pins s σ H x y v u Q I rx ry h
  obtain ⟨l, b, xs, zs, rfl, rfl, hH, hB, hz, q⟩ := h
  cases rx
  cases ry
  obtain ⟨its, r, ⟨o, n, e, e1, e2, e3⟩, _⟩ := I.list hH
  obtain ⟨its2, r2, ⟨o2, n2, e', e1', e2', e3'⟩, _⟩ := I.list hB
  obtain ⟨c, dd, dt, sl⟩ := o
  obtain ⟨c2, dd2, dt2, sl2⟩ := o2
  simp only at e1 e2 e3 e1' e2' e3'
  subst e1 e2 e3 e1' e2' e3'
  have hl : xs.length = its.length := r.length
  have hl2 : zs.length = its2.length := r2.length
  refine concat_meets ⟨_, e, rfl⟩ ⟨_, e', rfl⟩ noFill_list_add seq_list_add F.slot_list_add F.entry_list_add (F.args_list_add_2 _ _) (list_addW l its.toArray n b its2.toArray n2 sl sl2 (by rw [List.size_toArray, List.size_toArray]; omega)) ⟨e, e', ?_⟩
  have ea : its.toArray ++ its2.toArray = (its ++ its2).toArray := by simp
  rw [ea]
  exact ⟨.ref _, _, I.lnew (t' := s.toks) (r.append r2) (by rw [List.length_append]; omega), rfl, q _ I.fresh⟩
theorem BRep.int_ {K : PySem.W.Frag} {b : Bs} {F H : Hp} {v : V} {i : Int} (h : BRep K b F H v (.int i)) : v = .int i := by
  rcases h with h | ⟨a, vs, ds, rfl, e, _⟩
  · cases h; rfl
  · cases e
theorem BRep.str_ {K : PySem.W.Frag} {b : Bs} {F H : Hp} {v : V} {i : Str} (h : BRep K b F H v (.str i)) : v = .str i := by
  rcases h with h | ⟨a, vs, ds, rfl, e, _⟩
  · cases h; rfl
  · cases e
theorem BRep.bool_ {K : PySem.W.Frag} {b : Bs} {F H : Hp} {v : V} {i : Bool} (h : BRep K b F H v (.bool i)) : v = .bl i := by
  rcases h with h | ⟨a, vs, ds, rfl, e, _⟩
  · cases h; rfl
  · cases e
theorem BRep.none_ {K : PySem.W.Frag} {b : Bs} {F H : Hp} {v : V} (h : BRep K b F H v .none) : v = .non := by
  rcases h with h | ⟨a, vs, ds, rfl, e, _⟩
  · cases h; rfl
  · cases e
/-- a new list, a new tuple, frozen -/
theorem SR.lst {K : PySem.W.Frag} {b : Bs} {F H : Hp} {S : Sto} {σ : L2.St} {p : Addr} {vs : List V} {ds : List D} (x : SR K g b F S σ H) (n : H p = none) (h : DpAll K F vs ds) :
    SR K g (b.at F H) (upd F p (.lst vs)) ⟨[], S.bx⟩ [] (upd H p (.lst vs)) ∧ Dp K (upd F p (.lst vs)) (.ref p) (.list ds) := by
  have y := x.newF n (lst_nt vs)
  exact ⟨y, .lst (.inl (.inl upd_same)) (dpAll_mono y.f0 _ _ h)⟩
theorem SR.tup {K : PySem.W.Frag} {b : Bs} {F H : Hp} {S : Sto} {σ : L2.St} {p : Addr} {vs : List V} {ds : List D} (x : SR K g b F S σ H) (n : H p = none) (h : DpAll K F vs ds) :
    SR K g (b.at F H) (upd F p (.tup vs)) ⟨[], S.bx⟩ [] (upd H p (.tup vs)) ∧ Dp K (upd F p (.tup vs)) (.ref p) (.tuple ds) := by
  have y := x.newF n (tup_nt vs)
  exact ⟨y, .tup (.inl (.inl upd_same)) (dpAll_mono y.f0 _ _ h)⟩
theorem OpR.of {f : Value → Value → Sem Value} {r r' : R2} (h : OpR X f r) (i : ∀ x y H Q, r' x y H Q → r x y H Q) : OpR X f r' := fun pins s σ H x y v u Q I rx ry q => h pins s σ H x y v u Q I rx ry (i _ _ _ _ q)
theorem sumOk_le {n : Nat} (h : sumOk n = true) : n ≤ sizeLine := of_decide_eq_true h

theorem op_addD : OpR X (binaryOp .Add) (r2 X.K g addD) := by
  intro pins s σ H x y v u Q I rx ry h
  obtain ⟨b, F, S, σ', d1, d2, d, x1, h1, h2, e, q⟩ := h
  unfold addD at e
  split at e
  · cases e
    have e1 := h1.int_
    have e2 := h2.int_
    exact op_add pins s σ H x y v u Q I rx ry ⟨_, _, e1, e2, q _ _ _ x1.base (.int _)⟩
  · split at e
    · rename_i hz
      cases e
      have e1 := h1.str_
      have e2 := h2.str_
      exact op_add_str pins s σ H x y v u Q I rx ry ⟨_, _, e1, e2, sumOk_le hz, q _ _ _ x1.base (.str _)⟩
    · cases e
  · split at e
    · rename_i hz
      cases e
      obtain ⟨a, vs, rfl, s1, k1⟩ := h1.list x1.ff
      obtain ⟨c, ws, rfl, s2, k2⟩ := h2.list x1.ff
      have z := sumOk_le hz
      rw [← dpl_len k1, ← dpl_len k2] at z
      refine op_catL pins s σ H _ _ v u Q I rx ry ⟨a, c, vs, ws, rfl, rfl, s1, s2, z, fun p hp => ?_⟩
      obtain ⟨y1, y2⟩ := x1.lst hp (dpl_app k1 k2)
      exact q _ _ _ y1 y2
    · cases e
  · split at e
    · rename_i hz
      cases e
      obtain ⟨a, vs, rfl, s1, s1', k1⟩ := h1.tuple x1.ff
      obtain ⟨c, ws, rfl, s2, s2', k2⟩ := h2.tuple x1.ff
      have z := sumOk_le hz
      rw [← dpl_len k1, ← dpl_len k2] at z
      refine op_catA pins s σ H _ _ v u Q I rx ry ⟨a, c, vs, ws, rfl, rfl, s1, s2, z, fun z0 => ?_, fun _ z0 => ?_, fun _ _ p hp => ?_⟩
      · subst z0
        cases k1
        exact q _ _ _ x1.base (.tup s2' k2)
      · subst z0
        cases k2
        rw [List.append_nil] at q
        exact q _ _ _ x1.base (.tup s1' k1)
      · obtain ⟨y1, y2⟩ := x1.tup hp (dpl_app k1 k2)
        exact q _ _ _ y1 y2
    · cases e
  · cases e
theorem op_subD : OpR X (binaryOp .Sub) (r2 X.K g subD) := by
  intro pins s σ H x y v u Q I rx ry h
  obtain ⟨b, F, S, σ', d1, d2, d, x1, h1, h2, e, q⟩ := h
  unfold subD at e
  split at e
  · cases e
    exact op_sub pins s σ H x y v u Q I rx ry ⟨_, _, h1.int_, h2.int_, q _ _ _ x1.base (.int _)⟩
  · cases e
theorem natAbs_range {i : Int} (h : i.natAbs < 2 ^ 64) : -(2 ^ 64) < i ∧ i < 2 ^ 64 := by omega
theorem mulOk_ok {i j : Int} (h : mulOk i j = true) : IntMulOk i j := by
  unfold mulOk at h
  rw [Bool.or_eq_true, Bool.or_eq_true] at h
  rcases h with (h | h) | h
  · obtain ⟨a, c⟩ := natAbs_range (of_decide_eq_true h)
    exact .of_left (intBits_le_64 a c)
  · obtain ⟨a, c⟩ := natAbs_range (of_decide_eq_true h)
    exact .of_right (intBits_le_64 a c)
  · exact CMulW.ok (show i.natAbs.log2 + j.natAbs.log2 < 1000000 from of_decide_eq_true h)
theorem op_mulG : OpR X (binaryOp .Mult) (rI (fun i j => mulOk i j = true) fun i j => .int (i * j)) := opI fun _ _ _ _ _ _ _ hc q => mul_int q (mulOk_ok hc)
theorem op_mulD : OpR X (binaryOp .Mult) (r2 X.K g mulD) := by
  intro pins s σ H x y v u Q I rx ry h
  obtain ⟨b, F, S, σ', d1, d2, d, x1, h1, h2, e, q⟩ := h
  unfold mulD at e
  split at e
  · split at e
    · rename_i hz
      cases e
      exact op_mulG pins s σ H x y v u Q I rx ry ⟨_, _, h1.int_, h2.int_, hz, q _ _ _ x1.base (.int _)⟩
    · cases e
  · cases e
theorem op_fdivG : OpR X (binaryOp .FloorDiv) (rI (fun _ j => divOk j = true) fun i j => .int (i.fdiv j)) := opI fun i j _ _ _ _ _ hc q => by
  have hc' : divOk j = true := hc
  unfold divOk at hc'
  rw [Bool.and_eq_true, Bool.or_eq_true, Bool.and_eq_true] at hc'
  obtain ⟨h0, h | ⟨h1, h2⟩⟩ := hc'
  · exact floordiv_int (of_decide_eq_true h0) q (.inl (PyProof.noPylong_small (of_decide_eq_true h)))
  · exact floordiv_int (of_decide_eq_true h0) q (.inl (PyProof.noPylong_of_log2 (of_decide_eq_true h2)))
theorem op_fdivD : OpR X (binaryOp .FloorDiv) (r2 X.K g fdivD) := by
  intro pins s σ H x y v u Q I rx ry h
  obtain ⟨b, F, S, σ', d1, d2, d, x1, h1, h2, e, q⟩ := h
  unfold fdivD at e
  split at e
  · split at e
    · rename_i hz
      cases e
      exact op_fdivG pins s σ H x y v u Q I rx ry ⟨_, _, h1.int_, h2.int_, hz, q _ _ _ x1.base (.int _)⟩
    · cases e
  · cases e
theorem op_modD : OpR X (binaryOp .Mod) (r2 X.K g modD) := by
  intro pins s σ H x y v u Q I rx ry h
  obtain ⟨b, F, S, σ', d1, d2, d, x1, h1, h2, e, q⟩ := h
  unfold modD at e
  split at e
  · split at e
    · rename_i hz
      cases e
      exact op_modN pins s σ H x y v u Q I rx ry ⟨_, _, h1.int_, h2.int_, hz, q _ _ _ x1.base (.int _)⟩
    · cases e
  · cases e
theorem op_binD (op : Operator) : OpR X (binaryOp op) (r2 X.K g (binD op)) := by
  cases op
  case Add => exact op_addD
  case Sub => exact op_subD
  case Mult => exact op_mulD
  case FloorDiv => exact op_fdivD
  case Mod => exact op_modD
  all_goals
    intro pins s σ H x y v u Q I rx ry h
    obtain ⟨b, F, S, σ', d1, d2, d, x1, h1, h2, e, q⟩ := h
    cases e

/-! ### comparisons -/
theorem OpR.of2b {op : CmpOp} {r : R2} {f : D → D → Option Bool} (h : OpR X (compareOp op) r)
    (i : ∀ (x y : V) (H : Hp) (Q : VK) (b : Bs) (F : Hp) (S : Sto) (σ : L2.St) (d1 d2 : D) (k : Bool), SR X.K g b F S σ H → BRep X.K b F H x d1 → BRep X.K b F H y d2 → f d1 d2 = some k → Q (.bl k) H → r x y H Q) : OpR X (compareOp op) (r2b X.K g f) := by
  intro pins s σ H x y v u Q I rx ry h'
  obtain ⟨b, F, S, σ', d1, d2, k, x1, h1, h2, e, q⟩ := h'
  exact h pins s σ H x y v u Q I rx ry (i _ _ _ _ _ _ _ _ _ _ _ x1 h1 h2 e q)
theorem op_inTG (hu : X.A.units + 65 < cLine) : OpR X (compareOp .In) (fun x y H Q => ∃ d ds, Dp X.K H x d ∧ Dp X.K H y (.tuple ds) ∧ SeqAt.shaped d = true ∧ SeqAt.shaped (.tuple ds) = true ∧ Q (.bl (ds.any fun z => PyData.eqv z d)) H) := by
  intro pins s σ H x y v u Q I rx ry h
  obtain ⟨d, ds, hd, he, sd, se, q⟩ := h
  obtain ⟨as, r1⟩ := Dp.reads I d x v hd rx
  obtain ⟨bs, r2⟩ := Dp.reads I (.tuple ds) y u he ry
  exact SeqAt.in_tuple_reads r2 r1 (SeqAt.canLay_of_shaped se) (SeqAt.canLay_of_shaped sd) (room_in_shaped sd hu) ⟨.bl _, H, I, rfl, q⟩
theorem op_notInTG (hu : X.A.units + 65 < cLine) : OpR X (compareOp .NotIn) (fun x y H Q => ∃ d ds, Dp X.K H x d ∧ Dp X.K H y (.tuple ds) ∧ SeqAt.shaped d = true ∧ SeqAt.shaped (.tuple ds) = true ∧ Q (.bl (!ds.any fun z => PyData.eqv z d)) H) := by
  intro pins s σ H x y v u Q I rx ry h
  obtain ⟨d, ds, hd, he, sd, se, q⟩ := h
  obtain ⟨as, r1⟩ := Dp.reads I d x v hd rx
  obtain ⟨bs, r2⟩ := Dp.reads I (.tuple ds) y u he ry
  exact SeqAt.notIn_tuple_reads r2 r1 (SeqAt.canLay_of_shaped se) (SeqAt.canLay_of_shaped sd) (room_in_shaped sd hu) ⟨.bl _, H, I, rfl, q⟩
theorem op_inG (hu : X.A.units + 65 < cLine) : OpR X (compareOp .In) (r2b X.K g inD) := by
  intro pins s σ H x y v u Q I rx ry h
  obtain ⟨b, F, S, σ', d1, d2, k, x1, h1, h2, e, q⟩ := h
  unfold inD at e
  split at e
  · cases e
    exact op_in_str pins s σ H x y v u Q I rx ry ⟨_, _, h1.str_, h2.str_, q⟩
  · split at e
    · rename_i hz
      rw [Bool.and_eq_true] at hz
      cases e
      exact op_inD hu pins s σ H x y v u Q I rx ry ⟨_, _, h1.dp x1.ff, h2.dp x1.ff, hz.1, hz.2, q⟩
    · cases e
  · split at e
    · rename_i hz
      rw [Bool.and_eq_true] at hz
      cases e
      exact op_inTG hu pins s σ H x y v u Q I rx ry ⟨_, _, h1.dp x1.ff, h2.dp x1.ff, hz.1, hz.2, q⟩
    · cases e
  · cases e
theorem op_notInG (hu : X.A.units + 65 < cLine) : OpR X (compareOp .NotIn) (r2b X.K g notInD) := by
  intro pins s σ H x y v u Q I rx ry h
  obtain ⟨b, F, S, σ', d1, d2, k, x1, h1, h2, e0, q⟩ := h
  obtain ⟨k', e, rfl⟩ := Option.map_eq_some_iff.mp (show (inD d1 d2).map (!·) = some k from e0)
  clear e0
  unfold inD at e
  split at e
  · cases e
    exact op_notin_str pins s σ H x y v u Q I rx ry ⟨_, _, h1.str_, h2.str_, q⟩
  · split at e
    · rename_i hz
      rw [Bool.and_eq_true] at hz
      cases e
      exact op_notInD hu pins s σ H x y v u Q I rx ry ⟨_, _, h1.dp x1.ff, h2.dp x1.ff, hz.1, hz.2, q⟩
    · cases e
  · split at e
    · rename_i hz
      rw [Bool.and_eq_true] at hz
      cases e
      exact op_notInTG hu pins s σ H x y v u Q I rx ry ⟨_, _, h1.dp x1.ff, h2.dp x1.ff, hz.1, hz.2, q⟩
    · cases e
  · cases e
theorem isNon_ne {d : D} (h : isNon d = false) : d ≠ .none := fun e => by
  rw [e] at h
  cases h
theorem op_ltG (hu : X.A.units + 64 < cLine) : OpR X (compareOp .Lt) (r2b X.K g ltD) := by
  intro pins s σ H x y v u Q I rx ry h
  obtain ⟨b, F, S, σ', d1, d2, k, x1, h1, h2, e, q⟩ := h
  unfold ltD at e
  split at e
  · cases e
    exact op_lt pins s σ H x y v u Q I rx ry ⟨_, _, h1.int_, h2.int_, q⟩
  · split at e
    · rename_i hz
      rw [Bool.and_eq_true, Bool.and_eq_true] at hz
      cases e
      obtain ⟨as, r1⟩ := Dp.reads I d1 x v (h1.dp x1.ff) rx
      obtain ⟨bs, r2⟩ := Dp.reads I d2 y u (h2.dp x1.ff) ry
      have hd := of_decide_eq_true hz.2
      have hn : isNon d1 = false := by simpa using hz.1.2
      exact PySem.W.rcLt_alike d1 d2 X.A s v u as bs r1 r2 hz.1.1 (isNon_ne hn) (by have := Nat.min_le_left d1.depth d2.depth; omega) X.prog X.w X.xe _ ⟨.bl _, H, I, rfl, q⟩
    · cases e
theorem isN_iff {K : PySem.W.Frag} {b : Bs} {F H : Hp} {v : V} {d : D} (h : BRep K b F H v d) : decide (v = .non) = isNon d := by
  rcases h with h | ⟨a, vs, ds, rfl, rfl, _⟩
  · cases h <;> simp [isNon]
  · simp [isNon]
theorem isD_V {K : PySem.W.Frag} {b : Bs} {F H : Hp} {x y : V} {d1 d2 : D} {k : Bool} (h1 : BRep K b F H x d1) (h2 : BRep K b F H y d2) (e : isD d1 d2 = some k) : (y = .non ∧ decide (x = .non) = k) ∨ ∃ a c, x = .bl a ∧ y = .bl c ∧ decide (a = c) = k := by
  cases d2 with
  | none => exact .inl ⟨h2.none_, by rw [isN_iff h1]; cases d1 <;> exact Option.some.inj e⟩
  | bool c =>
    cases d1 with
    | bool a => exact .inr ⟨_, _, h1.bool_, h2.bool_, Option.some.inj e⟩
    | _ => cases e
  | _ => cases d1 <;> cases e
theorem op_cmpD (hu : X.A.units + 65 < cLine) (op : CmpOp) : OpR X (compareOp op) (r2b X.K g (cmpD op)) := by
  cases op with
  | Eq =>
    refine OpR.of2b (op_eqD (by omega)) fun x y H Q b F S σ d1 d2 k x1 h1 h2 e q => ?_
    have e' : (if shp d1 && shp d2 then some (PyData.eqv d1 d2) else none) = some k := e
    split at e'
    · rename_i hz
      rw [Bool.and_eq_true] at hz
      cases e'
      exact ⟨d1, d2, h1.dp x1.ff, h2.dp x1.ff, hz.1, hz.2, q⟩
    · cases e'
  | NotEq =>
    refine OpR.of2b (op_neD (by omega)) fun x y H Q b F S σ d1 d2 k x1 h1 h2 e q => ?_
    have e' : (if shp d1 && shp d2 then some (!PyData.eqv d1 d2) else none) = some k := e
    split at e'
    · rename_i hz
      rw [Bool.and_eq_true] at hz
      cases e'
      exact ⟨d1, d2, h1.dp x1.ff, h2.dp x1.ff, hz.1, hz.2, q⟩
    · cases e'
  | Lt => exact op_ltG (by omega)
  | LtE =>
    refine OpR.of2b op_le fun x y H Q b F S σ d1 d2 k x1 h1 h2 e q => ?_
    cases d1 <;> cases d2 <;> cases e
    exact ⟨_, _, h1.int_, h2.int_, q⟩
  | Gt =>
    refine OpR.of2b op_gt fun x y H Q b F S σ d1 d2 k x1 h1 h2 e q => ?_
    cases d1 <;> cases d2 <;> cases e
    exact ⟨_, _, h1.int_, h2.int_, q⟩
  | GtE =>
    refine OpR.of2b op_ge fun x y H Q b F S σ d1 d2 k x1 h1 h2 e q => ?_
    cases d1 <;> cases d2 <;> cases e
    exact ⟨_, _, h1.int_, h2.int_, q⟩
  | In => exact op_inG hu
  | NotIn => exact op_notInG hu
  | Is =>
    refine OpR.of2b (OpR.or op_isN op_isBl) fun x y H Q b F S σ d1 d2 k x1 h1 h2 e q => ?_
    rcases isD_V h1 h2 e with ⟨e1, e2⟩ | ⟨a, c, e1, e2, e3⟩
    · exact .inl ⟨e1, by rw [e2]; exact q⟩
    · exact .inr ⟨a, c, e1, e2, by rw [e3]; exact q⟩
  | IsNot =>
    refine OpR.of2b (OpR.or op_notN op_notBl) fun x y H Q b F S σ d1 d2 k x1 h1 h2 e q => ?_
    obtain ⟨k', e', rfl⟩ := Option.map_eq_some_iff.mp (show (isD d1 d2).map (!·) = some k from e)
    rcases isD_V h1 h2 e' with ⟨e1, e2⟩ | ⟨a, c, e1, e2, e3⟩
    · exact .inl ⟨e1, by rw [e2]; exact q⟩
    · exact .inr ⟨a, c, e1, e2, by rw [e3]; exact q⟩

/-! ### truth -/
theorem tru_V {b : Bs} {F H : Hp} {S : Sto} {σ : L2.St} {x : V} {d : D} {k : Bool} (x1 : SR X.K g b F S σ H) (h : BRep X.K b F H x d) (e : truD d = some k) : TruV X.K x H k := by
  cases d with
  | none =>
    cases e
    have := h.none_
    subst this
    rfl
  | bool c =>
    cases e
    have := h.bool_
    subst this
    rfl
  | int i =>
    cases e
    have := h.int_
    subst this
    rfl
  | str z =>
    have e' : (if sumOk z.length then some ((z.length : Int) != 0) else none) = some k := e
    split at e'
    · rename_i hz
      cases e'
      have := h.str_
      subst this
      exact ⟨sumOk_le hz, rfl⟩
    · cases e'
  | list ds =>
    cases e
    obtain ⟨a, vs, rfl, s1, k1⟩ := h.list x1.ff
    refine .inl ⟨vs, s1, ?_⟩
    have := dpl_len k1
    cases ds <;> cases vs <;> simp_all
  | tuple ds =>
    cases e
    obtain ⟨a, vs, rfl, s1, _, k1⟩ := h.tuple x1.ff
    refine .inr (.inl ⟨vs, s1, ?_⟩)
    have := dpl_len k1
    cases ds <;> cases vs <;> simp_all
  | dict _ => cases e
theorem un_negD : UnR X (unaryOp .USub) (r1 X.K g negD) := by
  intro pins s σ H x v Q I rx h
  obtain ⟨b, F, S, σ', d1, d, x1, h1, e, q⟩ := h
  cases d1 <;> cases e
  exact un_neg pins s σ H x v Q I rx ⟨_, h1.int_, q _ _ _ x1.base (.int _)⟩

/-! ### subscripts, slices -/
theorem atI_dp {K : PySem.W.Frag} {F : Hp} {vs : List V} {ds : List D} {i : Int} {d : D} (k : DpAll K F vs ds) (e : atI ds i = some d) : ∃ v, atI vs i = some v ∧ Dp K F v d := by
  unfold atI at e ⊢
  rw [dpl_len k]
  cases h : ixN ds.length i with
  | none => rw [h] at e; cases e
  | some j =>
    rw [h] at e
    exact dpl_get k e
theorem ix_D : IxR X (r2 X.K g ixD) := by
  intro value slice pins s σ H x y v u Q I rx ry h hsub
  obtain ⟨b, F, S, σ', d1, d2, d, x1, h1, h2, e, q⟩ := h
  unfold ixD at e
  split at e
  · obtain ⟨a, vs, rfl, s1, k1⟩ := h1.list x1.ff
    obtain ⟨w, e1, e2⟩ := atI_dp k1 e
    exact ix_list value slice pins s σ H _ y v u Q I rx ry ⟨a, vs, _, w, rfl, h2.int_, s1, e1, q _ _ _ x1.base e2⟩ hsub
  · obtain ⟨a, vs, rfl, s1, _, k1⟩ := h1.tuple x1.ff
    obtain ⟨w, e1, e2⟩ := atI_dp k1 e
    exact ix_tup value slice pins s σ H _ y v u Q I rx ry ⟨a, vs, _, w, rfl, h2.int_, s1, e1, q _ _ _ x1.base e2⟩ hsub
  · split at e
    · rename_i hz
      obtain ⟨c, e1, rfl⟩ := Option.map_eq_some_iff.mp e
      exact ix_str value slice pins s σ H x y v u Q I rx ry ⟨_, _, c, h1.str_, h2.int_, sumOk_le hz, e1, q _ _ _ x1.base (.str _)⟩ hsub
    · cases e
  · cases e
def rSl (K : PySem.W.Frag) (g : Gx) : V → Option Int → Option Int → Hp → VK → Prop := fun x lo hi H Q => ∃ (b : Bs) (F : Hp) (S : Sto) (σ : L2.St) (d1 d : D), SR K g b F S σ H ∧ BRep K b F H x d1 ∧ cutD d1 lo hi = some d ∧
  ∀ v F' H', SR K g (b.at F H) F' ⟨[], S.bx⟩ [] H' → Dp K F' v d → Q v H'
theorem cutV_dp {K : PySem.W.Frag} {F : Hp} {vs : List V} {ds : List D} {lo hi : Option Int} (k : DpAll K F vs ds) : DpAll K F (cutV vs lo hi) (cutL ds lo hi) := by
  unfold cutV cutL
  rw [dpl_len k]
  exact dpl_take _ (dpl_drop _ k)
theorem sl_D : SlR X (rSl X.K g) := by
  intro pins s σ H x v vl vu lo hi sl Q I rx hs pl pu h
  obtain ⟨b, F, S, σ', d1, d, x1, h1, e, q⟩ := h
  unfold cutD at e
  split at e
  · cases e
    obtain ⟨a, vs, rfl, s1, k1⟩ := h1.list x1.ff
    refine sl_list pins s σ H _ v vl vu lo hi sl Q I rx hs pl pu ⟨a, vs, rfl, s1, fun p hp => ?_⟩
    obtain ⟨y1, y2⟩ := x1.lst hp (cutV_dp k1)
    exact q _ _ _ y1 y2
  · cases e
    obtain ⟨a, vs, rfl, s1, s1', k1⟩ := h1.tuple x1.ff
    refine sl_tupA pins s σ H _ v vl vu lo hi sl Q I rx hs pl pu ⟨a, vs, rfl, s1, fun z => ?_, fun _ p hp => ?_⟩
    · rename_i ds
      have e2 : cutL ds lo hi = ds := by
        unfold cutL
        rw [← dpl_len k1, z.1, z.2, List.drop_zero, Nat.sub_zero, dpl_len k1, List.take_length]
      rw [e2] at q
      exact q _ _ _ x1.base (.tup s1' k1)
    · obtain ⟨y1, y2⟩ := x1.tup hp (cutV_dp k1)
      exact q _ _ _ y1 y2
  · split at e
    · rename_i hz
      cases e
      exact sl_str pins s σ H x v vl vu lo hi sl Q I rx hs pl pu ⟨_, h1.str_, sumOk_le hz, q _ _ _ x1.base (.str _)⟩
    · cases e
  · cases e

/-! ### built-ins -/
/-- one argument, read -/
def c1 (K : PySem.W.Frag) (g : Gx) (f : D → Option D) : List V → Hp → VK → Prop := fun xs H Q => ∃ (b : Bs) (F : Hp) (S : Sto) (σ : L2.St) (x : V) (d1 d : D), xs = [x] ∧ SR K g b F S σ H ∧ BRep K b F H x d1 ∧ f d1 = some d ∧
  ∀ v F' H', SR K g (b.at F H) F' ⟨[], S.bx⟩ [] H' → Dp K F' v d → Q v H'
def c2 (K : PySem.W.Frag) (g : Gx) (f : D → D → Option D) : List V → Hp → VK → Prop := fun xs H Q => ∃ (b : Bs) (F : Hp) (S : Sto) (σ : L2.St) (x y : V) (d1 d2 d : D), xs = [x, y] ∧ SR K g b F S σ H ∧ BRep K b F H x d1 ∧ BRep K b F H y d2 ∧ f d1 d2 = some d ∧
  ∀ v F' H', SR K g (b.at F H) F' ⟨[], S.bx⟩ [] H' → Dp K F' v d → Q v H'
def lenD : D → Option D
  | .list ds => some (.int ds.length)
  | .tuple ds => some (.int ds.length)
  | .str x => if sumOk x.length then some (.int x.length) else none
  | _ => none
def absD : D → Option D
  | .int i => some (.int (if i < 0 then -i else i))
  | _ => none
def intD : D → Option D
  | .int i => some (.int i)
  | .bool k => some (.int (if k then 1 else 0))
  | _ => none
def boolsOf : List D → Option (List Bool)
  | [] => some []
  | .bool b :: r => (boolsOf r).map (b :: ·)
  | _ :: _ => none
def intsOf : List D → Option (List Int)
  | [] => some []
  | .int b :: r => (intsOf r).map (b :: ·)
  | _ :: _ => none
def allD : D → Option D
  | .list ds => (boolsOf ds).map fun bs => .bool (bs.all id)
  | _ => none
def anyD : D → Option D
  | .list ds => (boolsOf ds).map fun bs => .bool (bs.any id)
  | _ => none
def sumD : D → Option D
  | .list ds => (intsOf ds).map fun ns => .int ns.sum
  | _ => none
def tupleD : D → Option D
  | .list ds => some (.tuple ds)
  | .tuple ds => some (.tuple ds)
  | _ => none
def listD : D → Option D
  | .list ds => some (.list ds)
  | .tuple ds => some (.list ds)
  | _ => none
def max2D : D → D → Option D
  | .int i, .int j => some (.int (if j > i then j else i))
  | _, _ => none
def min2D : D → D → Option D
  | .int i, .int j => some (.int (if j < i then j else i))
  | _, _ => none
def reprD (d : D) : Option D := if d.showable && sumOk d.shown.length && !d.hasDict && decide (d.depth ≤ 64) then some (.str d.shown) else none

theorem boolsOf_V {K : PySem.W.Frag} {F : Hp} : ∀ {ds : List D} {vs : List V} {bs : List Bool}, DpAll K F vs ds → boolsOf ds = some bs → vs = bs.map V.bl
  | [], _, _, h, e => by
    cases h
    cases e
    rfl
  | d :: ds, _, bs, h, e => by
    cases h with
    | cons h1 h2 =>
      cases d with
      | bool b =>
        obtain ⟨bs', e1, rfl⟩ := Option.map_eq_some_iff.mp (show (boolsOf ds).map (b :: ·) = some bs from e)
        cases h1
        rw [boolsOf_V h2 e1]
        rfl
      | _ => cases e
theorem intsOf_V {K : PySem.W.Frag} {F : Hp} : ∀ {ds : List D} {vs : List V} {bs : List Int}, DpAll K F vs ds → intsOf ds = some bs → vs = bs.map V.int
  | [], _, _, h, e => by
    cases h
    cases e
    rfl
  | d :: ds, _, bs, h, e => by
    cases h with
    | cons h1 h2 =>
      cases d with
      | int b =>
        obtain ⟨bs', e1, rfl⟩ := Option.map_eq_some_iff.mp (show (intsOf ds).map (b :: ·) = some bs from e)
        cases h1
        rw [intsOf_V h2 e1]
        rfl
      | _ => cases e
theorem CallR.ofC {f : Value} {r r' : List V → Hp → VK → Prop} (h : CallR X f r) (i : ∀ xs H Q, r' xs H Q → r xs H Q) : CallR X f r' := fun pins s σ H xs us Q I rr q => h pins s σ H xs us Q I rr (i _ _ _ q)
theorem call_lenD : CallR X (.builtin "len") (c1 X.K g lenD) := by
  refine CallR.ofC call_len fun xs H Q h => ?_
  obtain ⟨b, F, S, σ, x, d1, d, rfl, x1, h1, e, q⟩ := h
  cases d1 with
  | list ds =>
    cases e
    obtain ⟨a, vs, rfl, s1, k1⟩ := h1.list x1.ff
    refine ⟨_, _, rfl, .inl ⟨vs, s1, rfl⟩, ?_⟩
    rw [dpl_len k1]
    exact q _ _ _ x1.base (.int _)
  | tuple ds =>
    cases e
    obtain ⟨a, vs, rfl, s1, _, k1⟩ := h1.tuple x1.ff
    refine ⟨_, _, rfl, .inr ⟨vs, s1, rfl⟩, ?_⟩
    rw [dpl_len k1]
    exact q _ _ _ x1.base (.int _)
  | str z =>
    have e' : (if sumOk z.length then some (PyData.int z.length) else none) = some d := e
    split at e'
    · rename_i hz
      cases e'
      have := h1.str_
      subst this
      exact ⟨_, _, rfl, ⟨sumOk_le hz, rfl⟩, q _ _ _ x1.base (.int _)⟩
    · cases e'
  | _ => cases e
theorem call_absD : CallR X (.builtin "abs") (c1 X.K g absD) := by
  refine CallR.ofC call_abs fun xs H Q h => ?_
  obtain ⟨b, F, S, σ, x, d1, d, rfl, x1, h1, e, q⟩ := h
  cases d1 <;> cases e
  have := h1.int_
  subst this
  exact ⟨_, rfl, q _ _ _ x1.base (.int _)⟩
theorem call_intD : CallR X (.type "int") (c1 X.K g intD) := by
  refine CallR.ofC call_int1 fun xs H Q h => ?_
  obtain ⟨b, F, S, σ, x, d1, d, rfl, x1, h1, e, q⟩ := h
  cases d1 <;> cases e
  · have := h1.bool_
    subst this
    exact .inr ⟨_, rfl, q _ _ _ x1.base (.int _)⟩
  · have := h1.int_
    subst this
    exact .inl ⟨_, rfl, q _ _ _ x1.base (.int _)⟩
theorem call_allD (hc : X.calm = true) : CallR X (.builtin "all") (c1 X.K g allD) := by
  refine CallR.ofC (cr_all hc) fun xs H Q h => ?_
  obtain ⟨b, F, S, σ, x, d1, d, rfl, x1, h1, e, q⟩ := h
  cases d1 with
  | list ds =>
    obtain ⟨bs, e1, rfl⟩ := Option.map_eq_some_iff.mp (show (boolsOf ds).map (fun bs => PyData.bool (bs.all id)) = some d from e)
    obtain ⟨a, vs, rfl, s1, k1⟩ := h1.list x1.ff
    have := boolsOf_V k1 e1
    subst this
    exact ⟨a, bs, rfl, s1, q _ _ _ x1.base (.bl _)⟩
  | _ => cases e
theorem call_anyD (hc : X.calm = true) : CallR X (.builtin "any") (c1 X.K g anyD) := by
  refine CallR.ofC (cr_any hc) fun xs H Q h => ?_
  obtain ⟨b, F, S, σ, x, d1, d, rfl, x1, h1, e, q⟩ := h
  cases d1 with
  | list ds =>
    obtain ⟨bs, e1, rfl⟩ := Option.map_eq_some_iff.mp (show (boolsOf ds).map (fun bs => PyData.bool (bs.any id)) = some d from e)
    obtain ⟨a, vs, rfl, s1, k1⟩ := h1.list x1.ff
    have := boolsOf_V k1 e1
    subst this
    exact ⟨a, bs, rfl, s1, q _ _ _ x1.base (.bl _)⟩
  | _ => cases e
theorem call_sumD (hc : X.calm = true) : CallR X (.builtin "sum") (c1 X.K g sumD) := by
  refine CallR.ofC (cr_sum hc) fun xs H Q h => ?_
  obtain ⟨b, F, S, σ, x, d1, d, rfl, x1, h1, e, q⟩ := h
  cases d1 with
  | list ds =>
    obtain ⟨bs, e1, rfl⟩ := Option.map_eq_some_iff.mp (show (intsOf ds).map (fun bs => PyData.int bs.sum) = some d from e)
    obtain ⟨a, vs, rfl, s1, k1⟩ := h1.list x1.ff
    have := intsOf_V k1 e1
    subst this
    exact ⟨a, bs, rfl, s1, q _ _ _ x1.base (.int _)⟩
  | _ => cases e
theorem call_tupleD : CallR X (.type "tuple") (c1 X.K g tupleD) := by
  refine CallR.ofC call_tuple_of fun xs H Q h => ?_
  obtain ⟨b, F, S, σ, x, d1, d, rfl, x1, h1, e, q⟩ := h
  cases d1 with
  | list ds =>
    cases e
    obtain ⟨a, vs, rfl, s1, k1⟩ := h1.list x1.ff
    refine ⟨a, vs, rfl, .inl ⟨s1, fun l hl => ?_⟩⟩
    obtain ⟨y1, y2⟩ := x1.tup hl k1
    exact q _ _ _ y1 y2
  | tuple ds =>
    cases e
    obtain ⟨a, vs, rfl, s1, s1', k1⟩ := h1.tuple x1.ff
    exact ⟨a, vs, rfl, .inr ⟨s1, q _ _ _ x1.base (.tup s1' k1)⟩⟩
  | _ => cases e
theorem call_listD : CallR X (.type "list") (c1 X.K g listD) := by
  refine CallR.ofC call_list_of fun xs H Q h => ?_
  obtain ⟨b, F, S, σ, x, d1, d, rfl, x1, h1, e, q⟩ := h
  cases d1 with
  | list ds =>
    cases e
    obtain ⟨a, vs, rfl, s1, k1⟩ := h1.list x1.ff
    refine ⟨a, vs, rfl, .inl s1, fun l hl => ?_⟩
    obtain ⟨y1, y2⟩ := x1.lst hl k1
    exact q _ _ _ y1 y2
  | tuple ds =>
    cases e
    obtain ⟨a, vs, rfl, s1, s1', k1⟩ := h1.tuple x1.ff
    refine ⟨a, vs, rfl, .inr s1, fun l hl => ?_⟩
    obtain ⟨y1, y2⟩ := x1.lst hl k1
    exact q _ _ _ y1 y2
  | _ => cases e
theorem call_max2D (hc : X.calm = true) : CallR X (.builtin "max") (c2 X.K g max2D) := by
  refine CallR.ofC (call_max2 hc) fun xs H Q h => ?_
  obtain ⟨b, F, S, σ, x, y, d1, d2, d, rfl, x1, h1, h2, e, q⟩ := h
  cases d1 <;> cases d2 <;> cases e
  have := h1.int_
  subst this
  have := h2.int_
  subst this
  exact ⟨_, _, rfl, q _ _ _ x1.base (.int _)⟩
theorem call_min2D (hc : X.calm = true) : CallR X (.builtin "min") (c2 X.K g min2D) := by
  refine CallR.ofC (call_min2 hc) fun xs H Q h => ?_
  obtain ⟨b, F, S, σ, x, y, d1, d2, d, rfl, x1, h1, h2, e, q⟩ := h
  cases d1 <;> cases d2 <;> cases e
  have := h1.int_
  subst this
  have := h2.int_
  subst this
  exact ⟨_, _, rfl, q _ _ _ x1.base (.int _)⟩
theorem call_reprD (hg : X.A.guards = some []) (hu : X.A.units + 66 < cLine) : CallR X (.builtin "repr") (c1 X.K g reprD) := by
  intro pins s σ H xs us Q I rr h
  obtain ⟨b, F, S, σ', x, d1, d, rfl, x1, h1, e, q⟩ := h
  unfold reprD at e
  split at e
  · rename_i hz
    cases e
    rw [Bool.and_eq_true, Bool.and_eq_true, Bool.and_eq_true] at hz
    obtain ⟨⟨⟨z1, z2⟩, z3⟩, z4⟩ := hz
    have z4 := of_decide_eq_true z4
    have z3 : d1.hasDict = false := by simpa using z3
    have z2 := sumOk_le z2
    obtain ⟨u, rfl, rx⟩ := vals1 rr
    have hq := q _ _ _ x1.base (.str d1.shown)
    have hd := h1.dp x1.ff
    obtain ⟨as, r⟩ := Dp.reads I d1 x u hd rx
    cases d1 with
    | none =>
      cases r
      exact PySem.P.repr_of_none ⟨.str _, H, I.tok _, ⟨_, rfl⟩, by simpa only [PyData.shown] using hq⟩
    | bool c =>
      cases r
      exact PySem.P.repr_of_bool ⟨.str _, H, I.tok _, ⟨_, rfl⟩, by
        simp only [PyData.shown] at hq
        have e : ((if c then "True" else "False" : String) : Str) = (if c then ("True" : Str) else ("False" : Str)) := by cases c <;> rfl
        first | (rw [e]; exact hq) | exact hq⟩
    | int i =>
      cases r
      have z5 : i.natAbs.log2 < 1920 := by simpa [PyData.showable] using z1
      exact PySem.P.repr_of_int z5 ⟨.str _, H, I.tok _, ⟨_, rfl⟩, by simpa only [PyData.shown] using hq⟩
    | str z =>
      cases r
      simp only [PyData.shown] at z2 hq
      exact PySem.P.repr_of_str ⟨.str _, H, I.tok _, ⟨_, rfl⟩, hq⟩ z2
    | list ds =>
      cases hd with
      | lst s1 k1 =>
        cases rx
        exact PySem.repr_of_reads' r z1 (fun e => by rw [z3] at e; cases e) hg (by omega) (fun _ _ e => e) (fun h' u tk k => ⟨.str _, H, I.kept k, ⟨_, rfl⟩, hq⟩) z2
    | tuple ds =>
      cases hd with
      | tup s1 k1 =>
        cases rx
        exact PySem.repr_of_reads' r z1 (fun e => by rw [z3] at e; cases e) hg (by omega) (fun _ _ e => e) (fun h' u tk k => ⟨.str _, H, I.kept k, ⟨_, rfl⟩, hq⟩) z2
    | dict _ => cases hd
  · cases e
end
end Gl

set_option maxRecDepth 100000
set_option maxHeartbeats 1000000
/-! The general layer, part C: plain functions over the state, what they promise of an expression. -/
namespace Gl
open PySem PySem.Spec PyProof.Rows L2

def R.bind {α β : Type} : R α → (α → Sto → R β) → R β
  | .ok a s, k => k a s
  | .exc c d b, _ => .exc c d b
  | .stuck, _ => .stuck
abbrev M (α : Type) := Sto → R α
def M.bind {α β : Type} (m : M α) (k : α → M β) : M β := fun S => (m S).bind k
def ofO {α : Type} : Option α → M α
  | some a => fun S => .ok a S
  | none => fun _ => .stuck
def mC {α : Type} (a : α) : M α := fun S => .ok a S

abbrev Rp (α β : Type) := Bs → Hp → Hp → β → α → Prop
def ExcP (K : PySem.W.Frag) (g : Gx) (W : WX) (σ : L2.St) (b : Bs) (c : Nat) (d : D) (bx' : Bx) : Prop :=
  ∀ (a C : Addr) (f : Str) (v : V) (F' H' : Hp), g.cl c = some (C, f) → SR K g b F' ⟨[], bx'⟩ [] H' → H' a = some (.xd [(f, v)]) → Dp K F' v d → W (.ref C) (some a) σ H'
def PostG {α β : Type} (K : PySem.W.Frag) (g : Gx) (W : WX) (σ : L2.St) (b : Bs) (F H : Hp) (rep : Rp α β) (Q : β → Hp → Prop) : R α → Prop
  | .ok a S' => ∀ (v : β) (F' H' : Hp), SR K g b F' S' σ H' → Same F F' → Fr b H H' → rep b F' H' v a → Q v H'
  | .exc c d bx' => ExcP K g W σ b c d bx'
  | .stuck => False
def tG {α β : Type} (K : PySem.W.Frag) (g : Gx) (W : WX) (rep : Rp α β) (m : M α) : L2.St → Hp → (β → Hp → Prop) → Prop :=
  fun σ H Q => ∃ (b : Bs) (F : Hp) (S : Sto), SR K g b F S σ H ∧ PostG K g W σ b F H rep Q (m S)
def repE (K : PySem.W.Frag) : Rp D V := fun _ F _ v d => Dp K F v d
def repB (K : PySem.W.Frag) : Rp D V := fun b F H v d => BRep K b F H v d
def repT : Rp Bool Bool := fun _ _ _ k k' => k = k'
def repL {α : Type} (rep : Rp α V) : Rp (List α) (List V) := fun b F H vs as => vs.length = as.length ∧ ∀ (i : Nat) v a, vs[i]? = some v → as[i]? = some a → rep b F H v a
def repA (K : PySem.W.Frag) : Rp Arg V := fun b F _ v a => match a with
  | .d x => Dp K F v x
  | .box => b.hb = true ∧ v = .ref b.B
/-- the reading stays true when the frozen part and the heap grow -/
def Mono {α β : Type} (rep : Rp α β) : Prop := ∀ (b : Bs) (F F' H H' : Hp) v a, Same F F' → Fr b H H' → rep b F H v a → rep b F' H' v a
theorem mono_E (K : PySem.W.Frag) : Mono (repE K) := fun _ _ _ _ _ _ _ s _ h => dp_mono s _ _ h
theorem brep_mono {K : PySem.W.Frag} {b : Bs} {F F' H H' : Hp} {v : V} {d : D} (s : Same F F') (f : Fr b H H') (h : BRep K b F H v d) : BRep K b F' H' v d := by
  rcases h with h | ⟨a, vs, ds, rfl, rfl, nb, h1, h2⟩
  · exact .inl (dp_mono s _ _ h)
  · exact .inr ⟨a, vs, ds, rfl, rfl, nb, f a _ h1 nb (lst_nt vs), dpAll_mono s _ _ h2⟩
theorem mono_B (K : PySem.W.Frag) : Mono (repB K) := fun _ _ _ _ _ _ _ s f h => brep_mono s f h
theorem mono_A (K : PySem.W.Frag) : Mono (repA K) := fun b F F' H H' v a s f h => by
  cases a with
  | d x => exact dp_mono s _ _ h
  | box => exact h
theorem mono_L {α : Type} {rep : Rp α V} (m : Mono rep) : Mono (repL rep) := fun b F F' H H' vs as s f h => ⟨h.1, fun i v a e1 e2 => m b F F' H H' v a s f (h.2 i v a e1 e2)⟩
theorem repL_dpAll {K : PySem.W.Frag} {b : Bs} {F H : Hp} : ∀ {ds : List D} {vs : List V}, repL (repE K) b F H vs ds → DpAll K F vs ds
  | [], [], _ => .nil
  | [], _ :: _, h => by cases h.1
  | _ :: _, [], h => by cases h.1
  | d :: ds, v :: vs, h => .cons (h.2 0 v d rfl rfl) (repL_dpAll ⟨by simpa using h.1, fun i w a e1 e2 => h.2 (i + 1) w a (by simpa using e1) (by simpa using e2)⟩)

section
variable {α β α' β' : Type} {K : PySem.W.Frag} {g : Gx} {W : WX} {σ : L2.St} {b : Bs} {F F1 H H1 : Hp} {S : Sto} {rep1 : Rp α β} {rep2 : Rp α' β'} {Q : β' → Hp → Prop} {T : β → Hp → Prop}
theorem PostG.shift {r : R α'} (h : PostG K g W σ b F H rep2 Q r) (s : Same F F1) (f : Fr b H H1) : PostG K g W σ b F1 H1 rep2 Q r := by
  cases r with
  | ok a S' => exact fun v F' H' x s' f' r => h v F' H' x (s.trans s') (f.trans f') r
  | exc c d bx' => exact h
  | stuck => exact h
theorem bindP {m : M α} {k : α → Sto → R α'} (x : SR K g b F S σ H) (h : PostG K g W σ b F H rep2 Q ((m S).bind k))
    (hT : ∀ (a : α) (S1 : Sto) (v : β) (F1 H1 : Hp), SR K g b F1 S1 σ H1 → Same F F1 → Fr b H H1 → rep1 b F1 H1 v a → PostG K g W σ b F1 H1 rep2 Q (k a S1) → T v H1) : tG K g W rep1 m σ H T := by
  refine ⟨b, F, S, x, ?_⟩
  cases e : m S with
  | stuck => rw [e] at h; exact h
  | exc c d bx' => rw [e] at h; exact h
  | ok a S1 =>
    rw [e] at h
    exact fun v F1 H1 x1 s1 f1 r1 => hT a S1 v F1 H1 x1 s1 f1 r1 (PostG.shift (show PostG K g W σ b F H rep2 Q (k a S1) from h) s1 f1)
/-- the last one: an operation that gives an answer -/
theorem ofO_post {o : Option α'} (h : PostG K g W σ b F H rep2 Q (ofO o S)) : ∃ a, o = some a ∧ PostG K g W σ b F H rep2 Q (.ok a S) := by
  cases o with
  | none => exact h.elim
  | some a => exact ⟨a, rfl, h⟩
end
section
variable {X : Cx}
theorem PE.of {e : Expr} {t t' : TE} (h : PE X e t) (i : ∀ σ H Q, t' σ H Q → t σ H Q) : PE X e t' := ⟨fun pins s σ H Q I q => h.run pins s σ H Q I (i σ H Q q)⟩
theorem PT.of {e : Expr} {t t' : TT} (h : PT X e t) (i : ∀ σ H Q, t' σ H Q → t σ H Q) : PT X e t' := ⟨fun pins s σ H Q I q => h.run pins s σ H Q I (i σ H Q q)⟩
theorem PW.of {e : Expr} {t t' : TT} (h : PW X e t) (i : ∀ σ H Q, t' σ H Q → t σ H Q) : PW X e t' := ⟨fun wh pins s σ H Q I q => h.run wh pins s σ H Q I (i σ H Q q)⟩
theorem PA.of {e : List Expr} {t t' : TA} (h : PA X e t) (i : ∀ σ H Q, t' σ H Q → t σ H Q) : PA X e t' := ⟨fun p pins s σ H Q I q => h.run p pins s σ H Q I (i σ H Q q)⟩
theorem PS.of {e : Stmt} {t t' : TS} (h : PS X e t) (i : ∀ D σ H, t' D σ H → t D σ H) : PS X e t' := ⟨fun pins s σ H D I q => h.run pins s σ H D I (i D σ H q)⟩
theorem PSs.of {e : List Stmt} {t t' : TS} (h : PSs X e t) (i : ∀ D σ H, t' D σ H → t D σ H) : PSs X e t' := ⟨fun pins s σ H D I q => h.run pins s σ H D I (i D σ H q)⟩
end
abbrev JE (X : Cx) (g : Gx) (W : WX) (e : Expr) (m : M D) : Prop := PE X e (tG X.K g W (repE X.K) m)
abbrev JB (X : Cx) (g : Gx) (W : WX) (e : Expr) (m : M D) : Prop := PE X e (tG X.K g W (repB X.K) m)
abbrev JT (X : Cx) (g : Gx) (W : WX) (e : Expr) (m : M Bool) : Prop := PT X e (tG X.K g W repT m)
abbrev JW (X : Cx) (g : Gx) (W : WX) (e : Expr) (m : M Bool) : Prop := PW X e (tG X.K g W repT m)

/-! ### the plain functions -/
def mVar (i : Nat) : M D := fun S => match S.sl[i]? with
  | some (.sh d) => .ok d S
  | some (.ow d) => .ok d (share S i d)
  | _ => .stuck
def mPeek (i : Nat) : M D := fun S => match S.sl[i]? with
  | some (.sh d) => .ok d S
  | some (.ow d) => .ok d S
  | _ => .stuck
def mArgV (i : Nat) : M Arg := fun S => match S.sl[i]? with
  | some (.sh d) => .ok (.d d) S
  | some (.ow d) => .ok (.d d) (share S i d)
  | some .bx => .ok .box S
  | _ => .stuck
def mArgE (m : M D) : M Arg := m.bind fun d => mC (.d d)
def mOp2 (f : D → D → Option D) (ma mb : M D) : M D := ma.bind fun x => mb.bind fun y => ofO (f x y)
def mOp1 (f : D → Option D) (ma : M D) : M D := ma.bind fun x => ofO (f x)
def mCmp (f : D → D → Option Bool) (ma mb : M D) : M Bool := ma.bind fun x => mb.bind fun y => ofO (f x y)
def mBl (m : M Bool) : M D := m.bind fun k => mC (.bool k)
def mChain (f f' : D → D → Option Bool) (ma mb mc : M D) : M Bool := ma.bind fun x => mb.bind fun y => (ofO (f x y)).bind fun k => if k then mc.bind fun z => ofO (f' y z) else mC false
def mTru (m : M D) : M Bool := m.bind fun x => ofO (truD x)
def mAndV (ma mb : M D) : M D := ma.bind fun x => (ofO (truD x)).bind fun k => if k then mb else mC x
def mOrV (ma mb : M D) : M D := ma.bind fun x => (ofO (truD x)).bind fun k => if k then mC x else mb
def mNotV (ma : M D) : M D := ma.bind fun x => (ofO (truD x)).bind fun k => mC (.bool (!k))
def mAndT (ma mb : M Bool) : M Bool := ma.bind fun k => if k then mb else mC false
def mOrT (ma mb : M Bool) : M Bool := ma.bind fun k => if k then mC true else mb
def mNotT (ma : M Bool) : M Bool := ma.bind fun k => mC (!k)
def mIf {α : Type} (c : M Bool) (ma mb : M α) : M α := c.bind fun k => if k then ma else mb
def mSeq {α : Type} : List (M α) → M (List α)
  | [] => mC []
  | m :: ms => m.bind fun a => (mSeq ms).bind fun as => mC (a :: as)
def mTup (ms : List (M D)) : M D := (mSeq ms).bind fun ds => if sumOk ds.length then mC (.tuple ds) else fun _ => .stuck
def mLst (ms : List (M D)) : M D := (mSeq ms).bind fun ds => if sumOk ds.length then mC (.list ds) else fun _ => .stuck
def mCut (m : M D) (lo hi : M (Option Int)) : M D := m.bind fun x => lo.bind fun l => hi.bind fun h => ofO (cutD x l h)
def mPart (m : M D) : M (Option Int) := m.bind fun x => match x with
  | .int i => mC (some i)
  | _ => fun _ => .stuck

section
variable {X : Cx} {g : Gx} {W : WX}
theorem jb_of {e : Expr} {m : M D} (h : JE X g W e m) : JB X g W e m := PE.of h fun σ H Q ⟨b, F, S, x, q⟩ => ⟨b, F, S, x, by
  cases z : m S with
  | ok a S' => rw [z] at q; exact fun v F' H' x' s f r => q v F' H' x' s f (.inl r)
  | exc c d bx' => rw [z] at q; exact q
  | stuck => rw [z] at q; exact q⟩
theorem mVar_ok {i : Nat} {σ : L2.St} {H : Hp} {Q : VK} (h : tG X.K g W (repE X.K) (mVar i) σ H Q) : tVar i σ H Q := by
  obtain ⟨b, F, S, x, q⟩ := h
  unfold mVar at q
  split at q
  · rename_i d e
    obtain ⟨v, e1, h1⟩ := x.get e
    exact ⟨v, e1, q v F H x (Same.refl _) (Fr.refl _ _) h1⟩
  · rename_i d e
    obtain ⟨a, e1, h1⟩ := x.getO e
    obtain ⟨vs, hv⟩ := own_ne_nt h1
    obtain ⟨x2, s2, d2⟩ := x.share e e1 h1 hv
    exact ⟨_, e1, q _ _ H x2 s2 (Fr.refl _ _) d2⟩
  · exact q.elim
theorem je_var {i : Nat} {x : Str} {pos : Pos} (h : PE X (.Name x pos) (tVar i)) : JE X g W (.Name x pos) (mVar i) := PE.of h fun _ _ _ => mVar_ok
theorem jb_peek {i : Nat} {x : Str} {pos : Pos} (h : PE X (.Name x pos) (tVar i)) : JB X g W (.Name x pos) (mPeek i) := PE.of h fun σ H Q ⟨b, F, S, x, q⟩ => by
  unfold mPeek at q
  split at q
  · rename_i d e
    obtain ⟨v, e1, h1⟩ := x.get e
    exact ⟨v, e1, q v F H x (Same.refl _) (Fr.refl _ _) (.inl h1)⟩
  · rename_i d e
    obtain ⟨a, e1, _, _, nb, vs, ds, e2, e3, e4⟩ := x.getO e
    exact ⟨_, e1, q _ F H x (Same.refl _) (Fr.refl _ _) (.inr ⟨a, vs, ds, rfl, e2, nb, e3, e4⟩)⟩
  · exact q.elim
theorem ja_var {i : Nat} {x : Str} {pos : Pos} (h : PE X (.Name x pos) (tVar i)) : PE X (.Name x pos) (tG X.K g W (repA X.K) (mArgV i)) := PE.of h fun σ H Q ⟨b, F, S, x, q⟩ => by
  unfold mArgV at q
  split at q
  · rename_i d e
    obtain ⟨v, e1, h1⟩ := x.get e
    exact ⟨v, e1, q v F H x (Same.refl _) (Fr.refl _ _) h1⟩
  · rename_i d e
    obtain ⟨a, e1, h1⟩ := x.getO e
    obtain ⟨vs, hv⟩ := own_ne_nt h1
    obtain ⟨x2, s2, d2⟩ := x.share e e1 h1 hv
    exact ⟨_, e1, q _ _ H x2 s2 (Fr.refl _ _) d2⟩
  · rename_i e
    obtain ⟨e1, e2⟩ := x.getB e
    exact ⟨_, e2, q _ F H x (Same.refl _) (Fr.refl _ _) ⟨e1, rfl⟩⟩
  · exact q.elim
theorem ja_of {e : Expr} {m : M D} (h : JE X g W e m) : PE X e (tG X.K g W (repA X.K) (mArgE m)) := PE.of h fun σ H Q ⟨b, F, S, x, q⟩ =>
  bindP x q fun a S1 v F1 H1 x1 s1 f1 r1 q1 => q1 v F1 H1 x1 (Same.refl _) (Fr.refl _ _) r1
theorem je_const {e : Expr} {v : V} {d : D} (h : PE X e (tC v)) (r : ∀ F, Dp X.K F v d) : JE X g W e (mC d) := PE.of h fun σ H Q ⟨b, F, S, x, q⟩ => q v F H x (Same.refl _) (Fr.refl _ _) (r F)
theorem je_op2 {a c : Expr} {op : Operator} {pos : Pos} {ma mb : M D} (ha : JB X g W a ma) (hb : JB X g W c mb) : JE X g W (.BinOp a op c pos) (mOp2 (binD op) ma mb) :=
  PE.of (pe_op (op_binD (g := g) op) ha hb) fun σ H Q ⟨b, F, S, x, q⟩ => bindP x q fun d1 S1 v F1 H1 x1 s1 f1 r1 q1 => bindP x1 q1 fun d2 S2 u F2 H2 x2 s2 f2 r2 q2 => by
    obtain ⟨d, e, q3⟩ := ofO_post q2
    exact ⟨b, F2, S2, σ, d1, d2, d, x2, brep_mono s2 f2 r1, r2, e, fun w F' H' y1 y2 => q3 w F' H' (x2.call y1) y1.f0 y1.ext y2⟩
theorem je_neg {a : Expr} {pos : Pos} {ma : M D} (ha : JB X g W a ma) : JE X g W (.UnaryOp .USub a pos) (mOp1 negD ma) :=
  PE.of (pe_un (un_negD (g := g)) ha) fun σ H Q ⟨b, F, S, x, q⟩ => bindP x q fun d1 S1 v F1 H1 x1 s1 f1 r1 q1 => by
    obtain ⟨d, e, q3⟩ := ofO_post q1
    exact ⟨b, F1, S1, σ, d1, d, x1, r1, e, fun w F' H' y1 y2 => q3 w F' H' (x1.call y1) y1.f0 y1.ext y2⟩
/-- a comparison, as a value and as a test -/
theorem cmp_read {f : D → D → Option Bool} {ma mb : M D} {σ : L2.St} {H : Hp} {Q : Bool → Hp → Prop} {T : VK} (hT : ∀ k H', Q k H' → T (.bl k) H') (h : tG X.K g W repT (mCmp f ma mb) σ H Q) :
    tOp (r2b X.K g f) (tG X.K g W (repB X.K) ma) (tG X.K g W (repB X.K) mb) σ H T := by
  obtain ⟨b, F, S, x, q⟩ := h
  exact bindP x q fun d1 S1 v F1 H1 x1 s1 f1 r1 q1 => bindP x1 q1 fun d2 S2 u F2 H2 x2 s2 f2 r2 q2 => by
    obtain ⟨k, e, q3⟩ := ofO_post q2
    exact ⟨b, F2, S2, σ, d1, d2, k, x2, brep_mono s2 f2 r1, r2, e, hT _ _ (q3 k F2 H2 x2 (Same.refl _) (Fr.refl _ _) rfl)⟩
theorem mBl_read {m : M Bool} {σ : L2.St} {H : Hp} {Q : VK} (h : tG X.K g W (repE X.K) (mBl m) σ H Q) : tG X.K g W repT m σ H fun k H' => Q (.bl k) H' := by
  obtain ⟨b, F, S, x, q⟩ := h
  exact bindP x q fun k S1 v F1 H1 x1 s1 f1 r1 q1 => by
    cases (show v = k from r1)
    exact q1 (.bl k) F1 H1 x1 (Same.refl _) (Fr.refl _ _) (.bl k)
theorem jt_cmp {a c : Expr} {op : CmpOp} {pos : Pos} {ma mb : M D} (hu : X.A.units + 65 < cLine) (ha : JB X g W a ma) (hb : JB X g W c mb) (hm : behindInMarks op c = false) : JT X g W (.Compare a [op] [c] pos) (mCmp (cmpD op) ma mb) :=
  PT.of (pt_cmpR (op_cmpD (g := g) hu op) ha hb hm) fun σ H Q h => cmp_read (fun k H' q => ⟨k, rfl, q⟩) h
theorem je_cmp {a c : Expr} {op : CmpOp} {pos : Pos} {ma mb : M D} (hu : X.A.units + 65 < cLine) (ha : JB X g W a ma) (hb : JB X g W c mb) (hm : behindInMarks op c = false) : JE X g W (.Compare a [op] [c] pos) (mBl (mCmp (cmpD op) ma mb)) :=
  PE.of (pe_cmpR (op_cmpD (g := g) hu op) ha hb hm) fun σ H Q h => cmp_read (fun k H' q => q) (mBl_read h)
theorem chain_read {f f' : D → D → Option Bool} {ma mb mc : M D} {σ : L2.St} {H : Hp} {Q : Bool → Hp → Prop} {T : VK} (hT : ∀ k H', Q k H' → T (.bl k) H') (h : tG X.K g W repT (mChain f f' ma mb mc) σ H Q) :
    tChain (r2b X.K g f) (r2b X.K g f') (tG X.K g W (repB X.K) ma) (tG X.K g W (repB X.K) mb) (tG X.K g W (repB X.K) mc) σ H T := by
  obtain ⟨b, F, S, x, q⟩ := h
  refine bindP x q fun d1 S1 v F1 H1 x1 s1 f1 r1 q1 => bindP x1 q1 fun d2 S2 u F2 H2 x2 s2 f2 r2 q2 => ?_
  cases e : f d1 d2 with
  | none => rw [e] at q2; exact q2.elim
  | some k =>
    rw [e] at q2
    refine ⟨b, F2, S2, σ, d1, d2, k, x2, brep_mono s2 f2 r1, r2, e, k, rfl, ?_⟩
    cases k with
    | false => exact iteF (hT _ _ (q2 false F2 H2 x2 (Same.refl _) (Fr.refl _ _) rfl))
    | true =>
      refine iteT (bindP x2 (show PostG X.K g W σ b F2 H2 repT Q ((mc S2).bind fun z => ofO (f' d2 z)) from q2) fun d3 S3 w F3 H3 x3 s3 f3 r3 q3 => ?_)
      obtain ⟨k', e', q4⟩ := ofO_post q3
      exact ⟨b, F3, S3, σ, d2, d3, k', x3, brep_mono s3 f3 r2, r3, e', hT _ _ (q4 k' F3 H3 x3 (Same.refl _) (Fr.refl _ _) rfl)⟩
theorem jt_chain {a c e : Expr} {op op' : CmpOp} {pos : Pos} {ma mb mc : M D} (hu : X.A.units + 65 < cLine) (ha : JB X g W a ma) (hb : JB X g W c mb) (hc : JB X g W e mc) (hm : lastMarks [op, op'] [c, e] = false) :
    JT X g W (.Compare a [op, op'] [c, e] pos) (mChain (cmpD op) (cmpD op') ma mb mc) :=
  PT.of (pt_chain (op_cmpD (g := g) hu op) (op_cmpD (g := g) hu op') ha hb hc hm) fun σ H Q h => chain_read (fun k H' q => ⟨k, rfl, q⟩) h
theorem je_chain {a c e : Expr} {op op' : CmpOp} {pos : Pos} {ma mb mc : M D} (hu : X.A.units + 65 < cLine) (ha : JB X g W a ma) (hb : JB X g W c mb) (hc : JB X g W e mc) (hm : lastMarks [op, op'] [c, e] = false) :
    JE X g W (.Compare a [op, op'] [c, e] pos) (mBl (mChain (cmpD op) (cmpD op') ma mb mc)) :=
  PE.of (pe_chain (op_cmpD (g := g) hu op) (op_cmpD (g := g) hu op') ha hb hc hm) fun σ H Q h => chain_read (fun k H' q => q) (mBl_read h)
/-! truth -/
theorem jt_tru {a : Expr} {ma : M D} (ha : JB X g W a ma) (he : ∀ whole, isTrue a X.env whole = (do let v ← whole; standAt a.pos; holding [v] (truthy v))) : JT X g W a (mTru ma) :=
  PT.of (pt_truth ha he) fun σ H Q ⟨b, F, S, x, q⟩ => bindP x q fun d S1 v F1 H1 x1 s1 f1 r1 q1 => by
    obtain ⟨k, e, q3⟩ := ofO_post q1
    exact ⟨k, tru_V x1 r1 e, q3 k F1 H1 x1 (Same.refl _) (Fr.refl _ _) rfl⟩
theorem je_andV {a c : Expr} {rest : List Expr} {pos : Pos} {ma mb : M D} (ha : JE X g W a ma) (hb : JE X g W (.BoolOp .And (c :: rest) pos) mb) : JE X g W (.BoolOp .And (a :: c :: rest) pos) (mAndV ma mb) :=
  PE.of (pe_andT ha hb) fun σ H Q ⟨b, F, S, x, q⟩ => bindP x q fun d S1 v F1 H1 x1 s1 f1 r1 q1 => by
    cases e : truD d with
    | none => rw [e] at q1; exact q1.elim
    | some k =>
      rw [e] at q1
      refine ⟨k, tru_V x1 (.inl r1) e, ?_⟩
      cases k with
      | false => exact iteF (q1 v F1 H1 x1 (Same.refl _) (Fr.refl _ _) r1)
      | true => exact iteT ⟨b, F1, S1, x1, q1⟩
theorem je_orV {a c : Expr} {rest : List Expr} {pos : Pos} {ma mb : M D} (ha : JE X g W a ma) (hb : JE X g W (.BoolOp .Or (c :: rest) pos) mb) : JE X g W (.BoolOp .Or (a :: c :: rest) pos) (mOrV ma mb) :=
  PE.of (pe_orT ha hb) fun σ H Q ⟨b, F, S, x, q⟩ => bindP x q fun d S1 v F1 H1 x1 s1 f1 r1 q1 => by
    cases e : truD d with
    | none => rw [e] at q1; exact q1.elim
    | some k =>
      rw [e] at q1
      refine ⟨k, tru_V x1 (.inl r1) e, ?_⟩
      cases k with
      | true => exact iteT (q1 v F1 H1 x1 (Same.refl _) (Fr.refl _ _) r1)
      | false => exact iteF ⟨b, F1, S1, x1, q1⟩
theorem je_notV {a : Expr} {pos : Pos} {ma : M D} (ha : JB X g W a ma) : JE X g W (.UnaryOp .Not a pos) (mNotV ma) :=
  PE.of (pe_notT ha) fun σ H Q ⟨b, F, S, x, q⟩ => bindP x q fun d S1 v F1 H1 x1 s1 f1 r1 q1 => by
    cases e : truD d with
    | none => rw [e] at q1; exact q1.elim
    | some k =>
      rw [e] at q1
      exact ⟨k, tru_V x1 r1 e, q1 (.bl (!k)) F1 H1 x1 (Same.refl _) (Fr.refl _ _) (.bl _)⟩
theorem jt_not {a : Expr} {pos : Pos} {ma : M Bool} (ha : JT X g W a ma) : JT X g W (.UnaryOp .Not a pos) (mNotT ma) :=
  PT.of (pt_not ha) fun σ H Q ⟨b, F, S, x, q⟩ => bindP x q fun k S1 v F1 H1 x1 s1 f1 r1 q1 => by
    cases (show v = k from r1)
    exact q1 (!k) F1 H1 x1 (Same.refl _) (Fr.refl _ _) rfl
theorem jw_and1 {a : Expr} {pos : Pos} {ma : M Bool} (ha : JT X g W a ma) : JW X g W (.BoolOp .And [a] pos) ma := pw_and1 ha
theorem jw_or1 {a : Expr} {pos : Pos} {ma : M Bool} (ha : JT X g W a ma) : JW X g W (.BoolOp .Or [a] pos) ma := pw_or1 ha
theorem jw_and {a c : Expr} {rest : List Expr} {pos : Pos} {ma mb : M Bool} (ha : JT X g W a ma) (hb : JW X g W (.BoolOp .And (c :: rest) pos) mb) : JW X g W (.BoolOp .And (a :: c :: rest) pos) (mAndT ma mb) :=
  PW.of (pw_and ha hb) fun σ H Q ⟨b, F, S, x, q⟩ => bindP x q fun k S1 v F1 H1 x1 s1 f1 r1 q1 => by
    cases (show v = k from r1)
    cases k with
    | false => exact iteF (q1 false F1 H1 x1 (Same.refl _) (Fr.refl _ _) rfl)
    | true => exact iteT ⟨b, F1, S1, x1, q1⟩
theorem jw_or {a c : Expr} {rest : List Expr} {pos : Pos} {ma mb : M Bool} (ha : JT X g W a ma) (hb : JW X g W (.BoolOp .Or (c :: rest) pos) mb) : JW X g W (.BoolOp .Or (a :: c :: rest) pos) (mOrT ma mb) :=
  PW.of (pw_or ha hb) fun σ H Q ⟨b, F, S, x, q⟩ => bindP x q fun k S1 v F1 H1 x1 s1 f1 r1 q1 => by
    cases (show v = k from r1)
    cases k with
    | true => exact iteT (q1 true F1 H1 x1 (Same.refl _) (Fr.refl _ _) rfl)
    | false => exact iteF ⟨b, F1, S1, x1, q1⟩
theorem pe_if {rep : Rp D V} {c a e : Expr} {pos : Pos} {mc : M Bool} {ma mb : M D} (hc : JT X g W c mc) (ha : PE X a (tG X.K g W rep ma)) (hb : PE X e (tG X.K g W rep mb)) : PE X (.IfExp c a e pos) (tG X.K g W rep (mIf mc ma mb)) :=
  PE.of (pe_ifExp hc ha hb) fun σ H Q ⟨b, F, S, x, q⟩ => bindP x q fun k S1 v F1 H1 x1 s1 f1 r1 q1 => by
    cases (show v = k from r1)
    cases k with
    | true => exact iteT ⟨b, F1, S1, x1, q1⟩
    | false => exact iteF ⟨b, F1, S1, x1, q1⟩
/-! argument lists, displays -/
theorem ja_nil {α : Type} {rep : Rp α V} : PA X [] (tG X.K g W (repL rep) (mSeq [])) := PA.of pa_nil fun σ H Q ⟨b, F, S, x, q⟩ => q [] F H x (Same.refl _) (Fr.refl _ _) ⟨rfl, fun i v a e _ => by simp at e⟩
theorem ja_cons {α : Type} {rep : Rp α V} (mo : Mono rep) {e : Expr} {es : List Expr} {m : M α} {ms : List (M α)} (he : PE X e (tG X.K g W rep m)) (hs : PA X es (tG X.K g W (repL rep) (mSeq ms)))
    (hst : starEach (e :: es) X.env = (false, eval e X.env) :: starEach es X.env) : PA X (e :: es) (tG X.K g W (repL rep) (mSeq (m :: ms))) :=
  PA.of (pa_cons he hs hst) fun σ H Q ⟨b, F, S, x, q⟩ => bindP x q fun a S1 v F1 H1 x1 s1 f1 r1 q1 => bindP x1 q1 fun as S2 vs F2 H2 x2 s2 f2 r2 q2 => by
    refine q2 (v :: vs) F2 H2 x2 (Same.refl _) (Fr.refl _ _) ⟨by simp [r2.1], fun i w a' e1 e2 => ?_⟩
    cases i with
    | zero =>
      simp at e1 e2
      subst e1
      subst e2
      exact mo b _ _ _ _ _ _ s2 f2 r1
    | succ i => exact r2.2 i w a' (by simpa using e1) (by simpa using e2)
theorem je_tup {es : List Expr} {k : Nat} {pos : Pos} {ms : List (M D)} (h : PA X es (tG X.K g W (repL (repE X.K)) (mSeq ms))) : JE X g W (.Tuple es k pos) (mTup ms) :=
  PE.of (pe_tup h) fun σ H Q ⟨b, F, S, x, q⟩ => bindP x q fun ds S1 vs F1 H1 x1 s1 f1 r1 q1 => by
    split at q1
    · rename_i hz
      refine ⟨by rw [r1.1]; exact sumOk_le hz, fun p hp => ?_⟩
      obtain ⟨y1, y2⟩ := x1.tup hp (repL_dpAll r1)
      exact q1 _ _ _ (x1.call y1) y1.f0 y1.ext y2
    · exact q1.elim
theorem je_lst {es : List Expr} {pos : Pos} {ms : List (M D)} (h : PA X es (tG X.K g W (repL (repE X.K)) (mSeq ms))) : JE X g W (.List es pos) (mLst ms) :=
  PE.of (pe_lst h) fun σ H Q ⟨b, F, S, x, q⟩ => bindP x q fun ds S1 vs F1 H1 x1 s1 f1 r1 q1 => by
    split at q1
    · rename_i hz
      refine ⟨by rw [r1.1]; exact sumOk_le hz, fun p hp => ?_⟩
      obtain ⟨y1, y2⟩ := x1.lst hp (repL_dpAll r1)
      exact q1 _ _ _ (x1.call y1) y1.f0 y1.ext y2
    · exact q1.elim
/-! subscripts -/
theorem je_ix {a c : Expr} {pos : Pos} {ma mb : M D} (ha : JB X g W a ma) (hb : JB X g W c mb) (hs : PlainIx c) : JE X g W (.Subscript a c pos) (mOp2 ixD ma mb) :=
  PE.of (pe_ix (ix_D (g := g)) ha hb hs) fun σ H Q ⟨b, F, S, x, q⟩ => bindP x q fun d1 S1 v F1 H1 x1 s1 f1 r1 q1 => bindP x1 q1 fun d2 S2 u F2 H2 x2 s2 f2 r2 q2 => by
    obtain ⟨d, e, q3⟩ := ofO_post q2
    exact ⟨b, F2, S2, σ, d1, d2, d, x2, brep_mono s2 f2 r1, r2, e, fun w F' H' y1 y2 => q3 w F' H' (x2.call y1) y1.f0 y1.ext y2⟩
def repO : Rp (Option Int) (Option Int) := fun _ _ _ k k' => k = k'
theorem jo_none : PO X none (tG X.K g W repO (mC none)) := by
  refine ⟨fun pins s σ H Q I h => ?_⟩
  obtain ⟨b, F, S, x, q⟩ := h
  exact (po_none (X := X)).run pins s σ H Q I (q none F H x (Same.refl _) (Fr.refl _ _) rfl)
theorem jo_some {e : Expr} {m : M D} (h : JB X g W e m) : PO X (some e) (tG X.K g W repO (mPart m)) := by
  refine ⟨fun pins s σ H Q I h' => (po_some h).run pins s σ H Q I ?_⟩
  obtain ⟨b, F, S, x, q⟩ := h'
  refine bindP x q fun d S1 v F1 H1 x1 s1 f1 r1 q1 => ?_
  split at q1
  · have := BRep.int_ (show BRep X.K b F1 H1 v _ from r1)
    exact ⟨_, this, q1 _ F1 H1 x1 (Same.refl _) (Fr.refl _ _) rfl⟩
  · exact q1.elim
theorem je_cut {a : Expr} {lo hi : Option Expr} {pos p2 : Pos} {ma : M D} {ml mh : M (Option Int)} (ha : JB X g W a ma) (hl : PO X lo (tG X.K g W repO ml)) (hh : PO X hi (tG X.K g W repO mh)) :
    JE X g W (.Subscript a (.Slice lo hi none p2) pos) (mCut ma ml mh) :=
  PE.of (pe_slice (sl_D (g := g)) ha hl hh) fun σ H Q ⟨b, F, S, x, q⟩ => bindP x q fun d1 S1 v F1 H1 x1 s1 f1 r1 q1 => bindP x1 q1 fun l S2 l' F2 H2 x2 s2 f2 r2 q2 => bindP x2 q2 fun h S3 h' F3 H3 x3 s3 f3 r3 q3 => by
    cases (show l' = l from r2)
    cases (show h' = h from r3)
    obtain ⟨d, e, q4⟩ := ofO_post q3
    exact ⟨b, F3, S3, σ, d1, d, x3, brep_mono s3 f3 (brep_mono s2 f2 r1), e, fun w F' H' y1 y2 => q4 w F' H' (x3.call y1) y1.f0 y1.ext y2⟩
/-! built-ins by their name -/
theorem je_c1 {x : Str} {p pos : Pos} {e : Expr} {ma : M D} {f : D → Option D} (h : ∀ t, PA X [e] t → PE X (.Call (.Name x p) [e] [] pos) (tCB (c1 X.K g f) t)) (ha : PA X [e] (tG X.K g W (repL (repB X.K)) (mSeq [ma]))) : JE X g W (.Call (.Name x p) [e] [] pos) (mOp1 f ma) :=
  PE.of (h _ ha) fun σ H Q ⟨b, F, S, x, q⟩ => by
    refine ⟨b, F, S, x, ?_⟩
    show PostG _ _ _ _ _ _ _ _ _ ((ma S).bind fun a S' => .ok [a] S')
    cases z : ma S with
    | stuck => unfold mOp1 M.bind at q; rw [z] at q; exact q.elim
    | exc c d bx' => unfold mOp1 M.bind at q; rw [z] at q; exact q
    | ok d1 S1 =>
      unfold mOp1 M.bind at q
      rw [z] at q
      intro vs F1 H1 x1 s1 f1 r1
      obtain ⟨d, e, q3⟩ := ofO_post (S := S1) q
      obtain ⟨v, rfl⟩ : ∃ v, vs = [v] := by
        have := r1.1
        match vs, this with
        | [v], _ => exact ⟨v, rfl⟩
      exact ⟨b, F1, S1, σ, v, d1, d, rfl, x1, r1.2 0 v d1 rfl rfl, e, fun w F' H' y1 y2 => q3 w F' H' (x1.call y1) (s1.trans y1.f0) (f1.trans y1.ext) y2⟩
theorem je_c2 {x : Str} {p pos : Pos} {e e' : Expr} {ma mb : M D} {f : D → D → Option D} (h : ∀ t, PA X [e, e'] t → PE X (.Call (.Name x p) [e, e'] [] pos) (tCB (c2 X.K g f) t)) (ha : PA X [e, e'] (tG X.K g W (repL (repB X.K)) (mSeq [ma, mb]))) : JE X g W (.Call (.Name x p) [e, e'] [] pos) (mOp2 f ma mb) :=
  PE.of (h _ ha) fun σ H Q ⟨b, F, S, x, q⟩ => by
    refine ⟨b, F, S, x, ?_⟩
    show PostG _ _ _ _ _ _ _ _ _ ((ma S).bind fun a S' => ((mb S').bind fun a' S'' => R.ok [a'] S'').bind fun as S'' => .ok (a :: as) S'')
    cases z : ma S with
    | stuck => unfold mOp2 M.bind at q; rw [z] at q; exact q.elim
    | exc c d bx' => unfold mOp2 M.bind at q; rw [z] at q; exact q
    | ok d1 S1 =>
      unfold mOp2 M.bind at q
      rw [z] at q
      show PostG _ _ _ _ _ _ _ _ _ (((mb S1).bind fun a' S'' => R.ok [a'] S'').bind fun as S'' => .ok (d1 :: as) S'')
      have q : PostG X.K g W σ b F H (repE X.K) Q ((mb S1).bind fun y => ofO (f d1 y)) := q
      cases z2 : mb S1 with
      | stuck => rw [z2] at q; exact q.elim
      | exc c d bx' => rw [z2] at q; exact q
      | ok d2 S2 =>
        rw [z2] at q
        intro vs F1 H1 x1 s1 f1 r1
        obtain ⟨d, e, q3⟩ := ofO_post (S := S2) q
        obtain ⟨v, w, rfl⟩ : ∃ v w, vs = [v, w] := by
          have := r1.1
          match vs, this with
          | [v, w], _ => exact ⟨v, w, rfl⟩
        exact ⟨b, F1, S2, σ, v, w, d1, d2, d, rfl, x1, r1.2 0 v d1 rfl rfl, r1.2 1 w d2 rfl rfl, e, fun w F' H' y1 y2 => q3 w F' H' (x1.call y1) (s1.trans y1.f0) (f1.trans y1.ext) y2⟩
end
end Gl

set_option maxRecDepth 100000
set_option maxHeartbeats 1000000
/-! The general layer, part D: names, calls, what a def promises. -/
namespace Gl
open PySem PySem.Spec PyProof.Rows L2

def mStuck {α : Type} : M α := fun _ => .stuck
/-- a def of the text: its level, how many parameters, what it computes -/
structure FnE where
  lv : Nat
  gr : Bool
  ar : Nat
  fm : FM
/-- what the compiler knows -/
structure Ct where
  N : List Str
  sc : Scope
  fn : Str → Option FnE
  ks : Str → Option D
  xs : Str → Option Nat
  lv : Nat
  own : Str → Bool
  gr : Bool
  told : Str → Option (Nat → Option Str)
def ownOf (s : Scope) (x : Str) : Bool := match s.names.lookup x with
  | some .local => true
  | some .cell => true
  | _ => false
abbrev Ct.blk (c : Ct) (s : Scope) : Ct := { c with sc := relS s c.sc, own := ownOf s, told := fun _ => none }

/-- what a def promises -/
def spG (K : PySem.W.Frag) (g : Gx) (m : FM) (n : Nat) : Sp := fun vs H Q E => vs.length = n ∧ ∃ (b : Bs) (as : List Arg) (bx : Bx), b.H0 = H ∧ SR K g b b.F0 ⟨[], bx⟩ [] H ∧ repL (repA K) b b.F0 H vs as ∧
  match m as bx with
  | .ret d bx' => ∀ v F' H', SR K g b F' ⟨[], bx'⟩ [] H' → Dp K F' v d → Q v H'
  | .exc c d bx' => ∀ (a C : Addr) (f : Str) (v : V) (F' H' : Hp), g.cl c = some (C, f) → SR K g b F' ⟨[], bx'⟩ [] H' → H' a = some (.xd [(f, v)]) → Dp K F' v d → E (.ref C) (some a) H'
  | .stuck => False
structure FnG (P : Program) (w : World) (K : PySem.W.Frag) (mg : Str → Option Value) (base : Heap) (g : Gx) (k : Nat) (gr : Bool) (f : Addr) (n : Nat) (m : FM) : Prop where
  run : ∀ (A : Around) (outer : List Env) (s : Shared) (H : Hp) (us : List Value) (vs : List V) (Q : VK) (E : XK), Room k A → (gr = true → A.guards = some []) → Env0 P w K mg base A outer s H → Vals vs us → spG K g m n vs H Q E →
    codeAny (model P w) A (.call (.ref f) ⟨us, []⟩) (CR (L2.CX P w) outer P w H s Q E) s
theorem FnG.mono {P : Program} {w : World} {K : PySem.W.Frag} {mg : Str → Option Value} {base : Heap} {g : Gx} {j k : Nat} {gr : Bool} {f : Addr} {n : Nat} {m : FM} (F : FnG P w K mg base g j gr f n m) (h : j ≤ k) : FnG P w K mg base g k gr f n m :=
  ⟨fun A outer s H us vs Q E hr => F.run A outer s H us vs Q E (hr.mono h)⟩
/-- C(e) makes an exception with one field -/
def tEx (C : Addr) (f : Str) (te : TE) : L2.St → Hp → XK → Prop := fun σ H Q => te σ H fun v H1 => ∀ a, H1 a = none → Q (.ref C) (some a) (upd H1 a (.xd [(f, v)]))
structure ExG (P : Program) (w : World) (K : PySem.W.Frag) (mg : Str → Option Value) (base : Heap) (g : Gx) (k : Nat) (x : Str) (n : Nat) : Prop where
  make : ∃ (C : Addr) (f : Str), g.cl n = some (C, f) ∧ ∀ (X : Cx) (te : TE) (e : Expr) (p pos : Pos), X.prog = P → X.w = w → X.K = K → X.mg = mg → X.base = base → Room k X.A → L2.Gl X x → PE X e te →
    starEach [e] X.env = (false, eval e X.env) :: starEach [] X.env → (backTo pos (starEach [] X.env)).any (·.1) = false → PMk X (.Call (.Name x p) [e] [] pos) (tEx C f te)
/-- the built-ins that are named -/
def blts : List Str := ["len", "abs", "int", "all", "any", "sum", "tuple", "list", "max", "min", "repr", "range", "zip", "enumerate", "isinstance", "bool", "str", "set", "sorted", "reversed", "dict", "ord", "chr", "divmod", "pow"]
structure Glo (P : Program) (w : World) (K : PySem.W.Frag) (mg : Str → Option Value) (base : Heap) (g : Gx) (fn : Str → Option FnE) (ks : Str → Option D) (xs : Str → Option Nat) : Prop where
  fn : ∀ x e, fn x = some e → ∃ f, mg x = some (.ref f) ∧ PySem.W.keepIn K (.ref f) = true ∧ FnG P w K mg base g e.lv e.gr f e.ar e.fm
  ks : ∀ x d, ks x = some d → ∃ v u, mg x = some u ∧ RelV v u ∧ ∀ F, Dp K F v d
  xs : ∀ x n, xs x = some n → ExG P w K mg base g 2 x n
  bl : ∀ x, x ∈ blts → mg x = none
/-- what is known of a context -/
structure Fx (X : Cx) (g : Gx) (W : WX) (c : Ct) : Prop where
  glo : Glo X.prog X.w X.K X.mg X.base g c.fn c.ks c.xs
  N : X.N = c.N
  nd : c.N.Nodup
  sc : X.env.scope = c.sc
  calm : X.calm = true
  gd : c.gr = true → X.A.guards = some []
  room : Room c.lv X.A
  hf : ∀ x, c.own x = true → Loc c.sc x → X.fn x = true ∨ c.sc.names.lookup x = some .local
  tk : Takes X W
/-- a star is nowhere -/
def noStar : List Expr → Bool
  | [] => true
  | .Starred .. :: _ => false
  | _ :: r => noStar r
theorem star_cons {e : Expr} {es : List Expr} {env : Env} (h : noStar (e :: es) = true) : starEach (e :: es) env = (false, eval e env) :: starEach es env := by
  cases e <;> first | rfl | (exact absurd h (by simp [noStar]))
theorem noStar_tail {e : Expr} {es : List Expr} (h : noStar (e :: es) = true) : noStar es = true := by
  cases e <;> first | exact h | (exact absurd h (by simp [noStar]))
theorem star_any {pos : Pos} {env : Env} : ∀ {es : List Expr}, noStar es = true → (backTo pos (starEach es env)).any (·.1) = false
  | [], _ => rfl
  | e :: es, h => by
    rw [star_cons h]
    exact star_any (noStar_tail h)

section
variable {X : Cx} {g : Gx} {W : WX} {c : Ct}
/-- nothing may leave a comprehension's block -/
abbrev noW : WX := fun _ _ _ _ => False
theorem Fx.blk (f : Fx X g W c) (s : Shared) (H : Hp) (scope : Scope) (cl : List (Str × Addr)) (C : Addr) (fp : List Addr) : Fx (X.blk s H scope (compEnvC scope cl C X.env) fp) g noW (c.blk scope) where
  glo := f.glo
  N := f.N
  nd := f.nd
  sc := by
    show relS scope X.env.scope = relS scope c.sc
    rw [f.sc]
  calm := f.calm
  gd := f.gd
  room := f.room
  hf := fun x ho hl => by
    have ho : ownOf scope x = true := ho
    unfold ownOf at ho
    split at ho
    · rename_i e
      exact .inr (lookup_relS_keep (by decide) e)
    · rename_i e
      left
      show (scope.names.lookup x == some .cell) = true
      rw [e]
      rfl
    · cases ho
  tk := fun u s' ⟨_, _, _, _, _, _, _, _, _, _, _, _, _, _, _, _, w⟩ => w.elim
theorem Fx.un (f : Fx X g W c) : X.A.units + 65 < cLine := by
  have := f.room.un
  omega
theorem pe_stuck {α : Type} {e : Expr} {rep : Rp α V} : PE X e (tG X.K g W rep mStuck) := ⟨fun pins s σ H Q I ⟨b, F, S, x, q⟩ => q.elim⟩
theorem pt_stuck {e : Expr} : JT X g W e mStuck := ⟨fun pins s σ H Q I ⟨b, F, S, x, q⟩ => q.elim⟩
theorem pw_stuck {e : Expr} : JW X g W e mStuck := ⟨fun _ pins s σ H Q I ⟨b, F, S, x, q⟩ => q.elim⟩
/-! names -/
def kindC (c : Ct) (x : Str) : Nat := match c.sc.names.lookup x with
  | some .local => 1
  | some .cell => 1
  | some .free => 1
  | some .globalImplicit => 2
  | _ => 0
/-- the slot of a name that is seen -/
def slotC (c : Ct) (x : Str) : Option Nat := if kindC c x = 1 ∧ (x == ("__debug__" : Str)) = false ∧ (x == ("__classdict__" : Str)) = false then c.N.idxOf? x else none
theorem kind_vis {x : Str} (h : kindC c x = 1) : Vis c.sc x := by
  unfold kindC at h
  unfold Vis
  split at h <;> first | (rename_i e; rw [e]; simp; done) | cases h
theorem idx_get {N : List Str} {x : Str} {i : Nat} (h : N.idxOf? x = some i) : N[i]? = some x := by
  unfold List.idxOf? at h
  rw [List.findIdx?_eq_some_iff_getElem] at h
  obtain ⟨hi, e, _⟩ := h
  have e' : N[i] = x := by simpa using e
  rw [List.getElem?_eq_getElem hi, e']
theorem slot_ok {x : Str} {i : Nat} (h : slotC c x = some i) : c.N[i]? = some x ∧ Vis c.sc x ∧ (x == ("__debug__" : Str)) = false ∧ (x == ("__classdict__" : Str)) = false := by
  unfold slotC at h
  split at h
  · rename_i q
    exact ⟨idx_get h, kind_vis q.1, q.2.1, q.2.2⟩
  · cases h
theorem pe_slot (f : Fx X g W c) {x : Str} {i : Nat} {pos : Pos} (h : slotC c x = some i) : PE X (.Name x pos) (tVar i) := by
  obtain ⟨h1, h2, h3, h4⟩ := slot_ok h
  exact pe_var (by rw [f.N]; exact h1) (by rw [f.sc]; exact h2) h3 h4
def isG (c : Ct) (x : Str) : Bool := kindC c x == 2 && !(x == ("__debug__" : Str))
theorem isG_ok (f : Fx X g W c) {x : Str} (h : isG c x = true) : L2.Gl X x ∧ (x == ("__debug__" : Str)) = false := by
  unfold isG at h
  rw [Bool.and_eq_true] at h
  obtain ⟨h1, h2⟩ := h
  refine ⟨?_, by simpa using h2⟩
  have h1 : kindC c x = 2 := by simpa using h1
  show X.env.scope.names.lookup x = _
  rw [f.sc]
  unfold kindC at h1
  split at h1 <;> first | assumption | cases h1
/-- a name for a value -/
def cName (c : Ct) (x : Str) : M D := match slotC c x with
  | some i => mVar i
  | none => if isG c x then (match c.ks x with | some d => mC d | none => mStuck) else mStuck
def cNameB (c : Ct) (x : Str) : M D := match slotC c x with
  | some i => mPeek i
  | none => if isG c x then (match c.ks x with | some d => mC d | none => mStuck) else mStuck
def cNameA (c : Ct) (x : Str) : M Arg := match slotC c x with
  | some i => mArgV i
  | none => if isG c x then (match c.ks x with | some d => mArgE (mC d) | none => mStuck) else mStuck
theorem je_glob (f : Fx X g W c) {x : Str} {d : D} {pos : Pos} (hg : isG c x = true) (hk : c.ks x = some d) : JE X g W (.Name x pos) (mC d) := by
  obtain ⟨v, u, h1, h2, h3⟩ := f.glo.ks x d hk
  obtain ⟨g1, g2⟩ := isG_ok f hg
  exact je_const (pe_glob g1 h1 h2 g2) h3
theorem cName_ok (f : Fx X g W c) {x : Str} {pos : Pos} : JE X g W (.Name x pos) (cName c x) := by
  unfold cName
  split
  · exact je_var (pe_slot f (by assumption))
  · split
    · split
      · exact je_glob f (by assumption) (by assumption)
      · exact pe_stuck
    · exact pe_stuck
theorem cNameB_ok (f : Fx X g W c) {x : Str} {pos : Pos} : JB X g W (.Name x pos) (cNameB c x) := by
  unfold cNameB
  split
  · exact jb_peek (pe_slot f (by assumption))
  · split
    · split
      · exact jb_of (je_glob f (by assumption) (by assumption))
      · exact pe_stuck
    · exact pe_stuck
theorem cNameA_ok (f : Fx X g W c) {x : Str} {pos : Pos} : PE X (.Name x pos) (tG X.K g W (repA X.K) (cNameA c x)) := by
  unfold cNameA
  split
  · exact ja_var (pe_slot f (by assumption))
  · split
    · split
      · exact ja_of (je_glob f (by assumption) (by assumption))
      · exact pe_stuck
    · exact pe_stuck
/-! calls of defs -/
def mCall (e : FnE) (ms : M (List Arg)) : M D := ms.bind fun as S => if as.length = e.ar then (match e.fm as S.bx with
  | .ret d bx' => .ok d { S with bx := bx' }
  | .exc x d bx' => .exc x d bx'
  | .stuck => .stuck) else .stuck
theorem run_fnG {pins : List (Addr × Obj)} {σ : L2.St} {H : Hp} {s : Shared} {Q : VK} {E : XK} {us : List Value} {vs : List V} {k n : Nat} {gr : Bool} {fa : Addr} {m : FM} (F : FnG X.prog X.w X.K X.mg X.base g k gr fa n m) (hr : Room k X.A) (hgd : gr = true → X.A.guards = some [])
    (tk : Takes X W) (hW : ∀ cls d H, E cls d H → W cls d σ H) (I : Inv X pins σ H s) (r : Vals vs us) (h : spG X.K g m n vs H Q E) : wpAny (model X.prog X.w) X.A (call (.ref fa) us) (EP X pins σ Q) X.xe s := by
  refine wpAny_call (codeAny_mono (F.run X.A X.stack s H us vs Q E hr hgd I.env0 r h) fun r s' hq => ?_)
  cases r with
  | error e => exact tk e s' (XE.of_call I (fun cls d H' h => hW cls d H' h) hq)
  | ok fl =>
    cases fl with
    | ret u => exact I.after hq
    | next => exact False.elim hq
    | brk => exact False.elim hq
    | cont => exact False.elim hq
theorem call_read {pins : List (Addr × Obj)} {σ : L2.St} {H : Hp} {s : Shared} {Q : VK} {us : List Value} {vs : List V} {b : Bs} {F : Hp} {S : Sto} {as : List Arg} {k : Nat} {fa : Addr} {e : FnE} (f : Fx X g W c) (Fn : FnG X.prog X.w X.K X.mg X.base g e.lv e.gr fa e.ar e.fm) (hl : e.lv ≤ c.lv) (hgr : e.gr = true → c.gr = true)
    (I : Inv X pins σ H s) (r : Vals vs us) (x : SR X.K g b F S σ H) (ra : repL (repA X.K) b F H vs as)
    (q : PostG X.K g W σ b F H (repE X.K) Q (if as.length = e.ar then (match e.fm as S.bx with | .ret d bx' => R.ok d { S with bx := bx' } | .exc x d bx' => .exc x d bx' | .stuck => .stuck) else .stuck)) :
    wpAny (model X.prog X.w) X.A (call (.ref fa) us) (EP X pins σ Q) X.xe s := by
  split at q
  · rename_i hz
    refine run_fnG (E := fun cls d H' => W cls d σ H') Fn (f.room.mono hl) (fun z => f.gd (hgr z)) f.tk (fun _ _ _ z => z) I r ⟨ra.1.trans hz, b.at F H, as, S.bx, rfl, x.base, ⟨ra.1, fun i v a e1 e2 => ?_⟩, ?_⟩
    · have z := ra.2 i v a e1 e2
      cases a with
      | d y => exact z
      | box => exact z
    · cases em : e.fm as S.bx with
      | ret d bx' =>
        rw [em] at q
        exact fun v F' H' y1 y2 => q v F' H' (x.call y1) y1.f0 y1.ext y2
      | exc n d bx' =>
        rw [em] at q
        exact fun a C fl v F' H' hc y1 y2 y3 => q a C fl v F' H' hc (x.call y1).forget y2 y3
      | stuck =>
        rw [em] at q
        exact q
  · exact q.elim
theorem je_call (f : Fx X g W c) {x : Str} {e : FnE} {p pos : Pos} {a : Expr} {es : List Expr} {ms : M (List Arg)} (hg : isG c x = true) (he : c.fn x = some e) (hl : e.lv ≤ c.lv) (hgr : e.gr = true → c.gr = true) (hs : noStar (a :: es) = true)
    (ha : PA X (a :: es) (tG X.K g W (repL (repA X.K)) ms)) : JE X g W (.Call (.Name x p) (a :: es) [] pos) (mCall e ms) := by
  obtain ⟨fa, h1, h2, h3⟩ := f.glo.fn x e he
  obtain ⟨g1, g2⟩ := isG_ok f hg
  refine ⟨fun pins s σ H Q I h => ?_⟩
  refine wpAny_Call_Name_kw (ld_glob I g1 h1 ?_ g2)
  refine PySem.W.callWith_K (h₀ := X.base) I.ok.mod.kin h2 (thn (ha.run pos pins s σ H (fun vs H1 => ∃ (b : Bs) (F : Hp) (S : Sto) (as : List Arg), SR X.K g b F S σ H1 ∧ repL (repA X.K) b F H1 vs as ∧ PostG X.K g W σ b F H1 (repE X.K) Q
    (if as.length = e.ar then (match e.fm as S.bx with | .ret d bx' => R.ok d { S with bx := bx' } | .exc x d bx' => .exc x d bx' | .stuck => .stuck) else .stuck)) I ?_) fun us s1 ⟨vs, H1, I1, r, q⟩ => ⟨I1.kIn, ?_⟩) (star_cons hs) (star_any (noStar_tail hs))
  · obtain ⟨b, F, S, x, q⟩ := h
    exact bindP x q fun as S1 vs F1 H1 x1 s1 f1 r1 q1 => ⟨b, F1, S1, as, x1, r1, q1⟩
  · obtain ⟨b, F, S, as, x1, ra, q1⟩ := q
    exact call_read (k := 0) f h3 hl hgr I1 r x1 ra q1
theorem je_call0 (f : Fx X g W c) {x : Str} {e : FnE} {p pos : Pos} (hg : isG c x = true) (he : c.fn x = some e) (hl : e.lv ≤ c.lv) (hgr : e.gr = true → c.gr = true) : JE X g W (.Call (.Name x p) [] [] pos) (mCall e (mC [])) := by
  obtain ⟨fa, h1, h2, h3⟩ := f.glo.fn x e he
  obtain ⟨g1, g2⟩ := isG_ok f hg
  refine ⟨fun pins s σ H Q I ⟨b, F, S, y, q⟩ => ?_⟩
  refine wpAny_Call_Name_kw (ld_glob I g1 h1 ?_ g2)
  exact PySem.W.callWith_K0 I.kIn h2 (call_read (us := []) (vs := []) (as := []) (k := 0) f h3 hl hgr I .nil y ⟨rfl, fun i v a e _ => by simp at e⟩ q)
end
end Gl

set_option maxRecDepth 100000
set_option maxHeartbeats 1000000
/-! The general layer, part E: what is walked, targets, statements. -/
namespace Gl
open PySem PySem.Spec PyProof.Rows L2

/-! ### what is walked -/
def YD (K : PySem.W.Frag) (F : Hp) (ds : List D) : Nat → Hp → V → Hp → Prop := fun i H' v H'' => ∃ d, ds[i]? = some d ∧ ((H'' = H' ∧ Dp K F v d) ∨
  ∃ (T : Addr) (x y : V) (dx dy : D), v = .ref T ∧ H' T = none ∧ H'' = upd H' T (.tup [x, y]) ∧ d = .tuple [dx, dy] ∧ Dp K F x dx ∧ Dp K F y dy)
def repIt (K : PySem.W.Frag) : Rp (List D) It := fun _ F _ J ds => Walk J ds.length (fun H' => Same F H') (YD K F ds)
abbrev JI (X : Cx) (g : Gx) (W : WX) (tg it : Expr) (m : M (List D)) : Prop := PI X tg it (tG X.K g W (repIt X.K) m)
def signsD (z : Str) : List D := z.cps.toList.map fun c => .str ⟨#[c]⟩
def itemsOf : D → Option (List D)
  | .list ds => some ds
  | .tuple ds => some ds
  | .str z => some (signsD z)
  | _ => none
def mItems (m : M D) : M (List D) := m.bind fun d => ofO (itemsOf d)
def rangeD (lo c : Int) (n : Nat) : List D := (List.range n).map fun i => .int (lo + (i : Nat) * c)
def in62 (i : Int) : Bool := decide (-(2 ^ 62) ≤ i) && decide (i < 2 ^ 62)
theorem in62_ok {i : Int} (h : in62 i = true) : -(2 ^ 62) ≤ i ∧ i < 2 ^ 62 := by
  unfold in62 at h
  simpa using h
def rangeOf : List D → Option (List D)
  | [.int j] => if in62 j then some (rangeD 0 1 j.toNat) else none
  | [.int i, .int j] => if in62 i && in62 j then some (rangeD i 1 (j - i).toNat) else none
  | [.int i, .int j, .int c] => if c = -1 ∧ in62 i = true ∧ in62 j = true then some (rangeD i (-1) (i - j).toNat) else none
  | _ => none
def mRange (ms : M (List D)) : M (List D) := ms.bind fun ds => ofO (rangeOf ds)
def pairD (x y : D) : D := .tuple [x, y]
def zipOf : List D → Option (List D)
  | [.list xs, .list ys] => some (List.zipWith pairD xs ys)
  | [.tuple xs, .tuple ys] => some (List.zipWith pairD xs ys)
  | _ => none
def mZip (ms : M (List D)) : M (List D) := ms.bind fun ds => ofO (zipOf ds)
def enumL : Nat → List D → List D
  | _, [] => []
  | n, d :: ds => pairD (.int (n : Nat)) d :: enumL (n + 1) ds
def enumOf : List D → Option (List D)
  | [.list xs] => some (enumL 0 xs)
  | _ => none
def mEnum (ms : M (List D)) : M (List D) := ms.bind fun ds => ofO (enumOf ds)
theorem enumL_len : ∀ (ds : List D) (n : Nat), (enumL n ds).length = ds.length
  | [], _ => rfl
  | _ :: ds, n => by rw [enumL, List.length_cons, List.length_cons, enumL_len ds]
theorem enumL_get : ∀ (ds : List D) (n i : Nat), (enumL n ds)[i]? = (ds[i]?).map fun d => pairD (.int ((n + i : Nat) : Int)) d
  | [], _, _ => by simp [enumL]
  | d :: ds, n, 0 => by simp [enumL]
  | d :: ds, n, i + 1 => by
    rw [enumL, List.getElem?_cons_succ, List.getElem?_cons_succ, enumL_get ds (n + 1) i]
    have : n + 1 + i = n + (i + 1) := by omega
    rw [this]

section
variable {X : Cx} {g : Gx} {W : WX} {tg : Expr}
theorem ji_stuck {it : Expr} : JI X g W tg it mStuck := ⟨fun pins s σ H Q I ⟨b, F, S, x, q⟩ => q.elim⟩
theorem wk_list {K : PySem.W.Frag} {F : Hp} {a : Addr} {xs : List V} {ds : List D} (h : SqL K F a xs) (hd : DpAll K F xs ds) : Walk (Itl K a) ds.length (fun H' => Same F H') (YD K F ds) := by
  rw [← dpl_len hd]
  refine walk_list.mono (fun H s => seqL_mono s h) fun i H x H' hi s y => ?_
  obtain ⟨e, y⟩ := y
  obtain ⟨d, e1, e2⟩ := dpl_getV hd y
  exact ⟨d, e1, .inl ⟨e, e2⟩⟩
theorem wk_tup {K : PySem.W.Frag} {F : Hp} {a : Addr} {xs : List V} {ds : List D} (h : SqT K F a xs) (hd : DpAll K F xs ds) : Walk (Itt K a) ds.length (fun H' => Same F H') (YD K F ds) := by
  rw [← dpl_len hd]
  refine walk_tup.mono (fun H s => seqT_mono s h) fun i H x H' hi s y => ?_
  obtain ⟨e, y⟩ := y
  obtain ⟨d, e1, e2⟩ := dpl_getV hd y
  exact ⟨d, e1, .inl ⟨e, e2⟩⟩
theorem wk_str {K : PySem.W.Frag} {F : Hp} {z : Str} : Walk (Its z) (signsD z).length (fun H' => Same F H') (YD K F (signsD z)) := by
  have e : (signsD z).length = z.cps.size := by simp [signsD]
  rw [e]
  refine walk_str.mono (fun _ _ => trivial) fun i H x H' hi s y => ?_
  obtain ⟨e, c, hc, rfl⟩ := y
  refine ⟨.str ⟨#[c]⟩, ?_, .inl ⟨e, .str _⟩⟩
  simp [signsD, hc]
theorem wk_range {K : PySem.W.Frag} {F : Hp} {lo : Int} {n : Nat} : Walk (Itr lo n) (rangeD lo 1 n).length (fun H' => Same F H') (YD K F (rangeD lo 1 n)) := by
  have e : (rangeD lo 1 n).length = n := by simp [rangeD]
  rw [e]
  refine walk_range.mono (fun _ _ => trivial) fun i H x H' hi s y => ?_
  obtain ⟨e, rfl⟩ := y
  refine ⟨.int (lo + i), ?_, .inl ⟨e, .int _⟩⟩
  simp [rangeD, hi]
theorem wk_rangeC {K : PySem.W.Frag} {F : Hp} {lo c : Int} {n : Nat} : Walk (Itc lo c n) (rangeD lo c n).length (fun H' => Same F H') (YD K F (rangeD lo c n)) := by
  have e : (rangeD lo c n).length = n := by simp [rangeD]
  rw [e]
  refine walk_rangeC.mono (fun _ _ => trivial) fun i H x H' hi s y => ?_
  obtain ⟨e, rfl⟩ := y
  refine ⟨.int (lo + (i : Nat) * c), ?_, .inl ⟨e, .int _⟩⟩
  simp [rangeD, hi]
theorem yd_pair {K : PySem.W.Frag} {F : Hp} {ds : List D} {xs ys : Nat → Option V} {i : Nat} {H H' : Hp} {v : V} (y : YPair xs ys i H v H') (h : ∀ x z, xs i = some x → ys i = some z → ∃ dx dy, ds[i]? = some (pairD dx dy) ∧ Dp K F x dx ∧ Dp K F z dy) : YD K F ds i H v H' := by
  obtain ⟨T, x, z, rfl, h1, h2, h3, h4⟩ := y
  obtain ⟨dx, dy, e, d1, d2⟩ := h x z h3 h4
  exact ⟨_, e, .inr ⟨T, x, z, dx, dy, rfl, h1, h2, rfl, d1, d2⟩⟩
theorem wk_enum {K : PySem.W.Frag} {F : Hp} {a : Addr} {xs : List V} {ds : List D} (h : SqL K F a xs) (hd : DpAll K F xs ds) : Walk (Ite K a) (enumL 0 ds).length (fun H' => Same F H') (YD K F (enumL 0 ds)) := by
  rw [enumL_len, ← dpl_len hd]
  refine walk_enum.mono (fun H s => seqL_mono s h) fun i H x H' hi s y => yd_pair y fun x z h3 h4 => ?_
  obtain ⟨d, e1, e2⟩ := dpl_getV hd h4
  cases h3
  refine ⟨.int (i : Nat), d, ?_, .int _, e2⟩
  rw [enumL_get, e1, Nat.zero_add]
  rfl
theorem zip_get {xs ys : List D} {i : Nat} {x y : D} (h1 : xs[i]? = some x) (h2 : ys[i]? = some y) : (List.zipWith pairD xs ys)[i]? = some (pairD x y) := by
  rw [List.getElem?_zipWith, h1, h2]
theorem wk_zipL {K : PySem.W.Frag} {F : Hp} {a b : Addr} {xs ys : List V} {ds es : List D} (h : SqL K F a xs) (hd : DpAll K F xs ds) (h' : SqL K F b ys) (hd' : DpAll K F ys es) : Walk (Itz K a b) (List.zipWith pairD ds es).length (fun H' => Same F H') (YD K F (List.zipWith pairD ds es)) := by
  refine (walk_zip (xs := xs) (ys := ys) (by rw [List.length_zipWith, dpl_len hd, dpl_len hd'])).mono (fun H s => ⟨seqL_mono s h, seqL_mono s h'⟩) fun i H x H' hi s y => yd_pair y fun x z h3 h4 => ?_
  obtain ⟨d, e1, e2⟩ := dpl_getV hd h3
  obtain ⟨d', e1', e2'⟩ := dpl_getV hd' h4
  exact ⟨d, d', zip_get e1 e1', e2, e2'⟩
theorem walk_zipTT {K : PySem.W.Frag} {a b : Addr} {xs ys : List V} {n : Nat} (hn : n = min xs.length ys.length) : Walk (RZ.ItzT K a b) n (fun H => SqT K H a xs ∧ SqT K H b ys) (YPair (fun i => xs[i]?) (fun i => ys[i]?)) where
  goes i H hi q := by
    subst hn
    have h1 : i < xs.length := by omega
    have h2 : i < ys.length := by omega
    exact ⟨xs, ys, _, _, q.1, q.2, List.getElem?_eq_getElem h1, List.getElem?_eq_getElem h2⟩
  stops H q := ⟨xs, ys, q.1, q.2, by omega⟩
  yields i H v H' _ q y := by
    obtain ⟨T, x, z, h1, h2, h3, h4, h5⟩ := y
    exact ⟨T, x, z, h1, h2, h3, h4 _ q.1, h5 _ q.2⟩
theorem wk_zipT {K : PySem.W.Frag} {F : Hp} {a b : Addr} {xs ys : List V} {ds es : List D} (h : SqT K F a xs) (hd : DpAll K F xs ds) (h' : SqT K F b ys) (hd' : DpAll K F ys es) : Walk (RZ.ItzT K a b) (List.zipWith pairD ds es).length (fun H' => Same F H') (YD K F (List.zipWith pairD ds es)) := by
  refine (walk_zipTT (xs := xs) (ys := ys) (by rw [List.length_zipWith, dpl_len hd, dpl_len hd'])).mono (fun H s => ⟨seqT_mono s h, seqT_mono s h'⟩) fun i H x H' hi s y => yd_pair y fun x z h3 h4 => ?_
  obtain ⟨d, e1, e2⟩ := dpl_getV hd h3
  obtain ⟨d', e1', e2'⟩ := dpl_getV hd' h4
  exact ⟨d, d', zip_get e1 e1', e2, e2'⟩

/-- an expression that gives an own walk by its kind -/
theorem dp_list {K : PySem.W.Frag} {F : Hp} {v : V} {ds : List D} (h : Dp K F v (.list ds)) : ∃ a xs, v = .ref a ∧ SqL K F a xs ∧ DpAll K F xs ds := by
  cases h with
  | lst h1 h2 => exact ⟨_, _, rfl, h1, h2⟩
theorem dp_tup {K : PySem.W.Frag} {F : Hp} {v : V} {ds : List D} (h : Dp K F v (.tuple ds)) : ∃ a xs, v = .ref a ∧ SqT K F a xs ∧ DpAll K F xs ds := by
  cases h with
  | tup h1 h2 => exact ⟨_, _, rfl, h1, h2⟩
theorem dp_int {K : PySem.W.Frag} {F : Hp} {v : V} {i : Int} (h : Dp K F v (.int i)) : v = .int i := by
  cases h
  rfl
theorem dp_strE {K : PySem.W.Frag} {F : Hp} {v : V} {z : Str} (h : Dp K F v (.str z)) : v = .str z := by
  cases h
  rfl
theorem ji_items {e : Expr} {m : M D} (h : JE X g W e m) : JI X g W tg e (mItems m) := by
  refine ⟨fun pins s σ H R I ⟨b, F, S, x, q⟩ => ?_⟩
  have key : ∀ {T : VK}, (∀ (d : D) (S1 : Sto) (v : V) (F1 H1 : Hp), m S = .ok d S1 → SR X.K g b F1 S1 σ H1 → Dp X.K F1 v d → PostG X.K g W σ b F1 H1 (repIt X.K) R (ofO (itemsOf d) S1) → T v H1) → tG X.K g W (repE X.K) m σ H T := fun {T} hT => by
    refine ⟨b, F, S, x, ?_⟩
    unfold mItems M.bind at q
    cases e : m S with
    | stuck => rw [e] at q; exact q
    | exc c d bx' => rw [e] at q; exact q
    | ok d S1 =>
      rw [e] at q
      exact fun v F1 H1 x1 s1 f1 r1 => hT d S1 v F1 H1 e x1 r1 (PostG.shift (show PostG X.K g W σ b F H (repIt X.K) R (ofO (itemsOf d) S1) from q) s1 f1)
  cases hm : m S with
  | stuck => unfold mItems M.bind at q; rw [hm] at q; exact q.elim
  | exc c d bx' => exact (pi_list h).run pins s σ H R I (key fun d S1 v F1 H1 e _ _ _ => by rw [hm] at e; cases e)
  | ok d S1 =>
    have stk : (∀ ds, d ≠ .list ds) → (∀ ds, d ≠ .tuple ds) → (∀ z, d ≠ .str z) → False := fun n1 n2 n3 => by
      unfold mItems M.bind at q
      rw [hm] at q
      cases d with
      | list ds => exact n1 ds rfl
      | tuple ds => exact n2 ds rfl
      | str z => exact n3 z rfl
      | none => exact q
      | bool _ => exact q
      | int _ => exact q
      | dict _ => exact q
    cases d with
    | list ds =>
      refine (pi_list h).run pins s σ H R I (key fun d S2 v F1 H1 e x1 r1 q1 => ?_)
      rw [hm] at e
      cases e
      obtain ⟨a, xs, rfl, h1, h2⟩ := dp_list r1
      exact ⟨a, rfl, ⟨xs, seqL_mono x1.ff h1⟩, q1 _ F1 H1 x1 (Same.refl _) (Fr.refl _ _) (wk_list h1 h2)⟩
    | tuple ds =>
      refine (pi_tup h).run pins s σ H R I (key fun d S2 v F1 H1 e x1 r1 q1 => ?_)
      rw [hm] at e
      cases e
      obtain ⟨a, xs, rfl, h1, h2⟩ := dp_tup r1
      exact ⟨a, rfl, ⟨xs, seqT_mono x1.ff h1⟩, q1 _ F1 H1 x1 (Same.refl _) (Fr.refl _ _) (wk_tup h1 h2)⟩
    | str z =>
      refine (pi_str h).run pins s σ H R I (key fun d S2 v F1 H1 e x1 r1 q1 => ?_)
      rw [hm] at e
      cases e
      cases dp_strE r1
      exact ⟨z, rfl, q1 _ F1 H1 x1 (Same.refl _) (Fr.refl _ _) wk_str⟩
    | none => exact (stk (fun _ z => by cases z) (fun _ z => by cases z) (fun _ z => by cases z)).elim
    | bool _ => exact (stk (fun _ z => by cases z) (fun _ z => by cases z) (fun _ z => by cases z)).elim
    | int _ => exact (stk (fun _ z => by cases z) (fun _ z => by cases z) (fun _ z => by cases z)).elim
    | dict _ => exact (stk (fun _ z => by cases z) (fun _ z => by cases z) (fun _ z => by cases z)).elim
/-- an argument list, then an operation on it -/
theorem PI.of {it : Expr} {t t' : TI} (h : PI X tg it t) (i : ∀ σ H Q, t' σ H Q → t σ H Q) : PI X tg it t' := ⟨fun pins s σ H Q I q => h.run pins s σ H Q I (i σ H Q q)⟩
theorem repL1 {K : PySem.W.Frag} {b : Bs} {F H : Hp} {vs : List V} {d : D} (h : repL (repE K) b F H vs [d]) : ∃ v, vs = [v] ∧ Dp K F v d := by
  have l := h.1
  match vs, l with
  | [v], _ => exact ⟨v, rfl, h.2 0 v d rfl rfl⟩
theorem repL2 {K : PySem.W.Frag} {b : Bs} {F H : Hp} {vs : List V} {d d' : D} (h : repL (repE K) b F H vs [d, d']) : ∃ v v', vs = [v, v'] ∧ Dp K F v d ∧ Dp K F v' d' := by
  have l := h.1
  match vs, l with
  | [v, v'], _ => exact ⟨v, v', rfl, h.2 0 v d rfl rfl, h.2 1 v' d' rfl rfl⟩
theorem repL3 {K : PySem.W.Frag} {b : Bs} {F H : Hp} {vs : List V} {d d' d'' : D} (h : repL (repE K) b F H vs [d, d', d'']) : ∃ v v' v'', vs = [v, v', v''] ∧ Dp K F v d ∧ Dp K F v' d' ∧ Dp K F v'' d'' := by
  have l := h.1
  match vs, l with
  | [v, v', v''], _ => exact ⟨v, v', v'', rfl, h.2 0 v d rfl rfl, h.2 1 v' d' rfl rfl, h.2 2 v'' d'' rfl rfl⟩
abbrev JAe (X : Cx) (g : Gx) (W : WX) (es : List Expr) (m : M (List D)) : Prop := PA X es (tG X.K g W (repL (repE X.K)) m)
theorem seq_len {α : Type} : ∀ {ms : List (M α)} {S S' : Sto} {as : List α}, mSeq ms S = .ok as S' → as.length = ms.length
  | [], S, S', as, h => by cases h; rfl
  | m :: ms, S, S', as, h => by
    unfold mSeq M.bind R.bind at h
    split at h
    · rename_i a S1 e
      dsimp only at h
      split at h
      · rename_i bs S2 e2
        cases h
        rw [List.length_cons, List.length_cons, seq_len e2]
      · cases h
      · cases h
    · cases h
    · cases h
/-- bindP that keeps the run's equation -/
theorem bindPE {α β α' β' : Type} {K : PySem.W.Frag} {σ : L2.St} {b : Bs} {F H : Hp} {S : Sto} {rep1 : Rp α β} {rep2 : Rp α' β'} {Q : β' → Hp → Prop} {T : β → Hp → Prop}
    {m : M α} {k : α → Sto → R α'} (x : SR K g b F S σ H) (h : PostG K g W σ b F H rep2 Q ((m S).bind k))
    (hT : ∀ (a : α) (S1 : Sto) (v : β) (F1 H1 : Hp), m S = .ok a S1 → SR K g b F1 S1 σ H1 → Same F F1 → Fr b H H1 → rep1 b F1 H1 v a → PostG K g W σ b F1 H1 rep2 Q (k a S1) → T v H1) : tG K g W rep1 m σ H T := by
  refine ⟨b, F, S, x, ?_⟩
  cases e : m S with
  | stuck => rw [e] at h; exact h
  | exc c d bx' => rw [e] at h; exact h
  | ok a S1 =>
    rw [e] at h
    exact fun v F1 H1 x1 s1 f1 r1 => hT a S1 v F1 H1 e x1 s1 f1 r1 (PostG.shift (show PostG K g W σ b F H rep2 Q (k a S1) from h) s1 f1)
theorem rangeOf2 {ds : List D} {o : List D} (h : rangeOf ds = some o) (hl : ds.length = 2) : ∃ i j, ds = [.int i, .int j] ∧ (-(2 ^ 62) ≤ i ∧ i < 2 ^ 62) ∧ (-(2 ^ 62) ≤ j ∧ j < 2 ^ 62) ∧ o = rangeD i 1 (j - i).toNat := by
  unfold rangeOf at h
  split at h
  · cases hl
  · rename_i i j
    split at h
    · rename_i z
      rw [Bool.and_eq_true] at z
      cases h
      exact ⟨i, j, rfl, in62_ok z.1, in62_ok z.2, rfl⟩
    · cases h
  · cases hl
  · cases h
theorem rangeOf1 {ds : List D} {o : List D} (h : rangeOf ds = some o) (hl : ds.length = 1) : ∃ j, ds = [.int j] ∧ (-(2 ^ 62) ≤ j ∧ j < 2 ^ 62) ∧ o = rangeD 0 1 j.toNat := by
  unfold rangeOf at h
  split at h
  · rename_i j
    split at h
    · rename_i z
      cases h
      exact ⟨j, rfl, in62_ok z, rfl⟩
    · cases h
  · cases hl
  · cases hl
  · cases h
theorem rangeOf3 {ds : List D} {o : List D} (h : rangeOf ds = some o) (hl : ds.length = 3) : ∃ i j, ds = [.int i, .int j, .int (-1)] ∧ (-(2 ^ 62) ≤ i ∧ i < 2 ^ 62) ∧ (-(2 ^ 62) ≤ j ∧ j < 2 ^ 62) ∧ o = rangeD i (-1) (i - j).toNat := by
  unfold rangeOf at h
  split at h
  · cases hl
  · cases hl
  · rename_i i j c
    split at h
    · rename_i z
      cases h
      obtain ⟨rfl, z1, z2⟩ := z
      exact ⟨i, j, rfl, in62_ok z1, in62_ok z2, rfl⟩
    · cases h
  · cases h
theorem ji_range1 {a : Expr} {p pos : Pos} {ms : List (M D)} (hl : ms.length = 1) (hg : L2.Gl X "range") (hm : X.mg "range" = none) (ha : JAe X g W [a] (mSeq ms)) (hs : starEach [a] X.env = [(false, eval a X.env)]) : JI X g W tg (.Call (.Name "range" p) [a] [] pos) (mRange (mSeq ms)) :=
  PI.of (pi_range1 hg hm ha hs) fun σ H R ⟨b, F, S, x, q⟩ => bindPE x q fun ds S1 vs F1 H1 e x1 s1 f1 r1 q1 => by
    obtain ⟨o, e2, q2⟩ := ofO_post q1
    obtain ⟨j, rfl, z, rfl⟩ := rangeOf1 e2 ((seq_len e).trans hl)
    obtain ⟨v, rfl, r⟩ := repL1 r1
    cases dp_int r
    exact ⟨j, rfl, z.1, z.2, q2 _ F1 H1 x1 (Same.refl _) (Fr.refl _ _) wk_range⟩
theorem ji_range2 {a a' : Expr} {p pos : Pos} {ms : List (M D)} (hl : ms.length = 2) (hg : L2.Gl X "range") (hm : X.mg "range" = none) (ha : JAe X g W [a, a'] (mSeq ms)) (hs : starEach [a, a'] X.env = [(false, eval a X.env), (false, eval a' X.env)]) (hs' : starEach [a'] X.env = [(false, eval a' X.env)]) :
    JI X g W tg (.Call (.Name "range" p) [a, a'] [] pos) (mRange (mSeq ms)) :=
  PI.of (pi_range2 hg hm ha hs hs') fun σ H R ⟨b, F, S, x, q⟩ => bindPE x q fun ds S1 vs F1 H1 e x1 s1 f1 r1 q1 => by
    obtain ⟨o, e2, q2⟩ := ofO_post q1
    obtain ⟨i, j, rfl, z, z', rfl⟩ := rangeOf2 e2 ((seq_len e).trans hl)
    obtain ⟨v, v', rfl, r, r'⟩ := repL2 r1
    cases dp_int r
    cases dp_int r'
    exact ⟨i, j, rfl, ⟨z.1, z.2, z'.1, z'.2⟩, q2 _ F1 H1 x1 (Same.refl _) (Fr.refl _ _) wk_range⟩
theorem ji_range3 {a a' a'' : Expr} {p pos : Pos} {ms : List (M D)} (hl : ms.length = 3) (hg : L2.Gl X "range") (hm : X.mg "range" = none) (ha : JAe X g W [a, a', a''] (mSeq ms)) (h : PI X tg (.Call (.Name "range" p) [a, a', a''] [] pos) (iRng3 (tG X.K g W (repL (repE X.K)) (mSeq ms)))) :
    JI X g W tg (.Call (.Name "range" p) [a, a', a''] [] pos) (mRange (mSeq ms)) :=
  PI.of h fun σ H R ⟨b, F, S, x, q⟩ => bindPE x q fun ds S1 vs F1 H1 e x1 s1 f1 r1 q1 => by
    obtain ⟨o, e2, q2⟩ := ofO_post q1
    obtain ⟨i, j, rfl, z, z', rfl⟩ := rangeOf3 e2 ((seq_len e).trans hl)
    obtain ⟨v, v', v'', rfl, r, r', r''⟩ := repL3 r1
    cases dp_int r
    cases dp_int r'
    cases dp_int r''
    exact ⟨i, j, -1, _, rfl, RgC.neg z.1 z.2 z'.1 z'.2, q2 _ F1 H1 x1 (Same.refl _) (Fr.refl _ _) wk_rangeC⟩
theorem ji_zip {a a' : Expr} {p pos tpos : Pos} {elts : List Expr} {kk : Nat} {ms : List (M D)} (hl : ms.length = 2) (hg : L2.Gl X "zip") (hm : X.mg "zip" = none) (ha : JAe X g W [a, a'] (mSeq ms)) (hs : noStar [a, a'] = true) :
    JI X g W (.Tuple elts kk tpos) (.Call (.Name "zip" p) [a, a'] [] pos) (mZip (mSeq ms)) :=
  PI.of (RZ.pi_zipA hg hm ha (star_cons hs) (star_any (noStar_tail hs))) fun σ H R ⟨b, F, S, x, q⟩ => bindPE x q fun ds S1 vs F1 H1 e x1 s1 f1 r1 q1 => by
    obtain ⟨o, e2, q2⟩ := ofO_post q1
    unfold zipOf at e2
    split at e2
    · cases e2
      obtain ⟨v, v', rfl, r, r'⟩ := repL2 r1
      obtain ⟨a, xs, rfl, h1, h2⟩ := dp_list r
      obtain ⟨a', ys, rfl, h1', h2'⟩ := dp_list r'
      exact ⟨a, a', xs, ys, rfl, .inl ⟨seqL_mono x1.ff h1, seqL_mono x1.ff h1', q2 _ F1 H1 x1 (Same.refl _) (Fr.refl _ _) (wk_zipL h1 h2 h1' h2')⟩⟩
    · cases e2
      obtain ⟨v, v', rfl, r, r'⟩ := repL2 r1
      obtain ⟨a, xs, rfl, h1, h2⟩ := dp_tup r
      obtain ⟨a', ys, rfl, h1', h2'⟩ := dp_tup r'
      exact ⟨a, a', xs, ys, rfl, .inr ⟨seqT_mono x1.ff h1, seqT_mono x1.ff h1', q2 _ F1 H1 x1 (Same.refl _) (Fr.refl _ _) (wk_zipT h1 h2 h1' h2')⟩⟩
    · cases e2
theorem ji_enum {a : Expr} {p pos tpos : Pos} {elts : List Expr} {kk : Nat} {ms : List (M D)} (hl : ms.length = 1) (hg : L2.Gl X "enumerate") (hm : X.mg "enumerate" = none) (ha : JAe X g W [a] (mSeq ms)) (hs : starEach [a] X.env = [(false, eval a X.env)]) :
    JI X g W (.Tuple elts kk tpos) (.Call (.Name "enumerate" p) [a] [] pos) (mEnum (mSeq ms)) :=
  PI.of (pi_enum hg hm ha hs) fun σ H R ⟨b, F, S, x, q⟩ => bindPE x q fun ds S1 vs F1 H1 e x1 s1 f1 r1 q1 => by
    obtain ⟨o, e2, q2⟩ := ofO_post q1
    unfold enumOf at e2
    split at e2
    · cases e2
      obtain ⟨v, rfl, r⟩ := repL1 r1
      obtain ⟨a, xs, rfl, h1, h2⟩ := dp_list r
      exact ⟨a, xs, rfl, seqL_mono x1.ff h1, q2 _ F1 H1 x1 (Same.refl _) (Fr.refl _ _) (wk_enum h1 h2)⟩
    · cases e2

/-! ### targets -/
abbrev Tgt := D → List DV → Option (List DV)
/-- a target does as st tells, in the slots js -/
def TgOk (X : Cx) (g : Gx) (tg : Expr) (G : TG) (st : Tgt) (js : List Nat) : Prop := PG X tg G ∧ ∀ (b : Bs) (F : Hp) (S : Sto) (σ : L2.St) (H : Hp) (v : V) (d : D) (sl' : List DV) (Q : L2.St → Hp → Prop), SR X.K g b F S σ H → Dp X.K F v d → st d S.sl = some sl' →
  (∀ σ', SR X.K g b F { S with sl := sl' } σ' H → (∀ vs : List Nat, (∀ j ∈ js, j ∈ vs) → wipe σ' vs = wipe σ vs) → Q σ' H) → G v σ H Q
def TgsOk (X : Cx) (g : Gx) (tgs : List Expr) (G : TGs) (st : List D → List DV → Option (List DV)) (js : List Nat) : Prop := PGs X tgs G ∧ ∀ (b : Bs) (F : Hp) (S : Sto) (σ : L2.St) (H : Hp) (vs : List V) (ds : List D) (sl' : List DV) (Q : L2.St → Hp → Prop), SR X.K g b F S σ H → DpAll X.K F vs ds → st ds S.sl = some sl' →
  (∀ σ', SR X.K g b F { S with sl := sl' } σ' H → (∀ ws : List Nat, (∀ j ∈ js, j ∈ ws) → wipe σ' ws = wipe σ ws) → Q σ' H) → G vs σ H Q
theorem wipe_set {x : Option V} {i : Nat} : ∀ {vs : List Nat} {σ : L2.St}, i ∈ vs → wipe (σ.set i x) vs = wipe σ vs
  | v :: vs, σ, h => by
    unfold wipe
    by_cases e : i ∈ vs
    · rw [wipe_set e]
    · rcases List.mem_cons.mp h with rfl | h
      · have : ∀ (ws : List Nat) (τ : L2.St), (wipe (τ.set i x) ws).set i none = (wipe τ ws).set i none := fun ws => by
          induction ws with
          | nil => intro τ; show (τ.set i x).set i none = τ.set i none; rw [List.set_set]
          | cons w ws ih =>
            intro τ
            show ((wipe (τ.set i x) ws).set w none).set i none = ((wipe τ ws).set w none).set i none
            by_cases z : w = i
            · subst z
              rw [List.set_set, List.set_set, ih]
            · rw [List.set_comm _ _ z, ih, List.set_comm _ _ (Ne.symm z)]
        exact this vs σ
      · exact absurd h e
theorem SR.set {K : PySem.W.Frag} {b : Bs} {F H : Hp} {S : Sto} {σ : L2.St} {i : Nat} {v : V} {d : D} (x : SR K g b F S σ H) (h : Dp K F v d) : SR K g b F { S with sl := S.sl.set i (.sh d) } (σ.set i (some v)) H where
  len := by
    show (S.sl.set i (.sh d)).length = _
    rw [List.length_set, List.length_set]
    exact x.len
  ff := x.ff
  f0 := x.f0
  fn := x.fn
  nt := x.nt
  ext := x.ext
  slot j u w e1 e2 := by
    rcases get_set e1 with ⟨rfl, rfl⟩ | ⟨n1, e1⟩
    · rcases get_set e2 with ⟨_, rfl⟩ | ⟨n2, _⟩
      · exact ⟨v, rfl, h⟩
      · exact absurd rfl n2
    · rcases get_set e2 with ⟨z, _⟩ | ⟨_, e2⟩
      · exact absurd z n1
      · exact x.slot j u w e1 e2
  dist j k d1 d2 y n e1 e2 e3 := by
    rcases get_set e1 with ⟨_, z⟩ | ⟨n1, e1⟩
    · cases z
    rcases get_set e2 with ⟨_, z⟩ | ⟨n2, e2⟩
    · cases z
    rcases get_set e3 with ⟨z, _⟩ | ⟨_, e3⟩
    · exact absurd z n1
    intro e4
    rcases get_set e4 with ⟨z, _⟩ | ⟨_, e4⟩
    · exact absurd z n2
    exact x.dist j k d1 d2 y n e1 e2 e3 e4
  box := x.box
  tabs := x.tabs
/-- the slot of a name that may be stored to -/
def locC (c : Ct) (x : Str) : Option Nat := if c.own x = true then match c.sc.names.lookup x with
  | some .local => c.N.idxOf? x
  | some .cell => c.N.idxOf? x
  | _ => none else none
theorem loc_ok {c : Ct} {x : Str} {i : Nat} (h : locC c x = some i) : c.N[i]? = some x ∧ Loc c.sc x ∧ c.own x = true := by
  unfold locC at h
  split at h
  rotate_left
  · cases h
  rename_i ho
  unfold L2.Loc
  split at h
  · rename_i e; exact ⟨idx_get h, .inl e, ho⟩
  · rename_i e; exact ⟨idx_get h, .inr e, ho⟩
  · cases h
theorem pg_loc {c : Ct} (f : Fx X g W c) {x : Str} {i : Nat} {pos : Pos} (h : locC c x = some i) : PG X (.Name x pos) (gName i) := by
  obtain ⟨h1, h2, ho⟩ := loc_ok h
  have hz := f.hf x ho h2
  rw [← f.sc] at h2 hz
  rw [← f.N] at h1
  exact pg_name (by rw [f.N]; exact f.nd) h1 h2 hz
def stName (i : Nat) : Tgt := fun d sl => some (sl.set i (.sh d))
theorem tg_name {c : Ct} (f : Fx X g W c) {x : Str} {i : Nat} {pos : Pos} (h : locC c x = some i) : TgOk X g (.Name x pos) (gName i) (stName i) [i] :=
  ⟨pg_loc f h, fun b F S σ H v d sl' Q x r e k => by
    cases e
    exact k _ (x.set r) fun vs hv => wipe_set (hv i (by simp))⟩
def stNone : Tgt := fun _ _ => none
theorem tg_none (X : Cx) (g : Gx) (tg : Expr) : TgOk X g tg (fun _ _ _ _ => False) stNone [] := ⟨⟨fun _ _ _ _ _ _ _ _ _ h => h.elim⟩, fun b F S σ H v d sl' Q x r e k => by cases e⟩
def stNil : List D → List DV → Option (List DV) := fun ds sl => if ds = [] then some sl else none
def stCons (t : Tgt) (u : List D → List DV → Option (List DV)) : List D → List DV → Option (List DV) := fun ds sl => match ds with
  | [] => none
  | d :: ds => (t d sl).bind fun sl' => u ds sl'
def stTup (n : Nat) (u : List D → List DV → Option (List DV)) : Tgt := fun d sl => match d with
  | .tuple ds => if ds.length = n then u ds sl else none
  | _ => none
theorem tgs_nil (X : Cx) (g : Gx) : TgsOk X g [] gNil stNil [] := ⟨pgs_nil, fun b F S σ H vs ds sl' Q x r e k => by
  unfold stNil at e
  split at e
  · rename_i z
    subst z
    cases e
    cases r
    exact ⟨rfl, k σ x fun _ _ => rfl⟩
  · cases e⟩
theorem tgs_cons {e : Expr} {es : List Expr} {t : Tgt} {u : List D → List DV → Option (List DV)} {js ks : List Nat} {G1 : TG} {G2 : TGs} (h1 : TgOk X g e G1 t js) (h2 : TgsOk X g es G2 u ks) (hs : (assignEach (e :: es) X.env).map (·.2) = assign e X.env :: (assignEach es X.env).map (·.2)) : TgsOk X g (e :: es) (gCons G1 G2) (stCons t u) (js ++ ks) := by
  obtain ⟨p1, q1⟩ := h1
  obtain ⟨p2, q2⟩ := h2
  refine ⟨pgs_cons p1 p2 hs, fun b F S σ H vs ds sl' Q x r e k => ?_⟩
  cases r with
  | nil => cases e
  | @cons v0 vs0 d0 ds0 r rr =>
    have e : (t d0 S.sl).bind (fun sl' => u ds0 sl') = some sl' := e
    cases et : t d0 S.sl with
    | none => rw [et] at e; cases e
    | some sl1 =>
      rw [et] at e
      refine ⟨_, _, rfl, q1 b F S σ H _ _ sl1 _ x r et fun σ1 x1 w1 => ?_⟩
      exact q2 b F { S with sl := sl1 } σ1 H _ _ sl' Q x1 rr e fun σ2 x2 w2 => k σ2 x2 fun ws hw => (w2 ws fun j hj => hw j (List.mem_append_right _ hj)).trans (w1 ws fun j hj => hw j (List.mem_append_left _ hj))
theorem tg_tup {es : List Expr} {k : Nat} {pos : Pos} {u : List D → List DV → Option (List DV)} {n : Nat} {js : List Nat} {G : TGs} (hc : X.calm = true) (h : TgsOk X g es G u js) (hn : (assignEach es X.env).length = n) (hst : (assignEach es X.env).findIdx? (·.1) = none) : TgOk X g (.Tuple es k pos) (gTup X.K n G) (stTup n u) js := by
  obtain ⟨p, q⟩ := h
  refine ⟨pg_tup hc p hn hst, fun b F S σ H v d sl' Q x r e k => ?_⟩
  unfold stTup at e
  split at e
  · split at e
    · rename_i hz
      obtain ⟨a, xs, rfl, h1, h2⟩ := dp_tup r
      exact ⟨a, xs, rfl, seqT_mono x.ff h1, (dpl_len h2).trans hz, q b F S σ H _ _ sl' Q x h2 e k⟩
    · cases e
  · cases e
end
end Gl

set_option maxRecDepth 100000
set_option maxHeartbeats 1000000
/-! The general layer, part F: statements. -/
namespace Gl
open PySem PySem.Spec PyProof.Rows L2

def R.toO {α : Type} : R α → (α → Sto → O) → O
  | .ok a s, k => k a s
  | .exc c d b, _ => .exc c d b
  | .stuck, _ => .stuck
def O.bind : O → (Sto → O) → O
  | .next s, k => k s
  | o, _ => o
abbrev MS := Sto → O
def PostS (K : PySem.W.Frag) (g : Gx) (W : WX) (b : Bs) (F H : Hp) (E : Ends) : O → Prop
  | .next S' => ∀ (σ' : L2.St) (F' H' : Hp), SR K g b F' S' σ' H' → Same F F' → E.nx σ' H'
  | .brk S' => ∀ (σ' : L2.St) (F' H' : Hp), SR K g b F' S' σ' H' → Same F F' → E.bk σ' H'
  | .cont S' => ∀ (σ' : L2.St) (F' H' : Hp), SR K g b F' S' σ' H' → Same F F' → E.ct σ' H'
  | .ret d S' => ∀ (v : V) (F' H' : Hp), SR K g b F' ⟨[], S'.bx⟩ [] H' → Same F F' → Dp K F' v d → E.rt v H'
  | .exc c d bx' => ∀ σ, ExcP K g W σ b c d bx'
  | .stuck => False
def tS (K : PySem.W.Frag) (g : Gx) (W : WX) (m : MS) : TS := fun E σ H => ∃ (b : Bs) (F : Hp) (S : Sto), SR K g b F S σ H ∧ PostS K g W b F H E (m S)
abbrev JS (X : Cx) (g : Gx) (W : WX) (st : Stmt) (m : MS) : Prop := PS X st (tS X.K g W m)
abbrev JSs (X : Cx) (g : Gx) (W : WX) (st : List Stmt) (m : MS) : Prop := PSs X st (tS X.K g W m)
def sStuck : MS := fun _ => .stuck
def sNext : MS := fun S => .next S
def sSeq (m n : MS) : MS := fun S => (m S).bind n
def sE {α : Type} (m : M α) (k : α → MS) : MS := fun S => (m S).toO k
def sSet (i : Nat) (d : D) : MS := fun S => .next { S with sl := S.sl.set i (.sh d) }
def sStore (st : Tgt) (d : D) : MS := fun S => match st d S.sl with
  | some sl' => .next { S with sl := sl' }
  | none => .stuck
def sRet (m : M D) : MS := sE m fun d S => .ret d S
def sIf (m : M Bool) (a b : MS) : MS := sE m fun k => if k then a else b
def sRaise (n : Nat) (m : M D) : MS := sE m fun d S => .exc n d S.bx
def loopF (st : Tgt) (mb : MS) : List D → MS
  | [], S => .next S
  | d :: ds, S => match st d S.sl with
    | none => .stuck
    | some sl' => match mb { S with sl := sl' } with
      | .next S' => loopF st mb ds S'
      | .cont S' => loopF st mb ds S'
      | .brk S' => .next S'
      | .ret d S' => .ret d S'
      | .exc c d b => .exc c d b
      | .stuck => .stuck
def sFor (mi : M (List D)) (st : Tgt) (mb : MS) : MS := sE mi fun ds => loopF st mb ds
def loopW (mc : M Bool) (mb : MS) : Nat → MS
  | 0, _ => .stuck
  | n + 1, S => match mc S with
    | .ok true S1 => match mb S1 with
      | .next S' => loopW mc mb n S'
      | .cont S' => loopW mc mb n S'
      | .brk S' => .next S'
      | .ret d S' => .ret d S'
      | .exc c d b => .exc c d b
      | .stuck => .stuck
    | .ok false S1 => .next S1
    | .exc c d b => .exc c d b
    | .stuck => .stuck
open Classical in
/-- a while: what it gives with enough turns -/
noncomputable def sWhile (mc : M Bool) (mb : MS) : MS := fun S => if h : ∃ n, loopW mc mb n S ≠ .stuck then loopW mc mb (Classical.choose h) S else .stuck
theorem loopW_mono {mc : M Bool} {mb : MS} : ∀ {n : Nat} {S : Sto}, loopW mc mb n S ≠ .stuck → ∀ k, loopW mc mb (n + k) S = loopW mc mb n S
  | 0, _, h, _ => absurd rfl h
  | n + 1, S, h, k => by
    have e : n + 1 + k = (n + k) + 1 := by omega
    rw [e]
    unfold loopW at h ⊢
    split <;> rename_i e1
    · rw [e1] at h
      dsimp only at h ⊢
      split <;> rename_i e2
      · rw [e2] at h
        exact loopW_mono h k
      · rw [e2] at h
        exact loopW_mono h k
      all_goals rfl
    all_goals rfl
/-- the way to know a while -/
theorem sWhile_eq {mc : M Bool} {mb : MS} {S : Sto} {n : Nat} {o : O} (h : loopW mc mb n S = o) (ho : o ≠ .stuck) : sWhile mc mb S = o := by
  have hx : ∃ n, loopW mc mb n S ≠ .stuck := ⟨n, by rw [h]; exact ho⟩
  unfold sWhile
  rw [dif_pos hx]
  have h1 := Classical.choose_spec hx
  have h2 := loopW_mono h1 n
  have h3 := loopW_mono (n := n) (S := S) (by rw [h]; exact ho) (Classical.choose hx)
  rw [Nat.add_comm] at h3
  rw [← h2, h3, h]

section
variable {X : Cx} {g : Gx} {W : WX} {c : Ct}
theorem PostS.shift {K : PySem.W.Frag} {b : Bs} {F F1 H H1 : Hp} {E : Ends} {o : O} (h : PostS K g W b F H E o) (s : Same F F1) : PostS K g W b F1 H1 E o := by
  cases o with
  | next S' => exact fun σ' F' H' x s' => h σ' F' H' x (s.trans s')
  | brk S' => exact fun σ' F' H' x s' => h σ' F' H' x (s.trans s')
  | cont S' => exact fun σ' F' H' x s' => h σ' F' H' x (s.trans s')
  | ret d S' => exact fun v F' H' x s' r => h v F' H' x (s.trans s') r
  | exc c d bx' => exact h
  | stuck => exact h
/-- other ends -/
theorem PostS.ends {K : PySem.W.Frag} {b : Bs} {F H : Hp} {E E' : Ends} {o : O} (h : PostS K g W b F H E o) (hn : ∀ σ H, E.nx σ H → E'.nx σ H) (hb : ∀ σ H, E.bk σ H → E'.bk σ H) (hc : ∀ σ H, E.ct σ H → E'.ct σ H) (hr : ∀ v H, E.rt v H → E'.rt v H) : PostS K g W b F H E' o := by
  cases o with
  | next S' => exact fun σ' F' H' x s => hn _ _ (h σ' F' H' x s)
  | brk S' => exact fun σ' F' H' x s => hb _ _ (h σ' F' H' x s)
  | cont S' => exact fun σ' F' H' x s => hc _ _ (h σ' F' H' x s)
  | ret d S' => exact fun v F' H' x s r => hr _ _ (h v F' H' x s r)
  | exc c d bx' => exact h
  | stuck => exact h
theorem js_stuck {st : Stmt} : JS X g W st sStuck := ⟨fun pins s σ H E I ⟨b, F, S, x, q⟩ => q.elim⟩
theorem jss_stuck {st : List Stmt} : JSs X g W st sStuck := ⟨fun pins s σ H E I ⟨b, F, S, x, q⟩ => q.elim⟩
/-- an expression first -/
theorem bindS {α β : Type} {K : PySem.W.Frag} {σ : L2.St} {b : Bs} {F H : Hp} {S : Sto} {rep1 : Rp α β} {T : β → Hp → Prop} {E : Ends} {m : M α} {k : α → MS} (x : SR K g b F S σ H) (h : PostS K g W b F H E (sE m k S))
    (hT : ∀ (a : α) (S1 : Sto) (v : β) (F1 H1 : Hp), SR K g b F1 S1 σ H1 → Same F F1 → Fr b H H1 → rep1 b F1 H1 v a → PostS K g W b F1 H1 E (k a S1) → T v H1) : tG K g W rep1 m σ H T := by
  refine ⟨b, F, S, x, ?_⟩
  unfold sE R.toO at h
  cases e : m S with
  | stuck => rw [e] at h; exact h
  | exc c d bx' => rw [e] at h; exact h σ
  | ok a S1 =>
    rw [e] at h
    exact fun v F1 H1 x1 s1 f1 r1 => hT a S1 v F1 H1 x1 s1 f1 r1 (PostS.shift h s1)
theorem jss_nil : JSs X g W [] sNext := PSs.of pss_nil fun E σ H ⟨b, F, S, x, q⟩ => q σ F H x (Same.refl _)
theorem jss_cons {st : Stmt} {r : List Stmt} {m n : MS} (h1 : JS X g W st m) (h2 : JSs X g W r n) : JSs X g W (st :: r) (sSeq m n) := PSs.of (pss_cons h1 h2) fun E σ H ⟨b, F, S, x, q⟩ => by
  refine ⟨b, F, S, x, ?_⟩
  unfold sSeq at q
  cases e : m S with
  | next S' =>
    rw [e] at q
    exact fun σ' F' H' x' s' => ⟨b, F', S', x', PostS.shift (show PostS X.K g W b F H E (n S') from q) s'⟩
  | brk S' => rw [e] at q; exact q
  | cont S' => rw [e] at q; exact q
  | ret d S' => rw [e] at q; exact q
  | exc c d bx' => rw [e] at q; exact q
  | stuck => rw [e] at q; exact q
theorem js_pass {pos : Pos} : JS X g W (.Pass pos) sNext := PS.of ps_pass fun E σ H ⟨b, F, S, x, q⟩ => q σ F H x (Same.refl _)
theorem js_break {pos : Pos} : JS X g W (.Break pos) (fun S => .brk S) := PS.of ps_break fun E σ H ⟨b, F, S, x, q⟩ => q σ F H x (Same.refl _)
theorem js_continue {pos : Pos} : JS X g W (.Continue pos) (fun S => .cont S) := PS.of ps_continue fun E σ H ⟨b, F, S, x, q⟩ => q σ F H x (Same.refl _)
theorem js_ret {e : Expr} {pos : Pos} {m : M D} (h : JE X g W e m) : JS X g W (.Return (some e) pos) (sRet m) := PS.of (ps_ret h) fun E σ H ⟨b, F, S, x, q⟩ =>
  bindS x q fun d S1 v F1 H1 x1 s1 f1 r1 q1 => q1 v F1 H1 x1.forget (Same.refl _) r1
theorem js_retN {pos : Pos} : JS X g W (.Return none pos) (fun S => .ret .none S) := PS.of ps_retN fun E σ H ⟨b, F, S, x, q⟩ => q .non F H x.forget (Same.refl _) .non
def notComp : Expr → Bool
  | .ListComp .. => false
  | .SetComp .. => false
  | .DictComp .. => false
  | _ => true
theorem swaps_no {e : Expr} {t : Option Expr} {l : Nat} {env : Env} (h : notComp e = true) : swapsWith e t l env = pure false := by
  cases e <;> first | rfl | cases h
theorem js_expr {e : Expr} {pos : Pos} {m : M D} (h : JE X g W e m) (hn : notComp e = true) : JS X g W (.Expr e pos) (sE m fun _ => sNext) := PS.of (ps_expr h (swaps_no hn)) fun E σ H ⟨b, F, S, x, q⟩ =>
  bindS x q fun d S1 v F1 H1 x1 s1 f1 r1 q1 => q1 σ F1 H1 x1 (Same.refl _)
theorem js_if {t : Expr} {a e : List Stmt} {pos : Pos} {mc : M Bool} {ma mb : MS} (hc : JT X g W t mc) (ha : JSs X g W a ma) (hb : JSs X g W e mb) : JS X g W (.If t a e pos) (sIf mc ma mb) := PS.of (ps_if hc ha hb) fun E σ H ⟨b, F, S, x, q⟩ =>
  bindS x q fun k S1 v F1 H1 x1 s1 f1 r1 q1 => by
    cases (show v = k from r1)
    cases k with
    | true => exact iteT ⟨b, F1, S1, x1, q1⟩
    | false => exact iteF ⟨b, F1, S1, x1, q1⟩
theorem js_raise (f : Fx X g W c) {x : Str} {e : Expr} {p pos pos' : Pos} {n : Nat} {m : M D} (hg : isG c x = true) (hx : c.xs x = some n) (hl : 2 ≤ c.lv) (hs : noStar [e] = true) (h : JE X g W e m) :
    JS X g W (.Raise (some (.Call (.Name x p) [e] [] pos)) none pos') (sRaise n m) := by
  obtain ⟨C, fl, hC, mk⟩ := f.glo.xs x n hx
  have pm := mk X _ e p pos rfl rfl rfl rfl rfl (f.room.mono hl) (isG_ok f hg).1 h (star_cons hs) (star_any (noStar_tail hs))
  refine PS.of (ps_raise f.calm f.tk pm) fun E σ H ⟨b, F, S, x, q⟩ => ?_
  refine bindS x q fun d S1 v F1 H1 x1 s1 f1 r1 q1 => fun a ha => ?_
  have x2 := x1.call (x1.newU (o := .xd [(fl, v)]) ha)
  exact q1 σ a C fl v F1 _ hC x2.forget upd_same r1
/-- name = e -/
theorem js_set (f : Fx X g W c) {x : Str} {i : Nat} {e : Expr} {p pos : Pos} {m : M D} (hi : locC c x = some i) (h : JE X g W e m) (hn : notComp e = true) : JS X g W (.Assign [.Name x p] e pos) (sE m (sSet i)) :=
  PS.of (ps_asg h (pg_loc f hi) (swaps_no (t := some (.Name x p)) (l := pos.line) hn) rfl rfl) fun E σ H ⟨b, F, S, x, q⟩ => bindS x q fun d S1 v F1 H1 x1 s1 f1 r1 q1 => q1 _ F1 H1 (x1.set r1) (Same.refl _)
theorem js_asg {tg e : Expr} {pos : Pos} {m : M D} {st : Tgt} {js : List Nat} {G : TG} (ht : TgOk X g tg G st js) (h : JE X g W e m) (hs : swapsWithSole [tg] e pos.line X.env = pure false) (hw : swappedStores [tg] e X.env = pure none)
    (h1 : (assignEach [tg] X.env).map (·.2) = [assign tg X.env]) : JS X g W (.Assign [tg] e pos) (sE m (sStore st)) := by
  obtain ⟨p, k⟩ := ht
  refine PS.of (ps_asg h p hs hw h1) fun E σ H ⟨b, F, S, x, q⟩ => bindS x q fun d S1 v F1 H1 x1 s1 f1 r1 q1 => ?_
  unfold sStore at q1
  split at q1
  · rename_i sl' e
    exact k b F1 S1 σ H1 v d sl' _ x1 r1 e fun σ' x' _ => q1 σ' F1 H1 x' (Same.refl _)
  · exact q1.elim
/-- a, b = x, y stored from the right -/
def sPar (is : List Nat) (ds : List D) : MS := fun S => if ds.length = is.length then .next { S with sl := (is.zip ds).foldl (fun sl p => sl.set p.1 (.sh p.2)) S.sl } else .stuck
theorem js_par2 (f : Fx X g W c) {i j : Nat} {x y : Str} {a e : Expr} {ms : List (M D)} {px py pt pos pt2 : Pos} {kt k2 : Nat} (hi : locC c x = some i) (hj : locC c y = some j) (hij : i ≠ j) (ha : JAe X g W [a, e] (mSeq ms))
    (h : PS X (.Assign [.Tuple [.Name x px, .Name y py] kt pt] (.Tuple [a, e] k2 pt2) pos) (tPar i j (tG X.K g W (repL (repE X.K)) (mSeq ms)))) :
    JS X g W (.Assign [.Tuple [.Name x px, .Name y py] kt pt] (.Tuple [a, e] k2 pt2) pos) (sE (mSeq ms) (sPar [i, j])) := by
  refine PS.of h fun E σ H ⟨b, F, S, x, q⟩ => bindS x q fun ds S1 vs F1 H1 x1 s1 f1 r1 q1 => ?_
  unfold sPar at q1
  split at q1
  · rename_i hz
    match ds, hz with
    | [d, d'], _ =>
      obtain ⟨v, v', rfl, r, r'⟩ := repL2 r1
      exact ⟨v, v', rfl, q1 _ F1 H1 ((x1.set r).set r') (Same.refl _)⟩
  · exact q1.elim
theorem js_par3 {i j l : Nat} {x y z : Str} {a e e' : Expr} {ms : List (M D)} {px py pz pt pos pt2 : Pos} {kt k2 : Nat} (ha : JAe X g W [a, e, e'] (mSeq ms))
    (h : PS X (.Assign [.Tuple [.Name x px, .Name y py, .Name z pz] kt pt] (.Tuple [a, e, e'] k2 pt2) pos) (tPar3 i j l (tG X.K g W (repL (repE X.K)) (mSeq ms)))) :
    JS X g W (.Assign [.Tuple [.Name x px, .Name y py, .Name z pz] kt pt] (.Tuple [a, e, e'] k2 pt2) pos) (sE (mSeq ms) (sPar [i, j, l])) := by
  refine PS.of h fun E σ H ⟨b, F, S, x, q⟩ => bindS x q fun ds S1 vs F1 H1 x1 s1 f1 r1 q1 => ?_
  unfold sPar at q1
  split at q1
  · rename_i hz
    match ds, hz with
    | [d, d', d''], _ =>
      obtain ⟨v, v', v'', rfl, r, r', r''⟩ := repL3 r1
      exact ⟨v, v', v'', rfl, q1 _ F1 H1 (((x1.set r).set r').set r'') (Same.refl _)⟩
  · exact q1.elim
/-- name op= e, of ints -/
def augI : Operator → Int → Int → Option Int
  | .Add, i, j => some (i + j)
  | .Sub, i, j => some (i - j)
  | .Mult, i, j => if mulOk i j then some (i * j) else none
  | .FloorDiv, i, j => if divOk j then some (i.fdiv j) else none
  | .Mod, i, j => if j ≠ 0 then some (i.fmod j) else none
  | _, _, _ => none
def augD (op : Operator) : D → D → Option D
  | .int i, .int j => (augI op i j).map .int
  | _, _ => none
def sAug (op : Operator) (i : Nat) (m : M D) : MS := fun S => match S.sl[i]? with
  | some (.sh x) => sE (m.bind fun y => ofO (augD op x y)) (sSet i) S
  | _ => .stuck
theorem ip_augI (op : Operator) : PIp X op (fun x y H Q => ∃ i j k : Int, x = .int i ∧ y = .int j ∧ augI op i j = some k ∧ Q (.int k) H) := by
  intro pins s σ H x y v u Q I rx ry h
  obtain ⟨i, j, k, rfl, rfl, e, q⟩ := h
  obtain ⟨t, rfl⟩ := rx
  obtain ⟨t', rfl⟩ := ry
  have fin : EP X pins σ Q (.int k s.toks) { s with toks := s.toks + 1 } := ⟨.int k, H, I.tok _, ⟨_, rfl⟩, q⟩
  cases op with
  | Add => cases e; exact iadd_int fin
  | Sub => cases e; exact isub_int fin
  | Mult =>
    have e : (if mulOk i j then some (i * j) else none) = some k := e
    split at e
    · rename_i hz
      cases e
      exact imul_int fin (mulOk_ok hz)
    · cases e
  | FloorDiv =>
    have e : (if divOk j then some (i.fdiv j) else none) = some k := e
    split at e
    · rename_i hc'
      cases e
      unfold divOk at hc'
      rw [Bool.and_eq_true, Bool.or_eq_true, Bool.and_eq_true] at hc'
      obtain ⟨h0, h | ⟨h1, h2⟩⟩ := hc'
      · exact ifloordiv_int (of_decide_eq_true h0) fin (.inl (PyProof.noPylong_small (of_decide_eq_true h)))
      · exact ifloordiv_int (of_decide_eq_true h0) fin (.inl (PyProof.noPylong_of_log2 (of_decide_eq_true h2)))
    · cases e
  | Mod =>
    have e : (if j ≠ 0 then some (i.fmod j) else none) = some k := e
    split at e
    · rename_i hz
      cases e
      exact imod_int hz fin
    · cases e
  | _ => cases e
theorem js_aug (f : Fx X g W c) {x : Str} {i : Nat} {e : Expr} {p pos : Pos} {op : Operator} {m : M D} (hi : locC c x = some i) (h : JE X g W e m) : JS X g W (.AugAssign (.Name x p) op e pos) (sAug op i m) := by
  obtain ⟨h1, h2, ho⟩ := loc_ok hi
  have hz := f.hf x ho h2
  rw [← f.sc] at h2 hz
  rw [← f.N] at h1
  refine PS.of (ps_aug (by rw [f.N]; exact f.nd) h1 h2 h (ip_augI op) hz) fun E σ H ⟨b, F, S, x, q⟩ => ?_
  unfold sAug at q
  split at q
  · rename_i d e1
    obtain ⟨v, e2, hv⟩ := x.get e1
    refine ⟨v, e2, ?_⟩
    have q' : PostS X.K g W b F H E (sE m (fun y => sE (ofO (augD op d y)) (sSet i)) S) := by
      have : sE (m.bind fun y => ofO (augD op d y)) (sSet i) S = sE m (fun y => sE (ofO (augD op d y)) (sSet i)) S := by
        unfold sE M.bind
        cases m S <;> rfl
      rw [← this]
      exact q
    refine bindS x q' fun d2 S1 w F1 H1 x1 s1 f1 r1 q1 => ?_
    cases eo : augD op d d2 with
    | none => rw [eo] at q1; exact q1.elim
    | some d3 =>
      rw [eo] at q1
      unfold augD at eo
      split at eo
      · rename_i i1 j1
        cases ek : augI op i1 j1 with
        | none => rw [ek] at eo; cases eo
        | some k =>
          rw [ek] at eo
          cases eo
          cases dp_int hv
          cases dp_int r1
          exact ⟨i1, j1, k, rfl, rfl, ek, q1 _ F1 H1 (x1.set (.int k)) (Same.refl _)⟩
      · cases eo
  · exact q.elim

/-! ### loops -/
theorem yd_next {K : PySem.W.Frag} {b : Bs} {F1 F H H' : Hp} {S : Sto} {σ : L2.St} {ds : List D} {i : Nat} {v : V} (x : SR K g b F S σ H) (s : Same F1 F) (y : YD K F1 ds i H v H') :
    ∃ (d : D) (F' : Hp), ds[i]? = some d ∧ SR K g (b.at F H) F' ⟨[], S.bx⟩ [] H' ∧ Dp K F' v d := by
  obtain ⟨d, e, ⟨rfl, h⟩ | ⟨T, u, w, dx, dy, rfl, hT, rfl, rfl, h1, h2⟩⟩ := y
  · exact ⟨d, F, e, x.base, dp_mono s _ _ h⟩
  · obtain ⟨y1, y2⟩ := x.tup (vs := [u, w]) (ds := [dx, dy]) hT (.cons (dp_mono s _ _ h1) (.cons (dp_mono s _ _ h2) .nil))
    exact ⟨_, _, e, y1, y2⟩
theorem drop_get {α : Type} {l : List α} {i : Nat} {a : α} (h : l[i]? = some a) : l.drop i = a :: l.drop (i + 1) := by
  obtain ⟨hi, e⟩ := List.getElem?_eq_some_iff.mp h
  rw [List.drop_eq_getElem_cons hi, e]
def noSet : Expr → Bool
  | .Set .. => false
  | _ => true
theorem noSet_ok {e : Expr} {env : Env} (h : noSet e = true) : ∀ x, foldedSetIterable e env x = pure x := by
  intro x
  cases e <;> first | rfl | cases h
theorem js_for {tg it : Expr} {body : List Stmt} {pos : Pos} {mi : M (List D)} {st : Tgt} {js : List Nat} {G : TG} {mb : MS} (hp : PassesOwn (model X.prog X.w) X.A X.env X.xe) (hc : X.calm = true) (hi : JI X g W tg it mi) (ht : TgOk X g tg G st js) (hb : JSs X g W body mb)
    (hn : noSet it = true) : JS X g W (.For tg it body [] pos) (sFor mi st mb) := by
  obtain ⟨p, k⟩ := ht
  refine PS.of (ps_for hp hc hi p hb (noSet_ok hn)) fun E σ H ⟨b, F, S, x, q⟩ => bindS x q fun ds S1 J F1 H1 x1 s1 f1 wk q1 => ?_
  refine for_it wk (fun i σ H => ∃ (F : Hp) (S : Sto), SR X.K g b F S σ H ∧ Same F1 F ∧ PostS X.K g W b F H E (loopF st mb (ds.drop i) S)) ⟨F1, S1, x1, Same.refl _, q1⟩ (fun i σ H _ ⟨F, S, x, s, _⟩ => s.trans x.ff) (fun i v σ H H' hi ⟨F, S, x, s, q⟩ y => ?_) fun σ H ⟨F, S, x, s, q⟩ => ?_
  · obtain ⟨d, F', e, yb, r⟩ := yd_next x s y
    have x' := x.call yb
    have s' : Same F F' := yb.f0
    rw [drop_get e] at q
    unfold loopF at q
    cases es : st d S.sl with
    | none => rw [es] at q; exact q.elim
    | some sl' =>
      rw [es] at q
      refine k b F' S σ H' v d sl' _ x' r es fun σ' x2 _ => ⟨b, F', _, x2, ?_⟩
      have q := PostS.shift (H1 := H') q s'
      cases eb : mb { S with sl := sl' } with
      | next S2 =>
        simp only [eb] at q
        exact fun σ3 F3 H3 x3 s3 => ⟨F3, S2, x3, s.trans (s'.trans s3), q.shift s3⟩
      | cont S2 =>
        simp only [eb] at q
        exact fun σ3 F3 H3 x3 s3 => ⟨F3, S2, x3, s.trans (s'.trans s3), q.shift s3⟩
      | brk S2 => simp only [eb] at q; exact q
      | ret d2 S2 => simp only [eb] at q; exact q
      | exc c d2 bx' => simp only [eb] at q; exact q
      | stuck => simp only [eb] at q; exact q
  · rw [List.drop_length] at q
    exact q σ F H x (Same.refl _)
theorem js_while {t : Expr} {body : List Stmt} {pos : Pos} {mc : M Bool} {mb : MS} (hp : PassesOwn (model X.prog X.w) X.A X.env X.xe) (hc : JT X g W t mc) (hb : JSs X g W body mb) : JS X g W (.While t body [] pos) (sWhile mc mb) := by
  refine PS.of (ps_while hp hc hb) fun E σ H ⟨b, F, S, x, q⟩ => ?_
  refine ⟨fun m σ H => ∃ (F : Hp) (S : Sto), SR X.K g b F S σ H ∧ PostS X.K g W b F H E (loopW mc mb m S), ?_, fun m σ H ⟨F, S, x, q⟩ => ?_⟩
  · unfold sWhile at q
    split at q
    · exact ⟨_, F, S, x, q⟩
    · exact q.elim
  · cases m with
    | zero => exact q.elim
    | succ n =>
      unfold loopW at q
      refine ⟨b, F, S, x, ?_⟩
      cases ec : mc S with
      | stuck => simp only [ec] at q; exact q
      | exc c d bx' => simp only [ec] at q; exact q σ
      | ok k S1 =>
        simp only [ec] at q
        intro v F1 H1 x1 s1 f1 r1
        cases (show v = k from r1)
        have q := PostS.shift (H1 := H1) q s1
        cases k with
        | false => exact iteF (q σ F1 H1 x1 (Same.refl _))
        | true =>
          refine iteT ⟨fun σ H => ∃ (F : Hp) (S : Sto), SR X.K g b F S σ H ∧ PostS X.K g W b F H E (loopW mc mb n S), fun σ' H' h => ⟨n, Nat.lt_succ_self _, h⟩, b, F1, S1, x1, ?_⟩
          cases eb : mb S1 with
          | next S2 =>
            simp only [eb] at q
            exact fun σ3 F3 H3 x3 s3 => ⟨F3, S2, x3, q.shift s3⟩
          | cont S2 =>
            simp only [eb] at q
            exact fun σ3 F3 H3 x3 s3 => ⟨F3, S2, x3, q.shift s3⟩
          | brk S2 => simp only [eb] at q; exact q
          | ret d2 S2 => simp only [eb] at q; exact q
          | exc c d2 bx' => simp only [eb] at q; exact q
          | stuck => simp only [eb] at q; exact q
end
end Gl

set_option maxRecDepth 100000
set_option maxHeartbeats 1000000
/-! The general layer, part G: list comprehensions. -/
namespace Gl
open PySem PySem.Spec PyProof.Rows L2

def hideD : DV → DV
  | .ow _ => .un
  | x => x
def wipeD (sl : List DV) : List Nat → List DV
  | [] => sl
  | v :: vs => (wipeD sl vs).set v .un
def noOw (sl : List DV) : Prop := ∀ (i : Nat) (d : D), sl[i]? ≠ some (.ow d)
def shareJ (S : Sto) (j : Nat) : Sto := match S.sl[j]? with
  | some (.ow d) => share S j d
  | _ => S
def shareJs (S : Sto) (js : List Nat) : Sto := js.foldl shareJ S
theorem wipeD_len (sl : List DV) : ∀ vs : List Nat, (wipeD sl vs).length = sl.length
  | [] => rfl
  | v :: vs => by
    unfold wipeD
    rw [List.length_set, wipeD_len sl vs]
theorem wipeD_get {sl : List DV} {i : Nat} {x : DV} : ∀ {vs : List Nat}, (wipeD sl vs)[i]? = some x → x = .un ∨ (i ∉ vs ∧ sl[i]? = some x)
  | [], h => .inr ⟨by simp, h⟩
  | v :: vs, h => by
    unfold wipeD at h
    rcases get_set h with ⟨_, rfl⟩ | ⟨n, h⟩
    · exact .inl rfl
    · rcases wipeD_get h with e | ⟨n2, h2⟩
      · exact .inl e
      · exact .inr ⟨by simp only [List.mem_cons, not_or]; exact ⟨n, n2⟩, h2⟩
theorem hide_noOw (sl : List DV) (vs : List Nat) : noOw (wipeD (sl.map hideD) vs) := fun i d h => by
  rcases wipeD_get h with e | ⟨_, e⟩
  · cases e
  · rw [List.getElem?_map] at e
    cases z : sl[i]? with
    | none => rw [z] at e; cases e
    | some x =>
      rw [z] at e
      cases x <;> cases e
section
variable {K : PySem.W.Frag} {g : Gx} {b : Bs} {F F' H H' H1 : Hp} {S : Sto} {σ : L2.St}
theorem SR.hide (x : SR K g b F S σ H) (vs : List Nat) : SR K g (b.at F H) F ⟨wipeD (S.sl.map hideD) vs, S.bx⟩ (wipe σ vs) H where
  len := by
    show (wipeD (S.sl.map hideD) vs).length = _
    rw [wipeD_len, wipe_length, List.length_map]
    exact x.len
  ff := x.ff
  f0 := Same.refl _
  fn := fun a o h => .inl h
  nt := x.nt
  ext := Fr.refl _ _
  slot i u v e1 e2 := by
    rcases wipeD_get e1 with e | ⟨n, e⟩
    · subst e
      trivial
    · rw [List.getElem?_map] at e
      rw [wipe_out n] at e2
      cases z : S.sl[i]? with
      | none => rw [z] at e; cases e
      | some y =>
        rw [z] at e
        have q := x.slot i y v z e2
        cases y <;> cases e
        · trivial
        · exact q
        · trivial
        · exact q
  dist i j d e y _ h := absurd h (hide_noOw _ _ i d)
  box := x.box
  tabs := x.tabs
/-- the base moved up, where no slot is one's own -/
theorem SR.up (x : SR K g b F S σ H) (n : noOw S.sl) : SR K g (b.at F H) F S σ H where
  len := x.len
  ff := x.ff
  f0 := Same.refl _
  fn := fun a o h => .inl h
  nt := x.nt
  ext := Fr.refl _ _
  slot i u v e1 e2 := by
    have q := x.slot i u v e1 e2
    cases u with
    | ow d => exact absurd e1 (n i d)
    | un => trivial
    | sh d => exact q
    | bx => exact q
  dist i j d e y _ h := absurd h (n i d)
  box := x.box
  tabs := x.tabs
theorem SR.share1 (x : SR K g b F S σ H) (j : Nat) : ∃ F', SR K g b F' (shareJ S j) σ H ∧ Same F F' := by
  unfold shareJ
  split
  · rename_i d e
    obtain ⟨a, e1, h1⟩ := x.getO e
    obtain ⟨vs, hv⟩ := own_ne_nt h1
    obtain ⟨x2, s2, _⟩ := x.share e e1 h1 hv
    exact ⟨_, x2, s2⟩
  · exact ⟨F, x, Same.refl _⟩
theorem SR.shares : ∀ (js : List Nat) {F : Hp} {S : Sto}, SR K g b F S σ H → ∃ F', SR K g b F' (shareJs S js) σ H ∧ Same F F'
  | [], F, S, x => ⟨F, x, Same.refl _⟩
  | j :: js, F, S, x => by
    obtain ⟨F1, x1, s1⟩ := x.share1 j
    obtain ⟨F2, x2, s2⟩ := SR.shares js x1
    exact ⟨F2, x2, s1.trans s2⟩
theorem tabS_put {T : List (Addr × Str)} {p : Addr} {xs ys : List V} (t : LamX.Tabs T H) (h : H p = some (.lst xs)) : LamX.Tabs T (upd H p (.lst ys)) := fun q hq => by
  obtain ⟨ps, h1, h2, h3⟩ := t q hq
  have ne : q.1 ≠ p := fun z => by
    rw [z, h] at h1
    cases h1
  refine ⟨ps, by rw [upd_ne ne]; exact h1, h2, fun pos cv hc => ?_⟩
  obtain ⟨c, e1, e2⟩ := h3 pos cv hc
  have nc : c ≠ p := fun z => by
    rw [z, h] at e2
    have e3 : HO.lst xs = HO.ext _ := Option.some.inj e2
    cases e3
  exact ⟨c, e1, by rw [upd_ne nc]; exact e2⟩
/-- a list that is no slot's own is changed -/
theorem SR.put {p : Addr} {xs ys : List V} (x : SR K g b F S σ H) (n : noOw S.sl) (hF : F p = none) (h0 : b.H0 p = none) (hB : b.hb = true → p ≠ b.B) (h : H p = some (.lst xs)) : SR K g b F S σ (upd H p (.lst ys)) where
  len := x.len
  ff a o q := by
    rw [upd_ne (ne_of_none q hF)]
    exact x.ff a o q
  f0 := x.f0
  fn := x.fn
  nt := x.nt
  ext a o q := by
    have ne : a ≠ p := ne_of_none q h0
    rw [upd_ne ne]
    exact x.ext a o q
  slot i u v e1 e2 := by
    have q := x.slot i u v e1 e2
    cases u with
    | ow d => exact absurd e1 (n i d)
    | un => trivial
    | sh d => exact q
    | bx => exact q
  dist i j d e y _ h := absurd h (n i d)
  box := by
    have q := x.box
    unfold BoxOk at q ⊢
    cases e : S.bx with
    | none => rw [e] at q; exact q
    | some r =>
      obtain ⟨ds, at_⟩ := r
      rw [e] at q
      obtain ⟨h1, h2, dg, h3, h4, h5⟩ := q
      exact ⟨h1, h2, dg, by rw [upd_ne (fun z => hB h1 z.symm)]; exact h3, h4, h5⟩
  tabs := tabS_put x.tabs h
/-- a list that nobody else knows is frozen -/
theorem SR.freeze {p : Addr} {vs : List V} {bx : Bx} (x : SR K g b F ⟨[], bx⟩ [] H) (hF : F p = none) (h0 : b.H0 p = none) (hB : b.hb = true → p ≠ b.B) (h : H p = some (.lst vs)) :
    SR K g b (upd F p (.lst vs)) ⟨[], bx⟩ [] H ∧ Same F (upd F p (.lst vs)) := by
  have sm : Same F (upd F p (.lst vs)) := fun a o q => by
    rw [upd_ne (ne_of_none q hF)]
    exact q
  refine ⟨⟨rfl, fun a o q => ?_, x.f0.trans sm, fun a o q => ?_, fun a o q => ?_, x.ext, fun i u v e1 e2 => by simp at e1, fun i j d e y _ h => by simp at h, ?_, x.tabs⟩, sm⟩
  · by_cases e : a = p
    · subst e
      rw [upd_same] at q
      cases q
      exact h
    · rw [upd_ne e] at q
      exact x.ff a o q
  · by_cases e : a = p
    · subst e
      exact .inr (Vac.of h0)
    · rw [upd_ne e] at q
      exact x.fn a o q
  · by_cases e : a = p
    · subst e
      rw [upd_same] at q
      cases q
      exact lst_nt vs
    · rw [upd_ne e] at q
      exact x.nt a o q
  · have q := x.box
    unfold BoxOk at q ⊢
    have eb : (⟨[], bx⟩ : Sto).bx = bx := rfl
    rw [eb] at q ⊢
    cases e : bx with
    | none => rw [e] at q; exact q
    | some r =>
      obtain ⟨ds, at_⟩ := r
      rw [e] at q
      obtain ⟨h1, h2, dg, h3, h4, h5⟩ := q
      exact ⟨h1, by show upd F p (.lst vs) b.B = none; rw [upd_ne (fun z => hB h1 z.symm)]; exact h2, dg, h3, dp_mono sm _ _ h4, h5⟩
/-- where a new object is no frozen one -/
theorem SR.fnone {F0 : Hp} {H0 : Hp} {p : Addr} {o : HO} (y : SR K g (b.at F0 H0) F S σ H) (hF : F0 p = none) (hH : H0 p = some o) (nt : notTbl o) : F p = none := by
  cases e : F p with
  | none => rfl
  | some u =>
    rcases y.fn p u e with q | q
    · have q' : F0 p = some u := q
      rw [hF] at q'
      cases q'
    · have q' : Vac H0 p := q
      exact (q'.not hH nt).elim
end

theorem wipe_in {σ : L2.St} {i : Nat} : ∀ {vs : List Nat}, i ∈ vs → i < σ.length → (wipe σ vs)[i]? = some none
  | v :: vs, h, hi => by
    unfold wipe
    by_cases e : v = i
    · subst e
      rw [List.getElem?_set_self (by rw [wipe_length]; exact hi)]
    · rw [List.getElem?_set_ne e]
      exact wipe_in ((List.mem_cons.mp h).resolve_left (fun z => e z.symm)) hi
theorem wipe_twice (σ : L2.St) (vs : List Nat) : wipe (wipe σ vs) vs = wipe σ vs := by
  apply List.ext_getElem?
  intro i
  by_cases h : i ∈ vs
  · by_cases hi : i < σ.length
    · rw [wipe_in h (by rw [wipe_length]; exact hi), wipe_in h hi]
    · rw [List.getElem?_eq_none (by rw [wipe_length, wipe_length]; omega), List.getElem?_eq_none (by rw [wipe_length]; omega)]
  · rw [wipe_out h]

/-! ### one clause -/
/-- the items that a comprehension gives -/
def compL (sl : List DV) (st : Tgt) (mt : M Bool) (me : M D) : List D → Bx → Option (List D × Bx)
  | [], bx => some ([], bx)
  | d :: ds, bx => (st d sl).bind fun sl' => match mt ⟨sl', bx⟩ with
    | .ok false S1 => compL sl st mt me ds S1.bx
    | .ok true S1 => match me S1 with
      | .ok y S2 => (compL sl st mt me ds S2.bx).map fun p => (y :: p.1, p.2)
      | _ => none
    | _ => none
def mComp (js vs : List Nat) (mi : M (List D)) (st : Tgt) (mt : M Bool) (me : M D) : M D := mi.bind fun ds S =>
  match compL (wipeD ((shareJs S js).sl.map hideD) vs) st mt me ds (shareJs S js).bx with
  | some (ys, bx') => if sumOk ys.length then .ok (.list ys) { shareJs S js with bx := bx' } else .stuck
  | none => .stuck
theorem shareJ_bx (S : Sto) (j : Nat) : (shareJ S j).bx = S.bx := by
  unfold shareJ
  split <;> rfl
section
variable {X : Cx} {g : Gx} {W : WX} {c : Ct}
theorem je_lc {own : List (Str × Nat)} {js ks : List Nat} {mi : M (List D)} {G : TG} {st : Tgt} {mt : M Bool} {me : M D}
    (hks : ∀ k ∈ ks, k ∈ own.map (·.2)) (hG : ∀ (b : Bs) (F : Hp) (S : Sto) (σ : L2.St) (H : Hp) (v : V) (d : D) (sl' : List DV) (Q : L2.St → Hp → Prop), SR X.K g b F S σ H → Dp X.K F v d → st d S.sl = some sl' →
      (∀ σ', SR X.K g b F { S with sl := sl' } σ' H → (∀ vs : List Nat, (∀ j ∈ ks, j ∈ vs) → wipe σ' vs = wipe σ vs) → Q σ' H) → G v σ H Q)
    {σ : L2.St} {H : Hp} {Q : VK} (h : tG X.K g W (repE X.K) (mComp js (own.map (·.2)) mi st mt me) σ H Q) :
    tLc (tG X.K g W (repIt X.K) mi) G (tG X.K g noW repT mt) (tG X.K g noW (repE X.K) me) (own.map (·.2)) σ H Q := by
  obtain ⟨b, F, S, x, q⟩ := h
  generalize own.map (·.2) = vs at *
  refine bindP x q fun ds S1 J F1 H1 x1 s1 f1 wk q1 => fun Dd hD => ?_
  obtain ⟨F2, x2, s2⟩ := x1.shares js
  generalize shareJs S1 js = T at *
  have q1 := q1.shift s2 (Fr.refl _ _)
  cases ec : compL (wipeD (T.sl.map hideD) vs) st mt me ds T.bx with
  | none => rw [ec] at q1; exact q1.elim
  | some p =>
    obtain ⟨ys, bx'⟩ := p
    rw [ec] at q1
    dsimp only at q1
    split at q1
    rotate_left
    · exact q1.elim
    rename_i hz
    have hz := sumOk_le hz
    have no := hide_noOw T.sl vs
    have x3 := x2.hide vs
    generalize wipeD (T.sl.map hideD) vs = sl0 at *
    have hDB : b.hb = true → Dd ≠ b.B := fun hb z => by
      have e := x2.box
      unfold BoxOk at e
      cases eb : T.bx with
      | none => rw [eb] at e; rw [e] at hb; cases hb
      | some r =>
        obtain ⟨a1, a2⟩ := r
        rw [eb] at e
        obtain ⟨_, _, dg, e3, _⟩ := e
        rw [← z, hD] at e3
        cases e3
    have hF2 : F2 Dd = none := by
      cases z : F2 Dd with
      | none => rfl
      | some u => rw [x2.ff _ _ z] at hD; cases hD
    -- the invariant
    refine lc_it wk (fun i H => ∃ (F : Hp) (bx : Bx) (accV : List V) (acc rest : List D), SR X.K g (b.at F2 H1) F ⟨sl0, bx⟩ (wipe σ vs) H ∧ H Dd = some (.lst accV) ∧ F Dd = none ∧ DpAll X.K F accV acc ∧ compL sl0 st mt me (ds.drop i) bx = some (rest, bx') ∧ acc ++ rest = ys)
      ⟨F2, T.bx, [], [], ys, ?_, upd_same, hF2, .nil, by simpa using ec, rfl⟩ (fun i H _ ⟨F, _, _, _, _, y, _⟩ => s2.trans (y.f0.trans y.ff)) (fun i v H H' hi ⟨F, bx, accV, acc, rest, y, hDl, hFD, da, el, ey⟩ yy => ?_) fun H ⟨F, bx, accV, acc, rest, y, hDl, hFD, da, el, ey⟩ => ?_
    · have x4 := x3.call (x3.newU (o := .lst []) hD)
      exact ⟨x4.len, x4.ff, x4.f0, x4.fn, x4.nt, x4.ext, x4.slot, x4.dist, x4.box, x4.tabs⟩
    · -- a turn
      obtain ⟨d, F', e, yb, r⟩ := yd_next y (s2.trans y.f0) yy
      have y' : SR X.K g (b.at F2 H1) F' ⟨sl0, bx⟩ (wipe σ vs) H' := y.call yb
      have hD' : H' Dd = some (.lst accV) := yb.ext Dd _ hDl hDB (lst_nt accV)
      have hFD' : F' Dd = none := yb.fnone hFD hDl (lst_nt _)
      have da' := dpAll_mono (show Same F F' from yb.f0) _ _ da
      rw [drop_get e] at el
      unfold compL at el
      cases es : st d sl0 with
      | none => rw [es] at el; cases el
      | some sl' =>
        rw [es, Option.bind_some] at el
        refine hG _ F' ⟨sl0, bx⟩ (wipe σ vs) H' v d sl' _ (y'.up no) r es fun σ2 x5 w5 => ⟨(w5 vs hks).trans (wipe_twice σ vs), _, F', ⟨sl', bx⟩, x5, ?_⟩
        cases em : mt ⟨sl', bx⟩ with
        | stuck => rw [em] at el; cases el
        | exc n d2 b2 => rw [em] at el; cases el
        | ok k S1 =>
          rw [em] at el
          intro v3 F3 H3 x6 s6 f6 r6
          cases (show v3 = k from r6)
          have hF3 : F3 Dd = none := x6.fnone hFD' hD' (lst_nt _)
          have hD3 : H3 Dd = some (.lst accV) := f6 Dd _ hD' hDB (lst_nt accV)
          cases k with
          | false =>
            dsimp only at el
            exact iteF ⟨F3, S1.bx, accV, acc, rest, y'.call x6.forget, hD3, hF3, dpAll_mono s6 _ _ da', el, ey⟩
          | true =>
            dsimp only at el
            refine iteT ⟨_, F3, S1, x6, ?_⟩
            cases ee : me S1 with
            | stuck => rw [ee] at el; cases el
            | exc n d2 b2 => rw [ee] at el; cases el
            | ok yd S2 =>
              rw [ee] at el
              dsimp only at el
              cases er : compL sl0 st mt me (ds.drop (i + 1)) S2.bx with
              | none => rw [er] at el; cases el
              | some p2 =>
                rw [er] at el
                obtain ⟨r2, b2⟩ := p2
                cases el
                intro v4 F4 H4 x7 s7 f7 r7
                have hF4 : F4 Dd = none := x7.fnone hFD' hD' (lst_nt _)
                have hD4 : H4 Dd = some (.lst accV) := f7 Dd _ hD3 hDB (lst_nt accV)
                have x8 : SR X.K g (b.at F2 H1) F4 ⟨sl0, S2.bx⟩ (wipe σ vs) H4 := y'.call x7.forget
                refine ⟨accV, hD4, ?_, F4, S2.bx, accV ++ [v4], acc ++ [yd], r2, x8.put no hF4 hD hDB hD4, upd_same, hF4, dpl_app (dpAll_mono (s6.trans s7) _ _ da') (.cons r7 .nil), er, by rw [← ey]; simp⟩
                have l1 := dpl_len da
                have l2 := congrArg List.length ey
                rw [List.length_append, List.length_cons] at l2
                omega
    · -- the end
      rw [List.drop_length] at el
      cases el
      rw [List.append_nil] at ey
      subst ey
      obtain ⟨y1, sm⟩ := (SR.forget y).freeze hFD hD hDB hDl
      exact q1 _ _ H (x2.call y1) (y.f0.trans sm) y.ext (.lst (.inl (.inl upd_same)) (dpAll_mono sm _ _ da))
end
end Gl

set_option maxRecDepth 100000
set_option maxHeartbeats 1000000
/-! The general layer, part G a: lists of one's own; the box of digits. -/
namespace Gl
open PySem PySem.Spec PyProof.Rows L2

section
variable {K : PySem.W.Frag} {g : Gx} {b : Bs} {F F' H H' H1 : Hp} {S : Sto} {σ : L2.St}
/-- a list of one's own is rewritten -/
theorem SR.putOw {i : Nat} {ds es : List D} {a : Addr} {vs ws : List V} (x : SR K g b F S σ H) (e : S.sl[i]? = some (.ow (.list ds))) (es' : σ[i]? = some (some (.ref a))) (o : Own K b F H a (.list ds)) (h : H a = some (.lst vs)) (hd : DpAll K F ws es) :
    SR K g b F { S with sl := S.sl.set i (.ow (.list es)) } σ (upd H a (.lst ws)) where
  len := by
    show (S.sl.set i _).length = _
    rw [List.length_set]
    exact x.len
  ff c u q := by
    rw [upd_ne (ne_of_none q o.1)]
    exact x.ff c u q
  f0 := x.f0
  fn := x.fn
  nt := x.nt
  ext c u q nb nt := by
    have ne : c ≠ a := fun z => by
      subst z
      exact o.2.1.not q nt
    rw [upd_ne ne]
    exact x.ext c u q nb nt
  slot j u y e1 e2 := by
    rcases get_set e1 with ⟨rfl, rfl⟩ | ⟨n1, e1⟩
    · rw [es'] at e2
      cases e2
      exact ⟨a, rfl, o.1, o.2.1, o.2.2.1, ws, es, rfl, upd_same, hd⟩
    · have q := x.slot j u y e1 e2
      cases u with
      | un => trivial
      | sh d => exact q
      | bx => exact q
      | ow d =>
        obtain ⟨c, rfl, h1, h2, h3, vs', ds', e3, e4, h4⟩ := q
        have ne : c ≠ a := fun z => by
          subst z
          exact x.dist j i d _ _ n1 e1 e e2 es'
        exact ⟨c, rfl, h1, h2, h3, vs', ds', e3, by rw [upd_ne ne]; exact e4, h4⟩
  dist j k d1 d2 y n e1 e2 e3 := by
    have get : ∀ {j : Nat} {d : D}, (S.sl.set i (.ow (.list es)))[j]? = some (.ow d) → ∃ d', S.sl[j]? = some (.ow d') := fun {j d} h => by
      rcases get_set h with ⟨rfl, _⟩ | ⟨_, h⟩
      · exact ⟨_, e⟩
      · exact ⟨_, h⟩
    obtain ⟨d1', f1⟩ := get e1
    obtain ⟨d2', f2⟩ := get e2
    exact x.dist j k d1' d2' y n f1 f2 e3
  box := by
    have q := x.box
    unfold BoxOk at q ⊢
    have eb : ({ S with sl := S.sl.set i (.ow (.list es)) } : Sto).bx = S.bx := rfl
    rw [eb]
    cases z : S.bx with
    | none => rw [z] at q; exact q
    | some r =>
      obtain ⟨dd, at_⟩ := r
      rw [z] at q
      obtain ⟨h1, h2, dg, h3, h4, h5⟩ := q
      exact ⟨h1, h2, dg, by rw [upd_ne (fun z => o.2.2.1 h1 z.symm)]; exact h3, h4, h5⟩
  tabs := tabS_put x.tabs h
/-- a new list of one's own comes into a slot -/
theorem SR.setOw {i : Nat} {ds : List D} {p : Addr} {vs : List V} (x : SR K g b F S σ H) (hp : H p = none) (hd : DpAll K F vs ds) : SR K g b F { S with sl := S.sl.set i (.ow (.list ds)) } (σ.set i (some (.ref p))) (upd H p (.lst vs)) := by
  have y := x.call (x.newU (o := .lst vs) hp)
  have hF : F p = none := by
    cases z : F p with
    | none => rfl
    | some u => rw [x.ff _ _ z] at hp; cases hp
  have hB : b.hb = true → p ≠ b.B := fun hb z => by
    have q := x.box
    unfold BoxOk at q
    cases eb : S.bx with
    | none => rw [eb] at q; rw [q] at hb; cases hb
    | some r =>
      obtain ⟨dd, at_⟩ := r
      rw [eb] at q
      obtain ⟨_, _, dg, h3, _⟩ := q
      rw [← z, hp] at h3
      cases h3
  have hV : Vac b.H0 p := fun o q nt => by
    by_cases nb : b.hb = true → p ≠ b.B
    · rw [x.ext p o q nb nt] at hp
      cases hp
    · exact nb hB
  refine ⟨?_, y.ff, y.f0, y.fn, y.nt, y.ext, fun j u w e1 e2 => ?_, fun j k d1 d2 w n e1 e2 e3 => ?_, y.box, y.tabs⟩
  · show (S.sl.set i _).length = (σ.set i _).length
    rw [List.length_set, List.length_set]
    exact x.len
  · rcases get_set e1 with ⟨rfl, rfl⟩ | ⟨n1, e1⟩
    · rcases get_set e2 with ⟨_, rfl⟩ | ⟨n2, _⟩
      · exact ⟨p, rfl, hF, hV, hB, vs, ds, rfl, upd_same, hd⟩
      · exact absurd rfl n2
    · rcases get_set e2 with ⟨z, _⟩ | ⟨_, e2⟩
      · exact absurd z n1
      · exact y.slot j u w e1 e2
  · have off : ∀ {j : Nat} {d : D} {w : Option V}, j ≠ i → S.sl[j]? = some (.ow d) → σ[j]? = some w → w ≠ some (.ref p) := fun {j d w} n f1 f2 z => by
      subst z
      obtain ⟨c, e, h⟩ := x.slot j _ _ f1 f2
      cases e
      obtain ⟨vs', hv⟩ := own_ne_nt h
      rw [hp] at hv
      cases hv
    intro e4
    rcases get_set e3 with ⟨rfl, rfl⟩ | ⟨n1, g3⟩
    · rcases get_set e4 with ⟨z, _⟩ | ⟨n2, g4⟩
      · exact n z.symm
      · rcases get_set e2 with ⟨z, _⟩ | ⟨_, g2⟩
        · exact n2 z
        · exact off n2 g2 g4 rfl
    · rcases get_set e1 with ⟨z, _⟩ | ⟨_, g1⟩
      · exact n1 z
      rcases get_set e4 with ⟨rfl, rfl⟩ | ⟨n2, g4⟩
      · exact off n1 g1 g3 rfl
      · rcases get_set e2 with ⟨z, _⟩ | ⟨_, g2⟩
        · exact n2 z
        · exact x.dist j k d1 d2 w n g1 g2 g3 g4
/-- the box's place is moved -/
theorem SR.putBx {ds : List Int} {at_ at' : Int} {dg : Addr} (x : SR K g b F S σ H) (e : S.bx = some (ds, at_)) (h3 : H b.B = some (.lst [.ref dg, .int at_])) (h4 : Dp K F (.ref dg) (.list (ds.map .int))) (h5 : True) :
    SR K g b F { S with bx := some (ds, at') } σ (upd H b.B (.lst [.ref dg, .int at'])) := by
  have q := x.box
  unfold BoxOk at q
  rw [e] at q
  obtain ⟨hb, hF, _⟩ := q
  refine ⟨x.len, fun c u z => ?_, x.f0, x.fn, x.nt, fun c u z nb nt => ?_, fun j u y e1 e2 => ?_, x.dist, ⟨hb, hF, dg, upd_same, h4, h5⟩, tabS_put x.tabs h3⟩
  · rw [upd_ne (ne_of_none z hF)]
    exact x.ff c u z
  · rw [upd_ne (nb hb)]
    exact x.ext c u z nb nt
  · have q := x.slot j u y e1 e2
    cases u with
    | un => trivial
    | sh d => exact q
    | bx => exact q
    | ow d =>
      obtain ⟨c, rfl, h1, h2, h3', vs', ds', e3, e4, h4'⟩ := q
      exact ⟨c, rfl, h1, h2, h3', vs', ds', e3, by rw [upd_ne (h3' hb)]; exact e4, h4'⟩
theorem SR.bxAt {ds : List Int} {at_ : Int} (x : SR K g b F S σ H) (e : S.bx = some (ds, at_)) : ∃ dg, H b.B = some (.lst [.ref dg, .int at_]) ∧ Dp K F (.ref dg) (.list (ds.map .int)) ∧ True := by
  have q := x.box
  unfold BoxOk at q
  rw [e] at q
  exact q.2.2
end
def notSl : Expr → Bool
  | .Slice .. => false
  | _ => true
/-! ### reading and writing the box -/
def mBox (i : Nat) (k : Int) (m : M D) : M D := fun S => match S.sl[i]?, S.bx with
  | some .bx, some (ds, at_) => if k = 0 then .ok (.list (ds.map .int)) S else if k = 1 then .ok (.int at_) S else .stuck
  | some .bx, none => .stuck
  | _, _ => m S
def sBox (i : Nat) (m : M D) : MS := fun S => match S.sl[i]?, S.bx with
  | some .bx, some _ => sE m (fun d S1 => match d, S1.bx with
    | .int v, some (ds, _) => .next { S1 with bx := some (ds, v) }
    | _, _ => .stuck) S
  | _, _ => .stuck
def sOwn (i : Nat) (m : M (List D)) : MS := sE m fun ds S => if sumOk ds.length = true then .next { S with sl := S.sl.set i (.ow (.list ds)) } else .stuck
def sAppend (i : Nat) (m : M D) : MS := fun S => match S.sl[i]? with
  | some (.ow _) => sE m (fun d S1 => match S1.sl[i]? with
    | some (.ow (.list ds)) => if sumOk (ds.length + 1) = true then .next { S1 with sl := S1.sl.set i (.ow (.list (ds ++ [d]))) } else .stuck
    | _ => .stuck) S
  | _ => .stuck
def sPutAt (i : Nat) (mi mv : M D) : MS := fun S => match S.sl[i]? with
  | some (.ow _) => sE mv (fun d S1 => match S1.sl[i]? with
    | some (.ow _) => sE mi (fun k S2 => match S2.sl[i]?, k with
      | some (.ow (.list ds)), .int k => match ixN ds.length k with
        | some j => .next { S2 with sl := S2.sl.set i (.ow (.list (ds.set j d))) }
        | none => .stuck
      | _, _ => .stuck) S1
    | _ => .stuck) S
  | _ => .stuck
def isBx (o : Option DV) : Bool := match o with
  | some .bx => true
  | _ => false
def sSub (one : Bool) (i : Nat) (mi m : M D) : MS := fun S => if isBx S.sl[i]? = true then (if one = true then sBox i m S else .stuck) else sPutAt i mi m S
section
variable {X : Cx} {g : Gx} {W : WX} {c : Ct}
theorem je_box (f : Fx X g W c) {x : Str} {i : Nat} {k : Int} {j : Nat} {p pos p2 : Pos} {m : M D} (hi : slotC c x = some i) (h : JE X g W (.Subscript (.Name x p) (.Constant (.int k) j p2) pos) m) : JE X g W (.Subscript (.Name x p) (.Constant (.int k) j p2) pos) (mBox i k m) := by
  refine ⟨fun pins s σ H Q I ⟨b, F, S, y, q⟩ => ?_⟩
  have px := pe_ix (pos := pos) (r := rIxL X.K) ix_list (pe_slot f (pos := p) hi) (pe_int (X := X) (i := k) (j := j) (pos := p2)) (fun _ _ => rfl)
  cases eb : S.bx with
  | none =>
    unfold mBox at q
    rw [eb] at q
    cases es : S.sl[i]? with
    | none => rw [es] at q; exact h.run pins s σ H Q I ⟨b, F, S, y, q⟩
    | some u =>
      rw [es] at q
      cases u with
      | bx => exact q.elim
      | un => exact h.run pins s σ H Q I ⟨b, F, S, y, q⟩
      | sh d => exact h.run pins s σ H Q I ⟨b, F, S, y, q⟩
      | ow d => exact h.run pins s σ H Q I ⟨b, F, S, y, q⟩
  | some r =>
    obtain ⟨ds, at_⟩ := r
    unfold mBox at q
    rw [eb] at q
    cases es : S.sl[i]? with
    | none => rw [es] at q; exact h.run pins s σ H Q I ⟨b, F, S, y, q⟩
    | some u =>
      rw [es] at q
      cases u with
      | un => exact h.run pins s σ H Q I ⟨b, F, S, y, q⟩
      | sh d => exact h.run pins s σ H Q I ⟨b, F, S, y, q⟩
      | ow d => exact h.run pins s σ H Q I ⟨b, F, S, y, q⟩
      | bx =>
        obtain ⟨dg, h3, h4, h5⟩ := y.bxAt eb
        obtain ⟨hb, e2⟩ := y.getB es
        dsimp only at q
        refine px.run pins s σ H Q I ⟨.ref b.B, e2, ?_⟩
        split at q
        · rename_i hk
          subst hk
          exact ⟨b.B, _, 0, .ref dg, rfl, rfl, .inl (.inl h3), rfl, q _ F H y (Same.refl _) (Fr.refl _ _) h4⟩
        · split at q
          · rename_i hk
            subst hk
            exact ⟨b.B, _, 1, .int at_, rfl, rfl, .inl (.inl h3), rfl, q _ F H y (Same.refl _) (Fr.refl _ _) (.int _)⟩
          · exact q.elim
theorem js_box (f : Fx X g W c) {x : Str} {i j : Nat} {e : Expr} {p p2 pos pos' : Pos} {m : M D} (hi : slotC c x = some i) (h : JE X g W e m) (hn : notComp e = true) : JS X g W (.Assign [.Subscript (.Name x p) (.Constant (.int 1) j p2) pos] e pos') (sBox i m) := by
  refine PS.of (ps_asg h (pg_sub (pe_slot f (pos := p) hi) (pe_int (X := X) (i := 1) (j := j) (pos := p2)) set_list) (swaps_no (t := some (.Subscript (.Name x p) (.Constant (.int 1) j p2) pos)) (l := pos'.line) (env := X.env) hn) (by cases e <;> rfl) rfl) fun E σ H ⟨b, F, S, y, q⟩ => ?_
  unfold sBox at q
  split at q
  · rename_i ds0 es eb
    refine bindS y q fun d S1 v F1 H1 x1 s1 f1 r1 q1 => ?_
    have eb1 : S1.bx.isSome = true := by
      rw [← x1.hb, y.hb, eb]
      rfl
    split at q1
    · rename_i d' b' v' ds at_ e2
      cases dp_int r1
      obtain ⟨hb, e3⟩ := y.getB es
      obtain ⟨dg, h3, h4, h5⟩ := x1.bxAt e2
      refine ⟨.ref b.B, e3, b.B, _, 1, 1, rfl, rfl, h3, rfl, ?_⟩
      exact q1 σ F1 _ (x1.putBx e2 h3 h4 h5) (Same.refl _)
    · exact q1.elim
  · exact q.elim
theorem js_own (f : Fx X g W c) {x : Str} {i : Nat} {es : List Expr} {p pos p2 : Pos} {ms : List (M D)} (hi : locC c x = some i) (h : JAe X g W es (mSeq ms)) : JS X g W (.Assign [.Name x p] (.List es p2) pos) (sOwn i (mSeq ms)) := by
  refine PS.of (ps_asg (pe_lst h) (pg_loc f hi) rfl rfl rfl) fun E σ H ⟨b, F, S, y, q⟩ => bindS y q fun ds S1 vs F1 H1 x1 s1 f1 r1 q1 => ?_
  split at q1
  · rename_i hz
    have da := repL_dpAll r1
    exact ⟨by rw [r1.1]; exact sumOk_le hz, fun p hp => q1 _ F1 _ (x1.setOw hp da) (Same.refl _)⟩
  · exact q1.elim
theorem js_append (f : Fx X g W c) {x : Str} {i : Nat} {e : Expr} {p p2 cpos pos : Pos} {m : M D} (hi : slotC c x = some i) (h : JE X g W e m) (hs : noStar [e] = true) (hl : (p2.endLine == cpos.line) = true) :
    JS X g W (.Expr (.Call (.Attribute (.Name x p) "append" p2) [e] [] cpos) pos) (sAppend i m) := by
  have hfew : ((backTo cpos (starEach [e] X.env)).all (fun x => !x.1) && (backToKw cpos (keywordEach [] X.env)).all (fun x => x.1.isSome) && decide ([e].length + ([] : List Keyword).length + (if ([] : List Keyword).isEmpty then 0 else 1) < 30)) = true := by
    rw [star_cons hs]
    rfl
  have pe := pe_bm (cpos := cpos) (apos := p2) PySem.F.plainAttrs_list PySem.F.slot_list_append PySem.F.type_list_append mt_append (pe_slot f (pos := p) hi) (pa_cons h pa_nil (star_cons hs)) rfl hfew hl (star_cons hs) (star_any (noStar_tail hs))
  refine PS.of (ps_expr pe rfl) fun E σ H ⟨b, F, S, y, q⟩ => ?_
  unfold sAppend at q
  split at q
  · rename_i d0 es
    obtain ⟨a, e1, o1⟩ := y.getO es
    obtain ⟨vs0, hv0⟩ := own_ne_nt o1
    refine ⟨.ref a, e1, .inl ⟨rfl, vs0, .inl (.inl hv0)⟩, ?_⟩
    refine bindS y q fun d S1 v F1 H1 x1 s1 f1 r1 q1 => ?_
    split at q1
    · rename_i ds e2
      split at q1
      · rename_i hz
        obtain ⟨a', e3, o3⟩ := x1.getO e2
        rw [e1] at e3
        cases e3
        obtain ⟨o4, o5, o6, vs, ds', e4, e5, e6⟩ := id o3
        cases e4
        have hz := sumOk_le hz
        have hl := dpl_len e6
        refine ⟨a, vs, v, rfl, rfl, e5, by omega, ?_⟩
        exact q1 σ F1 _ (x1.putOw e2 e1 o3 e5 (dpl_app e6 (.cons r1 .nil))) (Same.refl _)
      · exact q1.elim
    · exact q1.elim
  · exact q.elim
theorem js_putAt (f : Fx X g W c) {x : Str} {i : Nat} {ei e : Expr} {p pos pos' : Pos} {mi m : M D} (hi : slotC c x = some i) (hm : JE X g W ei mi) (h : JE X g W e m) (hn : notComp e = true) (hs : notSl ei = true) : JS X g W (.Assign [.Subscript (.Name x p) ei pos] e pos') (sPutAt i mi m) := by
  have ha : ∀ v, assign (.Subscript (.Name x p) ei pos) X.env v = (do
      let ov ← holding [v] (eval (.Name x p) X.env)
      let iv ← holding [v, ov] (eval ei X.env)
      standAt pos
      holding [v, ov, iv] (setItem ov iv v)
      release [v, ov, iv] []) := fun v => by cases ei <;> first | rfl | cases hs
  refine PS.of (ps_asg h (pg_sub (pe_slot f (pos := p) hi) hm set_list ha) (swaps_no (t := some (.Subscript (.Name x p) ei pos)) (l := pos'.line) (env := X.env) hn) (by cases e <;> rfl) rfl) fun E σ H ⟨b, F, S, y, q⟩ => ?_
  unfold sPutAt at q
  split at q
  · rename_i d0 es
    refine bindS y q fun d S1 v F1 H1 x1 s1 f1 r1 q1 => ?_
    split at q1
    · rename_i d2 e2
      obtain ⟨a, e3, o3⟩ := x1.getO e2
      refine ⟨.ref a, e3, ?_⟩
      refine bindS x1 q1 fun k S2 w F2 H2 x2 s2 f2 r2 q2 => ?_
      split at q2
      · rename_i ds k e4
        split at q2
        · rename_i j hj
          cases dp_int r2
          obtain ⟨a', e5, o5⟩ := x2.getO e4
          rw [e3] at e5
          cases e5
          obtain ⟨o6, o7, o8, vs, ds', e6, e7, e8⟩ := id o5
          cases e6
          refine ⟨a, vs, k, j, rfl, rfl, e7, by rw [dpl_len e8]; exact hj, ?_⟩
          exact q2 σ F2 _ (x2.putOw e4 e3 o5 e7 (dpl_set (dp_mono s2 _ _ r1) j e8)) (Same.refl _)
        · exact q2.elim
      · exact q2.elim
    · exact q1.elim
  · exact q.elim
end
end Gl

set_option maxRecDepth 100000
set_option maxHeartbeats 1000000
/-! The general layer, part H: built-ins by their names; the compiler of expressions. -/
namespace Gl
open PySem PySem.Spec PyProof.Rows L2

/-! ### isinstance -/
def tyD : D → Option String
  | .none => some "NoneType"
  | .bool _ => some "bool"
  | .int _ => some "int"
  | .str _ => some "str"
  | .list _ => some "list"
  | .tuple _ => some "tuple"
  | .dict _ => none
def isaB (t T : String) : Bool := t == T || (t == "bool" && T == "int")
def typesK : List String := ["int", "bool", "tuple", "list", "str"]
def typeOfName (x : Str) : Option String := typesK.find? fun T => decide (x = Str.ofString T)
def instD (T : String) (d : D) : Option D := (tyD d).map fun t => .bool (isaB t T)
theorem kit_tab : (["NoneType", "bool", "int", "str", "list", "tuple"].all fun t => typesK.all fun T => kitB t T == some (isaB t T)) = true := by decide +kernel
theorem kit_ok {d : D} {t T : String} (h : tyD d = some t) (hT : T ∈ typesK) : kitB t T = some (isaB t T) := by
  have ht : t ∈ ["NoneType", "bool", "int", "str", "list", "tuple"] := by
    cases d <;> cases h <;> decide
  have q := List.all_eq_true.mp (List.all_eq_true.mp kit_tab t ht) T hT
  simpa using q
theorem tyX_of {K : PySem.W.Frag} {b : Bs} {F H : Hp} {v : V} {d : D} {t : String} (s : Same F H) (r : BRep K b F H v d) (h : tyD d = some t) : TyX K H v (.type t) := by
  cases d with
  | none => cases h; rw [r.none_]; exact .base .non
  | bool k => cases h; rw [r.bool_]; exact .base (.bl _)
  | int i => cases h; rw [r.int_]; exact .base (.int _)
  | str z => cases h; rw [r.str_]; exact .base (.str _)
  | list ds =>
    cases h
    obtain ⟨a, vs, rfl, h1, _⟩ := r.list s
    rcases h1 with (h1 | ⟨o, h1⟩) | ⟨o, its, n, e, c, _⟩
    · exact .base (.lst h1)
    · exact .base (.frz h1)
    · exact .kList e c
  | tuple ds =>
    cases h
    obtain ⟨a, vs, rfl, h1, _⟩ := r.tuple s
    rcases h1 with (h1 | ⟨o, h1⟩) | ⟨o, its, n, e, c, _⟩
    · exact .base (.tup h1)
    · exact .fTuple h1
    · exact .kTuple e c
  | dict _ => cases h
theorem typeOfName_ok {x : Str} {T : String} (h : typeOfName x = some T) : T ∈ typesK ∧ x = Str.ofString T := by
  unfold typeOfName at h
  exact ⟨List.mem_of_find?_eq_some h, by simpa using List.find?_some h⟩
theorem type_facts {T : String} (h : T ∈ typesK) : bootBuiltins (Str.ofString T) = some (.type T) ∧ Str.ofString T ∈ blts ∧ Str.ofString T ≠ "__name__" ∧ (Str.ofString T == ("__debug__" : Str)) = false := by
  simp only [typesK, List.mem_cons, List.not_mem_nil, or_false] at h
  rcases h with rfl | rfl | rfl | rfl | rfl
  · exact ⟨boot_int, by decide +kernel, by decide +kernel, by decide +kernel⟩
  · exact ⟨boot_bool, by decide +kernel, by decide +kernel, by decide +kernel⟩
  · exact ⟨boot_tuple, by decide +kernel, by decide +kernel, by decide +kernel⟩
  · exact ⟨boot_list, by decide +kernel, by decide +kernel, by decide +kernel⟩
  · exact ⟨boot_str, by decide +kernel, by decide +kernel, by decide +kernel⟩

section
variable {X : Cx} {g : Gx} {W : WX} {c : Ct}
theorem je_inst (f : Fx X g W c) {x y : Str} {T : String} {e : Expr} {p p2 pos : Pos} {m : M D} (hx : x = "isinstance") (hg : isG c x = true) (hy : typeOfName y = some T) (hgy : isG c y = true) (hs : noStar [e, .Name y p2] = true) (h : JB X g W e m) :
    JE X g W (.Call (.Name x p) [e, .Name y p2] [] pos) (mOp1 (instD T) m) := by
  obtain ⟨h1, rfl⟩ := typeOfName_ok hy
  obtain ⟨b1, b2, b3, b4⟩ := type_facts h1
  subst hx
  have gx := (isG_ok f hg).1
  have gy := (isG_ok f hgy).1
  have ta : PE X (.Name (Str.ofString T) p2) (tC (.ty T)) := pe_bltn gy (f.glo.bl _ b2) b1 rfl b3 b4
  refine PE.of (pe_callB call_isi gx (f.glo.bl _ (by decide +kernel)) boot_isinstance (pa_cons h (pa_cons ta pa_nil rfl) (star_cons hs)) (by decide) (by decide) (star_cons hs) (star_any (noStar_tail hs))) fun σ H Q ⟨b, F, S, x, q⟩ => bindP x q fun d S1 v F1 H1 x1 s1 f1 r1 q1 => ?_
  obtain ⟨d2, e2, q2⟩ := ofO_post q1
  unfold instD at e2
  cases et : tyD d with
  | none => rw [et] at e2; cases e2
  | some t =>
    rw [et] at e2
    cases e2
    exact ⟨v, .ty T, .type t, .type T, isaB t T, rfl, .ty T, tyX_of x1.ff r1 et, kit_ty (kit_ok et h1), q2 _ F1 H1 x1 (Same.refl _) (Fr.refl _ _) (.bl _)⟩
/-! ### built-ins of one and of two -/
def b1 (gr : Bool) (x : Str) : Option (D → Option D) :=
  if x = "len" then some lenD else if x = "abs" then some absD else if x = "int" then some intD else if x = "all" then some allD else if x = "any" then some anyD else if x = "sum" then some sumD else
  if x = "tuple" then some tupleD else if x = "list" then some listD else if x = "repr" ∧ gr = true then some reprD else none
def b2 (x : Str) : Option (D → D → Option D) := if x = "max" then some max2D else if x = "min" then some min2D else none
theorem je_b1 (f : Fx X g W c) {x : Str} {o : D → Option D} {e : Expr} {p pos : Pos} {m : M D} (hb : b1 c.gr x = some o) (hg : isG c x = true) (hs : noStar [e] = true) (h : JB X g W e m) : JE X g W (.Call (.Name x p) [e] [] pos) (mOp1 o m) := by
  have gx := (isG_ok f hg).1
  have pa : PA X [e] (tG X.K g W (repL (repB X.K)) (mSeq [m])) := ja_cons (mono_B _) h ja_nil (star_cons hs)
  have s1 := star_cons (env := X.env) hs
  have s2 : ∀ pos : Pos, (backTo pos (starEach [] X.env)).any (·.1) = false := fun _ => rfl
  unfold b1 at hb
  repeat' split at hb
  all_goals first | (cases hb; done) | skip
  all_goals cases hb
  · rename_i z; subst z; exact je_c1 (fun t ha => pe_callB call_lenD gx (f.glo.bl _ (by decide +kernel)) boot_len ha (by decide) (by decide) s1 (s2 _)) pa
  · rename_i z; subst z; exact je_c1 (fun t ha => pe_callB call_absD gx (f.glo.bl _ (by decide +kernel)) boot_abs ha (by decide) (by decide) s1 (s2 _)) pa
  · rename_i z; subst z; exact je_c1 (fun t ha => pe_callTy call_intD gx (f.glo.bl _ (by decide +kernel)) boot_int ha (by decide) (by decide) s1 (s2 _)) pa
  · rename_i z; subst z; exact je_c1 (fun t ha => pe_callB (call_allD f.calm) gx (f.glo.bl _ (by decide +kernel)) boot_all ha (by decide) (by decide) s1 (s2 _)) pa
  · rename_i z; subst z; exact je_c1 (fun t ha => pe_callB (call_anyD f.calm) gx (f.glo.bl _ (by decide +kernel)) boot_any ha (by decide) (by decide) s1 (s2 _)) pa
  · rename_i z; subst z; exact je_c1 (fun t ha => pe_callB (call_sumD f.calm) gx (f.glo.bl _ (by decide +kernel)) boot_sum ha (by decide) (by decide) s1 (s2 _)) pa
  · rename_i z; subst z; exact je_c1 (fun t ha => pe_callTy call_tupleD gx (f.glo.bl _ (by decide +kernel)) boot_tuple ha (by decide) (by decide) s1 (s2 _)) pa
  · rename_i z; subst z; exact je_c1 (fun t ha => pe_callTy call_listD gx (f.glo.bl _ (by decide +kernel)) boot_list ha (by decide) (by decide) s1 (s2 _)) pa
  · rename_i z; obtain ⟨rfl, zg⟩ := z; exact je_c1 (fun t ha => pe_callB (call_reprD (f.gd zg) (by have := f.room.un; omega)) gx (f.glo.bl _ (by decide +kernel)) boot_repr ha (by decide) (by decide) s1 (s2 _)) pa
theorem je_b2 (f : Fx X g W c) {x : Str} {o : D → D → Option D} {e e' : Expr} {p pos : Pos} {m m' : M D} (hb : b2 x = some o) (hg : isG c x = true) (hs : noStar [e, e'] = true) (h : JB X g W e m) (h' : JB X g W e' m') : JE X g W (.Call (.Name x p) [e, e'] [] pos) (mOp2 o m m') := by
  have gx := (isG_ok f hg).1
  have hs' := noStar_tail hs
  have pa : PA X [e, e'] (tG X.K g W (repL (repB X.K)) (mSeq [m, m'])) := ja_cons (mono_B _) h (ja_cons (mono_B _) h' ja_nil (star_cons hs')) (star_cons hs)
  unfold b2 at hb
  split at hb
  · cases hb
    rename_i z; subst z
    exact je_c2 (fun t ha => pe_callB (call_max2D f.calm) gx (f.glo.bl _ (by decide +kernel)) boot_max ha (by decide) (by decide) (star_cons hs) (star_any hs')) pa
  · split at hb
    · cases hb
      rename_i z; subst z
      exact je_c2 (fun t ha => pe_callB (call_min2D f.calm) gx (f.glo.bl _ (by decide +kernel)) boot_min ha (by decide) (by decide) (star_cons hs) (star_any hs')) pa
    · cases hb

/-! ### what the compiler gives of an expression -/
structure Cd where
  e : M D
  b : M D
  a : M Arg
  t : M Bool
def Cd.of (m : M D) : Cd := ⟨m, m, mArgE m, mTru m⟩
def Cd.tst (m : M Bool) : Cd := ⟨mBl m, mBl m, mArgE (mBl m), m⟩
def Cd.no : Cd := ⟨mStuck, mStuck, mStuck, mStuck⟩
structure OkX (X : Cx) (g : Gx) (W : WX) (ex : Expr) (c : Cd) : Prop where
  e : JE X g W ex c.e
  b : JB X g W ex c.b
  a : PE X ex (tG X.K g W (repA X.K) c.a)
  t : JT X g W ex c.t
def plainT : Expr → Bool
  | .UnaryOp .Not _ _ => false
  | .BoolOp .. => false
  | .IfExp .. => false
  | .Compare .. => false
  | _ => true
theorem plainT_ok {e : Expr} {env : Env} (h : plainT e = true) : ∀ whole, isTrue e env whole = (do let v ← whole; standAt e.pos; holding [v] (truthy v)) := by
  intro whole
  cases e with
  | UnaryOp op x p => cases op <;> first | rfl | cases h
  | BoolOp => cases h
  | IfExp => cases h
  | Compare => cases h
  | _ => rfl
theorem ok_of {e : Expr} {m : M D} (h : JE X g W e m) (hp : plainT e = true) : OkX X g W e (.of m) := ⟨h, jb_of h, ja_of h, jt_tru (jb_of h) (plainT_ok hp)⟩
theorem ok_ofE {e : Expr} {m : M D} {t : M Bool} (h : JE X g W e m) (ht : JT X g W e t) : OkX X g W e ⟨m, m, mArgE m, t⟩ := ⟨h, jb_of h, ja_of h, ht⟩
theorem ok_no {e : Expr} : OkX X g W e .no := ⟨pe_stuck, pe_stuck, pe_stuck, pt_stuck⟩
theorem ok_tst {e : Expr} {m : M Bool} (h : JE X g W e (mBl m)) (ht : JT X g W e m) : OkX X g W e (.tst m) := ⟨h, jb_of h, ja_of h, ht⟩
/-! chains of and, or -/
def chV (op : BoolOp) (f : Expr → M D) : List Expr → M D
  | [] => mStuck
  | a :: r => match r with
    | [] => f a
    | _ :: _ => match op with
      | .And => mAndV (f a) (chV op f r)
      | .Or => mOrV (f a) (chV op f r)
def chT (op : BoolOp) (f : Expr → M Bool) : List Expr → M Bool
  | [] => mStuck
  | a :: r => match r with
    | [] => f a
    | _ :: _ => match op with
      | .And => mAndT (f a) (chT op f r)
      | .Or => mOrT (f a) (chT op f r)
theorem chV_ok {op : BoolOp} {f : Expr → M D} {pos : Pos} : ∀ {vs : List Expr}, (∀ e ∈ vs, JE X g W e (f e)) → JE X g W (.BoolOp op vs pos) (chV op f vs)
  | [], _ => pe_stuck
  | [a], h => pe_one (h a (by simp))
  | a :: b :: r, h => by
    have ih := chV_ok (op := op) (f := f) (pos := pos) (vs := b :: r) fun e he => h e (List.mem_cons_of_mem _ he)
    cases op with
    | And => exact je_andV (h a (by simp)) ih
    | Or => exact je_orV (h a (by simp)) ih
theorem chT_ok {op : BoolOp} {f : Expr → M Bool} {pos : Pos} : ∀ {vs : List Expr}, (∀ e ∈ vs, JT X g W e (f e)) → JW X g W (.BoolOp op vs pos) (chT op f vs)
  | [], _ => pw_stuck
  | [a], h => by
    cases op with
    | And => exact jw_and1 (h a (by simp))
    | Or => exact jw_or1 (h a (by simp))
  | a :: b :: r, h => by
    have ih := chT_ok (op := op) (f := f) (pos := pos) (vs := b :: r) fun e he => h e (List.mem_cons_of_mem _ he)
    cases op with
    | And => exact jw_and (h a (by simp)) ih
    | Or => exact jw_or (h a (by simp)) ih
theorem ja_all {α : Type} {rep : Rp α V} (mo : Mono rep) {f : Expr → M α} : ∀ {es : List Expr}, noStar es = true → (∀ e ∈ es, PE X e (tG X.K g W rep (f e))) → PA X es (tG X.K g W (repL rep) (mSeq (es.map f)))
  | [], _, _ => ja_nil
  | e :: es, hs, h => ja_cons mo (h e (by simp)) (ja_all mo (noStar_tail hs) fun e he => h e (List.mem_cons_of_mem _ he)) (star_cons hs)
end
end Gl

set_option maxRecDepth 100000
set_option maxHeartbeats 2000000
/-! The general layer, part I: the compiler of expressions. -/
namespace Gl
open PySem PySem.Spec PyProof.Rows L2

/-! ### targets -/
structure TgC where
  G : PySem.W.Frag → TG
  st : Tgt
  js : List Nat
structure TgsC where
  G : PySem.W.Frag → TGs
  st : List D → List DV → Option (List DV)
  js : List Nat
def TgC.no : TgC := ⟨fun _ _ _ _ _ => False, stNone, []⟩
def cGs (f : Expr → TgC) : List Expr → TgsC
  | [] => ⟨fun _ => gNil, stNil, []⟩
  | e :: es => ⟨fun K => gCons ((f e).G K) ((cGs f es).G K), stCons (f e).st (cGs f es).st, (f e).js ++ (cGs f es).js⟩
def cG : Nat → Ct → Expr → TgC
  | 0, _, _ => .no
  | n + 1, c, e => match e with
    | .Name x _ => match locC c x with
      | some i => ⟨fun _ => gName i, stName i, [i]⟩
      | none => .no
    | .Tuple es _ _ => if noStar es = true then ⟨fun K => gTup K es.length ((cGs (cG n c) es).G K), stTup es.length (cGs (cG n c) es).st, (cGs (cG n c) es).js⟩ else .no
    | _ => .no
theorem asg_cons {e : Expr} {es : List Expr} {env : Env} (h : noStar (e :: es) = true) : assignEach (e :: es) env = (false, assign e env) :: assignEach es env := by
  cases e <;> first | rfl | (exact absurd h (by simp [noStar]))
theorem asg_len {env : Env} : ∀ {es : List Expr}, noStar es = true → (assignEach es env).length = es.length
  | [], _ => rfl
  | e :: es, h => by rw [asg_cons h, List.length_cons, List.length_cons, asg_len (noStar_tail h)]
theorem asg_find {env : Env} : ∀ {es : List Expr}, noStar es = true → (assignEach es env).findIdx? (·.1) = none
  | [], _ => rfl
  | e :: es, h => by
    rw [asg_cons h, List.findIdx?_cons, asg_find (noStar_tail h)]
    rfl
section
variable {X : Cx} {g : Gx} {W : WX} {c : Ct}
theorem cG_ok (f : Fx X g W c) : ∀ (n : Nat) (e : Expr), TgOk X g e ((cG n c e).G X.K) (cG n c e).st (cG n c e).js
  | 0, e => tg_none X g e
  | n + 1, e => by
    have key : ∀ {es : List Expr}, noStar es = true → TgsOk X g es ((cGs (cG n c) es).G X.K) (cGs (cG n c) es).st (cGs (cG n c) es).js := fun {es} => by
      induction es with
      | nil => exact fun _ => tgs_nil X g
      | cons a r ih => exact fun hs => tgs_cons (cG_ok f n a) (ih (noStar_tail hs)) (by rw [asg_cons hs]; rfl)
    unfold cG
    split
    · split
      · exact tg_name f (by assumption)
      · exact tg_none X g _
    · split
      · rename_i hs
        exact tg_tup f.calm (key hs) (asg_len hs) (asg_find hs)
      · exact tg_none X g _
    · exact tg_none X g _
end

/-! ### small readings of the syntax -/
def cutOf : Expr → Option (Option Expr × Option Expr)
  | .Slice lo hi none _ => some (lo, hi)
  | _ => none
theorem cutOf_eq {e : Expr} {lo hi : Option Expr} (h : cutOf e = some (lo, hi)) : ∃ p, e = .Slice lo hi none p := by
  unfold cutOf at h
  split at h
  · cases h
    exact ⟨_, rfl⟩
  · cases h
theorem plainIx_of {e : Expr} (h : notSl e = true) : PlainIx e := by
  intro o i
  cases e <;> first | rfl | cases h
def callOf : Expr → Option (Str × List Expr)
  | .Call (.Name x _) args [] _ => some (x, args)
  | _ => none
theorem callOf_eq {e : Expr} {x : Str} {args : List Expr} (h : callOf e = some (x, args)) : ∃ p pos, e = .Call (.Name x p) args [] pos := by
  unfold callOf at h
  split at h
  · cases h
    exact ⟨_, _, rfl⟩
  · cases h
def isTup : Expr → Bool
  | .Tuple .. => true
  | _ => false
theorem isTup_eq {e : Expr} (h : isTup e = true) : ∃ es k p, e = .Tuple es k p := by
  unfold isTup at h
  split at h
  · exact ⟨_, _, _, rfl⟩
  · cases h
def nameOf : Expr → Option Str
  | .Name x _ => some x
  | _ => none
theorem nameOf_eq {e : Expr} {x : Str} (h : nameOf e = some x) : ∃ p, e = .Name x p := by
  unfold nameOf at h
  split at h
  · cases h
    exact ⟨_, rfl⟩
  · cases h
def boxOf : Expr → Expr → Option (Str × Int)
  | .Name x _, .Constant (.int k) _ _ => some (x, k)
  | _, _ => none
theorem boxOf_eq {a i : Expr} {x : Str} {k : Int} (h : boxOf a i = some (x, k)) : ∃ p j p2, a = .Name x p ∧ i = .Constant (.int k) j p2 := by
  unfold boxOf at h
  split at h
  · cases h
    exact ⟨_, _, _, rfl, rfl⟩
  · cases h
def appOf : Expr → Option (Str × Expr × Bool)
  | .Call (.Attribute (.Name x _) nm p2) [e] [] cpos => if nm = "append" then some (x, e, p2.endLine == cpos.line) else none
  | _ => none
theorem appOf_eq {a e : Expr} {x : Str} {l : Bool} (h : appOf a = some (x, e, l)) : ∃ p p2 cpos, a = .Call (.Attribute (.Name x p) "append" p2) [e] [] cpos ∧ l = (p2.endLine == cpos.line) := by
  unfold appOf at h
  split at h
  · split at h
    · rename_i hn
      subst hn
      cases h
      exact ⟨_, _, _, rfl, rfl⟩
    · cases h
  · cases h
def subOf : Expr → Option (Str × Expr)
  | .Subscript (.Name x _) i _ => some (x, i)
  | _ => none
theorem subOf_eq {a i : Expr} {x : Str} (h : subOf a = some (x, i)) : ∃ p pos, a = .Subscript (.Name x p) i pos := by
  unfold subOf at h
  split at h
  · cases h
    exact ⟨_, _, rfl⟩
  · cases h
def isOne : Expr → Bool
  | .Constant (.int k) _ _ => k == 1
  | _ => false
theorem isOne_eq {e : Expr} (h : isOne e = true) : ∃ j p, e = .Constant (.int 1) j p := by
  unfold isOne at h
  split at h
  · rename_i k j p
    obtain rfl : k = 1 := by simpa using h
    exact ⟨_, _, rfl⟩
  · cases h
def noArgs : Arguments := { posonlyargs := [], args := [], vararg := none, kwonlyargs := [], kw_defaults := [], kwarg := none, defaults := [] }
def lamOf : Expr → Option (Expr × Scope)
  | .Lambda ⟨[], [], none, [], [], none, []⟩ body scope _ => some (body, scope)
  | _ => none
theorem lamOf_eq {e : Expr} {body : Expr} {scope : Scope} (h : lamOf e = some (body, scope)) : ∃ p, e = .Lambda ⟨[], [], none, [], [], none, []⟩ body scope p := by
  unfold lamOf at h
  split at h
  · cases h
    exact ⟨_, rfl⟩
  · cases h
/-! ### what is walked -/
def cI (c : Ct) (f : Expr → M D) (tg it : Expr) : M (List D) := match callOf it with
  | some (x, args) => if isG c x = true ∧ noStar args = true then
      (if x = "range" ∧ (args.length = 1 ∨ args.length = 2 ∨ args.length = 3) then mRange (mSeq (args.map f))
      else if x = "zip" ∧ args.length = 2 ∧ isTup tg = true then mZip (mSeq (args.map f))
      else if x = "enumerate" ∧ args.length = 1 ∧ isTup tg = true then mEnum (mSeq (args.map f))
      else mItems (f it)) else mItems (f it)
  | none => mItems (f it)
section
variable {X : Cx} {g : Gx} {W : WX} {c : Ct}
theorem cI_ok (fx : Fx X g W c) {f : Expr → M D} (hf : ∀ e, JE X g W e (f e)) (tg it : Expr) : JI X g W tg it (cI c f tg it) := by
  unfold cI
  split
  · rename_i x args h
    obtain ⟨p, pos, rfl⟩ := callOf_eq h
    split
    · rename_i hh
      obtain ⟨hg, hs⟩ := hh
      have gx := (isG_ok fx hg).1
      have pa : JAe X g W args (mSeq (args.map f)) := ja_all (mono_E _) hs fun e _ => hf e
      split
      · rename_i h2
        obtain ⟨rfl, h2⟩ := h2
        have hm := fx.glo.bl "range" (by decide +kernel)
        match args, h2, hs, pa with
        | [a], _, hs, pa => exact ji_range1 rfl gx hm pa (star_cons hs)
        | [a, b], _, hs, pa => exact ji_range2 rfl gx hm pa (by rw [star_cons hs, star_cons (noStar_tail hs)]; rfl) (star_cons (noStar_tail hs))
        | [a, b, d], _, hs, pa =>
          exact ji_range3 rfl gx hm pa (pi_range3 gx hm pa (star_cons hs) (star_any (noStar_tail hs)))
      · split
        · rename_i h2
          obtain ⟨rfl, h2, ht⟩ := h2
          obtain ⟨es, k, tp, rfl⟩ := isTup_eq ht
          match args, h2, hs, pa with
          | [a, b], _, hs, pa => exact ji_zip rfl gx (fx.glo.bl "zip" (by decide +kernel)) pa hs
        · split
          · rename_i h2
            obtain ⟨rfl, h2, ht⟩ := h2
            obtain ⟨es, k, tp, rfl⟩ := isTup_eq ht
            match args, h2, hs, pa with
            | [a], _, hs, pa => exact ji_enum rfl gx (fx.glo.bl "enumerate" (by decide +kernel)) pa (star_cons hs)
          · exact ji_items (hf _)
    · exact ji_items (hf _)
  · exact ji_items (hf _)
end

/-! ### lambdas that are told -/
def freeSl (c : Ct) (scope : Scope) : List Nat := scope.names.filterMap fun p => match p.2 with
  | .free => c.N.idxOf? p.1
  | _ => none
def mTold (js : List Nat) (h : Nat → Option Str) (m : M D) : M D := fun S =>
  match m ⟨(shareJs S js).sl.map hideD, (shareJs S js).bx⟩ with
  | .ok d S' => .ok d { shareJs S js with bx := S'.bx }
  | .exc n d bx' => match h n with
    | some tag => .ok (.list [.str tag, d]) { shareJs S js with bx := bx' }
    | none => .stuck
  | .stuck => .stuck
abbrev Ct.lam (c : Ct) (scope : Scope) : Ct := { c with sc := scope, own := fun _ => false, gr := false, lv := c.lv - 3, told := fun _ => none }
def ToldR (X : Cx) (g : Gx) (W : WX) (c : Ct) (x : Str) (h : Nat → Option Str) : Prop := ∀ (body : Expr) (scope : Scope) (p lpos pos : Pos) (m : M D), LamX.lamSB c.sc scope = true → isG c x = true →
  (∀ (X' : Cx) (W' : WX), Fx X' g W' (c.lam scope) → JE X' g W' body m) → JE X g W (.Call (.Name x p) [.Lambda ⟨[], [], none, [], [], none, []⟩ body scope lpos] [] pos) (mTold (freeSl c scope) h m)
def TOk (X : Cx) (g : Gx) (W : WX) (c : Ct) : Prop := ∀ x h, c.told x = some h → ToldR X g W c x h

/-! ### the compiler -/
def ownSl (c : Ct) (scope : Scope) : List (Str × Nat) := scope.names.filterMap fun p => if ownOf scope p.1 = true then (c.N.idxOf? p.1).map fun i => (p.1, i) else none
def cBlt (c : Ct) (f : Expr → Cd) (x : Str) (args : List Expr) : M D := match args with
  | [a] => match b1 c.gr x with
    | some o => mOp1 o (f a).b
    | none => mStuck
  | [a, b] => if x = "isinstance" then (match nameOf b with
      | some y => if isG c y = true then (match typeOfName y with
        | some T => mOp1 (instD T) (f a).b
        | none => mStuck) else mStuck
      | none => mStuck)
    else match b2 x with
    | some o => mOp2 o (f a).b (f b).b
    | none => mStuck
  | _ => mStuck
def cCall (c : Ct) (f : Expr → Cd) (x : Str) (args : List Expr) : M D := match c.fn x with
  | some e => if e.lv ≤ c.lv ∧ (e.gr = true → c.gr = true) then mCall e (mSeq (args.map fun a => (f a).a)) else mStuck
  | none => cBlt c f x args
def cIx (c : Ct) (o : Option (Str × Int)) (m : M D) : M D := match o with
  | some (x, k) => match slotC c x with
    | some j => mBox j k m
    | none => m
  | none => m
def cIfs (f : Expr → M Bool) : List Expr → M Bool
  | [] => mC true
  | [t] => f t
  | _ => mStuck
def ifsOk : List Expr → Bool
  | [] => true
  | [_] => true
  | _ => false
def genOk (c : Ct) (scope : Scope) (gn : Comprehension) (js : List Nat) : Bool := gn.is_async == 0 && noSet gn.iter && blkC c.N c.sc scope (ownSl c scope) && ifsOk gn.ifs && js.all fun j => (ownSl c scope).any fun p => p.2 == j
def cX : Nat → Ct → Expr → Cd
  | 0, _, _ => .no
  | n + 1, c, e => match e with
    | .Constant k _ _ => match k with
      | .int i => .of (mC (.int i))
      | .bool b => .of (mC (.bool b))
      | .none => .of (mC .none)
      | .str x => .of (mC (.str x))
      | _ => .no
    | .Name x _ => ⟨cName c x, cNameB c x, cNameA c x, mTru (cNameB c x)⟩
    | .BinOp a op b _ => .of (mOp2 (binD op) (cX n c a).b (cX n c b).b)
    | .UnaryOp op a _ => match op with
      | .USub => .of (mOp1 negD (cX n c a).b)
      | .Not => ⟨mNotV (cX n c a).b, mNotV (cX n c a).b, mArgE (mNotV (cX n c a).b), mNotT (cX n c a).t⟩
      | _ => .no
    | .BoolOp op vs _ => ⟨chV op (fun e => (cX n c e).e) vs, chV op (fun e => (cX n c e).e) vs, mArgE (chV op (fun e => (cX n c e).e) vs), chT op (fun e => (cX n c e).t) vs⟩
    | .Compare a ops cs _ => match ops, cs with
      | [op], [d] => if noSet d = true then .tst (mCmp (cmpD op) (cX n c a).b (cX n c d).b) else .no
      | [op, op'], [d, d'] => if noSet d' = true then .tst (mChain (cmpD op) (cmpD op') (cX n c a).b (cX n c d).b (cX n c d').b) else .no
      | _, _ => .no
    | .IfExp t a b _ => ⟨mIf (cX n c t).t (cX n c a).e (cX n c b).e, mIf (cX n c t).t (cX n c a).b (cX n c b).b, mArgE (mIf (cX n c t).t (cX n c a).e (cX n c b).e), mStuck⟩
    | .Tuple es _ _ => if noStar es = true then .of (mTup (es.map fun e => (cX n c e).e)) else .no
    | .List es _ => if noStar es = true then .of (mLst (es.map fun e => (cX n c e).e)) else .no
    | .Subscript a i _ => match cutOf i with
      | some (lo, hi) => .of (mCut (cX n c a).b (match lo with | none => mC none | some e => mPart (cX n c e).b) (match hi with | none => mC none | some e => mPart (cX n c e).b))
      | none => if notSl i = true then .of (cIx c (boxOf a i) (mOp2 ixD (cX n c a).b (cX n c i).b)) else .no
    | .ListComp elt gens scope _ => match gens with
      | [gn] => if genOk c scope gn (cG n (c.blk scope) gn.target).js = true then
          .of (mComp (freeSl c scope) ((ownSl c scope).map (·.2)) (cI c (fun e => (cX n c e).e) gn.target gn.iter) (cG n (c.blk scope) gn.target).st (cIfs (fun e => (cX n (c.blk scope) e).t) gn.ifs) (cX n (c.blk scope) elt).e)
        else .no
      | _ => .no
    | e => match callOf e with
      | some (x, args) => if isG c x = true ∧ noStar args = true then
          (match c.told x, args with
          | some h, [l] => match lamOf l with
            | some (body, scope) => if LamX.lamSB c.sc scope = true then .of (mTold (freeSl c scope) h (cX n (c.lam scope) body).e) else .no
            | none => .no
          | _, _ => .of (cCall c (cX n c) x args))
        else .no
      | none => .no
section
variable {X : Cx} {g : Gx} {W : WX} {c : Ct}
theorem nobeh {op : CmpOp} {d : Expr} (h : noSet d = true) : behindInMarks op d = false := by
  cases d <;> first | rfl | cases h
theorem cBlt_ok (f : Fx X g W c) {fx : Expr → Cd} (h : ∀ e, OkX X g W e (fx e)) {x : Str} {args : List Expr} {p pos : Pos} (hg : isG c x = true) (hs : noStar args = true) : JE X g W (.Call (.Name x p) args [] pos) (cBlt c fx x args) := by
  unfold cBlt
  split
  · split
    · exact je_b1 f (by assumption) hg hs (h _).b
    · exact pe_stuck
  · split
    · rename_i hx
      split
      · rename_i y hy
        obtain ⟨p2, rfl⟩ := nameOf_eq hy
        split
        · rename_i gy
          split
          · exact je_inst f hx hg (by assumption) gy hs (h _).b
          · exact pe_stuck
        · exact pe_stuck
      · exact pe_stuck
    · split
      · exact je_b2 f (by assumption) hg hs (h _).b (h _).b
      · exact pe_stuck
  · exact pe_stuck
theorem cCall_ok (f : Fx X g W c) {fx : Expr → Cd} (h : ∀ e, OkX X g W e (fx e)) {x : Str} {args : List Expr} {p pos : Pos} (hg : isG c x = true) (hs : noStar args = true) : JE X g W (.Call (.Name x p) args [] pos) (cCall c fx x args) := by
  unfold cCall
  split
  · rename_i e he
    split
    · rename_i hz
      cases args with
      | nil => exact je_call0 f hg he hz.1 hz.2
      | cons a r => exact je_call f hg he hz.1 hz.2 hs (ja_all (mono_A _) hs fun e _ => (h e).a)
    · exact pe_stuck
  · exact cBlt_ok f h hg hs
theorem cIfs_ok {h : Expr → M Bool} {ifs : List Expr} (ho : ifsOk ifs = true) (hh : ∀ e, JT X g W e (h e)) : PTs X ifs (tG X.K g W repT (cIfs h ifs)) := by
  match ifs, ho with
  | [], _ => exact ⟨fun pins s σ H Q I ⟨b, F, S, x, q⟩ => pts_nil.run pins s σ H Q I (q true F H x (Same.refl _) (Fr.refl _ _) rfl)⟩
  | [t], _ => exact pts_one (hh t)
theorem cIx_ok (f : Fx X g W c) {a i : Expr} {pos : Pos} {m : M D} (h : JE X g W (.Subscript a i pos) m) : JE X g W (.Subscript a i pos) (cIx c (boxOf a i) m) := by
  unfold cIx
  split
  · rename_i x k hb
    obtain ⟨p, j, p2, rfl, rfl⟩ := boxOf_eq hb
    split
    · exact je_box f (by assumption) h
    · exact h
  · exact h
theorem cX_ok : ∀ (n : Nat) (X : Cx) (W : WX) (c : Ct), Fx X g W c → TOk X g W c → ∀ e : Expr, OkX X g W e (cX n c e)
  | 0, _, _, _, _, _, _ => ok_no
  | n + 1, X, W, c, f, hT, e => by
    have ih := cX_ok n X W c f hT
    unfold cX
    split
    · -- constants
      split
      · exact ok_of (je_const pe_int fun F => .int _) rfl
      · exact ok_of (je_const pe_bl fun F => .bl _) rfl
      · exact ok_of (je_const pe_non fun F => .non) rfl
      · exact ok_of (je_const pe_str fun F => .str _) rfl
      · exact ok_no
    · exact ⟨cName_ok f, cNameB_ok f, cNameA_ok f, jt_tru (cNameB_ok f) (plainT_ok rfl)⟩
    · exact ok_of (je_op2 (ih _).b (ih _).b) rfl
    · split
      · exact ok_of (je_neg (ih _).b) rfl
      · exact ok_ofE (je_notV (ih _).b) (jt_not (ih _).t)
      · exact ok_no
    · exact ok_ofE (chV_ok fun e _ => (ih e).e) (chT_ok fun e _ => (ih e).t).pt
    · split
      · split
        · exact ok_tst (je_cmp f.un (ih _).b (ih _).b (nobeh (by assumption))) (jt_cmp f.un (ih _).b (ih _).b (nobeh (by assumption)))
        · exact ok_no
      · split
        · exact ok_tst (je_chain f.un (ih _).b (ih _).b (ih _).b (nobeh (by assumption))) (jt_chain f.un (ih _).b (ih _).b (ih _).b (nobeh (by assumption)))
        · exact ok_no
      · exact ok_no
    · exact ⟨pe_if (ih _).t (ih _).e (ih _).e, pe_if (ih _).t (ih _).b (ih _).b, ja_of (pe_if (ih _).t (ih _).e (ih _).e), pt_stuck⟩
    · split
      · exact ok_of (je_tup (ja_all (mono_E _) (by assumption) fun e _ => (ih e).e)) rfl
      · exact ok_no
    · split
      · exact ok_of (je_lst (ja_all (mono_E _) (by assumption) fun e _ => (ih e).e)) rfl
      · exact ok_no
    · split
      · rename_i lo hi hc
        obtain ⟨p, rfl⟩ := cutOf_eq hc
        refine ok_of (je_cut (ih _).b ?_ ?_) rfl
        · split
          · exact jo_none
          · exact jo_some (ih _).b
        · split
          · exact jo_none
          · exact jo_some (ih _).b
      · split
        · refine ok_of (cIx_ok f (je_ix (ih _).b (ih _).b (plainIx_of (by assumption)))) rfl
        · exact ok_no
    · split
      · rename_i elt scope pos gens gn
        split
        · rename_i hg
          obtain ⟨tg, it, ifs, as⟩ := gn
          unfold genOk at hg
          simp only [Bool.and_eq_true] at hg
          obtain ⟨⟨⟨⟨h1, h2⟩, h3⟩, h4⟩, h5⟩ := hg
          obtain rfl : as = 0 := by simpa using h1
          have ok : BlkOk X.N X.env.scope scope (ownSl c scope) := by
            rw [f.N, f.sc]
            exact blkOk_by h3
          have hks : ∀ k ∈ (cG n (c.blk scope) tg).js, k ∈ (ownSl c scope).map (·.2) := fun k hk => by
            have q := List.all_eq_true.mp h5 k hk
            obtain ⟨p, hp, e⟩ := List.any_eq_true.mp q
            exact List.mem_map.mpr ⟨p, hp, by simpa using e⟩
          have noT : ∀ X' W', TOk X' g W' (c.blk scope) := fun X' W' x h e => by cases e
          have blk := fun s H C cl fp => f.blk s H scope cl C fp
          have tgk := fun (s : Shared) (H : Hp) (C : Addr) (cl : List (Str × Addr)) (fp : List Addr) => cG_ok (blk s H C cl fp) n tg
          refine ok_of (PE.of (pe_lc (te := tG X.K g noW (repE X.K) (cX n (c.blk scope) elt).e) (tt := tG X.K g noW repT (cIfs (fun e => (cX n (c.blk scope) e).t) ifs)) (g := (cG n (c.blk scope) tg).G X.K) (wi := tG X.K g W (repIt X.K) (cI c (fun e => (cX n c e).e) tg it)) f.calm (by rw [f.N]; exact f.nd) (cI_ok f (fun e => (ih e).e) tg it) ok (fun s H C cl fp => (tgk s H C cl fp).1)
            (fun s H C cl fp => cIfs_ok h4 fun e => (cX_ok n _ noW _ (blk s H C cl fp) (noT _ _) e).t) (fun s H C cl fp => (cX_ok n _ noW _ (blk s H C cl fp) (noT _ _) elt).e) (noSet_ok h2)) fun σ H Q q => ?_) rfl
          exact je_lc hks (tgk X.s_0 (fun _ => none) 0 [] []).2 q
        · exact ok_no
      · exact ok_no
    · split
      · rename_i x args hc
        obtain ⟨p, pos, rfl⟩ := callOf_eq hc
        split
        · rename_i hz
          obtain ⟨hg, hs⟩ := hz
          split
          · split
            · rename_i body scope hl
              obtain ⟨lp, rfl⟩ := lamOf_eq hl
              split
              · rename_i hb
                exact ok_of (hT x _ (by assumption) body scope p lp pos _ hb hg fun X' W' f' => (cX_ok n X' W' _ f' (fun x h e => by cases e) body).e) rfl
              · exact ok_no
            · exact ok_no
          · exact ok_of (cCall_ok f ih hg hs) rfl
        · exact ok_no
      · exact ok_no
end
end Gl

set_option maxRecDepth 100000
set_option maxHeartbeats 2000000
/-! The general layer, part J: the compiler of statements; what a def promises. -/
namespace Gl
open PySem PySem.Spec PyProof.Rows L2

/-! ### which stores are swapped -/
section
variable {env : Env} {x y z : Str} {px py pz p p2 : Pos} {a b d : Expr} {k k2 : Nat}
theorem swap_not {ts : List Expr} {e : Expr} (h : isTup e = false) : swappedStores [.Tuple ts k p] e env = pure none := by
  cases e <;> first | rfl | cases h
theorem swap_len {ts vs : List Expr} (h : (ts.length == 2 || ts.length == 3) = false) : swappedStores [.Tuple ts k p] (.Tuple vs k2 p2) env = pure none := by
  unfold swappedStores
  simp only [h]
  rfl
theorem noStar_any : ∀ {vs : List Expr}, noStar vs = true → (vs.any fun | .Starred .. => true | _ => false) = false
  | [], _ => rfl
  | v :: vs, h => by
    have h2 := noStar_tail h
    rw [List.any_cons, noStar_any h2]
    cases v <;> first | rfl | (exact absurd h (by simp [noStar]))
theorem swap2_some (hk : env.scope.kind = .function) (hx : env.kindOf x = some .local) (hy : env.kindOf y = some .local) (hl : (py.line == px.line) = true) (hxy : x ≠ y) (hs : noStar [a, b] = true)
    (hf : (foldedForSure 8 a && foldedForSure 8 b) = false) (hc : (constantsAlone 8 a && constantsAlone 8 b) = false) : swappedStores [.Tuple [.Name x px, .Name y py] k p] (.Tuple [a, b] k2 p2) env = pure (some [x, y]) := by
  have hb : env.blockKind = .function := by unfold Env.blockKind; rw [hk]; rfl
  have h1 : [a, b].all (foldedForSure 8) = false := by simpa using hf
  have h2 : [a, b].all (constantsAlone 8) = false := by simpa using hc
  have h3 := noStar_any hs
  have hd : [x, y].eraseDups.length = 2 := by
    have : ¬ y = x := fun e => hxy e.symm
    simp [List.eraseDups_cons, this]
  unfold swappedStores
  dsimp only
  refine (if_neg (by rw [hb]; simp)).trans ((if_neg fun q => ?_).trans ((if_neg ?_).trans ((if_neg (by rw [h1]; decide)).trans ((if_neg (by rw [h2]; decide)).trans ?_))))
  · have q' : (([a, b].any fun | .Starred .. => true | _ => false) = true) := q
    rw [h3] at q'
    cases q'
  · simp only [List.filterMap, hx, hy, hl, Expr.pos, List.head?, Option.map, Option.getD, beq_self_eq_true, Bool.and_self, if_true]
    simp [hd]
  · simp only [List.filterMap, hx, hy, hl, Expr.pos, List.head?, Option.map, Option.getD, beq_self_eq_true, Bool.and_self, if_true]
theorem swap2_none (hs : noStar [a, b] = true) (h : (env.kindOf x == some .local && env.kindOf y == some .local) = false) : swappedStores [.Tuple [.Name x px, .Name y py] k p] (.Tuple [a, b] k2 p2) env = pure none := by
  unfold swappedStores
  dsimp only
  split
  · rfl
  · split
    · rfl
    · refine if_pos ?_
      cases hx : (env.kindOf x == some .local) <;> cases hy : (env.kindOf y == some .local)
      · simp [List.filterMap, hx, hy]
      · by_cases z : py.line = px.line
        · simp [List.filterMap, hx, hy, Expr.pos, z]
        · simp [List.filterMap, hx, hy, Expr.pos, z]
      · by_cases z : py.line = px.line
        · simp [List.filterMap, hx, hy, Expr.pos, z]
        · simp [List.filterMap, hx, hy, Expr.pos, z]
      · rw [hx, hy] at h; cases h
theorem swap2_fold (hs : noStar [a, b] = true) (hf : (foldedForSure 8 a && foldedForSure 8 b) = true) : swappedStores [.Tuple [.Name x px, .Name y py] k p] (.Tuple [a, b] k2 p2) env = pure none := by
  have h1 : [a, b].all (foldedForSure 8) = true := by simpa using hf
  unfold swappedStores
  dsimp only
  repeat' split
  all_goals first | rfl | (rename_i z; exact absurd h1 z) | skip
end

/-! ### the compiler of statements -/
def sAll (f : Stmt → MS) : List Stmt → MS
  | [] => sNext
  | s :: r => sSeq (f s) (sAll f r)
def isLoc (c : Ct) (x : Str) : Bool := c.sc.names.lookup x == some .local
/-- (a, b) = two names: 0 as any store, 1 swapped, 2 not served -/
def kind2 (c : Ct) (x y : Str) (lx ly : Nat) (a b : Expr) : Nat :=
  if noStar [a, b] = true then
    (if (isLoc c x && isLoc c y) = true then
      (if (foldedForSure 8 a && foldedForSure 8 b) = true then 0
      else if (constantsAlone 8 a && constantsAlone 8 b) = true then 2
      else if (ly == lx) = true ∧ x ≠ y then 1 else 2)
    else 0)
  else 2
def names2 : List Expr → Option (Str × Pos × Str × Pos)
  | [.Name x px, .Name y py] => some (x, px, y, py)
  | _ => none
def two : List Expr → Option (Expr × Expr)
  | [a, b] => some (a, b)
  | _ => none
def tupOf : Expr → Option (List Expr)
  | .Tuple es _ _ => some es
  | _ => none
/-- a store to a tuple of targets -/
def cTup (n : Nat) (c : Ct) (ts : List Expr) (tg value : Expr) : MS :=
  match tupOf value with
  | none => if notComp value = true then sE (cX n c value).e (sStore (cG n c tg).st) else sStuck
  | some vs => match names2 ts, two vs with
    | some (x, px, y, py), some (a, b) => match kind2 c x y px.line py.line a b with
      | 0 => sE (cX n c value).e (sStore (cG n c tg).st)
      | 1 => match locC c x, locC c y with
        | some i, some j => if i ≠ j then sE (mSeq [(cX n c a).e, (cX n c b).e]) (sPar [i, j]) else sStuck
        | _, _ => sStuck
      | _ => sStuck
    | _, _ => if (ts.length == 2 || ts.length == 3) = false then sE (cX n c value).e (sStore (cG n c tg).st) else sStuck
/-- where a comprehension's list is put at once -/
def swB (c : Ct) (y : Str) (py : Pos) (e : Expr) : Bool := match e with
  | .ListComp _ _ scope pos => isLoc c y && (py.line == pos.line) && !(scope.names.any fun (n, k) => n == y && (k == .local || k == .cell))
  | _ => false
def lstOf : Expr → Option (List Expr)
  | .List es _ => some es
  | _ => none
theorem lstOf_eq {e : Expr} {es : List Expr} (h : lstOf e = some es) : ∃ p, e = .List es p := by
  unfold lstOf at h
  split at h
  · cases h
    exact ⟨_, rfl⟩
  · cases h
def cAsg (n : Nat) (c : Ct) (tg value : Expr) : MS := match nameOf tg with
  | some x => match locC c x with
    | some i => if notComp value = true then (match lstOf value with
        | some es => if noStar es = true then sOwn i (mSeq (es.map fun e => (cX n c e).e)) else sStuck
        | none => sE (cX n c value).e (sSet i)) else
      (match value with
      | .ListComp .. => sE (cX n c value).e (sSet i)
      | _ => sStuck)
    | none => sStuck
  | none => match tupOf tg with
    | some ts => cTup n c ts tg value
    | none => match subOf tg with
      | some (x, ix) => match slotC c x with
        | some i => if notComp value = true ∧ notSl ix = true then sSub (isOne ix) i (cX n c ix).e (cX n c value).e else sStuck
        | none => sStuck
      | none => sStuck
noncomputable def cS : Nat → Ct → Stmt → MS
  | 0, _, _ => sStuck
  | n + 1, c, st => match st with
    | .Expr e _ => match appOf e with
      | some (x, a, l) => match slotC c x with
        | some i => if l = true ∧ noStar [a] = true then sAppend i (cX n c a).e else sStuck
        | none => sStuck
      | none => if notComp e = true then sE (cX n c e).e (fun _ => sNext) else sStuck
    | .Return v _ => match v with
      | some e => sRet (cX n c e).e
      | none => fun S => .ret .none S
    | .If t a b _ => sIf (cX n c t).t (sAll (cS n c) a) (sAll (cS n c) b)
    | .For tg it body els _ => if els.isEmpty = true ∧ noSet it = true then sFor (cI c (fun e => (cX n c e).e) tg it) (cG n c tg).st (sAll (cS n c) body) else sStuck
    | .While t body els _ => if els.isEmpty = true then sWhile (cX n c t).t (sAll (cS n c) body) else sStuck
    | .Pass _ => sNext
    | .Break _ => fun S => .brk S
    | .Continue _ => fun S => .cont S
    | .Raise ex cause _ => match ex, cause with
      | some e, none => match callOf e with
        | some (x, args) => match args with
          | [a] => if isG c x = true ∧ noStar [a] = true ∧ 2 ≤ c.lv then (match c.xs x with
              | some k => sRaise k (cX n c a).e
              | none => sStuck) else sStuck
          | _ => sStuck
        | none => sStuck
      | _, _ => sStuck
    | .AugAssign tg op e _ => match nameOf tg with
      | some x => match locC c x with
        | some i => sAug op i (cX n c e).e
        | none => sStuck
      | none => sStuck
    | .Assign tgs e _ => match tgs with
      | [tg] => cAsg n c tg e
      | _ => sStuck
    | _ => sStuck
structure Fs (X : Cx) (g : Gx) (W : WX) (c : Ct) : Prop where
  fx : Fx X g W c
  told : TOk X g W c
  po : PassesOwn (model X.prog X.w) X.A X.env X.xe
  kind : c.sc.kind = .function
section
variable {X : Cx} {g : Gx} {W : WX} {c : Ct}
theorem sAll_ok {f : Stmt → MS} (h : ∀ s, JS X g W s (f s)) : ∀ l : List Stmt, JSs X g W l (sAll f l)
  | [] => jss_nil
  | s :: r => jss_cons (h s) (sAll_ok h r)
theorem tupOf_eq {e : Expr} {es : List Expr} (h : tupOf e = some es) : ∃ k p, e = .Tuple es k p := by
  unfold tupOf at h
  split at h
  · cases h
    exact ⟨_, _, rfl⟩
  · cases h
theorem names2_eq {ts : List Expr} {x y : Str} {px py : Pos} (h : names2 ts = some (x, px, y, py)) : ts = [.Name x px, .Name y py] := by
  unfold names2 at h
  split at h
  · cases h
    rfl
  · cases h
theorem two_eq {ts : List Expr} {a b : Expr} (h : two ts = some (a, b)) : ts = [a, b] := by
  unfold two at h
  split at h
  · cases h
    rfl
  · cases h
theorem asg1 {tg : Expr} {env : Env} (h : noStar [tg] = true) : (assignEach [tg] env).map (·.2) = [assign tg env] := by
  rw [asg_cons h]
  rfl
theorem cTup_ok (f : Fs X g W c) (n : Nat) {ts : List Expr} {k : Nat} {p pos : Pos} (value : Expr) : JS X g W (.Assign [.Tuple ts k p] value pos) (cTup n c ts (.Tuple ts k p) value) := by
  have ih := cX_ok n X W c f.fx f.told
  have tg := cG_ok f.fx n (.Tuple ts k p)
  unfold cTup
  split
  · rename_i hv
    split
    · rename_i hn
      refine js_asg tg (ih value).e (show swapsWith _ (some (.Tuple ts k p)) pos.line X.env = pure false from swaps_no hn) (swap_not ?_) (asg1 rfl)
      cases value <;> first | rfl | cases hv
    · exact js_stuck
  · rename_i vs hv
    obtain ⟨k2, p2, rfl⟩ := tupOf_eq hv
    split
    · rename_i x px y py a b h1 h2
      obtain rfl := names2_eq h1
      obtain rfl := two_eq h2
      have kx : ∀ z, (X.env.kindOf z == some .local) = isLoc c z := fun z => by
        unfold isLoc Env.kindOf
        rw [f.fx.sc]
      split
      · rename_i hk
        unfold kind2 at hk
        split at hk
        · rename_i hs
          split at hk
          · rename_i hl
            split at hk
            · rename_i hf
              exact js_asg tg (ih _).e rfl (swap2_fold hs hf) (asg1 rfl)
            · split at hk
              · cases hk
              · split at hk <;> cases hk
          · rename_i hl
            refine js_asg tg (ih _).e rfl (swap2_none hs ?_) (asg1 rfl)
            rw [kx, kx]
            simpa using hl
        · cases hk
      · rename_i hk
        unfold kind2 at hk
        split at hk
        · rename_i hs
          split at hk
          · rename_i hl
            split at hk
            · cases hk
            · rename_i hf
              split at hk
              · cases hk
              · rename_i hc
                split at hk
                · rename_i hz
                  split
                  · rename_i i j hi hj
                    split
                    · rename_i hij
                      rw [Bool.and_eq_true, ← kx, ← kx] at hl
                      have lx : X.env.kindOf x = some .local := by simpa using hl.1
                      have ly : X.env.kindOf y = some .local := by simpa using hl.2
                      have n1 := (loc_ok hi).1
                      have n2 := (loc_ok hj).1
                      rw [← f.fx.N] at n1 n2
                      have pa : JAe X g W [a, b] (mSeq [(cX n c a).e, (cX n c b).e]) := ja_all (f := fun e => (cX n c e).e) (mono_E _) hs fun e _ => (ih e).e
                      have hw := swap2_some (env := X.env) (px := px) (py := py) (p := p) (p2 := p2) (k := k) (k2 := k2) (by rw [f.fx.sc]; exact f.kind) lx ly hz.1 hz.2 hs (by simpa using hf) (by simpa using hc)
                      exact js_par2 f.fx hi hj hij pa (ps_par f.fx.calm (by rw [f.fx.N]; exact f.fx.nd) n1 n2 hij lx ly pa hw rfl)
                    · exact js_stuck
                  · exact js_stuck
                · cases hk
          · cases hk
        · cases hk
      · exact js_stuck
    · split
      · rename_i hl
        exact js_asg tg (ih _).e rfl (swap_len hl) (asg1 rfl)
      · exact js_stuck
/-- name = [.. for ..] -/
theorem sw_lc {elt : Expr} {gens : List Comprehension} {scope : Scope} {pos py : Pos} {y : Str} {l : Nat} (f : Fs X g W c) (h : swB c y py (.ListComp elt gens scope pos) = false) : swapsWith (.ListComp elt gens scope pos) (some (.Name y py)) l X.env = pure false := by
  have hb : X.env.blockKind = .function := by
    unfold Env.blockKind
    rw [f.fx.sc, f.kind]
    rfl
  have hk : X.env.kindOf y = c.sc.names.lookup y := by
    unfold Env.kindOf
    rw [f.fx.sc]
  unfold swB isLoc at h
  unfold swapsWith
  simp only [hb, hk, Expr.pos]
  show pure (_ && _ && _ && _) = pure false
  congr 1
theorem js_lc (f : Fs X g W c) {n : Nat} {x : Str} {i : Nat} {elt : Expr} {gens : List Comprehension} {scope : Scope} {p pos spos : Pos} (hi : locC c x = some i) :
    JS X g W (.Assign [.Name x p] (.ListComp elt gens scope pos) spos) (sE (cX n c (.ListComp elt gens scope pos)).e (sSet i)) := by
  cases hb : swB c x p (.ListComp elt gens scope pos) with
  | false => exact PS.of (ps_asg (cX_ok n X W c f.fx f.told _).e (pg_loc f.fx hi) (show swapsWith _ (some (.Name x p)) spos.line X.env = pure false from sw_lc f hb) rfl rfl) fun E σ H ⟨b, F, S, x, q⟩ => bindS x q fun d S1 v F1 H1 x1 s1 f1 r1 q1 => q1 _ F1 H1 (x1.set r1) (Same.refl _)
  | true =>
    cases n with
    | zero => exact ⟨fun pins s σ H E I ⟨b, F, S, x, q⟩ => q.elim⟩
    | succ n =>
      unfold cX
      dsimp only
      split
      · rename_i gn
        split
        · rename_i hg
          obtain ⟨tg, it, ifs, as⟩ := gn
          unfold genOk at hg
          simp only [Bool.and_eq_true] at hg
          obtain ⟨⟨⟨⟨h1, h2⟩, h3⟩, h4⟩, h5⟩ := hg
          obtain rfl : as = 0 := by simpa using h1
          have ok : BlkOk X.N X.env.scope scope (ownSl c scope) := by
            rw [f.fx.N, f.fx.sc]
            exact blkOk_by h3
          have hks : ∀ k ∈ (cG n (c.blk scope) tg).js, k ∈ (ownSl c scope).map (·.2) := fun k hk => by
            have q := List.all_eq_true.mp h5 k hk
            obtain ⟨p, hp, e⟩ := List.any_eq_true.mp q
            exact List.mem_map.mpr ⟨p, hp, by simpa using e⟩
          have noT : ∀ X' W', TOk X' g W' (c.blk scope) := fun X' W' x h e => by cases e
          have blk := fun s H C cl fp => f.fx.blk s H scope cl C fp
          have tgk := fun (s : Shared) (H : Hp) (C : Addr) (cl : List (Str × Addr)) (fp : List Addr) => cG_ok (blk s H C cl fp) n tg
          unfold swB isLoc at hb
          simp only [Bool.and_eq_true] at hb
          obtain ⟨⟨hb1, hb2⟩, hb3⟩ := hb
          have ly : X.env.scope.names.lookup x = some .local := by
            rw [f.fx.sc]
            simpa using hb1
          have n1 := (loc_ok hi).1
          rw [← f.fx.N] at n1
          refine PS.of (ps_setLc (te := tG X.K g noW (repE X.K) (cX n (c.blk scope) elt).e) (tt := tG X.K g noW repT (cIfs (fun e => (cX n (c.blk scope) e).t) ifs)) (g := (cG n (c.blk scope) tg).G X.K) (wi := tG X.K g W (repIt X.K) (cI c (fun e => (cX n c e).e) tg it)) f.fx.calm (by rw [f.fx.N]; exact f.fx.nd) n1 ly
            (sw_true (by rw [f.fx.sc]; exact f.kind) ly hb2 (by simpa using hb3)) (cI_ok f.fx (fun e => (cX_ok n X W c f.fx f.told e).e) tg it) ok (fun s H C cl fp => (tgk s H C cl fp).1)
            (fun s H C cl fp => cIfs_ok h4 fun e => (cX_ok n _ noW _ (blk s H C cl fp) (noT _ _) e).t) (fun s H C cl fp => (cX_ok n _ noW _ (blk s H C cl fp) (noT _ _) elt).e) (noSet_ok h2)) fun E σ H ⟨b, F, S, x, q⟩ => ?_
          refine je_lc (js := freeSl c scope) (mi := cI c (fun e => (cX n c e).e) tg it) (mt := cIfs (fun e => (cX n (c.blk scope) e).t) ifs) (me := (cX n (c.blk scope) elt).e) hks (tgk X.s_0 (fun _ => none) 0 [] []).2 ?_
          exact bindS x q fun d S1 v F1 H1 x1 s1 f1 r1 q1 => q1 _ F1 H1 (x1.set r1) (Same.refl _)
        · exact ⟨fun pins s σ H E I ⟨b, F, S, x, q⟩ => q.elim⟩
      · exact ⟨fun pins s σ H E I ⟨b, F, S, x, q⟩ => q.elim⟩
theorem cAsg_ok (f : Fs X g W c) (n : Nat) (tg value : Expr) {pos : Pos} : JS X g W (.Assign [tg] value pos) (cAsg n c tg value) := by
  unfold cAsg
  split
  · rename_i x hx
    obtain ⟨p, rfl⟩ := nameOf_eq hx
    split
    · rename_i i hi
      split
      · rename_i hn
        split
        · rename_i es hl
          obtain ⟨p2, rfl⟩ := lstOf_eq hl
          split
          · exact js_own f.fx hi (ja_all (mono_E _) (by assumption) fun e _ => (cX_ok n X W c f.fx f.told e).e)
          · exact js_stuck
        · exact js_set f.fx hi (cX_ok n X W c f.fx f.told _).e hn
      · split
        · exact js_lc f hi
        · exact js_stuck
    · exact js_stuck
  · split
    · rename_i ts ht
      obtain ⟨k, p, rfl⟩ := tupOf_eq ht
      exact cTup_ok f n value
    · split
      · rename_i x ix hs
        obtain ⟨p, pos, rfl⟩ := subOf_eq hs
        split
        · rename_i i hi
          split
          · rename_i hz
            have j2 := fun pos' => js_putAt f.fx (p := p) (pos := pos) (pos' := pos') hi (cX_ok n X W c f.fx f.told ix).e (cX_ok n X W c f.fx f.told value).e hz.1 hz.2
            refine ⟨fun pins s σ H E I ⟨b, F, S, y, q⟩ => ?_⟩
            unfold sSub at q
            split at q
            · split at q
              · rename_i h1
                obtain ⟨j, p2, rfl⟩ := isOne_eq h1
                exact (js_box f.fx hi (cX_ok n X W c f.fx f.told value).e hz.1).run pins s σ H E I ⟨b, F, S, y, q⟩
              · exact q.elim
            · exact (j2 _).run pins s σ H E I ⟨b, F, S, y, q⟩
          · exact js_stuck
        · exact js_stuck
      · exact js_stuck
theorem cS_ok (f : Fs X g W c) : ∀ (n : Nat) (st : Stmt), JS X g W st (cS n c st)
  | 0, _ => js_stuck
  | n + 1, st => by
    have ih := fun l => sAll_ok (cS_ok f n) l
    have ix := cX_ok n X W c f.fx f.told
    unfold cS
    split
    · split
      · rename_i x a l hp
        obtain ⟨p, p2, cpos, rfl, rfl⟩ := appOf_eq hp
        split
        · split
          · rename_i hz
            exact js_append f.fx (by assumption) (ix _).e hz.2 hz.1
          · exact js_stuck
        · exact js_stuck
      · split
        · exact js_expr (ix _).e (by assumption)
        · exact js_stuck
    · split
      · exact js_ret (ix _).e
      · exact js_retN
    · exact js_if (ix _).t (ih _) (ih _)
    · split
      · rename_i tg it body els pos hz
        obtain ⟨h1, h2⟩ := hz
        obtain rfl : els = [] := by simpa using h1
        exact js_for f.po f.fx.calm (cI_ok f.fx (fun e => (ix e).e) tg it) (cG_ok f.fx n tg) (ih body) h2
      · exact js_stuck
    · split
      · rename_i t body els pos h1
        obtain rfl : els = [] := by simpa using h1
        exact js_while f.po (ix t).t (ih body)
      · exact js_stuck
    · exact js_pass
    · exact js_break
    · exact js_continue
    · split
      · split
        · rename_i hc
          obtain ⟨p, pos, rfl⟩ := callOf_eq hc
          split
          · split
            · rename_i hz
              obtain ⟨h1, h2, h3⟩ := hz
              split
              · exact js_raise f.fx h1 (by assumption) h3 h2 (ix _).e
              · exact js_stuck
            · exact js_stuck
          · exact js_stuck
        · exact js_stuck
      · exact js_stuck
    · split
      · rename_i hx
        obtain ⟨p, rfl⟩ := nameOf_eq hx
        split
        · exact js_aug f.fx (by assumption) (ix _).e
        · exact js_stuck
      · exact js_stuck
    · split
      · exact cAsg_ok f n _ _
      · exact js_stuck
    · exact js_stuck

/-! ### a def keeps its promise -/
def slotA : Arg → DV
  | .d x => .sh x
  | .box => .bx
def fmOf (n N : Nat) (m : MS) : FM := fun as bx => if as.length = n then (match m ⟨as.map slotA ++ List.replicate (N - n) DV.un, bx⟩ with
  | .next S => .ret .none S.bx
  | .ret d S => .ret d S.bx
  | .exc c d b => .exc c d b
  | _ => .stuck) else .stuck
theorem SR.enter {K : PySem.W.Frag} {b : Bs} {H : Hp} {bx : Bx} {vs : List V} {as : List Arg} {N : List Str} (x : SR K g b b.F0 ⟨[], bx⟩ [] H) (r : repL (repA K) b b.F0 H vs as) : SR K g b b.F0 ⟨as.map slotA ++ List.replicate (N.length - as.length) DV.un, bx⟩ (L2.start N vs) H where
  len := by
    show (as.map slotA ++ List.replicate (N.length - as.length) DV.un).length = (L2.start N vs).length
    unfold L2.start
    rw [List.length_append, List.length_append, List.length_map, List.length_map, List.length_replicate, List.length_replicate, r.1]
  ff := x.ff
  f0 := x.f0
  fn := x.fn
  nt := x.nt
  ext := x.ext
  slot i u y e1 e2 := by
    by_cases hi : i < as.length
    · have e1 : (as.map slotA ++ List.replicate (N.length - as.length) DV.un)[i]? = some u := e1
      rw [List.getElem?_append_left (by simpa using hi), List.getElem?_map] at e1
      unfold L2.start at e2
      rw [List.getElem?_append_left (by rw [List.length_map, r.1]; exact hi), List.getElem?_map] at e2
      cases ea : as[i]? with
      | none => rw [ea] at e1; cases e1
      | some a =>
        cases ev : vs[i]? with
        | none => rw [ev] at e2; cases e2
        | some v =>
          rw [ea] at e1
          rw [ev] at e2
          cases e1
          cases e2
          have q := r.2 i v a ev ea
          cases a with
          | d z => exact ⟨v, rfl, q⟩
          | box => exact ⟨q.1, by rw [q.2]⟩
    · have e1 : (as.map slotA ++ List.replicate (N.length - as.length) DV.un)[i]? = some u := e1
      rw [List.getElem?_append_right (by rw [List.length_map]; omega), List.getElem?_replicate] at e1
      split at e1
      · cases e1
        trivial
      · cases e1
  dist i j d e y _ h := by
    have h : (as.map slotA ++ List.replicate (N.length - as.length) DV.un)[i]? = some (.ow d) := h
    by_cases hi : i < as.length
    · rw [List.getElem?_append_left (by simpa using hi), List.getElem?_map] at h
      cases ea : as[i]? with
      | none => rw [ea] at h; cases h
      | some a => rw [ea] at h; cases a <;> cases h
    · rw [List.getElem?_append_right (by rw [List.length_map]; omega), List.getElem?_replicate] at h
      split at h <;> cases h
  box := x.box
  tabs := x.tabs
theorem fnG_of {P : Program} {w : World} {K : PySem.W.Frag} {mg : Str → Option Value} {base : Heap} {k : Nat} {gr : Bool} {f : Addr} {name qual : Str} {params : Arguments} {body : List Stmt} {scope : Scope} {dV kV doc pm cdv ct oc : Value} {an od : Option Addr}
    {osl : Array (Option Value)} {N ps : List Str} {m : MS} (lk : K.lookup f = some ⟨oc, od, .func (PySem.W.fnOf name qual params body scope dV kV doc pm an cdv ct), osl⟩) (hcd : PySem.W.codeIn K cdv qual = true) (S : FnScope N ps scope)
    (hb : ∀ us : List Value, us.length = ps.length → bindArgs (PySem.W.fnOf name qual params body scope dV kV doc pm an cdv ct) ⟨us, []⟩ = pure (ps.zip us))
    (hbody : ∀ (A : Around) (outer : List Env) (s : Shared) (H : Hp) (E : XK), Room k (A.deeper (envOfC qual scope s.heap.objs.size f cdv)) → (gr = true → A.guards = some []) →
      JSs (cxOf (L2.CX P w) P w K mg base N qual scope f cdv A outer s H E) g (fun cls d _ H => E cls d H) body m) :
    FnG P w K mg base g (k + 1) gr f ps.length (fmOf ps.length N.length m) := by
  refine ⟨fun A outer s H us vs Q E hr hgd e0 r sp => ?_⟩
  obtain ⟨hl, b, as, bx, hH, x, ra, hm⟩ := sp
  refine LamX.run_ofS (N := N) (ps := ps) (us := us) (vs := vs) lk hcd S hr e0 (.of_eq (hb us (by rw [← r.length]; exact hl))) r hl fun hr' => ⟨_, hbody A outer s H E hr' hgd, ?_⟩
  have hal : as.length = ps.length := ra.1.symm.trans hl
  refine ⟨b, b.F0, _, x.enter ra, ?_⟩
  unfold fmOf at hm
  rw [if_pos hal, ← hal] at hm
  cases em : m ⟨as.map slotA ++ List.replicate (N.length - as.length) DV.un, bx⟩ with
  | next S' =>
    rw [em] at hm
    exact fun σ' F' H' x' _ => hm .non F' H' x'.forget .non
  | ret d S' =>
    rw [em] at hm
    exact fun v F' H' x' _ r' => hm v F' H' x' r'
  | exc n d bx' =>
    rw [em] at hm
    exact fun σ a C fl v F' H' hc x' e' r' => hm a C fl v F' H' hc x' e' r'
  | brk S' => rw [em] at hm; exact hm.elim
  | cont S' => rw [em] at hm; exact hm.elim
  | stuck => rw [em] at hm; exact hm
end
end Gl

set_option maxRecDepth 100000
set_option maxHeartbeats 1000000
/-! The general layer, part K: an own error, class E(B) with B(ValueError): its making. -/
namespace Gl
open PySem PySem.W PySem.Calls PyProof.Rows PySem.HandSPX
/-- def __init__(self, f): super().__init__(f); self.f = f -/
def xA (f : Str) (p1 p2 : Pos) : Arguments := { posonlyargs := [], args := [{ arg := "self", annotation := none, pos := p1 }, { arg := f, annotation := none, pos := p2 }], vararg := none, kwonlyargs := [], kw_defaults := [], kwarg := none, defaults := [] }
def xB (f : Str) (q1 q2 q3 q4 q5 q6 q7 q8 q9 q10 : Pos) : List Stmt :=
  [.Expr (.Call (.Attribute (.Call (.Name "super" q1) [] [] q2) "__init__" q3) [.Name f q4] [] q5) q6, .Assign [.Attribute (.Name "self" q7) f q8] (.Name f q9) q10]
def xS (f : Str) : Scope := { kind := .function, names := [("self", .local), (f, .local), ("__class__", .free), ("super", .globalImplicit)], isGenerator := false, isCoroutine := false, more := [] }
/-- what the written part says of the class at C -/
structure XTxt (P : Program) (K : Frag) (mg : Str → Option Value) (nm f : Str) (C fI : Addr) : Prop where
  gC : mg nm = some (.ref C)
  gS : mg "super" = none
  cls : ∃ nm q N bs bm sn sub ab col dd k0 k1 k2 k3 k5, K.lookup C = some (excClassObj nm q C N bs bm true sn sub ab col dd k0 k1 k2 k3 k5 "ValueError.__new__") ∧ refsVE bm = true
  sup : ks_superIn K C C "__init__" = some (some (.builtin "ValueError.__init__"))
  sa : findIn K (.ref C) "__setattr__" = some (some (.builtin "object.__setattr__"))
  noN : findIn K (.ref C) f = some none
  iC : findIn K (.ref C) "__init__" = some (some (.ref fI))
  tC : typeIn K (.ref fI) = some (.type "function")
  kC : keepIn K (.ref C) = true
  exC : subIn K (.ref C) (.type "BaseException") = some true
  veC : subIn K (.ref C) (.type "ValueError") = some true
  ccC : subIn K (.ref C) (.ref C) = some true
  tyC : typeIn K (.ref C) = some (.type "type")
  opq : nsIn K cStatics "thirdparty.any" = some none
  top : (P.main.scope.names.lookup ("super" : Str)).isSome = false
  fok : f ≠ "self" ∧ (f == ("__debug__" : Str)) = false ∧ f ≠ "__class__" ∧ f ≠ "super"
  fn : ∃ (oc : Value) (od : Option Addr) (osl : Array (Option Value)) (nm q : Str) (p1 p2 q1 q2 q3 q4 q5 q6 q7 q8 q9 q10 : Pos) (cc : Addr) (dV kV doc pm : Value) (an : Option Addr) (cda : Addr) (ct : Value) (occ : Obj) (oco : Obj) (vs : Array Value) (file : Str) (tf : Tok),
    K.lookup fI = some ⟨oc, od, .func ⟨nm, q, xA f p1 p2, .stmts (xB f q1 q2 q3 q4 q5 q6 q7 q8 q9 q10), xS f, mainGlobals, [("__class__", cc)], dV, kV, doc, pm, an, .ref cda, ct, builtinsNs⟩, osl⟩ ∧
    codeIn K (.ref cda) q = true ∧ K.lookup cc = some occ ∧ occ.data = .cell (some (.ref C)) ∧ K.lookup cda = some oco ∧ oco.data = .fields vs ∧ vs[2]? = some (.str file tf) ∧ (P.main.file == file) = true ∧ (q3.endLine == q5.line) = true ∧
    ∀ a v : Value, bindArgs ⟨nm, q, xA f p1 p2, .stmts (xB f q1 q2 q3 q4 q5 q6 q7 q8 q9 q10), xS f, mainGlobals, [("__class__", cc)], dV, kV, doc, pm, an, .ref cda, ct, builtinsNs⟩ ⟨[a, v], []⟩ = pure [(("self" : Str), a), (f, v)]
/-- what __init__ leaves of a fresh error at x -/
structure XEnd (h h' : Heap) (x C dx t1 : Addr) (f : Str) (v : Value) : Prop where
  keep : ∀ b o, b ≠ x → h.get? b = some o → h'.get? b = some o
  obj : h'.get? x = some { cls := .ref C, dict := some dx, data := .fields #[.ref t1, .none, .none, .none, .bool false, .none] }
  dbig : h.objs.size ≤ dx
  dne : dx ≠ x
  ns : h'.Ns1 dx (fun y => if y = f then some v else none)
section
variable {prog : Program} {w : World} {A : Around} {E : Value → Shared → Prop} {R : Result → Shared → Prop} {s : Shared} {K : Frag} {mg : Str → Option Value} {C fI : Addr} {nm f : Str}
theorem ldE {M : Model} {env : Env} {m : Str → Option Value} {x : Str} {pos : Pos} {v : Value} {Q : Value → Shared → Prop} (hn : s.heap.Ns env.locals m) (hv : m x = some v) (h : Q v s)
    (hk : env.scope.kind = .function) (hl : env.kindOf x = some .local) (hd : (x == ("__debug__" : Str)) = false) : wpAny M A (eval (.Name x pos) env) Q E s := wpAny_Name (wpAny_loadName_local hk hl hn hv h) hd
/-- the wrapper of ValueError.__init__ is called -/
theorem x_bound {u e t0 : Addr} {rest : List Value} {Q : Value → Shared → Prop} {h : Heap} {g : Array GenState} {d : Drawn} {t : Nat} {os : OsState} {nm q : Str} {N : Addr} {bs bm : List Value} {hdct : Bool} {sn : List Str} {sub : List Value} {ab : Bool} {col : Option Bool} {dd : Option Addr} {k0 k1 k2 k3 k5 : Option Value}
    (hC : h.get? C = some (excClassObj nm q C N bs bm hdct sn sub ab col dd k0 k1 k2 k3 k5 "ValueError.__new__")) (he : h.get? e = some (excO C t0)) (hu : h.get? u = some (kxs_mw "ValueError.__init__" e)) (hz : rest.length ≤ sizeLine)
    (hq : ∀ h' t1, (∀ b o, b ≠ e → h.get? b = some o → h'.get? b = some o) → h'.get? e = some (excO C t1) → Q .none ⟨h', g, d, t, os⟩) : wpAny (model prog w) A (call (.ref u) rest) Q E ⟨h, g, d, t, os⟩ := by
  have FB := F.excBase_ValueError
  refine wpAny_call (codeAny_of_tree ?_)
  show wpAny _ A.in1 (callAny (.ref u) ⟨rest, []⟩) _ _ _
  simp only [callAny]
  refine wpAny_bind (wpAny_load hu ?_)
  have two : (Value.type "method-wrapper" == Value.type "method" || Value.type "method-wrapper" == Value.type "builtin_function_or_method" || Value.type "method-wrapper" == Value.type "method-wrapper") = true := by decide
  simp only [kxs_mw, two, if_true]
  refine KFB.if_so (by decide) (wpAny_bind (check_bound_init FB.toExcCallFacts hC he rfl ?_))
  refine wpAny_bind (wpAny_pure (wpAny_pure ⟨plainId_quiet FB.init.plain _, codeAny_builtin FB.initEntry ?_⟩))
  exact exc_init_tree (cls := .ref C) (t0 := t0) (dv := none) (c2 := .none) (c3 := .none) (b4 := .bool false) he hz fun h' k e' _ => hq h' _ k e'
theorem x_init (T : XTxt prog K mg nm f C fI) {x t0 : Addr} {v : Value} (X : K.In s.heap) (hg : s.heap.Ns mainGlobals mg) (hb : ∃ mb, s.heap.Ns builtinsNs mb ∧ ∀ x : Str, x ≠ "__name__" → mb x = bootBuiltins x) (hlim : s.heap.NoLimit) (hx : s.heap.get? x = some (excO C t0)) (hnx : K.lookup x = none) (hroom : A.depth < recursionLimit)
    (hq : ∀ h' tk dx t1, XEnd s.heap h' x C dx t1 f v → R (.ok (.ret .none)) { s with heap := h', toks := tk }) : codeAny (model prog w) A (.call (.ref fI) ⟨[.ref x, v], []⟩) R s := by
  obtain ⟨oc, od, osl, nm', qn, p1, p2, q1, q2, q3, q4, q5, q6, q7, q8, q9, q10, cc, dV, kV, doc, pm, an, cda, ct, occ, oco, vs, file, tf, ho, hcd, hcc, hccd, hco, hcod, hvs, hfile, hln, hbi⟩ := T.fn
  obtain ⟨cn, cq, N, bs, bm, sn, sub, ab, col, dd, k0, k1, k2, k3, k5, hC, hbm⟩ := T.cls
  obtain ⟨f1, f2, f3, f4⟩ := T.fok
  have hcl : clsIn K C = some { name := cn, bases := bs, mro := .ref C :: bm, ns := N, qualname := cq, hasDict := true, slotNames := sn, subclasses := sub, abstract := ab, collection := col, hasDel := false } := by unfold clsIn; rw [hC] <;> rfl
  have lkf : (xS f).names.lookup f = some .local := by
    have z1 : (f == ("self" : Str)) = false := by simpa using f1
    simp [xS, List.lookup_cons, z1]
  refine ks_codeAny_call_defAt (binds := [("self", .ref x), (f, v)]) hroom (X _ _ ho) rfl hlim (codeRec_of X hcd) rfl (BindsTo.of_eq (hbi _ _)) ?_ ?_ fun h₁ hn kp => ?_
  · intro y hy
    have hy : y ∈ (xS f).names := hy
    simp only [xS, List.mem_cons, List.not_mem_nil, or_false] at hy
    rcases hy with rfl | rfl | rfl | rfl <;> exact fun z => by cases z
  · intro y hy
    have hy : y ∈ [(("self" : Str), Value.ref x), (f, v)] := hy
    simp only [List.mem_cons, List.not_mem_nil, or_false] at hy
    rcases hy with rfl | rfl
    · rfl
    · exact lkf
  generalize henv : callEnv _ s.heap.objs.size fI = env
  have esc : env.scope = xS f := by rw [← henv]; rfl
  have ecl : env.cells = [(("__class__" : Str), cc)] := by rw [← henv]; rfl
  have elo : env.locals = s.heap.objs.size := by rw [← henv]; rfl
  have eco : env.code = .ref cda := by rw [← henv]; rfl
  have efu : env.func = some fI := by rw [← henv]; rfl
  have egl : env.globals = mainGlobals := by rw [← henv]; rfl
  have ebl : env.builtins = builtinsNs := by rw [← henv]; rfl
  have ek : env.scope.kind = .function := by rw [esc]; rfl
  have kS : env.kindOf "super" = some .globalImplicit := by
    have z1 : (("super" : Str) == f) = false := by simpa using (fun z => f4 z.symm)
    unfold Env.kindOf
    rw [esc]
    simp only [xS, List.lookup_cons, z1]
    rfl
  have kc : env.kindOf "__class__" = some .free := by
    have z1 : (("__class__" : Str) == f) = false := by simpa using (fun z => f3 z.symm)
    unfold Env.kindOf
    rw [esc]
    simp only [xS, List.lookup_cons, z1]
    rfl
  have kf : env.kindOf f = some .local := by
    unfold Env.kindOf
    rw [esc]
    exact lkf
  have ks : env.kindOf "self" = some .local := by
    unfold Env.kindOf
    rw [esc]
    rfl
  have X1 : K.In h₁ := X.keeps kp
  have hx1 := kp _ _ hx
  obtain ⟨mb, hb1, hb2⟩ := hb
  have ms : (fun y => List.lookup y [(("self" : Str), Value.ref x), (f, v)].reverse) "self" = some (.ref x) := by
    have z1 : (("self" : Str) == f) = false := by simpa using (fun z => f1 z.symm)
    simp [List.lookup_cons, z1]
  have mf : (fun y => List.lookup y [(("self" : Str), Value.ref x), (f, v)].reverse) f = some v := by
    simp [List.lookup_cons]
  rw [← elo] at hn
  have xC : x ≠ C := fun z => by
    rw [z, hC] at hnx
    cases hnx
  -- super().__init__(f)
  have he : eval (.Call (.Attribute (.Call (.Name "super" q1) [] [] q2) "__init__" q3) [.Name f q4] [] q5) env = (do
      let ov ← attributeBase (.Call (.Name "super" q1) [] [] q2) "__init__" env (eval (.Call (.Name "super" q1) [] [] q2) env)
      standAt q3.atName
      let (f1, first) ← holding [ov] (getMethod ov "__init__" (do return (← importBound (.Call (.Name "super" q1) [] [] q2) env).getD true))
      callWith q5 f1 first (backTo q5 (starEach [.Name f q4] env)) []) := by
    have e1 : methodCallPos (methodCallForm 1 (backTo q5 (starEach [.Name f q4] env)) []) (.Call (.Name "super" q1) [] [] q2) env q3 q5 = pure q5 := by
      unfold methodCallPos
      rw [if_pos (by rw [hln]; simp)]
    show (attributeBase (.Call (.Name "super" q1) [] [] q2) "__init__" env (eval (.Call (.Name "super" q1) [] [] q2) env) >>= fun ov => standAt q3.atName >>= fun _ => methodCall (.Call (.Name "super" q1) [] [] q2) "__init__" q3 q5 env ov 1 (backTo q5 (starEach [.Name f q4] env)) []) = _
    unfold methodCall
    rw [e1]
    rfl
  refine ks_wpAt_execs_cons (ks_wpAt_Expr_any (ks_wpAt_MethodCall (ks_wpAt_super_base kS kc (by decide) efu (X1 _ _ ho) rfl rfl eco (X1 _ _ hco) hcod hvs hfile T.top ?_) he) (by simp [interactive, ek]) rfl)
  have ldS : ∀ {Q : Value → Shared → Prop} {E : Value → Shared → Prop} {A : Around} {s' : Shared}, (∀ b o, s.heap.get? b = some o → s'.heap.get? b = some o) → Q (.type "super") s' → wpAny (model prog w) A (loadName env "super") Q E s' := fun {Q E A s'} kk q => by
    unfold loadName
    simp only [Env.blockKind, ek, kS, ScopeKind.isAnnotationScope, Bool.false_and, Bool.false_eq_true, if_false]
    exact loadGlobal_builtin (by rw [egl]; exact hg.keeps kk) T.gS (by rw [ebl]; exact hb1.keeps kk) ((hb2 "super" (by decide)).trans (by decide +kernel)) q
  refine ldS kp ⟨rfl, ?_⟩
  refine wpAny_loadName_free ek kc (by rw [ecl]; rfl) ⟨occ, X1 _ _ hcc, hccd⟩ ?_ (by decide)
  refine wpAny_loadName_local ek ks hn ms ?_
  obtain ⟨hp, gg, dd2, tt, oos⟩ := s
  refine ks_wpAny_isType_cls (X1 _ _ hC) rfl ⟨rfl, ?_⟩
  have sub1 : Looks (model prog w) h₁ (isSubtype (.ref C) (.ref C)) true := looks_subIn X1 T.ccC
  refine ks_wpAny_call_super (X1 _ _ hC) rfl hx1 rfl (fun c z => by cases z) sub1 fun h2 hso k2 => ?_
  have X2 := X1.keeps k2
  have hx2 := k2 _ _ hx1
  have sup := T.sup
  unfold ks_superIn at sup
  rw [hcl] at sup
  have I2 : InstAt h2 x (excO C t0) C none := ⟨hx2, rfl, rfl, trivial⟩
  have hin : Looks (model prog w) h2 (isInstance (.ref x) (.type "ValueError")) true := I2.type.andThen (looks_subIn X2 T.veC)
  refine kxs_getMethod kxs_ValueError hso (looks_opaque X2 T.opq) (l₀ := .ref C :: bm) (fun A Q E s k q => wpAny_bind ((looks_clsIn X2 hcl) A _ E s k (wpAny_pure q))) rfl X2 sup hin xC (by decide) ?_
  have k3 : ∀ b o, h2.get? b = some o → (h2.push (kxs_mw "ValueError.__init__" x)).get? b = some o := fun b o e => Heap.get?_push_of_some _ e
  have X3 := X2.keeps k3
  have hx3 := k3 _ _ hx2
  have hn3 : (h2.push (kxs_mw "ValueError.__init__" x)).Ns env.locals (fun y => List.lookup y [(("self" : Str), Value.ref x), (f, v)].reverse) := (hn.keeps k2).keeps k3
  refine kxs_callWith (i := "ValueError.__init__") (x := x) (by rfl) (evalArgs_plain ?_)
  refine Calls.spliced_cons (ldE hn3 mf (Calls.spliced_nil ⟨Heap.get?_push_size _ rfl, ?_⟩) ek kf f2)
  refine x_bound (X3 _ _ hC) hx3 (Heap.get?_push_size _ rfl) (show 1 ≤ sizeLine by rw [sizeLine_eq]; decide) fun h4 t1 k4 hx4 => ?_
  -- self.f = f
  have X4 : K.In h4 := fun b o e => k4 b o (fun z => by rw [z, hnx] at e; cases e) (X3 b o e)
  have neL : env.locals ≠ x := by
    rw [elo]
    exact Nat.ne_of_gt (Heap.lt_size hx)
  have hn4 : h4.Ns env.locals (fun y => List.lookup y [(("self" : Str), Value.ref x), (f, v)].reverse) := hn3.at fun o e => k4 _ _ neL e
  refine ks_wpAt_execs_cons (wpAt_of_wpAny (plainObj_wpAny_Assign_Attribute ?_))
  refine ldE hn4 mf (ldE hn4 ms ?_ ek ks (by decide)) ek kf f2
  refine set_plain X4 (ox := excO C t1) (od := none) ⟨hx4, rfl, rfl, trivial⟩ T.sa ?_
  refine exc_osa X4 hx4 hcl (show refsVE (.ref C :: bm) = true from hbm) rfl T.noN (fun h5 tk5 dx k5' dn dne hx5 hn5 => ?_)
  have old : ∀ b o, b ≠ x → hp.get? b = some o → h5.get? b = some o := fun b o nb e => k5' b o nb (k4 b o nb (k3 b o (k2 b o (kp b o e))))
  refine wpAt_of_wpAny (wpAny_execs_nil (hq h5 tk5 dx t1 ⟨old, hx5, ?_, dne, hn5⟩))
  have dn' : h4.objs.size ≤ dx := dn
  show hp.objs.size ≤ dx
  have z1 : hp.objs.size ≤ h₁.objs.size := by
    have z0 := hn.lt
    rw [elo] at z0
    exact Nat.le_of_lt z0
  have z2 : h₁.objs.size ≤ h2.objs.size := Nat.le_of_lt (Heap.lt_size hso)
  have z3 : h2.objs.size ≤ h4.objs.size := by
    have e := k4 h2.objs.size _ (fun z => by
      have := Heap.lt_size hx2
      rw [← z] at this
      exact absurd this (Nat.lt_irrefl _)) (Heap.get?_push_size _ rfl)
    exact Nat.le_of_lt (Heap.lt_size e)
  omega
/-- the class called: a new error with its dict -/
structure XMade (h h' : Heap) (e C d : Addr) (f : Str) (v : Value) : Prop where
  keep : ∀ b o, h.get? b = some o → h'.get? b = some o
  new : h.objs.size ≤ e
  obj : ∃ oe vs, h'.get? e = some oe ∧ oe.cls = .ref C ∧ oe.dict = some d ∧ oe.data = .fields vs ∧ vs[1]? = some .none
  dbig : h.objs.size ≤ d
  dne : d ≠ e
  ns : h'.Ns1 d (fun y => if y = f then some v else none)
theorem x_made (T : XTxt prog K mg nm f C fI) {v : Value} (X : K.In s.heap) (hg : s.heap.Ns mainGlobals mg) (hb : ∃ mb, s.heap.Ns builtinsNs mb ∧ ∀ x : Str, x ≠ "__name__" → mb x = bootBuiltins x) (hlim : s.heap.NoLimit) (hroom : A.depth + 1 < recursionLimit)
    (hq : ∀ h' tk e d, XMade s.heap h' e C d f v → R (.ok (.ret (.ref e))) { s with heap := h', toks := tk }) : codeAny (model prog w) A (.call (.ref C) ⟨[v], []⟩) R s := by
  obtain ⟨cn, cq, N, bs, bm, sn, sub, ab, col, dd, k0, k1, k2, k3, k5, hC, hbm⟩ := T.cls
  obtain ⟨hp, gg, dr, tk, os⟩ := s
  generalize eP : (hp.push (kdv_tup [v])).push (excO C hp.objs.size) = hP
  have kP : ∀ b o, hp.get? b = some o → hP.get? b = some o := fun b o e => by
    rw [← eP]
    exact Heap.get?_push_of_some _ (Heap.get?_push_of_some _ e)
  have xP : hP.get? (hp.objs.size + 1) = some (excO C hp.objs.size) := by
    rw [← eP]
    heap_get
  have nK : K.lookup (hp.objs.size + 1) = none := by
    cases e : K.lookup (hp.objs.size + 1) with
    | none => rfl
    | some o => exact absurd (Nat.lt_of_succ_lt (Heap.lt_size (show hp.get? (hp.objs.size + 1) = some o from X _ _ e))) (Nat.lt_irrefl _)
  have sP : hP.objs.size = hp.objs.size + 1 + 1 := by
    rw [← eP, Heap.size_push, Heap.size_push]
  refine call_own F.excBase_ValueError (fun Y => refsVE_contains Y bm hbm) (X _ _ hC) (looks_findIn X T.iC) (fun self => bind_fn X self T.tC) (show 1 ≤ sizeLine by rw [sizeLine_eq]; decide) ?_
  rw [eP]
  obtain ⟨mb, b1, b2⟩ := hb
  refine x_init (s := ⟨hP, gg, dr, tk, os⟩) T (X.keeps kP) (hg.keeps kP) ⟨mb, b1.keeps kP, b2⟩ (hlim.keeps kP) xP nK (show A.depth + 1 < recursionLimit from hroom) fun h' tk' dx t1 Z => ?_
  have old : ∀ b o, hp.get? b = some o → h'.get? b = some o := fun b o e => Z.keep b o (Nat.ne_of_lt (Nat.lt_succ_of_lt (Heap.lt_size e))) (kP b o e)
  have big := Z.dbig
  have big' : hP.objs.size ≤ dx := big
  exact ⟨rfl, hq h' tk' (hp.objs.size + 1) dx ⟨old, Nat.le_succ _, ⟨_, _, Z.obj, rfl, rfl, rfl, rfl⟩, by show hp.objs.size ≤ dx; omega, Z.dne, Z.ns⟩⟩
end
end Gl
namespace Gl
open PySem PySem.Spec PyProof.Rows L2
theorem relO_f {f : Str} {v : V} {u : Value} (r : RelV v u) (y : Str) : RelO (List.lookup y [(f, v)]) (if y = f then some u else none) := by
  by_cases e : y = f
  · subst e
    rw [if_pos rfl]
    have z : List.lookup y [(y, v)] = some v := by simp [List.lookup_cons]
    rw [z]
    exact r
  · rw [if_neg e]
    have z0 : (y == f) = false := by simpa using e
    have z : List.lookup y [(f, v)] = none := by simp [List.lookup_cons, z0]
    rw [z]
    trivial
theorem exG_of {P : Program} {w : World} {K : PySem.W.Frag} {mg : Str → Option Value} {base : Heap} {g : Gx} {k n : Nat} {x f : Str} {C fI : Addr} (T : XTxt P K mg x f C fI) (hn : g.cl n = some (C, f)) (hx : (x == ("__debug__" : Str)) = false) : ExG P w K mg base g (k + 1) x n := by
  refine ⟨C, f, hn, fun X te e p pos hP hw hK hm hb hr hg he hs hp => ?_⟩
  subst hP hw hK hm hb
  intro pins s σ H Q I h
  refine wpAny_Call_Name_kw (ld_glob I hg T.gC ?_ hx)
  refine PySem.W.callWith_K (h₀ := X.base) I.ok.mod.kin T.kC ?_ hs hp
  rw [hs]
  show wpAny _ _ (spliced ((false, eval e X.env) :: backTo pos (starEach [] X.env))) _ _ s
  refine Calls.spliced_cons (thn (he.run pins s σ H _ I h) fun u s1 ⟨v, H1, I1, r1, q1⟩ => Calls.spliced_nil ⟨I1.kIn, ?_⟩)
  show wpAny _ _ (call (.ref C) [u]) _ _ _
  have lim := I1.nolimit
  have ns1 : s1.heap.Ns mainGlobals X.mg := I1.mod.glob.keeps I1.bk
  obtain ⟨mb, b1, b2⟩ := I1.mod.blt
  have bl1 : ∃ mb, s1.heap.Ns builtinsNs mb ∧ ∀ x : Str, x ≠ "__name__" → mb x = bootBuiltins x := ⟨mb, b1.keeps I1.bk, b2⟩
  have kin1 := I1.kIn
  obtain ⟨hp, gg, dr, tk, os⟩ := s1
  refine wpAny_call (x_made T kin1 ns1 bl1 lim (by have := hr.dp; omega) fun h' tk' a d M => ?_)
  obtain ⟨oe, fv, hoe, hc, hd, hdat, h1⟩ := M.obj
  obtain ⟨G, g1, g2⟩ := restrict h' fun b => decide (b ≠ a)
  have gk : ∀ b, b ≠ a → G.get? b = h'.get? b := fun b hb => g1 b (decide_eq_true hb)
  have ga : G.get? a = none := g2 a (by simp)
  have old : ∀ b o, hp.get? b = some o → G.get? b = some o := fun b o z => (gk b (Nat.ne_of_lt (Nat.lt_of_lt_of_le (Heap.lt_size z) M.new))).trans (M.keep b o z)
  have ob : ObjOk X.prog X.w (upd H1 d (.xd [(f, v)])) G d (.xd [(f, v)]) := ⟨_, M.ns.at (fun o z => (gk d M.dne).trans z), fun y => relO_f r1 y⟩
  have J : L2.Inv X pins σ (upd H1 d (.xd [(f, v)])) ⟨G, gg, dr, tk', os⟩ := I1.laid (t' := tk') old M.dbig ob
  refine ⟨a, oe, fv, ⟨G, gg, dr, tk', os⟩, _, .ref C, some d, rfl, J, fun b o z => ?_, ga, hoe, ⟨hc, hd⟩, hdat, h1, ?_, rfl, I1.bare, raises_own T.exC T.tyC, q1 d (I1.hok.fresh M.dbig)⟩
  · by_cases e1 : b = a
    · have z' : G.get? b = some o := z
      rw [e1, ga] at z'
      cases z'
    · exact (gk b e1).symm.trans z
  · rw [upd_ne (Ne.symm M.dne)]
    exact I1.hok.fresh M.new
end Gl

set_option maxRecDepth 100000
set_option maxHeartbeats 1000000
/-! The general layer, part L: try with several clauses `except X as n`; lambdas that are told. -/
namespace Gl
open PySem PySem.Spec PyProof.Rows L2
/-- behind the suite the name is gone -/
abbrev Ends.gone (E : Ends) (i : Nat) : Ends := { nx := fun σ' H' => E.nx (σ'.set i none) H', rt := E.rt, bk := fun σ' H' => E.bk (σ'.set i none) H', ct := fun σ' H' => E.ct (σ'.set i none) H' }
def wManyA (K : PySem.W.Frag) (i : Nat) (Wo : WX) (E : Ends) : List (Value × (Addr → Value → Option Addr → TS)) → WX
  | [] => Wo
  | (c, ts) :: r => fun cls d σ H => ∃ k, PySem.W.exmOne K cls c = some k ∧ (k = true → ∀ a, H a = none → ts a cls d (Ends.gone E i) (σ.set i (some (.ref a))) H) ∧ (k = false → wManyA K i Wo E r cls d σ H)
inductive HdsA (X : Cx) (n : Str) : List ExceptHandler → List (Value × (Addr → Value → Option Addr → TS)) → Prop
  | nil : HdsA X n [] []
  | cons {x : Str} {c : Value} {ts : Addr → Value → Option Addr → TS} {b0 : Stmt} {su : List Stmt} {np pos' : Pos} {hds : List ExceptHandler} {l : List (Value × (Addr → Value → Option Addr → TS))} (hc : Names X x c)
      (hsu : ∀ (a : Addr) (oe : Obj) (cls : Value) (d : Option Addr) (pn : List (Addr × Obj)), Zc cls d oe → (∃ vs, oe.data = .fields vs) → PSs (X.suite a ((a, oe) :: pn)) (b0 :: su) (ts a cls d)) (r : HdsA X n hds l) :
      HdsA X n (.ExceptHandler (some (.Name x np)) (some n) (b0 :: su) pos' :: hds) ((c, ts) :: l)
section
variable {X : Cx} {n : Str} {i : Nat} {body : List Stmt} {h0 : ExceptHandler} {hds : List ExceptHandler} {l : List (Value × (Addr → Value → Option Addr → TS))} {pos : Pos} {tb : WX → TS} {Wo : WX}
/-- what the clauses do with an error that is caught -/
theorem clauses {pins : List (Addr × Obj)} {E : Ends} {a : Addr} {B : Heap} {sI s' : Shared} {σ' : L2.St} {H' : Hp} {cls : Value} {d : Option Addr} {h3 : Heap} (ok : X.Ok) (hs : X.stack = X.env :: X.outer) (hf : X.env.frame = some X.env.locals) (tk : Takes X Wo)
    (hN : X.N.Nodup) (hi : X.N[i]? = some n) (hln : X.env.kindOf n = some .local) (J : Inv X pins σ' H' sI) (nb : ∀ b o, sI.heap.get? b = some o → b ∉ frs X.stack → B.get? b = some o) (up : sI.heap.UpToSlots h3) (na : H' a = none) (os : s'.os = sI.os) (ag : AllBare s'.gens)
    (fl : HandSPX.FlyingZ B (X.env :: X.outer) a (Zc cls d) h3) :
    ∀ {hds : List ExceptHandler} {l : List (Value × (Addr → Value → Option Addr → TS))}, HdsA X n hds l → wManyA X.K i Wo E l cls d σ' H' →
      wpAny (model X.prog X.w) X.A (handleBy (.ref a) X.env hds) (SP X pins E) X.xe { s' with heap := h3 } := by
  have J3 : Inv X pins σ' H' { s' with heap := h3 } := J.landed nb fl.1 up os ag
  obtain ⟨oe3, vs3, he3, hz3, hd3⟩ := fl.there
  have offF : a ∉ frs (X.env :: X.outer) := fun hm => by
    obtain ⟨_, o2, e2, nf2⟩ := fl.2.2.1.mem hm
    rw [he3] at e2
    cases e2
    exact nf2 _ hd3
  have offL : a ≠ X.env.locals := fun z => offF (List.mem_filterMap.mpr ⟨X.env, List.mem_cons_self, by rw [hf, z]⟩)
  have offO : a ∉ X.fs := fun hm => by
    obtain ⟨e, he, q⟩ := List.mem_filterMap.mp hm
    exact offF (List.mem_filterMap.mpr ⟨e, List.mem_cons_of_mem _ he, q⟩)
  have S3 := J3.suite he3 hd3 na offL offO
  intro hds l hk
  induction hk with
  | nil =>
    intro w
    refine wpAny_handleBy_nil ?_
    obtain ⟨k1, k2, k3, oe, vs, T, oT, ts', he, hz, hd, h1, hr⟩ := id fl
    have out : wpAny (model X.prog X.w) X.A (setFlight (.ref a) X.env.frame) (fun _ s4 => wpAny (model X.prog X.w) X.A (throw (.ref a) : Sem Flow) (SP X pins E) X.xe s4) X.xe { s' with heap := h3 } := by
      rw [hf]
      exact HandSPX.setFlight_upZ fl fun h4 hh4 up4 => wpAny_throw (tk _ _ ⟨a, B, sI, pins, σ', H', cls, d, rfl, J, nb, up.trans up4, .inr (.inr (by rw [hs]; exact hh4)), na, os, ag, w⟩)
    unfold PySem.passOn
    refine wpAny_bind (wpAny_field he hd h1 ?_)
    have z : ¬ ((Value.ref T == Value.none) = true) := by simp
    rw [if_neg z]
    first
      | exact wpAny_bind (wpAny_pure (wpAny_bind out))
      | exact wpAny_bind out
  | @cons x c ts b0 su np pos' hds2 l2 hc hsu r ih =>
    intro w
    obtain ⟨k, hk1, hyes, hno⟩ := w
    refine wpAny_handleBy_cons (codeAny_handlers_test ?_) (by intro q; cases q)
    have LT : PySem.W.Looks (model X.prog X.w) h3 (typeOf (.ref a)) cls := fun A Q E s kk q => wpAny_typeOf_ref (kk _ _ he3) (by rw [hz3.1]; exact q)
    have LM := PySem.W.exm_one (M := model X.prog X.w) (J3.kIn) LT hk1
    have look : ∀ {Q : Value → Shared → Prop} {E : Value → Shared → Prop}, Q c { s' with heap := h3 } → wpAny (model X.prog X.w) (X.A.mark (some (.ref a))) (eval (.Name x np) X.env) Q E { s' with heap := h3 } := fun {Q E} q => by
      obtain ⟨c1, c2, c3 | ⟨c3, c4, c5⟩⟩ := hc
      · exact ld_glob (X := X.suite a ((a, oe3) :: (X.pn ++ pins))) S3 c1 c3 q c2
      · exact ld_blt (X := X.suite a ((a, oe3) :: (X.pn ++ pins))) S3 c1 c3 c4 q c5 c2
    refine look (LM.here ?_)
    cases k with
    | false =>
      show wpAny _ X.A (handleBy (.ref a) X.env hds2) _ _ _
      exact ih (hno rfl)
    | true =>
      refine codeAny_handlers_suite_as (HandSPX.lands_againZ fl fun h4 fl4 up4 => ?_)
      have J4 : Inv X pins σ' H' { s' with heap := h4 } := J.landed nb fl4.1 (up.trans up4) os ag
      obtain ⟨oe4, vs4, he4, hz4, hd4⟩ := fl4.there
      have S4 := J4.suite he4 hd4 na offL offO
      refine store_ok (X := X.suite a ((a, oe4) :: (X.pn ++ pins))) (v := .ref a) S4 hN hi (.inl hln) rfl (fun s5 S5 => ?_) (.inr hln)
      refine wpAny_mono ((hsu a oe4 cls d (X.pn ++ pins) hz4 ⟨_, hd4⟩).run [] s5 _ H' _ S5 (hyes rfl a na)) (fun f s6 hsp => ?_) (fun _ _ z => z.elim)
      have gone : ∀ {σ6 : L2.St} {H6 : Hp} {Q : Shared → Prop}, Inv (X.suite a ((a, oe4) :: (X.pn ++ pins))) [] σ6 H6 s6 → (∀ s7, Inv X pins (σ6.set i none) H6 s7 → Q s7) →
          wpAny (model X.prog X.w) X.A (do bindName X.env n .none; unbindBehindTheSuite X.env n pos') (fun _ s7 => Q s7) X.xe s6 := fun {σ6 H6 Q} S6 hq => gone_ok (S6.unsuite ok) hN hi hln hq
      cases f with
      | next => obtain ⟨σ6, H6, S6, q6⟩ := hsp; exact gone S6 fun s7 J7 => ⟨_, _, J7, q6⟩
      | brk => obtain ⟨σ6, H6, S6, q6⟩ := hsp; exact gone S6 fun s7 J7 => ⟨_, _, J7, q6⟩
      | cont => obtain ⟨σ6, H6, S6, q6⟩ := hsp; exact gone S6 fun s7 J7 => ⟨_, _, J7, q6⟩
      | ret u => obtain ⟨v6, σ6, H6, S6, r6, q6⟩ := hsp; exact gone S6 fun s7 J7 => ⟨_, _, _, J7, r6, q6⟩
theorem ps_try_manyA (hs : X.stack = X.env :: X.outer) (hf : X.env.frame = some X.env.locals) (hN : X.N.Nodup) (hi : X.N[i]? = some n) (hln : X.env.kindOf n = some .local) (tk : Takes X Wo)
    (hb : ∀ (W : WX) (pn : List (Addr × Obj)) (xe : Value → Shared → Prop), Takes (X.tr pn xe) W → PassesOwn (model X.prog X.w) X.A X.env xe → PSs (X.tr pn xe) body (tb W))
    (hh : HdsA X n (h0 :: hds) l) : PS X (.Try body (h0 :: hds) [] [] pos) (fun E σ H => tb (wManyA X.K i Wo E l) E σ H) := by
  refine ⟨fun pins s σ H E I h => ?_⟩
  have ok := I.ok
  have hfr : X.A.frames = some (X.env :: X.outer) := by rw [ok.frames, hs]
  refine wpAny_Try_except (wpAny_mono ((hb (wManyA X.K i Wo E l) (X.pn ++ pins) (fun e s₁ => wpAny (model X.prog X.w) X.A (noteFrame e X.env) (fun _ s₂ => wpAny (model X.prog X.w) X.A (setFlight e none) (fun _ s₃ =>
    wpAny (model X.prog X.w) X.A (handleBy e X.env (h0 :: hds)) (SP X pins E) X.xe s₃) X.xe s₂) X.xe s₁) (fun u s' caught => ?_) PassesOwn.looking).run [] s σ H E (I.toTry _) h) (fun f s1 hsp => ?_) (fun e s1 he => he))
  · obtain ⟨a, B, sI, pins', σ', H', cls, d, rfl, J', nb, up, sky, na, os, ag, w⟩ := caught
    show wpAny (model X.prog X.w) X.A (noteFrame (.ref a) X.env) _ _ _
    have sky2 : Sky B (X.env :: X.outer) a (Zc cls d) X.env.locals s'.heap := by rw [← hs]; exact sky
    exact Sky.land Zc.steady hfr hf sky2 fun h3 fl3 up3 => clauses ok hs hf tk hN hi hln (J'.ofTry ok) nb (up.trans up3) na os ag fl3 hh w
  · cases f with
    | next => obtain ⟨σ', H', J', q⟩ := hsp; exact wpAny_execs_nil ⟨σ', H', J'.ofTry ok, q⟩
    | brk => obtain ⟨σ', H', J', q⟩ := hsp; exact ⟨σ', H', J'.ofTry ok, q⟩
    | cont => obtain ⟨σ', H', J', q⟩ := hsp; exact ⟨σ', H', J'.ofTry ok, q⟩
    | ret u => obtain ⟨v, σ', H', J', r, q⟩ := hsp; exact ⟨v, σ', H', J'.ofTry ok, r, q⟩
end

/-! ### def told(call): try: return call() / except X as e: return [tag, e.field] .. -/
theorem takes_len {X : Cx} {W : WX} (t : Takes X W) : Takes X (fun cls d σ H => σ.length = X.N.length → W cls d σ H) := fun u s' ⟨a, B, sI, pins, σ, H, cls, d, e, I, nb, up, sky, na, os, ag, w⟩ =>
  t u s' ⟨a, B, sI, pins, σ, H, cls, d, e, I, nb, up, sky, na, os, ag, w I.len⟩
/-- a clause: the class's name and place, the tag, the field -/
structure HSp where
  x : Str
  C : Addr
  tag : Str
  fld : Str
def EQ (K : PySem.W.Frag) (Q : VK) : List HSp → XK
  | [] => fun _ _ _ => False
  | h :: r => fun cls d H => ∃ k, PySem.W.exmOne K cls (.ref h.C) = some k ∧ (k = true → cls = .ref h.C ∧ ∃ (dd : Addr) (v : V), d = some dd ∧ H dd = some (.xd [(h.fld, v)]) ∧ ∀ p, H p = none → Q (.ref p) (upd H p (.lst [.str h.tag, v]))) ∧ (k = false → EQ K Q r cls d H)
def tsH (h : HSp) : Addr → Value → Option Addr → TS := fun a cls d => tRet (tLst (tCons (tC (.str h.tag)) (tCons (tXf a cls d h.C h.fld (tVar 1)) tNil)))
/-- the clauses as they are written -/
inductive HdsW : List ExceptHandler → List HSp → Prop
  | nil : HdsW [] []
  | cons {h : HSp} {np q1 q2 q3 q4 q5 q6 : Pos} {j : Nat} {hds : List ExceptHandler} {l : List HSp} (r : HdsW hds l) :
      HdsW (.ExceptHandler (some (.Name h.x np)) (some "e") [.Return (some (.List [.Constant (.str h.tag) j q1, .Attribute (.Name "e" q2) h.fld q3] q4)) q5] q6 :: hds) (h :: l)
/-- what the written part says of the clauses' classes -/
structure HFact (K : PySem.W.Frag) (mg : Str → Option Value) (sg : Scope) (h : HSp) : Prop where
  g : mg h.x = some (.ref h.C)
  gl : sg.names.lookup h.x = some .globalImplicit
  db : (h.x == ("__debug__" : Str)) = false
  xf : XfC K h.C
  no : PySem.W.findIn K (.ref h.C) h.fld = some none
theorem hds_of {X : Cx} {sg : Scope} (hsc : X.env.scope = sg) (hN : X.N = [("call" : Str), ("e" : Str)]) (he : sg.names.lookup ("e" : Str) = some .local) : ∀ {hds : List ExceptHandler} {l : List HSp}, HdsW hds l → (∀ h ∈ l, HFact X.K X.mg sg h) → HdsA X "e" hds (l.map fun h => (.ref h.C, tsH h))
  | _, _, .nil, _ => .nil
  | _, _, .cons (h := h) r, f => by
    have fh := f h (by simp)
    refine .cons ⟨by show X.env.scope.names.lookup h.x = _; rw [hsc]; exact fh.gl, fh.db, .inl fh.g⟩ (fun a oe cls d pn hz hf => ?_) (hds_of hsc hN he r fun z hz => f z (List.mem_cons_of_mem _ hz))
    have pv : ∀ p : Pos, PE (X.suite a ((a, oe) :: pn)) (.Name "e" p) (tVar 1) := fun p => pe_var (by show X.N[1]? = _; rw [hN]; rfl) (.inl (by show X.env.scope.names.lookup ("e" : Str) = _; rw [hsc]; exact he))
    exact pss_one (ps_ret (pe_lst (pa_cons pe_str (pa_cons (pe_xf fh.xf fh.no hz hf (pv _) rfl) pa_nil rfl) rfl)))
theorem many_of {K : PySem.W.Frag} {Wo : WX} {E : Ends} {σ : L2.St} (hl : σ.length = 2) : ∀ {l : List HSp} {cls : Value} {d : Option Addr} {H : Hp}, EQ K E.rt l cls d H → wManyA K 1 Wo E (l.map fun h => (.ref h.C, tsH h)) cls d σ H
  | [], _, _, _, q => q.elim
  | h :: l, cls, d, H, q => by
    obtain ⟨k, e, q1, q2⟩ := q
    refine ⟨k, e, fun hk a na => ?_, fun hk => many_of hl (q2 hk)⟩
    obtain ⟨rfl, dd, v, rfl, e2, q3⟩ := q1 hk
    have z : (σ.set 1 (some (V.ref a)))[1]? = some (some (V.ref a)) := List.getElem?_set_self (by omega)
    exact ⟨.ref a, z, rfl, rfl, dd, _, v, rfl, e2, by simp [List.lookup_cons], by show 2 ≤ sizeLine; decide, q3⟩
def TTold (K : PySem.W.Frag) (l : List HSp) : (XK → Hp → VK → Prop) → Hp → VK → Prop := fun tl H Q => tl (EQ K Q l) H Q
theorem told_ok {X : Cx} {x q : Str} {sg : Scope} {g : Addr} {cdg : Value} {hds : List ExceptHandler} {h0 : ExceptHandler} {l : List HSp} {p1 p2 p3 p4 : Pos} (he : sg.names.lookup ("e" : Str) = some .local) (hw : HdsW (h0 :: hds) l) (hf : ∀ h ∈ l, HFact X.K X.mg sg h) :
    LamX.GivesTo X ["call", "e"] x sg g cdg [.Try [.Return (some (.Call (.Name "call" p1) [] [] p2)) p3] (h0 :: hds) [] [] p4] "call" q (TTold X.K l) := by
  intro f c' s H Q tl act hc h
  refine ⟨_, pss_one (ps_try_manyA (X := (cxOf C8.CX0 X.prog X.w X.K X.mg X.base ["call", "e"] x sg g cdg X.A X.stack s H C8.E0).nox) (n := "e") (i := 1) (Wo := fun _ _ _ _ => False) (l := l.map fun h => (.ref h.C, tsH h))
    (tb := fun W E σ H => ∃ Ech : XK, (∀ cls d σ' H', Ech cls d H' → σ'.length = 2 → W cls d σ' H') ∧ σ[0]? = some (some (.ref f)) ∧ H c' = some (LamX.CodeO c' q) ∧ tl Ech H E.rt)
    rfl rfl (show [("call" : Str), ("e" : Str)].Nodup by decide +kernel) rfl he LamX.takes0 (fun W pn xe tk _ => ?_) (hds_of rfl rfl he hw hf)), ?_⟩
  · refine ⟨fun pins s' σ H' E I h' => ?_⟩
    obtain ⟨Ech, hW, h1, h2, h3⟩ := h'
    have hp := act _ pn xe Ech p1 p2 (takes_len tk) (fun cls d σ' H' z hl => hW cls d σ' H' z hl)
    exact (pss_one (ps_ret (pos := p3) hp)).run pins s' σ H' E I ⟨h1, h2, h3⟩
  · exact ⟨EQ X.K Q l, fun cls d σ' H' z hl => many_of (E := { nx := fun _ H' => Q .non H', rt := Q }) hl z, rfl, hc, h⟩
/-! ### the table grows -/
theorem SR.grown {K : PySem.W.Frag} {g : Gx} {b : Bs} {F H H1 : Hp} {S : Sto} {σ : L2.St} (x : SR K g b F S σ H) (e : LamX.ExtN H H1) (t : LamX.Tabs g.T H1) : SR K g (b.at F H) F ⟨[], S.bx⟩ [] H1 where
  len := rfl
  ff a o q := e a o (x.ff a o q) (x.nt a o q)
  f0 := Same.refl _
  fn a o h := .inl h
  nt := x.nt
  ext a o q _ nt := e a o q nt
  slot i u v e1 e2 := by simp at e1
  dist i j d e y _ h := by simp at h
  box := by
    have q := x.box
    unfold BoxOk at q ⊢
    have eb : (⟨[], S.bx⟩ : Sto).bx = S.bx := rfl
    rw [eb]
    cases z : S.bx with
    | none => rw [z] at q; exact q
    | some r =>
      obtain ⟨ds, at_⟩ := r
      rw [z] at q
      obtain ⟨h1, h2, dg, h3, h4, h5⟩ := q
      exact ⟨h1, h2, dg, e _ _ h3 (lst_nt _), h4, h5⟩
  tabs := t
theorem EQ_of {K : PySem.W.Frag} {Q : VK} {H : Hp} {a C : Addr} {f tag : Str} {v : V} (ha : H a = some (.xd [(f, v)])) (hq : ∀ p, H p = none → Q (.ref p) (upd H p (.lst [.str tag, v]))) :
    ∀ {l : List HSp}, (∀ h ∈ l, PySem.W.exmOne K (.ref C) (.ref h.C) = some (decide (h.C = C))) → (∀ h ∈ l, h.C = C → h.tag = tag ∧ h.fld = f) → (∃ h ∈ l, h.C = C) → EQ K Q l (.ref C) (some a) H
  | [], _, _, h3 => by
    obtain ⟨_, h, _⟩ := h3
    cases h
  | h :: l, h1, h2, h3 => by
    refine ⟨_, h1 h (by simp), fun hk => ?_, fun hk => ?_⟩
    · have e : h.C = C := of_decide_eq_true hk
      obtain ⟨rfl, rfl⟩ := h2 h (by simp) e
      exact ⟨by rw [e], a, v, rfl, ha, hq⟩
    · have e : h.C ≠ C := of_decide_eq_false hk
      refine EQ_of ha hq (fun z hz => h1 z (List.mem_cons_of_mem _ hz)) (fun z hz => h2 z (List.mem_cons_of_mem _ hz)) ?_
      obtain ⟨z, hz, ez⟩ := h3
      rcases List.mem_cons.mp hz with rfl | hz
      · exact absurd ez e
      · exact ⟨z, hz, ez⟩
/-- what is to be known of the def that tells -/
structure ToldF (X : Cx) (g : Gx) (x : Str) (h : Nat → Option Str) (l : List HSp) (gf cT : Addr) (P : Addr) : Prop where
  gx : X.mg x = some (.ref gf)
  kp : PySem.W.keepIn X.K (.ref gf) = true
  fn : ∃ (pg : Arguments) (bg : List Stmt) (sg : Scope) (dV kV doc pm cdv ct oc : Value) (an od : Option Addr) (osl : Array (Option Value)) (h0 : ExceptHandler) (hds : List ExceptHandler) (p1 p2 p3 p4 : Pos),
    X.K.lookup gf = some ⟨oc, od, .func (PySem.W.fnOf x x pg [.Try [.Return (some (.Call (.Name "call" p1) [] [] p2)) p3] (h0 :: hds) [] [] p4] sg dV kV doc pm an cdv ct), osl⟩ ∧ PySem.W.codeIn X.K cdv x = true ∧
    L2.Binds X.K (PySem.W.fnOf x x pg [.Try [.Return (some (.Call (.Name "call" p1) [] [] p2)) p3] (h0 :: hds) [] [] p4] sg dV kV doc pm an cdv ct) ["call"] [] ∧ FnScope ["call", "e"] ["call"] sg ∧ sg.names.lookup ("e" : Str) = some .local ∧ sg.names.lookup ("call" : Str) = some .local ∧ HdsW (h0 :: hds) l ∧ ∀ h ∈ l, HFact X.K X.mg sg h
  ex : ∀ n tag C f, h n = some tag → g.cl n = some (C, f) → (∀ h ∈ l, PySem.W.exmOne X.K (.ref C) (.ref h.C) = some (decide (h.C = C))) ∧ (∀ h ∈ l, h.C = C → h.tag = tag ∧ h.fld = f) ∧ ∃ h ∈ l, h.C = C
  tab : LamX.TabB X.base X.mg cT P
  code : X.env.code = .ref cT
  inT : (P, X.env.qual ++ "<lambda>") ∈ g.T
  uq : ∀ p ∈ g.T, p.1 = P → p.2 = X.env.qual ++ "<lambda>"
theorem toldR_of {X : Cx} {g : Gx} {W : WX} {c : Ct} {x : Str} {h : Nat → Option Str} {l : List HSp} {gf cT P : Addr} (f : Fx X g W c) (T : ToldF X g x h l gf cT P) (hlv : 3 ≤ c.lv) : ToldR X g W c x h := by
  intro body scope p lpos pos m hL hg hbody
  obtain ⟨pg, bg, sg, dV, kV, doc, pm, cdv, ct, oc, an, od, osl, h0, hds, p1, p2, p3, p4, lk, cg, hb, Sg, le, lc, hw, hf⟩ := T.fn
  obtain ⟨gx, dbx⟩ := isG_ok f hg
  refine PE.of (LamX.pe_lamcall (T := g.T) (TT := TTold X.K l) (t := fun E => tG X.K g (fun cls d _ H => E cls d H) (repE X.K) m) (k := c.lv - 3) gx T.gx T.kp lk cg hb Sg rfl (.inl lc) (told_ok le hw hf) T.tab T.code T.inT T.uq (f.room.mono (by omega)) (LamX.lamS_by (by rw [f.sc]; exact hL)) rfl
    (fun _ _ _ _ _ => rfl) (fun A outer s H E ff c' hr => ?_) dbx (by decide) (by decide)) fun σ H Q ⟨b, F, S, y, q⟩ => ?_
  · refine hbody _ _ ⟨f.glo, f.N, f.nd, rfl, rfl, (fun z => by cases z), hr, (fun x z => by cases z), ?_⟩
    exact takes_of rfl rfl rfl rfl
  · obtain ⟨F2, x2, s2⟩ := y.shares (freeSl c scope)
    unfold mTold at q
    generalize shareJs S (freeSl c scope) = T2 at *
    refine ⟨x2.tabs, fun H1 eN t1 => ?_⟩
    have x4 : SR X.K g b F2 T2 σ H1 := x2.call (x2.grown eN t1)
    have x5 := x4.hide []
    have f1 : Fr b H H1 := fun a o z _ nt => eN a o z nt
    refine ⟨_, F2, ⟨T2.sl.map hideD, T2.bx⟩, x5, ?_⟩
    cases em : m ⟨T2.sl.map hideD, T2.bx⟩ with
    | stuck => rw [em] at q; exact q.elim
    | ok d S' =>
      rw [em] at q
      exact fun v F' H' y1 y2 y3 y4 => q v F' H' (x4.call y1.forget) (s2.trans y2) (f1.trans y3) y4
    | exc n d bx' =>
      rw [em] at q
      dsimp only at q
      cases eh : h n with
      | none => rw [eh] at q; exact q.elim
      | some tag =>
        rw [eh] at q
        intro a C fl v F' H' hC y1 ha y2
        obtain ⟨z1, z2, z3⟩ := T.ex n tag C fl eh hC
        refine EQ_of ha (fun p hp => ?_) z1 z2 z3
        obtain ⟨w1, w2⟩ := y1.lst (vs := [.str tag, v]) (ds := [.str tag, d]) hp (.cons (.str _) (.cons y2 .nil))
        have w3 := y1.call w1
        have w4 := x4.call w3
        exact q _ _ _ w4 (s2.trans w3.f0) (f1.trans w3.ext) w2
end Gl

set_option maxRecDepth 100000
set_option maxHeartbeats 1000000
/-! The general layer, part M: the defs of a row; the end of a law. -/
namespace Gl
open PySem PySem.Spec PyProof.Rows L2

/-! ### the law is called -/
abbrev tabE : Obj := { cls := .none, data := .fields #[] }
abbrev scrO (vs : List Value) : Obj := { cls := .type "list", data := .seq vs.toArray }
open Classical in
/-- what is tracked at the start: the tables, the script (if it is not written) -/
noncomputable def startH (K : PySem.W.Frag) (cs : List (Addr × Addr)) (a : Addr) (vs : List Value) (ns : List Int) : Hp := fun b => if b ∈ cs.map (·.2) then some (.tbl #[]) else if b = a ∧ K.lookup a = none then some (.frz (scrO vs) (.lst (ns.map V.int))) else none
section
variable {P : Program} {w : World} {K : PySem.W.Frag} {mg mb : Str → Option Value} {cs : List (Addr × Addr)} {a fa : Addr} {vs : List Value} {ns : List Int} {s : Shared}
theorem startH_tab {p : Addr × Addr} (h : p ∈ cs) : startH K cs a vs ns p.2 = some (.tbl #[]) := if_pos (List.mem_map.mpr ⟨p, h, rfl⟩)
theorem startH_cases (b : Addr) : startH K cs a vs ns b = none ∨ (∃ p ∈ cs, p.2 = b ∧ startH K cs a vs ns b = some (.tbl #[])) ∨ (b = a ∧ K.lookup a = none ∧ startH K cs a vs ns b = some (.frz (scrO vs) (.lst (ns.map V.int)))) := by
  by_cases h1 : b ∈ cs.map (·.2)
  · obtain ⟨p, hp, e⟩ := List.mem_map.mp h1
    exact .inr (.inl ⟨p, hp, e, if_pos h1⟩)
  · by_cases h2 : b = a ∧ K.lookup a = none
    · exact .inr (.inr ⟨h2.1, h2.2, (if_neg h1).trans (if_pos h2)⟩)
    · exact .inl ((if_neg h1).trans (if_neg h2))
theorem law_run (kin : K.In s.heap) (gl : s.heap.Ns mainGlobals mg) (bl : s.heap.Ns builtinsNs mb) (blt : ∀ x : Str, x ≠ "__name__" → mb x = bootBuiltins x) (lim : s.heap.NoLimit) (gens : s.gens = #[])
    (tabs : ∀ p ∈ cs, s.heap.get? p.2 = some tabE) (tabK : ∀ p ∈ cs, K.lookup p.2 = none) (code : ∀ p ∈ cs, PySem.W.CodeHd s.heap p.1 p.2)
    (bm : ∃ (m : Addr) (ob : Obj), mg "__builtins__" = some (.ref m) ∧ m ≠ builtinsNs ∧ s.heap.get? m = some ob ∧ ob.cls = .type "module" ∧ ob.dict = some builtinsNs ∧ ob.data = .plain)
    (scr : s.heap.get? a = some (scrO vs)) (ints_ : IntsAre vs ns) (len : ns.length ≤ sizeLine)
    (run : ∀ base : Heap, K.In base → base.Ns mainGlobals mg → (∀ p ∈ cs, LamX.TabB base mg p.1 p.2) → Env0 P w K mg base callerA [] s (startH K cs a vs ns) → SqL K (startH K cs a vs ns) a (ns.map V.int) →
      codeAny (model P w) callerA (.call (.ref fa) ⟨[.ref a], []⟩) (CR (L2.CX P w) [] P w (startH K cs a vs ns) s (fun v _ => v = .bl true) fun _ _ _ => False) s) :
    codeAny (model P w) callerA (.call (.ref fa) ⟨[.ref a], []⟩) (fun r s' => r = .ok (.ret (.bool true)) ∧ OldK s.heap s'.heap ∧ s'.os = s.os ∧ AllBare s'.gens) s := by
  have rv := vals_ints ints_
  have lv : vs.length = ns.length := ints_.length
  generalize eH : startH K cs a vs ns = H0
  have cas : ∀ b, H0 b = none ∨ (∃ p ∈ cs, p.2 = b ∧ H0 b = some (.tbl #[])) ∨ (b = a ∧ K.lookup a = none ∧ H0 b = some (.frz (scrO vs) (.lst (ns.map V.int)))) := fun b => by
    rw [← eH]
    exact startH_cases b
  have tb : ∀ p ∈ cs, H0 p.2 = some (.tbl #[]) := fun p hp => by
    rw [← eH]
    exact startH_tab hp
  have plain : ∀ {b : Addr} {o : Obj}, s.heap.get? b = some o → (∀ us n, o.data ≠ .seq us n) → o.data ≠ .fields #[] → H0 b = none := fun {b o} e n1 n2 => by
    rcases cas b with z | ⟨p, hp, eb, _⟩ | ⟨eb, _, _⟩
    · exact z
    · rw [← eb, tabs p hp] at e
      cases e
      exact absurd rfl n2
    · rw [eb, scr] at e
      cases e
      exact absurd rfl (n1 _ _)
  have dic : ∀ {b : Addr} {o : Obj} {es : Array DictEntry} {ep : Nat}, s.heap.get? b = some o → o.data = .dict es ep → H0 b = none := fun {b o es ep} e d => plain e (fun us n z => by rw [d] at z; cases z) fun z => by rw [d] at z; cases z
  have low : ∀ {b : Addr} {o : Obj}, s.heap.get? b = some o → H0 b = none → (hidT s.heap H0).get? b = some o := fun e n => hidT_get e n
  have lowN : ∀ {b : Addr} {m : Str → Option Value}, s.heap.Ns b m → (hidT s.heap H0).Ns b m := fun {b m} ⟨o, es, ep, e, d, r⟩ => ⟨o, es, ep, low e (dic e d), d, r⟩
  have lowK : K.In (hidT s.heap H0) := fun b o e => low (kin b o e) (by
    rcases cas b with z | ⟨p, hp, eb, _⟩ | ⟨eb, nk, _⟩
    · exact z
    · rw [← eb, tabK p hp] at e
      cases e
    · rw [eb, nk] at e
      cases e)
  have md : L2.Mod K mg (hidT s.heap H0) := ⟨lowK, lowN gl, ⟨mb, lowN bl, blt⟩, let ⟨mc, h1, h2⟩ := lim; ⟨mc, lowN h1, h2⟩⟩
  have hok : HOk P w H0 s.heap := fun b u z => by
    rcases cas b with z' | ⟨p, hp, eb, z'⟩ | ⟨eb, _, z'⟩
    · rw [z'] at z
      cases z
    · rw [z'] at z
      cases z
      rw [← eb]
      exact tabs p hp
    · rw [z'] at z
      cases z
      rw [eb]
      exact ⟨scr, by rw [List.length_map]; exact len, vs, _, rv, scr⟩
  have sq : SqL K H0 a (ns.map V.int) := by
    cases hk : K.lookup a with
    | some o =>
      have e := kin a o hk
      rw [scr] at e
      cases e
      exact .inr ⟨_, vs.toArray, _, hk, rfl, rfl, rfl, by rw [List.size_toArray, lv]; exact len, by simpa using rv⟩
    | none =>
      rcases cas a with z | ⟨p, hp, eb, z⟩ | ⟨_, _, z⟩
      · exfalso
        rw [← eH] at z
        have z : (if a ∈ cs.map (·.2) then some (HO.tbl #[]) else if a = a ∧ K.lookup a = none then some (.frz (scrO vs) (.lst (ns.map V.int))) else none) = none := by
          rw [← z]
          unfold startH
          congr
        split at z
        · cases z
        · rw [if_pos ⟨rfl, hk⟩] at z
          cases z
      · have q := tabs p hp
        rw [eb, scr] at q
        cases q
      · exact .inl (.inr ⟨_, z⟩)
  have TB : ∀ p ∈ cs, LamX.TabB (hidT s.heap H0) mg p.1 p.2 := fun p hp => by
    refine ⟨?_, ?_, fun z => ?_⟩
    · obtain ⟨o, us, file, tf, flags, tg, inF, text, tt, e1, r1, r2, r3, r⟩ := code p hp
      refine ⟨o, us, file, tf, flags, tg, inF, text, tt, low e1 (plain e1 (fun vs n z => ?_) fun z => ?_), r1, r2, r3, r⟩
      · rw [r2] at z
        cases z
      · rw [r2] at z
        cases z
        simp at r3
    · obtain ⟨m, ob, b1, b2, b3, b4, b5, b6⟩ := bm
      refine ⟨m, ob, b1, b2, fun q => ?_, fun q => ?_, low b3 (plain b3 (fun us n z => ?_) fun z => ?_), b4, b5, b6⟩
      · obtain ⟨o, es, ep, e, hd, _⟩ := gl
        rw [q, e] at b3
        cases b3
        rw [hd] at b6
        cases b6
      · rw [q, tabs p hp] at b3
        cases b3
        cases b6
      · rw [b6] at z
        cases z
      · rw [b6] at z
        cases z
    · obtain ⟨o, es, ep, e, hd, _⟩ := gl
      rw [z, tabs p hp] at e
      cases e
      cases hd
  have e0 : Env0 P w K mg (hidT s.heap H0) callerA [] s H0 := ⟨rfl, md, fun b o e => of_hidT e, Nat.le_of_eq (hidT_size _ _), trivial, fun b hb => absurd (show b ∈ ([] : List Addr) from hb) (by simp), hok, .of_eq gens⟩
  rw [eH] at run
  refine codeAny_mono (run _ lowK (lowN gl) TB e0 sq) fun r s' h => ?_
  cases r with
  | error e =>
    obtain ⟨_, _, _, _, _, _, _, _, _, _, _, _, z⟩ := (show L2.CX P w [] H0 s (fun _ _ _ => False) e s' from h)
    exact z.elim
  | ok fl =>
    cases fl with
    | next => exact False.elim h
    | brk => exact False.elim h
    | cont => exact False.elim h
    | ret u =>
      obtain ⟨v, H', os, bare, un, hok', r', q⟩ := h
      have q' : v = .bl true := q
      subst q'
      obtain rfl : u = Value.bool true := r'
      have same : ∀ b o, (∀ p ∈ cs, p.2 ≠ b) → s.heap.get? b = some o → s'.heap.get? b = some o := fun b o nb e => by
        rcases cas b with z | ⟨p, hp, eb, _⟩ | ⟨_, _, z⟩
        · exact un.keep b o e z (by intro z; exact absurd (show b ∈ ([] : List Addr) from z) (by simp)) (by simp)
        · exact absurd eb (nb p hp)
        · have z2 := un.frzs b _ _ z
          obtain ⟨e1, _⟩ := hok b _ z
          obtain ⟨e2, _⟩ := hok' b _ z2
          rw [e] at e1
          cases e1
          exact e2
      have more : ∀ p ∈ cs, ∃ m : Array Value, s'.heap.get? p.2 = some { cls := .none, data := .fields m } := fun p hp => by
        obtain ⟨m, z⟩ := un.tbls p.2 #[] (tb p hp)
        exact ⟨_, hok' p.2 _ z⟩
      refine ⟨rfl, ⟨fun b o e => ?_, fun b o e => ?_⟩, os, bare⟩
      · by_cases hb : ∃ p ∈ cs, p.2 = b
        · obtain ⟨p, hp, ep⟩ := hb
          obtain ⟨m, hm⟩ := more p hp
          rw [← ep] at e ⊢
          rw [tabs p hp] at e
          cases e
          exact .inr (.inl ⟨((code p hp).tab (tabs p hp)).isCodeTable, rfl, #[], m, rfl, by rw [Array.empty_append]; exact hm⟩)
        · exact .inl (same b o (fun p hp z => hb ⟨p, hp, z⟩) e)
      · by_cases hb : ∃ p ∈ cs, p.2 = b
        · obtain ⟨p, hp, ep⟩ := hb
          obtain ⟨m, hm⟩ := more p hp
          rw [← ep]
          exact ⟨_, hm⟩
        · exact ⟨o, same b o (fun p hp z => hb ⟨p, hp, z⟩) e⟩
end
/-- what a law's def must do, at the head's heap h -/
def LawG (l : PySem.W.OpenLaw) (w : World) (K : PySem.W.Frag) (n : Nat) (mg : Str → Option Value) (fa : Addr) (h : Heap) : Prop :=
  ∃ cs : List (Addr × Addr), (∀ p ∈ cs, h.get? p.2 = some tabE) ∧ (∀ p ∈ cs, K.lookup p.2 = none) ∧ (∀ p ∈ cs, PySem.W.CodeHd h p.1 p.2) ∧
    ∀ (base : Heap) (s : Shared) (a : Addr) (vs : List Value) (ns : List Int), K.In base → base.Ns mainGlobals mg → (∀ p ∈ cs, LamX.TabB base mg p.1 p.2) → Env0 l.prog w K mg base callerA [] s (startH K cs a vs ns) → SqL K (startH K cs a vs ns) a (ns.map V.int) →
      ns.length ≤ n → (∀ z ∈ ns, Builtin.Int.intBits z ≤ 1048576) → codeAny (model l.prog w) callerA (.call (.ref fa) ⟨[.ref a], []⟩) (CR (L2.CX l.prog w) [] l.prog w (startH K cs a vs ns) s (fun v _ => v = .bl true) fun _ _ _ => False) s
open PySem.W in
theorem walkG {l : PySem.W.OpenLaw} {n : Nat} {q : Program} {loose : List Str} {XP : (Str → Option Value) → Heap → Prop} {YP : World → Heap → Prop} {d : DefRec} {K : Params → PySem.W.Frag} (hn : l.most = some n) (hn2 : n ≤ sizeLine) (hdf : d.params.defaults = []) (hrec : ((recsOf q).any fun e => e.name == d.name) = true)
    (hY : ∀ (w : World) (h : Heap), YP w h → (K w.params).In h)
    (F : ∀ (w : World) (mg : Str → Option Value) (fa : Addr) (h : Heap), (K w.params).In h → h.Ns mainGlobals mg → mg d.name = some (.ref fa) → LamX.OwnTab (K w.params) fa h → LawG l w (K w.params) n mg fa h) :
    PySem.W.WalkO q loose XP YP l.row.toRowW d [] (fun f vs => PySem.call f vs) := by
  refine Att.attach_callB hn hdf fun w s0 s1 mg mb fa o pm cd doc a vs ns G Y ho hd hcd hmg hobj hints hlen hbits hg => ?_
  have kin := hY w _ Y
  have own : LamX.OwnTab (K w.params) fa s1.heap := fun c P o1 fd1 e dd vs1 sl k1 k2 k3 k4 k5 => by
    obtain ⟨dl, mem, en⟩ := List.any_eq_true.mp hrec
    obtain ⟨a1, o2, fd2, c2, P2, t1, t2, t3, t4, t5, ⟨oc, vc, u1, _, u3, u4⟩, u5⟩ := G.T.tab dl mem
    rw [beq_iff_eq.mp en, hmg] at t1
    cases t1
    rw [kin _ _ k1] at t2
    cases t2
    rw [k2] at t3
    cases t3
    rw [k3] at t4
    cases t4
    rw [kin _ _ k4] at u1
    cases u1
    cases u3
    rw [k5] at u4
    cases u4
    exact u5
  obtain ⟨cs, hT, nT, C, hF⟩ := F w mg fa _ kin G.T.g hmg own
  exact law_run kin G.T.g G.T.b G.T.builtins G.T.nolimit hg hT nT C G.T.bmain hobj hints (Nat.le_trans hlen hn2) fun base b1 b2 b3 b4 b5 => hF base s1 a vs ns b1 b2 b3 b4 b5 hlen hbits

/-! ### the defs of a row -/
/-- a def as it is written -/
def DefK (K : PySem.W.Frag) (x : Str) (st : Stmt) : Prop := ∃ (f : Addr) (oc : Value) (od : Option Addr) (osl : Array (Option Value)) (kV dc pm cd ct : Value) (an : Option Addr), PySem.W.nsIn K mainGlobals x = some (some (.ref f)) ∧
  K.lookup f = some ⟨oc, od, .func (PySem.W.fnOf x x (defArgs st) (defBody st) (defScope st) .none kV dc pm an cd ct), osl⟩ ∧ PySem.W.codeIn K cd x = true ∧ PySem.W.keepIn K (.ref f) = true
theorem defK_mk {K : PySem.W.Frag} {x : Str} {st : Stmt} {f : Addr} {oc : Value} {od : Option Addr} {osl : Array (Option Value)} {kV dc pm cd ct : Value} {an : Option Addr} (h1 : PySem.W.nsIn K mainGlobals x = some (some (.ref f)))
    (h2 : K.lookup f = some ⟨oc, od, .func (PySem.W.fnOf x x (defArgs st) (defBody st) (defScope st) .none kV dc pm an cd ct), osl⟩) (h3 : PySem.W.codeIn K cd x = true) (h4 : PySem.W.keepIn K (.ref f) = true) : DefK K x st :=
  ⟨f, oc, od, osl, kV, dc, pm, cd, ct, an, h1, h2, h3, h4⟩
def AllF (P : Program) (w : World) (K : PySem.W.Frag) (mg : Str → Option Value) (base : Heap) (g : Gx) (l : List (Str × FnE)) : Prop := ∀ p ∈ l, ∃ f, mg p.1 = some (.ref f) ∧ PySem.W.keepIn K (.ref f) = true ∧ FnG P w K mg base g p.2.lv p.2.gr f p.2.ar p.2.fm
def AllX (P : Program) (w : World) (K : PySem.W.Frag) (mg : Str → Option Value) (base : Heap) (g : Gx) (l : List (Str × Nat)) : Prop := ∀ p ∈ l, ExG P w K mg base g 2 p.1 p.2
theorem look_mem {α : Type} : ∀ {l : List (Str × α)} {x : Str} {a : α}, l.lookup x = some a → (x, a) ∈ l := fun h => PySem.mem_of_lookup h
theorem glo_of {P : Program} {w : World} {K : PySem.W.Frag} {mg : Str → Option Value} {base : Heap} {g : Gx} {l : List (Str × FnE)} {xs : List (Str × Nat)} (h : AllF P w K mg base g l) (hx : AllX P w K mg base g xs) (hb : ∀ x, x ∈ blts → mg x = none) :
    Glo P w K mg base g (fun x => l.lookup x) (fun _ => none) (fun x => xs.lookup x) :=
  ⟨fun x e z => h (x, e) (look_mem z), (fun x d z => by cases z), fun x n z => hx (x, n) (look_mem z), hb⟩
def mkCt (N : List Str) (sc : Scope) (l : List (Str × FnE)) (xs : List (Str × Nat)) (k : Nat) (gr : Bool) (told : List (Str × (Nat → Option Str))) : Ct := ⟨N, sc, fun x => l.lookup x, fun _ => none, fun x => xs.lookup x, k, fun _ => true, gr, fun x => told.lookup x⟩
theorem AllF.step {P : Program} {w : World} {K : PySem.W.Frag} {mg : Str → Option Value} {base : Heap} {g : Gx} {l : List (Str × FnE)} {xs : List (Str × Nat)} {x : Str} {st : Stmt} {N ps : List Str} {k n : Nat} {gr : Bool} {m : MS} (h : AllF P w K mg base g l) (hx : AllX P w K mg base g xs) (hb : ∀ x, x ∈ blts → mg x = none)
    (kin : K.In base) (gl : base.Ns mainGlobals mg) (D : DefK K x st) (S : FnScope N ps (defScope st))
    (bind : ∀ (kV dc pm cd ct : Value) (an : Option Addr) (us : List Value), us.length = ps.length → bindArgs (PySem.W.fnOf x x (defArgs st) (defBody st) (defScope st) .none kV dc pm an cd ct) ⟨us, []⟩ = pure (ps.zip us))
    (t : sAll (cS n (mkCt N (defScope st) l xs k gr [])) (defBody st) = m) : AllF P w K mg base g ((x, ⟨k + 1, gr, ps.length, fmOf ps.length N.length m⟩) :: l) := by
  intro p hp
  rcases List.mem_cons.mp hp with rfl | hp
  · obtain ⟨f, oc, od, osl, kV, dc, pm, cd, ct, an, h1, h2, h3, h4⟩ := D
    refine ⟨f, PySem.W.mg_of kin gl h1, h4, fnG_of h2 h3 S (bind kV dc pm cd ct an) fun A outer s H E hr hgd => ?_⟩
    have fx : Fx (cxOf (L2.CX P w) P w K mg base N x (defScope st) f cd A outer s H E) g (fun cls d _ H => E cls d H) (mkCt N (defScope st) l xs k gr []) :=
      ⟨glo_of h hx hb, rfl, S.nd, rfl, rfl, hgd, hr, fun _ _ _ => .inl rfl, takes_of rfl rfl rfl rfl⟩
    rw [← t]
    exact sAll_ok (cS_ok ⟨fx, (fun x h e => by cases e), passes_of rfl, S.kind⟩ n) _
  · exact h p hp
theorem AllF.nil {P : Program} {w : World} {K : PySem.W.Frag} {mg : Str → Option Value} {base : Heap} {g : Gx} : AllF P w K mg base g [] := fun p hp => by cases hp

/-! ### the law's def -/
section
variable {K : PySem.W.Frag} {g : Gx} {b : Bs} {F H : Hp} {S : Sto} {σ : L2.St}
open Classical in
noncomputable def startF (K : PySem.W.Frag) (cs : List (Addr × Addr)) (a : Addr) (vs : List Value) (ns : List Int) : Hp := fun b => if b ∈ cs.map (·.2) then none else startH K cs a vs ns b
theorem startF_some {cs : List (Addr × Addr)} {a : Addr} {vs : List Value} {ns : List Int} {c : Addr} {o : HO} (h : startF K cs a vs ns c = some o) : startH K cs a vs ns c = some o ∧ notTbl o := by
  unfold startF at h
  split at h
  · cases h
  · rename_i nc
    refine ⟨h, ?_⟩
    rcases startH_cases (K := K) (cs := cs) (a := a) (vs := vs) (ns := ns) c with z | ⟨p, hp, e, z⟩ | ⟨_, _, z⟩
    · rw [z] at h
      cases h
    · exact absurd (List.mem_map.mpr ⟨p, hp, e⟩) nc
    · rw [z] at h
      cases h
      exact fun ps e => by cases e
theorem start_seq {cs : List (Addr × Addr)} {a : Addr} {vs : List Value} {ns : List Int} {xs : List V} (h : SqL K (startH K cs a vs ns) a xs) : SqL K (startF K cs a vs ns) a xs := by
  have key : ∀ {o : HO}, notTbl o → startH K cs a vs ns a = some o → startF K cs a vs ns a = some o := fun {o} nt e => by
    unfold startF
    split
    · rename_i hc
      obtain ⟨p, hp, ep⟩ := List.mem_map.mp hc
      have z := startH_tab (K := K) (a := a) (vs := vs) (ns := ns) hp
      rw [ep, e] at z
      cases z
      exact absurd rfl (nt _)
    · exact e
  rcases h with (h | ⟨o, h⟩) | h
  · exact .inl (.inl (key (lst_nt _) h))
  · exact .inl (.inr ⟨o, key (fun ps e => by cases e) h⟩)
  · exact .inr h
theorem startSR {cs : List (Addr × Addr)} {a : Addr} {vs : List Value} {ns : List Int} (hT : ∀ p ∈ g.T, ∃ q ∈ cs, q.2 = p.1) : SR K g ⟨0, false, startF K cs a vs ns, startH K cs a vs ns⟩ (startF K cs a vs ns) ⟨[], none⟩ [] (startH K cs a vs ns) where
  len := rfl
  ff c o h := (startF_some h).1
  f0 := Same.refl _
  fn c o h := .inl h
  nt c o h := (startF_some h).2
  ext := Fr.refl _ _
  slot i u v e1 e2 := by simp at e1
  dist i j d e y _ h := by simp at h
  box := rfl
  tabs p hp := by
    obtain ⟨q, hq, e⟩ := hT p hp
    exact LamX.TabS.nil (by rw [← e]; exact startH_tab hq)
theorem ints_dp (ns : List Int) : DpAll K F (ns.map V.int) (ns.map .int) := by
  induction ns with
  | nil => exact .nil
  | cons n r ih => exact .cons (.int n) ih
/-- the box is made -/
theorem SR.mkBox {i : Nat} {p dg : Addr} {ds : List Int} (x : SR K g b F S σ H) (n : noOw S.sl) (hb : S.bx = none) (hp : H p = none) (hd : Dp K F (.ref dg) (.list (ds.map .int))) :
    SR K g ⟨p, true, F, upd H p (.lst [.ref dg, .int 0])⟩ F ⟨S.sl.set i .bx, some (ds, 0)⟩ (σ.set i (some (.ref p))) (upd H p (.lst [.ref dg, .int 0])) where
  len := by
    show (S.sl.set i .bx).length = _
    rw [List.length_set, List.length_set]
    exact x.len
  ff a o q := by
    rw [upd_ne (ne_of_none (x.ff a o q) hp)]
    exact x.ff a o q
  f0 := Same.refl _
  fn a o h := .inl h
  nt := x.nt
  ext := Fr.refl _ _
  slot j u y e1 e2 := by
    rcases get_set e1 with ⟨rfl, rfl⟩ | ⟨n1, e1⟩
    · rcases get_set e2 with ⟨_, rfl⟩ | ⟨n2, _⟩
      · exact ⟨rfl, rfl⟩
      · exact absurd rfl n2
    · rcases get_set e2 with ⟨z, _⟩ | ⟨_, e2⟩
      · exact absurd z n1
      · have q := x.slot j u y e1 e2
        cases u with
        | un => trivial
        | sh d => exact q
        | ow d => exact absurd e1 (n j d)
        | bx =>
          have z := x.hb
          rw [hb] at z
          rw [q.1] at z
          cases z
  dist j k d e y _ h := by
    rcases get_set h with ⟨_, z⟩ | ⟨_, h⟩
    · cases z
    · exact absurd h (n j d)
  box := by
    have hF : F p = none := by
      cases z : F p with
      | none => rfl
      | some u =>
        rw [x.ff _ _ z] at hp
        cases hp
    exact ⟨rfl, hF, dg, upd_same, hd, trivial⟩
  tabs := x.tabs.ext fun a o q => by
    rw [upd_ne (ne_of_none q hp)]
    exact q
end
theorem law_body {X : Cx} {g : Gx} {W : WX} {c : Ct} {i : Nat} {e1 : Expr} {j : Nat} {p p2 p3 p4 : Pos} {rest : List Stmt} {m1 : M D} {mr : MS} {b : Bs} {F H : Hp} {S S1 S2 : Sto} {σ : L2.St} {ds : List Int} (f : Fs X g W c) (hi : locC c "box" = some i) (hs : noStar [e1, .Constant (.int 0) j p2] = true)
    (h1 : JE X g W e1 m1) (h2 : JSs X g W rest mr) (hm : m1 S = .ok (.list (ds.map .int)) S1) (no : noOw S1.sl) (hb : S1.bx = none) (hr : mr ⟨S1.sl.set i .bx, some (ds, 0)⟩ = .ret (.bool true) S2) (x : SR X.K g b F S σ H) :
    ∃ t, PSs X (.Assign [.Name "box" p] (.List [e1, .Constant (.int 0) j p2] p3) p4 :: rest) t ∧ t { nx := fun _ H' => (fun v _ => v = V.bl true) V.non H', rt := fun v _ => v = .bl true } σ H := by
  refine ⟨_, pss_cons (ps_asg (pe_lst (pa_cons h1 (pa_cons pe_int pa_nil rfl) (star_cons hs))) (pg_loc f.fx hi) rfl rfl rfl) h2, ?_⟩
  refine ⟨b, F, S, x, ?_⟩
  rw [hm]
  intro v F1 H1 x1 s1 f1 r1
  obtain ⟨dg, xs, rfl, _, _⟩ := dp_list r1
  refine ⟨by show 2 ≤ sizeLine; decide, fun q hq => ?_⟩
  refine ⟨_, F1, _, x1.mkBox (i := i) no hb hq r1, ?_⟩
  rw [hr]
  intro v F2 H2 x2 s2 r2
  cases r2
  rfl
end Gl
namespace Gl
open PySem PySem.Spec PyProof.Rows L2
/-- the facts of an own error's class, told of the written part alone -/
theorem xtxt_mk {P : Program} {K : PySem.W.Frag} {h : Heap} {mg : Str → Option Value} {nm f : Str} {C fI cc cda : Addr} (kin : K.In h) (gl : h.Ns mainGlobals mg) {cn cq : Str} {N : Addr} {bs bm : List Value} {sn : List Str} {sub : List Value} {ab : Bool} {col : Option Bool} {dd : Option Addr} {k0 k1 k2 k3 k5 : Option Value}
    {oc : Value} {od : Option Addr} {osl : Array (Option Value)} {fn q : Str} {p1 p2 q1 q2 q3 q4 q5 q6 q7 q8 q9 q10 : Pos} {dV kV doc pm : Value} {an : Option Addr} {ct : Value} {occ oco : Obj} {vs : Array Value} {file : Str} {tf : Tok}
    (aC : PySem.W.nsIn K mainGlobals nm = some (some (.ref C))) (aS : PySem.W.nsIn K mainGlobals "super" = some none) (iC : PySem.W.findIn K (.ref C) "__init__" = some (some (.ref fI)))
    (lC : K.lookup C = some (excClassObj cn cq C N bs bm true sn sub ab col dd k0 k1 k2 k3 k5 "ValueError.__new__"))
    (lF : K.lookup fI = some ⟨oc, od, .func ⟨fn, q, xA f p1 p2, .stmts (xB f q1 q2 q3 q4 q5 q6 q7 q8 q9 q10), xS f, mainGlobals, [("__class__", cc)], dV, kV, doc, pm, an, .ref cda, ct, builtinsNs⟩, osl⟩)
    (cF : PySem.W.codeIn K (.ref cda) q = true) (lc : K.lookup cc = some occ) (lo : K.lookup cda = some oco)
    (sa : PySem.W.findIn K (.ref C) "__setattr__" = some (some (.builtin "object.__setattr__"))) (noN : PySem.W.findIn K (.ref C) f = some none) (tC : PySem.W.typeIn K (.ref fI) = some (.type "function")) (kC : PySem.W.keepIn K (.ref C) = true)
    (exC : PySem.W.subIn K (.ref C) (.type "BaseException") = some true) (veC : PySem.W.subIn K (.ref C) (.type "ValueError") = some true) (ccC : PySem.W.subIn K (.ref C) (.ref C) = some true) (tyC : PySem.W.typeIn K (.ref C) = some (.type "type")) (opq : PySem.W.nsIn K cStatics "thirdparty.any" = some none)
    (rv : PySem.HandSPX.refsVE bm = true) (sup : PySem.W.ks_superIn K C C "__init__" = some (some (.builtin "ValueError.__init__"))) (dc : occ.data = .cell (some (.ref C))) (dO : oco.data = .fields vs) (dv : vs[2]? = some (.str file tf)) (fl : (P.main.file == file) = true) (ln : (q3.endLine == q5.line) = true)
    (top : (P.main.scope.names.lookup ("super" : Str)).isSome = false) (fok : f ≠ "self" ∧ (f == ("__debug__" : Str)) = false ∧ f ≠ "__class__" ∧ f ≠ "super")
    (bi : ∀ a v : Value, bindArgs ⟨fn, q, xA f p1 p2, .stmts (xB f q1 q2 q3 q4 q5 q6 q7 q8 q9 q10), xS f, mainGlobals, [("__class__", cc)], dV, kV, doc, pm, an, .ref cda, ct, builtinsNs⟩ ⟨[a, v], []⟩ = pure [(("self" : Str), a), (f, v)]) : XTxt P K mg nm f C fI where
  gC := PySem.W.mg_of kin gl aC
  gS := PySem.W.mg_none_of kin gl aS
  cls := ⟨cn, cq, N, bs, bm, sn, sub, ab, col, dd, k0, k1, k2, k3, k5, lC, rv⟩
  sup := sup
  sa := sa
  noN := noN
  iC := iC
  tC := tC
  kC := kC
  exC := exC
  veC := veC
  ccC := ccC
  tyC := tyC
  opq := opq
  top := top
  fok := fok
  fn := ⟨oc, od, osl, fn, q, p1, p2, q1, q2, q3, q4, q5, q6, q7, q8, q9, q10, cc, dV, kV, doc, pm, an, cda, ct, occ, oco, vs, file, tf, lF, cF, lc, dc, lo, dO, dv, fl, ln, bi⟩
end Gl

set_option maxRecDepth 100000
set_option maxHeartbeats 1000000
/-! The general layer, part N: the law of a row, told of its plain functions. -/
namespace Gl
open PySem PySem.Spec PyProof.Rows L2
/-- the def that tells, as it is written -/
def ToldK (K : PySem.W.Frag) (mg : Str → Option Value) (x : Str) (l : List HSp) (gf : Addr) : Prop :=
  PySem.W.nsIn K mainGlobals x = some (some (.ref gf)) ∧ PySem.W.keepIn K (.ref gf) = true ∧ ∃ (pg : Arguments) (bg : List Stmt) (sg : Scope) (dV kV doc pm cdv ct oc : Value) (an od : Option Addr) (osl : Array (Option Value)) (h0 : ExceptHandler) (hds : List ExceptHandler) (p1 p2 p3 p4 : Pos),
    K.lookup gf = some ⟨oc, od, .func (PySem.W.fnOf x x pg [.Try [.Return (some (.Call (.Name "call" p1) [] [] p2)) p3] (h0 :: hds) [] [] p4] sg dV kV doc pm an cdv ct), osl⟩ ∧ PySem.W.codeIn K cdv x = true ∧
    L2.Binds K (PySem.W.fnOf x x pg [.Try [.Return (some (.Call (.Name "call" p1) [] [] p2)) p3] (h0 :: hds) [] [] p4] sg dV kV doc pm an cdv ct) ["call"] [] ∧ FnScope ["call", "e"] ["call"] sg ∧ sg.names.lookup ("e" : Str) = some .local ∧ sg.names.lookup ("call" : Str) = some .local ∧ HdsW (h0 :: hds) l ∧ ∀ h ∈ l, HFact K mg sg h
/-- the law's def and its tables, as written -/
structure LawK (K : PySem.W.Frag) (st : Stmt) (c P : Addr) : Prop where
  fn : ∃ (f : Addr) (oc : Value) (od : Option Addr) (osl : Array (Option Value)) (kV dc pm ct : Value) (an : Option Addr), PySem.W.nsIn K mainGlobals "law" = some (some (.ref f)) ∧
    K.lookup f = some ⟨oc, od, .func (PySem.W.fnOf "law" "law" (defArgs st) (defBody st) (defScope st) .none kV dc pm an (.ref c) ct), osl⟩ ∧ PySem.W.codeIn K (.ref c) "law" = true
  tab : ∃ (e : Value) (dd : Option Addr) (vs : Array Value) (sl : Array (Option Value)), K.lookup c = some ⟨e, dd, .fields vs, sl⟩ ∧ vs[11]? = some (.ref P)
  nP : K.lookup P = none
  hd : PySem.W.codeHdIn K c P = true
theorem told_mk {K : PySem.W.Frag} {mg : Str → Option Value} {x : Str} {l : List HSp} {gf : Addr} {pg : Arguments} {sg : Scope} {dV kV doc pm cdv ct oc : Value} {an od : Option Addr} {osl : Array (Option Value)} {h0 : ExceptHandler} {hds : List ExceptHandler} {p1 p2 p3 p4 : Pos}
    (a : PySem.W.nsIn K mainGlobals x = some (some (.ref gf))) (b : K.lookup gf = some ⟨oc, od, .func (PySem.W.fnOf x x pg [.Try [.Return (some (.Call (.Name "call" p1) [] [] p2)) p3] (h0 :: hds) [] [] p4] sg dV kV doc pm an cdv ct), osl⟩) (c : PySem.W.codeIn K cdv x = true) (d : PySem.W.keepIn K (.ref gf) = true)
    (e : ∀ us : List Value, us.length = 1 → bindArgs (PySem.W.fnOf x x pg [.Try [.Return (some (.Call (.Name "call" p1) [] [] p2)) p3] (h0 :: hds) [] [] p4] sg dV kV doc pm an cdv ct) ⟨us, []⟩ = pure ((["call"] : List Str).zip us))
    (f : FnScope ["call", "e"] ["call"] sg) (g1 : sg.names.lookup ("e" : Str) = some .local) (g2 : sg.names.lookup ("call" : Str) = some .local) (h : HdsW (h0 :: hds) l) (i : ∀ h ∈ l, HFact K mg sg h) : ToldK K mg x l gf :=
  ⟨a, d, pg, [], sg, dV, kV, doc, pm, cdv, ct, oc, an, od, osl, h0, hds, p1, p2, p3, p4, b, c, .all e, f, g1, g2, h, i⟩
theorem lawK_mk {K : PySem.W.Frag} {st : Stmt} {f c P : Addr} {oc : Value} {od : Option Addr} {osl : Array (Option Value)} {kV dc pm ct : Value} {an : Option Addr} {e : Value} {dd : Option Addr} {vs : Array Value} {sl : Array (Option Value)}
    (a : PySem.W.nsIn K mainGlobals "law" = some (some (.ref f))) (b : K.lookup f = some ⟨oc, od, .func (PySem.W.fnOf "law" "law" (defArgs st) (defBody st) (defScope st) .none kV dc pm an (.ref c) ct), osl⟩) (d : PySem.W.codeIn K (.ref c) "law" = true)
    (t : K.lookup c = some ⟨e, dd, .fields vs, sl⟩) (t2 : vs[11]? = some (.ref P)) (n : K.lookup P = none) (h : PySem.W.codeHdIn K c P = true) : LawK K st c P :=
  ⟨⟨f, oc, od, osl, kV, dc, pm, ct, an, a, b, d⟩, ⟨e, dd, vs, sl, t, t2⟩, n, h⟩
theorem hfact_mk {K : PySem.W.Frag} {h : Heap} {mg : Str → Option Value} {sg : Scope} {x : Str} {C : Addr} {tag fld : Str} (kin : K.In h) (gl : h.Ns mainGlobals mg) (a : PySem.W.nsIn K mainGlobals x = some (some (.ref C))) (b : sg.names.lookup x = some .globalImplicit) (d : (x == ("__debug__" : Str)) = false)
    (x1 : PySem.W.findIn K (.ref C) "__getattribute__" = some (some (.builtin "BaseException.__getattribute__"))) (x2 : PySem.W.findIn K (.ref C) "__getattr__" = some none) (x3 : PySem.W.subIn K (.ref C) (.type "BaseException") = some true) (x4 : PySem.W.hasDictIn K C = true) (no : PySem.W.findIn K (.ref C) fld = some none) : HFact K mg sg ⟨x, C, tag, fld⟩ :=
  ⟨PySem.W.mg_of kin gl a, b, d, ⟨x1, x2, x3, x4⟩, no⟩
theorem exm_mk {K : PySem.W.Frag} {C D : Addr} {b : Bool} (h1 : PySem.W.subIn K (.ref C) (.type "BaseException") = some true) (h2 : PySem.W.hasDictIn K C = true) (h3 : PySem.W.typeIn K (.ref C) = some (.type "type")) (h4 : PySem.W.subIn K (.ref D) (.ref C) = some b) : PySem.W.exmOne K (.ref D) (.ref C) = some b := PySem.W.exm_ref h1 h2 h3 h4
def lamQ : Str := "law" ++ ".<locals>." ++ "<lambda>"
abbrev gxOf (P : Addr) (cl : Nat → Option (Addr × Str)) : Gx := ⟨[(P, lamQ)], cl⟩
theorem lawG_of {l : PySem.W.OpenLaw} {w : World} {K : PySem.W.Frag} {mg : Str → Option Value} {fa : Addr} {h : Heap} {n : Nat} {st : Stmt} {c P : Addr} {cl : Nat → Option (Addr × Str)} {N : List Str} {fs : List (Str × FnE)} {xs : List (Str × Nat)} {k fuel i : Nat} {tg : Nat → Option Str} {sp : List HSp} {gf : Addr}
    {pb p1 p2 p3 p4 p5 p6 p7 p8 : Pos} {j1 j2 j3 : Nat} {rest : List Stmt} {mr : MS} {fe : FnE}
    (kin : K.In h) (gl : h.Ns mainGlobals mg) (hmg : mg "law" = some (.ref fa)) (own : LamX.OwnTab K fa h) (L : LawK K st c P) (T : ToldK K mg "_law_told" sp gf)
    (hX : ∀ base, AllX l.prog w K mg base (gxOf P cl) xs) (hF : ∀ base, K.In base → base.Ns mainGlobals mg → AllF l.prog w K mg base (gxOf P cl) fs)
    (bl : ∀ x, x ∈ blts → mg x = none) (hk : 3 ≤ k) (room : Room (k + 1) callerA) (S : FnScope N ["script"] (defScope st))
    (bind : ∀ (kV dc pm cd ct : Value) (an : Option Addr) (us : List Value), us.length = 1 → bindArgs (PySem.W.fnOf "law" "law" (defArgs st) (defBody st) (defScope st) .none kV dc pm an cd ct) ⟨us, []⟩ = pure ((["script"] : List Str).zip us))
    (ex : ∀ m tag C f, tg m = some tag → cl m = some (C, f) → (∀ h ∈ sp, PySem.W.exmOne K (.ref C) (.ref h.C) = some (decide (h.C = C))) ∧ (∀ h ∈ sp, h.C = C → h.tag = tag ∧ h.fld = f) ∧ ∃ h ∈ sp, h.C = C)
    (body : defBody st = .Assign [.Name "box" pb] (.List [.Call (.Name "_law_digits" p1) [.Name "script" p2, .Constant (.int 0) j1 p3, .Constant (.int 63) j2 p4] [] p5, .Constant (.int 0) j3 p6] p7) p8 :: rest)
    (hi : locC (mkCt N (defScope st) fs xs k true [("_law_told", tg)]) "box" = some i)
    (h1 : (cX fuel (mkCt N (defScope st) fs xs k true [("_law_told", tg)]) (.Call (.Name "_law_digits" p1) [.Name "script" p2, .Constant (.int 0) j1 p3, .Constant (.int 63) j2 p4] [] p5)).e = mCall fe (mSeq [mArgV 0, mArgE (mC (.int 0)), mArgE (mC (.int 63))])) (har : fe.ar = 3)
    (h2 : sAll (cS fuel (mkCt N (defScope st) fs xs k true [("_law_told", tg)])) rest = mr)
    (dig : ∀ ns : List Int, ns.length ≤ n → ∃ ds : List Int, fe.fm [.d (.list (ns.map .int)), .d (.int 0), .d (.int 63)] none = .ret (.list (ds.map .int)) none)
    (law : ∀ ns ds : List Int, ∃ S2, mr ⟨((.sh (.list (ns.map .int))) :: List.replicate (N.length - 1) DV.un).set i .bx, some (ds, 0)⟩ = .ret (.bool true) S2) : LawG l w K n mg fa h := by
  obtain ⟨f, oc, od, osl, kV, dc, pm, ct, an, a1, a2, a3⟩ := L.fn
  obtain rfl : f = fa := by
    have z := PySem.W.mg_of kin gl a1
    rw [hmg] at z
    cases z
    rfl
  obtain ⟨e, dd, us, sl, t1, t2⟩ := L.tab
  refine ⟨[(c, P)], fun p hp => ?_, fun p hp => ?_, fun p hp => ?_, fun base s a vs ns b1 b2 b3 b4 b5 hl _ => ?_⟩
  · obtain rfl := List.mem_singleton.mp hp
    exact own c P _ _ e dd us sl a2 rfl rfl t1 t2
  · obtain rfl := List.mem_singleton.mp hp
    exact L.nP
  · obtain rfl := List.mem_singleton.mp hp
    exact PySem.W.codeHd_of_K kin L.hd
  · obtain ⟨g1, g2, pg, bg, sg, dV', kV', doc', pm', cdv', ct', oc', an', od', osl', h0, hds, q1, q2, q3, q4, k1, k2, k3, k4, k5, k6, k7, k8⟩ := T
    obtain ⟨ds, hd⟩ := dig ns hl
    obtain ⟨S2, hr⟩ := law ns ds
    have sr := startSR (K := K) (g := gxOf P cl) (cs := [(c, P)]) (a := a) (vs := vs) (ns := ns) fun p hp => ⟨(c, P), by simp, by rw [List.mem_singleton.mp hp]⟩
    have rep : repL (repA K) ⟨0, false, startF K [(c, P)] a vs ns, startH K [(c, P)] a vs ns⟩ (startF K [(c, P)] a vs ns) (startH K [(c, P)] a vs ns) [.ref a] [.d (.list (ns.map .int))] := ⟨rfl, fun i v x e1 e2 => by
      cases i with
      | zero =>
        cases e1
        cases e2
        exact .lst (start_seq b5) (ints_dp ns)
      | succ i => simp at e1⟩
    have ent := sr.enter (N := N) rep
    refine LamX.run_ofS (N := N) (ps := ["script"]) (us := [.ref a]) (vs := [.ref a]) a2 a3 S room b4 (.of_eq (bind kV dc pm (.ref c) ct an [.ref a] rfl)) (.cons rfl .nil) rfl fun hr' => ?_
    have fx : Fx (cxOf (L2.CX l.prog w) l.prog w K mg base N "law" (defScope st) f (.ref c) callerA [] s (startH K [(c, P)] a vs ns) fun _ _ _ => False) (gxOf P cl) (fun cls d _ H => (fun _ _ _ => False : XK) cls d H) (mkCt N (defScope st) fs xs k true [("_law_told", tg)]) :=
      ⟨glo_of (hF base b1 b2) (hX base) bl, rfl, S.nd, rfl, rfl, fun _ => rfl, hr', fun _ _ _ => .inl rfl, takes_of rfl rfl rfl rfl⟩
    have told : TOk (cxOf (L2.CX l.prog w) l.prog w K mg base N "law" (defScope st) f (.ref c) callerA [] s (startH K [(c, P)] a vs ns) fun _ _ _ => False) (gxOf P cl) (fun cls d _ H => (fun _ _ _ => False : XK) cls d H) (mkCt N (defScope st) fs xs k true [("_law_told", tg)]) := fun x hh hx => by
      have hx : ([("_law_told", tg)] : List (Str × (Nat → Option Str))).lookup x = some hh := hx
      have mem := look_mem hx
      obtain ⟨rfl, rfl⟩ : x = "_law_told" ∧ hh = tg := by
        have := List.mem_singleton.mp mem
        exact ⟨congrArg Prod.fst this, congrArg Prod.snd this⟩
      refine toldR_of (l := sp) (gf := gf) (cT := c) (P := P) fx ⟨PySem.W.mg_of kin gl g1, g2, ⟨pg, bg, sg, dV', kV', doc', pm', cdv', ct', oc', an', od', osl', h0, hds, q1, q2, q3, q4, k1, k2, k3, k4, k5, k6, k7, k8⟩, ex, b3 (c, P) (by simp), rfl, List.mem_singleton.mpr rfl, fun p hp _ => by rw [List.mem_singleton.mp hp]; rfl⟩ hk
    have F : Fs (cxOf (L2.CX l.prog w) l.prog w K mg base N "law" (defScope st) f (.ref c) callerA [] s (startH K [(c, P)] a vs ns) fun _ _ _ => False) (gxOf P cl) (fun cls d _ H => (fun _ _ _ => False : XK) cls d H) (mkCt N (defScope st) fs xs k true [("_law_told", tg)]) := ⟨fx, told, passes_of rfl, S.kind⟩
    rw [body]
    have e1 := (cX_ok fuel _ _ _ fx told (.Call (.Name "_law_digits" p1) [.Name "script" p2, .Constant (.int 0) j1 p3, .Constant (.int 63) j2 p4] [] p5)).e
    rw [h1] at e1
    refine law_body (S := ⟨[Arg.d (.list (ns.map .int))].map slotA ++ List.replicate (N.length - 1) DV.un, none⟩) (S1 := ⟨[Arg.d (.list (ns.map .int))].map slotA ++ List.replicate (N.length - 1) DV.un, none⟩) F hi (by rfl) e1 (sAll_ok (cS_ok F fuel) rest) ?_ ?_ rfl (by rw [h2]; exact hr) ent
    · show (if 3 = fe.ar then _ else _) = _
      rw [if_pos har.symm]
      show (match fe.fm [.d (.list (ns.map .int)), .d (.int 0), .d (.int 63)] none with | .ret d bx' => _ | .exc x d bx' => _ | .stuck => _) = _
      rw [hd]
    · intro i d z
      have z : ([DV.sh (.list (ns.map .int))] ++ List.replicate (N.length - 1) DV.un)[i]? = some (.ow d) := z
      cases i with
      | zero => cases z
      | succ i =>
        rw [List.getElem?_append_right (by simp), List.getElem?_replicate] at z
        split at z <;> cases z
end Gl

set_option maxRecDepth 100000
set_option maxHeartbeats 1000000
/-! The plain tools: how what the general layer tells is worked out. -/
namespace Gl
open PySem PySem.Spec PyProof.Rows L2
variable {α β : Type}
@[simp] theorem z_ok {a : α} {s : Sto} {k : α → Sto → R β} : (R.ok a s).bind k = k a s := Eq.trans rfl rfl
@[simp] theorem z_exc {c : Nat} {d : D} {b : Bx} {k : α → Sto → R β} : (R.exc c d b).bind k = .exc c d b := Eq.trans rfl rfl
@[simp] theorem z_bind {m : M α} {k : α → M β} {S : Sto} : M.bind m k S = (m S).bind k := Eq.trans rfl rfl
@[simp] theorem z_some {a : α} {S : Sto} : ofO (some a) S = .ok a S := Eq.trans rfl rfl
@[simp] theorem z_c {a : α} {S : Sto} : mC a S = .ok a S := Eq.trans rfl rfl
@[simp] theorem z_nil {S : Sto} : mSeq ([] : List (M α)) S = .ok [] S := Eq.trans rfl rfl
@[simp] theorem z_cons {m : M α} {ms : List (M α)} {S : Sto} : mSeq (m :: ms) S = (m S).bind fun a S1 => (mSeq ms S1).bind fun as S2 => .ok (a :: as) S2 := Eq.trans rfl rfl
@[simp] theorem z_op2 {f : D → D → Option D} {ma mb : M D} {S : Sto} : mOp2 f ma mb S = (ma S).bind fun x S1 => (mb S1).bind fun y S2 => ofO (f x y) S2 := Eq.trans rfl rfl
@[simp] theorem z_op1 {f : D → Option D} {ma : M D} {S : Sto} : mOp1 f ma S = (ma S).bind fun x S1 => ofO (f x) S1 := Eq.trans rfl rfl
@[simp] theorem z_cmp {f : D → D → Option Bool} {ma mb : M D} {S : Sto} : mCmp f ma mb S = (ma S).bind fun x S1 => (mb S1).bind fun y S2 => ofO (f x y) S2 := Eq.trans rfl rfl
@[simp] theorem z_bl {m : M Bool} {S : Sto} : mBl m S = (m S).bind fun k S1 => .ok (.bool k) S1 := Eq.trans rfl rfl
@[simp] theorem z_chain {f f' : D → D → Option Bool} {ma mb mc : M D} {S : Sto} : mChain f f' ma mb mc S = (ma S).bind fun x S1 => (mb S1).bind fun y S2 => (ofO (f x y) S2).bind fun k S3 => (if k then mc.bind fun z => ofO (f' y z) else mC false) S3 := Eq.trans rfl rfl
@[simp] theorem z_tru {m : M D} {S : Sto} : mTru m S = (m S).bind fun x S1 => ofO (truD x) S1 := Eq.trans rfl rfl
@[simp] theorem z_andV {ma mb : M D} {S : Sto} : mAndV ma mb S = (ma S).bind fun x S1 => (ofO (truD x) S1).bind fun k S2 => (if k then mb else mC x) S2 := Eq.trans rfl rfl
@[simp] theorem z_orV {ma mb : M D} {S : Sto} : mOrV ma mb S = (ma S).bind fun x S1 => (ofO (truD x) S1).bind fun k S2 => (if k then mC x else mb) S2 := Eq.trans rfl rfl
@[simp] theorem z_notV {ma : M D} {S : Sto} : mNotV ma S = (ma S).bind fun x S1 => (ofO (truD x) S1).bind fun k S2 => .ok (.bool (!k)) S2 := Eq.trans rfl rfl
@[simp] theorem z_andT {ma mb : M Bool} {S : Sto} : mAndT ma mb S = (ma S).bind fun k S1 => (if k then mb else mC false) S1 := Eq.trans rfl rfl
@[simp] theorem z_orT {ma mb : M Bool} {S : Sto} : mOrT ma mb S = (ma S).bind fun k S1 => (if k then mC true else mb) S1 := Eq.trans rfl rfl
@[simp] theorem z_notT {ma : M Bool} {S : Sto} : mNotT ma S = (ma S).bind fun k S1 => .ok (!k) S1 := Eq.trans rfl rfl
@[simp] theorem z_if {c : M Bool} {ma mb : M α} {S : Sto} : mIf c ma mb S = (c S).bind fun k S1 => (if k then ma else mb) S1 := Eq.trans rfl rfl
@[simp] theorem z_argE {m : M D} {S : Sto} : mArgE m S = (m S).bind fun d S1 => .ok (.d d) S1 := Eq.trans rfl rfl
@[simp] theorem z_items {m : M D} {S : Sto} : mItems m S = (m S).bind fun d S1 => ofO (itemsOf d) S1 := Eq.trans rfl rfl
@[simp] theorem z_range {m : M (List D)} {S : Sto} : mRange m S = (m S).bind fun d S1 => ofO (rangeOf d) S1 := Eq.trans rfl rfl
@[simp] theorem z_zip {m : M (List D)} {S : Sto} : mZip m S = (m S).bind fun d S1 => ofO (zipOf d) S1 := Eq.trans rfl rfl
@[simp] theorem z_enum {m : M (List D)} {S : Sto} : mEnum m S = (m S).bind fun d S1 => ofO (enumOf d) S1 := Eq.trans rfl rfl
theorem sumOk_lt {n : Nat} (h : n ≤ 16777216) : sumOk n = true := decide_eq_true h
@[simp] theorem z_tup {ms : List (M D)} {S : Sto} : mTup ms S = (mSeq ms S).bind fun ds S1 => (if sumOk ds.length then mC (.tuple ds) else fun _ => .stuck) S1 := Eq.trans rfl rfl
@[simp] theorem z_lst {ms : List (M D)} {S : Sto} : mLst ms S = (mSeq ms S).bind fun ds S1 => (if sumOk ds.length then mC (.list ds) else fun _ => .stuck) S1 := Eq.trans rfl rfl
theorem v_sh {i : Nat} {S : Sto} {d : D} (h : S.sl[i]? = some (.sh d)) : mVar i S = .ok d S := by unfold mVar; rw [h]
theorem p_sh {i : Nat} {S : Sto} {d : D} (h : S.sl[i]? = some (.sh d)) : mPeek i S = .ok d S := by unfold mPeek; rw [h]
theorem a_sh {i : Nat} {S : Sto} {d : D} (h : S.sl[i]? = some (.sh d)) : mArgV i S = .ok (.d d) S := by unfold mArgV; rw [h]
theorem v_ow {i : Nat} {S : Sto} {d : D} (h : S.sl[i]? = some (.ow d)) : mVar i S = .ok d (share S i d) := by unfold mVar; rw [h]
theorem p_ow {i : Nat} {S : Sto} {d : D} (h : S.sl[i]? = some (.ow d)) : mPeek i S = .ok d S := by unfold mPeek; rw [h]
theorem a_bx {i : Nat} {S : Sto} (h : S.sl[i]? = some .bx) : mArgV i S = .ok .box S := by unfold mArgV; rw [h]
@[simp] theorem z_toO {a : α} {s : Sto} {k : α → Sto → O} : (R.ok a s).toO k = k a s := Eq.trans rfl rfl
@[simp] theorem z_toOe {c : Nat} {d : D} {b : Bx} {k : α → Sto → O} : (R.exc c d b : R α).toO k = .exc c d b := Eq.trans rfl rfl
@[simp] theorem z_onext {s : Sto} {k : Sto → O} : (O.next s).bind k = k s := Eq.trans rfl rfl
@[simp] theorem z_oret {d : D} {s : Sto} {k : Sto → O} : (O.ret d s).bind k = .ret d s := Eq.trans rfl rfl
@[simp] theorem z_oexc {c : Nat} {d : D} {b : Bx} {k : Sto → O} : (O.exc c d b).bind k = .exc c d b := Eq.trans rfl rfl
@[simp] theorem z_next {S : Sto} : sNext S = .next S := Eq.trans rfl rfl
@[simp] theorem z_seq {m n : MS} {S : Sto} : sSeq m n S = (m S).bind n := Eq.trans rfl rfl
@[simp] theorem z_e {m : M α} {k : α → MS} {S : Sto} : sE m k S = (m S).toO k := Eq.trans rfl rfl
@[simp] theorem z_set {i : Nat} {d : D} {S : Sto} : sSet i d S = .next ⟨S.sl.set i (.sh d), S.bx⟩ := Eq.trans rfl rfl
@[simp] theorem z_ret {m : M D} {S : Sto} : sRet m S = (m S).toO fun d S1 => .ret d S1 := Eq.trans rfl rfl
@[simp] theorem z_sif {m : M Bool} {a b : MS} {S : Sto} : sIf m a b S = (m S).toO fun k S1 => (if k then a else b) S1 := Eq.trans rfl rfl
@[simp] theorem z_raise {n : Nat} {m : M D} {S : Sto} : sRaise n m S = (m S).toO fun d S1 => .exc n d S1.bx := Eq.trans rfl rfl
@[simp] theorem z_for {mi : M (List D)} {st : Tgt} {mb : MS} {S : Sto} : sFor mi st mb S = (mi S).toO fun ds => loopF st mb ds := Eq.trans rfl rfl
@[simp] theorem z_ite {k : Prop} [Decidable k] {a b : Sto → β} {S : Sto} : (if k then a else b) S = if k then a S else b S := by split <;> rfl
theorem store2 {i j : Nat} {x y : D} {sl : List DV} {bx : Bx} : sStore (stTup 2 (stCons (stName i) (stCons (stName j) stNil))) (.tuple [x, y]) ⟨sl, bx⟩ = .next ⟨(sl.set i (.sh x)).set j (.sh y), bx⟩ := rfl
/-! calls -/
theorem call_ret {e : FnE} {ms : M (List Arg)} {S S1 : Sto} {as : List Arg} {d : D} {bx' : Bx} (h1 : ms S = .ok as S1) (h2 : as.length = e.ar) (h3 : e.fm as S1.bx = .ret d bx') : mCall e ms S = .ok d { S1 with bx := bx' } := by
  unfold mCall M.bind
  rw [h1]
  show (if as.length = e.ar then _ else _) = _
  rw [if_pos h2, h3]
theorem call_exc {e : FnE} {ms : M (List Arg)} {S S1 : Sto} {as : List Arg} {c : Nat} {d : D} {bx' : Bx} (h1 : ms S = .ok as S1) (h2 : as.length = e.ar) (h3 : e.fm as S1.bx = .exc c d bx') : mCall e ms S = .exc c d bx' := by
  unfold mCall M.bind
  rw [h1]
  show (if as.length = e.ar then _ else _) = _
  rw [if_pos h2, h3]
@[simp] theorem z_call {e : FnE} {ms : M (List Arg)} {S : Sto} : mCall e ms S = (ms S).bind fun as S1 => if as.length = e.ar then (match e.fm as S1.bx with
  | .ret d bx' => .ok d { S1 with bx := bx' }
  | .exc x d bx' => .exc x d bx'
  | .stuck => .stuck) else .stuck := Eq.trans rfl rfl
theorem fm_ret {f : FM} {n N : Nat} {m : MS} {as : List Arg} {bx bx' : Bx} {d : D} {S : Sto} (he : f = fmOf n N m) (hl : as.length = n) (h : m ⟨as.map slotA ++ List.replicate (N - n) DV.un, bx⟩ = .ret d S) (hS : S.bx = bx') : f as bx = .ret d bx' := by
  rw [he]
  unfold fmOf
  rw [if_pos hl, h, ← hS]
theorem fm_next {f : FM} {n N : Nat} {m : MS} {as : List Arg} {bx bx' : Bx} {S : Sto} (he : f = fmOf n N m) (hl : as.length = n) (h : m ⟨as.map slotA ++ List.replicate (N - n) DV.un, bx⟩ = .next S) (hS : S.bx = bx') : f as bx = .ret .none bx' := by
  rw [he]
  unfold fmOf
  rw [if_pos hl, h, ← hS]
theorem fm_exc {f : FM} {n N : Nat} {m : MS} {as : List Arg} {bx b : Bx} {c : Nat} {d : D} (he : f = fmOf n N m) (hl : as.length = n) (h : m ⟨as.map slotA ++ List.replicate (N - n) DV.un, bx⟩ = .exc c d b) : f as bx = .exc c d b := by
  rw [he]
  unfold fmOf
  rw [if_pos hl, h]
/-! arithmetic -/
theorem modD_pos {i j : Int} (h : 0 < j) : modD (.int i) (.int j) = some (.int (i % j)) := by
  show (if j ≠ 0 then _ else _) = _
  rw [if_pos (by omega), Int.fmod_eq_emod_of_nonneg i (by omega)]
theorem fdivD_pos {i j : Int} (h : 0 < j) (h2 : j < 1073741824) : fdivD (.int i) (.int j) = some (.int (i / j)) := by
  show (if divOk j = true then _ else _) = _
  rw [if_pos, Int.fdiv_eq_ediv_of_nonneg i (by omega)]
  unfold divOk
  simp only [Bool.and_eq_true, Bool.or_eq_true, decide_eq_true_eq]
  exact ⟨by omega, .inl (by omega)⟩
theorem mulD_ok {i j : Int} (h : i.natAbs < 2 ^ 64 ∨ j.natAbs < 2 ^ 64) : mulD (.int i) (.int j) = some (.int (i * j)) := by
  show (if mulOk i j = true then _ else _) = _
  rw [if_pos]
  unfold mulOk
  simp only [Bool.or_eq_true, decide_eq_true_eq]
  rcases h with h | h
  · exact .inl (.inl h)
  · exact .inl (.inr h)
@[simp] theorem z_add {i j : Int} : addD (.int i) (.int j) = some (.int (i + j)) := Eq.trans rfl rfl
@[simp] theorem z_sub {i j : Int} : subD (.int i) (.int j) = some (.int (i - j)) := Eq.trans rfl rfl
@[simp] theorem z_neg {i : Int} : negD (.int i) = some (.int (-i)) := Eq.trans rfl rfl
@[simp] theorem z_abs {i : Int} : absD (.int i) = some (.int (i.natAbs : Int)) := by
  show some (PyData.int (if i < 0 then -i else i)) = _
  congr 2
  split <;> omega
@[simp] theorem z_int {i : Int} : intD (.int i) = some (.int i) := Eq.trans rfl rfl
@[simp] theorem z_tlist {ds : List D} : tupleD (.list ds) = some (.tuple ds) := Eq.trans rfl rfl
@[simp] theorem z_ttup {ds : List D} : tupleD (.tuple ds) = some (.tuple ds) := Eq.trans rfl rfl
@[simp] theorem z_llist {ds : List D} : lenD (.list ds) = some (.int ds.length) := Eq.trans rfl rfl
@[simp] theorem z_ltup {ds : List D} : lenD (.tuple ds) = some (.int ds.length) := Eq.trans rfl rfl
@[simp] theorem z_ilist {ds : List D} : itemsOf (.list ds) = some ds := Eq.trans rfl rfl
@[simp] theorem z_itup {ds : List D} : itemsOf (.tuple ds) = some ds := Eq.trans rfl rfl
@[simp] theorem z_tint {i : Int} : truD (.int i) = some (i != 0) := Eq.trans rfl rfl
@[simp] theorem z_tbool {i : Bool} : truD (.bool i) = some i := Eq.trans rfl rfl
@[simp] theorem z_le {i j : Int} : leD (.int i) (.int j) = some (decide (i ≤ j)) := Eq.trans rfl rfl
@[simp] theorem z_ge {i j : Int} : geD (.int i) (.int j) = some (decide (j ≤ i)) := Eq.trans rfl rfl
@[simp] theorem z_gt {i j : Int} : gtD (.int i) (.int j) = some (decide (j < i)) := Eq.trans rfl rfl
@[simp] theorem z_lt {i j : Int} : ltD (.int i) (.int j) = some (decide (i < j)) := Eq.trans rfl rfl
theorem shp_int (i : Int) : shp (.int i) = true := rfl
@[simp] theorem z_eq {i j : Int} : eqD (.int i) (.int j) = some (decide (i = j)) := by
  show (if (shp (.int i) && shp (.int j)) = true then some (PyData.eqv (.int i) (.int j)) else none) = _
  rw [shp_int, shp_int, PyData.eqv]
  rfl
@[simp] theorem z_ne {i j : Int} : neD (.int i) (.int j) = some (!decide (i = j)) := by
  show (if (shp (.int i) && shp (.int j)) = true then some (!PyData.eqv (.int i) (.int j)) else none) = _
  rw [shp_int, shp_int, PyData.eqv]
  rfl
/-! loops -/
theorem loopF_next {st : Tgt} {mb : MS} {d : D} {ds : List D} {S S' : Sto} {sl' : List DV} (e : st d S.sl = some sl') (e2 : mb { S with sl := sl' } = .next S') : loopF st mb (d :: ds) S = loopF st mb ds S' := by
  simp only [loopF, e, e2]
theorem loopF_out {st : Tgt} {mb : MS} {d : D} {ds : List D} {S S' : Sto} {r : D} {sl' : List DV} (e : st d S.sl = some sl') (e2 : mb { S with sl := sl' } = .ret r S') : loopF st mb (d :: ds) S = .ret r S' := by
  simp only [loopF, e, e2]
theorem loopF_ret {P : Nat → Sto → Prop} {Q : D → Sto → Prop} {st : Tgt} {mb : MS} : ∀ {ds : List D} {n : Nat} {S : Sto}, (∀ i d S, ds[i]? = some d → P (n + i) S → ∃ sl', st d S.sl = some sl' ∧ ((∃ S', mb { S with sl := sl' } = .next S' ∧ P (n + i + 1) S') ∨ ∃ r S', mb { S with sl := sl' } = .ret r S' ∧ Q r S')) →
    P n S → (∃ S', loopF st mb ds S = .next S' ∧ P (n + ds.length) S') ∨ ∃ r S', loopF st mb ds S = .ret r S' ∧ Q r S'
  | [], n, S, _, p => .inl ⟨S, rfl, p⟩
  | d :: ds, n, S, h, p => by
    obtain ⟨sl', e, k⟩ := h 0 d S rfl p
    rcases k with ⟨S', e2, p2⟩ | ⟨r, S', e2, q⟩
    · rw [loopF_next e e2]
      have := loopF_ret (P := P) (Q := Q) (st := st) (mb := mb) (ds := ds) (n := n + 1) (S := S') (fun i d S e p => by
        have z := h (i + 1) d S e (by rw [show n + (i + 1) = n + 1 + i by omega]; exact p)
        rwa [show n + (i + 1) = n + 1 + i by omega] at z) p2
      rwa [show n + (d :: ds).length = n + 1 + ds.length by rw [List.length_cons]; omega]
    · rw [loopF_out e e2]
      exact .inr ⟨r, S', rfl, q⟩
theorem loopF_inv {P : Nat → Sto → Prop} {st : Tgt} {mb : MS} {ds : List D} {S : Sto} (h : ∀ i d S, ds[i]? = some d → P i S → ∃ sl' S', st d S.sl = some sl' ∧ mb { S with sl := sl' } = .next S' ∧ P (i + 1) S') (p : P 0 S) : ∃ S', loopF st mb ds S = .next S' ∧ P ds.length S' := by
  rcases loopF_ret (P := P) (Q := fun _ _ => False) (n := 0) (st := st) (mb := mb) (fun i d S e p => by
    rw [Nat.zero_add] at p ⊢
    obtain ⟨sl', S', a, b, c⟩ := h i d S e p
    exact ⟨sl', a, .inl ⟨S', b, c⟩⟩) p with ⟨S', a, b⟩ | ⟨_, _, _, q⟩
  · exact ⟨S', a, by rwa [Nat.zero_add] at b⟩
  · exact q.elim
/-- a loop that walks a list and leaves the slots as a function of what it has seen -/
theorem loopF_fold {γ δ : Type} {st : Tgt} {mb : MS} {P : γ → Prop} (g : δ → D) (f : γ → δ → γ) (ab : γ → Sto) : ∀ {l : List δ} {c : γ}, (∀ x ∈ l, ∀ c, P c → ∃ sl', st (g x) (ab c).sl = some sl' ∧ mb { ab c with sl := sl' } = .next (ab (f c x)) ∧ P (f c x)) → P c → loopF st mb (l.map g) (ab c) = .next (ab (l.foldl f c)) ∧ P (l.foldl f c)
  | [], c, _, p => ⟨rfl, p⟩
  | x :: l, c, h, p => by
    obtain ⟨sl', e, e2, p2⟩ := h x (by simp) c p
    rw [List.map_cons, loopF_next e e2]
    exact loopF_fold g f ab (fun y hy => h y (List.mem_cons_of_mem _ hy)) p2
theorem loopW_inv {P Q : Sto → Prop} {mc : M Bool} {mb : MS} (μ : Sto → Nat) (h : ∀ S, P S → (∃ S1, mc S = .ok false S1 ∧ Q S1) ∨ ∃ S1 S2, mc S = .ok true S1 ∧ mb S1 = .next S2 ∧ P S2 ∧ μ S2 < μ S) : ∀ (n : Nat) (S : Sto), μ S < n → P S → ∃ S', loopW mc mb n S = .next S' ∧ Q S'
  | 0, _, z, _ => absurd z (Nat.not_lt_zero _)
  | n + 1, S, z, p => by
    rcases h S p with ⟨S1, e, q⟩ | ⟨S1, S2, e, e2, p2, m⟩
    · exact ⟨S1, by simp only [loopW, e], q⟩
    · rw [show loopW mc mb (n + 1) S = loopW mc mb n S2 by simp only [loopW, e, e2]]
      exact loopW_inv μ h n S2 (by omega) p2
theorem while_inv {P Q : Sto → Prop} {mc : M Bool} {mb : MS} {S : Sto} (μ : Sto → Nat) (h : ∀ S, P S → (∃ S1, mc S = .ok false S1 ∧ Q S1) ∨ ∃ S1 S2, mc S = .ok true S1 ∧ mb S1 = .next S2 ∧ P S2 ∧ μ S2 < μ S) (p : P S) : ∃ S', sWhile mc mb S = .next S' ∧ Q S' := by
  obtain ⟨S', e, q⟩ := loopW_inv μ h (μ S + 1) S (by omega) p
  exact ⟨S', sWhile_eq e (by intro z; cases z), q⟩
@[simp] theorem js_nil {S : Sto} : shareJs S [] = S := rfl
@[simp] theorem js_cons {S : Sto} {j : Nat} {js : List Nat} : shareJs S (j :: js) = shareJs (shareJ S j) js := rfl
theorem j_sh {S : Sto} {j : Nat} (h : ∀ d, S.sl[j]? ≠ some (.ow d)) : shareJ S j = S := by
  unfold shareJ
  split
  · next d e => exact absurd e (h d)
  · rfl
abbrev tI (l : List Int) : D := .tuple (l.map .int)
abbrev lI (l : List Int) : D := .list (l.map .int)
theorem at_ints {l : List Int} {i : Nat} {x : Int} (h : l[i]? = some x) : ixD (tI l) (.int (i : Nat)) = some (.int x) := by
  have hl := (List.getElem?_eq_some_iff.mp h).1
  show atI (l.map PyData.int) ((i : Nat) : Int) = _
  unfold atI ixN
  rw [List.length_map, if_pos (by omega), if_pos (by omega)]
  show (l.map PyData.int)[((i : Nat) : Int).toNat]? = _
  rw [Int.toNat_natCast, List.getElem?_map, h]
  rfl
/-! comprehensions -/
theorem compL_pure {sl : List DV} {st : Tgt} {mt : M Bool} {me : M D} {bx : Bx} (p : D → Bool) (f : D → D) : ∀ {ds : List D}, (∀ d ∈ ds, ∃ sl' S1, st d sl = some sl' ∧ mt ⟨sl', bx⟩ = .ok (p d) S1 ∧ S1.bx = bx ∧ (p d = true → ∃ S2, me S1 = .ok (f d) S2 ∧ S2.bx = bx)) → compL sl st mt me ds bx = some ((ds.filter p).map f, bx)
  | [], _ => rfl
  | d :: ds, h => by
    obtain ⟨sl', S1, e1, e2, e3, e4⟩ := h d (by simp)
    have ih := compL_pure p f (ds := ds) fun d hd => h d (List.mem_cons_of_mem _ hd)
    cases hp : p d with
    | false =>
      rw [hp] at e2
      simp only [compL, e1, Option.bind_some, e2, e3, ih]
      rw [List.filter_cons_of_neg (by rw [hp]; simp)]
    | true =>
      obtain ⟨S2, e5, e6⟩ := e4 hp
      rw [hp] at e2
      simp only [compL, e1, Option.bind_some, e2, e5, e6, ih]
      rw [List.filter_cons_of_pos hp]
      rfl
theorem compL_inv {sl : List DV} {st : Tgt} {mt : M Bool} {me : M D} {B : Nat → Bx → Prop} {G : D → Prop} {K : Nat} : ∀ {ds : List D} {k : Nat} {bx : Bx}, (∀ d ∈ ds, ∀ k bx, k < K → B k bx → ∃ sl' S1 y S2, st d sl = some sl' ∧ mt ⟨sl', bx⟩ = .ok true S1 ∧ me S1 = .ok y S2 ∧ G y ∧ B (k + 1) S2.bx) → B k bx → k + ds.length ≤ K → ∃ ys bx', compL sl st mt me ds bx = some (ys, bx') ∧ ys.length = ds.length ∧ (∀ y ∈ ys, G y) ∧ B (k + ds.length) bx'
  | [], k, bx, _, hb, _ => ⟨[], bx, rfl, rfl, by simp, hb⟩
  | d :: ds, k, bx, h, hb, hk => by
    rw [List.length_cons] at hk
    obtain ⟨sl', S1, y, S2, e1, e2, e3, g, b⟩ := h d (by simp) k bx (by omega) hb
    obtain ⟨ys, bx', e4, e5, e6, e7⟩ := compL_inv (ds := ds) (k := k + 1) (bx := S2.bx) (fun d hd => h d (List.mem_cons_of_mem _ hd)) b (by omega)
    refine ⟨y :: ys, bx', ?_, by simp [e5], by simpa using ⟨g, e6⟩, by rw [List.length_cons, show k + (ds.length + 1) = k + 1 + ds.length by omega]; exact e7⟩
    simp only [compL, e1, Option.bind_some, e2, e3, e4]
    rfl
theorem comp_of {js vs : List Nat} {mi : M (List D)} {st : Tgt} {mt : M Bool} {me : M D} {S S1 : Sto} {ds ys : List D} {bx' : Bx} (hi : mi S = .ok ds S1) (h : compL (wipeD ((shareJs S1 js).sl.map hideD) vs) st mt me ds (shareJs S1 js).bx = some (ys, bx')) (hl : ys.length ≤ 16777216) : mComp js vs mi st mt me S = .ok (.list ys) ⟨(shareJs S1 js).sl, bx'⟩ := by
  unfold mComp M.bind
  rw [hi]
  simp only [z_ok, h, if_pos (sumOk_lt hl)]
theorem comp_pure {γ : Type} {js vs : List Nat} {mi : M (List D)} {st : Tgt} {mt : M Bool} {me : M D} {S S1 S2 : Sto} {l : List γ} {ys : List D} (g : γ → D) (p : γ → Bool) (f : γ → D) (hi : mi S = .ok (l.map g) S1) (hS : shareJs S1 js = S2)
    (h : ∀ x ∈ l, ∃ sl' T1, st (g x) (wipeD (S2.sl.map hideD) vs) = some sl' ∧ mt ⟨sl', S2.bx⟩ = .ok (p x) T1 ∧ T1.bx = S2.bx ∧ (p x = true → ∃ T2, me T1 = .ok (f x) T2 ∧ T2.bx = S2.bx)) (hl : l.length ≤ 16777216) (hy : (l.filter p).map f = ys) : mComp js vs mi st mt me S = .ok (.list ys) S2 := by
  have key : ∀ (l : List γ), (∀ x ∈ l, ∃ sl' T1, st (g x) (wipeD (S2.sl.map hideD) vs) = some sl' ∧ mt ⟨sl', S2.bx⟩ = .ok (p x) T1 ∧ T1.bx = S2.bx ∧ (p x = true → ∃ T2, me T1 = .ok (f x) T2 ∧ T2.bx = S2.bx)) → compL (wipeD (S2.sl.map hideD) vs) st mt me (l.map g) S2.bx = some ((l.filter p).map f, S2.bx) := by
    intro l
    induction l with
    | nil => exact fun _ => rfl
    | cons x l ih =>
      intro h
      obtain ⟨sl', T1, e1, e2, e3, e4⟩ := h x (by simp)
      have ih := ih fun y hy => h y (List.mem_cons_of_mem _ hy)
      cases hp : p x with
      | false =>
        rw [hp] at e2
        simp only [List.map_cons, compL, e1, Option.bind_some, e2, e3, ih]
        rw [List.filter_cons_of_neg (by rw [hp]; simp)]
      | true =>
        obtain ⟨T2, e5, e6⟩ := e4 hp
        rw [hp] at e2
        simp only [List.map_cons, compL, e1, Option.bind_some, e2, e5, e6, ih]
        rw [List.filter_cons_of_pos hp]
        rfl
  have hc := key l h
  rw [← hS] at hc
  rw [← hy, comp_of hi hc (by rw [List.length_map]; exact Nat.le_trans (List.length_filter_le ..) hl), hS]
theorem comp_draw {γ : Type} {js vs : List Nat} {mi : M (List D)} {st : Tgt} {mt : M Bool} {me : M D} {S S1 S2 : Sto} {l : List γ} (g : γ → D) {B : Nat → Bx → Prop} {G : D → Prop} (hi : mi S = .ok (l.map g) S1) (hS : shareJs S1 js = S2) (hb : B 0 S2.bx)
    (h : ∀ x ∈ l, ∀ k bx, k < l.length → B k bx → ∃ sl' T1 y T2, st (g x) (wipeD (S2.sl.map hideD) vs) = some sl' ∧ mt ⟨sl', bx⟩ = .ok true T1 ∧ me T1 = .ok y T2 ∧ G y ∧ B (k + 1) T2.bx) (hl : l.length ≤ 16777216) : ∃ ys bx', mComp js vs mi st mt me S = .ok (.list ys) ⟨S2.sl, bx'⟩ ∧ ys.length = l.length ∧ (∀ y ∈ ys, G y) ∧ B l.length bx' := by
  obtain ⟨ys, bx', e1, e2, e3, e4⟩ := compL_inv (sl := wipeD (S2.sl.map hideD) vs) (st := st) (mt := mt) (me := me) (B := B) (G := G) (K := l.length) (ds := l.map g) (k := 0) (bx := S2.bx) (fun d hd k bx hk hb => by
    obtain ⟨x, hx, rfl⟩ := List.mem_map.mp hd
    exact h x hx k bx hk hb) hb (by rw [List.length_map]; omega)
  rw [List.length_map] at e2 e4
  rw [← hS] at e1
  rw [Nat.zero_add] at e4
  exact ⟨ys, bx', by rw [comp_of hi e1 (by omega), hS], e2, e3, e4⟩
theorem ints_of {P : Int → Prop} : ∀ {ys : List D}, (∀ y ∈ ys, ∃ x : Int, y = .int x ∧ P x) → ∃ xs : List Int, ys = xs.map .int ∧ ∀ x ∈ xs, P x
  | [], _ => ⟨[], rfl, by simp⟩
  | y :: ys, h => by
    obtain ⟨x, rfl, px⟩ := h y (by simp)
    obtain ⟨xs, e, p⟩ := ints_of (ys := ys) fun y hy => h y (List.mem_cons_of_mem _ hy)
    exact ⟨x :: xs, by rw [e]; rfl, by simpa using ⟨px, p⟩⟩
theorem bools_map {γ : Type} (p : γ → Bool) : ∀ l : List γ, boolsOf (l.map fun x => .bool (p x)) = some (l.map p)
  | [] => rfl
  | x :: l => by
    show (boolsOf (l.map fun x => .bool (p x))).map (p x :: ·) = _
    rw [bools_map p l]
    rfl
theorem all_map {γ : Type} (p : γ → Bool) (l : List γ) : allD (.list (l.map fun x => .bool (p x))) = some (.bool (l.all p)) := by
  show (boolsOf _).map _ = _
  rw [bools_map]
  show some (PyData.bool ((l.map p).all id)) = _
  rw [List.all_map]
  rfl
theorem range1 {j : Int} (h : 0 ≤ j) (h2 : j < 2 ^ 62) : rangeOf [.int j] = some ((List.range j.toNat).map fun i => .int (i : Nat)) := by
  show (if in62 j = true then _ else _) = _
  rw [if_pos]
  · congr 1
    unfold rangeD
    congr 1
    funext i
    simp
  · unfold in62
    simp only [Bool.and_eq_true, decide_eq_true_eq]
    omega
theorem range2 {i j : Int} (h : 0 ≤ i) (h' : i < 2 ^ 62) (h2 : 0 ≤ j) (h3 : j < 2 ^ 62) : rangeOf [.int i, .int j] = some ((List.range (j - i).toNat).map fun k => .int (i + (k : Nat))) := by
  show (if (in62 i && in62 j) = true then _ else _) = _
  rw [if_pos]
  · congr 1
    unfold rangeD
    congr 1
    funext i
    simp
  · unfold in62
    simp only [Bool.and_eq_true, decide_eq_true_eq]
    omega
end Gl

set_option maxRecDepth 100000
set_option maxHeartbeats 1000000
/-! What the helpers that every law shares work out to. -/
namespace Gl
open PySem PySem.Spec PyProof.Rows L2
def b_digits_1 : MS := (sSeq (sIf (mCmp gtD (mPeek 5) (mC (.int 0))) (sSeq (sAppend 3 (mOp2 modD (mOp1 intD (mPeek 5)) (mC (.int 1009)))) (sSeq (sE (mOp2 fdivD (mPeek 5) (mC (.int 1009))) (sSet 5)) sNext)) sNext) sNext)
def f_digits_2 : MS := (sFor (mRange (mSeq [(mC (.int 60))])) (stName 6) b_digits_1)
def b_digits_3 : MS := (sSeq (sE (mOp2 modD (mOp1 intD (mOp2 addD (mOp2 addD (mOp2 mulD (mPeek 7) (mC (.int 40014))) (mOp2 mulD (mC (.int 11)) (mPeek 6))) (mC (.int 7)))) (mC (.int 2147483563))) (sSet 7)) (sSeq (sAppend 3 (mOp2 modD (mOp1 intD (mOp2 fdivD (mPeek 7) (mC (.int 1013)))) (mC (.int 1009)))) sNext))
def f_digits_4 : MS := (sFor (mRange (mSeq [(mC (.int 12))])) (stName 6) b_digits_3)
def b_digits_5 : MS := (sSeq (sE (mIf (mCmp ltD (mPeek 4) (mOp1 lenD (mPeek 0))) (mOp2 ixD (mPeek 0) (mPeek 4)) (mC (.int 0))) (sSet 5)) (sSeq (sIf (mCmp ltD (mPeek 5) (mC (.int 0))) (sSeq (sE (mOp2 subD (mC (.int 1)) (mOp2 mulD (mC (.int 2)) (mPeek 5))) (sSet 5)) sNext) sNext) (sSeq (sIf (mCmp geD (mPeek 5) (mC (.int 1000000000000000000))) (sSeq f_digits_2 sNext) (sSeq (sE (mOp2 modD (mOp1 intD (mOp2 addD (mOp2 addD (mOp2 mulD (mPeek 5) (mC (.int 40699))) (mOp2 mulD (mPeek 4) (mC (.int 52769)))) (mC (.int 31)))) (mC (.int 2147483399))) (sSet 7)) (sSeq f_digits_4 sNext))) sNext)))
def f_digits_6 : MS := (sFor (mRange (mSeq [(mVar 1), (mVar 2)])) (stName 4) b_digits_5)
def m_digits : MS := (sSeq (sOwn 3 (mSeq [])) (sSeq f_digits_6 (sSeq (sRet (mVar 3)) sNext)))
def m_draw : MS := (sSeq (sE (mBox 0 1 (mOp2 ixD (mPeek 0) (mC (.int 1)))) (sSet 2)) (sSeq (sSub true 0 (mC (.int 1)) (mOp2 addD (mPeek 2) (mC (.int 1)))) (sSeq (sIf (mCmp ltD (mPeek 2) (mOp1 lenD (mBox 0 0 (mOp2 ixD (mPeek 0) (mC (.int 0)))))) (sSeq (sRet (mOp2 modD (mOp1 intD (mOp2 ixD (mBox 0 0 (mOp2 ixD (mPeek 0) (mC (.int 0)))) (mPeek 2))) (mPeek 1))) sNext) sNext) (sSeq (sRet (mOp2 modD (mOp1 intD (mOp2 addD (mOp2 addD (mOp2 addD (mOp2 mulD (mOp2 mulD (mPeek 2) (mPeek 2)) (mC (.int 3))) (mOp2 mulD (mPeek 2) (mC (.int 4)))) (mOp2 fdivD (mPeek 2) (mC (.int 3)))) (mC (.int 1)))) (mPeek 1))) sNext))))
def m_pick (e : FnE) : MS := (sSeq (sRet (mOp2 ixD (mPeek 1) (mCall e (mSeq [(mArgV 0), (mArgE (mOp1 lenD (mPeek 1)))])))) sNext)
def m_same : MS := (sSeq (sRet (mBl (mCmp eqD (mOp1 reprD (mPeek 0)) (mOp1 reprD (mPeek 1))))) sNext)
def b_common_1 : MS := (sSeq (sIf (mCmp eqD (mPeek 1) (mC (.int 0))) (sSeq (sRet (mVar 0)) sNext) sNext) (sSeq (sE (mSeq [(mVar 1), (mOp2 modD (mPeek 0) (mPeek 1))]) (sPar [0, 1])) sNext))
def f_common_2 : MS := (sFor (mRange (mSeq [(mC (.int 30000))])) (stName 2) b_common_1)
def m_common : MS := (sSeq (sE (mSeq [(mOp1 absD (mPeek 0)), (mOp1 absD (mPeek 1))]) (sPar [0, 1])) (sSeq f_common_2 (sSeq (sRet (mVar 0)) sNext)))
def m_low (e : FnE) : MS := (sSeq (sE (mCall e (mSeq [(mArgV 0), (mArgV 1)])) (sSet 2)) (sSeq (sIf (mCmp ltD (mPeek 1) (mC (.int 0))) (sSeq (sE (mOp2 subD (mC (.int 0)) (mPeek 2)) (sSet 2)) sNext) sNext) (sSeq (sRet (mTup [(mOp2 fdivD (mPeek 0) (mPeek 2)), (mOp2 fdivD (mPeek 1) (mPeek 2))])) sNext)))
/-! the draw -/
theorem bx_1 {i : Nat} {k : Int} {m : M D} {S : Sto} {ds : List Int} {at_ : Int} (h : S.sl[i]? = some .bx) (hb : S.bx = some (ds, at_)) (hk : k = 1) : mBox i k m S = .ok (.int at_) S := by
  subst hk
  simp only [mBox, h, hb]
  rfl
theorem bx_0 {i : Nat} {k : Int} {m : M D} {S : Sto} {ds : List Int} {at_ : Int} (h : S.sl[i]? = some .bx) (hb : S.bx = some (ds, at_)) (hk : k = 0) : mBox i k m S = .ok (.list (ds.map .int)) S := by
  subst hk
  simp only [mBox, h, hb]
  rfl
theorem bx_no {i : Nat} {k : Int} {m : M D} {S : Sto} {d : D} (h : S.sl[i]? = some (.sh d)) : mBox i k m S = m S := by
  simp only [mBox, h]
theorem at_nat {ds : List D} {i : Int} (h0 : 0 ≤ i) (h1 : i < ds.length) : atI ds i = ds[i.toNat]? := by
  unfold atI ixN
  rw [if_pos h0, if_pos h1]
  rfl
theorem draw_ok {ds : List Int} {a m : Int} (hm : 0 < m) (ha : 0 ≤ a) (h2 : a < 2 ^ 60) : ∃ r, fmOf 2 3 m_draw [.box, .d (.int m)] (some (ds, a)) = .ret (.int r) (some (ds, a + 1)) ∧ 0 ≤ r ∧ r < m := by
  have b1 : ∀ (S : Sto) (x : M D), S.sl = [.bx, .sh (.int m), .un] → S.bx = some (ds, a) → mBox 0 1 x S = .ok (.int a) S := fun S x e1 e2 => bx_1 (by rw [e1]; rfl) e2 rfl
  have b0 : ∀ (x : M D), mBox 0 0 x ⟨[.bx, .sh (.int m), .sh (.int a)], some (ds, a + 1)⟩ = .ok (.list (ds.map .int)) ⟨[.bx, .sh (.int m), .sh (.int a)], some (ds, a + 1)⟩ := fun x => bx_0 (by rfl) (by rfl) rfl
  by_cases hl : a < ds.length
  · have hd : ds[a.toNat]? = some (ds[a.toNat]'(by omega)) := List.getElem?_eq_getElem _
    refine ⟨ds[a.toNat]'(by omega) % m, fm_ret (S := ⟨[.bx, .sh (.int m), .sh (.int a)], some (ds, a + 1)⟩) rfl rfl ?_ rfl, Int.emod_nonneg _ (by omega), Int.emod_lt_of_pos _ hm⟩
    have e : ixD (.list (ds.map .int)) (.int a) = some (.int (ds[a.toNat]'(by omega))) := by
      show atI (ds.map PyData.int) a = _
      rw [at_nat ha (by simpa using hl), List.getElem?_map, hd]
      rfl
    simp [m_draw, slotA, b1, b0, sSub, isBx, sBox, mPeek, hl, e, modD_pos hm]
  · refine ⟨(a * a * 3 + a * 4 + a / 3 + 1) % m, fm_ret (S := ⟨[.bx, .sh (.int m), .sh (.int a)], some (ds, a + 1)⟩) rfl rfl ?_ rfl, Int.emod_nonneg _ (by omega), Int.emod_lt_of_pos _ hm⟩
    simp [m_draw, slotA, b1, b0, sSub, isBx, sBox, mPeek, hl, modD_pos hm, mulD_ok (i := a) (j := a) (.inl (by omega)), mulD_ok (i := a * a) (j := 3) (.inr (by omega)), mulD_ok (i := a) (j := 4) (.inr (by omega)), fdivD_pos (i := a) (j := 3) (by omega) (by omega)]
/-- a function that draws -/
def Draws (e : FnE) : Prop := e.ar = 2 ∧ e.fm = fmOf 2 3 m_draw
/-- the box when at most n digits are drawn -/
def BxN (ds : List Int) (n : Int) (bx : Bx) : Prop := ∃ a : Int, bx = some (ds, a) ∧ 0 ≤ a ∧ a ≤ n
theorem Draws.ok {e : FnE} (h : Draws e) {ds : List Int} {n m : Int} {bx : Bx} (hb : BxN ds n bx) (hm : 0 < m) (hn : n < 2 ^ 60) : ∃ r bx', e.fm [.box, .d (.int m)] bx = .ret (.int r) bx' ∧ 0 ≤ r ∧ r < m ∧ BxN ds (n + 1) bx' := by
  obtain ⟨a, rfl, a1, a2⟩ := hb
  rw [h.2]
  obtain ⟨r, e1, e2, e3⟩ := draw_ok (ds := ds) hm a1 (by omega)
  exact ⟨r, _, e1, e2, e3, a + 1, rfl, by omega, by omega⟩
theorem pick_ok {e : FnE} (h : Draws e) {ds : List Int} {n : Int} {bx : Bx} {things : List D} (hb : BxN ds n bx) (hn : n < 2 ^ 60) (ht : things ≠ []) : ∃ d bx', fmOf 2 2 (m_pick e) [.box, .d (.list things)] bx = .ret d bx' ∧ d ∈ things ∧ BxN ds (n + 1) bx' := by
  have hl : 0 < things.length := List.length_pos_iff.mpr ht
  obtain ⟨r, bx', e1, e2, e3, e4⟩ := h.ok hb (m := things.length) (by omega) hn
  have hd : things[r.toNat]? = some (things[r.toNat]'(by omega)) := List.getElem?_eq_getElem _
  refine ⟨things[r.toNat]'(by omega), bx', fm_ret (S := ⟨[.bx, .sh (.list things)], bx'⟩) rfl rfl ?_ rfl, List.getElem_mem _, e4⟩
  have e5 : ixD (.list things) (.int r) = some (things[r.toNat]'(by omega)) := by
    show atI things r = _
    rw [at_nat e2 (by omega), hd]
  simp [m_pick, slotA, mPeek, mArgV, h.1, e1, e5]
/-! the highest common divisor -/
theorem common_ok {a b : Int} (hb : b.natAbs < 30000) (bx : Bx) : fmOf 2 3 m_common [.d (.int a), .d (.int b)] bx = .ret (.int (Int.gcd a b)) bx := by
  have key := loopF_ret (n := 0) (st := stName 2) (mb := b_common_1) (ds := (List.range 30000).map fun i => .int (i : Nat)) (S := ⟨[.sh (.int (a.natAbs : Int)), .sh (.int (b.natAbs : Int)), .un], bx⟩)
    (P := fun i S => ∃ (x y : Nat) (o : DV), S = ⟨[.sh (.int (x : Int)), .sh (.int (y : Int)), o], bx⟩ ∧ Nat.gcd x y = Int.gcd a b ∧ y + i ≤ b.natAbs)
    (Q := fun r S => r = .int (Int.gcd a b) ∧ S.bx = bx) ?_ ⟨_, _, _, rfl, rfl, by omega⟩
  · rcases key with ⟨S', e, x, y, o, rfl, h1, h2⟩ | ⟨r, S', e, rfl, hb'⟩
    · rw [List.length_map, List.length_range] at h2
      omega
    · refine fm_ret rfl rfl (S := S') ?_ hb'
      have e3 : rangeOf [.int 30000] = some ((List.range 30000).map fun i => .int (i : Nat)) := range1 (by omega) (by omega)
      simp only [m_common, z_seq, z_e, z_cons, z_nil, z_op1, slotA, List.map, List.replicate, List.append]
      simp [mPeek, sPar, f_common_2, e3, e]
  · rintro i d S hd ⟨x, y, o, rfl, h1, h2⟩
    refine ⟨[.sh (.int (x : Int)), .sh (.int (y : Int)), .sh d], rfl, ?_⟩
    by_cases hy : y = 0
    · subst hy
      refine .inr ⟨.int (Int.gcd a b), ⟨[.sh (.int (x : Int)), .sh (.int 0), .sh d], bx⟩, ?_, rfl, rfl⟩
      rw [Nat.gcd_zero_right] at h1
      simp [b_common_1, mPeek, mVar, ← h1]
    · refine .inl ⟨⟨[.sh (.int (y : Int)), .sh (.int ((x % y : Nat) : Int)), .sh d], bx⟩, ?_, y, x % y, _, rfl, ?_, ?_⟩
      · simp [b_common_1, mPeek, mVar, sPar, hy, modD_pos (show (0 : Int) < y by omega)]
      · rw [← h1, Nat.gcd_comm y, ← Nat.gcd_rec, Nat.gcd_comm]
      · have := Nat.mod_lt x (Nat.pos_of_ne_zero hy)
        omega
def Commons (e : FnE) : Prop := e.ar = 2 ∧ e.fm = fmOf 2 3 m_common
theorem Commons.ok {e : FnE} (h : Commons e) {a b : Int} (hb : b.natAbs < 30000) (bx : Bx) : e.fm [.d (.int a), .d (.int b)] bx = .ret (.int (Int.gcd a b)) bx := by
  rw [h.2]
  exact common_ok hb bx
theorem low_ok {e : FnE} (h : Commons e) {a b : Int} (hb : 0 < b) (hb2 : b < 30000) (bx : Bx) : fmOf 2 3 (m_low e) [.d (.int a), .d (.int b)] bx = .ret (.tuple [.int (a / (Int.gcd a b)), .int (b / (Int.gcd a b))]) bx := by
  have hg : 0 < (Int.gcd a b : Int) := by
    have : Int.gcd a b ≠ 0 := by
      rw [Ne, Int.gcd_eq_zero_iff]
      omega
    omega
  have hg2 : (Int.gcd a b : Int) ≤ b := Int.le_of_dvd hb (Int.gcd_dvd_right ..)
  refine fm_ret rfl rfl (S := ⟨[.sh (.int a), .sh (.int b), .sh (.int (Int.gcd a b))], bx⟩) ?_ rfl
  have e2 : sumOk 2 = true := rfl
  simp [m_low, slotA, mPeek, mArgV, h.1, h.ok (a := a) (b := b) (by omega) bx, show ¬ b < 0 by omega, fdivD_pos hg (by omega), e2]
/-! the digits -/
theorem grow {ds : List Int} {x : Int} {i : Nat} {A B C E F G H : DV} {bx : Bx} {m : M D} (hm : m ⟨[A, B, C, .ow (.list (ds.map .int)), E, F, G, H], bx⟩ = .ok (.int x) ⟨[A, B, C, .ow (.list (ds.map .int)), E, F, G, H], bx⟩) (hl : ds.length < 16777216) : sAppend 3 m ⟨[A, B, C, .ow (.list (ds.map .int)), E, F, G, H], bx⟩ = .next ⟨[A, B, C, .ow (.list ((ds ++ [x]).map .int)), E, F, G, H], bx⟩ := by
  have e : sumOk (ds.length + 1) = true := sumOk_lt (by omega)
  simp [sAppend, hm, e]
theorem digits_ok (ns : List Int) (bx : Bx) : ∃ ds : List Int, fmOf 3 8 m_digits [.d (.list (ns.map .int)), .d (.int 0), .d (.int 63)] bx = .ret (.list (ds.map .int)) bx := by
  have key := loopF_ret (n := 0) (st := stName 4) (mb := b_digits_5) (ds := (List.range 63).map fun i => .int (0 + (i : Nat))) (S := ⟨[.sh (lI ns), .sh (.int 0), .sh (.int 63), .ow (lI []), .un, .un, .un, .un], bx⟩)
    (P := fun i S => ∃ (ds : List Int) (k c t s : DV), S = ⟨[.sh (lI ns), .sh (.int 0), .sh (.int 63), .ow (lI ds), k, c, t, s], bx⟩ ∧ ds.length ≤ 60 * i)
    (Q := fun r S => False) ?_ ⟨[], _, _, _, _, rfl, by simp⟩
  · rcases key with ⟨S', e, ds, k, c, t, s, rfl, h1⟩ | ⟨r, S', e, q⟩
    · refine ⟨ds, fm_ret rfl rfl (S := ⟨[.sh (lI ns), .sh (.int 0), .sh (.int 63), .sh (lI ds), k, c, t, s], bx⟩) ?_ rfl⟩
      have e3 : rangeOf [.int 0, .int 63] = some ((List.range 63).map fun i => .int (0 + (i : Nat))) := range2 (by omega) (by omega) (by omega) (by omega)
      have e4 : sumOk 0 = true := rfl
      have e5 : f_digits_6 ⟨[.sh (lI ns), .sh (.int 0), .sh (.int 63), .ow (lI []), .un, .un, .un, .un], bx⟩ = .next ⟨[.sh (lI ns), .sh (.int 0), .sh (.int 63), .ow (lI ds), k, c, t, s], bx⟩ := by
        unfold f_digits_6
        rw [z_for, z_range]
        simp only [z_cons, z_nil, v_sh (S := ⟨[.sh (lI ns), .sh (.int 0), .sh (.int 63), .ow (lI []), .un, .un, .un, .un], bx⟩) (i := 1) rfl, v_sh (S := ⟨[.sh (lI ns), .sh (.int 0), .sh (.int 63), .ow (lI []), .un, .un, .un, .un], bx⟩) (i := 2) rfl, z_ok, e3, z_some, z_toO]
        exact e
      have e5' := e5
      simp only [lI, List.map_nil] at e5'
      simp [m_digits, slotA, sOwn, e4, e5', mVar, share]
    · exact q.elim
  · rintro i d S hd ⟨ds, k, c, t, s, rfl, h1⟩
    rw [Nat.zero_add] at h1 ⊢
    rw [List.getElem?_map] at hd
    have hi : i < 63 := by
      cases hr : (List.range 63)[i]? with
      | none => rw [hr] at hd; cases hd
      | some j =>
        have := (List.getElem?_eq_some_iff.mp hr).1
        simpa using this
    rw [List.getElem?_range hi] at hd
    cases hd
    refine ⟨[.sh (lI ns), .sh (.int 0), .sh (.int 63), .ow (lI ds), .sh (.int (0 + (i : Nat))), c, t, s], rfl, .inl ?_⟩
    obtain ⟨cell, hcell⟩ : ∃ cell : Int, (mIf (mCmp ltD (mPeek 4) (mOp1 lenD (mPeek 0))) (mOp2 ixD (mPeek 0) (mPeek 4)) (mC (.int 0))) ⟨[.sh (lI ns), .sh (.int 0), .sh (.int 63), .ow (lI ds), .sh (.int (0 + (i : Nat))), c, t, s], bx⟩ = .ok (.int cell) ⟨[.sh (lI ns), .sh (.int 0), .sh (.int 63), .ow (lI ds), .sh (.int (0 + (i : Nat))), c, t, s], bx⟩ := by
      by_cases hl : i < ns.length
      · refine ⟨ns[i], ?_⟩
        have e : ixD (.list (ns.map .int)) (.int (i : Nat)) = some (.int ns[i]) := by
          show atI (ns.map PyData.int) ((i : Nat) : Int) = _
          rw [at_nat (by omega) (by simpa using hl)]
          simp [hl]
        simp [mPeek, hl, e]
      · exact ⟨0, by simp [mPeek, hl]⟩
    obtain ⟨cell2, hcell2⟩ : ∃ cell2 : Int, (sIf (mCmp ltD (mPeek 5) (mC (.int 0))) (sSeq (sE (mOp2 subD (mC (.int 1)) (mOp2 mulD (mC (.int 2)) (mPeek 5))) (sSet 5)) sNext) sNext) ⟨[.sh (lI ns), .sh (.int 0), .sh (.int 63), .ow (lI ds), .sh (.int (0 + (i : Nat))), .sh (.int cell), t, s], bx⟩ = .next ⟨[.sh (lI ns), .sh (.int 0), .sh (.int 63), .ow (lI ds), .sh (.int (0 + (i : Nat))), .sh (.int cell2), t, s], bx⟩ := by
      by_cases h0 : cell < 0
      · exact ⟨1 - 2 * cell, by simp [mPeek, h0, mulD_ok (i := 2) (j := cell) (.inl (by omega))]⟩
      · exact ⟨cell, by simp [mPeek, h0]⟩
    have ha : ∀ (n : Nat) (j : Nat), j < n → ((List.range n).map fun i => PyData.int (i : Nat))[j]? = some (.int (j : Nat)) := fun n j hj => by
      rw [List.getElem?_map, List.getElem?_range hj]
      rfl
    by_cases hbig : 1000000000000000000 ≤ cell2
    · have key2 := loopF_ret (n := 0) (st := stName 6) (mb := b_digits_1) (ds := (List.range 60).map fun i => .int (i : Nat)) (S := ⟨[.sh (lI ns), .sh (.int 0), .sh (.int 63), .ow (lI ds), .sh (.int (0 + (i : Nat))), .sh (.int cell2), t, s], bx⟩)
        (P := fun j S => ∃ (ds' : List Int) (c : Int) (t : DV), S = ⟨[.sh (lI ns), .sh (.int 0), .sh (.int 63), .ow (lI ds'), .sh (.int (0 + (i : Nat))), .sh (.int c), t, s], bx⟩ ∧ ds'.length ≤ 60 * i + j)
        (Q := fun r S => False) ?_ ⟨ds, cell2, t, rfl, by simpa using h1⟩
      · rcases key2 with ⟨S', e, ds', c', t', rfl, h2⟩ | ⟨r, S', e, q⟩
        · refine ⟨⟨[.sh (lI ns), .sh (.int 0), .sh (.int 63), .ow (lI ds'), .sh (.int (0 + (i : Nat))), .sh (.int c'), t', s], bx⟩, ?_, ds', _, _, _, _, rfl, by simp at h2; omega⟩
          have e3 : rangeOf [.int 60] = some ((List.range 60).map fun i => .int (i : Nat)) := range1 (by omega) (by omega)
          have e5 : f_digits_2 ⟨[.sh (lI ns), .sh (.int 0), .sh (.int 63), .ow (lI ds), .sh (.int (0 + (i : Nat))), .sh (.int cell2), t, s], bx⟩ = .next ⟨[.sh (lI ns), .sh (.int 0), .sh (.int 63), .ow (lI ds'), .sh (.int (0 + (i : Nat))), .sh (.int c'), t', s], bx⟩ := by
            unfold f_digits_2
            rw [z_for, z_range]
            simp only [z_cons, z_nil, z_c, z_ok, e3, z_some, z_toO]
            exact e
          unfold b_digits_5
          rw [z_seq, z_e, hcell, z_toO, z_set, z_onext, z_seq]
          show ((sIf _ _ _) ⟨[.sh (lI ns), .sh (.int 0), .sh (.int 63), .ow (lI ds), .sh (.int (0 + (i : Nat))), .sh (.int cell), t, s], bx⟩).bind _ = _
          rw [hcell2, z_onext, z_seq, z_sif, z_cmp, p_sh (d := .int cell2) rfl, z_ok, z_c, z_ok, z_ge, z_some, z_toO, decide_eq_true hbig, if_pos rfl, z_seq, e5]
          rfl
        · exact q.elim
      · rintro j d S hd ⟨ds', c', t', rfl, h2⟩
        rw [Nat.zero_add] at h2 ⊢
        have hj : j < 60 := by
          have := (List.getElem?_eq_some_iff.mp hd).1
          simpa using this
        rw [ha 60 j hj] at hd
        cases hd
        refine ⟨_, rfl, .inl ?_⟩
        by_cases hc : 0 < c'
        · refine ⟨⟨[.sh (lI ns), .sh (.int 0), .sh (.int 63), .ow (lI (ds' ++ [c' % 1009])), .sh (.int (0 + (i : Nat))), .sh (.int (c' / 1009)), .sh (.int (j : Nat)), s], bx⟩, ?_, _, _, _, rfl, by simp; omega⟩
          unfold b_digits_1
          rw [z_seq, z_sif, z_cmp]
          have g := grow (ds := ds') (x := c' % 1009) (i := i) (A := .sh (lI ns)) (B := .sh (.int 0)) (C := .sh (.int 63)) (E := .sh (.int (0 + (i : Nat)))) (F := .sh (.int c')) (G := .sh (.int (j : Nat))) (H := s) (bx := bx) (m := mOp2 modD (mOp1 intD (mPeek 5)) (mC (.int 1009))) (by simp [mPeek, modD_pos (i := c') (j := 1009) (by omega)]) (by omega)
          simp [mPeek, hc] at g ⊢
          simp [g, mPeek, fdivD_pos (i := c') (j := 1009) (by omega) (by omega)]
        · refine ⟨⟨[.sh (lI ns), .sh (.int 0), .sh (.int 63), .ow (lI ds'), .sh (.int (0 + (i : Nat))), .sh (.int c'), .sh (.int (j : Nat)), s], bx⟩, ?_, ds', c', _, rfl, by omega⟩
          simp [b_digits_1, mPeek, hc]
    · have key2 : ∀ seed : Int, _ := fun seed => loopF_ret (n := 0) (st := stName 6) (mb := b_digits_3) (ds := (List.range 12).map fun i => .int (i : Nat)) (S := ⟨[.sh (lI ns), .sh (.int 0), .sh (.int 63), .ow (lI ds), .sh (.int (0 + (i : Nat))), .sh (.int cell2), t, .sh (.int seed)], bx⟩)
        (P := fun j S => ∃ (ds' : List Int) (c : Int) (t : DV), S = ⟨[.sh (lI ns), .sh (.int 0), .sh (.int 63), .ow (lI ds'), .sh (.int (0 + (i : Nat))), .sh (.int cell2), t, .sh (.int c)], bx⟩ ∧ ds'.length ≤ 60 * i + j)
        (Q := fun r S => False) (by
          rintro j d S hd ⟨ds', c', t', rfl, h2⟩
          rw [Nat.zero_add] at h2 ⊢
          have hj : j < 12 := by
            have := (List.getElem?_eq_some_iff.mp hd).1
            simpa using this
          rw [ha 12 j hj] at hd
          cases hd
          refine ⟨_, rfl, .inl ?_⟩
          refine ⟨⟨[.sh (lI ns), .sh (.int 0), .sh (.int 63), .ow (lI (ds' ++ [(c' * 40014 + 11 * (j : Nat) + 7) % 2147483563 / 1013 % 1009])), .sh (.int (0 + (i : Nat))), .sh (.int cell2), .sh (.int (j : Nat)), .sh (.int ((c' * 40014 + 11 * (j : Nat) + 7) % 2147483563))], bx⟩, ?_, _, _, _, rfl, by simp; omega⟩
          unfold b_digits_3
          have g := grow (ds := ds') (x := (c' * 40014 + 11 * (j : Nat) + 7) % 2147483563 / 1013 % 1009) (i := i) (A := .sh (lI ns)) (B := .sh (.int 0)) (C := .sh (.int 63)) (E := .sh (.int (0 + (i : Nat)))) (F := .sh (.int cell2)) (G := .sh (.int (j : Nat))) (H := .sh (.int ((c' * 40014 + 11 * (j : Nat) + 7) % 2147483563))) (bx := bx) (m := mOp2 modD (mOp1 intD (mOp2 fdivD (mPeek 7) (mC (.int 1013)))) (mC (.int 1009))) (by simp [mPeek, modD_pos (j := 1009) (by omega), fdivD_pos (j := 1013) (by omega) (by omega)]) (by omega)
          simp [mPeek, modD_pos (j := 2147483563) (by omega), mulD_ok (i := c') (j := 40014) (.inr (by omega)), mulD_ok (i := 11) (j := (j : Nat)) (.inl (by omega))] at g ⊢
          simp [g]) ⟨ds, seed, t, rfl, by simpa using h1⟩
      rcases key2 ((cell2 * 40699 + (0 + (i : Nat)) * 52769 + 31) % 2147483399) with ⟨S', e, ds', c', t', rfl, h2⟩ | ⟨r, S', e, q⟩
      · refine ⟨⟨[.sh (lI ns), .sh (.int 0), .sh (.int 63), .ow (lI ds'), .sh (.int (0 + (i : Nat))), .sh (.int cell2), t', .sh (.int c')], bx⟩, ?_, ds', _, _, _, _, rfl, by simp at h2; omega⟩
        have e3 : rangeOf [.int 12] = some ((List.range 12).map fun i => .int (i : Nat)) := range1 (by omega) (by omega)
        have e5 : f_digits_4 ⟨[.sh (lI ns), .sh (.int 0), .sh (.int 63), .ow (lI ds), .sh (.int (0 + (i : Nat))), .sh (.int cell2), t, .sh (.int ((cell2 * 40699 + (0 + (i : Nat)) * 52769 + 31) % 2147483399))], bx⟩ = .next ⟨[.sh (lI ns), .sh (.int 0), .sh (.int 63), .ow (lI ds'), .sh (.int (0 + (i : Nat))), .sh (.int cell2), t', .sh (.int c')], bx⟩ := by
          unfold f_digits_4
          rw [z_for, z_range]
          simp only [z_cons, z_nil, z_c, z_ok, e3, z_some, z_toO]
          exact e
        unfold b_digits_5
        rw [z_seq, z_e, hcell, z_toO, z_set, z_onext, z_seq]
        show ((sIf _ _ _) ⟨[.sh (lI ns), .sh (.int 0), .sh (.int 63), .ow (lI ds), .sh (.int (0 + (i : Nat))), .sh (.int cell), t, s], bx⟩).bind _ = _
        rw [hcell2, z_onext, z_seq, z_sif, z_cmp, p_sh (d := .int cell2) rfl, z_ok, z_c, z_ok, z_ge, z_some, z_toO, decide_eq_false hbig, if_neg (by simp), z_seq, z_e]
        have e6 : (mOp2 modD (mOp1 intD (mOp2 addD (mOp2 addD (mOp2 mulD (mPeek 5) (mC (.int 40699))) (mOp2 mulD (mPeek 4) (mC (.int 52769)))) (mC (.int 31)))) (mC (.int 2147483399))) ⟨[.sh (lI ns), .sh (.int 0), .sh (.int 63), .ow (lI ds), .sh (.int (0 + (i : Nat))), .sh (.int cell2), t, s], bx⟩ = .ok (.int ((cell2 * 40699 + (0 + (i : Nat)) * 52769 + 31) % 2147483399)) ⟨[.sh (lI ns), .sh (.int 0), .sh (.int 63), .ow (lI ds), .sh (.int (0 + (i : Nat))), .sh (.int cell2), t, s], bx⟩ := by
          simp only [z_op2, z_op1, z_c, p_sh (i := 5) (d := .int cell2) (S := ⟨[.sh (lI ns), .sh (.int 0), .sh (.int 63), .ow (lI ds), .sh (.int (0 + (i : Nat))), .sh (.int cell2), t, s], bx⟩) rfl, p_sh (i := 4) (d := .int (0 + (i : Nat))) (S := ⟨[.sh (lI ns), .sh (.int 0), .sh (.int 63), .ow (lI ds), .sh (.int (0 + (i : Nat))), .sh (.int cell2), t, s], bx⟩) rfl, z_ok, mulD_ok (i := cell2) (j := 40699) (.inr (by omega)), mulD_ok (i := 0 + (i : Nat)) (j := 52769) (.inr (by omega)), z_some, z_add, z_int, modD_pos (j := 2147483399) (by omega)]
        rw [e6, z_toO, z_set, z_onext, z_seq]
        show ((f_digits_4 ⟨[.sh (lI ns), .sh (.int 0), .sh (.int 63), .ow (lI ds), .sh (.int (0 + (i : Nat))), .sh (.int cell2), t, .sh (.int ((cell2 * 40699 + (0 + (i : Nat)) * 52769 + 31) % 2147483399))], bx⟩).bind sNext).bind sNext = _
        rw [e5]
        rfl
      · exact q.elim
/-! values that show alike -/
structure RS (k n : Nat) (d : D) : Prop where
  lv : d.leavesShort 13 = true
  sw : d.showable = true
  cl : d.canLay0 = true
  dp : d.depth ≤ k
  bk : d.bulk ≤ n
  as : ∀ c ∈ d.shown.cps.toList, c < 1114112
theorem RS.mono {k n k' n' : Nat} {d : D} (h : RS k n d) (hk : k ≤ k') (hn : n ≤ n') : RS k' n' d := ⟨h.lv, h.sw, h.cl, Nat.le_trans h.dp hk, Nat.le_trans h.bk hn, h.as⟩
theorem rs_int {i : Int} (h : i.natAbs < 10 ^ 12) : RS 0 0 (.int i) where
  lv := by
    show decide _ = true
    exact decide_eq_true (PyData.shown_int_le h)
  sw := by
    show decide _ = true
    refine decide_eq_true ?_
    by_cases z : i.natAbs = 0
    · rw [z]; decide
    · have : i.natAbs.log2 < 64 := (Nat.log2_lt z).mpr (by omega)
      omega
  cl := rfl
  dp := Nat.le_refl _
  bk := Nat.le_refl _
  as := fun c hc => by
    by_cases h : c < 1114112
    · exact h
    · exact absurd hc (shown_int_free' ⟨by omega, .inr (by omega)⟩ i)
theorem rs_none : RS 0 0 .none := ⟨rfl, rfl, rfl, Nat.le_refl _, Nat.le_refl _, by decide⟩
theorem rs_bool (b : Bool) : RS 0 0 (.bool b) := by
  cases b
  · exact ⟨rfl, rfl, rfl, Nat.le_refl _, Nat.le_refl _, by decide⟩
  · exact ⟨rfl, rfl, rfl, Nat.le_refl _, Nat.le_refl _, by decide⟩
section
open PyData
theorem rs_all {k n : Nat} : ∀ {ds : List D}, (∀ d ∈ ds, RS k n d) → PyData.leavesShortAll 13 ds = true ∧ PyData.showableAll ds = true ∧ PyData.canLayAll0 ds = true ∧ PyData.depthAll ds ≤ k ∧ PyData.bulkAll ds ≤ ds.length * (n + 1) ∧ ∀ t ∈ PyData.shownAll ds, ∀ c ∈ t.cps.toList, c < 1114112
  | [], _ => ⟨rfl, rfl, rfl, Nat.zero_le _, Nat.zero_le _, by rw [PyData.shownAll_nil]; simp⟩
  | d :: ds, h => by
    have hd := h d (by simp)
    obtain ⟨a1, a2, a3, a4, a5, a6⟩ := rs_all (ds := ds) fun d hd => h d (List.mem_cons_of_mem _ hd)
    refine ⟨?_, ?_, ?_, ?_, ?_, ?_⟩
    · simp only [PyData.leavesShortAll, hd.lv, a1, Bool.and_self]
    · simp only [PyData.showableAll, hd.sw, a2, Bool.and_self]
    · simp only [PyData.canLayAll0, hd.cl, a3, Bool.and_self]
    · simp only [PyData.depthAll]
      exact Nat.max_le.mpr ⟨hd.dp, a4⟩
    · have := hd.bk
      simp only [PyData.bulkAll, List.length_cons]
      rw [Nat.add_mul]
      omega
    · intro t ht
      rw [PyData.shownAll_cons, List.mem_cons] at ht
      rcases ht with rfl | ht
      · exact hd.as
      · exact a6 t ht
end
theorem rs_tup {k n : Nat} {ds : List D} (h : ∀ d ∈ ds, RS k n d) : RS (k + 1) (ds.length * (n + 1)) (.tuple ds) := by
  obtain ⟨a1, a2, a3, a4, a5, a6⟩ := rs_all h
  refine ⟨a1, a2, a3, ?_, a5, ?_⟩
  · show PyData.depthAll ds + 1 ≤ k + 1
    omega
  · intro c hc
    rw [PyData.shown_tuple, mem_cps_append, mem_cps_append, signs_lparen, mem_join, signs_sep] at hc
    rcases hc with (hc | ⟨t, ht, hc⟩ | ⟨_, hc⟩) | hc
    · simp at hc; omega
    · exact a6 t ht c hc
    · simp at hc; omega
    · split at hc
      · have e : ((",)" : String) : Str).cps.toList = [44, 41] := by decide
        rw [e] at hc
        simp at hc; omega
      · have e : ((")" : String) : Str).cps.toList = [41] := by decide
        rw [e] at hc
        simp at hc; omega
theorem rs_lst {k n : Nat} {ds : List D} (h : ∀ d ∈ ds, RS k n d) : RS (k + 1) (ds.length * (n + 1)) (.list ds) := by
  obtain ⟨a1, a2, a3, a4, a5, a6⟩ := rs_all h
  refine ⟨a1, a2, a3, ?_, a5, ?_⟩
  · show PyData.depthAll ds + 1 ≤ k + 1
    omega
  · intro c hc
    rw [PyData.shown_list, mem_cps_append, mem_cps_append, signs_lbrack, signs_rbrack, mem_join, signs_sep] at hc
    rcases hc with (hc | ⟨t, ht, hc⟩ | ⟨_, hc⟩) | hc
    · simp at hc; omega
    · exact a6 t ht c hc
    · simp at hc; omega
    · simp at hc; omega
theorem rs_ints {l : List Int} (h : ∀ x ∈ l, x.natAbs < 10 ^ 12) : RS 1 (l.length * 1) (tI l) := by
  have := rs_tup (k := 0) (n := 0) (ds := l.map .int) fun d hd => by
    obtain ⟨x, hx, rfl⟩ := List.mem_map.mp hd
    exact rs_int (h x hx)
  rwa [List.length_map] at this
theorem eqv_str (x : Str) : PyData.eqv (.str x) (.str x) = true := by
  rw [PyData.eqv]
  exact beq_self_eq_true x
theorem same_ok {k n : Nat} {d : D} (h : RS k n d) (hk : k ≤ 64) (hn : n ≤ 2 ^ 20) (bx : Bx) : fmOf 2 2 m_same [.d d, .d d] bx = .ret (.bool true) bx := by
  have e1 : sumOk d.shown.length = true := decide_eq_true (PyData.shown_fits_bulk (B := 13) (by omega) (by omega) h.lv (Nat.le_trans h.bk hn))
  have e2 : reprD d = some (.str d.shown) := by
    show (if (d.showable && sumOk d.shown.length && !d.hasDict && decide (d.depth ≤ 64)) = true then _ else _) = _
    rw [h.sw, e1, PyData.hasDict_of_canLay d h.cl, decide_eq_true (Nat.le_trans h.dp hk)]
    rfl
  have e3 : shp (.str d.shown) = true := by
    show (PyData.canLay0 (.str d.shown) && decide (PyData.depth (.str d.shown) ≤ 64)) = true
    have : PyData.strOk d.shown = true := by
      show d.shown.cps.all (· < 0x110000) = true
      rw [Array.all_eq_true']
      intro c hc
      exact decide_eq_true (h.as c (Array.mem_toList_iff.mpr hc))
    simp only [PyData.canLay0, this]
    rfl
  have e4 : eqD (.str d.shown) (.str d.shown) = some true := by
    show (if (shp (.str d.shown) && shp (.str d.shown)) = true then some (PyData.eqv (.str d.shown) (.str d.shown)) else none) = _
    rw [e3, eqv_str]
    rfl
  refine fm_ret rfl rfl (S := ⟨[.sh d, .sh d], bx⟩) ?_ rfl
  simp [m_same, slotA, mPeek, e2, e4]
def Sames (e : FnE) : Prop := e.ar = 2 ∧ e.fm = fmOf 2 2 m_same
theorem Sames.ok {e : FnE} (h : Sames e) {k n : Nat} {d : D} (hd : RS k n d) (hk : k ≤ 64) (hn : n ≤ 2 ^ 20) (bx : Bx) : e.fm [.d d, .d d] bx = .ret (.bool true) bx := by
  rw [h.2]
  exact same_ok hd hk hn bx
theorem RS.shp {k n : Nat} {d : D} (h : RS k n d) (hk : k ≤ 64) : shp d = true := by
  show (d.canLay0 && decide (d.depth ≤ 64)) = true
  rw [h.cl, decide_eq_true (Nat.le_trans h.dp hk)]
  rfl
end Gl

set_option maxRecDepth 100000
set_option maxHeartbeats 4000000
namespace K25
open PySem PySem.Spec PyProof.Rows L2 Gl
def stm (i : Nat) : Stmt := PySem.Challenge.pw_panehouse_k25_lines_that_meet.main.body.getD i (.Pass ⟨0, 0, 0, 0⟩)
def xs : List (Str × Nat) := [("BadThing", 0), ("TooMany", 1), ("Refused", 2)]
def tagOf : Nat → Option Str
  | 0 => some "bad thing"
  | 2 => some "refused"
  | 1 => some "too many"
  | _ => none
noncomputable def l0 : List (Str × FnE) := []
def N_is_integer : List Str := ["thing"]
noncomputable def m_is_integer : MS := (sSeq (sRet (mAndV (mOp1 (instD "int") (mPeek 0)) (mNotV (mOp1 (instD "bool") (mPeek 0))))) sNext)
noncomputable def fe_is_integer : FnE := ⟨2 + 1, false, 1, fmOf 1 1 m_is_integer⟩
theorem t_is_integer : sAll (cS 60 (mkCt N_is_integer (defScope (stm 6)) l0 xs 2 false [])) (defBody (stm 6)) = m_is_integer := by rfl
theorem s_is_integer : FnScope N_is_integer ["thing"] (defScope (stm 6)) := ⟨rfl, rfl, rfl, by decide +kernel, rfl, by decide +kernel, by decide +kernel⟩
noncomputable def l_is_integer : List (Str × FnE) := ("is_integer", fe_is_integer) :: l0
def N_common : List Str := ["one", "other"]
noncomputable def g_common_1 : M Bool := (mTru (mPeek 1))
noncomputable def b_common_2 : MS := (sSeq (sE (mSeq [(mVar 1), (mOp2 modD (mPeek 0) (mPeek 1))]) (sPar [0, 1])) sNext)
noncomputable def w_common_3 : MS := (sWhile g_common_1 b_common_2)
noncomputable def m_common : MS := (sSeq (sE (mSeq [(mOp1 absD (mPeek 0)), (mOp1 absD (mPeek 1))]) (sPar [0, 1])) (sSeq w_common_3 (sSeq (sRet (mVar 0)) sNext)))
noncomputable def fe_common : FnE := ⟨2 + 1, false, 2, fmOf 2 2 m_common⟩
theorem t_common : sAll (cS 60 (mkCt N_common (defScope (stm 7)) l_is_integer xs 2 false [])) (defBody (stm 7)) = m_common := by rfl
theorem s_common : FnScope N_common ["one", "other"] (defScope (stm 7)) := ⟨rfl, rfl, rfl, by decide +kernel, rfl, by decide +kernel, by decide +kernel⟩
noncomputable def l_common : List (Str × FnE) := ("common", fe_common) :: l_is_integer
def N_reduced : List Str := ["above", "below", "by"]
noncomputable def m_reduced : MS := (sSeq (sIf (mCmp eqD (mPeek 1) (mC (.int 0))) (sSeq (sRaise 0 (mC (.str "zero"))) sNext) sNext) (sSeq (sE (mIf (mCmp gtD (mPeek 1) (mC (.int 0))) (mCall fe_common (mSeq [(mArgV 0), (mArgV 1)])) (mOp1 negD (mCall fe_common (mSeq [(mArgV 0), (mArgV 1)])))) (sSet 2)) (sSeq (sRet (mTup [(mOp2 fdivD (mPeek 0) (mPeek 2)), (mOp2 fdivD (mPeek 1) (mPeek 2))])) sNext)))
noncomputable def fe_reduced : FnE := ⟨3 + 1, false, 2, fmOf 2 3 m_reduced⟩
theorem t_reduced : sAll (cS 60 (mkCt N_reduced (defScope (stm 8)) l_common xs 3 false [])) (defBody (stm 8)) = m_reduced := by rfl
theorem s_reduced : FnScope N_reduced ["above", "below"] (defScope (stm 8)) := ⟨rfl, rfl, rfl, by decide +kernel, rfl, by decide +kernel, by decide +kernel⟩
noncomputable def l_reduced : List (Str × FnE) := ("reduced", fe_reduced) :: l_common
def N_check_steps : List Str := ["steps", "one"]
noncomputable def c_check_steps_1 : M D := (mComp [] [1] (mItems (mVar 0)) (stName 1) (mC true) (mAndV (mCall fe_is_integer (mSeq [(mArgV 1)])) (mBl (mChain leD leD (mC (.int 1)) (mPeek 1) (mC (.int 60))))))
noncomputable def m_check_steps : MS := (sSeq (sIf (mOrT (mNotT (mTru (mOp1 (instD "tuple") (mPeek 0)))) (mNotT (mChain leD leD (mC (.int 1)) (mOp1 lenD (mPeek 0)) (mC (.int 3))))) (sSeq (sRaise 0 (mC (.str "steps"))) sNext) sNext) (sSeq (sIf (mNotT (mTru (mOp1 allD c_check_steps_1))) (sSeq (sRaise 0 (mC (.str "steps"))) sNext) sNext) sNext))
noncomputable def fe_check_steps : FnE := ⟨3 + 1, false, 1, fmOf 1 2 m_check_steps⟩
theorem t_check_steps : sAll (cS 60 (mkCt N_check_steps (defScope (stm 10)) l_reduced xs 3 false [])) (defBody (stm 10)) = m_check_steps := by rfl
theorem s_check_steps : FnScope N_check_steps ["steps"] (defScope (stm 10)) := ⟨rfl, rfl, rfl, by decide +kernel, rfl, by decide +kernel, by decide +kernel⟩
noncomputable def l_check_steps : List (Str × FnE) := ("check_steps", fe_check_steps) :: l_reduced
def N_check_starts : List Str := ["steps", "starts", "one"]
noncomputable def c_check_starts_1 : M D := (mComp [] [2] (mItems (mVar 1)) (stName 2) (mC true) (mCall fe_is_integer (mSeq [(mArgV 2)])))
noncomputable def m_check_starts : MS := (sSeq (sE (mCall fe_check_steps (mSeq [(mArgV 0)])) fun _ => sNext) (sSeq (sIf (mOrT (mNotT (mTru (mOp1 (instD "tuple") (mPeek 1)))) (mOrT (mCmp neD (mOp1 lenD (mPeek 1)) (mOp1 lenD (mPeek 0))) (mNotT (mTru (mOp1 allD c_check_starts_1))))) (sSeq (sRaise 0 (mC (.str "starts"))) sNext) sNext) sNext))
noncomputable def fe_check_starts : FnE := ⟨4 + 1, false, 2, fmOf 2 3 m_check_starts⟩
theorem t_check_starts : sAll (cS 60 (mkCt N_check_starts (defScope (stm 11)) l_check_steps xs 4 false [])) (defBody (stm 11)) = m_check_starts := by rfl
theorem s_check_starts : FnScope N_check_starts ["steps", "starts"] (defScope (stm 11)) := ⟨rfl, rfl, rfl, by decide +kernel, rfl, by decide +kernel, by decide +kernel⟩
noncomputable def l_check_starts : List (Str × FnE) := ("check_starts", fe_check_starts) :: l_check_steps
def N_lines : List Str := ["step", "start", "far", "place"]
noncomputable def c_lines_1 : M D := (mComp [1, 0] [3] (mRange (mSeq [(mOp2 addD (mPeek 2) (mC (.int 1)))])) (stName 3) (mCmp eqD (mOp2 modD (mOp2 subD (mPeek 3) (mPeek 1)) (mPeek 0)) (mC (.int 0))) (mVar 3))
noncomputable def m_lines : MS := (sSeq (sE (mCall fe_check_starts (mSeq [(mArgE (mTup [(mVar 0)])), (mArgE (mTup [(mVar 1)]))])) fun _ => sNext) (sSeq (sIf (mOrT (mNotT (mTru (mCall fe_is_integer (mSeq [(mArgV 2)])))) (mNotT (mChain leD leD (mC (.int 0)) (mPeek 2) (mC (.int 500))))) (sSeq (sRaise 0 (mC (.str "far"))) sNext) sNext) (sSeq (sRet (mOp1 tupleD c_lines_1)) sNext)))
noncomputable def fe_lines : FnE := ⟨5 + 1, false, 3, fmOf 3 4 m_lines⟩
theorem t_lines : sAll (cS 60 (mkCt N_lines (defScope (stm 12)) l_check_starts xs 5 false [])) (defBody (stm 12)) = m_lines := by rfl
theorem s_lines : FnScope N_lines ["step", "start", "far"] (defScope (stm 12)) := ⟨rfl, rfl, rfl, by decide +kernel, rfl, by decide +kernel, by decide +kernel⟩
noncomputable def l_lines : List (Str × FnE) := ("lines", fe_lines) :: l_check_starts
def N_period : List Str := ["steps", "found", "one"]
noncomputable def b_period_1 : MS := (sSeq (sE (mOp2 fdivD (mOp2 mulD (mPeek 1) (mPeek 2)) (mCall fe_common (mSeq [(mArgV 1), (mArgV 2)]))) (sSet 1)) sNext)
noncomputable def f_period_2 : MS := (sFor (mItems (mVar 0)) (stName 2) b_period_1)
noncomputable def m_period : MS := (sSeq (sE (mCall fe_check_steps (mSeq [(mArgV 0)])) fun _ => sNext) (sSeq (sE (mC (.int 1)) (sSet 1)) (sSeq f_period_2 (sSeq (sRet (mVar 1)) sNext))))
noncomputable def fe_period : FnE := ⟨4 + 1, false, 1, fmOf 1 3 m_period⟩
theorem t_period : sAll (cS 60 (mkCt N_period (defScope (stm 13)) l_lines xs 4 false [])) (defBody (stm 13)) = m_period := by rfl
theorem s_period : FnScope N_period ["steps"] (defScope (stm 13)) := ⟨rfl, rfl, rfl, by decide +kernel, rfl, by decide +kernel, by decide +kernel⟩
noncomputable def l_period : List (Str × FnE) := ("period", fe_period) :: l_lines
def N_met : List Str := ["steps", "starts", "place", "step", "one", "start", "turns"]
noncomputable def g_met_1 : M Bool := (mAndT (mTru (mOp2 modD (mOp2 subD (mPeek 2) (mPeek 5)) (mPeek 4))) (mCmp leD (mPeek 6) (mPeek 4)))
noncomputable def b_met_2 : MS := (sSeq (sE (mSeq [(mOp2 addD (mPeek 2) (mPeek 3)), (mOp2 addD (mPeek 6) (mC (.int 1)))]) (sPar [2, 6])) sNext)
noncomputable def w_met_3 : MS := (sWhile g_met_1 b_met_2)
noncomputable def b_met_4 : MS := (sSeq (sE (mC (.int 0)) (sSet 6)) (sSeq w_met_3 (sSeq (sIf (mTru (mOp2 modD (mOp2 subD (mPeek 2) (mPeek 5)) (mPeek 4))) (sSeq (sRet (mC .none)) sNext) sNext) (sSeq (sE (mOp2 fdivD (mOp2 mulD (mPeek 3) (mPeek 4)) (mCall fe_common (mSeq [(mArgV 3), (mArgV 4)]))) (sSet 3)) (sSeq (sAug .Mod 2 (mVar 3)) sNext)))))
noncomputable def f_met_5 : MS := (sFor (mZip (mSeq [(mVar 0), (mVar 1)])) (stTup 2 (stCons (stName 4) (stCons (stName 5) stNil))) b_met_4)
noncomputable def m_met : MS := (sSeq (sE (mCall fe_check_starts (mSeq [(mArgV 0), (mArgV 1)])) fun _ => sNext) (sSeq (sE (mTup [(mC (.int 0)), (mC (.int 1))]) (sStore (stTup 2 (stCons (stName 2) (stCons (stName 3) stNil))))) (sSeq f_met_5 (sSeq (sRet (mVar 2)) sNext))))
noncomputable def fe_met : FnE := ⟨5 + 1, false, 2, fmOf 2 7 m_met⟩
theorem t_met : sAll (cS 60 (mkCt N_met (defScope (stm 14)) l_period xs 5 false [])) (defBody (stm 14)) = m_met := by rfl
theorem s_met : FnScope N_met ["steps", "starts"] (defScope (stm 14)) := ⟨rfl, rfl, rfl, by decide +kernel, rfl, by decide +kernel, by decide +kernel⟩
noncomputable def l_met : List (Str × FnE) := ("met", fe_met) :: l_period
def N_met_paper : List Str := ["steps", "starts", "i", "j"]
noncomputable def b_met_paper_1 : MS := (sSeq (sIf (mTru (mOp2 modD (mOp2 subD (mOp2 ixD (mPeek 1) (mPeek 2)) (mOp2 ixD (mPeek 1) (mPeek 3))) (mCall fe_common (mSeq [(mArgE (mOp2 ixD (mPeek 0) (mPeek 2))), (mArgE (mOp2 ixD (mPeek 0) (mPeek 3)))])))) (sSeq (sRet (mTup [(mVar 2), (mVar 3)])) sNext) sNext) sNext)
noncomputable def f_met_paper_2 : MS := (sFor (mRange (mSeq [(mOp2 addD (mPeek 2) (mC (.int 1))), (mOp1 lenD (mPeek 0))])) (stName 3) b_met_paper_1)
noncomputable def b_met_paper_3 : MS := (sSeq f_met_paper_2 sNext)
noncomputable def f_met_paper_4 : MS := (sFor (mRange (mSeq [(mOp1 lenD (mPeek 0))])) (stName 2) b_met_paper_3)
noncomputable def m_met_paper : MS := (sSeq (sE (mCall fe_check_starts (mSeq [(mArgV 0), (mArgV 1)])) fun _ => sNext) (sSeq f_met_paper_4 (sSeq (sRet (mC .none)) sNext)))
noncomputable def fe_met_paper : FnE := ⟨5 + 1, false, 2, fmOf 2 4 m_met_paper⟩
theorem t_met_paper : sAll (cS 60 (mkCt N_met_paper (defScope (stm 15)) l_met xs 5 false [])) (defBody (stm 15)) = m_met_paper := by rfl
theorem s_met_paper : FnScope N_met_paper ["steps", "starts"] (defScope (stm 15)) := ⟨rfl, rfl, rfl, by decide +kernel, rfl, by decide +kernel, by decide +kernel⟩
noncomputable def l_met_paper : List (Str × FnE) := ("met_paper", fe_met_paper) :: l_met
def N_paper_shows : List Str := ["steps", "starts", "paper", "i", "j", "one"]
noncomputable def c_paper_shows_1 : M D := (mComp [0] [5] (mItems (mVar 2)) (stName 5) (mC true) (mAndV (mCall fe_is_integer (mSeq [(mArgV 5)])) (mBl (mChain leD ltD (mC (.int 0)) (mPeek 5) (mOp1 lenD (mPeek 0))))))
noncomputable def m_paper_shows : MS := (sSeq (sE (mCall fe_check_starts (mSeq [(mArgV 0), (mArgV 1)])) fun _ => sNext) (sSeq (sIf (mOrT (mNotT (mTru (mOp1 (instD "tuple") (mPeek 2)))) (mCmp neD (mOp1 lenD (mPeek 2)) (mC (.int 2)))) (sSeq (sRet (mC (.bool false))) sNext) sNext) (sSeq (sIf (mNotT (mTru (mOp1 allD c_paper_shows_1))) (sSeq (sRet (mC (.bool false))) sNext) sNext) (sSeq (sE (mVar 2) (sStore (stTup 2 (stCons (stName 3) (stCons (stName 4) stNil))))) (sSeq (sRet (mBl (mCmp neD (mOp2 modD (mOp2 subD (mOp2 ixD (mPeek 1) (mPeek 3)) (mOp2 ixD (mPeek 1) (mPeek 4))) (mCall fe_common (mSeq [(mArgE (mOp2 ixD (mPeek 0) (mPeek 3))), (mArgE (mOp2 ixD (mPeek 0) (mPeek 4)))]))) (mC (.int 0))))) sNext)))))
noncomputable def fe_paper_shows : FnE := ⟨5 + 1, false, 3, fmOf 3 6 m_paper_shows⟩
theorem t_paper_shows : sAll (cS 60 (mkCt N_paper_shows (defScope (stm 16)) l_met_paper xs 5 false [])) (defBody (stm 16)) = m_paper_shows := by rfl
theorem s_paper_shows : FnScope N_paper_shows ["steps", "starts", "paper"] (defScope (stm 16)) := ⟨rfl, rfl, rfl, by decide +kernel, rfl, by decide +kernel, by decide +kernel⟩
noncomputable def l_paper_shows : List (Str × FnE) := ("paper_shows", fe_paper_shows) :: l_met_paper
def N_beat : List Str := ["one", "other"]
noncomputable def m_beat : MS := (sSeq (sE (mCall fe_check_steps (mSeq [(mArgE (mTup [(mVar 0), (mVar 1)]))])) fun _ => sNext) (sSeq (sIf (mCmp eqD (mPeek 0) (mPeek 1)) (sSeq (sRaise 2 (mC (.str "steps"))) sNext) sNext) (sSeq (sRet (mCall fe_reduced (mSeq [(mArgE (mOp2 mulD (mPeek 0) (mPeek 1))), (mArgE (mOp1 absD (mOp2 subD (mPeek 0) (mPeek 1))))]))) sNext)))
noncomputable def fe_beat : FnE := ⟨4 + 1, false, 2, fmOf 2 2 m_beat⟩
theorem t_beat : sAll (cS 60 (mkCt N_beat (defScope (stm 17)) l_paper_shows xs 4 false [])) (defBody (stm 17)) = m_beat := by rfl
theorem s_beat : FnScope N_beat ["one", "other"] (defScope (stm 17)) := ⟨rfl, rfl, rfl, by decide +kernel, rfl, by decide +kernel, by decide +kernel⟩
noncomputable def l_beat : List (Str × FnE) := ("beat", fe_beat) :: l_paper_shows
def N_open_share : List Str := ["steps", "wide", "long", "free", "place", "one"]
noncomputable def c_open_share_1 : M D := (mComp [4, 1] [5] (mItems (mVar 0)) (stName 5) (mC true) (mBl (mCmp geD (mOp2 modD (mPeek 4) (mPeek 5)) (mPeek 1))))
noncomputable def c_open_share_2 : M D := (mComp [0, 1] [4] (mRange (mSeq [(mVar 2)])) (stName 4) (mTru (mOp1 allD c_open_share_1)) (mVar 4))
noncomputable def m_open_share : MS := (sSeq (sE (mCall fe_check_steps (mSeq [(mArgV 0)])) fun _ => sNext) (sSeq (sIf (mOrT (mNotT (mTru (mCall fe_is_integer (mSeq [(mArgV 1)])))) (mCmp ltD (mPeek 1) (mC (.int 0)))) (sSeq (sRaise 0 (mC (.str "wide"))) sNext) sNext) (sSeq (sE (mCall fe_period (mSeq [(mArgV 0)])) (sSet 2)) (sSeq (sE c_open_share_2 (sSet 3)) (sSeq (sRet (mCall fe_reduced (mSeq [(mArgE (mOp1 lenD (mPeek 3))), (mArgV 2)]))) sNext)))))
noncomputable def fe_open_share : FnE := ⟨5 + 1, false, 2, fmOf 2 6 m_open_share⟩
theorem t_open_share : sAll (cS 60 (mkCt N_open_share (defScope (stm 18)) l_beat xs 5 false [])) (defBody (stm 18)) = m_open_share := by rfl
theorem s_open_share : FnScope N_open_share ["steps", "wide"] (defScope (stm 18)) := ⟨rfl, rfl, rfl, by decide +kernel, rfl, by decide +kernel, by decide +kernel⟩
noncomputable def l_open_share : List (Str × FnE) := ("open_share", fe_open_share) :: l_beat
def N_check_scale : List Str := ["parts"]
noncomputable def m_check_scale : MS := (sSeq (sIf (mOrT (mNotT (mTru (mCall fe_is_integer (mSeq [(mArgV 0)])))) (mNotT (mChain leD leD (mC (.int 2)) (mPeek 0) (mC (.int 60))))) (sSeq (sRaise 0 (mC (.str "scale"))) sNext) sNext) sNext)
noncomputable def fe_check_scale : FnE := ⟨3 + 1, false, 1, fmOf 1 1 m_check_scale⟩
theorem t_check_scale : sAll (cS 60 (mkCt N_check_scale (defScope (stm 19)) l_open_share xs 3 false [])) (defBody (stm 19)) = m_check_scale := by rfl
theorem s_check_scale : FnScope N_check_scale ["parts"] (defScope (stm 19)) := ⟨rfl, rfl, rfl, by decide +kernel, rfl, by decide +kernel, by decide +kernel⟩
noncomputable def l_check_scale : List (Str × FnE) := ("check_scale", fe_check_scale) :: l_open_share
def N_shown : List Str := ["parts", "place", "whole", "good", "at"]
noncomputable def c_shown_1 : M D := (mComp [0, 1] [4] (mRange (mSeq [(mVar 0)])) (stName 4) (mCmp eqD (mOp2 modD (mOp2 addD (mPeek 1) (mOp2 mulD (mPeek 4) (mOp2 subD (mPeek 0) (mC (.int 1))))) (mPeek 0)) (mC (.int 0))) (mVar 4))
noncomputable def m_shown : MS := (sSeq (sE (mCall fe_check_scale (mSeq [(mArgV 0)])) fun _ => sNext) (sSeq (sIf (mOrT (mNotT (mTru (mCall fe_is_integer (mSeq [(mArgV 1)])))) (mCmp ltD (mPeek 1) (mC (.int 0)))) (sSeq (sRaise 0 (mC (.str "place"))) sNext) sNext) (sSeq (sE (mOp2 fdivD (mPeek 1) (mPeek 0)) (sSet 2)) (sSeq (sE c_shown_1 (sSet 3)) (sSeq (sRet (mTup [(mVar 2), (mBox 3 0 (mOp2 ixD (mPeek 3) (mC (.int 0))))])) sNext)))))
noncomputable def fe_shown : FnE := ⟨4 + 1, false, 2, fmOf 2 5 m_shown⟩
theorem t_shown : sAll (cS 60 (mkCt N_shown (defScope (stm 20)) l_check_scale xs 4 false [])) (defBody (stm 20)) = m_shown := by rfl
theorem s_shown : FnScope N_shown ["parts", "place"] (defScope (stm 20)) := ⟨rfl, rfl, rfl, by decide +kernel, rfl, by decide +kernel, by decide +kernel⟩
noncomputable def l_shown : List (Str × FnE) := ("shown", fe_shown) :: l_check_scale
def N_read : List Str := ["parts", "whole", "line"]
noncomputable def m_read : MS := (sSeq (sE (mCall fe_check_scale (mSeq [(mArgV 0)])) fun _ => sNext) (sSeq (sIf (mOrT (mNotT (mTru (mCall fe_is_integer (mSeq [(mArgV 1)])))) (mCmp ltD (mPeek 1) (mC (.int 0)))) (sSeq (sRaise 0 (mC (.str "place"))) sNext) sNext) (sSeq (sIf (mOrT (mNotT (mTru (mCall fe_is_integer (mSeq [(mArgV 2)])))) (mNotT (mChain leD ltD (mC (.int 0)) (mPeek 2) (mPeek 0)))) (sSeq (sRaise 2 (mC (.str "line"))) sNext) sNext) (sSeq (sRet (mOp2 addD (mOp2 mulD (mPeek 1) (mPeek 0)) (mPeek 2))) sNext))))
noncomputable def fe_read : FnE := ⟨4 + 1, false, 3, fmOf 3 3 m_read⟩
theorem t_read : sAll (cS 60 (mkCt N_read (defScope (stm 21)) l_shown xs 4 false [])) (defBody (stm 21)) = m_read := by rfl
theorem s_read : FnScope N_read ["parts", "whole", "line"] (defScope (stm 21)) := ⟨rfl, rfl, rfl, by decide +kernel, rfl, by decide +kernel, by decide +kernel⟩
noncomputable def l_read : List (Str × FnE) := ("read", fe_read) :: l_shown
def N_off : List Str := ["parts", "place", "line"]
noncomputable def m_off : MS := (sSeq (sE (mCall fe_read (mSeq [(mArgV 0), (mArgE (mC (.int 0))), (mArgV 2)])) fun _ => sNext) (sSeq (sIf (mOrT (mNotT (mTru (mCall fe_is_integer (mSeq [(mArgV 1)])))) (mCmp ltD (mPeek 1) (mC (.int 0)))) (sSeq (sRaise 0 (mC (.str "place"))) sNext) sNext) (sSeq (sRet (mOp2 modD (mOp2 addD (mPeek 1) (mOp2 mulD (mPeek 2) (mOp2 subD (mPeek 0) (mC (.int 1))))) (mPeek 0))) sNext)))
noncomputable def fe_off : FnE := ⟨5 + 1, false, 3, fmOf 3 3 m_off⟩
theorem t_off : sAll (cS 60 (mkCt N_off (defScope (stm 22)) l_read xs 5 false [])) (defBody (stm 22)) = m_off := by rfl
theorem s_off : FnScope N_off ["parts", "place", "line"] (defScope (stm 22)) := ⟨rfl, rfl, rfl, by decide +kernel, rfl, by decide +kernel, by decide +kernel⟩
noncomputable def l_off : List (Str × FnE) := ("off", fe_off) :: l_read
def N__law_digits : List Str := ["script", "first", "last", "digits", "k", "cell", "turn", "seed"]
noncomputable def b__law_digits_1 : MS := (sSeq (sIf (mCmp gtD (mPeek 5) (mC (.int 0))) (sSeq (sAppend 3 (mOp2 modD (mOp1 intD (mPeek 5)) (mC (.int 1009)))) (sSeq (sE (mOp2 fdivD (mPeek 5) (mC (.int 1009))) (sSet 5)) sNext)) sNext) sNext)
noncomputable def f__law_digits_2 : MS := (sFor (mRange (mSeq [(mC (.int 60))])) (stName 6) b__law_digits_1)
noncomputable def b__law_digits_3 : MS := (sSeq (sE (mOp2 modD (mOp1 intD (mOp2 addD (mOp2 addD (mOp2 mulD (mPeek 7) (mC (.int 40014))) (mOp2 mulD (mC (.int 11)) (mPeek 6))) (mC (.int 7)))) (mC (.int 2147483563))) (sSet 7)) (sSeq (sAppend 3 (mOp2 modD (mOp1 intD (mOp2 fdivD (mPeek 7) (mC (.int 1013)))) (mC (.int 1009)))) sNext))
noncomputable def f__law_digits_4 : MS := (sFor (mRange (mSeq [(mC (.int 12))])) (stName 6) b__law_digits_3)
noncomputable def b__law_digits_5 : MS := (sSeq (sE (mIf (mCmp ltD (mPeek 4) (mOp1 lenD (mPeek 0))) (mOp2 ixD (mPeek 0) (mPeek 4)) (mC (.int 0))) (sSet 5)) (sSeq (sIf (mCmp ltD (mPeek 5) (mC (.int 0))) (sSeq (sE (mOp2 subD (mC (.int 1)) (mOp2 mulD (mC (.int 2)) (mPeek 5))) (sSet 5)) sNext) sNext) (sSeq (sIf (mCmp geD (mPeek 5) (mC (.int 1000000000000000000))) (sSeq f__law_digits_2 sNext) (sSeq (sE (mOp2 modD (mOp1 intD (mOp2 addD (mOp2 addD (mOp2 mulD (mPeek 5) (mC (.int 40699))) (mOp2 mulD (mPeek 4) (mC (.int 52769)))) (mC (.int 31)))) (mC (.int 2147483399))) (sSet 7)) (sSeq f__law_digits_4 sNext))) sNext)))
noncomputable def f__law_digits_6 : MS := (sFor (mRange (mSeq [(mVar 1), (mVar 2)])) (stName 4) b__law_digits_5)
noncomputable def m__law_digits : MS := (sSeq (sOwn 3 (mSeq [])) (sSeq f__law_digits_6 (sSeq (sRet (mVar 3)) sNext)))
noncomputable def fe__law_digits : FnE := ⟨2 + 1, false, 3, fmOf 3 8 m__law_digits⟩
theorem t__law_digits : sAll (cS 60 (mkCt N__law_digits (defScope (stm 24)) l_off xs 2 false [])) (defBody (stm 24)) = m__law_digits := by rfl
theorem s__law_digits : FnScope N__law_digits ["script", "first", "last"] (defScope (stm 24)) := ⟨rfl, rfl, rfl, by decide +kernel, rfl, by decide +kernel, by decide +kernel⟩
noncomputable def l__law_digits : List (Str × FnE) := ("_law_digits", fe__law_digits) :: l_off
def N__law_draw : List Str := ["box", "many", "at"]
noncomputable def m__law_draw : MS := (sSeq (sE (mBox 0 1 (mOp2 ixD (mPeek 0) (mC (.int 1)))) (sSet 2)) (sSeq (sSub true 0 (mC (.int 1)) (mOp2 addD (mPeek 2) (mC (.int 1)))) (sSeq (sIf (mCmp ltD (mPeek 2) (mOp1 lenD (mBox 0 0 (mOp2 ixD (mPeek 0) (mC (.int 0)))))) (sSeq (sRet (mOp2 modD (mOp1 intD (mOp2 ixD (mBox 0 0 (mOp2 ixD (mPeek 0) (mC (.int 0)))) (mPeek 2))) (mPeek 1))) sNext) sNext) (sSeq (sRet (mOp2 modD (mOp1 intD (mOp2 addD (mOp2 addD (mOp2 addD (mOp2 mulD (mOp2 mulD (mPeek 2) (mPeek 2)) (mC (.int 3))) (mOp2 mulD (mPeek 2) (mC (.int 4)))) (mOp2 fdivD (mPeek 2) (mC (.int 3)))) (mC (.int 1)))) (mPeek 1))) sNext))))
noncomputable def fe__law_draw : FnE := ⟨2 + 1, false, 2, fmOf 2 3 m__law_draw⟩
theorem t__law_draw : sAll (cS 60 (mkCt N__law_draw (defScope (stm 25)) l__law_digits xs 2 false [])) (defBody (stm 25)) = m__law_draw := by rfl
theorem s__law_draw : FnScope N__law_draw ["box", "many"] (defScope (stm 25)) := ⟨rfl, rfl, rfl, by decide +kernel, rfl, by decide +kernel, by decide +kernel⟩
noncomputable def l__law_draw : List (Str × FnE) := ("_law_draw", fe__law_draw) :: l__law_digits
def N__law_pick : List Str := ["box", "things"]
noncomputable def m__law_pick : MS := (sSeq (sRet (mOp2 ixD (mPeek 1) (mCall fe__law_draw (mSeq [(mArgV 0), (mArgE (mOp1 lenD (mPeek 1)))])))) sNext)
noncomputable def fe__law_pick : FnE := ⟨3 + 1, false, 2, fmOf 2 2 m__law_pick⟩
theorem t__law_pick : sAll (cS 60 (mkCt N__law_pick (defScope (stm 26)) l__law_draw xs 3 false [])) (defBody (stm 26)) = m__law_pick := by rfl
theorem s__law_pick : FnScope N__law_pick ["box", "things"] (defScope (stm 26)) := ⟨rfl, rfl, rfl, by decide +kernel, rfl, by decide +kernel, by decide +kernel⟩
noncomputable def l__law_pick : List (Str × FnE) := ("_law_pick", fe__law_pick) :: l__law_draw
def N__law_same : List Str := ["a", "b"]
noncomputable def m__law_same : MS := (sSeq (sRet (mBl (mCmp eqD (mOp1 reprD (mPeek 0)) (mOp1 reprD (mPeek 1))))) sNext)
noncomputable def fe__law_same : FnE := ⟨2 + 1, true, 2, fmOf 2 2 m__law_same⟩
theorem t__law_same : sAll (cS 60 (mkCt N__law_same (defScope (stm 27)) l__law_pick xs 2 true [])) (defBody (stm 27)) = m__law_same := by rfl
theorem s__law_same : FnScope N__law_same ["a", "b"] (defScope (stm 27)) := ⟨rfl, rfl, rfl, by decide +kernel, rfl, by decide +kernel, by decide +kernel⟩
noncomputable def l__law_same : List (Str × FnE) := ("_law_same", fe__law_same) :: l__law_pick
def N__law_common : List Str := ["a", "b", "turn"]
noncomputable def b__law_common_1 : MS := (sSeq (sIf (mCmp eqD (mPeek 1) (mC (.int 0))) (sSeq (sRet (mVar 0)) sNext) sNext) (sSeq (sE (mSeq [(mVar 1), (mOp2 modD (mPeek 0) (mPeek 1))]) (sPar [0, 1])) sNext))
noncomputable def f__law_common_2 : MS := (sFor (mRange (mSeq [(mC (.int 30000))])) (stName 2) b__law_common_1)
noncomputable def m__law_common : MS := (sSeq (sE (mSeq [(mOp1 absD (mPeek 0)), (mOp1 absD (mPeek 1))]) (sPar [0, 1])) (sSeq f__law_common_2 (sSeq (sRet (mVar 0)) sNext)))
noncomputable def fe__law_common : FnE := ⟨2 + 1, false, 2, fmOf 2 3 m__law_common⟩
theorem t__law_common : sAll (cS 60 (mkCt N__law_common (defScope (stm 29)) l__law_same xs 2 false [])) (defBody (stm 29)) = m__law_common := by rfl
theorem s__law_common : FnScope N__law_common ["a", "b"] (defScope (stm 29)) := ⟨rfl, rfl, rfl, by decide +kernel, rfl, by decide +kernel, by decide +kernel⟩
noncomputable def l__law_common : List (Str × FnE) := ("_law_common", fe__law_common) :: l__law_same
def N__law_low : List Str := ["one", "other", "by"]
noncomputable def m__law_low : MS := (sSeq (sE (mCall fe__law_common (mSeq [(mArgV 0), (mArgV 1)])) (sSet 2)) (sSeq (sIf (mCmp ltD (mPeek 1) (mC (.int 0))) (sSeq (sE (mOp2 subD (mC (.int 0)) (mPeek 2)) (sSet 2)) sNext) sNext) (sSeq (sRet (mTup [(mOp2 fdivD (mPeek 0) (mPeek 2)), (mOp2 fdivD (mPeek 1) (mPeek 2))])) sNext)))
noncomputable def fe__law_low : FnE := ⟨3 + 1, false, 2, fmOf 2 3 m__law_low⟩
theorem t__law_low : sAll (cS 60 (mkCt N__law_low (defScope (stm 30)) l__law_common xs 3 false [])) (defBody (stm 30)) = m__law_low := by rfl
theorem s__law_low : FnScope N__law_low ["one", "other"] (defScope (stm 30)) := ⟨rfl, rfl, rfl, by decide +kernel, rfl, by decide +kernel, by decide +kernel⟩
noncomputable def l__law_low : List (Str × FnE) := ("_law_low", fe__law_low) :: l__law_common
def N_law : List Str := ["script", "far", "whole", "one", "good", "apart", "i", "paper", "odd", "fine", "due", "wide", "left", "place", "told", "line", "box", "other", "parts", "starts", "steps", "k", "j", "step"]
noncomputable def c_law_1 : M D := (mComp [16] [21] (mRange (mSeq [(mOp2 addD (mC (.int 1)) (mCall fe__law_draw (mSeq [(mArgV 16), (mArgE (mC (.int 3)))])))])) (stName 21) (mC true) (mOp2 addD (mC (.int 1)) (mCall fe__law_draw (mSeq [(mArgV 16), (mArgE (mC (.int 12)))]))))
noncomputable def c_law_2 : M D := (mComp [16] [21] (mItems (mVar 20)) (stName 21) (mC true) (mOp2 subD (mCall fe__law_draw (mSeq [(mArgV 16), (mArgE (mC (.int 30)))])) (mC (.int 10))))
noncomputable def c_law_3 : M D := (mComp [19, 20] [21] (mRange (mSeq [(mOp2 addD (mPeek 1) (mC (.int 1)))])) (stName 21) (mCmp eqD (mOp2 modD (mOp2 subD (mPeek 21) (mBox 19 0 (mOp2 ixD (mPeek 19) (mC (.int 0))))) (mBox 20 0 (mOp2 ixD (mPeek 20) (mC (.int 0))))) (mC (.int 0))) (mOp1 intD (mPeek 21)))
noncomputable def b_law_4 : MS := (sSeq (sE (mOp2 fdivD (mOp2 mulD (mPeek 2) (mPeek 3)) (mCall fe__law_common (mSeq [(mArgV 2), (mArgV 3)]))) (sSet 2)) sNext)
noncomputable def f_law_5 : MS := (sFor (mItems (mVar 20)) (stName 3) b_law_4)
noncomputable def c_law_6 : M D := (mComp [2] [3] (mItems (mVar 20)) (stName 3) (mCmp neD (mOp2 modD (mPeek 2) (mPeek 3)) (mC (.int 0))) (mVar 3))
noncomputable def c_law_7 : M D := (mComp [21, 19, 20] [22] (mRange (mSeq [(mOp1 lenD (mPeek 20))])) (stName 22) (mCmp neD (mOp2 modD (mOp2 subD (mPeek 21) (mOp2 ixD (mPeek 19) (mPeek 22))) (mOp2 ixD (mPeek 20) (mPeek 22))) (mC (.int 0))) (mVar 22))
noncomputable def c_law_8 : M D := (mComp [19, 20] [21] (mRange (mSeq [(mVar 2)])) (stName 21) (mCmp eqD c_law_7 (mLst [])) (mOp1 intD (mPeek 21)))
noncomputable def c_law_9 : M D := (mComp [6, 19, 20] [22] (mRange (mSeq [(mOp2 addD (mPeek 6) (mC (.int 1))), (mOp1 lenD (mPeek 20))])) (stName 22) (mCmp neD (mOp2 modD (mOp2 subD (mOp2 ixD (mPeek 19) (mPeek 6)) (mOp2 ixD (mPeek 19) (mPeek 22))) (mCall fe__law_common (mSeq [(mArgE (mOp2 ixD (mPeek 20) (mPeek 6))), (mArgE (mOp2 ixD (mPeek 20) (mPeek 22)))]))) (mC (.int 0))) (mTup [(mOp1 intD (mPeek 6)), (mOp1 intD (mPeek 22))]))
noncomputable def b_law_10 : MS := (sSeq (sE (mOp2 addD (mPeek 5) c_law_9) (sSet 5)) sNext)
noncomputable def f_law_11 : MS := (sFor (mRange (mSeq [(mOp1 lenD (mPeek 20))])) (stName 6) b_law_10)
noncomputable def c_law_12 : M D := (mComp [20] [21] (mItems (mVar 8)) (stName 21) (mOrT (mTru (mOp1 (instD "bool") (mPeek 21))) (mNotT (mChain leD ltD (mC (.int 0)) (mPeek 21) (mOp1 lenD (mPeek 20))))) (mVar 21))
noncomputable def b_law_13 : MS := (sSeq (sE (mAndV (mOp1 (instD "tuple") (mPeek 8)) (mAndV (mBl (mCmp eqD (mOp1 lenD (mPeek 8)) (mC (.int 2)))) (mBl (mCmp eqD c_law_12 (mLst []))))) (sSet 9)) (sSeq (sE (mAndV (mVar 9) (mBl (mCmp neD (mOp2 modD (mOp2 subD (mOp2 ixD (mPeek 19) (mBox 8 0 (mOp2 ixD (mPeek 8) (mC (.int 0))))) (mOp2 ixD (mPeek 19) (mBox 8 1 (mOp2 ixD (mPeek 8) (mC (.int 1)))))) (mCall fe__law_common (mSeq [(mArgE (mOp2 ixD (mPeek 20) (mBox 8 0 (mOp2 ixD (mPeek 8) (mC (.int 0)))))), (mArgE (mOp2 ixD (mPeek 20) (mBox 8 1 (mOp2 ixD (mPeek 8) (mC (.int 1))))))]))) (mC (.int 0))))) (sSet 10)) (sSeq (sIf (mNotT (mTru (mCall fe__law_same (mSeq [(mArgE (mCall fe_paper_shows (mSeq [(mArgV 20), (mArgV 19), (mArgV 8)]))), (mArgV 10)])))) (sSeq (sRet (mC (.bool false))) sNext) sNext) sNext)))
noncomputable def f_law_14 : MS := (sFor (mItems (mOp2 addD (mCut (mPeek 5) (mC none) (mPart (mC (.int 2)))) (mLst [(mTup [(mC (.int 0)), (mC (.int 0))]), (mTup [(mC (.int 0)), (mOp2 subD (mOp1 lenD (mPeek 20)) (mC (.int 1)))]), (mC .none), (mLst [(mC (.int 0)), (mC (.int 1))]), (mTup [(mC (.int 0))]), (mTup [(mC (.int 0)), (mC (.int 9))]), (mTup [(mC (.bool true)), (mC (.int 0))])]))) (stName 8) b_law_13)
noncomputable def c_law_15 : M D := (mComp [21, 11] [23] (mItems (mVar 20)) (stName 23) (mCmp ltD (mOp2 modD (mPeek 21) (mPeek 23)) (mPeek 11)) (mVar 23))
noncomputable def c_law_16 : M D := (mComp [20, 11] [21] (mRange (mSeq [(mVar 2)])) (stName 21) (mCmp eqD c_law_15 (mLst [])) (mVar 21))
noncomputable def p_law_30 : MS := (sRet (mBl (mCmp eqD (mTold [16] tagOf (mCall fe_period (mSeq [(mArgE (mCall fe__law_pick (mSeq [(mArgV 16), (mArgE (mLst [(mTup []), (mTup [(mC (.int 0))]), (mTup [(mC (.int 61))]), (mLst [(mC (.int 1))]), (mC .none), (mTup [(mC (.int 1)), (mC (.int 1)), (mC (.int 1)), (mC (.int 1))]), (mTup [(mC (.bool true))])]))])))]))) (mLst [(mC (.str "bad thing")), (mC (.str "steps"))]))))
noncomputable def r_law_30 : MS := sSeq p_law_30 sNext
noncomputable def p_law_29 : MS := (sIf (mCmp neD (mTold [16] tagOf (mCall fe_shown (mSeq [(mArgE (mCall fe__law_pick (mSeq [(mArgV 16), (mArgE (mLst [(mC (.int 1)), (mC (.int 61)), (mC .none), (mC (.bool true))]))]))), (mArgE (mC (.int 0)))]))) (mLst [(mC (.str "bad thing")), (mC (.str "scale"))])) (sSeq (sRet (mC (.bool false))) sNext) sNext)
noncomputable def r_law_29 : MS := sSeq p_law_29 r_law_30
noncomputable def p_law_28 : MS := (sIf (mCmp neD (mTold [20] tagOf (mCall fe_lines (mSeq [(mArgE (mBox 20 0 (mOp2 ixD (mPeek 20) (mC (.int 0))))), (mArgE (mC (.int 0))), (mArgE (mC (.int 501)))]))) (mLst [(mC (.str "bad thing")), (mC (.str "far"))])) (sSeq (sRet (mC (.bool false))) sNext) sNext)
noncomputable def r_law_28 : MS := sSeq p_law_28 r_law_29
noncomputable def p_law_27 : MS := (sIf (mCmp neD (mTold [19, 20] tagOf (mCall fe_met (mSeq [(mArgV 20), (mArgE (mOp2 addD (mPeek 19) (mTup [(mC (.int 0))])))]))) (mLst [(mC (.str "bad thing")), (mC (.str "starts"))])) (sSeq (sRet (mC (.bool false))) sNext) sNext)
noncomputable def r_law_27 : MS := sSeq p_law_27 r_law_28
noncomputable def p_law_26 : MS := (sIf (mCmp neD (mTold [20] tagOf (mCall fe_open_share (mSeq [(mArgV 20), (mArgE (mOp1 negD (mC (.int 1))))]))) (mLst [(mC (.str "bad thing")), (mC (.str "wide"))])) (sSeq (sRet (mC (.bool false))) sNext) sNext)
noncomputable def r_law_26 : MS := sSeq p_law_26 r_law_27
noncomputable def p_law_25 : MS := (sIf (mCmp neD (mTold [18] tagOf (mCall fe_shown (mSeq [(mArgV 18), (mArgE (mOp1 negD (mC (.int 1))))]))) (mLst [(mC (.str "bad thing")), (mC (.str "place"))])) (sSeq (sRet (mC (.bool false))) sNext) sNext)
noncomputable def r_law_25 : MS := sSeq p_law_25 r_law_26
noncomputable def p_law_24 : MS := (sIf (mCmp neD (mTold [18] tagOf (mCall fe_read (mSeq [(mArgV 18), (mArgE (mC (.int 0))), (mArgV 18)]))) (mLst [(mC (.str "refused")), (mC (.str "line"))])) (sSeq (sRet (mC (.bool false))) sNext) sNext)
noncomputable def r_law_24 : MS := sSeq p_law_24 r_law_25
noncomputable def p_law_23 : MS := (sIf (mOrT (mCmp neD (mCall fe_off (mSeq [(mArgV 18), (mArgV 13), (mArgV 15)])) (mOp2 modD (mOp2 subD (mPeek 13) (mPeek 15)) (mPeek 18))) (mCmp neD (mBl (mCmp eqD (mCall fe_off (mSeq [(mArgV 18), (mArgV 13), (mArgV 15)])) (mC (.int 0)))) (mBl (mCmp eqD (mPeek 15) (mOp2 modD (mPeek 13) (mPeek 18)))))) (sSeq (sRet (mC (.bool false))) sNext) sNext)
noncomputable def r_law_23 : MS := sSeq p_law_23 r_law_24
noncomputable def p_law_22 : MS := (sE (mCall fe__law_draw (mSeq [(mArgV 16), (mArgV 18)])) (sSet 15))
noncomputable def r_law_22 : MS := sSeq p_law_22 r_law_23
noncomputable def p_law_21 : MS := (sIf (mOrT (mNotT (mTru (mCall fe__law_same (mSeq [(mArgV 14), (mArgE (mTup [(mOp2 fdivD (mPeek 13) (mPeek 18)), (mOp2 modD (mPeek 13) (mPeek 18))]))])))) (mOrT (mCmp neD (mCall fe_read (mSeq [(mArgV 18), (mArgE (mBox 14 0 (mOp2 ixD (mPeek 14) (mC (.int 0))))), (mArgE (mBox 14 1 (mOp2 ixD (mPeek 14) (mC (.int 1)))))])) (mPeek 13)) (mCmp neD (mCall fe_off (mSeq [(mArgV 18), (mArgV 13), (mArgE (mBox 14 1 (mOp2 ixD (mPeek 14) (mC (.int 1)))))])) (mC (.int 0))))) (sSeq (sRet (mC (.bool false))) sNext) sNext)
noncomputable def r_law_21 : MS := sSeq p_law_21 r_law_22
noncomputable def p_law_20 : MS := (sE (mCall fe_shown (mSeq [(mArgV 18), (mArgV 13)])) (sSet 14))
noncomputable def r_law_20 : MS := sSeq p_law_20 r_law_21
noncomputable def p_law_19 : MS := (sE (mTup [(mOp2 addD (mC (.int 2)) (mCall fe__law_draw (mSeq [(mArgV 16), (mArgE (mC (.int 20)))]))), (mCall fe__law_draw (mSeq [(mArgV 16), (mArgE (mC (.int 200)))]))]) (sStore (stTup 2 (stCons (stName 18) (stCons (stName 13) stNil)))))
noncomputable def r_law_19 : MS := sSeq p_law_19 r_law_20
noncomputable def p_law_18 : MS := (sIf (mOrT (mNotT (mTru (mCall fe__law_same (mSeq [(mArgE (mCall fe_open_share (mSeq [(mArgV 20), (mArgV 11)]))), (mArgE (mCall fe__law_low (mSeq [(mArgV 12), (mArgV 2)])))])))) (mCmp neD (mCall fe_open_share (mSeq [(mArgV 20), (mArgE (mC (.int 0)))])) (mTup [(mC (.int 1)), (mC (.int 1))]))) (sSeq (sRet (mC (.bool false))) sNext) sNext)
noncomputable def r_law_18 : MS := sSeq p_law_18 r_law_19
noncomputable def p_law_17 : MS := (sE (mOp1 lenD c_law_16) (sSet 12))
noncomputable def r_law_17 : MS := sSeq p_law_17 r_law_18
noncomputable def p_law_16 : MS := (sE (mCall fe__law_draw (mSeq [(mArgV 16), (mArgE (mC (.int 6)))])) (sSet 11))
noncomputable def r_law_16 : MS := sSeq p_law_16 r_law_17
noncomputable def p_law_15 : MS := (sIf (mCmp eqD (mPeek 3) (mPeek 17)) (sSeq (sIf (mCmp neD (mTold [3, 17] tagOf (mCall fe_beat (mSeq [(mArgV 3), (mArgV 17)]))) (mLst [(mC (.str "refused")), (mC (.str "steps"))])) (sSeq (sRet (mC (.bool false))) sNext) sNext) sNext) (sSeq (sIf (mNotT (mTru (mCall fe__law_same (mSeq [(mArgE (mCall fe_beat (mSeq [(mArgV 3), (mArgV 17)]))), (mArgE (mCall fe__law_low (mSeq [(mArgE (mOp2 mulD (mPeek 3) (mPeek 17))), (mArgE (mOp1 absD (mOp2 subD (mPeek 3) (mPeek 17))))])))])))) (sSeq (sRet (mC (.bool false))) sNext) sNext) sNext))
noncomputable def r_law_15 : MS := sSeq p_law_15 r_law_16
noncomputable def p_law_14 : MS := (sE (mTup [(mOp2 addD (mC (.int 1)) (mCall fe__law_draw (mSeq [(mArgV 16), (mArgE (mC (.int 20)))]))), (mOp2 addD (mC (.int 1)) (mCall fe__law_draw (mSeq [(mArgV 16), (mArgE (mC (.int 20)))])))]) (sStore (stTup 2 (stCons (stName 3) (stCons (stName 17) stNil)))))
noncomputable def r_law_14 : MS := sSeq p_law_14 r_law_15
noncomputable def p_law_13 : MS := f_law_14
noncomputable def r_law_13 : MS := sSeq p_law_13 r_law_14
noncomputable def p_law_12 : MS := (sIf (mOrT (mNotT (mTru (mCall fe__law_same (mSeq [(mArgV 7), (mArgE (mIf (mCmp neD (mPeek 5) (mLst [])) (mBox 5 0 (mOp2 ixD (mPeek 5) (mC (.int 0)))) (mC .none)))])))) (mCmp neD (mBl (mCmp isD (mPeek 7) (mC .none))) (mBl (mCmp neD (mPeek 4) (mLst []))))) (sSeq (sRet (mC (.bool false))) sNext) sNext)
noncomputable def r_law_12 : MS := sSeq p_law_12 r_law_13
noncomputable def p_law_11 : MS := (sE (mCall fe_met_paper (mSeq [(mArgV 20), (mArgV 19)])) (sSet 7))
noncomputable def r_law_11 : MS := sSeq p_law_11 r_law_12
noncomputable def p_law_10 : MS := f_law_11
noncomputable def r_law_10 : MS := sSeq p_law_10 r_law_11
noncomputable def p_law_9 : MS := (sOwn 5 (mSeq []))
noncomputable def r_law_9 : MS := sSeq p_law_9 r_law_10
noncomputable def p_law_8 : MS := (sIf (mOrT (mNotT (mTru (mCall fe__law_same (mSeq [(mArgE (mCall fe_met (mSeq [(mArgV 20), (mArgV 19)]))), (mArgE (mIf (mCmp neD (mPeek 4) (mLst [])) (mBox 4 0 (mOp2 ixD (mPeek 4) (mC (.int 0)))) (mC .none)))])))) (mCmp gtD (mOp1 lenD (mPeek 4)) (mC (.int 1)))) (sSeq (sRet (mC (.bool false))) sNext) sNext)
noncomputable def r_law_8 : MS := sSeq p_law_8 r_law_9
noncomputable def p_law_7 : MS := (sE c_law_8 (sSet 4))
noncomputable def r_law_7 : MS := sSeq p_law_7 r_law_8
noncomputable def p_law_6 : MS := (sIf (mOrT (mCmp neD (mCall fe_period (mSeq [(mArgV 20)])) (mPeek 2)) (mCmp neD c_law_6 (mLst []))) (sSeq (sRet (mC (.bool false))) sNext) sNext)
noncomputable def r_law_6 : MS := sSeq p_law_6 r_law_7
noncomputable def p_law_5 : MS := f_law_5
noncomputable def r_law_5 : MS := sSeq p_law_5 r_law_6
noncomputable def p_law_4 : MS := (sE (mC (.int 1)) (sSet 2))
noncomputable def r_law_4 : MS := sSeq p_law_4 r_law_5
noncomputable def p_law_3 : MS := (sIf (mNotT (mTru (mCall fe__law_same (mSeq [(mArgE (mCall fe_lines (mSeq [(mArgE (mBox 20 0 (mOp2 ixD (mPeek 20) (mC (.int 0))))), (mArgE (mBox 19 0 (mOp2 ixD (mPeek 19) (mC (.int 0))))), (mArgV 1)]))), (mArgE (mOp1 tupleD c_law_3))])))) (sSeq (sRet (mC (.bool false))) sNext) sNext)
noncomputable def r_law_3 : MS := sSeq p_law_3 r_law_4
noncomputable def p_law_2 : MS := (sE (mCall fe__law_draw (mSeq [(mArgV 16), (mArgE (mC (.int 80)))])) (sSet 1))
noncomputable def r_law_2 : MS := sSeq p_law_2 r_law_3
noncomputable def p_law_1 : MS := (sE (mOp1 tupleD c_law_2) (sSet 19))
noncomputable def r_law_1 : MS := sSeq p_law_1 r_law_2
noncomputable def p_law_0 : MS := (sE (mOp1 tupleD c_law_1) (sSet 20))
noncomputable def r_law_0 : MS := sSeq p_law_0 r_law_1
noncomputable def m_law : MS := r_law_0
noncomputable def l_law : List (Str × FnE) := l__law_low
def k_law : Nat := 9
noncomputable abbrev ct_law : Ct := mkCt N_law (defScope (stm 31)) l_law xs k_law true [("_law_told", tagOf)]
theorem t_law : sAll (cS 60 ct_law) ((defBody (stm 31)).drop 1) = m_law := by rfl
theorem s_law : FnScope N_law ["script"] (defScope (stm 31)) := ⟨rfl, rfl, rfl, by decide +kernel, rfl, by decide +kernel, by decide +kernel⟩
variable {w : World} {K : PySem.W.Frag} {mg : Str → Option Value} {base : Heap} {g : Gx}
theorem allF (hx : AllX PySem.Challenge.rw_panehouse_k25_lines_that_meet.prog w K mg base g xs) (hb : ∀ x, x ∈ blts → mg x = none) (kin : K.In base) (gl : base.Ns mainGlobals mg) (d_is_integer : DefK K "is_integer" (stm 6)) (d_common : DefK K "common" (stm 7)) (d_reduced : DefK K "reduced" (stm 8)) (d_check_steps : DefK K "check_steps" (stm 10)) (d_check_starts : DefK K "check_starts" (stm 11)) (d_lines : DefK K "lines" (stm 12)) (d_period : DefK K "period" (stm 13)) (d_met : DefK K "met" (stm 14)) (d_met_paper : DefK K "met_paper" (stm 15)) (d_paper_shows : DefK K "paper_shows" (stm 16)) (d_beat : DefK K "beat" (stm 17)) (d_open_share : DefK K "open_share" (stm 18)) (d_check_scale : DefK K "check_scale" (stm 19)) (d_shown : DefK K "shown" (stm 20)) (d_read : DefK K "read" (stm 21)) (d_off : DefK K "off" (stm 22)) (d__law_digits : DefK K "_law_digits" (stm 24)) (d__law_draw : DefK K "_law_draw" (stm 25)) (d__law_pick : DefK K "_law_pick" (stm 26)) (d__law_same : DefK K "_law_same" (stm 27)) (d__law_common : DefK K "_law_common" (stm 29)) (d__law_low : DefK K "_law_low" (stm 30)) : AllF PySem.Challenge.rw_panehouse_k25_lines_that_meet.prog w K mg base g l_law := by
  have h0 : AllF PySem.Challenge.rw_panehouse_k25_lines_that_meet.prog w K mg base g l0 := AllF.nil
  have h1 : AllF PySem.Challenge.rw_panehouse_k25_lines_that_meet.prog w K mg base g l_is_integer := AllF.step h0 hx hb kin gl d_is_integer s_is_integer (fun _ _ _ _ _ _ us hl => match us, hl with | [_], _ => rfl) t_is_integer
  have h2 : AllF PySem.Challenge.rw_panehouse_k25_lines_that_meet.prog w K mg base g l_common := AllF.step h1 hx hb kin gl d_common s_common (fun _ _ _ _ _ _ us hl => match us, hl with | [_, _], _ => rfl) t_common
  have h3 : AllF PySem.Challenge.rw_panehouse_k25_lines_that_meet.prog w K mg base g l_reduced := AllF.step h2 hx hb kin gl d_reduced s_reduced (fun _ _ _ _ _ _ us hl => match us, hl with | [_, _], _ => rfl) t_reduced
  have h4 : AllF PySem.Challenge.rw_panehouse_k25_lines_that_meet.prog w K mg base g l_check_steps := AllF.step h3 hx hb kin gl d_check_steps s_check_steps (fun _ _ _ _ _ _ us hl => match us, hl with | [_], _ => rfl) t_check_steps
  have h5 : AllF PySem.Challenge.rw_panehouse_k25_lines_that_meet.prog w K mg base g l_check_starts := AllF.step h4 hx hb kin gl d_check_starts s_check_starts (fun _ _ _ _ _ _ us hl => match us, hl with | [_, _], _ => rfl) t_check_starts
  have h6 : AllF PySem.Challenge.rw_panehouse_k25_lines_that_meet.prog w K mg base g l_lines := AllF.step h5 hx hb kin gl d_lines s_lines (fun _ _ _ _ _ _ us hl => match us, hl with | [_, _, _], _ => rfl) t_lines
  have h7 : AllF PySem.Challenge.rw_panehouse_k25_lines_that_meet.prog w K mg base g l_period := AllF.step h6 hx hb kin gl d_period s_period (fun _ _ _ _ _ _ us hl => match us, hl with | [_], _ => rfl) t_period
  have h8 : AllF PySem.Challenge.rw_panehouse_k25_lines_that_meet.prog w K mg base g l_met := AllF.step h7 hx hb kin gl d_met s_met (fun _ _ _ _ _ _ us hl => match us, hl with | [_, _], _ => rfl) t_met
  have h9 : AllF PySem.Challenge.rw_panehouse_k25_lines_that_meet.prog w K mg base g l_met_paper := AllF.step h8 hx hb kin gl d_met_paper s_met_paper (fun _ _ _ _ _ _ us hl => match us, hl with | [_, _], _ => rfl) t_met_paper
  have h10 : AllF PySem.Challenge.rw_panehouse_k25_lines_that_meet.prog w K mg base g l_paper_shows := AllF.step h9 hx hb kin gl d_paper_shows s_paper_shows (fun _ _ _ _ _ _ us hl => match us, hl with | [_, _, _], _ => rfl) t_paper_shows
  have h11 : AllF PySem.Challenge.rw_panehouse_k25_lines_that_meet.prog w K mg base g l_beat := AllF.step h10 hx hb kin gl d_beat s_beat (fun _ _ _ _ _ _ us hl => match us, hl with | [_, _], _ => rfl) t_beat
  have h12 : AllF PySem.Challenge.rw_panehouse_k25_lines_that_meet.prog w K mg base g l_open_share := AllF.step h11 hx hb kin gl d_open_share s_open_share (fun _ _ _ _ _ _ us hl => match us, hl with | [_, _], _ => rfl) t_open_share
  have h13 : AllF PySem.Challenge.rw_panehouse_k25_lines_that_meet.prog w K mg base g l_check_scale := AllF.step h12 hx hb kin gl d_check_scale s_check_scale (fun _ _ _ _ _ _ us hl => match us, hl with | [_], _ => rfl) t_check_scale
  have h14 : AllF PySem.Challenge.rw_panehouse_k25_lines_that_meet.prog w K mg base g l_shown := AllF.step h13 hx hb kin gl d_shown s_shown (fun _ _ _ _ _ _ us hl => match us, hl with | [_, _], _ => rfl) t_shown
  have h15 : AllF PySem.Challenge.rw_panehouse_k25_lines_that_meet.prog w K mg base g l_read := AllF.step h14 hx hb kin gl d_read s_read (fun _ _ _ _ _ _ us hl => match us, hl with | [_, _, _], _ => rfl) t_read
  have h16 : AllF PySem.Challenge.rw_panehouse_k25_lines_that_meet.prog w K mg base g l_off := AllF.step h15 hx hb kin gl d_off s_off (fun _ _ _ _ _ _ us hl => match us, hl with | [_, _, _], _ => rfl) t_off
  have h17 : AllF PySem.Challenge.rw_panehouse_k25_lines_that_meet.prog w K mg base g l__law_digits := AllF.step h16 hx hb kin gl d__law_digits s__law_digits (fun _ _ _ _ _ _ us hl => match us, hl with | [_, _, _], _ => rfl) t__law_digits
  have h18 : AllF PySem.Challenge.rw_panehouse_k25_lines_that_meet.prog w K mg base g l__law_draw := AllF.step h17 hx hb kin gl d__law_draw s__law_draw (fun _ _ _ _ _ _ us hl => match us, hl with | [_, _], _ => rfl) t__law_draw
  have h19 : AllF PySem.Challenge.rw_panehouse_k25_lines_that_meet.prog w K mg base g l__law_pick := AllF.step h18 hx hb kin gl d__law_pick s__law_pick (fun _ _ _ _ _ _ us hl => match us, hl with | [_, _], _ => rfl) t__law_pick
  have h20 : AllF PySem.Challenge.rw_panehouse_k25_lines_that_meet.prog w K mg base g l__law_same := AllF.step h19 hx hb kin gl d__law_same s__law_same (fun _ _ _ _ _ _ us hl => match us, hl with | [_, _], _ => rfl) t__law_same
  have h21 : AllF PySem.Challenge.rw_panehouse_k25_lines_that_meet.prog w K mg base g l__law_common := AllF.step h20 hx hb kin gl d__law_common s__law_common (fun _ _ _ _ _ _ us hl => match us, hl with | [_, _], _ => rfl) t__law_common
  have h22 : AllF PySem.Challenge.rw_panehouse_k25_lines_that_meet.prog w K mg base g l__law_low := AllF.step h21 hx hb kin gl d__law_low s__law_low (fun _ _ _ _ _ _ us hl => match us, hl with | [_, _], _ => rfl) t__law_low
  exact h22
def clOf (C0 C1 C2 : Addr) : Nat → Option (Addr × Str)
  | 0 => some (C0, "reason")
  | 1 => some (C1, "what")
  | 2 => some (C2, "reason")
  | _ => none
theorem lawG {h : Heap} {fa gf c P : Addr} {C0 I0 C1 I1 C2 I2 : Addr} (kin : K.In h) (gl : h.Ns mainGlobals mg) (hmg : mg "law" = some (.ref fa)) (own : LamX.OwnTab K fa h) (bl : ∀ x, x ∈ blts → PySem.W.nsIn K mainGlobals x = some none)
    (X0 : XTxt PySem.Challenge.rw_panehouse_k25_lines_that_meet.prog K mg "BadThing" "reason" C0 I0)
    (X1 : XTxt PySem.Challenge.rw_panehouse_k25_lines_that_meet.prog K mg "TooMany" "what" C1 I1)
    (X2 : XTxt PySem.Challenge.rw_panehouse_k25_lines_that_meet.prog K mg "Refused" "reason" C2 I2)
    (d_is_integer : DefK K "is_integer" (stm 6)) (d_common : DefK K "common" (stm 7)) (d_reduced : DefK K "reduced" (stm 8)) (d_check_steps : DefK K "check_steps" (stm 10)) (d_check_starts : DefK K "check_starts" (stm 11)) (d_lines : DefK K "lines" (stm 12)) (d_period : DefK K "period" (stm 13)) (d_met : DefK K "met" (stm 14)) (d_met_paper : DefK K "met_paper" (stm 15)) (d_paper_shows : DefK K "paper_shows" (stm 16)) (d_beat : DefK K "beat" (stm 17)) (d_open_share : DefK K "open_share" (stm 18)) (d_check_scale : DefK K "check_scale" (stm 19)) (d_shown : DefK K "shown" (stm 20)) (d_read : DefK K "read" (stm 21)) (d_off : DefK K "off" (stm 22)) (d__law_digits : DefK K "_law_digits" (stm 24)) (d__law_draw : DefK K "_law_draw" (stm 25)) (d__law_pick : DefK K "_law_pick" (stm 26)) (d__law_same : DefK K "_law_same" (stm 27)) (d__law_common : DefK K "_law_common" (stm 29)) (d__law_low : DefK K "_law_low" (stm 30))
    (T : ToldK K mg "_law_told" [⟨"BadThing", C0, "bad thing", "reason"⟩, ⟨"Refused", C2, "refused", "reason"⟩, ⟨"TooMany", C1, "too many", "what"⟩] gf) (L : LawK K (stm 31) c P)
    (e0_0 : PySem.W.exmOne K (.ref C0) (.ref C0) = some true)
    (e0_2 : PySem.W.exmOne K (.ref C0) (.ref C2) = some false)
    (e0_1 : PySem.W.exmOne K (.ref C0) (.ref C1) = some false)
    (e2_0 : PySem.W.exmOne K (.ref C2) (.ref C0) = some false)
    (e2_2 : PySem.W.exmOne K (.ref C2) (.ref C2) = some true)
    (e2_1 : PySem.W.exmOne K (.ref C2) (.ref C1) = some false)
    (e1_0 : PySem.W.exmOne K (.ref C1) (.ref C0) = some false)
    (e1_2 : PySem.W.exmOne K (.ref C1) (.ref C2) = some false)
    (e1_1 : PySem.W.exmOne K (.ref C1) (.ref C1) = some true)
    (n0_2 : C0 ≠ C2)
    (n0_1 : C0 ≠ C1)
    (n2_0 : C2 ≠ C0)
    (n2_1 : C2 ≠ C1)
    (n1_0 : C1 ≠ C0)
    (n1_2 : C1 ≠ C2)
    (dig : ∀ ns : List Int, ns.length ≤ 63 → ∃ ds : List Int, fe__law_digits.fm [.d (.list (ns.map .int)), .d (.int 0), .d (.int 63)] none = .ret (.list (ds.map .int)) none)
    (law : ∀ ns ds : List Int, ∃ S2, m_law ⟨((.sh (.list (ns.map .int))) :: List.replicate 23 DV.un).set 16 .bx, some (ds, 0)⟩ = .ret (.bool true) S2) :
    LawG PySem.Challenge.rw_panehouse_k25_lines_that_meet w K 63 mg fa h := by
  have hb : ∀ x, x ∈ blts → mg x = none := fun x hx => PySem.W.mg_none_of kin gl (bl x hx)
  have hX : ∀ base, AllX PySem.Challenge.rw_panehouse_k25_lines_that_meet.prog w K mg base (gxOf P (clOf C0 C1 C2)) xs := fun base p hp => by
    simp only [xs, List.mem_cons, List.not_mem_nil, or_false] at hp
    rcases hp with rfl | rfl | rfl
    · exact exG_of (k := 1) X0 rfl (by decide +kernel)
    · exact exG_of (k := 1) X1 rfl (by decide +kernel)
    · exact exG_of (k := 1) X2 rfl (by decide +kernel)
  refine lawG_of (l := PySem.Challenge.rw_panehouse_k25_lines_that_meet) (st := stm 31) (c := c) (P := P) (cl := clOf C0 C1 C2) (N := N_law) (fs := l_law) (xs := xs) (k := k_law) (fuel := 60) (i := 16) (tg := tagOf) (fe := fe__law_digits) (mr := m_law)
    kin gl hmg own L T hX (fun base b1 b2 => allF (hX base) hb b1 b2 d_is_integer d_common d_reduced d_check_steps d_check_starts d_lines d_period d_met d_met_paper d_paper_shows d_beat d_open_share d_check_scale d_shown d_read d_off d__law_digits d__law_draw d__law_pick d__law_same d__law_common d__law_low) hb (by decide) ⟨rfl, by decide, by decide⟩ s_law (fun _ _ _ _ _ _ us hl => match us, hl with | [_], _ => rfl) (fun m tag C f ht hc => ?_) rfl (by rfl) (by rfl) rfl t_law dig law
  match m, ht, hc with
  | 0, ht, hc =>
    cases ht
    cases hc
    exact ⟨fun h hh => by
      simp only [List.mem_cons, List.not_mem_nil, or_false] at hh
      rcases hh with rfl | rfl | rfl
      · rw [e0_0, decide_eq_true rfl]
      · rw [e0_2, decide_eq_false n2_0]
      · rw [e0_1, decide_eq_false n1_0], fun h hh he => by
      simp only [List.mem_cons, List.not_mem_nil, or_false] at hh
      rcases hh with rfl | rfl | rfl
      · exact ⟨rfl, rfl⟩
      · exact absurd he n2_0
      · exact absurd he n1_0, ⟨_, (by simp : (⟨"BadThing", C0, "bad thing", "reason"⟩ : HSp) ∈ _), rfl⟩⟩
  | 2, ht, hc =>
    cases ht
    cases hc
    exact ⟨fun h hh => by
      simp only [List.mem_cons, List.not_mem_nil, or_false] at hh
      rcases hh with rfl | rfl | rfl
      · rw [e2_0, decide_eq_false n0_2]
      · rw [e2_2, decide_eq_true rfl]
      · rw [e2_1, decide_eq_false n1_2], fun h hh he => by
      simp only [List.mem_cons, List.not_mem_nil, or_false] at hh
      rcases hh with rfl | rfl | rfl
      · exact absurd he n0_2
      · exact ⟨rfl, rfl⟩
      · exact absurd he n1_2, ⟨_, (by simp : (⟨"Refused", C2, "refused", "reason"⟩ : HSp) ∈ _), rfl⟩⟩
  | 1, ht, hc =>
    cases ht
    cases hc
    exact ⟨fun h hh => by
      simp only [List.mem_cons, List.not_mem_nil, or_false] at hh
      rcases hh with rfl | rfl | rfl
      · rw [e1_0, decide_eq_false n0_1]
      · rw [e1_2, decide_eq_false n2_1]
      · rw [e1_1, decide_eq_true rfl], fun h hh he => by
      simp only [List.mem_cons, List.not_mem_nil, or_false] at hh
      rcases hh with rfl | rfl | rfl
      · exact absurd he n0_1
      · exact absurd he n2_1
      · exact ⟨rfl, rfl⟩, ⟨_, (by simp : (⟨"TooMany", C1, "too many", "what"⟩ : HSp) ∈ _), rfl⟩⟩
  | m + 3, ht, hc => cases hc
end K25

set_option maxRecDepth 100000
namespace K25
open PySem Gl
theorem isi_int (i : Int) (bx : Bx) : fe_is_integer.fm [.d (.int i)] bx = .ret (.bool true) bx := rfl
theorem common_w (a b : Nat) (bx : Bx) : ∃ S', w_common_3 ⟨[.sh (.int (a : Int)), .sh (.int (b : Int))], bx⟩ = .next S' ∧ S' = ⟨[.sh (.int (Nat.gcd a b : Nat)), .sh (.int 0)], bx⟩ := by
  refine while_inv (P := fun S => ∃ x y : Nat, Nat.gcd x y = Nat.gcd a b ∧ S = ⟨[.sh (.int (x : Int)), .sh (.int (y : Int))], bx⟩) (fun S => match S.sl[1]? with | some (DV.sh (PyData.int y)) => y.toNat | _ => 0) ?_ ⟨a, b, rfl, rfl⟩
  rintro S ⟨x, y, e, rfl⟩
  by_cases hy : y = 0
  · subst hy
    rw [Nat.gcd_zero_right] at e
    subst e
    exact .inl ⟨_, rfl, rfl⟩
  · refine .inr ⟨⟨[.sh (.int (x : Int)), .sh (.int (y : Int))], bx⟩, ⟨[.sh (.int (y : Int)), .sh (.int ((x % y : Nat) : Int))], bx⟩, ?_, ?_, ⟨y, x % y, ?_, rfl⟩, ?_⟩
    · simp [g_common_1, mPeek, hy]
    · simp [b_common_2, mPeek, mVar, modD_pos (show (0 : Int) < y by omega), sPar]
    · rw [← e, Nat.gcd_comm y, ← Nat.gcd_rec, Nat.gcd_comm]
    · show (((x % y : Nat) : Int)).toNat < ((y : Int)).toNat
      have := Nat.mod_lt x (Nat.pos_of_ne_zero hy)
      omega
theorem common_eq (a b : Int) (bx : Bx) : fe_common.fm [.d (.int a), .d (.int b)] bx = .ret (.int (Int.gcd a b)) bx := by
  obtain ⟨S', e, rfl⟩ := common_w a.natAbs b.natAbs bx
  refine fm_ret (S := ⟨[.sh (.int (Nat.gcd a.natAbs b.natAbs : Nat)), .sh (.int 0)], bx⟩) rfl rfl ?_ rfl
  simp [m_common, mPeek, mVar, sPar, e, slotA, Int.gcd]
@[simp] theorem ar_common : fe_common.ar = 2 := rfl
/-- whether each of them is a step -/
def StepsOk (l : List Int) : Prop := 1 ≤ l.length ∧ l.length ≤ 3 ∧ ∀ x ∈ l, 1 ≤ x ∧ x ≤ 60
theorem check_steps_ok {l : List Int} (h : StepsOk l) (bx : Bx) : fe_check_steps.fm [.d (.tuple (l.map .int))] bx = .ret .none bx := by
  have hc : c_check_steps_1 ⟨[.sh (.tuple (l.map .int)), .un], bx⟩ = .ok (.list (l.map fun _ => .bool true)) ⟨[.sh (.tuple (l.map .int)), .un], bx⟩ := by
    unfold c_check_steps_1
    refine comp_pure PyData.int (fun _ => true) (fun _ => .bool true) rfl rfl (fun x hx => ?_) (by have := h.2.1; omega) (by rw [List.filter_eq_self.mpr (by simp)])
    obtain ⟨h1, h2⟩ := h.2.2 x hx
    refine ⟨_, _, rfl, rfl, rfl, fun _ => ⟨⟨[.sh (.tuple (l.map .int)), .sh (.int x)], bx⟩, ?_, rfl⟩⟩
    simp [mArgV, mPeek, isi_int, h1, h2, wipeD, hideD, show fe_is_integer.ar = 1 from rfl]
  refine fm_next (S := ⟨[.sh (.tuple (l.map .int)), .un], bx⟩) rfl rfl ?_ rfl
  have := h.1
  have := h.2.1
  simp [m_check_steps, slotA, mPeek, instD, tyD, isaB, hc, all_map, show (1 : Int) ≤ l.length by omega, show (l.length : Int) ≤ 3 by omega]
end K25

set_option maxRecDepth 100000
namespace K25
open PySem Gl
@[simp] theorem ar_isi : fe_is_integer.ar = 1 := rfl
@[simp] theorem ar_cs : fe_check_steps.ar = 1 := rfl
@[simp] theorem ar_ct : fe_check_starts.ar = 2 := rfl
@[simp] theorem ar_red : fe_reduced.ar = 2 := rfl
@[simp] theorem ar_per : fe_period.ar = 1 := rfl
@[simp] theorem isi_all (l : List Int) : l.map (fun _ => PyData.bool true) = l.map fun x => PyData.bool ((fun _ => true) x) := rfl
theorem all_true {γ : Type} (l : List γ) : allD (.list (l.map fun _ => .bool true)) = some (.bool true) := by
  rw [all_map (fun _ => true) l]
  congr 2
  simp
theorem check_starts_ok {l s : List Int} (h : StepsOk l) (hs : s.length = l.length) (bx : Bx) : fe_check_starts.fm [.d (tI l), .d (tI s)] bx = .ret .none bx := by
  have hc : c_check_starts_1 ⟨[.sh (tI l), .sh (tI s), .un], bx⟩ = .ok (.list (s.map fun _ => .bool true)) ⟨[.sh (tI l), .sh (tI s), .un], bx⟩ := by
    unfold c_check_starts_1
    refine comp_pure PyData.int (fun _ => true) (fun _ => .bool true) rfl rfl (fun x hx => ?_) (by have := h.2.1; omega) (by rw [List.filter_eq_self.mpr (by simp)])
    refine ⟨_, _, rfl, rfl, rfl, fun _ => ⟨⟨[.sh (tI l), .sh (tI s), .sh (.int x)], bx⟩, ?_, rfl⟩⟩
    simp [mArgV, mPeek, isi_int, wipeD, hideD]
  refine fm_next (S := ⟨[.sh (tI l), .sh (tI s), .un], bx⟩) rfl rfl ?_ rfl
  simp [m_check_starts, slotA, mPeek, mArgV, instD, tyD, isaB, hc, all_true, check_steps_ok h, hs]
theorem check_starts_bad {l s : List Int} (h : StepsOk l) (hs : s.length ≠ l.length) (bx : Bx) : fe_check_starts.fm [.d (tI l), .d (tI s)] bx = .exc 0 (.str "starts") bx := by
  refine fm_exc rfl rfl ?_
  simp [m_check_starts, slotA, mPeek, mArgV, instD, tyD, isaB, check_steps_ok h, show ¬((s.length : Int) = l.length) by omega]
theorem one_ok {a : Int} (h1 : 1 ≤ a) (h2 : a ≤ 60) : StepsOk [a] := ⟨by simp, by simp, by simp; omega⟩
def lineL (step start far : Int) : List Int := ((List.range (far + 1).toNat).map fun i => ((i : Nat) : Int)).filter fun k => decide ((k - start) % step = 0)
theorem lines_ok {step start far : Int} (h1 : 1 ≤ step) (h2 : step ≤ 60) (f0 : 0 ≤ far) (f1 : far ≤ 500) (bx : Bx) : fe_lines.fm [.d (.int step), .d (.int start), .d (.int far)] bx = .ret (tI (lineL step start far)) bx := by
  have hc : c_lines_1 ⟨[.sh (.int step), .sh (.int start), .sh (.int far), .un], bx⟩ = .ok (lI (lineL step start far)) ⟨[.sh (.int step), .sh (.int start), .sh (.int far), .un], bx⟩ := by
    unfold c_lines_1
    refine comp_pure (l := (List.range (far + 1).toNat).map fun i => ((i : Nat) : Int)) PyData.int (fun k => decide ((k - start) % step = 0)) PyData.int (S1 := ⟨[.sh (.int step), .sh (.int start), .sh (.int far), .un], bx⟩) ?_ rfl (fun x hx => ?_) (by simp; omega) rfl
    · simp [mPeek, range1 (show 0 ≤ far + 1 by omega) (by omega)]
    · refine ⟨[.sh (.int step), .sh (.int start), .sh (.int far), .sh (.int x)], ⟨[.sh (.int step), .sh (.int start), .sh (.int far), .sh (.int x)], bx⟩, rfl, ?_, rfl, fun _ => ⟨⟨[.sh (.int step), .sh (.int start), .sh (.int far), .sh (.int x)], bx⟩, rfl, rfl⟩⟩
      simp [mPeek, modD_pos (show 0 < step by omega)]
  refine fm_ret (S := ⟨[.sh (.int step), .sh (.int start), .sh (.int far), .un], bx⟩) rfl rfl ?_ rfl
  have e1 := check_starts_ok (one_ok h1 h2) (s := [start]) rfl bx
  have e2 : sumOk 1 = true := rfl
  simp [tI] at e1
  simp [m_lines, slotA, mPeek, mVar, mArgV, hc, isi_int, f0, f1, e2, e1]
theorem lines_bad {step : Int} (h1 : 1 ≤ step) (h2 : step ≤ 60) (bx : Bx) : fe_lines.fm [.d (.int step), .d (.int 0), .d (.int 501)] bx = .exc 0 (.str "far") bx := by
  refine fm_exc rfl rfl ?_
  have e1 := check_starts_ok (one_ok h1 h2) (s := [0]) rfl bx
  have e2 : sumOk 1 = true := rfl
  simp [tI] at e1
  simp [m_lines, slotA, mPeek, mVar, mArgV, e1, isi_int, e2]
def lcmF (w o : Int) : Int := w * o / (Int.gcd w o : Int)
theorem gcd_pos' {w o : Int} (h : 1 ≤ o) : 0 < (Int.gcd w o : Int) := by
  have : Int.gcd w o ≠ 0 := by
    rw [Ne, Int.gcd_eq_zero_iff]
    omega
  omega
theorem gcd_le' {w o : Int} (h : 1 ≤ o) : (Int.gcd w o : Int) ≤ o := Int.le_of_dvd (by omega) (Int.gcd_dvd_right ..)
def wholeI (l : List Int) : Int := l.foldl lcmF 1
theorem period_ok {l : List Int} (h : StepsOk l) (bx : Bx) : fe_period.fm [.d (tI l)] bx = .ret (.int (wholeI l)) bx := by
  obtain ⟨e, -⟩ := loopF_fold (st := stName 2) (mb := b_period_1) (P := fun _ => True) PyData.int (fun (c : Int × DV) x => (lcmF c.1 x, DV.sh (.int x))) (fun c => ⟨[.sh (tI l), .sh (.int c.1), c.2], bx⟩) (l := l) (c := (1, .un)) (fun x hx c _ => by
    obtain ⟨h1, h2⟩ := h.2.2 x hx
    refine ⟨_, rfl, ?_, trivial⟩
    have := gcd_le' (w := c.1) h1
    simp [b_period_1, mPeek, mArgV, common_eq, mulD_ok (i := c.1) (j := x) (.inr (by omega)), fdivD_pos (gcd_pos' (w := c.1) h1) (by omega), lcmF]) trivial
  have e3 : ∀ (l : List Int) (c : Int) (d : DV), (l.foldl (fun (c : Int × DV) x => (lcmF c.1 x, DV.sh (.int x))) (c, d)).1 = l.foldl lcmF c := by
    intro l
    induction l with
    | nil => exact fun _ _ => rfl
    | cons x l ih => exact fun c d => ih _ _
  refine fm_ret rfl rfl (S := ⟨[.sh (tI l), .sh (.int (wholeI l)), (l.foldl (fun (c : Int × DV) x => (lcmF c.1 x, DV.sh (.int x))) (1, DV.un)).2], bx⟩) ?_ rfl
  rw [e3] at e
  simp [m_period, slotA, mArgV, mVar, f_period_2, check_steps_ok h, e, wholeI]
end K25

set_option maxRecDepth 100000
namespace K25
open PySem Gl
/-! the places where all lines meet -/
theorem lcmF_eq {w o : Int} (hw : 0 ≤ w) (ho : 0 ≤ o) : lcmF w o = (Int.lcm w o : Int) := by
  obtain ⟨a, rfl⟩ := Int.eq_ofNat_of_zero_le hw
  obtain ⟨b, rfl⟩ := Int.eq_ofNat_of_zero_le ho
  unfold lcmF Int.lcm Int.gcd Nat.lcm
  simp only [Int.natAbs_natCast]
  norm_cast
theorem lcmF_pos {w o : Int} (hw : 0 < w) (ho : 0 < o) : 0 < lcmF w o := by
  rw [lcmF_eq (by omega) (by omega)]
  have : Int.lcm w o ≠ 0 := by
    rw [Ne, Int.lcm_eq_zero_iff]
    omega
  omega
theorem sol_fail {place step one start : Int} (ho : 0 < one) (h : ∀ t : Int, 0 ≤ t → t ≤ one → ¬ one ∣ place + t * step - start) (x : Int) (hx : step ∣ x - place) : ¬ one ∣ x - start := by
  obtain ⟨q, hq⟩ := hx
  have h1 := Int.emod_nonneg q (by omega : one ≠ 0)
  have h2 := Int.emod_lt_of_pos q ho
  intro hd
  refine h (q % one) h1 (by omega) ?_
  have e : x - start = place + (q % one) * step - start + one * (q / one * step) := by
    have e2 := Int.mul_ediv_add_emod q one
    have : x = place + step * q := by omega
    rw [this]
    conv => lhs; rw [← e2]
    rw [Int.mul_add]
    have a : step * (one * (q / one)) = one * (q / one * step) := by
      rw [Int.mul_comm step, Int.mul_assoc]
    have b : step * (q % one) = q % one * step := Int.mul_comm ..
    omega
  rw [e] at hd
  exact (Int.dvd_add_left (Int.dvd_mul_right ..)).mp hd
theorem sol_ok {place step one start y : Int} (hs : 0 < step) (ho : 0 < one) (h1 : step ∣ y - place) (h2 : one ∣ y - start) (x : Int) : (step ∣ x - place ∧ one ∣ x - start) ↔ lcmF step one ∣ x - y % lcmF step one := by
  have hp := lcmF_pos hs ho
  rw [lcmF_eq (by omega) (by omega)] at hp ⊢
  generalize hL : ((Int.lcm step one : Nat) : Int) = L at hp ⊢
  have d1 : step ∣ L := by rw [← hL]; exact Int.dvd_lcm_left ..
  have d2 : one ∣ L := by rw [← hL]; exact Int.dvd_lcm_right ..
  have ey : L ∣ y - y % L := Int.dvd_self_sub_emod
  constructor
  · rintro ⟨a, b⟩
    have c1 : step ∣ x - y := by
      have := Int.dvd_sub a h1
      rwa [show x - place - (y - place) = x - y by omega] at this
    have c2 : one ∣ x - y := by
      have := Int.dvd_sub b h2
      rwa [show x - start - (y - start) = x - y by omega] at this
    have c3 : L ∣ x - y := by rw [← hL]; exact Int.coe_lcm_dvd c1 c2
    have := Int.dvd_add c3 ey
    rwa [show x - y + (y - y % L) = x - y % L by omega] at this
  · intro a
    have c : L ∣ x - y := by
      have := Int.dvd_sub a ey
      rwa [show x - y % L - (y - y % L) = x - y by omega] at this
    constructor
    · have := Int.dvd_add (Int.dvd_trans d1 c) h1
      rwa [show x - y + (y - place) = x - place by omega] at this
    · have := Int.dvd_add (Int.dvd_trans d2 c) h2
      rwa [show x - y + (y - start) = x - start by omega] at this
/-- the inner search: a meeting place of the one line with those before, or none -/
theorem met_w {A B : D} {place0 step one start : Int} (hs : 0 < step) (ho : 0 < one) (bx : Bx) : ∃ (t : Int), w_met_3 ⟨[A, B].map .sh ++ [.sh (.int place0), .sh (.int step), .sh (.int one), .sh (.int start), .sh (.int 0)], bx⟩ = .next ⟨[A, B].map .sh ++ [.sh (.int (place0 + t * step)), .sh (.int step), .sh (.int one), .sh (.int start), .sh (.int t)], bx⟩ ∧
    ((one ∣ place0 + t * step - start) ∨ ∀ x, step ∣ x - place0 → ¬ one ∣ x - start) := by
  have key := while_inv (S := ⟨[A, B].map .sh ++ [.sh (.int place0), .sh (.int step), .sh (.int one), .sh (.int start), .sh (.int 0)], bx⟩) (mc := g_met_1) (mb := b_met_2)
    (P := fun S => ∃ t : Int, 0 ≤ t ∧ t ≤ one + 1 ∧ S = ⟨[A, B].map .sh ++ [.sh (.int (place0 + t * step)), .sh (.int step), .sh (.int one), .sh (.int start), .sh (.int t)], bx⟩ ∧ ∀ u : Int, 0 ≤ u → u < t → ¬ one ∣ place0 + u * step - start)
    (Q := fun S => ∃ t : Int, S = ⟨[A, B].map .sh ++ [.sh (.int (place0 + t * step)), .sh (.int step), .sh (.int one), .sh (.int start), .sh (.int t)], bx⟩ ∧ ((one ∣ place0 + t * step - start) ∨ ∀ x, step ∣ x - place0 → ¬ one ∣ x - start))
    (fun S => match S.sl[6]? with | some (DV.sh (PyData.int t)) => (one + 1 - t).toNat | _ => 0) ?_ ⟨0, by omega, by omega, by simp, fun u h1 h2 => by omega⟩
  · obtain ⟨S', e, t, q1, q2⟩ := key
    exact ⟨t, by subst q1; exact e, q2⟩
  · rintro S ⟨t, h0, h1, rfl, hu⟩
    by_cases hd : one ∣ place0 + t * step - start
    · refine .inl ⟨_, ?_, t, rfl, .inl hd⟩
      simp [g_met_1, mPeek, modD_pos ho, Int.emod_eq_zero_of_dvd hd]
    · have hm : (place0 + t * step - start) % one ≠ 0 := fun z => hd (Int.dvd_of_emod_eq_zero z)
      by_cases ht : t ≤ one
      · refine .inr ⟨⟨[A, B].map .sh ++ [.sh (.int (place0 + t * step)), .sh (.int step), .sh (.int one), .sh (.int start), .sh (.int t)], bx⟩, ⟨[A, B].map .sh ++ [.sh (.int (place0 + (t + 1) * step)), .sh (.int step), .sh (.int one), .sh (.int start), .sh (.int (t + 1))], bx⟩, ?_, ?_, ⟨t + 1, by omega, by omega, rfl, fun u a b => ?_⟩, ?_⟩
        · simp [g_met_1, mPeek, modD_pos ho, hm, ht]
        · simp [b_met_2, mPeek, sPar, Int.add_mul, Int.add_assoc]
        · by_cases z : u = t
          · rw [z]; exact hd
          · exact hu u a (by omega)
        · show (one + 1 - (t + 1)).toNat < (one + 1 - t).toNat
          omega
      · refine .inl ⟨_, ?_, t, rfl, .inr fun x hx => sol_fail ho (fun u a b => hu u a (by omega)) x hx⟩
        simp [g_met_1, mPeek, modD_pos ho, hm, ht]
end K25

set_option maxRecDepth 100000
namespace K25
open PySem Gl
def Sat (z : List (Int × Int)) (x : Int) : Prop := ∀ p ∈ z, p.1 ∣ x - p.2
theorem zip_pair : ∀ (l s : List Int), List.zipWith pairD (l.map .int) (s.map .int) = (l.zip s).map fun p => pairD (.int p.1) (.int p.2)
  | [], _ => rfl
  | _ :: _, [] => rfl
  | x :: l, y :: s => by
    show pairD _ _ :: List.zipWith pairD (l.map .int) (s.map .int) = _
    rw [zip_pair l s]
    rfl
theorem take_fold {l : List Int} {i : Nat} {x : Int} (h : l[i]? = some x) : wholeI (l.take (i + 1)) = lcmF (wholeI (l.take i)) x := by
  unfold wholeI
  rw [List.take_succ, h, List.foldl_append]
  rfl
theorem met_ok {l s : List Int} (h : StepsOk l) (hs : s.length = l.length) (bx : Bx) : ∃ r, fe_met.fm [.d (tI l), .d (tI s)] bx = .ret r bx ∧ ((r = .none ∧ ∀ x, ¬ Sat (l.zip s) x) ∨ ∃ p, r = .int p ∧ 0 ≤ p ∧ p < wholeI l ∧ ∀ x, Sat (l.zip s) x ↔ wholeI l ∣ x - p) := by
  obtain ⟨zs, hzs⟩ : ∃ zs, zs = List.zipWith pairD (l.map PyData.int) (s.map PyData.int) := ⟨_, rfl⟩
  have key := loopF_ret (n := 0) (st := stTup 2 (stCons (stName 4) (stCons (stName 5) stNil))) (mb := b_met_4) (ds := zs) (S := ⟨[.sh (tI l), .sh (tI s), .sh (.int 0), .sh (.int 1), .un, .un, .un], bx⟩)
    (P := fun i S => ∃ (place step : Int) (o st t : DV), S = ⟨[.sh (tI l), .sh (tI s), .sh (.int place), .sh (.int step), o, st, t], bx⟩ ∧ 0 < step ∧ step = wholeI (l.take i) ∧ 0 ≤ place ∧ place < step ∧ ∀ x, Sat ((l.zip s).take i) x ↔ step ∣ x - place)
    (Q := fun r S => r = .none ∧ S.bx = bx ∧ ∀ x, ¬ Sat (l.zip s) x) ?_ ⟨0, 1, .un, .un, .un, rfl, by omega, rfl, by omega, by omega, fun x => ⟨fun _ => ⟨x - 0, by omega⟩, fun _ => by simp [Sat]⟩⟩
  · have e0 : sumOk 2 = true := rfl
    have z0 : zipOf [tI l, tI s] = some zs := by rw [hzs]; rfl
    rcases key with ⟨S', e, place, step, o, st, t, rfl, h0, h1, h2, h3, h4⟩ | ⟨r, S', e, rfl, hb, q⟩
    · refine ⟨.int place, fm_ret (S := ⟨[.sh (tI l), .sh (tI s), .sh (.int place), .sh (.int step), o, st, t], bx⟩) rfl rfl ?_ rfl, .inr ⟨place, rfl, h2, ?_, ?_⟩⟩
      · simp [m_met, slotA, mArgV, mVar, check_starts_ok h hs, e0, sStore, stTup, stCons, stName, stNil, f_met_5, z0, e]
      · rw [h1] at h3
        rwa [List.take_of_length_le (by simp [hzs, zip_pair] <;> omega)] at h3
      · intro x
        have := h4 x
        rw [h1] at this
        rwa [List.take_of_length_le (by simp [hzs, zip_pair] <;> omega), List.take_of_length_le (by simp [hzs, zip_pair] <;> omega)] at this
    · refine ⟨.none, fm_ret (S := S') rfl rfl ?_ hb, .inl ⟨rfl, q⟩⟩
      simp [m_met, slotA, mArgV, mVar, check_starts_ok h hs, e0, sStore, stTup, stCons, stName, stNil, f_met_5, z0, e]
  · rintro i d S hd ⟨place, step, o, st, t, rfl, h0, h1, h2, h3, h4⟩
    rw [Nat.zero_add] at h1 h4 ⊢
    rw [hzs, zip_pair, List.getElem?_map] at hd
    cases hz : (l.zip s)[i]? with
    | none => rw [hz] at hd; cases hd
    | some p =>
      obtain ⟨one, start⟩ := p
      rw [hz] at hd
      cases hd
      have hl : l[i]? = some one ∧ s[i]? = some start := by
        rw [List.getElem?_zip_eq_some] at hz
        exact hz
      obtain ⟨o1, o2⟩ := h.2.2 one (List.mem_of_getElem? hl.1)
      refine ⟨[.sh (tI l), .sh (tI s), .sh (.int place), .sh (.int step), .sh (.int one), .sh (.int start), t], rfl, ?_⟩
      obtain ⟨u, e, q⟩ := met_w (A := tI l) (B := tI s) (place0 := place) (step := step) (one := one) (start := start) h0 (by omega) bx
      simp at e
      have hsat : ∀ x, Sat ((l.zip s).take (i + 1)) x ↔ Sat ((l.zip s).take i) x ∧ one ∣ x - start := by
        intro x
        unfold Sat
        rw [List.take_succ, hz]
        simp only [Option.toList_some, List.mem_append, List.mem_singleton]
        constructor
        · exact fun a => ⟨fun p hp => a p (.inl hp), a (one, start) (.inr rfl)⟩
        · rintro ⟨a, b⟩ p (hp | rfl)
          · exact a p hp
          · exact b
      by_cases hd : one ∣ place + u * step - start
      · refine .inl ⟨⟨[.sh (tI l), .sh (tI s), .sh (.int ((place + u * step) % lcmF step one)), .sh (.int (lcmF step one)), .sh (.int one), .sh (.int start), .sh (.int u)], bx⟩, ?_, (place + u * step) % lcmF step one, lcmF step one, _, _, _, rfl, lcmF_pos h0 (by omega), ?_, ?_, ?_, ?_⟩
        · have hp := lcmF_pos h0 (show 0 < one by omega)
          have hg := gcd_le' (w := step) o1
          have hL : step * one / (Int.gcd step one : Int) = lcmF step one := rfl
          have hne : lcmF step one ≠ 0 := by omega
          have hm : Int.fmod (place + u * step) (lcmF step one) = (place + u * step) % lcmF step one := Int.fmod_eq_emod_of_nonneg _ (by omega)
          simp [b_met_4, e, mPeek, mVar, mArgV, modD_pos (show 0 < one by omega), Int.emod_eq_zero_of_dvd hd, common_eq, mulD_ok (i := step) (j := one) (.inr (by omega)), fdivD_pos (gcd_pos' (w := step) o1) (by omega), sAug, augD, augI, hL, hne, hm]
        · rw [take_fold hl.1, h1]
        · exact Int.emod_nonneg _ (by have := lcmF_pos h0 (show 0 < one by omega); omega)
        · exact Int.emod_lt_of_pos _ (lcmF_pos h0 (by omega))
        · intro x
          rw [hsat, h4 x]
          exact sol_ok h0 (by omega) ⟨u, by rw [Int.mul_comm]; omega⟩ hd x
      · refine .inr ⟨.none, ⟨[.sh (tI l), .sh (tI s), .sh (.int (place + u * step)), .sh (.int step), .sh (.int one), .sh (.int start), .sh (.int u)], bx⟩, ?_, rfl, rfl, ?_⟩
        · have hm : (place + u * step - start) % one ≠ 0 := fun z => hd (Int.dvd_of_emod_eq_zero z)
          simp [b_met_4, e, mPeek, mVar, modD_pos (show 0 < one by omega), hm]
        · intro x hx
          have a := (hsat x).mp fun p hp => hx p (List.mem_of_mem_take hp)
          rcases q with q | q
          · exact hd q
          · exact q x ((h4 x).mp a.1) a.2
end K25

set_option maxRecDepth 100000
namespace K25
open PySem Gl
theorem draws : Draws fe__law_draw := ⟨rfl, rfl⟩
theorem commons : Commons fe__law_common := ⟨rfl, rfl⟩
theorem sames : Sames fe__law_same := ⟨rfl, rfl⟩
theorem dig (ns : List Int) (_ : ns.length ≤ 63) : ∃ ds : List Int, fe__law_digits.fm [.d (.list (ns.map .int)), .d (.int 0), .d (.int 63)] none = .ret (.list (ds.map .int)) none := digits_ok ns none
@[simp] theorem ar_lines : fe_lines.ar = 3 := rfl
@[simp] theorem ar_met : fe_met.ar = 2 := rfl
@[simp] theorem ar_mp : fe_met_paper.ar = 2 := rfl
@[simp] theorem ar_ps : fe_paper_shows.ar = 3 := rfl
@[simp] theorem ar_beat : fe_beat.ar = 2 := rfl
@[simp] theorem ar_os : fe_open_share.ar = 2 := rfl
@[simp] theorem ar_cscale : fe_check_scale.ar = 1 := rfl
@[simp] theorem ar_shown : fe_shown.ar = 2 := rfl
@[simp] theorem ar_read : fe_read.ar = 3 := rfl
@[simp] theorem ar_off : fe_off.ar = 3 := rfl
@[simp] theorem ar_draw : fe__law_draw.ar = 2 := rfl
@[simp] theorem ar_pick : fe__law_pick.ar = 2 := rfl
@[simp] theorem ar_same : fe__law_same.ar = 2 := rfl
@[simp] theorem ar_lc : fe__law_common.ar = 2 := rfl
@[simp] theorem ar_low : fe__law_low.ar = 2 := rfl
theorem gcdpos {a b : Int} (h : 0 < b) : 0 < (Int.gcd a b : Int) := gcd_pos' (by omega)
theorem gcdle {a b : Int} (h : 0 < b) : (Int.gcd a b : Int) ≤ b := gcd_le' (by omega)
def redD (a b : Int) : D := .tuple [.int (a / (Int.gcd a b)), .int (b / (Int.gcd a b))]
theorem reduced_ok {a b : Int} (hb : 0 < b) (h2 : b < 1000000000) (bx : Bx) : fe_reduced.fm [.d (.int a), .d (.int b)] bx = .ret (redD a b) bx := by
  have hg := gcdpos (a := a) hb
  have hg2 := gcdle (a := a) hb
  refine fm_ret rfl rfl (S := ⟨[.sh (.int a), .sh (.int b), .sh (.int (Int.gcd a b))], bx⟩) ?_ rfl
  have e2 : sumOk 2 = true := rfl
  simp [m_reduced, slotA, mPeek, mArgV, common_eq, hb, show b ≠ 0 by omega, fdivD_pos hg (by omega), e2, redD]
theorem low_eq {a b : Int} (hb : 0 < b) (h2 : b < 30000) (bx : Bx) : fe__law_low.fm [.d (.int a), .d (.int b)] bx = .ret (redD a b) bx := low_ok commons hb h2 bx
theorem beat_ok {a b : Int} (a1 : 1 ≤ a) (a2 : a ≤ 60) (b1 : 1 ≤ b) (b2 : b ≤ 60) (h : a ≠ b) (bx : Bx) : fe_beat.fm [.d (.int a), .d (.int b)] bx = .ret (redD (a * b) ((a - b).natAbs : Nat)) bx := by
  have e1 := check_steps_ok (l := [a, b]) ⟨by simp, by simp, by simp; omega⟩ bx
  have e2 : sumOk 2 = true := rfl
  simp at e1
  refine fm_ret rfl rfl (S := ⟨[.sh (.int a), .sh (.int b)], bx⟩) ?_ rfl
  simp [m_beat, slotA, mPeek, mVar, e1, e2, h, mulD_ok (i := a) (j := b) (.inl (by omega)), reduced_ok (a := a * b) (b := ((a - b).natAbs : Nat)) (by omega) (by omega)]
theorem beat_bad {a : Int} (a1 : 1 ≤ a) (a2 : a ≤ 60) (bx : Bx) : fe_beat.fm [.d (.int a), .d (.int a)] bx = .exc 2 (.str "steps") bx := by
  have e1 := check_steps_ok (l := [a, a]) ⟨by simp, by simp, by simp; omega⟩ bx
  have e2 : sumOk 2 = true := rfl
  simp at e1
  refine fm_exc rfl rfl ?_
  simp [m_beat, slotA, mPeek, mVar, e1, e2]
/-! scales -/
theorem scale_ok {p : Int} (h1 : 2 ≤ p) (h2 : p ≤ 60) (bx : Bx) : fe_check_scale.fm [.d (.int p)] bx = .ret .none bx := by
  refine fm_next rfl rfl (S := ⟨[.sh (.int p)], bx⟩) ?_ rfl
  simp [m_check_scale, slotA, mPeek, mArgV, isi_int, h1, h2]
theorem line_mod {p : Int} (hp : 0 < p) (a k : Int) : (a + k * (p - 1)) % p = (a - k) % p := by
  have : a + k * (p - 1) = a - k + p * k := by rw [Int.mul_sub, Int.mul_one, Int.mul_comm k p]; omega
  rw [this, Int.add_mul_emod_self_left]
theorem first_line {p a : Int} (hp : 0 < p) (ha : 0 ≤ a) : ((List.range p.toNat).map fun i => ((i : Nat) : Int)).filter (fun k => decide ((a - k) % p = 0)) = [a % p] := by
  have h1 := Int.emod_nonneg a (by omega : p ≠ 0)
  have h2 := Int.emod_lt_of_pos a hp
  have key : ∀ k : Int, 0 ≤ k → k < p → (decide ((a - k) % p = 0) = decide (k = a % p)) := fun k k0 k1 => by
    congr 1
    apply propext
    constructor
    · intro h
      have h3 : (a - a % p) % p = 0 := by rw [Int.sub_emod, Int.emod_emod, Int.sub_self, Int.zero_emod]
      have d1 := Int.dvd_of_emod_eq_zero h
      have d2 := Int.dvd_of_emod_eq_zero h3
      have d3 := Int.dvd_sub d2 d1
      rw [show a - a % p - (a - k) = k - a % p by omega] at d3
      obtain ⟨q, hq⟩ := d3
      by_cases hq0 : q = 0
      · rw [hq0, Int.mul_zero] at hq; omega
      · by_cases hq1 : 0 < q
        · have := Int.mul_le_mul_of_nonneg_left (show (1 : Int) ≤ q by omega) (show 0 ≤ p by omega)
          omega
        · have := Int.mul_le_mul_of_nonneg_left (show q ≤ -1 by omega) (show 0 ≤ p by omega)
          omega
    · rintro rfl
      rw [Int.sub_emod, Int.emod_emod, Int.sub_self, Int.zero_emod]
  obtain ⟨n, rfl⟩ := Int.eq_ofNat_of_zero_le (show 0 ≤ p by omega)
  obtain ⟨m, hm⟩ := Int.eq_ofNat_of_zero_le h1
  rw [hm] at h2 key ⊢
  have gen : ∀ n' : Nat, n' ≤ n → ((List.range n').map fun i => ((i : Nat) : Int)).filter (fun k => decide ((a - k) % (n : Int) = 0)) = if m < n' then [(m : Int)] else [] := by
    intro n'
    induction n' with
    | zero => intro _; rfl
    | succ j ih =>
      intro hj
      rw [List.range_succ, List.map_append, List.filter_append, ih (by omega), List.map_singleton, List.filter_cons, List.filter_nil, key j (by omega) (by omega)]
      by_cases h : m < j
      · simp [h, show ¬ (j : Int) = m by omega, show m < j + 1 by omega]
      · by_cases h' : m = j
        · subst h'
          simp
        · simp [h, show ¬ (j : Int) = m by omega, show ¬ m < j + 1 by omega]
  rw [Int.toNat_natCast, gen n (Nat.le_refl _), if_pos (by omega)]
theorem shown_ok {p a : Int} (h1 : 2 ≤ p) (h2 : p ≤ 60) (ha : 0 ≤ a) (bx : Bx) : fe_shown.fm [.d (.int p), .d (.int a)] bx = .ret (.tuple [.int (a / p), .int (a % p)]) bx := by
  have hc : c_shown_1 ⟨[.sh (.int p), .sh (.int a), .sh (.int (a / p)), .un, .un], bx⟩ = .ok (lI [a % p]) ⟨[.sh (.int p), .sh (.int a), .sh (.int (a / p)), .un, .un], bx⟩ := by
    unfold c_shown_1
    refine comp_pure (l := (List.range p.toNat).map fun i => ((i : Nat) : Int)) PyData.int (fun k => decide ((a - k) % p = 0)) PyData.int (S1 := ⟨[.sh (.int p), .sh (.int a), .sh (.int (a / p)), .un, .un], bx⟩) ?_ rfl (fun x hx => ?_) (by simp; omega) ?_
    · simp [mVar, range1 (show 0 ≤ p by omega) (by omega)]
    · refine ⟨[.sh (.int p), .sh (.int a), .sh (.int (a / p)), .un, .sh (.int x)], ⟨[.sh (.int p), .sh (.int a), .sh (.int (a / p)), .un, .sh (.int x)], bx⟩, rfl, ?_, rfl, fun _ => ⟨⟨[.sh (.int p), .sh (.int a), .sh (.int (a / p)), .un, .sh (.int x)], bx⟩, rfl, rfl⟩⟩
      simp [mPeek, modD_pos (show 0 < p by omega), mulD_ok (i := x) (j := p - 1) (.inr (by omega)), line_mod (show 0 < p by omega)]
    · rw [first_line (by omega) ha]
  refine fm_ret rfl rfl (S := ⟨[.sh (.int p), .sh (.int a), .sh (.int (a / p)), .sh (lI [a % p]), .un], bx⟩) ?_ rfl
  have e2 : sumOk 2 = true := rfl
  have e3 : ixD (lI [a % p]) (.int 0) = some (.int (a % p)) := rfl
  have e4 : ∀ (S : Sto), S.sl[3]? = some (.sh (lI [a % p])) → mBox 3 0 (mOp2 ixD (mPeek 3) (mC (.int 0))) S = .ok (.int (a % p)) S := fun S h => by
    rw [bx_no h]
    simp [mPeek, h, e3]
  simp [m_shown, slotA, mPeek, mArgV, mVar, scale_ok h1 h2, isi_int, show ¬ a < 0 by omega, fdivD_pos (show 0 < p by omega) (by omega), hc, e2, e4]
theorem shown_bad {p : Int} (h1 : 2 ≤ p) (h2 : p ≤ 60) (bx : Bx) : fe_shown.fm [.d (.int p), .d (.int (-1))] bx = .exc 0 (.str "place") bx := by
  refine fm_exc rfl rfl ?_
  simp [m_shown, slotA, mPeek, mArgV, mVar, scale_ok h1 h2, isi_int]
theorem read_ok {p a b : Int} (h1 : 2 ≤ p) (h2 : p ≤ 60) (ha : 0 ≤ a) (b0 : 0 ≤ b) (b1 : b < p) (bx : Bx) : fe_read.fm [.d (.int p), .d (.int a), .d (.int b)] bx = .ret (.int (a * p + b)) bx := by
  refine fm_ret rfl rfl (S := ⟨[.sh (.int p), .sh (.int a), .sh (.int b)], bx⟩) ?_ rfl
  simp [m_read, slotA, mPeek, mArgV, mVar, scale_ok h1 h2, isi_int, show ¬ a < 0 by omega, b0, b1, mulD_ok (i := a) (j := p) (.inr (by omega))]
theorem read_bad {p : Int} (h1 : 2 ≤ p) (h2 : p ≤ 60) (bx : Bx) : fe_read.fm [.d (.int p), .d (.int 0), .d (.int p)] bx = .exc 2 (.str "line") bx := by
  refine fm_exc rfl rfl ?_
  simp [m_read, slotA, mPeek, mArgV, mVar, scale_ok h1 h2, isi_int, show (0 : Int) ≤ p by omega]
theorem off_ok {p a b : Int} (h1 : 2 ≤ p) (h2 : p ≤ 60) (ha : 0 ≤ a) (b0 : 0 ≤ b) (b1 : b < p) (bx : Bx) : fe_off.fm [.d (.int p), .d (.int a), .d (.int b)] bx = .ret (.int ((a - b) % p)) bx := by
  refine fm_ret rfl rfl (S := ⟨[.sh (.int p), .sh (.int a), .sh (.int b)], bx⟩) ?_ rfl
  simp [m_off, slotA, mPeek, mArgV, mVar, read_ok h1 h2 (a := 0) (by omega) b0 b1, isi_int, show ¬ a < 0 by omega, modD_pos (show 0 < p by omega), mulD_ok (i := b) (j := p - 1) (.inr (by omega)), line_mod (show 0 < p by omega)]
end K25

set_option maxRecDepth 100000
namespace K25
open PySem PySem.Spec PyProof.Rows L2 Gl
theorem lcmF_le {w o a : Int} (hw : 0 < w) (ho : 0 < o) (h1 : w ≤ a) (h2 : o ≤ 60) : lcmF w o ≤ a * 60 := by
  have : lcmF w o ≤ w * o := Int.ediv_le_self _ (Int.mul_nonneg (by omega) (by omega))
  have : w * o ≤ a * 60 := Int.mul_le_mul h1 h2 (by omega) (by omega)
  omega
theorem whole_bd {l : List Int} (h : StepsOk l) : 0 < wholeI l ∧ wholeI l ≤ 216000 := by
  obtain ⟨h1, h2, h3⟩ := h
  match l, h1, h2, h3 with
  | [a], _, _, h3 =>
    have ha := h3 a (by simp)
    have p1 := lcmF_pos (w := 1) (o := a) (by omega) (by omega)
    have q1 := lcmF_le (w := 1) (o := a) (a := 1) (by omega) (by omega) (by omega) (by omega)
    show 0 < lcmF 1 a ∧ lcmF 1 a ≤ _
    omega
  | [a, b], _, _, h3 =>
    have ha := h3 a (by simp)
    have hb := h3 b (by simp)
    have p1 := lcmF_pos (w := 1) (o := a) (by omega) (by omega)
    have q1 := lcmF_le (w := 1) (o := a) (a := 1) (by omega) (by omega) (by omega) (by omega)
    have p2 := lcmF_pos (w := lcmF 1 a) (o := b) (by omega) (by omega)
    have q2 := lcmF_le (w := lcmF 1 a) (o := b) (a := 60) (by omega) (by omega) (by omega) (by omega)
    show 0 < lcmF (lcmF 1 a) b ∧ lcmF (lcmF 1 a) b ≤ _
    omega
  | [a, b, c], _, _, h3 =>
    have ha := h3 a (by simp)
    have hb := h3 b (by simp)
    have hc := h3 c (by simp)
    have p1 := lcmF_pos (w := 1) (o := a) (by omega) (by omega)
    have q1 := lcmF_le (w := 1) (o := a) (a := 1) (by omega) (by omega) (by omega) (by omega)
    have p2 := lcmF_pos (w := lcmF 1 a) (o := b) (by omega) (by omega)
    have q2 := lcmF_le (w := lcmF 1 a) (o := b) (a := 60) (by omega) (by omega) (by omega) (by omega)
    have p3 := lcmF_pos (w := lcmF (lcmF 1 a) b) (o := c) (by omega) (by omega)
    have q3 := lcmF_le (w := lcmF (lcmF 1 a) b) (o := c) (a := 3600) (by omega) (by omega) (by omega) (by omega)
    show 0 < lcmF (lcmF (lcmF 1 a) b) c ∧ lcmF (lcmF (lcmF 1 a) b) c ≤ _
    omega
  | [], h1, _, _ => simp at h1
  | _ :: _ :: _ :: _ :: _, _, h2, _ => simp at h2
def rangeI (n : Int) : List Int := (List.range n.toNat).map fun i => ((i : Nat) : Int)
theorem rangeI_len (n : Int) : (rangeI n).length = n.toNat := by simp [rangeI]
theorem range_I {n : Int} (h : 0 ≤ n) (h2 : n < 2 ^ 62) : rangeOf [.int n] = some ((rangeI n).map .int) := by
  rw [range1 h h2]
  simp [rangeI]
def freeI (l : List Int) (wide : Int) : List Int := (rangeI (wholeI l)).filter fun k => l.all fun o => decide (wide ≤ k % o)
theorem open_share_ok {l : List Int} {wide : Int} (h : StepsOk l) (hw : 0 ≤ wide) (bx : Bx) : fe_open_share.fm [.d (tI l), .d (.int wide)] bx = .ret (redD (freeI l wide).length (wholeI l)) bx := by
  obtain ⟨w1, w2⟩ := whole_bd h
  have hc1 : ∀ k : Int, c_open_share_1 ⟨[.sh (tI l), .sh (.int wide), .sh (.int (wholeI l)), .un, .sh (.int k), .un], bx⟩ = .ok (.list (l.map fun o => .bool (decide (wide ≤ k % o)))) ⟨[.sh (tI l), .sh (.int wide), .sh (.int (wholeI l)), .un, .sh (.int k), .un], bx⟩ := fun k => by
    unfold c_open_share_1
    refine comp_pure (l := l) PyData.int (fun _ => true) (fun o => .bool (decide (wide ≤ k % o))) (S1 := ⟨[.sh (tI l), .sh (.int wide), .sh (.int (wholeI l)), .un, .sh (.int k), .un], bx⟩) ?_ rfl (fun x hx => ?_) (by have := h.2.1; omega) (by rw [List.filter_eq_self.mpr (by simp)])
    · simp [mVar]
    · obtain ⟨x1, x2⟩ := h.2.2 x hx
      refine ⟨[.sh (tI l), .sh (.int wide), .sh (.int (wholeI l)), .un, .sh (.int k), .sh (.int x)], ⟨[.sh (tI l), .sh (.int wide), .sh (.int (wholeI l)), .un, .sh (.int k), .sh (.int x)], bx⟩, rfl, rfl, rfl, fun _ => ⟨⟨[.sh (tI l), .sh (.int wide), .sh (.int (wholeI l)), .un, .sh (.int k), .sh (.int x)], bx⟩, ?_, rfl⟩⟩
      simp [mPeek, modD_pos (show 0 < x by omega)]
  have hc2 : c_open_share_2 ⟨[.sh (tI l), .sh (.int wide), .sh (.int (wholeI l)), .un, .un, .un], bx⟩ = .ok (lI (freeI l wide)) ⟨[.sh (tI l), .sh (.int wide), .sh (.int (wholeI l)), .un, .un, .un], bx⟩ := by
    unfold c_open_share_2
    refine comp_pure (l := rangeI (wholeI l)) PyData.int (fun k => l.all fun o => decide (wide ≤ k % o)) PyData.int (S1 := ⟨[.sh (tI l), .sh (.int wide), .sh (.int (wholeI l)), .un, .un, .un], bx⟩) ?_ rfl (fun x hx => ?_) (by rw [rangeI_len]; omega) rfl
    · simp [mVar, range_I (show 0 ≤ wholeI l by omega) (by omega)]
    · refine ⟨[.sh (tI l), .sh (.int wide), .sh (.int (wholeI l)), .un, .sh (.int x), .un], ⟨[.sh (tI l), .sh (.int wide), .sh (.int (wholeI l)), .un, .sh (.int x), .un], bx⟩, rfl, ?_, rfl, fun _ => ⟨⟨[.sh (tI l), .sh (.int wide), .sh (.int (wholeI l)), .un, .sh (.int x), .un], bx⟩, rfl, rfl⟩⟩
      rw [z_tru, z_op1]
      show (((c_open_share_1 ⟨[.sh (tI l), .sh (.int wide), .sh (.int (wholeI l)), .un, .sh (.int x), .un], bx⟩).bind _).bind _) = _
      rw [hc1 x, z_ok, all_map]
      rfl
  refine fm_ret rfl rfl (S := ⟨[.sh (tI l), .sh (.int wide), .sh (.int (wholeI l)), .sh (lI (freeI l wide)), .un, .un], bx⟩) ?_ rfl
  simp [m_open_share, slotA, mPeek, mArgV, mVar, check_steps_ok h, isi_int, show ¬ wide < 0 by omega, period_ok h, hc2, reduced_ok (a := ((freeI l wide).length : Nat)) w1 (by omega)]
theorem open_share_bad {l : List Int} (h : StepsOk l) (bx : Bx) : fe_open_share.fm [.d (tI l), .d (.int (-1))] bx = .exc 0 (.str "wide") bx := by
  refine fm_exc rfl rfl ?_
  simp [m_open_share, slotA, mPeek, mArgV, mVar, check_steps_ok h, isi_int]
theorem free_zero {l : List Int} (h : StepsOk l) : (freeI l 0).length = wholeI l := by
  obtain ⟨w1, w2⟩ := whole_bd h
  unfold freeI
  rw [List.filter_eq_self.mpr, rangeI_len]
  · omega
  · intro k _
    rw [List.all_eq_true]
    intro o ho
    have := h.2.2 o ho
    exact decide_eq_true (Int.emod_nonneg _ (by omega))
theorem red_self {n : Int} (h : 0 < n) : redD n n = .tuple [.int 1, .int 1] := by
  unfold redD
  rw [Int.gcd_self, show ((n.natAbs : Nat) : Int) = n by omega, Int.ediv_self (by omega)]
/-! the papers -/
def gI (l : List Int) (i : Int) : Int := l.getD i.toNat 0
theorem at_int {l : List Int} {i : Int} (h0 : 0 ≤ i) (h1 : i < l.length) : ixD (tI l) (.int i) = some (.int (gI l i)) := by
  show atI (l.map PyData.int) i = _
  rw [at_nat h0 (by simpa using h1), List.getElem?_map]
  have : l[i.toNat]? = some (l[i.toNat]'(by omega)) := List.getElem?_eq_getElem _
  rw [this]
  unfold gI
  rw [List.getD_eq_getElem?_getD, this]
  rfl
theorem gI_mem {l : List Int} {i : Int} (h0 : 0 ≤ i) (h1 : i < l.length) : gI l i ∈ l := by
  have : l[i.toNat]? = some (l[i.toNat]'(by omega)) := List.getElem?_eq_getElem _
  unfold gI
  rw [List.getD_eq_getElem?_getD, this]
  exact List.getElem_mem _
def bad (l s : List Int) (i j : Int) : Bool := !decide ((gI s i - gI s j) % (Int.gcd (gI l i) (gI l j) : Int) = 0)
def laterI (n i : Int) : List Int := (List.range (n - (i + 1)).toNat).map fun k => i + 1 + (k : Nat)
theorem range_L {n i : Int} (h0 : 0 ≤ i) (h1 : i < n) (h2 : n < 1000) : rangeOf [.int (i + 1), .int n] = some ((laterI n i).map .int) := by
  rw [range2 (by omega) (by omega) (by omega) (by omega)]
  simp [laterI]
theorem mem_later {n i k : Int} (h : k ∈ laterI n i) : i < k ∧ k < n := by
  unfold laterI at h
  simp at h
  omega
theorem mem_rangeI {n k : Int} (h : k ∈ rangeI n) : 0 ≤ k ∧ k < n := by
  unfold rangeI at h
  simp at h
  omega
def pr (i j : Int) : D := .tuple [.int i, .int j]
def firstBad (l s : List Int) : Option D := (rangeI l.length).findSome? fun i => (laterI l.length i).findSome? fun j => if bad l s i j then some (pr i j) else none
end K25

set_option maxRecDepth 100000
namespace K25
open PySem PySem.Spec PyProof.Rows L2 Gl
theorem mp_inner {l s : List Int} (h : StepsOk l) (hs : s.length = l.length) (bx : Bx) : ∀ (i : Int) (o : DV), 0 ≤ i → i < l.length → ((laterI l.length i).findSome? (fun j => if bad l s i j then some (pr i j) else none) = none ∧ ∃ o', f_met_paper_2 ⟨[.sh (tI l), .sh (tI s), .sh (.int i), o], bx⟩ = .next ⟨[.sh (tI l), .sh (tI s), .sh (.int i), o'], bx⟩) ∨
    ∃ r S', (laterI l.length i).findSome? (fun j => if bad l s i j then some (pr i j) else none) = some r ∧ f_met_paper_2 ⟨[.sh (tI l), .sh (tI s), .sh (.int i), o], bx⟩ = .ret r S' ∧ S'.bx = bx := by
  have e2 : sumOk 2 = true := rfl
  intro i o i0 i1
  have hr : rangeOf [.int (i + 1), .int (l.length : Nat)] = some ((laterI l.length i).map .int) := range_L i0 i1 (by have := h.2.1; omega)
  have hf : f_met_paper_2 ⟨[.sh (tI l), .sh (tI s), .sh (.int i), o], bx⟩ = loopF (stName 3) b_met_paper_1 ((laterI l.length i).map .int) ⟨[.sh (tI l), .sh (tI s), .sh (.int i), o], bx⟩ := by
    unfold f_met_paper_2
    simp [mPeek, hr]
  rw [hf]
  clear hf hr
  have hm : ∀ j ∈ laterI l.length i, i < j ∧ j < l.length := fun j hj => mem_later hj
  generalize laterI l.length i = js at hm
  induction js generalizing o with
  | nil => exact .inl ⟨rfl, o, rfl⟩
  | cons j js ih =>
    obtain ⟨j0, j1⟩ := hm j (by simp)
    have gi := h.2.2 _ (gI_mem i0 i1)
    have gj := h.2.2 _ (gI_mem (l := l) (show 0 ≤ j by omega) j1)
    have hg : 0 < (Int.gcd (gI l i) (gI l j) : Int) := gcdpos (by omega)
    have hb : b_met_paper_1 ⟨[.sh (tI l), .sh (tI s), .sh (.int i), .sh (.int j)], bx⟩ = if bad l s i j then .ret (pr i j) ⟨[.sh (tI l), .sh (tI s), .sh (.int i), .sh (.int j)], bx⟩ else .next ⟨[.sh (tI l), .sh (tI s), .sh (.int i), .sh (.int j)], bx⟩ := by
      have a1 := at_int (l := l) i0 i1
      have a2 := at_int (l := l) (show 0 ≤ j by omega) j1
      have a3 := at_int (l := s) i0 (by omega)
      have a4 := at_int (l := s) (show 0 ≤ j by omega) (by omega)
      by_cases hz : (gI s i - gI s j) % (Int.gcd (gI l i) (gI l j) : Int) = 0
      · simp [b_met_paper_1, mPeek, mVar, a1, a2, a3, a4, common_eq, modD_pos hg, hz, bad]
      · simp [b_met_paper_1, mPeek, mVar, a1, a2, a3, a4, common_eq, modD_pos hg, hz, bad, e2, pr]
    rw [List.findSome?_cons, List.map_cons]
    cases hbd : bad l s i j with
    | true =>
      rw [hbd, if_pos rfl] at hb
      refine .inr ⟨_, _, rfl, loopF_out rfl hb, rfl⟩
    | false =>
      rw [hbd, if_neg (by simp)] at hb
      rw [loopF_next rfl hb]
      exact ih _ fun j hj => hm j (List.mem_cons_of_mem _ hj)
theorem mp_outer {l s : List Int} (h : StepsOk l) (hs : s.length = l.length) (bx : Bx) : ∀ (is : List Int) (o1 o2 : DV), (∀ i ∈ is, 0 ≤ i ∧ i < l.length) → (is.findSome? (fun i => (laterI l.length i).findSome? fun j => if bad l s i j then some (pr i j) else none) = none ∧ ∃ o1' o2', loopF (stName 2) b_met_paper_3 (is.map .int) ⟨[.sh (tI l), .sh (tI s), o1, o2], bx⟩ = .next ⟨[.sh (tI l), .sh (tI s), o1', o2'], bx⟩) ∨
    ∃ r S', is.findSome? (fun i => (laterI l.length i).findSome? fun j => if bad l s i j then some (pr i j) else none) = some r ∧ loopF (stName 2) b_met_paper_3 (is.map .int) ⟨[.sh (tI l), .sh (tI s), o1, o2], bx⟩ = .ret r S' ∧ S'.bx = bx := by
  intro is
  induction is with
  | nil => exact fun o1 o2 _ => .inl ⟨rfl, o1, o2, rfl⟩
  | cons i is ih =>
    intro o1 o2 hm
    obtain ⟨i0, i1⟩ := hm i (by simp)
    rw [List.findSome?_cons, List.map_cons]
    rcases mp_inner h hs bx i o2 i0 i1 with ⟨e, o', f⟩ | ⟨r, S', e, f, hb⟩
    · rw [e, loopF_next (S' := ⟨[.sh (tI l), .sh (tI s), .sh (.int i), o'], bx⟩) rfl (by unfold b_met_paper_3; rw [z_seq]; show (f_met_paper_2 ⟨[.sh (tI l), .sh (tI s), .sh (.int i), o2], bx⟩).bind _ = _; rw [f]; rfl)]
      exact ih _ _ fun i hi => hm i (List.mem_cons_of_mem _ hi)
    · rw [e]
      exact .inr ⟨r, S', rfl, loopF_out rfl (by unfold b_met_paper_3; rw [z_seq]; show (f_met_paper_2 ⟨[.sh (tI l), .sh (tI s), .sh (.int i), o2], bx⟩).bind _ = _; rw [f]; rfl), hb⟩
theorem mp_hr {l : List Int} (h : StepsOk l) : rangeOf [.int (l.length : Nat)] = some ((rangeI l.length).map .int) := range_I (by omega) (by have := h.2.1; omega)
theorem mp_hf {l s : List Int} (h : StepsOk l) (bx : Bx) : f_met_paper_4 ⟨[.sh (tI l), .sh (tI s), .un, .un], bx⟩ = loopF (stName 2) b_met_paper_3 ((rangeI l.length).map .int) ⟨[.sh (tI l), .sh (tI s), .un, .un], bx⟩ := by
  have hr := mp_hr h
  unfold f_met_paper_4
  simp [mPeek, hr]
theorem met_paper_ok {l s : List Int} (h : StepsOk l) (hs : s.length = l.length) (bx : Bx) : fe_met_paper.fm [.d (tI l), .d (tI s)] bx = .ret ((firstBad l s).getD .none) bx := by
  have hf := mp_hf (s := s) h bx
  have e0 := check_starts_ok h hs bx
  rcases mp_outer h hs bx (rangeI l.length) .un .un fun i hi => mem_rangeI hi with ⟨e, o1, o2, f⟩ | ⟨r, S', e, f, hb⟩
  · have e : firstBad l s = none := e
    rw [e]
    refine fm_ret (d := .none) rfl rfl (S := ⟨[.sh (tI l), .sh (tI s), o1, o2], bx⟩) ?_ rfl
    rw [f] at hf
    simp [m_met_paper, slotA, mArgV, e0, hf]
  · have e : firstBad l s = some r := e
    rw [e]
    refine fm_ret (d := r) rfl rfl (S := S') ?_ hb
    rw [f] at hf
    simp [m_met_paper, slotA, mArgV, e0, hf]
end K25

set_option maxRecDepth 100000
namespace K25
open PySem PySem.Spec PyProof.Rows L2 Gl
theorem isi_bool (b : Bool) (bx : Bx) : fe_is_integer.fm [.d (.bool b)] bx = .ret (.bool false) bx := by cases b <;> rfl
section
variable {l s : List Int} (h : StepsOk l) (hs : s.length = l.length) (bx : Bx)
include h hs
theorem ps_pair {i j : Int} (i0 : 0 ≤ i) (i1 : i < l.length) (j0 : 0 ≤ j) (j1 : j < l.length) : fe_paper_shows.fm [.d (tI l), .d (tI s), .d (pr i j)] bx = .ret (.bool (bad l s i j)) bx := by
  have hc : c_paper_shows_1 ⟨[.sh (tI l), .sh (tI s), .sh (pr i j), .un, .un, .un], bx⟩ = .ok (.list ([i, j].map fun _ => .bool true)) ⟨[.sh (tI l), .sh (tI s), .sh (pr i j), .un, .un, .un], bx⟩ := by
    unfold c_paper_shows_1
    refine comp_pure (l := [i, j]) PyData.int (fun _ => true) (fun _ => .bool true) rfl rfl (fun x hx => ?_) (by simp) (by simp)
    refine ⟨[.sh (tI l), .sh (tI s), .sh (pr i j), .un, .un, .sh (.int x)], ⟨[.sh (tI l), .sh (tI s), .sh (pr i j), .un, .un, .sh (.int x)], bx⟩, rfl, rfl, rfl, fun _ => ⟨⟨[.sh (tI l), .sh (tI s), .sh (pr i j), .un, .un, .sh (.int x)], bx⟩, ?_, rfl⟩⟩
    have : 0 ≤ x ∧ x < l.length := by
      simp at hx
      rcases hx with rfl | rfl
      · exact ⟨i0, i1⟩
      · exact ⟨j0, j1⟩
    simp [mArgV, mPeek, isi_int, this.1, this.2]
  have a1 := at_int (l := l) i0 i1
  have a2 := at_int (l := l) j0 j1
  have a3 := at_int (l := s) i0 (by omega)
  have a4 := at_int (l := s) j0 (by omega)
  have gi := h.2.2 _ (gI_mem i0 i1)
  have gj := h.2.2 _ (gI_mem (l := l) j0 j1)
  have hg : 0 < (Int.gcd (gI l i) (gI l j) : Int) := gcdpos (by omega)
  have al := all_true [i, j]
  refine fm_ret rfl rfl (S := ⟨[.sh (tI l), .sh (tI s), .sh (pr i j), .sh (.int i), .sh (.int j), .un], bx⟩) ?_ rfl
  have hc' := hc
  have e1 : instD "tuple" (pr i j) = some (.bool true) := rfl
  have e2 : lenD (pr i j) = some (.int 2) := rfl
  have e3 : sStore (stTup 2 (stCons (stName 3) (stCons (stName 4) stNil))) (pr i j) ⟨[.sh (tI l), .sh (tI s), .sh (pr i j), .un, .un, .un], bx⟩ = .next ⟨[.sh (tI l), .sh (tI s), .sh (pr i j), .sh (.int i), .sh (.int j), .un], bx⟩ := rfl
  simp [m_paper_shows, slotA, mArgV, mPeek, mVar, check_starts_ok h hs, e1, e2, hc', e3, a1, a2, a3, a4, common_eq, modD_pos hg, bad]
  simp at al
  simp [al, mPeek, mVar, check_starts_ok h hs, e1, e2, hc', e3, a1, a2, a3, a4, common_eq, modD_pos hg, bad]
theorem ps_none : fe_paper_shows.fm [.d (tI l), .d (tI s), .d .none] bx = .ret (.bool false) bx := by
  refine fm_ret rfl rfl (S := ⟨[.sh (tI l), .sh (tI s), .sh .none, .un, .un, .un], bx⟩) ?_ rfl
  simp [m_paper_shows, slotA, mArgV, mPeek, check_starts_ok h hs, instD, tyD, isaB]
theorem ps_list (ds : List D) : fe_paper_shows.fm [.d (tI l), .d (tI s), .d (.list ds)] bx = .ret (.bool false) bx := by
  refine fm_ret rfl rfl (S := ⟨[.sh (tI l), .sh (tI s), .sh (.list ds), .un, .un, .un], bx⟩) ?_ rfl
  simp [m_paper_shows, slotA, mArgV, mPeek, check_starts_ok h hs, instD, tyD, isaB]
theorem ps_one (d : D) : fe_paper_shows.fm [.d (tI l), .d (tI s), .d (.tuple [d])] bx = .ret (.bool false) bx := by
  refine fm_ret rfl rfl (S := ⟨[.sh (tI l), .sh (tI s), .sh (.tuple [d]), .un, .un, .un], bx⟩) ?_ rfl
  simp [m_paper_shows, slotA, mArgV, mPeek, check_starts_ok h hs, instD, tyD, isaB]
def fineD (n : Int) (d : D) : Bool := match d with
  | .int x => decide (0 ≤ x ∧ x < n)
  | _ => false
theorem ps_odd {d e : D} (hd : (∃ b, d = .bool b) ∨ ∃ x, d = .int x) (he : (∃ b, e = .bool b) ∨ ∃ x, e = .int x) (hz : (fineD l.length d && fineD l.length e) = false) : fe_paper_shows.fm [.d (tI l), .d (tI s), .d (.tuple [d, e])] bx = .ret (.bool false) bx := by
  have hc : c_paper_shows_1 ⟨[.sh (tI l), .sh (tI s), .sh (.tuple [d, e]), .un, .un, .un], bx⟩ = .ok (.list ([d, e].map fun d => .bool (fineD l.length d))) ⟨[.sh (tI l), .sh (tI s), .sh (.tuple [d, e]), .un, .un, .un], bx⟩ := by
    unfold c_paper_shows_1
    refine comp_pure (l := [d, e]) id (fun _ => true) (fun d => .bool (fineD l.length d)) rfl rfl (fun x hx => ?_) (by simp) (by simp)
    refine ⟨[.sh (tI l), .sh (tI s), .sh (.tuple [d, e]), .un, .un, .sh x], ⟨[.sh (tI l), .sh (tI s), .sh (.tuple [d, e]), .un, .un, .sh x], bx⟩, rfl, rfl, rfl, fun _ => ⟨⟨[.sh (tI l), .sh (tI s), .sh (.tuple [d, e]), .un, .un, .sh x], bx⟩, ?_, rfl⟩⟩
    have : (∃ b, x = .bool b) ∨ ∃ y, x = .int y := by
      simp at hx
      rcases hx with rfl | rfl
      · exact hd
      · exact he
    rcases this with ⟨b, rfl⟩ | ⟨y, rfl⟩
    · simp [mArgV, mPeek, isi_bool, fineD]
    · by_cases y0 : 0 ≤ y
      · simp [mArgV, mPeek, isi_int, fineD, y0]
      · simp [mArgV, mPeek, isi_int, fineD, y0]
  have al := all_map (fineD l.length) [d, e]
  have e9 : [d, e].all (fineD l.length) = false := by simpa using hz
  rw [e9] at al
  refine fm_ret rfl rfl (S := ⟨[.sh (tI l), .sh (tI s), .sh (.tuple [d, e]), .un, .un, .un], bx⟩) ?_ rfl
  simp only [List.map] at hc al
  simp [m_paper_shows, slotA, mArgV, mPeek, check_starts_ok h hs, instD, tyD, isaB, hc, al]
end
end K25

set_option maxRecDepth 100000
namespace K25
open PySem PySem.Spec PyProof.Rows L2 Gl
theorem told_exc {js : List Nat} {h : Nat → Option Str} {m : M D} {S : Sto} {n : Nat} {d : D} {bx' : Bx} {tag : Str} (hS : shareJs S js = S) (hm : m ⟨S.sl.map hideD, S.bx⟩ = .exc n d bx') (ht : h n = some tag) : mTold js h m S = .ok (.list [.str tag, d]) { S with bx := bx' } := by
  simp only [mTold, hS, hm, ht]
theorem eq_told {x y : Str} (hx : PyData.strOk x = true) (hy : PyData.strOk y = true) : eqD (.list [.str x, .str y]) (.list [.str x, .str y]) = some true := by
  have e : shp (.list [.str x, .str y]) = true := by
    show (PyData.canLay0 (.list [.str x, .str y]) && decide (PyData.depth (.list [.str x, .str y]) ≤ 64)) = true
    simp only [PyData.canLay0, PyData.canLayAll0, hx, hy]
    rfl
  show (if (shp (.list [.str x, .str y]) && shp (.list [.str x, .str y])) = true then _ else _) = _
  rw [e, PyData.eqv, PyData.eqvAll, PyData.eqvAll, PyData.eqvAll, eqv_str, eqv_str]
  rfl
theorem ne_of_eq {a b : D} {k : Bool} (h : eqD a b = some k) : neD a b = some (!k) := by
  unfold eqD at h
  unfold neD
  split at h
  · next e =>
    rw [if_pos e]
    cases h
    rfl
  · cases h
/-- the slots that stay -/
structure Base (l s : List Int) (sl : List DV) : Prop where
  len : sl.length = 24
  b16 : sl[16]? = some .bx
  b19 : sl[19]? = some (.sh (tI s))
  b20 : sl[20]? = some (.sh (tI l))
theorem Base.set {l s : List Int} {sl : List DV} (B : Base l s sl) {i : Nat} {x : DV} (h : i ≠ 16 ∧ i ≠ 19 ∧ i ≠ 20) : Base l s (sl.set i x) := by
  refine ⟨by rw [List.length_set]; exact B.len, ?_, ?_, ?_⟩
  · rw [List.getElem?_set_ne (by omega)]; exact B.b16
  · rw [List.getElem?_set_ne (by omega)]; exact B.b19
  · rw [List.getElem?_set_ne (by omega)]; exact B.b20
theorem get_same {sl : List DV} {i : Nat} {x : DV} (h : i < sl.length) : (sl.set i x)[i]? = some x := by
  rw [List.getElem?_set_self h]
theorem get_other {sl : List DV} {i j : Nat} {x : DV} {y : Option DV} (h : i ≠ j) (g : sl[j]? = y) : (sl.set i x)[j]? = y := by
  rw [List.getElem?_set_ne h]; exact g
theorem js1 {sl : List DV} {bx : Bx} {i : Nat} {d : D} (h : sl[i]? = some (.sh d)) : shareJ ⟨sl, bx⟩ i = ⟨sl, bx⟩ := j_sh fun e z => by
  have z : sl[i]? = _ := z
  rw [h] at z; cases z
theorem js_bx {sl : List DV} {bx : Bx} {i : Nat} (h : sl[i]? = some .bx) : shareJ ⟨sl, bx⟩ i = ⟨sl, bx⟩ := j_sh fun e z => by
  have z : sl[i]? = _ := z
  rw [h] at z; cases z
theorem hide_sh {sl : List DV} {i : Nat} {d : D} (h : sl[i]? = some (.sh d)) : (sl.map hideD)[i]? = some (.sh d) := by rw [List.getElem?_map, h]; rfl
theorem hide_bx {sl : List DV} {i : Nat} (h : sl[i]? = some .bx) : (sl.map hideD)[i]? = some .bx := by rw [List.getElem?_map, h]; rfl
theorem if_next {m : M Bool} {a : MS} {S S1 : Sto} (h : m S = .ok false S1) : sIf m a sNext S = .next S1 := by
  rw [z_sif, h]; rfl
theorem ne_next {ma mb : M D} {a : MS} {S S1 S2 : Sto} {x y : D} (h1 : ma S = .ok x S1) (h2 : mb S1 = .ok y S2) (h : eqD x y = some true) : sIf (mCmp neD ma mb) a sNext S = .next S2 := by
  refine if_next ?_
  rw [z_cmp, h1, z_ok, h2, z_ok, ne_of_eq h]
  rfl
theorem lst2 {x y : Str} {S : Sto} : mLst [mC (.str x), mC (.str y)] S = .ok (.list [.str x, .str y]) S := by
  have e : sumOk 2 = true := rfl
  simp [e]
variable {l s : List Int} {sl : List DV} {ds : List Int} {n : Int} {bx : Bx}
theorem r30 (B : Base l s sl) (hb : BxN ds n bx) (hn : n < 1000) : ∃ S2, r_law_30 ⟨sl, bx⟩ = .ret (.bool true) S2 := by
  obtain ⟨d, bx', e1, e2, e3⟩ := pick_ok (things := [.tuple [], .tuple [.int 0], .tuple [.int 61], .list [.int 1], .none, .tuple [.int 1, .int 1, .int 1, .int 1], .tuple [.bool true]]) draws hb (by omega) (by simp)
  have e1 : fe__law_pick.fm [.box, .d (.list [.tuple [], .tuple [.int 0], .tuple [.int 61], .list [.int 1], .none, .tuple [.int 1, .int 1, .int 1, .int 1], .tuple [.bool true]])] bx = .ret d bx' := e1
  have bad : fe_period.fm [.d d] bx' = .exc 0 (.str "steps") bx' := by
    simp only [List.mem_cons, List.not_mem_nil, or_false] at e2
    rcases e2 with rfl | rfl | rfl | rfl | rfl | rfl | rfl <;> rfl
  have s0 : sumOk 0 = true := rfl
  have s1 : sumOk 1 = true := rfl
  have s4 : sumOk 4 = true := rfl
  have s7 : sumOk 7 = true := rfl
  have hm : mCall fe_period (mSeq [(mArgE (mCall fe__law_pick (mSeq [(mArgV 16), (mArgE (mLst [(mTup []), (mTup [(mC (.int 0))]), (mTup [(mC (.int 61))]), (mLst [(mC (.int 1))]), (mC .none), (mTup [(mC (.int 1)), (mC (.int 1)), (mC (.int 1)), (mC (.int 1))]), (mTup [(mC (.bool true))])]))])))]) ⟨sl.map hideD, bx⟩ = .exc 0 (.str "steps") bx' := by
    simp [a_bx (S := ⟨sl.map hideD, bx⟩) (hide_bx B.b16), s0, s1, s4, s7, e1, bad]
  refine ⟨⟨sl, bx'⟩, ?_⟩
  have ht := told_exc (S := ⟨sl, bx⟩) (js := [16]) (h := tagOf) (by rw [js_cons, js_nil, js_bx B.b16]) hm rfl
  unfold r_law_30 p_law_30
  rw [z_seq, z_ret, z_bl, z_cmp, ht, z_ok, lst2, z_ok, eq_told (by decide +kernel) (by decide +kernel)]
  rfl
theorem r29 (B : Base l s sl) (hb : BxN ds n bx) (hn : n + 1 < 1000) : ∃ S2, r_law_29 ⟨sl, bx⟩ = .ret (.bool true) S2 := by
  obtain ⟨d, bx', e1, e2, e3⟩ := pick_ok (things := [.int 1, .int 61, .none, .bool true]) draws hb (by omega) (by simp)
  have e1 : fe__law_pick.fm [.box, .d (.list [.int 1, .int 61, .none, .bool true])] bx = .ret d bx' := e1
  have bad : fe_shown.fm [.d d, .d (.int 0)] bx' = .exc 0 (.str "scale") bx' := by
    simp only [List.mem_cons, List.not_mem_nil, or_false] at e2
    rcases e2 with rfl | rfl | rfl | rfl <;> rfl
  have s4 : sumOk 4 = true := rfl
  have hm : mCall fe_shown (mSeq [(mArgE (mCall fe__law_pick (mSeq [(mArgV 16), (mArgE (mLst [(mC (.int 1)), (mC (.int 61)), (mC .none), (mC (.bool true))]))]))), (mArgE (mC (.int 0)))]) ⟨sl.map hideD, bx⟩ = .exc 0 (.str "scale") bx' := by
    simp [a_bx (S := ⟨sl.map hideD, bx⟩) (hide_bx B.b16), s4, e1, bad]
  have ht := told_exc (S := ⟨sl, bx⟩) (js := [16]) (h := tagOf) (by rw [js_cons, js_nil, js_bx B.b16]) hm rfl
  unfold r_law_29 p_law_29
  rw [z_seq, ne_next ht lst2 (eq_told (by decide +kernel) (by decide +kernel)), z_onext]
  exact r30 B e3 hn
end K25

set_option maxRecDepth 100000
namespace K25
open PySem PySem.Spec PyProof.Rows L2 Gl
variable {l s : List Int} {sl : List DV} {ds : List Int} {n : Int} {bx : Bx}
theorem tI_append (s : List Int) (h : s.length < 1000) : addD (tI s) (.tuple [.int 0]) = some (tI (s ++ [0])) := by
  have e : sumOk ((s.map PyData.int).length + 1) = true := sumOk_lt (by rw [List.length_map]; omega)
  show (if sumOk ((s.map PyData.int).length + [PyData.int 0].length) = true then some (PyData.tuple (s.map PyData.int ++ [PyData.int 0])) else none) = _
  rw [if_pos (show sumOk ((s.map PyData.int).length + [PyData.int 0].length) = true from e)]
  simp
theorem first_at {l : List Int} (h : 0 < l.length) : ixD (tI l) (.int 0) = some (.int (gI l 0)) := at_int (by omega) (by omega)
theorem r28 (h : StepsOk l) (hs : s.length = l.length) (B : Base l s sl) (hb : BxN ds n bx) (hn : n + 1 < 1000) : ∃ S2, r_law_28 ⟨sl, bx⟩ = .ret (.bool true) S2 := by
  have h0 : 0 < l.length := h.1
  obtain ⟨g1, g2⟩ := h.2.2 _ (gI_mem (l := l) (i := 0) (by omega) (by omega))
  have hh := hide_sh B.b20
  have eb : mBox 20 0 (mOp2 ixD (mPeek 20) (mC (.int 0))) ⟨sl.map hideD, bx⟩ = .ok (.int (gI l 0)) ⟨sl.map hideD, bx⟩ := by
    rw [bx_no hh, z_op2, p_sh hh, z_ok, z_c, z_ok, first_at h0]
    rfl
  have hm : mCall fe_lines (mSeq [(mArgE (mBox 20 0 (mOp2 ixD (mPeek 20) (mC (.int 0))))), (mArgE (mC (.int 0))), (mArgE (mC (.int 501)))]) ⟨sl.map hideD, bx⟩ = .exc 0 (.str "far") bx := by
    simp [eb, lines_bad g1 g2]
  have ht := told_exc (S := ⟨sl, bx⟩) (js := [20]) (h := tagOf) (by rw [js_cons, js_nil, js1 B.b20]) hm rfl
  unfold r_law_28 p_law_28
  rw [z_seq, ne_next ht lst2 (eq_told (by decide +kernel) (by decide +kernel)), z_onext]
  exact r29 B hb hn
theorem r27 (h : StepsOk l) (hs : s.length = l.length) (B : Base l s sl) (hb : BxN ds n bx) (hn : n + 1 < 1000) : ∃ S2, r_law_27 ⟨sl, bx⟩ = .ret (.bool true) S2 := by
  have e1 : sumOk 1 = true := rfl
  have hm : mCall fe_met (mSeq [(mArgV 20), (mArgE (mOp2 addD (mPeek 19) (mTup [(mC (.int 0))])))]) ⟨sl.map hideD, bx⟩ = .exc 0 (.str "starts") bx := by
    have e2 := tI_append s (by have := h.2.1; omega)
    have e3 := check_starts_bad (s := s ++ [0]) h (by simp; omega) bx
    have e4 : fe_met.fm [.d (tI l), .d (tI (s ++ [0]))] bx = .exc 0 (.str "starts") bx := by
      refine fm_exc rfl rfl ?_
      generalize s ++ [0] = q at e3
      simp [m_met, slotA, mArgV, e3]
    simp only [z_call, z_cons, z_nil, a_sh (S := ⟨sl.map hideD, bx⟩) (hide_sh B.b20), p_sh (S := ⟨sl.map hideD, bx⟩) (hide_sh B.b19), z_ok, z_argE, z_op2, z_tup, z_c, e2]
    simp only [List.length_cons, List.length_nil, e1, if_true, z_ite, z_c, z_ok, e2, z_some, e4]
    simp [e1, e2, e4]
  have ht := told_exc (S := ⟨sl, bx⟩) (js := [19, 20]) (h := tagOf) (by rw [js_cons, js_cons, js_nil, js1 B.b19, js1 B.b20]) hm rfl
  unfold r_law_27 p_law_27
  rw [z_seq, ne_next ht lst2 (eq_told (by decide +kernel) (by decide +kernel)), z_onext]
  exact r28 h hs B hb hn
theorem r26 (h : StepsOk l) (hs : s.length = l.length) (B : Base l s sl) (hb : BxN ds n bx) (hn : n + 1 < 1000) : ∃ S2, r_law_26 ⟨sl, bx⟩ = .ret (.bool true) S2 := by
  have hm : mCall fe_open_share (mSeq [(mArgV 20), (mArgE (mOp1 negD (mC (.int 1))))]) ⟨sl.map hideD, bx⟩ = .exc 0 (.str "wide") bx := by
    simp [a_sh (S := ⟨sl.map hideD, bx⟩) (hide_sh B.b20), open_share_bad h]
  have ht := told_exc (S := ⟨sl, bx⟩) (js := [20]) (h := tagOf) (by rw [js_cons, js_nil, js1 B.b20]) hm rfl
  unfold r_law_26 p_law_26
  rw [z_seq, ne_next ht lst2 (eq_told (by decide +kernel) (by decide +kernel)), z_onext]
  exact r27 h hs B hb hn
section
variable {p a : Int} (h : StepsOk l) (hs : s.length = l.length) (p1 : 2 ≤ p) (p2 : p ≤ 60) (a0 : 0 ≤ a) (a1 : a < 1000)
include h hs p1 p2 a0 a1
theorem r25 (B : Base l s sl) (h18 : sl[18]? = some (.sh (.int p))) (hb : BxN ds n bx) (hn : n + 1 < 1000) : ∃ S2, r_law_25 ⟨sl, bx⟩ = .ret (.bool true) S2 := by
  have hm : mCall fe_shown (mSeq [(mArgV 18), (mArgE (mOp1 negD (mC (.int 1))))]) ⟨sl.map hideD, bx⟩ = .exc 0 (.str "place") bx := by
    simp [a_sh (S := ⟨sl.map hideD, bx⟩) (hide_sh h18), shown_bad p1 p2]
  have ht := told_exc (S := ⟨sl, bx⟩) (js := [18]) (h := tagOf) (by rw [js_cons, js_nil, js1 h18]) hm rfl
  unfold r_law_25 p_law_25
  rw [z_seq, ne_next ht lst2 (eq_told (by decide +kernel) (by decide +kernel)), z_onext]
  exact r26 h hs B hb hn
theorem r24 (B : Base l s sl) (h18 : sl[18]? = some (.sh (.int p))) (hb : BxN ds n bx) (hn : n + 1 < 1000) : ∃ S2, r_law_24 ⟨sl, bx⟩ = .ret (.bool true) S2 := by
  have hm : mCall fe_read (mSeq [(mArgV 18), (mArgE (mC (.int 0))), (mArgV 18)]) ⟨sl.map hideD, bx⟩ = .exc 2 (.str "line") bx := by
    simp [a_sh (S := ⟨sl.map hideD, bx⟩) (hide_sh h18), read_bad p1 p2]
  have ht := told_exc (S := ⟨sl, bx⟩) (js := [18]) (h := tagOf) (by rw [js_cons, js_nil, js1 h18]) hm rfl
  unfold r_law_24 p_law_24
  rw [z_seq, ne_next ht lst2 (eq_told (by decide +kernel) (by decide +kernel)), z_onext]
  exact r25 h hs p1 p2 a0 a1 B h18 hb hn
theorem r23 {k : Int} (B : Base l s sl) (h18 : sl[18]? = some (.sh (.int p))) (h13 : sl[13]? = some (.sh (.int a))) (h15 : sl[15]? = some (.sh (.int k))) (k0 : 0 ≤ k) (k1 : k < p) (hb : BxN ds n bx) (hn : n + 1 < 1000) : ∃ S2, r_law_23 ⟨sl, bx⟩ = .ret (.bool true) S2 := by
  have e := off_ok p1 p2 a0 k0 k1 bx
  have e2 : decide ((a - k) % p = 0) = decide (k = a % p) := by
    have m1 := Int.emod_nonneg a (by omega : p ≠ 0)
    have m2 := Int.emod_lt_of_pos a (by omega : 0 < p)
    congr 1
    apply propext
    constructor
    · intro z
      have z2 : k ∈ ((List.range p.toNat).map fun i => ((i : Nat) : Int)).filter (fun k => decide ((a - k) % p = 0)) := by
        rw [List.mem_filter]
        exact ⟨List.mem_map.mpr ⟨k.toNat, List.mem_range.mpr (by omega), by omega⟩, decide_eq_true z⟩
      rw [first_line (by omega) a0] at z2
      simpa using z2
    · rintro rfl
      rw [Int.sub_emod, Int.emod_emod, Int.sub_self, Int.zero_emod]
  have hm : (mOrT (mCmp neD (mCall fe_off (mSeq [(mArgV 18), (mArgV 13), (mArgV 15)])) (mOp2 modD (mOp2 subD (mPeek 13) (mPeek 15)) (mPeek 18))) (mCmp neD (mBl (mCmp eqD (mCall fe_off (mSeq [(mArgV 18), (mArgV 13), (mArgV 15)])) (mC (.int 0)))) (mBl (mCmp eqD (mPeek 15) (mOp2 modD (mPeek 13) (mPeek 18)))))) ⟨sl, bx⟩ = .ok false ⟨sl, bx⟩ := by
    have e3 : ∀ b : Bool, neD (.bool b) (.bool b) = some false := by decide +kernel
    simp [a_sh (S := ⟨sl, bx⟩) h18, a_sh (S := ⟨sl, bx⟩) h13, a_sh (S := ⟨sl, bx⟩) h15, p_sh (S := ⟨sl, bx⟩) h18, p_sh (S := ⟨sl, bx⟩) h13, p_sh (S := ⟨sl, bx⟩) h15, e, modD_pos (show 0 < p by omega), e2, e3]
  unfold r_law_23 p_law_23
  rw [z_seq, if_next hm, z_onext]
  exact r24 h hs p1 p2 a0 a1 B h18 hb hn
theorem r22 (B : Base l s sl) (h18 : sl[18]? = some (.sh (.int p))) (h13 : sl[13]? = some (.sh (.int a))) (hb : BxN ds n bx) (hn : n + 2 < 1000) : ∃ S2, r_law_22 ⟨sl, bx⟩ = .ret (.bool true) S2 := by
  obtain ⟨k, bx', e, k0, k1, hb'⟩ := draws.ok hb (m := p) (by omega) (by omega)
  unfold r_law_22 p_law_22
  have e1 : mCall fe__law_draw (mSeq [(mArgV 16), (mArgV 18)]) ⟨sl, bx⟩ = .ok (.int k) ⟨sl, bx'⟩ := by
    simp [a_sh (S := ⟨sl, bx⟩) h18, a_bx (S := ⟨sl, bx⟩) B.b16, e]
  rw [z_seq, z_e, e1, z_toO, z_set, z_onext]
  exact r23 h hs p1 p2 a0 a1 (B.set (by omega)) (get_other (by omega) h18) (get_other (by omega) h13) (get_same (by rw [B.len]; omega)) k0 k1 hb' (by omega)
theorem r21 (B : Base l s sl) (h18 : sl[18]? = some (.sh (.int p))) (h13 : sl[13]? = some (.sh (.int a))) (h14 : sl[14]? = some (.sh (pr (a / p) (a % p)))) (hb : BxN ds n bx) (hn : n + 2 < 1000) : ∃ S2, r_law_21 ⟨sl, bx⟩ = .ret (.bool true) S2 := by
  have m0 : 0 ≤ a / p := Int.ediv_nonneg a0 (by omega)
  have m3 : a / p ≤ a := Int.ediv_le_self _ a0
  have m1 := Int.emod_nonneg a (by omega : p ≠ 0)
  have m2 := Int.emod_lt_of_pos a (by omega : 0 < p)
  have rs : RS 1 2 (pr (a / p) (a % p)) := rs_tup (k := 0) (n := 0) (ds := [.int (a / p), .int (a % p)]) fun d hd => by
    simp at hd
    rcases hd with rfl | rfl
    · exact rs_int (by omega)
    · exact rs_int (by omega)
  have sm := sames.ok rs (by omega) (by omega) bx
  have rd := read_ok (p := p) (a := a / p) (b := a % p) p1 p2 m0 m1 m2 bx
  rw [show a / p * p + a % p = a by rw [Int.mul_comm]; exact Int.mul_ediv_add_emod a p] at rd
  have of := off_ok p1 p2 a0 m1 m2 bx
  rw [show (a - a % p) % p = 0 by rw [Int.sub_emod, Int.emod_emod, Int.sub_self, Int.zero_emod]] at of
  have i0 : ixD (pr (a / p) (a % p)) (.int 0) = some (.int (a / p)) := rfl
  have i1 : ixD (pr (a / p) (a % p)) (.int 1) = some (.int (a % p)) := rfl
  have b0 : mBox 14 0 (mOp2 ixD (mPeek 14) (mC (.int 0))) ⟨sl, bx⟩ = .ok (.int (a / p)) ⟨sl, bx⟩ := by
    rw [bx_no h14, z_op2, p_sh h14, z_ok, z_c, z_ok, i0]
    rfl
  have b1 : mBox 14 1 (mOp2 ixD (mPeek 14) (mC (.int 1))) ⟨sl, bx⟩ = .ok (.int (a % p)) ⟨sl, bx⟩ := by
    rw [bx_no h14, z_op2, p_sh h14, z_ok, z_c, z_ok, i1]
    rfl
  have s2 : sumOk 2 = true := rfl
  unfold r_law_21 p_law_21
  rw [z_seq, if_next (S1 := ⟨sl, bx⟩), z_onext]
  · exact r22 h hs p1 p2 a0 a1 B h18 h13 hb hn
  · unfold pr at sm h14
    simp [a_sh (S := ⟨sl, bx⟩) h18, a_sh (S := ⟨sl, bx⟩) h13, a_sh (S := ⟨sl, bx⟩) h14, p_sh (S := ⟨sl, bx⟩) h18, p_sh (S := ⟨sl, bx⟩) h13, modD_pos (show 0 < p by omega), fdivD_pos (show 0 < p by omega) (by omega), s2, sm, b0, b1, rd, of]
theorem r20 (B : Base l s sl) (h18 : sl[18]? = some (.sh (.int p))) (h13 : sl[13]? = some (.sh (.int a))) (hb : BxN ds n bx) (hn : n + 2 < 1000) : ∃ S2, r_law_20 ⟨sl, bx⟩ = .ret (.bool true) S2 := by
  unfold r_law_20 p_law_20
  have e1 : mCall fe_shown (mSeq [(mArgV 18), (mArgV 13)]) ⟨sl, bx⟩ = .ok (pr (a / p) (a % p)) ⟨sl, bx⟩ := by
    simp [a_sh (S := ⟨sl, bx⟩) h18, a_sh (S := ⟨sl, bx⟩) h13, shown_ok p1 p2 a0, pr]
  rw [z_seq, z_e, e1, z_toO, z_set, z_onext]
  exact r21 h hs p1 p2 a0 a1 (B.set (by omega)) (get_other (by omega) h18) (get_other (by omega) h13) (get_same (by rw [B.len]; omega)) hb hn
end
theorem r19 (h : StepsOk l) (hs : s.length = l.length) (B : Base l s sl) (hb : BxN ds n bx) (hn : n + 4 < 1000) : ∃ S2, r_law_19 ⟨sl, bx⟩ = .ret (.bool true) S2 := by
  obtain ⟨p, bx1, e1, p0, p1, hb1⟩ := draws.ok hb (m := 20) (by omega) (by omega)
  obtain ⟨a, bx2, e2, a0, a1, hb2⟩ := draws.ok hb1 (m := 200) (by omega) (by omega)
  have s2 : sumOk 2 = true := rfl
  have e : (mTup [(mOp2 addD (mC (.int 2)) (mCall fe__law_draw (mSeq [(mArgV 16), (mArgE (mC (.int 20)))]))), (mCall fe__law_draw (mSeq [(mArgV 16), (mArgE (mC (.int 200)))]))]) ⟨sl, bx⟩ = .ok (.tuple [.int (2 + p), .int a]) ⟨sl, bx2⟩ := by
    simp [a_bx (S := ⟨sl, bx⟩) B.b16, a_bx (S := ⟨sl, bx1⟩) B.b16, e1, e2, s2]
  unfold r_law_19 p_law_19
  rw [z_seq, z_e, e, z_toO, store2, z_onext]
  have B1 := B.set (i := 18) (x := .sh (.int (2 + p))) (by omega)
  exact r20 (p := 2 + p) (a := a) h hs (by omega) (by omega) a0 (by omega) (B1.set (by omega)) (get_other (by omega) (get_same (by rw [B.len]; omega))) (get_same (by rw [B1.len]; omega)) hb2 (by omega)
end K25

set_option maxRecDepth 100000
namespace K25
open PySem PySem.Spec PyProof.Rows L2 Gl
variable {l s : List Int} {sl : List DV} {ds : List Int} {n : Int} {bx : Bx}
def Steps12 (l : List Int) : Prop := 1 ≤ l.length ∧ l.length ≤ 3 ∧ ∀ x ∈ l, 1 ≤ x ∧ x ≤ 12
theorem Steps12.ok (h : Steps12 l) : StepsOk l := ⟨h.1, h.2.1, fun x hx => ⟨(h.2.2 x hx).1, by have := (h.2.2 x hx).2; omega⟩⟩
theorem lcmF_le12 {w o a : Int} (hw : 0 < w) (ho : 0 < o) (h1 : w ≤ a) (h2 : o ≤ 12) : lcmF w o ≤ a * 12 := by
  have : lcmF w o ≤ w * o := Int.ediv_le_self _ (Int.mul_nonneg (by omega) (by omega))
  have : w * o ≤ a * 12 := Int.mul_le_mul h1 h2 (by omega) (by omega)
  omega
theorem whole12 {l : List Int} (h : Steps12 l) : 0 < wholeI l ∧ wholeI l ≤ 1728 := by
  obtain ⟨h1, h2, h3⟩ := h
  match l, h1, h2, h3 with
  | [a], _, _, h3 =>
    have ha := h3 a (by simp)
    have p1 := lcmF_pos (w := 1) (o := a) (by omega) (by omega)
    have q1 := lcmF_le12 (w := 1) (o := a) (a := 1) (by omega) (by omega) (by omega) (by omega)
    show 0 < lcmF 1 a ∧ lcmF 1 a ≤ _
    omega
  | [a, b], _, _, h3 =>
    have ha := h3 a (by simp)
    have hb := h3 b (by simp)
    have p1 := lcmF_pos (w := 1) (o := a) (by omega) (by omega)
    have q1 := lcmF_le12 (w := 1) (o := a) (a := 1) (by omega) (by omega) (by omega) (by omega)
    have p2 := lcmF_pos (w := lcmF 1 a) (o := b) (by omega) (by omega)
    have q2 := lcmF_le12 (w := lcmF 1 a) (o := b) (a := 12) (by omega) (by omega) (by omega) (by omega)
    show 0 < lcmF (lcmF 1 a) b ∧ lcmF (lcmF 1 a) b ≤ _
    omega
  | [a, b, c], _, _, h3 =>
    have ha := h3 a (by simp)
    have hb := h3 b (by simp)
    have hc := h3 c (by simp)
    have p1 := lcmF_pos (w := 1) (o := a) (by omega) (by omega)
    have q1 := lcmF_le12 (w := 1) (o := a) (a := 1) (by omega) (by omega) (by omega) (by omega)
    have p2 := lcmF_pos (w := lcmF 1 a) (o := b) (by omega) (by omega)
    have q2 := lcmF_le12 (w := lcmF 1 a) (o := b) (a := 12) (by omega) (by omega) (by omega) (by omega)
    have p3 := lcmF_pos (w := lcmF (lcmF 1 a) b) (o := c) (by omega) (by omega)
    have q3 := lcmF_le12 (w := lcmF (lcmF 1 a) b) (o := c) (a := 144) (by omega) (by omega) (by omega) (by omega)
    show 0 < lcmF (lcmF (lcmF 1 a) b) c ∧ lcmF (lcmF (lcmF 1 a) b) c ≤ _
    omega
  | [], h1, _, _ => simp at h1
  | _ :: _ :: _ :: _ :: _, _, h2, _ => simp at h2
theorem lay_ints : ∀ l : List Int, PyData.canLayAll0 (l.map .int) = true ∧ PyData.depthAll (l.map .int) = 0
  | [] => ⟨rfl, rfl⟩
  | x :: l => by
    obtain ⟨a, b⟩ := lay_ints l
    constructor
    · simp only [List.map_cons, PyData.canLayAll0, PyData.canLay0, a]
      rfl
    · simp only [List.map_cons, PyData.depthAll, PyData.depth, b]
      rfl
theorem shp_lI (l : List Int) : shp (lI l) = true := by
  obtain ⟨a, b⟩ := lay_ints l
  show (PyData.canLay0 (lI l) && decide (PyData.depth (lI l) ≤ 64)) = true
  simp only [PyData.canLay0, PyData.depth, a, b]
  rfl
theorem eq_nil {ds : List D} (h : shp (.list ds) = true) : eqD (.list ds) (.list []) = some ds.isEmpty := by
  show (if (shp (.list ds) && shp (.list [])) = true then some (PyData.eqv (.list ds) (.list [])) else none) = _
  rw [h, show shp (.list []) = true from rfl]
  show some _ = _
  cases ds with
  | nil => rw [PyData.eqv, PyData.eqvAll]; rfl
  | cons d ds => rw [PyData.eqv, PyData.eqvAll]; rfl
theorem rs_red {a b : Int} (a0 : 0 ≤ a) (a1 : a < 10 ^ 12) (b0 : 0 < b) (b1 : b < 10 ^ 12) : RS 1 2 (redD a b) := rs_tup (k := 0) (n := 0) (ds := [.int (a / Int.gcd a b), .int (b / Int.gcd a b)]) fun d hd => by
  have hg := gcdpos (a := a) b0
  have := Int.ediv_nonneg a0 (show (0 : Int) ≤ Int.gcd a b by omega)
  have := Int.ediv_nonneg (show 0 ≤ b by omega) (show (0 : Int) ≤ Int.gcd a b by omega)
  have := Int.ediv_le_self (Int.gcd a b : Int) a0
  have := Int.ediv_le_self (Int.gcd a b : Int) (show 0 ≤ b by omega)
  simp at hd
  rcases hd with rfl | rfl
  · exact rs_int (by omega)
  · exact rs_int (by omega)
section
variable (h : Steps12 l) (hs : s.length = l.length)
include h hs
theorem r18 {w : Int} (w0 : 0 ≤ w) (B : Base l s sl) (h2 : sl[2]? = some (.sh (.int (wholeI l)))) (h11 : sl[11]? = some (.sh (.int w))) (h12 : sl[12]? = some (.sh (.int ((freeI l w).length : Nat)))) (hb : BxN ds n bx) (hn : n + 4 < 1000) : ∃ S2, r_law_18 ⟨sl, bx⟩ = .ret (.bool true) S2 := by
  obtain ⟨q0, q1⟩ := whole12 h
  have fl : (freeI l w).length ≤ 1728 := by
    unfold freeI
    refine Nat.le_trans (List.length_filter_le ..) ?_
    rw [rangeI_len]
    omega
  have sm := sames.ok (rs_red (a := ((freeI l w).length : Nat)) (b := wholeI l) (by omega) (by omega) q0 (by omega)) (by omega) (by omega) bx
  have lo := low_eq (a := ((freeI l w).length : Nat)) q0 (by omega) bx
  have os := open_share_ok h.ok w0 bx
  have oz := open_share_ok h.ok (Int.le_refl 0) bx
  rw [free_zero h.ok, red_self q0] at oz
  have ne : neD (.tuple [.int 1, .int 1]) (.tuple [.int 1, .int 1]) = some false := by decide +kernel
  have s2 : sumOk 2 = true := rfl
  unfold r_law_18 p_law_18
  rw [z_seq, if_next (S1 := ⟨sl, bx⟩), z_onext]
  · exact r19 h.ok hs B hb hn
  · simp [a_sh (S := ⟨sl, bx⟩) B.b20, a_sh (S := ⟨sl, bx⟩) h11, a_sh (S := ⟨sl, bx⟩) h12, a_sh (S := ⟨sl, bx⟩) h2, os, oz, lo, sm, s2, ne]
theorem c15 {k w : Int} (h20 : sl[20]? = some (.sh (tI l))) (h21 : sl[21]? = some (.sh (.int k))) (h11 : sl[11]? = some (.sh (.int w))) (hl : sl.length = 24) : c_law_15 ⟨sl, bx⟩ = .ok (lI (l.filter fun o => decide (k % o < w))) ⟨sl, bx⟩ := by
  unfold c_law_15
  refine comp_pure (l := l) PyData.int (fun o => decide (k % o < w)) PyData.int (S1 := ⟨sl, bx⟩) ?_ (by rw [js_cons, js_cons, js_nil, js1 h21, js1 h11]) (fun x hx => ?_) (by have := h.2.1; omega) rfl
  · simp [v_sh (S := ⟨sl, bx⟩) h20]
  · obtain ⟨x1, x2⟩ := h.2.2 x hx
    have g23 : (((sl.map hideD).set 23 .un).set 23 (.sh (.int x)))[23]? = some (.sh (.int x)) := get_same (by simp [hl])
    have g21 : (((sl.map hideD).set 23 .un).set 23 (.sh (.int x)))[21]? = some (.sh (.int k)) := get_other (by omega) (get_other (by omega) (hide_sh h21))
    have g11 : (((sl.map hideD).set 23 .un).set 23 (.sh (.int x)))[11]? = some (.sh (.int w)) := get_other (by omega) (get_other (by omega) (hide_sh h11))
    refine ⟨((sl.map hideD).set 23 .un).set 23 (.sh (.int x)), ⟨((sl.map hideD).set 23 .un).set 23 (.sh (.int x)), bx⟩, rfl, ?_, rfl, fun _ => ⟨_, v_sh g23, rfl⟩⟩
    rw [z_cmp, z_op2, p_sh g21, z_ok, p_sh g23, z_ok, modD_pos (by omega), z_some, z_ok, p_sh g11, z_ok]
    rfl
theorem r17 {w : Int} (w0 : 0 ≤ w) (B : Base l s sl) (h2 : sl[2]? = some (.sh (.int (wholeI l)))) (h11 : sl[11]? = some (.sh (.int w))) (hb : BxN ds n bx) (hn : n + 4 < 1000) : ∃ S2, r_law_17 ⟨sl, bx⟩ = .ret (.bool true) S2 := by
  obtain ⟨q0, q1⟩ := whole12 h
  have hc : c_law_16 ⟨sl, bx⟩ = .ok (lI (freeI l w)) ⟨sl, bx⟩ := by
    unfold c_law_16
    refine comp_pure (l := rangeI (wholeI l)) PyData.int (fun k => l.all fun o => decide (w ≤ k % o)) PyData.int (S1 := ⟨sl, bx⟩) ?_ (by rw [js_cons, js_cons, js_nil, js1 B.b20, js1 h11]) (fun x hx => ?_) (by rw [rangeI_len]; omega) rfl
    · rw [z_range, z_cons, v_sh (S := ⟨sl, bx⟩) h2, z_ok, z_nil, z_ok, z_ok, range_I (by omega) (by omega)]
      rfl
    · have g21 : (((sl.map hideD).set 21 .un).set 21 (.sh (.int x)))[21]? = some (.sh (.int x)) := get_same (by simp [B.len])
      have g20 : (((sl.map hideD).set 21 .un).set 21 (.sh (.int x)))[20]? = some (.sh (tI l)) := get_other (by omega) (get_other (by omega) (hide_sh B.b20))
      have g11 : (((sl.map hideD).set 21 .un).set 21 (.sh (.int x)))[11]? = some (.sh (.int w)) := get_other (by omega) (get_other (by omega) (hide_sh h11))
      refine ⟨((sl.map hideD).set 21 .un).set 21 (.sh (.int x)), ⟨((sl.map hideD).set 21 .un).set 21 (.sh (.int x)), bx⟩, rfl, ?_, rfl, fun _ => ⟨_, v_sh g21, rfl⟩⟩
      rw [z_cmp, c15 h hs g20 g21 g11 (by simp [B.len]), z_ok]
      have e0 : sumOk 0 = true := rfl
      have e1 : ((l.filter fun o => decide (x % o < w)).map PyData.int).isEmpty = l.all fun o => decide (w ≤ x % o) := by
        rw [Bool.eq_iff_iff, List.isEmpty_iff, List.map_eq_nil_iff, List.filter_eq_nil_iff, List.all_eq_true]
        constructor
        · intro z o ho
          have := z o ho
          simp at this ⊢
          exact this
        · intro z o ho
          have := z o ho
          simp at this ⊢
          exact this
      rw [z_lst]
      show ((R.ok [] _).bind _).bind _ = _
      rw [z_ok]
      show ofO (eqD (.list _) (.list [])) _ = _
      rw [eq_nil (shp_lI _), e1]
      rfl
  unfold r_law_17 p_law_17
  rw [z_seq, z_e, z_op1, hc, z_ok, z_llist, z_some, z_toO, z_set, z_onext, List.length_map]
  exact r18 h hs w0 (B.set (by omega)) (get_other (by omega) h2) (get_other (by omega) h11) (get_same (by rw [B.len]; omega)) hb hn
theorem r16 (B : Base l s sl) (h2 : sl[2]? = some (.sh (.int (wholeI l)))) (hb : BxN ds n bx) (hn : n + 5 < 1000) : ∃ S2, r_law_16 ⟨sl, bx⟩ = .ret (.bool true) S2 := by
  obtain ⟨w, bx1, e1, w0, w1, hb1⟩ := draws.ok hb (m := 6) (by omega) (by omega)
  unfold r_law_16 p_law_16
  have e : mCall fe__law_draw (mSeq [(mArgV 16), (mArgE (mC (.int 6)))]) ⟨sl, bx⟩ = .ok (.int w) ⟨sl, bx1⟩ := by
    simp [a_bx (S := ⟨sl, bx⟩) B.b16, e1]
  rw [z_seq, z_e, e, z_toO, z_set, z_onext]
  exact r17 h hs w0 (B.set (by omega)) (get_other (by omega) h2) (get_same (by rw [B.len]; omega)) hb1 (by omega)
theorem r15 {a b : Int} (a1 : 1 ≤ a) (a2 : a ≤ 20) (b1 : 1 ≤ b) (b2 : b ≤ 20) (B : Base l s sl) (h2 : sl[2]? = some (.sh (.int (wholeI l)))) (h3 : sl[3]? = some (.sh (.int a))) (h17 : sl[17]? = some (.sh (.int b))) (hb : BxN ds n bx) (hn : n + 5 < 1000) : ∃ S2, r_law_15 ⟨sl, bx⟩ = .ret (.bool true) S2 := by
  unfold r_law_15 p_law_15
  by_cases hab : a = b
  · subst hab
    have hm : mCall fe_beat (mSeq [(mArgV 3), (mArgV 17)]) ⟨sl.map hideD, bx⟩ = .exc 2 (.str "steps") bx := by
      simp [a_sh (S := ⟨sl.map hideD, bx⟩) (hide_sh h3), a_sh (S := ⟨sl.map hideD, bx⟩) (hide_sh h17), beat_bad a1 (show a ≤ 60 by omega)]
    have ht := told_exc (S := ⟨sl, bx⟩) (js := [3, 17]) (h := tagOf) (by rw [js_cons, js_cons, js_nil, js1 h3, js1 h17]) hm rfl
    rw [z_seq, z_sif, z_cmp, p_sh h3, z_ok, p_sh h17, z_ok, z_eq, z_some, z_toO, decide_eq_true rfl, if_pos rfl, z_seq, ne_next ht lst2 (eq_told (by decide +kernel) (by decide +kernel)), z_onext, z_next, z_onext]
    exact r16 h hs B h2 hb hn
  · have ab : a * b ≤ 20 * 20 := Int.mul_le_mul a2 b2 (by omega) (by omega)
    have ab0 : 0 ≤ a * b := Int.mul_nonneg (by omega) (by omega)
    have lo := low_eq (a := a * b) (b := ((a - b).natAbs : Nat)) (by omega) (by omega) bx
    have be := beat_ok a1 (show a ≤ 60 by omega) b1 (show b ≤ 60 by omega) hab bx
    have sm := sames.ok (rs_red (a := a * b) (b := ((a - b).natAbs : Nat)) ab0 (by omega) (by omega) (by omega)) (by omega) (by omega) bx
    have hm : (mNotT (mTru (mCall fe__law_same (mSeq [(mArgE (mCall fe_beat (mSeq [(mArgV 3), (mArgV 17)]))), (mArgE (mCall fe__law_low (mSeq [(mArgE (mOp2 mulD (mPeek 3) (mPeek 17))), (mArgE (mOp1 absD (mOp2 subD (mPeek 3) (mPeek 17))))])))])))) ⟨sl, bx⟩ = .ok false ⟨sl, bx⟩ := by
      simp [a_sh (S := ⟨sl, bx⟩) h3, a_sh (S := ⟨sl, bx⟩) h17, p_sh (S := ⟨sl, bx⟩) h3, p_sh (S := ⟨sl, bx⟩) h17, mulD_ok (i := a) (j := b) (.inl (by omega)), be, lo, sm]
    rw [z_seq, z_sif, z_cmp, p_sh h3, z_ok, p_sh h17, z_ok, z_eq, z_some, z_toO, decide_eq_false hab, if_neg (by simp), z_seq, if_next hm, z_onext, z_next, z_onext]
    exact r16 h hs B h2 hb hn
theorem r14 (B : Base l s sl) (h2 : sl[2]? = some (.sh (.int (wholeI l)))) (hb : BxN ds n bx) (hn : n + 7 < 1000) : ∃ S2, r_law_14 ⟨sl, bx⟩ = .ret (.bool true) S2 := by
  obtain ⟨p, bx1, e1, p0, p1, hb1⟩ := draws.ok hb (m := 20) (by omega) (by omega)
  obtain ⟨a, bx2, e2, a0, a1, hb2⟩ := draws.ok hb1 (m := 20) (by omega) (by omega)
  have s2 : sumOk 2 = true := rfl
  have e : (mTup [(mOp2 addD (mC (.int 1)) (mCall fe__law_draw (mSeq [(mArgV 16), (mArgE (mC (.int 20)))]))), (mOp2 addD (mC (.int 1)) (mCall fe__law_draw (mSeq [(mArgV 16), (mArgE (mC (.int 20)))])))]) ⟨sl, bx⟩ = .ok (.tuple [.int (1 + p), .int (1 + a)]) ⟨sl, bx2⟩ := by
    simp [a_bx (S := ⟨sl, bx⟩) B.b16, a_bx (S := ⟨sl, bx1⟩) B.b16, e1, e2, s2]
  unfold r_law_14 p_law_14
  rw [z_seq, z_e, e, z_toO, store2, z_onext]
  have B1 := B.set (i := 3) (x := .sh (.int (1 + p))) (by omega)
  exact r15 h hs (a := 1 + p) (b := 1 + a) (by omega) (by omega) (by omega) (by omega) (B1.set (by omega)) (get_other (by omega) (get_other (by omega) h2)) (get_other (by omega) (get_same (by rw [B.len]; omega))) (get_same (by rw [B1.len]; omega)) hb2 (by omega)
end
end K25

set_option maxRecDepth 100000
namespace K25
open PySem PySem.Spec PyProof.Rows L2 Gl
variable {l s : List Int} {sl : List DV} {ds : List Int} {n : Int} {bx : Bx}
section
variable (h : Steps12 l) (hs : s.length = l.length)
include h hs
theorem c12 {xs : List D} (B : Base l s sl) (h8 : sl[8]? = some (.sh (.tuple xs))) (hx : ∀ x ∈ xs, (∃ b, x = .bool b) ∨ ∃ y, x = .int y) (hl : xs.length ≤ 10) : c_law_12 ⟨sl, bx⟩ = .ok (.list (xs.filter fun x => !fineD l.length x)) ⟨sl, bx⟩ := by
  unfold c_law_12
  refine comp_pure (l := xs) id (fun x => !fineD l.length x) id (S1 := ⟨sl, bx⟩) ?_ (by rw [js_cons, js_nil, js1 B.b20]) (fun x hx' => ?_) (by omega) (by rw [List.map_id])
  · rw [z_items, v_sh h8, z_ok, z_itup, List.map_id]
    rfl
  · have g21 : (((sl.map hideD).set 21 .un).set 21 (.sh x))[21]? = some (.sh x) := get_same (by simp [B.len])
    have g20 : (((sl.map hideD).set 21 .un).set 21 (.sh x))[20]? = some (.sh (tI l)) := get_other (by omega) (get_other (by omega) (hide_sh B.b20))
    refine ⟨((sl.map hideD).set 21 .un).set 21 (.sh x), ⟨((sl.map hideD).set 21 .un).set 21 (.sh x), bx⟩, rfl, ?_, rfl, fun _ => ⟨_, v_sh g21, rfl⟩⟩
    rw [z_orT, z_tru, z_op1, p_sh g21, z_ok]
    rcases hx x hx' with ⟨b, rfl⟩ | ⟨y, rfl⟩
    · rfl
    · show ((mNotT _) _) = _
      rw [z_notT, z_chain, z_c, z_ok, p_sh g21, z_ok, z_le, z_some, z_ok]
      by_cases y0 : 0 ≤ y
      · rw [decide_eq_true y0, if_pos rfl, z_bind, z_op1, p_sh g20, z_ok, z_ltup, z_some, z_ok, z_lt, z_some, z_ok, List.length_map]
        simp [fineD, y0]
      · rw [decide_eq_false y0, if_neg (by simp), z_c, z_ok]
        simp [fineD, y0]
theorem body_of {d : D} {f due : Bool} (B : Base l s sl) (h8 : sl[8]? = some (.sh d)) (hf : (mAndV (mOp1 (instD "tuple") (mPeek 8)) (mAndV (mBl (mCmp eqD (mOp1 lenD (mPeek 8)) (mC (.int 2)))) (mBl (mCmp eqD c_law_12 (mLst []))))) ⟨sl, bx⟩ = .ok (.bool f) ⟨sl, bx⟩)
    (hd : (mAndV (mVar 9) (mBl (mCmp neD (mOp2 modD (mOp2 subD (mOp2 ixD (mPeek 19) (mBox 8 0 (mOp2 ixD (mPeek 8) (mC (.int 0))))) (mOp2 ixD (mPeek 19) (mBox 8 1 (mOp2 ixD (mPeek 8) (mC (.int 1)))))) (mCall fe__law_common (mSeq [(mArgE (mOp2 ixD (mPeek 20) (mBox 8 0 (mOp2 ixD (mPeek 8) (mC (.int 0)))))), (mArgE (mOp2 ixD (mPeek 20) (mBox 8 1 (mOp2 ixD (mPeek 8) (mC (.int 1))))))]))) (mC (.int 0))))) ⟨sl.set 9 (.sh (.bool f)), bx⟩ = .ok (.bool due) ⟨sl.set 9 (.sh (.bool f)), bx⟩)
    (hp : fe_paper_shows.fm [.d (tI l), .d (tI s), .d d] bx = .ret (.bool due) bx) : b_law_13 ⟨sl, bx⟩ = .next ⟨(sl.set 9 (.sh (.bool f))).set 10 (.sh (.bool due)), bx⟩ := by
  have sm := sames.ok (rs_bool due) (by omega) (by omega) bx
  have B1 := B.set (i := 9) (x := .sh (.bool f)) (by omega)
  have B2 := B1.set (i := 10) (x := .sh (.bool due)) (by omega)
  have g8 : ((sl.set 9 (.sh (.bool f))).set 10 (.sh (.bool due)))[8]? = some (.sh d) := get_other (by omega) (get_other (by omega) h8)
  have g10 : ((sl.set 9 (.sh (.bool f))).set 10 (.sh (.bool due)))[10]? = some (.sh (.bool due)) := get_same (by rw [B1.len]; omega)
  have hm : (mNotT (mTru (mCall fe__law_same (mSeq [(mArgE (mCall fe_paper_shows (mSeq [(mArgV 20), (mArgV 19), (mArgV 8)]))), (mArgV 10)])))) ⟨(sl.set 9 (.sh (.bool f))).set 10 (.sh (.bool due)), bx⟩ = .ok false ⟨(sl.set 9 (.sh (.bool f))).set 10 (.sh (.bool due)), bx⟩ := by
    rw [z_notT, z_tru, z_call, z_cons, z_argE, z_call, z_cons, a_sh B2.b20, z_ok, z_cons, a_sh B2.b19, z_ok, z_cons, a_sh g8, z_ok, z_nil, z_ok, z_ok, z_ok, z_ok]
    simp [hp, sm, a_sh (S := ⟨(sl.set 9 (.sh (.bool f))).set 10 (.sh (.bool due)), bx⟩) g10]
  unfold b_law_13
  rw [z_seq, z_e, hf, z_toO, z_set, z_onext, z_seq, z_e, hd, z_toO, z_set, z_onext, z_seq, if_next hm]
  rfl
theorem body_no {d : D} (B : Base l s sl) (h8 : sl[8]? = some (.sh d)) (hf : (mAndV (mOp1 (instD "tuple") (mPeek 8)) (mAndV (mBl (mCmp eqD (mOp1 lenD (mPeek 8)) (mC (.int 2)))) (mBl (mCmp eqD c_law_12 (mLst []))))) ⟨sl, bx⟩ = .ok (.bool false) ⟨sl, bx⟩)
    (hp : fe_paper_shows.fm [.d (tI l), .d (tI s), .d d] bx = .ret (.bool false) bx) : b_law_13 ⟨sl, bx⟩ = .next ⟨(sl.set 9 (.sh (.bool false))).set 10 (.sh (.bool false)), bx⟩ := by
  refine body_of h hs B h8 hf ?_ hp
  rw [z_andV, v_sh (S := ⟨sl.set 9 (.sh (.bool false)), bx⟩) (get_same (by rw [B.len]; omega))]
  rfl
theorem body_pair {i j : Int} (i0 : 0 ≤ i) (i1 : i < l.length) (j0 : 0 ≤ j) (j1 : j < l.length) (B : Base l s sl) (h8 : sl[8]? = some (.sh (pr i j))) : b_law_13 ⟨sl, bx⟩ = .next ⟨(sl.set 9 (.sh (.bool true))).set 10 (.sh (.bool (bad l s i j))), bx⟩ := by
  have gi := h.2.2 _ (gI_mem i0 i1)
  have gj := h.2.2 _ (gI_mem (l := l) j0 j1)
  have hg : 0 < (Int.gcd (gI l i) (gI l j) : Int) := gcdpos (by omega)
  refine body_of h hs B h8 ?_ ?_ (ps_pair h.ok hs bx i0 i1 j0 j1)
  · have hc := c12 (xs := [.int i, .int j]) h hs (bx := bx) B h8 (by simp) (by simp)
    have e1 : instD "tuple" (pr i j) = some (.bool true) := rfl
    have e2 : lenD (pr i j) = some (.int 2) := rfl
    have e3 : ([PyData.int i, PyData.int j].filter fun x => !fineD l.length x) = [] := by
      simp [fineD, i0, i1, j0, j1]
    have e0 : sumOk 0 = true := rfl
    have e4 : eqD (.list []) (.list []) = some true := eq_nil rfl
    rw [e3] at hc
    simp [p_sh (S := ⟨sl, bx⟩) h8, e1, e2, hc, e0, e4]
  · have B1 := B.set (i := 9) (x := .sh (.bool true)) (by omega)
    have g9 : (sl.set 9 (.sh (.bool true)))[9]? = some (.sh (.bool true)) := get_same (by rw [B.len]; omega)
    have g8 : (sl.set 9 (.sh (.bool true)))[8]? = some (.sh (pr i j)) := get_other (by omega) h8
    have i0' : ixD (pr i j) (.int 0) = some (.int i) := rfl
    have i1' : ixD (pr i j) (.int 1) = some (.int j) := rfl
    have b0 : mBox 8 0 (mOp2 ixD (mPeek 8) (mC (.int 0))) ⟨sl.set 9 (.sh (.bool true)), bx⟩ = .ok (.int i) ⟨sl.set 9 (.sh (.bool true)), bx⟩ := by
      rw [bx_no g8, z_op2, p_sh g8, z_ok, z_c, z_ok, i0']
      rfl
    have b1 : mBox 8 1 (mOp2 ixD (mPeek 8) (mC (.int 1))) ⟨sl.set 9 (.sh (.bool true)), bx⟩ = .ok (.int j) ⟨sl.set 9 (.sh (.bool true)), bx⟩ := by
      rw [bx_no g8, z_op2, p_sh g8, z_ok, z_c, z_ok, i1']
      rfl
    have co := commons.ok (a := gI l i) (b := gI l j) (by omega) bx
    simp [v_sh (S := ⟨sl.set 9 (.sh (.bool true)), bx⟩) g9, p_sh (S := ⟨sl.set 9 (.sh (.bool true)), bx⟩) B1.b19, p_sh (S := ⟨sl.set 9 (.sh (.bool true)), bx⟩) B1.b20, b0, b1, at_int (l := l) i0 i1, at_int (l := l) j0 j1, at_int (l := s) i0 (by omega), at_int (l := s) j0 (by omega), co, modD_pos hg, bad]
theorem body_odd {d e : D} (hd : (∃ b, d = .bool b) ∨ ∃ x, d = .int x) (he : (∃ b, e = .bool b) ∨ ∃ x, e = .int x) (hz : (fineD l.length d && fineD l.length e) = false) (hsp : shp (.list ([d, e].filter fun x => !fineD l.length x)) = true) (B : Base l s sl) (h8 : sl[8]? = some (.sh (.tuple [d, e]))) : b_law_13 ⟨sl, bx⟩ = .next ⟨(sl.set 9 (.sh (.bool false))).set 10 (.sh (.bool false)), bx⟩ := by
  refine body_no h hs B h8 ?_ (ps_odd h.ok hs bx hd he hz)
  have hc := c12 (xs := [d, e]) h hs (bx := bx) B h8 (fun x hx => by
    simp only [List.mem_cons, List.not_mem_nil, or_false] at hx
    rcases hx with rfl | rfl
    · exact hd
    · exact he) (by simp)
  have e1 : instD "tuple" (.tuple [d, e]) = some (.bool true) := rfl
  have e2 : lenD (.tuple [d, e]) = some (.int 2) := rfl
  have e0 : sumOk 0 = true := rfl
  have e4 := eq_nil hsp
  have e3 : ([d, e].filter fun x => !fineD l.length x).isEmpty = false := by
    cases hx : ([d, e].filter fun x => !fineD l.length x) with
    | nil =>
      rw [List.filter_eq_nil_iff] at hx
      have a := hx d (by simp)
      have b := hx e (by simp)
      simp at a b
      rw [a, b] at hz
      cases hz
    | cons => rfl
  rw [e3] at e4
  simp only [z_andV, z_op1, p_sh (S := ⟨sl, bx⟩) h8, z_ok, e1, z_some, z_tbool, if_true, z_ite, z_bl, z_cmp, e2, z_c, z_eq, hc, z_lst, z_nil, List.length_nil, e0, e4]
  rfl
end
end K25

set_option maxRecDepth 100000
namespace K25
open PySem PySem.Spec PyProof.Rows L2 Gl
variable {l s : List Int} {sl : List DV} {ds : List Int} {n : Int} {bx : Bx}
/-- a pair of places of lines -/
def IsPr (n : Nat) (d : D) : Prop := ∃ i j : Int, d = pr i j ∧ 0 ≤ i ∧ i < n ∧ 0 ≤ j ∧ j < n
theorem rs_pr {n : Nat} (hn : n ≤ 3) {d : D} (h : IsPr n d) : RS 1 2 d := by
  obtain ⟨i, j, rfl, i0, i1, j0, j1⟩ := h
  exact rs_tup (k := 0) (n := 0) (ds := [.int i, .int j]) fun d hd => by
    simp at hd
    rcases hd with rfl | rfl
    · exact rs_int (by omega)
    · exact rs_int (by omega)
theorem shp_prs {n : Nat} (hn : n ≤ 3) {A : List D} (h : ∀ d ∈ A, IsPr n d) : shp (.list A) = true := (rs_lst (k := 1) (n := 2) fun d hd => rs_pr hn (h d hd)).shp (by omega)
theorem cutL_mem {α : Type} {xs : List α} {lo hi : Option Int} {x : α} (h : x ∈ cutL xs lo hi) : x ∈ xs := List.mem_of_mem_drop (List.mem_of_mem_take h)
theorem cutL_len {α : Type} {xs : List α} {lo hi : Option Int} : (cutL xs lo hi).length ≤ xs.length := by
  unfold cutL
  rw [List.length_take, List.length_drop]
  omega
section
variable (h : Steps12 l) (hs : s.length = l.length)
include h hs
theorem r13 {A : List D} (hA : ∀ d ∈ A, IsPr l.length d) (hA2 : A.length ≤ 100) (B : Base l s sl) (h2 : sl[2]? = some (.sh (.int (wholeI l)))) (h5 : sl[5]? = some (.sh (.list A))) (hb : BxN ds n bx) (hn : n + 7 < 1000) : ∃ S2, r_law_13 ⟨sl, bx⟩ = .ret (.bool true) S2 := by
  have l0 : 0 < l.length := h.1
  have l3 : l.length ≤ 3 := h.2.1
  have s0 : sumOk 0 = true := rfl
  have s1 : sumOk 1 = true := rfl
  have s2 : sumOk 2 = true := rfl
  have s7 : sumOk 7 = true := rfl
  have e1 : (mLst [(mTup [(mC (.int 0)), (mC (.int 0))]), (mTup [(mC (.int 0)), (mOp2 subD (mOp1 lenD (mPeek 20)) (mC (.int 1)))]), (mC .none), (mLst [(mC (.int 0)), (mC (.int 1))]), (mTup [(mC (.int 0))]), (mTup [(mC (.int 0)), (mC (.int 9))]), (mTup [(mC (.bool true)), (mC (.int 0))])]) ⟨sl, bx⟩ = .ok (.list [pr 0 0, pr 0 ((l.length : Nat) - 1), .none, .list [.int 0, .int 1], .tuple [.int 0], .tuple [.int 0, .int 9], .tuple [.bool true, .int 0]]) ⟨sl, bx⟩ := by
    simp [p_sh (S := ⟨sl, bx⟩) B.b20, s1, s2, s7, pr]
  have e2 : mCut (mPeek 5) (mC none) (mPart (mC (.int 2))) ⟨sl, bx⟩ = .ok (.list (cutL A none (some 2))) ⟨sl, bx⟩ := by
    unfold mCut mPart
    rw [z_bind, p_sh h5, z_ok]
    rfl
  have e3 : f_law_14 ⟨sl, bx⟩ = loopF (stName 8) b_law_13 (cutL A none (some 2) ++ [pr 0 0, pr 0 ((l.length : Nat) - 1), .none, .list [.int 0, .int 1], .tuple [.int 0], .tuple [.int 0, .int 9], .tuple [.bool true, .int 0]]) ⟨sl, bx⟩ := by
    have := cutL_len (xs := A) (lo := none) (hi := some 2)
    have e4 : sumOk ((cutL A none (some 2)).length + 7) = true := sumOk_lt (by omega)
    have e5 : addD (.list (cutL A none (some 2))) (.list [pr 0 0, pr 0 ((l.length : Nat) - 1), .none, .list [.int 0, .int 1], .tuple [.int 0], .tuple [.int 0, .int 9], .tuple [.bool true, .int 0]]) = some (.list (cutL A none (some 2) ++ [pr 0 0, pr 0 ((l.length : Nat) - 1), .none, .list [.int 0, .int 1], .tuple [.int 0], .tuple [.int 0, .int 9], .tuple [.bool true, .int 0]])) := if_pos e4
    unfold f_law_14
    rw [z_for, z_items, z_op2, e2, z_ok, e1, z_ok, e5, z_some, z_ok, z_ilist, z_some, z_toO]
  obtain ⟨S', e, sl', rfl, B', h2'⟩ := loopF_inv (st := stName 8) (mb := b_law_13) (ds := cutL A none (some 2) ++ [pr 0 0, pr 0 ((l.length : Nat) - 1), .none, .list [.int 0, .int 1], .tuple [.int 0], .tuple [.int 0, .int 9], .tuple [.bool true, .int 0]]) (S := ⟨sl, bx⟩)
    (P := fun _ S => ∃ sl', S = ⟨sl', bx⟩ ∧ Base l s sl' ∧ sl'[2]? = some (.sh (.int (wholeI l)))) (fun i d S hd hP => by
      obtain ⟨sl', rfl, B', h2'⟩ := hP
      have B8 := B'.set (i := 8) (x := .sh d) (by omega)
      have g8 : (sl'.set 8 (.sh d))[8]? = some (.sh d) := get_same (by rw [B'.len]; omega)
      have fin : ∀ x y : DV, ∃ sl'', (⟨((sl'.set 8 (.sh d)).set 9 x).set 10 y, bx⟩ : Sto) = ⟨sl'', bx⟩ ∧ Base l s sl'' ∧ sl''[2]? = some (.sh (.int (wholeI l))) := fun x y => ⟨_, rfl, (B8.set (by omega)).set (by omega), get_other (by omega) (get_other (by omega) (get_other (by omega) h2'))⟩
      refine ⟨sl'.set 8 (.sh d), ?_⟩
      have pair : ∀ i j : Int, d = pr i j → 0 ≤ i → i < l.length → 0 ≤ j → j < l.length → ∃ S', stName 8 d sl' = some (sl'.set 8 (.sh d)) ∧ b_law_13 ⟨sl'.set 8 (.sh d), bx⟩ = .next S' ∧ ∃ sl'', S' = ⟨sl'', bx⟩ ∧ Base l s sl'' ∧ sl''[2]? = some (.sh (.int (wholeI l))) := fun i j hd i0 i1 j0 j1 => by
        subst hd
        exact ⟨_, rfl, body_pair h hs i0 i1 j0 j1 B8 g8, fin _ _⟩
      have hd := List.mem_of_getElem? hd
      rw [List.mem_append] at hd
      rcases hd with hd | hd
      · obtain ⟨i, j, e, i0, i1, j0, j1⟩ := hA d (cutL_mem hd)
        exact pair i j e i0 i1 j0 j1
      · simp only [List.mem_cons, List.not_mem_nil, or_false] at hd
        have no : ∀ hp : fe_paper_shows.fm [.d (tI l), .d (tI s), .d d] bx = .ret (.bool false) bx, (mAndV (mOp1 (instD "tuple") (mPeek 8)) (mAndV (mBl (mCmp eqD (mOp1 lenD (mPeek 8)) (mC (.int 2)))) (mBl (mCmp eqD c_law_12 (mLst []))))) ⟨sl'.set 8 (.sh d), bx⟩ = .ok (.bool false) ⟨sl'.set 8 (.sh d), bx⟩ → ∃ S', stName 8 d sl' = some (sl'.set 8 (.sh d)) ∧ b_law_13 ⟨sl'.set 8 (.sh d), bx⟩ = .next S' ∧ ∃ sl'', S' = ⟨sl'', bx⟩ ∧ Base l s sl'' ∧ sl''[2]? = some (.sh (.int (wholeI l))) := fun hp hf =>
          ⟨_, rfl, body_no h hs B8 g8 hf hp, fin _ _⟩
        rcases hd with e | e | e | e | e | e | e
        · exact pair 0 0 e (by omega) (by omega) (by omega) (by omega)
        · exact pair 0 _ e (by omega) (by omega) (by omega) (by omega)
        · subst e
          refine no (ps_none h.ok hs bx) ?_
          rw [z_andV, z_op1, p_sh g8]
          rfl
        · subst e
          refine no (ps_list h.ok hs bx _) ?_
          rw [z_andV, z_op1, p_sh g8]
          rfl
        · subst e
          refine no (ps_one h.ok hs bx _) ?_
          have e1 : instD "tuple" (.tuple [.int 0]) = some (.bool true) := rfl
          have e2 : lenD (.tuple [.int 0]) = some (.int 1) := rfl
          rw [z_andV, z_op1, p_sh g8, z_ok, e1, z_some, z_ok, z_tbool, z_some, z_ok, if_pos rfl, z_andV, z_bl, z_cmp, z_op1, p_sh g8, z_ok, e2]
          rfl
        · subst e
          have nf : fineD l.length (.int 9) = false := by simp [fineD]; omega
          have yf : fineD l.length (.int 0) = true := by simp [fineD]; omega
          exact ⟨_, rfl, body_odd h hs (.inr ⟨_, rfl⟩) (.inr ⟨_, rfl⟩) (by rw [nf, Bool.and_false]) (by rw [List.filter_cons_of_neg (by rw [yf]; simp), List.filter_cons_of_pos (by rw [nf]; rfl)]; rfl) B8 g8, fin _ _⟩
        · subst e
          have nf : fineD l.length (.bool true) = false := rfl
          have yf : fineD l.length (.int 0) = true := by simp [fineD]; omega
          exact ⟨_, rfl, body_odd h hs (.inl ⟨_, rfl⟩) (.inr ⟨_, rfl⟩) (by rw [nf, Bool.false_and]) (by rw [List.filter_cons_of_pos (by rw [nf]; rfl), List.filter_cons_of_neg (by rw [yf]; simp)]; rfl) B8 g8, fin _ _⟩) ⟨sl, rfl, B, h2⟩
  unfold r_law_13 p_law_13
  rw [z_seq, e3, e, z_onext]
  exact r14 h hs B' h2' hb hn
end
end K25

set_option maxRecDepth 100000
namespace K25
open PySem PySem.Spec PyProof.Rows L2 Gl
variable {l s : List Int} {sl : List DV} {ds : List Int} {n : Int} {bx : Bx}
def pairs (l s : List Int) (i : Int) : List D := ((laterI l.length i).filter (bad l s i)).map (pr i)
def apartN (l s : List Int) (k : Nat) : List D := (rangeI k).flatMap (pairs l s)
theorem at_head {d : D} {A : List D} : ixD (.list (d :: A)) (.int 0) = some d := by
  show atI (d :: A) 0 = _
  rw [at_nat (by omega) (by rw [List.length_cons]; omega)]
  rfl
theorem head_find {α β : Type} (p : α → Bool) (f : α → β) : ∀ js : List α, ((js.filter p).map f).head? = js.findSome? fun j => if p j then some (f j) else none
  | [] => rfl
  | j :: js => by
    rw [List.findSome?_cons]
    cases hp : p j with
    | true => rw [List.filter_cons_of_pos hp]; rfl
    | false =>
      rw [List.filter_cons_of_neg (by rw [hp]; simp)]
      exact head_find p f js
theorem apart_head (l s : List Int) : (apartN l s l.length).head? = firstBad l s := by
  unfold apartN firstBad
  rw [List.head?_flatMap]
  congr 1
  funext i
  exact head_find _ _ _
theorem pairs_pr {i : Int} (i0 : 0 ≤ i) (i1 : i < l.length) {d : D} (hd : d ∈ pairs l s i) : IsPr l.length d := by
  obtain ⟨j, hj, rfl⟩ := List.mem_map.mp hd
  have := mem_later (List.mem_filter.mp hj).1
  exact ⟨i, j, rfl, i0, i1, by omega, this.2⟩
theorem apart_pr {d : D} (hd : d ∈ apartN l s l.length) : IsPr l.length d := by
  obtain ⟨i, hi, hd⟩ := List.mem_flatMap.mp hd
  obtain ⟨i0, i1⟩ := mem_rangeI hi
  exact pairs_pr i0 i1 hd
theorem rangeI_succ (k : Nat) : rangeI ((k + 1 : Nat) : Int) = rangeI k ++ [(k : Int)] := by
  unfold rangeI
  rw [Int.toNat_natCast, Int.toNat_natCast, List.range_succ, List.map_append]
  rfl
theorem apart_succ (k : Nat) : apartN l s (k + 1) = apartN l s k ++ pairs l s k := by
  unfold apartN
  rw [rangeI_succ, List.flatMap_append]
  simp
theorem pairs_len (i : Nat) : (pairs l s i).length ≤ l.length := by
  unfold pairs
  rw [List.length_map]
  refine Nat.le_trans (List.length_filter_le ..) ?_
  unfold laterI
  rw [List.length_map, List.length_range]
  omega
theorem apart_len : ∀ k : Nat, (apartN l s k).length ≤ k * l.length
  | 0 => by simp [apartN, rangeI]
  | k + 1 => by
    have a := apart_len k
    have b := pairs_len (l := l) (s := s) k
    rw [apart_succ, List.length_append, Nat.add_mul]
    omega
section
variable (h : Steps12 l) (hs : s.length = l.length)
include h hs
theorem r12 {G : List Int} (hG : (firstBad l s = none ↔ G ≠ [])) (B : Base l s sl) (h2 : sl[2]? = some (.sh (.int (wholeI l)))) (h4 : sl[4]? = some (.sh (lI G))) (h5 : sl[5]? = some (.sh (.list (apartN l s l.length)))) (h7 : sl[7]? = some (.sh ((firstBad l s).getD .none))) (hb : BxN ds n bx) (hn : n + 7 < 1000) : ∃ S2, r_law_12 ⟨sl, bx⟩ = .ret (.bool true) S2 := by
  have hA := fun d (hd : d ∈ apartN l s l.length) => apart_pr hd
  have l3 : l.length ≤ 3 := h.2.1
  have e0 : sumOk 0 = true := rfl
  have sh : shp (.list (apartN l s l.length)) = true := shp_prs l3 hA
  have en := ne_of_eq (eq_nil sh)
  have eg := ne_of_eq (eq_nil (shp_lI G))
  have hh := apart_head l s
  have hl : (apartN l s l.length).length ≤ 100 := by
    have := apart_len (l := l) (s := s) l.length
    have : l.length * l.length ≤ 3 * 3 := Nat.mul_le_mul l3 l3
    omega
  have key : (mIf (mCmp neD (mPeek 5) (mLst [])) (mBox 5 0 (mOp2 ixD (mPeek 5) (mC (.int 0)))) (mC .none)) ⟨sl, bx⟩ = .ok ((firstBad l s).getD .none) ⟨sl, bx⟩ := by
    rw [z_if, z_cmp, p_sh h5, z_ok, z_lst, z_nil, z_ok]
    show ((ofO (neD (.list (apartN l s l.length)) (.list [])) ⟨sl, bx⟩).bind _) = _
    rw [en, z_some, z_ok]
    cases hx : apartN l s l.length with
    | nil =>
      rw [hx] at hh
      rw [← hh]
      rfl
    | cons d A =>
      rw [hx] at hh h5
      rw [← hh]
      show mBox 5 0 _ _ = _
      rw [bx_no h5, z_op2, p_sh h5, z_ok, z_c, z_ok, at_head]
      rfl
  have rs : RS 1 2 ((firstBad l s).getD .none) := by
    rw [← hh]
    cases hx : apartN l s l.length with
    | nil => exact rs_none.mono (by omega) (by omega)
    | cons d A => exact rs_pr l3 (hA d (by rw [hx]; simp))
  have sm := sames.ok rs (by omega) (by omega) bx
  have isn : isD ((firstBad l s).getD .none) .none = some (!(G.map PyData.int).isEmpty) := by
    show some (isNon ((firstBad l s).getD .none)) = _
    congr 1
    cases hf : firstBad l s with
    | none =>
      have := hG.mp hf
      cases G with
      | nil => exact absurd rfl this
      | cons => rfl
    | some d =>
      have hg : ¬ G ≠ [] := fun z => by
        have := hG.mpr z
        rw [hf] at this
        cases this
      have : G = [] := Classical.not_not.mp hg
      rw [this]
      have hd : d ∈ apartN l s l.length := by
        rw [hf] at hh
        exact List.mem_of_mem_head? hh
      obtain ⟨i, j, rfl, _⟩ := hA d hd
      rfl
  have hm : (mOrT (mNotT (mTru (mCall fe__law_same (mSeq [(mArgV 7), (mArgE (mIf (mCmp neD (mPeek 5) (mLst [])) (mBox 5 0 (mOp2 ixD (mPeek 5) (mC (.int 0)))) (mC .none)))])))) (mCmp neD (mBl (mCmp isD (mPeek 7) (mC .none))) (mBl (mCmp neD (mPeek 4) (mLst []))))) ⟨sl, bx⟩ = .ok false ⟨sl, bx⟩ := by
    have e1 : mCall fe__law_same (mSeq [(mArgV 7), (mArgE (mIf (mCmp neD (mPeek 5) (mLst [])) (mBox 5 0 (mOp2 ixD (mPeek 5) (mC (.int 0)))) (mC .none)))]) ⟨sl, bx⟩ = .ok (.bool true) ⟨sl, bx⟩ := by
      refine call_ret (bx' := bx) (S1 := ⟨sl, bx⟩) (as := [.d ((firstBad l s).getD .none), .d ((firstBad l s).getD .none)]) ?_ rfl sm
      rw [z_cons, a_sh h7, z_ok, z_cons, z_argE, key]
      rfl
    have e2 : (mBl (mCmp isD (mPeek 7) (mC .none))) ⟨sl, bx⟩ = .ok (.bool (!(G.map PyData.int).isEmpty)) ⟨sl, bx⟩ := by
      rw [z_bl, z_cmp, p_sh h7, z_ok, z_c, z_ok, isn]
      rfl
    have e3 : (mBl (mCmp neD (mPeek 4) (mLst []))) ⟨sl, bx⟩ = .ok (.bool (!(G.map PyData.int).isEmpty)) ⟨sl, bx⟩ := by
      rw [z_bl, z_cmp, p_sh h4, z_ok, z_lst, z_nil, z_ok]
      show ((ofO (neD (.list _) (.list [])) ⟨sl, bx⟩).bind _) = _
      rw [eg]
      rfl
    have e4 : ∀ b : Bool, neD (.bool b) (.bool b) = some false := by decide +kernel
    rw [z_orT, z_notT, z_tru, e1, z_ok, z_tbool, z_some, z_ok, z_ok]
    show (mCmp _ _ _) _ = _
    rw [z_cmp, e2, z_ok, e3, z_ok, e4]
    rfl
  unfold r_law_12 p_law_12
  rw [z_seq, if_next hm, z_onext]
  exact r13 h hs hA hl B h2 h5 hb hn
theorem r11 {G : List Int} (hG : (firstBad l s = none ↔ G ≠ [])) (B : Base l s sl) (h2 : sl[2]? = some (.sh (.int (wholeI l)))) (h4 : sl[4]? = some (.sh (lI G))) (h5 : sl[5]? = some (.sh (.list (apartN l s l.length)))) (hb : BxN ds n bx) (hn : n + 7 < 1000) : ∃ S2, r_law_11 ⟨sl, bx⟩ = .ret (.bool true) S2 := by
  have e : mCall fe_met_paper (mSeq [(mArgV 20), (mArgV 19)]) ⟨sl, bx⟩ = .ok ((firstBad l s).getD .none) ⟨sl, bx⟩ := by
    refine call_ret (bx' := bx) (S1 := ⟨sl, bx⟩) (as := [.d (tI l), .d (tI s)]) ?_ rfl (met_paper_ok h.ok hs bx)
    rw [z_cons, a_sh B.b20, z_ok, z_cons, a_sh B.b19]
    rfl
  unfold r_law_11 p_law_11
  rw [z_seq, z_e, e, z_toO, z_set, z_onext]
  exact r12 h hs hG (B.set (by omega)) (get_other (by omega) h2) (get_other (by omega) h4) (get_other (by omega) h5) (get_same (by rw [B.len]; omega)) hb hn
theorem c9 {i : Int} (i0 : 0 ≤ i) (i1 : i < l.length) (B : Base l s sl) (h6 : sl[6]? = some (.sh (.int i))) : c_law_9 ⟨sl, bx⟩ = .ok (.list (pairs l s i)) ⟨sl, bx⟩ := by
  have l3 : l.length ≤ 3 := h.2.1
  have s2 : sumOk 2 = true := rfl
  unfold c_law_9
  refine comp_pure (l := laterI l.length i) PyData.int (bad l s i) (pr i) (S1 := ⟨sl, bx⟩) ?_ (by rw [js_cons, js_cons, js_cons, js_nil, js1 h6, js1 B.b19, js1 B.b20]) (fun j hj => ?_) (by unfold laterI; rw [List.length_map, List.length_range]; omega) rfl
  · rw [z_range, z_cons, z_op2, p_sh h6, z_ok, z_c, z_ok, z_add, z_some, z_ok, z_cons, z_op1, p_sh B.b20, z_ok, z_ltup, z_some, z_ok, z_nil, z_ok, z_ok, z_ok, List.length_map, range_L i0 i1 (by omega)]
    rfl
  · obtain ⟨j0, j1⟩ := mem_later hj
    have gi := h.2.2 _ (gI_mem i0 i1)
    have gj := h.2.2 _ (gI_mem (l := l) (show 0 ≤ j by omega) j1)
    have hg : 0 < (Int.gcd (gI l i) (gI l j) : Int) := gcdpos (by omega)
    have g22 : (((sl.map hideD).set 22 .un).set 22 (.sh (.int j)))[22]? = some (.sh (.int j)) := get_same (by simp [B.len])
    have g6 : (((sl.map hideD).set 22 .un).set 22 (.sh (.int j)))[6]? = some (.sh (.int i)) := get_other (by omega) (get_other (by omega) (hide_sh h6))
    have g19 : (((sl.map hideD).set 22 .un).set 22 (.sh (.int j)))[19]? = some (.sh (tI s)) := get_other (by omega) (get_other (by omega) (hide_sh B.b19))
    have g20 : (((sl.map hideD).set 22 .un).set 22 (.sh (.int j)))[20]? = some (.sh (tI l)) := get_other (by omega) (get_other (by omega) (hide_sh B.b20))
    have co := commons.ok (a := gI l i) (b := gI l j) (by omega) bx
    generalize hq : ((sl.map hideD).set 22 .un).set 22 (.sh (.int j)) = q at g22 g6 g19 g20
    refine ⟨q, ⟨q, bx⟩, by rw [← hq]; rfl, ?_, rfl, fun _ => ⟨⟨q, bx⟩, ?_, rfl⟩⟩
    · simp [p_sh (S := ⟨q, bx⟩) g22, p_sh (S := ⟨q, bx⟩) g6, p_sh (S := ⟨q, bx⟩) g19, p_sh (S := ⟨q, bx⟩) g20, at_int (l := l) i0 i1, at_int (l := l) (show 0 ≤ j by omega) j1, at_int (l := s) i0 (by omega), at_int (l := s) (show 0 ≤ j by omega) (by omega), co, modD_pos hg, bad]
    · simp [p_sh (S := ⟨q, bx⟩) g22, p_sh (S := ⟨q, bx⟩) g6, s2, pr]
theorem r10 {G : List Int} (hG : (firstBad l s = none ↔ G ≠ [])) (B : Base l s sl) (h2 : sl[2]? = some (.sh (.int (wholeI l)))) (h4 : sl[4]? = some (.sh (lI G))) (h5 : sl[5]? = some (.ow (.list []))) (hb : BxN ds n bx) (hn : n + 7 < 1000) : ∃ S2, r_law_10 ⟨sl, bx⟩ = .ret (.bool true) S2 := by
  have l0 : 1 ≤ l.length := h.1
  have l3 : l.length ≤ 3 := h.2.1
  obtain ⟨S', e, sl', rfl, B', h2', h4', h5'⟩ := loopF_inv (st := stName 6) (mb := b_law_10) (ds := (rangeI l.length).map .int) (S := ⟨sl, bx⟩)
    (P := fun i S => ∃ sl', S = ⟨sl', bx⟩ ∧ Base l s sl' ∧ sl'[2]? = some (.sh (.int (wholeI l))) ∧ sl'[4]? = some (.sh (lI G)) ∧ sl'[5]? = some (if i = 0 then .ow (.list []) else .sh (.list (apartN l s i)))) (fun i d S hd hP => by
      obtain ⟨sl', rfl, B', h2', h4', h5'⟩ := hP
      have hi : i < l.length := by
        have := (List.getElem?_eq_some_iff.mp hd).1
        rw [List.length_map, rangeI_len] at this
        omega
      have hd : d = .int (i : Nat) := by
        rw [List.getElem?_map] at hd
        unfold rangeI at hd
        rw [List.getElem?_map, Int.toNat_natCast, List.getElem?_range hi] at hd
        cases hd
        rfl
      subst hd
      have B6 := B'.set (i := 6) (x := .sh (.int (i : Nat))) (by omega)
      have g6 : (sl'.set 6 (.sh (.int (i : Nat))))[6]? = some (.sh (.int (i : Nat))) := get_same (by rw [B'.len]; omega)
      have g5 : (sl'.set 6 (.sh (.int (i : Nat))))[5]? = some (if i = 0 then .ow (.list []) else .sh (.list (apartN l s i))) := get_other (by omega) h5'
      have p5 : mPeek 5 ⟨sl'.set 6 (.sh (.int (i : Nat))), bx⟩ = .ok (.list (apartN l s i)) ⟨sl'.set 6 (.sh (.int (i : Nat))), bx⟩ := by
        by_cases hz : i = 0
        · subst hz
          exact p_ow g5
        · rw [if_neg hz] at g5
          exact p_sh g5
      have hc := c9 (bx := bx) h hs (i := (i : Nat)) (by omega) (by omega) B6 g6
      have e1 : addD (.list (apartN l s i)) (.list (pairs l s i)) = some (.list (apartN l s (i + 1))) := by
        rw [apart_succ]
        refine if_pos (sumOk_lt ?_)
        have a := apart_len (l := l) (s := s) i
        have b := pairs_len (l := l) (s := s) i
        have : i * l.length ≤ 3 * 3 := Nat.mul_le_mul (by omega) l3
        omega
      refine ⟨sl'.set 6 (.sh (.int (i : Nat))), ⟨(sl'.set 6 (.sh (.int (i : Nat)))).set 5 (.sh (.list (apartN l s (i + 1)))), bx⟩, rfl, ?_, _, rfl, B6.set (by omega), get_other (by omega) (get_other (by omega) h2'), get_other (by omega) (get_other (by omega) h4'), ?_⟩
      · unfold b_law_10
        rw [z_seq, z_e, z_op2, p5, z_ok, hc, z_ok, e1, z_some, z_toO, z_set, z_onext]
        rfl
      · rw [if_neg (by omega)]
        exact get_same (by rw [B6.len]; omega)) ⟨sl, rfl, B, h2, h4, h5⟩
  rw [List.length_map, rangeI_len, Int.toNat_natCast, if_neg (by omega)] at h5'
  have e3 : f_law_11 ⟨sl, bx⟩ = loopF (stName 6) b_law_10 ((rangeI l.length).map .int) ⟨sl, bx⟩ := by
    unfold f_law_11
    rw [z_for, z_range, z_cons, z_op1, p_sh B.b20, z_ok, z_ltup, z_some, z_ok, z_nil, z_ok, z_ok, List.length_map, range_I (by omega) (by omega)]
    rfl
  unfold r_law_10 p_law_10
  rw [z_seq, e3, e, z_onext]
  exact r11 h hs hG B' h2' h4' h5' hb hn
theorem r9 {G : List Int} (hG : (firstBad l s = none ↔ G ≠ [])) (B : Base l s sl) (h2 : sl[2]? = some (.sh (.int (wholeI l)))) (h4 : sl[4]? = some (.sh (lI G))) (hb : BxN ds n bx) (hn : n + 7 < 1000) : ∃ S2, r_law_9 ⟨sl, bx⟩ = .ret (.bool true) S2 := by
  have e : sOwn 5 (mSeq []) ⟨sl, bx⟩ = .next ⟨sl.set 5 (.ow (.list [])), bx⟩ := rfl
  unfold r_law_9 p_law_9
  rw [z_seq, e, z_onext]
  exact r10 h hs hG (B.set (by omega)) (get_other (by omega) h2) (get_other (by omega) h4) (get_same (by rw [B.len]; omega)) hb hn
end
end K25

set_option maxRecDepth 100000
namespace K25
open PySem PySem.Spec PyProof.Rows L2 Gl
/-! pairwise agreement is enough -/
theorem bezout (m n : Nat) : ∃ u v : Int, ((Nat.gcd m n : Nat) : Int) = m * u + n * v := by
  induction m, n using Nat.gcd.induction with
  | H0 n => exact ⟨0, 1, by simp⟩
  | H1 m n hm ih =>
    obtain ⟨u, v, e⟩ := ih
    refine ⟨v - ((n / m : Nat) : Int) * u, u, ?_⟩
    rw [Nat.gcd_rec, e]
    have h : (n : Int) = m * ((n / m : Nat) : Int) + ((n % m : Nat) : Int) := by
      have := Nat.div_add_mod n m
      exact_mod_cast this.symm
    generalize ((n / m : Nat) : Int) = q at h ⊢
    generalize ((n % m : Nat) : Int) = r at h ⊢
    rw [h, Int.mul_sub, Int.add_mul, Int.mul_assoc]
    omega
theorem crt2 {m n a b : Int} (hm : 0 ≤ m) (hn : 0 ≤ n) (h : (Int.gcd m n : Int) ∣ a - b) : ∃ x, m ∣ x - a ∧ n ∣ x - b := by
  obtain ⟨p, rfl⟩ := Int.eq_ofNat_of_zero_le hm
  obtain ⟨q, rfl⟩ := Int.eq_ofNat_of_zero_le hn
  obtain ⟨u, v, e⟩ := bezout p q
  obtain ⟨t, ht⟩ := h
  have e2 : ((Int.gcd (p : Int) (q : Int) : Nat) : Int) = p * u + q * v := e
  rw [e2, Int.add_mul, Int.mul_assoc, Int.mul_assoc] at ht
  refine ⟨a - p * (u * t), ⟨-(u * t), ?_⟩, ⟨v * t, ?_⟩⟩
  · rw [Int.mul_neg]; omega
  · omega
theorem gcd_lcm : ∀ a b c : Fin 13, (Nat.gcd (Nat.lcm a b) c) ∣ Nat.lcm (Nat.gcd a c) (Nat.gcd b c) := by decide +kernel
theorem gcd_lcm' {a b c y : Int} (ha : 1 ≤ a ∧ a ≤ 12) (hb : 1 ≤ b ∧ b ≤ 12) (hc : 1 ≤ c ∧ c ≤ 12) (h1 : (Int.gcd a c : Int) ∣ y) (h2 : (Int.gcd b c : Int) ∣ y) : (Int.gcd ((Int.lcm a b : Nat) : Int) c : Int) ∣ y := by
  obtain ⟨p, rfl⟩ := Int.eq_ofNat_of_zero_le (show 0 ≤ a by omega)
  obtain ⟨q, rfl⟩ := Int.eq_ofNat_of_zero_le (show 0 ≤ b by omega)
  obtain ⟨r, rfl⟩ := Int.eq_ofNat_of_zero_le (show 0 ≤ c by omega)
  have d := gcd_lcm ⟨p, by omega⟩ ⟨q, by omega⟩ ⟨r, by omega⟩
  have d2 : ((Int.lcm (Int.gcd (p : Int) r : Int) (Int.gcd (q : Int) r : Int) : Nat) : Int) ∣ y := Int.coe_lcm_dvd h1 h2
  exact Int.dvd_trans (Int.ofNat_dvd.mpr d) d2
theorem mem_range_iff {n k : Int} : k ∈ rangeI n ↔ 0 ≤ k ∧ k < n := by
  refine ⟨mem_rangeI, fun h => ?_⟩
  unfold rangeI
  exact List.mem_map.mpr ⟨k.toNat, List.mem_range.mpr (by omega), by omega⟩
theorem mem_later_iff {n i k : Int} : k ∈ laterI n i ↔ i < k ∧ k < n := by
  refine ⟨mem_later, fun h => ?_⟩
  unfold laterI
  exact List.mem_map.mpr ⟨(k - (i + 1)).toNat, List.mem_range.mpr (by omega), by omega⟩
theorem first_none {l s : List Int} : firstBad l s = none ↔ ∀ i j : Int, 0 ≤ i → i < j → j < l.length → bad l s i j = false := by
  unfold firstBad
  rw [List.findSome?_eq_none_iff]
  constructor
  · intro h i j i0 ij j1
    have a := h i (mem_range_iff.mpr ⟨i0, by omega⟩)
    rw [List.findSome?_eq_none_iff] at a
    have b := a j (mem_later_iff.mpr ⟨ij, j1⟩)
    cases hb : bad l s i j with
    | false => rfl
    | true => rw [hb] at b; cases b
  · intro h i hi
    rw [List.findSome?_eq_none_iff]
    intro j hj
    obtain ⟨a, b⟩ := mem_range_iff.mp hi
    obtain ⟨c, d⟩ := mem_later_iff.mp hj
    rw [h i j a c d]
    rfl
theorem gI_get {l : List Int} {i : Nat} {x : Int} (h : l[i]? = some x) : gI l (i : Nat) = x := by
  unfold gI
  rw [Int.toNat_natCast, List.getD_eq_getElem?_getD, h]
  rfl
theorem sat_iff {l s : List Int} (hs : s.length = l.length) {x : Int} : Sat (l.zip s) x ↔ ∀ j : Int, 0 ≤ j → j < l.length → gI l j ∣ x - gI s j := by
  constructor
  · intro h j j0 j1
    obtain ⟨k, rfl⟩ := Int.eq_ofNat_of_zero_le j0
    have a : l[k]? = some (l[k]'(by omega)) := List.getElem?_eq_getElem _
    have b : s[k]? = some (s[k]'(by omega)) := List.getElem?_eq_getElem _
    rw [gI_get a, gI_get b]
    exact h (_, _) (List.mem_of_getElem? (i := k) (List.getElem?_zip_eq_some.mpr ⟨a, b⟩))
  · rintro h ⟨o, st⟩ hp
    obtain ⟨k, hk⟩ := List.mem_iff_getElem?.mp hp
    obtain ⟨a, b⟩ := List.getElem?_zip_eq_some.mp hk
    have := h (k : Nat) (by omega) (by have := (List.getElem?_eq_some_iff.mp a).1; omega)
    rwa [gI_get a, gI_get b] at this
theorem bad_false {l s : List Int} {i j : Int} : bad l s i j = false ↔ (Int.gcd (gI l i) (gI l j) : Int) ∣ gI s i - gI s j := by
  unfold bad
  rw [Bool.not_eq_false', decide_eq_true_iff]
  exact ⟨Int.dvd_of_emod_eq_zero, Int.emod_eq_zero_of_dvd⟩
theorem solvable {l s : List Int} (h : Steps12 l) (hs : s.length = l.length) : firstBad l s = none ↔ ∃ x, Sat (l.zip s) x := by
  constructor
  · intro hn
    rw [first_none] at hn
    obtain ⟨h1, h2, h3⟩ := h
    match l, s, h1, h2, h3, hs, hn with
    | [a], [x], _, _, _, _, _ => exact ⟨x, by simp [Sat]⟩
    | [a, b], [x, y], _, _, h3, _, hn =>
      have ha := h3 a (by simp)
      have hb := h3 b (by simp)
      have c01 : (Int.gcd a b : Int) ∣ x - y := bad_false.mp (hn 0 1 (by omega) (by omega) (by simp))
      obtain ⟨z, z1, z2⟩ := crt2 (by omega) (by omega) c01
      exact ⟨z, by simp [Sat, z1, z2]⟩
    | [a, b, c], [x, y, w], _, _, h3, _, hn =>
      have ha := h3 a (by simp)
      have hb := h3 b (by simp)
      have hc := h3 c (by simp)
      have c01 : (Int.gcd a b : Int) ∣ x - y := bad_false.mp (hn 0 1 (by omega) (by omega) (by simp))
      have c02 : (Int.gcd a c : Int) ∣ x - w := bad_false.mp (hn 0 2 (by omega) (by omega) (by simp))
      have c12 : (Int.gcd b c : Int) ∣ y - w := bad_false.mp (hn 1 2 (by omega) (by omega) (by simp))
      obtain ⟨z, z1, z2⟩ := crt2 (by omega) (by omega) c01
      have d1 : (Int.gcd a c : Int) ∣ z - w := by
        have := Int.dvd_add (Int.dvd_trans (Int.gcd_dvd_left a c) z1) c02
        rwa [show z - x + (x - w) = z - w by omega] at this
      have d2 : (Int.gcd b c : Int) ∣ z - w := by
        have := Int.dvd_add (Int.dvd_trans (Int.gcd_dvd_left b c) z2) c12
        rwa [show z - y + (y - w) = z - w by omega] at this
      obtain ⟨t, t1, t2⟩ := crt2 (by omega) (by omega) (gcd_lcm' ha hb hc d1 d2)
      have e1 : a ∣ t - x := by
        have := Int.dvd_add (Int.dvd_trans (Int.dvd_lcm_left a b) t1) z1
        rwa [show t - z + (z - x) = t - x by omega] at this
      have e2 : b ∣ t - y := by
        have := Int.dvd_add (Int.dvd_trans (Int.dvd_lcm_right a b) t1) z2
        rwa [show t - z + (z - y) = t - y by omega] at this
      exact ⟨t, by simp [Sat, e1, e2, t2]⟩
    | [], _, h1, _, _, _, _ => simp at h1
    | _ :: _ :: _ :: _ :: _, _, _, h2, _, _, _ => simp at h2
    | [_], [], _, _, _, hs, _ => simp at hs
    | [_], _ :: _ :: _, _, _, _, hs, _ => simp at hs
    | [_, _], [], _, _, _, hs, _ => simp at hs
    | [_, _], [_], _, _, _, hs, _ => simp at hs
    | [_, _], _ :: _ :: _ :: _, _, _, _, hs, _ => simp at hs
    | [_, _, _], [], _, _, _, hs, _ => simp at hs
    | [_, _, _], [_], _, _, _, hs, _ => simp at hs
    | [_, _, _], [_, _], _, _, _, hs, _ => simp at hs
    | [_, _, _], _ :: _ :: _ :: _ :: _, _, _, _, hs, _ => simp at hs
  · rintro ⟨x, hx⟩
    rw [sat_iff hs] at hx
    rw [first_none]
    intro i j i0 ij j1
    rw [bad_false]
    have a := Int.dvd_trans (Int.gcd_dvd_left (gI l i) (gI l j)) (hx i i0 (by omega))
    have b := Int.dvd_trans (Int.gcd_dvd_right (gI l i) (gI l j)) (hx j (by omega) j1)
    have := Int.dvd_sub b a
    rwa [show x - gI s j - (x - gI s i) = gI s i - gI s j by omega] at this
/-- the places where all lines meet, looked up one by one -/
def satB (l s : List Int) (k : Int) : Bool := (rangeI l.length).all fun j => decide ((k - gI s j) % gI l j = 0)
def goodI (l s : List Int) : List Int := (rangeI (wholeI l)).filter (satB l s)
theorem satB_iff {l s : List Int} (hs : s.length = l.length) {k : Int} : satB l s k = true ↔ Sat (l.zip s) k := by
  rw [sat_iff hs]
  unfold satB
  rw [List.all_eq_true]
  constructor
  · intro h j j0 j1
    have := h j (mem_range_iff.mpr ⟨j0, j1⟩)
    exact Int.dvd_of_emod_eq_zero (of_decide_eq_true this)
  · intro h j hj
    obtain ⟨j0, j1⟩ := mem_range_iff.mp hj
    exact decide_eq_true (Int.emod_eq_zero_of_dvd (h j j0 j1))
theorem good_met {l s : List Int} (h : Steps12 l) (hs : s.length = l.length) (bx : Bx) : ∃ r, fe_met.fm [.d (tI l), .d (tI s)] bx = .ret r bx ∧ ((goodI l s = [] ∧ r = .none ∧ ∀ x, ¬ Sat (l.zip s) x) ∨ ∃ p, goodI l s = [p] ∧ r = .int p ∧ 0 ≤ p ∧ p < 1728 ∧ Sat (l.zip s) p) := by
  obtain ⟨w0, w1⟩ := whole12 h
  obtain ⟨r, e, ⟨rfl, hn⟩ | ⟨p, rfl, p0, p1, hp⟩⟩ := met_ok h.ok hs bx
  · refine ⟨_, e, .inl ⟨?_, rfl, hn⟩⟩
    unfold goodI
    rw [List.filter_eq_nil_iff]
    intro k _ hk
    exact hn k ((satB_iff hs).mp hk)
  · refine ⟨_, e, .inr ⟨p, ?_, rfl, p0, by omega, (hp p).mpr ⟨0, by omega⟩⟩⟩
    have f := first_line (p := wholeI l) (a := p) w0 p0
    rw [Int.emod_eq_of_lt p0 p1] at f
    rw [← f]
    unfold goodI rangeI
    refine List.filter_congr fun k _ => ?_
    rw [Bool.eq_iff_iff, satB_iff hs, hp k, decide_eq_true_iff]
    constructor
    · intro z
      have := Int.dvd_neg.mpr z
      rw [show -(k - p) = p - k by omega] at this
      exact Int.emod_eq_zero_of_dvd this
    · intro z
      have := Int.dvd_neg.mpr (Int.dvd_of_emod_eq_zero z)
      rwa [show -(p - k) = k - p by omega] at this
theorem whole_dvd : ∀ {l : List Int} {c : Int}, 0 < c → (∀ x ∈ l, 0 < x) → c ∣ l.foldl lcmF c ∧ ∀ o ∈ l, o ∣ l.foldl lcmF c
  | [], c, _, _ => ⟨Int.dvd_refl _, by simp⟩
  | x :: l, c, hc, h => by
    have hx := h x (by simp)
    obtain ⟨a, b⟩ := whole_dvd (l := l) (lcmF_pos hc hx) fun y hy => h y (List.mem_cons_of_mem _ hy)
    have e := lcmF_eq (w := c) (o := x) (by omega) (by omega)
    have d1 : c ∣ lcmF c x := by rw [e]; exact Int.dvd_lcm_left ..
    have d2 : x ∣ lcmF c x := by rw [e]; exact Int.dvd_lcm_right ..
    refine ⟨Int.dvd_trans d1 a, fun o ho => ?_⟩
    rcases List.mem_cons.mp ho with rfl | ho
    · exact Int.dvd_trans d2 a
    · exact b o ho
end K25

set_option maxRecDepth 100000
namespace K25
open PySem PySem.Spec PyProof.Rows L2 Gl
variable {l s : List Int} {sl : List DV} {ds : List Int} {n : Int} {bx : Bx}
section
variable (h : Steps12 l) (hs : s.length = l.length)
include h hs
theorem r8 (B : Base l s sl) (h2 : sl[2]? = some (.sh (.int (wholeI l)))) (h4 : sl[4]? = some (.sh (lI (goodI l s)))) (hb : BxN ds n bx) (hn : n + 7 < 1000) : ∃ S2, r_law_8 ⟨sl, bx⟩ = .ret (.bool true) S2 := by
  obtain ⟨r, er, hr⟩ := good_met h hs bx
  have e0 : sumOk 0 = true := rfl
  have eg := ne_of_eq (eq_nil (shp_lI (goodI l s)))
  have hG : firstBad l s = none ↔ goodI l s ≠ [] := by
    rw [solvable h hs]
    rcases hr with ⟨g, _, no⟩ | ⟨p, g, _, _, _, sat⟩
    · rw [g]
      exact ⟨fun ⟨x, hx⟩ => absurd hx (no x), fun z => absurd rfl z⟩
    · rw [g]
      exact ⟨fun _ => by simp, fun _ => ⟨p, sat⟩⟩
  have key : (mIf (mCmp neD (mPeek 4) (mLst [])) (mBox 4 0 (mOp2 ixD (mPeek 4) (mC (.int 0)))) (mC .none)) ⟨sl, bx⟩ = .ok r ⟨sl, bx⟩ := by
    rw [z_if, z_cmp, p_sh h4, z_ok, z_lst, z_nil, z_ok]
    show ((ofO (neD (lI (goodI l s)) (.list [])) ⟨sl, bx⟩).bind _) = _
    rw [eg, z_some, z_ok]
    rcases hr with ⟨g, rfl, no⟩ | ⟨p, g, rfl, _, _, sat⟩
    · rw [g]
      rfl
    · rw [g] at h4 ⊢
      show mBox 4 0 _ _ = _
      rw [bx_no h4, z_op2, p_sh h4, z_ok, z_c, z_ok]
      show ofO (ixD (.list (.int p :: [])) (.int 0)) _ = _
      rw [at_head]
      rfl
  have rs : RS 0 0 r := by
    rcases hr with ⟨g, rfl, no⟩ | ⟨p, g, rfl, p0, p1, sat⟩
    · exact rs_none
    · exact rs_int (by omega)
  have sm := sames.ok rs (by omega) (by omega) bx
  have gl : ((goodI l s).length : Int) ≤ 1 := by
    rcases hr with ⟨g, _⟩ | ⟨p, g, _⟩ <;> rw [g] <;> simp
  have hm : (mOrT (mNotT (mTru (mCall fe__law_same (mSeq [(mArgE (mCall fe_met (mSeq [(mArgV 20), (mArgV 19)]))), (mArgE (mIf (mCmp neD (mPeek 4) (mLst [])) (mBox 4 0 (mOp2 ixD (mPeek 4) (mC (.int 0)))) (mC .none)))])))) (mCmp gtD (mOp1 lenD (mPeek 4)) (mC (.int 1)))) ⟨sl, bx⟩ = .ok false ⟨sl, bx⟩ := by
    have e1 : mCall fe_met (mSeq [(mArgV 20), (mArgV 19)]) ⟨sl, bx⟩ = .ok r ⟨sl, bx⟩ := by
      refine call_ret (bx' := bx) (S1 := ⟨sl, bx⟩) (as := [.d (tI l), .d (tI s)]) ?_ rfl er
      rw [z_cons, a_sh B.b20, z_ok, z_cons, a_sh B.b19]
      rfl
    have e2 : mCall fe__law_same (mSeq [(mArgE (mCall fe_met (mSeq [(mArgV 20), (mArgV 19)]))), (mArgE (mIf (mCmp neD (mPeek 4) (mLst [])) (mBox 4 0 (mOp2 ixD (mPeek 4) (mC (.int 0)))) (mC .none)))]) ⟨sl, bx⟩ = .ok (.bool true) ⟨sl, bx⟩ := by
      refine call_ret (bx' := bx) (S1 := ⟨sl, bx⟩) (as := [.d r, .d r]) ?_ rfl sm
      rw [z_cons, z_argE, e1, z_ok, z_ok, z_cons, z_argE, key]
      rfl
    rw [z_orT, z_notT, z_tru, e2, z_ok, z_tbool, z_some, z_ok, z_ok]
    show (mCmp _ _ _) _ = _
    rw [z_cmp, z_op1, p_sh h4, z_ok, z_llist, z_some, z_ok, z_c, z_ok, z_gt, List.length_map, decide_eq_false (by omega)]
    rfl
  unfold r_law_8 p_law_8
  rw [z_seq, if_next hm, z_onext]
  exact r9 h hs hG B h2 h4 hb hn
theorem c7 {k : Int} (B : Base l s sl) (h21 : sl[21]? = some (.sh (.int k))) : c_law_7 ⟨sl, bx⟩ = .ok (lI ((rangeI l.length).filter fun j => !decide ((k - gI s j) % gI l j = 0))) ⟨sl, bx⟩ := by
  have l3 : l.length ≤ 3 := h.2.1
  unfold c_law_7
  refine comp_pure (l := rangeI l.length) PyData.int (fun j => !decide ((k - gI s j) % gI l j = 0)) PyData.int (S1 := ⟨sl, bx⟩) ?_ (by rw [js_cons, js_cons, js_cons, js_nil, js1 h21, js1 B.b19, js1 B.b20]) (fun j hj => ?_) (by rw [rangeI_len]; omega) rfl
  · rw [z_range, z_cons, z_op1, p_sh B.b20, z_ok, z_ltup, z_some, z_ok, z_nil, z_ok, z_ok, List.length_map, range_I (by omega) (by omega)]
    rfl
  · obtain ⟨j0, j1⟩ := mem_range_iff.mp hj
    have gj := h.2.2 _ (gI_mem (l := l) j0 j1)
    have g22 : (((sl.map hideD).set 22 .un).set 22 (.sh (.int j)))[22]? = some (.sh (.int j)) := get_same (by simp [B.len])
    have g21 : (((sl.map hideD).set 22 .un).set 22 (.sh (.int j)))[21]? = some (.sh (.int k)) := get_other (by omega) (get_other (by omega) (hide_sh h21))
    have g19 : (((sl.map hideD).set 22 .un).set 22 (.sh (.int j)))[19]? = some (.sh (tI s)) := get_other (by omega) (get_other (by omega) (hide_sh B.b19))
    have g20 : (((sl.map hideD).set 22 .un).set 22 (.sh (.int j)))[20]? = some (.sh (tI l)) := get_other (by omega) (get_other (by omega) (hide_sh B.b20))
    generalize hq : ((sl.map hideD).set 22 .un).set 22 (.sh (.int j)) = q at g22 g21 g19 g20
    refine ⟨q, ⟨q, bx⟩, by rw [← hq]; rfl, ?_, rfl, fun _ => ⟨_, v_sh g22, rfl⟩⟩
    rw [z_cmp, z_op2, z_op2, p_sh g21, z_ok, z_op2, p_sh g19, z_ok, p_sh g22, z_ok, at_int j0 (by omega), z_some, z_ok, z_sub, z_some, z_ok, z_op2, p_sh g20, z_ok, p_sh g22, z_ok, at_int j0 j1, z_some, z_ok, modD_pos (by omega), z_some, z_ok, z_c, z_ok, z_ne]
    rfl
theorem r7 (B : Base l s sl) (h2 : sl[2]? = some (.sh (.int (wholeI l)))) (hb : BxN ds n bx) (hn : n + 7 < 1000) : ∃ S2, r_law_7 ⟨sl, bx⟩ = .ret (.bool true) S2 := by
  obtain ⟨w0, w1⟩ := whole12 h
  have hc : c_law_8 ⟨sl, bx⟩ = .ok (lI (goodI l s)) ⟨sl, bx⟩ := by
    unfold c_law_8
    refine comp_pure (l := rangeI (wholeI l)) PyData.int (satB l s) PyData.int (S1 := ⟨sl, bx⟩) ?_ (by rw [js_cons, js_cons, js_nil, js1 B.b19, js1 B.b20]) (fun k hk => ?_) (by rw [rangeI_len]; omega) rfl
    · rw [z_range, z_cons, v_sh (S := ⟨sl, bx⟩) h2, z_ok, z_nil, z_ok, z_ok, range_I (by omega) (by omega)]
      rfl
    · have g21 : (((sl.map hideD).set 21 .un).set 21 (.sh (.int k)))[21]? = some (.sh (.int k)) := get_same (by simp [B.len])
      have Bq : Base l s (((sl.map hideD).set 21 .un).set 21 (.sh (.int k))) := ⟨by simp [B.len], get_other (by omega) (get_other (by omega) (hide_bx B.b16)), get_other (by omega) (get_other (by omega) (hide_sh B.b19)), get_other (by omega) (get_other (by omega) (hide_sh B.b20))⟩
      generalize hq : ((sl.map hideD).set 21 .un).set 21 (.sh (.int k)) = q at g21 Bq
      refine ⟨q, ⟨q, bx⟩, by rw [← hq]; rfl, ?_, rfl, fun _ => ⟨⟨q, bx⟩, ?_, rfl⟩⟩
      · rw [z_cmp, c7 h hs Bq g21, z_ok, z_lst, z_nil, z_ok]
        show ofO (eqD (.list _) (.list [])) _ = _
        rw [eq_nil (shp_lI _)]
        have e1 : (((rangeI l.length).filter fun j => !decide ((k - gI s j) % gI l j = 0)).map PyData.int).isEmpty = satB l s k := by
          unfold satB
          rw [Bool.eq_iff_iff, List.isEmpty_iff, List.map_eq_nil_iff, List.filter_eq_nil_iff, List.all_eq_true]
          constructor
          · intro z o ho
            have := z o ho
            simp at this ⊢
            exact this
          · intro z o ho
            have := z o ho
            simp at this ⊢
            exact this
        rw [e1]
        rfl
      · rw [z_op1, p_sh g21]
        rfl
  unfold r_law_7 p_law_7
  rw [z_seq, z_e, hc, z_toO, z_set, z_onext]
  exact r8 h hs (B.set (by omega)) (get_other (by omega) h2) (get_same (by rw [B.len]; omega)) hb hn
theorem r6 (B : Base l s sl) (h2 : sl[2]? = some (.sh (.int (wholeI l)))) (hb : BxN ds n bx) (hn : n + 7 < 1000) : ∃ S2, r_law_6 ⟨sl, bx⟩ = .ret (.bool true) S2 := by
  have hc : c_law_6 ⟨sl, bx⟩ = .ok (.list []) ⟨sl, bx⟩ := by
    unfold c_law_6
    refine comp_pure (l := l) PyData.int (fun o => !decide (wholeI l % o = 0)) PyData.int (S1 := ⟨sl, bx⟩) ?_ (by rw [js_cons, js_nil, js1 h2]) (fun x hx => ?_) (by have := h.2.1; omega) ?_
    · rw [z_items, v_sh B.b20]
      rfl
    · obtain ⟨x1, x2⟩ := h.2.2 x hx
      have g3 : (((sl.map hideD).set 3 .un).set 3 (.sh (.int x)))[3]? = some (.sh (.int x)) := get_same (by simp [B.len])
      have g2 : (((sl.map hideD).set 3 .un).set 3 (.sh (.int x)))[2]? = some (.sh (.int (wholeI l))) := get_other (by omega) (get_other (by omega) (hide_sh h2))
      generalize hq : ((sl.map hideD).set 3 .un).set 3 (.sh (.int x)) = q at g3 g2
      refine ⟨q, ⟨q, bx⟩, by rw [← hq]; rfl, ?_, rfl, fun _ => ⟨_, v_sh g3, rfl⟩⟩
      rw [z_cmp, z_op2, p_sh g2, z_ok, p_sh g3, z_ok, modD_pos (by omega), z_some, z_ok, z_c, z_ok, z_ne]
      rfl
    · rw [List.map_eq_nil_iff, List.filter_eq_nil_iff]
      intro o ho
      have := (whole_dvd (l := l) (c := 1) (by omega) (fun x hx => by have := h.2.2 x hx; omega)).2 o ho
      have e : wholeI l % o = 0 := Int.emod_eq_zero_of_dvd this
      rw [e]
      simp
  have e0 : neD (.list []) (.list []) = some false := ne_of_eq (eq_nil rfl)
  have hm : (mOrT (mCmp neD (mCall fe_period (mSeq [(mArgV 20)])) (mPeek 2)) (mCmp neD c_law_6 (mLst []))) ⟨sl, bx⟩ = .ok false ⟨sl, bx⟩ := by
    have e1 : mCall fe_period (mSeq [(mArgV 20)]) ⟨sl, bx⟩ = .ok (.int (wholeI l)) ⟨sl, bx⟩ := by
      refine call_ret (bx' := bx) (S1 := ⟨sl, bx⟩) (as := [.d (tI l)]) ?_ rfl (period_ok h.ok bx)
      rw [z_cons, a_sh B.b20]
      rfl
    rw [z_orT, z_cmp, e1, z_ok, p_sh h2, z_ok, z_ne, decide_eq_true rfl, z_some, z_ok]
    show (mCmp _ _ _) _ = _
    rw [z_cmp, hc, z_ok, z_lst, z_nil, z_ok]
    show ofO (neD (.list []) (.list [])) _ = _
    rw [e0]
    rfl
  unfold r_law_6 p_law_6
  rw [z_seq, if_next hm, z_onext]
  exact r7 h hs B h2 hb hn
theorem r5 (B : Base l s sl) (h2 : sl[2]? = some (.sh (.int 1))) (hb : BxN ds n bx) (hn : n + 7 < 1000) : ∃ S2, r_law_5 ⟨sl, bx⟩ = .ret (.bool true) S2 := by
  obtain ⟨S', e, sl', rfl, B', h2'⟩ := loopF_inv (st := stName 3) (mb := b_law_4) (ds := l.map .int) (S := ⟨sl, bx⟩)
    (P := fun i S => ∃ sl', S = ⟨sl', bx⟩ ∧ Base l s sl' ∧ sl'[2]? = some (.sh (.int (wholeI (l.take i))))) (fun i d S hd hP => by
      obtain ⟨sl', rfl, B', h2'⟩ := hP
      rw [List.getElem?_map] at hd
      cases hx : l[i]? with
      | none => rw [hx] at hd; cases hd
      | some x =>
        rw [hx] at hd
        cases hd
        obtain ⟨x1, x2⟩ := h.2.2 x (List.mem_of_getElem? hx)
        have B3 := B'.set (i := 3) (x := .sh (.int x)) (by omega)
        have g3 : (sl'.set 3 (.sh (.int x)))[3]? = some (.sh (.int x)) := get_same (by rw [B'.len]; omega)
        have g2 : (sl'.set 3 (.sh (.int x)))[2]? = some (.sh (.int (wholeI (l.take i)))) := get_other (by omega) h2'
        have co := commons.ok (a := wholeI (l.take i)) (b := x) (by omega) bx
        have hg := gcdpos (a := wholeI (l.take i)) (b := x) (by omega)
        have hg2 := gcdle (a := wholeI (l.take i)) (b := x) (by omega)
        have e1 : mCall fe__law_common (mSeq [(mArgV 2), (mArgV 3)]) ⟨sl'.set 3 (.sh (.int x)), bx⟩ = .ok (.int (Int.gcd (wholeI (l.take i)) x)) ⟨sl'.set 3 (.sh (.int x)), bx⟩ := by
          refine call_ret (bx' := bx) (S1 := ⟨sl'.set 3 (.sh (.int x)), bx⟩) (as := [.d (.int (wholeI (l.take i))), .d (.int x)]) ?_ rfl co
          rw [z_cons, a_sh g2, z_ok, z_cons, a_sh g3]
          rfl
        refine ⟨sl'.set 3 (.sh (.int x)), ⟨(sl'.set 3 (.sh (.int x))).set 2 (.sh (.int (wholeI (l.take (i + 1))))), bx⟩, rfl, ?_, _, rfl, B3.set (by omega), get_same (by rw [B3.len]; omega)⟩
        show b_law_4 ⟨sl'.set 3 (.sh (.int x)), bx⟩ = _
        rw [take_fold hx]
        unfold b_law_4
        rw [z_seq, z_e, z_op2, z_op2, p_sh g2, z_ok, p_sh g3, z_ok, mulD_ok (.inr (by omega)), z_some, z_ok, e1, z_ok, fdivD_pos hg (by omega), z_some, z_toO, z_set, z_onext]
        rfl) ⟨sl, rfl, B, h2⟩
  rw [List.length_map, List.take_length] at h2'
  have e3 : f_law_5 ⟨sl, bx⟩ = loopF (stName 3) b_law_4 (l.map .int) ⟨sl, bx⟩ := by
    unfold f_law_5
    rw [z_for, z_items, v_sh B.b20]
    rfl
  unfold r_law_5 p_law_5
  rw [z_seq, e3, e, z_onext]
  exact r6 h hs B' h2' hb hn
theorem r4 (B : Base l s sl) (hb : BxN ds n bx) (hn : n + 7 < 1000) : ∃ S2, r_law_4 ⟨sl, bx⟩ = .ret (.bool true) S2 := by
  unfold r_law_4 p_law_4
  rw [z_seq, z_e, z_c, z_toO, z_set, z_onext]
  exact r5 h hs (B.set (by omega)) (get_same (by rw [B.len]; omega)) hb hn
theorem r3 {far : Int} (f0 : 0 ≤ far) (f1 : far < 80) (B : Base l s sl) (h1 : sl[1]? = some (.sh (.int far))) (hb : BxN ds n bx) (hn : n + 7 < 1000) : ∃ S2, r_law_3 ⟨sl, bx⟩ = .ret (.bool true) S2 := by
  have l0 : 0 < l.length := h.1
  obtain ⟨g1, g2⟩ := h.2.2 _ (gI_mem (l := l) (i := 0) (by omega) (by omega))
  have bx20 : ∀ {q : List DV}, Base l s q → mBox 20 0 (mOp2 ixD (mPeek 20) (mC (.int 0))) ⟨q, bx⟩ = .ok (.int (gI l 0)) ⟨q, bx⟩ := fun Bq => by
    rw [bx_no Bq.b20, z_op2, p_sh Bq.b20, z_ok, z_c, z_ok, first_at l0]
    rfl
  have bx19 : ∀ {q : List DV}, Base l s q → mBox 19 0 (mOp2 ixD (mPeek 19) (mC (.int 0))) ⟨q, bx⟩ = .ok (.int (gI s 0)) ⟨q, bx⟩ := fun Bq => by
    rw [bx_no Bq.b19, z_op2, p_sh Bq.b19, z_ok, z_c, z_ok, first_at (by omega)]
    rfl
  have hc : c_law_3 ⟨sl, bx⟩ = .ok (lI (lineL (gI l 0) (gI s 0) far)) ⟨sl, bx⟩ := by
    unfold c_law_3
    refine comp_pure (l := rangeI (far + 1)) PyData.int (fun k => decide ((k - gI s 0) % gI l 0 = 0)) PyData.int (S1 := ⟨sl, bx⟩) ?_ (by rw [js_cons, js_cons, js_nil, js1 B.b19, js1 B.b20]) (fun k hk => ?_) (by rw [rangeI_len]; omega) rfl
    · rw [z_range, z_cons, z_op2, p_sh h1, z_ok, z_c, z_ok, z_add, z_some, z_ok, z_nil, z_ok, z_ok, range_I (by omega) (by omega)]
      rfl
    · have g21 : (((sl.map hideD).set 21 .un).set 21 (.sh (.int k)))[21]? = some (.sh (.int k)) := get_same (by simp [B.len])
      have Bq : Base l s (((sl.map hideD).set 21 .un).set 21 (.sh (.int k))) := ⟨by simp [B.len], get_other (by omega) (get_other (by omega) (hide_bx B.b16)), get_other (by omega) (get_other (by omega) (hide_sh B.b19)), get_other (by omega) (get_other (by omega) (hide_sh B.b20))⟩
      generalize hq : ((sl.map hideD).set 21 .un).set 21 (.sh (.int k)) = q at g21 Bq
      refine ⟨q, ⟨q, bx⟩, by rw [← hq]; rfl, ?_, rfl, fun _ => ⟨⟨q, bx⟩, ?_, rfl⟩⟩
      · rw [z_cmp, z_op2, z_op2, p_sh g21, z_ok, bx19 Bq, z_ok, z_sub, z_some, z_ok, bx20 Bq, z_ok, modD_pos (by omega), z_some, z_ok, z_c, z_ok, z_eq]
        rfl
      · rw [z_op1, p_sh g21]
        rfl
  have li := lines_ok (step := gI l 0) (start := gI s 0) (far := far) g1 (by omega) f0 (by omega) bx
  have rs := rs_ints (l := lineL (gI l 0) (gI s 0) far) fun x hx => by
    have := (List.mem_filter.mp hx).1
    have := mem_rangeI (n := far + 1) this
    omega
  have len : (lineL (gI l 0) (gI s 0) far).length ≤ 80 := by
    refine Nat.le_trans (List.length_filter_le ..) ?_
    rw [List.length_map, List.length_range]
    omega
  have sm := sames.ok rs (by omega) (by omega) bx
  have hm : (mNotT (mTru (mCall fe__law_same (mSeq [(mArgE (mCall fe_lines (mSeq [(mArgE (mBox 20 0 (mOp2 ixD (mPeek 20) (mC (.int 0))))), (mArgE (mBox 19 0 (mOp2 ixD (mPeek 19) (mC (.int 0))))), (mArgV 1)]))), (mArgE (mOp1 tupleD c_law_3))])))) ⟨sl, bx⟩ = .ok false ⟨sl, bx⟩ := by
    have e1 : mCall fe_lines (mSeq [(mArgE (mBox 20 0 (mOp2 ixD (mPeek 20) (mC (.int 0))))), (mArgE (mBox 19 0 (mOp2 ixD (mPeek 19) (mC (.int 0))))), (mArgV 1)]) ⟨sl, bx⟩ = .ok (tI (lineL (gI l 0) (gI s 0) far)) ⟨sl, bx⟩ := by
      refine call_ret (bx' := bx) (S1 := ⟨sl, bx⟩) (as := [.d (.int (gI l 0)), .d (.int (gI s 0)), .d (.int far)]) ?_ rfl li
      rw [z_cons, z_argE, bx20 B, z_ok, z_ok, z_cons, z_argE, bx19 B, z_ok, z_ok, z_cons, a_sh h1]
      rfl
    have e2 : mCall fe__law_same (mSeq [(mArgE (mCall fe_lines (mSeq [(mArgE (mBox 20 0 (mOp2 ixD (mPeek 20) (mC (.int 0))))), (mArgE (mBox 19 0 (mOp2 ixD (mPeek 19) (mC (.int 0))))), (mArgV 1)]))), (mArgE (mOp1 tupleD c_law_3))]) ⟨sl, bx⟩ = .ok (.bool true) ⟨sl, bx⟩ := by
      refine call_ret (bx' := bx) (S1 := ⟨sl, bx⟩) (as := [.d (tI (lineL (gI l 0) (gI s 0) far)), .d (tI (lineL (gI l 0) (gI s 0) far))]) ?_ rfl sm
      rw [z_cons, z_argE, e1, z_ok, z_ok, z_cons, z_argE, z_op1, hc]
      rfl
    rw [z_notT, z_tru, e2]
    rfl
  unfold r_law_3 p_law_3
  rw [z_seq, if_next hm, z_onext]
  exact r4 h hs B hb hn
theorem r2 (B : Base l s sl) (hb : BxN ds n bx) (hn : n + 8 < 1000) : ∃ S2, r_law_2 ⟨sl, bx⟩ = .ret (.bool true) S2 := by
  obtain ⟨far, bx', e, f0, f1, hb'⟩ := draws.ok hb (m := 80) (by omega) (by omega)
  have e1 : mCall fe__law_draw (mSeq [(mArgV 16), (mArgE (mC (.int 80)))]) ⟨sl, bx⟩ = .ok (.int far) ⟨sl, bx'⟩ := by
    refine call_ret (bx' := bx') (S1 := ⟨sl, bx⟩) (as := [.box, .d (.int 80)]) ?_ rfl e
    rw [z_cons, a_bx B.b16]
    rfl
  unfold r_law_2 p_law_2
  rw [z_seq, z_e, e1, z_toO, z_set, z_onext]
  exact r3 h hs f0 f1 (B.set (by omega)) (get_same (by rw [B.len]; omega)) hb' (by omega)
end
theorem draw_at {m : Int} {q : List DV} {n : Int} {bx : Bx} (hq : q[16]? = some .bx) (hb : BxN ds n bx) (hm : 0 < m) (hn : n < 2 ^ 60) : ∃ r bx', mCall fe__law_draw (mSeq [(mArgV 16), (mArgE (mC (.int m)))]) ⟨q, bx⟩ = .ok (.int r) ⟨q, bx'⟩ ∧ 0 ≤ r ∧ r < m ∧ BxN ds (n + 1) bx' := by
  obtain ⟨r, bx', e, f0, f1, hb'⟩ := draws.ok hb hm hn
  refine ⟨r, bx', ?_, f0, f1, hb'⟩
  refine call_ret (bx' := bx') (S1 := ⟨q, bx⟩) (as := [.box, .d (.int m)]) ?_ rfl e
  rw [z_cons, a_bx hq]
  rfl
theorem r1 (h : Steps12 l) (hl : sl.length = 24) (h16 : sl[16]? = some .bx) (h20 : sl[20]? = some (.sh (tI l))) (hb : BxN ds n bx) (hn : n < 10) : ∃ S2, r_law_1 ⟨sl, bx⟩ = .ret (.bool true) S2 := by
  have l3 : l.length ≤ 3 := h.2.1
  obtain ⟨ys, bx', e1, e2, e3, e4⟩ := comp_draw (js := [16]) (vs := [21]) (mi := mItems (mVar 20)) (st := stName 21) (mt := mC true) (me := mOp2 subD (mCall fe__law_draw (mSeq [(mArgV 16), (mArgE (mC (.int 30)))])) (mC (.int 10))) (S := ⟨sl, bx⟩) (S1 := ⟨sl, bx⟩) (S2 := ⟨sl, bx⟩) (l := l) PyData.int
    (B := fun k bx => BxN ds (n + (k : Nat)) bx) (G := fun y => ∃ x : Int, y = .int x ∧ True) (by rw [z_items, v_sh h20]; rfl) (by rw [js_cons, js_nil, js_bx h16]) (by simpa using hb) (fun x hx k bx hk hB => by
      have g16 : (((sl.map hideD).set 21 .un).set 21 (.sh (.int x)))[16]? = some .bx := get_other (by omega) (get_other (by omega) (hide_bx h16))
      generalize hq : ((sl.map hideD).set 21 .un).set 21 (.sh (.int x)) = q at g16
      obtain ⟨r, bx', e, f0, f1, hb'⟩ := draw_at (m := 30) g16 hB (by omega) (by omega)
      refine ⟨q, ⟨q, bx⟩, .int (r - 10), ⟨q, bx'⟩, by rw [← hq]; rfl, rfl, ?_, ⟨_, rfl, trivial⟩, by rw [show n + ((k + 1 : Nat) : Int) = n + (k : Nat) + 1 by omega]; exact hb'⟩
      rw [z_op2, e]
      rfl) (by omega)
  obtain ⟨s, rfl, -⟩ := ints_of e3
  rw [List.length_map] at e2
  have hc : c_law_2 ⟨sl, bx⟩ = .ok (lI s) ⟨sl, bx'⟩ := e1
  unfold r_law_1 p_law_1
  rw [z_seq, z_e, z_op1, hc, z_ok, z_tlist, z_some, z_toO, z_set, z_onext]
  exact r2 h e2 ⟨by rw [List.length_set]; exact hl, get_other (by omega) h16, get_same (by rw [hl]; omega), get_other (by omega) h20⟩ e4 (by omega)
theorem r0 (hl : sl.length = 24) (h16 : sl[16]? = some .bx) (hb : BxN ds 0 bx) : ∃ S2, r_law_0 ⟨sl, bx⟩ = .ret (.bool true) S2 := by
  obtain ⟨a, bx1, ea, a0, a1, hb1⟩ := draw_at (m := 3) h16 hb (by omega) (by omega)
  have hr : rangeI (1 + a) = rangeI (1 + a) := rfl
  have ln := rangeI_len (1 + a)
  obtain ⟨ys, bx', e1, e2, e3, e4⟩ := comp_draw (js := [16]) (vs := [21]) (mi := mRange (mSeq [(mOp2 addD (mC (.int 1)) (mCall fe__law_draw (mSeq [(mArgV 16), (mArgE (mC (.int 3)))])))])) (st := stName 21) (mt := mC true) (me := mOp2 addD (mC (.int 1)) (mCall fe__law_draw (mSeq [(mArgV 16), (mArgE (mC (.int 12)))]))) (S := ⟨sl, bx⟩) (S1 := ⟨sl, bx1⟩) (S2 := ⟨sl, bx1⟩) (l := rangeI (1 + a)) PyData.int
    (B := fun k bx => BxN ds (0 + 1 + (k : Nat)) bx) (G := fun y => ∃ x : Int, y = .int x ∧ 1 ≤ x ∧ x ≤ 12) (by
      rw [z_range, z_cons, z_op2, z_c, z_ok, ea, z_ok, z_add, z_some, z_ok, z_nil, z_ok, z_ok, range_I (by omega) (by omega)]
      rfl) (by rw [js_cons, js_nil, js_bx h16]) (by simpa using hb1) (fun x hx k bx hk hB => by
      have g16 : (((sl.map hideD).set 21 .un).set 21 (.sh (.int x)))[16]? = some .bx := get_other (by omega) (get_other (by omega) (hide_bx h16))
      generalize hq : ((sl.map hideD).set 21 .un).set 21 (.sh (.int x)) = q at g16
      obtain ⟨r, bx', e, f0, f1, hb'⟩ := draw_at (m := 12) g16 hB (by omega) (by omega)
      refine ⟨q, ⟨q, bx⟩, .int (1 + r), ⟨q, bx'⟩, by rw [← hq]; rfl, rfl, ?_, ⟨_, rfl, by omega, by omega⟩, by rw [show (0 : Int) + 1 + ((k + 1 : Nat) : Int) = 0 + 1 + (k : Nat) + 1 by omega]; exact hb'⟩
      rw [z_op2, z_c, z_ok, e]
      rfl) (by omega)
  obtain ⟨l, rfl, hl2⟩ := ints_of e3
  rw [List.length_map] at e2
  have hc : c_law_1 ⟨sl, bx⟩ = .ok (lI l) ⟨sl, bx'⟩ := e1
  unfold r_law_0 p_law_0
  rw [z_seq, z_e, z_op1, hc, z_ok, z_tlist, z_some, z_toO, z_set, z_onext]
  exact r1 ⟨by omega, by omega, hl2⟩ (by rw [List.length_set]; exact hl) (get_other (by omega) h16) (get_same (by rw [hl]; omega)) e4 (by omega)
theorem law (ns ds : List Int) : ∃ S2, m_law ⟨((.sh (.list (ns.map .int))) :: List.replicate 23 DV.un).set 16 .bx, some (ds, 0)⟩ = .ret (.bool true) S2 := by
  have hl : ((DV.sh (.list (ns.map .int))) :: List.replicate 23 DV.un).length = 24 := by rw [List.length_cons, List.length_replicate]
  have h1 : (((DV.sh (.list (ns.map .int))) :: List.replicate 23 DV.un).set 16 .bx).length = 24 := by rw [List.length_set, hl]
  have h2 : (((DV.sh (.list (ns.map .int))) :: List.replicate 23 DV.un).set 16 .bx)[16]? = some .bx := get_same (by rw [hl]; omega)
  generalize ((DV.sh (.list (ns.map .int))) :: List.replicate 23 DV.un).set 16 .bx = sl at h1 h2
  unfold m_law
  exact r0 h1 h2 ⟨0, rfl, by omega, by omega⟩
end K25

open PySem PySem.W PyProof.Rows L2 Gl K25 in
set_option maxRecDepth 100000 in
set_option maxHeartbeats 0 in
theorem PySem.Challenge.cw_panehouse_k25_lines_that_meet_holds : PySem.Challenge.rw_panehouse_k25_lines_that_meet.Holds := by
  w_on; o_law; k_head; (case hw => w_witness2)
  k_fill
  refine walkG (l := PySem.Challenge.rw_panehouse_k25_lines_that_meet) (n := 63) rfl (by decide) rfl ?R (fun w h Y => PySem.W.km_in_of Y) ?F
  case R => first | rfl | decide +kernel
  case F =>
    intro w mg fa h kin gl hmg own
    refine' K25.lawG kin gl hmg own ?bl (xtxt_mk kin gl ?aC0 ?aS0 ?iC0 ?lC0 ?lF0 ?cF0 ?lc0 ?lo0 ?sa0 ?noN0 ?tC0 ?kC0 ?exC0 ?veC0 ?ccC0 ?tyC0 ?opq0 ?rv0 ?sup0 ?dc0 ?dO0 ?dv0 ?fl0 ?ln0 ?top0 ?fok0 ?bi0)
      (xtxt_mk kin gl ?aC1 ?aS1 ?iC1 ?lC1 ?lF1 ?cF1 ?lc1 ?lo1 ?sa1 ?noN1 ?tC1 ?kC1 ?exC1 ?veC1 ?ccC1 ?tyC1 ?opq1 ?rv1 ?sup1 ?dc1 ?dO1 ?dv1 ?fl1 ?ln1 ?top1 ?fok1 ?bi1)
      (xtxt_mk kin gl ?aC2 ?aS2 ?iC2 ?lC2 ?lF2 ?cF2 ?lc2 ?lo2 ?sa2 ?noN2 ?tC2 ?kC2 ?exC2 ?veC2 ?ccC2 ?tyC2 ?opq2 ?rv2 ?sup2 ?dc2 ?dO2 ?dv2 ?fl2 ?ln2 ?top2 ?fok2 ?bi2)
      (defK_mk ?a_is_integer ?b_is_integer ?c_is_integer ?d_is_integer)
      (defK_mk ?a_common ?b_common ?c_common ?d_common)
      (defK_mk ?a_reduced ?b_reduced ?c_reduced ?d_reduced)
      (defK_mk ?a_check_steps ?b_check_steps ?c_check_steps ?d_check_steps)
      (defK_mk ?a_check_starts ?b_check_starts ?c_check_starts ?d_check_starts)
      (defK_mk ?a_lines ?b_lines ?c_lines ?d_lines)
      (defK_mk ?a_period ?b_period ?c_period ?d_period)
      (defK_mk ?a_met ?b_met ?c_met ?d_met)
      (defK_mk ?a_met_paper ?b_met_paper ?c_met_paper ?d_met_paper)
      (defK_mk ?a_paper_shows ?b_paper_shows ?c_paper_shows ?d_paper_shows)
      (defK_mk ?a_beat ?b_beat ?c_beat ?d_beat)
      (defK_mk ?a_open_share ?b_open_share ?c_open_share ?d_open_share)
      (defK_mk ?a_check_scale ?b_check_scale ?c_check_scale ?d_check_scale)
      (defK_mk ?a_shown ?b_shown ?c_shown ?d_shown)
      (defK_mk ?a_read ?b_read ?c_read ?d_read)
      (defK_mk ?a_off ?b_off ?c_off ?d_off)
      (defK_mk ?a__law_digits ?b__law_digits ?c__law_digits ?d__law_digits)
      (defK_mk ?a__law_draw ?b__law_draw ?c__law_draw ?d__law_draw)
      (defK_mk ?a__law_pick ?b__law_pick ?c__law_pick ?d__law_pick)
      (defK_mk ?a__law_same ?b__law_same ?c__law_same ?d__law_same)
      (defK_mk ?a__law_common ?b__law_common ?c__law_common ?d__law_common)
      (defK_mk ?a__law_low ?b__law_low ?c__law_low ?d__law_low)
      (told_mk ?ta ?tb ?tc ?td ?te ?tf ?tg1 ?tg2 ?th ?ti)
      (lawK_mk ?la ?lb ?ld ?lt ?lt2 ?ln ?lh)
      ?e_0_0
      ?e_0_2
      ?e_0_1
      ?e_2_0
      ?e_2_2
      ?e_2_1
      ?e_1_0
      ?e_1_2
      ?e_1_1
      ?n_0_2
      ?n_0_1
      ?n_2_0
      ?n_2_1
      ?n_1_0
      ?n_1_2
      dig
      law
    case aC0 => k_is
    case aS0 => k_is
    case iC0 => k_is
    case lC0 => k_is
    case lF0 => k_is
    case cF0 => k_is
    case lc0 => k_is
    case lo0 => k_is
    case sa0 => k_is
    case noN0 => k_is
    case tC0 => k_is
    case kC0 => k_is
    case exC0 => k_is
    case veC0 => k_is
    case ccC0 => k_is
    case tyC0 => k_is
    case opq0 => first | k_is | kernel_rfl | decide +kernel
    case rv0 => rfl
    case sup0 => first | kernel_rfl | rfl
    case dc0 => rfl
    case dO0 => rfl
    case dv0 => rfl
    case ln0 => rfl
    case fl0 => first | rfl | decide +kernel
    case top0 => first | rfl | decide +kernel
    case fok0 => decide +kernel
    case bi0 => intro a v; rfl
    case aC1 => k_is
    case aS1 => k_is
    case iC1 => k_is
    case lC1 => k_is
    case lF1 => k_is
    case cF1 => k_is
    case lc1 => k_is
    case lo1 => k_is
    case sa1 => k_is
    case noN1 => k_is
    case tC1 => k_is
    case kC1 => k_is
    case exC1 => k_is
    case veC1 => k_is
    case ccC1 => k_is
    case tyC1 => k_is
    case opq1 => first | k_is | kernel_rfl | decide +kernel
    case rv1 => rfl
    case sup1 => first | kernel_rfl | rfl
    case dc1 => rfl
    case dO1 => rfl
    case dv1 => rfl
    case ln1 => rfl
    case fl1 => first | rfl | decide +kernel
    case top1 => first | rfl | decide +kernel
    case fok1 => decide +kernel
    case bi1 => intro a v; rfl
    case aC2 => k_is
    case aS2 => k_is
    case iC2 => k_is
    case lC2 => k_is
    case lF2 => k_is
    case cF2 => k_is
    case lc2 => k_is
    case lo2 => k_is
    case sa2 => k_is
    case noN2 => k_is
    case tC2 => k_is
    case kC2 => k_is
    case exC2 => k_is
    case veC2 => k_is
    case ccC2 => k_is
    case tyC2 => k_is
    case opq2 => first | k_is | kernel_rfl | decide +kernel
    case rv2 => rfl
    case sup2 => first | kernel_rfl | rfl
    case dc2 => rfl
    case dO2 => rfl
    case dv2 => rfl
    case ln2 => rfl
    case fl2 => first | rfl | decide +kernel
    case top2 => first | rfl | decide +kernel
    case fok2 => decide +kernel
    case bi2 => intro a v; rfl
    case a_is_integer => k_is
    case b_is_integer => k_is
    case c_is_integer => k_is
    case d_is_integer => k_is
    case a_common => k_is
    case b_common => k_is
    case c_common => k_is
    case d_common => k_is
    case a_reduced => k_is
    case b_reduced => k_is
    case c_reduced => k_is
    case d_reduced => k_is
    case a_check_steps => k_is
    case b_check_steps => k_is
    case c_check_steps => k_is
    case d_check_steps => k_is
    case a_check_starts => k_is
    case b_check_starts => k_is
    case c_check_starts => k_is
    case d_check_starts => k_is
    case a_lines => k_is
    case b_lines => k_is
    case c_lines => k_is
    case d_lines => k_is
    case a_period => k_is
    case b_period => k_is
    case c_period => k_is
    case d_period => k_is
    case a_met => k_is
    case b_met => k_is
    case c_met => k_is
    case d_met => k_is
    case a_met_paper => k_is
    case b_met_paper => k_is
    case c_met_paper => k_is
    case d_met_paper => k_is
    case a_paper_shows => k_is
    case b_paper_shows => k_is
    case c_paper_shows => k_is
    case d_paper_shows => k_is
    case a_beat => k_is
    case b_beat => k_is
    case c_beat => k_is
    case d_beat => k_is
    case a_open_share => k_is
    case b_open_share => k_is
    case c_open_share => k_is
    case d_open_share => k_is
    case a_check_scale => k_is
    case b_check_scale => k_is
    case c_check_scale => k_is
    case d_check_scale => k_is
    case a_shown => k_is
    case b_shown => k_is
    case c_shown => k_is
    case d_shown => k_is
    case a_read => k_is
    case b_read => k_is
    case c_read => k_is
    case d_read => k_is
    case a_off => k_is
    case b_off => k_is
    case c_off => k_is
    case d_off => k_is
    case a__law_digits => k_is
    case b__law_digits => k_is
    case c__law_digits => k_is
    case d__law_digits => k_is
    case a__law_draw => k_is
    case b__law_draw => k_is
    case c__law_draw => k_is
    case d__law_draw => k_is
    case a__law_pick => k_is
    case b__law_pick => k_is
    case c__law_pick => k_is
    case d__law_pick => k_is
    case a__law_same => k_is
    case b__law_same => k_is
    case c__law_same => k_is
    case d__law_same => k_is
    case a__law_common => k_is
    case b__law_common => k_is
    case c__law_common => k_is
    case d__law_common => k_is
    case a__law_low => k_is
    case b__law_low => k_is
    case c__law_low => k_is
    case d__law_low => k_is
    case ta => k_is
    case tb => k_is
    case tc => k_is
    case td => k_is
    case te => exact fun us hl => match us, hl with | [_], _ => rfl
    case tf => exact ⟨rfl, rfl, rfl, by decide +kernel, rfl, by decide +kernel, by decide +kernel⟩
    case tg1 => rfl
    case tg2 => rfl
    case th => exact HdsW.cons (h := ⟨"BadThing", _, "bad thing", "reason"⟩) (HdsW.cons (h := ⟨"Refused", _, "refused", "reason"⟩) (HdsW.cons (h := ⟨"TooMany", _, "too many", "what"⟩) (HdsW.nil)))
    case ti =>
      intro h hh
      simp only [List.mem_cons, List.not_mem_nil, or_false] at hh
      rcases hh with rfl | rfl | rfl
      · refine' hfact_mk kin gl ?a ?b ?d ?x1 ?x2 ?x3 ?x4 ?no
        case a => k_is
        case b => rfl
        case d => rfl
        case x1 => k_is
        case x2 => k_is
        case x3 => k_is
        case x4 => k_is
        case no => k_is
      · refine' hfact_mk kin gl ?a ?b ?d ?x1 ?x2 ?x3 ?x4 ?no
        case a => k_is
        case b => rfl
        case d => rfl
        case x1 => k_is
        case x2 => k_is
        case x3 => k_is
        case x4 => k_is
        case no => k_is
      · refine' hfact_mk kin gl ?a ?b ?d ?x1 ?x2 ?x3 ?x4 ?no
        case a => k_is
        case b => rfl
        case d => rfl
        case x1 => k_is
        case x2 => k_is
        case x3 => k_is
        case x4 => k_is
        case no => k_is
    case la => k_is
    case lb => k_is
    case ld => k_is
    case lt => k_is
    case lt2 => rfl
    case ln => first | kernel_rfl | rfl | decide +kernel
    case lh => first | kernel_rfl | decide +kernel
    case e_0_0 =>
      refine' exm_mk ?h1 ?h2 ?h3 ?h4
      case h1 => k_is
      case h2 => k_is
      case h3 => k_is
      case h4 => k_is
    case e_0_2 =>
      refine' exm_mk ?h1 ?h2 ?h3 ?h4
      case h1 => k_is
      case h2 => k_is
      case h3 => k_is
      case h4 => k_is
    case e_0_1 =>
      refine' exm_mk ?h1 ?h2 ?h3 ?h4
      case h1 => k_is
      case h2 => k_is
      case h3 => k_is
      case h4 => k_is
    case e_2_0 =>
      refine' exm_mk ?h1 ?h2 ?h3 ?h4
      case h1 => k_is
      case h2 => k_is
      case h3 => k_is
      case h4 => k_is
    case e_2_2 =>
      refine' exm_mk ?h1 ?h2 ?h3 ?h4
      case h1 => k_is
      case h2 => k_is
      case h3 => k_is
      case h4 => k_is
    case e_2_1 =>
      refine' exm_mk ?h1 ?h2 ?h3 ?h4
      case h1 => k_is
      case h2 => k_is
      case h3 => k_is
      case h4 => k_is
    case e_1_0 =>
      refine' exm_mk ?h1 ?h2 ?h3 ?h4
      case h1 => k_is
      case h2 => k_is
      case h3 => k_is
      case h4 => k_is
    case e_1_2 =>
      refine' exm_mk ?h1 ?h2 ?h3 ?h4
      case h1 => k_is
      case h2 => k_is
      case h3 => k_is
      case h4 => k_is
    case e_1_1 =>
      refine' exm_mk ?h1 ?h2 ?h3 ?h4
      case h1 => k_is
      case h2 => k_is
      case h3 => k_is
      case h4 => k_is
    case n_0_2 => decide
    case n_0_1 => decide
    case n_2_0 => decide
    case n_2_1 => decide
    case n_1_0 => decide
    case n_1_2 => decide
    case bl =>
      intro x hx
      simp only [blts, List.mem_cons, List.not_mem_nil, or_false] at hx
      rcases hx with rfl | rfl | rfl | rfl | rfl | rfl | rfl | rfl | rfl | rfl | rfl | rfl | rfl | rfl | rfl | rfl | rfl | rfl | rfl | rfl | rfl | rfl | rfl | rfl | rfl <;> k_is

