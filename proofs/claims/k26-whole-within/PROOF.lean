import PyProof.Rows.All
import Wide.All
import OpenK.AllK
import Wide.FinOn
import HandS.ForMost
import HandS.Deep
import HandS.Walk
import KE.SortData
import KE.KDictKeyed
import KE.KDictWalk
import KE.OsSortAny
import HandS.Sort
import HandS.Star
import HandS.TupLen
import HandS.More
import KE.KDictSum
import KE.KDictCopyH
import KE.KDictDisplayH
import KE.KSortRegAny
import HandS.Iter
import HandS.DictComp
import HandS.Set
import HandS.SetFor
import HandS.Strs
import KE.GoesMore
import HandS.ClsMeth
import KE.KOpsOwn
import HandS.Codes
import KE.KExcRaise
import KE.KStateDown
import HandS.HeadNt
import HandS.HeadEnd
import HandS.Head0
import HandS.Head1
import HandS.Head2
import HandS.IsInst
import HandS.Words
import HandS.Defaults
import HandS.Text
import HandS.Zip
import HandS.Replace
import HandS.Style
import HandS.TupLe
import PySem.Challenge.RW_netkeep_k26_whole_within_in_all_stores
set_option linter.all false
/-! The plain mathematics: questions over edges, rows, within, what is seen, triples. No program in sight. -/
namespace K26

inductive Sg where
  | a | b | A | B
  deriving DecidableEq

namespace Sg
def con : Sg → Sg
  | a => A | b => B | A => a | B => b
def low : Sg → Bool
  | a => true | b => true | A => false | B => false
theorem con_con (s : Sg) : s.con.con = s := by cases s <;> rfl
theorem low_con (s : Sg) : s.con.low = !s.low := by cases s <;> rfl
/-- the letter -/
def ltr (s : Sg) : Sg := if s.low then s else s.con
end Sg

structure T3 (α β γ : Type) where
  x : α
  y : β
  z : γ
  deriving DecidableEq

abbrev Stp := T3 Nat Sg Nat

structure Qs where
  n : Nat
  steps : List Stp
  ends : List Nat

structure Qs.Wf (Q : Qs) : Prop where
  pos : 0 < Q.n
  st : ∀ t ∈ Q.steps, t.x < Q.n ∧ t.z < Q.n
  en : ∀ e ∈ Q.ends, e < Q.n
  nds : Q.steps.Nodup
  nde : Q.ends.Nodup

/-! ### reachability -/
inductive Rch {α : Type} (R : α → α → Prop) : α → α → Prop
  | refl {a : α} : Rch R a a
  | tail {a b c : α} : Rch R a b → R b c → Rch R a c

namespace Rch
variable {α β : Type} {R S : α → α → Prop} {x y z : α}
theorem one (h : R x y) : Rch R x y := .tail .refl h
theorem trans (h : Rch R x y) (k : Rch R y z) : Rch R x z := by
  induction k with
  | refl => exact h
  | tail _ r ih => exact .tail ih r
theorem head (h : R x y) (k : Rch R y z) : Rch R x z := (one h).trans k
theorem mono (f : ∀ u v, R u v → S u v) (h : Rch R x y) : Rch S x y := by
  induction h with
  | refl => exact .refl
  | tail _ r ih => exact .tail ih (f _ _ r)
theorem map {T : β → β → Prop} (g : α → β) (f : ∀ u v, R u v → T (g u) (g v)) (h : Rch R x y) : Rch T (g x) (g y) := by
  induction h with
  | refl => exact .refl
  | tail _ r ih => exact .tail ih (f _ _ r)
/-- what a closed property tells -/
theorem keeps {P : α → Prop} (hc : ∀ u v, P u → R u v → P v) (h : Rch R x y) (hx : P x) : P y := by
  induction h with
  | refl => exact hx
  | tail _ r ih => exact hc _ _ ih r
end Rch

/-! ### edges, moves -/
abbrev Edge := Nat → Sg → Nat → Prop
abbrev Spot := Nat × Nat
def mv (E : Edge) (Q : Qs) (u v : Spot) : Prop := ∃ s, (⟨u.2, s, v.2⟩ : Stp) ∈ Q.steps ∧ E u.1 s v.1
/-- the edges of ties -/
def tieE (ties : List Stp) : Edge := fun x s y => if s.low then (⟨x, s, y⟩ : Stp) ∈ ties else (⟨y, s.con, x⟩ : Stp) ∈ ties
def Sym (E : Edge) : Prop := ∀ x s y, E x s y → E y s.con x
theorem tieE_sym {ties : List Stp} (hl : ∀ t ∈ ties, t.y.low = true) : Sym (tieE ties) := by
  intro x s y h
  unfold tieE at h ⊢
  cases hs : s.low with
  | true =>
    rw [hs] at h
    rw [Sg.low_con, hs]
    simpa [Sg.con_con] using h
  | false =>
    rw [hs] at h
    rw [Sg.low_con, hs]
    simpa using h
def ans (E : Edge) (Q : Qs) (x y : Nat) : Prop := ∃ q, q ∈ Q.ends ∧ Rch (mv E Q) (x, 0) (y, q)

def run (Q : Qs) : Nat → List Sg → Nat → Prop
  | p, [], q => p = q
  | p, s :: w, q => ∃ r, (⟨p, s, r⟩ : Stp) ∈ Q.steps ∧ run Q r w q
def walk (E : Edge) : Nat → List Sg → Nat → Prop
  | x, [], y => x = y
  | x, s :: w, y => ∃ z, E x s z ∧ walk E z w y
def reads (Q : Qs) (w : List Sg) : Prop := ∃ q, q ∈ Q.ends ∧ run Q 0 w q

theorem run_snoc {Q : Qs} {s : Sg} {q : Nat} : ∀ {w : List Sg} {p : Nat}, run Q p (w ++ [s]) q ↔ ∃ r, run Q p w r ∧ (⟨r, s, q⟩ : Stp) ∈ Q.steps
  | [], p => by simp [run]
  | t :: w, p => by
    constructor
    · rintro ⟨r, h, k⟩
      obtain ⟨m, k1, k2⟩ := run_snoc.mp k
      exact ⟨m, ⟨r, h, k1⟩, k2⟩
    · rintro ⟨m, ⟨r, h, k1⟩, k2⟩
      exact ⟨r, h, run_snoc.mpr ⟨m, k1, k2⟩⟩
theorem walk_snoc {E : Edge} {s : Sg} {y : Nat} : ∀ {w : List Sg} {x : Nat}, walk E x (w ++ [s]) y ↔ ∃ z, walk E x w z ∧ E z s y
  | [], x => by simp [walk]
  | t :: w, x => by
    constructor
    · rintro ⟨r, h, k⟩
      obtain ⟨m, k1, k2⟩ := walk_snoc.mp k
      exact ⟨m, ⟨r, h, k1⟩, k2⟩
    · rintro ⟨m, ⟨r, h, k1⟩, k2⟩
      exact ⟨r, h, walk_snoc.mpr ⟨m, k1, k2⟩⟩

/-- a chain of moves is a walk with a string that is run -/
theorem rch_walk {E : Edge} {Q : Qs} {u v : Spot} : Rch (mv E Q) u v ↔ ∃ w, run Q u.2 w v.2 ∧ walk E u.1 w v.1 := by
  constructor
  · intro h
    induction h with
    | refl => exact ⟨[], rfl, rfl⟩
    | tail _ r ih =>
      obtain ⟨w, h1, h2⟩ := ih
      obtain ⟨s, k1, k2⟩ := r
      exact ⟨w ++ [s], run_snoc.mpr ⟨_, h1, k1⟩, walk_snoc.mpr ⟨_, h2, k2⟩⟩
  · rintro ⟨w, h1, h2⟩
    obtain ⟨x, p⟩ := u
    obtain ⟨y, q⟩ := v
    simp only at h1 h2
    induction w generalizing x p with
    | nil =>
      have e1 : p = q := h1
      have e2 : x = y := h2
      subst e1 e2
      exact .refl
    | cons s w ih =>
      obtain ⟨r, k1, k2⟩ := h1
      obtain ⟨z, l1, l2⟩ := h2
      exact .head (y := (z, r)) ⟨s, k1, l1⟩ (ih z r k2 l2)
theorem ans_iff {E : Edge} {Q : Qs} {x y : Nat} : ans E Q x y ↔ ∃ w, reads Q w ∧ walk E x w y := by
  constructor
  · rintro ⟨q, hq, h⟩
    obtain ⟨w, h1, h2⟩ := rch_walk.mp h
    exact ⟨w, ⟨q, hq, h1⟩, h2⟩
  · rintro ⟨w, ⟨q, hq, h1⟩, h2⟩
    exact ⟨q, hq, rch_walk.mpr ⟨w, h1, h2⟩⟩
theorem ans_reads {E : Edge} {Q Q' : Qs} (h : ∀ w, reads Q w ↔ reads Q' w) {x y : Nat} : ans E Q x y ↔ ans E Q' x y := by
  rw [ans_iff, ans_iff]
  exact ⟨fun ⟨w, a, b⟩ => ⟨w, (h w).mp a, b⟩, fun ⟨w, a, b⟩ => ⟨w, (h w).mpr a, b⟩⟩
theorem ans_edge {E E' : Edge} {Q : Qs} (h : ∀ x s y, E x s y ↔ E' x s y) {x y : Nat} : ans E Q x y ↔ ans E' Q x y := by
  have e : E = E' := by
    funext x s y
    exact propext (h x s y)
  rw [e]

/-! ### rows -/
def rowE (w : List Sg) : Edge := fun x s y => (w[x]? = some s ∧ y = x + 1) ∨ (w[y]? = some s.con ∧ x = y + 1)
theorem rowE_sym (w : List Sg) : Sym (rowE w) := by
  intro x s y h
  rcases h with ⟨h1, h2⟩ | ⟨h1, h2⟩
  · exact .inr ⟨by rw [Sg.con_con]; exact h1, h2⟩
  · exact .inl ⟨h1, h2⟩
def rowT : Nat → List Sg → List Stp
  | _, [] => []
  | k, s :: w => (if s.low then ⟨k, s, k + 1⟩ else ⟨k + 1, s.con, k⟩) :: rowT (k + 1) w
theorem rowT_mem {t : Stp} : ∀ {w : List Sg} {k : Nat}, t ∈ rowT k w ↔ ∃ i s, w[i]? = some s ∧ t = (if s.low then ⟨k + i, s, k + i + 1⟩ else ⟨k + i + 1, s.con, k + i⟩)
  | [], k => by simp [rowT]
  | s :: w, k => by
    rw [rowT, List.mem_cons, rowT_mem]
    constructor
    · rintro (h | ⟨i, u, h1, h2⟩)
      · exact ⟨0, s, rfl, h⟩
      · refine ⟨i + 1, u, by simpa using h1, ?_⟩
        rw [h2, show k + 1 + i = k + (i + 1) by omega]
    · rintro ⟨i, u, h1, h2⟩
      cases i with
      | zero =>
        have e : s = u := by simpa using h1
        subst e
        exact .inl h2
      | succ i =>
        refine .inr ⟨i, u, by simpa using h1, ?_⟩
        rw [h2, show k + 1 + i = k + (i + 1) by omega]
theorem rowT_length : ∀ (w : List Sg) (k : Nat), (rowT k w).length = w.length
  | [], _ => rfl
  | s :: w, k => by simp [rowT, rowT_length w]
theorem rowT_low {t : Stp} {w : List Sg} {k : Nat} (h : t ∈ rowT k w) : t.y.low = true := by
  obtain ⟨i, s, _, e⟩ := rowT_mem.mp h
  subst e
  cases hs : s.low with
  | true => simpa using hs
  | false => simp [Sg.low_con, hs]
theorem rowT_bound {t : Stp} {w : List Sg} {k : Nat} (h : t ∈ rowT k w) : t.x ≤ k + w.length ∧ t.z ≤ k + w.length := by
  obtain ⟨i, s, h1, e⟩ := rowT_mem.mp h
  have hi : i < w.length := (List.getElem?_eq_some_iff.mp h1).1
  subst e
  cases hs : s.low <;> simp <;> omega
theorem rowT_ge {t : Stp} {w : List Sg} {k : Nat} (h : t ∈ rowT k w) : k ≤ t.x ∧ k ≤ t.z ∧ (t.x = k ∨ t.z = k → t ∈ (rowT k w).take 1) := by
  cases w with
  | nil => simp [rowT] at h
  | cons s w =>
    rw [rowT, List.mem_cons] at h
    rcases h with h | h
    · subst h
      cases hs : s.low <;> simp [rowT, hs]
    · obtain ⟨i, u, h1, e⟩ := rowT_mem.mp h
      subst e
      cases hu : u.low
      · refine ⟨by simp; omega, by simp; omega, fun z => ?_⟩
        simp at z
        omega
      · refine ⟨by simp; omega, by simp; omega, fun z => ?_⟩
        simp at z
        omega
theorem rowT_nodup : ∀ (w : List Sg) (k : Nat), (rowT k w).Nodup
  | [], _ => List.nodup_nil
  | s :: w, k => by
    rw [rowT, List.nodup_cons]
    refine ⟨fun h => ?_, rowT_nodup w (k + 1)⟩
    obtain ⟨h1, h2, _⟩ := rowT_ge h
    cases hs : s.low <;> rw [hs] at h1 h2 <;> simp at h1 h2 <;> omega
theorem tie_row {w : List Sg} {ties : List Stp} (h : ∀ t, t ∈ ties ↔ t ∈ rowT 0 w) (x : Nat) (s : Sg) (y : Nat) : tieE ties x s y ↔ rowE w x s y := by
  unfold tieE rowE
  cases hs : s.low with
  | true =>
    simp only [if_true, h, rowT_mem]
    constructor
    · rintro ⟨i, u, h1, e⟩
      cases hu : u.low with
      | true =>
        rw [hu] at e
        simp at e
        obtain ⟨rfl, rfl, rfl⟩ := e
        exact .inl ⟨h1, rfl⟩
      | false =>
        rw [hu] at e
        simp at e
        obtain ⟨rfl, rfl, rfl⟩ := e
        exact .inr ⟨by rw [Sg.con_con]; exact h1, rfl⟩
    · rintro (⟨h1, rfl⟩ | ⟨h1, rfl⟩)
      · exact ⟨x, s, h1, by simp [hs]⟩
      · exact ⟨y, s.con, h1, by simp [Sg.low_con, hs, Sg.con_con]⟩
  | false =>
    simp only [Bool.false_eq_true, if_false, h, rowT_mem]
    constructor
    · rintro ⟨i, u, h1, e⟩
      cases hu : u.low with
      | true =>
        rw [hu] at e
        simp at e
        obtain ⟨rfl, e2, rfl⟩ := e
        exact .inr ⟨by rw [e2]; exact h1, rfl⟩
      | false =>
        rw [hu] at e
        simp at e
        obtain ⟨rfl, e2, rfl⟩ := e
        have e3 : s = u := by rw [← Sg.con_con s, e2, Sg.con_con]
        exact .inl ⟨by rw [e3]; exact h1, rfl⟩
    · rintro (⟨h1, rfl⟩ | ⟨h1, rfl⟩)
      · exact ⟨x, s, h1, by simp [hs]⟩
      · exact ⟨y, s.con, h1, by simp [Sg.low_con, hs]⟩
theorem walk_row : ∀ (u w : List Sg), walk (rowE (u ++ w)) u.length w (u.length + w.length)
  | u, [] => rfl
  | u, s :: w => by
    refine ⟨u.length + 1, .inl ⟨by simp, rfl⟩, ?_⟩
    have := walk_row (u ++ [s]) w
    simpa [Nat.add_assoc, Nat.add_comm 1] using this

/-! ### within -/
def Win (P Q : Qs) : Prop := ∀ w, reads P w → ans (rowE w) Q 0 w.length
theorem walk_nodes {E : Edge} : ∀ {w : List Sg} {x y : Nat}, walk E x w y → ∃ f : Nat → Nat, f 0 = x ∧ f w.length = y ∧ ∀ i s, w[i]? = some s → E (f i) s (f (i + 1))
  | [], x, y, h => ⟨fun _ => x, rfl, h, fun i s e => by simp at e⟩
  | s :: w, x, y, ⟨z, h, k⟩ => by
    obtain ⟨f, f0, f1, f2⟩ := walk_nodes k
    refine ⟨fun i => match i with | 0 => x | i + 1 => f i, rfl, f1, fun i t e => ?_⟩
    cases i with
    | zero =>
      have e2 : s = t := by simpa using e
      subst e2
      show E x s (f 0)
      rw [f0]
      exact h
    | succ i => exact f2 i t (by simpa using e)
/-- within, in each store -/
theorem Win.all {P Q : Qs} (h : Win P Q) {E : Edge} (hE : Sym E) {x y : Nat} (k : ans E P x y) : ans E Q x y := by
  obtain ⟨w, hr, hw⟩ := ans_iff.mp k
  obtain ⟨f, f0, f1, f2⟩ := walk_nodes hw
  obtain ⟨q, hq, hc⟩ := h w hr
  refine ⟨q, hq, ?_⟩
  have step : ∀ u v : Spot, mv (rowE w) Q u v → mv E Q (f u.1, u.2) (f v.1, v.2) := by
    rintro u v ⟨s, h1, h2⟩
    refine ⟨s, h1, ?_⟩
    rcases h2 with ⟨e, e2⟩ | ⟨e, e2⟩
    · rw [e2]
      exact f2 _ _ e
    · rw [e2]
      have := hE _ _ _ (f2 _ _ e)
      rwa [Sg.con_con] at this
  have := hc.map (T := mv E Q) (fun u => (f u.1, u.2)) step
  simpa [f0, f1] using this
theorem Win.trans {P Q R : Qs} (h : Win P Q) (k : Win Q R) : Win P R := fun w hr => k.all (rowE_sym w) (h w hr)
theorem Win.of_reads {P Q : Qs} (h : ∀ w, reads P w → reads Q w) : Win P Q := fun w hr =>
  ans_iff.mpr ⟨w, h w hr, by simpa using walk_row [] w⟩
theorem Win.refl (P : Qs) : Win P P := .of_reads fun _ h => h
theorem win_reads {P P' Q Q' : Qs} (h1 : ∀ w, reads P w ↔ reads P' w) (h2 : ∀ w, reads Q w ↔ reads Q' w) : Win P Q ↔ Win P' Q' :=
  ⟨fun h w hr => (ans_reads h2).mp (h w ((h1 w).mpr hr)), fun h w hr => (ans_reads h2).mpr (h w ((h1 w).mp hr))⟩

/-! ### what is seen behind a string -/
def reachS (Q : Qs) (w : List Sg) (q : Nat) : Prop := Rch (mv (rowE w) Q) (0, 0) (w.length, q)
def roundS (Q : Qs) (w : List Sg) (p q : Nat) : Prop := Rch (mv (rowE w) Q) (w.length, p) (w.length, q)
/-- one loop over the new edge and back -/
def base (Q : Qs) (rd : Nat → Nat → Prop) (s : Sg) (i j : Nat) : Prop := ∃ m k, (⟨i, s.con, m⟩ : Stp) ∈ Q.steps ∧ rd m k ∧ (⟨k, s, j⟩ : Stp) ∈ Q.steps

theorem rowE_le {w : List Sg} {x y : Nat} {s : Sg} (h : rowE w x s y) : x ≤ w.length ∧ y ≤ w.length := by
  rcases h with ⟨h1, h2⟩ | ⟨h1, h2⟩
  · have := (List.getElem?_eq_some_iff.mp h1).1
    omega
  · have := (List.getElem?_eq_some_iff.mp h1).1
    omega
theorem get_snoc {w : List Sg} {s t : Sg} {i : Nat} : (w ++ [s])[i]? = some t ↔ w[i]? = some t ∨ (i = w.length ∧ t = s) := by
  rcases Nat.lt_trichotomy i w.length with h | h | h
  · rw [List.getElem?_append_left h]
    exact ⟨.inl, fun z => z.elim id fun e => by omega⟩
  · subst h
    simp [eq_comm]
  · have e1 : (w ++ [s])[i]? = none := List.getElem?_eq_none (by simp; omega)
    have e2 : w[i]? = none := List.getElem?_eq_none (by omega)
    rw [e1, e2]
    simp
    omega
theorem rowE_snoc {w : List Sg} {s t : Sg} {x y : Nat} : rowE (w ++ [s]) x t y ↔ rowE w x t y ∨ (x = w.length ∧ t = s ∧ y = w.length + 1) ∨ (y = w.length ∧ t = s.con ∧ x = w.length + 1) := by
  unfold rowE
  rw [get_snoc, get_snoc]
  constructor
  · rintro (⟨h | ⟨h, h'⟩, e⟩ | ⟨h | ⟨h, h'⟩, e⟩)
    · exact .inl (.inl ⟨h, e⟩)
    · exact .inr (.inl ⟨h, h', by omega⟩)
    · exact .inl (.inr ⟨h, e⟩)
    · exact .inr (.inr ⟨h, by rw [← h', Sg.con_con], by omega⟩)
  · rintro ((⟨h, e⟩ | ⟨h, e⟩) | ⟨h, h', e⟩ | ⟨h, h', e⟩)
    · exact .inl ⟨.inl h, e⟩
    · exact .inr ⟨.inl h, e⟩
    · exact .inl ⟨.inr ⟨h, h'⟩, by omega⟩
    · exact .inr ⟨.inr ⟨h, by rw [h', Sg.con_con]⟩, by omega⟩
theorem mv_old {Q : Qs} {w : List Sg} {s : Sg} {u v : Spot} (h : mv (rowE w) Q u v) : mv (rowE (w ++ [s])) Q u v :=
  let ⟨t, a, b⟩ := h
  ⟨t, a, rowE_snoc.mpr (.inl b)⟩
theorem mv_snoc {Q : Qs} {w : List Sg} {s : Sg} {u v : Spot} (h : mv (rowE (w ++ [s])) Q u v) :
    mv (rowE w) Q u v ∨ (u.1 = w.length ∧ v.1 = w.length + 1 ∧ (⟨u.2, s, v.2⟩ : Stp) ∈ Q.steps) ∨ (v.1 = w.length ∧ u.1 = w.length + 1 ∧ (⟨u.2, s.con, v.2⟩ : Stp) ∈ Q.steps) := by
  obtain ⟨t, a, b⟩ := h
  rcases rowE_snoc.mp b with b | ⟨h1, h2, h3⟩ | ⟨h1, h2, h3⟩
  · exact .inl ⟨t, a, b⟩
  · subst h2
    exact .inr (.inl ⟨h1, h3, a⟩)
  · subst h2
    exact .inr (.inr ⟨h1, h3, a⟩)
theorem mv_le {Q : Qs} {w : List Sg} {u v : Spot} (h : mv (rowE w) Q u v) : u.1 ≤ w.length ∧ v.1 ≤ w.length :=
  let ⟨_, _, b⟩ := h
  rowE_le b

section
variable {Q : Qs} {w : List Sg} {s : Sg}
/-- from the new last node -/
theorem from_new {p : Nat} {v : Spot} (h : Rch (mv (rowE (w ++ [s])) Q) (w.length + 1, p) v) :
    (v.1 = w.length + 1 ∧ Rch (base Q (roundS Q w) s) p v.2) ∨
    (v.1 ≤ w.length ∧ ∃ r m, Rch (base Q (roundS Q w) s) p r ∧ (⟨r, s.con, m⟩ : Stp) ∈ Q.steps ∧ Rch (mv (rowE w) Q) (w.length, m) v) := by
  induction h with
  | refl => exact .inl ⟨rfl, .refl⟩
  | @tail b c _ r ih =>
    rcases ih with ⟨e, k⟩ | ⟨e, r0, m, k1, k2, k3⟩
    · rcases mv_snoc r with g | ⟨g1, g2, g3⟩ | ⟨g1, g2, g3⟩
      · have := mv_le g
        omega
      · omega
      · refine .inr ⟨by omega, b.2, c.2, k, g3, ?_⟩
        have : ((w.length, c.2) : Spot) = c := by
          obtain ⟨c1, c2⟩ := c
          simp only at g1 ⊢
          rw [g1]
        rw [this]
        exact .refl
    · rcases mv_snoc r with g | ⟨g1, g2, g3⟩ | ⟨g1, g2, g3⟩
      · exact .inr ⟨(mv_le g).2, r0, m, k1, k2, .tail k3 g⟩
      · refine .inl ⟨g2, .tail k1 ⟨m, b.2, k2, ?_, g3⟩⟩
        have : b = (w.length, b.2) := by
          obtain ⟨b1, b2⟩ := b
          simp only at g1 ⊢
          rw [g1]
        rw [this] at k3
        exact k3
      · omega
theorem base_new {i j : Nat} (h : base Q (roundS Q w) s i j) : Rch (mv (rowE (w ++ [s])) Q) (w.length + 1, i) (w.length + 1, j) := by
  obtain ⟨m, k, h1, h2, h3⟩ := h
  refine .trans (y := (w.length, m)) (.one ⟨s.con, h1, rowE_snoc.mpr (.inr (.inr ⟨rfl, rfl, rfl⟩))⟩) ?_
  refine .trans (y := (w.length, k)) (h2.mono fun _ _ g => mv_old g) ?_
  exact .one ⟨s, h3, rowE_snoc.mpr (.inr (.inl ⟨rfl, rfl, rfl⟩))⟩
theorem bases_new {i j : Nat} (h : Rch (base Q (roundS Q w) s) i j) : Rch (mv (rowE (w ++ [s])) Q) (w.length + 1, i) (w.length + 1, j) := by
  induction h with
  | refl => exact .refl
  | tail _ r ih => exact ih.trans (base_new r)
theorem round_snoc {p q : Nat} : roundS Q (w ++ [s]) p q ↔ Rch (base Q (roundS Q w) s) p q := by
  unfold roundS
  rw [show (w ++ [s]).length = w.length + 1 by simp]
  constructor
  · intro h
    rcases from_new h with ⟨_, k⟩ | ⟨e, _⟩
    · exact k
    · simp only at e
      omega
  · exact bases_new
theorem reach_snoc {q : Nat} : reachS Q (w ++ [s]) q ↔ ∃ p r, reachS Q w p ∧ (⟨p, s, r⟩ : Stp) ∈ Q.steps ∧ Rch (base Q (roundS Q w) s) r q := by
  unfold reachS
  rw [show (w ++ [s]).length = w.length + 1 by simp]
  constructor
  · intro h
    have key : ∀ v : Spot, Rch (mv (rowE (w ++ [s])) Q) (0, 0) v →
        (v.1 ≤ w.length ∧ Rch (mv (rowE w) Q) (0, 0) v) ∨ (∃ p r, Rch (mv (rowE w) Q) (0, 0) (w.length, p) ∧ (⟨p, s, r⟩ : Stp) ∈ Q.steps ∧ Rch (mv (rowE (w ++ [s])) Q) (w.length + 1, r) v) := by
      intro v hv
      induction hv with
      | refl => exact .inl ⟨Nat.zero_le _, .refl⟩
      | @tail b c _ r ih =>
        rcases ih with ⟨e, k⟩ | ⟨p, r0, k1, k2, k3⟩
        · rcases mv_snoc r with g | ⟨g1, g2, g3⟩ | ⟨g1, g2, g3⟩
          · exact .inl ⟨(mv_le g).2, Rch.tail k g⟩
          · refine .inr ⟨b.2, c.2, ?_, g3, ?_⟩
            · have : b = (w.length, b.2) := by
                obtain ⟨b1, b2⟩ := b
                simp only at g1 ⊢
                rw [g1]
              rw [this] at k
              exact k
            · have : ((w.length + 1, c.2) : Spot) = c := by
                obtain ⟨c1, c2⟩ := c
                simp only at g2 ⊢
                rw [g2]
              rw [this]
              exact .refl
          · omega
        · exact .inr ⟨p, r0, k1, k2, .tail k3 r⟩
    rcases key _ h with ⟨e, _⟩ | ⟨p, r, k1, k2, k3⟩
    · simp only at e
      omega
    · refine ⟨p, r, k1, k2, ?_⟩
      rcases from_new k3 with ⟨_, k⟩ | ⟨e, _⟩
      · exact k
      · simp only at e
        omega
  · rintro ⟨p, r, k1, k2, k3⟩
    refine .trans (y := (w.length, p)) (k1.mono fun _ _ g => mv_old g) ?_
    exact .head (y := (w.length + 1, r)) ⟨s, k2, rowE_snoc.mpr (.inr (.inl ⟨rfl, rfl, rfl⟩))⟩ (bases_new k3)
end
theorem no_mv_nil {Q : Qs} {u v : Spot} : ¬ mv (rowE []) Q u v := by
  rintro ⟨s, _, h⟩
  rcases h with ⟨h, _⟩ | ⟨h, _⟩ <;> simp at h
theorem round_nil {Q : Qs} {p q : Nat} : roundS Q [] p q ↔ p = q := by
  constructor
  · intro h
    have : ∀ u v : Spot, Rch (mv (rowE []) Q) u v → u = v := fun u v k => by
      cases k with
      | refl => rfl
      | tail _ r => exact absurd r no_mv_nil
    exact (Prod.mk.inj (this _ _ h)).2
  · rintro rfl
    exact .refl
theorem reach_nil {Q : Qs} {q : Nat} : reachS Q [] q ↔ q = 0 := by
  constructor
  · intro h
    have : ∀ u v : Spot, Rch (mv (rowE []) Q) u v → u = v := fun u v k => by
      cases k with
      | refl => rfl
      | tail _ r => exact absurd r no_mv_nil
    exact (Prod.mk.inj (this _ _ h)).2.symm
  · rintro rfl
    exact .refl
theorem mv_bound {E : Edge} {Q : Qs} (hQ : Q.Wf) {u v : Spot} (h : mv E Q u v) : u.2 < Q.n ∧ v.2 < Q.n := by
  obtain ⟨s, h1, _⟩ := h
  exact hQ.st _ h1
theorem rch_bound {E : Edge} {Q : Qs} (hQ : Q.Wf) {u v : Spot} (h : Rch (mv E Q) u v) (hu : u.2 < Q.n) : v.2 < Q.n :=
  h.keeps (P := fun u => u.2 < Q.n) (fun _ _ _ r => (mv_bound hQ r).2) hu

/-! ### the canonical lists -/
noncomputable def dec (p : Prop) : Bool := @decide p (Classical.propDecidable p)
theorem dec_iff {p : Prop} : dec p = true ↔ p := by
  unfold dec
  exact @decide_eq_true_iff p (Classical.propDecidable p)
def cl (n : Nat) (f : Nat → Bool) : List Nat := (List.range n).filter f
def cp (n : Nat) (R : Nat → Nat → Bool) : List (Nat × Nat) := (List.range n).flatMap fun i => ((List.range n).filter (R i)).map fun j => (i, j)
theorem mem_cl {n : Nat} {f : Nat → Bool} {q : Nat} : q ∈ cl n f ↔ q < n ∧ f q = true := by simp [cl]
theorem mem_cp {n : Nat} {R : Nat → Nat → Bool} {u : Nat × Nat} : u ∈ cp n R ↔ u.1 < n ∧ u.2 < n ∧ R u.1 u.2 = true := by
  obtain ⟨i, j⟩ := u
  simp only [cp, List.mem_flatMap, List.mem_range, List.mem_map, List.mem_filter, Prod.mk.injEq]
  constructor
  · rintro ⟨a, h1, b, ⟨h2, h3⟩, rfl, rfl⟩
    exact ⟨h1, h2, h3⟩
  · rintro ⟨h1, h2, h3⟩
    exact ⟨i, h1, j, ⟨h2, h3⟩, rfl, rfl⟩
theorem cl_congr {n : Nat} {f g : Nat → Bool} (h : ∀ q, q < n → f q = g q) : cl n f = cl n g :=
  List.filter_congr fun q hq => h q (List.mem_range.mp hq)
theorem cp_congr {n : Nat} {R S : Nat → Nat → Bool} (h : ∀ i j, i < n → j < n → R i j = S i j) : cp n R = cp n S := by
  unfold cp
  rw [List.flatMap_def, List.flatMap_def]
  congr 1
  refine List.map_congr_left fun i hi => ?_
  congr 1
  exact List.filter_congr fun j hj => h i j (List.mem_range.mp hi) (List.mem_range.mp hj)

abbrev Seen := List Nat × List (Nat × Nat)
noncomputable def seenB (Q : Qs) (sn : Seen) (s : Sg) : Seen :=
  (cl Q.n fun e => dec (∃ p r, p ∈ sn.1 ∧ (⟨p, s, r⟩ : Stp) ∈ Q.steps ∧ Rch (base Q (fun m k => (m, k) ∈ sn.2) s) r e),
   cp Q.n fun i j => dec (Rch (base Q (fun m k => (m, k) ∈ sn.2) s) i j))
def seen0 (Q : Qs) : Seen := ([0], (List.range Q.n).map fun i => (i, i))
noncomputable def seenOf (Q : Qs) (w : List Sg) : Seen := w.foldl (seenB Q) (seen0 Q)
theorem seenOf_snoc (Q : Qs) (w : List Sg) (s : Sg) : seenOf Q (w ++ [s]) = seenB Q (seenOf Q w) s := by
  unfold seenOf
  rw [List.foldl_append]
  rfl
theorem base_congr {Q : Qs} {rd rd' : Nat → Nat → Prop} {s : Sg} (hQ : Q.Wf) (h : ∀ m k, m < Q.n → k < Q.n → (rd m k ↔ rd' m k)) : base Q rd s = base Q rd' s := by
  funext i j
  refine propext ⟨?_, ?_⟩
  · rintro ⟨m, k, h1, h2, h3⟩
    exact ⟨m, k, h1, (h m k (hQ.st _ h1).2 (hQ.st _ h3).1).mp h2, h3⟩
  · rintro ⟨m, k, h1, h2, h3⟩
    exact ⟨m, k, h1, (h m k (hQ.st _ h1).2 (hQ.st _ h3).1).mpr h2, h3⟩
theorem base_bound {Q : Qs} {rd : Nat → Nat → Prop} {s : Sg} (hQ : Q.Wf) {i j : Nat} (h : Rch (base Q rd s) i j) (hi : i < Q.n) : j < Q.n :=
  h.keeps (P := fun u => u < Q.n) (fun _ _ _ ⟨_, _, _, _, h3⟩ => (hQ.st _ h3).2) hi
/-- what is seen behind a string, by the lists -/
theorem seen_ok {Q : Qs} (hQ : Q.Wf) (w : List Sg) : (∀ q, q ∈ (seenOf Q w).1 ↔ reachS Q w q) ∧ (∀ p q, (p, q) ∈ (seenOf Q w).2 ↔ p < Q.n ∧ q < Q.n ∧ roundS Q w p q) := by
  induction h : w.length generalizing w with
  | zero =>
    have e : w = [] := List.eq_nil_of_length_eq_zero h
    subst e
    refine ⟨fun q => ?_, fun p q => ?_⟩
    · rw [reach_nil]
      simp [seenOf, seen0]
    · rw [round_nil]
      simp only [seenOf, seen0, List.foldl_nil, List.mem_map, List.mem_range, Prod.mk.injEq]
      constructor
      · rintro ⟨i, h1, rfl, rfl⟩
        exact ⟨h1, h1, rfl⟩
      · rintro ⟨h1, _, rfl⟩
        exact ⟨p, h1, rfl, rfl⟩
  | succ n ih =>
    have hne : w ≠ [] := fun e => by
      subst e
      simp at h
    obtain ⟨u, s, rfl⟩ : ∃ u s, w = u ++ [s] := ⟨w.dropLast, w.getLast hne, (List.dropLast_concat_getLast hne).symm⟩
    obtain ⟨i1, i2⟩ := ih u (by simpa using h)
    have eb : base Q (fun m k => (m, k) ∈ (seenOf Q u).2) s = base Q (roundS Q u) s := base_congr hQ fun m k hm hk => by
      rw [i2]
      exact ⟨fun z => z.2.2, fun z => ⟨hm, hk, z⟩⟩
    rw [seenOf_snoc]
    unfold seenB
    rw [eb]
    refine ⟨fun q => ?_, fun p q => ?_⟩
    · rw [reach_snoc, mem_cl, dec_iff]
      constructor
      · rintro ⟨_, p, r, h1, h2, h3⟩
        exact ⟨p, r, (i1 p).mp h1, h2, h3⟩
      · rintro ⟨p, r, h1, h2, h3⟩
        exact ⟨base_bound hQ h3 (hQ.st _ h2).2, p, r, (i1 p).mpr h1, h2, h3⟩
    · rw [round_snoc, mem_cp, dec_iff]

/-! ### triples -/
abbrev Tri := T3 Nat (List Nat) (List (Nat × Nat))
def triOf (q : Nat) (sn : Seen) : Tri := ⟨q, sn.1, sn.2⟩
def tri0 (Q : Qs) : Tri := triOf 0 (seen0 Q)
/-- one step on -/
noncomputable def triNext (Q : Qs) (t : Tri) (s : Sg) (q : Nat) : Tri := triOf q (seenB Q (t.y, t.z) s)
def Leads (P Q : Qs) (w : List Sg) (t : Tri) : Prop := run P 0 w t.x ∧ t = triOf t.x (seenOf Q w)
theorem leads0 (P Q : Qs) : Leads P Q [] (tri0 Q) := ⟨rfl, rfl⟩
theorem Leads.next {P Q : Qs} {w : List Sg} {t : Tri} {s : Sg} {q : Nat} (h : Leads P Q w t) (k : (⟨t.x, s, q⟩ : Stp) ∈ P.steps) : Leads P Q (w ++ [s]) (triNext Q t s q) := by
  obtain ⟨h1, h2⟩ := h
  refine ⟨run_snoc.mpr ⟨_, h1, k⟩, ?_⟩
  unfold triNext
  rw [seenOf_snoc]
  congr 2
  rw [h2]
  rfl
structure TriOk (P Q : Qs) (kvs : List (Tri × List Sg)) : Prop where
  nd : (kvs.map (·.1)).Nodup
  leads : ∀ e ∈ kvs, Leads P Q e.2 e.1
  first : tri0 Q ∈ kvs.map (·.1)
  next : ∀ t s q, t ∈ kvs.map (·.1) → (⟨t.x, s, q⟩ : Stp) ∈ P.steps → triNext Q t s q ∈ kvs.map (·.1)
theorem TriOk.all {P Q : Qs} {kvs : List (Tri × List Sg)} (T : TriOk P Q kvs) (w : List Sg) : ∀ q, run P 0 w q → triOf q (seenOf Q w) ∈ kvs.map (·.1) := by
  induction h : w.length generalizing w with
  | zero =>
    have e : w = [] := List.eq_nil_of_length_eq_zero h
    subst e
    intro q hq
    have e : 0 = q := hq
    subst e
    exact T.first
  | succ n ih =>
    have hne : w ≠ [] := fun e => by
      subst e
      simp at h
    obtain ⟨u, s, rfl⟩ : ∃ u s, w = u ++ [s] := ⟨w.dropLast, w.getLast hne, (List.dropLast_concat_getLast hne).symm⟩
    intro q hq
    obtain ⟨r, h1, h2⟩ := run_snoc.mp hq
    have := T.next _ s q (ih u (by simpa using h) r h1) h2
    rw [seenOf_snoc]
    exact this
def Wrong (P Q : Qs) (t : Tri) : Prop := t.x ∈ P.ends ∧ ∀ e, e ∈ t.y → e ∉ Q.ends
def Parts (P Q : Qs) (w : List Sg) : Prop := reads P w ∧ ¬ ans (rowE w) Q 0 w.length
theorem Leads.parts {P Q : Qs} (hQ : Q.Wf) {w : List Sg} {t : Tri} (h : Leads P Q w t) (k : Wrong P Q t) : Parts P Q w := by
  obtain ⟨h1, h2⟩ := h
  obtain ⟨k1, k2⟩ := k
  refine ⟨⟨_, k1, h1⟩, ?_⟩
  rintro ⟨q, hq, hr⟩
  refine k2 q ?_ hq
  rw [h2]
  exact ((seen_ok hQ w).1 q).mpr hr
theorem TriOk.win {P Q : Qs} (hQ : Q.Wf) {kvs : List (Tri × List Sg)} (T : TriOk P Q kvs) (h : ∀ e ∈ kvs, ¬ Wrong P Q e.1) : Win P Q := by
  rintro w ⟨q, hq, hr⟩
  have hm := T.all w q hr
  obtain ⟨e, he, e1⟩ := List.mem_map.mp hm
  have hn := h e he
  rw [e1] at hn
  refine Classical.byContradiction fun z => hn ⟨hq, fun c hc hce => z ⟨c, hce, ?_⟩⟩
  exact ((seen_ok hQ w).1 c).mp hc
theorem not_win {P Q : Qs} {w : List Sg} (h : Parts P Q w) : ¬ Win P Q := fun k => h.2 (k w h.1)

/-! ### how many triples -/
theorem nodup_le {α : Type} [DecidableEq α] : ∀ (l u : List α), l.Nodup → (∀ x ∈ l, x ∈ u) → l.length ≤ u.length
  | [], u, _, _ => Nat.zero_le _
  | x :: l, u, h, k => by
    rw [List.nodup_cons] at h
    have hx : x ∈ u := k x List.mem_cons_self
    have := nodup_le l (u.erase x) h.2 fun y hy => (List.mem_erase_of_ne fun e => h.1 (by rw [← e]; exact hy)).mpr (k y (List.mem_cons_of_mem _ hy))
    rw [List.length_erase_of_mem hx] at this
    have hp : 0 < u.length := List.length_pos_of_mem hx
    simp only [List.length_cons]
    omega
def tf : List Bool := [false, true]
theorem mem_tf (b : Bool) : b ∈ tf := by cases b <;> simp [tf]
/-- a finite stock of triples, for questions of at most three standings -/
def stock (n : Nat) : List Tri :=
  [0, 1, 2].flatMap fun q => tf.flatMap fun b0 => tf.flatMap fun b1 => tf.flatMap fun b2 =>
  tf.flatMap fun r01 => tf.flatMap fun r02 => tf.flatMap fun r10 => tf.flatMap fun r12 => tf.flatMap fun r20 => tf.map fun r21 =>
  ⟨q, cl n fun i => if i = 0 then b0 else if i = 1 then b1 else b2,
   cp n fun i j => if i = j then true else if i = 0 then (if j = 1 then r01 else r02) else if i = 1 then (if j = 0 then r10 else r12) else (if j = 0 then r20 else r21)⟩
theorem stock_len (n : Nat) : (stock n).length = 1536 := by
  unfold stock
  simp only [List.length_flatMap, List.length_map, tf]
  rfl
theorem in_stock {n q : Nat} {f : Nat → Bool} {R : Nat → Nat → Bool} (hn : n ≤ 3) (hq : q < 3) (hR : ∀ i, R i i = true) : (⟨q, cl n f, cp n R⟩ : Tri) ∈ stock n := by
  unfold stock
  simp only [List.mem_flatMap, List.mem_map]
  refine ⟨q, ?_, f 0, mem_tf _, f 1, mem_tf _, f 2, mem_tf _, R 0 1, mem_tf _, R 0 2, mem_tf _, R 1 0, mem_tf _, R 1 2, mem_tf _, R 2 0, mem_tf _, R 2 1, mem_tf _, ?_⟩
  · have : q = 0 ∨ q = 1 ∨ q = 2 := by omega
    rcases this with rfl | rfl | rfl <;> simp
  · congr 1
    · refine cl_congr fun i hi => ?_
      have : i = 0 ∨ i = 1 ∨ i = 2 := by omega
      rcases this with rfl | rfl | rfl <;> simp
    · refine cp_congr fun i j hi hj => ?_
      have h1 : i = 0 ∨ i = 1 ∨ i = 2 := by omega
      have h2 : j = 0 ∨ j = 1 ∨ j = 2 := by omega
      rcases h1 with rfl | rfl | rfl <;> rcases h2 with rfl | rfl | rfl <;> simp [hR]
theorem seen_form {Q : Qs} (hQ : Q.Wf) (w : List Sg) : ∃ f R, seenOf Q w = (cl Q.n f, cp Q.n R) ∧ ∀ i, R i i = true := by
  induction h : w.length generalizing w with
  | zero =>
    have e : w = [] := List.eq_nil_of_length_eq_zero h
    subst e
    refine ⟨fun i => decide (i = 0), fun i j => decide (i = j), ?_, fun i => by simp⟩
    have hp := hQ.pos
    show ([0], (List.range Q.n).map fun i => (i, i)) = _
    congr 1
    · obtain ⟨m, e⟩ : ∃ m, Q.n = m + 1 := ⟨Q.n - 1, by omega⟩
      rw [e, cl, List.range_succ_eq_map]
      rw [List.filter_cons]
      simp only [decide_true, if_true]
      rw [List.filter_eq_nil_iff.mpr]
      intro a ha
      obtain ⟨b, _, rfl⟩ := List.mem_map.mp ha
      simp
    · rw [cp, List.flatMap_def, List.map_congr_left (g := fun i => [(i, i)])]
      · induction List.range Q.n with
        | nil => rfl
        | cons x l ih => simpa using ih
      · intro i hi
        have e : (List.range Q.n).filter (fun j => decide (i = j)) = [i] := by
          have hi := List.mem_range.mp hi
          have : ∀ m, i < m → (List.range m).filter (fun j => decide (i = j)) = [i] := by
            intro m
            induction m with
            | zero => omega
            | succ m ih =>
              intro him
              rw [List.range_succ, List.filter_append]
              by_cases e : i = m
              · subst e
                rw [List.filter_eq_nil_iff.mpr]
                · simp
                · intro a ha
                  have := List.mem_range.mp ha
                  simp
                  omega
              · rw [ih (by omega)]
                simp [e]
          exact this _ hi
        rw [e]
        rfl
  | succ n ih =>
    have hne : w ≠ [] := fun e => by
      subst e
      simp at h
    obtain ⟨u, s, rfl⟩ : ∃ u s, w = u ++ [s] := ⟨w.dropLast, w.getLast hne, (List.dropLast_concat_getLast hne).symm⟩
    rw [seenOf_snoc]
    exact ⟨_, _, rfl, fun i => dec_iff.mpr .refl⟩
theorem run_bound {P : Qs} (hP : P.Wf) {w : List Sg} {q : Nat} (h : run P 0 w q) : q < P.n := by
  have : ∀ (w : List Sg) (p : Nat), p < P.n → run P p w q → q < P.n := by
    intro w
    induction w with
    | nil =>
      intro p hp h
      have e : p = q := h
      rw [← e]
      exact hp
    | cons s w ih =>
      rintro p hp ⟨r, h1, h2⟩
      exact ih r (hP.st _ h1).2 h2
  exact this w 0 hP.pos h
theorem few {P Q : Qs} (hP : P.Wf) (hQ : Q.Wf) (h1 : P.n ≤ 3) (h2 : Q.n ≤ 3) {ts : List Tri} (nd : ts.Nodup) (h : ∀ t ∈ ts, ∃ w, Leads P Q w t) : ts.length ≤ 1536 := by
  rw [← stock_len Q.n]
  refine nodup_le ts (stock Q.n) nd fun t ht => ?_
  obtain ⟨w, k1, k2⟩ := h t ht
  obtain ⟨f, R, e, hR⟩ := seen_form hQ w
  rw [k2, e]
  exact in_stock h2 (Nat.lt_of_lt_of_le (run_bound hP k1) h1) hR
end K26

set_option Elab.async false
set_option linter.all false
set_option maxRecDepth 100000
set_option maxHeartbeats 4000000
/-! Typed data: keys of any depth, what holds them in the tracked heap, equality, order. -/
namespace K26
open PySem PySem.Spec PyProof.Rows L2

/-- H' knows all that H knows -/
def Ex (H H' : Hp) : Prop := ∀ b o, H b = some o → H' b = some o
theorem Ex.refl (H : Hp) : Ex H H := fun _ _ h => h
theorem Ex.trans {H H1 H2 : Hp} (a : Ex H H1) (b : Ex H1 H2) : Ex H H2 := fun c o h => b c o (a c o h)
theorem Ex.new {H : Hp} {p : Addr} {o : HO} (h : H p = none) : Ex H (upd H p o) := fun c o' e => (upd_ne (ne_of_none e h)).trans e
/-- a thing that H does not know may be changed -/
theorem Ex.mut {H H' : Hp} {p : Addr} {o : HO} (e : Ex H H') (h : H p = none) : Ex H (upd H' p o) := fun c o' q => (upd_ne (ne_of_none q h)).trans (e c o' q)
theorem Ex.back {H H' : Hp} {p : Addr} (e : Ex H H') (h : H' p = none) : H p = none := by
  cases q : H p with
  | none => rfl
  | some o =>
    rw [e p o q] at h
    cases h
theorem Ex.put {H H1 : Hp} {p : Addr} {o : HO} (e : Ex H H1) (h : H1 p = none) : Ex H (upd H1 p o) := e.trans (Ex.new h)
/-- lists and tuples may be read as before -/
structure Ld (H H' : Hp) : Prop where
  l : ∀ a xs, Rd H a (.lst xs) → Rd H' a (.lst xs)
  t : ∀ a xs, Rd H a (.tup xs) → Rd H' a (.tup xs)
theorem Ex.ld {H H' : Hp} (e : Ex H H') : Ld H H' :=
  ⟨fun a xs h => h.elim (fun z => .inl (e _ _ z)) fun ⟨o, z⟩ => .inr ⟨o, e _ _ z⟩, fun a xs h => h.elim (fun z => .inl (e _ _ z)) fun ⟨o, z⟩ => .inr ⟨o, e _ _ z⟩⟩
theorem Ld.trans {H H1 H2 : Hp} (a : Ld H H1) (b : Ld H1 H2) : Ld H H2 := ⟨fun x xs h => b.l x xs (a.l x xs h), fun x xs h => b.t x xs (a.t x xs h)⟩
theorem Ld.sqL {K : PySem.W.Frag} {H H' : Hp} {a : Addr} {xs : List V} (e : Ld H H') (h : SqL K H a xs) : SqL K H' a xs := h.elim (fun z => .inl (e.l _ _ z)) .inr
theorem Ld.sqT {K : PySem.W.Frag} {H H' : Hp} {a : Addr} {xs : List V} (e : Ld H H') (h : SqT K H a xs) : SqT K H' a xs := h.elim (fun z => .inl (e.t _ _ z)) .inr
/-- another thing than a list or tuple is changed -/
theorem Ld.upd {H : Hp} {d : Addr} {o : HO} (h : ∀ xs, ¬ Rd H d (.lst xs)) (h' : ∀ xs, ¬ Rd H d (.tup xs)) : Ld H (upd H d o) := by
  constructor
  · intro a xs r
    have : a ≠ d := fun e => by subst e; exact h xs r
    unfold Rd
    rw [upd_ne this]
    exact r
  · intro a xs r
    have : a ≠ d := fun e => by subst e; exact h' xs r
    unfold Rd
    rw [upd_ne this]
    exact r
mutual
theorem dp_ld {K : PySem.W.Frag} {H H' : Hp} (e : Ld H H') : ∀ {v : V} {d : PyData}, Dp K H v d → Dp K H' v d
  | _, _, .non => .non
  | _, _, .bl b => .bl b
  | _, _, .int i => .int i
  | _, _, .str x => .str x
  | _, _, .lst h a => .lst (e.sqL h) (dpAll_ld e a)
  | _, _, .tup h a => .tup (e.sqT h) (dpAll_ld e a)
theorem dpAll_ld {K : PySem.W.Frag} {H H' : Hp} (e : Ld H H') : ∀ {vs : List V} {ds : List PyData}, DpAll K H vs ds → DpAll K H' vs ds
  | _, _, .nil => .nil
  | _, _, .cons h t => .cons (dp_ld e h) (dpAll_ld e t)
end
theorem _root_.L2.Dp.ex {K : PySem.W.Frag} {H H' : Hp} {v : V} {d : PyData} (h : Dp K H v d) (e : Ex H H') : Dp K H' v d := dp_ld e.ld h
theorem _root_.L2.DpAll.ex {K : PySem.W.Frag} {H H' : Hp} {vs : List V} {ds : List PyData} (h : DpAll K H vs ds) (e : Ex H H') : DpAll K H' vs ds := dpAll_ld e.ld h
section
variable {K : PySem.W.Frag} {H : Hp}
theorem dpAll_len : ∀ {vs : List V} {ds : List PyData}, DpAll K H vs ds → vs.length = ds.length
  | _, _, .nil => rfl
  | _, _, .cons _ t => congrArg (· + 1) (dpAll_len t)
theorem dpAll_app : ∀ {vs ws : List V} {ds es : List PyData}, DpAll K H vs ds → DpAll K H ws es → DpAll K H (vs ++ ws) (ds ++ es)
  | _, _, _, _, .nil, k => k
  | _, _, _, _, .cons h t, k => .cons h (dpAll_app t k)
theorem dpAll_at : ∀ {vs : List V} {ds : List PyData} {i : Nat} {v : V}, DpAll K H vs ds → vs[i]? = some v → ∃ d, ds[i]? = some d ∧ Dp K H v d
  | _, _, i, v, .nil, h => by simp at h
  | _, _, 0, v, .cons h t, e => by
    have e2 := Option.some.inj e
    subst e2
    exact ⟨_, rfl, h⟩
  | _, _, i + 1, v, .cons h t, e => dpAll_at (i := i) t (by simpa using e)
theorem dpAll_get : ∀ {vs : List V} {ds : List PyData} {i : Nat} {d : PyData}, DpAll K H vs ds → ds[i]? = some d → ∃ v, vs[i]? = some v ∧ Dp K H v d
  | _, _, i, d, .nil, h => by simp at h
  | _, _, 0, d, .cons h t, e => by
    have e2 := Option.some.inj e
    subst e2
    exact ⟨_, rfl, h⟩
  | _, _, i + 1, d, .cons h t, e => dpAll_get (i := i) t (by simpa using e)
theorem dpAll_snoc {vs : List V} {ds : List PyData} {v : V} {d : PyData} (h : DpAll K H vs ds) (k : Dp K H v d) : DpAll K H (vs ++ [v]) (ds ++ [d]) := dpAll_app h (.cons k .nil)
theorem dpAll_of : ∀ {vs : List V} {ds : List PyData}, vs.length = ds.length → (∀ (i : Nat) v d, vs[i]? = some v → ds[i]? = some d → Dp K H v d) → DpAll K H vs ds
  | [], [], _, _ => .nil
  | [], _ :: _, e, _ => by simp at e
  | _ :: _, [], e, _ => by simp at e
  | v :: vs, d :: ds, e, h => .cons (h 0 v d rfl rfl) (dpAll_of (by simpa using e) fun i v' d' h1 h2 => h (i + 1) v' d' (by simpa using h1) (by simpa using h2))
end

/-! ### keys -/
mutual
theorem eqv_key : ∀ x y : NestedKey, PyData.eqv x.data y.data = NestedKey.beq x y
  | .none, .none => by simp only [NestedKey.data, PyData.eqv, NestedKey.beq]
  | .none, .num _ => by simp only [NestedKey.data, PyData.eqv, NestedKey.beq]
  | .none, .text _ => by simp only [NestedKey.data, PyData.eqv, NestedKey.beq]
  | .none, .tup _ => by simp only [NestedKey.data, PyData.eqv, NestedKey.beq]
  | .num _, .none => by simp only [NestedKey.data, PyData.eqv, NestedKey.beq]
  | .num a, .num b => by simp only [NestedKey.data, PyData.eqv, NestedKey.beq]; exact Bool.beq_eq_decide_eq a b
  | .num _, .text _ => by simp only [NestedKey.data, PyData.eqv, NestedKey.beq]
  | .num _, .tup _ => by simp only [NestedKey.data, PyData.eqv, NestedKey.beq]
  | .text _, .none => by simp only [NestedKey.data, PyData.eqv, NestedKey.beq]
  | .text _, .num _ => by simp only [NestedKey.data, PyData.eqv, NestedKey.beq]
  | .text a, .text b => by
    simp only [NestedKey.data, PyData.eqv, NestedKey.beq]
    by_cases h : a = b
    · subst h
      simp
    · simp [h]
  | .text _, .tup _ => by simp only [NestedKey.data, PyData.eqv, NestedKey.beq]
  | .tup _, .none => by simp only [NestedKey.data, PyData.eqv, NestedKey.beq]
  | .tup _, .num _ => by simp only [NestedKey.data, PyData.eqv, NestedKey.beq]
  | .tup _, .text _ => by simp only [NestedKey.data, PyData.eqv, NestedKey.beq]
  | .tup xs, .tup ys => by simp only [NestedKey.data, PyData.eqv, NestedKey.beq]; exact eqv_keys xs ys
theorem eqv_keys : ∀ xs ys : List NestedKey, PyData.eqvAll (NestedKey.datas xs) (NestedKey.datas ys) = NestedKey.beqAll xs ys
  | [], [] => by simp only [NestedKey.datas, PyData.eqvAll, NestedKey.beqAll]
  | [], _ :: _ => by simp only [NestedKey.datas, PyData.eqvAll, NestedKey.beqAll]
  | _ :: _, [] => by simp only [NestedKey.datas, PyData.eqvAll, NestedKey.beqAll]
  | x :: xs, y :: ys => by simp only [NestedKey.datas, PyData.eqvAll, NestedKey.beqAll]; rw [eqv_key x y, eqv_keys xs ys]
end
mutual
theorem depth_key : ∀ x : NestedKey, x.data.depth = x.depth
  | .none => rfl
  | .num _ => rfl
  | .text _ => rfl
  | .tup xs => by simp only [NestedKey.data, PyData.depth, NestedKey.depth]; rw [depth_keys xs]
theorem depth_keys : ∀ xs : List NestedKey, PyData.depthAll (NestedKey.datas xs) = NestedKey.depthAll xs
  | [] => rfl
  | x :: xs => by simp only [NestedKey.datas, PyData.depthAll, NestedKey.depthAll]; rw [depth_key x, depth_keys xs]
end
theorem datas_map : ∀ xs : List NestedKey, NestedKey.datas xs = xs.map NestedKey.data
  | [] => rfl
  | x :: xs => by rw [NestedKey.datas, datas_map xs]; rfl

class Ky (α : Type) where
  key : α → NestedKey
  inj : ∀ a b, key a = key b → a = b
  alk : ∀ a b, PySem.W.alike (key a).data (key b).data = true
  lay : ∀ a, (key a).data.canLay0 = true
  dep : Nat
  dep_le : ∀ a, (key a).depth ≤ dep
open Ky
def dat {α : Type} [Ky α] (a : α) : PyData := (key a).data
theorem keyAll_depth {α : Type} [Ky α] : ∀ xs : List α, NestedKey.depthAll (xs.map key) ≤ dep α
  | [] => Nat.zero_le _
  | x :: xs => by
    rw [List.map_cons, NestedKey.depthAll]
    exact Nat.max_le.mpr ⟨dep_le x, keyAll_depth xs⟩
theorem keyAll_alike {α : Type} [Ky α] : ∀ xs ys : List α, PySem.W.alikeAll (NestedKey.datas (xs.map key)) (NestedKey.datas (ys.map key)) = true
  | [], ys => by rw [List.map_nil, NestedKey.datas, PySem.W.alikeAll]
  | x :: xs, [] => by rw [List.map_nil, List.map_cons, NestedKey.datas, NestedKey.datas, PySem.W.alikeAll]
  | x :: xs, y :: ys => by
    rw [List.map_cons, List.map_cons, NestedKey.datas, NestedKey.datas, PySem.W.alikeAll, alk x y, keyAll_alike xs ys]
    rfl
theorem keyAll_lay {α : Type} [Ky α] : ∀ xs : List α, PyData.canLayAll0 (NestedKey.datas (xs.map key)) = true
  | [] => rfl
  | x :: xs => by
    rw [List.map_cons, NestedKey.datas, PyData.canLayAll0, lay x, keyAll_lay xs]
    rfl
instance : Ky Nat where
  key n := .num (n : Int)
  inj a b h := by injection h with h; omega
  alk _ _ := rfl
  lay _ := rfl
  dep := 0
  dep_le _ := Nat.le_refl _
/-- a sign's text -/
def sgS : Sg → Str
  | .a => "a" | .b => "b" | .A => "A" | .B => "B"
instance : Ky Sg where
  key s := .text (sgS s)
  inj a b h := by
    injection h with h
    revert h
    cases a <;> cases b <;> first | (intro _; rfl) | (intro h; exact absurd h (by decide))
  alk _ _ := rfl
  lay s := by cases s <;> decide +kernel
  dep := 0
  dep_le _ := Nat.le_refl _
section
variable {α β γ : Type} [Ky α] [Ky β] [Ky γ]
instance : Ky (α × β) where
  key p := .tup [key p.1, key p.2]
  inj a b h := by
    injection h with h
    injection h with h1 h
    injection h with h2 _
    exact Prod.ext (inj _ _ h1) (inj _ _ h2)
  alk a b := by simp only [NestedKey.data, NestedKey.datas, PySem.W.alike, PySem.W.alikeAll, alk, Bool.and_self]
  lay a := by simp only [NestedKey.data, NestedKey.datas, PyData.canLay0, PyData.canLayAll0, lay, Bool.and_self]
  dep := max (dep α) (dep β) + 1
  dep_le a := by
    simp only [NestedKey.depth, NestedKey.depthAll]
    have h1 := dep_le a.1
    have h2 := dep_le a.2
    omega
instance : Ky (T3 α β γ) where
  key p := .tup [key p.x, key p.y, key p.z]
  inj a b h := by
    injection h with h
    injection h with h1 h
    injection h with h2 h
    injection h with h3 _
    cases a
    cases b
    rw [T3.mk.injEq]
    exact ⟨inj _ _ h1, inj _ _ h2, inj _ _ h3⟩
  alk a b := by simp only [NestedKey.data, NestedKey.datas, PySem.W.alike, PySem.W.alikeAll, alk, Bool.and_self]
  lay a := by simp only [NestedKey.data, NestedKey.datas, PyData.canLay0, PyData.canLayAll0, lay, Bool.and_self]
  dep := max (dep α) (max (dep β) (dep γ)) + 1
  dep_le a := by
    simp only [NestedKey.depth, NestedKey.depthAll]
    have h1 := dep_le a.x
    have h2 := dep_le a.y
    have h3 := dep_le a.z
    omega
theorem map_inj : ∀ xs ys : List α, xs.map key = ys.map key → xs = ys
  | [], [], _ => rfl
  | [], _ :: _, h => by simp at h
  | _ :: _, [], h => by simp at h
  | x :: xs, y :: ys, h => by
    rw [List.map_cons, List.map_cons] at h
    injection h with h1 h2
    rw [inj x y h1, map_inj xs ys h2]
/-- a tuple of any length -/
instance : Ky (List α) where
  key xs := .tup (xs.map key)
  inj a b h := by
    injection h with h
    exact map_inj a b h
  alk a b := by simp only [NestedKey.data, PySem.W.alike]; exact keyAll_alike a b
  lay a := by simp only [NestedKey.data, PyData.canLay0]; exact keyAll_lay a
  dep := dep α + 1
  dep_le a := by
    simp only [NestedKey.depth]
    exact Nat.succ_le_succ (keyAll_depth a)
end
/-- a string of signs -/
structure Wd where
  l : List Sg
  deriving DecidableEq
def sgC : Sg → Nat
  | .a => 97 | .b => 98 | .A => 65 | .B => 66
theorem sgS_C (s : Sg) : sgS s = ⟨#[sgC s]⟩ := by cases s <;> rfl
theorem sgC_inj {s t : Sg} (h : sgC s = sgC t) : s = t := by
  revert h
  cases s <;> cases t <;> first | (intro _; rfl) | (intro h; exact absurd h (by decide))
def wdS (w : List Sg) : Str := ⟨(w.map sgC).toArray⟩
theorem wdS_tl (w : List Sg) : (wdS w).cps.toList = w.map sgC := by simp [wdS]
theorem wdS_inj {u w : List Sg} (h : wdS u = wdS w) : u = w := by
  have h2 := congrArg (fun x : Str => x.cps.toList) h
  simp only [wdS_tl] at h2
  have : ∀ u w : List Sg, u.map sgC = w.map sgC → u = w := by
    intro u
    induction u with
    | nil => intro w h; cases w with
      | nil => rfl
      | cons _ _ => simp at h
    | cons x u ih => intro w h; cases w with
      | nil => simp at h
      | cons y w =>
        rw [List.map_cons, List.map_cons] at h
        injection h with h1 h3
        rw [sgC_inj h1, ih w h3]
  exact this u w h2
theorem wdS_len (w : List Sg) : (wdS w).length = w.length := by simp [wdS, Str.length]
instance : Ky Wd where
  key w := .text (wdS w.l)
  inj a b h := by
    injection h with h
    cases a
    cases b
    exact congrArg Wd.mk (wdS_inj h)
  alk _ _ := rfl
  lay w := by
    show (wdS w.l).cps.all (· < 0x110000) = true
    rw [← Array.all_toList, wdS_tl, List.all_map, List.all_eq_true]
    intro s _
    cases s <;> rfl
  dep := 0
  dep_le _ := Nat.le_refl _

section
variable {α : Type} [Ky α]
theorem eqv_dat [DecidableEq α] (a b : α) : PyData.eqv (dat a) (dat b) = decide (a = b) := by
  unfold dat
  rw [eqv_key]
  by_cases h : a = b
  · subst h
    rw [NestedKey.beq_self]
    simp
  · rw [decide_eq_false h]
    cases q : NestedKey.beq (key a) (key b) with
    | false => rfl
    | true => exact absurd (inj a b (NestedKey.eq_of_beq _ _ q)) h
theorem dat_depth (a : α) : (dat a).depth ≤ dep α := by
  unfold dat
  rw [depth_key]
  exact dep_le a
theorem shaped_dat (a : α) (h : dep α ≤ 60 := by decide) : SeqAt.shaped (dat a) = true := by
  unfold SeqAt.shaped
  rw [show (dat a).canLay0 = true from lay a]
  have := dat_depth a
  simp
  omega
theorem dats_depth : ∀ l : List α, PyData.depthAll (l.map dat) ≤ dep α
  | [] => Nat.zero_le _
  | x :: xs => by
    rw [List.map_cons, PyData.depthAll]
    exact Nat.max_le.mpr ⟨dat_depth x, dats_depth xs⟩
theorem dats_lay : ∀ l : List α, PyData.canLayAll0 (l.map dat) = true
  | [] => rfl
  | x :: xs => by
    rw [List.map_cons, PyData.canLayAll0, show (dat x).canLay0 = true from lay x, dats_lay xs]
    rfl
theorem shaped_list (l : List α) (h : dep α ≤ 60 := by decide) : SeqAt.shaped (.list (l.map dat)) = true := by
  unfold SeqAt.shaped
  simp only [PyData.canLay0, dats_lay, PyData.depth]
  have := dats_depth l
  simp
  omega
theorem shaped_tuple (l : List α) (h : dep α ≤ 60 := by decide) : SeqAt.shaped (.tuple (l.map dat)) = true := by
  unfold SeqAt.shaped
  simp only [PyData.canLay0, dats_lay, PyData.depth]
  have := dats_depth l
  simp
  omega
theorem any_dat [DecidableEq α] (l : List α) (a : α) : ((l.map dat).any fun z => PyData.eqv z (dat a)) = decide (a ∈ l) := by
  rw [List.any_map, Bool.eq_iff_iff, List.any_eq_true, decide_eq_true_iff]
  constructor
  · rintro ⟨x, hx, e⟩
    rw [Function.comp_apply, eqv_dat] at e
    rw [← of_decide_eq_true e]
    exact hx
  · intro h
    exact ⟨a, h, by rw [Function.comp_apply, eqv_dat]; simp⟩
theorem dat_list (l : List α) : dat l = .tuple (l.map dat) := by
  show (NestedKey.tup (l.map key)).data = _
  rw [NestedKey.data, datas_map, List.map_map]
  rfl
end
theorem eqvs_dat {α : Type} [Ky α] [DecidableEq α] (l m : List α) : PyData.eqvAll (l.map dat) (m.map dat) = decide (l = m) := by
  have := eqv_dat l m
  rw [dat_list, dat_list] at this
  simpa only [PyData.eqv] using this
end K26

set_option Elab.async false
set_option linter.all false
set_option maxRecDepth 100000
set_option maxHeartbeats 4000000
/-! Dicts whose keys are tuples of any depth: how they stand in the tracked heap, and the rules for what the program does with them. -/
namespace K26
open PySem PySem.Spec PyProof.Rows L2
open Ky

/-- what a reading needs to know of a context: the same within a comprehension -/
structure Ou where
  prog : Program
  w : World
  K : PySem.W.Frag
def _root_.L2.Cx.ou (X : Cx) : Ou := ⟨X.prog, X.w, X.K⟩
/-! ### how they stand -/
abbrev En (α : Type) := α × Addr × V
def RelE : NestedKey × Addr × V → NestedKey × Addr × Value → Prop := fun p q => p.1 = q.1 ∧ p.2.1 = q.2.1 ∧ RelV p.2.2 q.2.2
section
variable {α : Type} [Ky α]
def keyd (t : En α) : NestedKey × Addr × V := (key t.1, t.2.1, t.2.2)
/-- the object at d is a dict with these entries -/
def DNAt (P : Program) (w : World) (d : Addr) (ts : List (En α)) (h : Heap) : Prop :=
  ts.length ≤ sizeLine ∧ (d == sysModules) = false ∧ ∃ xs, Paired RelE (ts.map keyd) xs ∧
    ∃ o es ep, h.get? d = some o ∧ o.ExactDict ∧ o.data = .dict es ep ∧ es.toList = xs.map (entryOfKey (nestedKind P w)) ∧ (xs.map (·.1)).Nodup
def DN (P : Program) (w : World) (d : Addr) (ts : List (En α)) : HO := .ext (DNAt P w d ts)
/-- each key's tuple is there -/
def Keys (K : PySem.W.Frag) (H : Hp) (ts : List (En α)) : Prop := ∀ t ∈ ts, Dp K H (.ref t.2.1) (dat t.1)
end
theorem Keys.ld {α : Type} [Ky α] {K : PySem.W.Frag} {H H' : Hp} {ts : List (En α)} (k : Keys K H ts) (e : Ld H H') : Keys K H' ts := fun t ht => dp_ld e (k t ht)

section
variable {X : Cx} {pins : List (Addr × Obj)} {σ : L2.St} {H : Hp} {s : Shared}
mutual
theorem dp_is (I : Inv X pins σ H s) : ∀ (k : NestedKey) (v : V) (u : Value), Dp X.K H v k.data → RelV v u → NestedIs s.heap k u
  | .none, v, u, h, r => by
    cases h
    cases r
    exact .none
  | .num i, v, u, h, r => by
    cases h
    obtain ⟨t, rfl⟩ := r
    exact .int i t
  | .text x, v, u, h, r => by
    cases h
    obtain ⟨t, rfl⟩ := r
    exact .text x t
  | .tup ks, v, u, h, r => by
    rw [NestedKey.data] at h
    cases h with
    | tup hs ha =>
      cases r
      obtain ⟨its, rv, ⟨o, ho, hc, n, hd⟩, _⟩ := I.tuple hs
      exact .tup ho hc hd (by simpa using dps_are I ks _ its ha rv)
theorem dps_are (I : Inv X pins σ H s) : ∀ (ks : List NestedKey) (vs : List V) (us : List Value), DpAll X.K H vs (NestedKey.datas ks) → Vals vs us → NestedAll s.heap ks us
  | [], vs, us, h, r => by
    rw [NestedKey.datas] at h
    cases h
    cases r
    exact .nil
  | k :: ks, vs, us, h, r => by
    rw [NestedKey.datas] at h
    cases h with
    | cons h1 h2 =>
      cases r with
      | cons r1 r2 => exact .cons (dp_is I k _ _ h1 r1) (dps_are I ks _ _ h2 r2)
end
variable {α : Type} [Ky α]
theorem key_is (I : Inv X pins σ H s) {b : Addr} {a : α} (h : Dp X.K H (.ref b) (dat a)) (hd : dep α ≤ 8) : (nestedKind X.prog X.w).is s.heap (key a) b :=
  ⟨dp_is I (key a) _ _ h rfl, Nat.le_trans (dep_le a) hd⟩
end

/-! ### look up, put -/
section
variable {α : Type} [DecidableEq α]
def atE (ts : List (En α)) (a : α) : Option V := (ts.find? fun t => decide (t.1 = a)).map (·.2.2)
def putE (ts : List (En α)) (a : α) (b : Addr) (v : V) : List (En α) := if a ∈ ts.map (·.1) then ts.map (fun t => if t.1 = a then (t.1, t.2.1, v) else t) else ts ++ [(a, b, v)]
theorem atE_some {ts : List (En α)} {a : α} : (atE ts a).isSome = decide (a ∈ ts.map (·.1)) := by
  unfold atE
  rw [Option.isSome_map, Bool.eq_iff_iff, List.find?_isSome, decide_eq_true_iff, List.mem_map]
  constructor
  · rintro ⟨t, h1, h2⟩
    exact ⟨t, h1, of_decide_eq_true h2⟩
  · rintro ⟨t, h1, h2⟩
    exact ⟨t, h1, decide_eq_true h2⟩
theorem putE_keys (ts : List (En α)) (a : α) (b : Addr) (v : V) : (putE ts a b v).map (·.1) = if a ∈ ts.map (·.1) then ts.map (·.1) else ts.map (·.1) ++ [a] := by
  unfold putE
  split
  · rw [List.map_map]
    refine List.map_congr_left fun t _ => ?_
    simp only [Function.comp_apply]
    split <;> rfl
  · simp
theorem putE_len (ts : List (En α)) (a : α) (b : Addr) (v : V) : (putE ts a b v).length ≤ ts.length + 1 := by
  unfold putE
  split <;> simp
theorem putE_new {ts : List (En α)} {a : α} (h : a ∉ ts.map (·.1)) (b : Addr) (v : V) : putE ts a b v = ts ++ [(a, b, v)] := if_neg h
end
section
variable {α : Type} [Ky α] [DecidableEq α]
theorem key_iff {a b : α} : key a = key b ↔ a = b := ⟨inj a b, fun e => by rw [e]⟩
theorem paired_at {ts : List (En α)} {xs : List (NestedKey × Addr × Value)} (r : Paired RelE (ts.map keyd) xs) (a : α) : RelO (atE ts a) ((atKey xs (key a)).map (·.2)) := by
  induction ts generalizing xs with
  | nil =>
    cases r
    exact True.intro
  | cons t ts ih =>
    rw [List.map_cons] at r
    cases r with
    | @cons p q ps qs h k =>
      obtain ⟨h1, h2, h3⟩ := h
      have h1' : key t.1 = q.1 := h1
      unfold atE atKey
      rw [List.find?_cons, List.find?_cons]
      by_cases e : t.1 = a
      · rw [decide_eq_true e, show decide (q.1 = key a) = true from decide_eq_true (by rw [← h1', e])]
        exact h3
      · rw [decide_eq_false e, show decide (q.1 = key a) = false from decide_eq_false fun z => e (inj _ _ (by rw [h1', z]))]
        exact ih k
theorem paired_isSome {ts : List (En α)} {xs : List (NestedKey × Addr × Value)} (r : Paired RelE (ts.map keyd) xs) (a : α) : (atKey xs (key a)).isSome = decide (a ∈ ts.map (·.1)) := by
  rw [← atE_some, (paired_at r a).isSome_eq, Option.isSome_map]
theorem paired_put {ts : List (En α)} {xs : List (NestedKey × Addr × Value)} (r : Paired RelE (ts.map keyd) xs) (a : α) (b : Addr) {v : V} {u : Value} (rv : RelV v u) : Paired RelE ((putE ts a b v).map keyd) (storedH xs (key a) b u) := by
  unfold putE storedH
  rw [paired_isSome r a]
  by_cases h : a ∈ ts.map (·.1)
  · rw [if_pos h, if_pos (decide_eq_true h)]
    clear h
    induction ts generalizing xs with
    | nil =>
      cases r
      exact .nil
    | cons t ts ih =>
      rw [List.map_cons] at r
      cases r with
      | @cons p q ps qs h k =>
        rw [List.map_cons, List.map_cons, List.map_cons]
        refine .cons ?_ (ih k)
        obtain ⟨h1, h2, h3⟩ := h
        have h1' : key t.1 = q.1 := h1
        unfold putAt
        by_cases e : t.1 = a
        · rw [if_pos e, if_pos (show q.1 = key a by rw [← h1', e])]
          exact ⟨h1, h2, rv⟩
        · rw [if_neg e, if_neg (show ¬ q.1 = key a from fun z => e (inj _ _ (by rw [h1', z])))]
          exact ⟨h1, h2, h3⟩
  · rw [if_neg h, if_neg (by simpa using h), List.map_append]
    exact Paired.snoc r ⟨rfl, rfl, rv⟩
end

/-! ### between the tracked and the raw dict -/
section
variable {X : Cx} {pins : List (Addr × Obj)} {σ : L2.St} {H : Hp} {s : Shared} {α : Type} [Ky α] {d : Addr} {ts : List (En α)}
theorem dn_ok {P : Program} {w : World} {H' : Hp} {h : Heap} (x : DNAt P w d ts h) : ObjOk P w H' h d (DN P w d ts) := by
  refine ⟨x, ?_, fun h1 h2 p k => ?_⟩
  · obtain ⟨_, _, _, _, o, _, _, ho, _⟩ := x
    exact ⟨o, ho⟩
  · obtain ⟨z, y, xs, r, o, es, ep, ho, q⟩ := p
    exact ⟨z, y, xs, r, o, es, ep, k o ho, q⟩
theorem dn_at (I : Inv X pins σ H s) (h : Rd H d (DN X.prog X.w d ts)) : DNAt X.prog X.w d ts s.heap := by
  rcases h with h | ⟨o, h⟩
  · exact (I.hok d _ h).1
  · exact (I.hok d _ h).2.1
theorem dn_h (I : Inv X pins σ H s) (h : Rd H d (DN X.prog X.w d ts)) (k : Keys X.K H ts) (hd : dep α ≤ 8) :
    ts.length ≤ sizeLine ∧ (d == sysModules) = false ∧ ∃ xs, Paired RelE (ts.map keyd) xs ∧ s.heap.DictOfH (nestedKind X.prog X.w) d xs := by
  obtain ⟨z, y, xs, r, o, es, ep, ho, hc, hdat, he, hn⟩ := dn_at I h
  refine ⟨z, y, xs, r, o, es, ep, ho, hc, hdat, he, fun x hx => ?_, hn⟩
  have all : ∀ {l : List (En α)} {m : List (NestedKey × Addr × Value)}, (∀ t ∈ l, Dp X.K H (.ref t.2.1) (dat t.1)) → Paired RelE (l.map keyd) m → ∀ x ∈ m, (nestedKind X.prog X.w).is s.heap x.1 x.2.1 := by
    intro l
    induction l with
    | nil =>
      intro m _ q x hx
      cases q
      cases hx
    | cons t l ih =>
      intro m hk q x hx
      rw [List.map_cons] at q
      cases q with
      | @cons p q' ps qs hq tt =>
        rcases List.mem_cons.mp hx with e | hx
        · obtain ⟨h1, h2, _⟩ := hq
          rw [e, ← h1, ← h2]
          exact key_is I (hk t List.mem_cons_self) hd
        · exact ih (fun t' ht' => hk t' (List.mem_cons_of_mem _ ht')) tt x hx
  exact all k r x hx
theorem dn_new {P : Program} {w : World} {h' : Heap} {xs : List (NestedKey × Addr × Value)} (z : ts.length ≤ sizeLine) (y : (d == sysModules) = false) (r : Paired RelE (ts.map keyd) xs) (m : h'.DictOfH (nestedKind P w) d xs) : DNAt P w d ts h' := by
  obtain ⟨o, es, ep, ho, hc, hdat, he, _, hn⟩ := m
  exact ⟨z, y, xs, r, o, es, ep, ho, hc, hdat, he, hn⟩
theorem paired_keys : ∀ {ts : List (En α)} {xs : List (NestedKey × Addr × Value)}, Paired RelE (ts.map keyd) xs → ts.map (fun t => key t.1) = xs.map (·.1)
  | [], _, r => by
    cases r
    rfl
  | t :: ts, _, r => by
    rw [List.map_cons] at r
    cases r with
    | @cons p q ps qs h k =>
      rw [List.map_cons, List.map_cons, paired_keys k]
      exact congrArg (· :: _) h.1
theorem dn_nodup {P : Program} {w : World} {h : Heap} (x : DNAt P w d ts h) : (ts.map (·.1)).Nodup := by
  obtain ⟨_, _, xs, r, _, _, _, _, _, _, _, hn⟩ := x
  rw [← paired_keys r] at hn
  have : (ts.map (fun t => key t.1)) = (ts.map (·.1)).map key := by rw [List.map_map]; rfl
  rw [this] at hn
  exact List.Pairwise.of_map key (fun a b h e => h (by rw [e])) hn
theorem dn_empty {P : Program} {w : World} (h : Heap) (hb : sysModules < h.objs.size) : DNAt (α := α) P w h.objs.size [] (h.push { cls := .type "dict", data := .dict #[] }) :=
  ⟨Nat.zero_le _, beq_eq_false_iff_ne.mpr (Ne.symm (Nat.ne_of_lt hb)), [], .nil, _, #[], 0, Heap.get?_push_size _ rfl, ⟨rfl, rfl, rfl⟩, rfl, rfl, List.nodup_nil⟩
theorem room8 {A : Around} (hu : A.units + 64 < cLine) : (nestedKind X.prog X.w).room A.in1 := by
  show A.in1.units + 8 < cLine
  have : A.in1.units = A.units + 1 := rfl
  omega
theorem room7 {A : Around} (hu : A.units + 64 < cLine) : (nestedKind X.prog X.w).room A := by
  show A.units + 8 < cLine
  omega
/-- the dict at d is written -/
theorem dn_write {h' : Heap} {t' : Nat} {ts' : List (En α)} (I : Inv X pins σ H s) (e : H d = some (DN X.prog X.w d ts)) (hs : Heap.SameBut d s.heap h') (new : DNAt X.prog X.w d ts' h') :
    Inv X pins σ (upd H d (DN X.prog X.w d ts')) { s with heap := h', toks := t' } := by
  have he : ∃ q, h'.get? d = some q := by
    obtain ⟨_, _, _, _, o, _, _, ho, _⟩ := new
    exact ⟨o, ho⟩
  exact d_write I (by rw [e]; exact True.intro) hs he (dn_ok new)
end

/-! ### the rules -/
section
variable {X : Cx} (α : Type) [Ky α] [DecidableEq α]
/-- {} -/
def tNewN (X : Ou) : TE := fun _ H Q => ∀ p, H p = none → Q (.ref p) (upd H p (DN (α := α) X.prog X.w p []))
theorem pe_newN {pos : Pos} : PE X (.Dict [] [] pos) (tNewN α X.ou) := ⟨fun pins s σ H Q I h => by
  refine wpAny_Dict_empty ⟨.ref s.heap.objs.size, _, I.laid (a := s.heap.objs.size) (o := DN (α := α) X.prog X.w s.heap.objs.size []) (t' := s.toks) (fun _ _ q => Heap.get?_push_of_some _ q) (Nat.le_refl _) (dn_ok (dn_empty s.heap I.big)), rfl, h _ (I.hok.fresh (Nat.le_refl _))⟩⟩
variable {α}
/-- what is asked of a look-up -/
def LkN (X : Ou) (H : Hp) (x y : V) (ts : List (En α)) (a : α) : Prop := ∃ b d, x = .ref b ∧ y = .ref d ∧ Rd H d (DN X.prog X.w d ts) ∧ Keys X.K H ts ∧ Dp X.K H (.ref b) (dat a)
variable (α)
def rInN (X : Ou) (neg : Bool) : R2 := fun x y H Q => ∃ (ts : List (En α)) (a : α), LkN X H x y ts a ∧ Q (.bl (if neg then !decide (a ∈ ts.map (·.1)) else decide (a ∈ ts.map (·.1)))) H
theorem op_inN (hu : X.A.units + 64 < cLine) (hd : dep α ≤ 8 := by decide) : OpR X (compareOp .In) (rInN α X.ou false) := by
  intro pins s σ H x y v u Q I rx ry h
  obtain ⟨ts, a, ⟨b, d, rfl, rfl, hr, hk, ha⟩, q⟩ := h
  cases rx
  cases ry
  obtain ⟨z, lo, xs, r, m⟩ := dn_h I hr hk hd
  refine wpAny_in_heap (room8 (X := X) hu) (key_is I ha hd) lo m ?_
  rw [paired_isSome r a]
  exact ⟨.bl _, H, I.tok _, rfl, q⟩
theorem op_notInN (hu : X.A.units + 64 < cLine) (hd : dep α ≤ 8 := by decide) : OpR X (compareOp .NotIn) (rInN α X.ou true) := by
  intro pins s σ H x y v u Q I rx ry h
  obtain ⟨ts, a, ⟨b, d, rfl, rfl, hr, hk, ha⟩, q⟩ := h
  cases rx
  cases ry
  obtain ⟨z, lo, xs, r, m⟩ := dn_h I hr hk hd
  refine wpAny_notIn_heap (room8 (X := X) hu) (key_is I ha hd) lo m ?_
  rw [paired_isSome r a]
  exact ⟨.bl _, H, I.tok _, rfl, q⟩
def rIxN (X : Ou) : R2 := fun x y H Q => ∃ (ts : List (En α)) (a : α) (v : V), LkN X H y x ts a ∧ atE ts a = some v ∧ Q v H
theorem dnType {pins : List (Addr × Obj)} {σ : L2.St} {H : Hp} {s : Shared} {d : Addr} {ts : List (En α)} (I : Inv X pins σ H s) (hr : Rd H d (DN X.prog X.w d ts)) : s.TypeIs (.ref d) "dict" := by
  obtain ⟨_, _, _, _, o, _, _, ho, hc, _⟩ := dn_at I hr
  exact ⟨o, ho, hc.1⟩
/-- d[k] -/
def tGetN (X : Ou) (td ty : TE) : TE := fun σ H Q => td σ H fun x H1 => ty σ H1 fun y H2 => rIxN α X x y H2 Q
theorem pe_getN {o i : Expr} {pos : Pos} {td ty : TE} (hu : X.A.units + 64 < cLine) (ho : PE X o td) (hi : PE X i ty) (hd : dep α ≤ 8 := by decide) (hs : NoSl i := by exact fun _ _ => rfl) : PE X (.Subscript o i pos) (tGetN α X.ou td ty) := by
  refine ⟨fun pins s σ H Q I h => ?_⟩
  refine subD_of PySem.F.slot_dict_getitem.lookup hs (thn (ho.run pins s σ H _ I h) fun u s1 ⟨x, H1, I1, rx, q1⟩ => thn (hi.run pins s1 σ H1 _ I1 q1) fun iv s2 ⟨y, H2, I2, ry, q2⟩ => ?_)
  obtain ⟨ts, a, v, ⟨b, d, rfl, rfl, hr, hk, ha⟩, hv, q⟩ := q2
  cases rx
  cases ry
  obtain ⟨z, lo, xs, r, m⟩ := dn_h I2 hr hk hd
  obtain ⟨w', hw, rw'⟩ := RelO.some_of (v := v) (o := (atKey xs (key a)).map (·.2)) (by rw [← hv]; exact paired_at r a)
  obtain ⟨p, hp, hp2⟩ := Option.map_eq_some_iff.mp hw
  refine ⟨dnType α I2 hr, wpAny_getItem_heap (room8 (X := X) hu) (key_is I2 ha hd) m hp ?_⟩
  rw [hp2]
  exact ⟨v, H2, I2.tok _, rw', q⟩
/-- d[k] = v, by values -/
def rSetN (X : Ou) : TSet := fun o i v H Q => ∃ (ts : List (En α)) (a : α) (b d : Addr), i = .ref b ∧ o = .ref d ∧ H d = some (DN X.prog X.w d ts) ∧ Keys X.K H ts ∧ Dp X.K H (.ref b) (dat a) ∧ ts.length < sizeLine ∧ Q (upd H d (DN X.prog X.w d (putE ts a b v)))
theorem set_dN (hu : X.A.units + 64 < cLine) (hd : dep α ≤ 8 := by decide) : PSet X (rSetN α X.ou) := by
  intro pins s σ H o i v ov iv u Q I ro ri rv h
  obtain ⟨ts, a, b, d, rfl, rfl, e, hk, ha, hz, q⟩ := h
  cases ro
  cases ri
  obtain ⟨z, lo, xs, r, m⟩ := dn_h I (.inl e) hk hd
  have hl := Paired.length r
  rw [List.length_map] at hl
  refine wpAny_setItem_heap (hsz := by omega) (room8 (X := X) hu) (key_is I ha hd) m fun h' m' hs => ?_
  have := putE_len ts a b v
  exact ⟨_, dn_write I e hs (dn_new (by omega) lo (paired_put r a b rv) m'), q⟩
/-- a comprehension's store -/
theorem dn_dictSet {pins : List (Addr × Obj)} {σ : L2.St} {H : Hp} {s : Shared} {E : Value → Shared → Prop} {Q : Unit → Shared → Prop} {ts : List (En α)} {a : α} {b d : Addr} {v : V} {u : Value} (hu : X.A.units + 64 < cLine) (hd : dep α ≤ 8) (I : Inv X pins σ H s)
    (e : H d = some (DN X.prog X.w d ts)) (hk : Keys X.K H ts) (ha : Dp X.K H (.ref b) (dat a)) (hz : ts.length < sizeLine) (rv : RelV v u) (q : ∀ s', Inv X pins σ (upd H d (DN X.prog X.w d (putE ts a b v))) s' → Q () s') :
    wpAny (model X.prog X.w) X.A (dictSet d (.ref b) u) Q E s := by
  obtain ⟨z, lo, xs, r, m⟩ := dn_h I (.inl e) hk hd
  have hl := Paired.length r
  rw [List.length_map] at hl
  refine wpAny_dictSet_heap (hsz := by omega) (room7 (X := X) hu) (key_is I ha hd) m fun h' m' hs => ?_
  have := putE_len ts a b v
  exact q _ (dn_write I e hs (dn_new (by omega) lo (paired_put r a b rv) m'))
/-- len(d) -/
def rLenN (X : Ou) : List V → Hp → VK → Prop := fun xs H Q => ∃ (d : Addr) (ts : List (En α)), xs = [.ref d] ∧ Rd H d (DN X.prog X.w d ts) ∧ Keys X.K H ts ∧ Q (.int ((ts.length : Nat) : Int)) H
theorem call_lenN (hd : dep α ≤ 8 := by decide) : CallR X (.builtin "len") (rLenN α X.ou) := by
  intro pins s σ H xs us Q I r h
  obtain ⟨d, ts, rfl, hr, hk, q⟩ := h
  rw [Vals.ref1 r]
  obtain ⟨z, lo, xs, rr, m⟩ := dn_h I hr hk hd
  have hl := Paired.length rr
  rw [List.length_map] at hl
  refine call_len_dictH lo m (by rw [sizeLine_eq] at z; omega) ?_
  rw [← hl]
  exact ⟨.int _, H, I.tok _, ⟨_, rfl⟩, q⟩
end
end K26

set_option Elab.async false
set_option linter.all false
set_option maxRecDepth 100000
set_option maxHeartbeats 4000000
/-! sorted of typed data (a list, a dict's keys), in of tuples, list(d), *d, d.get, d.update. -/
namespace K26
open PySem PySem.Spec PyProof.Rows L2
open Ky

/-! ### the sorted list -/
section
variable {α : Type} [Ky α]
def srt (l : List α) : List α := l.mergeSort (PySem.W.dataLe false dat)
theorem srt_perm (l : List α) : (srt l).Perm l := List.mergeSort_perm _ _
theorem srt_len (l : List α) : (srt l).length = l.length := (srt_perm l).length_eq
theorem mem_srt {l : List α} {a : α} : a ∈ srt l ↔ a ∈ l := (srt_perm l).mem_iff
/-- the class can be sorted: pairs, triples; or what is no tuple -/
class So (α : Type) [Ky α] : Prop where
  so : ∀ l : List α, PySem.W.Sortable (l.map dat)
end
instance {α β : Type} [Ky α] [Ky β] : So (α × β) := ⟨fun l => PySem.W.Sortable.tuples fun b => ⟨_, _, rfl⟩⟩
instance {α β γ : Type} [Ky α] [Ky β] [Ky γ] : So (T3 α β γ) := ⟨fun l => PySem.W.Sortable.tuples fun b => ⟨_, _, rfl⟩⟩
instance : So Nat := ⟨fun l => PySem.W.Sortable.others fun b => ⟨nofun, nofun⟩⟩
instance : So Wd := ⟨fun l => PySem.W.Sortable.others fun b => ⟨nofun, nofun⟩⟩
theorem allAlike {α : Type} [Ky α] (l : List α) : PySem.W.AllAlike (l.map dat) := PySem.W.AllAlike.of fun a b => alk a b

section
variable {X : Cx} {pins : List (Addr × Obj)} {σ : L2.St} {H : Hp} {s : Shared}
mutual
theorem dp_reads0 (I : Inv X pins σ H s) : ∀ (k : NestedKey) (v : V) (u : Value), Dp X.K H v k.data → RelV v u → Reads s.heap u k.data []
  | .none, v, u, h, r => by
    cases h
    cases r
    exact .none
  | .num i, v, u, h, r => by
    cases h
    obtain ⟨t, rfl⟩ := r
    exact .int i t
  | .text x, v, u, h, r => by
    cases h
    obtain ⟨t, rfl⟩ := r
    exact .str x t
  | .tup ks, v, u, h, r => by
    rw [NestedKey.data] at h ⊢
    cases h with
    | tup hs ha =>
      cases r
      obtain ⟨its, rv, ⟨o, ho, hc, n, hd⟩, _⟩ := I.tuple hs
      exact .tuple ho hc hd (by simpa using dps_reads0 I ks _ its ha rv)
theorem dps_reads0 (I : Inv X pins σ H s) : ∀ (ks : List NestedKey) (vs : List V) (us : List Value), DpAll X.K H vs (NestedKey.datas ks) → Vals vs us → ReadsAll s.heap us (NestedKey.datas ks) []
  | [], vs, us, h, r => by
    rw [NestedKey.datas] at h ⊢
    cases h
    cases r
    exact .nil
  | k :: ks, vs, us, h, r => by
    rw [NestedKey.datas] at h ⊢
    cases h with
    | cons h1 h2 =>
      cases r with
      | cons r1 r2 => exact .cons (as := []) (bs := []) (dp_reads0 I k _ _ h1 r1) (dps_reads0 I ks _ _ h2 r2)
end
variable {α : Type} [Ky α]
theorem each_of : ∀ {vs : List V} {us : List Value} {l : List α}, DpAll X.K H vs (l.map dat) → Vals vs us → PySem.W.EachIs (fun (u : Value) (b : α) => ∃ v, RelV v u ∧ Dp X.K H v (dat b)) us l
  | _, _, [], h, r => by
    cases h
    cases r
    exact .nil
  | _, _, b :: l, h, r => by
    rw [List.map_cons] at h
    cases h with
    | cons h1 h2 =>
      cases r with
      | cons r1 r2 => exact .cons ⟨_, r1, h1⟩ (each_of h2 r2)
theorem of_each : ∀ {us : List Value} {l : List α}, PySem.W.EachIs (fun (u : Value) (b : α) => ∃ v, RelV v u ∧ Dp X.K H v (dat b)) us l → ∃ vs, Vals vs us ∧ DpAll X.K H vs (l.map dat)
  | _, [], h => by
    cases h
    exact ⟨[], .nil, .nil⟩
  | _, b :: l, h => by
    cases h with
    | cons h1 h2 =>
      obtain ⟨v, r1, d1⟩ := h1
      obtain ⟨vs, r2, d2⟩ := of_each h2
      exact ⟨v :: vs, .cons r1 r2, .cons d1 d2⟩
theorem each_reads (I : Inv X pins σ H s) {us : List Value} {l : List α} (h : PySem.W.EachIs (fun (u : Value) (b : α) => ∃ v, RelV v u ∧ Dp X.K H v (dat b)) us l) : PySem.W.EachIs (fun u b => Reads s.heap u (dat b) []) us l :=
  h.mono fun u b ⟨v, r, d⟩ => dp_reads0 I (key b) v u d r
end

section
variable {X : Cx} (α : Type) [Ky α] [So α]
/-- sorted(list) -/
def rSrtL (X : Ou) : List V → Hp → VK → Prop := fun xs H Q => ∃ (a : Addr) (vs : List V) (l : List α), xs = [.ref a] ∧ SqL X.K H a vs ∧ DpAll X.K H vs (l.map dat) ∧
  ∀ ys p, DpAll X.K H ys ((srt l).map dat) → H p = none → Q (.ref p) (upd H p (.lst ys))
theorem call_srtL (hu : X.A.units + 100 < cLine) (hd : dep α ≤ 60 := by decide) : CallR X (.builtin "sorted") (rSrtL α X.ou) := by
  intro pins s σ H xs us Q I r h
  obtain ⟨a, vs, l, rfl, hs, hv, q⟩ := h
  rw [Vals.ref1 r]
  obtain ⟨its, rv, hl, hz⟩ := I.list hs
  have e := each_of hv rv
  have elen := e.length
  have hll : vs.length = l.length := by rw [dpAll_len hv, List.length_map]
  refine PySem.W.sorted_data (enc := dat) hl.isList e ((each_reads I e).mono fun u b z => ⟨_, z⟩) (allAlike l) (So.so l) (by omega) (fun b _ => ?_) fun out ho eo => ?_
  · have := dat_depth b
    omega
  · obtain ⟨ys, ry, dy⟩ := of_each eo
    obtain ⟨ee, hat⟩ := sortedAll_at s.heap its out.toArray
    have hylen : ys.length = l.length := by rw [dpAll_len dy, List.length_map, List.length_mergeSort]
    have hn : H (s.heap.objs.size + 1) = none := I.hok.fresh (Nat.le_succ _)
    exact ⟨.ref _, _, I.laid (t' := s.toks) (fun b o z => sortedAll_old z) (Nat.le_succ _) (show ObjOk X.prog X.w _ _ _ (.lst ys) from ⟨by omega, out, ee, ry, hat⟩), rfl, q ys _ dy hn⟩
/-- in, over a tuple -/
def rInT (X : Ou) (neg : Bool) : R2 := fun x y H Q => ∃ (l : List α) (a : α), Dp X.K H x (dat a) ∧ Dp X.K H y (.tuple (l.map dat)) ∧ ∀ [DecidableEq α], Q (.bl (if neg then !decide (a ∈ l) else decide (a ∈ l))) H
end
section
variable {X : Cx} (α : Type) [Ky α] [DecidableEq α]
def rInS (X : Ou) (neg : Bool) : R2 := fun x y H Q => ∃ (l : List α) (a : α), Dp X.K H x (dat a) ∧ (Dp X.K H y (.tuple (l.map dat)) ∨ Dp X.K H y (.list (l.map dat))) ∧ Q (.bl (if neg then !decide (a ∈ l) else decide (a ∈ l))) H
theorem room_in' {A : Around} {l : List α} {d : PyData} (hu : A.units + 100 < cLine) (hd : dep α ≤ 60) : A.units + 1 + min (PyData.depthAll (l.map dat)) d.depth < cLine := by
  have := dats_depth l
  have := Nat.min_le_left (PyData.depthAll (l.map dat)) d.depth
  omega
theorem op_inS (hu : X.A.units + 100 < cLine) (hd : dep α ≤ 60 := by decide) : OpR X (compareOp .In) (rInS α X.ou false) := by
  intro pins s σ H x y v u Q I rx ry h
  obtain ⟨l, a, ha, hy, q⟩ := h
  obtain ⟨bs, r2⟩ := Dp.reads I _ x v ha rx
  rcases hy with hy | hy
  · obtain ⟨as, r1⟩ := Dp.reads I _ y u hy ry
    refine SeqAt.in_tuple_reads r1 r2 (dats_lay l) (lay a) (room_in' α hu hd) ?_
    rw [any_dat]
    exact ⟨.bl _, H, I, rfl, q⟩
  · obtain ⟨as, r1⟩ := Dp.reads I _ y u hy ry
    refine SeqAt.in_list_reads r1 r2 (dats_lay l) (lay a) (room_in' α hu hd) ?_
    rw [any_dat]
    exact ⟨.bl _, H, I, rfl, q⟩
theorem op_notInS (hu : X.A.units + 100 < cLine) (hd : dep α ≤ 60 := by decide) : OpR X (compareOp .NotIn) (rInS α X.ou true) := by
  intro pins s σ H x y v u Q I rx ry h
  obtain ⟨l, a, ha, hy, q⟩ := h
  obtain ⟨bs, r2⟩ := Dp.reads I _ x v ha rx
  rcases hy with hy | hy
  · obtain ⟨as, r1⟩ := Dp.reads I _ y u hy ry
    refine SeqAt.notIn_tuple_reads r1 r2 (dats_lay l) (lay a) (room_in' α hu hd) ?_
    rw [any_dat]
    exact ⟨.bl _, H, I, rfl, q⟩
  · obtain ⟨as, r1⟩ := Dp.reads I _ y u hy ry
    refine SeqAt.notIn_list_reads r1 r2 (dats_lay l) (lay a) (room_in' α hu hd) ?_
    rw [any_dat]
    exact ⟨.bl _, H, I, rfl, q⟩
/-- ==, != of data of one type -/
def rEqS (X : Ou) (neg : Bool) : R2 := fun x y H Q => ∃ a b : α, Dp X.K H x (dat a) ∧ Dp X.K H y (dat b) ∧ Q (.bl (if neg then !decide (a = b) else decide (a = b))) H
theorem op_eqS (hu : X.A.units + 64 < cLine) (hd : dep α ≤ 60 := by decide) : OpR X (compareOp .Eq) (rEqS α X.ou false) := by
  intro pins s σ H x y v u Q I rx ry h
  obtain ⟨a, b, ha, hb, q⟩ := h
  refine op_eqD hu pins s σ H x y v u Q I rx ry ⟨_, _, ha, hb, shaped_dat a hd, shaped_dat b hd, ?_⟩
  rw [eqv_dat]
  exact q
theorem op_neS (hu : X.A.units + 64 < cLine) (hd : dep α ≤ 60 := by decide) : OpR X (compareOp .NotEq) (rEqS α X.ou true) := by
  intro pins s σ H x y v u Q I rx ry h
  obtain ⟨a, b, ha, hb, q⟩ := h
  refine op_neD hu pins s σ H x y v u Q I rx ry ⟨_, _, ha, hb, shaped_dat a hd, shaped_dat b hd, ?_⟩
  rw [eqv_dat]
  exact q
/-- ==, != of lists of data -/
def rEqL (X : Ou) (neg : Bool) : R2 := fun x y H Q => ∃ a b : List α, Dp X.K H x (.list (a.map dat)) ∧ Dp X.K H y (.list (b.map dat)) ∧ Q (.bl (if neg then !decide (a = b) else decide (a = b))) H
theorem op_eqL (hu : X.A.units + 64 < cLine) (hd : dep α ≤ 60 := by decide) : OpR X (compareOp .Eq) (rEqL α X.ou false) := by
  intro pins s σ H x y v u Q I rx ry h
  obtain ⟨a, b, ha, hb, q⟩ := h
  refine op_eqD hu pins s σ H x y v u Q I rx ry ⟨_, _, ha, hb, shaped_list a hd, shaped_list b hd, ?_⟩
  rw [show PyData.eqv (.list (a.map dat)) (.list (b.map dat)) = PyData.eqvAll (a.map dat) (b.map dat) by simp only [PyData.eqv], eqvs_dat]
  exact q
theorem op_neL (hu : X.A.units + 64 < cLine) (hd : dep α ≤ 60 := by decide) : OpR X (compareOp .NotEq) (rEqL α X.ou true) := by
  intro pins s σ H x y v u Q I rx ry h
  obtain ⟨a, b, ha, hb, q⟩ := h
  refine op_neD hu pins s σ H x y v u Q I rx ry ⟨_, _, ha, hb, shaped_list a hd, shaped_list b hd, ?_⟩
  rw [show PyData.eqv (.list (a.map dat)) (.list (b.map dat)) = PyData.eqvAll (a.map dat) (b.map dat) by simp only [PyData.eqv], eqvs_dat]
  exact q
end

/-! ### a dict's keys in a row -/
section
variable {X : Cx} {pins : List (Addr × Obj)} {σ : L2.St} {H : Hp} {s : Shared} {α : Type} [Ky α] {d : Addr} {ts : List (En α)}
theorem dn_raw (I : Inv X pins σ H s) (hr : Rd H d (DN X.prog X.w d ts)) : (d == sysModules) = false ∧ ts.length ≤ sizeLine ∧ ∃ es ep, s.heap.DictRaw d es ep ∧ es.size = ts.length ∧ ∀ (i : Nat) (t : En α), ts[i]? = some t → ∃ u : DictEntry, es[i]? = some u ∧ u.key = .ref t.2.1 ∧ RelV t.2.2 u.val := by
  obtain ⟨z, lo, xs, r, o, es, ep, ho, hc, hdat, he, hn⟩ := dn_at I hr
  have l1 : es.size = xs.length := by rw [← Array.length_toList, he, List.length_map]
  have l2 : ts.length = xs.length := by rw [← Paired.length r, List.length_map]
  refine ⟨lo, z, es, ep, ⟨o, ho, hc, hdat⟩, by omega, fun i t ht => ?_⟩
  have hi : i < ts.length := (List.getElem?_eq_some_iff.mp ht).1
  have key : ∀ {ts : List (En α)} {xs : List (NestedKey × Addr × Value)} {i : Nat} {t : En α}, Paired RelE (ts.map keyd) xs → ts[i]? = some t → ∃ x, xs[i]? = some x ∧ RelE (keyd t) x := by
    intro ts
    induction ts with
    | nil => intro xs i t _ h; simp at h
    | cons a ts ih =>
      intro xs i t r h
      rw [List.map_cons] at r
      cases r with
      | @cons p q ps qs h1 h2 =>
        cases i with
        | zero =>
          have e := Option.some.inj (show some a = some t from h)
          subst e
          exact ⟨q, rfl, h1⟩
        | succ i => exact ih (i := i) h2 (by simpa using h)
  obtain ⟨x, hx, h1, h2, h3⟩ := key r ht
  refine ⟨entryOfKey (nestedKind X.prog X.w) x, ?_, ?_, h3⟩
  · rw [← Array.getElem?_toList, he, List.getElem?_map, hx]
    rfl
  · show Value.ref x.2.1 = _
    rw [← h2]
    rfl
def refsOf (ts : List (En α)) : List V := ts.map fun t => V.ref t.2.1
theorem refs_dp {K : PySem.W.Frag} (k : Keys K H ts) : DpAll K H (refsOf ts) ((ts.map (·.1)).map dat) := by
  unfold refsOf
  induction ts with
  | nil => exact .nil
  | cons t ts ih => exact .cons (k t List.mem_cons_self) (ih fun t' h => k t' (List.mem_cons_of_mem _ h))
theorem acc_vals {es : Array DictEntry} {acc : Array Value} (hsz : es.size = ts.length) (he : ∀ (i : Nat) (t : En α), ts[i]? = some t → ∃ u : DictEntry, es[i]? = some u ∧ u.key = .ref t.2.1 ∧ RelV t.2.2 u.val) (it : ItemsOf (fun i v => ∃ hi : i < es.size, v = es[i].key) acc es.size) : Vals (refsOf ts) acc.toList := by
  have hl : acc.toList.length = ts.length := by rw [Array.length_toList, it.1, hsz]
  have key : ∀ (l : List Value) (ts : List (En α)), l.length = ts.length → (∀ (j : Nat) (t : En α), ts[j]? = some t → l[j]? = some (.ref t.2.1)) → Vals (refsOf ts) l := by
    intro l
    induction l with
    | nil =>
      intro ts h _
      have e : ts = [] := List.eq_nil_of_length_eq_zero h.symm
      subst e
      exact .nil
    | cons x l ih =>
      intro ts h k
      cases ts with
      | nil => simp at h
      | cons t ts =>
        have e := k 0 t rfl
        have e2 : x = .ref t.2.1 := Option.some.inj e
        exact .cons e2 (ih ts (by simpa using h) fun j t' h' => by simpa using k (j + 1) t' (by simpa using h'))
  refine key _ _ hl fun j t ht => ?_
  obtain ⟨u, h1, h2, _⟩ := he j t ht
  have hj : j < es.size := (Array.getElem?_eq_some_iff.mp h1).1
  have hj2 : j < acc.size := by rw [it.1]; exact hj
  have h3 := it.2 j acc[j] (Array.getElem?_eq_getElem hj2)
  obtain ⟨_, h3⟩ := h3
  rw [Array.getElem?_toList, Array.getElem?_eq_getElem hj2, h3, ← h2]
  have h4 := (Array.getElem?_eq_some_iff.mp h1).2
  rw [h4]
end
section
variable {X : Cx} (α : Type) [Ky α]
/-- list(d) -/
def rListN (X : Ou) : List V → Hp → VK → Prop := fun xs H Q => ∃ (d : Addr) (ts : List (En α)), xs = [.ref d] ∧ Rd H d (DN X.prog X.w d ts) ∧ ∀ p, H p = none → Q (.ref p) (upd H p (.lst (refsOf ts)))
theorem call_listN (hc : X.calm = true) : CallR X (.type "list") (rListN α X.ou) := by
  intro pins s σ H xs us Q I r h
  obtain ⟨d, ts, rfl, hr, q⟩ := h
  rw [Vals.ref1 r]
  obtain ⟨lo, z, es, ep, hm, hsz, he⟩ := dn_raw I hr
  refine PySem.W.kdl_call (KdlSrc.rawDict (es := es) (ep := ep) lo) (I.ok.hd hc) hm (by omega) fun h' tk acc c k hat it => ?_
  have hz2 : (refsOf ts).length ≤ sizeLine := by rw [refsOf, List.length_map]; exact z
  exact ⟨.ref s.heap.objs.size, _, I.laid (t' := tk) k (Nat.le_refl _) (show ObjOk X.prog X.w _ _ _ (.lst (refsOf ts)) from ⟨hz2, acc.toList, c, acc_vals hsz he it, hat⟩), rfl, q _ (I.hok.fresh (Nat.le_refl _))⟩
/-- *d in a display -/
def tStarN (X : Ou) (te : TE) (t : TA) : TA := fun σ H Q => te σ H fun x H1 => ∃ (d : Addr) (ts : List (En α)), x = V.ref d ∧ Rd H1 d (DN X.prog X.w d ts) ∧ t σ H1 fun ys H2 => Q (refsOf ts ++ ys) H2
theorem pa_starN {e : Expr} {es : List Expr} {p : Pos} {te : TE} {t : TA} (hc : X.calm = true) (he : PE X e te) (hr : PA X es t) (hs : starEach (.Starred e p :: es) X.env = (true, eval e X.env) :: starEach es X.env := by rfl) : PA X (.Starred e p :: es) (tStarN α X.ou te t) := by
  refine ⟨fun pos pins s σ H Q I h => ?_⟩
  refine PySem.W.items_star (thn (he.run pins s σ H _ I h) fun v s1 ⟨y, H1, I1, ry, d, ts, ey, hx, q⟩ => ?_) hs
  subst ey
  obtain rfl : v = Value.ref d := ry
  obtain ⟨lo, z, ets, ep, hm, hsz, he'⟩ := dn_raw I1 hx
  unfold PySem.W.StarOf notIterableAtAll
  refine wpAny_bind (wpAny_specialOf hm.typeIs PySem.F.slot_dict_iter.lookup (wpAny_pure ⟨rfl, ?_⟩))
  refine PySem.W.kdu_collect (KdlSrc.rawDict (es := ets) (ep := ep) lo) (I1.ok.hd hc) hm (by omega) fun h' tk acc k it => ?_
  exact thn (hr.run pos pins _ σ H1 _ (I1.kept k) q) fun ws s3 ⟨vs, H3, I3, r3, q3⟩ => ⟨_, H3, I3, (acc_vals hsz he' it).append r3, q3⟩
/-- sorted(d) -/
def rSrtN (X : Ou) : List V → Hp → VK → Prop := fun xs H Q => ∃ (d : Addr) (ts : List (En α)), xs = [.ref d] ∧ Rd H d (DN X.prog X.w d ts) ∧ Keys X.K H ts ∧
  ∀ ys p, DpAll X.K H ys ((srt (ts.map (·.1))).map dat) → H p = none → Q (.ref p) (upd H p (.lst ys))
theorem call_srtN [So α] (hc : X.calm = true) (hu : X.A.units + 100 < cLine) (hd : dep α ≤ 60 := by decide) : CallR X (.builtin "sorted") (rSrtN α X.ou) := by
  intro pins s σ H xs us Q I r h
  obtain ⟨d, ts, rfl, hr, hk, q⟩ := h
  rw [Vals.ref1 r]
  obtain ⟨lo, z, es, ep, hm, hsz, he⟩ := dn_raw I hr
  refine Calls.call_function_entry kind_sorted plain_sorted entry_sorted (args_sorted1 _) ?_
  unfold Builtin.«sorted»
  refine wpAny_bind (m := checkCount "sorted" 1 1 _) (wpAny_pure ?_)
  refine wpAny_bind (PySem.W.kdu_collect (A := X.A.in1) (KdlSrc.rawDict (es := es) (ep := ep) lo) (I.ok.hd hc) hm (by omega) fun h' tk acc k it => ?_)
  have rv := acc_vals hsz he it
  have hlen : acc.toList.length = ts.length := by
    rw [← rv.length, refsOf, List.length_map]
  have I1 : Inv X pins σ H { s with heap := h', toks := tk } := I.kept k
  refine wpAny_bind (wpAny_newList ?_ (by omega))
  have hoL : (h'.push (seqObj "list" acc.toList.toArray 0)).get? h'.objs.size = some (seqObj "list" acc.toList.toArray 0) := Heap.get?_push_size _ rfl
  have I2 : Inv X pins σ H { s with heap := h'.push (seqObj "list" acc.toList.toArray 0), toks := tk } := I1.kept (t' := tk) fun b o e => Heap.get?_push_of_some _ e
  have ev := each_of (l := ts.map (·.1)) (refs_dp hk) rv
  show wpAny _ _ _ _ _ { s with heap := h'.push (seqObj "list" acc.toList.toArray 0), toks := tk }
  refine wpAny_bind (wpAny_holding (PySem.W.list_sort_data (enc := dat) (bs := ts.map (·.1)) (s := { s with heap := h'.push (seqObj "list" acc.toList.toArray 0), toks := tk }) hoL ev ((each_reads I2 ev).mono fun u b w => ⟨_, w, by simp⟩) (allAlike _) (So.so _) (by rw [List.length_map]; omega) (fun b _ => ?_) fun out ho eo => ?_))
  · have := dat_depth b
    have : X.A.in1.units = X.A.units + 1 := rfl
    omega
  · obtain ⟨ys, ry, dy⟩ := of_each eo
    obtain ⟨e', he'⟩ := sortedHeap_at (vs := acc.toList) (out := out.toArray) hoL
    have hylen : ys.length = ts.length := by rw [dpAll_len dy, List.length_map, List.length_mergeSort, List.length_map]
    refine wpAny_pure ⟨_, rfl, .ref h'.objs.size, upd H h'.objs.size (.lst ys), I1.laid (t' := tk) (fun b u e => ?_) (Nat.le_refl _) (show ObjOk X.prog X.w _ _ _ (.lst ys) from ⟨by omega, out, e', ry, he'⟩), rfl, q ys _ dy (I1.hok.fresh (Nat.le_refl _))⟩
    have hb : b < h'.objs.size := Heap.lt_size e
    rw [sortedHeap_old (Nat.ne_of_lt hb) (by rw [size_push']; exact Nat.lt_succ_of_lt hb)]
    exact Heap.get?_push_of_some _ e
end
end K26

set_option Elab.async false
set_option linter.all false
set_option maxRecDepth 100000
set_option maxHeartbeats 4000000
/-! Walking a dict whose keys are tuples: its keys, its items (the dict locked). -/
namespace K26
open PySem PySem.Spec PyProof.Rows L2
open Ky

section
variable {α : Type} [Ky α]
/-- keys in turn -/
def Itn (P : Program) (w : World) (d : Addr) (o : Obj) (ts : List (En α)) : It :=
  ⟨fun i H => H d = some (.frz o (DN P w d ts)) ∧ i < ts.length, fun i H x H' => H' = H ∧ ∃ t, ts[i]? = some t ∧ x = V.ref t.2.1, fun i H => H d = some (.frz o (DN P w d ts)) ∧ ts.length ≤ i⟩
/-- items in turn -/
def Iim (P : Program) (w : World) (d : Addr) (o : Obj) (ts : List (En α)) : It :=
  ⟨fun i H => H d = some (.frz o (DN P w d ts)) ∧ i < ts.length, fun i H x H' => ∃ T t, ts[i]? = some t ∧ x = .ref T ∧ H T = none ∧ H' = upd H T (.tup [V.ref t.2.1, t.2.2]), fun i H => H d = some (.frz o (DN P w d ts)) ∧ ts.length ≤ i⟩
section
variable {X : Cx} {pins : List (Addr × Obj)} {σ : L2.St} {H : Hp} {s : Shared} {d : Addr} {o : Obj} {ts : List (En α)}
theorem frzN (I : Inv X pins σ H s) (h : H d = some (.frz o (DN X.prog X.w d ts))) :
    (d == sysModules) = false ∧ ∃ es ep, o.data = .dict es ep ∧ s.heap.DictRaw d es ep ∧ es.size = ts.length ∧ ∀ (i : Nat) (t : En α), ts[i]? = some t → ∃ u : DictEntry, es[i]? = some u ∧ u.key = .ref t.2.1 ∧ RelV t.2.2 u.val := by
  obtain ⟨lo, z, es, ep, hm, hsz, he⟩ := dn_raw I (.inr ⟨o, h⟩)
  have ho : s.heap.get? d = some o := (I.hok d _ h).1
  obtain ⟨o', ho', hc, hd⟩ := id hm
  rw [ho] at ho'
  cases ho'
  exact ⟨lo, es, ep, hd, hm, hsz, he⟩
end
theorem turn_N {P : Program} {w : World} {K : PySem.W.Frag} {tg : Expr} {d : Addr} {o : Obj} {ts : List (En α)} {es : Array DictEntry} {ep : Nat} (it : Addr) (hod : o.data = .dict es ep) :
    Turn P w K tg (Itn P w d o ts) [it] it (fun i h => h.IsKeyIter it d i es.size ep) where
  mem := by simp
  obj := fun i h st b hb => by
    have e : b = it := by simpa using hb
    subst e
    obtain ⟨oi, e, c, dd⟩ := st
    exact ⟨oi, e, fun v z => by rw [dd] at z; cases z⟩
  keep := fun i h h' st k => st.at fun oi e => k it (by simp) oi e
  item := by
    intro X hP hw hK hc i pins s σ H E I hf st hg
    subst hP hw hK
    obtain ⟨hd, hi⟩ := hg
    obtain ⟨f0, f1, f2, f3, f4, f5⟩ := hf it (by simp)
    obtain ⟨lo, es', ep', hdt, hm, hsz, he⟩ := frzN I hd
    obtain ⟨rfl, rfl⟩ := dict_ep hod hdt
    obtain ⟨u, hu, hk, _⟩ := he i ts[i] (List.getElem?_eq_getElem hi)
    have hi' : i < es'.size := by omega
    have hue : es'[i] = u := (Array.getElem?_eq_some_iff.mp hu).2
    refine wpAny_pyNext_keys_item_raw st hm hi' fun h' st' sb => ?_
    have I1 : Inv X pins σ H { s with heap := h' } := I.turned (t' := s.toks) (fun b ob hb e => (sb.2 b hb).trans e) f0 f1 f3 f4 f5
    obtain ⟨oi, e, c, dd⟩ := id st'
    refine ⟨_, rfl, go_of (s := { s with heap := h' }) e c dd (by decide) ⟨V.ref ts[i].2.1, H, I1, ?_, ⟨rfl, ts[i], List.getElem?_eq_getElem hi, rfl⟩, st', fun b hb => (hf b hb).1⟩⟩
    show es'[i].key = _
    rw [hue, hk]
  done := by
    intro X hP hw hK hc i pins s σ H E I hf st hg
    subst hP hw hK
    obtain ⟨hd, hi⟩ := hg
    obtain ⟨f0, f1, f2, f3, f4, f5⟩ := hf it (by simp)
    obtain ⟨lo, es', ep', hdt, hm, hsz, he⟩ := frzN I hd
    obtain ⟨rfl, rfl⟩ := dict_ep hod hdt
    exact wpAny_pyNext_keys_end_raw (I.ok.hd hc) st hm (by omega) fun h' eb => ⟨rfl, I.turned (t' := s.toks) (fun b ob hb e => eb b ob hb e) f0 f1 f3 f4 f5⟩
  self := fun A i s Q E st h => by
    refine wpAny_pyIter_slot st.typeIs F.slot_dict_keyiterator_iter (wpAny_call_entry F.slot_dict_keyiterator_iter st.typeIs F.entry_dict_keyiterator_iter ?_ (F.args_dict_keyiterator_iter_1 _))
    show wpAny _ _ (ret (.ref it)) _ _ s
    exact wpAny_pure ⟨_, rfl, "dict_keyiterator", _, st.typeIs, F.slot_dict_keyiterator_next.lookup, h⟩
theorem turn_I {P : Program} {w : World} {K : PySem.W.Frag} {elts : List Expr} {kk : Nat} {tpos : Pos} {d : Addr} {o : Obj} {ts : List (En α)} {es : Array DictEntry} {ep : Nat} (it : Addr) (hod : o.data = .dict es ep) :
    Turn P w K (.Tuple elts kk tpos) (Iim P w d o ts) [it] it (fun i h => ∃ ok ov, IsItemIter h it d i es.size ep ok ov) where
  mem := by simp
  obj := fun i h st b hb => by
    have e : b = it := by simpa using hb
    subst e
    obtain ⟨ok, ov, e⟩ := st
    exact ⟨_, e, fun v z => nomatch z⟩
  keep := fun i h h' st k => let ⟨ok, ov, e⟩ := st; ⟨ok, ov, k it (by simp) _ e⟩
  item := by
    intro X hP hw hK hc i pins s σ H E I hf st hg
    subst hP hw hK
    obtain ⟨hd, hi⟩ := hg
    obtain ⟨lo, es', ep', hdt, hm, hsz, hent⟩ := frzN I hd
    obtain ⟨rfl, rfl⟩ := dict_ep hod hdt
    obtain ⟨u, hu, hk, rv⟩ := hent i ts[i] (List.getElem?_eq_getElem hi)
    have hi' : i < es'.size := by omega
    have hue : es'[i] = u := (Array.getElem?_eq_some_iff.mp hu).2
    obtain ⟨ok, ov, he⟩ := st
    have hlt : it < s.heap.objs.size := Heap.lt_size he
    refine wpAny_pyNext_items_item_raw he hm hi' fun h' ho hT hz hkp => ?_
    refine ⟨_, rfl, wpAny_letOwnedTupleGo_items (s := { s with heap := h' }) ho fun h'' he' sb => ?_⟩
    have hT2 : h''.get? s.heap.objs.size = some { cls := .type "tuple", data := .seq #[es'[i].key, es'[i].val] } := (sb.2 _ (Nat.ne_of_gt hlt)).trans hT
    rw [hue, hk] at hT2
    have new : ObjOk X.prog X.w (upd H s.heap.objs.size (.tup [V.ref ts[i].2.1, ts[i].2.2])) h'' s.heap.objs.size (.tup [V.ref ts[i].2.1, ts[i].2.2]) :=
      ⟨by show 2 ≤ sizeLine; decide, [.ref ts[i].2.1, u.val], .cons rfl (.cons rv .nil), ⟨_, hT2, rfl, _, rfl⟩⟩
    have I1 : Inv X pins σ (upd H s.heap.objs.size (.tup [V.ref ts[i].2.1, ts[i].2.2])) { s with heap := h'' } :=
      I.turnedNew (t' := s.toks) (ch := [it]) (fun b ob hb e => (sb.2 b (by simpa using hb)).trans (hkp b ob (by simpa using hb) e)) hf (Nat.le_refl _) new
    refine ⟨.ref s.heap.objs.size, _, I1, rfl, ⟨_, ts[i], List.getElem?_eq_getElem hi, rfl, I.hok.fresh (Nat.le_refl _), rfl⟩, ⟨_, _, he'⟩, fun b hb => ?_⟩
    have e : b = it := by simpa using hb
    rw [e, upd_ne (Nat.ne_of_lt hlt)]
    exact (hf it (by simp)).1
  done := by
    intro X hP hw hK hc i pins s σ H E I hf st hg
    subst hP hw hK
    obtain ⟨hd, hi⟩ := hg
    obtain ⟨f0, f1, f2, f3, f4, f5⟩ := hf it (by simp)
    obtain ⟨lo, es', ep', hdt, hm, hsz, hent⟩ := frzN I hd
    obtain ⟨rfl, rfl⟩ := dict_ep hod hdt
    obtain ⟨ok, ov, he⟩ := st
    exact wpAny_pyNext_items_end_raw (I.ok.hd hc) he hm (by omega) fun h' eb => ⟨rfl, I.turned (t' := s.toks) (fun b ob hb e => eb b ob hb e) f0 f1 f3 f4 f5⟩
  self := fun A i s Q E st h => let ⟨_, _, e⟩ := st; PySem.W.kcp_self e h
end
section
variable {X : Cx} (α : Type) [Ky α] {tg e : Expr} {td : TE} {apos cpos : Pos}
def iN (X : Ou) (td : TE) : TI := fun σ H R => td σ H fun x H1 => ∃ (d : Addr) (o : Obj) (ts : List (En α)), x = V.ref d ∧ H1 d = some (.frz o (DN X.prog X.w d ts)) ∧ R (Itn X.prog X.w d o ts) H1
def iIm (X : Ou) (td : TE) : TI := fun σ H R => td σ H fun x H1 => ∃ (d : Addr) (o : Obj) (ts : List (En α)), x = V.ref d ∧ H1 d = some (.frz o (DN X.prog X.w d ts)) ∧ R (Iim X.prog X.w d o ts) H1
theorem pi_N (he : PE X e td) : PI X tg e (iN α X.ou td) := by
  refine ⟨fun pins s σ H R I h => ?_⟩
  refine thn (he.run pins s σ H _ I h) fun u s1 ⟨x, H1, I1, rx, d, o, ts, ex, hd, q⟩ => ?_
  subst ex
  obtain rfl : u = Value.ref d := rx
  obtain ⟨lo, es, ep, hdt, hm, hsz, hent⟩ := frzN I1 hd
  exact wpAny_pyIter_dict_raw lo hm (pi_one (tk := s1.toks) I1 _ (turn_N _ hdt) ⟨_, Heap.get?_push_size _ rfl, rfl, rfl⟩ q)
theorem pi_Im {elts : List Expr} {kk : Nat} {tpos : Pos} (he : PE X e td) (hbase : attributeBase e "items" X.env (eval e X.env) = eval e X.env := by rfl) (hline : (apos.endLine == cpos.line) = true := by rfl) :
    PI X (.Tuple elts kk tpos) (.Call (.Attribute e "items" apos) [] [] cpos) (iIm α X.ou td) := by
  refine ⟨fun pins s σ H R I h => ?_⟩
  refine wpAny_Call_method (T := "dict") (id := "dict.items") hbase rfl hline F.plainAttrs_dict F.slot_dict_items F.type_dict_items (thn (he.run pins s σ H _ I h) fun u s1 ⟨x, H1, I1, rx, d, o, ts, ex, hd, q⟩ => ?_)
  subst ex
  obtain rfl : u = Value.ref d := rx
  obtain ⟨lo, es, ep, hdt, hm, hsz, hent⟩ := frzN I1 hd
  obtain ⟨o', ho, hc, _⟩ := id hm
  have ho' : s1.heap.get? d = some o := (I1.hok d _ hd).1
  refine ⟨hm.typeIs, fun a e => by cases e; exact ⟨o', ho, hc.2.1⟩, ?_⟩
  have I2 : Inv X pins σ H1 { s1 with heap := s1.heap.push { cls := .type "dict_items", data := .fields #[.ref d] } } := I1.kept (t' := s1.toks) fun b ob q => Heap.get?_push_of_some _ q
  have fin : wpAny (model X.prog X.w) X.A (pyIter (.ref s1.heap.objs.size)) (PIE X pins σ (.Tuple elts kk tpos) R) X.xe { s1 with heap := s1.heap.push { cls := .type "dict_items", data := .fields #[.ref d] } } :=
    wpAny_pyIter_items_raw ⟨_, Heap.get?_push_size _ rfl, rfl, rfl⟩ (hm.push _) (pi_one (tk := s1.toks) I2 _ (turn_I _ hdt) ⟨.none, .none, Heap.get?_push_size _ rfl⟩ q)
  show wpAny _ _ (callWith cpos (.builtin "dict.items") [.ref d] [] []) _ X.xe s1
  exact method_meetsIn F.slot_dict_items F.entry_dict_items rfl (PySem.evalArgs_none ⟨rfl, hm.typeIs, F.args_dict_items_1 _, _, meets_dict_items_raw d lo, ⟨⟨_, _, hm⟩, fin⟩⟩)
end
section
variable {α : Type} [Ky α] {P : Program} {w : World} {d : Addr} {o : Obj} {ts : List (En α)}
theorem walk_N : Walk (Itn P w d o ts) ts.length (fun H => H d = some (.frz o (DN P w d ts))) (fun i H x H' => H' = H ∧ ∃ t, ts[i]? = some t ∧ x = V.ref t.2.1) :=
  ⟨fun _ _ hi q => ⟨q, hi⟩, fun _ q => ⟨q, Nat.le_refl _⟩, fun _ _ _ _ _ _ y => y⟩
theorem walk_Im : Walk (Iim P w d o ts) ts.length (fun H => H d = some (.frz o (DN P w d ts))) (fun i H x H' => ∃ T t, ts[i]? = some t ∧ x = .ref T ∧ H T = none ∧ H' = upd H T (.tup [V.ref t.2.1, t.2.2])) :=
  ⟨fun _ _ hi q => ⟨q, hi⟩, fun _ q => ⟨q, Nat.le_refl _⟩, fun _ _ _ _ _ _ y => y⟩
end
end K26

set_option Elab.async false
set_option linter.all false
set_option maxRecDepth 100000
set_option maxHeartbeats 4000000
/-! Methods of dicts with tuple keys (get, update), dict comprehensions into them, update of int-keyed dicts. -/
namespace K26
open PySem PySem.Spec PyProof.Rows L2
open Ky

section
variable {X : Cx} (α : Type) [Ky α] [DecidableEq α] {o e : Expr} {es : List Expr} {to : TE} {t : TA} {name : Str} {apos cpos : Pos} {id : String} {r : V → List V → Hp → VK → Prop}
/-- a method of such a dict -/
def tBMN (X : Ou) (r : V → List V → Hp → VK → Prop) (to : TE) (t : TA) : TE := fun σ H Q => to σ H fun x H1 => (∃ (d : Addr) (ts : List (En α)), x = V.ref d ∧ Rd H1 d (DN X.prog X.w d ts)) ∧ t σ H1 fun xs H2 => r x xs H2 Q
theorem pe_bmN (slot : Slot "dict" name id) (hty : typeOf (.builtin id) = pure (.type "method_descriptor")) (hm : MtR X id r) (ho : PE X o to) (ha : PA X (e :: es) t)
    (hbase : attributeBase o name X.env (eval o X.env) = eval o X.env := by rfl)
    (hfew : ((backTo cpos (starEach (e :: es) X.env)).all (fun x => !x.1) && (backToKw cpos (keywordEach [] X.env)).all (fun x => x.1.isSome)
      && decide ((e :: es).length + ([] : List Keyword).length + (if ([] : List Keyword).isEmpty then 0 else 1) < 30)) = true := by rfl)
    (hline : (apos.endLine == cpos.line) = true := by rfl) (hs : starEach (e :: es) X.env = (false, eval e X.env) :: starEach es X.env := by rfl) (hplain : (backTo cpos (starEach es X.env)).any (·.1) = false := by rfl) :
    PE X (.Call (.Attribute o name apos) (e :: es) [] cpos) (tBMN α X.ou r to t) := by
  refine ⟨fun pins s σ H Q I h => ?_⟩
  refine wpAny_Call_method_late hbase hfew hline rfl (thn (ho.run pins s σ H _ I h) fun v s1 ⟨x, H1, I1, r1, ⟨d, ts, ex, hr⟩, q1⟩ => ?_)
  subst ex
  obtain rfl : v = Value.ref d := r1
  obtain ⟨_, _, _, _, ob, _, _, ob1, ob2, _⟩ := dn_at I1 hr
  refine ⟨"dict", id, F.plainAttrs_dict, slot, hty, dnType α I1 hr, fun a q => by cases q; exact ⟨ob, ob1, ob2.2.1⟩, ?_⟩
  have hA := ha.run cpos pins s1 σ H1 _ I1 q1
  rw [hs] at hA ⊢
  refine Calls.callWith_builtin (by show (false || (backTo cpos (starEach es X.env)).any (·.1)) = false; rw [hplain] <;> rfl) (Calls.evalArgs_plain ?_)
  exact thn hA fun us s2 ⟨vs, H2, I2, r2, q2⟩ => hm pins s2 σ H2 (.ref d) vs _ us Q I2 rfl r2 q2
end

section
variable {α : Type} [DecidableEq α]
def putAllE (ts more : List (En α)) : List (En α) := more.foldl (fun acc t => putE acc t.1 t.2.1 t.2.2) ts
theorem putAllE_len : ∀ (more ts : List (En α)), (putAllE ts more).length ≤ ts.length + more.length
  | [], ts => Nat.le_refl _
  | t :: more, ts => by
    have h1 := putAllE_len more (putE ts t.1 t.2.1 t.2.2)
    have h2 := putE_len ts t.1 t.2.1 t.2.2
    show (putAllE (putE ts t.1 t.2.1 t.2.2) more).length ≤ _
    rw [List.length_cons]
    omega
theorem mem_putE {ts : List (En α)} {a c : α} {b : Addr} {v : V} : c ∈ (putE ts a b v).map (·.1) ↔ c ∈ ts.map (·.1) ∨ c = a := by
  rw [putE_keys]
  split
  · rename_i h
    exact ⟨.inl, fun z => z.elim (fun y => y) fun e => e ▸ h⟩
  · simp
theorem mem_putAllE {c : α} : ∀ {more ts : List (En α)}, c ∈ (putAllE ts more).map (·.1) ↔ c ∈ ts.map (·.1) ∨ c ∈ more.map (·.1)
  | [], ts => by simp [putAllE]
  | t :: more, ts => by
    show c ∈ (putAllE (putE ts t.1 t.2.1 t.2.2) more).map (·.1) ↔ _
    rw [mem_putAllE, mem_putE, List.map_cons, List.mem_cons, or_assoc]
/-- whose tuple an entry has -/
theorem putE_from {ts : List (En α)} {a : α} {b : Addr} {v : V} {t : En α} (h : t ∈ putE ts a b v) : (∃ t' ∈ ts, t'.1 = t.1 ∧ t'.2.1 = t.2.1) ∨ (t.1 = a ∧ t.2.1 = b) := by
  unfold putE at h
  split at h
  · obtain ⟨t', h1, h2⟩ := List.mem_map.mp h
    subst h2
    refine .inl ⟨t', h1, ?_⟩
    split <;> exact ⟨rfl, rfl⟩
  · rcases List.mem_append.mp h with h | h
    · exact .inl ⟨t, h, rfl, rfl⟩
    · have e := List.mem_singleton.mp h
      subst e
      exact .inr ⟨rfl, rfl⟩
end
theorem Keys.put {α : Type} [Ky α] [DecidableEq α] {K : PySem.W.Frag} {H : Hp} {ts : List (En α)} (k : Keys K H ts) {a : α} {b : Addr} {v : V} (h : Dp K H (.ref b) (dat a)) : Keys K H (putE ts a b v) := fun t ht => by
  rcases putE_from ht with ⟨t', h1, h2, h3⟩ | ⟨h2, h3⟩
  · rw [← h2, ← h3]
    exact k t' h1
  · rw [h2, h3]
    exact h
theorem Keys.putAll {α : Type} [Ky α] [DecidableEq α] {K : PySem.W.Frag} {H : Hp} : ∀ {more ts : List (En α)}, Keys K H ts → Keys K H more → Keys K H (putAllE ts more)
  | [], _, k, _ => k
  | t :: more, ts, k, m => Keys.putAll (more := more) (ts := putE ts t.1 t.2.1 t.2.2) (k.put (v := t.2.2) (m t List.mem_cons_self)) fun t' h => m t' (List.mem_cons_of_mem _ h)
theorem Keys.nil {α : Type} [Ky α] {K : PySem.W.Frag} {H : Hp} : Keys (α := α) K H [] := fun t h => by cases h

section
variable {X : Cx} (α : Type) [Ky α] [DecidableEq α]
/-- d.get(k, x) -/
def rGetD (X : Ou) : V → List V → Hp → VK → Prop := fun x xs H Q => ∃ (ts : List (En α)) (a : α) (y dflt : V), xs = [y, dflt] ∧ LkN X H y x ts a ∧ Q ((atE ts a).getD dflt) H
theorem mt_getN (hu : X.A.units + 64 < cLine) (hd : dep α ≤ 8 := by decide) : MtR X "dict.get" (rGetD α X.ou) := by
  intro pins s σ H x xs v us Q I rx rr h
  obtain ⟨ts, a, y, dflt, rfl, ⟨b, d, rfl, rfl, hr, hk, ha⟩, q⟩ := h
  obtain ⟨u1, u2, rfl, r1, r2⟩ := Vals.two rr
  obtain rfl : v = Value.ref d := rx
  obtain rfl : u1 = Value.ref b := r1
  obtain ⟨z, lo, xs, r, m⟩ := dn_h I hr hk hd
  refine call_meetsIn F.slot_dict_get (dnType α I hr) F.entry_dict_get (F.args_dict_get_3 _ _ _) (meetsH_dict_get_default (nestedKind X.prog X.w) d b lo u2) ⟨room8 (X := X) hu, key a, xs, key_is I ha hd, m, ?_⟩
  have hp := paired_at r a
  refine ⟨_, H, I.tok _, ?_, q⟩
  cases e : atE ts a with
  | none => rw [e] at hp; rw [RelO.none_of hp]; exact r2
  | some w' =>
    rw [e] at hp
    obtain ⟨w'', hw, rw'⟩ := RelO.some_of (v := w') hp
    rw [hw]
    exact rw'
/-- d.update(d2) -/
def rUpdN (X : Ou) : V → List V → Hp → VK → Prop := fun x xs H Q => ∃ (ts more : List (En α)) (d o : Addr), x = .ref d ∧ xs = [.ref o] ∧ d ≠ o ∧ H d = some (DN X.prog X.w d ts) ∧ Rd H o (DN X.prog X.w o more) ∧ Keys X.K H ts ∧ Keys X.K H more ∧
  (more.map fun t => (key t.1).hash X.w).Nodup ∧ ts.length + more.length ≤ sizeLine ∧ Q .non (upd H d (DN X.prog X.w d (putAllE ts more)))
theorem paired_all {more : List (En α)} : ∀ {ts : List (En α)} {ys xs : List (NestedKey × Addr × Value)}, Paired RelE (more.map keyd) ys → Paired RelE (ts.map keyd) xs → Paired RelE ((putAllE ts more).map keyd) (storedAllH xs ys) := by
  induction more with
  | nil =>
    intro ts ys xs r1 r2
    cases r1
    exact r2
  | cons t more ih =>
    intro ts ys xs r1 r2
    rw [List.map_cons] at r1
    cases r1 with
    | @cons p q ps qs h k =>
      obtain ⟨h1, h2, h3⟩ := h
      have h1' : key t.1 = q.1 := h1
      have h2' : t.2.1 = q.2.1 := h2
      have := paired_put r2 t.1 t.2.1 (v := t.2.2) (u := q.2.2) h3
      rw [h1'] at this
      show Paired RelE ((putAllE (putE ts t.1 t.2.1 t.2.2) more).map keyd) (storedAllH (storedH xs q.1 q.2.1 q.2.2) qs)
      rw [← h2']
      exact ih k this
theorem mt_updN (hT : ∀ a : α, ∃ ks, key a = .tup ks) (hu : X.A.units + 64 < cLine) (hd : dep α ≤ 8 := by decide) : MtR X "dict.update" (rUpdN α X.ou) := by
  intro pins s σ H x xs v us Q I rx rr h
  obtain ⟨ts, more, d, o, rfl, rfl, hne, e, hr, hk, hk2, hh, hz, q⟩ := h
  obtain ⟨u1, rfl, r1⟩ := Vals.one rr
  obtain rfl : v = Value.ref d := rx
  obtain rfl : u1 = Value.ref o := r1
  obtain ⟨z, lo, xs, r, m⟩ := dn_h I (.inl e) hk hd
  obtain ⟨z2, lo2, ys, r2, m2⟩ := dn_h I hr hk2 hd
  have l1 := Paired.length r
  have l2 := Paired.length r2
  rw [List.length_map] at l1 l2
  have typed : ∀ {l : List (En α)} {ms : List (NestedKey × Addr × Value)}, Keys X.K H l → Paired RelE (l.map keyd) ms → ∀ p ∈ ms, s.TypeIs (.ref p.2.1) "tuple" := by
    intro l
    induction l with
    | nil =>
      intro ms _ r p hp
      cases r
      cases hp
    | cons t l ih =>
      intro ms k r p hp
      rw [List.map_cons] at r
      cases r with
      | @cons p' q' ps qs hq tt =>
        rcases List.mem_cons.mp hp with e | hp
        · obtain ⟨h1, h2, _⟩ := hq
          have h2' : t.2.1 = q'.2.1 := h2
          rw [e, ← h2']
          have dt := k t List.mem_cons_self
          obtain ⟨ks, eks⟩ := hT t.1
          unfold dat at dt
          rw [eks, NestedKey.data] at dt
          cases dt with
          | tup hs _ =>
            obtain ⟨_, _, ⟨ob, ho, hc, _⟩, _⟩ := I.tuple hs
            exact ⟨ob, ho, hc⟩
        · exact ih (fun t' ht => k t' (List.mem_cons_of_mem _ ht)) tt p hp
  have hash : ys.map (fun x => (nestedKind X.prog X.w).hash x.1) = more.map fun t => (key t.1).hash X.w := by
    have := paired_keys r2
    have e2 : ys.map (fun x => (nestedKind X.prog X.w).hash x.1) = (ys.map (·.1)).map (fun k => k.hash X.w) := by rw [List.map_map]; rfl
    rw [e2, ← this, List.map_map]
    rfl
  refine call_update_dictH (room8 (X := X) hu) hne lo2 m m2 (.inr ⟨typed hk2 r2, by rw [hash]; exact hh⟩) (by omega) fun h' m' _ hs => ?_
  have := putAllE_len more ts
  exact ⟨.non, _, dn_write I e hs (dn_new (by omega) lo (paired_all α r2 r) m'), rfl, q⟩
end

/-! ### update of a dict with int or text keys -/
section
variable {X : Cx}
def rUpdK : V → List V → Hp → VK → Prop := fun x xs H Q => ∃ (kvs more : List (Key × V)) (d o : Addr), x = .ref d ∧ xs = [.ref o] ∧ H d = some (.dK kvs) ∧ H o = some (.dK more) ∧ kvs.length + more.length ≤ sizeLine ∧ (d = o → Q .non H) ∧ (d ≠ o → Q .non (upd H d (.dK (mergeK kvs more))))
theorem mt_updK : MtR X "dict.update" rUpdK := by
  intro pins s σ H x xs v us Q I rx rr h
  obtain ⟨kvs, more, d, o, rfl, rfl, e, e2, hz, q1, q2⟩ := h
  obtain ⟨u1, rfl, r1⟩ := Vals.one rr
  obtain rfl : v = Value.ref d := rx
  obtain rfl : u1 = Value.ref o := r1
  obtain ⟨z, lo, vs, rel, dd⟩ := dk_of I.hok e
  obtain ⟨z2, lo2, vs2, rel2, dd2⟩ := dk_of I.hok e2
  by_cases hne : d = o
  · subst hne
    refine call_meetsIn F.slot_dict_update dd.typeIs F.entry_dict_update (F.args_dict_update_2 _ _)
      (S := fun A' R s' => A' = X.A ∧ s' = s ∧ R (.ok (.ret .none)) s) (fun A' R s' hS => ?_) ⟨rfl, rfl, ⟨.non, H, I, rfl, q1 rfl⟩⟩
    obtain ⟨rfl, rfl, hq⟩ := hS
    refine meets_dict_update_arg dd.typeIs ?_
    unfold Builtin.Dict.updateFrom
    refine wpAny_bind (wpAny_typeOf dd.typeIs ?_)
    rw [if_neg (by decide)]
    refine wpAny_bind ?_
    unfold Builtin.Dict.merge
    refine wpAny_bind ?_
    unfold Builtin.Dict.readDirectly
    refine wpAny_bind (wpAny_isInstance dd.typeIs isSubtype_dict_dict ?_)
    simp only [Bool.not_true, Bool.false_eq_true, if_false]
    refine wpAny_bind (wpAny_specialOf dd.typeIs F.slot_dict_iter.lookup (wpAny_pure ?_))
    simp only [beq_self_eq_true, if_true]
    refine wpAny_bind (wpAny_pure ?_)
    unfold Builtin.Dict.mergeDict
    rw [if_pos (beq_self_eq_true d)]
    refine wpAny_bind (wpAny_rule ?_)
    refine wpAny_pure ?_
    show wpAny _ _ (Builtin.Dict.addKeywords d [] >>= _) _ _ _
    exact wpAny_bind (wpAny_pure (wpAny_pure hq))
  · refine call_meetsIn F.slot_dict_update dd.typeIs F.entry_dict_update (F.args_dict_update_2 _ _) (meets_dict_update (mixKind X.prog X.w) d o hne lo2)
      ⟨vs, vs2, dd, dd2, by rw [← rel.length, ← rel2.length]; exact hz, fun h' m' _ hs => ?_⟩
    have := length_mergeK more kvs
    have he : ∃ q, h'.get? d = some q := let ⟨q, _, _, hq, _⟩ := m'; ⟨q, hq⟩
    exact ⟨.non, _, d_write (t' := s.toks) I (by rw [e]; exact True.intro) hs he (dk_new (by omega) lo (rel2.merge rel) m'), rfl, q2 hne⟩
end
end K26

set_option Elab.async false
set_option linter.all false
set_option maxRecDepth 100000
set_option maxHeartbeats 4000000
/-! Dict comprehensions, whatever the kind of keys: what is stored is a parameter. -/
namespace K26
open PySem PySem.Spec PyProof.Rows L2
open Ky

/-- a kind of dict for a comprehension: how it begins, what a store asks and does -/
structure Kd (P : Program) (w : World) (K : PySem.W.Frag) where
  o0 : Addr → HO
  st : Addr → V → V → Hp → (Hp → Prop) → Prop
  mut0 : ∀ (h : Heap) (H : Hp), sysModules < h.objs.size → ObjOk P w H (h.push { cls := .type "dict", data := .dict #[] }) h.objs.size (o0 h.objs.size)
  put : ∀ (X : Cx), X.prog = P → X.w = w → X.K = K → X.A.units + 64 < cLine → ∀ (pins : List (Addr × Obj)) (σ : L2.St) (H : Hp) (s : Shared) (D : Addr) (y z : V) (u r : Value) (N : Hp → Prop) (E : Value → Shared → Prop) (Q : Unit → Shared → Prop), Inv X pins σ H s → RelV y u → RelV z r → st D y z H N →
    (∀ s' H', Inv X pins σ H' s' → N H' → Q () s') → wpAny (model X.prog X.w) X.A (dictSet D u r) Q E s
/-- {k: v for target in iter if ..} -/
def tDcG {P : Program} {w : World} {K : PySem.W.Frag} (kd : Kd P w K) (wi : TI) (g : TG) (tt : TT) (tk tv : TE) (vs : List Nat) : TE := fun σ H Q => wi σ H fun J H1 => ∀ D, H1 D = none → ∃ W : Nat → Nat → Hp → Prop, (∃ m, W 0 m (upd H1 D (kd.o0 D))) ∧ ∀ i m H, W i m H →
  (J.stop i H ∧ Q (.ref D) H) ∨ (J.go i H ∧ ∃ Nx : Hp → Prop, (∀ H', Nx H' → ∃ m', m' < m ∧ W (i + 1) m' H') ∧ ∀ x H', J.yld i H x H' → g x (wipe σ vs) H' fun σ2 H2 => wipe σ2 vs = wipe σ vs ∧ tt σ2 H2 fun b H3 =>
    if b = true then tk σ2 H3 fun y H4 => tv σ2 H4 fun z H5 => kd.st D y z H5 Nx else Nx H3)
section
variable {X : Cx}
theorem pe_dcG {kx vx tg iter : Expr} {ifs : List Expr} {scope : Scope} {own : List (Str × Nat)} {pos : Pos} {wi : TI} {g : TG} {tt : TT} {tk tv : TE} (kd : Kd X.prog X.w X.K) (hu : X.A.units + 64 < cLine) (hc : X.calm = true) (hN : X.N.Nodup) (hi : PI X tg iter wi) (ok : BlkOk X.N X.env.scope scope own)
    (hg : ∀ (s : Shared) (H : Hp) (C : Addr) (cl : List (Str × Addr)) (fp : List Addr), PG (X.blk s H scope (compEnvC scope cl C X.env) fp) tg g)
    (ht : ∀ (s : Shared) (H : Hp) (C : Addr) (cl : List (Str × Addr)) (fp : List Addr), PTs (X.blk s H scope (compEnvC scope cl C X.env) fp) ifs tt)
    (hk : ∀ (s : Shared) (H : Hp) (C : Addr) (cl : List (Str × Addr)) (fp : List Addr), PE (X.blk s H scope (compEnvC scope cl C X.env) fp) kx tk)
    (he : ∀ (s : Shared) (H : Hp) (C : Addr) (cl : List (Str × Addr)) (fp : List Addr), PE (X.blk s H scope (compEnvC scope cl C X.env) fp) vx tv)
    (hs : ∀ x, foldedSetIterable iter X.env x = pure x := by intro _; rfl) :
    PE X (.DictComp kx vx [⟨tg, iter, ifs, 0⟩] scope pos) (tDcG kd wi g tt tk tv (own.map (·.2))) := by
  refine ⟨fun pins s σ H Q I h => ?_⟩
  rw [arm_eval_DictComp]
  have hfree : ∀ y ∈ scope.names, y.2 = .free → ∃ c, X.env.cells.lookup y.1 = some c := fun y hy e => (ok.free y hy e).elim (fun k => I.ok.has _ (.inl k)) fun k => I.ok.has _ (.inr k)
  refine wpAny_comprehension_free (use := none) rfl hs (closure_ok hfree) ok.kind (fun y hy e => by rw [ok.uniq y hy, e]) (thn (hi.run pins s σ H _ I h) fun xv s1 hx => thn hx fun itv s2 h2 => ?_)
  obtain ⟨it, fp, tn, J, H2, e, I2, T, st2, f2, q⟩ := h2
  subst e
  refine wpAny_newObj_type (newEnv_comp ?_)
  generalize hD : s2.heap.objs.size = D
  have hDn : H2 D = none := I2.hok.fresh (Nat.le_of_eq hD)
  obtain ⟨W, ⟨m0, w0⟩, turn⟩ := q D hDn
  generalize hs3 : ({ s2 with heap := s2.heap.push { cls := .type "dict", data := .dict #[] } } : Shared) = s3
  have I3 : Inv X pins σ (upd H2 D (kd.o0 D)) s3 := by
    rw [← hs3]
    refine I2.laid (t' := s2.toks) (fun b o e => Heap.get?_push_of_some _ e) (Nat.le_of_eq hD) ?_
    rw [← hD]
    exact kd.mut0 s2.heap _ I2.big
  have h3 : s3.heap = s2.heap.push { cls := .type "dict", data := .dict #[] } := by rw [← hs3]
  have f3 : ∀ b ∈ fp, FpOk X pins (upd H2 D (kd.o0 D)) b ∧ b < s3.heap.objs.size := fun b hb => by
    obtain ⟨o, e, _⟩ := T.obj _ _ st2 b hb
    have hlt := Heap.lt_size e
    refine ⟨⟨?_, (f2 b hb).2⟩, by rw [h3, Heap.size_push]; exact Nat.lt_succ_of_lt hlt⟩
    rw [upd_ne (by rw [← hD]; exact Nat.ne_of_lt hlt)]
    exact (f2 b hb).1
  have st3 : tn 0 s3.heap := T.keep _ _ _ st2 fun b _ o e => by rw [h3]; exact Heap.get?_push_of_some _ e
  have I4 := block_start I3 ok hN f3
  have pg := hg s3 (upd H2 D (kd.o0 D)) s3.heap.objs.size (cellsFrom (s3.heap.objs.size + 1) scope.names (cloFrom X.env.cells scope.names [])) fp
  have pt := ht s3 (upd H2 D (kd.o0 D)) s3.heap.objs.size (cellsFrom (s3.heap.objs.size + 1) scope.names (cloFrom X.env.cells scope.names [])) fp
  have pk := hk s3 (upd H2 D (kd.o0 D)) s3.heap.objs.size (cellsFrom (s3.heap.objs.size + 1) scope.names (cloFrom X.env.cells scope.names [])) fp
  have pe := he s3 (upd H2 D (kd.o0 D)) s3.heap.objs.size (cellsFrom (s3.heap.objs.size + 1) scope.names (cloFrom X.env.cells scope.names [])) fp
  generalize hce : compEnvC scope (cellsFrom (s3.heap.objs.size + 1) scope.names (cloFrom X.env.cells scope.names [])) s3.heap.objs.size X.env = ce at I4 pg pt pk pe
  have ce' : compEnvC scope (cellsFrom (s3.heap.objs.size + 1) scope.names (cloFrom X.env.cells scope.names [])) s3.heap.objs.size X.env = ce := hce
  show codeAny _ _ (.compStart (.DictComp kx vx [⟨tg, iter, ifs, 0⟩] scope pos) 0 (.ref it) (.ref D) (compEnvC scope (cellsFrom (s3.heap.objs.size + 1) scope.names (cloFrom X.env.cells scope.names [])) s3.heap.objs.size X.env)) (compPost (model X.prog X.w) X.A X.xe none (EP X pins σ Q) (.ref D) s3.heap.objs.size) { s3 with heap := pushCells (s3.heap.push { cls := .type "dict", data := .dict #[] }) scope.names }
  rw [ce']
  have cL : ce.locals = s3.heap.objs.size := by rw [← hce]; rfl
  have nfp : ∀ b ∈ fp, (upd H2 D (kd.o0 D)) b = none := fun b hb => (f3 b hb).1.1
  generalize hH3 : upd H2 D (kd.o0 D) = H3 at I3 I4 pg pt pk pe w0 nfp f3
  generalize hs4 : ({ s3 with heap := pushCells (s3.heap.push { cls := .type "dict", data := .dict #[] }) scope.names } : Shared) = s4 at I4 ⊢
  have st4 : tn 0 s4.heap := T.keep _ _ _ st3 fun b _ o e => by rw [← hs4]; exact pushCells_keeps _ _ _ _ (Heap.get?_push_of_some _ e)
  have stat : ∀ {σ' : L2.St} {H' : Hp} {s' : Shared}, Inv (X.blk s3 H3 scope ce fp) [] σ' H' s' → (∀ b ∈ fp, H' b = none) → ∀ b ∈ fp, FpOk (X.blk s3 H3 scope ce fp) [] H' b := fun {σ' H' s'} I' hn b hb =>
    ⟨hn b hb, (I'.ok.exf b hb).1, I'.ok.exfs b hb, .inl hb, fun x c e => (I'.ok.exf b hb).2 x c e, fun p hp => absurd (show p ∈ ([] : List (Addr × Obj)) ++ [] from hp) (by simp)⟩
  have loop : codeAny (model X.prog X.w) X.A (.compLoop (.DictComp kx vx [⟨tg, iter, ifs, 0⟩] scope pos) 0 (.ref it) (.ref D) ce) (compPost (model X.prog X.w) X.A X.xe none (EP X pins σ Q) (.ref D) s3.heap.objs.size) s4 := by
    refine compLoop_anyD (fun n s' => ∃ i H', Inv (X.blk s3 H3 scope ce fp) [] (wipe σ (own.map (·.2))) H' s' ∧ tn i s'.heap ∧ (∀ b ∈ fp, H' b = none) ∧ W i n H') ?_ m0 ⟨0, H3, I4, st4, nfp, w0⟩
    rintro n s5 ⟨i, H5, I5, st5, n5, w5⟩
    rcases turn i n H5 w5 with ⟨stop, qq⟩ | ⟨go, Nx, hNx, step⟩
    · refine thnF (T.done (X.blk s3 H3 scope ce fp) rfl rfl rfl hc i [] s5 _ H5 (fun _ _ => False) I5 (stat I5 n5) st5 stop) fun r s6 ⟨hr, I6⟩ => ?_
      subst hr
      have I7 : Inv X pins σ H5 s6 := I3.call' (ch := fp) I6.os I6.base I6.hok I6.bare fun b hb => ⟨(f3 b hb).1.2.2.2.1, (f3 b hb).1.2.1, (f3 b hb).1.2.2.2.2.1, (f3 b hb).1.2.2.2.2.2⟩
      have nC : H5 s3.heap.objs.size = none := cL ▸ (show H5 ce.locals = none from I6.free)
      obtain ⟨m, hn, _⟩ := I6.loc
      have hn : s6.heap.Ns s3.heap.objs.size m := cL ▸ (show s6.heap.Ns ce.locals m from hn)
      obtain ⟨f0, f1, f2', f3', f4, f5⟩ := I3.fpOk (Nat.le_refl _) nC
      exact ⟨m, hn, fun h'' sb => ⟨.ref D, H5, I7.turned (t' := s6.toks) (fun b o hb e => (sb.2 b hb).trans e) nC f1 f3' f4 f5, rfl, qq⟩⟩
    · refine thnF (T.item (X.blk s3 H3 scope ce fp) rfl rfl rfl hc i [] s5 _ H5 (fun _ _ => False) I5 (stat I5 n5) st5 go) fun r s6 ⟨u, hr, h6⟩ => ?_
      subst hr
      refine thnF h6 fun _ s7 ⟨x, H7, I7, r7, y7, st7, n7⟩ => ?_
      have I7' := I7.pinned (stat I7 n7) (T.obj _ _ st7)
      refine thnF (pg.run _ s7 _ H7 x u _ I7' r7 (step x H7 y7)) fun _ s8 ⟨σ8, H8, I8, hw8, q8⟩ => ?_
      refine thnF (pt.run _ s8 σ8 H8 _ I8 q8) fun b s9 ⟨H9, I9, q9⟩ => ?_
      have fin : ∀ {s' : Shared} {H' : Hp}, Inv (X.blk s3 H3 scope ce fp) ([] ++ pinsAt fp s7.heap) σ8 H' s' → Nx H' → ∃ m, m < n ∧ ∃ i H', Inv (X.blk s3 H3 scope ce fp) [] (wipe σ (own.map (·.2))) H' s' ∧ tn i s'.heap ∧ (∀ b ∈ fp, H' b = none) ∧ W i m H' := fun {s' H'} I' nx => by
        obtain ⟨m', hm, w'⟩ := hNx H' nx
        have pin' : ∀ b ∈ fp, ∀ o, s7.heap.get? b = some o → s'.heap.get? b = some o ∧ H' b = none := fun b hb o e =>
          let z := I'.pin (b, o) (List.mem_append_right _ (List.mem_append_right _ (mem_pinsAt hb e)))
          ⟨z.1, z.2.1⟩
        refine ⟨m', hm, i + 1, H', (I'.unpinned (pins := [])).weak (by rw [← hw8, wipe_length]) (fun j v e => ?_), T.keep _ _ _ st7 fun b hb o e => (pin' b hb o e).1, fun b hb => ?_, w'⟩
        · rw [← hw8] at e
          exact (wipe_some e).1
        · obtain ⟨o, e, _⟩ := T.obj _ _ st7 b hb
          exact (pin' b hb o e).2
      cases b with
      | false =>
        simp only [Bool.false_eq_true, if_false] at q9 ⊢
        exact fin I9 q9
      | true =>
        simp only [if_true] at q9 ⊢
        refine thnF (pk.run _ s9 σ8 H9 _ I9 q9) fun z s10 ⟨yk, H10, I10, r10, q10⟩ => ?_
        refine thnF (pe.run _ s10 σ8 H10 _ I10 q10) fun z2 s11 ⟨yv, H11, I11, r11, nx⟩ => ?_
        exact kd.put (X.blk s3 H3 scope ce fp) rfl rfl rfl hu _ _ _ _ D yk yv z z2 Nx _ _ I11 r10 r11 nx fun s12 H12 I12 n12 => fin I12 n12
  exact codeAny_compStart_dict loop (T.self X.A 0 _ _ _ st4 loop)
end
section
variable {P : Program} {w : World} {K : PySem.W.Frag} {J : It} {n : Nat} {G : Hp → Prop} {Y : Nat → Hp → V → Hp → Prop}
/-- over a walk -/
theorem dc_it (kd : Kd P w K) (wk : Walk J n G Y) {g : TG} {tt : TT} {tk tv : TE} {vs : List Nat} {σ : L2.St} {H1 : Hp} {D : Addr} {Qd : Hp → Prop} (Pv : Nat → Hp → Prop) (h0 : Pv 0 (upd H1 D (kd.o0 D))) (hG : ∀ i H, i ≤ n → Pv i H → G H)
    (hs : ∀ i x H H', i < n → Pv i H → Y i H x H' → g x (wipe σ vs) H' fun σ2 H2 => wipe σ2 vs = wipe σ vs ∧ tt σ2 H2 fun b H3 =>
      if b = true then tk σ2 H3 fun y H4 => tv σ2 H4 fun z H5 => kd.st D y z H5 (Pv (i + 1)) else Pv (i + 1) H3) (hd : ∀ H, Pv n H → Qd H) :
    ∃ W : Nat → Nat → Hp → Prop, (∃ m, W 0 m (upd H1 D (kd.o0 D))) ∧ ∀ i m H, W i m H →
      (J.stop i H ∧ Qd H) ∨ (J.go i H ∧ ∃ Nx : Hp → Prop, (∀ H', Nx H' → ∃ m', m' < m ∧ W (i + 1) m' H') ∧ ∀ x H', J.yld i H x H' → g x (wipe σ vs) H' fun σ2 H2 => wipe σ2 vs = wipe σ vs ∧ tt σ2 H2 fun b H3 =>
        if b = true then tk σ2 H3 fun y H4 => tv σ2 H4 fun z H5 => kd.st D y z H5 Nx else Nx H3) := by
  refine ⟨fun i m H => m = n - i ∧ i ≤ n ∧ Pv i H, ⟨n, rfl, Nat.zero_le _, h0⟩, ?_⟩
  rintro i m H ⟨rfl, hi, p⟩
  rcases Nat.lt_or_ge i n with hlt | hge
  · exact .inr ⟨wk.goes i H hlt (hG i H hi p), Pv (i + 1), fun H' p' => ⟨n - (i + 1), by omega, rfl, hlt, p'⟩, fun x H' y => hs i x H H' hlt p (wk.yields i H x H' hlt (hG i H hi p) y)⟩
  · have e : i = n := by omega
    subst e
    exact .inl ⟨wk.stops H (hG _ H hi p), hd H p⟩
end
/-- keys ints or texts -/
def kdK (P : Program) (w : World) (K : PySem.W.Frag) : Kd P w K where
  o0 := fun _ => .dK []
  st := fun D y z H N => ∃ kvs k, y = kV k ∧ H D = some (.dK kvs) ∧ kvs.length < sizeLine ∧ N (upd H D (.dK (putK kvs k z)))
  mut0 := fun h H hb => dk_empty h hb
  put := by
    intro X h1 h2 h3 h4 pins σ H s D y z u r N E Q I ry rz ⟨kvs, k, ey, e, hz, n⟩ q
    subst ey
    exact d_dictSet I e hz ry rz fun s' I' => q s' _ I' n
/-- keys typed data -/
def kdN (α : Type) [Ky α] [DecidableEq α] (P : Program) (w : World) (K : PySem.W.Frag) (hd : dep α ≤ 8 := by decide) : Kd P w K where
  o0 := fun d => DN (α := α) P w d []
  st := fun D y z H N => ∃ (ts : List (En α)) (a : α) (b : Addr), y = .ref b ∧ H D = some (DN P w D ts) ∧ Keys K H ts ∧ Dp K H (.ref b) (dat a) ∧ ts.length < sizeLine ∧ N (upd H D (DN P w D (putE ts a b z)))
  mut0 := fun h H hb => dn_ok (dn_empty h hb)
  put := by
    intro X h1 h2 h3 h4 pins σ H s D y z u r N E Q I ry rz ⟨ts, a, b, ey, e, hk, ha, hz, n⟩ q
    subst ey h1 h2 h3
    cases ry
    exact dn_dictSet α h4 hd I e hk ha hz rz fun s' I' => q s' _ I' n
end K26

set_option Elab.async false
set_option linter.all false
set_option maxRecDepth 100000
set_option maxHeartbeats 4000000
/-! set(list of ints), small displays with a tuple key, enumerate over a text, over (). -/
namespace K26
open PySem PySem.Spec PyProof.Rows L2
open Ky

abbrev emS (w : World) : Obj := { cls := .type "set", dict := none, data := .set #[] 0 (.fresh 0 0 (!w.params.followText "set-order")) }
section
variable {P : Program} {w : World} {A : Around} {E : Value → Shared → Prop} {s : Shared}
theorem call_set_listI {l : Addr} {items : Array Value} (ns : List Int) {Q : Value → Shared → Prop} (hh : A.handled = none) (hl : s.heap.IsList l items) (hit : IntsAre items.toList ns) (hb : ns.length + 1 < scanBound)
    (h : ∀ (h' : Heap) (tk c : Nat), SetR w h' s.heap.objs.size (fun j => decide (j ∈ ns)) c → c ≤ ns.length → (∀ b o, s.heap.get? b = some o → h'.get? b = some o) → Q (.ref s.heap.objs.size) { s with heap := h', toks := tk }) :
    wpAny (model P w) A (call (.type "set") [.ref l]) Q E s := by
  have hisz : items.size = ns.length := by
    have q := IntsAre.length hit
    rw [Array.length_toList] at q
    exact q
  obtain ⟨c, tl, hmro⟩ := F.called_set.mro
  have hmade := F.called_set.made
  have hsub := F.called_set.sub
  refine wpAny_call (codeAny_of_tree ?_)
  show wpAny _ _ (callAny (.type "set") _) _ _ _
  refine wpAny_pure ⟨Code.quiet_builtin _ (by decide +kernel), codeAny_builtin F.entry_type_call ?_⟩
  rw [Around.under_plain (weight_type_call_type "set" [.ref l] []) rfl]
  have h1 := F.called_set.notType
  have h2 := F.called_set.canCreate
  have hct := F.typeCall_set_1 (.ref l)
  repeat (any_goals (first | assumption | wp_step))

  refine codeAny_mono (code_set_led1 (.ref l) (E := E) (Q₁ := fun obj s₁ => obj = .ref s.heap.objs.size ∧ s₁ = { s with heap := s.heap.push (emS w) }) ⟨rfl, rfl⟩) fun r s₁ hr => ?_
  cases r with
  | error e => exact hr
  | ok fl =>
    cases fl with
    | ret obj =>
      obtain ⟨rfl, rfl⟩ := hr
      have hS : (s.heap.push (emS w)).get? s.heap.objs.size = some (emS w) := Heap.get?_push_size _ rfl
      have hT : Shared.TypeIs { s with heap := s.heap.push (emS w) } (.ref s.heap.objs.size) "set" := ⟨_, hS, rfl⟩
      have hli := F.called_set.init.lookup
      have hbi := F.called_set.init.bind (.ref s.heap.objs.size)
      repeat (any_goals (first | assumption | wp_step))

      refine codeAny_mono (codeAny_call_builtin (R := wants (fun r s₂ => r = .none ∧ ∃ h' tk c, s₂ = { s with heap := h', toks := tk } ∧ SetR w h' s.heap.objs.size (fun j => decide (j ∈ ns)) c ∧ c ≤ ns.length ∧
          (∀ b o, s.heap.get? b = some o → h'.get? b = some o)) E) F.called_set.init.plain F.entry_set_init (check_set_init_1 hT ?_)) fun r₂ s₂ hr₂ => ?_
      · obtain ⟨ol, hol, hcl, nl, hdl⟩ := hl
        obtain ⟨ocls, odict, odata, oslots⟩ := ol
        simp only at hcl hdl
        subst hcl; subst hdl
        have hol' : (s.heap.push (emS w)).get? l = some { cls := .type "list", dict := odict, data := .seq items nl, slots := oslots } := Heap.get?_push_of_some _ hol
        have hsls := F.sub_list_set
        have hslf := F.sub_list_frozenset
        have hne : (Value.type "list" == Value.type "dict") = false := by decide
        have hl1 : (s.heap.push (emS w)).IsList l items := ⟨_, hol', rfl, nl, rfl⟩
        unfold Builtin.«set.__init__» noKeywords Builtin.Frozenset.updateFrom
        generalize hPI : pyIter = PI
        wp_walk
        subst hPI

        refine wpAny_pyIter_list hl1 ?_
        refine wpAny_bind (wpAny_runValue ?_)
        have hlS : l < s.heap.objs.size := Heap.lt_size hol
        have hh3 : A.in1.in1.in1.handled = none := by simp [hh]
        have hz1 : (s.heap.push (emS w)).objs.size = s.heap.objs.size + 1 := Heap.size_push ..
        have hneI : l ≠ (s.heap.push (emS w)).objs.size := by
          rw [Heap.size_push]; exact Nat.ne_of_lt (Nat.lt_succ_of_lt hlS)
        have hSf : s.heap.objs.size ∉ [(s.heap.push (emS w)).objs.size, l] := by
          rw [Heap.size_push]; simp only [List.mem_cons, List.mem_singleton, List.not_mem_nil, or_false, not_or]
          exact ⟨Nat.ne_of_lt (Nat.lt_succ_self _), Nat.ne_of_gt hlS⟩
        have hval : ∀ (i : Nat) (v : Value), items[i]? = some v → ∃ k t, ns[i]? = some k ∧ v = .int k t := fun i v hv => by
          have hi : i < ns.length := by rw [← hisz]; exact (Array.getElem?_eq_some_iff.mp hv).1
          obtain ⟨t, e⟩ := PyProof.Rows.IntsAre.int_at hit i v (by rw [Array.getElem?_toList]; exact hv)
          refine ⟨ns[i], t, List.getElem?_eq_getElem hi, ?_⟩
          rw [e, List.getD_eq_getElem?_getD, List.getElem?_eq_getElem hi] <;> rfl
        refine set_update_ints ((Walks.list hh3 _ l hneI items).toS) s.heap.objs.size
          hSf ns hisz hb hval (items.size - 0) 0 _ (by omega) (Nat.zero_le _)
          ⟨⟨_, Heap.get?_push_size _ rfl, rfl, rfl⟩, (hl1.push _)⟩ ?hS0 ?hR
        case hS0 =>
          have hget : ((s.heap.push (emS w)).push { cls := .type "list_iterator", data := .fields #[.ref l, .int 0 0] }).get? s.heap.objs.size
              = some (emS w) := Heap.get?_push_of_some _ hS
          exact ⟨0, Nat.le_refl 0, setR_new_at hget⟩
        case hR =>
          intro s' c' hm hc' hS'
          obtain ⟨h', g2, d', tk', os'⟩ := s'
          have eg : g2 = s.gens := hm.gens
          have ed : d' = s.drawn := hm.drawn
          have eo : os' = s.os := hm.os
          subst eg; subst ed; subst eo
          show wpAny _ _ _ _ _ _
          refine wpAny_pure ?_
          show wpAny _ _ (ret Value.none) _ _ _
          rw [hisz] at hc'
          refine wpAny_pure ⟨rfl, h', tk', c', rfl, hS', hc', fun b o e => ?_⟩
          have hb0 : b < s.heap.objs.size := Heap.lt_size e
          have hb1 : b ≠ s.heap.objs.size := Nat.ne_of_lt hb0
          have hb2 : b ≠ (s.heap.push (emS w)).objs.size := by
            rw [Heap.size_push]; exact Nat.ne_of_lt (Nat.lt_succ_of_lt hb0)
          exact hm.heap b o (by simp only [List.mem_cons, List.mem_singleton, List.not_mem_nil, or_false, not_or]; exact ⟨hb1, hb2⟩) (Heap.get?_push_of_some _ (Heap.get?_push_of_some _ e))

      · cases r₂ with
        | error e => exact hr₂
        | ok fl₂ =>
          cases fl₂ with
          | ret r =>
            obtain ⟨rfl, h', tk, c', rfl, hS', hc', hk'⟩ := hr₂
            repeat (any_goals (first | assumption | wp_step))
            exact h _ _ _ hS' hc' hk'
          | _ => exact hr₂.elim
    | _ => exact hr.elim

end
end K26

set_option Elab.async false
set_option linter.all false
set_option maxRecDepth 100000
set_option maxHeartbeats 4000000
/-! enumerate over a text and over a tuple; sorted of a tuple; a display with one tuple key. -/
namespace K26
open PySem PySem.Spec PyProof.Rows L2
open AutoSeq1 (wpAny_loadPart')
open Ky

theorem meets_enumerate_newTup (l : Addr) (items : Array Value) (n : Nat) (dct : Option Addr) (sl : Array (Option Value)) :
    Meets (Builtin.«enumerate.__new__» ⟨[.type "enumerate", .ref l], []⟩) (fun _ R s => s.heap.get? l = some { cls := .type "tuple", dict := dct, data := .seq items n, slots := sl } ∧
      R (.ok (.ret (.ref (s.heap.push { cls := .type "tuple_iterator", data := .fields #[.ref l, .int 0 0] }).objs.size)))
        { s with heap := (s.heap.push { cls := .type "tuple_iterator", data := .fields #[.ref l, .int 0 0] }).push { cls := .type "enumerate", data := .fields #[.none, .bool false, .ref s.heap.objs.size, rawInt 0, .none, .none] } }) :=
  .of_wp fun prog w A R s h => by
    obtain ⟨hp, g, d, tk, os⟩ := s; obtain ⟨hl, h⟩ := h
    have hsub := sub_enumerate
    have hL : Heap.IsTuple (Shared.heap ⟨hp, g, d, tk, os⟩) l items := ⟨_, hl, rfl, n, rfl⟩
    wp_walk using wpAny_loadPart' hl
    refine wpAny_stack_any fun st => wpAny_pure ?_
    split
    · rename_i c _ _ _ _ _
      cases (c == Value.type "enumerate")
      · wp_walk using wpAny_loadPart' hl, wpAny_pyIter_tuple hL
        exact ⟨_, rfl, h⟩
      · wp_walk using wpAny_loadPart' hl, wpAny_pyIter_tuple hL
        exact ⟨_, rfl, h⟩
    · wp_walk using wpAny_loadPart' hl, wpAny_pyIter_tuple hL
      exact ⟨_, rfl, h⟩

section
variable {prog : Program} {w : World} {A : Around} {E : Value → Shared → Prop} {s : Shared}
theorem call_enumerate_tup {l : Addr} {items : Array Value} {Q : Value → Shared → Prop} (hL : s.heap.IsTuple l items)
    (h : ∀ h', IsEnum h' (s.heap.objs.size + 1) s.heap.objs.size 0 .none → h'.IsTupleIter s.heap.objs.size l 0 → h'.objs.size = s.heap.objs.size + 2 →
      (∀ b o, s.heap.get? b = some o → h'.get? b = some o) → Q (.ref (s.heap.objs.size + 1)) { s with heap := h' }) :
    wpAny (model prog w) A (call (.type "enumerate") [.ref l]) Q E s := by
  obtain ⟨⟨c, dct, dt, sl⟩, hl, hc, n, hd⟩ := hL
  replace hc : c = .type "tuple" := hc
  replace hd : dt = .seq items n := hd
  subst hc hd
  refine callType_new F.called_enumerate (by decide) (F.typeCall_enumerate_1 _) (F.newCall_enumerate_1 _) (fun obj => F.args_object_init_2 obj _) F.entry_enumerate_new
    (meets_enumerate_newTup l items n dct sl) ⟨hl, ?_⟩
  have hz : (s.heap.push { cls := .type "tuple_iterator", data := .fields #[.ref l, .int 0 0] }).objs.size = s.heap.objs.size + 1 := Heap.size_push ..
  show _ ∧ _
  rw [hz]
  have he : IsEnum ((s.heap.push { cls := .type "tuple_iterator", data := .fields #[.ref l, .int 0 0] }).push
      { cls := .type "enumerate", data := .fields #[.none, .bool false, .ref s.heap.objs.size, rawInt 0, .none, .none] }) (s.heap.objs.size + 1) s.heap.objs.size 0 .none := by
    have := Heap.get?_push_size (s.heap.push { cls := .type "tuple_iterator", data := .fields #[.ref l, .int 0 0] })
      (o := { cls := .type "enumerate", data := .fields #[.none, .bool false, .ref s.heap.objs.size, rawInt 0, .none, .none] }) rfl
    rw [hz] at this; exact this
  refine ⟨⟨_, he, rfl⟩, h _ he ⟨_, Heap.get?_push_of_some _ (Heap.get?_push_size _ rfl), rfl, rfl⟩ (by rw [Heap.size_push, hz]) fun b o x => Heap.get?_push_of_some _ (Heap.get?_push_of_some _ x)⟩

end

/-! ### enumerate over a text -/
/-- each sign in a new pair -/
def Ies (x : Str) : It := ⟨fun i _ => i < x.cps.size, fun i H v H' => ∃ T c, v = .ref T ∧ H T = none ∧ H' = upd H T (.tup [.int (i : Nat), .str ⟨#[c]⟩]) ∧ x.cps[i]? = some c, fun i _ => i = x.cps.size⟩
/-- the items of a tuple in new pairs -/
def Iet (K : PySem.W.Frag) (a : Addr) : It :=
  ⟨fun i H => ∃ (xs : List V) (x : V), SqT K H a xs ∧ xs[i]? = some x, fun i H v H' => ∃ T x, v = .ref T ∧ H T = none ∧ H' = upd H T (.tup [.int (i : Nat), x]) ∧ ∀ xs, SqT K H a xs → xs[i]? = some x, fun i H => ∃ xs : List V, SqT K H a xs ∧ i = xs.length⟩
section
variable {X : Cx} {pins : List (Addr × Obj)} {σ : L2.St} {H : Hp} {s : Shared} {e it : Addr} {i : Nat} {x : V} {u : Value} {h' : Heap} {tk : Nat} {elts : List Expr} {kk : Nat} {tpos : Pos} {E : Value → Shared → Prop} {old : Value}
/-- the pair that enumerate has laid -/
theorem enum_fin {tn : Nat → Heap → Prop} {Y : V → Hp → Prop} (I : Inv X pins σ H s) (hf : ∀ b ∈ [e, it], FpOk X pins H b) (he : IsEnum s.heap e it i old) (hil : it < s.heap.objs.size) (hne : e ≠ it) (ru : RelV x u)
    (ho : IsEnumOut h' e it ((i : Int) + 1) u s.heap.objs.size) (hT : h'.get? s.heap.objs.size = some { cls := .type "tuple", data := .seq #[.int i tk, u] }) (hk : ∀ b o, b ≠ e → b ≠ it → s.heap.get? b = some o → h'.get? b = some o)
    (st : ∀ h'', IsEnum h'' e it ((i + 1 : Nat) : Int) u → (∀ b, b ≠ e → h''.get? b = h'.get? b) → tn (i + 1) h'') (y : H s.heap.objs.size = none → Y (.ref s.heap.objs.size) (upd H s.heap.objs.size (.tup [.int (i : Nat), x]))) :
    wpAny (model X.prog X.w) X.A (letOwnedTupleGo (.Tuple elts kk tpos) (.ref e) (.ref s.heap.objs.size)) (fun _ s2 => ∃ v H', Inv X pins σ H' s2 ∧ RelV v (.ref s.heap.objs.size) ∧ Y v H' ∧ tn (i + 1) s2.heap ∧ ∀ b ∈ [e, it], H' b = none) E { s with heap := h', toks := tk + 1 } := by
  have hel : e < s.heap.objs.size := Heap.lt_size he
  refine wpAny_letOwnedTupleGo_enum (s := { s with heap := h', toks := tk + 1 }) ho fun h'' he' sb => ?_
  have hT2 : h''.get? s.heap.objs.size = some { cls := .type "tuple", data := .seq #[.int i tk, u] } := (sb.2 _ (Nat.ne_of_gt hel)).trans hT
  have new : ObjOk X.prog X.w (upd H s.heap.objs.size (.tup [.int (i : Nat), x])) h'' s.heap.objs.size (.tup [.int (i : Nat), x]) :=
    ⟨by show 2 ≤ sizeLine; decide, [.int i tk, u], .cons ⟨_, rfl⟩ (.cons ru .nil), ⟨_, hT2, rfl, _, rfl⟩⟩
  have I1 : Inv X pins σ (upd H s.heap.objs.size (.tup [.int (i : Nat), x])) { s with heap := h'', toks := tk + 1 } :=
    I.turnedNew (ch := [e, it]) (fun b ob hb q => (sb.2 b (fun z => hb (by simp [z]))).trans (hk b ob (fun z => hb (by simp [z])) (fun z => hb (by simp [z])) q)) hf (Nat.le_refl _) new
  refine ⟨.ref s.heap.objs.size, _, I1, rfl, y (I.hok.fresh (Nat.le_refl _)), st h'' ?_ fun b hb => sb.2 b hb, fun b hb => ?_⟩
  · have e1 : ((i + 1 : Nat) : Int) = (i : Int) + 1 := by omega
    rw [e1]; exact he'
  · have hb' : b < s.heap.objs.size := by
      have e' : b = e ∨ b = it := by simpa using hb
      rcases e' with z | z
      · rw [z]; exact hel
      · rw [z]; exact hil
    rw [upd_ne (Nat.ne_of_lt hb')]
    exact (hf b hb).1
end
theorem turn_enumS {P : Program} {w : World} {K : PySem.W.Frag} {elts : List Expr} {kk : Nat} {tpos : Pos} (x : Str) (t : Tok) (e it : Addr) :
    Turn P w K (.Tuple elts kk tpos) (Ies x) [e, it] e (fun i h => (∃ old, IsEnum h e it ((i : Nat) : Int) old) ∧ h.IsStrIter it (strIterType x) x t i ∧ e ≠ it) where
  mem := by simp
  obj := fun i h st b hb => by
    obtain ⟨⟨old, he⟩, ⟨o, ho, hc, hd⟩, _⟩ := st
    have e' : b = e ∨ b = it := by simpa using hb
    rcases e' with z | z
    · rw [z]; exact ⟨_, he, fun v q => nomatch q⟩
    · rw [z]; exact ⟨o, ho, fun v q => by rw [hd] at q; cases q⟩
  keep := fun i h h' st k => let ⟨⟨old, he⟩, ⟨o, ho, r⟩, hne⟩ := st; ⟨⟨old, k e (by simp) _ he⟩, ⟨o, k it (by simp) o ho, r⟩, hne⟩
  item := by
    intro X hP hw hK hc i pins s σ H E I hf st hg
    subst hP hw hK
    obtain ⟨⟨old, he⟩, hit, hne⟩ := st
    have D := Draws.text (prog := X.prog) (w := X.w) (A := X.A.in1) (I.ok.hd hc) it x t
    have hil : it < s.heap.objs.size := by obtain ⟨_, q, _⟩ := hit; exact Heap.lt_size q
    refine wpAny_pyNext_enum_itemD D he hit hg hne (by simpa using hne) fun u h' tk hu ho hit' hT hsz hk => ?_
    obtain ⟨c, tt, hcx, rfl⟩ := hu
    refine ⟨_, rfl, enum_fin (x := .str ⟨#[c]⟩) (tn := fun i h => (∃ old, IsEnum h e it ((i : Nat) : Int) old) ∧ h.IsStrIter it (strIterType x) x t i ∧ e ≠ it) (Y := fun v H' => (Ies x).yld i H v H') I hf he hil hne ⟨tt, rfl⟩ ho hT hk (fun h'' a b => ⟨⟨_, a⟩, ?_, hne⟩) fun hn => ⟨_, c, rfl, hn, rfl, hcx⟩⟩
    obtain ⟨o, ho2, r⟩ := hit'
    exact ⟨o, (b it (Ne.symm hne)).trans ho2, r⟩
  done := by
    intro X hP hw hK hc i pins s σ H E I hf st hg
    subst hP hw hK
    obtain ⟨⟨old, he⟩, hit, hne⟩ := st
    have D := Draws.text (prog := X.prog) (w := X.w) (A := X.A.in1) (I.ok.hd hc) it x t
    obtain ⟨f0, f1, f2, f3, f4, f5⟩ := hf it (by simp)
    have hg : i = x.cps.size := hg
    rw [hg] at hit he
    exact wpAny_pyNext_enum_endD D he hit fun h' eb => ⟨rfl, I.turned (t' := s.toks) (fun b o hb q => eb b o hb q) f0 f1 f3 f4 f5⟩
  self := fun A i s Q E st h => let ⟨⟨_, he⟩, _⟩ := st; wpAny_pyIter_enum he h
theorem turn_enumT {P : Program} {w : World} {K : PySem.W.Frag} {elts : List Expr} {kk : Nat} {tpos : Pos} (a e it : Addr) :
    Turn P w K (.Tuple elts kk tpos) (Iet K a) [e, it] e (fun i h => (∃ old, IsEnum h e it ((i : Nat) : Int) old) ∧ h.IsTupleIter it a i ∧ e ≠ it ∧ a ≠ it ∧ a ≠ e) where
  mem := by simp
  obj := fun i h st b hb => by
    obtain ⟨⟨old, he⟩, ⟨o, ho, hc, hd⟩, _⟩ := st
    have e' : b = e ∨ b = it := by simpa using hb
    rcases e' with z | z
    · rw [z]; exact ⟨_, he, fun v q => nomatch q⟩
    · rw [z]; exact ⟨o, ho, fun v q => by rw [hd] at q; cases q⟩
  keep := fun i h h' st k => let ⟨⟨old, he⟩, hi, hne⟩ := st; ⟨⟨old, k e (by simp) _ he⟩, hi.at fun o q => k it (by simp) o q, hne⟩
  item := by
    intro X hP hw hK hc i pins s σ H E I hf st hg
    subst hP hw hK
    obtain ⟨⟨old, he⟩, hit, hne, ha1, ha2⟩ := st
    obtain ⟨xs, x, hq, hx⟩ := hg
    obtain ⟨its, rv, p, hz⟩ := I.tuple hq
    obtain ⟨u, hu, ru⟩ := rv.get hx
    have D := PySem.Draws.tuple (prog := X.prog) (w := X.w) (A := X.A.in1) (I.ok.hd hc) it a ha1 its.toArray
    have hil : it < s.heap.objs.size := by obtain ⟨_, q, _⟩ := hit; exact Heap.lt_size q
    have hi : i < its.toArray.size := by
      have := (List.getElem?_eq_some_iff.mp hu).1
      simpa using this
    refine wpAny_pyNext_enum_itemD D he ⟨hit, p⟩ hi hne (by simpa using ⟨hne, Ne.symm ha2⟩) fun v h' tk hv ho hit' hT hsz hk => ?_
    have ev : v = u := by
      have hv : its.toArray[i]? = some v := hv
      have hv : its[i]? = some v := by simpa using hv
      rw [hu] at hv
      exact (Option.some.inj hv).symm
    subst ev
    exact ⟨_, rfl, enum_fin (x := x) (tn := fun i h => (∃ old, IsEnum h e it ((i : Nat) : Int) old) ∧ h.IsTupleIter it a i ∧ e ≠ it ∧ a ≠ it ∧ a ≠ e) (Y := fun v H' => (Iet X.K a).yld i H v H') I hf he hil hne ru ho hT hk (fun h'' a b => ⟨⟨_, a⟩, hit'.1.at fun o q => (b it (Ne.symm hne)).trans q, hne, ha1, ha2⟩) fun hn => ⟨_, x, rfl, hn, rfl, fun ys hy => by rw [I.tuple_inj hy hq]; exact hx⟩⟩
  done := by
    intro X hP hw hK hc i pins s σ H E I hf st hg
    subst hP hw hK
    obtain ⟨⟨old, he⟩, hit, hne, ha1, ha2⟩ := st
    obtain ⟨xs, hq, hi⟩ := hg
    obtain ⟨its, rv, p, hz⟩ := I.tuple hq
    have D := PySem.Draws.tuple (prog := X.prog) (w := X.w) (A := X.A.in1) (I.ok.hd hc) it a ha1 its.toArray
    obtain ⟨f0, f1, f2, f3, f4, f5⟩ := hf it (by simp)
    have hi : i = its.toArray.size := by rw [hi, rv.length]; simp
    rw [hi] at hit he
    exact wpAny_pyNext_enum_endD D he ⟨hit, p⟩ fun h' eb => ⟨rfl, I.turned (t' := s.toks) (fun b o hb q => eb b o hb q) f0 f1 f3 f4 f5⟩
  self := fun A i s Q E st h => let ⟨⟨_, he⟩, _⟩ := st; wpAny_pyIter_enum he h

/-! ### the calls -/
def iEnumS (ta : TA) : TI := fun σ H R => ta σ H fun vs H1 => ∃ x, vs = [.str x] ∧ R (Ies x) H1
def iEnumT (K : PySem.W.Frag) (ta : TA) : TI := fun σ H R => ta σ H fun vs H1 => ∃ a xs, vs = [.ref a] ∧ SqT K H1 a xs ∧ R (Iet K a) H1
section
variable {X : Cx} {e : Expr} {ta : TA} {p pos tpos : Pos} {elts : List Expr} {kk : Nat}
theorem fp_two {pins : List (Addr × Obj)} {σ : L2.St} {H : Hp} {s : Shared} {I : Inv X pins σ H s} : ∀ b ∈ [s.heap.objs.size + 1, s.heap.objs.size], FpOk X pins H b := fun b hb => by
  have e' : b = s.heap.objs.size + 1 ∨ b = s.heap.objs.size := by simpa using hb
  have hle : s.heap.objs.size ≤ b := by omega
  exact I.fpOk hle (I.hok.fresh hle)
theorem pi_enumS (hg : Gl X "enumerate") (hm : X.mg "enumerate" = none) (ha : PA X [e] ta) (hs : starEach [e] X.env = [(false, eval e X.env)] := by rfl) :
    PI X (.Tuple elts kk tpos) (.Call (.Name "enumerate" p) [e] [] pos) (iEnumS ta) := by
  refine ⟨fun pins s σ H R I h => ?_⟩
  refine Call_ (ld_blt I hg hm boot_enumerate (PyProof.Rows.callWith_type1 (thn (ha.run pos pins s σ H _ I h) fun us s1 ⟨vs, H1, I1, r1, q1⟩ => ?_) hs rfl))
  obtain ⟨x, ex, q⟩ := q1
  subst ex
  obtain ⟨u, rfl, t, rfl⟩ := Vals.one r1
  refine call_enumerate_str fun h' he hit hsz hk => wpAny_pyIter_enum he ?_
  exact ⟨s1.heap.objs.size + 1, [s1.heap.objs.size + 1, s1.heap.objs.size], _, _, H1, rfl, I1.kept (t' := s1.toks) hk, turn_enumS x t _ _, ⟨⟨.none, he⟩, hit, Nat.succ_ne_self _⟩, fp_two (I := I1), q⟩
theorem pi_enumT (hg : Gl X "enumerate") (hm : X.mg "enumerate" = none) (ha : PA X [e] ta) (hs : starEach [e] X.env = [(false, eval e X.env)] := by rfl) :
    PI X (.Tuple elts kk tpos) (.Call (.Name "enumerate" p) [e] [] pos) (iEnumT X.K ta) := by
  refine ⟨fun pins s σ H R I h => ?_⟩
  refine Call_ (ld_blt I hg hm boot_enumerate (PyProof.Rows.callWith_type1 (thn (ha.run pos pins s σ H _ I h) fun us s1 ⟨vs, H1, I1, r1, q1⟩ => ?_) hs rfl))
  obtain ⟨a, xs, ex, hq, q⟩ := q1
  subst ex
  obtain ⟨u, rfl, r⟩ := Vals.one r1
  cases r
  obtain ⟨its, rv, p', hz⟩ := I1.tuple hq
  have la : a < s1.heap.objs.size := by obtain ⟨_, q, _⟩ := p'; exact Heap.lt_size q
  refine call_enumerate_tup p' fun h' he hit hsz hk => wpAny_pyIter_enum he ?_
  exact ⟨s1.heap.objs.size + 1, [s1.heap.objs.size + 1, s1.heap.objs.size], _, _, H1, rfl, I1.kept (t' := s1.toks) hk, turn_enumT a _ _, ⟨⟨.none, he⟩, hit, Nat.succ_ne_self _, Nat.ne_of_lt la, Nat.ne_of_lt (Nat.lt_succ_of_lt la)⟩, fp_two (I := I1), q⟩
end
theorem walk_enumS {x : Str} : Walk (Ies x) x.cps.size (fun _ => True) (fun i H v H' => ∃ T c, v = .ref T ∧ H T = none ∧ H' = upd H T (.tup [.int (i : Nat), .str ⟨#[c]⟩]) ∧ x.cps[i]? = some c) :=
  ⟨fun _ _ hi _ => hi, fun _ _ => rfl, fun _ _ _ _ _ _ y => y⟩
theorem walk_enumT {K : PySem.W.Frag} {a : Addr} {xs : List V} : Walk (Iet K a) xs.length (fun H => SqT K H a xs) (YPair (fun i => some (.int (i : Nat))) (fun i => xs[i]?)) := by
  refine ⟨fun i _ hi q => ⟨xs, xs[i], q, by simp [hi]⟩, fun _ q => ⟨xs, q, rfl⟩, fun i H v H' _ q y => ?_⟩
  obtain ⟨T, x, h1, h2, h3, h4⟩ := y
  exact ⟨T, .int (i : Nat), x, h1, h2, h3, rfl, h4 xs q⟩
end K26

set_option Elab.async false
set_option linter.all false
set_option maxRecDepth 100000
set_option maxHeartbeats 4000000
/-! sorted of a tuple, set of a list, a display with one tuple key, ~x, x + y, x - y by own methods, a static method. -/
namespace K26
open PySem PySem.Spec PyProof.Rows L2
open Ky

section
variable {X : Cx} (α : Type) [Ky α] [So α]
/-- sorted(tuple of data) -/
def rSrtT (X : Ou) : List V → Hp → VK → Prop := fun xs H Q => ∃ (a : Addr) (vs : List V) (l : List α), xs = [.ref a] ∧ SqT X.K H a vs ∧ DpAll X.K H vs (l.map dat) ∧
  ∀ ys p, DpAll X.K H ys ((srt l).map dat) → H p = none → Q (.ref p) (upd H p (.lst ys))
theorem call_srtT (hu : X.A.units + 100 < cLine) (hd : dep α ≤ 60 := by decide) : CallR X (.builtin "sorted") (rSrtT α X.ou) := by
  intro pins s σ H xs us Q I r h
  obtain ⟨a, vs, l, rfl, hs, hv, q⟩ := h
  rw [Vals.ref1 r]
  obtain ⟨its, rv, ⟨o, ho, hc, n, hdt⟩, hz⟩ := I.tuple hs
  refine Calls.call_function_entry kind_sorted plain_sorted entry_sorted (args_sorted1 _) ?_
  unfold Builtin.«sorted»
  refine wpAny_bind (m := checkCount "sorted" 1 1 _) (wpAny_pure ?_)
  have hlen : its.length = l.length := by rw [← rv.length, dpAll_len hv, List.length_map]
  have hll : vs.length = l.length := by rw [dpAll_len hv, List.length_map]
  refine wpAny_bind (wpAny_collect_seq (A := X.A.in1) (hsz := by simp; omega) a (.inr rfl) ho hc hdt fun h' k => ?_)
  have I1 : Inv X pins σ H { s with heap := h' } := I.kept (t' := s.toks) k
  refine wpAny_bind (wpAny_newList ?_ (by simp; omega))
  have hoL : (h'.push (seqObj "list" its.toArray.toList.toArray 0)).get? h'.objs.size = some (seqObj "list" its.toArray.toList.toArray 0) := Heap.get?_push_size _ rfl
  have I2 : Inv X pins σ H { s with heap := h'.push (seqObj "list" its.toArray.toList.toArray 0) } := I1.kept (t' := s.toks) fun b o e => Heap.get?_push_of_some _ e
  have ev := each_of (l := l) hv (us := its.toArray.toList) (by simpa using rv)
  show wpAny _ _ _ _ _ { s with heap := h'.push (seqObj "list" its.toArray.toList.toArray 0) }
  refine wpAny_bind (wpAny_holding (PySem.W.list_sort_data (enc := dat) (bs := l) (s := { s with heap := h'.push (seqObj "list" its.toArray.toList.toArray 0) }) hoL ev ((each_reads I2 ev).mono fun u b w => ⟨_, w, by simp⟩) (allAlike _) (So.so _) (by omega) (fun b _ => ?_) fun out ho2 eo => ?_))
  · have := dat_depth b
    have : X.A.in1.units = X.A.units + 1 := rfl
    omega
  · obtain ⟨ys, ry, dy⟩ := of_each eo
    obtain ⟨e', he'⟩ := sortedHeap_at (vs := its.toArray.toList) (out := out.toArray) hoL
    have hylen : ys.length = l.length := by rw [dpAll_len dy, List.length_map, List.length_mergeSort]
    refine wpAny_pure ⟨_, rfl, .ref h'.objs.size, upd H h'.objs.size (.lst ys), I1.laid (t' := s.toks) (fun b u e => ?_) (Nat.le_refl _) (show ObjOk X.prog X.w _ _ _ (.lst ys) from ⟨by omega, out, e', ry, he'⟩), rfl, q ys _ dy (I1.hok.fresh (Nat.le_refl _))⟩
    have hb : b < h'.objs.size := Heap.lt_size e
    rw [sortedHeap_old (Nat.ne_of_lt hb) (by rw [size_push']; exact Nat.lt_succ_of_lt hb)]
    exact Heap.get?_push_of_some _ e
end

/-! ### set(list of ints) -/
section
variable {X : Cx}
def rSetL (X : Ou) : List V → Hp → VK → Prop := fun xs H Q => ∃ (a : Addr) (ns : List Int), xs = [.ref a] ∧ SqL X.K H a (ns.map V.int) ∧ ns.length + 1 < scanBound ∧
  ∀ p c, c ≤ ns.length → H p = none → Q (.ref p) (upd H p (SetO X.w p (fun j => decide (j ∈ ns)) c))
theorem call_setL (hc : X.calm = true) : CallR X (.type "set") (rSetL X.ou) := by
  intro pins s σ H xs us Q I r h
  obtain ⟨a, ns, rfl, hs, hb, q⟩ := h
  rw [Vals.ref1 r]
  obtain ⟨its, rv, p', hz⟩ := I.list hs
  refine call_set_listI ns (I.ok.hd hc) p'.isList (by simpa using rv.ints) hb fun h' tk c R hcn k => ?_
  exact ⟨.ref s.heap.objs.size, _, I.laid (t' := tk) k (Nat.le_refl _) (setO_new R), rfl, q _ c hcn (I.hok.fresh (Nat.le_refl _))⟩
end

/-! ### a display with one tuple key -/
section
variable {X : Cx} (α : Type) [Ky α] [DecidableEq α]
def D1 (X : Ou) (p : Addr) (Q : VK) (ps : List (V × V)) (H : Hp) : Prop := ∃ (y z : V) (a : α) (b : Addr), ps = [(y, z)] ∧ y = .ref b ∧ H p = some (DN (α := α) X.prog X.w p []) ∧ Dp X.K H (.ref b) (dat a) ∧ Q (.ref p) (upd H p (DN X.prog X.w p [(a, b, z)]))
def tDisp1 (X : Ou) (tk tv : TE) : TE := fun σ H Q => ∀ p, H p = none → tk σ (upd H p (DN (α := α) X.prog X.w p [])) fun y H1 => tv σ H1 fun z H2 => D1 α X p Q [(y, z)] H2
theorem d1_mk {X : Ou} {p : Addr} {Q : VK} {z : V} {H : Hp} {b : Addr} (a : α) (h : H p = some (DN (α := α) X.prog X.w p [])) (d : Dp X.K H (.ref b) (dat a)) (q : Q (.ref p) (upd H p (DN X.prog X.w p [(a, b, z)]))) : D1 α X p Q [(.ref b, z)] H := ⟨_, z, a, b, rfl, rfl, h, d, q⟩
theorem pe_disp1 {k v : Expr} {pos : Pos} {tk tv : TE} (hu : X.A.units + 64 < cLine) (hk : PE X k tk) (hv : PE X v tv) (hd : dep α ≤ 8 := by decide) : PE X (.Dict [some k] [v] pos) (tDisp1 α X.ou tk tv) := by
  refine ⟨fun pins s σ H Q I q => ?_⟩
  have hn := I.hok.fresh (Nat.le_refl s.heap.objs.size)
  have I1 := I.laid (a := s.heap.objs.size) (o := DN (α := α) X.prog X.w s.heap.objs.size []) (h' := s.heap.push { cls := .type "dict", data := .dict #[] }) (t' := s.toks) (fun _ _ q => Heap.get?_push_of_some _ q) (Nat.le_refl _) (dn_ok (dn_empty s.heap I.big))
  have pp : PPs X pos [some k] [v] [(tk, tv)] := pps_cons hk hv pps_nil
  rw [arm_eval_Dict, zip_pairTrees _ _ X.env pos rfl rfl, dictDisplay_pairs (pairTrees [some k] [v] X.env pos) (by simp [pairTrees]) (by simp [pairTrees])]
  refine wpAny_bind (wpAny_standAt (wpAny_bind (wpAny_subDictH (knd := nestedKind X.prog X.w) (Q := fun d s' => wpAny (model X.prog X.w) X.A (pure (Value.ref d)) (EP X pins σ Q) X.xe s') (room7 (X := X) hu) (by simp [pairTrees]) ?_)))
  refine thn (pp.run pins _ σ _ (D1 α X.ou s.heap.objs.size Q) I1 (q _ hn)) fun ws s2 ⟨ps, H2, I2, rel, y, z, a, b, ep, ey, lk, da, q2⟩ => ?_
  · subst ep ey
    cases rel with
    | @cons p0 r0 _ _ h1 h2 =>
      cases h2
      obtain ⟨k1, k2⟩ := r0
      obtain ⟨r1, r2⟩ := h1
      have r1 : k1 = .ref b := r1
      subst r1
      obtain ⟨zz, lo, xs, r, m⟩ := dn_h I2 (.inl lk) (fun t h => by cases h) hd
      cases r
      refine ⟨[(key a, b, k2)], ⟨rfl, rfl, key_is I2 da hd, trivial⟩, m, fun h' tk' mk hs => wpAny_pure ⟨.ref s.heap.objs.size, _, dn_write I2 lk hs (dn_new (by rw [sizeLine_eq]; exact Nat.le_add_left 1 _) lo (.cons ⟨rfl, rfl, r2⟩ .nil) mk), rfl, q2⟩⟩
end
end K26

set_option Elab.async false
set_option linter.all false
set_option maxRecDepth 100000
set_option maxHeartbeats 4000000
/-! ~x, x + y, x - y by own methods (y a tuple), a static method called by its class. -/
namespace K26
open PySem PySem.Spec PyProof.Rows L2
open Ky C8

theorem looks_ty {M : Model} {h : Heap} {b : Addr} {o : Obj} {T : String} (ho : h.get? b = some o) (hc : o.cls = .type T) : PySem.W.Looks M h (typeOf (.ref b)) (.type T) :=
  fun A Q E s k q => wpAny_typeOf_ref (k _ _ ho) (by rw [hc]; exact q)
section
open PySem.W
variable {prog : Program} {w : World} {A : Around} {E : Value → Shared → Prop} {s : Shared} {K : Frag} {x C L f : Addr} {h₀ : Heap} {m : Str → Option Value} {ox : Obj} {od : Option Obj} {T : String}
/-- x op y by x's own method, y of a built-in type whose own reflected method is not the first to be asked -/
theorem own_bin {op : Operator} {b : Value} {fo ro rc : Option Value} {Q : Value → Shared → Prop} (F : Fr h₀ L s.heap m) (X₀ : K.In h₀) (I : InstAt s.heap x ox C od) (hb : Looks (model prog w) s.heap (typeOf b) (.type T)) (hc : selfFirst K C = true)
    (hs : findIn K (.ref C) (PySem.dunder op.info.2) = some (some (.ref f))) (hf : isFn K (.ref f) = true) (hr : findIn K (.ref C) (dunderR op.info.2) = some rc) (hp : rc = none ∨ ∃ g : Addr, rc = some (.ref g))
    (h1 : findIn K (.type T) (PySem.dunder op.info.2) = some fo) (h2 : findIn K (.type T) (dunderR op.info.2) = some ro) (hsub : subIn K (.type T) (.ref C) = some false)
    (h : wpAny (model prog w) A (call (.ref f) [.ref x, b]) (PySem.W.CmpBack Q) E s) : wpAny (model prog w) A (binaryOp op (.ref x) b) Q E s := by
  obtain ⟨cd, rest, hcd, hm⟩ := ksp_first hc
  have X := X₀.keeps F.keep
  have one := ksp_try X I hs hf h
  rcases hi : op.info with ⟨sym, nm'⟩
  rw [hi] at hs hr h1 h2 one
  dsimp only at hs hr h1 h2 one
  obtain ⟨hh, g, d, tt, os⟩ := s
  have t1 : Looks (model prog w) hh (typeOf (.ref x)) (.ref C) := I.type
  have t2 : Looks (model prog w) hh (typeOf b) (.type T) := hb
  have t3 : Looks (model prog w) hh (fillsNumberSlot (.ref C) nm') true := fills_K X hcd hm hs
  have t4 : Looks (model prog w) hh (fillsNumberSlot (.type T) nm') ((fo.isSome && !isSeqSlot fo) || (ro.isSome && !isSeqSlot ro)) := ksp_fillsT X h1 h2
  have t5 : Looks (model prog w) hh (isSubtype (.type T) (.ref C)) false := looks_subIn X hsub
  have t6 : Looks (model prog w) hh (numberSlotInPython (.ref C) nm') true := ksp_inPy X hs hr hp
  have t7 : Looks (model prog w) hh (numberSlotInPython (.type T) nm') false := Looks.of_pure rfl
  have t8 : Looks (model prog w) hh (typeLookup (.type T) (dunderR nm')) ro := looks_findIn X h2
  generalize ((fo.isSome && !isSeqSlot fo) || (ro.isSome && !isSeqSlot ro)) = right at t4
  have hne : (Value.ref C == Value.type T) = false := Bool.eq_false_iff.mpr fun q => by cases beq_iff_eq.mp q
  simp only [binaryOp, hi]
  refine wpAny_holding (wpAny_bind ?_)
  unfold binaryOp1
  refine wpAny_bind (t1.at (wpAny_bind (t2.at (wpAny_bind (t3.at ?_)))))
  simp only [hne, Bool.false_eq_true, if_false]
  cases right <;>
  · ksp_lk
    refine wpAny_mono one (fun r s' hr' => ?_) fun _ _ e => e
    obtain ⟨v, rfl, hq⟩ := hr'
    ksp_lk
    exact hq
end

section
variable {X : Cx} {k j : Nat} {C : Addr} {sp : Sp}
/-- ~x -/
def rInv (C : Addr) (sp : Sp) : V → Hp → VK → Prop := fun x H Q => ∃ a dx fs, x = .ref a ∧ H a = some (.ins C dx fs) ∧ sp [.ref a] H Q C8.E0
theorem un_own (c : Met X.prog X.w X.K X.mg X.base k C "__invert__" sp []) (hr : Room j X.A) (hk : k ≤ j) : UnR X (unaryOp .Invert) (rInv C sp) := by
  intro pins s σ H x v Q I rx h
  obtain ⟨a, dx, fs, rfl, e, hsp⟩ := h
  obtain rfl : v = Value.ref a := rx
  obtain ⟨f, fd, ps, ds, hc, hm, F, b, d⟩ := c.ex
  obtain ⟨mA, O, _⟩ := ins_get I.hok e
  obtain ⟨od, J, _⟩ := O.look
  obtain ⟨m, hF⟩ := I.fr
  refine PySem.W.ksp_inv hF I.ok.mod.kin J hm.at_ hm.fn ?_
  exact run_fn F (hr.mono hk) b d C8.pass0 I (us := [.ref a]) (vs := [.ref a]) (.cons rfl .nil) (by simpa using hsp)
/-- x op y, y a tuple -/
def rBin (K : PySem.W.Frag) (C : Addr) (sp : Sp) : R2 := fun x y H Q => ∃ a dx fs t ys, x = .ref a ∧ y = .ref t ∧ H a = some (.ins C dx fs) ∧ SqT K H t ys ∧ sp [.ref a, .ref t] H Q C8.E0
structure OwnBin (K : PySem.W.Frag) (C : Addr) (nm : String) : Prop where
  sf : PySem.W.selfFirst K C = true
  hr : PySem.W.findIn K (.ref C) (PySem.dunderR nm) = some none
  h1 : ∃ fo, PySem.W.findIn K (.type "tuple") (PySem.dunder nm) = some fo
  h2 : ∃ ro, PySem.W.findIn K (.type "tuple") (PySem.dunderR nm) = some ro
  sub : PySem.W.subIn K (.type "tuple") (.ref C) = some false
theorem op_own {op : Operator} (c : Met X.prog X.w X.K X.mg X.base k C (PySem.dunder op.info.2) sp []) (o : OwnBin X.K C op.info.2) (hr : Room j X.A) (hk : k ≤ j) : OpR X (binaryOp op) (rBin X.K C sp) := by
  intro pins s σ H x y v u Q I rx ry h
  obtain ⟨a, dx, fs, t, ys, rfl, rfl, e, ht, hsp⟩ := h
  obtain rfl : v = Value.ref a := rx
  obtain rfl : u = Value.ref t := ry
  obtain ⟨f, fd, ps, ds, hc, hm, F, b, d⟩ := c.ex
  obtain ⟨mA, O, _⟩ := ins_get I.hok e
  obtain ⟨od, J, _⟩ := O.look
  obtain ⟨m, hF⟩ := I.fr
  obtain ⟨its, rv, ⟨ob, ho, hcl, _⟩, _⟩ := I.tuple ht
  obtain ⟨fo, h1⟩ := o.h1
  obtain ⟨ro, h2⟩ := o.h2
  refine own_bin (T := "tuple") hF I.ok.mod.kin J (looks_ty ho hcl) o.sf hm.at_ hm.fn o.hr (.inl rfl) h1 h2 o.sub ?_
  refine thn (run_fn F (hr.mono hk) b d C8.pass0 I (us := [.ref a, .ref t]) (vs := [.ref a, .ref t]) (.cons rfl (.cons rfl .nil)) (by simpa using hsp)) fun w' s' z => ?_
  obtain ⟨x, H', I', r, q⟩ := z
  cases x with
  | non => cases r; exact ⟨.non, H', I', rfl, q⟩
  | bl b => cases r; exact ⟨.bl b, H', I', rfl, q⟩
  | int i => obtain ⟨t, rfl⟩ := r; exact ⟨.int i, H', I', ⟨t, rfl⟩, q⟩
  | str i => obtain ⟨t, rfl⟩ := r; exact ⟨.str i, H', I', ⟨t, rfl⟩, q⟩
  | byt i => obtain ⟨t, rfl⟩ := r; exact ⟨.byt i, H', I', ⟨t, rfl⟩, q⟩
  | flt i => obtain ⟨t, rfl⟩ := r; exact ⟨.flt i, H', I', ⟨t, rfl⟩, q⟩
  | ref a => cases r; exact ⟨.ref a, H', I', rfl, q⟩
  | ty n => cases r; exact ⟨.ty n, H', I', rfl, q⟩
end

/-! ### a static method -/
/-- C.m is a staticmethod: its record at p, its def at g -/
structure SMet (K : PySem.W.Frag) (C : Addr) (mc : Value) (m : Str) (p g : Addr) : Prop where
  at_ : PySem.W.findCls K (.ref C) mc m = some (.get (.builtin "staticmethod.__get__") (.ref p) .none (.ref C))
  rc : ∃ rest, PySem.W.recIn K p "staticmethod" = some (.ref g :: rest)
def tSMeth (C : Addr) (sp : Sp) (ta : TE) (t : TA) : TE := fun σ H Q => ta σ H fun x H1 => x = .ref C ∧ t σ H1 fun vs H2 => sp vs H2 Q C8.E0
section
variable {X : Cx} {k j : Nat} {C p g : Addr} {mc : Value} {sp : Sp} {o e : Expr} {es : List Expr} {m : Str} {pos apos : Pos} {ta : TE} {t : TA} {pl : Sem Bool}
theorem pe_smeth (he : PE X o ta) (r : ClX.CRead X.K C mc) (c : SMet X.K C mc m p g) (F : CalAt X.prog X.w X.K X.mg X.base k g sp) (hr : Room j X.A) (hk : k ≤ j) (ha : PA X (e :: es) t)
    (hst : starEach (e :: es) X.env = (false, eval e X.env) :: starEach es X.env := by rfl) (hpl : (backTo pos (starEach es X.env)).any (·.1) = false := by rfl)
    (ht : eval (.Call (.Attribute o m apos) (e :: es) [] pos) X.env = (do
      let ov ← eval o X.env
      standAt apos.atName
      let (f, first) ← holding [ov] (getMethod ov m pl)
      callWith pos f first (backTo pos (starEach (e :: es) X.env)) (backToKw pos (keywordEach [] X.env))) := by rfl) :
    PE X (.Call (.Attribute o m apos) (e :: es) [] pos) (tSMeth C sp ta t) := by
  refine ⟨fun pins s σ H Q I h => ?_⟩
  obtain ⟨fd, ps, FF, kp, b⟩ := F.ex
  refine PySem.W.methodCall_KW (pl := pl) (thn (he.run pins s σ H _ I h) fun u s1 ⟨x, H1, I1, rx, ex, q⟩ => ?_) ht
  subst ex
  obtain rfl : u = Value.ref C := rx
  obtain ⟨rest, hp⟩ := c.rc
  refine PySem.W.method_cls I1.kIn r.ga (PySem.W.cls_bind I1.kIn r.rd c.at_ ?_)
  refine wpAny_call (PySem.W.sm_get (s := { s1 with toks := s1.toks + 1 }) I1.kIn hp (PySem.W.handed_on rfl ?_))
  refine PySem.W.callWith_K (h₀ := X.base) (first := []) I1.ok.mod.kin kp (thn (ha.run pos pins _ σ H1 _ (I1.tok _) q) fun us s2 ⟨vs, H2, I2, r2, q2⟩ => ⟨I2.kIn, ?_⟩) hst hpl
  exact run_fn FF (hr.mono hk) b (dvs := []) .nil C8.pass0 I2 r2 (by simpa using q2)
end
end K26

set_option Elab.async false
set_option linter.all false
set_option maxRecDepth 100000
set_option maxHeartbeats 4000000
/-! The defs by their places in the row's text; what the module's names stand for. Printed by wip/gentop.py. -/
namespace K26
open PySem PySem.Spec PyProof.Rows L2
abbrev kBody : List Stmt := PySem.Challenge.pw_netkeep_k26_whole_within_in_all_stores.main.body
def clsBody : Stmt → List Stmt
  | .ClassDef (body := b) .. => b
  | _ => []
def kAt (i : Nat) : Stmt := kBody.getD i (.Pass ⟨0, 0, 0, 0⟩)
def kIn (i j : Nat) : Stmt := (clsBody (kAt i)).getD j (.Pass ⟨0, 0, 0, 0⟩)
abbrev y_is_integer : Stmt := kAt 19
abbrev y_is_letter : Stmt := kAt 20
abbrev y_is_word : Stmt := kAt 21
abbrev y_is_list : Stmt := kAt 22
abbrev y_want_letter : Stmt := kAt 23
abbrev y_want_word : Stmt := kAt 24
abbrev y_is_node : Stmt := kAt 28
abbrev y_is_tie : Stmt := kAt 29
abbrev y_want_nodes : Stmt := kAt 30
abbrev y_want_node : Stmt := kAt 31
abbrev y_want_tie : Stmt := kAt 32
abbrev y_want_few_ties : Stmt := kAt 33
abbrev y_want_ties : Stmt := kAt 34
abbrev y_goals_by : Stmt := kAt 35
abbrev y_store_init : Stmt := kIn 36 2
abbrev y_store_ties : Stmt := kIn 36 4
abbrev y_store_beside : Stmt := kIn 36 12
abbrev y_store_row : Stmt := kIn 36 13
abbrev y_store_add : Stmt := kIn 36 14
abbrev y_store_sub : Stmt := kIn 36 15
abbrev y_store_invert : Stmt := kIn 36 16
abbrev y_made_store : Stmt := kAt 37
abbrev y_is_sign : Stmt := kAt 43
abbrev y_are_signs : Stmt := kAt 44
abbrev y_want_signs : Stmt := kAt 45
abbrev y_letter_of : Stmt := kAt 46
abbrev y_contrary : Stmt := kAt 47
abbrev y_is_standing : Stmt := kAt 48
abbrev y_is_step : Stmt := kAt 50
abbrev y_want_steps : Stmt := kAt 51
abbrev y_want_ends : Stmt := kAt 52
abbrev y_spread : Stmt := kAt 53
abbrev y_question_init : Stmt := kIn 54 1
abbrev y_question_reads : Stmt := kIn 54 8
abbrev y_question_trimmed : Stmt := kIn 54 9
abbrev y_does_read : Stmt := kAt 55
abbrev y_useful : Stmt := kAt 56
abbrev y_moves_from : Stmt := kAt 57
abbrev y_walked : Stmt := kAt 58
abbrev y_asked : Stmt := kAt 59
abbrev y_want_pair : Stmt := kAt 60
abbrev y_reason : Stmt := kAt 61
abbrev y_is_spot : Stmt := kAt 62
abbrev y_is_reason : Stmt := kAt 63
abbrev y_denial : Stmt := kAt 64
abbrev y_is_denial : Stmt := kAt 65
abbrev y_row_of : Stmt := kAt 66
abbrev y_seen_first : Stmt := kAt 70
abbrev y_closed : Stmt := kAt 71
abbrev y_seen_behind : Stmt := kAt 72
abbrev y_small : Stmt := kAt 73
abbrev y_triples_behind : Stmt := kAt 74
abbrev y_triples_of : Stmt := kAt 75
abbrev y_is_wrong : Stmt := kAt 76
abbrev y_partings : Stmt := kAt 77
abbrev y_both_small : Stmt := kAt 78
abbrev y_lies_within : Stmt := kAt 79
abbrev y_parting : Stmt := kAt 80
abbrev y_are_alike : Stmt := kAt 81
abbrev y_law_pot : Stmt := kAt 83
abbrev y_law_draw : Stmt := kAt 84
abbrev y_law_pick : Stmt := kAt 85
abbrev y_law_question : Stmt := kAt 86
abbrev y_law_ties : Stmt := kAt 87
abbrev y_law_stores : Stmt := kAt 88
abbrev y_law_pair_right : Stmt := kAt 89
abbrev y_law_right : Stmt := kAt 90
abbrev y_law : Stmt := kAt 91
end K26

set_option Elab.async false
set_option linter.all false
set_option maxRecDepth 100000
set_option maxHeartbeats 0
/-! The head: what the top leaves, by names; its run. Printed by wip/genhead.py. -/
namespace K26
open PySem PySem.Spec PyProof.Rows L2
open Ky C8
/-- the default of Store's ties -/
def dvA (K : PySem.W.Frag) : Addr := He.dflAt ("Store", some "__init__") 0 K
def d_is_integer : He5.DefA := ⟨fun K => He.ga K "is_integer", "is_integer", "is_integer", defArgs y_is_integer, defBody y_is_integer, defScope y_is_integer, [], []⟩
def d_is_letter : He5.DefA := ⟨fun K => He.ga K "is_letter", "is_letter", "is_letter", defArgs y_is_letter, defBody y_is_letter, defScope y_is_letter, [], []⟩
def d_is_word : He5.DefA := ⟨fun K => He.ga K "is_word", "is_word", "is_word", defArgs y_is_word, defBody y_is_word, defScope y_is_word, [], []⟩
def d_is_list : He5.DefA := ⟨fun K => He.ga K "is_list", "is_list", "is_list", defArgs y_is_list, defBody y_is_list, defScope y_is_list, [], []⟩
def d_want_letter : He5.DefA := ⟨fun K => He.ga K "want_letter", "want_letter", "want_letter", defArgs y_want_letter, defBody y_want_letter, defScope y_want_letter, [], []⟩
def d_want_word : He5.DefA := ⟨fun K => He.ga K "want_word", "want_word", "want_word", defArgs y_want_word, defBody y_want_word, defScope y_want_word, [], []⟩
def d_is_node : He5.DefA := ⟨fun K => He.ga K "is_node", "is_node", "is_node", defArgs y_is_node, defBody y_is_node, defScope y_is_node, [], []⟩
def d_is_tie : He5.DefA := ⟨fun K => He.ga K "is_tie", "is_tie", "is_tie", defArgs y_is_tie, defBody y_is_tie, defScope y_is_tie, [], []⟩
def d_want_nodes : He5.DefA := ⟨fun K => He.ga K "want_nodes", "want_nodes", "want_nodes", defArgs y_want_nodes, defBody y_want_nodes, defScope y_want_nodes, [], []⟩
def d_want_node : He5.DefA := ⟨fun K => He.ga K "want_node", "want_node", "want_node", defArgs y_want_node, defBody y_want_node, defScope y_want_node, [], []⟩
def d_want_tie : He5.DefA := ⟨fun K => He.ga K "want_tie", "want_tie", "want_tie", defArgs y_want_tie, defBody y_want_tie, defScope y_want_tie, [], []⟩
def d_want_few_ties : He5.DefA := ⟨fun K => He.ga K "want_few_ties", "want_few_ties", "want_few_ties", defArgs y_want_few_ties, defBody y_want_few_ties, defScope y_want_few_ties, [], []⟩
def d_want_ties : He5.DefA := ⟨fun K => He.ga K "want_ties", "want_ties", "want_ties", defArgs y_want_ties, defBody y_want_ties, defScope y_want_ties, [], []⟩
def d_goals_by : He5.DefA := ⟨fun K => He.ga K "goals_by", "goals_by", "goals_by", defArgs y_goals_by, defBody y_goals_by, defScope y_goals_by, [], []⟩
def d_made_store : He5.DefA := ⟨fun K => He.ga K "made_store", "made_store", "made_store", defArgs y_made_store, defBody y_made_store, defScope y_made_store, [], []⟩
def d_is_sign : He5.DefA := ⟨fun K => He.ga K "is_sign", "is_sign", "is_sign", defArgs y_is_sign, defBody y_is_sign, defScope y_is_sign, [], []⟩
def d_are_signs : He5.DefA := ⟨fun K => He.ga K "are_signs", "are_signs", "are_signs", defArgs y_are_signs, defBody y_are_signs, defScope y_are_signs, [], []⟩
def d_want_signs : He5.DefA := ⟨fun K => He.ga K "want_signs", "want_signs", "want_signs", defArgs y_want_signs, defBody y_want_signs, defScope y_want_signs, [], []⟩
def d_letter_of : He5.DefA := ⟨fun K => He.ga K "letter_of", "letter_of", "letter_of", defArgs y_letter_of, defBody y_letter_of, defScope y_letter_of, [], []⟩
def d_contrary : He5.DefA := ⟨fun K => He.ga K "contrary", "contrary", "contrary", defArgs y_contrary, defBody y_contrary, defScope y_contrary, [], []⟩
def d_is_standing : He5.DefA := ⟨fun K => He.ga K "is_standing", "is_standing", "is_standing", defArgs y_is_standing, defBody y_is_standing, defScope y_is_standing, [], []⟩
def d_is_step : He5.DefA := ⟨fun K => He.ga K "is_step", "is_step", "is_step", defArgs y_is_step, defBody y_is_step, defScope y_is_step, [], []⟩
def d_want_steps : He5.DefA := ⟨fun K => He.ga K "want_steps", "want_steps", "want_steps", defArgs y_want_steps, defBody y_want_steps, defScope y_want_steps, [], []⟩
def d_want_ends : He5.DefA := ⟨fun K => He.ga K "want_ends", "want_ends", "want_ends", defArgs y_want_ends, defBody y_want_ends, defScope y_want_ends, [], []⟩
def d_spread : He5.DefA := ⟨fun K => He.ga K "spread", "spread", "spread", defArgs y_spread, defBody y_spread, defScope y_spread, [], []⟩
def d_does_read : He5.DefA := ⟨fun K => He.ga K "does_read", "does_read", "does_read", defArgs y_does_read, defBody y_does_read, defScope y_does_read, [], []⟩
def d_useful : He5.DefA := ⟨fun K => He.ga K "useful", "useful", "useful", defArgs y_useful, defBody y_useful, defScope y_useful, [], []⟩
def d_moves_from : He5.DefA := ⟨fun K => He.ga K "moves_from", "moves_from", "moves_from", defArgs y_moves_from, defBody y_moves_from, defScope y_moves_from, [], []⟩
def d_walked : He5.DefA := ⟨fun K => He.ga K "walked", "walked", "walked", defArgs y_walked, defBody y_walked, defScope y_walked, [], []⟩
def d_asked : He5.DefA := ⟨fun K => He.ga K "asked", "asked", "asked", defArgs y_asked, defBody y_asked, defScope y_asked, [], []⟩
def d_want_pair : He5.DefA := ⟨fun K => He.ga K "want_pair", "want_pair", "want_pair", defArgs y_want_pair, defBody y_want_pair, defScope y_want_pair, [], []⟩
def d_reason : He5.DefA := ⟨fun K => He.ga K "reason", "reason", "reason", defArgs y_reason, defBody y_reason, defScope y_reason, [], []⟩
def d_is_spot : He5.DefA := ⟨fun K => He.ga K "is_spot", "is_spot", "is_spot", defArgs y_is_spot, defBody y_is_spot, defScope y_is_spot, [], []⟩
def d_is_reason : He5.DefA := ⟨fun K => He.ga K "is_reason", "is_reason", "is_reason", defArgs y_is_reason, defBody y_is_reason, defScope y_is_reason, [], []⟩
def d_denial : He5.DefA := ⟨fun K => He.ga K "denial", "denial", "denial", defArgs y_denial, defBody y_denial, defScope y_denial, [], []⟩
def d_is_denial : He5.DefA := ⟨fun K => He.ga K "is_denial", "is_denial", "is_denial", defArgs y_is_denial, defBody y_is_denial, defScope y_is_denial, [], []⟩
def d_row_of : He5.DefA := ⟨fun K => He.ga K "row_of", "row_of", "row_of", defArgs y_row_of, defBody y_row_of, defScope y_row_of, [], []⟩
def d_seen_first : He5.DefA := ⟨fun K => He.ga K "seen_first", "seen_first", "seen_first", defArgs y_seen_first, defBody y_seen_first, defScope y_seen_first, [], []⟩
def d_closed : He5.DefA := ⟨fun K => He.ga K "closed", "closed", "closed", defArgs y_closed, defBody y_closed, defScope y_closed, [], []⟩
def d_seen_behind : He5.DefA := ⟨fun K => He.ga K "seen_behind", "seen_behind", "seen_behind", defArgs y_seen_behind, defBody y_seen_behind, defScope y_seen_behind, [], []⟩
def d_small : He5.DefA := ⟨fun K => He.ga K "small", "small", "small", defArgs y_small, defBody y_small, defScope y_small, [], []⟩
def d_triples_behind : He5.DefA := ⟨fun K => He.ga K "triples_behind", "triples_behind", "triples_behind", defArgs y_triples_behind, defBody y_triples_behind, defScope y_triples_behind, [], []⟩
def d_triples_of : He5.DefA := ⟨fun K => He.ga K "triples_of", "triples_of", "triples_of", defArgs y_triples_of, defBody y_triples_of, defScope y_triples_of, [], []⟩
def d_is_wrong : He5.DefA := ⟨fun K => He.ga K "is_wrong", "is_wrong", "is_wrong", defArgs y_is_wrong, defBody y_is_wrong, defScope y_is_wrong, [], []⟩
def d_partings : He5.DefA := ⟨fun K => He.ga K "partings", "partings", "partings", defArgs y_partings, defBody y_partings, defScope y_partings, [], []⟩
def d_both_small : He5.DefA := ⟨fun K => He.ga K "both_small", "both_small", "both_small", defArgs y_both_small, defBody y_both_small, defScope y_both_small, [], []⟩
def d_lies_within : He5.DefA := ⟨fun K => He.ga K "lies_within", "lies_within", "lies_within", defArgs y_lies_within, defBody y_lies_within, defScope y_lies_within, [], []⟩
def d_parting : He5.DefA := ⟨fun K => He.ga K "parting", "parting", "parting", defArgs y_parting, defBody y_parting, defScope y_parting, [], []⟩
def d_are_alike : He5.DefA := ⟨fun K => He.ga K "are_alike", "are_alike", "are_alike", defArgs y_are_alike, defBody y_are_alike, defScope y_are_alike, [], []⟩
def d_law_pot : He5.DefA := ⟨fun K => He.ga K "_law_pot", "_law_pot", "_law_pot", defArgs y_law_pot, defBody y_law_pot, defScope y_law_pot, [], []⟩
def d_law_draw : He5.DefA := ⟨fun K => He.ga K "_law_draw", "_law_draw", "_law_draw", defArgs y_law_draw, defBody y_law_draw, defScope y_law_draw, [], []⟩
def d_law_pick : He5.DefA := ⟨fun K => He.ga K "_law_pick", "_law_pick", "_law_pick", defArgs y_law_pick, defBody y_law_pick, defScope y_law_pick, [], []⟩
def d_law_question : He5.DefA := ⟨fun K => He.ga K "_law_question", "_law_question", "_law_question", defArgs y_law_question, defBody y_law_question, defScope y_law_question, [], []⟩
def d_law_ties : He5.DefA := ⟨fun K => He.ga K "_law_ties", "_law_ties", "_law_ties", defArgs y_law_ties, defBody y_law_ties, defScope y_law_ties, [], []⟩
def d_law_stores : He5.DefA := ⟨fun K => He.ga K "_law_stores", "_law_stores", "_law_stores", defArgs y_law_stores, defBody y_law_stores, defScope y_law_stores, [], []⟩
def d_law_pair_right : He5.DefA := ⟨fun K => He.ga K "_law_pair_right", "_law_pair_right", "_law_pair_right", defArgs y_law_pair_right, defBody y_law_pair_right, defScope y_law_pair_right, [], []⟩
def d_law_right : He5.DefA := ⟨fun K => He.ga K "_law_right", "_law_right", "_law_right", defArgs y_law_right, defBody y_law_right, defScope y_law_right, [], []⟩
def d_law : He5.DefA := ⟨fun K => He.ga K "law", "law", "law", defArgs y_law, defBody y_law, defScope y_law, [], []⟩
def d_store_init : He5.DefA := ⟨fun K => He.ma K (He.ga K "Store") "__init__", "__init__", "Store.__init__", defArgs y_store_init, defBody y_store_init, defScope y_store_init, [.adr dvA], []⟩
def d_store_ties : He5.DefA := ⟨fun K => He.ma K (He.ga K "Store") "ties", "ties", "Store.ties", defArgs y_store_ties, defBody y_store_ties, defScope y_store_ties, [], []⟩
def d_store_beside : He5.DefA := ⟨fun K => He.ma K (He.ga K "Store") "beside", "beside", "Store.beside", defArgs y_store_beside, defBody y_store_beside, defScope y_store_beside, [], []⟩
def d_store_add : He5.DefA := ⟨fun K => He.ma K (He.ga K "Store") "__add__", "__add__", "Store.__add__", defArgs y_store_add, defBody y_store_add, defScope y_store_add, [], []⟩
def d_store_sub : He5.DefA := ⟨fun K => He.ma K (He.ga K "Store") "__sub__", "__sub__", "Store.__sub__", defArgs y_store_sub, defBody y_store_sub, defScope y_store_sub, [], []⟩
def d_store_invert : He5.DefA := ⟨fun K => He.ma K (He.ga K "Store") "__invert__", "__invert__", "Store.__invert__", defArgs y_store_invert, defBody y_store_invert, defScope y_store_invert, [], []⟩
def d_question_init : He5.DefA := ⟨fun K => He.ma K (He.ga K "Question") "__init__", "__init__", "Question.__init__", defArgs y_question_init, defBody y_question_init, defScope y_question_init, [], []⟩
def d_question_reads : He5.DefA := ⟨fun K => He.ma K (He.ga K "Question") "reads", "reads", "Question.reads", defArgs y_question_reads, defBody y_question_reads, defScope y_question_reads, [], []⟩
def d_question_trimmed : He5.DefA := ⟨fun K => He.ma K (He.ga K "Question") "trimmed", "trimmed", "Question.trimmed", defArgs y_question_trimmed, defBody y_question_trimmed, defScope y_question_trimmed, [], []⟩
def d_store_row : He5.DefA := ⟨fun K => He5.wf K (He.ga K "Store") "staticmethod" "row", "row", "Store.row", defArgs y_store_row, defBody y_store_row, defScope y_store_row, [], []⟩
def hfn : List He5.DefA := [d_is_integer, d_is_letter, d_is_word, d_is_list, d_want_letter, d_want_word, d_is_node, d_is_tie, d_want_nodes, d_want_node, d_want_tie, d_want_few_ties, d_want_ties, d_goals_by, d_made_store, d_is_sign, d_are_signs, d_want_signs, d_letter_of, d_contrary, d_is_standing, d_is_step, d_want_steps, d_want_ends, d_spread, d_does_read, d_useful, d_moves_from, d_walked, d_asked, d_want_pair, d_reason, d_is_spot, d_is_reason, d_denial, d_is_denial, d_row_of, d_seen_first, d_closed, d_seen_behind, d_small, d_triples_behind, d_triples_of, d_is_wrong, d_partings, d_both_small, d_lies_within, d_parting, d_are_alike, d_law_pot, d_law_draw, d_law_pick, d_law_question, d_law_ties, d_law_stores, d_law_pair_right, d_law_right, d_law, d_store_init, d_store_ties, d_store_beside, d_store_add, d_store_sub, d_store_invert, d_question_init, d_question_reads, d_question_trimmed, d_store_row]
def hfx0 : List PySem.Str := ["is_integer", "is_letter", "is_word", "is_list", "want_letter", "want_word", "is_node", "is_tie", "want_nodes", "want_node", "want_tie", "want_few_ties", "want_ties", "goals_by", "made_store", "is_sign", "are_signs", "want_signs", "letter_of", "contrary", "is_standing", "is_step", "want_steps", "want_ends", "spread", "does_read", "useful", "moves_from", "walked", "asked"]
def hfx1 : List PySem.Str := ["want_pair", "reason", "is_spot", "is_reason", "denial", "is_denial", "row_of", "seen_first", "closed", "seen_behind", "small", "triples_behind", "triples_of", "is_wrong", "partings", "both_small", "lies_within", "parting", "are_alike", "_law_pot", "_law_draw", "_law_pick", "_law_question", "_law_ties", "_law_stores", "_law_pair_right", "_law_right", "law"]
def hfx : List PySem.Str := hfx0 ++ hfx1
def hfa : List He.Fa := [.free "isinstance", .free "int", .free "bool", .free "str", .free "list", .free "tuple", .free "len", .free "all", .free "any", .free "enumerate", .free "sorted", .free "range", .free "set", .free "zip", .free "abs", .free "max", .free "min", .free "divmod", .str "LETTERS" "abcdef", .str "CAPITALS" "ABCDEF", .str "SIGNS" "ABCDEFabcdef", .int "LONGEST" 12, .int "MOST_NODES_store" 40, .int "MOST_TIES" 400, .int "MOST_STANDINGS_questions" 9, .int "MOST_SIGNS" 60, .int "MOST_TRIMMED" 4, .int "MOST_TRIPLES" 2000, .glo "Store", .glo "Question", .cls "Store", .cls "Question", .noat "Store" "own_nodes", .noat "Store" "own_ties", .noat "Store" "own_goals", .noat "Question" "own_standings", .noat "Question" "own_steps", .noat "Question" "own_ends", .noat "Question" "own_from", .meth "Store" "ties", .meth "Store" "beside", .meth "Store" "__add__", .meth "Store" "__sub__", .meth "Store" "__invert__", .meth "Question" "reads", .meth "Question" "trimmed", .mkr "Store", .mkr "Question", .glo "is_integer", .glo "is_letter", .glo "is_word", .glo "is_list", .glo "want_letter", .glo "want_word", .glo "is_node", .glo "is_tie", .glo "want_nodes", .glo "want_node", .glo "want_tie", .glo "want_few_ties", .glo "want_ties", .glo "goals_by", .glo "made_store", .glo "is_sign", .glo "are_signs", .glo "want_signs", .glo "letter_of", .glo "contrary", .glo "is_standing", .glo "is_step", .glo "want_steps", .glo "want_ends", .glo "spread", .glo "does_read", .glo "useful", .glo "moves_from", .glo "walked", .glo "asked", .glo "want_pair", .glo "reason", .glo "is_spot", .glo "is_reason", .glo "denial", .glo "is_denial", .glo "row_of", .glo "seen_first", .glo "closed", .glo "seen_behind", .glo "small", .glo "triples_behind", .glo "triples_of", .glo "is_wrong", .glo "partings", .glo "both_small", .glo "lies_within", .glo "parting", .glo "are_alike", .glo "_law_pot", .glo "_law_draw", .glo "_law_pick", .glo "_law_question", .glo "_law_ties", .glo "_law_stores", .glo "_law_pair_right", .glo "_law_right", .glo "law"]
def hnm0 : List PySem.Str := ["_wall", "NetError", "InvalidNodes", "InvalidTies", "InvalidTie", "InvalidNode", "InvalidLetter", "InvalidWord", "InvalidStore", "InvalidStandings", "InvalidSteps", "InvalidEnds", "InvalidSigns", "LimitError", "TooMany", "LETTERS", "LONGEST", "is_integer", "is_letter", "is_word", "is_list", "want_letter", "want_word", "MOST_NODES_store", "MOST_TIES", "is_node", "is_tie", "want_nodes", "want_node", "want_tie"]
def hnm1 : List PySem.Str := ["want_few_ties", "want_ties", "goals_by", "Store", "made_store", "CAPITALS", "SIGNS", "MOST_STANDINGS_questions", "MOST_SIGNS", "is_sign", "are_signs", "want_signs", "letter_of", "contrary", "is_standing", "want_standing", "is_step", "want_steps", "want_ends", "spread", "Question", "does_read", "useful", "moves_from", "walked", "asked", "want_pair", "reason", "is_spot", "is_reason"]
def hnm2 : List PySem.Str := ["denial", "is_denial", "row_of", "MOST_TRIMMED", "MOST_TRIPLES", "seen_first", "closed", "seen_behind", "small", "triples_behind", "triples_of", "is_wrong", "partings", "both_small", "lies_within", "parting", "are_alike", "_law_pot", "_law_draw", "_law_pick", "_law_question", "_law_ties", "_law_stores", "_law_pair_right", "_law_right"]
def hnm : List PySem.Str := hnm0 ++ hnm1 ++ hnm2
/-- own methods, the static one, isinstance; the default is an empty tuple -/
def hexS (K : PySem.W.Frag) (C : Addr) : List Bool :=
  [He.eqO (PySem.W.findIn K (.ref C) "__class__") (some (some (.builtin "object.__class__"))), He.eqO (PySem.W.specialIn K (.builtin "object.__class__") "__get__") (some (some (.builtin "getset_descriptor.__get__"))),
   decide (PySem.W.takesIn K (.builtin "object.__class__") = some true), decide (PySem.W.mroIn K C (.type "object") = some true), decide (PySem.W.kitOne K (.ref C) (.ref C) = some true),
   PySem.W.readsIn K C (.type "type"), He.eqO (PySem.W.specialIn K (.ref C) "__getattribute__") (some (some (.builtin "type.__getattribute__"))), He5.wrapB K C "staticmethod" "staticmethod.__get__" "row",
   PySem.W.selfFirst K C, He.eqO (PySem.W.findIn K (.ref C) (PySem.dunderR "add")) (some none), He.eqO (PySem.W.findIn K (.ref C) (PySem.dunderR "sub")) (some none),
   (PySem.W.findIn K (.type "tuple") (PySem.dunder "add")).isSome, (PySem.W.findIn K (.type "tuple") (PySem.dunderR "add")).isSome,
   (PySem.W.findIn K (.type "tuple") (PySem.dunder "sub")).isSome, (PySem.W.findIn K (.type "tuple") (PySem.dunderR "sub")).isSome, decide (PySem.W.subIn K (.type "tuple") (.ref C) = some false)]
def hexT (K : PySem.W.Frag) (a : Addr) : Bool := match K.lookup a with
  | some ⟨.type c, _, .seq its _, _⟩ => decide (c = "tuple") && its.toList.isEmpty
  | _ => false
def hex (K : PySem.W.Frag) : Bool := (hexS K (He.ga K "Store")).all id && hexT K (dvA K)
/-- what objects name, one step on -/
def stp (g : Addr → Option Obj) (as : List Addr) : List Addr := as.flatMap fun a => match g a with
  | some o => He.refsD o
  | none => []
def force {α : Type} : List Addr → (List Addr → α) → α
  | [], k => k []
  | a :: r, k => HandSHeadRun.frNat a fun a => force r fun r => k (a :: r)
theorem force_eq {α : Type} : ∀ (l : List Addr) (k : List Addr → α), force l k = k l
  | [], k => rfl
  | a :: r, k => by
    show HandSHeadRun.frNat a (fun a => force r fun r => k (a :: r)) = _
    rw [HandSHeadRun.frNat_eq, force_eq r]
/-- the addresses that are looked at: the classes, their methods, the defs, their codes -/
def withAs {α : Type} (g : Addr → Option Obj) (k : List Addr → α) : α :=
  force [He.ga (He.frG g [mainGlobals]) "Store", He.ga (He.frG g [mainGlobals]) "Question"] fun cs =>
  force (stp g cs) fun n1 => force (stp g n1) fun n2 => force (stp g n2) fun n3 =>
  force [He5.wf (He.frG g (mainGlobals :: cs ++ n1 ++ n2)) (He.ga (He.frG g [mainGlobals]) "Store") "staticmethod" "row", dvA (He.frG g (mainGlobals :: cs ++ n1 ++ n2 ++ n3))] fun rs =>
  force (stp g rs) fun r1 =>
  force (hfx.map (He.ga (He.frG g [mainGlobals]))) fun fs => force (stp g fs) fun f1 =>
  k (mainGlobals :: cStatics :: (cs ++ n1 ++ n2 ++ n3 ++ rs ++ r1 ++ fs ++ f1))
theorem withAs_eq {α : Type} (g : Addr → Option Obj) (k : List Addr → α) : withAs g k = k (withAs g id) := by
  unfold withAs
  simp only [force_eq, id]
def obsM (g : Addr → Option Obj) : He.AlD × Bool := withAs g fun as => (He5.obsA hfa hfn (He.frG g as), hex (He.frG g as))
def SaysM (K : PySem.W.Frag) : Prop := He5.SaysA hfa hfn K ∧ hex K = true
theorem saysM_of {h : Heap} (e : obsM h.get? = (He5.valA hfn, true)) : ∃ K : PySem.W.Frag, K.In h ∧ SaysM K := by
  unfold obsM at e
  rw [withAs_eq] at e
  exact ⟨He.frG h.get? (withAs h.get? id), He.frG_in, congrArg (fun z : He.AlD × Bool => z.1) e, congrArg (fun z : He.AlD × Bool => z.2) e⟩
def hookM : PySem.W.Hook where
  α := He.AlD × Bool
  obs := fun s => obsM s.heap.get?
  val := fun _ => (He5.valA hfn, true)
  says := fun _ h => ∃ K : PySem.W.Frag, K.In h ∧ SaysM K
  of := fun _ _ e => saysM_of e
  keeps := fun _ _ _ ⟨K, hK, c⟩ k => ⟨K, PySem.W.Frag.In.keeps hK k, c⟩
abbrev hR : PySem.W.OpenRow := PySem.W.OpenLaw.row PySem.Challenge.rw_netkeep_k26_whole_within_in_all_stores
def obM (s : PySem.W.SharedT) : hookM.α := obsM (HandSHeadRun.getT s)
theorem obM_eq (s : PySem.W.SharedT) : obM s = hookM.obs s.abs := by
  have e : HandSHeadRun.getT s = s.abs.heap.get? := funext (HandSHeadRun.getT_eq s)
  show obsM (HandSHeadRun.getT s) = obsM s.abs.heap.get?
  rw [e]
theorem map3 {α β γ δ : Type} {o : Option α} {f : α → β} {g : α → γ} {h : α → δ} {a : β} {b : γ} {c : δ} (h1 : o.map f = some a) (h2 : o.map g = some b) (h3 : o.map h = some c) : o.map (fun s => (f s, g s, h s)) = some (a, b, c) := by
  cases o with
  | none => cases h1
  | some s =>
    have e1 : f s = a := Option.some.inj h1
    have e2 : g s = b := Option.some.inj h2
    have e3 : h s = c := Option.some.inj h3
    show some (f s, g s, h s) = _
    rw [e1, e2, e3]
/-- the state behind the top -/
noncomputable def hend (w : World) (os : OsState) : Option PySem.W.SharedT := HandSHeadRun.endF (HandSHeadRun.stepQ (HandSHeadRun.denQ HandSHeadRun.tabQ) hR.prog w) 12000 hR.prog w os
theorem hrun1 (w : World) (os : OsState) : (hend w os).map (fun s => HandSHeadRun.looksF hR.prog (PySem.W.boot_heap w.params) s.abs) = some true := by
  kernel_rfl
theorem hrun2 (w : World) (os : OsState) : (hend w os).map (fun s => HandSHeadRun.seenQ (PySem.W.view hR.prog [91]) hnm (importedModules hR.prog.main.body) (fun s => PySem.W.xlAt (PySem.W.view hR.prog [91]) [] s && PySem.W.recOk hR.toRowW.records s) s.abs) = some (PySem.W.openGood (PySem.W.view hR.prog [91]) hnm) := by
  kernel_rfl
theorem hrun3 (w : World) (os : OsState) : (hend w os).map obM = some (hookM.val w) := by
  kernel_rfl
theorem hrun (w : World) : HandSHeadRun.RunEq hR (PySem.W.view hR.prog [91]) hookM obM 12000 hnm w := by
  intro os
  have h1 := hrun1 w os
  have h2 := hrun2 w os
  have h3 := hrun3 w os
  unfold hend at h1 h2 h3
  exact map3 h1 h2 h3
end K26

set_option Elab.async false
set_option linter.all false
set_option maxRecDepth 100000
set_option maxHeartbeats 4000000
/-! What the walks lean on: the module's names; how a def is told; short rules. -/
namespace K26
open PySem PySem.Spec PyProof.Rows L2
open Ky

/-- the built-in names that the program uses, none of them bound by the module -/
structure Tx (K : PySem.W.Frag) (mg : Str → Option Value) (CS CQ : Addr) : Prop where
  isinstance : mg "isinstance" = none
  int : mg "int" = none
  bool : mg "bool" = none
  str : mg "str" = none
  list : mg "list" = none
  tuple : mg "tuple" = none
  len : mg "len" = none
  all : mg "all" = none
  any : mg "any" = none
  enumerate : mg "enumerate" = none
  sorted : mg "sorted" = none
  range : mg "range" = none
  set : mg "set" = none
  zip : mg "zip" = none
  abs : mg "abs" = none
  max : mg "max" = none
  min : mg "min" = none
  divmod : mg "divmod" = none
  letters : ∃ t, mg "LETTERS" = some (.str "abcdef" t)
  capitals : ∃ t, mg "CAPITALS" = some (.str "ABCDEF" t)
  signs : ∃ t, mg "SIGNS" = some (.str "ABCDEFabcdef" t)
  longest : ∃ t, mg "LONGEST" = some (.int 12 t)
  nodes : ∃ t, mg "MOST_NODES_store" = some (.int 40 t)
  ties : ∃ t, mg "MOST_TIES" = some (.int 400 t)
  standings : ∃ t, mg "MOST_STANDINGS_questions" = some (.int 9 t)
  msigns : ∃ t, mg "MOST_SIGNS" = some (.int 60 t)
  trimmed : ∃ t, mg "MOST_TRIMMED" = some (.int 4 t)
  triples : ∃ t, mg "MOST_TRIPLES" = some (.int 2000 t)
  store : mg "Store" = some (.ref CS)
  question : mg "Question" = some (.ref CQ)
  cS : Cls K CS
  cQ : Cls K CQ
  iS : C8.InsC K CS
  n_nodes : NoAttr K CS "own_nodes"
  n_ties : NoAttr K CS "own_ties"
  n_goals : NoAttr K CS "own_goals"
  q_stand : NoAttr K CQ "own_standings"
  q_steps : NoAttr K CQ "own_steps"
  q_ends : NoAttr K CQ "own_ends"
  q_from : NoAttr K CQ "own_from"

abbrev FnP (K : PySem.W.Frag) (x qual : Str) (st : Stmt) (dvs : List V) (f : Addr) (fd : FuncData) : Prop := FunD K x qual (defArgs st) (defBody st) (defScope st) dvs [] f fd
/-- a def of the module, all its parameters given -/
structure Fx (K : PySem.W.Frag) (mg : Str → Option Value) (x : Str) (st : Stmt) (ps : List Str) (f : Addr) (fd : FuncData) : Prop where
  fn : FnP K x x st [] f fd
  mgf : mg x = some (.ref f)
  b : Binds K fd ps []
section
variable {P : Program} {w : World} {K : PySem.W.Frag} {mg : Str → Option Value} {base : Heap} {x : Str} {st : Stmt} {f : Addr} {fd : FuncData}
/-- a def's promise from its walk -/
theorem Fx.cal {N ps : List Str} {k : Nat} {sp : Sp} (F : Fx K mg x st ps f fd) (S : FnScope N ps (defScope st)) (len : ∀ vs H Q E, sp vs H Q E → vs.length = ps.length)
    (hbody : ∀ (cdv : Value) (A : Around) (outer : List Env) (s : Shared) (H : Hp) (vs : List V) (Q : VK) (E : XK), Room k (A.deeper (envOfC x (defScope st) s.heap.objs.size f cdv)) → sp vs H Q E →
      ∃ t, PSs (cxOf C8.CX0 P w K mg base N x (defScope st) f cdv A outer s H E).nox (defBody st) t ∧ t { nx := fun _ H' => Q .non H', rt := Q } (start N vs) H) : C8.Cal P w K mg base (k + 1) x sp [] :=
  ⟨f, fd, ps, [], F.fn.ok S len fun cdv A outer s H vs Q E hr h => by
    obtain ⟨t, h1, h2⟩ := hbody cdv A outer s H vs Q E hr h
    exact ⟨t, PSs.nox h1, h2⟩, F.mgf, F.fn.kp, F.b, .nil⟩
end
/-! ### short rules -/
section
variable {X : Cx} {x : Str} {pos : Pos}
theorem gI {i : Int} (hg : Gl X x) (h : ∃ t, X.mg x = some (.int i t)) (hd : (x == ("__debug__" : Str)) = false := by decide) : PE X (.Name x pos) (tC (.int i)) := by
  obtain ⟨t, hm⟩ := h
  exact pe_glob hg hm ⟨_, rfl⟩ hd
theorem gS {z : Str} (hg : Gl X x) (h : ∃ t, X.mg x = some (.str z t)) (hd : (x == ("__debug__" : Str)) = false := by decide) : PE X (.Name x pos) (tC (.str z)) := by
  obtain ⟨t, hm⟩ := h
  exact pe_glob hg hm ⟨_, rfl⟩ hd
theorem gR {a : Addr} (hg : Gl X x) (h : X.mg x = some (.ref a)) (hd : (x == ("__debug__" : Str)) = false := by decide) : PE X (.Name x pos) (tC (.ref a)) := pe_glob hg h rfl hd
theorem gT {n : String} (hg : Gl X x) (h : X.mg x = none) (hb : bootBuiltins x = some (.type n)) (hn : x ≠ "__name__" := by decide) (hd : (x == ("__debug__" : Str)) = false := by decide) : PE X (.Name x pos) (tC (.ty n)) := pe_bltn (v := .ty n) hg h hb rfl hn hd
theorem pn (i : Nat) (hN : X.N.Nodup) (hi : X.N[i]? = some x := by rfl) (hx : Loc X.env.scope x := by first | exact Or.inl rfl | exact Or.inr rfl)
    (hf : X.fn x = true ∨ X.env.scope.names.lookup x = some .local := by first | exact .inl rfl | exact .inr rfl) : PG X (.Name x pos) (gName i) := pg_name hN hi hx hf
theorem pset {e : Expr} {te : TE} {pos' : Pos} (i : Nat) (hN : X.N.Nodup) (he : PE X e te) (hi : X.N[i]? = some x := by rfl) (hx : Loc X.env.scope x := by first | exact Or.inl rfl | exact Or.inr rfl)
    (hs : swapsWith e (some (.Name x pos')) pos.line X.env = pure false := by rfl) (hf : X.fn x = true ∨ X.env.scope.names.lookup x = some .local := by first | exact .inl rfl | exact .inr rfl) :
    PS X (.Assign [.Name x pos'] e pos) (tAsg te (gName i)) := ps_set hN hi hx he hs hf
end
/-! ### rules again, told of the outer context (so that they serve within a comprehension) -/
section
variable {X : Cx} {K : PySem.W.Frag} {tg e o : Expr} {es : List Expr} {te to : TE} {t : TA} {pos p apos cpos tpos : Pos} {elts : List Expr} {kk : Nat}
theorem k_fld {f : Str} (hK : X.K = K) (he : PE X e te) (hb : attributeBase e f X.env (eval e X.env) = eval e X.env := by rfl) : PE X (.Attribute e f pos) (tFld K te f) := hK ▸ pe_fld he hb
theorem k_ixl (hK : X.K = K) : IxR X (rIxL K) := hK ▸ ix_list
theorem k_ixt (hK : X.K = K) : IxR X (rIxT K) := hK ▸ ix_tup
theorem k_len (hK : X.K = K) : CallR X (.builtin "len") (rLen K) := hK ▸ call_len
theorem k_all (hK : X.K = K) (hc : X.calm = true) : CallR X (.builtin "all") (rAll K) := hK ▸ cr_all hc
theorem k_any (hK : X.K = K) (hc : X.calm = true) : CallR X (.builtin "any") (rAny K) := hK ▸ cr_any hc
theorem k_isi (hK : X.K = K) : CallR X (.builtin "isinstance") (rIsi K) := hK ▸ call_isi
theorem k_list (hK : X.K = K) (he : PE X e te) : PI X tg e (iList K te) := hK ▸ pi_list he
theorem k_tup (hK : X.K = K) (he : PE X e te) : PI X tg e (iTup K te) := hK ▸ pi_tup he
theorem k_gtup {t : TGs} {n : Nat} (hK : X.K = K) (hc : X.calm = true) (h : PGs X es t) (hn : (assignEach es X.env).length = n := by rfl) (hst : (assignEach es X.env).findIdx? (·.1) = none := by rfl) : PG X (.Tuple es kk pos) (gTup K n t) := hK ▸ pg_tup hc h hn hst
def rTupOf (K : PySem.W.Frag) : List V → Hp → VK → Prop := fun xs H Q => ∃ p ys, xs = [.ref p] ∧ ((SqL K H p ys ∧ ∀ l, H l = none → Q (.ref l) (upd H l (.tup ys))) ∨ (SqT K H p ys ∧ Q (.ref p) H))
theorem k_tuple (hK : X.K = K) : CallR X (.type "tuple") (rTupOf K) := hK ▸ call_tuple_of
theorem k_enum (hK : X.K = K) (hg : Gl X "enumerate") (hm : X.mg "enumerate" = none) (ha : PA X [e] t) (hs : starEach [e] X.env = [(false, eval e X.env)] := by rfl) : PI X (.Tuple elts kk tpos) (.Call (.Name "enumerate" p) [e] [] pos) (iEnum K t) := hK ▸ pi_enum hg hm ha hs
theorem k_enumT (hK : X.K = K) (hg : Gl X "enumerate") (hm : X.mg "enumerate" = none) (ha : PA X [e] t) (hs : starEach [e] X.env = [(false, eval e X.env)] := by rfl) : PI X (.Tuple elts kk tpos) (.Call (.Name "enumerate" p) [e] [] pos) (iEnumT K t) := hK ▸ pi_enumT hg hm ha hs
theorem k_zip {e2 : Expr} (hK : X.K = K) (hg : Gl X "zip") (hm : X.mg "zip" = none) (ha : PA X [e, e2] t)
    (hs : starEach [e, e2] X.env = (false, eval e X.env) :: starEach [e2] X.env := by rfl) (hpl : (backTo pos (starEach [e2] X.env)).any (·.1) = false := by rfl) :
    PI X (.Tuple elts kk tpos) (.Call (.Name "zip" p) [e, e2] [] pos) (iZip K t) := hK ▸ pi_zip hg hm ha hs hpl
end
section
variable {X : Cx} {O : Ou} {α : Type} [Ky α] {tg e o i : Expr} {es : List Expr} {te to td ty : TE} {t : TA} {pos p apos cpos tpos : Pos} {elts : List Expr} {kk : Nat}
theorem k_N (hO : X.ou = O) (he : PE X e td) : PI X tg e (iN α O td) := hO ▸ pi_N α he
theorem k_Im (hO : X.ou = O) (he : PE X e td) (hbase : attributeBase e "items" X.env (eval e X.env) = eval e X.env := by rfl) (hline : (apos.endLine == cpos.line) = true := by rfl) :
    PI X (.Tuple elts kk tpos) (.Call (.Attribute e "items" apos) [] [] cpos) (iIm α O td) := hO ▸ pi_Im α he hbase hline
theorem k_star (hO : X.ou = O) (hc : X.calm = true) (he : PE X e te) (hr : PA X es t) (hs : starEach (.Starred e p :: es) X.env = (true, eval e X.env) :: starEach es X.env := by rfl) : PA X (.Starred e p :: es) (tStarN α O te t) := hO ▸ pa_starN α hc he hr hs
theorem k_listN (hO : X.ou = O) (hc : X.calm = true) : CallR X (.type "list") (rListN α O) := hO ▸ call_listN α hc
theorem k_lenN [DecidableEq α] (hO : X.ou = O) (hd : dep α ≤ 8 := by decide) : CallR X (.builtin "len") (rLenN α O) := hO ▸ call_lenN α hd
theorem k_setL (hO : X.ou = O) (hc : X.calm = true) : CallR X (.type "set") (rSetL O) := hO ▸ call_setL hc
section
variable [So α] (hu : X.A.units + 100 < cLine)
include hu
theorem k_srtL (hO : X.ou = O) (hd : dep α ≤ 60 := by decide) : CallR X (.builtin "sorted") (rSrtL α O) := hO ▸ call_srtL α hu hd
theorem k_srtT (hO : X.ou = O) (hd : dep α ≤ 60 := by decide) : CallR X (.builtin "sorted") (rSrtT α O) := hO ▸ call_srtT α hu hd
theorem k_srtN (hO : X.ou = O) (hc : X.calm = true) (hd : dep α ≤ 60 := by decide) : CallR X (.builtin "sorted") (rSrtN α O) := hO ▸ call_srtN α hc hu hd
end
variable [DecidableEq α]
section
variable (hu : X.A.units + 100 < cLine)
include hu
theorem k_in (hO : X.ou = O) (hd : dep α ≤ 60 := by decide) : OpR X (compareOp .In) (rInS α O false) := hO ▸ op_inS α hu hd
theorem k_nin (hO : X.ou = O) (hd : dep α ≤ 60 := by decide) : OpR X (compareOp .NotIn) (rInS α O true) := hO ▸ op_notInS α hu hd
theorem k_inN (hO : X.ou = O) (hd : dep α ≤ 8 := by decide) : OpR X (compareOp .In) (rInN α O false) := hO ▸ op_inN α (by omega) hd
theorem k_ninN (hO : X.ou = O) (hd : dep α ≤ 8 := by decide) : OpR X (compareOp .NotIn) (rInN α O true) := hO ▸ op_notInN α (by omega) hd
theorem k_eq (hO : X.ou = O) (hd : dep α ≤ 60 := by decide) : OpR X (compareOp .Eq) (rEqS α O false) := hO ▸ op_eqS α (by omega) hd
theorem k_ne (hO : X.ou = O) (hd : dep α ≤ 60 := by decide) : OpR X (compareOp .NotEq) (rEqS α O true) := hO ▸ op_neS α (by omega) hd
theorem k_eqL (hO : X.ou = O) (hd : dep α ≤ 60 := by decide) : OpR X (compareOp .Eq) (rEqL α O false) := hO ▸ op_eqL α (by omega) hd
theorem k_neL (hO : X.ou = O) (hd : dep α ≤ 60 := by decide) : OpR X (compareOp .NotEq) (rEqL α O true) := hO ▸ op_neL α (by omega) hd
theorem k_get (hO : X.ou = O) (ho : PE X o td) (hi : PE X i ty) (hd : dep α ≤ 8 := by decide) (hs : NoSl i := by exact fun _ _ => rfl) : PE X (.Subscript o i pos) (tGetN α O td ty) := hO ▸ pe_getN α (by omega) ho hi hd hs
theorem k_disp1 {k v : Expr} {tk tv : TE} (hO : X.ou = O) (hk : PE X k tk) (hv : PE X v tv) (hd : dep α ≤ 8 := by decide) : PE X (.Dict [some k] [v] pos) (tDisp1 α O tk tv) := hO ▸ pe_disp1 α (by omega) hk hv hd
theorem k_setN (hO : X.ou = O) (hd : dep α ≤ 8 := by decide) : PSet X (rSetN α O) := hO ▸ set_dN α (by omega) hd
theorem k_getD (hO : X.ou = O) (hd : dep α ≤ 8 := by decide) : MtR X "dict.get" (rGetD α O) := hO ▸ mt_getN α (by omega) hd
theorem k_updN (hT : ∀ a : α, ∃ ks, key a = .tup ks) (hO : X.ou = O) (hd : dep α ≤ 8 := by decide) : MtR X "dict.update" (rUpdN α O) := hO ▸ mt_updN α hT (by omega) hd
end
theorem k_bm {name : Str} {id : String} {r : V → List V → Hp → VK → Prop} (hO : X.ou = O) (slot : Slot "dict" name id) (hty : typeOf (.builtin id) = pure (.type "method_descriptor")) (hm : MtR X id r) (ho : PE X o to) (ha : PA X (e :: es) t)
    (hbase : attributeBase o name X.env (eval o X.env) = eval o X.env := by rfl)
    (hfew : ((backTo cpos (starEach (e :: es) X.env)).all (fun x => !x.1) && (backToKw cpos (keywordEach [] X.env)).all (fun x => x.1.isSome)
      && decide ((e :: es).length + ([] : List Keyword).length + (if ([] : List Keyword).isEmpty then 0 else 1) < 30)) = true := by rfl)
    (hline : (apos.endLine == cpos.line) = true := by rfl) (hs : starEach (e :: es) X.env = (false, eval e X.env) :: starEach es X.env := by rfl) (hplain : (backTo cpos (starEach es X.env)).any (·.1) = false := by rfl) :
    PE X (.Call (.Attribute o name apos) (e :: es) [] cpos) (tBMN α O r to t) := hO ▸ pe_bmN α slot hty hm ho ha hbase hfew hline hs hplain
theorem k_new (hO : X.ou = O) : PE X (.Dict [] [] pos) (tNewN α O) := hO ▸ pe_newN α
end
section
variable {X : Cx}
theorem k_sset {w : World} (hw : X.w = w) (hc : X.calm = true) : CallR X (.builtin "sorted") (rSortedSet w) := hw ▸ cr_sortedSet hc
theorem k_dc {P : Program} {w : World} {K : PySem.W.Frag} {kd : Kd P w K} {kx vx tg iter : Expr} {ifs : List Expr} {scope : Scope} {own : List (Str × Nat)} {pos : Pos} {wi : TI} {g : TG} {tt : TT} {tk tv : TE} (hO : X.ou = ⟨P, w, K⟩) (hu : X.A.units + 100 < cLine) (hc : X.calm = true) (hN : X.N.Nodup) (hi : PI X tg iter wi) (ok : BlkOk X.N X.env.scope scope own)
    (hg : ∀ (s : Shared) (H : Hp) (C : Addr) (cl : List (Str × Addr)) (fp : List Addr), PG (X.blk s H scope (compEnvC scope cl C X.env) fp) tg g)
    (ht : ∀ (s : Shared) (H : Hp) (C : Addr) (cl : List (Str × Addr)) (fp : List Addr), PTs (X.blk s H scope (compEnvC scope cl C X.env) fp) ifs tt)
    (hk : ∀ (s : Shared) (H : Hp) (C : Addr) (cl : List (Str × Addr)) (fp : List Addr), PE (X.blk s H scope (compEnvC scope cl C X.env) fp) kx tk)
    (he : ∀ (s : Shared) (H : Hp) (C : Addr) (cl : List (Str × Addr)) (fp : List Addr), PE (X.blk s H scope (compEnvC scope cl C X.env) fp) vx tv)
    (hs : ∀ x, foldedSetIterable iter X.env x = pure x := by intro _; rfl) :
    PE X (.DictComp kx vx [⟨tg, iter, ifs, 0⟩] scope pos) (tDcG kd wi g tt tk tv (own.map (·.2))) := by
  cases hO
  exact pe_dcG kd (by omega) hc hN hi ok hg ht hk he hs
end
theorem hu100 {A : Around} {k : Nat} (hr : Room k A) : A.units + 100 < cLine := by
  have := hr.un
  omega
/-- a bool by a test that makes nothing that is seen -/
def spB (p : List V → Hp → Bool → Prop) : Sp := fun vs H Q _ => ∃ b, p vs H b ∧ ∀ H', Ex H H' → Q (.bl b) H'
/-- a check that lets it pass -/
def spU (p : List V → Hp → Prop) : Sp := fun vs H Q _ => p vs H ∧ ∀ H', Ex H H' → Q .non H'
/-- a value, told of the heap behind -/
def spV (p : List V → Hp → V → Hp → Prop) (pre : List V → Hp → Prop) : Sp := fun vs H Q _ => pre vs H ∧ ∀ v H', Ex H H' → p vs H v H' → Q v H'
end K26

set_option Elab.async false
set_option linter.all false
set_option maxRecDepth 100000
set_option maxHeartbeats 4000000
/-! Typed walks: what a loop or a comprehension goes through, told as a list of Lean data; what it makes, told likewise. -/
namespace K26
open PySem PySem.Spec PyProof.Rows L2
open Ky

/-! ### inversions of typed data -/
section
variable {K : PySem.W.Frag} {H : Hp} {α β γ : Type} [Ky α] [Ky β] [Ky γ]
theorem dp_nat {v : V} {n : Nat} (h : Dp K H v (dat n)) : v = .int (n : Int) := by
  cases h
  rfl
theorem nat_dp (n : Nat) : Dp K H (.int (n : Int)) (dat n) := .int _
theorem dp_sg {v : V} {s : Sg} (h : Dp K H v (dat s)) : v = .str (sgS s) := by
  cases h
  rfl
theorem sg_dp (s : Sg) : Dp K H (.str (sgS s)) (dat s) := .str _
theorem dp_wd {v : V} {s : Wd} (h : Dp K H v (dat s)) : v = .str (wdS s.l) := by
  cases h
  rfl
theorem wd_dp (s : Wd) : Dp K H (.str (wdS s.l)) (dat s) := .str _
theorem dpAll1 {d : PyData} {vs : List V} {ds : List PyData} (h : DpAll K H vs (d :: ds)) : ∃ v r, vs = v :: r ∧ Dp K H v d ∧ DpAll K H r ds := by
  cases h with
  | cons a b => exact ⟨_, _, rfl, a, b⟩
theorem dpAll0 {vs : List V} (h : DpAll K H vs []) : vs = [] := by
  cases h
  rfl
theorem dp_pair {v : V} {p : α × β} (h : Dp K H v (dat p)) : ∃ a x y, v = .ref a ∧ SqT K H a [x, y] ∧ Dp K H x (dat p.1) ∧ Dp K H y (dat p.2) := by
  have h : Dp K H v (.tuple [dat p.1, dat p.2]) := h
  cases h with
  | tup hs ha =>
    obtain ⟨x, r, rfl, dx, ha⟩ := dpAll1 ha
    obtain ⟨y, r, rfl, dy, ha⟩ := dpAll1 ha
    cases dpAll0 ha
    exact ⟨_, x, y, rfl, hs, dx, dy⟩
theorem dp_t3 {v : V} {p : T3 α β γ} (h : Dp K H v (dat p)) : ∃ a x y z, v = .ref a ∧ SqT K H a [x, y, z] ∧ Dp K H x (dat p.x) ∧ Dp K H y (dat p.y) ∧ Dp K H z (dat p.z) := by
  have h : Dp K H v (.tuple [dat p.x, dat p.y, dat p.z]) := h
  cases h with
  | tup hs ha =>
    obtain ⟨x, r, rfl, dx, ha⟩ := dpAll1 ha
    obtain ⟨y, r, rfl, dy, ha⟩ := dpAll1 ha
    obtain ⟨z, r, rfl, dz, ha⟩ := dpAll1 ha
    cases dpAll0 ha
    exact ⟨_, x, y, z, rfl, hs, dx, dy, dz⟩
theorem dp_tuple {v : V} {l : List α} (h : Dp K H v (.tuple (l.map dat))) : ∃ a xs, v = .ref a ∧ SqT K H a xs ∧ DpAll K H xs (l.map dat) := by
  cases h with
  | tup hs ha => exact ⟨_, _, rfl, hs, ha⟩
theorem dp_lst {v : V} {ds : List PyData} (h : Dp K H v (.list ds)) : ∃ a xs, v = .ref a ∧ SqL K H a xs ∧ DpAll K H xs ds := by
  cases h with
  | lst hs ha => exact ⟨_, _, rfl, hs, ha⟩
theorem pair_dp {a : Addr} {x y : V} {p : α × β} (h : SqT K H a [x, y]) (dx : Dp K H x (dat p.1)) (dy : Dp K H y (dat p.2)) : Dp K H (.ref a) (dat p) :=
  show Dp K H _ (.tuple [dat p.1, dat p.2]) from .tup h (.cons dx (.cons dy .nil))
theorem t3_dp {a : Addr} {x y z : V} {p : T3 α β γ} (h : SqT K H a [x, y, z]) (dx : Dp K H x (dat p.x)) (dy : Dp K H y (dat p.y)) (dz : Dp K H z (dat p.z)) : Dp K H (.ref a) (dat p) :=
  show Dp K H _ (.tuple [dat p.x, dat p.y, dat p.z]) from .tup h (.cons dx (.cons dy (.cons dz .nil)))
theorem sqt_new {p : Addr} {xs : List V} : SqT K (upd H p (.tup xs)) p xs := SqT.of upd_same
theorem sql_new {p : Addr} {xs : List V} : SqL K (upd H p (.lst xs)) p xs := SqL.of upd_same
end
/-! ### tuples stay, whatever happens to lists and dicts -/
def Lt (H H' : Hp) : Prop := ∀ a xs, Rd H a (.tup xs) → Rd H' a (.tup xs)
theorem Lt.refl {H : Hp} : Lt H H := fun _ _ h => h
theorem Lt.trans {H H1 H2 : Hp} (a : Lt H H1) (b : Lt H1 H2) : Lt H H2 := fun x xs h => b x xs (a x xs h)
theorem Ex.lt {H H' : Hp} (e : Ex H H') : Lt H H' := e.ld.t
/-- what stands at D is no tuple -/
def NoT (H : Hp) (D : Addr) : Prop := ∀ xs, ¬ Rd H D (.tup xs)
theorem Lt.mut {H : Hp} {D : Addr} {o : HO} (h : NoT H D) : Lt H (upd H D o) := fun a xs r => by
  have : a ≠ D := fun e => by subst e; exact h xs r
  unfold Rd
  rw [upd_ne this]
  exact r
theorem noT_of {H : Hp} {D : Addr} {o : HO} (h : H D = some o) (n : ∀ xs, o ≠ .tup xs) (n2 : ∀ ob xs, o ≠ .frz ob (.tup xs)) : NoT H D := fun xs r => by
  rcases r with r | ⟨ob, r⟩
  · rw [h] at r
    exact n xs (Option.some.inj r)
  · rw [h] at r
    exact n2 ob xs (Option.some.inj r)
theorem noT_lst {H : Hp} {D : Addr} {xs : List V} (h : H D = some (.lst xs)) : NoT H D := noT_of h (fun _ z => nomatch z) fun _ _ z => nomatch z
theorem noT_dK {H : Hp} {D : Addr} {xs : List (Key × V)} (h : H D = some (.dK xs)) : NoT H D := noT_of h (fun _ z => nomatch z) fun _ _ z => nomatch z
theorem noT_ins {H : Hp} {D C dx : Addr} {xs : List (Str × V)} (h : H D = some (.ins C dx xs)) : NoT H D := noT_of h (fun _ z => nomatch z) fun _ _ z => nomatch z
theorem noT_DN {α : Type} [Ky α] {H : Hp} {D : Addr} {P : Program} {w : World} {ts : List (En α)} (h : H D = some (DN P w D ts)) : NoT H D := noT_of h (fun _ z => nomatch z) fun _ _ z => nomatch z
theorem noT_fDN {α : Type} [Ky α] {H : Hp} {D : Addr} {P : Program} {w : World} {ts : List (En α)} {o : Obj} (h : H D = some (.frz o (DN P w D ts))) : NoT H D := noT_of h (fun _ z => nomatch z) fun _ _ z => nomatch z
theorem noT_fdK {H : Hp} {D : Addr} {xs : List (Key × V)} {o : Obj} (h : H D = some (.frz o (.dK xs))) : NoT H D := noT_of h (fun _ z => nomatch z) fun _ _ z => nomatch z
mutual
theorem key_lt {K : PySem.W.Frag} {H H' : Hp} (e : Lt H H') : ∀ {k : NestedKey} {v : V}, Dp K H v k.data → Dp K H' v k.data
  | .none, _, h => by cases h; exact .non
  | .num _, _, h => by cases h; exact .int _
  | .text _, _, h => by cases h; exact .str _
  | .tup ks, _, h => by
    rw [NestedKey.data] at h ⊢
    cases h with
    | tup hs ha => exact .tup (hs.elim (fun z => .inl (e _ _ z)) .inr) (keys_lt e ha)
theorem keys_lt {K : PySem.W.Frag} {H H' : Hp} (e : Lt H H') : ∀ {ks : List NestedKey} {vs : List V}, DpAll K H vs (NestedKey.datas ks) → DpAll K H' vs (NestedKey.datas ks)
  | [], _, h => by
    rw [NestedKey.datas] at h ⊢
    cases h
    exact .nil
  | k :: ks, _, h => by
    rw [NestedKey.datas] at h ⊢
    cases h with
    | cons a b => exact .cons (key_lt e a) (keys_lt e b)
end
section
variable {K : PySem.W.Frag} {H H' : Hp} {α : Type} [Ky α]
theorem dat_lt (e : Lt H H') {a : α} {v : V} (h : Dp K H v (dat a)) : Dp K H' v (dat a) := key_lt e h
theorem dats_lt (e : Lt H H') : ∀ {l : List α} {vs : List V}, DpAll K H vs (l.map dat) → DpAll K H' vs (l.map dat)
  | [], _, h => by cases h; exact .nil
  | a :: l, _, h => by
    rw [List.map_cons] at h ⊢
    cases h with
    | cons x y => exact .cons (dat_lt e x) (dats_lt e y)
theorem Keys.lt {ts : List (En α)} (k : Keys K H ts) (e : Lt H H') : Keys K H' ts := fun t ht => dat_lt e (k t ht)
end

/-! ### typed walks -/
abbrev Rl (α : Type) := α → Hp → V → Prop
/-- a value is this data -/
def Dt (K : PySem.W.Frag) {α : Type} [Ky α] : Rl α := fun a H x => Dp K H x (dat a)
/-- a value is a list of this data -/
def Ls (K : PySem.W.Frag) {α : Type} [Ky α] : Rl (List α) := fun l H x => Dp K H x (.list (l.map dat))
/-- a new pair of a number and such a value -/
def Nu {α : Type} (K : PySem.W.Frag) (R : Rl α) : Rl (Nat × α) := fun p H x => ∃ T y, x = .ref T ∧ SqT K H T [.int (p.1 : Int), y] ∧ R p.2 H y
abbrev All (R : Rl α) (l : List α) (H : Hp) (xs : List V) : Prop := Paired (fun a x => R a H x) l xs
theorem all_get {α : Type} {R : Rl α} {H : Hp} : ∀ {l : List α} {xs : List V} {i : Nat} {x : V}, All R l H xs → xs[i]? = some x → ∃ a, l[i]? = some a ∧ R a H x
  | _, _, i, _, .nil, h => by simp at h
  | _, _, 0, _, .cons r _, h => by
    have e := Option.some.inj h
    subst e
    exact ⟨_, rfl, r⟩
  | _, _, i + 1, _, .cons _ t, h => all_get (i := i) t (by simpa using h)
theorem all_at {α : Type} {R : Rl α} {H : Hp} : ∀ {l : List α} {xs : List V} {i : Nat} {a : α}, All R l H xs → l[i]? = some a → ∃ x, xs[i]? = some x ∧ R a H x
  | _, _, i, _, .nil, h => by simp at h
  | _, _, 0, _, .cons r _, h => by
    have e := Option.some.inj h
    subst e
    exact ⟨_, rfl, r⟩
  | _, _, i + 1, _, .cons _ t, h => all_at (i := i) t (by simpa using h)
theorem all_mono {α : Type} {R S : Rl α} {H H' : Hp} (f : ∀ a x, R a H x → S a H' x) : ∀ {l : List α} {xs : List V}, All R l H xs → All S l H' xs
  | _, _, .nil => .nil
  | _, _, .cons r t => .cons (f _ _ r) (all_mono f t)
theorem all_dat {K : PySem.W.Frag} {H : Hp} {α : Type} [Ky α] : ∀ {l : List α} {xs : List V}, DpAll K H xs (l.map dat) → All (Dt K) l H xs
  | [], _, h => by cases h; exact .nil
  | a :: l, _, h => by
    rw [List.map_cons] at h
    cases h with
    | cons x y => exact .cons x (all_dat y)
theorem dat_all {K : PySem.W.Frag} {H : Hp} {α : Type} [Ky α] : ∀ {l : List α} {xs : List V}, All (Dt K) l H xs → DpAll K H xs (l.map dat)
  | _, _, .nil => .nil
  | _, _, .cons r t => .cons r (dat_all t)
theorem all_ls {K : PySem.W.Frag} {H : Hp} {α : Type} [Ky α] : ∀ {l : List (List α)} {xs : List V}, DpAll K H xs (l.map fun r => .list (r.map dat)) → All (Ls K) l H xs
  | [], _, h => by cases h; exact .nil
  | a :: l, _, h => by
    rw [List.map_cons] at h
    cases h with
    | cons x y => exact .cons x (all_ls y)
theorem ls_all {K : PySem.W.Frag} {H : Hp} {α : Type} [Ky α] : ∀ {l : List (List α)} {xs : List V}, All (Ls K) l H xs → DpAll K H xs (l.map fun r => .list (r.map dat))
  | _, _, .nil => .nil
  | _, _, .cons r t => .cons r (ls_all t)
/-- a walk gives the items of l, one by one, while G stands -/
structure TW {α : Type} (J : It) (R : Rl α) (l : List α) (G : Hp → Prop) : Prop where
  goes : ∀ i H, i < l.length → G H → J.go i H
  stops : ∀ H, G H → J.stop l.length H
  yields : ∀ i H x H', i < l.length → G H → J.yld i H x H' → Ex H H' ∧ ∃ a, l[i]? = some a ∧ R a H' x
section
variable {K : PySem.W.Frag} {α : Type} {R : Rl α} {l : List α} {a : Addr}
theorem tw_list {xs : List V} : TW (Itl K a) R l (fun H => SqL K H a xs ∧ All R l H xs) := by
  refine ⟨fun i H hi ⟨q, r⟩ => ?_, fun H ⟨q, r⟩ => ?_, fun i H x H' hi ⟨q, r⟩ y => ?_⟩
  · rw [Paired.length r] at hi
    exact walk_list.goes i H hi q
  · rw [Paired.length r]
    exact walk_list.stops H q
  · rw [Paired.length r] at hi
    obtain ⟨rfl, e⟩ := walk_list.yields i H x H' hi q y
    exact ⟨.refl _, all_get r e⟩
theorem tw_tup {xs : List V} : TW (Itt K a) R l (fun H => SqT K H a xs ∧ All R l H xs) := by
  refine ⟨fun i H hi ⟨q, r⟩ => ?_, fun H ⟨q, r⟩ => ?_, fun i H x H' hi ⟨q, r⟩ y => ?_⟩
  · rw [Paired.length r] at hi
    exact walk_tup.goes i H hi q
  · rw [Paired.length r]
    exact walk_tup.stops H q
  · rw [Paired.length r] at hi
    obtain ⟨rfl, e⟩ := walk_tup.yields i H x H' hi q y
    exact ⟨.refl _, all_get r e⟩
theorem tw_range {n : Nat} : TW (Itr 0 n) (Dt K) (List.range n) (fun _ => True) := by
  refine ⟨fun i H hi _ => ?_, fun H _ => ?_, fun i H x H' hi _ y => ?_⟩
  · rw [List.length_range] at hi
    exact walk_range.goes i H hi trivial
  · rw [List.length_range]
    exact walk_range.stops H trivial
  · rw [List.length_range] at hi
    obtain ⟨rfl, rfl⟩ := walk_range.yields i H x H' hi trivial y
    refine ⟨.refl _, i, by simp [hi], ?_⟩
    show Dp K _ (.int (0 + (i : Int))) (dat i)
    rw [Int.zero_add]
    exact nat_dp i
theorem wdS_at {w : List Sg} {i : Nat} {c : Nat} (h : (wdS w).cps[i]? = some c) : ∃ s, w[i]? = some s ∧ c = sgC s := by
  have h2 : (w.map sgC)[i]? = some c := by
    rw [← Array.getElem?_toList, wdS_tl] at h
    exact h
  rw [List.getElem?_map] at h2
  obtain ⟨s, h3, h4⟩ := Option.map_eq_some_iff.mp h2
  exact ⟨s, h3, h4.symm⟩
theorem wdS_size (w : List Sg) : (wdS w).cps.size = w.length := by
  rw [← Array.length_toList, wdS_tl, List.length_map]
theorem tw_str {w : List Sg} : TW (Its (wdS w)) (Dt K) w (fun _ => True) := by
  refine ⟨fun i H hi _ => ?_, fun H _ => ?_, fun i H x H' hi _ y => ?_⟩
  · rw [← wdS_size] at hi
    exact walk_str.goes i H hi trivial
  · rw [← wdS_size]
    exact walk_str.stops H trivial
  · rw [← wdS_size] at hi
    obtain ⟨rfl, c, h1, rfl⟩ := walk_str.yields i H x H' hi trivial y
    obtain ⟨s, h2, rfl⟩ := wdS_at h1
    refine ⟨.refl _, s, h2, ?_⟩
    rw [← sgS_C]
    exact sg_dp s
/-- numbered -/
def num (l : List α) : List (Nat × α) := (List.range l.length).zip l
theorem num_len (l : List α) : (num l).length = l.length := by simp [num]
theorem num_at {i : Nat} {b : α} (h : l[i]? = some b) : (num l)[i]? = some (i, b) := by
  have hi : i < l.length := (List.getElem?_eq_some_iff.mp h).1
  unfold num
  rw [List.getElem?_zip_eq_some]
  exact ⟨by simp [hi], h⟩
theorem tw_enum {xs : List V} (hR : ∀ a H H' x, Ex H H' → R a H x → R a H' x) : TW (Ite K a) (Nu K R) (num l) (fun H => SqL K H a xs ∧ All R l H xs) := by
  refine ⟨fun i H hi ⟨q, r⟩ => ?_, fun H ⟨q, r⟩ => ?_, fun i H x H' hi ⟨q, r⟩ y => ?_⟩
  · rw [num_len, Paired.length r] at hi
    exact walk_enum.goes i H hi q
  · rw [num_len, Paired.length r]
    exact walk_enum.stops H q
  · rw [num_len, Paired.length r] at hi
    obtain ⟨T, u, v, rfl, hn, rfl, h1, h2⟩ := walk_enum.yields i H x H' hi q y
    obtain ⟨b, h3, h4⟩ := all_get r h2
    have e := Option.some.inj h1
    subst e
    exact ⟨Ex.new hn, (i, b), num_at h3, T, v, rfl, sqt_new, hR _ _ _ _ (Ex.new hn) h4⟩
theorem tw_enumT {xs : List V} (hR : ∀ a H H' x, Ex H H' → R a H x → R a H' x) : TW (Iet K a) (Nu K R) (num l) (fun H => SqT K H a xs ∧ All R l H xs) := by
  refine ⟨fun i H hi ⟨q, r⟩ => ?_, fun H ⟨q, r⟩ => ?_, fun i H x H' hi ⟨q, r⟩ y => ?_⟩
  · rw [num_len, Paired.length r] at hi
    exact walk_enumT.goes i H hi q
  · rw [num_len, Paired.length r]
    exact walk_enumT.stops H q
  · rw [num_len, Paired.length r] at hi
    obtain ⟨T, u, v, rfl, hn, rfl, h1, h2⟩ := walk_enumT.yields i H x H' hi q y
    obtain ⟨b, h3, h4⟩ := all_get r h2
    have e := Option.some.inj h1
    subst e
    exact ⟨Ex.new hn, (i, b), num_at h3, T, v, rfl, sqt_new, hR _ _ _ _ (Ex.new hn) h4⟩
theorem tw_enumS {w : List Sg} : TW (Ies (wdS w)) (Dt K) (num w) (fun _ => True) := by
  refine ⟨fun i H hi _ => ?_, fun H _ => ?_, fun i H x H' hi _ y => ?_⟩
  · rw [num_len, ← wdS_size] at hi
    exact walk_enumS.goes i H hi trivial
  · rw [num_len, ← wdS_size]
    exact walk_enumS.stops H trivial
  · rw [num_len, ← wdS_size] at hi
    obtain ⟨T, c, rfl, hn, rfl, h1⟩ := walk_enumS.yields i H x H' hi trivial y
    obtain ⟨s, h2, rfl⟩ := wdS_at h1
    refine ⟨Ex.new hn, (i, s), num_at h2, ?_⟩
    refine pair_dp sqt_new (nat_dp i) ?_
    rw [← sgS_C]
    exact sg_dp s
theorem tw_N [Ky α] {P : Program} {w : World} {d : Addr} {o : Obj} {ts : List (En α)} : TW (Itn P w d o ts) (Dt K) (ts.map (·.1)) (fun H => H d = some (.frz o (DN P w d ts)) ∧ Keys K H ts) := by
  refine ⟨fun i H hi ⟨q, r⟩ => ?_, fun H ⟨q, r⟩ => ?_, fun i H x H' hi ⟨q, r⟩ y => ?_⟩
  · rw [List.length_map] at hi
    exact walk_N.goes i H hi q
  · rw [List.length_map]
    exact walk_N.stops H q
  · rw [List.length_map] at hi
    obtain ⟨rfl, t, h1, rfl⟩ := walk_N.yields i H x H' hi q y
    exact ⟨.refl _, t.1, by rw [List.getElem?_map, h1]; rfl, r t (List.mem_of_getElem? h1)⟩
/-- an item of such a dict -/
def Im (K : PySem.W.Frag) [Ky α] : Rl (En α) := fun t H x => ∃ T, x = .ref T ∧ SqT K H T [.ref t.2.1, t.2.2] ∧ Dp K H (.ref t.2.1) (dat t.1)
theorem tw_Im [Ky α] {P : Program} {w : World} {d : Addr} {o : Obj} {ts : List (En α)} : TW (Iim P w d o ts) (Im K) ts (fun H => H d = some (.frz o (DN P w d ts)) ∧ Keys K H ts) := by
  refine ⟨fun i H hi ⟨q, r⟩ => walk_Im.goes i H hi q, fun H ⟨q, r⟩ => walk_Im.stops H q, fun i H x H' hi ⟨q, r⟩ y => ?_⟩
  obtain ⟨T, t, h1, rfl, hn, rfl⟩ := walk_Im.yields i H x H' hi q y
  exact ⟨Ex.new hn, t, h1, T, rfl, sqt_new, (r t (List.mem_of_getElem? h1)).ex (Ex.new hn)⟩
theorem TW.mono {J : It} {G G' : Hp → Prop} (t : TW J R l G) (h : ∀ H, G' H → G H) : TW J R l G' :=
  ⟨fun i H hi g => t.goes i H hi (h H g), fun H g => t.stops H (h H g), fun i H x H' hi g y => t.yields i H x H' hi (h H g) y⟩
end
/-! ### loops over them -/
section
variable {α β : Type} {J : It} {R : Rl α} {l : List α} {G : Hp → Prop}
theorem for_tw (w : TW J R l G) {g : TG} {tb : TS} {D : Ends} {σ : L2.St} {H : Hp} (Pv : Nat → L2.St → Hp → Prop) (h0 : Pv 0 σ H) (hG : ∀ i σ H, i ≤ l.length → Pv i σ H → G H)
    (hs : ∀ i a x σ H H', l[i]? = some a → Pv i σ H → Ex H H' → R a H' x → g x σ H' fun σ2 H2 => tb { D with nx := Pv (i + 1), ct := Pv (i + 1), bk := D.nx } σ2 H2) (hd : ∀ σ H, Pv l.length σ H → D.nx σ H) :
    ∃ W : Nat → Nat → L2.St → Hp → Prop, (∃ m, W 0 m σ H) ∧ ∀ i m σ H, W i m σ H →
      (J.stop i H ∧ D.nx σ H) ∨ (J.go i H ∧ ∃ N : L2.St → Hp → Prop, (∀ σ' H', N σ' H' → ∃ m', m' < m ∧ W (i + 1) m' σ' H') ∧ ∀ x H', J.yld i H x H' → g x σ H' fun σ2 H2 => tb { D with nx := N, ct := N, bk := D.nx } σ2 H2) := by
  refine ⟨fun i m σ H => m = l.length - i ∧ i ≤ l.length ∧ Pv i σ H, ⟨l.length, rfl, Nat.zero_le _, h0⟩, ?_⟩
  rintro i m σ H ⟨rfl, hi, p⟩
  have q := hG i σ H hi p
  rcases Nat.lt_or_ge i l.length with hlt | hge
  · refine .inr ⟨w.goes i H hlt q, Pv (i + 1), fun σ' H' p' => ⟨l.length - (i + 1), by omega, rfl, hlt, p'⟩, fun x H' y => ?_⟩
    obtain ⟨e, a, h1, h2⟩ := w.yields i H x H' hlt q y
    exact hs i a x σ H H' h1 p e h2
  · have e : i = l.length := by omega
    subst e
    exact .inl ⟨w.stops H q, hd σ H p⟩
theorem take_snoc {i : Nat} {a : α} (h : l[i]? = some a) : l.take (i + 1) = l.take i ++ [a] := by
  rw [List.take_add_one, h]
  rfl
theorem fm_snoc (f : α → Option β) {i : Nat} {a : α} (h : l[i]? = some a) : (l.take (i + 1)).filterMap f = (l.take i).filterMap f ++ (match f a with | some b => [b] | none => []) := by
  rw [take_snoc h, List.filterMap_append]
  congr 1
  rw [List.filterMap_cons, List.filterMap_nil]
  cases f a <;> rfl
theorem fm_len (f : α → Option β) (i : Nat) : ((l.take i).filterMap f).length ≤ i := Nat.le_trans (List.length_filterMap_le _ _) (by simp; omega)
/-- a comprehension: item a gives f a -/
theorem lc_tw (w : TW J R l G) (S : Rl β) (f : α → Option β) {g : TG} {tt : TT} {te : TE} {vs : List Nat} {σ : L2.St} {H1 : Hp} {D : Addr} {Qd : Hp → Prop} (hD : H1 D = none) (hG : ∀ H, Ex H1 H → G H)
    (hS : ∀ b H y acc acc', H D = some (.lst acc) → S b H y → S b (upd H D (.lst acc')) y) (hSx : ∀ b H H' y, Ex H H' → S b H y → S b H' y) (hlen : l.length ≤ sizeLine)
    (hs : ∀ a x H acc (N : V → Hp → Prop) (M : Hp → Prop), a ∈ l → Ex H1 H → H D = some (.lst acc) → R a H x → (∀ c y H4, f a = some c → Ex H H4 → S c H4 y → N y H4) → (f a = none → ∀ H3, Ex H H3 → M H3) →
      g x (wipe σ vs) H fun σ2 H2 => wipe σ2 vs = wipe σ vs ∧ tt σ2 H2 fun b H3 => if b = true then te σ2 H3 N else M H3)
    (hd : ∀ H acc, Ex H1 H → H D = some (.lst acc) → All S (l.filterMap f) H acc → Qd H) :
    ∃ W : Nat → Nat → Hp → Prop, (∃ m, W 0 m (upd H1 D (.lst []))) ∧ ∀ i m H, W i m H →
      (J.stop i H ∧ Qd H) ∨ (J.go i H ∧ ∃ Nx : Hp → Prop, (∀ H', Nx H' → ∃ m', m' < m ∧ W (i + 1) m' H') ∧ ∀ x H', J.yld i H x H' → g x (wipe σ vs) H' fun σ2 H2 => wipe σ2 vs = wipe σ vs ∧ tt σ2 H2 fun b H3 =>
        if b = true then te σ2 H3 fun y H4 => ∃ acc, H4 D = some (.lst acc) ∧ acc.length < sizeLine ∧ Nx (upd H4 D (.lst (acc ++ [y]))) else Nx H3) := by
  refine ⟨fun i m H => m = l.length - i ∧ i ≤ l.length ∧ Ex H1 H ∧ ∃ acc, H D = some (.lst acc) ∧ All S ((l.take i).filterMap f) H acc, ⟨l.length, rfl, Nat.zero_le _, Ex.new hD, [], upd_same, .nil⟩, ?_⟩
  rintro i m H ⟨rfl, hi, ex, acc, hacc, ha⟩
  have q := hG H ex
  rcases Nat.lt_or_ge i l.length with hlt | hge
  · refine .inr ⟨w.goes i H hlt q, fun H' => i + 1 ≤ l.length ∧ Ex H1 H' ∧ ∃ acc, H' D = some (.lst acc) ∧ All S ((l.take (i + 1)).filterMap f) H' acc, fun σ' p' => ⟨l.length - (i + 1), by omega, rfl, p'⟩, fun x H' y => ?_⟩
    obtain ⟨e, a, h1, h2⟩ := w.yields i H x H' hlt q y
    refine hs a x H' acc _ _ (List.mem_of_getElem? h1) (ex.trans e) (e _ _ hacc) h2 (fun c y H4 hc e4 sy => ?_) fun hn H3 e3 => ?_
    · have h4 := e4 _ _ (e _ _ hacc)
      have al : acc.length = ((l.take i).filterMap f).length := (Paired.length ha).symm
      have := fm_len (l := l) f i
      refine ⟨acc, h4, by omega, hlt, ((ex.trans e).trans e4).mut hD, _, upd_same, ?_⟩
      rw [fm_snoc f h1, hc]
      exact Paired.snoc (all_mono (fun b z hz => hS _ _ _ _ _ h4 (hSx _ _ _ _ (e.trans e4) hz)) ha) (hS _ _ _ _ _ h4 sy)
    · refine ⟨hlt, (ex.trans e).trans e3, acc, e3 _ _ (e _ _ hacc), ?_⟩
      rw [fm_snoc f h1, hn, List.append_nil]
      exact all_mono (fun b z hz => hSx _ _ _ _ (e.trans e3) hz) ha
  · have e : i = l.length := by omega
    subst e
    rw [List.take_length] at ha
    exact .inl ⟨w.stops H q, hd H acc ex hacc ha⟩
/-- the same where what is made is data -/
theorem lc_dt {K : PySem.W.Frag} [Ky β] (w : TW J R l G) (f : α → Option β) {g : TG} {tt : TT} {te : TE} {vs : List Nat} {σ : L2.St} {H1 : Hp} {D : Addr} {Qd : Hp → Prop} (hD : H1 D = none) (hG : ∀ H, Ex H1 H → G H) (hlen : l.length ≤ sizeLine)
    (hs : ∀ a x H acc (N : V → Hp → Prop) (M : Hp → Prop), a ∈ l → Ex H1 H → H D = some (.lst acc) → R a H x → (∀ c y H4, f a = some c → Ex H H4 → Dp K H4 y (dat c) → N y H4) → (f a = none → ∀ H3, Ex H H3 → M H3) →
      g x (wipe σ vs) H fun σ2 H2 => wipe σ2 vs = wipe σ vs ∧ tt σ2 H2 fun b H3 => if b = true then te σ2 H3 N else M H3)
    (hd : ∀ H acc, Ex H1 H → H D = some (.lst acc) → DpAll K H acc ((l.filterMap f).map dat) → Qd H) :
    ∃ W : Nat → Nat → Hp → Prop, (∃ m, W 0 m (upd H1 D (.lst []))) ∧ ∀ i m H, W i m H →
      (J.stop i H ∧ Qd H) ∨ (J.go i H ∧ ∃ Nx : Hp → Prop, (∀ H', Nx H' → ∃ m', m' < m ∧ W (i + 1) m' H') ∧ ∀ x H', J.yld i H x H' → g x (wipe σ vs) H' fun σ2 H2 => wipe σ2 vs = wipe σ vs ∧ tt σ2 H2 fun b H3 =>
        if b = true then te σ2 H3 fun y H4 => ∃ acc, H4 D = some (.lst acc) ∧ acc.length < sizeLine ∧ Nx (upd H4 D (.lst (acc ++ [y]))) else Nx H3) :=
  lc_tw w (Dt K) f hD hG (fun _ _ _ _ _ h s => dat_lt (Lt.mut (noT_lst h)) s) (fun _ _ _ _ e s => s.ex e) hlen hs fun H acc e h a => hd H acc e h (dat_all a)
/-- the same where bools are made, no test -/
theorem lc_bl (w : TW J R l G) (f : α → Bool) {g : TG} {tt : TT} {te : TE} {vs : List Nat} {σ : L2.St} {H1 : Hp} {D : Addr} {Qd : Hp → Prop} (hD : H1 D = none) (hG : ∀ H, Ex H1 H → G H) (hlen : l.length ≤ sizeLine)
    (hs : ∀ a x H acc (N : V → Hp → Prop) (M : Hp → Prop), a ∈ l → Ex H1 H → H D = some (.lst acc) → R a H x → (∀ H4, Ex H H4 → N (.bl (f a)) H4) →
      g x (wipe σ vs) H fun σ2 H2 => wipe σ2 vs = wipe σ vs ∧ tt σ2 H2 fun b H3 => if b = true then te σ2 H3 N else M H3)
    (hd : ∀ H, Ex H1 H → H D = some (.lst ((l.map f).map V.bl)) → Qd H) :
    ∃ W : Nat → Nat → Hp → Prop, (∃ m, W 0 m (upd H1 D (.lst []))) ∧ ∀ i m H, W i m H →
      (J.stop i H ∧ Qd H) ∨ (J.go i H ∧ ∃ Nx : Hp → Prop, (∀ H', Nx H' → ∃ m', m' < m ∧ W (i + 1) m' H') ∧ ∀ x H', J.yld i H x H' → g x (wipe σ vs) H' fun σ2 H2 => wipe σ2 vs = wipe σ vs ∧ tt σ2 H2 fun b H3 =>
        if b = true then te σ2 H3 fun y H4 => ∃ acc, H4 D = some (.lst acc) ∧ acc.length < sizeLine ∧ Nx (upd H4 D (.lst (acc ++ [y]))) else Nx H3) :=
  lc_tw w (fun b _ y => y = .bl b) (fun a => some (f a)) hD hG (fun _ _ _ _ _ _ s => s) (fun _ _ _ _ _ s => s) hlen
    (fun a x H acc N M ha e hacc hR hN _ => hs a x H acc N M ha e hacc hR fun H4 e4 => hN (f a) _ H4 rfl e4 rfl)
    fun H acc e h a => hd H e (by
      rw [h]
      have : ∀ (m : List Bool) (acc : List V), Paired (fun (b : Bool) y => y = V.bl b) m acc → acc = m.map V.bl := by
        intro m
        induction m with
        | nil => intro acc p; cases p; rfl
        | cons b m ih => intro acc p; cases p with
          | cons h t => rw [h, ih _ t]; rfl
      have e2 := this _ _ a
      have e3 : l.filterMap (fun a => some (f a)) = l.map f := by
        show List.filterMap (some ∘ f) l = _
        rw [List.filterMap_eq_map]
      rw [e2, e3])
/-- two clauses -/
theorem lc2_dt {K : PySem.W.Frag} {γ : Type} [Ky γ] (w : TW J R l G) {R1 : Rl β} (l1 : α → List β) (f : α → β → Option γ) {g : TG} {tt : TT} {wi1 : TI} {g1 : TG} {tt1 : TT} {te : TE} {vs vs1 : List Nat} {σ : L2.St} {H1 : Hp} {D : Addr} {Qd : Hp → Prop} (hD : H1 D = none) (hG : ∀ H, Ex H1 H → G H) (hlen : (l.map fun a => (l1 a).length).sum ≤ sizeLine)
    (hs : ∀ a x H acc (M : L2.St → It → Hp → Prop) (M' : Hp → Prop), a ∈ l → Ex H1 H → H D = some (.lst acc) → R a H x →
      (∀ J1 σ2 H4 (G1 : Hp → Prop), Ex H H4 → TW J1 R1 (l1 a) G1 → (∀ H', Ex H1 H' → G1 H') →
        (∀ b x H5 acc (N : V → Hp → Prop) (N' : Hp → Prop), b ∈ l1 a → Ex H1 H5 → H5 D = some (.lst acc) → R1 b H5 x → (∀ c y H7, f a b = some c → Ex H5 H7 → Dp K H7 y (dat c) → N y H7) → (f a b = none → ∀ H6, Ex H5 H6 → N' H6) →
          g1 x (wipe σ2 vs1) H5 fun σ3 H6 => wipe σ3 vs1 = wipe σ2 vs1 ∧ tt1 σ3 H6 fun b H6 => if b = true then te σ3 H6 N else N' H6) → M σ2 J1 H4) →
      (l1 a = [] → ∀ H3, Ex H H3 → M' H3) →
      g x (wipe σ vs) H fun σ2 H2 => wipe σ2 vs = wipe σ vs ∧ tt σ2 H2 fun b H3 => if b = true then wi1 σ2 H3 (M σ2) else M' H3)
    (hd : ∀ H acc, Ex H1 H → H D = some (.lst acc) → DpAll K H acc ((l.flatMap fun a => (l1 a).filterMap (f a)).map dat) → Qd H) :
    ∃ W : Nat → Nat → Hp → Prop, (∃ m, W 0 m (upd H1 D (.lst []))) ∧ ∀ i m H, W i m H →
      (J.stop i H ∧ Qd H) ∨ (J.go i H ∧ ∃ Nx : Hp → Prop, (∀ H', Nx H' → ∃ m', m' < m ∧ W (i + 1) m' H') ∧ ∀ x H', J.yld i H x H' → g x (wipe σ vs) H' fun σ2 H2 => wipe σ2 vs = wipe σ vs ∧ tt σ2 H2 fun b H3 =>
        if b = true then wi1 σ2 H3 fun J1 H4 => ∃ W1 : Nat → Nat → Hp → Prop, (∃ m, W1 0 m H4) ∧ ∀ j k H, W1 j k H →
          (J1.stop j H ∧ Nx H) ∨ (J1.go j H ∧ ∃ Nx1 : Hp → Prop, (∀ H', Nx1 H' → ∃ k', k' < k ∧ W1 (j + 1) k' H') ∧ ∀ x H', J1.yld j H x H' → g1 x (wipe σ2 vs1) H' fun σ3 H5 => wipe σ3 vs1 = wipe σ2 vs1 ∧ tt1 σ3 H5 fun b H6 =>
            if b = true then te σ3 H6 fun y H7 => ∃ acc, H7 D = some (.lst acc) ∧ acc.length < sizeLine ∧ Nx1 (upd H7 D (.lst (acc ++ [y]))) else Nx1 H6)
        else Nx H3) := by
  refine ⟨fun i m H => m = l.length - i ∧ i ≤ l.length ∧ Ex H1 H ∧ ∃ acc, H D = some (.lst acc) ∧ DpAll K H acc (((l.take i).flatMap fun a => (l1 a).filterMap (f a)).map dat), ⟨l.length, rfl, Nat.zero_le _, Ex.new hD, [], upd_same, .nil⟩, ?_⟩
  rintro i m H ⟨rfl, hi, ex, acc, hacc, ha⟩
  have q := hG H ex
  rcases Nat.lt_or_ge i l.length with hlt | hge
  · refine .inr ⟨w.goes i H hlt q, fun H' => i + 1 ≤ l.length ∧ Ex H1 H' ∧ ∃ acc, H' D = some (.lst acc) ∧ DpAll K H' acc (((l.take (i + 1)).flatMap fun a => (l1 a).filterMap (f a)).map dat), fun σ' p' => ⟨l.length - (i + 1), by omega, rfl, p'⟩, fun x H' y => ?_⟩
    obtain ⟨e, a, h1, h2⟩ := w.yields i H x H' hlt q y
    have tk : (l.take (i + 1)).flatMap (fun a => (l1 a).filterMap (f a)) = ((l.take i).flatMap fun a => (l1 a).filterMap (f a)) ++ (l1 a).filterMap (f a) := by
      rw [take_snoc h1, List.flatMap_append]
      simp
    have room : ((l.take i).flatMap fun a => (l1 a).filterMap (f a)).length + (l1 a).length ≤ sizeLine := by
      have bnd : ∀ m : List α, (m.flatMap fun a => (l1 a).filterMap (f a)).length ≤ (m.map fun a => (l1 a).length).sum := by
        intro m
        induction m with
        | nil => exact Nat.le_refl _
        | cons b m ih =>
          rw [List.flatMap_cons, List.length_append, List.map_cons, List.sum_cons]
          have := List.length_filterMap_le (f b) (l1 b)
          omega
      have b1 := bnd (l.take i)
      have b2 : ((l.take (i + 1)).map fun a => (l1 a).length).sum ≤ (l.map fun a => (l1 a).length).sum := by
        have := List.take_append_drop (i + 1) l
        rw [← this, List.map_append, List.sum_append, List.take_append_drop]
        exact Nat.le_add_right _ _
      rw [take_snoc h1, List.map_append, List.sum_append, List.map_cons, List.map_nil, List.sum_cons, List.sum_nil] at b2
      omega
    refine hs a x H' acc _ _ (List.mem_of_getElem? h1) (ex.trans e) (e _ _ hacc) h2 (fun J1 σ2 H4 G1 e4 w1 hG1 turn => ?_) fun hn H3 e3 => ?_
    · have h4 := e4 _ _ (e _ _ hacc)
      have x4 := (ex.trans e).trans e4
      refine ⟨fun j k H => k = (l1 a).length - j ∧ j ≤ (l1 a).length ∧ Ex H1 H ∧ ∃ acc, H D = some (.lst acc) ∧ DpAll K H acc ((((l.take i).flatMap fun a => (l1 a).filterMap (f a)) ++ ((l1 a).take j).filterMap (f a)).map dat), ⟨(l1 a).length, rfl, Nat.zero_le _, x4, acc, h4, ?_⟩, ?_⟩
      · simpa using ha.ex (e.trans e4)
      rintro j k H5 ⟨rfl, hj, ex5, acc5, hacc5, ha5⟩
      have q5 := hG1 H5 ex5
      rcases Nat.lt_or_ge j (l1 a).length with hlt5 | hge5
      · refine .inr ⟨w1.goes j H5 hlt5 q5, fun H => j + 1 ≤ (l1 a).length ∧ Ex H1 H ∧ ∃ acc, H D = some (.lst acc) ∧ DpAll K H acc ((((l.take i).flatMap fun a => (l1 a).filterMap (f a)) ++ ((l1 a).take (j + 1)).filterMap (f a)).map dat), fun σ' p' => ⟨(l1 a).length - (j + 1), by omega, rfl, p'⟩, fun x H' y => ?_⟩
        obtain ⟨e', b, k1, k2⟩ := w1.yields j H5 x H' hlt5 q5 y
        refine turn b x H' acc5 _ _ (List.mem_of_getElem? k1) (ex5.trans e') (e' _ _ hacc5) k2 (fun c y H7 hc e7 sy => ?_) fun hn H6 e6 => ?_
        · have h7 := e7 _ _ (e' _ _ hacc5)
          have al : acc5.length = (((l.take i).flatMap fun a => (l1 a).filterMap (f a)) ++ ((l1 a).take j).filterMap (f a)).length := by rw [dpAll_len ha5, List.length_map]
          have := fm_len (l := l1 a) (f a) j
          rw [List.length_append] at al
          refine ⟨acc5, h7, by omega, hlt5, ((ex5.trans e').trans e7).mut hD, _, upd_same, ?_⟩
          rw [fm_snoc (f a) k1, hc, ← List.append_assoc, List.map_append]
          exact dpAll_snoc (dats_lt (Lt.mut (noT_lst h7)) (ha5.ex (e'.trans e7))) (dat_lt (Lt.mut (noT_lst h7)) sy)
        · refine ⟨hlt5, (ex5.trans e').trans e6, acc5, e6 _ _ (e' _ _ hacc5), ?_⟩
          rw [fm_snoc (f a) k1, hn, List.append_nil]
          exact ha5.ex (e'.trans e6)
      · have ej : j = (l1 a).length := by omega
        subst ej
        rw [List.take_length] at ha5
        exact .inl ⟨w1.stops H5 q5, hlt, ex5, acc5, hacc5, by rw [tk]; exact ha5⟩
    · refine ⟨hlt, (ex.trans e).trans e3, acc, e3 _ _ (e _ _ hacc), ?_⟩
      rw [tk, hn]
      simpa using ha.ex (e.trans e3)
  · have e : i = l.length := by omega
    subst e
    rw [List.take_length] at ha
    exact .inl ⟨w.stops H q, hd H acc ex hacc ha⟩
/-! ### dict comprehensions with typed keys -/
def addK [DecidableEq β] (ks : List β) (a : β) : List β := if a ∈ ks then ks else ks ++ [a]
def keysOf [DecidableEq β] (l : List β) : List β := l.foldl addK []
theorem mem_addK [DecidableEq β] {ks : List β} {a b : β} : b ∈ addK ks a ↔ b ∈ ks ∨ b = a := by
  unfold addK
  split
  · rename_i h
    exact ⟨.inl, fun z => z.elim (fun y => y) fun e => e ▸ h⟩
  · simp
theorem mem_foldK [DecidableEq β] {b : β} : ∀ {l ks : List β}, b ∈ l.foldl addK ks ↔ b ∈ ks ∨ b ∈ l
  | [], ks => by simp
  | a :: l, ks => by rw [List.foldl_cons, mem_foldK, mem_addK, List.mem_cons, or_assoc]
theorem mem_keysOf [DecidableEq β] {b : β} {l : List β} : b ∈ keysOf l ↔ b ∈ l := by
  unfold keysOf
  rw [mem_foldK]
  simp
theorem foldK_nodup [DecidableEq β] : ∀ {l ks : List β}, ks.Nodup → (l.foldl addK ks).Nodup
  | [], ks, h => h
  | a :: l, ks, h => by
    rw [List.foldl_cons]
    refine foldK_nodup ?_
    unfold addK
    split
    · exact h
    · rename_i ha
      rw [List.nodup_append]
      exact ⟨h, by simp, fun x hx y hy => by simp at hy; subst hy; intro e; subst e; exact ha hx⟩
theorem keysOf_nodup [DecidableEq β] (l : List β) : (keysOf l).Nodup := foldK_nodup List.nodup_nil
theorem foldK_same [DecidableEq β] : ∀ {l ks : List β}, (ks ++ l).Nodup → l.foldl addK ks = ks ++ l
  | [], ks, _ => by simp
  | a :: l, ks, h => by
    rw [List.foldl_cons]
    have ha : a ∉ ks := fun z => by
      rw [List.nodup_append] at h
      exact h.2.2 a z a List.mem_cons_self rfl
    have e : addK ks a = ks ++ [a] := if_neg ha
    rw [e, foldK_same (by simpa using h)]
    simp
theorem keysOf_same [DecidableEq β] {l : List β} (h : l.Nodup) : keysOf l = l := foldK_same (by simpa using h)
theorem keysOf_snoc [DecidableEq β] (l : List β) (a : β) : keysOf (l ++ [a]) = addK (keysOf l) a := by
  unfold keysOf
  rw [List.foldl_append]
  rfl
theorem foldK_len [DecidableEq β] : ∀ {l ks : List β}, (l.foldl addK ks).length ≤ ks.length + l.length
  | [], ks => Nat.le_refl _
  | a :: l, ks => by
    rw [List.foldl_cons, List.length_cons]
    have := foldK_len (l := l) (ks := addK ks a)
    have h2 : (addK ks a).length ≤ ks.length + 1 := by
      unfold addK
      split <;> simp
    omega
theorem keysOf_len [DecidableEq β] (l : List β) : (keysOf l).length ≤ l.length := by
  have := foldK_len (l := l) (ks := [])
  simpa [keysOf] using this
theorem putE_addK [DecidableEq β] (ts : List (En β)) (a : β) (b : Addr) (v : V) : (putE ts a b v).map (·.1) = addK (ts.map (·.1)) a := putE_keys ts a b v
/-- {k: v for ..}: item a gives the key f a; whatever the value -/
theorem dc_tw {P : Program} {wd : World} {K : PySem.W.Frag} [Ky β] [DecidableEq β] (hdp : dep β ≤ 8) (w : TW J R l G) (f : α → Option β) {g : TG} {tt : TT} {tk tv : TE} {vs : List Nat} {σ : L2.St} {H1 : Hp} {D : Addr} {Qd : Hp → Prop} (hD : H1 D = none) (hG : ∀ H, Ex H1 H → G H) (hlen : l.length ≤ sizeLine)
    (hs : ∀ a x H ts (N : V → V → Hp → Prop) (M : Hp → Prop), a ∈ l → Ex H1 H → H D = some (DN (α := β) P wd D ts) → R a H x → (∀ c y z H4, f a = some c → Ex H H4 → Dp K H4 y (dat c) → (∃ b, y = .ref b) → N y z H4) → (f a = none → ∀ H3, Ex H H3 → M H3) →
      g x (wipe σ vs) H fun σ2 H2 => wipe σ2 vs = wipe σ vs ∧ tt σ2 H2 fun b H3 => if b = true then tk σ2 H3 fun y H4 => tv σ2 H4 fun z H5 => N y z H5 else M H3)
    (hd : ∀ H ts, Ex H1 H → H D = some (DN (α := β) P wd D ts) → Keys K H ts → ts.map (·.1) = keysOf (l.filterMap f) → Qd H) :
    ∃ W : Nat → Nat → Hp → Prop, (∃ m, W 0 m (upd H1 D ((kdN β P wd K hdp).o0 D))) ∧ ∀ i m H, W i m H →
      (J.stop i H ∧ Qd H) ∨ (J.go i H ∧ ∃ Nx : Hp → Prop, (∀ H', Nx H' → ∃ m', m' < m ∧ W (i + 1) m' H') ∧ ∀ x H', J.yld i H x H' → g x (wipe σ vs) H' fun σ2 H2 => wipe σ2 vs = wipe σ vs ∧ tt σ2 H2 fun b H3 =>
        if b = true then tk σ2 H3 fun y H4 => tv σ2 H4 fun z H5 => (kdN β P wd K hdp).st D y z H5 Nx else Nx H3) := by
  refine ⟨fun i m H => m = l.length - i ∧ i ≤ l.length ∧ Ex H1 H ∧ ∃ ts, H D = some (DN (α := β) P wd D ts) ∧ Keys K H ts ∧ ts.map (·.1) = keysOf ((l.take i).filterMap f), ⟨l.length, rfl, Nat.zero_le _, Ex.new hD, [], upd_same, Keys.nil, rfl⟩, ?_⟩
  rintro i m H ⟨rfl, hi, ex, ts, hts, hk, ek⟩
  have q := hG H ex
  rcases Nat.lt_or_ge i l.length with hlt | hge
  · refine .inr ⟨w.goes i H hlt q, fun H' => i + 1 ≤ l.length ∧ Ex H1 H' ∧ ∃ ts, H' D = some (DN (α := β) P wd D ts) ∧ Keys K H' ts ∧ ts.map (·.1) = keysOf ((l.take (i + 1)).filterMap f), fun σ' p' => ⟨l.length - (i + 1), by omega, rfl, p'⟩, fun x H' y => ?_⟩
    obtain ⟨e, a, h1, h2⟩ := w.yields i H x H' hlt q y
    refine hs a x H' ts (fun y z H5 => (kdN β P wd K hdp).st D y z H5 _) _ (List.mem_of_getElem? h1) (ex.trans e) (e _ _ hts) h2 (fun c y z H4 hc e4 sy hb => ?_) fun hn H3 e3 => ?_
    · obtain ⟨b, rfl⟩ := hb
      have h4 := e4 _ _ (e _ _ hts)
      have al : ts.length = (keysOf ((l.take i).filterMap f)).length := by rw [← ek, List.length_map]
      have l1 := keysOf_len ((l.take i).filterMap f)
      have l2 := fm_len (l := l) f i
      refine ⟨ts, c, b, rfl, h4, hk.ld (e.trans e4).ld, sy, by omega, hlt, ((ex.trans e).trans e4).mut hD, _, upd_same, ?_, ?_⟩
      · exact ((hk.ld (e.trans e4).ld).put sy).lt (Lt.mut (noT_DN h4))
      · rw [putE_addK, ek, fm_snoc f h1, hc, keysOf_snoc]
    · refine ⟨hlt, (ex.trans e).trans e3, ts, e3 _ _ (e _ _ hts), hk.ld (e.trans e3).ld, ?_⟩
      rw [fm_snoc f h1, hn, List.append_nil, ek]
  · have e : i = l.length := by omega
    subst e
    rw [List.take_length] at ek
    exact .inl ⟨w.stops H q, hd H ts ex hts hk ek⟩
end
end K26

set_option Elab.async false
set_option linter.all false
set_option maxRecDepth 100000
set_option maxHeartbeats 4000000
/-! words: is_integer, is_letter, is_word, is_list, want_letter, want_word. -/
namespace K26
open PySem PySem.Spec PyProof.Rows L2
open Ky C8
section
variable {P : Program} {w : World} {K : PySem.W.Frag} {mg : Str → Option Value} {base : Heap} {CS CQ f : Addr} {fd : FuncData}
theorem ifP {p : Prop} [Decidable p] {A B : Prop} (h : p) (a : A) : if decide p = true then A else B := by
  rw [if_pos (decide_eq_true h)]
  exact a
theorem ifN {p : Prop} [Decidable p] {A B : Prop} (h : ¬ p) (b : B) : if decide p = true then A else B := by
  rw [if_neg (by simpa using h)]
  exact b
theorem ifNP {p : Prop} [Decidable p] {A B : Prop} (h : p) (b : B) : if (!decide p) = true then A else B := by
  rw [if_neg (by simpa using h)]
  exact b
theorem ifNN {p : Prop} [Decidable p] {A B : Prop} (h : ¬ p) (a : A) : if (!decide p) = true then A else B := by
  rw [if_pos (by simpa using h)]
  exact a
theorem sc_is_integer : FnScope ["value"] ["value"] (defScope y_is_integer) := ⟨rfl, rfl, rfl, by decide +kernel, rfl, by decide +kernel, by decide +kernel⟩
def sp_is_integer : Sp := spB fun vs H b => ∃ i : Int, vs = [.int i] ∧ b = true
theorem c_is_integer (T : Tx K mg CS CQ) (F : Fx K mg "is_integer" y_is_integer ["value"] f fd) : C8.Cal P w K mg base 1 "is_integer" sp_is_integer [] := by
  refine F.cal sc_is_integer (fun vs H Q E h => ?_) (fun cdv A outer s H vs Q E hr h => ?_)
  · obtain ⟨b, ⟨i, rfl, _⟩, _⟩ := h
    rfl
  obtain ⟨b, ⟨i, rfl, rfl⟩, q⟩ := h
  refine ⟨_, (pss_one (ps_ret (pe_and (pe_callB (call_isi) (by rfl) T.isinstance (by decide +kernel) (pa_cons (pv 0) (pa_cons (gT (n := "int") (by rfl) T.int (by decide +kernel)) pa_nil))) (pe_one (pe_not (pe_callB (call_isi) (by rfl) T.isinstance (by decide +kernel) (pa_cons (pv 0) (pa_cons (gT (n := "bool") (by rfl) T.bool (by decide +kernel)) pa_nil)))))))), ?_⟩
  refine ⟨_, rfl, _, _, .type "int", .type "int", true, rfl, .ty "int", .base (.int i), kit_ty (by decide +kernel), true, rfl, ?_⟩
  exact ⟨_, rfl, _, _, .type "int", .type "bool", false, rfl, .ty "bool", .base (.int i), kit_ty (by decide +kernel), false, rfl, q H (.refl H)⟩
theorem sc_is_letter : FnScope ["value"] ["value"] (defScope y_is_letter) := ⟨rfl, rfl, rfl, by decide +kernel, rfl, by decide +kernel, by decide +kernel⟩
def sp_is_letter : Sp := spB fun vs H b => ∃ s : Sg, vs = [.str (sgS s)] ∧ s.low = true ∧ b = true
theorem sg_len (s : Sg) : (sgS s).length = 1 := by cases s <;> rfl
theorem low_letters {s : Sg} (h : s.low = true) : decide (sgC s ∈ ("abcdef" : Str).cps.toList) = true := by
  cases s with
  | a => decide +kernel
  | b => decide +kernel
  | A => cases h
  | B => cases h
theorem c_is_letter (T : Tx K mg CS CQ) (F : Fx K mg "is_letter" y_is_letter ["value"] f fd) : C8.Cal P w K mg base 1 "is_letter" sp_is_letter [] := by
  refine F.cal sc_is_letter (fun vs H Q E h => ?_) (fun cdv A outer s H vs Q E hr h => ?_)
  · obtain ⟨b, ⟨i, rfl, _⟩, _⟩ := h
    rfl
  obtain ⟨b, ⟨c, rfl, hl, rfl⟩, q⟩ := h
  refine ⟨_, (pss_one (ps_ret (pe_and (pe_callB (call_isi) (by rfl) T.isinstance (by decide +kernel) (pa_cons (pv 0) (pa_cons (gT (n := "str") (by rfl) T.str (by decide +kernel)) pa_nil))) (pe_and (pe_cmpR (op_eq) (pe_callB (k_len (K := K) rfl) (by rfl) T.len (by decide +kernel) (pa_cons (pv 0) pa_nil)) pe_int (by rfl)) (pe_one (pe_cmpR (op_in_sign) (pv 0) (gS (by rfl) T.letters) (by rfl))))))), ?_⟩
  refine ⟨_, rfl, _, _, .type "str", .type "str", true, rfl, .ty "str", .base (.str _), kit_ty (by decide +kernel), true, rfl, ?_⟩
  refine ⟨_, rfl, _, 1, rfl, ⟨by rw [sg_len]; decide, by rw [sg_len]⟩, rfl, true, rfl, ?_⟩
  refine ⟨_, rfl, sgC c, _, congrArg V.str (sgS_C c), rfl, ?_⟩
  have q2 := q H (.refl H)
  rw [← low_letters hl] at q2
  exact q2
theorem sc_is_word : FnScope ["value", "sign"] ["value"] (defScope y_is_word) := ⟨rfl, rfl, rfl, by decide +kernel, rfl, by decide +kernel, by decide +kernel⟩
def sp_is_word : Sp := spB fun vs H b => ∃ s : List Sg, vs = [.str (wdS s)] ∧ 1 ≤ s.length ∧ s.length ≤ 12 ∧ (∀ c ∈ s, c.low = true) ∧ b = true
theorem c_is_word (T : Tx K mg CS CQ) (F : Fx K mg "is_word" y_is_word ["value"] f fd) : C8.Cal P w K mg base 1 "is_word" sp_is_word [] := by
  refine F.cal sc_is_word (fun vs H Q E h => ?_) (fun cdv A outer s H vs Q E hr h => ?_)
  · obtain ⟨b, ⟨i, rfl, _⟩, _⟩ := h
    rfl
  obtain ⟨b, ⟨s', rfl, h1, h2, h3, rfl⟩, q⟩ := h
  refine ⟨_, (pss_cons (ps_if (PW.pt (pw_or (pt_not (pt_val (pe_callB (call_isi) (by rfl) T.isinstance (by decide +kernel) (pa_cons (pv 0) (pa_cons (gT (n := "str") (by rfl) T.str (by decide +kernel)) pa_nil))))) (pw_or1 (pt_not (pt_chain op_le op_le pe_int (pe_callB (k_len (K := K) rfl) (by rfl) T.len (by decide +kernel) (pa_cons (pv 0) pa_nil)) (gI (by rfl) T.longest)))))) (pss_one (ps_ret pe_bl)) pss_nil)
    (pss_one (ps_ret (pe_callB (k_all (K := K) rfl rfl) (by rfl) T.all (by decide +kernel) (pa_cons (pe_lc (own := [("sign", 1)]) rfl sc_is_word.nd ((pi_str (pv 0))) (blkOk_by (by kernel_rfl)) (fun _ _ _ _ _ => (pn 1 sc_is_word.nd)) (fun _ _ _ _ _ => pts_nil) (fun _ _ _ _ _ => (pe_cmpR (op_in_sign) (pv 1) (gS (by rfl) T.letters) (by rfl)))) pa_nil))))), ?_⟩
  refine ⟨_, rfl, _, _, .type "str", .type "str", true, rfl, .ty "str", .base (.str _), kit_ty (by decide +kernel), true, rfl, iteF ?_⟩
  refine ⟨_, rfl, _, (s'.length : Nat), rfl, ⟨by rw [wdS_len, sizeLine_eq]; omega, (wdS_len s').symm⟩, 1, _, rfl, rfl, _, rfl, ifP (by omega) ⟨_, _, rfl, rfl, _, rfl, ifNP (by omega) ?_⟩⟩
  refine ⟨_, rfl, _, rfl, fun D hD => ?_⟩
  refine lc_bl (tw_str (K := K) (w := s')) (fun _ => true) hD (fun _ _ => trivial) (by rw [sizeLine_eq]; omega) (fun c x H1 acc N M hc e1 hacc hx hN => ?_) fun H1 e1 hD1 => ?_
  · have := dp_sg hx
    subst this
    refine ⟨rfl, _, rfl, sgC c, _, congrArg V.str (sgS_C c), rfl, ?_⟩
    have q2 := hN H1 (.refl H1)
    rw [← low_letters (h3 c hc)] at q2
    exact q2
  · refine ⟨D, s'.map fun _ => true, rfl, SqL.of hD1, ?_⟩
    have e2 : (s'.map fun _ => true).all id = true := by simp
    show Q (.bl ((s'.map fun _ => true).all id)) H1
    rw [e2]
    exact q H1 e1
theorem sc_is_list : FnScope ["value"] ["value"] (defScope y_is_list) := ⟨rfl, rfl, rfl, by decide +kernel, rfl, by decide +kernel, by decide +kernel⟩
def sp_is_list : Sp := spB fun vs H b => ∃ a, vs = [.ref a] ∧ ((∃ xs, SqL K H a xs) ∨ ∃ xs, SqT K H a xs) ∧ b = true
theorem c_is_list (T : Tx K mg CS CQ) (F : Fx K mg "is_list" y_is_list ["value"] f fd) : C8.Cal P w K mg base 1 "is_list" (sp_is_list (K := K)) [] := by
  refine F.cal sc_is_list (fun vs H Q E h => ?_) (fun cdv A outer s H vs Q E hr h => ?_)
  · obtain ⟨b, ⟨i, rfl, _⟩, _⟩ := h
    rfl
  obtain ⟨b, ⟨a, rfl, ha, rfl⟩, q⟩ := h
  refine ⟨_, (pss_one (ps_ret (pe_callB (call_isiT) (by rfl) T.isinstance (by decide +kernel) (pa_cons (pv 0) (pa_cons (pe_tup (pa_cons (gT (n := "list") (by rfl) T.list (by decide +kernel)) (pa_cons (gT (n := "tuple") (by rfl) T.tuple (by decide +kernel)) pa_nil))) pa_nil))))), ?_⟩
  refine ⟨_, rfl, by show 2 ≤ sizeLine; decide, fun p hp => ?_⟩
  have ty : ∃ t : String, TyX K (upd H p (.tup [.ty "list", .ty "tuple"])) (.ref a) (.type t) ∧ PySem.W.kitAny K (.type t) [.type "list", .type "tuple"] = some true := by
    have e : Ex H (upd H p (.tup [.ty "list", .ty "tuple"])) := Ex.new hp
    have kl : PySem.W.kitAny K (.type "list") [.type "list", .type "tuple"] = some true := kitAny_cons (b := true) (kit_ty (by decide +kernel)) (fun z => by cases z) fun _ => rfl
    have kt : PySem.W.kitAny K (.type "tuple") [.type "list", .type "tuple"] = some true := kitAny_cons (b := false) (kit_ty (by decide +kernel)) (fun _ => kitAny_cons (b := true) (kit_ty (by decide +kernel)) (fun z => by cases z) fun _ => rfl) fun z => by cases z
    rcases ha with ⟨xs, h⟩ | ⟨xs, h⟩
    · refine ⟨"list", ?_, kl⟩
      rcases h with (h | ⟨o, h⟩) | ⟨o, its, n, h, hc, _⟩
      · exact .base (.lst (e _ _ h))
      · exact .base (.frz (e _ _ h))
      · exact .kList h hc
    · refine ⟨"tuple", ?_, kt⟩
      rcases h with (h | ⟨o, h⟩) | ⟨o, its, n, h, hc, _⟩
      · exact .base (.tup (e _ _ h))
      · exact .fTuple (e _ _ h)
      · exact .kTuple h hc
  obtain ⟨t, ty, kt⟩ := ty
  exact ⟨_, p, _, .type t, [.type "list", .type "tuple"], true, rfl, upd_same, .cons (.ty "list") (.cons (.ty "tuple") .nil), ty, kt, q _ (Ex.new hp)⟩
theorem sc_want_letter : FnScope ["value"] ["value"] (defScope y_want_letter) := ⟨rfl, rfl, rfl, by decide +kernel, rfl, by decide +kernel, by decide +kernel⟩
def sp_want_letter : Sp := spU fun vs H => ∃ s : Sg, vs = [.str (sgS s)] ∧ s.low = true
theorem c_want_letter (T : Tx K mg CS CQ) (F : Fx K mg "want_letter" y_want_letter ["value"] f fd) (c_is_letter : C8.Cal P w K mg base 1 "is_letter" sp_is_letter []) : C8.Cal P w K mg base 2 "want_letter" sp_want_letter [] := by
  refine F.cal sc_want_letter (fun vs H Q E h => ?_) (fun cdv A outer s H vs Q E hr h => ?_)
  · obtain ⟨⟨i, rfl, _⟩, _⟩ := h
    rfl
  obtain ⟨⟨c, rfl, hl⟩, q⟩ := h
  refine ⟨_, (pss_one (ps_if (pt_not (pt_val (pe_c c_is_letter hr (by decide) (by rfl) (pa_cons (pv 0) pa_nil)))) (pss_one ps_never) pss_nil)), ?_⟩
  exact ⟨_, rfl, true, ⟨c, rfl, hl, rfl⟩, fun H' e => ⟨true, rfl, iteF (q H' e)⟩⟩
theorem sc_want_word : FnScope ["value"] ["value"] (defScope y_want_word) := ⟨rfl, rfl, rfl, by decide +kernel, rfl, by decide +kernel, by decide +kernel⟩
def sp_want_word : Sp := spU fun vs H => ∃ s : List Sg, vs = [.str (wdS s)] ∧ 1 ≤ s.length ∧ s.length ≤ 12 ∧ (∀ c ∈ s, c.low = true)
theorem c_want_word (T : Tx K mg CS CQ) (F : Fx K mg "want_word" y_want_word ["value"] f fd) (c_is_word : C8.Cal P w K mg base 1 "is_word" sp_is_word []) : C8.Cal P w K mg base 2 "want_word" sp_want_word [] := by
  refine F.cal sc_want_word (fun vs H Q E h => ?_) (fun cdv A outer s H vs Q E hr h => ?_)
  · obtain ⟨⟨i, rfl, _⟩, _⟩ := h
    rfl
  obtain ⟨⟨c, rfl, h1, h2, h3⟩, q⟩ := h
  refine ⟨_, (pss_one (ps_if (pt_not (pt_val (pe_c c_is_word hr (by decide) (by rfl) (pa_cons (pv 0) pa_nil)))) (pss_one ps_never) pss_nil)), ?_⟩
  exact ⟨_, rfl, true, ⟨c, rfl, h1, h2, h3, rfl⟩, fun H' e => ⟨true, rfl, iteF (q H' e)⟩⟩
end
end K26

set_option Elab.async false
set_option linter.all false
set_option maxRecDepth 100000
set_option maxHeartbeats 4000000
/-! store: is_node, is_tie, want_nodes, want_node, want_tie, want_few_ties, want_ties. -/
namespace K26
open PySem PySem.Spec PyProof.Rows L2
open Ky C8
/-! ### one rule or another -/
theorem pi_or {X : Cx} {tg e : Expr} {wa wb : TI} (a : PI X tg e wa) (b : PI X tg e wb) : PI X tg e (fun σ H R => wa σ H R ∨ wb σ H R) :=
  ⟨fun pins s σ H R I h => h.elim (a.run pins s σ H R I) (b.run pins s σ H R I)⟩
theorem pe_or' {X : Cx} {e : Expr} {ta tb : TE} (a : PE X e ta) (b : PE X e tb) : PE X e (fun σ H Q => ta σ H Q ∨ tb σ H Q) :=
  ⟨fun pins s σ H Q I h => h.elim (a.run pins s σ H Q I) (b.run pins s σ H Q I)⟩
theorem pi_enumB {X : Cx} {e : Expr} {ta : TA} {p pos tpos : Pos} {elts : List Expr} {kk : Nat} (hg : Gl X "enumerate") (hm : X.mg "enumerate" = none) (ha : PA X [e] ta) (hs : starEach [e] X.env = [(false, eval e X.env)] := by rfl) :
    PI X (.Tuple elts kk tpos) (.Call (.Name "enumerate" p) [e] [] pos) (fun σ H R => iEnum X.K ta σ H R ∨ iEnumT X.K ta σ H R) := pi_or (pi_enum hg hm ha hs) (pi_enumT hg hm ha hs)
theorem call_or {X : Cx} {f : Value} {r r' : List V → Hp → VK → Prop} (a : CallR X f r) (b : CallR X f r') : CallR X f (fun xs H Q => r xs H Q ∨ r' xs H Q) :=
  fun pins s σ H xs us Q I rv h => h.elim (a pins s σ H xs us Q I rv) (b pins s σ H xs us Q I rv)
section
variable {P : Program} {w : World} {K : PySem.W.Frag} {mg : Str → Option Value} {base : Heap} {CS CQ f : Addr} {fd : FuncData}
theorem tyT {H : Hp} {a : Addr} {xs : List V} (h : SqT K H a xs) : TyX K H (.ref a) (.type "tuple") := by
  rcases h with (h | ⟨o, h⟩) | ⟨o, its, n, h, hc, _⟩
  · exact .base (.tup h)
  · exact .fTuple h
  · exact .kTuple h hc
theorem tyL {H : Hp} {a : Addr} {xs : List V} (h : SqL K H a xs) : TyX K H (.ref a) (.type "list") := by
  rcases h with (h | ⟨o, h⟩) | ⟨o, its, n, h, hc, _⟩
  · exact .base (.lst h)
  · exact .base (.frz h)
  · exact .kList h hc
theorem sc_is_node : FnScope ["nodes", "value"] ["nodes", "value"] (defScope y_is_node) := ⟨rfl, rfl, rfl, by decide +kernel, rfl, by decide +kernel, by decide +kernel⟩
def sp_is_node : Sp := spB fun vs H b => ∃ n i : Nat, vs = [.int (n : Int), .int (i : Int)] ∧ b = decide (i < n)
theorem c_is_node (T : Tx K mg CS CQ) (F : Fx K mg "is_node" y_is_node ["nodes", "value"] f fd) (c_is_integer : Cal P w K mg base 1 "is_integer" sp_is_integer []) : Cal P w K mg base 2 "is_node" sp_is_node [] := by
  refine F.cal sc_is_node (fun vs H Q E h => ?_) (fun cdv A outer s H vs Q E hr h => ?_)
  · obtain ⟨b, ⟨n, i, rfl, _⟩, _⟩ := h
    rfl
  obtain ⟨b, ⟨n, i, rfl, rfl⟩, q⟩ := h
  refine ⟨_, (pss_one (ps_ret (pe_and (pe_c c_is_integer hr (by decide) (by rfl) (pa_cons (pv 1) pa_nil)) (pe_one (pe_chain op_le op_lt pe_int (pv 1) (pv 0)))))), ?_⟩
  refine ⟨_, rfl, true, ⟨_, rfl, rfl⟩, fun H1 e1 => ⟨true, rfl, ?_⟩⟩
  refine ⟨_, rfl, 0, (i : Int), rfl, rfl, _, rfl, ifP (by omega) ⟨_, rfl, (i : Int), (n : Int), rfl, rfl, ?_⟩⟩
  have e : decide ((i : Int) < (n : Int)) = decide (i < n) := by simp
  show Q (.bl (decide ((i : Int) < (n : Int)))) H1
  rw [e]
  exact q H1 e1
theorem sc_is_tie : FnScope ["nodes", "value"] ["nodes", "value"] (defScope y_is_tie) := ⟨rfl, rfl, rfl, by decide +kernel, rfl, by decide +kernel, by decide +kernel⟩
def sp_is_tie (K : PySem.W.Frag) : Sp := spB fun vs H b => ∃ (n : Nat) (v : V) (t : Stp), vs = [.int (n : Int), v] ∧ Dp K H v (dat t) ∧ t.x < n ∧ t.z < n ∧ t.y.low = true ∧ b = true
theorem c_is_tie (T : Tx K mg CS CQ) (F : Fx K mg "is_tie" y_is_tie ["nodes", "value"] f fd) (c_is_node : Cal P w K mg base 2 "is_node" sp_is_node []) (c_is_letter : Cal P w K mg base 1 "is_letter" sp_is_letter []) : Cal P w K mg base 3 "is_tie" (sp_is_tie K) [] := by
  refine F.cal sc_is_tie (fun vs H Q E h => ?_) (fun cdv A outer s H vs Q E hr h => ?_)
  · obtain ⟨b, ⟨n, i, t, rfl, _⟩, _⟩ := h
    rfl
  obtain ⟨b, ⟨n, v, t, rfl, dt, h1, h2, h3, rfl⟩, q⟩ := h
  refine ⟨_, (pss_cons (ps_if (PW.pt (pw_or (pt_not (pt_val (pe_callB (call_isi) (by rfl) T.isinstance (by decide +kernel) (pa_cons (pv 1) (pa_cons (gT (n := "tuple") (by rfl) T.tuple (by decide +kernel)) pa_nil))))) (pw_or1 (pt_cmpR (op_ne) (pe_callB (k_len (K := K) rfl) (by rfl) T.len (by decide +kernel) (pa_cons (pv 1) pa_nil)) pe_int (by rfl))))) (pss_one (ps_ret pe_bl)) pss_nil)
    (pss_one (ps_ret (pe_and (pe_c c_is_node hr (by decide) (by rfl) (pa_cons (pv 0) (pa_cons (pe_ix (k_ixt (K := K) rfl) (pv 1) pe_int (fun _ _ => rfl)) pa_nil))) (pe_and (pe_c c_is_letter hr (by decide) (by rfl) (pa_cons (pe_ix (k_ixt (K := K) rfl) (pv 1) pe_int (fun _ _ => rfl)) pa_nil)) (pe_one (pe_c c_is_node hr (by decide) (by rfl) (pa_cons (pv 0) (pa_cons (pe_ix (k_ixt (K := K) rfl) (pv 1) pe_int (fun _ _ => rfl)) pa_nil))))))))), ?_⟩
  obtain ⟨a, x, y, z, rfl, ht, dx, dy, dz⟩ := dp_t3 dt
  have dx := dp_nat dx
  have dy := dp_sg dy
  have dz := dp_nat dz
  subst dx dy dz
  refine ⟨_, rfl, _, _, .type "tuple", .type "tuple", true, rfl, .ty "tuple", tyT ht, kit_ty (by decide +kernel), true, rfl, iteF ?_⟩
  refine ⟨_, rfl, _, 3, rfl, .inr ⟨_, ht, rfl⟩, rfl, false, rfl, iteF ?_⟩
  refine ⟨_, rfl, _, rfl, _, _, 0, _, rfl, rfl, ht, rfl, true, ⟨n, t.x, rfl, by simp [h1]⟩, fun H1 e1 => ⟨true, rfl, ?_⟩⟩
  refine ⟨_, rfl, _, _, 1, _, rfl, rfl, e1.ld.sqT ht, rfl, true, ⟨t.y, rfl, h3, rfl⟩, fun H2 e2 => ⟨true, rfl, ?_⟩⟩
  exact ⟨_, rfl, _, rfl, _, _, 2, _, rfl, rfl, (e1.trans e2).ld.sqT ht, rfl, true, ⟨n, t.z, rfl, by simp [h2]⟩, fun H3 e3 => q H3 ((e1.trans e2).trans e3)⟩
theorem sc_want_nodes : FnScope ["value"] ["value"] (defScope y_want_nodes) := ⟨rfl, rfl, rfl, by decide +kernel, rfl, by decide +kernel, by decide +kernel⟩
def sp_want_nodes : Sp := spU fun vs H => ∃ n : Nat, vs = [.int (n : Int)] ∧ 1 ≤ n ∧ n ≤ 40
theorem c_want_nodes (T : Tx K mg CS CQ) (F : Fx K mg "want_nodes" y_want_nodes ["value"] f fd) (c_is_integer : Cal P w K mg base 1 "is_integer" sp_is_integer []) : Cal P w K mg base 2 "want_nodes" sp_want_nodes [] := by
  refine F.cal sc_want_nodes (fun vs H Q E h => ?_) (fun cdv A outer s H vs Q E hr h => ?_)
  · obtain ⟨⟨n, rfl, _⟩, _⟩ := h
    rfl
  obtain ⟨⟨n, rfl, h1, h2⟩, q⟩ := h
  refine ⟨_, (pss_one (ps_if (PW.pt (pw_or (pt_not (pt_val (pe_c c_is_integer hr (by decide) (by rfl) (pa_cons (pv 0) pa_nil)))) (pw_or1 (pt_not (pt_chain op_le op_le pe_int (pv 0) (gI (by rfl) T.nodes)))))) (pss_one ps_never) pss_nil)), ?_⟩
  exact ⟨_, rfl, true, ⟨_, rfl, rfl⟩, fun H1 e1 => ⟨true, rfl, iteF ⟨_, rfl, 1, (n : Int), rfl, rfl, _, rfl, ifP (by omega) ⟨_, _, rfl, rfl, _, rfl, ifNP (by omega) (q H1 e1)⟩⟩⟩⟩
theorem sc_want_node : FnScope ["nodes", "value"] ["nodes", "value"] (defScope y_want_node) := ⟨rfl, rfl, rfl, by decide +kernel, rfl, by decide +kernel, by decide +kernel⟩
def sp_want_node : Sp := spU fun vs H => ∃ n i : Nat, vs = [.int (n : Int), .int (i : Int)] ∧ i < n
theorem c_want_node (T : Tx K mg CS CQ) (F : Fx K mg "want_node" y_want_node ["nodes", "value"] f fd) (c_is_node : Cal P w K mg base 2 "is_node" sp_is_node []) : Cal P w K mg base 3 "want_node" sp_want_node [] := by
  refine F.cal sc_want_node (fun vs H Q E h => ?_) (fun cdv A outer s H vs Q E hr h => ?_)
  · obtain ⟨⟨n, i, rfl, _⟩, _⟩ := h
    rfl
  obtain ⟨⟨n, i, rfl, h1⟩, q⟩ := h
  refine ⟨_, (pss_one (ps_if (pt_not (pt_val (pe_c c_is_node hr (by decide) (by rfl) (pa_cons (pv 0) (pa_cons (pv 1) pa_nil))))) (pss_one ps_never) pss_nil)), ?_⟩
  exact ⟨_, rfl, _, rfl, true, ⟨n, i, rfl, by simp [h1]⟩, fun H1 e1 => ⟨true, rfl, iteF (q H1 e1)⟩⟩
theorem sc_want_tie : FnScope ["nodes", "value"] ["nodes", "value"] (defScope y_want_tie) := ⟨rfl, rfl, rfl, by decide +kernel, rfl, by decide +kernel, by decide +kernel⟩
def sp_want_tie (K : PySem.W.Frag) : Sp := spU fun vs H => ∃ (n : Nat) (v : V) (t : Stp), vs = [.int (n : Int), v] ∧ Dp K H v (dat t) ∧ t.x < n ∧ t.z < n ∧ t.y.low = true
theorem c_want_tie (T : Tx K mg CS CQ) (F : Fx K mg "want_tie" y_want_tie ["nodes", "value"] f fd) (c_is_tie : Cal P w K mg base 3 "is_tie" (sp_is_tie K) []) : Cal P w K mg base 4 "want_tie" (sp_want_tie K) [] := by
  refine F.cal sc_want_tie (fun vs H Q E h => ?_) (fun cdv A outer s H vs Q E hr h => ?_)
  · obtain ⟨⟨n, i, t, rfl, _⟩, _⟩ := h
    rfl
  obtain ⟨⟨n, v, t, rfl, dt, h1, h2, h3⟩, q⟩ := h
  refine ⟨_, (pss_one (ps_if (pt_not (pt_val (pe_c c_is_tie hr (by decide) (by rfl) (pa_cons (pv 0) (pa_cons (pv 1) pa_nil))))) (pss_one ps_never) pss_nil)), ?_⟩
  exact ⟨_, rfl, _, rfl, true, ⟨n, v, t, rfl, dt, h1, h2, h3, rfl⟩, fun H1 e1 => ⟨true, rfl, iteF (q H1 e1)⟩⟩
theorem sc_want_few_ties : FnScope ["many"] ["many"] (defScope y_want_few_ties) := ⟨rfl, rfl, rfl, by decide +kernel, rfl, by decide +kernel, by decide +kernel⟩
def sp_want_few_ties : Sp := spU fun vs H => ∃ n : Nat, vs = [.int (n : Int)] ∧ n ≤ 400
theorem c_want_few_ties (T : Tx K mg CS CQ) (F : Fx K mg "want_few_ties" y_want_few_ties ["many"] f fd) : Cal P w K mg base 1 "want_few_ties" sp_want_few_ties [] := by
  refine F.cal sc_want_few_ties (fun vs H Q E h => ?_) (fun cdv A outer s H vs Q E hr h => ?_)
  · obtain ⟨⟨n, rfl, _⟩, _⟩ := h
    rfl
  obtain ⟨⟨n, rfl, h1⟩, q⟩ := h
  refine ⟨_, (pss_one (ps_if (pt_cmpR (op_gt) (pv 0) (gI (by rfl) T.ties) (by rfl)) (pss_one ps_never) pss_nil)), ?_⟩
  exact ⟨_, rfl, _, _, rfl, rfl, _, rfl, ifN (by omega) (q H (.refl H))⟩
theorem dt_ex {α : Type} [Ky α] : ∀ (a : α) H H' x, Ex H H' → Dt K a H x → Dt K a H' x := fun _ _ _ _ e h => h.ex e
theorem wi_both {α : Type} [Ky α] {i : Nat} {σ : L2.St} {H : Hp} {R : It → Hp → Prop} {v : V} {l : List α} {H0 : Hp} (hv : σ[i]? = some (some v)) (e0 : Ex H0 H) (h : Dp K H0 v (.list (l.map dat)) ∨ Dp K H0 v (.tuple (l.map dat)))
    (hR : ∀ (J : It) (G : Hp → Prop), TW J (Nu K (Dt K)) (num l) G → (∀ H', Ex H0 H' → G H') → R J H) : iEnum K (tCons (tVar i) tNil) σ H R ∨ iEnumT K (tCons (tVar i) tNil) σ H R := by
  rcases h with h | h
  · obtain ⟨a, xs, rfl, hs, hv'⟩ := dp_lst h
    exact .inl ⟨_, hv, a, xs, rfl, e0.ld.sqL hs, hR _ _ (tw_enum (xs := xs) dt_ex) fun H' e => ⟨e.ld.sqL hs, all_dat (hv'.ex e)⟩⟩
  · obtain ⟨a, xs, rfl, hs, hv'⟩ := dp_tuple h
    exact .inr ⟨_, hv, a, xs, rfl, e0.ld.sqT hs, hR _ _ (tw_enumT (xs := xs) dt_ex) fun H' e => ⟨e.ld.sqT hs, all_dat (hv'.ex e)⟩⟩
theorem nu_dt {α : Type} [Ky α] {p : Nat × α} {H : Hp} {x : V} (h : Nu K (Dt K) p H x) : ∃ T y, x = .ref T ∧ SqT K H T [.int (p.1 : Int), y] ∧ Dp K H y (dat p.2) := h
theorem num_get {α : Type} {l : List α} {i : Nat} {p : Nat × α} (h : (num l)[i]? = some p) : p.1 = i ∧ l[i]? = some p.2 := by
  unfold num at h
  rw [List.getElem?_zip_eq_some] at h
  obtain ⟨h1, h2⟩ := h
  have hi : i < l.length := (List.getElem?_eq_some_iff.mp h2).1
  rw [List.getElem?_range hi] at h1
  exact ⟨(Option.some.inj h1).symm, h2⟩
theorem not_in_take {α : Type} {l : List α} (nd : l.Nodup) {i : Nat} {a : α} (h : l[i]? = some a) : a ∉ l.take i := by
  have k : (l.take (i + 1)).Nodup := List.Nodup.sublist (List.take_sublist _ _) nd
  rw [take_snoc h, List.nodup_append] at k
  exact fun z => k.2.2 a z a List.mem_cons_self rfl
theorem sc_want_ties : FnScope ["nodes", "ties", "known", "position", "tie"] ["nodes", "ties"] (defScope y_want_ties) := ⟨rfl, rfl, rfl, by decide +kernel, rfl, by decide +kernel, by decide +kernel⟩
/-- the ties that are handed in: a list or a tuple of them -/
def TiesAt (K : PySem.W.Frag) (H : Hp) (v : V) (l : List Stp) : Prop := Dp K H v (.list (l.map dat)) ∨ Dp K H v (.tuple (l.map dat))
def TiesOk (n : Nat) (l : List Stp) : Prop := l.Nodup ∧ l.length ≤ 400 ∧ ∀ t ∈ l, t.x < n ∧ t.z < n ∧ t.y.low = true
def sp_want_ties (K : PySem.W.Frag) : Sp := spU fun vs H => ∃ (n : Nat) (v : V) (l : List Stp), vs = [.int (n : Int), v] ∧ TiesAt K H v l ∧ TiesOk n l
theorem c_want_ties (T : Tx K mg CS CQ) (F : Fx K mg "want_ties" y_want_ties ["nodes", "ties"] f fd) (c_is_list : Cal P w K mg base 1 "is_list" (sp_is_list (K := K)) []) (c_is_tie : Cal P w K mg base 3 "is_tie" (sp_is_tie K) [])
    (c_want_few_ties : Cal P w K mg base 1 "want_few_ties" sp_want_few_ties []) : Cal P w K mg base 4 "want_ties" (sp_want_ties K) [] := by
  refine F.cal sc_want_ties (fun vs H Q E h => ?_) (fun cdv A outer s H vs Q E hr h => ?_)
  · obtain ⟨⟨n, i, t, rfl, _⟩, _⟩ := h
    rfl
  obtain ⟨⟨n, v, l, rfl, ta, nd, hl, ht⟩, q⟩ := h
  have hu := hu100 hr
  refine ⟨_, (pss_cons (ps_if (pt_not (pt_val (pe_c c_is_list hr (by decide) (by rfl) (pa_cons (pv 1) pa_nil)))) (pss_one ps_never) pss_nil)
    (pss_cons (pset 2 sc_want_ties.nd (k_new (α := Stp) (O := ⟨P, w, K⟩) rfl))
    (pss_cons (ps_for PassesOwn.never rfl (pi_enumB (by rfl) T.enumerate (pa_cons (pv 1) pa_nil)) (k_gtup (K := K) rfl rfl (pgs_cons (pn 3 sc_want_ties.nd) (pgs_cons (pn 4 sc_want_ties.nd) pgs_nil))) (pss_cons (ps_if (PW.pt (pw_or (pt_not (pt_val (pe_c c_is_tie hr (by decide) (by rfl) (pa_cons (pv 0) (pa_cons (pv 4) pa_nil))))) (pw_or1 (pt_cmpR (k_inN (α := Stp) (O := ⟨P, w, K⟩) hu rfl) (pv 4) (pv 2) (by rfl))))) (pss_one ps_never) pss_nil)
    (pss_one (ps_asg pe_bl (pg_sub (pv 2) (pv 4) (k_setN (α := Stp) (O := ⟨P, w, K⟩) hu rfl))))))
    (pss_one (ps_expr (pe_c c_want_few_ties hr (by decide) (by rfl) (pa_cons (pe_callB (k_len (K := K) rfl) (by rfl) T.len (by decide +kernel) (pa_cons (pv 1) pa_nil)) pa_nil))))))), ?_⟩
  have hsq : ∃ a, v = .ref a ∧ ((∃ xs, SqL K H a xs ∧ xs.length = l.length) ∨ ∃ xs, SqT K H a xs ∧ xs.length = l.length) := by
    rcases ta with h | h
    · obtain ⟨a, xs, rfl, hs, hv⟩ := dp_lst h
      exact ⟨a, rfl, .inl ⟨xs, hs, by rw [dpAll_len hv, List.length_map]⟩⟩
    · obtain ⟨a, xs, rfl, hs, hv⟩ := dp_tuple h
      exact ⟨a, rfl, .inr ⟨xs, hs, by rw [dpAll_len hv, List.length_map]⟩⟩
  obtain ⟨a, rfl, hsq⟩ := hsq
  refine ⟨_, rfl, true, ⟨a, rfl, hsq.elim (fun ⟨xs, h, _⟩ => .inl ⟨xs, h⟩) (fun ⟨xs, h, _⟩ => .inr ⟨xs, h⟩), rfl⟩, fun H1 e1 => ⟨true, rfl, iteF fun d hd => ?_⟩⟩
  have ed : Ex H1 (upd H1 d (DN (α := Stp) P w d [])) := Ex.new hd
  refine wi_both rfl ed (ta.imp (fun h => h.ex e1) fun h => h.ex e1) fun J G tw hG => ?_
  refine for_tw tw (fun i σ H' => ∃ p t ts, σ = [some (.int (n : Int)), some (.ref a), some (.ref d), p, t] ∧ Ex H1 H' ∧ H' d = some (DN P w d ts) ∧ Keys K H' ts ∧ ts.map (·.1) = l.take i)
    ⟨_, _, [], rfl, ed, upd_same, Keys.nil, rfl⟩ ?_ ?_ ?_
  · rintro i σ H2 _ ⟨p, t, ts, rfl, ex, hdn, hk, hts⟩
    exact hG H2 ex
  · rintro i b x σ H2 H3 hb ⟨p, t, ts, rfl, ex, hdn, hk, hts⟩ e3 hx
    obtain ⟨TT, y, rfl, ht2, dy⟩ := nu_dt hx
    obtain ⟨hb1, hb2⟩ := num_get hb
    obtain ⟨b1, tie⟩ := b
    simp only at hb1 hb2 ht2 dy
    subst hb1
    obtain ⟨k1, k2, k3⟩ := ht tie (List.mem_of_getElem? hb2)
    refine ⟨_, _, rfl, ht2, rfl, _, _, rfl, _, _, rfl, rfl, ?_⟩
    refine ⟨_, rfl, _, rfl, true, ⟨n, _, tie, rfl, dy, k1, k2, k3, rfl⟩, fun H4 e4 => ⟨true, rfl, iteF ?_⟩⟩
    have hdn4 := e4 _ _ (e3 _ _ hdn)
    have hk4 := hk.ld (e3.trans e4).ld
    have dy4 := dy.ex e4
    obtain ⟨ta', u1, u2, u3, rfl, _⟩ := dp_t3 dy4
    have nm : tie ∉ ts.map (·.1) := by
      rw [hts]
      exact not_in_take nd hb2
    refine ⟨_, rfl, _, rfl, ts, tie, ⟨_, d, rfl, rfl, .inl hdn4, hk4, dy4⟩, _, rfl, ifN nm ?_⟩
    refine ⟨_, rfl, _, rfl, ts, tie, _, d, rfl, rfl, hdn4, hk4, dy4, ?_, ?_⟩
    · have : ts.length = (l.take b1).length := by rw [← hts, List.length_map]
      rw [this, List.length_take, sizeLine_eq]
      omega
    refine ⟨_, _, _, rfl, (ex.trans (e3.trans e4)).mut hd, upd_same, ?_, ?_⟩
    · exact (hk4.put dy4).lt (Lt.mut (noT_DN hdn4))
    · rw [putE_new nm, List.map_append, hts, take_snoc hb2]
      rfl
  · rintro σ H2 ⟨p, t, ts, rfl, ex, hdn, hk, hts⟩
    refine ⟨_, rfl, _, l.length, rfl, ?_, ⟨l.length, rfl, hl⟩, fun H3 e3 => q H3 ((e1.trans ex).trans e3)⟩
    exact hsq.elim (fun ⟨xs, h, e⟩ => .inl ⟨xs, (e1.trans ex).ld.sqL h, e.symm⟩) fun ⟨xs, h, e⟩ => .inr ⟨xs, (e1.trans ex).ld.sqT h, e.symm⟩
end
end K26

set_option Elab.async false
set_option linter.all false
set_option maxRecDepth 100000
set_option maxHeartbeats 4000000
/-! store: goals_by. -/
namespace K26
open PySem PySem.Spec PyProof.Rows L2
open Ky C8
/-- a sign below 128 -/
structure Ch where
  c : Nat
  h : c < 128
  deriving DecidableEq
instance : Ky Ch where
  key x := .text ⟨#[x.c]⟩
  inj a b h := by
    injection h with h
    cases a
    cases b
    have := congrArg (fun z : Str => z.cps.toList) h
    simp at this
    simp [this]
  alk _ _ := rfl
  lay x := by
    show (#[x.c] : Array Nat).all (· < 0x110000) = true
    have := x.h
    simp
    omega
  dep := 0
  dep_le _ := Nat.le_refl _
def Sg.ch (s : Sg) : Ch := ⟨sgC s, by cases s <;> decide⟩
theorem ch_inj {s t : Sg} (h : s.ch = t.ch) : s = t := sgC_inj (congrArg Ch.c h)
theorem dat_ch (s : Sg) : dat s.ch = dat s := by
  show PyData.str ⟨#[sgC s]⟩ = PyData.str (sgS s)
  rw [sgS_C]
/-- where the ties with this letter lead, node by node -/
def gl (l : List Stp) (c : Ch) (x : Nat) : List Nat := (l.filter fun t => decide (t.x = x ∧ t.y.ch = c)).map (·.z)
def goalsL (n : Nat) (l : List Stp) (c : Ch) : List (List Nat) := (List.range n).map (gl l c)
/-- the goals by letter stand at v -/
def GoalsAt (K : PySem.W.Frag) (H : Hp) (v : V) (n : Nat) (l : List Stp) : Prop := ∃ g kvs, v = .ref g ∧ Rd H g (.dK kvs) ∧ ∀ s : Sg, s.low = true → ∃ vl, valV kvs (Sum.inr (sgS s)) = some vl ∧ Dp K H vl (.list ((goalsL n l s.ch).map fun r => .list (r.map dat)))
theorem gl_snoc (l : List Stp) (t : Stp) (c : Ch) (x : Nat) : gl (l ++ [t]) c x = gl l c x ++ (if t.x = x ∧ t.y.ch = c then [t.z] else []) := by
  unfold gl
  rw [List.filter_append, List.map_append]
  congr 1
  by_cases h : t.x = x ∧ t.y.ch = c
  · rw [if_pos h, List.filter_cons, if_pos (by simpa using h)]
    rfl
  · rw [if_neg h, List.filter_cons, if_neg (by simpa using h)]
    rfl
theorem atE_cons {α : Type} [DecidableEq α] (t : En α) (ts : List (En α)) (c : α) : atE (t :: ts) c = if t.1 = c then some t.2.2 else atE ts c := by
  unfold atE
  rw [List.find?_cons]
  by_cases e : t.1 = c
  · rw [if_pos e, decide_eq_true e]
    rfl
  · rw [if_neg e, decide_eq_false e]
theorem atE_rep {α : Type} [DecidableEq α] (a c : α) (v : V) : ∀ ts : List (En α), a ∈ ts.map (·.1) → atE (ts.map fun t => if t.1 = a then (t.1, t.2.1, v) else t) c = if c = a then some v else atE ts c
  | [], h => by simp at h
  | t :: ts, h => by
    rw [List.map_cons, atE_cons, atE_cons]
    by_cases hm : a ∈ ts.map (·.1)
    · rw [atE_rep a c v ts hm]
      by_cases e : t.1 = a
      · rw [if_pos e]
        by_cases e2 : t.1 = c
        · have : c = a := by rw [← e2, e]
          simp [e2, this]
        · have : c ≠ a := fun z => e2 (by rw [e, z])
          simp [e2, this]
      · rw [if_neg e]
        by_cases e2 : t.1 = c
        · have : c ≠ a := fun z => e (by rw [e2, z])
          simp [e2, this]
        · simp [e2]
    · have e : t.1 = a := by
        rw [List.map_cons, List.mem_cons] at h
        exact h.elim (fun z => z.symm) fun z => absurd z hm
      have hid : ts.map (fun t => if t.1 = a then (t.1, t.2.1, v) else t) = ts := by
        have : ∀ us : List (En α), a ∉ us.map (·.1) → us.map (fun t => if t.1 = a then (t.1, t.2.1, v) else t) = us := by
          intro us
          induction us with
          | nil => intro _; rfl
          | cons u us ih =>
            intro hu
            rw [List.map_cons, List.mem_cons, not_or] at hu
            rw [List.map_cons, ih hu.2, if_neg fun z => hu.1 z.symm]
        exact this ts hm
      rw [hid, if_pos e]
      by_cases e2 : t.1 = c
      · have : c = a := by rw [← e2, e]
        simp [e2, this]
      · have : c ≠ a := fun z => e2 (by rw [e, z])
        simp [e2, this]
theorem atE_snoc {α : Type} [DecidableEq α] (a c : α) (b : Addr) (v : V) : ∀ ts : List (En α), a ∉ ts.map (·.1) → atE (ts ++ [(a, b, v)]) c = if c = a then some v else atE ts c
  | [], _ => by
    rw [List.nil_append, atE_cons]
    by_cases e : a = c
    · simp [e]
    · have : c ≠ a := fun z => e z.symm
      simp [e, this]
  | t :: ts, h => by
    rw [List.map_cons, List.mem_cons, not_or] at h
    rw [List.cons_append, atE_cons, atE_cons, atE_snoc a c b v ts h.2]
    by_cases e : t.1 = c
    · have : c ≠ a := fun z => h.1 (by rw [← z, e])
      simp [e, this]
    · simp [e]
theorem atE_putE {α : Type} [DecidableEq α] (ts : List (En α)) (a c : α) (b : Addr) (v : V) : atE (putE ts a b v) c = if c = a then some v else atE ts c := by
  unfold putE
  by_cases h : a ∈ ts.map (·.1)
  · rw [if_pos h]
    exact atE_rep a c v ts h
  · rw [if_neg h]
    exact atE_snoc a c b v ts h
/-- the int values of a list -/
abbrev nats (l : List Nat) : List V := l.map fun n : Nat => V.int (n : Int)
theorem nats_dp' {K : PySem.W.Frag} {H : Hp} : ∀ l : List Nat, DpAll K H (nats l) (l.map dat)
  | [] => .nil
  | n :: l => .cons (nat_dp n) (nats_dp' l)
/-- what found holds of the ties so far -/
def FoundOk (H : Hp) (fs : List (En (Ch × Nat))) (l : List Stp) : Prop := ∀ c x, match atE fs (c, x) with
  | some v => ∃ p, v = .ref p ∧ H p = some (.lst (nats (gl l c x)))
  | none => gl l c x = []
section
variable {P : Program} {w : World} {K : PySem.W.Frag} {mg : Str → Option Value} {base : Heap} {CS CQ f : Addr} {fd : FuncData}
theorem sc_goals_by : FnScope ["nodes", "ties", "found", "near", "letter", "far", "node"] ["nodes", "ties"] (defScope y_goals_by) := ⟨rfl, rfl, rfl, by decide +kernel, rfl, by decide +kernel, by decide +kernel⟩
def sp_goals_by (P : Program) (w : World) (K : PySem.W.Frag) : Sp := fun vs H Q _ => ∃ (n : Nat) (d : Addr) (ts : List (En Stp)), vs = [.int (n : Int), .ref d] ∧ H d = some (DN P w d ts) ∧ Keys K H ts ∧ TiesOk n (ts.map (·.1)) ∧ n ≤ 40 ∧
  ∀ v H', Ex H H' → GoalsAt K H' v n (ts.map (·.1)) → Q v H'
theorem c_goals_by (T : Tx K mg CS CQ) (F : Fx K mg "goals_by" y_goals_by ["nodes", "ties"] f fd) : Cal P w K mg base 1 "goals_by" (sp_goals_by P w K) [] := by
  refine F.cal sc_goals_by (fun vs H Q E h => ?_) (fun cdv A outer s H vs Q E hr h => ?_)
  · obtain ⟨n, d, ts, rfl, _⟩ := h
    rfl
  obtain ⟨n, d, ts, rfl, hd, hk, tok, hn, q⟩ := h
  have hu := hu100 hr
  refine ⟨_, (pss_cons (pset 2 sc_goals_by.nd (k_new (α := Ch × Nat) (O := ⟨P, w, K⟩) rfl))
    (pss_cons (ps_lock (ps_for PassesOwn.never rfl (k_N (α := Stp) (O := ⟨P, w, K⟩) rfl (pv 1)) (k_gtup (n := 3) (K := K) rfl rfl (pgs_cons (pn 3 sc_goals_by.nd) (pgs_cons (pn 4 sc_goals_by.nd) (pgs_cons (pn 5 sc_goals_by.nd) pgs_nil)))) (pss_one (ps_asg (pe_op (op_cat) (k_bm (α := Ch × Nat) (O := ⟨P, w, K⟩) rfl PySem.F.slot_dict_get PySem.F.type_dict_get (k_getD (α := Ch × Nat) (O := ⟨P, w, K⟩) hu rfl) (pv 2) (pa_cons (pe_tup (pa_cons (pv 4) (pa_cons (pv 3) pa_nil))) (pa_cons (pe_lst pa_nil) pa_nil))) (pe_lst (pa_cons (pv 5) pa_nil))) (pg_sub (pv 2) (pe_tup (pa_cons (pv 4) (pa_cons (pv 3) pa_nil))) (k_setN (α := Ch × Nat) (O := ⟨P, w, K⟩) hu rfl))))))
    (pss_one (ps_ret (k_dc (own := [("letter", 4)]) (kd := kdK P w K) rfl hu rfl sc_goals_by.nd ((pi_str (gS (by rfl) T.letters))) (blkOk_by (by kernel_rfl)) (fun _ _ _ _ _ => (pn 4 sc_goals_by.nd)) (fun _ _ _ _ _ => pts_nil) (fun _ _ _ _ _ => (pv 4)) (fun _ _ _ _ _ => (pe_lc (own := [("node", 6)]) rfl sc_goals_by.nd ((pi_range1 (by rfl) T.range (pa_cons (pv 0) pa_nil))) (blkOk_by (by kernel_rfl)) (fun _ _ _ _ _ => (pn 6 sc_goals_by.nd)) (fun _ _ _ _ _ => pts_nil) (fun _ _ _ _ _ => (k_bm (α := Ch × Nat) (O := ⟨P, w, K⟩) rfl PySem.F.slot_dict_get PySem.F.type_dict_get (k_getD (α := Ch × Nat) (O := ⟨P, w, K⟩) hu rfl) (pv 2) (pa_cons (pe_tup (pa_cons (pv 4) (pa_cons (pv 6) pa_nil))) (pa_cons (pe_lst pa_nil) pa_nil))))))))))), ?_⟩
  obtain ⟨nd, hl, tok⟩ := tok
  intro fd hfd
  have hdf : d ≠ fd := fun e => by rw [e, hfd] at hd; cases hd
  refine ⟨d, DN P w d ts, (upd_ne hdf).trans hd, True.intro, fun od => ⟨_, rfl, d, od, ts, rfl, upd_same, ?_⟩⟩
  have e0 : ∀ x o, H x = some o → x ≠ d → (upd (upd H fd (DN (α := Ch × Nat) P w fd [])) d (.frz od (DN P w d ts))) x = some o := fun x o hx hxd => by
    rw [upd_ne hxd, upd_ne (ne_of_none hx hfd)]
    exact hx
  refine for_tw (tw_N (K := K)) (fun i σ H' => ∃ a b c e fs, σ = [some (.int (n : Int)), some (.ref d), some (.ref fd), a, b, c, e] ∧ H' d = some (.frz od (DN P w d ts)) ∧ (∀ x o, H x = some o → x ≠ d → H' x = some o) ∧ H' fd = some (DN (α := Ch × Nat) P w fd fs) ∧ Keys K H' fs ∧ Keys K H' ts ∧
    FoundOk H' fs ((ts.map (·.1)).take i) ∧ fs.length ≤ i) ⟨_, _, _, _, [], rfl, upd_same, e0, (upd_ne (Ne.symm hdf)).trans upd_same, Keys.nil, ?_, fun c x => rfl, Nat.le_refl _⟩ ?_ ?_ ?_
  · exact (hk.ld (Ex.new hfd).ld).lt (Lt.mut (noT_DN ((upd_ne hdf).trans hd)))
  · rintro i σ H2 _ ⟨a, b, c, e, fs, rfl, h1, h2, h3, h4, h5, h6, h7⟩
    exact ⟨h1, h5⟩
  · rintro i t x σ H2 H3 ht ⟨a, b, c, e, fs, rfl, h1, h2, h3, h4, h5, h6, h7⟩ e3 hx
    obtain ⟨T0, u, v, z, rfl, hT, du, dv, dz⟩ := dp_t3 hx
    have du := dp_nat du
    have dv := dp_sg dv
    have dz := dp_nat dz
    subst du dv dz
    refine ⟨_, _, rfl, hT, rfl, _, _, rfl, _, _, rfl, _, _, rfl, rfl, ?_⟩
    have f3 := e3 _ _ h3
    refine ⟨_, rfl, ⟨fd, fs, rfl, .inl f3⟩, _, rfl, _, rfl, by show 2 ≤ sizeLine; decide, fun T1 hT1 => ⟨Nat.zero_le _, fun q1 hq1 => ?_⟩⟩
    have e5 : Ex H3 (upd (upd H3 T1 (.tup [.str (sgS t.y), .int (t.x : Int)])) q1 (.lst [])) := (Ex.new hT1).put hq1
    generalize hH5 : upd (upd H3 T1 (.tup [.str (sgS t.y), .int (t.x : Int)])) q1 (.lst []) = H5 at e5
    have d5 : Dp K H5 (.ref T1) (dat (t.y.ch, t.x)) := by
      refine pair_dp (x := .str (sgS t.y)) (y := .int (t.x : Int)) ?_ (by show Dp K H5 _ (dat t.y.ch); rw [dat_ch]; exact sg_dp _) (nat_dp t.x)
      rw [← hH5]
      exact SqT.of ((upd_ne (ne_of_none upd_same hq1)).trans upd_same)
    refine ⟨fs, (t.y.ch, t.x), .ref T1, .ref q1, rfl, ⟨T1, fd, rfl, rfl, .inl (e5 _ _ f3), (h4.ld (e3.trans e5).ld), d5⟩, ?_⟩
    have hkey : ∃ p, (atE fs (t.y.ch, t.x)).getD (.ref q1) = .ref p ∧ H5 p = some (.lst (nats (gl ((ts.map (·.1)).take i) t.y.ch t.x))) := by
      have := h6 t.y.ch t.x
      cases hv : atE fs (t.y.ch, t.x) with
      | none =>
        rw [hv] at this
        refine ⟨q1, rfl, ?_⟩
        rw [← hH5, upd_same]
        have this : gl ((ts.map (·.1)).take i) t.y.ch t.x = [] := this
        rw [this]
        rfl
      | some v =>
        rw [hv] at this
        obtain ⟨p, rfl, hp⟩ := this
        exact ⟨p, rfl, e5 _ _ (e3 _ _ hp)⟩
    obtain ⟨p, ep, hp⟩ := hkey
    refine ⟨_, rfl, by show 1 ≤ sizeLine; decide, fun q2 hq2 => ⟨p, q2, _, [.int (t.z : Int)], ep, rfl, (Ex.new hq2) _ _ hp, upd_same, ?_, fun p' hp' => ?_⟩⟩
    · have h0 : (gl ((ts.map (·.1)).take i) t.y.ch t.x).length ≤ 400 := by
        unfold gl
        rw [List.length_map]
        refine Nat.le_trans (List.length_filter_le _ _) ?_
        rw [List.length_take]
        omega
      show (nats _).length + 1 ≤ sizeLine
      rw [List.length_map, sizeLine_eq]
      omega
    refine ⟨_, rfl, _, rfl, _, rfl, by show 2 ≤ sizeLine; decide, fun T2 hT2 => ?_⟩
    have e8 : Ex H5 (upd (upd (upd H5 q2 (.lst [.int (t.z : Int)])) p' (.lst (nats (gl ((ts.map (·.1)).take i) t.y.ch t.x) ++ [.int (t.z : Int)]))) T2 (.tup [.str (sgS t.y), .int (t.x : Int)])) := ((Ex.new hq2).put hp').put hT2
    have p8 : (upd (upd (upd H5 q2 (.lst [.int (t.z : Int)])) p' (.lst (nats (gl ((ts.map (·.1)).take i) t.y.ch t.x) ++ [.int (t.z : Int)]))) T2 (.tup [.str (sgS t.y), .int (t.x : Int)])) p' = some (.lst (nats (gl ((ts.map (·.1)).take i) t.y.ch t.x) ++ [.int (t.z : Int)])) := (upd_ne (ne_of_none upd_same hT2)).trans upd_same
    have d8 : Dp K (upd (upd (upd H5 q2 (.lst [.int (t.z : Int)])) p' (.lst (nats (gl ((ts.map (·.1)).take i) t.y.ch t.x) ++ [.int (t.z : Int)]))) T2 (.tup [.str (sgS t.y), .int (t.x : Int)])) (.ref T2) (dat (t.y.ch, t.x)) :=
      pair_dp (x := .str (sgS t.y)) (y := .int (t.x : Int)) sqt_new (by show Dp K _ _ (dat t.y.ch); rw [dat_ch]; exact sg_dp _) (nat_dp t.x)
    generalize upd (upd (upd H5 q2 (.lst [.int (t.z : Int)])) p' (.lst (nats (gl ((ts.map (·.1)).take i) t.y.ch t.x) ++ [.int (t.z : Int)]))) T2 (.tup [.str (sgS t.y), .int (t.x : Int)]) = H8 at e8 p8 d8
    have e28 : Ex H2 H8 := (e3.trans e5).trans e8
    have f8 := e28 _ _ h3
    refine ⟨fs, (t.y.ch, t.x), T2, fd, rfl, rfl, f8, h4.ld e28.ld, d8, by rw [sizeLine_eq]; have := (List.getElem?_eq_some_iff.mp ht).1; omega, _, _, _, _, putE fs (t.y.ch, t.x) T2 (.ref p'), rfl, (upd_ne hdf).trans (e28 _ _ h1), fun x o hx hxd => ?_, upd_same, ?_, ?_, fun c1 x1 => ?_, ?_⟩
    · exact (upd_ne (ne_of_none hx hfd)).trans (e28 _ _ (h2 x o hx hxd))
    · exact ((h4.ld e28.ld).put d8).lt (Lt.mut (noT_DN f8))
    · exact (h5.ld e28.ld).lt (Lt.mut (noT_DN f8))
    · rw [atE_putE, take_snoc ht, gl_snoc]
      by_cases e9 : (c1, x1) = (t.y.ch, t.x)
      · cases e9
        rw [if_pos rfl]
        refine ⟨p', rfl, ?_⟩
        have pf : p' ≠ fd := fun z => by rw [z, f8] at p8; cases p8
        rw [upd_ne pf, p8, if_pos ⟨rfl, rfl⟩]
        simp [nats]
      · rw [if_neg e9, if_neg fun z => e9 (by rw [z.1, z.2]), List.append_nil]
        have := h6 c1 x1
        cases hv : atE fs (c1, x1) with
        | none =>
          rw [hv] at this
          exact this
        | some v =>
          rw [hv] at this
          obtain ⟨p9, rfl, hp9⟩ := this
          have pf : p9 ≠ fd := fun z => by rw [z, h3] at hp9; cases hp9
          exact ⟨p9, rfl, (upd_ne pf).trans (e28 _ _ hp9)⟩
    · have := putE_len fs (t.y.ch, t.x) T2 (.ref p')
      omega
  · rintro σ H2 ⟨a, b, c, e, fs, rfl, h1, h2, h3, h4, h5, h6, h7⟩
    refine ⟨h1, ?_⟩
    have hL : (ts.map (·.1)).take (ts.map (·.1)).length = ts.map (·.1) := List.take_length
    rw [hL] at h6
    have fc : (upd H2 d (DN P w d ts)) fd = some (DN (α := Ch × Nat) P w fd fs) := (upd_ne (Ne.symm hdf)).trans h3
    have exc : Ex H (upd H2 d (DN P w d ts)) := fun x o hx => by
      by_cases hxd : x = d
      · subst hxd
        rw [upd_same, ← hx, hd]
      · rw [upd_ne hxd]
        exact h2 x o hx hxd
    have kc : Keys K (upd H2 d (DN P w d ts)) fs := h4.lt (Lt.mut (noT_fDN h1))
    have oc : FoundOk (upd H2 d (DN P w d ts)) fs (ts.map (·.1)) := fun c x => by
      have := h6 c x
      cases hv : atE fs (c, x) with
      | none =>
        rw [hv] at this
        exact this
      | some v =>
        rw [hv] at this
        obtain ⟨p, rfl, hp⟩ := this
        have : p ≠ d := fun z => by rw [z, h1] at hp; cases hp
        exact ⟨p, rfl, (upd_ne this).trans hp⟩
    generalize upd H2 d (DN P w d ts) = Hc at fc exc kc oc ⊢
    refine ⟨_, rfl, fun D hD => ?_⟩
    refine dc_it (kdK P w K) walk_str (fun j H' => Ex Hc H' ∧ ∃ kvs, H' D = some (.dK kvs) ∧ kvs.length ≤ j ∧ ∀ m, m < j → ∀ c : Ch, ("abcdef" : Str).cps[m]? = some c.c → ∃ vl, valV kvs (Sum.inr ⟨#[c.c]⟩) = some vl ∧ Dp K H' vl (.list ((goalsL n (ts.map (·.1)) c).map fun r => .list (r.map dat))))
      ⟨Ex.new hD, [], upd_same, Nat.le_refl _, fun m hm => absurd hm (Nat.not_lt_zero _)⟩ (fun _ _ _ _ => trivial) ?_ ?_
    · rintro i x H3 _ hi ⟨e3, kvs, k1, k2, k3⟩ ⟨rfl, c, hc, rfl⟩
      have hc128 : c < 128 := by
        have : ∀ j, j < 6 → ∀ c, ("abcdef" : Str).cps[j]? = some c → c < 128 := by
          intro j hj c hc
          rcases j with _ | _ | _ | _ | _ | _ | j
          · cases hc; decide
          · cases hc; decide
          · cases hc; decide
          · cases hc; decide
          · cases hc; decide
          · cases hc; decide
          · omega
        exact this i hi c hc
      refine ⟨rfl, _, rfl, _, rfl, (n : Int), rfl, by omega, by omega, fun D' hD' => ?_⟩
      refine lc_tw (tw_range (K := K) (n := n)) (fun (r : List Nat) H y => ∃ p, y = .ref p ∧ p ≠ D' ∧ H p = some (.lst (nats r))) (fun x => some (gl (ts.map (·.1)) ⟨c, hc128⟩ x)) hD' (fun _ _ => trivial)
        (fun r H y acc acc' hh ⟨p, hp1, hp2, hp3⟩ => ⟨p, hp1, hp2, (upd_ne hp2).trans hp3⟩) (fun r H H' y e ⟨p, hp1, hp2, hp3⟩ => ⟨p, hp1, hp2, e _ _ hp3⟩) (by rw [List.length_range, sizeLine_eq]; omega) ?_ ?_
      · rintro x v H4 acc N M hx e4 hacc hv hN hM
        have := dp_nat hv
        subst this
        have f4 := e4 _ _ (e3 _ _ fc)
        refine ⟨rfl, ?_⟩
        refine ⟨_, rfl, ⟨fd, fs, rfl, .inl f4⟩, _, rfl, _, rfl, by show 2 ≤ sizeLine; decide, fun T1 hT1 => ⟨Nat.zero_le _, fun q1 hq1 => ?_⟩⟩
        have e5 : Ex H4 (upd (upd H4 T1 (.tup [.str ⟨#[c]⟩, .int (x : Int)])) q1 (.lst [])) := (Ex.new hT1).put hq1
        have d5 : Dp K (upd (upd H4 T1 (.tup [.str ⟨#[c]⟩, .int (x : Int)])) q1 (.lst [])) (.ref T1) (dat ((⟨c, hc128⟩ : Ch), x)) :=
          pair_dp (x := .str ⟨#[c]⟩) (y := .int (x : Int)) (SqT.of ((upd_ne (ne_of_none upd_same hq1)).trans upd_same)) (show Dp K _ _ (.str ⟨#[c]⟩) from .str _) (nat_dp x)
        have q5 : (upd (upd H4 T1 (.tup [.str ⟨#[c]⟩, .int (x : Int)])) q1 (.lst [])) q1 = some (.lst []) := upd_same
        have qD : q1 ≠ D' := fun z => by
          rw [z, upd_ne (ne_of_none hacc hT1), hacc] at hq1
          cases hq1
        generalize upd (upd H4 T1 (.tup [.str ⟨#[c]⟩, .int (x : Int)])) q1 (.lst []) = H5 at e5 d5 q5
        refine ⟨fs, ((⟨c, hc128⟩ : Ch), x), .ref T1, .ref q1, rfl, ⟨T1, fd, rfl, rfl, .inl (e5 _ _ f4), kc.ld (e3.trans (e4.trans e5)).ld, d5⟩, ?_⟩
        refine hN _ _ H5 rfl e5 ?_
        have := oc ⟨c, hc128⟩ x
        cases hv : atE fs ((⟨c, hc128⟩ : Ch), x) with
        | none =>
          rw [hv] at this
          have this : gl (ts.map (·.1)) ⟨c, hc128⟩ x = [] := this
          rw [this]
          exact ⟨q1, rfl, qD, q5⟩
        | some v =>
          rw [hv] at this
          obtain ⟨p, rfl, hp⟩ := this
          exact ⟨p, rfl, fun z => by rw [z] at hp; exact absurd ((e3 _ _ hp).symm.trans hD') (fun z => nomatch z), (e3.trans (e4.trans e5)) _ _ hp⟩
      · intro H4 acc e4 hacc ha
        refine ⟨kvs, Sum.inr ⟨#[c]⟩, rfl, e4 _ _ k1, by rw [sizeLine_eq]; have : i < 6 := hi; omega, (e3.trans e4).mut hD, putK kvs (Sum.inr ⟨#[c]⟩) (.ref D'), upd_same, ?_, ?_⟩
        · have := length_putK kvs (Sum.inr ⟨#[c]⟩ : Key) (.ref D')
          omega
        · intro m hm c' hc'
          have ldD : Ld H4 (upd H4 D (.dK (putK kvs (Sum.inr ⟨#[c]⟩) (.ref D')))) := Ld.upd (fun xs r => by
            rcases r with r | ⟨o, r⟩
            · rw [e4 _ _ k1] at r; cases r
            · rw [e4 _ _ k1] at r; cases r) (noT_dK (e4 _ _ k1))
          rw [valV_put]
          by_cases ec : c'.c = c
          · have ec' : c' = ⟨c, hc128⟩ := by
              cases c'
              simp at ec
              subst ec
              rfl
            subst ec'
            rw [if_pos rfl]
            refine ⟨_, rfl, dp_ld ldD (.lst (SqL.of hacc) ?_)⟩
            have e7 : (List.range n).filterMap (fun x => some (gl (ts.map (·.1)) ⟨c, hc128⟩ x)) = goalsL n (ts.map (·.1)) ⟨c, hc128⟩ := by
              show List.filterMap (some ∘ gl (ts.map (·.1)) ⟨c, hc128⟩) _ = _
              rw [List.filterMap_eq_map]
              rfl
            rw [e7] at ha
            exact ls_all (all_mono (fun r y hy => by
              obtain ⟨p, rfl, _, hp⟩ := hy
              exact .lst (SqL.of hp) (nats_dp' r)) ha)
          · have : ¬ (Sum.inr ⟨#[c'.c]⟩ : Key) = Sum.inr ⟨#[c]⟩ := fun z => ec (by
              have z := Sum.inr.inj z
              have := congrArg (fun s : Str => s.cps.toList) z
              simpa using this)
            rw [if_neg this]
            have hm' : m < i := by
              rcases Nat.lt_or_ge m i with h | h
              · exact h
              · have : m = i := by omega
                subst this
                rw [hc] at hc'
                exact absurd (Option.some.inj hc').symm ec
            obtain ⟨vl, w1, w2⟩ := k3 m hm' c' hc'
            exact ⟨vl, w1, dp_ld ldD (w2.ex e4)⟩
    · rintro H3 ⟨e3, kvs, k1, k2, k3⟩
      refine q _ H3 (exc.trans e3) ⟨D, kvs, rfl, .inl k1, fun s hs => ?_⟩
      have : ∃ m, m < 6 ∧ ("abcdef" : Str).cps[m]? = some s.ch.c := by
        cases s with
        | a => exact ⟨0, by decide, rfl⟩
        | b => exact ⟨1, by decide, rfl⟩
        | A => cases hs
        | B => cases hs
      obtain ⟨m, hm, hm2⟩ := this
      obtain ⟨vl, w1, w2⟩ := k3 m hm s.ch hm2
      refine ⟨vl, ?_, w2⟩
      rw [sgS_C]
      exact w1
end
end K26

set_option Elab.async false
set_option linter.all false
set_option maxRecDepth 100000
set_option maxHeartbeats 4000000
/-! More rules: walking a dict that nothing else will write (frozen for good), sorted of an int-keyed dict, sorted of a list or a tuple. -/
namespace K26
open PySem PySem.Spec PyProof.Rows L2
open Ky

section
variable {X : Cx} {O : Ou} {α : Type} [Ky α] {tg e : Expr} {td : TE} {apos cpos tpos : Pos} {elts : List Expr} {kk : Nat}
def iNF (α : Type) [Ky α] (X : Ou) (td : TE) : TI := fun σ H R => td σ H fun x H1 => ∃ (d : Addr) (ts : List (En α)), x = V.ref d ∧ H1 d = some (DN X.prog X.w d ts) ∧ ∀ o, R (Itn X.prog X.w d o ts) (upd H1 d (.frz o (DN X.prog X.w d ts)))
def iImF (α : Type) [Ky α] (X : Ou) (td : TE) : TI := fun σ H R => td σ H fun x H1 => ∃ (d : Addr) (ts : List (En α)), x = V.ref d ∧ H1 d = some (DN X.prog X.w d ts) ∧ ∀ o, R (Iim X.prog X.w d o ts) (upd H1 d (.frz o (DN X.prog X.w d ts)))
def iKF (td : TE) : TI := fun σ H R => td σ H fun x H1 => ∃ (d : Addr) (kvs : List (Key × V)), x = V.ref d ∧ H1 d = some (.dK kvs) ∧ ∀ o, R (Itk d o kvs) (upd H1 d (.frz o (.dK kvs)))
theorem pi_NF (he : PE X e td) : PI X tg e (iNF α X.ou td) := by
  refine ⟨fun pins s σ H R I h => ?_⟩
  refine thn (he.run pins s σ H _ I h) fun u s1 ⟨x, H1, I1, rx, d, ts, ex, hd, q⟩ => ?_
  subst ex
  obtain rfl : u = Value.ref d := rx
  obtain ⟨od, I2⟩ := I1.lock hd True.intro
  obtain ⟨lo, es, ep, hdt, hm, hsz, hent⟩ := frzN I2 upd_same
  exact wpAny_pyIter_dict_raw lo hm (pi_one (tk := s1.toks) I2 _ (turn_N _ hdt) ⟨_, Heap.get?_push_size _ rfl, rfl, rfl⟩ (q od))
theorem pi_ImF (he : PE X e td) (hbase : attributeBase e "items" X.env (eval e X.env) = eval e X.env := by rfl) (hline : (apos.endLine == cpos.line) = true := by rfl) :
    PI X (.Tuple elts kk tpos) (.Call (.Attribute e "items" apos) [] [] cpos) (iImF α X.ou td) := by
  refine ⟨fun pins s σ H R I h => ?_⟩
  refine wpAny_Call_method (T := "dict") (id := "dict.items") hbase rfl hline F.plainAttrs_dict F.slot_dict_items F.type_dict_items (thn (he.run pins s σ H _ I h) fun u s1 ⟨x, H1, I0, rx, d, ts, ex, hd, q⟩ => ?_)
  subst ex
  obtain rfl : u = Value.ref d := rx
  obtain ⟨od, I1⟩ := I0.lock hd True.intro
  obtain ⟨lo, es, ep, hdt, hm, hsz, hent⟩ := frzN I1 upd_same
  obtain ⟨o', ho, hc, _⟩ := id hm
  refine ⟨hm.typeIs, fun a e => by cases e; exact ⟨o', ho, hc.2.1⟩, ?_⟩
  have I2 : Inv X pins σ _ { s1 with heap := s1.heap.push { cls := .type "dict_items", data := .fields #[.ref d] } } := I1.kept (t' := s1.toks) fun b ob q => Heap.get?_push_of_some _ q
  have fin : wpAny (model X.prog X.w) X.A (pyIter (.ref s1.heap.objs.size)) (PIE X pins σ (.Tuple elts kk tpos) R) X.xe { s1 with heap := s1.heap.push { cls := .type "dict_items", data := .fields #[.ref d] } } :=
    wpAny_pyIter_items_raw ⟨_, Heap.get?_push_size _ rfl, rfl, rfl⟩ (hm.push _) (pi_one (tk := s1.toks) I2 _ (turn_I _ hdt) ⟨.none, .none, Heap.get?_push_size _ rfl⟩ (q od))
  show wpAny _ _ (callWith cpos (.builtin "dict.items") [.ref d] [] []) _ X.xe s1
  exact method_meetsIn F.slot_dict_items F.entry_dict_items rfl (PySem.evalArgs_none ⟨rfl, hm.typeIs, F.args_dict_items_1 _, _, meets_dict_items_raw d lo, ⟨⟨_, _, hm⟩, fin⟩⟩)
theorem pi_KF (he : PE X e td) : PI X tg e (iKF td) := by
  refine ⟨fun pins s σ H R I h => ?_⟩
  refine thn (he.run pins s σ H _ I h) fun u s1 ⟨x, H1, I0, rx, d, kvs, ex, hd, q⟩ => ?_
  subst ex
  obtain rfl : u = Value.ref d := rx
  obtain ⟨od, I1⟩ := I0.lock hd True.intro
  obtain ⟨hs, hgd, hx, es, ep, vs, hdt, hsz, kv, hm⟩ := I1.frzK upd_same
  refine iter_keys hs hgd hx hdt (pi_one (tk := s1.toks) I1 _ (turn_keys _ hdt) ⟨_, Heap.get?_push_size _ rfl, rfl, ?_⟩ (q od))
  rw [hsz] <;> rfl
theorem k_NF (hO : X.ou = O) (he : PE X e td) : PI X tg e (iNF α O td) := hO ▸ pi_NF he
theorem k_ImF (hO : X.ou = O) (he : PE X e td) (hbase : attributeBase e "items" X.env (eval e X.env) = eval e X.env := by rfl) (hline : (apos.endLine == cpos.line) = true := by rfl) :
    PI X (.Tuple elts kk tpos) (.Call (.Attribute e "items" apos) [] [] cpos) (iImF α O td) := hO ▸ pi_ImF he hbase hline
/-- sorted of a list or of a tuple -/
theorem k_srtB [So α] (hu : X.A.units + 100 < cLine) (hO : X.ou = O) (hd : dep α ≤ 60 := by decide) : CallR X (.builtin "sorted") (fun xs H Q => rSrtL α O xs H Q ∨ rSrtT α O xs H Q) := by
  cases hO
  exact fun pins s σ H xs us Q I r h => h.elim (call_srtL α hu hd pins s σ H xs us Q I r) (call_srtT α hu hd pins s σ H xs us Q I r)
end
theorem vals_pt : ∀ {vs : List V} {us : List Value}, vs.length = us.length → (∀ (i : Nat) v u, vs[i]? = some v → us[i]? = some u → RelV v u) → Vals vs us
  | [], [], _, _ => .nil
  | [], _ :: _, e, _ => by simp at e
  | _ :: _, [], e, _ => by simp at e
  | v :: vs, u :: us, e, h => .cons (h 0 v u rfl rfl) (vals_pt (by simpa using e) fun i v' u' h1 h2 => h (i + 1) v' u' (by simpa using h1) (by simpa using h2))
theorem nats_dp {K : PySem.W.Frag} {H : Hp} : ∀ l : List Nat, DpAll K H (l.map fun n : Nat => V.int (n : Int)) (l.map dat)
  | [] => .nil
  | n :: l => .cons (nat_dp n) (nats_dp l)
theorem dp_nats {K : PySem.W.Frag} {H : Hp} : ∀ {l : List Nat} {vs : List V}, DpAll K H vs (l.map dat) → vs = l.map fun n : Nat => V.int (n : Int)
  | [], _, h => by cases h; rfl
  | n :: l, _, h => by
    rw [List.map_cons] at h
    cases h with
    | cons a b => rw [dp_nat a, dp_nats b]; rfl
/-- keys that are numbers -/
def ikeys (kvs : List (Key × V)) (l : List Nat) : Prop := kvs.map (·.1) = l.map fun n : Nat => (Sum.inl (n : Int) : Key)
def rSrtK (K : PySem.W.Frag) : List V → Hp → VK → Prop := fun xs H Q => ∃ (d : Addr) (kvs : List (Key × V)) (l : List Nat), xs = [.ref d] ∧ H d = some (.dK kvs) ∧ ikeys kvs l ∧ l.length ≤ 1000 ∧
  ∀ ys p, DpAll K H ys ((srt l).map dat) → H p = none → Q (.ref p) (upd H p (.lst ys))
theorem call_srtK {X : Cx} (hc : X.calm = true) (hu : X.A.units + 100 < cLine) : CallR X (.builtin "sorted") (rSrtK X.K) := by
  intro pins s σ H xs us Q I r h
  obtain ⟨d, kvs, l, rfl, hd, hl, hz, q⟩ := h
  rw [Vals.ref1 r]
  obtain ⟨z, lo, vs, rel, o, es, ep, ho, hex, hdt, hko, hp, hn⟩ := dk_of I.hok hd
  have hm : s.heap.DictRaw d es ep := ⟨o, ho, hex, hdt⟩
  have ll : kvs.length = l.length := by
    have := congrArg List.length hl
    simpa using this
  have esz : es.size = l.length := by
    have l1 := hp.length
    have l2 : kvs.length = vs.length := Paired.length rel
    rw [Array.length_toList] at l1
    omega
  refine Calls.call_function_entry kind_sorted plain_sorted entry_sorted (args_sorted1 _) ?_
  unfold Builtin.«sorted»
  refine wpAny_bind (m := checkCount "sorted" 1 1 _) (wpAny_pure ?_)
  refine wpAny_bind (PySem.W.kdu_collect (A := X.A.in1) (KdlSrc.rawDict (es := es) (ep := ep) lo) (I.ok.hd hc) hm (by rw [sizeLine_eq]; omega) fun h' tk acc k it => ?_)
  have hlen : acc.toList.length = l.length := by rw [Array.length_toList, it.1, esz]
  have I1 : Inv X pins σ H { s with heap := h', toks := tk } := I.kept k
  have rv : Vals (l.map fun n : Nat => V.int (n : Int)) acc.toList := by
    refine vals_pt (by rw [List.length_map, hlen]) fun i v u hv hu' => ?_
    rw [List.getElem?_map] at hv
    obtain ⟨n, hn', rfl⟩ := Option.map_eq_some_iff.mp hv
    have hk : (kvs.map (·.1))[i]? = some (Sum.inl (n : Int)) := by
      rw [hl, List.getElem?_map, hn']
      rfl
    rw [List.getElem?_map] at hk
    obtain ⟨⟨k1, v1⟩, hk1, hk2⟩ := Option.map_eq_some_iff.mp hk
    have hk2 : k1 = Sum.inl (n : Int) := hk2
    subst hk2
    obtain ⟨u1, hu1, _⟩ := kv_get rel hk1
    have hi : i < es.size := by
      have := (List.getElem?_eq_some_iff.mp hn').1
      omega
    have he1 : es.toList[i]? = some es[i] := by simp [hi]
    obtain ⟨hkey, _⟩ := hp.get? he1 hu1
    have hacc : acc[i]? = some u := by rw [← Array.getElem?_toList]; exact hu'
    obtain ⟨_, hacc2⟩ := it.2 i u hacc
    rw [hacc2]
    exact relV_key (show keyIs (Sum.inl (n : Int)) es[i].key = true from hkey)
  have dv : DpAll X.K H (l.map fun n : Nat => V.int (n : Int)) (l.map dat) := nats_dp l
  refine wpAny_bind (wpAny_newList ?_ (by rw [sizeLine_eq]; omega))
  have hoL : (h'.push (seqObj "list" acc.toList.toArray 0)).get? h'.objs.size = some (seqObj "list" acc.toList.toArray 0) := Heap.get?_push_size _ rfl
  have I2 : Inv X pins σ H { s with heap := h'.push (seqObj "list" acc.toList.toArray 0), toks := tk } := I1.kept (t' := tk) fun b o e => Heap.get?_push_of_some _ e
  have ev := each_of (l := l) dv rv
  show wpAny _ _ _ _ _ { s with heap := h'.push (seqObj "list" acc.toList.toArray 0), toks := tk }
  refine wpAny_bind (wpAny_holding (PySem.W.list_sort_data (enc := dat) (bs := l) (s := { s with heap := h'.push (seqObj "list" acc.toList.toArray 0), toks := tk }) hoL ev ((each_reads I2 ev).mono fun u b w => ⟨_, w, by simp⟩) (allAlike _) (So.so _) (by rw [sizeLine_eq]; omega) (fun b _ => ?_) fun out ho eo => ?_))
  · have := dat_depth b
    have h0 : dep Nat = 0 := rfl
    have : X.A.in1.units = X.A.units + 1 := rfl
    omega
  · obtain ⟨ys, ry, dy⟩ := of_each eo
    obtain ⟨e', he'⟩ := sortedHeap_at (vs := acc.toList) (out := out.toArray) hoL
    have hylen : ys.length = l.length := by rw [dpAll_len dy, List.length_map, List.length_mergeSort]
    refine wpAny_pure ⟨_, rfl, .ref h'.objs.size, upd H h'.objs.size (.lst ys), I1.laid (t' := tk) (fun b u e => ?_) (Nat.le_refl _) (show ObjOk X.prog X.w _ _ _ (.lst ys) from ⟨by rw [sizeLine_eq]; omega, out, e', ry, he'⟩), rfl, q ys _ dy (I1.hok.fresh (Nat.le_refl _))⟩
    have hb : b < h'.objs.size := Heap.lt_size e
    rw [sortedHeap_old (Nat.ne_of_lt hb) (by rw [size_push']; exact Nat.lt_succ_of_lt hb)]
    exact Heap.get?_push_of_some _ e
theorem k_srtK {X : Cx} {K : PySem.W.Frag} (hu : X.A.units + 100 < cLine) (hK : X.K = K) (hc : X.calm = true) : CallR X (.builtin "sorted") (rSrtK K) := hK ▸ call_srtK hc hu
/-- the int keys of a dict, walked -/
theorem tw_KF {K : PySem.W.Frag} {d : Addr} {o : Obj} {kvs : List (Key × V)} {l : List Nat} (hl : ikeys kvs l) : TW (Itk d o kvs) (Dt K) l (fun H => H d = some (.frz o (.dK kvs))) := by
  have ll : l.length = kvs.length := by
    have := congrArg List.length hl
    simpa using this.symm
  refine ⟨fun i H hi q => ?_, fun H q => ?_, fun i H x H' hi q y => ?_⟩
  · rw [ll] at hi
    exact walk_keys.goes i H hi q
  · rw [ll]
    exact walk_keys.stops H q
  · rw [ll] at hi
    obtain ⟨rfl, k, v, h1, rfl⟩ := walk_keys.yields i H x H' hi q y
    have h2 : (kvs.map (·.1))[i]? = some k := by rw [List.getElem?_map, h1]; rfl
    rw [hl, List.getElem?_map] at h2
    obtain ⟨n, h3, rfl⟩ := Option.map_eq_some_iff.mp h2
    exact ⟨.refl _, n, h3, nat_dp n⟩
end K26

set_option Elab.async false
set_option linter.all false
set_option maxRecDepth 100000
set_option maxHeartbeats 4000000
/-! store: the class Store. -/
namespace K26
open PySem PySem.Spec PyProof.Rows L2
open Ky C8
structure Sto where
  n : Nat
  ties : List Stp
/-- this store stands at v -/
def SAt (P : Program) (w : World) (K : PySem.W.Frag) (CS : Addr) (H : Hp) (v : V) (S : Sto) : Prop := ∃ a dx d ts g, v = .ref a ∧ H a = some (.ins CS dx [("own_nodes", .int (S.n : Int)), ("own_ties", .ref d), ("own_goals", g)]) ∧ H d = some (DN P w d ts) ∧ Keys K H ts ∧
  ts.map (·.1) = S.ties ∧ GoalsAt K H g S.n S.ties ∧ TiesOk S.n S.ties ∧ 1 ≤ S.n ∧ S.n ≤ 40
theorem GoalsAt.ex {K : PySem.W.Frag} {H H' : Hp} {v : V} {n : Nat} {l : List Stp} (h : GoalsAt K H v n l) (e : Ex H H') : GoalsAt K H' v n l := by
  obtain ⟨g, kvs, rfl, h1, h2⟩ := h
  refine ⟨g, kvs, rfl, h1.elim (fun z => .inl (e _ _ z)) fun ⟨o, z⟩ => .inr ⟨o, e _ _ z⟩, fun s hs => ?_⟩
  obtain ⟨vl, a, b⟩ := h2 s hs
  exact ⟨vl, a, b.ex e⟩
theorem SAt.ex {P : Program} {w : World} {K : PySem.W.Frag} {CS : Addr} {H H' : Hp} {v : V} {S : Sto} (h : SAt P w K CS H v S) (e : Ex H H') : SAt P w K CS H' v S := by
  obtain ⟨a, dx, d, ts, g, rfl, h1, h2, h3, h4, h5, h6⟩ := h
  exact ⟨a, dx, d, ts, g, rfl, e _ _ h1, e _ _ h2, h3.ld e.ld, h4, h5.ex e, h6⟩
theorem ld_ins {H : Hp} {x C dx : Addr} {fs : List (Str × V)} {o : HO} (h : H x = some (.ins C dx fs)) : Ld H (upd H x o) := Ld.upd (fun xs r => by
    rcases r with r | ⟨o, r⟩
    · rw [h] at r; cases r
    · rw [h] at r; cases r) (noT_ins h)
/-- all but x stays -/
def Ex1 (x : Addr) (H H' : Hp) : Prop := ∀ y o, y ≠ x → H y = some o → H' y = some o
/-- a class's __init__ -/
theorem mk_ex {H1 H' : Hp} {x dx C : Addr} (hx : H1 x = none) (hd : H1 dx = none) (e : Ex1 x (upd (upd H1 dx (.own x)) x (.ins C dx [])) H') : Ex H1 H' := fun y o hy => by
  have h1 : y ≠ x := ne_of_none hy hx
  have h2 : y ≠ dx := ne_of_none hy hd
  exact e y o h1 (by rw [upd_ne h1, upd_ne h2]; exact hy)
theorem mk_ex0 {H1 : Hp} {x dx C : Addr} (hx : H1 x = none) (hd : H1 dx = none) : Ex H1 (upd (upd H1 dx (.own x)) x (.ins C dx [])) := fun y o hy => by
  rw [upd_ne (ne_of_none hy hx), upd_ne (ne_of_none hy hd)]
  exact hy
section
variable {P : Program} {w : World} {K : PySem.W.Frag} {mg : Str → Option Value} {base : Heap} {CS CQ f : Addr} {fd : FuncData}
theorem srt_both {α : Type} [Ky α] [So α] {O : Ou} {v : V} {l : List α} {H : Hp} {Q : VK} (h : Dp O.K H v (.list (l.map dat)) ∨ Dp O.K H v (.tuple (l.map dat))) (q : ∀ ys p, DpAll O.K H ys ((srt l).map dat) → H p = none → Q (.ref p) (upd H p (.lst ys))) : rSrtL α O [v] H Q ∨ rSrtT α O [v] H Q := by
  rcases h with h | h
  · obtain ⟨a, xs, rfl, hs, hv⟩ := dp_lst h
    exact .inl ⟨a, xs, l, rfl, hs, hv, q⟩
  · obtain ⟨a, xs, rfl, hs, hv⟩ := dp_tuple h
    exact .inr ⟨a, xs, l, rfl, hs, hv, q⟩
/-- a method as it stands behind the top -/
structure Fm (K : PySem.W.Frag) (C : Addr) (m qual : Str) (st : Stmt) (ps : List Str) (f : Addr) (fd : FuncData) : Prop where
  fn : FnP K m qual st [] f fd
  cl : Cls K C
  me : Meth K C m f
  b : Binds K fd ps []
theorem Fm.met {C : Addr} {m qual : Str} {st : Stmt} {N ps : List Str} {k : Nat} {sp : Sp} (F : Fm K C m qual st ps f fd) (S : FnScope N ps (defScope st)) (len : ∀ vs H Q E, sp vs H Q E → vs.length = ps.length)
    (hbody : ∀ (cdv : Value) (A : Around) (outer : List Env) (s : Shared) (H : Hp) (vs : List V) (Q : VK) (E : XK), Room k (A.deeper (envOfC qual (defScope st) s.heap.objs.size f cdv)) → sp vs H Q E →
      ∃ t, PSs (cxOf C8.CX0 P w K mg base N qual (defScope st) f cdv A outer s H E).nox (defBody st) t ∧ t { nx := fun _ H' => Q .non H', rt := Q } (start N vs) H) : Met P w K mg base (k + 1) C m sp [] :=
  ⟨f, fd, ps, [], F.cl, F.me, F.fn.ok S len fun cdv A outer s H vs Q E hr h => by
    obtain ⟨t, h1, h2⟩ := hbody cdv A outer s H vs Q E hr h
    exact ⟨t, PSs.nox h1, h2⟩, F.b, .nil⟩
theorem ok_of {m qual : Str} {st : Stmt} {dvs : List V} {N ps : List Str} {k : Nat} {sp : Sp} (F : FnP K m qual st dvs f fd) (S : FnScope N ps (defScope st)) (len : ∀ vs H Q E, sp vs H Q E → vs.length = ps.length)
    (hbody : ∀ (cdv : Value) (A : Around) (outer : List Env) (s : Shared) (H : Hp) (vs : List V) (Q : VK) (E : XK), Room k (A.deeper (envOfC qual (defScope st) s.heap.objs.size f cdv)) → sp vs H Q E →
      ∃ t, PSs (cxOf C8.CX0 P w K mg base N qual (defScope st) f cdv A outer s H E).nox (defBody st) t ∧ t { nx := fun _ H' => Q .non H', rt := Q } (start N vs) H) : FnOk P w K mg base C8.CX0 (k + 1) f fd ps sp :=
  F.ok S len fun cdv A outer s H vs Q E hr h => by
    obtain ⟨t, h1, h2⟩ := hbody cdv A outer s H vs Q E hr h
    exact ⟨t, PSs.nox h1, h2⟩
theorem sc_store_init : FnScope ["self", "nodes", "ties", "tie"] ["self", "nodes", "ties"] (defScope y_store_init) := ⟨rfl, rfl, rfl, by decide +kernel, rfl, by decide +kernel, by decide +kernel⟩
def sp_store_init (P : Program) (w : World) (K : PySem.W.Frag) (CS : Addr) : Sp := fun vs H Q _ => ∃ (x dx : Addr) (n : Nat) (v : V) (l : List Stp), vs = [.ref x, .int (n : Int), v] ∧ H x = some (.ins CS dx []) ∧ TiesAt K H v l ∧ TiesOk n l ∧ 1 ≤ n ∧ n ≤ 40 ∧
  ∀ H', Ex1 x H H' → SAt P w K CS H' (.ref x) ⟨n, srt l⟩ → Q .non H'
theorem ok_store_init {qual : Str} {dvs : List V} (T : Tx K mg CS CQ) (F : FnP K "__init__" qual y_store_init dvs f fd) (c_want_nodes : Cal P w K mg base 2 "want_nodes" sp_want_nodes []) (c_want_ties : Cal P w K mg base 4 "want_ties" (sp_want_ties K) [])
    (c_goals_by : Cal P w K mg base 1 "goals_by" (sp_goals_by P w K) []) : FnOk P w K mg base C8.CX0 5 f fd ["self", "nodes", "ties"] (sp_store_init P w K CS) := by
  refine ok_of F sc_store_init (fun vs H Q E h => ?_) (fun cdv A outer s H vs Q E hr h => ?_)
  · obtain ⟨x, dx, n, v, l, rfl, _⟩ := h
    rfl
  obtain ⟨x, dx, n, v, l, rfl, hx, ta, tok, h1, h2, q⟩ := h
  have hu := hu100 hr
  refine ⟨_, (pss_cons (ps_expr (pe_c c_want_nodes hr (by decide) (by rfl) (pa_cons (pv 1) pa_nil)))
    (pss_cons (ps_expr (pe_c c_want_ties hr (by decide) (by rfl) (pa_cons (pv 1) (pa_cons (pv 2) pa_nil))))
    (pss_cons (ps_fld (pv 0) (pv 1) rfl)
    (pss_cons (ps_fld (pv 0) (k_dc (own := [("tie", 3)]) (kd := kdN (Stp) P w K) rfl hu rfl sc_store_init.nd ((k_list (K := K) rfl (pe_callB (k_srtB (α := Stp) (O := ⟨P, w, K⟩) hu rfl) (by rfl) T.sorted (by decide +kernel) (pa_cons (pv 2) pa_nil)))) (blkOk_by (by kernel_rfl)) (fun _ _ _ _ _ => (pn 3 sc_store_init.nd)) (fun _ _ _ _ _ => pts_nil) (fun _ _ _ _ _ => (pv 3)) (fun _ _ _ _ _ => pe_bl)) rfl)
    (pss_one (ps_fld (pv 0) (pe_c c_goals_by hr (by decide) (by rfl) (pa_cons (pv 1) (pa_cons (k_fld (K := K) rfl (pv 0)) pa_nil))) rfl)))))), ?_⟩
  refine ⟨_, rfl, ⟨n, rfl, h1, h2⟩, fun H1 e1 => ⟨_, rfl, _, rfl, ⟨n, v, l, rfl, ta.imp (fun h => h.ex e1) (fun h => h.ex e1), tok⟩, fun H2 e2 => ?_⟩⟩
  refine ⟨_, rfl, _, rfl, x, CS, dx, [], rfl, e2 _ _ (e1 _ _ hx), T.cS, T.n_nodes, by decide, ?_⟩
  have x2 := e2 _ _ (e1 _ _ hx)
  have ld3 : Ld H2 (upd H2 x (.ins CS dx [("own_nodes", .int (n : Int))])) := ld_ins x2
  have e3 : Ex1 x H (upd H2 x (.ins CS dx [("own_nodes", .int (n : Int))])) := fun y o hy h => (upd_ne hy).trans (e2 _ _ (e1 _ _ h))
  have x3 : (upd H2 x (.ins CS dx [("own_nodes", .int (n : Int))])) x = some (.ins CS dx [("own_nodes", .int (n : Int))]) := upd_same
  show (fun H3 => _) (upd H2 x (.ins CS dx [("own_nodes", .int (n : Int))]))
  have ta3 : TiesAt K (upd H2 x (.ins CS dx [("own_nodes", .int (n : Int))])) v l := ta.imp (fun h => dp_ld ((e1.trans e2).ld.trans ld3) h) (fun h => dp_ld ((e1.trans e2).ld.trans ld3) h)
  generalize upd H2 x (.ins CS dx [("own_nodes", .int (n : Int))]) = H3 at e3 x3 ta3
  obtain ⟨nd, hl, tb⟩ := tok
  refine ⟨_, rfl, srt_both (O := ⟨P, w, K⟩) ta3 fun ys p dy hp => ⟨p, rfl, ⟨ys, sql_new⟩, fun D hD => ?_⟩⟩
  refine dc_tw (by decide) (tw_list (K := K) (R := Dt K) (l := srt l) (xs := ys)) (fun t => some t) hD (fun H' e => ⟨e.ld.sqL sql_new, all_dat ((dy.ex (Ex.new hp)).ex e)⟩) (by rw [srt_len, sizeLine_eq]; omega) ?_ ?_
  · intro a v' H' ts N M ha e hts hv hN hM
    obtain ⟨b, _, _, _, rfl, _⟩ := dp_t3 hv
    exact ⟨rfl, _, rfl, hN a _ _ H' rfl (.refl H') hv ⟨b, rfl⟩⟩
  · intro H5 ts e5 hts hk ek
    have ek : ts.map (·.1) = srt l := by
      rw [ek, List.filterMap_some]
      exact keysOf_same ((srt_perm l).nodup_iff.mpr nd)
    have x5 := e5 _ _ ((Ex.new hp) _ _ x3)
    refine ⟨_, rfl, x, CS, dx, _, rfl, x5, T.cS, T.n_ties, by show 1 < 1000; decide, ?_⟩
    have xD : D ≠ x := fun z => by rw [z, x5] at hts; cases hts
    have e6 : Ex1 x H (upd H5 x (.ins CS dx [("own_nodes", .int (n : Int)), ("own_ties", .ref D)])) := fun y o hy h => (upd_ne hy).trans (e5 _ _ ((Ex.new hp) _ _ (e3 y o hy h)))
    have x6 : (upd H5 x (.ins CS dx [("own_nodes", .int (n : Int)), ("own_ties", .ref D)])) x = some (.ins CS dx [("own_nodes", .int (n : Int)), ("own_ties", .ref D)]) := upd_same
    have D6 : (upd H5 x (.ins CS dx [("own_nodes", .int (n : Int)), ("own_ties", .ref D)])) D = some (DN P w D ts) := (upd_ne xD).trans hts
    have k6 : Keys K (upd H5 x (.ins CS dx [("own_nodes", .int (n : Int)), ("own_ties", .ref D)])) ts := hk.ld (ld_ins x5)
    show (fun H6 => _) (upd H5 x (.ins CS dx [("own_nodes", .int (n : Int)), ("own_ties", .ref D)]))
    generalize upd H5 x (.ins CS dx [("own_nodes", .int (n : Int)), ("own_ties", .ref D)]) = H6 at e6 x6 D6 k6
    have tok6 : TiesOk n (ts.map (·.1)) := by
      rw [ek]
      exact ⟨(srt_perm l).nodup_iff.mpr nd, by rw [srt_len]; exact hl, fun t ht => tb t (mem_srt.mp ht)⟩
    refine ⟨_, rfl, _, rfl, x, CS, dx, _, _, rfl, x6, T.cS, T.n_ties, rfl, n, D, ts, rfl, D6, k6, tok6, h2, fun g H7 e7 hg => ?_⟩
    refine ⟨_, rfl, x, CS, dx, _, rfl, e7 _ _ x6, T.cS, T.n_goals, by show 2 < 1000; decide, ?_⟩
    refine q _ (fun y o hy h => (upd_ne hy).trans (e7 _ _ (e6 y o hy h))) ⟨x, dx, D, ts, g, rfl, upd_same, (upd_ne xD).trans (e7 _ _ D6), (k6.ld e7.ld).ld (ld_ins (e7 _ _ x6)), ek, ?_, by rw [← ek]; exact tok6, h1, h2⟩
    obtain ⟨ga, kvs, rfl, g1, g2⟩ := hg
    have gx : ga ≠ x := fun z => by
      rw [z] at g1
      rcases g1 with g1 | ⟨o, g1⟩
      · rw [e7 _ _ x6] at g1; cases g1
      · rw [e7 _ _ x6] at g1; cases g1
    rw [ek] at g2
    refine ⟨ga, kvs, rfl, g1.imp (fun z => (upd_ne gx).trans z) (fun ⟨o, z⟩ => ⟨o, (upd_ne gx).trans z⟩), fun s hs => ?_⟩
    obtain ⟨vl, w1, w2⟩ := g2 s hs
    exact ⟨vl, w1, dp_ld (ld_ins (e7 _ _ x6)) w2⟩
end
end K26

set_option Elab.async false
set_option linter.all false
set_option maxRecDepth 100000
set_option maxHeartbeats 4000000
/-! store: made_store, the methods of Store. -/
namespace K26
open PySem PySem.Spec PyProof.Rows L2
open Ky C8
section
variable {P : Program} {w : World} {K : PySem.W.Frag} {mg : Str → Option Value} {base : Heap} {CS CQ f : Addr} {fd : FuncData}
theorem TiesAt.ex {H H' : Hp} {v : V} {l : List Stp} (h : TiesAt K H v l) (e : Ex H H') : TiesAt K H' v l := h.imp (fun z => z.ex e) fun z => z.ex e
theorem TiesOk.perm {n : Nat} {l m : List Stp} (h : TiesOk n l) (p : m.Perm l) : TiesOk n m := ⟨p.nodup_iff.mpr h.1, by rw [p.length_eq]; exact h.2.1, fun t ht => h.2.2 t (p.mem_iff.mp ht)⟩
/-- the attributes of a store -/
structure SF (P : Program) (w : World) (K : PySem.W.Frag) (CS : Addr) (H : Hp) (a dx d : Addr) (ts : List (En Stp)) (g : V) (S : Sto) : Prop where
  h : H a = some (.ins CS dx [("own_nodes", .int (S.n : Int)), ("own_ties", .ref d), ("own_goals", g)])
  hd : H d = some (DN P w d ts)
  hk : Keys K H ts
  e : ts.map (·.1) = S.ties
  g : GoalsAt K H g S.n S.ties
  ok : TiesOk S.n S.ties
  n1 : 1 ≤ S.n
  n2 : S.n ≤ 40
theorem SAt.sf {H : Hp} {v : V} {S : Sto} (h : SAt P w K CS H v S) : ∃ a dx d ts g, v = .ref a ∧ SF P w K CS H a dx d ts g S := by
  obtain ⟨a, dx, d, ts, g, e, h1, h2, h3, h4, h5, h6, h7, h8⟩ := h
  exact ⟨a, dx, d, ts, g, e, h1, h2, h3, h4, h5, h6, h7, h8⟩
theorem SF.sat {H : Hp} {a dx d : Addr} {ts : List (En Stp)} {g : V} {S : Sto} (s : SF P w K CS H a dx d ts g S) : SAt P w K CS H (.ref a) S := ⟨a, dx, d, ts, g, rfl, s.h, s.hd, s.hk, s.e, s.g, s.ok, s.n1, s.n2⟩
theorem SF.ex {H H' : Hp} {a dx d : Addr} {ts : List (En Stp)} {g : V} {S : Sto} (s : SF P w K CS H a dx d ts g S) (e : Ex H H') : SF P w K CS H' a dx d ts g S := ⟨e _ _ s.h, e _ _ s.hd, s.hk.ld e.ld, s.e, s.g.ex e, s.ok, s.n1, s.n2⟩
theorem SF.ne {H : Hp} {a dx d : Addr} {ts : List (En Stp)} {g : V} {S : Sto} (s : SF P w K CS H a dx d ts g S) : a ≠ d := fun z => by
  have h := s.h
  rw [z, s.hd] at h
  cases h
/-- behind a lock: all stands as before -/
theorem unlock_ex {H1 H2 : Hp} {d D : Addr} {od : Obj} {u : HO} {acc : List V} (hd : H1 d = some u) (f2 : H2 d = some (.frz od u)) (e : Ex (upd H1 d (.frz od u)) H2) (hacc : H2 D = some (.lst acc)) : Ex H1 (upd H2 d u) ∧ (upd H2 d u) D = some (.lst acc) ∧ D ≠ d := by
  have hne : D ≠ d := fun z => by rw [z, f2] at hacc; cases hacc
  refine ⟨fun y o hy => ?_, (upd_ne hne).trans hacc, hne⟩
  by_cases z : y = d
  · subst z
    rw [upd_same, ← hy, hd]
  · rw [upd_ne z]
    exact e y o ((upd_ne z).trans hy)
theorem fm_filter {α : Type} [DecidableEq α] (t : α) : ∀ l : List α, l.filterMap (fun u => if u = t then none else some u) = l.filter fun u => decide (u ≠ t)
  | [] => rfl
  | x :: l => by
    by_cases h : x = t
    · simp [h, fm_filter t l]
    · simp [h, fm_filter t l]
/-- a store is made -/
def spMake (P : Program) (w : World) (K : PySem.W.Frag) (CS : Addr) (S : Sto) (H : Hp) (Q : VK) : Prop := ∀ v H', Ex H H' → SAt P w K CS H' v S → Q v H'
theorem sc_made_store : FnScope ["nodes", "ties"] ["nodes", "ties"] (defScope y_made_store) := ⟨rfl, rfl, rfl, by decide +kernel, rfl, by decide +kernel, by decide +kernel⟩
def sp_made_store (P : Program) (w : World) (K : PySem.W.Frag) (CS : Addr) : Sp := fun vs H Q _ => ∃ (n : Nat) (v : V) (l : List Stp), vs = [.int (n : Int), v] ∧ TiesAt K H v l ∧ TiesOk n l ∧ 1 ≤ n ∧ n ≤ 40 ∧ spMake P w K CS ⟨n, srt l⟩ H Q
/-- a call Store(n, ties) -/
theorem make_store {n : Nat} {v : V} {l : List Stp} {H : Hp} {Q : VK} (ta : TiesAt K H v l) (tok : TiesOk n l) (h1 : 1 ≤ n) (h2 : n ≤ 40) (q : spMake P w K CS ⟨n, srt l⟩ H Q) :
    ∀ x dx, H x = none → H dx = none → dx ≠ x → sp_store_init P w K CS [.ref x, .int (n : Int), v] (upd (upd H dx (.own x)) x (.ins CS dx [])) (fun u H2 => u = .non ∧ Q (.ref x) H2) C8.E0 := fun x dx hx hdx hne =>
  ⟨x, dx, n, v, l, rfl, upd_same, ta.ex (mk_ex0 hx hdx), tok, h1, h2, fun H' e hs => ⟨rfl, q _ H' (mk_ex hx hdx e) hs⟩⟩
theorem c_made_store (T : Tx K mg CS CQ) (F : Fx K mg "made_store" y_made_store ["nodes", "ties"] f fd) (c_Store : Mak P w K mg base 5 "Store" CS (sp_store_init P w K CS) []) : Cal P w K mg base 7 "made_store" (sp_made_store P w K CS) [] := by
  refine F.cal sc_made_store (fun vs H Q E h => ?_) (fun cdv A outer s H vs Q E hr h => ?_)
  · obtain ⟨n, v, l, rfl, _⟩ := h
    rfl
  obtain ⟨n, v, l, rfl, ta, tok, h1, h2, q⟩ := h
  refine ⟨_, (pss_one (ps_ret (pe_mk c_Store hr (by decide) (by rfl) (pa_cons (pv 0) (pa_cons (pv 1) pa_nil))))), ?_⟩
  exact ⟨_, rfl, _, rfl, make_store ta tok h1 h2 q⟩
theorem sc_store_ties : FnScope ["self"] ["self"] (defScope y_store_ties) := ⟨rfl, rfl, rfl, by decide +kernel, rfl, by decide +kernel, by decide +kernel⟩
def sp_store_ties (P : Program) (w : World) (K : PySem.W.Frag) (CS : Addr) : Sp := fun vs H Q _ => ∃ (v : V) (S : Sto), vs = [v] ∧ SAt P w K CS H v S ∧ ∀ p xs H', Ex H H' → H' p = some (.lst xs) → DpAll K H' xs (S.ties.map dat) → Q (.ref p) H'
theorem c_Store_ties {qual : Str} (T : Tx K mg CS CQ) (F : Fm K CS "ties" qual y_store_ties ["self"] f fd) : Met P w K mg base 1 CS "ties" (sp_store_ties P w K CS) [] := by
  refine F.met sc_store_ties (fun vs H Q E h => ?_) (fun cdv A outer s H vs Q E hr h => ?_)
  · obtain ⟨v, S, rfl, _⟩ := h
    rfl
  obtain ⟨v, S, rfl, hs, q⟩ := h
  obtain ⟨a, dx, d, ts, g, rfl, s⟩ := hs.sf
  refine ⟨_, (pss_one (ps_ret (pe_callTy (k_listN (α := Stp) (O := ⟨P, w, K⟩) rfl rfl) (by rfl) T.list (by decide +kernel) (pa_cons (k_fld (K := K) rfl (pv 0)) pa_nil)))), ?_⟩
  refine ⟨_, rfl, a, CS, dx, _, _, rfl, s.h, T.cS, T.n_ties, rfl, d, ts, rfl, .inl s.hd, fun p hp => ?_⟩
  refine q p _ _ (Ex.new hp) upd_same ?_
  rw [← s.e]
  exact (refs_dp s.hk).ex (Ex.new hp)
theorem sc_store_beside : FnScope ["self", "other", "many", "more", "near", "letter", "far"] ["self", "other"] (defScope y_store_beside) := ⟨rfl, rfl, rfl, by decide +kernel, rfl, by decide +kernel, by decide +kernel⟩
def shiftT (m : Nat) (t : Stp) : Stp := ⟨m + t.x, t.y, m + t.z⟩
def sp_store_beside (P : Program) (w : World) (K : PySem.W.Frag) (CS : Addr) : Sp := fun vs H Q _ => ∃ (v v2 : V) (S S2 : Sto), vs = [v, v2] ∧ SAt P w K CS H v S ∧ SAt P w K CS H v2 S2 ∧ S.n + S2.n ≤ 40 ∧ S.ties.length + S2.ties.length ≤ 400 ∧ spMake P w K CS ⟨S.n + S2.n, srt (S.ties ++ S2.ties.map (shiftT S.n))⟩ H Q
theorem beside_ok {S S2 : Sto} (h : TiesOk S.n S.ties) (h2 : TiesOk S2.n S2.ties) (hl : S.ties.length + S2.ties.length ≤ 400) : TiesOk (S.n + S2.n) (S.ties ++ S2.ties.map (shiftT S.n)) := by
  refine ⟨?_, by simpa using hl, fun t ht => ?_⟩
  · rw [List.nodup_append]
    refine ⟨h.1, ?_, fun a ha b hb e => ?_⟩
    · refine List.Pairwise.map _ (fun a b hne e => hne ?_) h2.1
      unfold shiftT at e
      injection e with e1 e2 e3
      cases a
      cases b
      simp only at e1 e2 e3
      have e1 : _ = _ := Nat.add_left_cancel e1
      have e3 : _ = _ := Nat.add_left_cancel e3
      subst e1 e2 e3
      rfl
    · subst e
      obtain ⟨c, _, e⟩ := List.mem_map.mp hb
      have := (h.2.2 a ha).1
      rw [← e] at this
      exact absurd this (by show ¬ S.n + c.x < S.n; omega)
  · rcases List.mem_append.mp ht with ht | ht
    · obtain ⟨a, b, c⟩ := h.2.2 t ht
      exact ⟨by omega, by omega, c⟩
    · obtain ⟨c, hc, e⟩ := List.mem_map.mp ht
      subst e
      obtain ⟨a, b, c'⟩ := h2.2.2 c hc
      exact ⟨by show S.n + c.x < _; omega, by show S.n + c.z < _; omega, c'⟩
theorem c_Store_beside {qual : Str} (T : Tx K mg CS CQ) (F : Fm K CS "beside" qual y_store_beside ["self", "other"] f fd) (c_want_few_ties : Cal P w K mg base 1 "want_few_ties" sp_want_few_ties []) (c_made_store : Cal P w K mg base 7 "made_store" (sp_made_store P w K CS) []) : Met P w K mg base 8 CS "beside" (sp_store_beside P w K CS) [] := by
  refine F.met sc_store_beside (fun vs H Q E h => ?_) (fun cdv A outer s H vs Q E hr h => ?_)
  · obtain ⟨v, v2, S, S2, rfl, _⟩ := h
    rfl
  obtain ⟨v, v2, S, S2, rfl, hs, hs2, hn, hl, q⟩ := h
  obtain ⟨a, dx, d, ts, g, rfl, s1⟩ := hs.sf
  obtain ⟨a2, dx2, d2, ts2, g2, rfl, s2⟩ := hs2.sf
  have hu := hu100 hr
  refine ⟨_, (pss_cons (ps_if (pt_not (pt_val (pe_callB (call_isC T.iS) (by rfl) T.isinstance (by decide +kernel) (pa_cons (pv 1) (pa_cons (gR (by rfl) T.store) pa_nil))))) (pss_one ps_never) pss_nil)
    (pss_cons (pset 2 sc_store_beside.nd (k_fld (K := K) rfl (pv 0)))
    (pss_cons (ps_if (pt_cmpR (op_gt) (pe_op (op_add) (pv 2) (k_fld (K := K) rfl (pv 1))) (gI (by rfl) T.nodes) (by rfl)) (pss_one ps_never) pss_nil)
    (pss_cons (ps_expr (pe_c c_want_few_ties hr (by decide) (by rfl) (pa_cons (pe_op (op_add) (pe_callB (k_lenN (α := Stp) (O := ⟨P, w, K⟩) rfl) (by rfl) T.len (by decide +kernel) (pa_cons (k_fld (K := K) rfl (pv 0)) pa_nil)) (pe_callB (k_lenN (α := Stp) (O := ⟨P, w, K⟩) rfl) (by rfl) T.len (by decide +kernel) (pa_cons (k_fld (K := K) rfl (pv 1)) pa_nil))) pa_nil)))
    (pss_cons (ps_lock (ps_setLc (i := 3) (own := [("near", 4), ("letter", 5), ("far", 6)]) rfl sc_store_beside.nd rfl rfl (sw_true rfl rfl rfl (by decide +kernel)) ((k_N (α := Stp) (O := ⟨P, w, K⟩) rfl (k_fld (K := K) rfl (pv 1)))) (blkOk_by (by kernel_rfl)) (fun _ _ _ _ _ => (k_gtup (n := 3) (K := K) rfl rfl (pgs_cons (pn 4 sc_store_beside.nd) (pgs_cons (pn 5 sc_store_beside.nd) (pgs_cons (pn 6 sc_store_beside.nd) pgs_nil))))) (fun _ _ _ _ _ => pts_nil) (fun _ _ _ _ _ => (pe_tup (pa_cons (pe_op (op_add) (pv 2) (pv 4)) (pa_cons (pv 5) (pa_cons (pe_op (op_add) (pv 2) (pv 6)) pa_nil)))))))
    (pss_one (ps_ret (pe_c c_made_store hr (by decide) (by rfl) (pa_cons (pe_op (op_add) (pv 2) (k_fld (K := K) rfl (pv 1))) (pa_cons (pe_lst (k_star (α := Stp) (O := ⟨P, w, K⟩) rfl rfl (k_fld (K := K) rfl (pv 0)) (StX.pa_star (pv 3) pa_nil))) pa_nil)))))))))), ?_⟩
  refine ⟨_, rfl, a2, dx2, _, rfl, s2.h, true, rfl, iteF ?_⟩
  refine ⟨_, rfl, a, CS, dx, _, _, rfl, s1.h, T.cS, T.n_nodes, rfl, ?_⟩
  refine ⟨_, rfl, _, rfl, a2, CS, dx2, _, _, rfl, s2.h, T.cS, T.n_nodes, rfl, _, _, rfl, rfl, _, _, rfl, rfl, _, rfl, ifN (by omega) ?_⟩
  have l1 : ts.length = S.ties.length := by rw [← s1.e, List.length_map]
  have l2 : ts2.length = S2.ties.length := by rw [← s2.e, List.length_map]
  refine ⟨_, rfl, a, CS, dx, _, _, rfl, s1.h, T.cS, T.n_ties, rfl, d, ts, rfl, .inl s1.hd, s1.hk, _, rfl, a2, CS, dx2, _, _, rfl, s2.h, T.cS, T.n_ties, rfl, d2, ts2, rfl, .inl s2.hd, s2.hk, _, _, rfl, rfl, ⟨ts.length + ts2.length, by simp, by omega⟩, fun H1 e1 => ?_⟩
  have t1 := s1.ex e1
  have t2 := s2.ex e1
  have ad := s2.ne
  refine ⟨d2, DN P w d2 ts2, t2.hd, trivial, fun od => ?_⟩
  refine ⟨_, rfl, a2, CS, dx2, _, _, rfl, (upd_ne ad).trans t2.h, T.cS, T.n_ties, rfl, d2, od, ts2, rfl, upd_same, fun D hD => ?_⟩
  refine lc_dt (K := K) (tw_N (K := K)) (fun t => some (shiftT S.n t)) hD (fun H' e => ⟨e _ _ upd_same, (t2.hk.lt (Lt.mut (noT_DN t2.hd))).ld e.ld⟩) (by rw [List.length_map, sizeLine_eq]; omega) ?_ ?_
  · intro t x H2 acc N M ht e2 hacc hx hN hM
    obtain ⟨T0, u, v, z, rfl, hT, du, dv, dz⟩ := dp_t3 hx
    have du := dp_nat du
    have dv := dp_sg dv
    have dz := dp_nat dz
    subst du dv dz
    refine ⟨_, _, rfl, hT, rfl, _, _, rfl, _, _, rfl, _, _, rfl, rfl, rfl, ?_⟩
    refine ⟨_, rfl, _, rfl, _, _, rfl, rfl, _, rfl, _, rfl, _, rfl, _, _, rfl, rfl, by show 3 ≤ sizeLine; decide, fun T1 hT1 => hN _ _ _ rfl (Ex.new hT1) ?_⟩
    refine t3_dp sqt_new ?_ (sg_dp _) ?_
    · show Dp K _ (.int ((S.n : Int) + (t.x : Int))) (dat (S.n + t.x))
      rw [show ((S.n : Int) + (t.x : Int)) = ((S.n + t.x : Nat) : Int) by simp]
      exact nat_dp _
    · show Dp K _ (.int ((S.n : Int) + (t.z : Int))) (dat (S.n + t.z))
      rw [show ((S.n : Int) + (t.z : Int)) = ((S.n + t.z : Nat) : Int) by simp]
      exact nat_dp _
  · intro H2 acc e2 hacc ha
    have f2 := e2 _ _ upd_same
    refine ⟨f2, ?_⟩
    have D2 : D ≠ d2 := fun z => by rw [z, f2] at hacc; cases hacc
    have ex12 : Ex H1 (upd H2 d2 (DN P w d2 ts2)) := fun y o hy => by
      by_cases e : y = d2
      · subst e
        rw [upd_same, ← hy, t2.hd]
      · rw [upd_ne e]
        exact e2 _ _ ((upd_ne e).trans hy)
    have hacc3 : (upd H2 d2 (DN P w d2 ts2)) D = some (.lst acc) := (upd_ne D2).trans hacc
    have ha3 : DpAll K (upd H2 d2 (DN P w d2 ts2)) acc (((ts2.map (·.1)).filterMap fun t => some (shiftT S.n t)).map dat) := dats_lt (Lt.mut (noT_fDN f2)) ha
    generalize upd H2 d2 (DN P w d2 ts2) = H3 at ex12 hacc3 ha3
    have u1 := t1.ex ex12
    have u2 := t2.ex ex12
    have e3 : (ts2.map (·.1)).filterMap (fun t => some (shiftT S.n t)) = S2.ties.map (shiftT S.n) := by
      rw [s2.e]
      show List.filterMap (some ∘ shiftT S.n) _ = _
      rw [List.filterMap_eq_map]
    rw [e3] at ha3
    refine ⟨_, rfl, _, rfl, a2, CS, dx2, _, _, rfl, u2.h, T.cS, T.n_nodes, rfl, _, _, rfl, rfl, ?_⟩
    refine ⟨_, rfl, a, CS, dx, _, _, rfl, u1.h, T.cS, T.n_ties, rfl, d, ts, rfl, .inl u1.hd, _, rfl, D, acc, rfl, .inr (SqL.of hacc3), ?_, fun p hp => ?_⟩
    · have la := dpAll_len ha3
      rw [List.length_map, List.length_map] at la
      show (refsOf ts ++ (acc ++ [])).length ≤ sizeLine
      rw [List.length_append, List.append_nil, refsOf, List.length_map, sizeLine_eq]
      omega
    · refine ⟨S.n + S2.n, .ref p, S.ties ++ S2.ties.map (shiftT S.n), by simp, .inl (.lst sql_new ?_), beside_ok s1.ok s2.ok hl, by have := s1.n1; omega, hn, fun v H' e hv => q v H' (((e1.trans ex12).trans (Ex.new hp)).trans e) hv⟩
      rw [List.map_append, List.append_nil, ← s1.e]
      exact dpAll_app ((refs_dp u1.hk).ex (Ex.new hp)) (ha3.ex (Ex.new hp))
theorem sc_store_row : FnScope ["word", "place", "letter"] ["word"] (defScope y_store_row) := ⟨rfl, rfl, rfl, by decide +kernel, rfl, by decide +kernel, by decide +kernel⟩
/-- the ties of a row of small letters -/
def rowL (u : List Sg) : List Stp := (num u).map fun p => ⟨p.1, p.2, p.1 + 1⟩
theorem rowL_at {u : List Sg} {t : Stp} : t ∈ rowL u ↔ u[t.x]? = some t.y ∧ t.z = t.x + 1 := by
  unfold rowL
  rw [List.mem_map]
  constructor
  · rintro ⟨p, hp, rfl⟩
    obtain ⟨i, hi⟩ := List.mem_iff_getElem?.mp hp
    obtain ⟨h1, h2⟩ := num_get hi
    subst h1
    exact ⟨h2, rfl⟩
  · rintro ⟨h1, h2⟩
    refine ⟨(t.x, t.y), List.mem_of_getElem? (num_at h1), ?_⟩
    cases t
    simp only at h2
    subst h2
    rfl
theorem num_nodup {α : Type} (l : List α) : (num l).Nodup := by
  have h : ((num l).map Prod.fst).Nodup := by
    unfold num
    rw [List.map_fst_zip (by simp)]
    exact List.nodup_range
  exact List.Pairwise.of_map Prod.fst (fun a b hne e => hne (by rw [e])) h
theorem rowL_ok {u : List Sg} (hl : u.length ≤ 40) (hu : ∀ c ∈ u, c.low = true) : TiesOk (u.length + 1) (rowL u) := by
  refine ⟨?_, by rw [rowL, List.length_map, num_len]; omega, fun t ht => ?_⟩
  · refine List.Pairwise.map _ (fun a b hne e => hne ?_) (num_nodup u)
    injection e with e1 e2 e3
    exact Prod.ext e1 e2
  · obtain ⟨h1, h2⟩ := rowL_at.mp ht
    have := (List.getElem?_eq_some_iff.mp h1).1
    exact ⟨by omega, by omega, hu _ (List.mem_of_getElem? h1)⟩
def sp_store_row (P : Program) (w : World) (K : PySem.W.Frag) (CS : Addr) : Sp := fun vs H Q _ => ∃ u : List Sg, vs = [.str (wdS u)] ∧ 1 ≤ u.length ∧ u.length ≤ 12 ∧ (∀ c ∈ u, c.low = true) ∧ spMake P w K CS ⟨u.length + 1, srt (rowL u)⟩ H Q
theorem ok_store_row {qual : Str} (T : Tx K mg CS CQ) (F : FnP K "row" qual y_store_row [] f fd) (c_want_word : Cal P w K mg base 2 "want_word" sp_want_word []) (c_made_store : Cal P w K mg base 7 "made_store" (sp_made_store P w K CS) []) : FnOk P w K mg base C8.CX0 8 f fd ["word"] (sp_store_row P w K CS) := by
  refine ok_of F sc_store_row (fun vs H Q E h => ?_) (fun cdv A outer s H vs Q E hr h => ?_)
  · obtain ⟨u, rfl, _⟩ := h
    rfl
  obtain ⟨u, rfl, h1, h2, h3, q⟩ := h
  refine ⟨_, (pss_cons (ps_expr (pe_c c_want_word hr (by decide) (by rfl) (pa_cons (pv 0) pa_nil)))
    (pss_one (ps_ret (pe_c c_made_store hr (by decide) (by rfl) (pa_cons (pe_op (op_add) (pe_callB (k_len (K := K) rfl) (by rfl) T.len (by decide +kernel) (pa_cons (pv 0) pa_nil)) pe_int) (pa_cons (pe_lc (own := [("place", 1), ("letter", 2)]) rfl sc_store_row.nd ((pi_enumS (by rfl) T.enumerate (pa_cons (pv 0) pa_nil))) (blkOk_by (by kernel_rfl)) (fun _ _ _ _ _ => (k_gtup (n := 2) (K := K) rfl rfl (pgs_cons (pn 1 sc_store_row.nd) (pgs_cons (pn 2 sc_store_row.nd) pgs_nil)))) (fun _ _ _ _ _ => pts_nil) (fun _ _ _ _ _ => (pe_tup (pa_cons (pv 1) (pa_cons (pv 2) (pa_cons (pe_op (op_add) (pv 1) pe_int) pa_nil)))))) pa_nil)))))), ?_⟩
  refine ⟨_, rfl, ⟨u, rfl, h1, h2, h3⟩, fun H1 e1 => ?_⟩
  refine ⟨_, rfl, _, u.length, rfl, ⟨by rw [wdS_len, sizeLine_eq]; omega, (wdS_len u).symm⟩, _, _, rfl, rfl, _, rfl, wdS u, rfl, fun D hD => ?_⟩
  refine lc_dt (K := K) (tw_enumS (K := K) (w := u)) (fun p => some (⟨p.1, p.2, p.1 + 1⟩ : Stp)) hD (fun _ _ => trivial) (by rw [num_len, sizeLine_eq]; omega) ?_ ?_
  · intro p x H2 acc N M hp e2 hacc hx hN hM
    obtain ⟨T0, y, z, rfl, hT, dy, dz⟩ := dp_pair hx
    have dy := dp_nat dy
    have dz := dp_sg dz
    subst dy dz
    refine ⟨_, _, rfl, hT, rfl, _, _, rfl, _, _, rfl, rfl, rfl, ?_⟩
    refine ⟨_, rfl, _, rfl, _, rfl, _, _, rfl, rfl, by show 3 ≤ sizeLine; decide, fun T1 hT1 => hN _ _ _ rfl (Ex.new hT1) ?_⟩
    exact t3_dp sqt_new (nat_dp _) (sg_dp _) (nat_dp _)
  · intro H2 acc e2 hacc ha
    have e3 : (num u).filterMap (fun p => some (⟨p.1, p.2, p.1 + 1⟩ : Stp)) = rowL u := by
      show List.filterMap (some ∘ fun p : Nat × Sg => (⟨p.1, p.2, p.1 + 1⟩ : Stp)) _ = _
      rw [List.filterMap_eq_map]
      rfl
    rw [e3] at ha
    exact ⟨u.length + 1, .ref D, rowL u, by simp, .inl (.lst (SqL.of hacc) ha), rowL_ok (by omega) h3, by omega, by omega, fun v H' e hv => q v H' ((e1.trans e2).trans e) hv⟩
theorem sc_store_add : FnScope ["self", "tie", "more"] ["self", "tie"] (defScope y_store_add) := ⟨rfl, rfl, rfl, by decide +kernel, rfl, by decide +kernel, by decide +kernel⟩
def sp_store_add (P : Program) (w : World) (K : PySem.W.Frag) (CS : Addr) : Sp := fun vs H Q _ => ∃ (v v2 : V) (S : Sto) (t : Stp), vs = [v, v2] ∧ SAt P w K CS H v S ∧ Dp K H v2 (dat t) ∧ t.x < S.n ∧ t.z < S.n ∧ t.y.low = true ∧ S.ties.length < 400 ∧ spMake P w K CS ⟨S.n, srt (S.ties ++ if t ∈ S.ties then [] else [t])⟩ H Q
theorem c_Store_add {qual : Str} (T : Tx K mg CS CQ) (F : Fm K CS "__add__" qual y_store_add ["self", "tie"] f fd) (c_want_tie : Cal P w K mg base 4 "want_tie" (sp_want_tie K) []) (c_Store_ties : Met P w K mg base 1 CS "ties" (sp_store_ties P w K CS) []) (c_Store : Mak P w K mg base 5 "Store" CS (sp_store_init P w K CS) []) : Met P w K mg base 7 CS "__add__" (sp_store_add P w K CS) [] := by
  refine F.met sc_store_add (fun vs H Q E h => ?_) (fun cdv A outer s H vs Q E hr h => ?_)
  · obtain ⟨v, v2, S, t, rfl, _⟩ := h
    rfl
  obtain ⟨v, v2, S, t, rfl, hs, dt, h1, h2, h3, hl, q⟩ := h
  obtain ⟨a, dx, d, ts, g, rfl, s1⟩ := hs.sf
  have hu := hu100 hr
  refine ⟨_, (pss_cons (ps_expr (pe_c c_want_tie hr (by decide) (by rfl) (pa_cons (k_fld (K := K) rfl (pv 0)) (pa_cons (pv 1) pa_nil))))
    (pss_cons (pset 2 sc_store_add.nd (pe_ifExp (pt_cmpR (k_inN (α := Stp) (O := ⟨P, w, K⟩) hu rfl) (pv 1) (k_fld (K := K) rfl (pv 0)) (by rfl)) (pe_lst pa_nil) (pe_lst (pa_cons (pv 1) pa_nil))))
    (pss_one (ps_ret (pe_mk c_Store hr (by decide) (by rfl) (pa_cons (k_fld (K := K) rfl (pv 0)) (pa_cons (pe_op (op_cat) (pe_mt0 c_Store_ties hr (by decide) (pv 0)) (pv 2)) pa_nil))))))), ?_⟩
  refine ⟨_, rfl, a, CS, dx, _, _, rfl, s1.h, T.cS, T.n_nodes, rfl, _, rfl, ⟨S.n, v2, t, rfl, dt, h1, h2, h3⟩, fun H1 e1 => ?_⟩
  have t1 := s1.ex e1
  have dt1 := dt.ex e1
  obtain ⟨b, _, _, _, rfl, _⟩ := dp_t3 dt1
  refine ⟨_, rfl, _, rfl, a, CS, dx, _, _, rfl, t1.h, T.cS, T.n_ties, rfl, ts, t, ⟨b, d, rfl, rfl, .inl t1.hd, t1.hk, dt1⟩, _, rfl, ?_⟩
  have fin : ∀ (p : Addr) (xs : List V), H1 p = none → xs.length ≤ 1 → DpAll K (upd H1 p (.lst xs)) xs ((if t ∈ S.ties then [] else [t]).map dat) → ∀ (R : VK), (R = fun v H2 => Q v H2) → ∀ p1 xs1 H3, Ex (upd H1 p (.lst xs)) H3 → H3 p1 = some (.lst xs1) → DpAll K H3 xs1 (S.ties.map dat) → ∀ p2, H3 p2 = none →
      TiesAt K (upd H3 p2 (.lst (xs1 ++ xs))) (.ref p2) (S.ties ++ if t ∈ S.ties then [] else [t]) ∧ Ex H (upd H3 p2 (.lst (xs1 ++ xs))) := by
    intro p xs hp hxs dx' R _ p1 xs1 H3 e3 hp1 hx1 p2 hp2
    refine ⟨.inl (.lst sql_new ?_), (e1.trans ((Ex.new hp).trans e3)).trans (Ex.new hp2)⟩
    rw [List.map_append]
    exact dpAll_app (hx1.ex (Ex.new hp2)) (dx'.ex (e3.trans (Ex.new hp2)))
  have tok : TiesOk S.n (S.ties ++ if t ∈ S.ties then [] else [t]) := by
    by_cases hm : t ∈ S.ties
    · rw [if_pos hm, List.append_nil]
      exact t1.ok
    · rw [if_neg hm]
      refine ⟨?_, by simp; omega, fun u hu => ?_⟩
      · rw [List.nodup_append]
        exact ⟨t1.ok.1, by simp, fun x hx y hy e => by simp at hy; subst hy; subst e; exact hm hx⟩
      · rcases List.mem_append.mp hu with hu | hu
        · exact t1.ok.2.2 u hu
        · have := List.mem_singleton.mp hu
          subst this
          exact ⟨h1, h2, h3⟩
  by_cases hm : t ∈ S.ties
  · refine ifP (by rw [s1.e]; exact hm) ⟨Nat.zero_le _, fun p hp => ?_⟩
    have t2 := t1.ex (Ex.new (o := .lst []) hp)
    refine ⟨_, rfl, a, CS, dx, _, _, rfl, t2.h, T.cS, T.n_nodes, rfl, _, rfl, a, dx, _, rfl, t2.h, rfl, .ref a, S, rfl, t2.sat, fun p1 xs1 H3 e3 hp1 hx1 => ?_⟩
    have hp3 := e3 _ _ upd_same
    refine ⟨_, rfl, p1, p, xs1, _, rfl, rfl, hp1, hp3, ?_, fun p2 hp2 => ?_⟩
    · have := dpAll_len hx1
      rw [List.length_map] at this
      rw [sizeLine_eq]
      show xs1.length + 0 ≤ _
      omega
    · obtain ⟨f1, f2⟩ := fin p [] hp (by simp) (by rw [if_pos hm]; exact .nil) _ rfl p1 xs1 H3 e3 hp1 hx1 p2 hp2
      exact make_store f1 tok t1.n1 t1.n2 fun v H' e hv => q v H' (f2.trans e) hv
  · refine ifN (by rw [s1.e]; exact hm) ⟨_, rfl, by show 1 ≤ sizeLine; decide, fun p hp => ?_⟩
    have t2 := t1.ex (Ex.new (o := .lst [.ref b]) hp)
    refine ⟨_, rfl, a, CS, dx, _, _, rfl, t2.h, T.cS, T.n_nodes, rfl, _, rfl, a, dx, _, rfl, t2.h, rfl, .ref a, S, rfl, t2.sat, fun p1 xs1 H3 e3 hp1 hx1 => ?_⟩
    have hp3 := e3 _ _ upd_same
    refine ⟨_, rfl, p1, p, xs1, _, rfl, rfl, hp1, hp3, ?_, fun p2 hp2 => ?_⟩
    · have := dpAll_len hx1
      rw [List.length_map] at this
      rw [sizeLine_eq]
      show xs1.length + 1 ≤ _
      omega
    · obtain ⟨f1, f2⟩ := fin p [.ref b] hp (by simp) (by rw [if_neg hm]; exact .cons (dt1.ex (Ex.new hp)) .nil) _ rfl p1 xs1 H3 e3 hp1 hx1 p2 hp2
      exact make_store f1 tok t1.n1 t1.n2 fun v H' e hv => q v H' (f2.trans e) hv
theorem sc_store_sub : FnScope ["self", "tie", "near"] ["self", "tie"] (defScope y_store_sub) := ⟨rfl, rfl, rfl, by decide +kernel, rfl, by decide +kernel, by decide +kernel⟩
def sp_store_sub (P : Program) (w : World) (K : PySem.W.Frag) (CS : Addr) : Sp := fun vs H Q _ => ∃ (v v2 : V) (S : Sto) (t : Stp), vs = [v, v2] ∧ SAt P w K CS H v S ∧ Dp K H v2 (dat t) ∧ t.x < S.n ∧ t.z < S.n ∧ t.y.low = true ∧ spMake P w K CS ⟨S.n, srt (S.ties.filter fun u => decide (u ≠ t))⟩ H Q
theorem c_Store_sub {qual : Str} (T : Tx K mg CS CQ) (F : Fm K CS "__sub__" qual y_store_sub ["self", "tie"] f fd) (c_want_tie : Cal P w K mg base 4 "want_tie" (sp_want_tie K) []) (c_Store : Mak P w K mg base 5 "Store" CS (sp_store_init P w K CS) []) : Met P w K mg base 7 CS "__sub__" (sp_store_sub P w K CS) [] := by
  refine F.met sc_store_sub (fun vs H Q E h => ?_) (fun cdv A outer s H vs Q E hr h => ?_)
  · obtain ⟨v, v2, S, t, rfl, _⟩ := h
    rfl
  obtain ⟨v, v2, S, t, rfl, hs, dt, h1, h2, h3, q⟩ := h
  obtain ⟨a, dx, d, ts, g, rfl, s1⟩ := hs.sf
  have hu := hu100 hr
  refine ⟨_, (pss_cons (ps_expr (pe_c c_want_tie hr (by decide) (by rfl) (pa_cons (k_fld (K := K) rfl (pv 0)) (pa_cons (pv 1) pa_nil))))
    (pss_one (ps_ret (pe_mk c_Store hr (by decide) (by rfl) (pa_cons (k_fld (K := K) rfl (pv 0)) (pa_cons (pe_lock (pe_lc (own := [("near", 2)]) rfl sc_store_sub.nd ((k_N (α := Stp) (O := ⟨P, w, K⟩) rfl (k_fld (K := K) rfl (pv 0)))) (blkOk_by (by kernel_rfl)) (fun _ _ _ _ _ => (pn 2 sc_store_sub.nd)) (fun _ _ _ _ _ => (pts_one (pt_cmpR (k_ne (α := Stp) (O := ⟨P, w, K⟩) hu rfl) (pv 2) (pv 1) (by rfl)))) (fun _ _ _ _ _ => (pv 2)))) pa_nil)))))), ?_⟩
  refine ⟨_, rfl, a, CS, dx, _, _, rfl, s1.h, T.cS, T.n_nodes, rfl, _, rfl, ⟨S.n, v2, t, rfl, dt, h1, h2, h3⟩, fun H1 e1 => ?_⟩
  have t1 := s1.ex e1
  have dt1 := dt.ex e1
  refine ⟨_, rfl, a, CS, dx, _, _, rfl, t1.h, T.cS, T.n_nodes, rfl, d, DN P w d ts, t1.hd, trivial, fun od => ?_⟩
  refine ⟨_, rfl, a, CS, dx, _, _, rfl, (upd_ne t1.ne).trans t1.h, T.cS, T.n_ties, rfl, d, od, ts, rfl, upd_same, fun D hD => ?_⟩
  have hl : (ts.map (·.1)).length ≤ 400 := by rw [s1.e]; exact s1.ok.2.1
  refine lc_dt (K := K) (tw_N (K := K)) (fun u => if u = t then none else some u) hD (fun H' e => ⟨e _ _ upd_same, (t1.hk.lt (Lt.mut (noT_DN t1.hd))).ld e.ld⟩) (by rw [sizeLine_eq]; omega) ?_ ?_
  · intro u x H2 acc N M hu' e2 hacc hx hN hM
    have dt2 := dat_lt ((Lt.mut (o := .frz od (DN P w d ts)) (noT_DN t1.hd)).trans e2.lt) dt1
    refine ⟨rfl, _, rfl, _, rfl, u, t, hx, dt2, _, rfl, ?_⟩
    by_cases e : u = t
    · exact ifNP e (hM (by rw [if_pos e]) H2 (.refl H2))
    · exact ifNN e ⟨_, rfl, hN u _ H2 (by rw [if_neg e]) (.refl H2) hx⟩
  · intro H2 acc e2 hacc ha
    have f2 := e2 _ _ upd_same
    obtain ⟨g1, g2, g3⟩ := unlock_ex t1.hd f2 e2 hacc
    refine ⟨f2, ?_⟩
    have ha3 : DpAll K (upd H2 d (DN P w d ts)) acc (((ts.map (·.1)).filterMap fun u => if u = t then none else some u).map dat) := dats_lt (Lt.mut (noT_fDN f2)) ha
    have e3 : (ts.map (·.1)).filterMap (fun u => if u = t then none else some u) = S.ties.filter fun u => decide (u ≠ t) := by
      rw [s1.e]
      exact fm_filter _ _
    rw [e3] at ha3
    refine make_store (.inl (.lst (SqL.of g2) ha3)) ⟨t1.ok.1.filter _, Nat.le_trans (List.length_filter_le _ _) t1.ok.2.1, fun u hu' => t1.ok.2.2 u (List.mem_filter.mp hu').1⟩ t1.n1 t1.n2 fun v H' e hv => q v H' ((e1.trans g1).trans e) hv
theorem sc_store_invert : FnScope ["self", "near", "letter", "far"] ["self"] (defScope y_store_invert) := ⟨rfl, rfl, rfl, by decide +kernel, rfl, by decide +kernel, by decide +kernel⟩
def flipT (t : Stp) : Stp := ⟨t.z, t.y, t.x⟩
def sp_store_inv (P : Program) (w : World) (K : PySem.W.Frag) (CS : Addr) : Sp := fun vs H Q _ => ∃ (v : V) (S : Sto), vs = [v] ∧ SAt P w K CS H v S ∧ spMake P w K CS ⟨S.n, srt (S.ties.map flipT)⟩ H Q
theorem c_Store_inv {qual : Str} (T : Tx K mg CS CQ) (F : Fm K CS "__invert__" qual y_store_invert ["self"] f fd) (c_Store : Mak P w K mg base 5 "Store" CS (sp_store_init P w K CS) []) : Met P w K mg base 7 CS "__invert__" (sp_store_inv P w K CS) [] := by
  refine F.met sc_store_invert (fun vs H Q E h => ?_) (fun cdv A outer s H vs Q E hr h => ?_)
  · obtain ⟨v, S, rfl, _⟩ := h
    rfl
  obtain ⟨v, S, rfl, hs, q⟩ := h
  obtain ⟨a, dx, d, ts, g, rfl, s1⟩ := hs.sf
  have hu := hu100 hr
  refine ⟨_, (pss_one (ps_ret (pe_mk c_Store hr (by decide) (by rfl) (pa_cons (k_fld (K := K) rfl (pv 0)) (pa_cons (pe_lock (pe_lc (own := [("near", 1), ("letter", 2), ("far", 3)]) rfl sc_store_invert.nd ((k_N (α := Stp) (O := ⟨P, w, K⟩) rfl (k_fld (K := K) rfl (pv 0)))) (blkOk_by (by kernel_rfl)) (fun _ _ _ _ _ => (k_gtup (n := 3) (K := K) rfl rfl (pgs_cons (pn 1 sc_store_invert.nd) (pgs_cons (pn 2 sc_store_invert.nd) (pgs_cons (pn 3 sc_store_invert.nd) pgs_nil))))) (fun _ _ _ _ _ => pts_nil) (fun _ _ _ _ _ => (pe_tup (pa_cons (pv 3) (pa_cons (pv 2) (pa_cons (pv 1) pa_nil))))))) pa_nil))))), ?_⟩
  refine ⟨_, rfl, a, CS, dx, _, _, rfl, s1.h, T.cS, T.n_nodes, rfl, d, DN P w d ts, s1.hd, trivial, fun od => ?_⟩
  refine ⟨_, rfl, a, CS, dx, _, _, rfl, (upd_ne s1.ne).trans s1.h, T.cS, T.n_ties, rfl, d, od, ts, rfl, upd_same, fun D hD => ?_⟩
  have hl : (ts.map (·.1)).length ≤ 400 := by rw [s1.e]; exact s1.ok.2.1
  refine lc_dt (K := K) (tw_N (K := K)) (fun u => some (flipT u)) hD (fun H' e => ⟨e _ _ upd_same, (s1.hk.lt (Lt.mut (noT_DN s1.hd))).ld e.ld⟩) (by rw [sizeLine_eq]; omega) ?_ ?_
  · intro u x H2 acc N M hu' e2 hacc hx hN hM
    obtain ⟨T0, y1, y2, y3, rfl, hT, d1, d2', d3⟩ := dp_t3 hx
    refine ⟨_, _, rfl, hT, rfl, _, _, rfl, _, _, rfl, _, _, rfl, rfl, rfl, ?_⟩
    refine ⟨_, rfl, _, rfl, _, rfl, by show 3 ≤ sizeLine; decide, fun T1 hT1 => hN _ _ _ rfl (Ex.new hT1) ?_⟩
    exact t3_dp sqt_new (d3.ex (Ex.new hT1)) (d2'.ex (Ex.new hT1)) (d1.ex (Ex.new hT1))
  · intro H2 acc e2 hacc ha
    have f2 := e2 _ _ upd_same
    obtain ⟨g1, g2, g3⟩ := unlock_ex s1.hd f2 e2 hacc
    refine ⟨f2, ?_⟩
    have ha3 : DpAll K (upd H2 d (DN P w d ts)) acc (((ts.map (·.1)).filterMap fun u => some (flipT u)).map dat) := dats_lt (Lt.mut (noT_fDN f2)) ha
    have e3 : (ts.map (·.1)).filterMap (fun u => some (flipT u)) = S.ties.map flipT := by
      rw [s1.e]
      show List.filterMap (some ∘ flipT) _ = _
      rw [List.filterMap_eq_map]
    rw [e3] at ha3
    refine make_store (.inl (.lst (SqL.of g2) ha3)) ⟨?_, by rw [List.length_map]; exact s1.ok.2.1, fun u hu' => ?_⟩ s1.n1 s1.n2 fun v H' e hv => q v H' (g1.trans e) hv
    · refine List.Pairwise.map _ (fun x y hne e => hne ?_) s1.ok.1
      unfold flipT at e
      injection e with e1 e2 e3
      cases x
      cases y
      simp only at e1 e2 e3
      rw [e1, e2, e3]
    · obtain ⟨x, hx, rfl⟩ := List.mem_map.mp hu'
      obtain ⟨p1, p2, p3⟩ := s1.ok.2.2 x hx
      exact ⟨p2, p1, p3⟩
end
end K26

set_option Elab.async false
set_option linter.all false
set_option maxRecDepth 100000
set_option maxHeartbeats 4000000
/-! questions: signs, steps, ends, spread. -/
namespace K26
open PySem PySem.Spec PyProof.Rows L2
open Ky C8
section
variable {P : Program} {w : World} {K : PySem.W.Frag} {mg : Str → Option Value} {base : Heap} {CS CQ f : Addr} {fd : FuncData}
theorem in_signs (s : Sg) : decide (sgC s ∈ ("ABCDEFabcdef" : Str).cps.toList) = true := by cases s <;> decide +kernel
theorem sc_is_sign : FnScope ["value"] ["value"] (defScope y_is_sign) := ⟨rfl, rfl, rfl, by decide +kernel, rfl, by decide +kernel, by decide +kernel⟩
def sp_is_sign : Sp := spB fun vs H b => ∃ s : Sg, vs = [.str (sgS s)] ∧ b = true
theorem c_is_sign (T : Tx K mg CS CQ) (F : Fx K mg "is_sign" y_is_sign ["value"] f fd) : Cal P w K mg base 1 "is_sign" sp_is_sign [] := by
  refine F.cal sc_is_sign (fun vs H Q E h => ?_) (fun cdv A outer s H vs Q E hr h => ?_)
  · obtain ⟨b, ⟨i, rfl, _⟩, _⟩ := h
    rfl
  obtain ⟨b, ⟨c, rfl, rfl⟩, q⟩ := h
  refine ⟨_, (pss_one (ps_ret (pe_and (pe_callB (call_isi) (by rfl) T.isinstance (by decide +kernel) (pa_cons (pv 0) (pa_cons (gT (n := "str") (by rfl) T.str (by decide +kernel)) pa_nil))) (pe_and (pe_cmpR (op_eq) (pe_callB (k_len (K := K) rfl) (by rfl) T.len (by decide +kernel) (pa_cons (pv 0) pa_nil)) pe_int (by rfl)) (pe_one (pe_cmpR (op_in_sign) (pv 0) (gS (by rfl) T.signs) (by rfl))))))), ?_⟩
  refine ⟨_, rfl, _, _, .type "str", .type "str", true, rfl, .ty "str", .base (.str _), kit_ty (by decide +kernel), true, rfl, ?_⟩
  refine ⟨_, rfl, _, 1, rfl, ⟨by rw [sg_len]; decide, by rw [sg_len]⟩, rfl, true, rfl, ?_⟩
  refine ⟨_, rfl, sgC c, _, congrArg V.str (sgS_C c), rfl, ?_⟩
  have q2 := q H (.refl H)
  rw [← in_signs c] at q2
  exact q2
theorem sc_are_signs : FnScope ["value", "sign"] ["value"] (defScope y_are_signs) := ⟨rfl, rfl, rfl, by decide +kernel, rfl, by decide +kernel, by decide +kernel⟩
def sp_are_signs : Sp := spB fun vs H b => ∃ u : List Sg, vs = [.str (wdS u)] ∧ u.length ≤ 16777216 ∧ b = true
theorem c_are_signs (T : Tx K mg CS CQ) (F : Fx K mg "are_signs" y_are_signs ["value"] f fd) : Cal P w K mg base 1 "are_signs" sp_are_signs [] := by
  refine F.cal sc_are_signs (fun vs H Q E h => ?_) (fun cdv A outer s H vs Q E hr h => ?_)
  · obtain ⟨b, ⟨i, rfl, _⟩, _⟩ := h
    rfl
  obtain ⟨b, ⟨u, rfl, hl, rfl⟩, q⟩ := h
  refine ⟨_, (pss_one (ps_ret (pe_and (pe_callB (call_isi) (by rfl) T.isinstance (by decide +kernel) (pa_cons (pv 0) (pa_cons (gT (n := "str") (by rfl) T.str (by decide +kernel)) pa_nil))) (pe_one (pe_callB (k_all (K := K) rfl rfl) (by rfl) T.all (by decide +kernel) (pa_cons (pe_lc (own := [("sign", 1)]) rfl sc_are_signs.nd ((pi_str (pv 0))) (blkOk_by (by kernel_rfl)) (fun _ _ _ _ _ => (pn 1 sc_are_signs.nd)) (fun _ _ _ _ _ => pts_nil) (fun _ _ _ _ _ => (pe_cmpR (op_in_sign) (pv 1) (gS (by rfl) T.signs) (by rfl)))) pa_nil)))))), ?_⟩
  refine ⟨_, rfl, _, _, .type "str", .type "str", true, rfl, .ty "str", .base (.str _), kit_ty (by decide +kernel), true, rfl, ?_⟩
  refine ⟨_, rfl, _, rfl, fun D hD => ?_⟩
  refine lc_bl (tw_str (K := K) (w := u)) (fun _ => true) hD (fun _ _ => trivial) (by rw [sizeLine_eq]; omega) (fun c x H1 acc N M hc e1 hacc hx hN => ?_) fun H1 e1 hD1 => ?_
  · have := dp_sg hx
    subst this
    refine ⟨rfl, _, rfl, sgC c, _, congrArg V.str (sgS_C c), rfl, ?_⟩
    have q2 := hN H1 (.refl H1)
    rw [← in_signs c] at q2
    exact q2
  · refine ⟨D, u.map fun _ => true, rfl, SqL.of hD1, ?_⟩
    have e2 : (u.map fun _ => true).all id = true := by simp
    show Q (.bl ((u.map fun _ => true).all id)) H1
    rw [e2]
    exact q H1 e1
theorem sc_want_signs : FnScope ["value"] ["value"] (defScope y_want_signs) := ⟨rfl, rfl, rfl, by decide +kernel, rfl, by decide +kernel, by decide +kernel⟩
def sp_want_signs : Sp := spU fun vs H => ∃ u : List Sg, vs = [.str (wdS u)] ∧ u.length ≤ 60
theorem c_want_signs (T : Tx K mg CS CQ) (F : Fx K mg "want_signs" y_want_signs ["value"] f fd) (c_are_signs : Cal P w K mg base 1 "are_signs" sp_are_signs []) : Cal P w K mg base 2 "want_signs" sp_want_signs [] := by
  refine F.cal sc_want_signs (fun vs H Q E h => ?_) (fun cdv A outer s H vs Q E hr h => ?_)
  · obtain ⟨⟨i, rfl, _⟩, _⟩ := h
    rfl
  obtain ⟨⟨u, rfl, hl⟩, q⟩ := h
  refine ⟨_, (pss_one (ps_if (PW.pt (pw_or (pt_not (pt_val (pe_c c_are_signs hr (by decide) (by rfl) (pa_cons (pv 0) pa_nil)))) (pw_or1 (pt_cmpR (op_gt) (pe_callB (k_len (K := K) rfl) (by rfl) T.len (by decide +kernel) (pa_cons (pv 0) pa_nil)) (gI (by rfl) T.msigns) (by rfl))))) (pss_one ps_never) pss_nil)), ?_⟩
  exact ⟨_, rfl, true, ⟨u, rfl, by omega, rfl⟩, fun H1 e1 => ⟨true, rfl, iteF ⟨_, rfl, _, (u.length : Nat), rfl, ⟨by rw [wdS_len, sizeLine_eq]; omega, (wdS_len u).symm⟩, _, _, rfl, rfl, _, rfl, ifN (by omega) (q H1 e1)⟩⟩⟩
theorem sc_letter_of : FnScope ["sign"] ["sign"] (defScope y_letter_of) := ⟨rfl, rfl, rfl, by decide +kernel, rfl, by decide +kernel, by decide +kernel⟩
def spS (g : Sg → Sg) : Sp := fun vs H Q _ => ∃ s : Sg, vs = [.str (sgS s)] ∧ ∀ H', Ex H H' → Q (.str (sgS (g s))) H'
theorem c_letter_of (T : Tx K mg CS CQ) (F : Fx K mg "letter_of" y_letter_of ["sign"] f fd) : Cal P w K mg base 1 "letter_of" (spS Sg.ltr) [] := by
  refine F.cal sc_letter_of (fun vs H Q E h => ?_) (fun cdv A outer s H vs Q E hr h => ?_)
  · obtain ⟨i, rfl, _⟩ := h
    rfl
  obtain ⟨c, rfl, q⟩ := h
  refine ⟨_, (pss_one (ps_ret (pe_ifExp (pt_cmpR (op_in_sign) (pv 0) (gS (by rfl) T.capitals) (by rfl)) (pe_ix ix_str (gS (by rfl) T.letters) (pe_bm PySem.F.plainAttrs_str PySem.F.slot_str_index PySem.F.type_str_index mt_sindex (gS (by rfl) T.capitals) (pa_cons (pv 0) pa_nil)) (fun _ _ => rfl)) (pv 0)))), ?_⟩
  refine ⟨_, rfl, sgC c, _, congrArg V.str (sgS_C c), rfl, _, rfl, ?_⟩
  cases c with
  | a => exact ifN (by decide +kernel) ⟨_, rfl, q H (.refl H)⟩
  | b => exact ifN (by decide +kernel) ⟨_, rfl, q H (.refl H)⟩
  | A => exact ifP (by decide +kernel) ⟨rfl, _, rfl, _, _, 0, [], rfl, rfl, by decide +kernel, _, 0, 97, rfl, rfl, by decide +kernel, by decide +kernel, q H (.refl H)⟩
  | B => exact ifP (by decide +kernel) ⟨rfl, _, rfl, _, _, 1, [], rfl, rfl, by decide +kernel, _, 1, 98, rfl, rfl, by decide +kernel, by decide +kernel, q H (.refl H)⟩
theorem sc_contrary : FnScope ["sign"] ["sign"] (defScope y_contrary) := ⟨rfl, rfl, rfl, by decide +kernel, rfl, by decide +kernel, by decide +kernel⟩
theorem c_contrary (T : Tx K mg CS CQ) (F : Fx K mg "contrary" y_contrary ["sign"] f fd) : Cal P w K mg base 1 "contrary" (spS Sg.con) [] := by
  refine F.cal sc_contrary (fun vs H Q E h => ?_) (fun cdv A outer s H vs Q E hr h => ?_)
  · obtain ⟨i, rfl, _⟩ := h
    rfl
  obtain ⟨c, rfl, q⟩ := h
  refine ⟨_, (pss_one (ps_ret (pe_ifExp (pt_cmpR (op_in_sign) (pv 0) (gS (by rfl) T.capitals) (by rfl)) (pe_ix ix_str (gS (by rfl) T.letters) (pe_bm PySem.F.plainAttrs_str PySem.F.slot_str_index PySem.F.type_str_index mt_sindex (gS (by rfl) T.capitals) (pa_cons (pv 0) pa_nil)) (fun _ _ => rfl)) (pe_ix ix_str (gS (by rfl) T.capitals) (pe_bm PySem.F.plainAttrs_str PySem.F.slot_str_index PySem.F.type_str_index mt_sindex (gS (by rfl) T.letters) (pa_cons (pv 0) pa_nil)) (fun _ _ => rfl))))), ?_⟩
  refine ⟨_, rfl, sgC c, _, congrArg V.str (sgS_C c), rfl, _, rfl, ?_⟩
  cases c with
  | a => exact ifN (by decide +kernel) ⟨rfl, _, rfl, _, _, 0, [], rfl, rfl, by decide +kernel, _, 0, 65, rfl, rfl, by decide +kernel, by decide +kernel, q H (.refl H)⟩
  | b => exact ifN (by decide +kernel) ⟨rfl, _, rfl, _, _, 1, [], rfl, rfl, by decide +kernel, _, 1, 66, rfl, rfl, by decide +kernel, by decide +kernel, q H (.refl H)⟩
  | A => exact ifP (by decide +kernel) ⟨rfl, _, rfl, _, _, 0, [], rfl, rfl, by decide +kernel, _, 0, 97, rfl, rfl, by decide +kernel, by decide +kernel, q H (.refl H)⟩
  | B => exact ifP (by decide +kernel) ⟨rfl, _, rfl, _, _, 1, [], rfl, rfl, by decide +kernel, _, 1, 98, rfl, rfl, by decide +kernel, by decide +kernel, q H (.refl H)⟩
theorem sc_is_standing : FnScope ["standings", "value"] ["standings", "value"] (defScope y_is_standing) := ⟨rfl, rfl, rfl, by decide +kernel, rfl, by decide +kernel, by decide +kernel⟩
theorem c_is_standing (T : Tx K mg CS CQ) (F : Fx K mg "is_standing" y_is_standing ["standings", "value"] f fd) (c_is_integer : Cal P w K mg base 1 "is_integer" sp_is_integer []) : Cal P w K mg base 2 "is_standing" sp_is_node [] := by
  refine F.cal sc_is_standing (fun vs H Q E h => ?_) (fun cdv A outer s H vs Q E hr h => ?_)
  · obtain ⟨b, ⟨n, i, rfl, _⟩, _⟩ := h
    rfl
  obtain ⟨b, ⟨n, i, rfl, rfl⟩, q⟩ := h
  refine ⟨_, (pss_one (ps_ret (pe_and (pe_c c_is_integer hr (by decide) (by rfl) (pa_cons (pv 1) pa_nil)) (pe_one (pe_chain op_le op_lt pe_int (pv 1) (pv 0)))))), ?_⟩
  refine ⟨_, rfl, true, ⟨_, rfl, rfl⟩, fun H1 e1 => ⟨true, rfl, ?_⟩⟩
  refine ⟨_, rfl, 0, (i : Int), rfl, rfl, _, rfl, ifP (by omega) ⟨_, rfl, (i : Int), (n : Int), rfl, rfl, ?_⟩⟩
  have e : decide ((i : Int) < (n : Int)) = decide (i < n) := by simp
  show Q (.bl (decide ((i : Int) < (n : Int)))) H1
  rw [e]
  exact q H1 e1
theorem sc_is_step : FnScope ["standings", "value"] ["standings", "value"] (defScope y_is_step) := ⟨rfl, rfl, rfl, by decide +kernel, rfl, by decide +kernel, by decide +kernel⟩
def sp_is_step (K : PySem.W.Frag) : Sp := spB fun vs H b => ∃ (n : Nat) (v : V) (t : Stp), vs = [.int (n : Int), v] ∧ Dp K H v (dat t) ∧ t.x < n ∧ t.z < n ∧ b = true
theorem c_is_step (T : Tx K mg CS CQ) (F : Fx K mg "is_step" y_is_step ["standings", "value"] f fd) (c_is_standing : Cal P w K mg base 2 "is_standing" sp_is_node []) (c_is_sign : Cal P w K mg base 1 "is_sign" sp_is_sign []) : Cal P w K mg base 3 "is_step" (sp_is_step K) [] := by
  refine F.cal sc_is_step (fun vs H Q E h => ?_) (fun cdv A outer s H vs Q E hr h => ?_)
  · obtain ⟨b, ⟨n, i, t, rfl, _⟩, _⟩ := h
    rfl
  obtain ⟨b, ⟨n, v, t, rfl, dt, h1, h2, rfl⟩, q⟩ := h
  refine ⟨_, (pss_cons (ps_if (PW.pt (pw_or (pt_not (pt_val (pe_callB (call_isi) (by rfl) T.isinstance (by decide +kernel) (pa_cons (pv 1) (pa_cons (gT (n := "tuple") (by rfl) T.tuple (by decide +kernel)) pa_nil))))) (pw_or1 (pt_cmpR (op_ne) (pe_callB (k_len (K := K) rfl) (by rfl) T.len (by decide +kernel) (pa_cons (pv 1) pa_nil)) pe_int (by rfl))))) (pss_one (ps_ret pe_bl)) pss_nil)
    (pss_one (ps_ret (pe_and (pe_c c_is_standing hr (by decide) (by rfl) (pa_cons (pv 0) (pa_cons (pe_ix (k_ixt (K := K) rfl) (pv 1) pe_int (fun _ _ => rfl)) pa_nil))) (pe_and (pe_c c_is_sign hr (by decide) (by rfl) (pa_cons (pe_ix (k_ixt (K := K) rfl) (pv 1) pe_int (fun _ _ => rfl)) pa_nil)) (pe_one (pe_c c_is_standing hr (by decide) (by rfl) (pa_cons (pv 0) (pa_cons (pe_ix (k_ixt (K := K) rfl) (pv 1) pe_int (fun _ _ => rfl)) pa_nil))))))))), ?_⟩
  obtain ⟨a, x, y, z, rfl, ht, dx, dy, dz⟩ := dp_t3 dt
  have dx := dp_nat dx
  have dy := dp_sg dy
  have dz := dp_nat dz
  subst dx dy dz
  refine ⟨_, rfl, _, _, .type "tuple", .type "tuple", true, rfl, .ty "tuple", tyT ht, kit_ty (by decide +kernel), true, rfl, iteF ?_⟩
  refine ⟨_, rfl, _, 3, rfl, .inr ⟨_, ht, rfl⟩, rfl, false, rfl, iteF ?_⟩
  refine ⟨_, rfl, _, rfl, _, _, 0, _, rfl, rfl, ht, rfl, true, ⟨n, t.x, rfl, by simp [h1]⟩, fun H1 e1 => ⟨true, rfl, ?_⟩⟩
  refine ⟨_, rfl, _, _, 1, _, rfl, rfl, e1.ld.sqT ht, rfl, true, ⟨t.y, rfl, rfl⟩, fun H2 e2 => ⟨true, rfl, ?_⟩⟩
  exact ⟨_, rfl, _, rfl, _, _, 2, _, rfl, rfl, (e1.trans e2).ld.sqT ht, rfl, true, ⟨n, t.z, rfl, by simp [h2]⟩, fun H3 e3 => q H3 ((e1.trans e2).trans e3)⟩
theorem sc_want_steps : FnScope ["standings", "steps", "known", "position", "step"] ["standings", "steps"] (defScope y_want_steps) := ⟨rfl, rfl, rfl, by decide +kernel, rfl, by decide +kernel, by decide +kernel⟩
def StepsOk (n : Nat) (l : List Stp) : Prop := l.Nodup ∧ l.length ≤ 1000 ∧ ∀ t ∈ l, t.x < n ∧ t.z < n
def sp_want_steps (K : PySem.W.Frag) : Sp := spU fun vs H => ∃ (n : Nat) (v : V) (l : List Stp), vs = [.int (n : Int), v] ∧ Dp K H v (.list (l.map dat)) ∧ StepsOk n l
theorem c_want_steps (T : Tx K mg CS CQ) (F : Fx K mg "want_steps" y_want_steps ["standings", "steps"] f fd) (c_is_list : Cal P w K mg base 1 "is_list" (sp_is_list (K := K)) []) (c_is_step : Cal P w K mg base 3 "is_step" (sp_is_step K) []) : Cal P w K mg base 4 "want_steps" (sp_want_steps K) [] := by
  refine F.cal sc_want_steps (fun vs H Q E h => ?_) (fun cdv A outer s H vs Q E hr h => ?_)
  · obtain ⟨⟨n, i, t, rfl, _⟩, _⟩ := h
    rfl
  obtain ⟨⟨n, v, l, rfl, ta, nd, hl, ht⟩, q⟩ := h
  have hu := hu100 hr
  refine ⟨_, (pss_cons (ps_if (pt_not (pt_val (pe_c c_is_list hr (by decide) (by rfl) (pa_cons (pv 1) pa_nil)))) (pss_one ps_never) pss_nil)
    (pss_cons (pset 2 sc_want_steps.nd (k_new (α := Stp) (O := ⟨P, w, K⟩) rfl))
    (pss_one (ps_for PassesOwn.never rfl (k_enum (K := K) rfl (by rfl) T.enumerate (pa_cons (pv 1) pa_nil)) (k_gtup (n := 2) (K := K) rfl rfl (pgs_cons (pn 3 sc_want_steps.nd) (pgs_cons (pn 4 sc_want_steps.nd) pgs_nil))) (pss_cons (ps_if (PW.pt (pw_or (pt_not (pt_val (pe_c c_is_step hr (by decide) (by rfl) (pa_cons (pv 0) (pa_cons (pv 4) pa_nil))))) (pw_or1 (pt_cmpR (k_inN (α := Stp) (O := ⟨P, w, K⟩) hu rfl) (pv 4) (pv 2) (by rfl))))) (pss_one ps_never) pss_nil)
    (pss_one (ps_asg pe_bl (pg_sub (pv 2) (pv 4) (k_setN (α := Stp) (O := ⟨P, w, K⟩) hu rfl))))))))), ?_⟩
  obtain ⟨a, xs, rfl, hs, hv⟩ := dp_lst ta
  refine ⟨_, rfl, true, ⟨a, rfl, .inl ⟨xs, hs⟩, rfl⟩, fun H1 e1 => ⟨true, rfl, iteF fun d hd => ?_⟩⟩
  have ed : Ex H1 (upd H1 d (DN (α := Stp) P w d [])) := Ex.new hd
  have hs1 := e1.ld.sqL hs
  have hv1 := hv.ex e1
  refine ⟨_, rfl, a, xs, rfl, ed.ld.sqL hs1, ?_⟩
  refine for_tw (tw_enum (K := K) (R := Dt K) (l := l) (xs := xs) dt_ex) (fun i σ H' => ∃ p t ts, σ = [some (.int (n : Int)), some (.ref a), some (.ref d), p, t] ∧ Ex H1 H' ∧ H' d = some (DN P w d ts) ∧ Keys K H' ts ∧ ts.map (·.1) = l.take i)
    ⟨_, _, [], rfl, ed, upd_same, Keys.nil, rfl⟩ ?_ ?_ ?_
  · rintro i σ H2 _ ⟨p, t, ts, rfl, ex, hdn, hk, hts⟩
    exact ⟨ex.ld.sqL hs1, all_dat (hv1.ex ex)⟩
  · rintro i b x σ H2 H3 hb ⟨p, t, ts, rfl, ex, hdn, hk, hts⟩ e3 hx
    obtain ⟨TT, y, rfl, ht2, dy⟩ := nu_dt hx
    obtain ⟨hb1, hb2⟩ := num_get hb
    obtain ⟨b1, tie⟩ := b
    simp only at hb1 hb2 ht2 dy
    subst hb1
    obtain ⟨k1, k2⟩ := ht tie (List.mem_of_getElem? hb2)
    refine ⟨_, _, rfl, ht2, rfl, _, _, rfl, _, _, rfl, rfl, ?_⟩
    refine ⟨_, rfl, _, rfl, true, ⟨n, _, tie, rfl, dy, k1, k2, rfl⟩, fun H4 e4 => ⟨true, rfl, iteF ?_⟩⟩
    have hdn4 := e4 _ _ (e3 _ _ hdn)
    have hk4 := hk.ld (e3.trans e4).ld
    have dy4 := dy.ex e4
    obtain ⟨ta', u1, u2, u3, rfl, _⟩ := dp_t3 dy4
    have nm : tie ∉ ts.map (·.1) := by
      rw [hts]
      exact not_in_take nd hb2
    refine ⟨_, rfl, _, rfl, ts, tie, ⟨_, d, rfl, rfl, .inl hdn4, hk4, dy4⟩, _, rfl, ifN nm ?_⟩
    refine ⟨_, rfl, _, rfl, ts, tie, _, d, rfl, rfl, hdn4, hk4, dy4, ?_, ?_⟩
    · have : ts.length = (l.take b1).length := by rw [← hts, List.length_map]
      rw [this, List.length_take, sizeLine_eq]
      omega
    refine ⟨_, _, _, rfl, (ex.trans (e3.trans e4)).mut hd, upd_same, ?_, ?_⟩
    · exact (hk4.put dy4).lt (Lt.mut (noT_DN hdn4))
    · rw [putE_new nm, List.map_append, hts, take_snoc hb2]
      rfl
  · rintro σ H2 ⟨p, t, ts, rfl, ex, hdn, hk, hts⟩
    exact q H2 (e1.trans ex)
theorem dpAll_take {H : Hp} : ∀ {vs : List V} {ds : List PyData} (i : Nat), DpAll K H vs ds → DpAll K H (vs.take i) (ds.take i)
  | _, _, 0, _ => by rw [List.take_zero, List.take_zero]; exact .nil
  | _, _, i + 1, .nil => by rw [List.take_nil, List.take_nil]; exact .nil
  | _, _, i + 1, .cons a b => by rw [List.take_succ_cons, List.take_succ_cons]; exact .cons a (dpAll_take i b)
theorem cut_take (xs : List V) (i : Nat) (h : i ≤ xs.length) : cutV xs none (some (i : Int)) = xs.take i := by
  unfold cutV
  rw [HT.sIx_nat, HT.sIx_none, List.drop_zero, Nat.sub_zero, Nat.min_eq_left h]
theorem sc_want_ends : FnScope ["standings", "ends", "position", "standing"] ["standings", "ends"] (defScope y_want_ends) := ⟨rfl, rfl, rfl, by decide +kernel, rfl, by decide +kernel, by decide +kernel⟩
def EndsOk (n : Nat) (l : List Nat) : Prop := l.Nodup ∧ l.length ≤ 1000 ∧ ∀ t ∈ l, t < n
def sp_want_ends (K : PySem.W.Frag) : Sp := spU fun vs H => ∃ (n : Nat) (v : V) (l : List Nat), vs = [.int (n : Int), v] ∧ Dp K H v (.list (l.map dat)) ∧ EndsOk n l
theorem c_want_ends (T : Tx K mg CS CQ) (F : Fx K mg "want_ends" y_want_ends ["standings", "ends"] f fd) (c_is_list : Cal P w K mg base 1 "is_list" (sp_is_list (K := K)) []) (c_is_standing : Cal P w K mg base 2 "is_standing" sp_is_node []) : Cal P w K mg base 3 "want_ends" (sp_want_ends K) [] := by
  refine F.cal sc_want_ends (fun vs H Q E h => ?_) (fun cdv A outer s H vs Q E hr h => ?_)
  · obtain ⟨⟨n, i, t, rfl, _⟩, _⟩ := h
    rfl
  obtain ⟨⟨n, v, l, rfl, ta, nd, hl, ht⟩, q⟩ := h
  have hu := hu100 hr
  refine ⟨_, (pss_cons (ps_if (pt_not (pt_val (pe_c c_is_list hr (by decide) (by rfl) (pa_cons (pv 1) pa_nil)))) (pss_one ps_never) pss_nil)
    (pss_one (ps_for PassesOwn.never rfl (k_enum (K := K) rfl (by rfl) T.enumerate (pa_cons (pv 1) pa_nil)) (k_gtup (n := 2) (K := K) rfl rfl (pgs_cons (pn 2 sc_want_ends.nd) (pgs_cons (pn 3 sc_want_ends.nd) pgs_nil))) (pss_one (ps_if (PW.pt (pw_or (pt_not (pt_val (pe_c c_is_standing hr (by decide) (by rfl) (pa_cons (pv 0) (pa_cons (pv 3) pa_nil))))) (pw_or1 (pt_cmpR (k_in (α := Nat) (O := ⟨P, w, K⟩) hu rfl) (pv 3) (pe_slice sl_list (pv 1) po_none (po_some (pv 2))) (by rfl))))) (pss_one ps_never) pss_nil))))), ?_⟩
  obtain ⟨a, xs, rfl, hs, hv⟩ := dp_lst ta
  refine ⟨_, rfl, true, ⟨a, rfl, .inl ⟨xs, hs⟩, rfl⟩, fun H1 e1 => ⟨true, rfl, iteF ?_⟩⟩
  have hs1 := e1.ld.sqL hs
  have hv1 := hv.ex e1
  refine ⟨_, rfl, a, xs, rfl, hs1, ?_⟩
  refine for_tw (tw_enum (K := K) (R := Dt K) (l := l) (xs := xs) dt_ex) (fun i σ H' => ∃ p t, σ = [some (.int (n : Int)), some (.ref a), p, t] ∧ Ex H1 H') ⟨_, _, rfl, .refl H1⟩ ?_ ?_ ?_
  · rintro i σ H2 _ ⟨p, t, rfl, ex⟩
    exact ⟨ex.ld.sqL hs1, all_dat (hv1.ex ex)⟩
  · rintro i b x σ H2 H3 hb ⟨p, t, rfl, ex⟩ e3 hx
    obtain ⟨TT, y, rfl, ht2, dy⟩ := nu_dt hx
    obtain ⟨hb1, hb2⟩ := num_get hb
    obtain ⟨b1, e⟩ := b
    simp only at hb1 hb2 ht2 dy
    subst hb1
    have k1 := ht e (List.mem_of_getElem? hb2)
    have dy := dp_nat dy
    subst dy
    refine ⟨_, _, rfl, ht2, rfl, _, _, rfl, _, _, rfl, rfl, ?_⟩
    refine ⟨_, rfl, _, rfl, true, ⟨n, e, rfl, by simp [k1]⟩, fun H4 e4 => ⟨true, rfl, iteF ?_⟩⟩
    have ex4 := (ex.trans e3).trans e4
    refine ⟨_, rfl, _, rfl, _, rfl, _, rfl, a, xs, rfl, ex4.ld.sqL hs1, fun p1 hp1 => ?_⟩
    have ll : xs.length = l.length := by rw [dpAll_len hv, List.length_map]
    have hb3 : b1 < l.length := (List.getElem?_eq_some_iff.mp hb2).1
    rw [cut_take xs b1 (by omega)]
    have dt : DpAll K (upd H4 p1 (.lst (xs.take b1))) (xs.take b1) ((l.take b1).map dat) := by
      have := (hv1.ex (ex4.trans (Ex.new (o := .lst (xs.take b1)) hp1)))
      rw [List.map_take]
      exact dpAll_take b1 this
    refine ⟨l.take b1, e, nat_dp e, .inr (.lst sql_new dt), _, rfl, ifN (not_in_take nd hb2) ?_⟩
    exact ⟨_, _, rfl, ex4.trans (Ex.new hp1)⟩
  · rintro σ H2 ⟨p, t, rfl, ex⟩
    exact q H2 (e1.trans ex)
theorem sc_spread : FnScope ["ways", "start", "found", "waiting", "goal"] ["ways", "start"] (defScope y_spread) := ⟨rfl, rfl, rfl, by decide +kernel, rfl, by decide +kernel, by decide +kernel⟩
/-- one way on -/
def WayR (W : List (List Nat)) (a b : Nat) : Prop := ∃ r, W[a]? = some r ∧ b ∈ r
def sp_spread (K : PySem.W.Frag) : Sp := fun vs H Q _ => ∃ (v : V) (W : List (List Nat)) (s : Nat), vs = [v, .int (s : Int)] ∧ Dp K H v (.list (W.map fun r => .list (r.map dat))) ∧ s < W.length ∧ W.length ≤ 1000 ∧ (∀ r ∈ W, r.length ≤ 1000 ∧ ∀ b ∈ r, b < W.length) ∧
  ∀ d kvs l H', Ex H H' → H d = none → H' d = some (.dK kvs) → ikeys kvs l → l.Nodup → (∀ x, x ∈ l ↔ Rch (WayR W) s x) → Q (.ref d) H'
theorem ikeys_val {kvs : List (Key × V)} {l : List Nat} (h : ikeys kvs l) (n : Nat) : (valV kvs (Sum.inl (n : Int))).isSome = decide (n ∈ l) := by
  unfold valV
  rw [Option.isSome_map, Bool.eq_iff_iff, List.find?_isSome, decide_eq_true_iff]
  constructor
  · rintro ⟨kv, h1, h2⟩
    have h2 : kv.1 = Sum.inl (n : Int) := of_decide_eq_true h2
    have : kv.1 ∈ kvs.map (·.1) := List.mem_map.mpr ⟨kv, h1, rfl⟩
    rw [h, h2] at this
    obtain ⟨m, hm, e⟩ := List.mem_map.mp this
    have e := Sum.inl.inj e
    have : m = n := by omega
    rw [← this]
    exact hm
  · intro hn
    have : (Sum.inl (n : Int) : Key) ∈ kvs.map (·.1) := by
      rw [h]
      exact List.mem_map.mpr ⟨n, hn, rfl⟩
    obtain ⟨kv, h1, h2⟩ := List.mem_map.mp this
    exact ⟨kv, h1, decide_eq_true h2⟩
theorem ikeys_put {kvs : List (Key × V)} {l : List Nat} (h : ikeys kvs l) {n : Nat} (hn : n ∉ l) (v : V) : ikeys (putK kvs (Sum.inl (n : Int)) v) (l ++ [n]) := by
  have ha : (kvs.any fun kv => decide (kv.1 = (Sum.inl (n : Int) : Key))) = false := by
    rw [List.any_eq_false]
    intro kv hkv e
    have e : kv.1 = Sum.inl (n : Int) := of_decide_eq_true e
    have this : (Sum.inl (n : Int) : Key) ∈ kvs.map (·.1) := List.mem_map.mpr ⟨kv, hkv, e⟩
    rw [h] at this
    obtain ⟨m, hm, e⟩ := List.mem_map.mp this
    have e := Sum.inl.inj e
    have : m = n := by omega
    exact hn (by rw [← this]; exact hm)
  have e : putK kvs (Sum.inl (n : Int)) v = kvs ++ [(Sum.inl (n : Int), v)] := by
    unfold putK
    rw [ha]
    rfl
  unfold ikeys
  rw [e, List.map_append, h, List.map_append]
  rfl
theorem ikeys_len {kvs : List (Key × V)} {l : List Nat} (h : ikeys kvs l) : kvs.length = l.length := by
  have := congrArg List.length h
  simpa using this
/-- how far the spread has come -/
structure Spr (W : List (List Nat)) (s : Nat) (l ws : List Nat) : Prop where
  nd : l.Nodup
  hs : s ∈ l
  r : ∀ x ∈ l, Rch (WayR W) s x ∧ x < W.length
  hw : ∀ x ∈ ws, x ∈ l
  wn : ws.Nodup
  cl : ∀ a ∈ l, a ∉ ws → ∀ b, WayR W a b → b ∈ l
theorem Spr.len {W : List (List Nat)} {s : Nat} {l ws : List Nat} (h : Spr W s l ws) : l.length ≤ W.length := by
  have := nodup_le l (List.range W.length) h.nd fun x hx => List.mem_range.mpr (h.r x hx).2
  rwa [List.length_range] at this
theorem c_spread (T : Tx K mg CS CQ) (F : Fx K mg "spread" y_spread ["ways", "start"] f fd) : Cal P w K mg base 1 "spread" (sp_spread K) [] := by
  refine F.cal sc_spread (fun vs H Q E h => ?_) (fun cdv A outer s H vs Q E hr h => ?_)
  · obtain ⟨v, W, s, rfl, _⟩ := h
    rfl
  obtain ⟨v, W, s0, rfl, dv, hs0, hW, hb, q⟩ := h
  have hu := hu100 hr
  have hu1 := hu_of hr
  refine ⟨_, (pss_cons (ps_par (i := 2) (j := 3) (by rfl) sc_spread.nd rfl rfl (by decide) rfl rfl (pa_cons (pe_disp (pps_cons (pv 1) pe_bl pps_nil) (by rfl) (by rfl) (fun z => by cases z) (by decide)) (pa_cons (pe_lst (pa_cons (pv 1) pa_nil)) pa_nil)) (by rfl))
    (pss_cons (ps_while PassesOwn.never (pt_cmpR (k_neL (α := Nat) (O := ⟨P, w, K⟩) hu rfl) (pv 3) (pe_lst pa_nil) (by rfl)) (pss_one (ps_for PassesOwn.never rfl (k_list (K := K) rfl (pe_ix (k_ixl (K := K) rfl) (pv 0) (pe_bm0 PySem.F.plainAttrs_list PySem.F.slot_list_pop PySem.F.type_list_pop mt_pop (pv 3)) (fun _ _ => rfl))) (pn 4 sc_spread.nd) (pss_one (ps_if (pt_cmp (pc_dnotin hu1 (pv 4) (pv 2))) (pss_cons (ps_dput hu1 (pv 2) (pv 4) pe_bl rfl)
    (pss_one (ps_expr (pe_bm PySem.F.plainAttrs_list PySem.F.slot_list_append PySem.F.type_list_append mt_append (pv 3) (pa_cons (pv 4) pa_nil))))) pss_nil)))))
    (pss_one (ps_ret (pv 2))))), ?_⟩
  obtain ⟨aw, ws, rfl, hsw, hvw⟩ := dp_lst dv
  refine fun d hd => ⟨_, rfl, ⟨upd_same, [(Sum.inl (s0 : Int), .bl true)], rfl, by show 1 ≤ 15; decide, _, rfl, by show 1 ≤ sizeLine; decide, fun p hp => ⟨_, _, rfl, ?_⟩⟩⟩
  have d1 : (upd (upd (upd H d (.dK [])) d (.dK (mergeK [] [(Sum.inl (s0 : Int), .bl true)]))) p (.lst [.int (s0 : Int)])) d = some (.dK [(Sum.inl (s0 : Int), .bl true)]) := (upd_ne (ne_of_none upd_same hp)).trans upd_same
  have e1 : Ex H (upd (upd (upd H d (.dK [])) d (.dK (mergeK [] [(Sum.inl (s0 : Int), .bl true)]))) p (.lst [.int (s0 : Int)])) := ((Ex.new hd).mut hd).put hp
  have pn : H p = none := ((Ex.new hd).mut hd).back hp
  refine ⟨fun m σ H' => ∃ g l ws' kvs, σ = [some (.ref aw), some (.int (s0 : Int)), some (.ref d), some (.ref p), g] ∧ Ex H H' ∧ H' d = some (.dK kvs) ∧ ikeys kvs l ∧ H' p = some (.lst (nats ws')) ∧ Spr W s0 l ws' ∧ m = 2 * (W.length - l.length) + ws'.length,
    ⟨_, _, [s0], [s0], _, rfl, e1, d1, rfl, upd_same, ⟨by simp, by simp, fun x hx => by simp at hx; subst hx; exact ⟨.refl, hs0⟩, by simp, by simp, fun a ha hn => absurd ha hn⟩, rfl⟩, ?_⟩
  clear d1 e1 hp
  rintro m σ H1 ⟨g, l, ws', kvs, rfl, ex, hdk, hik, hpl, spr, rfl⟩
  refine ⟨_, rfl, Nat.zero_le _, fun q1 hq1 => ⟨ws', [], ?_, ?_, _, rfl, ?_⟩⟩
  · exact .lst (SqL.of ((Ex.new hq1) _ _ hpl)) (nats_dp' ws')
  · exact .lst sql_new .nil
  have ex2 := ex.put (o := .lst []) hq1
  have hdk2 := (Ex.new (o := .lst []) hq1) _ _ hdk
  have hpl2 := (Ex.new (o := .lst []) hq1) _ _ hpl
  generalize upd H1 q1 (.lst []) = H2 at ex2 hdk2 hpl2 ⊢
  by_cases hw : ws' = []
  · refine ifNP hw ⟨_, rfl, q d kvs l H2 ex2 hd hdk2 hik spr.nd fun x => ⟨fun hx => (spr.r x hx).1, fun hx => ?_⟩⟩
    exact hx.keeps (P := fun x => x ∈ l) (fun a b ha hab => spr.cl a ha (by rw [hw]; simp) b hab) spr.hs
  · refine ifNN hw ⟨fun σ' H' => ∃ m', m' < 2 * (W.length - l.length) + ws'.length ∧ ∃ g l ws' kvs, σ' = [some (.ref aw), some (.int (s0 : Int)), some (.ref d), some (.ref p), g] ∧ Ex H H' ∧ H' d = some (.dK kvs) ∧ ikeys kvs l ∧ H' p = some (.lst (nats ws')) ∧ Spr W s0 l ws' ∧ m' = 2 * (W.length - l.length) + ws'.length, fun σ' H' h => h, ?_⟩
    obtain ⟨wq, y, rfl⟩ : ∃ wq y, ws' = wq ++ [y] := ⟨ws'.dropLast, ws'.getLast hw, (List.dropLast_concat_getLast hw).symm⟩
    have hy := spr.hw y (by simp)
    obtain ⟨hyr, hyl⟩ := spr.r y hy
    have hWy : W[y]? = some W[y] := List.getElem?_eq_getElem hyl
    obtain ⟨vr, hvr, rr⟩ := all_at (all_ls hvw) hWy
    have rr : Dp K H vr (.list (W[y].map dat)) := rr
    obtain ⟨ar, xr, rfl, hsr, hxr⟩ := dp_lst rr
    have hlast : (nats (wq ++ [y]))[(nats (wq ++ [y])).length - 1]? = some (V.int (y : Int)) := by simp [nats]
    have hdl : (nats (wq ++ [y])).dropLast = nats wq := by simp [nats]
    have ex3 : Ex H (upd H2 p (.lst (nats wq))) := ex2.mut pn
    refine ⟨_, rfl, _, rfl, .inl ⟨rfl, _, SqL.of hpl2⟩, p, _, _, rfl, rfl, hpl2, hlast, ?_⟩
    rw [hdl]
    have wnod : ∀ {add : List Nat}, (l ++ add).Nodup → (wq ++ add).Nodup := fun {add} hn => by
      have h1 := spr.wn
      rw [List.nodup_append] at h1 hn ⊢
      exact ⟨h1.1, hn.2.1, fun a ha b hb => hn.2.2 a (spr.hw a (by simp [ha])) b hb⟩
    have dp3 : d ≠ p := fun z => by rw [z, hpl2] at hdk2; cases hdk2
    have hdk3 : (upd H2 p (.lst (nats wq))) d = some (.dK kvs) := (upd_ne dp3).trans hdk2
    have hpl3 : (upd H2 p (.lst (nats wq))) p = some (.lst (nats wq)) := upd_same
    generalize upd H2 p (.lst (nats wq)) = H3 at ex3 hdk3 hpl3
    refine ⟨aw, ws, (y : Int), .ref ar, rfl, rfl, ex3.ld.sqL hsw, by rw [atI_nat]; exact hvr, ar, rfl, ⟨xr, ex3.ld.sqL hsr⟩, ?_⟩
    refine for_tw (tw_list (K := K) (R := Dt K) (l := W[y]) (xs := xr)) (fun i σ' H' => ∃ g add kvs2, σ' = [some (.ref aw), some (.int (s0 : Int)), some (.ref d), some (.ref p), g] ∧ Ex H H' ∧ H' d = some (.dK kvs2) ∧ ikeys kvs2 (l ++ add) ∧ H' p = some (.lst (nats (wq ++ add))) ∧ (l ++ add).Nodup ∧ (∀ x ∈ add, Rch (WayR W) s0 x ∧ x < W.length) ∧ ∀ b ∈ W[y].take i, b ∈ l ++ add)
      ⟨_, [], kvs, rfl, ex3, hdk3, by simpa using hik, by simpa using hpl3, by simpa using spr.nd, by simp, by simp⟩ ?_ ?_ ?_
    · rintro i σ H4 _ ⟨g, add, kvs2, rfl, e4, _⟩
      exact ⟨e4.ld.sqL hsr, all_dat (hxr.ex e4)⟩
    · rintro i b x σ H4 H5 hib ⟨g, add, kvs2, rfl, e4, k1, k2, k3, k4, k5, k6⟩ e45 hx
      have hx := dp_nat hx
      subst hx
      have hbW : WayR W y b := ⟨_, hWy, List.mem_of_getElem? hib⟩
      have hbl : b < W.length := (hb _ (List.mem_of_getElem? hWy)).2 b (List.mem_of_getElem? hib)
      refine ⟨_, rfl, _, rfl, d, _, rfl, DGet.k (k := Sum.inl (b : Int)) (e45 _ _ k1), _, rfl, ?_⟩
      rw [ikeys_val k2 b]
      have lenl : (l ++ add).length ≤ W.length := by
        have := nodup_le (l ++ add) (List.range W.length) k4 fun x hx => List.mem_range.mpr ((List.mem_append.mp hx).elim (fun h => (spr.r x h).2) fun h => (k5 x h).2)
        rwa [List.length_range] at this
      by_cases hm : b ∈ l ++ add
      · refine ifNP hm ⟨_, add, kvs2, rfl, e4.trans e45, e45 _ _ k1, k2, e45 _ _ k3, k4, k5, fun c hc => ?_⟩
        rw [take_snoc hib] at hc
        rcases List.mem_append.mp hc with hc | hc
        · exact k6 c hc
        · rw [List.mem_singleton.mp hc]
          exact hm
      · refine ifNN hm ⟨_, rfl, _, rfl, d, _, rfl, DPut.k (k := Sum.inl (b : Int)) (e45 _ _ k1) ?_, ?_⟩
        · rw [ikeys_len k2, sizeLine_eq]
          omega
        have pl : (upd H5 d (.dK (putK kvs2 (Sum.inl (b : Int)) (.bl true)))) p = some (.lst (nats (wq ++ add))) := (upd_ne (Ne.symm dp3)).trans (e45 _ _ k3)
        refine ⟨_, rfl, .inl ⟨rfl, _, SqL.of pl⟩, _, rfl, p, _, _, rfl, rfl, pl, ?_, ?_⟩
        · have h1 := nodup_le (wq ++ add) (List.range W.length) (wnod k4) fun x hx => List.mem_range.mpr ((List.mem_append.mp hx).elim (fun h => (spr.r x (spr.hw x (by simp [h]))).2) fun h => (k5 x h).2)
          rw [List.length_range] at h1
          rw [List.length_map, sizeLine_eq]
          omega
        · refine ⟨_, add ++ [b], _, rfl, ((e4.trans e45).mut hd).mut pn, (upd_ne dp3).trans upd_same, ?_, ?_, ?_, ?_, ?_⟩
          · rw [← List.append_assoc]
            exact ikeys_put k2 hm _
          · rw [upd_same]
            simp [nats]
          · rw [← List.append_assoc, List.nodup_append]
            exact ⟨k4, by simp, fun x hx' z hz e => by rw [List.mem_singleton] at hz; rw [hz] at e; rw [e] at hx'; exact hm hx'⟩
          · intro x hx
            rcases List.mem_append.mp hx with hx | hx
            · exact k5 x hx
            · rw [List.mem_singleton.mp hx]
              exact ⟨hyr.trans (.one hbW), hbl⟩
          · intro c hc
            rw [← List.append_assoc]
            rw [take_snoc hib] at hc
            rcases List.mem_append.mp hc with hc | hc
            · exact List.mem_append_left _ (k6 c hc)
            · exact List.mem_append_right _ hc
    · rintro σ H4 ⟨g, add, kvs2, rfl, e4, k1, k2, k3, k4, k5, k6⟩
      rw [List.take_length] at k6
      have lenl : (l ++ add).length ≤ W.length := by
        have := nodup_le (l ++ add) (List.range W.length) k4 fun x hx => List.mem_range.mpr ((List.mem_append.mp hx).elim (fun h => (spr.r x h).2) fun h => (k5 x h).2)
        rwa [List.length_range] at this
      rw [List.length_append] at lenl
      refine ⟨2 * (W.length - (l ++ add).length) + (wq ++ add).length, ?_, _, l ++ add, wq ++ add, kvs2, rfl, e4, k1, k2, k3, ⟨k4, List.mem_append_left _ spr.hs, fun x hx => (List.mem_append.mp hx).elim (spr.r x) (k5 x), fun x hx => ?_, wnod k4, fun a ha hn b hab => ?_⟩, rfl⟩
      · simp only [List.length_append, List.length_singleton]
        omega
      · rcases List.mem_append.mp hx with hx | hx
        · exact List.mem_append_left _ (spr.hw x (by simp [hx]))
        · exact List.mem_append_right _ hx
      · rcases List.mem_append.mp ha with ha | ha
        · by_cases e : a = y
          · subst e
            obtain ⟨r, h1, h2⟩ := hab
            rw [hWy] at h1
            have h1 := Option.some.inj h1
            subst h1
            exact k6 b h2
          · have : a ∉ wq ++ [y] := fun z => by
              rcases List.mem_append.mp z with z | z
              · exact hn (List.mem_append_left _ z)
              · exact e (List.mem_singleton.mp z)
            exact List.mem_append_left _ (spr.cl a ha this b hab)
        · exact absurd (List.mem_append_right _ ha) hn
end
end K26

set_option Elab.async false
set_option linter.all false
set_option maxRecDepth 100000
set_option maxHeartbeats 4000000
/-! questions: the class Question, does_read. -/
namespace K26
open PySem PySem.Spec PyProof.Rows L2
open Ky C8
/-- the steps from each standing -/
def fromR (l : List Stp) (i : Nat) : List (Sg × Nat) := (l.filter fun t => decide (t.x = i)).map fun t => (t.y, t.z)
def fromL (Q : Qs) : List (List (Sg × Nat)) := (List.range Q.n).map (fromR Q.steps)
structure QOk (Q : Qs) : Prop where
  wf : Q.Wf
  n3 : Q.n ≤ 3
  s7 : Q.steps.length ≤ 7
theorem mem_fromR {l : List Stp} {i : Nat} {p : Sg × Nat} : p ∈ fromR l i ↔ (⟨i, p.1, p.2⟩ : Stp) ∈ l := by
  unfold fromR
  rw [List.mem_map]
  constructor
  · rintro ⟨t, ht, rfl⟩
    obtain ⟨h1, h2⟩ := List.mem_filter.mp ht
    have h2 := of_decide_eq_true h2
    cases t
    simp only at h2
    subst h2
    exact h1
  · intro h
    exact ⟨_, List.mem_filter.mpr ⟨h, by simp⟩, rfl⟩
theorem fromR_len (l : List Stp) (i : Nat) : (fromR l i).length ≤ l.length := by
  unfold fromR
  rw [List.length_map]
  exact List.length_filter_le _ _
theorem fromR_snoc (l : List Stp) (t : Stp) (i : Nat) : fromR (l ++ [t]) i = fromR l i ++ (if t.x = i then [(t.y, t.z)] else []) := by
  unfold fromR
  rw [List.filter_append, List.map_append]
  congr 1
  by_cases h : t.x = i
  · simp [h]
  · simp [h]
/-- the attributes of a question -/
structure QF (K : PySem.W.Frag) (CQ : Addr) (H : Hp) (a dx : Addr) (st en fr : V) (Q : Qs) : Prop where
  h : H a = some (.ins CQ dx [("own_standings", .int (Q.n : Int)), ("own_steps", st), ("own_ends", en), ("own_from", fr)])
  st : Dp K H st (.tuple (Q.steps.map dat))
  en : Dp K H en (.tuple (Q.ends.map dat))
  fr : Dp K H fr (.list ((fromL Q).map fun r => .list (r.map dat)))
  ok : QOk Q
/-- this question stands at v -/
def QAt (K : PySem.W.Frag) (CQ : Addr) (H : Hp) (v : V) (Q : Qs) : Prop := ∃ a dx st en fr, v = .ref a ∧ QF K CQ H a dx st en fr Q
theorem QF.ex {K : PySem.W.Frag} {CQ : Addr} {H H' : Hp} {a dx : Addr} {st en fr : V} {Q : Qs} (q : QF K CQ H a dx st en fr Q) (e : Ex H H') : QF K CQ H' a dx st en fr Q := ⟨e _ _ q.h, q.st.ex e, q.en.ex e, q.fr.ex e, q.ok⟩
theorem QAt.ex {K : PySem.W.Frag} {CQ : Addr} {H H' : Hp} {v : V} {Q : Qs} (h : QAt K CQ H v Q) (e : Ex H H') : QAt K CQ H' v Q := by
  obtain ⟨a, dx, st, en, fr, rfl, q⟩ := h
  exact ⟨a, dx, st, en, fr, rfl, q.ex e⟩
section
variable {P : Program} {w : World} {K : PySem.W.Frag} {mg : Str → Option Value} {base : Heap} {CS CQ f : Addr} {fd : FuncData}
theorem tup_lt {α : Type} [Ky α] {H H' : Hp} {v : V} {l : List α} (e : Lt H H') (h : Dp K H v (.tuple (l.map dat))) : Dp K H' v (.tuple (l.map dat)) := by
  rw [← dat_list] at h ⊢
  exact dat_lt e h
theorem nodup_at {α : Type} {l : List α} (h : l.Nodup) {i j : Nat} {a : α} (h1 : l[i]? = some a) (h2 : l[j]? = some a) : i = j := by
  obtain ⟨i1, i2⟩ := List.getElem?_eq_some_iff.mp h1
  obtain ⟨j1, j2⟩ := List.getElem?_eq_some_iff.mp h2
  have k := List.pairwise_iff_getElem.mp h
  rcases Nat.lt_trichotomy i j with c | c | c
  · exact absurd (i2.trans j2.symm) (k i j i1 j1 c)
  · exact c
  · exact absurd (j2.trans i2.symm) (k j i j1 i1 c)
theorem sc_question_init : FnScope ["self", "standings", "steps", "ends", "begin", "sign", "goal", "standing"] ["self", "standings", "steps", "ends"] (defScope y_question_init) := ⟨rfl, rfl, rfl, by decide +kernel, rfl, by decide +kernel, by decide +kernel⟩
structure QIn (n : Nat) (S : List Stp) (E : List Nat) : Prop where
  pos : 1 ≤ n
  n3 : n ≤ 3
  s7 : S.length ≤ 7
  sd : S.Nodup
  sb : ∀ t ∈ S, t.x < n ∧ t.z < n
  ed : E.Nodup
  eb : ∀ e ∈ E, e < n
theorem QIn.ok {n : Nat} {S : List Stp} {E : List Nat} (h : QIn n S E) : QOk ⟨n, srt S, srt E⟩ :=
  ⟨⟨h.pos, fun t ht => h.sb t (mem_srt.mp ht), fun e he => h.eb e (mem_srt.mp he), (srt_perm S).nodup_iff.mpr h.sd, (srt_perm E).nodup_iff.mpr h.ed⟩, h.n3, by show (srt S).length ≤ 7; rw [srt_len]; exact h.s7⟩
theorem QIn.e1000 {n : Nat} {S : List Stp} {E : List Nat} (h : QIn n S E) : E.length ≤ 3 := by
  have := nodup_le E (List.range n) h.ed fun x hx => List.mem_range.mpr (h.eb x hx)
  rw [List.length_range] at this
  have := h.n3
  omega
def sp_question_init (K : PySem.W.Frag) (CQ : Addr) : Sp := fun vs H Q _ => ∃ (x dx : Addr) (n : Nat) (v v2 : V) (S : List Stp) (E : List Nat), vs = [.ref x, .int (n : Int), v, v2] ∧ H x = some (.ins CQ dx []) ∧ Dp K H v (.list (S.map dat)) ∧ Dp K H v2 (.list (E.map dat)) ∧ QIn n S E ∧
  ∀ H', Ex1 x H H' → QAt K CQ H' (.ref x) ⟨n, srt S, srt E⟩ → Q .non H'
theorem ok_question_init {qual : Str} (T : Tx K mg CS CQ) (F : FnP K "__init__" qual y_question_init [] f fd) (c_is_integer : Cal P w K mg base 1 "is_integer" sp_is_integer []) (c_want_steps : Cal P w K mg base 4 "want_steps" (sp_want_steps K) [])
    (c_want_ends : Cal P w K mg base 3 "want_ends" (sp_want_ends K) []) : FnOk P w K mg base C8.CX0 5 f fd ["self", "standings", "steps", "ends"] (sp_question_init K CQ) := by
  refine ok_of F sc_question_init (fun vs H Q E h => ?_) (fun cdv A outer s H vs Q E hr h => ?_)
  · obtain ⟨x, dx, n, v, v2, l, e, rfl, _⟩ := h
    rfl
  obtain ⟨x, dx, n, v, v2, S, E2, rfl, hx, ds, de, qin, q⟩ := h
  have hu := hu100 hr
  refine ⟨_, (pss_cons (ps_if (PW.pt (pw_or (pt_not (pt_val (pe_c c_is_integer hr (by decide) (by rfl) (pa_cons (pv 1) pa_nil)))) (pw_or1 (pt_not (pt_chain op_le op_le pe_int (pv 1) (gI (by rfl) T.standings)))))) (pss_one ps_never) pss_nil)
    (pss_cons (ps_expr (pe_c c_want_steps hr (by decide) (by rfl) (pa_cons (pv 1) (pa_cons (pv 2) pa_nil))))
    (pss_cons (ps_expr (pe_c c_want_ends hr (by decide) (by rfl) (pa_cons (pv 1) (pa_cons (pv 3) pa_nil))))
    (pss_cons (ps_fld (pv 0) (pv 1) rfl)
    (pss_cons (ps_fld (pv 0) (pe_callTy (k_tuple (K := K) rfl) (by rfl) T.tuple (by decide +kernel) (pa_cons (pe_callB (k_srtL (α := Stp) (O := ⟨P, w, K⟩) hu rfl) (by rfl) T.sorted (by decide +kernel) (pa_cons (pv 2) pa_nil)) pa_nil)) rfl)
    (pss_cons (ps_fld (pv 0) (pe_callTy (k_tuple (K := K) rfl) (by rfl) T.tuple (by decide +kernel) (pa_cons (pe_callB (k_srtL (α := Nat) (O := ⟨P, w, K⟩) hu rfl) (by rfl) T.sorted (by decide +kernel) (pa_cons (pv 3) pa_nil)) pa_nil)) rfl)
    (pss_cons (ps_fld (pv 0) (pe_lc (own := [("standing", 7)]) rfl sc_question_init.nd ((pi_range1 (by rfl) T.range (pa_cons (pv 1) pa_nil))) (blkOk_by (by kernel_rfl)) (fun _ _ _ _ _ => (pn 7 sc_question_init.nd)) (fun _ _ _ _ _ => pts_nil) (fun _ _ _ _ _ => (pe_lst pa_nil))) rfl)
    (pss_one (ps_for PassesOwn.never rfl (k_tup (K := K) rfl (k_fld (K := K) rfl (pv 0))) (k_gtup (n := 3) (K := K) rfl rfl (pgs_cons (pn 4 sc_question_init.nd) (pgs_cons (pn 5 sc_question_init.nd) (pgs_cons (pn 6 sc_question_init.nd) pgs_nil)))) (pss_one (ps_expr (pe_bm PySem.F.plainAttrs_list PySem.F.slot_list_append PySem.F.type_list_append mt_append (pe_ix (k_ixl (K := K) rfl) (k_fld (K := K) rfl (pv 0)) (pv 4) (fun _ _ => rfl)) (pa_cons (pe_tup (pa_cons (pv 5) (pa_cons (pv 6) pa_nil))) pa_nil))))))))))))), ?_⟩
  have p1 := qin.pos
  have p2 := qin.n3
  refine ⟨_, rfl, true, ⟨_, rfl, rfl⟩, fun H1 e1 => ⟨true, rfl, iteF ⟨_, rfl, 1, (n : Int), rfl, rfl, _, rfl, ifP (by omega) ⟨_, _, rfl, rfl, _, rfl, ifNP (by omega) ?_⟩⟩⟩⟩
  refine ⟨_, rfl, _, rfl, ⟨n, v, S, rfl, ds.ex e1, qin.sd, by have := qin.s7; omega, qin.sb⟩, fun H2 e2 => ?_⟩
  refine ⟨_, rfl, _, rfl, ⟨n, v2, E2, rfl, de.ex (e1.trans e2), qin.ed, by have := qin.e1000; omega, qin.eb⟩, fun H3 e3 => ?_⟩
  have x3 := e3 _ _ (e2 _ _ (e1 _ _ hx))
  have e03 := (e1.trans e2).trans e3
  refine ⟨_, rfl, _, rfl, x, CQ, dx, [], rfl, x3, T.cQ, T.q_stand, by decide, ?_⟩
  have g4 : Ex1 x H (upd H3 x (.ins CQ dx [("own_standings", .int (n : Int))])) := fun y o hy h => (upd_ne hy).trans (e03 _ _ h)
  have x4 : (upd H3 x (.ins CQ dx [("own_standings", .int (n : Int))])) x = some (.ins CQ dx [("own_standings", .int (n : Int))]) := upd_same
  have ds4 : Dp K (upd H3 x (.ins CQ dx [("own_standings", .int (n : Int))])) v (.list (S.map dat)) := dp_ld (e03.ld.trans (ld_ins x3)) ds
  have de4 : Dp K (upd H3 x (.ins CQ dx [("own_standings", .int (n : Int))])) v2 (.list (E2.map dat)) := dp_ld (e03.ld.trans (ld_ins x3)) de
  show (fun H4 => _) (upd H3 x (.ins CQ dx [("own_standings", .int (n : Int))]))
  generalize upd H3 x (.ins CQ dx [("own_standings", .int (n : Int))]) = H4 at g4 x4 ds4 de4
  clear x3 e03 e3 e2 e1
  obtain ⟨as, xs, rfl, hs, hv⟩ := dp_lst ds4
  refine ⟨_, rfl, as, xs, S, rfl, hs, hv, fun ys p dy hp => ⟨p, ys, rfl, .inl ⟨sql_new, fun t ht => ?_⟩⟩⟩
  have e6 : Ex H4 (upd (upd H4 p (.lst ys)) t (.tup ys)) := (Ex.new hp).put ht
  have st6 : Dp K (upd (upd H4 p (.lst ys)) t (.tup ys)) (.ref t) (.tuple ((srt S).map dat)) := .tup sqt_new ((dy.ex (Ex.new hp)).ex (Ex.new ht))
  generalize upd (upd H4 p (.lst ys)) t (.tup ys) = H6 at e6 st6
  have x6 := e6 _ _ x4
  refine ⟨_, rfl, x, CQ, dx, _, rfl, x6, T.cQ, T.q_steps, by show 1 < 1000; decide, ?_⟩
  have g7 : Ex1 x H (upd H6 x (.ins CQ dx [("own_standings", .int (n : Int)), ("own_steps", .ref t)])) := fun y o hy h => (upd_ne hy).trans (e6 _ _ (g4 y o hy h))
  have x7 : (upd H6 x (.ins CQ dx [("own_standings", .int (n : Int)), ("own_steps", .ref t)])) x = some (.ins CQ dx [("own_standings", .int (n : Int)), ("own_steps", .ref t)]) := upd_same
  have st7 := dp_ld (ld_ins (o := .ins CQ dx [("own_standings", .int (n : Int)), ("own_steps", .ref t)]) x6) st6
  have de7 := dp_ld (e6.ld.trans (ld_ins (o := .ins CQ dx [("own_standings", .int (n : Int)), ("own_steps", .ref t)]) x6)) de4
  show (fun H7 => _) (upd H6 x (.ins CQ dx [("own_standings", .int (n : Int)), ("own_steps", .ref t)]))
  generalize upd H6 x (.ins CQ dx [("own_standings", .int (n : Int)), ("own_steps", .ref t)]) = H7 at g7 x7 st7 de7
  clear x6 st6 e6 ht hp dy hv hs ds4 de4 x4 g4
  obtain ⟨ae, xs2, rfl, hs2, hv2⟩ := dp_lst de7
  refine ⟨_, rfl, ae, xs2, E2, rfl, hs2, hv2, fun ys2 p2 dy2 hp2 => ⟨p2, ys2, rfl, .inl ⟨sql_new, fun t2 ht2 => ?_⟩⟩⟩
  have e9 : Ex H7 (upd (upd H7 p2 (.lst ys2)) t2 (.tup ys2)) := (Ex.new hp2).put ht2
  have en9 : Dp K (upd (upd H7 p2 (.lst ys2)) t2 (.tup ys2)) (.ref t2) (.tuple ((srt E2).map dat)) := .tup sqt_new ((dy2.ex (Ex.new hp2)).ex (Ex.new ht2))
  generalize upd (upd H7 p2 (.lst ys2)) t2 (.tup ys2) = H9 at e9 en9
  have x9 := e9 _ _ x7
  refine ⟨_, rfl, x, CQ, dx, _, rfl, x9, T.cQ, T.q_ends, by show 2 < 1000; decide, ?_⟩
  have g10 : Ex1 x H (upd H9 x (.ins CQ dx [("own_standings", .int (n : Int)), ("own_steps", .ref t), ("own_ends", .ref t2)])) := fun y o hy h => (upd_ne hy).trans (e9 _ _ (g7 y o hy h))
  have x10 : (upd H9 x (.ins CQ dx [("own_standings", .int (n : Int)), ("own_steps", .ref t), ("own_ends", .ref t2)])) x = some (.ins CQ dx [("own_standings", .int (n : Int)), ("own_steps", .ref t), ("own_ends", .ref t2)]) := upd_same
  have st10 := dp_ld (e9.ld.trans (ld_ins (o := .ins CQ dx [("own_standings", .int (n : Int)), ("own_steps", .ref t), ("own_ends", .ref t2)]) x9)) st7
  have en10 := dp_ld (ld_ins (o := .ins CQ dx [("own_standings", .int (n : Int)), ("own_steps", .ref t), ("own_ends", .ref t2)]) x9) en9
  show (fun H10 => _) (upd H9 x (.ins CQ dx [("own_standings", .int (n : Int)), ("own_steps", .ref t), ("own_ends", .ref t2)]))
  generalize upd H9 x (.ins CQ dx [("own_standings", .int (n : Int)), ("own_steps", .ref t), ("own_ends", .ref t2)]) = H10 at g10 x10 st10 en10
  clear x9 en9 e9 ht2 hp2 dy2 hv2 hs2 de7 st7 x7 g7
  refine ⟨_, rfl, (n : Int), rfl, by omega, by omega, fun D hD => ?_⟩
  refine lc_it walk_range (fun i H' => Ex H10 H' ∧ ∃ ps : List Addr, H' D = some (.lst (ps.map V.ref)) ∧ ps.length = i ∧ ps.Nodup ∧ ∀ p ∈ ps, H' p = some (.lst []) ∧ p ≠ D ∧ H10 p = none) ⟨Ex.new hD, [], upd_same, rfl, List.nodup_nil, by simp⟩ (fun _ _ _ _ => trivial) ?_ ?_
  · rintro i v3 H11 _ hi ⟨e11, ps, h1, h2, h3, h4⟩ ⟨rfl, rfl⟩
    refine ⟨rfl, Nat.zero_le _, fun p hp => ⟨_, (Ex.new hp) _ _ h1, ?_, (e11.put hp).mut hD, ps ++ [p], ?_, by simp [h2], ?_, fun p' hp' => ?_⟩⟩
    · have : i < n := hi
      rw [List.length_map, h2, sizeLine_eq]
      omega
    · rw [upd_same, List.map_append]
      rfl
    · rw [List.nodup_append]
      exact ⟨h3, by simp, fun a ha b hb e => by
        rw [List.mem_singleton] at hb
        rw [hb] at e
        rw [e] at ha
        rw [(h4 p ha).1] at hp
        cases hp⟩
    · have pD : p ≠ D := fun z => by rw [z, h1] at hp; cases hp
      rcases List.mem_append.mp hp' with hp' | hp'
      · obtain ⟨a1, a2, a3⟩ := h4 p' hp'
        exact ⟨(upd_ne a2).trans ((Ex.new hp) _ _ a1), a2, a3⟩
      · rw [List.mem_singleton.mp hp']
        exact ⟨(upd_ne pD).trans upd_same, pD, e11.back hp⟩
  · rintro H11 ⟨e11, ps, h1, h2, h3, h4⟩
    have h2 : ps.length = n := h2
    have x11 := e11 _ _ x10
    refine ⟨_, rfl, x, CQ, dx, _, rfl, x11, T.cQ, T.q_from, by show 3 < 1000; decide, ?_⟩
    have g12 : Ex1 x H (upd H11 x (.ins CQ dx [("own_standings", .int (n : Int)), ("own_steps", .ref t), ("own_ends", .ref t2), ("own_from", .ref D)])) := fun y o hy h => (upd_ne hy).trans (e11 _ _ (g10 y o hy h))
    have x12 : (upd H11 x (.ins CQ dx [("own_standings", .int (n : Int)), ("own_steps", .ref t), ("own_ends", .ref t2), ("own_from", .ref D)])) x = some (.ins CQ dx [("own_standings", .int (n : Int)), ("own_steps", .ref t), ("own_ends", .ref t2), ("own_from", .ref D)]) := upd_same
    have st12 := dp_ld (e11.ld.trans (ld_ins (o := .ins CQ dx [("own_standings", .int (n : Int)), ("own_steps", .ref t), ("own_ends", .ref t2), ("own_from", .ref D)]) x11)) st10
    have en12 := dp_ld (e11.ld.trans (ld_ins (o := .ins CQ dx [("own_standings", .int (n : Int)), ("own_steps", .ref t), ("own_ends", .ref t2), ("own_from", .ref D)]) x11)) en10
    have Dx : D ≠ x := fun z => by rw [z, x10] at hD; cases hD
    have D12 : (upd H11 x (.ins CQ dx [("own_standings", .int (n : Int)), ("own_steps", .ref t), ("own_ends", .ref t2), ("own_from", .ref D)])) D = some (.lst (ps.map V.ref)) := (upd_ne Dx).trans h1
    have px : ∀ p ∈ ps, p ≠ x ∧ p ≠ D ∧ H p = none := by
      intro p hp
      obtain ⟨q1, q2, q3⟩ := h4 p hp
      have hpx : p ≠ x := fun z => by
        rw [z, x10] at q3
        cases q3
      refine ⟨hpx, q2, ?_⟩
      cases hq : H p with
      | none => rfl
      | some o =>
        have := g10 p o hpx hq
        rw [q3] at this
        cases this
    have r12 : ∀ p ∈ ps, (upd H11 x (.ins CQ dx [("own_standings", .int (n : Int)), ("own_steps", .ref t), ("own_ends", .ref t2), ("own_from", .ref D)])) p = some (.lst []) := fun p hp => (upd_ne (px p hp).1).trans (h4 p hp).1
    have HD : H D = none := by
      cases hq : H D with
      | none => rfl
      | some o =>
        have := g10 D o Dx hq
        rw [hD] at this
        cases this
    show (fun H12 => _) (upd H11 x (.ins CQ dx [("own_standings", .int (n : Int)), ("own_steps", .ref t), ("own_ends", .ref t2), ("own_from", .ref D)]))
    generalize upd H11 x (.ins CQ dx [("own_standings", .int (n : Int)), ("own_steps", .ref t), ("own_ends", .ref t2), ("own_from", .ref D)]) = H12 at g12 x12 st12 en12 D12 r12
    clear x11 h1 h4 e11 hD st10 en10 x10 g10
    obtain ⟨at', xt, et, ht3, dt3⟩ := dp_tuple st12
    cases et
    refine ⟨_, rfl, x, CQ, dx, _, _, rfl, x12, T.cQ, T.q_steps, rfl, t, rfl, ⟨xt, ht3⟩, ?_⟩
    refine for_tw (tw_tup (K := K) (R := Dt K) (l := srt S) (xs := xt)) (fun i σ H' => ∃ a b c e, σ = [some (.ref x), some (.int (n : Int)), some (.ref as), some (.ref ae), a, b, c, e] ∧ Ex1 x H H' ∧ H' x = some (.ins CQ dx [("own_standings", .int (n : Int)), ("own_steps", .ref t), ("own_ends", .ref t2), ("own_from", .ref D)]) ∧ Dp K H' (.ref t) (.tuple ((srt S).map dat)) ∧ Dp K H' (.ref t2) (.tuple ((srt E2).map dat)) ∧
      SqT K H' t xt ∧ DpAll K H' xt ((srt S).map dat) ∧ H' D = some (.lst (ps.map V.ref)) ∧ ∀ j p, ps[j]? = some p → ∃ vs, H' p = some (.lst vs) ∧ DpAll K H' vs ((fromR ((srt S).take i) j).map dat)) ⟨_, _, _, _, rfl, g12, x12, st12, en12, ht3, dt3, D12, fun j p hj => ⟨[], r12 p (List.mem_of_getElem? hj), .nil⟩⟩ ?_ ?_ ?_
    · rintro i σ H13 _ ⟨a, b, c, e, rfl, k1, k2, k3, k4, k5, k6, k7, k8⟩
      exact ⟨k5, all_dat k6⟩
    · rintro i u v3 σ H13 H14 hu' ⟨a, b, c, e, rfl, k1, k2, k3, k4, k5, k6, k7, k8⟩ e14 hv3
      obtain ⟨T0, y1, y2, y3, rfl, hT, d1, d2, d3⟩ := dp_t3 hv3
      have d1 := dp_nat d1
      subst d1
      refine ⟨_, _, rfl, hT, rfl, _, _, rfl, _, _, rfl, _, _, rfl, rfl, ?_⟩
      have hun : u.x < n := (qin.sb u (mem_srt.mp (List.mem_of_getElem? hu'))).1
      have hps : ps[u.x]? = some ps[u.x] := List.getElem?_eq_getElem (by omega)
      obtain ⟨vs, hvs, dvs⟩ := k8 u.x _ hps
      obtain ⟨px1, px2, px3⟩ := px _ (List.mem_of_getElem? hps)
      have hvs4 := e14 _ _ hvs
      have hat : atI (ps.map V.ref) (u.x : Int) = some (.ref ps[u.x]) := atI_nat (by
        rw [List.getElem?_map, hps]
        rfl)
      refine ⟨_, rfl, x, CQ, dx, _, _, rfl, e14 _ _ k2, T.cQ, T.q_from, rfl, _, rfl, D, ps.map V.ref, (u.x : Int), .ref ps[u.x], rfl, rfl, SqL.of (e14 _ _ k7), hat, .inl ⟨rfl, _, SqL.of hvs4⟩, _, rfl, _, rfl, by show 2 ≤ sizeLine; decide, fun T1 hT1 => ?_⟩
      have e15 : Ex H14 (upd H14 T1 (.tup [y2, y3])) := Ex.new hT1
      have d15 : Dp K (upd H14 T1 (.tup [y2, y3])) (.ref T1) (dat (u.y, u.z)) := pair_dp sqt_new (d2.ex e15) (d3.ex e15)
      generalize upd H14 T1 (.tup [y2, y3]) = H15 at e15 d15
      have e35 := e14.trans e15
      have hvs5 := e15 _ _ hvs4
      refine ⟨ps[u.x], vs, .ref T1, rfl, rfl, hvs5, ?_, ?_⟩
      · have l1 := dpAll_len dvs
        have l2 := fromR_len ((srt S).take i) u.x
        rw [List.length_map] at l1
        have l3 : ((srt S).take i).length ≤ (srt S).length := by rw [List.length_take]; omega
        rw [srt_len] at l3
        have := qin.s7
        rw [sizeLine_eq]
        omega
      have lt := Lt.mut (o := .lst (vs ++ [.ref T1])) (noT_lst hvs5)
      refine ⟨_, _, _, _, rfl, fun y o hy h => ?_, (upd_ne (Ne.symm px1)).trans (e35 _ _ k2), ?_, ?_, ?_, ?_, (upd_ne (Ne.symm px2)).trans (e35 _ _ k7), fun j p hj => ?_⟩
      · have : y ≠ ps[u.x] := fun z => by rw [z, px3] at h; cases h
        exact (upd_ne this).trans (e35 _ _ (k1 y o hy h))
      · exact tup_lt lt (k3.ex e35)
      · exact tup_lt lt (k4.ex e35)
      · exact (e35.ld.sqT k5).elim (fun z => .inl (lt _ _ z)) .inr
      · exact dats_lt lt (k6.ex e35)
      · rw [take_snoc hu', fromR_snoc]
        by_cases ej : u.x = j
        · subst ej
          rw [hps] at hj
          cases hj
          refine ⟨_, upd_same, ?_⟩
          rw [if_pos rfl, List.map_append]
          exact dpAll_snoc (dats_lt lt (dvs.ex e35)) (dat_lt lt d15)
        · obtain ⟨vs2, w1, w2⟩ := k8 j p hj
          have pne : p ≠ ps[u.x] := fun z => by
            rw [z] at hj
            exact ej (nodup_at h3 hps hj)
          refine ⟨vs2, (upd_ne pne).trans (e35 _ _ w1), ?_⟩
          rw [if_neg ej, List.append_nil]
          exact dats_lt lt (w2.ex e35)
    · rintro σ H13 ⟨a, b, c, e, rfl, k1, k2, k3, k4, k5, k6, k7, k8⟩
      rw [List.take_length] at k8
      refine q H13 k1 ⟨x, dx, .ref t, .ref t2, .ref D, rfl, k2, k3, k4, .lst (SqL.of k7) ?_, qin.ok⟩
      refine dpAll_of (by simp [fromL, h2]) fun j v3 d3 hv3 hd3 => ?_
      rw [List.getElem?_map] at hv3
      obtain ⟨p, hp, rfl⟩ := Option.map_eq_some_iff.mp hv3
      have hj : j < n := by
        have := (List.getElem?_eq_some_iff.mp hp).1
        omega
      rw [List.getElem?_map, fromL, List.getElem?_map, List.getElem?_range hj] at hd3
      have hd3 := Option.some.inj hd3
      subst hd3
      obtain ⟨vs, w1, w2⟩ := k8 j p hp
      exact .lst (SqL.of w1) w2
end
end K26

set_option Elab.async false
set_option linter.all false
set_option maxRecDepth 100000
set_option maxHeartbeats 4000000
/-! questions: does_read, reads, useful, trimmed. -/
namespace K26
open PySem PySem.Spec PyProof.Rows L2
open Ky C8
/-! ### sorted sets of numbers -/
theorem nats_eq {l : List Nat} {ns : List Int} (h : ns.map V.int = nats l) : ns = l.map fun n : Nat => (n : Int) := by
  induction l generalizing ns with
  | nil => simpa using h
  | cons n l ih =>
    cases ns with
    | nil => simp [nats] at h
    | cons m ns =>
      rw [List.map_cons, nats, List.map_cons] at h
      injection h with h1 h2
      injection h1 with h1
      rw [h1, ih h2]
      rfl
/-- what sorted(set(..)) gives -/
theorem sset_back {l : List Nat} {ns : List Int} (hs : ns.Pairwise (· < ·)) (hm : ∀ k : Int, k ∈ ns ↔ decide (k ∈ l.map fun n : Nat => (n : Int)) = true) : ∃ l' : List Nat, ns.map V.int = nats l' ∧ l'.Pairwise (· < ·) ∧ ∀ x, x ∈ l' ↔ x ∈ l := by
  refine ⟨ns.map Int.toNat, ?_, ?_, fun x => ?_⟩
  · rw [nats, List.map_map]
    refine List.map_congr_left fun k hk => ?_
    have := of_decide_eq_true ((hm k).mp hk)
    obtain ⟨n, _, e⟩ := List.mem_map.mp this
    subst e
    rfl
  · rw [List.pairwise_map]
    refine List.Pairwise.imp_of_mem (fun {a b} ha hb hab => ?_) hs
    obtain ⟨n, _, e⟩ := List.mem_map.mp (of_decide_eq_true ((hm a).mp ha))
    obtain ⟨m, _, e2⟩ := List.mem_map.mp (of_decide_eq_true ((hm b).mp hb))
    subst e e2
    simpa using hab
  · rw [List.mem_map]
    constructor
    · rintro ⟨k, hk, rfl⟩
      obtain ⟨n, hn, e⟩ := List.mem_map.mp (of_decide_eq_true ((hm k).mp hk))
      subst e
      exact hn
    · intro hx
      exact ⟨(x : Int), (hm _).mpr (decide_eq_true (List.mem_map.mpr ⟨x, hx, rfl⟩)), rfl⟩
theorem lt_nodup {l : List Nat} (h : l.Pairwise (· < ·)) : l.Nodup := h.imp fun {a b} hab => Nat.ne_of_lt hab
theorem le_of_bound {l : List Nat} {n : Nat} (h : l.Nodup) (hb : ∀ x ∈ l, x < n) : l.length ≤ n := by
  have := nodup_le l (List.range n) h fun x hx => List.mem_range.mpr (hb x hx)
  rwa [List.length_range] at this
section
variable {P : Program} {w : World} {K : PySem.W.Frag} {mg : Str → Option Value} {base : Heap} {CS CQ f : Addr} {fd : FuncData}
theorem fm_bound {α β : Type} (l : List α) (g : α → List β) (m : Nat) (h : ∀ a ∈ l, (g a).length ≤ m) : (l.map fun a => (g a).length).sum ≤ l.length * m := by
  induction l with
  | nil => simp
  | cons a l ih =>
    rw [List.map_cons, List.sum_cons, List.length_cons, Nat.succ_mul]
    have h1 := h a List.mem_cons_self
    have h2 := ih fun b hb => h b (List.mem_cons_of_mem _ hb)
    omega
theorem flat_len {α β γ : Type} (l : List α) (g : α → List β) (f : α → β → Option γ) : (l.flatMap fun a => (g a).filterMap (f a)).length ≤ (l.map fun a => (g a).length).sum := by
  induction l with
  | nil => simp
  | cons b m ih =>
    rw [List.flatMap_cons, List.length_append, List.map_cons, List.sum_cons]
    have := List.length_filterMap_le (f b) (g b)
    omega
/-- where own_from leads, as data -/
theorem QF.row {H : Hp} {a dx : Addr} {st en fr : V} {Q : Qs} (q : QF K CQ H a dx st en fr Q) : ∃ D vs, fr = .ref D ∧ SqL K H D vs ∧ ∀ i, i < Q.n → ∃ v b xs, vs[i]? = some v ∧ v = .ref b ∧ SqL K H b xs ∧ DpAll K H xs ((fromR Q.steps i).map dat) := by
  obtain ⟨D, vs, e, hs, hv⟩ := dp_lst q.fr
  refine ⟨D, vs, e, hs, fun i hi => ?_⟩
  have hi' : (fromL Q)[i]? = some (fromR Q.steps i) := by
    rw [fromL, List.getElem?_map, List.getElem?_range hi]
    rfl
  obtain ⟨v, h1, h2⟩ := all_at (all_ls hv) hi'
  have h2 : Dp K H v (.list ((fromR Q.steps i).map dat)) := h2
  obtain ⟨b, xs, rfl, h3, h4⟩ := dp_lst h2
  exact ⟨_, b, xs, h1, rfl, h3, h4⟩
theorem sc_does_read : FnScope ["question", "signs", "here", "sign", "standing", "near", "one", "goal"] ["question", "signs"] (defScope y_does_read) := ⟨rfl, rfl, rfl, by decide +kernel, rfl, by decide +kernel, by decide +kernel⟩
def sp_does_read (K : PySem.W.Frag) (CQ : Addr) : Sp := fun vs H Q _ => ∃ (v : V) (q : Qs) (u : List Sg), vs = [v, .str (wdS u)] ∧ QAt K CQ H v q ∧ u.length ≤ 1000 ∧ ∀ b H', Ex H H' → (b = true ↔ reads q u) → Q (.bl b) H'
theorem c_does_read (T : Tx K mg CS CQ) (F : Fx K mg "does_read" y_does_read ["question", "signs"] f fd) : Cal P w K mg base 1 "does_read" (sp_does_read K CQ) [] := by
  refine F.cal sc_does_read (fun vs H Q E h => ?_) (fun cdv A outer s H vs Q E hr h => ?_)
  · obtain ⟨v, q, u, rfl, _⟩ := h
    rfl
  obtain ⟨v, q, u, rfl, hq, hu1000, k⟩ := h
  have hu := hu100 hr
  refine ⟨_, (pss_cons (pset 2 sc_does_read.nd (pe_lst (pa_cons pe_int pa_nil)))
    (pss_cons (ps_for PassesOwn.never rfl (pi_str (pv 1)) (pn 3 sc_does_read.nd) (pss_one (pset 2 sc_does_read.nd (pe_callB (k_sset (w := w) rfl rfl) (by rfl) T.sorted (by decide +kernel) (pa_cons (pe_callTy (k_setL (O := ⟨P, w, K⟩) rfl rfl) (by rfl) T.set (by decide +kernel) (pa_cons (pe_lc2 (own := [("near", 5), ("one", 6), ("goal", 7)]) (vs1 := [6, 7]) rfl sc_does_read.nd ((k_list (K := K) rfl (pv 2))) (blkOk_by (by kernel_rfl)) (by decide) (fun _ _ _ _ _ => (pn 5 sc_does_read.nd)) (fun _ _ _ _ _ => pts_nil) (fun _ _ _ _ _ => (k_list (K := K) rfl (pe_ix (k_ixl (K := K) rfl) (k_fld (K := K) rfl (pv 0)) (pv 5) (fun _ _ => rfl)))) (fun _ _ _ _ _ => (k_gtup (n := 2) (K := K) rfl rfl (pgs_cons (pn 6 sc_does_read.nd) (pgs_cons (pn 7 sc_does_read.nd) pgs_nil)))) (fun _ _ _ _ _ => (pts_one (pt_cmpR (k_eq (α := Sg) (O := ⟨P, w, K⟩) hu rfl) (pv 6) (pv 3) (by rfl)))) (fun _ _ _ _ _ => (pv 7))) pa_nil)) pa_nil)))))
    (pss_one (ps_ret (pe_callB (k_any (K := K) rfl rfl) (by rfl) T.any (by decide +kernel) (pa_cons (pe_lc (own := [("standing", 4)]) rfl sc_does_read.nd ((k_list (K := K) rfl (pv 2))) (blkOk_by (by kernel_rfl)) (fun _ _ _ _ _ => (pn 4 sc_does_read.nd)) (fun _ _ _ _ _ => pts_nil) (fun _ _ _ _ _ => (pe_cmpR (k_in (α := Nat) (O := ⟨P, w, K⟩) hu rfl) (pv 4) (k_fld (K := K) rfl (pv 0)) (by rfl)))) pa_nil)))))), ?_⟩
  obtain ⟨a, dx, st, en, fr, rfl, qf⟩ := hq
  obtain ⟨DF, vsF, rfl, hsF, rowF⟩ := qf.row
  have wf := qf.ok.wf
  refine ⟨by show 1 ≤ sizeLine; decide, fun p0 hp0 => ⟨_, rfl, _, rfl, ?_⟩⟩
  refine for_tw (tw_str (K := K) (w := u)) (fun i σ H' => ∃ p l y3, σ = [some (.ref a), some (.str (wdS u)), some (.ref p), y3, none, none, none, none] ∧ Ex H H' ∧ H' p = some (.lst (nats l)) ∧ l.Pairwise (· < ·) ∧ ∀ x, x ∈ l ↔ run q 0 (u.take i) x)
    ⟨p0, [0], _, rfl, Ex.new hp0, upd_same, List.pairwise_singleton _ _, fun x => by simp [run, eq_comm]⟩ (fun _ _ _ _ _ => trivial) ?_ ?_
  · rintro i c x σ H1 H2 hc ⟨p, l, y3, rfl, e1, hp, hl, hrun⟩ e12 hx
    have hx := dp_sg hx
    subst hx
    have e2 := e1.trans e12
    have hp2 := e12 _ _ hp
    have hb : ∀ x ∈ l, x < q.n := fun x hx => run_bound wf ((hrun x).mp hx)
    have hl3 : l.length ≤ 3 := Nat.le_trans (le_of_bound (lt_nodup hl) hb) qf.ok.n3
    have hsum : (l.map fun x => (fromR q.steps x).length).sum ≤ 21 := by
      have := fm_bound l (fromR q.steps) 7 fun a _ => Nat.le_trans (fromR_len _ _) qf.ok.s7
      omega
    refine ⟨_, rfl, p, rfl, ⟨_, SqL.of hp2⟩, fun D hD => ?_⟩
    refine lc2_dt (K := K) (tw_list (K := K) (R := Dt K) (l := l) (xs := nats l)) (R1 := Dt K) (fun x => fromR q.steps x) (fun _ pr => if pr.1 = c then some pr.2 else none) hD (fun H' e => ⟨SqL.of (e _ _ hp2), all_dat (nats_dp' l)⟩) (by rw [sizeLine_eq]; omega) ?_ ?_
    · intro x v Hc acc M M' hxl ec hacc hv hM hM'
      have hv := dp_nat hv
      subst hv
      obtain ⟨v, b, xs, h1, rfl, h3, h4⟩ := rowF x (hb x hxl)
      have ecc := e2.trans ec
      refine ⟨rfl, ?_⟩
      refine ⟨_, rfl, a, CQ, dx, _, _, rfl, ecc _ _ qf.h, T.cQ, T.q_from, rfl, _, rfl, DF, vsF, (x : Int), .ref b, rfl, rfl, ecc.ld.sqL hsF, atI_nat h1, b, rfl, ⟨xs, ecc.ld.sqL h3⟩, ?_⟩
      refine hM (Itl K b) _ Hc _ (.refl Hc) (tw_list (K := K) (R := Dt K) (l := fromR q.steps x) (xs := xs)) (fun H' e => ⟨(e2.trans e).ld.sqL h3, all_dat (h4.ex (e2.trans e))⟩) ?_
      intro pr v2 H5 acc5 N N' hpr e5 hacc5 hv2 hN hN'
      obtain ⟨T0, y1, y2, rfl, hT, d1, d2⟩ := dp_pair hv2
      refine ⟨_, _, rfl, hT, rfl, _, _, rfl, _, _, rfl, rfl, rfl, ?_⟩
      refine ⟨_, rfl, _, rfl, pr.1, c, d1, sg_dp c, _, rfl, ?_⟩
      by_cases ec : pr.1 = c
      · exact ifP ec ⟨_, rfl, hN _ _ H5 (by rw [if_pos ec]) (.refl H5) d2⟩
      · exact ifN ec (hN' (by rw [if_neg ec]) H5 (.refl H5))
    · intro H5 acc e5 hacc ha
      generalize hL : (l.flatMap fun x => (fromR q.steps x).filterMap fun pr => if pr.1 = c then some pr.2 else none) = L at ha
      have el := dp_nats ha
      have eN : (L.map fun n : Nat => (n : Int)).map V.int = nats L := by rw [List.map_map]; rfl
      have lenL : L.length ≤ 21 := by
        rw [← hL]
        exact Nat.le_trans (flat_len _ _ _) hsum
      refine ⟨D, L.map fun n : Nat => (n : Int), rfl, ?_, ?_, fun p2 c2 hc2 hp2' => ⟨p2, _, c2, rfl, upd_same, ?_, fun ns p3 hs hm hln hp3 => ?_⟩⟩
      · rw [eN]
        exact SqL.of (by rw [hacc, el])
      · rw [List.length_map]
        unfold scanBound
        omega
      · rw [List.length_map] at hc2
        omega
      · obtain ⟨l', w1, w2, w3⟩ := sset_back hs hm
        rw [w1]
        refine ⟨p3, l', _, rfl, (e2.trans e5).trans ((Ex.new hp2').put hp3), upd_same, w2, fun x => ?_⟩
        rw [w3, ← hL, take_snoc hc, run_snoc, List.mem_flatMap]
        constructor
        · rintro ⟨y, hy, hxy⟩
          obtain ⟨pr, hpr, e⟩ := List.mem_filterMap.mp hxy
          by_cases ec : pr.1 = c
          · rw [if_pos ec] at e
            have e := Option.some.inj e
            refine ⟨y, (hrun y).mp hy, ?_⟩
            rw [← e, ← ec]
            exact mem_fromR.mp hpr
          · rw [if_neg ec] at e
            cases e
        · rintro ⟨y, hy, hst⟩
          exact ⟨y, (hrun y).mpr hy, List.mem_filterMap.mpr ⟨(c, x), mem_fromR.mpr hst, by rw [if_pos rfl]⟩⟩
  · rintro σ H1 ⟨p, l, y3, rfl, e1, hp, hl, hrun⟩
    rw [List.take_length] at hrun
    have hb : ∀ x ∈ l, x < q.n := fun x hx => run_bound wf ((hrun x).mp hx)
    have hl3 : l.length ≤ 3 := Nat.le_trans (le_of_bound (lt_nodup hl) hb) qf.ok.n3
    refine ⟨_, rfl, p, rfl, ⟨_, SqL.of hp⟩, fun D hD => ?_⟩
    refine lc_bl (tw_list (K := K) (R := Dt K) (l := l) (xs := nats l)) (fun x => decide (x ∈ q.ends)) hD (fun H' e => ⟨SqL.of (e _ _ hp), all_dat (nats_dp' l)⟩) (by rw [sizeLine_eq]; omega) (fun x v Hc acc N M hxl ec hacc hv hN => ?_) fun H2 e2 hD2 => ?_
    · have q2 := qf.ex (e1.trans ec)
      exact ⟨rfl, _, rfl, _, rfl, a, CQ, dx, _, _, rfl, q2.h, T.cQ, T.q_ends, rfl, q.ends, x, hv, .inl q2.en, hN Hc (.refl Hc)⟩
    · refine ⟨D, _, rfl, SqL.of hD2, k _ H2 (e1.trans e2) ?_⟩
      rw [List.any_map, List.any_eq_true]
      constructor
      · rintro ⟨x, hx, hx2⟩
        exact ⟨x, of_decide_eq_true hx2, (hrun x).mp hx⟩
      · rintro ⟨x, hx, hx2⟩
        exact ⟨x, (hrun x).mpr hx2, decide_eq_true hx⟩
theorem sc_question_reads : FnScope ["self", "signs"] ["self", "signs"] (defScope y_question_reads) := ⟨rfl, rfl, rfl, by decide +kernel, rfl, by decide +kernel, by decide +kernel⟩
theorem c_Question_reads {qual : Str} (T : Tx K mg CS CQ) (F : Fm K CQ "reads" qual y_question_reads ["self", "signs"] f fd) (c_want_signs : Cal P w K mg base 2 "want_signs" sp_want_signs []) (c_does_read : Cal P w K mg base 1 "does_read" (sp_does_read K CQ) []) :
    Met P w K mg base 3 CQ "reads" (fun vs H Q _ => ∃ (v : V) (q : Qs) (u : List Sg), vs = [v, .str (wdS u)] ∧ QAt K CQ H v q ∧ u.length ≤ 60 ∧ ∀ b H', Ex H H' → (b = true ↔ reads q u) → Q (.bl b) H') [] := by
  refine F.met sc_question_reads (fun vs H Q E h => ?_) (fun cdv A outer s H vs Q E hr h => ?_)
  · obtain ⟨v, q, u, rfl, _⟩ := h
    rfl
  obtain ⟨v, q, u, rfl, hq, hu60, k⟩ := h
  refine ⟨_, (pss_cons (ps_expr (pe_c c_want_signs hr (by decide) (by rfl) (pa_cons (pv 1) pa_nil)))
    (pss_one (ps_ret (pe_c c_does_read hr (by decide) (by rfl) (pa_cons (pv 0) (pa_cons (pv 1) pa_nil)))))), ?_⟩
  exact ⟨_, rfl, ⟨u, rfl, hu60⟩, fun H1 e1 => ⟨_, rfl, _, rfl, v, q, u, rfl, hq.ex e1, by omega, fun b H' e hb => k b H' (e1.trans e) hb⟩⟩
theorem sc_useful : FnScope ["question", "ways", "found", "kept", "some", "one", "sign", "goal", "end"] ["question"] (defScope y_useful) := ⟨rfl, rfl, rfl, by decide +kernel, rfl, by decide +kernel, by decide +kernel⟩
/-- one step on -/
def StR (Q : Qs) (a b : Nat) : Prop := ∃ s, (⟨a, s, b⟩ : Stp) ∈ Q.steps
/-- a standing that a read string may pass -/
def Useful (Q : Qs) (x : Nat) : Prop := Rch (StR Q) 0 x ∧ ∃ e, e ∈ Q.ends ∧ Rch (StR Q) x e
def waysL (Q : Qs) : List (List Nat) := (fromL Q).map fun r => r.map (·.2)
theorem way_st {Q : Qs} (wf : Q.Wf) {a b : Nat} : WayR (waysL Q) a b ↔ StR Q a b := by
  unfold WayR StR waysL fromL
  rw [List.map_map]
  constructor
  · rintro ⟨r, h1, h2⟩
    rw [List.getElem?_map] at h1
    obtain ⟨i, hi, e⟩ := Option.map_eq_some_iff.mp h1
    have : i = a := by
      have hl : a < (List.range Q.n).length := (List.getElem?_eq_some_iff.mp hi).1
      rw [List.length_range] at hl
      rw [List.getElem?_range hl] at hi
      exact (Option.some.inj hi).symm
    subst this
    subst e
    obtain ⟨p, hp, rfl⟩ := List.mem_map.mp h2
    exact ⟨p.1, mem_fromR.mp hp⟩
  · rintro ⟨s, hs⟩
    have ha := (wf.st _ hs).1
    refine ⟨(fromR Q.steps a).map (·.2), ?_, List.mem_map.mpr ⟨(s, b), mem_fromR.mpr hs, rfl⟩⟩
    rw [List.getElem?_map, List.getElem?_range ha]
    rfl
def sp_useful (K : PySem.W.Frag) (CQ : Addr) : Sp := fun vs H Q _ => ∃ (v : V) (q : Qs), vs = [v] ∧ QAt K CQ H v q ∧ ∀ p l H', Ex H H' → H' p = some (.lst (nats l)) → l.Pairwise (· < ·) → (∀ x, x ∈ l ↔ x = 0 ∨ Useful q x) → Q (.ref p) H'
theorem c_useful (T : Tx K mg CS CQ) (F : Fx K mg "useful" y_useful ["question"] f fd) (c_spread : Cal P w K mg base 1 "spread" (sp_spread K) []) : Cal P w K mg base 2 "useful" (sp_useful K CQ) [] := by
  refine F.cal sc_useful (fun vs H Q E h => ?_) (fun cdv A outer s H vs Q E hr h => ?_)
  · obtain ⟨v, q, rfl, _⟩ := h
    rfl
  obtain ⟨v, q, rfl, hq, k⟩ := h
  have hu := hu100 hr
  refine ⟨_, (pss_cons (pset 1 sc_useful.nd (pe_lc (own := [("some", 4)]) rfl sc_useful.nd ((k_list (K := K) rfl (k_fld (K := K) rfl (pv 0)))) (blkOk_by (by kernel_rfl)) (fun _ _ _ _ _ => (pn 4 sc_useful.nd)) (fun _ _ _ _ _ => pts_nil) (fun _ _ _ _ _ => (pe_lc (own := [("sign", 6), ("goal", 7)]) rfl sc_useful.nd ((k_list (K := K) rfl (pv 4))) (blkOk_by (by kernel_rfl)) (fun _ _ _ _ _ => (k_gtup (n := 2) (K := K) rfl rfl (pgs_cons (pn 6 sc_useful.nd) (pgs_cons (pn 7 sc_useful.nd) pgs_nil)))) (fun _ _ _ _ _ => pts_nil) (fun _ _ _ _ _ => (pv 7))))))
    (pss_cons (pset 2 sc_useful.nd (pe_c c_spread hr (by decide) (by rfl) (pa_cons (pv 1) (pa_cons pe_int pa_nil))))
    (pss_cons (ps_setLc (i := 3) (own := [("one", 5)]) rfl sc_useful.nd rfl rfl (sw_true rfl rfl rfl (by decide +kernel)) ((pi_KF (pv 2))) (blkOk_by (by kernel_rfl)) (fun _ _ _ _ _ => (pn 5 sc_useful.nd)) (fun _ _ _ _ _ => (pts_one (pt_val (pe_callB (k_any (K := K) rfl rfl) (by rfl) T.any (by decide +kernel) (pa_cons (pe_lc (own := [("end", 8)]) rfl sc_useful.nd ((pi_KF (pe_c c_spread hr (by decide) (by rfl) (pa_cons (pv 1) (pa_cons (pv 5) pa_nil))))) (blkOk_by (by kernel_rfl)) (fun _ _ _ _ _ => (pn 8 sc_useful.nd)) (fun _ _ _ _ _ => pts_nil) (fun _ _ _ _ _ => (pe_cmpR (k_in (α := Nat) (O := ⟨P, w, K⟩) hu rfl) (pv 8) (k_fld (K := K) rfl (pv 0)) (by rfl)))) pa_nil))))) (fun _ _ _ _ _ => (pv 5)))
    (pss_one (ps_ret (pe_callB (k_sset (w := w) rfl rfl) (by rfl) T.sorted (by decide +kernel) (pa_cons (pe_callTy (k_setL (O := ⟨P, w, K⟩) rfl rfl) (by rfl) T.set (by decide +kernel) (pa_cons (pe_lst (pa_cons pe_int (StX.pa_star (pv 3) pa_nil))) pa_nil)) pa_nil))))))), ?_⟩
  obtain ⟨a, dx, st, en, fr, rfl, qf⟩ := hq
  obtain ⟨DF, vsF, rfl, hsF, rowF⟩ := qf.row
  obtain ⟨DF', vsF', eDF, hsF', hvF'⟩ := dp_lst qf.fr
  cases eDF
  have n3 := qf.ok.n3
  have hW : ∀ {a b : Nat}, WayR (waysL q) a b ↔ StR q a b := fun {a b} => way_st qf.ok.wf
  refine ⟨_, rfl, a, CQ, dx, _, _, rfl, qf.h, T.cQ, T.q_from, rfl, DF, rfl, ⟨vsF', hsF'⟩, fun D hD => ?_⟩
  refine lc_tw (tw_list (K := K) (R := Ls K) (l := fromL q) (xs := vsF')) (fun (r : List Nat) H y => ∃ p, y = .ref p ∧ p ≠ D ∧ H p = some (.lst (nats r))) (fun r => some (r.map (·.2))) hD (fun H' e => ⟨e.ld.sqL hsF', all_ls (hvF'.ex e)⟩)
    (fun r H y acc acc' hh ⟨p, hp1, hp2, hp3⟩ => ⟨p, hp1, hp2, (upd_ne hp2).trans hp3⟩) (fun r H H' y e ⟨p, hp1, hp2, hp3⟩ => ⟨p, hp1, hp2, e _ _ hp3⟩) (by rw [fromL, List.length_map, List.length_range, sizeLine_eq]; omega) ?_ ?_
  · intro r x H1 acc N M hr' e1 hacc hx hN hM
    have hx : Dp K H1 x (.list (r.map dat)) := hx
    obtain ⟨b, xs, rfl, hs, hv⟩ := dp_lst hx
    have hrl : r.length ≤ 7 := by
      rw [fromL, List.mem_map] at hr'
      obtain ⟨i, _, rfl⟩ := hr'
      exact Nat.le_trans (fromR_len _ _) qf.ok.s7
    refine ⟨rfl, _, rfl, b, rfl, ⟨xs, hs⟩, fun D' hD' => ?_⟩
    have DD' : D' ≠ D := fun z => by rw [z, hacc] at hD'; cases hD'
    refine lc_dt (K := K) (tw_list (K := K) (R := Dt K) (l := r) (xs := xs)) (fun p => some p.2) hD' (fun H' e => ⟨e.ld.sqL hs, all_dat (hv.ex e)⟩) (by rw [sizeLine_eq]; omega) ?_ ?_
    · intro p v H2 acc2 N2 M2 hp e2 hacc2 hv2 hN2 hM2
      obtain ⟨T0, y1, y2, rfl, hT, d1, d2⟩ := dp_pair hv2
      exact ⟨_, _, rfl, hT, rfl, _, _, rfl, _, _, rfl, rfl, rfl, _, rfl, hN2 p.2 y2 H2 rfl (.refl H2) d2⟩
    · intro H2 acc2 e2 hacc2 ha2
      refine hN (r.map (·.2)) _ H2 rfl e2 ⟨D', rfl, DD', ?_⟩
      have e3 : r.filterMap (fun p => some p.2) = r.map (·.2) := by
        show List.filterMap (some ∘ fun p : Sg × Nat => p.2) _ = _
        rw [List.filterMap_eq_map]
      rw [e3] at ha2
      rw [hacc2, dp_nats ha2]
  · intro H1 acc e1 hacc ha
    have e3 : (fromL q).filterMap (fun r => some (r.map (·.2))) = waysL q := by
      show List.filterMap (some ∘ fun r : List (Sg × Nat) => r.map (·.2)) _ = _
      rw [List.filterMap_eq_map]
      rfl
    rw [e3] at ha
    have dW : Dp K H1 (.ref D) (.list ((waysL q).map fun r => .list (r.map dat))) := .lst (SqL.of hacc) (ls_all (all_mono (fun r y hy => by
      obtain ⟨p, rfl, _, hp⟩ := hy
      exact .lst (SqL.of hp) (nats_dp' r)) ha))
    have lW : (waysL q).length = q.n := by simp [waysL, fromL]
    have bW : ∀ r ∈ waysL q, r.length ≤ 1000 ∧ ∀ b ∈ r, b < (waysL q).length := by
      intro r hr'
      rw [lW]
      unfold waysL fromL at hr'
      rw [List.map_map, List.mem_map] at hr'
      obtain ⟨i, _, rfl⟩ := hr'
      refine ⟨?_, fun b hb => ?_⟩
      · show ((fromR q.steps i).map (·.2)).length ≤ 1000
        rw [List.length_map]
        have := fromR_len q.steps i
        have := qf.ok.s7
        omega
      · obtain ⟨p, hp, rfl⟩ := List.mem_map.mp hb
        exact (qf.ok.wf.st _ (mem_fromR.mp hp)).2
    refine ⟨_, rfl, .ref D, waysL q, 0, rfl, dW, by rw [lW]; exact qf.ok.wf.pos, by rw [lW]; omega, bW, fun d kvs l H2 e2 hdn hdk hik nd hm => ?_⟩
    have hlb : ∀ x ∈ l, x < q.n := fun x hx => by
      have := (hm x).mp hx
      exact this.keeps (P := fun x => x < q.n) (fun a b _ hab => (qf.ok.wf.st _ (hW.mp hab).choose_spec).2) qf.ok.wf.pos
    have ll := le_of_bound nd hlb
    refine ⟨_, rfl, d, kvs, rfl, hdk, fun o D2 hD2 => ?_⟩
    have e12 : Ex H1 (upd H2 d (.frz o (.dK kvs))) := e2.mut hdn
    have fz : (upd H2 d (.frz o (.dK kvs))) d = some (.frz o (.dK kvs)) := upd_same
    generalize upd H2 d (.frz o (.dK kvs)) = H3 at hD2 e12 fz ⊢
    refine lc_dt (K := K) (tw_KF (K := K) hik) (fun x => if dec (∃ e, e ∈ q.ends ∧ Rch (StR q) x e) = true then some x else none) hD2 (fun H' e => e _ _ fz) (by rw [sizeLine_eq]; omega) ?_ ?_
    · intro x v H4 acc2 N M hx e4 hacc2 hv hN hM
      have hv := dp_nat hv
      subst hv
      have e14 := e12.trans e4
      refine ⟨rfl, _, rfl, _, rfl, .ref D, waysL q, x, rfl, dW.ex e14, by rw [lW]; exact hlb x hx, by rw [lW]; omega, bW, fun d2 kvs2 l2 H5 e5 hdn2 hdk2 hik2 nd2 hm2 => ⟨d2, kvs2, rfl, hdk2, fun o2 D3 hD3 => ?_⟩⟩
      have e45 : Ex H4 (upd H5 d2 (.frz o2 (.dK kvs2))) := e5.mut hdn2
      have fz2 : (upd H5 d2 (.frz o2 (.dK kvs2))) d2 = some (.frz o2 (.dK kvs2)) := upd_same
      generalize upd H5 d2 (.frz o2 (.dK kvs2)) = H6 at hD3 e45 fz2 ⊢
      have hlb2 : ∀ y ∈ l2, y < q.n := fun y hy => ((hm2 y).mp hy).keeps (P := fun x => x < q.n) (fun a b _ hab => (qf.ok.wf.st _ (hW.mp hab).choose_spec).2) (hlb x hx)
      have ll2 := le_of_bound nd2 hlb2
      refine lc_bl (tw_KF (K := K) hik2) (fun y => decide (y ∈ q.ends)) hD3 (fun H' e => e _ _ fz2) (by rw [sizeLine_eq]; omega) ?_ ?_
      · intro y v H7 acc3 N2 M2 hy e7 hacc3 hv2 hN2
        have q7 := qf.ex (e1.trans (e14.trans (e45.trans e7)))
        exact ⟨rfl, _, rfl, _, rfl, a, CQ, dx, _, _, rfl, q7.h, T.cQ, T.q_ends, rfl, q.ends, y, hv2, .inl q7.en, hN2 H7 (.refl H7)⟩
      · intro H7 e7 hD7
        refine ⟨D3, _, rfl, SqL.of hD7, _, rfl, ?_⟩
        have eb : (l2.map fun y => decide (y ∈ q.ends)).any id = dec (∃ e, e ∈ q.ends ∧ Rch (StR q) x e) := by
          rw [Bool.eq_iff_iff, dec_iff, List.any_map, List.any_eq_true]
          constructor
          · rintro ⟨y, hy, hy2⟩
            exact ⟨y, of_decide_eq_true hy2, ((hm2 y).mp hy).mono fun _ _ h => hW.mp h⟩
          · rintro ⟨y, hy, hy2⟩
            exact ⟨y, (hm2 y).mpr (hy2.mono fun _ _ h => hW.mpr h), decide_eq_true hy⟩
        rw [eb]
        cases hb : dec (∃ e, e ∈ q.ends ∧ Rch (StR q) x e) with
        | true => exact ⟨_, rfl, hN x _ H7 (by rw [hb]; rfl) (e45.trans e7) (nat_dp x)⟩
        | false => exact hM (by rw [hb]; rfl) H7 (e45.trans e7)
    · intro H4 acc2 e4 hacc2 ha2
      generalize hL : (l.filterMap fun x => if dec (∃ e, e ∈ q.ends ∧ Rch (StR q) x e) = true then some x else none) = L at ha2
      have el := dp_nats ha2
      have lenL : L.length ≤ 3 := by
        rw [← hL]
        have := List.length_filterMap_le (fun x => if dec (∃ e, e ∈ q.ends ∧ Rch (StR q) x e) = true then some x else none) l
        omega
      refine ⟨_, rfl, D2, acc2, rfl, .inr (SqL.of hacc2), ?_, fun p hp => ?_⟩
      · show (V.int 0 :: (acc2 ++ [])).length ≤ sizeLine
        rw [el, List.append_nil, List.length_cons, List.length_map, sizeLine_eq]
        omega
      have eN : ((0 :: L).map fun n : Nat => (n : Int)).map V.int = nats (0 :: L) := by rw [List.map_map]; rfl
      refine ⟨p, (0 :: L).map fun n : Nat => (n : Int), rfl, ?_, ?_, fun p2 c2 hc2 hp2' => ⟨p2, _, c2, rfl, upd_same, ?_, fun ns p3 hs hm hln hp3 => ?_⟩⟩
      · rw [eN]
        refine SqL.of ?_
        rw [upd_same, el, List.append_nil]
        rfl
      · rw [List.length_map, List.length_cons]
        unfold scanBound
        omega
      · rw [List.length_map, List.length_cons] at hc2
        omega
      · obtain ⟨l', w1, w2, w3⟩ := sset_back hs hm
        rw [w1]
        refine k p3 l' _ ((e1.trans (e12.trans e4)).trans (((Ex.new hp).put hp2').put hp3)) upd_same w2 fun x => ?_
        rw [w3, List.mem_cons, ← hL, List.mem_filterMap]
        constructor
        · rintro (h | ⟨y, hy, h⟩)
          · exact .inl h
          · cases hb : dec (∃ e, e ∈ q.ends ∧ Rch (StR q) y e) with
            | false => rw [hb] at h; cases h
            | true =>
              rw [hb] at h
              have h : y = x := Option.some.inj h
              subst h
              exact .inr ⟨((‹∀ x, x ∈ l ↔ Rch (WayR (waysL q)) 0 x› y).mp hy).mono fun _ _ h => hW.mp h, dec_iff.mp hb⟩
        · rintro (h | ⟨h1, h2⟩)
          · exact .inl h
          · exact .inr ⟨x, (‹∀ x, x ∈ l ↔ Rch (WayR (waysL q)) 0 x› x).mpr (h1.mono fun _ _ h => hW.mpr h), by rw [dec_iff.mpr h2]; rfl⟩
end
end K26

set_option Elab.async false
set_option linter.all false
set_option maxRecDepth 100000
set_option maxHeartbeats 4000000
/-! questions: trimmed. -/
namespace K26
open PySem PySem.Spec PyProof.Rows L2
open Ky C8
/-! ### int-keyed dicts from comprehensions -/
def kvsOf (ps : List (Nat × V)) : List (Key × V) := ps.foldl (fun acc p => putK acc (Sum.inl (p.1 : Int)) p.2) []
theorem kvsOf_snoc (ps : List (Nat × V)) (p : Nat × V) : kvsOf (ps ++ [p]) = putK (kvsOf ps) (Sum.inl (p.1 : Int)) p.2 := by
  unfold kvsOf
  rw [List.foldl_append]
  rfl
theorem ikeys_same {kvs : List (Key × V)} {l : List Nat} (h : ikeys kvs l) {n : Nat} (hn : n ∈ l) (v : V) : ikeys (putK kvs (Sum.inl (n : Int)) v) l := by
  have ha : (kvs.any fun kv => decide (kv.1 = (Sum.inl (n : Int) : Key))) = true := by
    have : (Sum.inl (n : Int) : Key) ∈ kvs.map (·.1) := by
      rw [h]
      exact List.mem_map.mpr ⟨n, hn, rfl⟩
    obtain ⟨kv, h1, h2⟩ := List.mem_map.mp this
    exact List.any_eq_true.mpr ⟨kv, h1, decide_eq_true h2⟩
  have e : putK kvs (Sum.inl (n : Int)) v = kvs.map fun kv => if kv.1 = Sum.inl (n : Int) then (kv.1, v) else kv := by
    unfold putK
    rw [ha]
    rfl
  unfold ikeys
  rw [e, List.map_map, ← h]
  refine List.map_congr_left fun kv _ => ?_
  simp only [Function.comp_apply]
  split <;> rfl
theorem kvsOf_keys (ps : List (Nat × V)) : ikeys (kvsOf ps) (keysOf (ps.map (·.1))) := by
  induction h : ps.length generalizing ps with
  | zero =>
    have e : ps = [] := List.eq_nil_of_length_eq_zero h
    subst e
    rfl
  | succ n ih =>
    have hne : ps ≠ [] := fun e => by subst e; simp at h
    obtain ⟨u, p, rfl⟩ : ∃ u p, ps = u ++ [p] := ⟨ps.dropLast, ps.getLast hne, (List.dropLast_concat_getLast hne).symm⟩
    have i := ih u (by simpa using h)
    rw [kvsOf_snoc, List.map_append, List.map_cons, List.map_nil, keysOf_snoc]
    unfold addK
    split
    · rename_i hm
      exact ikeys_same i hm _
    · rename_i hm
      exact ikeys_put i hm _
theorem kvsOf_val (ps : List (Nat × V)) (x : Nat) : valV (kvsOf ps) (Sum.inl (x : Int)) = (ps.reverse.find? fun p => decide (p.1 = x)).map (·.2) := by
  induction h : ps.length generalizing ps with
  | zero =>
    have e : ps = [] := List.eq_nil_of_length_eq_zero h
    subst e
    rfl
  | succ n ih =>
    have hne : ps ≠ [] := fun e => by subst e; simp at h
    obtain ⟨u, p, rfl⟩ : ∃ u p, ps = u ++ [p] := ⟨ps.dropLast, ps.getLast hne, (List.dropLast_concat_getLast hne).symm⟩
    rw [kvsOf_snoc, valV_put, ih u (by simpa using h), List.reverse_append, List.reverse_singleton, List.singleton_append, List.find?_cons]
    by_cases e : p.1 = x
    · subst e
      simp
    · have : ¬ (Sum.inl (x : Int) : Key) = Sum.inl (p.1 : Int) := fun z => e (by
        have := Sum.inl.inj z
        omega)
      rw [if_neg this, decide_eq_false e]
theorem kvsOf_len (ps : List (Nat × V)) : (kvsOf ps).length ≤ ps.length := by
  rw [ikeys_len (kvsOf_keys ps)]
  have := keysOf_len (ps.map (·.1))
  rwa [List.length_map] at this
section
variable {α : Type} {J : It} {R : Rl α} {l : List α} {G : Hp → Prop}
theorem dcK_tw {P : Program} {wd : World} {K : PySem.W.Frag} (w : TW J R l G) (f : α → Option (Nat × V)) {g : TG} {tt : TT} {tk tv : TE} {vs : List Nat} {σ : L2.St} {H1 : Hp} {D : Addr} {Qd : Hp → Prop} (hD : H1 D = none) (hG : ∀ H, Ex H1 H → G H) (hlen : l.length ≤ 1000)
    (hs : ∀ a x H kvs (N : V → V → Hp → Prop) (M : Hp → Prop), a ∈ l → Ex H1 H → H D = some (.dK kvs) → R a H x → (∀ k v H4, f a = some (k, v) → Ex H H4 → N (.int (k : Int)) v H4) → (f a = none → ∀ H3, Ex H H3 → M H3) →
      g x (wipe σ vs) H fun σ2 H2 => wipe σ2 vs = wipe σ vs ∧ tt σ2 H2 fun b H3 => if b = true then tk σ2 H3 fun y H4 => tv σ2 H4 fun z H5 => N y z H5 else M H3)
    (hd : ∀ H, Ex H1 H → H D = some (.dK (kvsOf (l.filterMap f))) → Qd H) :
    ∃ W : Nat → Nat → Hp → Prop, (∃ m, W 0 m (upd H1 D ((kdK P wd K).o0 D))) ∧ ∀ i m H, W i m H →
      (J.stop i H ∧ Qd H) ∨ (J.go i H ∧ ∃ Nx : Hp → Prop, (∀ H', Nx H' → ∃ m', m' < m ∧ W (i + 1) m' H') ∧ ∀ x H', J.yld i H x H' → g x (wipe σ vs) H' fun σ2 H2 => wipe σ2 vs = wipe σ vs ∧ tt σ2 H2 fun b H3 =>
        if b = true then tk σ2 H3 fun y H4 => tv σ2 H4 fun z H5 => (kdK P wd K).st D y z H5 Nx else Nx H3) := by
  refine ⟨fun i m H => m = l.length - i ∧ i ≤ l.length ∧ Ex H1 H ∧ H D = some (.dK (kvsOf ((l.take i).filterMap f))), ⟨l.length, rfl, Nat.zero_le _, Ex.new hD, upd_same⟩, ?_⟩
  rintro i m H ⟨rfl, hi, ex, hk⟩
  have q := hG H ex
  rcases Nat.lt_or_ge i l.length with hlt | hge
  · refine .inr ⟨w.goes i H hlt q, fun H' => i + 1 ≤ l.length ∧ Ex H1 H' ∧ H' D = some (.dK (kvsOf ((l.take (i + 1)).filterMap f))), fun σ' p' => ⟨l.length - (i + 1), by omega, rfl, p'⟩, fun x H' y => ?_⟩
    obtain ⟨e, a, h1, h2⟩ := w.yields i H x H' hlt q y
    refine hs a x H' _ (fun y z H5 => (kdK P wd K).st D y z H5 _) _ (List.mem_of_getElem? h1) (ex.trans e) (e _ _ hk) h2 (fun k v H4 hc e4 => ?_) fun hn H3 e3 => ?_
    · have h4 := e4 _ _ (e _ _ hk)
      have l1 := kvsOf_len ((l.take i).filterMap f)
      have l2 := fm_len (l := l) f i
      refine ⟨_, Sum.inl (k : Int), rfl, h4, by rw [sizeLine_eq]; omega, hlt, ((ex.trans e).trans e4).mut hD, ?_⟩
      rw [upd_same, fm_snoc f h1, hc, kvsOf_snoc]
    · refine ⟨hlt, (ex.trans e).trans e3, ?_⟩
      rw [fm_snoc f h1, hn, List.append_nil]
      exact e3 _ _ (e _ _ hk)
  · have e : i = l.length := by omega
    subst e
    rw [List.take_length] at hk
    exact .inl ⟨w.stops H q, hd H ex hk⟩
end
/-! ### the renamed question reads the same -/
def pos (l : List Nat) (x : Nat) : Nat := l.idxOf x
theorem pos_lt {l : List Nat} {x : Nat} (h : x ∈ l) : pos l x < l.length := List.idxOf_lt_length_of_mem h
theorem pos_at {l : List Nat} {x : Nat} (h : x ∈ l) : l[pos l x]? = some x := by
  rw [List.getElem?_eq_getElem (pos_lt h)]
  exact congrArg some (List.getElem_idxOf (pos_lt h))
theorem pos_inj {l : List Nat} {x y : Nat} (hx : x ∈ l) (hy : y ∈ l) (e : pos l x = pos l y) : x = y := by
  have h1 := pos_at hx
  rw [e, pos_at hy] at h1
  exact (Option.some.inj h1).symm
theorem pos_zero {l : List Nat} (h : l.Pairwise (· < ·)) (h0 : 0 ∈ l) : pos l 0 = 0 := by
  cases l with
  | nil => cases h0
  | cons a r =>
    have : a = 0 := by
      rcases List.mem_cons.mp h0 with e | e
      · exact e.symm
      · have := (List.pairwise_cons.mp h).1 0 e
        omega
    subst this
    exact List.idxOf_cons_self
section
variable {Q Q' : Qs} {l : List Nat} (hl : l.Pairwise (· < ·)) (hm : ∀ x, x ∈ l ↔ x = 0 ∨ Useful Q x) (hs : ∀ t, t ∈ Q'.steps ↔ ∃ u ∈ Q.steps, u.x ∈ l ∧ u.z ∈ l ∧ t = ⟨pos l u.x, u.y, pos l u.z⟩) (he : ∀ e, e ∈ Q'.ends ↔ ∃ u ∈ Q.ends, u ∈ l ∧ e = pos l u)
include hs in
theorem trim_back : ∀ (w : List Sg) (p q' : Nat), p ∈ l → run Q' (pos l p) w q' → ∃ q, q ∈ l ∧ q' = pos l q ∧ run Q p w q
  | [], p, q', hp, h => ⟨p, hp, h.symm, rfl⟩
  | s :: w, p, q', hp, ⟨r, h1, h2⟩ => by
    obtain ⟨u, hu, k1, k2, e⟩ := (hs _).mp h1
    injection e with e1 e2 e3
    have := pos_inj hp k1 e1
    subst this e2 e3
    obtain ⟨q, a, b, c⟩ := trim_back w u.z q' k2 h2
    exact ⟨q, a, b, u.z, hu, c⟩
theorem run_st {Q : Qs} : ∀ (w : List Sg) (p q : Nat), run Q p w q → Rch (StR Q) p q
  | [], p, q, h => by
    have h : p = q := h
    subst h
    exact .refl
  | s :: w, p, q, ⟨r, h1, h2⟩ => .head ⟨s, h1⟩ (run_st w r q h2)
include hm hs in
theorem trim_on : ∀ (w : List Sg) (p e : Nat), Rch (StR Q) 0 p → e ∈ Q.ends → run Q p w e → p ∈ l ∧ e ∈ l ∧ run Q' (pos l p) w (pos l e)
  | [], p, e, hp, hee, h => by
    have h : p = e := h
    subst h
    have : p ∈ l := (hm p).mpr (.inr ⟨hp, p, hee, .refl⟩)
    exact ⟨this, this, rfl⟩
  | s :: w, p, e, hp, hee, ⟨r, h1, h2⟩ => by
    obtain ⟨a, b, c⟩ := trim_on w r e (hp.trans (.one ⟨s, h1⟩)) hee h2
    have hpl : p ∈ l := (hm p).mpr (.inr ⟨hp, e, hee, .head ⟨s, h1⟩ (run_st w r e h2)⟩)
    exact ⟨hpl, b, pos l r, (hs _).mpr ⟨_, h1, hpl, a, rfl⟩, c⟩
include hl hm hs he in
theorem trim_reads (w : List Sg) : reads Q' w ↔ reads Q w := by
  have h0 : 0 ∈ l := (hm 0).mpr (.inl rfl)
  constructor
  · rintro ⟨e, h1, h2⟩
    obtain ⟨u, hu, hul, rfl⟩ := (he _).mp h1
    rw [← pos_zero hl h0] at h2
    obtain ⟨q, a, b, c⟩ := trim_back hs w 0 _ h0 h2
    have := pos_inj hul a b
    subst this
    exact ⟨u, hu, c⟩
  · rintro ⟨e, h1, h2⟩
    obtain ⟨_, b, c⟩ := trim_on hm hs w 0 e .refl h1 h2
    rw [pos_zero hl h0] at c
    exact ⟨pos l e, (he _).mpr ⟨e, h1, b, rfl⟩, c⟩
end
section
variable {P : Program} {w : World} {K : PySem.W.Frag} {mg : Str → Option Value} {base : Heap} {CS CQ f : Addr} {fd : FuncData}
theorem fm_nodup2 {α β : Type} {f : α → Option β} (h : ∀ x y z, f x = some z → f y = some z → x = y) : ∀ {l : List α}, l.Nodup → (l.filterMap f).Nodup
  | [], _ => List.nodup_nil
  | a :: l, nd => by
    rw [List.nodup_cons] at nd
    rw [List.filterMap_cons]
    cases e : f a with
    | none => exact fm_nodup2 h nd.2
    | some b =>
      refine List.nodup_cons.mpr ⟨fun hb => ?_, fm_nodup2 h nd.2⟩
      obtain ⟨c, hc, hc2⟩ := List.mem_filterMap.mp hb
      have := h a c b e hc2
      subst this
      exact nd.1 hc
theorem fm_nodup {α : Type} {f : α → Option α} (h : ∀ x y, f x = some y → x = y) {l : List α} (nd : l.Nodup) : (l.filterMap f).Nodup := fm_nodup2 (fun x y z hx hy => (h x z hx).trans (h y z hy).symm) nd
theorem names_val {l : List Nat} (nd : l.Nodup) (x : Nat) : valV (kvsOf ((num l).filterMap fun pr => some (pr.2, V.int (pr.1 : Int)))) (Sum.inl (x : Int)) = if x ∈ l then some (.int (pos l x : Int)) else none := by
  rw [kvsOf_val]
  have e1 : (num l).filterMap (fun pr => some (pr.2, V.int (pr.1 : Int))) = (num l).map fun pr => (pr.2, V.int (pr.1 : Int)) := by
    show List.filterMap (some ∘ fun pr : Nat × Nat => (pr.2, V.int (pr.1 : Int))) _ = _
    rw [List.filterMap_eq_map]
  rw [e1]
  by_cases hx : x ∈ l
  · rw [if_pos hx]
    cases e : (((num l).map fun pr => (pr.2, V.int (pr.1 : Int))).reverse.find? fun p => decide (p.1 = x)) with
    | none =>
      rw [List.find?_eq_none] at e
      have hm : (pos l x, x) ∈ num l := List.mem_of_getElem? (num_at (pos_at hx))
      have := e (x, V.int (pos l x : Int)) (List.mem_reverse.mpr (List.mem_map.mpr ⟨_, hm, rfl⟩))
      simp at this
    | some p =>
      have h1 := List.find?_some e
      have h2 := List.mem_reverse.mp (List.mem_of_find?_eq_some e)
      obtain ⟨pr, hpr, rfl⟩ := List.mem_map.mp h2
      have h1 : pr.2 = x := of_decide_eq_true h1
      obtain ⟨i, hi⟩ := List.mem_iff_getElem?.mp hpr
      obtain ⟨j1, j2⟩ := num_get hi
      rw [h1] at j2
      have : pr.1 = pos l x := by
        rw [j1]
        exact nodup_at nd j2 (pos_at hx)
      show some (V.int (pr.1 : Int)) = _
      rw [this]
  · rw [if_neg hx]
    have : (((num l).map fun pr => (pr.2, V.int (pr.1 : Int))).reverse.find? fun p => decide (p.1 = x)) = none := by
      rw [List.find?_eq_none]
      intro p hp
      obtain ⟨pr, hpr, rfl⟩ := List.mem_map.mp (List.mem_reverse.mp hp)
      obtain ⟨i, hi⟩ := List.mem_iff_getElem?.mp hpr
      have := (num_get hi).2
      have hm := List.mem_of_getElem? this
      simp only [decide_eq_true_eq]
      exact fun e => hx (e ▸ hm)
    rw [this]
    rfl
/-- a question is made -/
theorem make_question {n : Nat} {v v2 : V} {S : List Stp} {E : List Nat} {H : Hp} {Q : VK} (ds : Dp K H v (.list (S.map dat))) (de : Dp K H v2 (.list (E.map dat))) (qin : QIn n S E) (q : ∀ v' H', Ex H H' → QAt K CQ H' v' ⟨n, srt S, srt E⟩ → Q v' H') :
    ∀ x dx, H x = none → H dx = none → dx ≠ x → sp_question_init K CQ [.ref x, .int (n : Int), v, v2] (upd (upd H dx (.own x)) x (.ins CQ dx [])) (fun u H2 => u = .non ∧ Q (.ref x) H2) C8.E0 := fun x dx hx hdx hne =>
  ⟨x, dx, n, v, v2, S, E, rfl, upd_same, ds.ex (mk_ex0 hx hdx), de.ex (mk_ex0 hx hdx), qin, fun H' e hs => ⟨rfl, q _ H' (mk_ex hx hdx e) hs⟩⟩
theorem sc_question_trimmed : FnScope ["self", "kept", "names", "some", "steps", "step", "number", "standing", "near", "sign", "far"] ["self"] (defScope y_question_trimmed) := ⟨rfl, rfl, rfl, by decide +kernel, rfl, by decide +kernel, by decide +kernel⟩
def sp_trimmed (K : PySem.W.Frag) (CQ : Addr) : Sp := fun vs H Q _ => ∃ (v : V) (q : Qs), vs = [v] ∧ QAt K CQ H v q ∧ ∀ v' q' H', Ex H H' → QAt K CQ H' v' q' → (∀ w, reads q' w ↔ reads q w) → Q v' H'
theorem c_Question_trimmed {qual : Str} (T : Tx K mg CS CQ) (F : Fm K CQ "trimmed" qual y_question_trimmed ["self"] f fd) (c_useful : Cal P w K mg base 2 "useful" (sp_useful K CQ) []) (c_Question : Mak P w K mg base 5 "Question" CQ (sp_question_init K CQ) []) : Met P w K mg base 7 CQ "trimmed" (sp_trimmed K CQ) [] := by
  refine F.met sc_question_trimmed (fun vs H Q E h => ?_) (fun cdv A outer s H vs Q E hr h => ?_)
  · obtain ⟨v, q, rfl, _⟩ := h
    rfl
  obtain ⟨v, q, rfl, hq, k⟩ := h
  have hu := hu100 hr
  have hu1 := hu_of hr
  refine ⟨_, (pss_cons (pset 1 sc_question_trimmed.nd (pe_c c_useful hr (by decide) (by rfl) (pa_cons (pv 0) pa_nil)))
    (pss_cons (pset 2 sc_question_trimmed.nd (k_dc (own := [("number", 6), ("standing", 7)]) (kd := kdK P w K) rfl hu rfl sc_question_trimmed.nd ((k_enum (K := K) rfl (by rfl) T.enumerate (pa_cons (pv 1) pa_nil))) (blkOk_by (by kernel_rfl)) (fun _ _ _ _ _ => (k_gtup (n := 2) (K := K) rfl rfl (pgs_cons (pn 6 sc_question_trimmed.nd) (pgs_cons (pn 7 sc_question_trimmed.nd) pgs_nil)))) (fun _ _ _ _ _ => pts_nil) (fun _ _ _ _ _ => (pv 7)) (fun _ _ _ _ _ => (pv 6))))
    (pss_cons (ps_setLc (i := 3) (own := [("step", 5)]) rfl sc_question_trimmed.nd rfl rfl (sw_true rfl rfl rfl (by decide +kernel)) ((k_tup (K := K) rfl (k_fld (K := K) rfl (pv 0)))) (blkOk_by (by kernel_rfl)) (fun _ _ _ _ _ => (pn 5 sc_question_trimmed.nd)) (fun _ _ _ _ _ => (pts_one (PW.pt (pw_and (pt_cmp (pc_din hu1 (pe_ix (k_ixt (K := K) rfl) (pv 5) pe_int (fun _ _ => rfl)) (pv 2))) (pw_and1 (pt_cmp (pc_din hu1 (pe_ix (k_ixt (K := K) rfl) (pv 5) pe_int (fun _ _ => rfl)) (pv 2)))))))) (fun _ _ _ _ _ => (pv 5)))
    (pss_cons (ps_setLc (i := 4) (own := [("near", 8), ("sign", 9), ("far", 10)]) rfl sc_question_trimmed.nd rfl rfl (sw_true rfl rfl rfl (by decide +kernel)) ((k_list (K := K) rfl (pv 3))) (blkOk_by (by kernel_rfl)) (fun _ _ _ _ _ => (k_gtup (n := 3) (K := K) rfl rfl (pgs_cons (pn 8 sc_question_trimmed.nd) (pgs_cons (pn 9 sc_question_trimmed.nd) (pgs_cons (pn 10 sc_question_trimmed.nd) pgs_nil))))) (fun _ _ _ _ _ => pts_nil) (fun _ _ _ _ _ => (pe_tup (pa_cons (pe_dget hu1 (pv 2) (pv 8) (fun _ _ => rfl)) (pa_cons (pv 9) (pa_cons (pe_dget hu1 (pv 2) (pv 10) (fun _ _ => rfl)) pa_nil))))))
    (pss_one (ps_ret (pe_mk c_Question hr (by decide) (by rfl) (pa_cons (pe_callB (k_len (K := K) rfl) (by rfl) T.len (by decide +kernel) (pa_cons (pv 1) pa_nil)) (pa_cons (pv 4) (pa_cons (pe_lc (own := [("standing", 7)]) rfl sc_question_trimmed.nd ((k_tup (K := K) rfl (k_fld (K := K) rfl (pv 0)))) (blkOk_by (by kernel_rfl)) (fun _ _ _ _ _ => (pn 7 sc_question_trimmed.nd)) (fun _ _ _ _ _ => (pts_one (pt_cmp (pc_din hu1 (pv 7) (pv 2))))) (fun _ _ _ _ _ => (pe_dget hu1 (pv 2) (pv 7) (fun _ _ => rfl)))) pa_nil)))))))))), ?_⟩
  obtain ⟨a, dx, st, en, fr, rfl, qf⟩ := hq
  have n3 := qf.ok.n3
  refine ⟨_, rfl, .ref a, q, rfl, ⟨a, dx, st, en, fr, rfl, qf⟩, fun p l H1 e1 hp hl hm => ?_⟩
  have nd := lt_nodup hl
  have h0 : 0 ∈ l := (hm 0).mpr (.inl rfl)
  have hlb : ∀ x ∈ l, x < q.n := fun x hx => by
    rcases (hm x).mp hx with e | e
    · rw [e]
      exact qf.ok.wf.pos
    · exact e.1.keeps (P := fun x => x < q.n) (fun a b _ ⟨s, hs⟩ => (qf.ok.wf.st _ hs).2) qf.ok.wf.pos
  have ll := le_of_bound nd hlb
  refine ⟨_, rfl, p, nats l, rfl, SqL.of hp, fun D hD => ?_⟩
  refine dcK_tw (tw_enum (K := K) (R := Dt K) (l := l) (xs := nats l) dt_ex) (fun pr => some (pr.2, V.int (pr.1 : Int))) hD (fun H' e => ⟨SqL.of (e _ _ hp), all_dat (nats_dp' l)⟩) (by rw [num_len]; omega) ?_ ?_
  · intro pr x H2 kvs N M hpr e2 hkv hx hN hM
    obtain ⟨T0, y, rfl, hT, dy⟩ := nu_dt hx
    have dy := dp_nat dy
    subst dy
    exact ⟨_, _, rfl, hT, rfl, _, _, rfl, _, _, rfl, rfl, rfl, _, rfl, _, rfl, hN _ _ H2 rfl (.refl H2)⟩
  · intro H2 e2 hk2
    have hval := names_val nd
    generalize kvsOf ((num l).filterMap fun pr => some (pr.2, V.int (pr.1 : Int))) = kvs at hk2 hval
    have q2 := qf.ex (e1.trans e2)
    obtain ⟨as, xs, est, hsx, hvx⟩ := dp_tuple q2.st
    subst est
    refine ⟨_, rfl, a, CQ, dx, _, _, rfl, q2.h, T.cQ, T.q_steps, rfl, as, rfl, ⟨xs, hsx⟩, fun D3 hD3 => ?_⟩
    refine lc_dt (K := K) (tw_tup (K := K) (R := Dt K) (l := q.steps) (xs := xs)) (fun t => if t.x ∈ l ∧ t.z ∈ l then some t else none) hD3 (fun H' e => ⟨e.ld.sqT hsx, all_dat (hvx.ex e)⟩) (by have := qf.ok.s7; rw [sizeLine_eq]; omega) ?_ ?_
    · intro t x H3 acc N M ht e3 hacc hx hN hM
      obtain ⟨T0, y1, y2, y3, rfl, hT, d1, d2, d3⟩ := dp_t3 hx
      have d1 := dp_nat d1
      have d3 := dp_nat d3
      subst d1 d3
      have hk3 := e3 _ _ hk2
      refine ⟨rfl, _, rfl, T0, _, 0, .int (t.x : Int), rfl, rfl, hT, rfl, _, rfl, D, _, rfl, DGet.k (k := Sum.inl (t.x : Int)) hk3, _, rfl, ?_⟩
      rw [hval t.x]
      by_cases c1 : t.x ∈ l
      · rw [if_pos c1]
        refine ⟨_, rfl, T0, _, 2, .int (t.z : Int), rfl, rfl, hT, rfl, _, rfl, D, _, rfl, DGet.k (k := Sum.inl (t.z : Int)) hk3, _, rfl, ?_⟩
        rw [hval t.z]
        by_cases c2 : t.z ∈ l
        · rw [if_pos c2]
          exact ⟨_, rfl, hN t _ H3 (by rw [if_pos ⟨c1, c2⟩]) (.refl H3) hx⟩
        · rw [if_neg c2]
          exact hM (by rw [if_neg fun z => c2 z.2]) H3 (.refl H3)
      · rw [if_neg c1]
        exact hM (by rw [if_neg fun z => c1 z.1]) H3 (.refl H3)
    · intro H3 acc e3 hacc ha
      generalize hS : (q.steps.filterMap fun t => if t.x ∈ l ∧ t.z ∈ l then some t else none) = S at ha
      have hk3 := e3 _ _ hk2
      have memS : ∀ t, t ∈ S ↔ t ∈ q.steps ∧ t.x ∈ l ∧ t.z ∈ l := by
        intro t
        rw [← hS, List.mem_filterMap]
        constructor
        · rintro ⟨u, hu', e⟩
          split at e
          · rename_i hc
            cases e
            exact ⟨hu', hc⟩
          · cases e
        · rintro ⟨h1, h2⟩
          exact ⟨t, h1, by rw [if_pos h2]⟩
      have lenS : S.length ≤ 7 := by
        rw [← hS]
        exact Nat.le_trans (List.length_filterMap_le _ _) qf.ok.s7
      have ndS : S.Nodup := by
        rw [← hS]
        exact fm_nodup (fun t u h => by
          split at h
          · cases h; rfl
          · cases h) qf.ok.wf.nds
      have dg : ∀ (H' : Hp) (x : Nat), H' D = some (.dK kvs) → x ∈ l → DGet H' D (.int (x : Int)) (some (.int (pos l x : Int))) := fun H' x hd hx => by
        have := DGet.k (k := Sum.inl (x : Int)) hd
        rw [hval x, if_pos hx] at this
        exact this
      refine ⟨_, rfl, D3, rfl, ⟨acc, SqL.of hacc⟩, fun D4 hD4 => ?_⟩
      refine lc_dt (K := K) (tw_list (K := K) (R := Dt K) (l := S) (xs := acc)) (fun t => some (⟨pos l t.x, t.y, pos l t.z⟩ : Stp)) hD4 (fun H' e => ⟨SqL.of (e _ _ hacc), all_dat (ha.ex e)⟩) (by rw [sizeLine_eq]; omega) ?_ ?_
      · intro t x H4 acc4 N M ht e4 hacc4 hx hN hM
        obtain ⟨T0, y1, y2, y3, rfl, hT, d1, d2, d3⟩ := dp_t3 hx
        have d1 := dp_nat d1
        have d3 := dp_nat d3
        subst d1 d3
        obtain ⟨_, c1, c2⟩ := (memS t).mp ht
        have hk4 := e4 _ _ hk3
        refine ⟨_, _, rfl, hT, rfl, _, _, rfl, _, _, rfl, _, _, rfl, rfl, rfl, ?_⟩
        refine ⟨_, rfl, _, rfl, D, _, rfl, dg H4 t.x hk4 c1, _, rfl, _, rfl, _, rfl, D, _, rfl, dg H4 t.z hk4 c2, by show 3 ≤ sizeLine; decide, fun T1 hT1 => hN _ _ _ rfl (Ex.new hT1) ?_⟩
        exact t3_dp sqt_new (nat_dp _) (d2.ex (Ex.new hT1)) (nat_dp _)
      · intro H4 acc4 e4 hacc4 ha4
        have e5 : S.filterMap (fun t => some (⟨pos l t.x, t.y, pos l t.z⟩ : Stp)) = S.map fun t => (⟨pos l t.x, t.y, pos l t.z⟩ : Stp) := by
          show List.filterMap (some ∘ fun t : Stp => (⟨pos l t.x, t.y, pos l t.z⟩ : Stp)) _ = _
          rw [List.filterMap_eq_map]
        rw [e5] at ha4
        have q4 := q2.ex (e3.trans e4)
        have hk4 := e4 _ _ hk3
        obtain ⟨ae, xe, een, hse, hve⟩ := dp_tuple q4.en
        subst een
        refine ⟨_, rfl, _, (l.length : Nat), rfl, .inl ⟨_, SqL.of ((e2.trans (e3.trans e4)) _ _ hp), by simp [nats]⟩, _, rfl, ?_⟩
        refine ⟨_, rfl, a, CQ, dx, _, _, rfl, q4.h, T.cQ, T.q_ends, rfl, ae, rfl, ⟨xe, hse⟩, fun D5 hD5 => ?_⟩
        have lenE : q.ends.length ≤ 3 := Nat.le_trans (le_of_bound qf.ok.wf.nde qf.ok.wf.en) n3
        refine lc_dt (K := K) (tw_tup (K := K) (R := Dt K) (l := q.ends) (xs := xe)) (fun x => if x ∈ l then some (pos l x) else none) hD5 (fun H' e => ⟨e.ld.sqT hse, all_dat (hve.ex e)⟩) (by rw [sizeLine_eq]; omega) ?_ ?_
        · intro x v H5 acc5 N M hx e5' hacc5 hv hN hM
          have hv := dp_nat hv
          subst hv
          have hk5 := e5' _ _ hk4
          refine ⟨rfl, _, rfl, _, rfl, D, _, rfl, DGet.k (k := Sum.inl (x : Int)) hk5, _, rfl, ?_⟩
          rw [hval x]
          by_cases c1 : x ∈ l
          · rw [if_pos c1]
            exact ⟨_, rfl, _, rfl, D, _, rfl, dg H5 x hk5 c1, hN _ _ H5 (by rw [if_pos c1]) (.refl H5) (nat_dp _)⟩
          · rw [if_neg c1]
            exact hM (by rw [if_neg c1]) H5 (.refl H5)
        · intro H5 acc5 e5' hacc5 ha5
          generalize hE : (q.ends.filterMap fun x => if x ∈ l then some (pos l x) else none) = E2 at ha5
          have memE : ∀ e, e ∈ E2 ↔ ∃ u ∈ q.ends, u ∈ l ∧ e = pos l u := by
            intro e
            rw [← hE, List.mem_filterMap]
            constructor
            · rintro ⟨u, hu', h⟩
              split at h
              · rename_i hc
                exact ⟨u, hu', hc, (Option.some.inj h).symm⟩
              · cases h
            · rintro ⟨u, h1, h2, rfl⟩
              exact ⟨u, h1, by rw [if_pos h2]⟩
          have ndE : E2.Nodup := by
            rw [← hE]
            refine fm_nodup2 (fun x y z hx hy => ?_) qf.ok.wf.nde
            split at hx
            · rename_i cx
              split at hy
              · rename_i cy
                exact pos_inj cx cy ((Option.some.inj hx).trans (Option.some.inj hy).symm)
              · cases hy
            · cases hx
          refine make_question (.lst (SqL.of (e5' _ _ hacc4)) (ha4.ex e5')) (.lst (SqL.of hacc5) ha5) ⟨List.length_pos_of_mem h0, by omega, by rw [List.length_map]; exact lenS, ?_, fun t ht => ?_, ndE, fun e he => ?_⟩ fun v' H' e hv => ?_
          · rw [List.Nodup, List.pairwise_map]
            refine List.Pairwise.imp_of_mem (fun {x y} hx hy hne e => hne ?_) ndS
            obtain ⟨_, x1, x2⟩ := (memS x).mp hx
            obtain ⟨_, y1, y2⟩ := (memS y).mp hy
            injection e with e1 e2 e3
            cases x
            cases y
            simp only at e1 e2 e3 x1 x2 y1 y2
            rw [pos_inj x1 y1 e1, e2, pos_inj x2 y2 e3]
          · obtain ⟨u, hu', rfl⟩ := List.mem_map.mp ht
            obtain ⟨_, x1, x2⟩ := (memS u).mp hu'
            exact ⟨pos_lt x1, pos_lt x2⟩
          · obtain ⟨u, _, hul, rfl⟩ := (memE e).mp he
            exact pos_lt hul
          · refine k v' _ H' (((((e1.trans e2).trans e3).trans e4).trans e5').trans e) hv fun u => trim_reads (Q := q) hl hm (fun t => ?_) (fun x => ?_) u
            · show t ∈ srt _ ↔ _
              rw [mem_srt, List.mem_map]
              constructor
              · rintro ⟨y, hy, rfl⟩
                obtain ⟨y0, y1, y2⟩ := (memS y).mp hy
                exact ⟨y, y0, y1, y2, rfl⟩
              · rintro ⟨y, y0, y1, y2, rfl⟩
                exact ⟨y, (memS y).mpr ⟨y0, y1, y2⟩, rfl⟩
            · show x ∈ srt _ ↔ _
              rw [mem_srt]
              exact memE x
end
end K26

set_option Elab.async false
set_option linter.all false
set_option maxRecDepth 100000
set_option maxHeartbeats 4000000
/-! answers: moves_from. -/
namespace K26
open PySem PySem.Spec PyProof.Rows L2
open Ky C8
/-! ### the hashes of small pairs are apart -/
def h2 (i j : Nat) : Int := reduceHash (Builtin.Tuple.tupleHashOf [hashInt (i : Int), hashInt (j : Int)])
theorem key_h2 (w : World) (p : Nat × Nat) : (key p).hash w = h2 p.1 p.2 := by
  show NestedKey.hash w (.tup [.num (p.1 : Int), .num (p.2 : Int)]) = _
  simp only [NestedKey.hash, NestedKey.hashes]
  rfl
def apart : List Int → Bool
  | [] => true
  | a :: l => !l.contains a && apart l
theorem apart_nd : ∀ {l : List Int}, apart l = true → l.Nodup
  | [], _ => List.nodup_nil
  | a :: l, h => by
    rw [apart, Bool.and_eq_true, Bool.not_eq_true', List.contains_eq_mem, decide_eq_false_iff_not] at h
    exact List.nodup_cons.mpr ⟨h.1, apart_nd h.2⟩
def rowH1 (g : Nat) : List Int := (List.range 40).map fun i => h2 i g
def rowH2 (g : Nat) : List Int := (List.range 40).map fun i => h2 g i
theorem ap1_0 : apart (rowH1 0) = true := by decide +kernel
theorem ap1_1 : apart (rowH1 1) = true := by decide +kernel
theorem ap1_2 : apart (rowH1 2) = true := by decide +kernel
theorem ap2_0 : apart (rowH2 0) = true := by decide +kernel
theorem ap2_1 : apart (rowH2 1) = true := by decide +kernel
theorem ap2_2 : apart (rowH2 2) = true := by decide +kernel
theorem ap2_3 : apart (rowH2 3) = true := by decide +kernel
theorem ap2_4 : apart (rowH2 4) = true := by decide +kernel
theorem ap2_5 : apart (rowH2 5) = true := by decide +kernel
theorem ap2_6 : apart (rowH2 6) = true := by decide +kernel
theorem ap2_7 : apart (rowH2 7) = true := by decide +kernel
theorem ap2_8 : apart (rowH2 8) = true := by decide +kernel
theorem ap2_9 : apart (rowH2 9) = true := by decide +kernel
theorem ap2_10 : apart (rowH2 10) = true := by decide +kernel
theorem ap2_11 : apart (rowH2 11) = true := by decide +kernel
theorem ap2_12 : apart (rowH2 12) = true := by decide +kernel
theorem ap2_13 : apart (rowH2 13) = true := by decide +kernel
theorem ap2_14 : apart (rowH2 14) = true := by decide +kernel
theorem ap2_15 : apart (rowH2 15) = true := by decide +kernel
theorem ap2_16 : apart (rowH2 16) = true := by decide +kernel
theorem ap2_17 : apart (rowH2 17) = true := by decide +kernel
theorem ap2_18 : apart (rowH2 18) = true := by decide +kernel
theorem ap2_19 : apart (rowH2 19) = true := by decide +kernel
theorem ap2_20 : apart (rowH2 20) = true := by decide +kernel
theorem ap2_21 : apart (rowH2 21) = true := by decide +kernel
theorem ap2_22 : apart (rowH2 22) = true := by decide +kernel
theorem ap2_23 : apart (rowH2 23) = true := by decide +kernel
theorem ap2_24 : apart (rowH2 24) = true := by decide +kernel
theorem ap2_25 : apart (rowH2 25) = true := by decide +kernel
theorem ap2_26 : apart (rowH2 26) = true := by decide +kernel
theorem ap2_27 : apart (rowH2 27) = true := by decide +kernel
theorem ap2_28 : apart (rowH2 28) = true := by decide +kernel
theorem ap2_29 : apart (rowH2 29) = true := by decide +kernel
theorem ap2_30 : apart (rowH2 30) = true := by decide +kernel
theorem ap2_31 : apart (rowH2 31) = true := by decide +kernel
theorem ap2_32 : apart (rowH2 32) = true := by decide +kernel
theorem ap2_33 : apart (rowH2 33) = true := by decide +kernel
theorem ap2_34 : apart (rowH2 34) = true := by decide +kernel
theorem ap2_35 : apart (rowH2 35) = true := by decide +kernel
theorem ap2_36 : apart (rowH2 36) = true := by decide +kernel
theorem ap2_37 : apart (rowH2 37) = true := by decide +kernel
theorem ap2_38 : apart (rowH2 38) = true := by decide +kernel
theorem ap2_39 : apart (rowH2 39) = true := by decide +kernel
theorem ap1 : ∀ g : Nat, g < 3 → apart (rowH1 g) = true
  | 0, _ => ap1_0
  | 1, _ => ap1_1
  | 2, _ => ap1_2
  | g + 3, h => absurd h (by omega)
theorem ap2 : ∀ g : Nat, g < 40 → apart (rowH2 g) = true
  | 0, _ => ap2_0
  | 1, _ => ap2_1
  | 2, _ => ap2_2
  | 3, _ => ap2_3
  | 4, _ => ap2_4
  | 5, _ => ap2_5
  | 6, _ => ap2_6
  | 7, _ => ap2_7
  | 8, _ => ap2_8
  | 9, _ => ap2_9
  | 10, _ => ap2_10
  | 11, _ => ap2_11
  | 12, _ => ap2_12
  | 13, _ => ap2_13
  | 14, _ => ap2_14
  | 15, _ => ap2_15
  | 16, _ => ap2_16
  | 17, _ => ap2_17
  | 18, _ => ap2_18
  | 19, _ => ap2_19
  | 20, _ => ap2_20
  | 21, _ => ap2_21
  | 22, _ => ap2_22
  | 23, _ => ap2_23
  | 24, _ => ap2_24
  | 25, _ => ap2_25
  | 26, _ => ap2_26
  | 27, _ => ap2_27
  | 28, _ => ap2_28
  | 29, _ => ap2_29
  | 30, _ => ap2_30
  | 31, _ => ap2_31
  | 32, _ => ap2_32
  | 33, _ => ap2_33
  | 34, _ => ap2_34
  | 35, _ => ap2_35
  | 36, _ => ap2_36
  | 37, _ => ap2_37
  | 38, _ => ap2_38
  | 39, _ => ap2_39
  | g + 40, h => absurd h (by omega)
theorem h2_l {g i j : Nat} (hg : g < 3) (hi : i < 40) (hj : j < 40) (e : h2 i g = h2 j g) : i = j := by
  have nd := apart_nd (ap1 g hg)
  refine nodup_at nd (a := h2 i g) ?_ ?_
  · rw [rowH1, List.getElem?_map, List.getElem?_range hi]
    rfl
  · rw [rowH1, List.getElem?_map, List.getElem?_range hj, e]
    rfl
theorem h2_r {g i j : Nat} (hg : g < 40) (hi : i < 40) (hj : j < 40) (e : h2 g i = h2 g j) : i = j := by
  have nd := apart_nd (ap2 g hg)
  refine nodup_at nd (a := h2 g i) ?_ ?_
  · rw [rowH2, List.getElem?_map, List.getElem?_range hi]
    rfl
  · rw [rowH2, List.getElem?_map, List.getElem?_range hj, e]
    rfl
theorem hash_nd (w : World) {ts : List (En (Nat × Nat))} (nd : (ts.map (·.1)).Nodup) (h : ∀ p ∈ ts.map (·.1), ∀ q ∈ ts.map (·.1), h2 p.1 p.2 = h2 q.1 q.2 → p = q) : (ts.map fun t => (key t.1).hash w).Nodup := by
  have e : (ts.map fun t => (key t.1).hash w) = ts.map fun t => h2 t.1.1 t.1.2 := List.map_congr_left fun t _ => key_h2 w t.1
  rw [e]
  rw [List.Nodup, List.pairwise_map] at nd ⊢
  exact List.Pairwise.imp_of_mem (fun {a b} ha hb hne he => hne (h a.1 (List.mem_map.mpr ⟨a, ha, rfl⟩) b.1 (List.mem_map.mpr ⟨b, hb, rfl⟩) he)) nd
theorem putE_nd {α : Type} [DecidableEq α] {ts : List (En α)} (h : (ts.map (·.1)).Nodup) (a : α) (b : Addr) (v : V) : ((putE ts a b v).map (·.1)).Nodup := by
  rw [putE_keys]
  split
  · exact h
  · rename_i hn
    rw [List.nodup_append]
    exact ⟨h, by simp, fun x hx y hy e => by simp at hy; subst hy; subst e; exact hn hx⟩
theorem putAllE_nd {α : Type} [DecidableEq α] : ∀ {more ts : List (En α)}, (ts.map (·.1)).Nodup → ((putAllE ts more).map (·.1)).Nodup
  | [], _, h => h
  | t :: more, ts, h => putAllE_nd (more := more) (putE_nd h t.1 t.2.1 t.2.2)
/-- where a sign leads -/
def farL (S : Sto) (s : Sg) (x : Nat) : List Nat := if s.low then gl S.ties s.ch x else (num (goalsL S.n S.ties s.con.ch)).filterMap fun pr => if x ∈ pr.2 then some pr.1 else none
theorem mem_gl {l : List Stp} {s : Sg} {x z : Nat} : z ∈ gl l s.ch x ↔ (⟨x, s, z⟩ : Stp) ∈ l := by
  unfold gl
  rw [List.mem_map]
  constructor
  · rintro ⟨⟨t1, t2, t3⟩, h0, rfl⟩
    obtain ⟨h1, h2⟩ := List.mem_filter.mp h0
    obtain ⟨h4, h3⟩ := of_decide_eq_true h2
    have h3 : t2 = s := ch_inj h3
    have h4 : t1 = x := h4
    rw [← h3, ← h4]
    exact h1
  · intro h
    exact ⟨_, List.mem_filter.mpr ⟨h, by simp⟩, rfl⟩
theorem gl_len (l : List Stp) (c : Ch) (x : Nat) : (gl l c x).length ≤ l.length := by
  unfold gl
  rw [List.length_map]
  exact List.length_filter_le _ _
theorem goalsL_at {n : Nat} {l : List Stp} {c : Ch} {x : Nat} (h : x < n) : (goalsL n l c)[x]? = some (gl l c x) := by
  rw [goalsL, List.getElem?_map, List.getElem?_range h]
  rfl
theorem mem_farL {S : Sto} (ok : TiesOk S.n S.ties) {s : Sg} {x y : Nat} : y ∈ farL S s x ↔ tieE S.ties x s y := by
  unfold farL tieE
  cases hs : s.low with
  | true =>
    rw [if_pos rfl, if_pos rfl]
    exact mem_gl
  | false =>
    rw [if_neg (by simp), if_neg (by simp), List.mem_filterMap]
    constructor
    · rintro ⟨pr, h1, h2⟩
      obtain ⟨i, hi⟩ := List.mem_iff_getElem?.mp h1
      obtain ⟨j1, j2⟩ := num_get hi
      split at h2
      · rename_i hx
        have h2 := Option.some.inj h2
        have hlt : i < S.n := by
          have := (List.getElem?_eq_some_iff.mp j2).1
          rw [goalsL, List.length_map, List.length_range] at this
          exact this
        rw [goalsL_at hlt] at j2
        rw [← Option.some.inj j2] at hx
        rw [← h2, j1]
        exact mem_gl.mp hx
      · cases h2
    · intro h
      have hy : y < S.n := (ok.2.2 _ h).1
      exact ⟨(y, gl S.ties s.con.ch y), List.mem_of_getElem? (num_at (goalsL_at hy)), by rw [if_pos (mem_gl.mpr h)]⟩
theorem farL_lt {S : Sto} (ok : TiesOk S.n S.ties) {s : Sg} {x y : Nat} (h : y ∈ farL S s x) : y < S.n := by
  have h := (mem_farL ok).mp h
  unfold tieE at h
  split at h
  · exact (ok.2.2 _ h).2.1
  · exact (ok.2.2 _ h).1
theorem farL_len {S : Sto} (ok : TiesOk S.n S.ties) (hn : S.n ≤ 40) (s : Sg) (x : Nat) : (farL S s x).length ≤ 400 := by
  unfold farL
  split
  · exact Nat.le_trans (gl_len _ _ _) ok.2.1
  · have := List.length_filterMap_le (fun pr : Nat × List Nat => if x ∈ pr.2 then some pr.1 else none) (num (goalsL S.n S.ties s.con.ch))
    rw [num_len, goalsL, List.length_map, List.length_range] at this
    exact Nat.le_trans this (Nat.le_trans hn (by decide))
def cp2 (n m : Nat) : List Spot := (List.range n).flatMap fun i => (List.range m).map fun j => (i, j)
theorem mem_cp2 {n m : Nat} {u : Spot} : u ∈ cp2 n m ↔ u.1 < n ∧ u.2 < m := by
  obtain ⟨i, j⟩ := u
  simp only [cp2, List.mem_flatMap, List.mem_range, List.mem_map, Prod.mk.injEq]
  constructor
  · rintro ⟨a, h1, b, h2, rfl, rfl⟩
    exact ⟨h1, h2⟩
  · rintro ⟨h1, h2⟩
    exact ⟨i, h1, j, h2, rfl, rfl⟩
theorem cp2_len (n m : Nat) : (cp2 n m).length = n * m := by
  unfold cp2
  rw [List.length_flatMap]
  simp only [List.length_map, List.length_range]
  induction n with
  | zero => simp
  | succ n ih => rw [List.range_succ, List.map_append, List.sum_append, ih, List.map_singleton, List.sum_singleton, Nat.succ_mul]
theorem high_letters {s : Sg} (h : s.low = false) : ¬ sgC s ∈ ("abcdef" : Str).cps.toList := by
  cases s with
  | a => cases h
  | b => cases h
  | A => decide +kernel
  | B => decide +kernel
/-- spots within bounds are few -/
theorem spots_few {l : List Spot} {n m : Nat} (nd : l.Nodup) (h : ∀ u ∈ l, u.1 < n ∧ u.2 < m) : l.length ≤ n * m := by
  have := nodup_le l (cp2 n m) nd fun u hu => mem_cp2.mpr (h u hu)
  rwa [cp2_len] at this
section
variable {P : Program} {w : World} {K : PySem.W.Frag} {mg : Str → Option Value} {base : Heap} {CS CQ f : Addr} {fd : FuncData}
theorem sc_moves_from : FnScope ["store", "question", "here", "found", "node", "standing", "sign", "goal", "rows", "far", "near", "row"] ["store", "question", "here"] (defScope y_moves_from) := ⟨rfl, rfl, rfl, by decide +kernel, rfl, by decide +kernel, by decide +kernel⟩
def sp_moves (P : Program) (w : World) (K : PySem.W.Frag) (CS CQ : Addr) : Sp := fun vs H Q _ => ∃ (v v2 v3 : V) (S : Sto) (q : Qs) (u : Spot), vs = [v, v2, v3] ∧ SAt P w K CS H v S ∧ QAt K CQ H v2 q ∧ Dp K H v3 (dat u) ∧ u.1 < S.n ∧ u.2 < q.n ∧
  ∀ (pp : Addr) (ys : List V) (l : List Spot) (H' : Hp), Ex H H' → H pp = none → H' pp = some (.lst ys) → DpAll K H' ys (l.map dat) → l.Nodup → (∀ t : Spot, t ∈ l ↔ mv (tieE S.ties) q u t) → (∀ t : Spot, t ∈ l → t.1 < S.n ∧ t.2 < q.n) → Q (.ref pp) H'
theorem c_moves_from (T : Tx K mg CS CQ) (F : Fx K mg "moves_from" y_moves_from ["store", "question", "here"] f fd) (c_letter_of : Cal P w K mg base 1 "letter_of" (spS Sg.ltr) []) : Cal P w K mg base 2 "moves_from" (sp_moves P w K CS CQ) [] := by
  refine F.cal sc_moves_from (fun vs H Q E h => ?_) (fun cdv A outer s H vs Q E hr h => ?_)
  · obtain ⟨v, v2, v3, S, q, u, rfl, _⟩ := h
    rfl
  obtain ⟨v, v2, v3, S, q, ⟨x, p⟩, rfl, hs, hq, dh, hx, hp, k⟩ := h
  have hx : x < S.n := hx
  have hp : p < q.n := hp
  have hu := hu100 hr
  have hu1 := hu_of hr
  refine ⟨_, (pss_cons (ps_asg (pv 2) (k_gtup (n := 2) (K := K) rfl rfl (pgs_cons (pn 4 sc_moves_from.nd) (pgs_cons (pn 5 sc_moves_from.nd) pgs_nil))))
    (pss_cons (pset 3 sc_moves_from.nd (k_new (α := Nat × Nat) (O := ⟨P, w, K⟩) rfl))
    (pss_cons (ps_for PassesOwn.never rfl (k_list (K := K) rfl (pe_ix (k_ixl (K := K) rfl) (k_fld (K := K) rfl (pv 1)) (pv 5) (fun _ _ => rfl))) (k_gtup (n := 2) (K := K) rfl rfl (pgs_cons (pn 6 sc_moves_from.nd) (pgs_cons (pn 7 sc_moves_from.nd) pgs_nil))) (pss_cons (pset 8 sc_moves_from.nd (pe_dget hu1 (k_fld (K := K) rfl (pv 0)) (pe_c c_letter_of hr (by decide) (by rfl) (pa_cons (pv 6) pa_nil)) (fun _ _ => rfl)))
    (pss_cons (pset 9 sc_moves_from.nd (pe_ifExp (pt_cmpR (op_in_sign) (pv 6) (gS (by rfl) T.letters) (by rfl)) (pe_ix (k_ixl (K := K) rfl) (pv 8) (pv 4) (fun _ _ => rfl)) (pe_lc (own := [("near", 10), ("row", 11)]) rfl sc_moves_from.nd ((k_enum (K := K) rfl (by rfl) T.enumerate (pa_cons (pv 8) pa_nil))) (blkOk_by (by kernel_rfl)) (fun _ _ _ _ _ => (k_gtup (n := 2) (K := K) rfl rfl (pgs_cons (pn 10 sc_moves_from.nd) (pgs_cons (pn 11 sc_moves_from.nd) pgs_nil)))) (fun _ _ _ _ _ => (pts_one (pt_cmpR (k_in (α := Nat) (O := ⟨P, w, K⟩) hu rfl) (pv 4) (pv 11) (by rfl)))) (fun _ _ _ _ _ => (pv 10)))))
    (pss_one (ps_expr (k_bm (α := Nat × Nat) (O := ⟨P, w, K⟩) rfl PySem.F.slot_dict_update PySem.F.type_dict_update (k_updN (hT := fun _ => ⟨_, rfl⟩) (α := Nat × Nat) (O := ⟨P, w, K⟩) hu rfl) (pv 3) (pa_cons (k_dc (own := [("near", 10)]) (kd := kdN (Nat × Nat) P w K) rfl hu rfl sc_moves_from.nd ((k_list (K := K) rfl (pv 9))) (blkOk_by (by kernel_rfl)) (fun _ _ _ _ _ => (pn 10 sc_moves_from.nd)) (fun _ _ _ _ _ => pts_nil) (fun _ _ _ _ _ => (pe_tup (pa_cons (pv 10) (pa_cons (pv 7) pa_nil)))) (fun _ _ _ _ _ => pe_bl)) pa_nil)))))))
    (pss_one (ps_ret (pe_callB (k_srtN (α := Nat × Nat) (O := ⟨P, w, K⟩) hu rfl rfl) (by rfl) T.sorted (by decide +kernel) (pa_cons (pv 3) pa_nil))))))), ?_⟩
  obtain ⟨sa, sdx, d, ts0, g, rfl, s1⟩ := hs.sf
  obtain ⟨a, dx, st, en, fr, rfl, qf⟩ := hq
  obtain ⟨DF, vsF, rfl, hsF, rowF⟩ := qf.row
  obtain ⟨T0, y1, y2, rfl, hT, d1, d2⟩ := dp_pair dh
  have d1 := dp_nat d1
  have d2 := dp_nat d2
  subst d1 d2
  refine ⟨_, rfl, _, _, rfl, hT, rfl, _, _, rfl, _, _, rfl, rfl, fun D hD => ?_⟩
  obtain ⟨v, b, xs, h1, rfl, h3, h4⟩ := rowF p hp
  have e0 : Ex H (upd H D (DN (α := Nat × Nat) P w D [])) := Ex.new hD
  have hD0 : (upd H D (DN (α := Nat × Nat) P w D [])) D = some (DN (α := Nat × Nat) P w D []) := upd_same
  show (fun H0 => _) (upd H D (DN (α := Nat × Nat) P w D []))
  generalize upd H D (DN (α := Nat × Nat) P w D []) = H0 at e0 hD0
  refine ⟨_, rfl, a, CQ, dx, _, _, rfl, e0 _ _ qf.h, T.cQ, T.q_from, rfl, _, rfl, DF, vsF, (p : Int), .ref b, rfl, rfl, e0.ld.sqL hsF, atI_nat h1, b, rfl, ⟨xs, e0.ld.sqL h3⟩, ?_⟩
  have fl := fromR_len q.steps p
  have s7 := qf.ok.s7
  have q3 := qf.ok.n3
  have n40 := s1.n2
  refine for_tw (tw_list (K := K) (R := Dt K) (l := fromR q.steps p) (xs := xs)) (fun i σ H' => ∃ (b6 b7 b8 b9 b10 b11 : Option V) (fs : List (En (Nat × Nat))), σ = [some (.ref sa), some (.ref a), some (.ref T0), some (.ref D), some (.int (x : Int)), some (.int (p : Int)), b6, b7, b8, b9, b10, b11] ∧ Ex H H' ∧ H' D = some (DN P w D fs) ∧ Keys K H' fs ∧ (fs.map (·.1)).Nodup ∧ fs.length ≤ 400 * i ∧
      ∀ t : Spot, t ∈ fs.map (·.1) ↔ ∃ pr ∈ (fromR q.steps p).take i, t.2 = pr.2 ∧ tieE S.ties x pr.1 t.1) ⟨_, _, _, _, _, _, [], rfl, e0, hD0, Keys.nil, List.nodup_nil, Nat.le_refl _, fun t => by simp⟩ ?_ ?_ ?_
  · rintro i σ H2 _ ⟨_, _, _, _, _, _, fs, rfl, e2, _⟩
    exact ⟨e2.ld.sqL h3, all_dat (h4.ex e2)⟩
  · rintro i ⟨c, z⟩ xv σ H1 H2 hi ⟨_, _, _, _, _, _, fs, rfl, e1, g1, g2, g3, g4, g5⟩ e12 hxv
    obtain ⟨T1, y1, y2, rfl, hT1, d1, d2⟩ := dp_pair hxv
    have d1 := dp_sg d1
    have d2 := dp_nat d2
    subst d1 d2
    have hst : (⟨p, c, z⟩ : Stp) ∈ q.steps := mem_fromR.mp (List.mem_of_getElem? hi)
    have hz : z < q.n := (qf.ok.wf.st _ hst).2
    have i7 : i < 7 := by
      have := (List.getElem?_eq_some_iff.mp hi).1
      omega
    refine ⟨_, _, rfl, hT1, rfl, _, _, rfl, _, _, rfl, rfl, ?_⟩
    have t2 := s1.ex (e1.trans e12)
    have ecl : c.ltr.low = true := by cases c <;> rfl
    refine ⟨_, rfl, sa, CS, sdx, _, _, rfl, t2.h, T.cS, T.n_goals, rfl, _, rfl, c, rfl, fun H3 e3 => ?_⟩
    have t3 := t2.ex e3
    obtain ⟨ga, kvs, rfl, gr, gall⟩ := t3.g
    obtain ⟨vl, gv1, gv2⟩ := gall c.ltr ecl
    obtain ⟨ar, xr, rfl, har, hxr⟩ := dp_lst gv2
    refine ⟨ga, .ref ar, rfl, .inl ⟨kvs, Sum.inr (sgS c.ltr), gr, rfl, gv1.symm⟩, ?_⟩
    have e23 := e12.trans e3
    have e03 := e1.trans e23
    have ok := s1.ok
    have eg : (goalsL S.n S.ties c.ltr.ch) = goalsL S.n S.ties c.ltr.ch := rfl
    rcases (show c.low = true ∨ c.low = false by cases c.low <;> simp) with hc | hc
    case' inl =>
      have ec : c.ltr = c := by unfold Sg.ltr; rw [hc]; rfl
      rw [ec] at hxr
      obtain ⟨vb, hvb, dvb⟩ := all_at (all_ls hxr) (goalsL_at hx)
      have dvb : Dp K H3 vb (.list ((gl S.ties c.ch x).map dat)) := dvb
      obtain ⟨bf, vf, rfl, hbf, hvf⟩ := dp_lst dvb
      have hvf : DpAll K H3 vf ((farL S c x).map dat) := by
        unfold farL
        rw [hc]
        exact hvf
      refine ⟨_, rfl, sgC c, _, congrArg V.str (sgS_C c), rfl, _, rfl, ifP (of_decide_eq_true (low_letters hc)) ⟨_, rfl, _, rfl, ar, xr, (x : Int), .ref bf, rfl, rfl, har, atI_nat hvb, ?_⟩⟩
      generalize hH4 : H3 = H4 at hbf hvf ⊢
      have e34 : Ex H3 H4 := hH4 ▸ Ex.refl _
      have e04 := e03.trans e34
    case' inr =>
      have ec : c.ltr = c.con := by unfold Sg.ltr; rw [hc]; rfl
      rw [ec] at hxr
      refine ⟨_, rfl, sgC c, _, congrArg V.str (sgS_C c), rfl, _, rfl, ifN (high_letters hc) ⟨_, rfl, ar, xr, rfl, har, fun bf hbf0 => ?_⟩⟩
      refine lc_dt (K := K) (tw_enum (K := K) (R := Ls K) (l := goalsL S.n S.ties c.con.ch) (xs := xr) (fun _ _ _ _ e h => h.ex e)) (fun pr => if x ∈ pr.2 then some pr.1 else none) hbf0 (fun H' e => ⟨e.ld.sqL har, all_ls (hxr.ex e)⟩) (by rw [num_len, goalsL, List.length_map, List.length_range, sizeLine_eq]; omega) (fun pr xw H4 acc N M hpr e4 hacc hxw hN hM => ?_) fun H4 vf e34 hacc hvf => ?_
      · obtain ⟨T2, y, rfl, hT2, dy⟩ := hxw
        have dy : Dp K H4 y (.list (pr.2.map dat)) := dy
        refine ⟨_, _, rfl, hT2, rfl, _, _, rfl, _, _, rfl, rfl, rfl, ?_⟩
        refine ⟨_, rfl, _, rfl, pr.2, x, nat_dp x, .inr dy, _, rfl, ?_⟩
        by_cases hm : x ∈ pr.2
        · exact ifP hm ⟨_, rfl, hN pr.1 _ H4 (by rw [if_pos hm]) (.refl H4) (nat_dp _)⟩
        · exact ifN hm (hM (by rw [if_neg hm]) H4 (.refl H4))
      have hvf : DpAll K H4 vf ((farL S c x).map dat) := by
        unfold farL
        rw [hc]
        exact hvf
      have hbf : SqL K H4 bf vf := SqL.of hacc
      have e04 := e03.trans e34
    all_goals
      refine ⟨_, rfl, ⟨D, fs, rfl, .inl (e34 _ _ (e23 _ _ g1))⟩, _, rfl, bf, rfl, ⟨vf, hbf⟩, fun D2 hD2 => ?_⟩
      have D2D : D ≠ D2 := fun z => by rw [← z, e34 _ _ (e23 _ _ g1)] at hD2; cases hD2
      refine dc_tw (by decide) (tw_list (K := K) (R := Dt K) (l := farL S c x) (xs := vf)) (fun n => some ((n, z) : Nat × Nat)) hD2 (fun H' e => ⟨e.ld.sqL hbf, all_dat (hvf.ex e)⟩) (Nat.le_trans (farL_len ok n40 c x) (by rw [sizeLine_eq]; omega)) (fun n v5 H5 ts5 N M hn e5 hts5 hv5 hN hM => ?_) fun H5 more e5 hts hk ek => ?_
      · have hv5 := dp_nat hv5
        subst hv5
        exact ⟨rfl, _, rfl, _, rfl, by show 2 ≤ sizeLine; decide, fun T2 hT2 => hN (n, z) _ _ _ rfl (Ex.new hT2) (pair_dp sqt_new (nat_dp _) (nat_dp _)) ⟨_, rfl⟩⟩
      have e25 := (e23.trans e34).trans e5
      have e05 := e04.trans e5
      have hmap : ((farL S c x).filterMap fun n => some ((n, z) : Nat × Nat)) = (farL S c x).map fun n => (n, z) := by
        show List.filterMap (some ∘ fun n : Nat => ((n, z) : Nat × Nat)) _ = _
        rw [List.filterMap_eq_map]
      rw [hmap] at ek
      have memk : ∀ t : Spot, t ∈ more.map (·.1) ↔ t.2 = z ∧ tieE S.ties x c t.1 := by
        intro t
        rw [ek, mem_keysOf, List.mem_map]
        constructor
        · rintro ⟨n, hn, rfl⟩
          exact ⟨rfl, (mem_farL ok).mp hn⟩
        · rintro ⟨t1, t2⟩
          exact ⟨t.1, (mem_farL ok).mpr t2, by rw [← t1]⟩
      have lenk : more.length ≤ 400 := by
        have h1 : more.length = (keysOf ((farL S c x).map fun n => ((n, z) : Nat × Nat))).length := by rw [← ek, List.length_map]
        have h2 := keysOf_len ((farL S c x).map fun n => ((n, z) : Nat × Nat))
        rw [List.length_map] at h2
        have := farL_len ok n40 c x
        omega
      have ndk : (more.map (·.1)).Nodup := by
        rw [ek]
        exact keysOf_nodup _
      have bk : ∀ t : Spot, t ∈ more.map (·.1) → t.1 < 40 ∧ t.2 = z := fun t ht => by
        obtain ⟨t1, t2⟩ := (memk t).mp ht
        have := farL_lt ok ((mem_farL ok).mpr t2)
        exact ⟨by omega, t1⟩
      refine ⟨fs, more, D, D2, rfl, rfl, D2D, e25 _ _ g1, .inl hts, g2.ld e25.ld, hk, hash_nd w ndk (fun s hs t ht e => ?_), by rw [sizeLine_eq]; omega, ?_⟩
      · obtain ⟨a1, a2⟩ := bk s hs
        obtain ⟨b1, b2⟩ := bk t ht
        rw [a2, b2] at e
        have := h2_l (by omega) a1 b1 e
        exact Prod.ext this (a2.trans b2.symm)
      have hD5 := e25 _ _ g1
      refine ⟨_, _, _, _, _, _, putAllE fs more, rfl, e05.mut hD, upd_same, ?_, putAllE_nd g3, ?_, fun t => ?_⟩
      · exact ((g2.ld e25.ld).putAll hk).lt (Lt.mut (noT_DN hD5))
      · have := putAllE_len more fs
        omega
      · rw [mem_putAllE, g5, memk, take_snoc hi]
        constructor
        · rintro (⟨pr, h1, h2⟩ | ⟨h1, h2⟩)
          · exact ⟨pr, List.mem_append.mpr (.inl h1), h2⟩
          · exact ⟨(c, z), by simp, h1, h2⟩
        · rintro ⟨pr, h1, h2⟩
          rcases List.mem_append.mp h1 with h1 | h1
          · exact .inl ⟨pr, h1, h2⟩
          · rw [List.mem_singleton.mp h1] at h2
            exact .inr h2
  · rintro σ H2 ⟨_, _, _, _, _, _, fs, rfl, e2, g1, g2, g3, g4, g5⟩
    rw [List.take_length] at g5
    have hmv : ∀ t : Spot, t ∈ srt (fs.map (·.1)) ↔ mv (tieE S.ties) q (x, p) t := by
      intro t
      rw [mem_srt, g5]
      constructor
      · rintro ⟨pr, h1, h2, h3⟩
        refine ⟨pr.1, ?_, h3⟩
        rw [h2]
        exact mem_fromR.mp h1
      · rintro ⟨s, h1, h2⟩
        exact ⟨(s, t.2), mem_fromR.mpr h1, rfl, h2⟩
    refine ⟨_, rfl, D, fs, rfl, .inl g1, g2, fun ys pp dy hpp => k pp ys _ _ (e2.put hpp) (e2.back hpp) upd_same (dy.ex (Ex.new hpp)) ((srt_perm _).nodup_iff.mpr g3) hmv fun t ht => ?_⟩
    obtain ⟨s, h1, h2⟩ := (hmv t).mp ht
    exact ⟨farL_lt s1.ok ((mem_farL s1.ok).mpr h2), (qf.ok.wf.st _ h1).2⟩
end
end K26

set_option Elab.async false
set_option linter.all false
set_option maxRecDepth 100000
set_option maxHeartbeats 4000000
/-! answers: walked. -/
namespace K26
open PySem PySem.Spec PyProof.Rows L2
open Ky C8
theorem dP {p : Prop} {i : Decidable p} {A B : Prop} (h : p) (a : A) : if (@decide p i) = true then A else B := by
  rw [if_pos (decide_eq_true h)]
  exact a
theorem dN {p : Prop} {i : Decidable p} {A B : Prop} (h : ¬ p) (b : B) : if (@decide p i) = true then A else B := by
  rw [if_neg (by simpa using h)]
  exact b
theorem dNP {p : Prop} {i : Decidable p} {A B : Prop} (h : p) (b : B) : if (!(@decide p i)) = true then A else B := by
  rw [if_neg (by simpa using h)]
  exact b
theorem dNN {p : Prop} {i : Decidable p} {A B : Prop} (h : ¬ p) (a : A) : if (!(@decide p i)) = true then A else B := by
  rw [if_pos (by simpa using h)]
  exact a
/-- what has been walked, the first i closed -/
structure Wk (E : Edge) (q : Qs) (n x : Nat) (K : PySem.W.Frag) (H : Hp) (ts : List (En Spot)) (i : Nat) : Prop where
  nd : (ts.map (·.1)).Nodup
  first : ∃ b, ts[0]? = some ((x, 0), b, V.non)
  par : ∀ j t, ts[j]? = some t → j ≠ 0 → ∃ k t' c, k < j ∧ ts[k]? = some t' ∧ mv E q t'.1 t.1 ∧ t.2.2 = .ref c ∧ Dp K H (.ref c) (dat t'.1)
  cl : ∀ j t u, j < i → ts[j]? = some t → mv E q t.1 u → u ∈ ts.map (·.1)
  bd : ∀ u ∈ ts.map (·.1), u.1 < n ∧ u.2 < q.n
section
variable {E : Edge} {q : Qs} {n x i : Nat} {K : PySem.W.Frag} {H H' : Hp} {ts : List (En Spot)}
theorem Wk.lt (w : Wk E q n x K H ts i) (e : Lt H H') : Wk E q n x K H' ts i :=
  ⟨w.nd, w.first, fun j t h1 h2 => let ⟨k, t', c, a, b, c1, d, f⟩ := w.par j t h1 h2; ⟨k, t', c, a, b, c1, d, dat_lt e f⟩, w.cl, w.bd⟩
theorem Wk.few (w : Wk E q n x K H ts i) : ts.length ≤ n * q.n := by
  have := spots_few w.nd w.bd
  rwa [List.length_map] at this
theorem Wk.snoc (w : Wk E q n x K H ts i) {t : En Spot} {u : Spot} {b c : Addr} (ht : ts[i]? = some t) (hm : mv E q t.1 u) (hu : u ∉ ts.map (·.1)) (hb : u.1 < n ∧ u.2 < q.n) (dc : Dp K H (.ref c) (dat t.1)) : Wk E q n x K H (ts ++ [(u, b, .ref c)]) i := by
  have hi : i < ts.length := (List.getElem?_eq_some_iff.mp ht).1
  refine ⟨?_, ?_, fun j t1 h1 h2 => ?_, fun j t1 u1 h1 h2 h3 => ?_, fun u1 h1 => ?_⟩
  · rw [List.map_append, List.nodup_append]
    exact ⟨w.nd, by simp, fun a ha b hb e => by simp at hb; rw [hb] at e; rw [e] at ha; exact hu ha⟩
  · obtain ⟨b0, h0⟩ := w.first
    exact ⟨b0, by rw [List.getElem?_append_left (by omega)]; exact h0⟩
  · rcases Nat.lt_or_ge j ts.length with hj | hj
    · rw [List.getElem?_append_left hj] at h1
      obtain ⟨k, t', c', a1, a2, a3⟩ := w.par j t1 h1 h2
      exact ⟨k, t', c', a1, by rw [List.getElem?_append_left (by omega)]; exact a2, a3⟩
    · have : j = ts.length := by
        have := (List.getElem?_eq_some_iff.mp h1).1
        simp at this
        omega
      subst this
      simp at h1
      subst h1
      exact ⟨i, t, c, hi, by rw [List.getElem?_append_left hi]; exact ht, hm, rfl, dc⟩
  · rw [List.getElem?_append_left (by omega)] at h2
    rw [List.map_append]
    exact List.mem_append.mpr (.inl (w.cl j t1 u1 h1 h2 h3))
  · rw [List.map_append] at h1
    rcases List.mem_append.mp h1 with h1 | h1
    · exact w.bd u1 h1
    · rw [List.mem_singleton.mp h1]
      exact hb
/-- all that can be come to, and nothing else -/
theorem Wk.all (w : Wk E q n x K H ts ts.length) (u : Spot) : u ∈ ts.map (·.1) ↔ Rch (mv E q) (x, 0) u := by
  constructor
  · intro hu
    obtain ⟨t, ht, rfl⟩ := List.mem_map.mp hu
    obtain ⟨j, hj⟩ := List.mem_iff_getElem?.mp ht
    clear hu ht
    induction j using Nat.strongRecOn generalizing t with
    | ind j ih =>
      by_cases e : j = 0
      · subst e
        obtain ⟨b, hb⟩ := w.first
        rw [hb] at hj
        cases hj
        exact .refl
      · obtain ⟨k, t', c, a1, a2, a3, _⟩ := w.par j t hj e
        exact .tail (ih k a1 t' a2) a3
  · intro h
    refine h.keeps (P := fun u => u ∈ ts.map (·.1)) (fun a b ha hab => ?_) ?_
    · obtain ⟨t, ht, rfl⟩ := List.mem_map.mp ha
      obtain ⟨j, hj⟩ := List.mem_iff_getElem?.mp ht
      exact w.cl j t b (List.getElem?_eq_some_iff.mp hj).1 hj hab
    · obtain ⟨b, hb⟩ := w.first
      exact List.mem_map.mpr ⟨_, List.mem_of_getElem? hb, rfl⟩
end
section
variable {P : Program} {w : World} {K : PySem.W.Frag} {mg : Str → Option Value} {base : Heap} {CS CQ f : Addr} {fd : FuncData}
theorem sc_walked : FnScope ["store", "question", "start", "found", "order", "at", "goal"] ["store", "question", "start"] (defScope y_walked) := ⟨rfl, rfl, rfl, by decide +kernel, rfl, by decide +kernel, by decide +kernel⟩
def sp_walked (P : Program) (w : World) (K : PySem.W.Frag) (CS CQ : Addr) : Sp := fun vs H Q _ => ∃ (v v2 : V) (S : Sto) (q : Qs) (x : Nat), vs = [v, v2, .int (x : Int)] ∧ SAt P w K CS H v S ∧ QAt K CQ H v2 q ∧ x < S.n ∧
  ∀ (d : Addr) (ts : List (En Spot)) (H' : Hp), Ex H H' → H d = none → H' d = some (DN P w d ts) → Keys K H' ts → Wk (tieE S.ties) q S.n x K H' ts ts.length → Q (.ref d) H'
theorem c_walked (T : Tx K mg CS CQ) (F : Fx K mg "walked" y_walked ["store", "question", "start"] f fd) (c_moves_from : Cal P w K mg base 2 "moves_from" (sp_moves P w K CS CQ) []) : Cal P w K mg base 3 "walked" (sp_walked P w K CS CQ) [] := by
  refine F.cal sc_walked (fun vs H Q E h => ?_) (fun cdv A outer s H vs Q E hr h => ?_)
  · obtain ⟨v, v2, S, q, x, rfl, _⟩ := h
    rfl
  obtain ⟨v, v2, S, q, x, rfl, hs, hq, hx, k⟩ := h
  have hu := hu100 hr
  have hu1 := hu_of hr
  refine ⟨_, (pss_cons (pset 3 sc_walked.nd (k_disp1 (α := Nat × Nat) (O := ⟨P, w, K⟩) hu rfl (pe_tup (pa_cons (pv 2) (pa_cons pe_int pa_nil))) pe_non))
    (pss_cons (ps_par (i := 4) (j := 5) (by rfl) sc_walked.nd rfl rfl (by decide) rfl rfl (pa_cons (pe_lst (pa_cons (pe_tup (pa_cons (pv 2) (pa_cons pe_int pa_nil))) pa_nil)) (pa_cons pe_int pa_nil)) (by rfl))
    (pss_cons (ps_while PassesOwn.never (pt_cmpR (op_lt) (pv 5) (pe_callB (k_len (K := K) rfl) (by rfl) T.len (by decide +kernel) (pa_cons (pv 4) pa_nil)) (by rfl)) (pss_cons (ps_for PassesOwn.never rfl (k_list (K := K) rfl (pe_c c_moves_from hr (by decide) (by rfl) (pa_cons (pv 0) (pa_cons (pv 1) (pa_cons (pe_ix (k_ixl (K := K) rfl) (pv 4) (pv 5) (fun _ _ => rfl)) pa_nil))))) (pn 6 sc_walked.nd) (pss_one (ps_if (pt_cmpR (k_ninN (α := Nat × Nat) (O := ⟨P, w, K⟩) hu rfl) (pv 6) (pv 3) (by rfl)) (pss_cons (ps_asg (pe_ix (k_ixl (K := K) rfl) (pv 4) (pv 5) (fun _ _ => rfl)) (pg_sub (pv 3) (pv 6) (k_setN (α := Nat × Nat) (O := ⟨P, w, K⟩) hu rfl)))
    (pss_one (ps_expr (pe_bm PySem.F.plainAttrs_list PySem.F.slot_list_append PySem.F.type_list_append mt_append (pv 4) (pa_cons (pv 6) pa_nil))))) pss_nil)))
    (pss_one (pset 5 sc_walked.nd (pe_op (op_add) (pv 5) pe_int)))))
    (pss_one (ps_ret (pv 3)))))), ?_⟩
  have n40 : S.n ≤ 40 := by
    obtain ⟨_, _, _, _, _, _, s1⟩ := hs.sf
    exact s1.n2
  have q3 : q.n ≤ 3 ∧ 0 < q.n := by
    obtain ⟨_, _, _, _, _, _, qf⟩ := hq
    exact ⟨qf.ok.n3, qf.ok.wf.pos⟩
  have few : S.n * q.n ≤ 120 := Nat.le_trans (Nat.mul_le_mul n40 q3.1) (by decide)
  intro d hd
  refine ⟨_, rfl, by show 2 ≤ sizeLine; decide, fun T0 hT0 => ?_⟩
  have dT0 : T0 ≠ d := fun z => by rw [z, upd_same] at hT0; cases hT0
  have ea : Ex H (upd H d (DN (α := Spot) P w d [])) := Ex.new hd
  have eb := ea.trans (Ex.new (o := .tup [V.int (x : Int), .int 0]) hT0)
  have hdb : (upd (upd H d (DN (α := Spot) P w d [])) T0 (.tup [V.int (x : Int), .int 0])) d = some (DN (α := Spot) P w d []) := (upd_ne (Ne.symm dT0)).trans upd_same
  have kb : Dp K (upd (upd H d (DN (α := Spot) P w d [])) T0 (.tup [V.int (x : Int), .int 0])) (.ref T0) (dat ((x, 0) : Spot)) := pair_dp sqt_new (nat_dp x) (nat_dp 0)
  refine ⟨_, .non, ((x, 0) : Spot), T0, rfl, rfl, hdb, kb, ?_⟩
  have ec := eb.mut (o := DN (α := Spot) P w d [((x, 0), T0, V.non)]) hd
  have kc := dat_lt (Lt.mut (o := DN (α := Spot) P w d [((x, 0), T0, V.non)]) (noT_DN hdb)) kb
  have hdc : (upd (upd (upd H d (DN (α := Spot) P w d [])) T0 (.tup [V.int (x : Int), .int 0])) d (DN (α := Spot) P w d [((x, 0), T0, V.non)])) d = some (DN (α := Spot) P w d [((x, 0), T0, V.non)]) := upd_same
  show (fun Hc => _) (upd (upd (upd H d (DN (α := Spot) P w d [])) T0 (.tup [V.int (x : Int), .int 0])) d (DN (α := Spot) P w d [((x, 0), T0, V.non)]))
  generalize (upd (upd (upd H d (DN (α := Spot) P w d [])) T0 (.tup [V.int (x : Int), .int 0])) d (DN (α := Spot) P w d [((x, 0), T0, V.non)])) = Hc at ec kc hdc
  clear ea eb hdb kb dT0 hT0
  refine ⟨_, rfl, by show 2 ≤ sizeLine; decide, fun T1 hT1 => ⟨by show 1 ≤ sizeLine; decide, fun p hp => ⟨_, _, rfl, ?_⟩⟩⟩
  have e1 : Ex Hc (upd (upd Hc T1 (.tup [V.int (x : Int), .int 0])) p (.lst [.ref T1])) := (Ex.new hT1).put hp
  have pn : H p = none := ec.back ((Ex.new hT1).back hp)
  have k1 : Dp K (upd (upd Hc T1 (.tup [V.int (x : Int), .int 0])) p (.lst [.ref T1])) (.ref T1) (dat ((x, 0) : Spot)) := (pair_dp sqt_new (nat_dp x) (nat_dp 0)).ex (Ex.new hp)
  have hp1 : (upd (upd Hc T1 (.tup [V.int (x : Int), .int 0])) p (.lst [.ref T1])) p = some (.lst [.ref T1]) := upd_same
  show (fun H1 => _) (upd (upd Hc T1 (.tup [V.int (x : Int), .int 0])) p (.lst [.ref T1]))
  generalize upd (upd Hc T1 (.tup [V.int (x : Int), .int 0])) p (.lst [.ref T1]) = H1 at e1 k1 hp1
  refine ⟨fun m σ H' => ∃ (g : Option V) (i : Nat) (ts : List (En Spot)) (os : List V), σ = [some v, some v2, some (.int (x : Int)), some (.ref d), some (.ref p), some (.int (i : Int)), g] ∧ Ex H H' ∧ H' d = some (DN P w d ts) ∧ Keys K H' ts ∧ H' p = some (.lst os) ∧ DpAll K H' os ((ts.map (·.1)).map dat) ∧ Wk (tieE S.ties) q S.n x K H' ts i ∧ i ≤ ts.length ∧ m = 200 - i,
    ⟨_, _, 0, _, _, rfl, ec.trans e1, e1 _ _ hdc, fun t ht => ?_, hp1, .cons k1 .nil, ⟨by simp, ⟨_, rfl⟩, fun j t h1 h2 => ?_, fun j t u h1 => absurd h1 (by omega), fun u hu => ?_⟩, Nat.zero_le _, rfl⟩, ?_⟩
  · rw [List.mem_singleton.mp ht]
    exact kc.ex e1
  · cases j with
    | zero => exact absurd rfl h2
    | succ j => simp at h1
  · rw [List.mem_singleton.mp hu]
    exact ⟨hx, q3.2⟩
  rintro m σ H2 ⟨g, i, ts, os, rfl, e2, hd2, hk2, hp2, ho2, wk, hi, rfl⟩
  have lo : os.length = ts.length := by rw [dpAll_len ho2, List.length_map, List.length_map]
  have lts := wk.few
  refine ⟨_, rfl, _, rfl, _, (os.length : Nat), rfl, .inl ⟨_, SqL.of hp2, rfl⟩, _, _, rfl, rfl, _, rfl, ?_⟩
  by_cases hlt : i < ts.length
  · refine ifP (by omega) ⟨fun σ' H' => ∃ m', m' < 200 - i ∧ ∃ (g : Option V) (i : Nat) (ts : List (En Spot)) (os : List V), σ' = [some v, some v2, some (.int (x : Int)), some (.ref d), some (.ref p), some (.int (i : Int)), g] ∧ Ex H H' ∧ H' d = some (DN P w d ts) ∧ Keys K H' ts ∧ H' p = some (.lst os) ∧ DpAll K H' os ((ts.map (·.1)).map dat) ∧ Wk (tieE S.ties) q S.n x K H' ts i ∧ i ≤ ts.length ∧ m' = 200 - i, fun σ' H' h => h, ?_⟩
    obtain ⟨t, ht⟩ : ∃ t, ts[i]? = some t := ⟨ts[i], List.getElem?_eq_getElem hlt⟩
    obtain ⟨vo, hvo, dvo⟩ := all_at (all_dat ho2) (show (ts.map (·.1))[i]? = some t.1 by rw [List.getElem?_map, ht]; rfl)
    have dvo : Dp K H2 vo (dat t.1) := dvo
    have bt := wk.bd t.1 (List.mem_map.mpr ⟨t, List.mem_of_getElem? ht, rfl⟩)
    refine ⟨_, rfl, _, rfl, _, rfl, _, rfl, p, os, (i : Int), vo, rfl, rfl, SqL.of hp2, atI_nat hvo, ?_⟩
    refine ⟨v, v2, vo, S, q, t.1, rfl, hs.ex e2, hq.ex e2, dvo, bt.1, bt.2, fun pp ys l H3 e3 hppn hpp hys nd hmv hbd => ⟨pp, rfl, ⟨ys, SqL.of hpp⟩, ?_⟩⟩
    have ppd : pp ≠ d := fun z => by rw [z, hd2] at hppn; cases hppn
    have ppp : pp ≠ p := fun z => by rw [z, hp2] at hppn; cases hppn
    have dp' : d ≠ p := fun z => by rw [z, hp2] at hd2; cases hd2
    refine for_tw (tw_list (K := K) (R := Dt K) (l := l) (xs := ys)) (fun r σ' H' => ∃ (g : Option V) (ts' : List (En Spot)) (os' : List V), σ' = [some v, some v2, some (.int (x : Int)), some (.ref d), some (.ref p), some (.int (i : Int)), g] ∧ Ex H H' ∧ H' d = some (DN P w d ts') ∧ Keys K H' ts' ∧ H' p = some (.lst os') ∧ DpAll K H' os' ((ts'.map (·.1)).map dat) ∧ Wk (tieE S.ties) q S.n x K H' ts' i ∧ ts'[i]? = some t ∧ H' pp = some (.lst ys) ∧ DpAll K H' ys (l.map dat) ∧ ∀ u ∈ l.take r, u ∈ ts'.map (·.1))
      ⟨g, ts, os, rfl, e2.trans e3, e3 _ _ hd2, hk2.ld e3.ld, e3 _ _ hp2, ho2.ex e3, wk.lt e3.lt, ht, hpp, hys, by simp⟩ ?_ ?_ ?_
    · rintro r σ H4 _ ⟨g, ts', os', rfl, _, _, _, _, _, _, _, f1, f2, _⟩
      exact ⟨SqL.of f1, all_dat f2⟩
    · rintro r u xu σ H4 H5 hr' ⟨g, ts', os', rfl, e4, hd4, hk4, hp4, ho4, wk4, ht4, f1, f2, f3⟩ e45 hxu
      have hul := List.mem_of_getElem? hr'
      have hd5 := e45 _ _ hd4
      have hp5 := e45 _ _ hp4
      have hk5 := hk4.ld e45.ld
      have ho5 := ho4.ex e45
      have wk5 := wk4.lt e45.lt
      have f15 := e45 _ _ f1
      have f25 := f2.ex e45
      have e5 := e4.trans e45
      have hxu : Dp K H5 xu (dat u) := hxu
      obtain ⟨bu, _, _, rfl, _⟩ := dp_pair hxu
      have lo5 : os'.length = ts'.length := by rw [dpAll_len ho5, List.length_map, List.length_map]
      refine ⟨_, rfl, _, rfl, ts', u, ⟨bu, d, rfl, rfl, .inl hd5, hk5, hxu⟩, _, rfl, ?_⟩
      by_cases hm : u ∈ ts'.map (·.1)
      · refine dNP hm ⟨_, ts', os', rfl, e5, hd5, hk5, hp5, ho5, wk5, ht4, f15, f25, fun y hy => ?_⟩
        rw [take_snoc hr'] at hy
        rcases List.mem_append.mp hy with hy | hy
        · exact f3 y hy
        · rw [List.mem_singleton.mp hy]
          exact hm
      · obtain ⟨vo', hvo', dvo'⟩ := all_at (all_dat ho5) (show (ts'.map (·.1))[i]? = some t.1 by rw [List.getElem?_map, ht4]; rfl)
        have dvo' : Dp K H5 vo' (dat t.1) := dvo'
        obtain ⟨bo, _, _, rfl, _⟩ := dp_pair dvo'
        have l5 := wk5.few
        refine dNN hm ⟨_, rfl, _, rfl, p, os', (i : Int), .ref bo, rfl, rfl, SqL.of hp5, atI_nat hvo', ?_⟩
        refine ⟨_, rfl, _, rfl, ts', u, bu, d, rfl, rfl, hd5, hk5, hxu, by rw [sizeLine_eq]; omega, ?_⟩
        have lt6 : Lt H5 (upd H5 d (DN P w d (putE ts' u bu (.ref bo)))) := Lt.mut (noT_DN hd5)
        have e6 := e5.mut (o := DN P w d (putE ts' u bu (.ref bo))) hd
        have en := putE_new hm bu (.ref bo)
        have hd6 : (upd H5 d (DN P w d (putE ts' u bu (.ref bo)))) d = some (DN P w d (putE ts' u bu (.ref bo))) := upd_same
        have hp6 : (upd H5 d (DN P w d (putE ts' u bu (.ref bo)))) p = some (.lst os') := (upd_ne (Ne.symm dp')).trans hp5
        have hpp6 : (upd H5 d (DN P w d (putE ts' u bu (.ref bo)))) pp = some (.lst ys) := (upd_ne ppd).trans f15
        have wk6 := wk5.snoc (b := bu) ht4 ((hmv u).mp hul) hm (hbd u hul) dvo'
        rw [en] at hd6 e6 hp6 hpp6 lt6 ⊢
        show (fun H6 => _) (upd H5 d (DN P w d (ts' ++ [(u, bu, V.ref bo)])))
        generalize upd H5 d (DN P w d (ts' ++ [(u, bu, V.ref bo)])) = H6 at hd6 e6 hp6 hpp6 lt6
        refine ⟨_, rfl, .inl ⟨rfl, _, SqL.of hp6⟩, _, rfl, p, _, _, rfl, rfl, hp6, by rw [sizeLine_eq]; omega, ?_⟩
        have lt7 : Lt H6 (upd H6 p (.lst (os' ++ [.ref bu]))) := Lt.mut (noT_lst hp6)
        have lt57 := lt6.trans lt7
        refine ⟨_, ts' ++ [(u, bu, V.ref bo)], os' ++ [.ref bu], rfl, e6.mut pn, (upd_ne dp').trans hd6, ?_, upd_same, ?_, wk6.lt lt57, ?_, (upd_ne ppp).trans hpp6, dats_lt lt57 f25, fun y hy => ?_⟩
        · intro t1 h1
          rcases List.mem_append.mp h1 with h1 | h1
          · exact dat_lt lt57 (hk5 t1 h1)
          · rw [List.mem_singleton.mp h1]
            exact dat_lt lt57 hxu
        · rw [List.map_append, List.map_append]
          exact dpAll_snoc (dats_lt lt57 ho5) (dat_lt lt57 hxu)
        · rw [List.getElem?_append_left (List.getElem?_eq_some_iff.mp ht4).1]
          exact ht4
        · rw [take_snoc hr'] at hy
          rw [List.map_append]
          rcases List.mem_append.mp hy with hy | hy
          · exact List.mem_append.mpr (.inl (f3 y hy))
          · exact List.mem_append.mpr (.inr hy)
    · rintro σ H4 ⟨g, ts', os', rfl, e4, hd4, hk4, hp4, ho4, wk4, ht4, f1, f2, f3⟩
      rw [List.take_length] at f3
      have hi4 : i < ts'.length := (List.getElem?_eq_some_iff.mp ht4).1
      have l4 := wk4.few
      refine ⟨_, rfl, _, _, rfl, rfl, 200 - (i + 1), by omega, g, i + 1, ts', os', rfl, e4, hd4, hk4, hp4, ho4, ⟨wk4.nd, wk4.first, wk4.par, fun j t1 u h1 h2 h3 => ?_, wk4.bd⟩, hi4, rfl⟩
      rcases Nat.lt_or_ge j i with hj | hj
      · exact wk4.cl j t1 u hj h2 h3
      · have : j = i := by omega
        subst this
        rw [ht4] at h2
        cases h2
        exact f3 u ((hmv u).mpr h3)
  · have hie : i = ts.length := by omega
    subst hie
    exact ifN (by omega) ⟨_, rfl, k d ts H2 e2 hd hd2 hk2 wk⟩
end
end K26

set_option Elab.async false
set_option linter.all false
set_option maxRecDepth 100000
set_option maxHeartbeats 4000000
/-! answers: the canonical lists; want_pair, asked. -/
namespace K26
open PySem PySem.Spec PyProof.Rows L2
open Ky C8
/-! ### sorted lists are canonical -/
abbrev leS (p q : Spot) : Prop := p.1 < q.1 ∨ (p.1 = q.1 ∧ p.2 ≤ q.2)
theorem spot_le : (PySem.W.dataLe false (dat : Spot → PyData)) = fun p q : Spot => decide (leS p q) := by
  have h : (dat : Spot → PyData) = fun b : Spot => PyData.tuple [.int (b.1 : Int), .int (b.2 : Int)] := rfl
  rw [h, PySem.W.dataLe_ii (fun b : Spot => (b.1 : Int)) (fun b => (b.2 : Int))]
  funext p q
  unfold leS
  rw [Bool.eq_iff_iff, decide_eq_true_iff, decide_eq_true_iff]
  omega
theorem nat_le : (PySem.W.dataLe false (dat : Nat → PyData)) = fun p q : Nat => decide (p ≤ q) := by
  have h : (dat : Nat → PyData) = fun b : Nat => PyData.int (b : Int) := rfl
  rw [h, PySem.W.dataLe_int (fun b : Nat => (b : Int))]
  funext p q
  rw [Bool.eq_iff_iff, decide_eq_true_iff, decide_eq_true_iff]
  omega
theorem srt_spot (l : List Spot) : (srt l).Pairwise leS := by
  unfold srt
  rw [spot_le]
  refine (List.pairwise_mergeSort (fun a b c h1 h2 => ?_) (fun a b => ?_) l).imp fun h => of_decide_eq_true h
  · have h1 := of_decide_eq_true h1
    have h2 := of_decide_eq_true h2
    unfold leS at h1 h2
    refine decide_eq_true ?_
    unfold leS
    omega
  · rw [Bool.or_eq_true, decide_eq_true_iff, decide_eq_true_iff]
    unfold leS
    omega
theorem srt_nat (l : List Nat) : (srt l).Pairwise (· ≤ ·) := by
  unfold srt
  rw [nat_le]
  refine (List.pairwise_mergeSort (fun a b c h1 h2 => ?_) (fun a b => ?_) l).imp fun h => of_decide_eq_true h
  · have h1 := of_decide_eq_true h1
    have h2 := of_decide_eq_true h2
    exact decide_eq_true (by omega)
  · rw [Bool.or_eq_true, decide_eq_true_iff, decide_eq_true_iff]
    omega
theorem srt_spot_eq {l m : List Spot} (hl : l.Nodup) (hm : m.Nodup) (h : ∀ u, u ∈ l ↔ u ∈ m) : srt l = srt m := by
  refine List.Perm.eq_of_pairwise (le := leS) (fun a b _ _ h1 h2 => ?_) (srt_spot l) (srt_spot m) ((srt_perm l).trans (((List.perm_ext_iff_of_nodup hl hm).mpr h).trans (srt_perm m).symm))
  unfold leS at h1 h2
  exact Prod.ext (by omega) (by omega)
theorem asc_eq {l m : List Nat} (hl : l.Pairwise (· ≤ ·)) (hm : m.Pairwise (· ≤ ·)) (dl : l.Nodup) (dm : m.Nodup) (h : ∀ u, u ∈ l ↔ u ∈ m) : l = m :=
  List.Perm.eq_of_pairwise (le := (· ≤ ·)) (fun a b _ _ h1 h2 => Nat.le_antisymm h1 h2) hl hm ((List.perm_ext_iff_of_nodup dl dm).mpr h)
theorem cl_asc (n : Nat) (f : Nat → Bool) : (cl n f).Pairwise (· < ·) := List.Pairwise.sublist List.filter_sublist List.pairwise_lt_range
theorem srt_cl {l : List Nat} {n : Nat} {f : Nat → Bool} (nd : l.Nodup) (h : ∀ u, u ∈ l ↔ u < n ∧ f u = true) : srt l = cl n f :=
  asc_eq (srt_nat l) ((cl_asc n f).imp fun h => Nat.le_of_lt h) ((srt_perm l).nodup_iff.mpr nd) (lt_nodup (cl_asc n f)) fun u => by rw [mem_srt, mem_cl, h]
theorem asc_cl {l : List Nat} {n : Nat} {f : Nat → Bool} (nd : l.Pairwise (· < ·)) (h : ∀ u, u ∈ l ↔ u < n ∧ f u = true) : l = cl n f :=
  asc_eq (nd.imp fun h => Nat.le_of_lt h) ((cl_asc n f).imp fun h => Nat.le_of_lt h) (lt_nodup nd) (lt_nodup (cl_asc n f)) fun u => by rw [mem_cl, h]
theorem cp_nodup (n : Nat) (R : Nat → Nat → Bool) : (cp n R).Nodup := by
  unfold cp List.Nodup
  rw [List.pairwise_flatMap]
  refine ⟨fun i hi => ?_, ?_⟩
  · rw [List.pairwise_map]
    refine (cl_asc n (R i)).imp fun {a b} h e => ?_
    injection e with _ e
    omega
  · refine List.pairwise_lt_range.imp fun {a b} h x hx y hy e => ?_
    obtain ⟨_, _, rfl⟩ := List.mem_map.mp hx
    obtain ⟨_, _, rfl⟩ := List.mem_map.mp hy
    injection e with e _
    omega
/-- the answer, sorted -/
noncomputable def askL (S : Sto) (q : Qs) : List Spot := srt (cp S.n fun x y => dec (ans (tieE S.ties) q x y))
theorem mem_askL {S : Sto} {q : Qs} {u : Spot} : u ∈ askL S q ↔ u.1 < S.n ∧ u.2 < S.n ∧ ans (tieE S.ties) q u.1 u.2 := by
  unfold askL
  rw [mem_srt, mem_cp, dec_iff]
theorem askL_len (S : Sto) (q : Qs) : (askL S q).length ≤ S.n * S.n := by
  refine spots_few ((srt_perm _).nodup_iff.mpr (cp_nodup _ _)) fun u hu => ?_
  have := mem_askL.mp hu
  exact ⟨this.1, this.2.1⟩
theorem askL_eq {S : Sto} {q q' : Qs} (h : ∀ x y, ans (tieE S.ties) q x y ↔ ans (tieE S.ties) q' x y) : askL S q = askL S q' := by
  unfold askL
  congr 1
  exact cp_congr fun i j _ _ => by rw [Bool.eq_iff_iff, dec_iff, dec_iff, h]
section
variable {P : Program} {w : World} {K : PySem.W.Frag} {mg : Str → Option Value} {base : Heap} {CS CQ f : Addr} {fd : FuncData}
theorem sc_want_pair : FnScope ["store", "start", "end"] ["store", "start", "end"] (defScope y_want_pair) := ⟨rfl, rfl, rfl, by decide +kernel, rfl, by decide +kernel, by decide +kernel⟩
def sp_want_pair (P : Program) (w : World) (K : PySem.W.Frag) (CS : Addr) : Sp := spU fun vs H => ∃ (v : V) (S : Sto) (x y : Nat), vs = [v, .int (x : Int), .int (y : Int)] ∧ SAt P w K CS H v S ∧ x < S.n ∧ y < S.n
theorem c_want_pair (T : Tx K mg CS CQ) (F : Fx K mg "want_pair" y_want_pair ["store", "start", "end"] f fd) (c_want_node : Cal P w K mg base 3 "want_node" sp_want_node []) : Cal P w K mg base 4 "want_pair" (sp_want_pair P w K CS) [] := by
  refine F.cal sc_want_pair (fun vs H Q E h => ?_) (fun cdv A outer s H vs Q E hr h => ?_)
  · obtain ⟨⟨v, S, x, y, rfl, _⟩, _⟩ := h
    rfl
  obtain ⟨⟨v, S, x, y, rfl, hs, hx, hy⟩, k⟩ := h
  refine ⟨_, (pss_cons (ps_expr (pe_c c_want_node hr (by decide) (by rfl) (pa_cons (k_fld (K := K) rfl (pv 0)) (pa_cons (pv 1) pa_nil))))
    (pss_one (ps_expr (pe_c c_want_node hr (by decide) (by rfl) (pa_cons (k_fld (K := K) rfl (pv 0)) (pa_cons (pv 2) pa_nil)))))), ?_⟩
  obtain ⟨sa, sdx, d, ts0, g, rfl, s1⟩ := hs.sf
  refine ⟨_, rfl, sa, CS, sdx, _, _, rfl, s1.h, T.cS, T.n_nodes, rfl, _, rfl, ⟨S.n, x, rfl, hx⟩, fun H1 e1 => ?_⟩
  exact ⟨_, rfl, sa, CS, sdx, _, _, rfl, e1 _ _ s1.h, T.cS, T.n_nodes, rfl, _, rfl, ⟨S.n, y, rfl, hy⟩, fun H2 e2 => k H2 (e1.trans e2)⟩
theorem sc_asked : FnScope ["store", "question", "found", "start", "there", "node", "standing"] ["store", "question"] (defScope y_asked) := ⟨rfl, rfl, rfl, by decide +kernel, rfl, by decide +kernel, by decide +kernel⟩
def sp_asked (P : Program) (w : World) (K : PySem.W.Frag) (CS CQ : Addr) : Sp := fun vs H Q _ => ∃ (v v2 : V) (S : Sto) (q : Qs), vs = [v, v2] ∧ SAt P w K CS H v S ∧ QAt K CQ H v2 q ∧
  ∀ (pp : Addr) (ys : List V) (H' : Hp), Ex H H' → H' pp = some (.lst ys) → DpAll K H' ys ((askL S q).map dat) → Q (.ref pp) H'
theorem c_asked (T : Tx K mg CS CQ) (F : Fx K mg "asked" y_asked ["store", "question"] f fd) (c_walked : Cal P w K mg base 3 "walked" (sp_walked P w K CS CQ) []) : Cal P w K mg base 4 "asked" (sp_asked P w K CS CQ) [] := by
  refine F.cal sc_asked (fun vs H Q E h => ?_) (fun cdv A outer s H vs Q E hr h => ?_)
  · obtain ⟨v, v2, S, q, rfl, _⟩ := h
    rfl
  obtain ⟨v, v2, S, q, rfl, hs, hq, k⟩ := h
  have hu := hu100 hr
  have hu1 := hu_of hr
  refine ⟨_, (pss_cons (pset 2 sc_asked.nd (k_new (α := Nat × Nat) (O := ⟨P, w, K⟩) rfl))
    (pss_cons (ps_for PassesOwn.never rfl (pi_range1 (by rfl) T.range (pa_cons (k_fld (K := K) rfl (pv 0)) pa_nil)) (pn 3 sc_asked.nd) (pss_cons (pset 4 sc_asked.nd (pe_c c_walked hr (by decide) (by rfl) (pa_cons (pv 0) (pa_cons (pv 1) (pa_cons (pv 3) pa_nil)))))
    (pss_one (ps_expr (k_bm (α := Nat × Nat) (O := ⟨P, w, K⟩) rfl PySem.F.slot_dict_update PySem.F.type_dict_update (k_updN (hT := fun _ => ⟨_, rfl⟩) (α := Nat × Nat) (O := ⟨P, w, K⟩) hu rfl) (pv 2) (pa_cons (k_dc (own := [("node", 5), ("standing", 6)]) (kd := kdN (Nat × Nat) P w K) rfl hu rfl sc_asked.nd ((k_NF (α := Nat × Nat) (O := ⟨P, w, K⟩) rfl (pv 4))) (blkOk_by (by kernel_rfl)) (fun _ _ _ _ _ => (k_gtup (n := 2) (K := K) rfl rfl (pgs_cons (pn 5 sc_asked.nd) (pgs_cons (pn 6 sc_asked.nd) pgs_nil)))) (fun _ _ _ _ _ => (pts_one (pt_cmpR (k_in (α := Nat) (O := ⟨P, w, K⟩) hu rfl) (pv 6) (k_fld (K := K) rfl (pv 1)) (by rfl)))) (fun _ _ _ _ _ => (pe_tup (pa_cons (pv 3) (pa_cons (pv 5) pa_nil)))) (fun _ _ _ _ _ => pe_bl)) pa_nil))))))
    (pss_one (ps_ret (pe_callB (k_srtN (α := Nat × Nat) (O := ⟨P, w, K⟩) hu rfl rfl) (by rfl) T.sorted (by decide +kernel) (pa_cons (pv 2) pa_nil)))))), ?_⟩
  obtain ⟨sa, sdx, sd, ts0, g, rfl, s1⟩ := hs.sf
  have n40 := s1.n2
  obtain ⟨a, dx, st, en, fr, rfl, qf⟩ := hq
  have q3 := qf.ok.n3
  intro d hd
  have e0 : Ex H (upd H d (DN (α := Spot) P w d [])) := Ex.new hd
  have hd0 : (upd H d (DN (α := Spot) P w d [])) d = some (DN (α := Spot) P w d []) := upd_same
  show (fun H0 => _) (upd H d (DN (α := Spot) P w d []))
  generalize upd H d (DN (α := Spot) P w d []) = H0 at e0 hd0
  refine ⟨_, rfl, sa, CS, sdx, _, _, rfl, e0 _ _ s1.h, T.cS, T.n_nodes, rfl, (S.n : Int), rfl, by omega, by omega, ?_⟩
  refine for_tw (tw_range (K := K) (n := S.n)) (fun i σ H' => ∃ (b3 b4 b5 b6 : Option V) (fs : List (En Spot)), σ = [some (.ref sa), some (.ref a), some (.ref d), b3, b4, b5, b6] ∧ Ex H H' ∧ H' d = some (DN P w d fs) ∧ Keys K H' fs ∧ (fs.map (·.1)).Nodup ∧ ∀ u : Spot, u ∈ fs.map (·.1) ↔ u.1 < i ∧ u.1 < S.n ∧ u.2 < S.n ∧ ans (tieE S.ties) q u.1 u.2)
    ⟨_, _, _, _, [], rfl, e0, hd0, Keys.nil, List.nodup_nil, fun u => ⟨fun h => (nomatch h), fun h => absurd h.1 (by omega)⟩⟩ (fun _ _ _ _ _ => trivial) ?_ ?_
  · rintro i x xv σ H1 H2 hi ⟨_, _, _, _, fs, rfl, e1, hd1, hk1, nd1, m1⟩ e12 hxv
    have hxi : x = i ∧ i < S.n := by
      have h := List.getElem?_eq_some_iff.mp hi
      obtain ⟨h1, h2⟩ := h
      rw [List.getElem_range] at h2
      rw [List.length_range] at h1
      exact ⟨h2.symm, h1⟩
    obtain ⟨rfl, hx⟩ := hxi
    have hxv := dp_nat hxv
    subst hxv
    have hd2 := e12 _ _ hd1
    have hk2 := hk1.ld e12.ld
    have e2 := e1.trans e12
    have fewf : fs.length ≤ S.n * S.n := by
      have := spots_few (n := S.n) (m := S.n) nd1 fun u hu => by
        have := (m1 u).mp hu
        exact ⟨this.2.1, this.2.2.1⟩
      rwa [List.length_map] at this
    have few : S.n * S.n ≤ 1600 := Nat.le_trans (Nat.mul_le_mul n40 n40) (by decide)
    have few2 : S.n * q.n ≤ 120 := Nat.le_trans (Nat.mul_le_mul n40 q3) (by decide)
    refine ⟨_, rfl, _, rfl, _, rfl, .ref sa, .ref a, S, q, x, rfl, (s1.ex e2).sat, ⟨a, dx, st, en, fr, rfl, qf.ex e2⟩, hx, fun d3 ts H3 e3 hd3n hd3 hk3 wk => ?_⟩
    have wl := wk.few
    refine ⟨_, rfl, ⟨d, fs, rfl, .inl (e3 _ _ hd2)⟩, _, rfl, d3, ts, rfl, hd3, fun o D hD => ?_⟩
    have e24 : Ex H2 (upd H3 d3 (.frz o (DN P w d3 ts))) := e3.mut hd3n
    have fz : (upd H3 d3 (.frz o (DN P w d3 ts))) d3 = some (.frz o (DN P w d3 ts)) := upd_same
    have hk4 : Keys K (upd H3 d3 (.frz o (DN P w d3 ts))) ts := hk3.lt (Lt.mut (noT_DN hd3))
    show (fun H4 => _) (upd H3 d3 (.frz o (DN P w d3 ts)))
    generalize upd H3 d3 (.frz o (DN P w d3 ts)) = H4 at hD e24 fz hk4
    have e04 := e2.trans e24
    refine dc_tw (by decide) (tw_N (K := K)) (fun u : Spot => if u.2 ∈ q.ends then some ((x, u.1) : Nat × Nat) else none) hD (fun H' e => ⟨e _ _ fz, hk4.ld e.ld⟩) (by rw [List.length_map, sizeLine_eq]; omega) (fun u xu H5 ts5 N M hu5 e5 hts5 hxu hN hM => ?_) fun H5 more e5 hts hk5 ek => ?_
    · have hxu : Dp K H5 xu (dat u) := hxu
      obtain ⟨T1, y1, y2, rfl, hT1, d1, d2⟩ := dp_pair hxu
      have d1 := dp_nat d1
      subst d1
      have q5 := qf.ex (e04.trans e5)
      refine ⟨_, _, rfl, hT1, rfl, _, _, rfl, _, _, rfl, rfl, rfl, ?_⟩
      refine ⟨_, rfl, _, rfl, a, CQ, dx, _, _, rfl, q5.h, T.cQ, T.q_ends, rfl, q.ends, u.2, d2, .inl q5.en, _, rfl, ?_⟩
      by_cases hm : u.2 ∈ q.ends
      · exact dP hm ⟨_, rfl, _, rfl, by show 2 ≤ sizeLine; decide, fun T2 hT2 => hN (x, u.1) _ _ _ (by rw [if_pos hm]) (Ex.new hT2) (pair_dp sqt_new (nat_dp _) (nat_dp _)) ⟨_, rfl⟩⟩
      · exact dN hm (hM (by rw [if_neg hm]) H5 (.refl H5))
    · have hD5 := (e24.trans e5) _ _ hd2
      have dD : d ≠ D := fun z => by rw [← z, e24 _ _ hd2] at hD; cases hD
      have memk : ∀ u : Spot, u ∈ more.map (·.1) ↔ u.1 = x ∧ u.2 < S.n ∧ ans (tieE S.ties) q x u.2 := by
        intro u
        rw [ek, mem_keysOf, List.mem_filterMap]
        constructor
        · rintro ⟨t, ht, h⟩
          split at h
          · rename_i hm
            have h := Option.some.inj h
            subst h
            exact ⟨rfl, (wk.bd t ht).1, t.2, hm, (wk.all t).mp ht⟩
          · cases h
        · rintro ⟨h1, h2, e, he, hr⟩
          refine ⟨(u.2, e), (wk.all _).mpr hr, ?_⟩
          rw [if_pos he, ← h1]
      have ndk : (more.map (·.1)).Nodup := by
        rw [ek]
        exact keysOf_nodup _
      have lenk : more.length ≤ 120 := by
        have h1 : more.length = (more.map (·.1)).length := by rw [List.length_map]
        rw [ek] at h1
        have h2 := keysOf_len ((ts.map (·.1)).filterMap fun u : Spot => if u.2 ∈ q.ends then some ((x, u.1) : Nat × Nat) else none)
        have h3 := List.length_filterMap_le (fun u : Spot => if u.2 ∈ q.ends then some ((x, u.1) : Nat × Nat) else none) (ts.map (·.1))
        rw [List.length_map] at h3
        omega
      refine ⟨fs, more, d, D, rfl, rfl, dD, hD5, .inl hts, hk2.ld (e24.trans e5).ld, hk5, hash_nd w ndk (fun s hs t ht e => ?_), by rw [sizeLine_eq]; omega, ?_⟩
      · obtain ⟨a1, a2, _⟩ := (memk s).mp hs
        obtain ⟨b1, b2, _⟩ := (memk t).mp ht
        rw [a1, b1] at e
        have := h2_r (by omega) (by omega) (by omega) e
        exact Prod.ext (a1.trans b1.symm) this
      refine ⟨_, _, _, _, putAllE fs more, rfl, (e04.trans e5).mut hd, upd_same, ?_, putAllE_nd nd1, fun u => ?_⟩
      · exact ((hk2.ld (e24.trans e5).ld).putAll hk5).lt (Lt.mut (noT_DN hD5))
      · rw [mem_putAllE, m1, memk]
        constructor
        · rintro (h | ⟨h1, h2, h3⟩)
          · exact ⟨by omega, h.2⟩
          · exact ⟨by omega, by omega, h2, by rw [h1]; exact h3⟩
        · rintro ⟨h1, h2, h3, h4⟩
          rcases Nat.lt_or_ge u.1 x with h | h
          · exact .inl ⟨h, h2, h3, h4⟩
          · have : u.1 = x := by omega
            exact .inr ⟨this, h3, by rw [← this]; exact h4⟩
  · rintro σ H2 ⟨_, _, _, _, fs, rfl, e2, hd2, hk2, nd2, m2⟩
    rw [List.length_range] at m2
    refine ⟨_, rfl, d, fs, rfl, .inl hd2, hk2, fun ys pp dy hpp => k pp ys _ (e2.put hpp) upd_same ?_⟩
    have : srt (fs.map (·.1)) = askL S q := srt_spot_eq nd2 (cp_nodup _ _) fun u => by
      rw [m2, mem_cp, dec_iff]
      exact ⟨fun h => h.2, fun h => ⟨h.1, h⟩⟩
    rw [← this]
    exact dy.ex (Ex.new hpp)
end
end K26

set_option Elab.async false
set_option linter.all false
set_option maxRecDepth 100000
set_option maxHeartbeats 4000000
/-! answers: reason, is_spot, is_reason. -/
namespace K26
open PySem PySem.Spec PyProof.Rows L2
open Ky C8
theorem k_rev {X : Cx} {K : PySem.W.Frag} {e : Expr} {te : TE} {k : Nat} {p1 p2 p3 pos : Pos} (hK : X.K = K) (he : PE X e te) : PE X (.Subscript e (.Slice none none (some (.UnaryOp .USub (.Constant (.int 1) k p1) p2)) p3) pos) (tRevL K te) := hK ▸ pe_revL he
theorem dT {p : Prop} {i : Decidable p} (h : p) : @decide p i = true := decide_eq_true h
theorem dF {p : Prop} {i : Decidable p} (h : ¬ p) : @decide p i = false := decide_eq_false h
/-- a reason: a chain of moves from (x, 0) to an end at y -/
structure Pth (E : Edge) (q : Qs) (x y n : Nat) (l : List Spot) : Prop where
  hd : l[0]? = some (x, 0)
  la : ∃ e, e ∈ q.ends ∧ l[l.length - 1]? = some (y, e)
  st : ∀ i u v, l[i]? = some u → l[i + 1]? = some v → mv E q u v
  bd : ∀ u ∈ l, u.1 < n ∧ u.2 < q.n
  len : l.length ≤ 120
theorem atE_at {α : Type} [DecidableEq α] {ts : List (En α)} (nd : (ts.map (·.1)).Nodup) {j : Nat} {t : En α} (h : ts[j]? = some t) : atE ts t.1 = some t.2.2 := by
  induction ts generalizing j with
  | nil => simp at h
  | cons a ts ih =>
    rw [List.map_cons, List.nodup_cons] at nd
    rw [atE_cons]
    cases j with
    | zero =>
      have h : a = t := by simpa using h
      rw [h, if_pos rfl]
    | succ j =>
      have h : ts[j]? = some t := by simpa using h
      have : a.1 ≠ t.1 := fun e => nd.1 (by rw [e]; exact List.mem_map.mpr ⟨t, List.mem_of_getElem? h, rfl⟩)
      rw [if_neg this]
      exact ih nd.2 h
theorem dpAll_rev {K : PySem.W.Frag} {H : Hp} : ∀ {vs : List V} {ds : List PyData}, DpAll K H vs ds → DpAll K H vs.reverse ds.reverse
  | _, _, .nil => .nil
  | _, _, .cons a b => by
    rw [List.reverse_cons, List.reverse_cons]
    exact dpAll_snoc (dpAll_rev b) a
/-- the chain found so far, from its end backwards -/
structure Chn (E : Edge) (q : Qs) (n : Nat) (g : Spot) (l : List Spot) : Prop where
  hd : l[0]? = some g
  st : ∀ i u v, l[i]? = some u → l[i + 1]? = some v → mv E q v u
  bd : ∀ u ∈ l, u.1 < n ∧ u.2 < q.n
theorem Chn.snoc {E : Edge} {q : Qs} {n : Nat} {g : Spot} {fl : List Spot} {u v : Spot} (c : Chn E q n g (fl ++ [u])) (h : mv E q v u) (hb : v.1 < n ∧ v.2 < q.n) : Chn E q n g ((fl ++ [u]) ++ [v]) := by
  refine ⟨?_, fun i a b h1 h2 => ?_, fun a ha => ?_⟩
  · rw [List.getElem?_append_left (by simp)]
    exact c.hd
  · rcases Nat.lt_or_ge (i + 1) (fl ++ [u]).length with hi | hi
    · rw [List.getElem?_append_left (by omega)] at h1
      rw [List.getElem?_append_left hi] at h2
      exact c.st i a b h1 h2
    · have hlt := (List.getElem?_eq_some_iff.mp h2).1
      rw [List.length_append, List.length_singleton] at hlt
      have ei : i = fl.length := by
        rw [List.length_append, List.length_singleton] at hi hlt
        omega
      subst ei
      have e1 : ((fl ++ [u]) ++ [v])[fl.length]? = some u := by simp
      have e2 : ((fl ++ [u]) ++ [v])[fl.length + 1]? = some v := by simp
      rw [e1] at h1
      rw [e2] at h2
      cases h1
      cases h2
      exact h
  · rcases List.mem_append.mp ha with ha | ha
    · exact c.bd a ha
    · rw [List.mem_singleton.mp ha]
      exact hb
theorem Chn.pth {E : Edge} {q : Qs} {x y e n : Nat} {fl : List Spot} (c : Chn E q n (y, e) (fl ++ [(x, 0)])) (he : e ∈ q.ends) (hl : (fl ++ [((x, 0) : Spot)]).length ≤ 120) : Pth E q x y n (fl ++ [(x, 0)]).reverse := by
  refine ⟨by simp, ⟨e, he, ?_⟩, fun i u v h1 h2 => ?_, fun u hu => c.bd u (List.mem_reverse.mp hu), by rw [List.length_reverse]; exact hl⟩
  · rw [List.length_reverse, List.getElem?_reverse (by simp)]
    rw [show (fl ++ [((x, 0) : Spot)]).length - 1 - ((fl ++ [((x, 0) : Spot)]).length - 1) = 0 by omega]
    exact c.hd
  · have l2 := (List.getElem?_eq_some_iff.mp h2).1
    rw [List.length_reverse] at l2
    rw [List.getElem?_reverse (by omega)] at h1
    rw [List.getElem?_reverse (by omega)] at h2
    refine c.st _ v u h2 ?_
    rw [show (fl ++ [((x, 0) : Spot)]).length - 1 - (i + 1) + 1 = (fl ++ [((x, 0) : Spot)]).length - 1 - i by omega]
    exact h1
section
variable {P : Program} {w : World} {K : PySem.W.Frag} {mg : Str → Option Value} {base : Heap} {CS CQ f : Addr} {fd : FuncData}
theorem sc_reason : FnScope ["store", "question", "start", "end", "ahead", "goals", "found", "here"] ["store", "question", "start", "end"] (defScope y_reason) := ⟨rfl, rfl, rfl, by decide +kernel, rfl, by decide +kernel, by decide +kernel⟩
def sp_reason (P : Program) (w : World) (K : PySem.W.Frag) (CS CQ : Addr) : Sp := fun vs H Q _ => ∃ (v v2 : V) (S : Sto) (q : Qs) (x y : Nat), vs = [v, v2, .int (x : Int), .int (y : Int)] ∧ SAt P w K CS H v S ∧ QAt K CQ H v2 q ∧ x < S.n ∧ y < S.n ∧
  (∀ H', Ex H H' → ¬ ans (tieE S.ties) q x y → Q .non H') ∧ (∀ (pp : Addr) (ys : List V) (l : List Spot) (H' : Hp), Ex H H' → H' pp = some (.lst ys) → DpAll K H' ys (l.map dat) → Pth (tieE S.ties) q x y S.n l → Q (.ref pp) H')
theorem c_reason (T : Tx K mg CS CQ) (F : Fx K mg "reason" y_reason ["store", "question", "start", "end"] f fd) (c_want_pair : Cal P w K mg base 4 "want_pair" (sp_want_pair P w K CS) []) (c_walked : Cal P w K mg base 3 "walked" (sp_walked P w K CS CQ) []) : Cal P w K mg base 5 "reason" (sp_reason P w K CS CQ) [] := by
  refine F.cal sc_reason (fun vs H Q E h => ?_) (fun cdv A outer s H vs Q E hr h => ?_)
  · obtain ⟨v, v2, S, q, x, y, rfl, _⟩ := h
    rfl
  obtain ⟨v, v2, S, q, x, y, rfl, hs, hq, hx, hy, kn, ky⟩ := h
  have hu := hu100 hr
  have hu1 := hu_of hr
  refine ⟨_, (pss_cons (ps_expr (pe_c c_want_pair hr (by decide) (by rfl) (pa_cons (pv 0) (pa_cons (pv 2) (pa_cons (pv 3) pa_nil)))))
    (pss_cons (pset 4 sc_reason.nd (pe_c c_walked hr (by decide) (by rfl) (pa_cons (pv 0) (pa_cons (pv 1) (pa_cons (pv 2) pa_nil)))))
    (pss_cons (ps_setLc (i := 5) (own := [("here", 7)]) rfl sc_reason.nd rfl rfl (sw_true rfl rfl rfl (by decide +kernel)) ((k_NF (α := Nat × Nat) (O := ⟨P, w, K⟩) rfl (pv 4))) (blkOk_by (by kernel_rfl)) (fun _ _ _ _ _ => (pn 7 sc_reason.nd)) (fun _ _ _ _ _ => (pts_one (PW.pt (pw_and (pt_cmpR (op_eq) (pe_ix (k_ixt (K := K) rfl) (pv 7) pe_int (fun _ _ => rfl)) (pv 3) (by rfl)) (pw_and1 (pt_cmpR (k_in (α := Nat) (O := ⟨P, w, K⟩) hu rfl) (pe_ix (k_ixt (K := K) rfl) (pv 7) pe_int (fun _ _ => rfl)) (k_fld (K := K) rfl (pv 1)) (by rfl))))))) (fun _ _ _ _ _ => (pv 7)))
    (pss_cons (ps_if (pt_cmpR (k_eqL (α := Nat × Nat) (O := ⟨P, w, K⟩) hu rfl) (pv 5) (pe_lst pa_nil) (by rfl)) (pss_one (ps_ret pe_non)) pss_nil)
    (pss_cons (ps_par (i := 6) (j := 7) (by rfl) sc_reason.nd rfl rfl (by decide) rfl rfl (pa_cons (pe_lst pa_nil) (pa_cons (pe_ix (k_ixl (K := K) rfl) (pv 5) pe_int (fun _ _ => rfl)) pa_nil)) (by rfl))
    (pss_cons (ps_while PassesOwn.never (pt_cmpR op_notN (pv 7) pe_non (by rfl)) (pss_cons (ps_expr (pe_bm PySem.F.plainAttrs_list PySem.F.slot_list_append PySem.F.type_list_append mt_append (pv 6) (pa_cons (pv 7) pa_nil)))
    (pss_one (pset 7 sc_reason.nd (k_get (α := Nat × Nat) (O := ⟨P, w, K⟩) hu rfl (pv 4) (pv 7))))))
    (pss_one (ps_ret (k_rev (K := K) rfl (pv 6)))))))))), ?_⟩
  obtain ⟨a, dx, st, en, fr, rfl, qf⟩ := hq
  have n40 : S.n ≤ 40 := by
    obtain ⟨_, _, _, _, _, _, s1⟩ := hs.sf
    exact s1.n2
  have q3 := qf.ok.n3
  have few2 : S.n * q.n ≤ 120 := Nat.le_trans (Nat.mul_le_mul n40 q3) (by decide)
  refine ⟨_, rfl, _, rfl, _, rfl, ⟨v, S, x, y, rfl, hs, hx, hy⟩, fun H1 e1 => ?_⟩
  refine ⟨_, rfl, _, rfl, _, rfl, v, .ref a, S, q, x, rfl, hs.ex e1, ⟨a, dx, st, en, fr, rfl, qf.ex e1⟩, hx, fun d3 ts H3 e3 hd3n hd3 hk3 wk => ?_⟩
  have wl := wk.few
  refine ⟨_, rfl, d3, ts, rfl, hd3, fun o D hD => ?_⟩
  have e14 : Ex H1 (upd H3 d3 (.frz o (DN P w d3 ts))) := e3.mut hd3n
  have fz : (upd H3 d3 (.frz o (DN P w d3 ts))) d3 = some (.frz o (DN P w d3 ts)) := upd_same
  have hk4 : Keys K (upd H3 d3 (.frz o (DN P w d3 ts))) ts := hk3.lt (Lt.mut (noT_DN hd3))
  have wk4 := wk.lt (H' := upd H3 d3 (.frz o (DN P w d3 ts))) (Lt.mut (noT_DN hd3))
  show (fun H4 => _) (upd H3 d3 (.frz o (DN P w d3 ts)))
  generalize upd H3 d3 (.frz o (DN P w d3 ts)) = H4 at hD e14 fz hk4 wk4
  have e04 := e1.trans e14
  refine lc_dt (K := K) (tw_N (K := K)) (fun u : Spot => if u.1 = y ∧ u.2 ∈ q.ends then some u else none) hD (fun H' e => ⟨e _ _ fz, hk4.ld e.ld⟩) (by rw [List.length_map, sizeLine_eq]; omega) (fun u xu H5 acc N M hu5 e5 hacc hxu hN hM => ?_) fun H5 acc e5 hacc ha => ?_
  · have hxu : Dp K H5 xu (dat u) := hxu
    obtain ⟨T1, y1, y2, rfl, hT1, d1, d2⟩ := dp_pair hxu
    have d1 := dp_nat d1
    subst d1
    have q5 := qf.ex (e04.trans e5)
    refine ⟨rfl, _, rfl, T1, _, 0, .int (u.1 : Int), rfl, rfl, hT1, rfl, _, rfl, ?_⟩
    by_cases c1 : u.1 = y
    · refine ⟨rfl, _, rfl, dP (by rw [c1]) ?_⟩
      refine ⟨_, rfl, T1, _, 1, y2, rfl, rfl, hT1, rfl, _, rfl, a, CQ, dx, _, _, rfl, q5.h, T.cQ, T.q_ends, rfl, q.ends, u.2, d2, .inl q5.en, _, rfl, ?_⟩
      by_cases c2 : u.2 ∈ q.ends
      · exact dP c2 ⟨_, rfl, hN u _ H5 (by rw [if_pos ⟨c1, c2⟩]) (.refl H5) hxu⟩
      · exact dN c2 (hM (by rw [if_neg fun z => c2 z.2]) H5 (.refl H5))
    · exact ⟨rfl, _, rfl, dN (fun z => c1 (by injection z with z; omega)) (hM (by rw [if_neg fun z => c1 z.1]) H5 (.refl H5))⟩
  · generalize hG : ((ts.map (·.1)).filterMap fun u : Spot => if u.1 = y ∧ u.2 ∈ q.ends then some u else none) = G at ha
    have memG : ∀ u, u ∈ G ↔ u ∈ ts.map (·.1) ∧ u.1 = y ∧ u.2 ∈ q.ends := by
      intro u
      rw [← hG, List.mem_filterMap]
      constructor
      · rintro ⟨t, ht, h⟩
        split at h
        · rename_i hc
          cases h
          exact ⟨ht, hc⟩
        · cases h
      · rintro ⟨h1, h2⟩
        exact ⟨u, h1, by rw [if_pos h2]⟩
    have e05 := e04.trans e5
    refine ⟨_, rfl, Nat.zero_le _, fun q1 hq1 => ⟨G, [], .lst (SqL.of ((Ex.new hq1) _ _ hacc)) (ha.ex (Ex.new hq1)), .lst sql_new .nil, _, rfl, ?_⟩⟩
    have e56 : Ex H5 (upd H5 q1 (.lst [])) := Ex.new hq1
    show (fun H6 => _) (upd H5 q1 (.lst []))
    generalize upd H5 q1 (.lst []) = H6 at e56
    have e06 := e05.trans e56
    have fz6 := (e5.trans e56) _ _ fz
    have hk6 := hk4.ld (e5.trans e56).ld
    have wk6 := wk4.lt (e5.trans e56).lt
    have hacc6 := e56 _ _ hacc
    have ha6 := ha.ex e56
    by_cases hg : G = []
    · refine dP hg (kn H6 e06 ?_)
      rintro ⟨e, he, hr⟩
      have : ((y, e) : Spot) ∈ G := (memG _).mpr ⟨(wk.all _).mpr hr, rfl, he⟩
      rw [hg] at this
      cases this
    · obtain ⟨g0, hg0⟩ : ∃ g0, G[0]? = some g0 := ⟨G[0]'(List.length_pos_iff.mpr hg), List.getElem?_eq_getElem _⟩
      obtain ⟨v0, hv0, dv0⟩ := all_at (all_dat ha6) hg0
      have dv0 : Dp K H6 v0 (dat g0) := dv0
      obtain ⟨gm, g1, g2⟩ := (memG g0).mp (List.mem_of_getElem? hg0)
      obtain ⟨c0, _, _, rfl, _⟩ := dp_pair dv0
      obtain ⟨t0, ht0, et0⟩ := List.mem_map.mp gm
      obtain ⟨j0, hj0⟩ := List.mem_iff_getElem?.mp ht0
      refine dN hg ⟨Nat.zero_le _, fun p hp => ⟨_, rfl, D, acc, ((0 : Nat) : Int), .ref c0, rfl, rfl, SqL.of ((Ex.new hp) _ _ hacc6), atI_nat hv0, ⟨_, _, rfl, ?_⟩⟩⟩
      have e67 : Ex H6 (upd H6 p (.lst [])) := Ex.new hp
      have hp7 : (upd H6 p (.lst [])) p = some (.lst []) := upd_same
      show (fun H7 => _) (upd H6 p (.lst []))
      generalize upd H6 p (.lst []) = H7 at e67 hp7
      have j0l := (List.getElem?_eq_some_iff.mp hj0).1
      have bd0 := wk.bd g0 gm
      refine ⟨fun m σ H' => ∃ (fl : List Spot) (os : List V) (hv : V), σ = [some v, some (.ref a), some (.int (x : Int)), some (.int (y : Int)), some (.ref d3), some (.ref D), some (.ref p), some hv] ∧ Ex H6 H' ∧ H' p = some (.lst os) ∧ DpAll K H' os (fl.map dat) ∧
          ((∃ c j t, hv = .ref c ∧ Dp K H' (.ref c) (dat t.1) ∧ ts[j]? = some t ∧ m = j + 1 ∧ Chn (tieE S.ties) q S.n g0 (fl ++ [t.1]) ∧ fl.length + j + 1 ≤ ts.length) ∨
           (hv = .non ∧ m = 0 ∧ ∃ fl', fl = fl' ++ [(x, 0)] ∧ Chn (tieE S.ties) q S.n g0 fl ∧ fl.length ≤ ts.length)),
        ⟨j0 + 1, [], [], _, rfl, e67, hp7, .nil, .inl ⟨c0, j0, t0, rfl, by rw [et0]; exact dv0.ex e67, hj0, rfl, ⟨by rw [et0]; rfl, fun i u v h1 h2 => by simp at h2, fun u hu => by rw [List.nil_append, List.mem_singleton] at hu; rw [hu, et0]; exact bd0⟩, by simp; omega⟩⟩, ?_⟩
      rintro m σ H8 ⟨fl, os, hv, rfl, e8, hp8, ho8, hcase⟩
      have fz8 := e8 _ _ fz6
      have hk8 := hk6.ld e8.ld
      have wk8 := wk6.lt e8.lt
      have lo : os.length = fl.length := by rw [dpAll_len ho8, List.length_map]
      rcases hcase with ⟨c, j, t, rfl, dc, hj, rfl, ch, hlen⟩ | ⟨rfl, rfl, fl', rfl, ch, hlen⟩
      · refine ⟨_, rfl, rfl, _, rfl, dNN (fun z => by cases z) ⟨_, fun σ' H' h => h, ?_⟩⟩
        refine ⟨_, rfl, .inl ⟨rfl, _, SqL.of hp8⟩, _, rfl, p, _, _, rfl, rfl, hp8, by rw [sizeLine_eq]; omega, ?_⟩
        have lt9 : Lt H8 (upd H8 p (.lst (os ++ [.ref c]))) := Lt.mut (noT_lst hp8)
        have e9 : Ex H6 (upd H8 p (.lst (os ++ [.ref c]))) := e8.mut hp
        have hp9 : (upd H8 p (.lst (os ++ [.ref c]))) p = some (.lst (os ++ [.ref c])) := upd_same
        have ho9 : DpAll K (upd H8 p (.lst (os ++ [.ref c]))) (os ++ [.ref c]) ((fl ++ [t.1]).map dat) := by
          rw [List.map_append]
          exact dpAll_snoc (dats_lt lt9 ho8) (dat_lt lt9 dc)
        show (fun H9 => _) (upd H8 p (.lst (os ++ [.ref c])))
        generalize upd H8 p (.lst (os ++ [.ref c])) = H9 at lt9 e9 hp9 ho9
        have fz9 := e9 _ _ fz6
        have hk9 := hk6.ld e9.ld
        have wk9 := wk6.lt e9.lt
        refine ⟨_, rfl, _, rfl, ts, t.1, t.2.2, ⟨c, d3, rfl, rfl, .inr ⟨o, fz9⟩, hk9, dat_lt lt9 dc⟩, atE_at wk.nd hj, ?_⟩
        have jl := (List.getElem?_eq_some_iff.mp hj).1
        by_cases ej : j = 0
        · subst ej
          obtain ⟨b, hb⟩ := wk.first
          rw [hb] at hj
          cases hj
          exact ⟨0, by omega, fl ++ [(x, 0)], os ++ [.ref c], .non, rfl, e9, hp9, ho9, .inr ⟨rfl, rfl, fl, rfl, ch, by simp; omega⟩⟩
        · obtain ⟨k, t', c', k1, k2, k3, k4, k5⟩ := wk9.par j t hj ej
          exact ⟨k + 1, by omega, fl ++ [t.1], os ++ [.ref c], t.2.2, rfl, e9, hp9, ho9, .inl ⟨c', k, t', k4, k5, k2, rfl, ch.snoc k3 (wk.bd _ (List.mem_map.mpr ⟨t', List.mem_of_getElem? k2, rfl⟩)), by simp; omega⟩⟩
      · refine ⟨_, rfl, rfl, _, rfl, dNP rfl ⟨_, rfl, p, os, rfl, SqL.of hp8, fun pp hpp => ?_⟩⟩
        have e0 : g0 = (y, g0.2) := Prod.ext g1 rfl
        rw [e0] at ch
        refine ky pp _ _ _ ((e06.trans e8).put hpp) upd_same ?_ (ch.pth g2 (by omega))
        rw [List.map_reverse]
        exact dpAll_rev (ho8.ex (Ex.new hpp))
end
end K26

set_option Elab.async false
set_option linter.all false
set_option maxRecDepth 100000
set_option maxHeartbeats 4000000
/-! answers: is_spot, is_reason, denial, is_denial, row_of. -/
namespace K26
open PySem PySem.Spec PyProof.Rows L2
open Ky C8
section
variable {P : Program} {w : World} {K : PySem.W.Frag} {mg : Str → Option Value} {base : Heap} {CS CQ f : Addr} {fd : FuncData}
theorem tw_zip {α β : Type} [Ky α] [Ky β] {a b : Addr} {l : List α} {m : List β} {xs ys : List V} : TW (Itz K a b) (Dt K) (l.zip m) (fun H => (SqL K H a xs ∧ All (Dt K) l H xs) ∧ (SqL K H b ys ∧ All (Dt K) m H ys)) := by
  refine ⟨fun i H hi ⟨⟨q, r⟩, q2, r2⟩ => ?_, fun H ⟨⟨q, r⟩, q2, r2⟩ => ?_, fun i H x H' hi ⟨⟨q, r⟩, q2, r2⟩ y => ?_⟩
  · rw [List.length_zip, Paired.length r, Paired.length r2] at hi
    exact (walk_zip rfl).goes i H hi ⟨q, q2⟩
  · rw [List.length_zip, Paired.length r, Paired.length r2]
    exact (walk_zip rfl).stops H ⟨q, q2⟩
  · rw [List.length_zip, Paired.length r, Paired.length r2] at hi
    obtain ⟨T, u, v, rfl, hn, rfl, h1, h2⟩ := (walk_zip rfl).yields i H x H' hi ⟨q, q2⟩ y
    obtain ⟨b1, h3, h4⟩ := all_get r h1
    obtain ⟨b2, h5, h6⟩ := all_get r2 h2
    refine ⟨Ex.new hn, (b1, b2), ?_, pair_dp sqt_new (Dp.ex h4 (Ex.new hn)) (Dp.ex h6 (Ex.new hn))⟩
    rw [List.getElem?_zip_eq_some]
    exact ⟨h3, h5⟩
theorem atI_last {α : Type} {xs : List α} {v : α} (h : xs[xs.length - 1]? = some v) : atI xs (-1) = some v := by
  have hl := (List.getElem?_eq_some_iff.mp h).1
  unfold atI ixN
  rw [if_neg (by omega), if_pos (by omega)]
  have e : ((-1 : Int) + (xs.length : Int)).toNat = xs.length - 1 := by omega
  rw [e]
  exact h
theorem cut_tail (xs : List V) : cutV xs (some (1 : Int)) none = xs.drop 1 := by
  unfold cutV
  rw [show (1 : Int) = ((1 : Nat) : Int) from rfl, HT.sIx_nat, HT.sIx_none]
  rcases Nat.lt_or_ge xs.length 1 with h | h
  · have : xs = [] := List.eq_nil_of_length_eq_zero (by omega)
    subst this
    rfl
  · rw [Nat.min_eq_left h, List.take_of_length_le (by rw [List.length_drop]; omega)]
theorem dpAll_drop {H : Hp} : ∀ {vs : List V} {ds : List PyData}, DpAll K H vs ds → DpAll K H (vs.drop 1) (ds.drop 1)
  | _, _, .nil => .nil
  | _, _, .cons _ b => b
theorem sc_is_spot : FnScope ["store", "question", "value"] ["store", "question", "value"] (defScope y_is_spot) := ⟨rfl, rfl, rfl, by decide +kernel, rfl, by decide +kernel, by decide +kernel⟩
def sp_is_spot (P : Program) (w : World) (K : PySem.W.Frag) (CS CQ : Addr) : Sp := spB fun vs H b => ∃ (v v2 v3 : V) (S : Sto) (q : Qs) (u : Spot), vs = [v, v2, v3] ∧ SAt P w K CS H v S ∧ QAt K CQ H v2 q ∧ Dp K H v3 (dat u) ∧ u.1 < S.n ∧ u.2 < q.n ∧ b = true
theorem c_is_spot (T : Tx K mg CS CQ) (F : Fx K mg "is_spot" y_is_spot ["store", "question", "value"] f fd) (c_is_node : Cal P w K mg base 2 "is_node" sp_is_node []) (c_is_standing : Cal P w K mg base 2 "is_standing" sp_is_node []) : Cal P w K mg base 3 "is_spot" (sp_is_spot P w K CS CQ) [] := by
  refine F.cal sc_is_spot (fun vs H Q E h => ?_) (fun cdv A outer s H vs Q E hr h => ?_)
  · obtain ⟨b, ⟨v, v2, v3, S, q, u, rfl, _⟩, _⟩ := h
    rfl
  obtain ⟨b, ⟨v, v2, v3, S, q, u, rfl, hs, hq, du, h1, h2, rfl⟩, k⟩ := h
  have hu := hu100 hr
  refine ⟨_, (pss_cons (ps_if (PW.pt (pw_or (pt_not (pt_val (pe_callB (call_isi) (by rfl) T.isinstance (by decide +kernel) (pa_cons (pv 2) (pa_cons (gT (n := "tuple") (by rfl) T.tuple (by decide +kernel)) pa_nil))))) (pw_or1 (pt_cmpR (op_ne) (pe_callB (k_len (K := K) rfl) (by rfl) T.len (by decide +kernel) (pa_cons (pv 2) pa_nil)) pe_int (by rfl))))) (pss_one (ps_ret pe_bl)) pss_nil)
    (pss_one (ps_ret (pe_and (pe_c c_is_node hr (by decide) (by rfl) (pa_cons (k_fld (K := K) rfl (pv 0)) (pa_cons (pe_ix (k_ixt (K := K) rfl) (pv 2) pe_int (fun _ _ => rfl)) pa_nil))) (pe_one (pe_c c_is_standing hr (by decide) (by rfl) (pa_cons (k_fld (K := K) rfl (pv 1)) (pa_cons (pe_ix (k_ixt (K := K) rfl) (pv 2) pe_int (fun _ _ => rfl)) pa_nil)))))))), ?_⟩
  obtain ⟨sa, sdx, sd, ts0, g, rfl, s1⟩ := hs.sf
  obtain ⟨a, dx, st, en, fr, rfl, qf⟩ := hq
  obtain ⟨T0, y1, y2, rfl, hT, d1, d2⟩ := dp_pair du
  have d1 := dp_nat d1
  have d2 := dp_nat d2
  subst d1 d2
  refine ⟨_, rfl, _, _, .type "tuple", .type "tuple", true, rfl, .ty "tuple", tyT hT, kit_ty (by decide +kernel), true, rfl, iteF ?_⟩
  refine ⟨_, rfl, _, 2, rfl, .inr ⟨_, hT, rfl⟩, rfl, false, rfl, iteF ?_⟩
  refine ⟨_, rfl, sa, CS, sdx, _, _, rfl, s1.h, T.cS, T.n_nodes, rfl, _, rfl, _, _, 0, _, rfl, rfl, hT, rfl, true, ⟨S.n, u.1, rfl, by simp [h1]⟩, fun H1 e1 => ⟨true, rfl, ?_⟩⟩
  exact ⟨_, rfl, a, CQ, dx, _, _, rfl, e1 _ _ qf.h, T.cQ, T.q_stand, rfl, _, rfl, _, _, 1, _, rfl, rfl, e1.ld.sqT hT, rfl, true, ⟨q.n, u.2, rfl, by simp [h2]⟩, fun H2 e2 => k H2 (e1.trans e2)⟩
theorem sc_is_reason : FnScope ["store", "question", "start", "end", "value", "here", "there"] ["store", "question", "start", "end", "value"] (defScope y_is_reason) := ⟨rfl, rfl, rfl, by decide +kernel, rfl, by decide +kernel, by decide +kernel⟩
def sp_is_reason (P : Program) (w : World) (K : PySem.W.Frag) (CS CQ : Addr) : Sp := spB fun vs H b => ∃ (v v2 v3 : V) (S : Sto) (q : Qs) (x y : Nat) (l : List Spot), vs = [v, v2, .int (x : Int), .int (y : Int), v3] ∧ SAt P w K CS H v S ∧ QAt K CQ H v2 q ∧ x < S.n ∧ y < S.n ∧ Dp K H v3 (.list (l.map dat)) ∧ Pth (tieE S.ties) q x y S.n l ∧ b = true
theorem c_is_reason (T : Tx K mg CS CQ) (F : Fx K mg "is_reason" y_is_reason ["store", "question", "start", "end", "value"] f fd) (c_want_pair : Cal P w K mg base 4 "want_pair" (sp_want_pair P w K CS) []) (c_is_list : Cal P w K mg base 1 "is_list" (sp_is_list (K := K)) []) (c_is_spot : Cal P w K mg base 3 "is_spot" (sp_is_spot P w K CS CQ) [])
    (c_moves_from : Cal P w K mg base 2 "moves_from" (sp_moves P w K CS CQ) []) : Cal P w K mg base 5 "is_reason" (sp_is_reason P w K CS CQ) [] := by
  refine F.cal sc_is_reason (fun vs H Q E h => ?_) (fun cdv A outer s H vs Q E hr h => ?_)
  · obtain ⟨b, ⟨v, v2, v3, S, q, x, y, l, rfl, _⟩, _⟩ := h
    rfl
  obtain ⟨b, ⟨v, v2, v3, S, q, x, y, l, rfl, hs, hq, hx, hy, dl, pth, rfl⟩, k⟩ := h
  have hu := hu100 hr
  refine ⟨_, (pss_cons (ps_expr (pe_c c_want_pair hr (by decide) (by rfl) (pa_cons (pv 0) (pa_cons (pv 2) (pa_cons (pv 3) pa_nil)))))
    (pss_cons (ps_if (PW.pt (pw_or (pt_not (pt_val (pe_c c_is_list hr (by decide) (by rfl) (pa_cons (pv 4) pa_nil)))) (pw_or (pt_cmpR (op_eq) (pe_callB (k_len (K := K) rfl) (by rfl) T.len (by decide +kernel) (pa_cons (pv 4) pa_nil)) pe_int (by rfl)) (pw_or1 (pt_not (pt_val (pe_callB (k_all (K := K) rfl rfl) (by rfl) T.all (by decide +kernel) (pa_cons (pe_lc (own := [("here", 5)]) rfl sc_is_reason.nd ((k_list (K := K) rfl (pv 4))) (blkOk_by (by kernel_rfl)) (fun _ _ _ _ _ => (pn 5 sc_is_reason.nd)) (fun _ _ _ _ _ => pts_nil) (fun _ _ _ _ _ => (pe_c c_is_spot hr (by decide) (by rfl) (pa_cons (pv 0) (pa_cons (pv 1) (pa_cons (pv 5) pa_nil)))))) pa_nil)))))))) (pss_one (ps_ret pe_bl)) pss_nil)
    (pss_cons (ps_if (PW.pt (pw_or (pt_cmpR (k_ne (α := Nat × Nat) (O := ⟨P, w, K⟩) hu rfl) (pe_ix (k_ixl (K := K) rfl) (pv 4) pe_int (fun _ _ => rfl)) (pe_tup (pa_cons (pv 2) (pa_cons pe_int pa_nil))) (by rfl)) (pw_or (pt_cmpR (op_ne) (pe_ix (k_ixt (K := K) rfl) (pe_ix (k_ixl (K := K) rfl) (pv 4) (pe_un un_neg pe_int) (fun _ _ => rfl)) pe_int (fun _ _ => rfl)) (pv 3) (by rfl)) (pw_or1 (pt_cmpR (k_nin (α := Nat) (O := ⟨P, w, K⟩) hu rfl) (pe_ix (k_ixt (K := K) rfl) (pe_ix (k_ixl (K := K) rfl) (pv 4) (pe_un un_neg pe_int) (fun _ _ => rfl)) pe_int (fun _ _ => rfl)) (k_fld (K := K) rfl (pv 1)) (by rfl)))))) (pss_one (ps_ret pe_bl)) pss_nil)
    (pss_one (ps_ret (pe_callB (k_all (K := K) rfl rfl) (by rfl) T.all (by decide +kernel) (pa_cons (pe_lc (own := [("here", 5), ("there", 6)]) rfl sc_is_reason.nd ((k_zip (K := K) rfl (by rfl) T.zip (pa_cons (pv 4) (pa_cons (pe_slice sl_list (pv 4) (po_some pe_int) po_none) pa_nil)))) (blkOk_by (by kernel_rfl)) (fun _ _ _ _ _ => (k_gtup (n := 2) (K := K) rfl rfl (pgs_cons (pn 5 sc_is_reason.nd) (pgs_cons (pn 6 sc_is_reason.nd) pgs_nil)))) (fun _ _ _ _ _ => pts_nil) (fun _ _ _ _ _ => (pe_cmpR (k_in (α := Nat × Nat) (O := ⟨P, w, K⟩) hu rfl) (pv 6) (pe_c c_moves_from hr (by decide) (by rfl) (pa_cons (pv 0) (pa_cons (pv 1) (pa_cons (pv 5) pa_nil)))) (by rfl)))) pa_nil))))))), ?_⟩
  obtain ⟨pa, ys, rfl, hpa, hys⟩ := dp_lst dl
  have ll : ys.length = l.length := by rw [dpAll_len hys, List.length_map]
  obtain ⟨e, he, hla⟩ := pth.la
  have hl := pth.len
  have l0 := (List.getElem?_eq_some_iff.mp pth.hd).1
  refine ⟨_, rfl, _, rfl, _, rfl, ⟨v, S, x, y, rfl, hs, hx, hy⟩, fun H1 e1 => ?_⟩
  refine ⟨_, rfl, true, ⟨pa, rfl, .inl ⟨ys, e1.ld.sqL hpa⟩, rfl⟩, fun H2 e2 => ⟨true, rfl, iteF ?_⟩⟩
  have e02 := e1.trans e2
  refine ⟨_, rfl, _, (ys.length : Nat), rfl, .inl ⟨_, e02.ld.sqL hpa, rfl⟩, rfl, _, rfl, dN (fun z => by injection z with z; omega) ?_⟩
  refine ⟨_, rfl, pa, rfl, ⟨ys, e02.ld.sqL hpa⟩, fun D hD => ?_⟩
  refine lc_bl (tw_list (K := K) (R := Dt K) (l := l) (xs := ys)) (fun _ => true) hD (fun H' e' => ⟨(e02.trans e').ld.sqL hpa, all_dat (hys.ex (e02.trans e'))⟩) (by rw [sizeLine_eq]; omega) (fun u xu Hc acc N M hul ec hacc hxu hN => ?_) fun H3 e3 hD3 => ?_
  · have ecc := e02.trans ec
    have bu := pth.bd u hul
    exact ⟨rfl, _, rfl, _, rfl, _, rfl, true, ⟨v, v2, xu, S, q, u, rfl, hs.ex ecc, hq.ex ecc, hxu, bu.1, bu.2, rfl⟩, fun H4 e4 => hN H4 e4⟩
  have eb : (l.map fun _ => true).all id = true := by simp
  refine ⟨D, _, rfl, SqL.of hD3, true, ?_, iteF ?_⟩
  · rw [eb]
  have e03 := e02.trans e3
  obtain ⟨a, dx, st, en, fr, rfl, qf⟩ := hq
  obtain ⟨v0, hv0, dv0⟩ := all_at (all_dat hys) pth.hd
  obtain ⟨vl, hvl, dvl⟩ := all_at (all_dat hys) hla
  have dvl : Dp K H vl (dat ((y, e) : Spot)) := dvl
  obtain ⟨T1, y1, y2, rfl, hT1, d1, d2⟩ := dp_pair dvl
  have d1 := dp_nat d1
  subst d1
  rw [← ll] at hvl
  refine ⟨_, rfl, pa, ys, ((0 : Nat) : Int), v0, rfl, rfl, e03.ld.sqL hpa, atI_nat hv0, _, rfl, by show 2 ≤ sizeLine; decide, fun T2 hT2 => ?_⟩
  have e34 := Ex.new (o := .tup [V.int (x : Int), .int 0]) hT2
  refine ⟨(x, 0), (x, 0), (dv0.ex e03).ex e34, pair_dp sqt_new (nat_dp x) (nat_dp 0), _, rfl, dNP rfl ?_⟩
  have e04 := e03.trans e34
  show (fun H4 => _) (upd H3 T2 (.tup [V.int (x : Int), .int 0]))
  generalize upd H3 T2 (.tup [V.int (x : Int), .int 0]) = H4 at e04
  refine ⟨_, rfl, 1, rfl, pa, ys, -1, .ref T1, rfl, rfl, e04.ld.sqL hpa, atI_last hvl, T1, _, 0, _, rfl, rfl, e04.ld.sqT hT1, rfl, _, rfl, rfl, _, rfl, dNP rfl ?_⟩
  refine ⟨_, rfl, 1, rfl, pa, ys, -1, .ref T1, rfl, rfl, e04.ld.sqL hpa, atI_last hvl, T1, _, 1, _, rfl, rfl, e04.ld.sqT hT1, rfl, _, rfl, a, CQ, dx, _, _, rfl, e04 _ _ qf.h, T.cQ, T.q_ends, rfl, q.ends, e, d2.ex e04, .inl (qf.ex e04).en, _, rfl, dNP he ?_⟩
  refine ⟨_, rfl, _, rfl, 1, rfl, pa, ys, rfl, e04.ld.sqL hpa, fun p1 hp1 => ?_⟩
  rw [cut_tail]
  have e45 := Ex.new (o := .lst (ys.drop 1)) hp1
  have e05 := e04.trans e45
  have hp5 : (upd H4 p1 (.lst (ys.drop 1))) p1 = some (.lst (ys.drop 1)) := upd_same
  show (fun H5 => _) (upd H4 p1 (.lst (ys.drop 1)))
  generalize upd H4 p1 (.lst (ys.drop 1)) = H5 at e45 e05 hp5
  refine ⟨pa, p1, ys, _, rfl, e05.ld.sqL hpa, SqL.of hp5, fun D2 hD2 => ?_⟩
  have hyd : DpAll K H5 (ys.drop 1) ((l.drop 1).map dat) := by
    rw [List.map_drop]
    exact dpAll_drop (hys.ex e05)
  refine lc_bl (tw_zip (K := K) (l := l) (m := l.drop 1) (xs := ys) (ys := ys.drop 1)) (fun _ => true) hD2 (fun H' e' => ⟨⟨(e05.trans e').ld.sqL hpa, all_dat (hys.ex (e05.trans e'))⟩, SqL.of (e' _ _ hp5), all_dat (hyd.ex e')⟩) (by rw [List.length_zip, sizeLine_eq]; omega) (fun uv xu Hc acc N M hul ec hacc hxu hN => ?_) fun H6 e6 hD6 => ?_
  · have hxu : Dp K Hc xu (dat uv) := hxu
    obtain ⟨T3, x1, x2, rfl, hT3, dx1, dx2⟩ := dp_pair hxu
    obtain ⟨i, hi⟩ := List.mem_iff_getElem?.mp hul
    rw [List.getElem?_zip_eq_some] at hi
    obtain ⟨i1, i2⟩ := hi
    rw [List.getElem?_drop, Nat.add_comm] at i2
    have hmv0 := pth.st i _ _ i1 i2
    have bu := pth.bd uv.1 (List.mem_of_getElem? i1)
    have ecc := e05.trans ec
    refine ⟨_, _, rfl, hT3, rfl, _, _, rfl, _, _, rfl, rfl, rfl, ?_⟩
    refine ⟨_, rfl, _, rfl, _, rfl, _, rfl, v, .ref a, x1, S, q, uv.1, rfl, hs.ex ecc, ⟨a, dx, st, en, fr, rfl, qf.ex ecc⟩, dx1, bu.1, bu.2, fun pp2 ys2 l2 H7 e7 _ hpp2 hys2 nd2 hmv2 hbd2 => ⟨l2, uv.2, dx2.ex e7, .inr (.lst (SqL.of hpp2) hys2), ?_⟩⟩
    have hN7 := hN H7 e7
    have em : uv.2 ∈ l2 := (hmv2 _).mpr hmv0
    rw [if_neg Bool.false_ne_true, dT em]
    exact hN7
  · have eb : ((l.zip (l.drop 1)).map fun _ => true).all id = true := by simp
    refine ⟨D2, _, rfl, SqL.of hD6, ?_⟩
    show Q (.bl (((l.zip (l.drop 1)).map fun _ => true).all id)) H6
    rw [eb]
    exact k H6 (e05.trans e6)
end
end K26

set_option Elab.async false
set_option linter.all false
set_option maxRecDepth 100000
set_option maxHeartbeats 4000000
/-! answers: denial, is_denial, row_of. -/
namespace K26
open PySem PySem.Spec PyProof.Rows L2
open Ky C8
/-- a denial: what (x, 0) leads to, no end at y among it -/
structure Den (E : Edge) (q : Qs) (x y n : Nat) (l : List Spot) : Prop where
  nd : l.Nodup
  hx : ((x, 0) : Spot) ∈ l
  cl : ∀ u ∈ l, ∀ v, mv E q u v → v ∈ l
  no : ∀ e ∈ q.ends, ((y, e) : Spot) ∉ l
  bd : ∀ u ∈ l, u.1 < n ∧ u.2 < q.n
section
variable {P : Program} {w : World} {K : PySem.W.Frag} {mg : Str → Option Value} {base : Heap} {CS CQ f : Addr} {fd : FuncData}
theorem sc_denial : FnScope ["store", "question", "start", "end", "found", "standing"] ["store", "question", "start", "end"] (defScope y_denial) := ⟨rfl, rfl, rfl, by decide +kernel, rfl, by decide +kernel, by decide +kernel⟩
def sp_denial (P : Program) (w : World) (K : PySem.W.Frag) (CS CQ : Addr) : Sp := fun vs H Q _ => ∃ (v v2 : V) (S : Sto) (q : Qs) (x y : Nat), vs = [v, v2, .int (x : Int), .int (y : Int)] ∧ SAt P w K CS H v S ∧ QAt K CQ H v2 q ∧ x < S.n ∧ y < S.n ∧ ¬ ans (tieE S.ties) q x y ∧
  ∀ (pp : Addr) (ys : List V) (l : List Spot) (H' : Hp), Ex H H' → H' pp = some (.lst ys) → DpAll K H' ys (l.map dat) → Den (tieE S.ties) q x y S.n l → Q (.ref pp) H'
theorem c_denial (T : Tx K mg CS CQ) (F : Fx K mg "denial" y_denial ["store", "question", "start", "end"] f fd) (c_want_pair : Cal P w K mg base 4 "want_pair" (sp_want_pair P w K CS) []) (c_walked : Cal P w K mg base 3 "walked" (sp_walked P w K CS CQ) []) : Cal P w K mg base 5 "denial" (sp_denial P w K CS CQ) [] := by
  refine F.cal sc_denial (fun vs H Q E h => ?_) (fun cdv A outer s H vs Q E hr h => ?_)
  · obtain ⟨v, v2, S, q, x, y, rfl, _⟩ := h
    rfl
  obtain ⟨v, v2, S, q, x, y, rfl, hs, hq, hx, hy, hna, k⟩ := h
  have hu := hu100 hr
  have hu1 := hu_of hr
  refine ⟨_, (pss_cons (ps_expr (pe_c c_want_pair hr (by decide) (by rfl) (pa_cons (pv 0) (pa_cons (pv 2) (pa_cons (pv 3) pa_nil)))))
    (pss_cons (pset 4 sc_denial.nd (pe_c c_walked hr (by decide) (by rfl) (pa_cons (pv 0) (pa_cons (pv 1) (pa_cons (pv 2) pa_nil)))))
    (pss_cons (ps_if (pt_val (pe_callB (k_any (K := K) rfl rfl) (by rfl) T.any (by decide +kernel) (pa_cons (pe_lc (own := [("standing", 5)]) rfl sc_denial.nd ((k_tup (K := K) rfl (k_fld (K := K) rfl (pv 1)))) (blkOk_by (by kernel_rfl)) (fun _ _ _ _ _ => (pn 5 sc_denial.nd)) (fun _ _ _ _ _ => pts_nil) (fun _ _ _ _ _ => (pe_cmpR (k_inN (α := Nat × Nat) (O := ⟨P, w, K⟩) hu rfl) (pe_tup (pa_cons (pv 3) (pa_cons (pv 5) pa_nil))) (pv 4) (by rfl)))) pa_nil))) (pss_one (ps_ret pe_non)) pss_nil)
    (pss_one (ps_ret (pe_callB (k_srtN (α := Nat × Nat) (O := ⟨P, w, K⟩) hu rfl rfl) (by rfl) T.sorted (by decide +kernel) (pa_cons (pv 4) pa_nil))))))), ?_⟩
  obtain ⟨a, dx, st, en, fr, rfl, qf⟩ := hq
  have n40 : S.n ≤ 40 := by
    obtain ⟨_, _, _, _, _, _, s1⟩ := hs.sf
    exact s1.n2
  have q3 := qf.ok.n3
  refine ⟨_, rfl, _, rfl, _, rfl, ⟨v, S, x, y, rfl, hs, hx, hy⟩, fun H1 e1 => ?_⟩
  refine ⟨_, rfl, _, rfl, _, rfl, v, .ref a, S, q, x, rfl, hs.ex e1, ⟨a, dx, st, en, fr, rfl, qf.ex e1⟩, hx, fun d3 ts H3 e3 hd3n hd3 hk3 wk => ?_⟩
  have e03 := e1.trans e3
  have q2 := qf.ex e03
  have lE : q.ends.length ≤ 3 := Nat.le_trans (le_of_bound qf.ok.wf.nde qf.ok.wf.en) q3
  have hno : ∀ e ∈ q.ends, ((y, e) : Spot) ∉ ts.map (·.1) := fun e he h => hna ⟨e, he, (wk.all _).mp h⟩
  obtain ⟨ae, xe, een, hse, hve⟩ := dp_tuple q2.en
  subst een
  refine ⟨_, rfl, a, CQ, dx, _, _, rfl, q2.h, T.cQ, T.q_ends, rfl, ae, rfl, ⟨xe, hse⟩, fun D hD => ?_⟩
  refine lc_bl (tw_tup (K := K) (R := Dt K) (l := q.ends) (xs := xe)) (fun _ => false) hD (fun H' e => ⟨e.ld.sqT hse, all_dat (hve.ex e)⟩) (by rw [sizeLine_eq]; omega) (fun z zv Hc acc N M hz ec hacc hzv hN => ?_) fun H4 e4 hD4 => ?_
  · have hzv := dp_nat hzv
    subst hzv
    refine ⟨rfl, _, rfl, _, rfl, by show 2 ≤ sizeLine; decide, fun T1 hT1 => ⟨_, rfl, ts, ((y, z) : Spot), ⟨T1, d3, rfl, rfl, .inl ((Ex.new hT1) _ _ (ec _ _ hd3)), (hk3.ld ec.ld).ld (Ex.new hT1).ld, pair_dp sqt_new (nat_dp y) (nat_dp z)⟩, ?_⟩⟩
    have hN7 := hN _ (Ex.new (o := .tup [V.int (y : Int), .int (z : Int)]) hT1)
    rw [if_neg Bool.false_ne_true, dF (hno z hz)]
    exact hN7
  · have eb : (q.ends.map fun _ => false).any id = false := by simp
    refine ⟨D, _, rfl, SqL.of hD4, false, ?_, iteF ?_⟩
    · rw [eb]
    refine ⟨_, rfl, d3, ts, rfl, .inl (e4 _ _ hd3), hk3.ld e4.ld, fun ys p dy hp => k p ys _ _ ((e03.trans e4).put hp) upd_same (dy.ex (Ex.new hp)) ⟨(srt_perm _).nodup_iff.mpr wk.nd, mem_srt.mpr ((wk.all _).mpr .refl), fun u hu v hm => ?_, fun e he h => hno e he (mem_srt.mp h), fun u hu => wk.bd u (mem_srt.mp hu)⟩⟩
    exact mem_srt.mpr ((wk.all _).mpr (.tail ((wk.all _).mp (mem_srt.mp hu)) hm))
theorem sc_is_denial : FnScope ["store", "question", "start", "end", "value", "known", "here", "standing", "there"] ["store", "question", "start", "end", "value"] (defScope y_is_denial) := ⟨rfl, rfl, rfl, by decide +kernel, rfl, by decide +kernel, by decide +kernel⟩
def sp_is_denial (P : Program) (w : World) (K : PySem.W.Frag) (CS CQ : Addr) : Sp := spB fun vs H b => ∃ (v v2 v3 : V) (S : Sto) (q : Qs) (x y : Nat) (l : List Spot), vs = [v, v2, .int (x : Int), .int (y : Int), v3] ∧ SAt P w K CS H v S ∧ QAt K CQ H v2 q ∧ x < S.n ∧ y < S.n ∧ Dp K H v3 (.list (l.map dat)) ∧ Den (tieE S.ties) q x y S.n l ∧ b = true
theorem c_is_denial (T : Tx K mg CS CQ) (F : Fx K mg "is_denial" y_is_denial ["store", "question", "start", "end", "value"] f fd) (c_want_pair : Cal P w K mg base 4 "want_pair" (sp_want_pair P w K CS) []) (c_is_list : Cal P w K mg base 1 "is_list" (sp_is_list (K := K)) []) (c_is_spot : Cal P w K mg base 3 "is_spot" (sp_is_spot P w K CS CQ) [])
    (c_moves_from : Cal P w K mg base 2 "moves_from" (sp_moves P w K CS CQ) []) : Cal P w K mg base 5 "is_denial" (sp_is_denial P w K CS CQ) [] := by
  refine F.cal sc_is_denial (fun vs H Q E h => ?_) (fun cdv A outer s H vs Q E hr h => ?_)
  · obtain ⟨b, ⟨v, v2, v3, S, q, x, y, l, rfl, _⟩, _⟩ := h
    rfl
  obtain ⟨b, ⟨v, v2, v3, S, q, x, y, l, rfl, hs, hq, hx, hy, dl, den, rfl⟩, k⟩ := h
  have hu := hu100 hr
  refine ⟨_, (pss_cons (ps_expr (pe_c c_want_pair hr (by decide) (by rfl) (pa_cons (pv 0) (pa_cons (pv 2) (pa_cons (pv 3) pa_nil)))))
    (pss_cons (ps_if (PW.pt (pw_or (pt_not (pt_val (pe_c c_is_list hr (by decide) (by rfl) (pa_cons (pv 4) pa_nil)))) (pw_or1 (pt_not (pt_val (pe_callB (k_all (K := K) rfl rfl) (by rfl) T.all (by decide +kernel) (pa_cons (pe_lc (own := [("here", 6)]) rfl sc_is_denial.nd ((k_list (K := K) rfl (pv 4))) (blkOk_by (by kernel_rfl)) (fun _ _ _ _ _ => (pn 6 sc_is_denial.nd)) (fun _ _ _ _ _ => pts_nil) (fun _ _ _ _ _ => (pe_c c_is_spot hr (by decide) (by rfl) (pa_cons (pv 0) (pa_cons (pv 1) (pa_cons (pv 6) pa_nil)))))) pa_nil))))))) (pss_one (ps_ret pe_bl)) pss_nil)
    (pss_cons (pset 5 sc_is_denial.nd (k_dc (own := [("here", 6)]) (kd := kdN (Nat × Nat) P w K) rfl hu rfl sc_is_denial.nd ((k_list (K := K) rfl (pv 4))) (blkOk_by (by kernel_rfl)) (fun _ _ _ _ _ => (pn 6 sc_is_denial.nd)) (fun _ _ _ _ _ => pts_nil) (fun _ _ _ _ _ => (pv 6)) (fun _ _ _ _ _ => pe_bl)))
    (pss_cons (ps_if (PW.pt (pw_or (pt_cmpR (op_lt) (pe_callB (k_lenN (α := Nat × Nat) (O := ⟨P, w, K⟩) rfl) (by rfl) T.len (by decide +kernel) (pa_cons (pv 5) pa_nil)) (pe_callB (k_len (K := K) rfl) (by rfl) T.len (by decide +kernel) (pa_cons (pv 4) pa_nil)) (by rfl)) (pw_or1 (pt_cmpR (k_ninN (α := Nat × Nat) (O := ⟨P, w, K⟩) hu rfl) (pe_tup (pa_cons (pv 2) (pa_cons pe_int pa_nil))) (pv 5) (by rfl))))) (pss_one (ps_ret pe_bl)) pss_nil)
    (pss_cons (ps_if (pt_val (pe_callB (k_any (K := K) rfl rfl) (by rfl) T.any (by decide +kernel) (pa_cons (pe_lc (own := [("standing", 7)]) rfl sc_is_denial.nd ((k_tup (K := K) rfl (k_fld (K := K) rfl (pv 1)))) (blkOk_by (by kernel_rfl)) (fun _ _ _ _ _ => (pn 7 sc_is_denial.nd)) (fun _ _ _ _ _ => pts_nil) (fun _ _ _ _ _ => (pe_cmpR (k_inN (α := Nat × Nat) (O := ⟨P, w, K⟩) hu rfl) (pe_tup (pa_cons (pv 3) (pa_cons (pv 7) pa_nil))) (pv 5) (by rfl)))) pa_nil))) (pss_one (ps_ret pe_bl)) pss_nil)
    (pss_one (ps_ret (pe_callB (k_all (K := K) rfl rfl) (by rfl) T.all (by decide +kernel) (pa_cons (pe_lc (own := [("here", 6)]) rfl sc_is_denial.nd ((k_list (K := K) rfl (pv 4))) (blkOk_by (by kernel_rfl)) (fun _ _ _ _ _ => (pn 6 sc_is_denial.nd)) (fun _ _ _ _ _ => pts_nil) (fun _ _ _ _ _ => (pe_callB (k_all (K := K) rfl rfl) (by rfl) T.all (by decide +kernel) (pa_cons (pe_lc (own := [("there", 8)]) rfl sc_is_denial.nd ((k_list (K := K) rfl (pe_c c_moves_from hr (by decide) (by rfl) (pa_cons (pv 0) (pa_cons (pv 1) (pa_cons (pv 6) pa_nil)))))) (blkOk_by (by kernel_rfl)) (fun _ _ _ _ _ => (pn 8 sc_is_denial.nd)) (fun _ _ _ _ _ => pts_nil) (fun _ _ _ _ _ => (pe_cmpR (k_inN (α := Nat × Nat) (O := ⟨P, w, K⟩) hu rfl) (pv 8) (pv 5) (by rfl)))) pa_nil)))) pa_nil))))))))), ?_⟩
  obtain ⟨pa, ys, rfl, hpa, hys⟩ := dp_lst dl
  have ll : ys.length = l.length := by rw [dpAll_len hys, List.length_map]
  have n40 : S.n ≤ 40 := by
    obtain ⟨_, _, _, _, _, _, s1⟩ := hs.sf
    exact s1.n2
  obtain ⟨a, dx, st, en, fr, rfl, qf⟩ := hq
  have hq : QAt K CQ H (.ref a) q := ⟨a, dx, st, en, fr, rfl, qf⟩
  have q3 := qf.ok.n3
  have few2 : S.n * q.n ≤ 120 := Nat.le_trans (Nat.mul_le_mul n40 q3) (by decide)
  have hl : l.length ≤ 120 := Nat.le_trans (spots_few den.nd den.bd) few2
  refine ⟨_, rfl, _, rfl, _, rfl, ⟨v, S, x, y, rfl, hs, hx, hy⟩, fun H1 e1 => ?_⟩
  refine ⟨_, rfl, true, ⟨pa, rfl, .inl ⟨ys, e1.ld.sqL hpa⟩, rfl⟩, fun H2 e2 => ⟨true, rfl, iteF ?_⟩⟩
  have e02 := e1.trans e2
  refine ⟨_, rfl, pa, rfl, ⟨ys, e02.ld.sqL hpa⟩, fun D hD => ?_⟩
  refine lc_bl (tw_list (K := K) (R := Dt K) (l := l) (xs := ys)) (fun _ => true) hD (fun H' e' => ⟨(e02.trans e').ld.sqL hpa, all_dat (hys.ex (e02.trans e'))⟩) (by rw [sizeLine_eq]; omega) (fun u xu Hc acc N M hul ec hacc hxu hN => ?_) fun H3 e3 hD3 => ?_
  · have ecc := e02.trans ec
    have bu := den.bd u hul
    exact ⟨rfl, _, rfl, _, rfl, _, rfl, true, ⟨v, .ref a, xu, S, q, u, rfl, hs.ex ecc, hq.ex ecc, hxu, bu.1, bu.2, rfl⟩, fun H4 e4 => hN H4 e4⟩
  have eb : (l.map fun _ => true).all id = true := by simp
  refine ⟨D, _, rfl, SqL.of hD3, true, ?_, iteF ?_⟩
  · rw [eb]
  have e03 := e02.trans e3
  refine ⟨_, rfl, pa, rfl, ⟨ys, e03.ld.sqL hpa⟩, fun D2 hD2 => ?_⟩
  refine dc_tw (by decide) (tw_list (K := K) (R := Dt K) (l := l) (xs := ys)) (fun u => some u) hD2 (fun H' e' => ⟨(e03.trans e').ld.sqL hpa, all_dat (hys.ex (e03.trans e'))⟩) (by rw [sizeLine_eq]; omega) (fun u xu H4 ts4 N M hul e4 hts4 hxu hN hM => ?_) fun H4 ts e4 hts hk ek => ?_
  · obtain ⟨b, _, _, rfl, _⟩ := dp_pair hxu
    exact ⟨rfl, _, rfl, hN u _ _ H4 rfl (.refl H4) hxu ⟨b, rfl⟩⟩
  have ek : ts.map (·.1) = l := by
    rw [ek, List.filterMap_some]
    exact keysOf_same den.nd
  have lt : ts.length = l.length := by rw [← ek, List.length_map]
  have e04 := e03.trans e4
  refine ⟨_, rfl, D2, ts, rfl, .inl hts, hk, _, rfl, _, (ys.length : Nat), rfl, .inl ⟨_, e04.ld.sqL hpa, rfl⟩, _, _, rfl, rfl, _, rfl, dN (by omega) ?_⟩
  refine ⟨_, rfl, by show 2 ≤ sizeLine; decide, fun T2 hT2 => ⟨_, rfl, ts, ((x, 0) : Spot), ⟨T2, D2, rfl, rfl, .inl ((Ex.new hT2) _ _ hts), hk.ld (Ex.new hT2).ld, pair_dp sqt_new (nat_dp x) (nat_dp 0)⟩, _, rfl, dNP (by rw [ek]; exact den.hx) ?_⟩⟩
  have e45 := Ex.new (o := .tup [V.int (x : Int), .int 0]) hT2
  have e05 := e04.trans e45
  have hts5 := e45 _ _ hts
  have hk5 := hk.ld e45.ld
  show (fun H5 => _) (upd H4 T2 (.tup [V.int (x : Int), .int 0]))
  generalize upd H4 T2 (.tup [V.int (x : Int), .int 0]) = H5 at e45 e05 hts5 hk5
  have q2 := qf.ex e05
  have lE : q.ends.length ≤ 3 := Nat.le_trans (le_of_bound qf.ok.wf.nde qf.ok.wf.en) q3
  obtain ⟨ae, xe, een, hse, hve⟩ := dp_tuple q2.en
  subst een
  refine ⟨_, rfl, a, CQ, dx, _, _, rfl, q2.h, T.cQ, T.q_ends, rfl, ae, rfl, ⟨xe, hse⟩, fun D6 hD6 => ?_⟩
  refine lc_bl (tw_tup (K := K) (R := Dt K) (l := q.ends) (xs := xe)) (fun _ => false) hD6 (fun H' e => ⟨e.ld.sqT hse, all_dat (hve.ex e)⟩) (by rw [sizeLine_eq]; omega) (fun z zv Hc acc N M hz ec hacc hzv hN => ?_) fun H6 e6 hH6 => ?_
  · have hzv := dp_nat hzv
    subst hzv
    refine ⟨rfl, _, rfl, _, rfl, by show 2 ≤ sizeLine; decide, fun T1 hT1 => ⟨_, rfl, ts, ((y, z) : Spot), ⟨T1, D2, rfl, rfl, .inl ((Ex.new hT1) _ _ (ec _ _ hts5)), (hk5.ld ec.ld).ld (Ex.new hT1).ld, pair_dp sqt_new (nat_dp y) (nat_dp z)⟩, ?_⟩⟩
    have hN7 := hN _ (Ex.new (o := .tup [V.int (y : Int), .int (z : Int)]) hT1)
    rw [if_neg Bool.false_ne_true, dF (by rw [ek]; exact den.no z hz)]
    exact hN7
  have eb2 : (q.ends.map fun _ => false).any id = false := by simp
  refine ⟨D6, _, rfl, SqL.of hH6, false, ?_, iteF ?_⟩
  · rw [eb2]
  have e06 := e05.trans e6
  have hts6 := e6 _ _ hts5
  have hk6 := hk5.ld e6.ld
  refine ⟨_, rfl, pa, rfl, ⟨ys, e06.ld.sqL hpa⟩, fun D7 hD7 => ?_⟩
  refine lc_bl (tw_list (K := K) (R := Dt K) (l := l) (xs := ys)) (fun _ => true) hD7 (fun H' e' => ⟨(e06.trans e').ld.sqL hpa, all_dat (hys.ex (e06.trans e'))⟩) (by rw [sizeLine_eq]; omega) (fun u xu Hc acc N M hul ec hacc hxu hN => ?_) fun H8 e8 hD8 => ?_
  · have ecc := e06.trans ec
    have bu := den.bd u hul
    refine ⟨rfl, _, rfl, _, rfl, _, rfl, v, .ref a, xu, S, q, u, rfl, hs.ex ecc, hq.ex ecc, hxu, bu.1, bu.2, fun pp2 ys2 l2 H9 e9 _ hpp2 hys2 nd2 hmv2 hbd2 => ⟨pp2, rfl, ⟨ys2, SqL.of hpp2⟩, fun D9 hD9 => ?_⟩⟩
    have l2l : l2.length ≤ 120 := Nat.le_trans (spots_few nd2 hbd2) few2
    have hts9 := e9 _ _ (ec _ _ hts6)
    have hk9 := (hk6.ld ec.ld).ld e9.ld
    refine lc_bl (tw_list (K := K) (R := Dt K) (l := l2) (xs := ys2)) (fun _ => true) hD9 (fun H' e' => ⟨SqL.of (e' _ _ hpp2), all_dat (hys2.ex e')⟩) (by rw [sizeLine_eq]; omega) (fun t xt Hd acc2 N2 M2 htl ed hacc2 hxt hN2 => ?_) fun H10 e10 hD10 => ?_
    · have hxt : Dp K Hd xt (dat t) := hxt
      obtain ⟨bt, _, _, rfl, _⟩ := dp_pair hxt
      refine ⟨rfl, _, rfl, _, rfl, ts, t, ⟨bt, D2, rfl, rfl, .inl (ed _ _ hts9), hk9.ld ed.ld, hxt⟩, ?_⟩
      have hN7 := hN2 Hd (.refl Hd)
      rw [if_neg Bool.false_ne_true, dT (by rw [ek]; exact den.cl u hul t ((hmv2 t).mp htl))]
      exact hN7
    · have eb3 : (l2.map fun _ => true).all id = true := by simp
      refine ⟨D9, _, rfl, SqL.of hD10, ?_⟩
      show N (.bl ((l2.map fun _ => true).all id)) H10
      rw [eb3]
      exact hN H10 (e9.trans e10)
  · refine ⟨D7, _, rfl, SqL.of hD8, ?_⟩
    show Q (.bl ((l.map fun _ => true).all id)) H8
    rw [eb]
    exact k H8 (e06.trans e8)
theorem sc_row_of : FnScope ["signs", "ties", "place", "sign", "near", "far"] ["signs"] (defScope y_row_of) := ⟨rfl, rfl, rfl, by decide +kernel, rfl, by decide +kernel, by decide +kernel⟩
/-- the tie of a place -/
def tieOf (k : Nat) (s : Sg) : Stp := if s.low then ⟨k, s, k + 1⟩ else ⟨k + 1, s.con, k⟩
theorem rowT_snoc : ∀ (u : List Sg) (k : Nat) (s : Sg), rowT k (u ++ [s]) = rowT k u ++ [tieOf (k + u.length) s]
  | [], k, s => rfl
  | t :: u, k, s => by
    rw [List.cons_append, rowT, rowT, rowT_snoc u (k + 1) s, List.cons_append, List.length_cons, show k + 1 + u.length = k + (u.length + 1) by omega]
def sp_row_of (P : Program) (w : World) (K : PySem.W.Frag) (CS : Addr) : Sp := fun vs H Q _ => ∃ u : List Sg, vs = [.str (wdS u)] ∧ u.length ≤ 39 ∧ spMake P w K CS ⟨u.length + 1, srt (rowT 0 u)⟩ H Q
theorem c_row_of (T : Tx K mg CS CQ) (F : Fx K mg "row_of" y_row_of ["signs"] f fd) (c_want_signs : Cal P w K mg base 2 "want_signs" sp_want_signs []) (c_letter_of : Cal P w K mg base 1 "letter_of" (spS Sg.ltr) []) (c_made_store : Cal P w K mg base 7 "made_store" (sp_made_store P w K CS) []) : Cal P w K mg base 8 "row_of" (sp_row_of P w K CS) [] := by
  refine F.cal sc_row_of (fun vs H Q E h => ?_) (fun cdv A outer s H vs Q E hr h => ?_)
  · obtain ⟨u, rfl, _⟩ := h
    rfl
  obtain ⟨u, rfl, hl, k⟩ := h
  have hu := hu100 hr
  refine ⟨_, (pss_cons (ps_expr (pe_c c_want_signs hr (by decide) (by rfl) (pa_cons (pv 0) pa_nil)))
    (pss_cons (ps_if (pt_cmpR (op_ge) (pe_callB (k_len (K := K) rfl) (by rfl) T.len (by decide +kernel) (pa_cons (pv 0) pa_nil)) (gI (by rfl) T.nodes) (by rfl)) (pss_one ps_never) pss_nil)
    (pss_cons (pset 1 sc_row_of.nd (pe_lst pa_nil))
    (pss_cons (ps_for PassesOwn.never rfl (pi_enumS (by rfl) T.enumerate (pa_cons (pv 0) pa_nil)) (k_gtup (n := 2) (K := K) rfl rfl (pgs_cons (pn 2 sc_row_of.nd) (pgs_cons (pn 3 sc_row_of.nd) pgs_nil))) (pss_cons (ps_asg (pe_ifExp (pt_cmpR (op_in_sign) (pv 3) (gS (by rfl) T.letters) (by rfl)) (pe_tup (pa_cons (pv 2) (pa_cons (pe_op (op_add) (pv 2) pe_int) pa_nil))) (pe_tup (pa_cons (pe_op (op_add) (pv 2) pe_int) (pa_cons (pv 2) pa_nil)))) (k_gtup (n := 2) (K := K) rfl rfl (pgs_cons (pn 4 sc_row_of.nd) (pgs_cons (pn 5 sc_row_of.nd) pgs_nil))))
    (pss_one (ps_expr (pe_bm PySem.F.plainAttrs_list PySem.F.slot_list_append PySem.F.type_list_append mt_append (pv 1) (pa_cons (pe_tup (pa_cons (pv 4) (pa_cons (pe_c c_letter_of hr (by decide) (by rfl) (pa_cons (pv 3) pa_nil)) (pa_cons (pv 5) pa_nil)))) pa_nil))))))
    (pss_one (ps_ret (pe_c c_made_store hr (by decide) (by rfl) (pa_cons (pe_op (op_add) (pe_callB (k_len (K := K) rfl) (by rfl) T.len (by decide +kernel) (pa_cons (pv 0) pa_nil)) pe_int) (pa_cons (pv 1) pa_nil))))))))), ?_⟩
  refine ⟨_, rfl, ⟨u, rfl, by omega⟩, fun H1 e1 => ?_⟩
  refine ⟨_, rfl, _, (u.length : Nat), rfl, ⟨by rw [wdS_len, sizeLine_eq]; omega, (wdS_len u).symm⟩, _, _, rfl, rfl, _, rfl, ifN (by omega) ?_⟩
  refine ⟨Nat.zero_le _, fun p hp => ?_⟩
  refine ⟨_, rfl, wdS u, rfl, ?_⟩
  refine for_tw (tw_enumS (K := K) (w := u)) (fun i σ H' => ∃ (b2 b3 b4 b5 : Option V) (os : List V), σ = [some (.str (wdS u)), some (.ref p), b2, b3, b4, b5] ∧ Ex H1 H' ∧ H' p = some (.lst os) ∧ DpAll K H' os ((rowT 0 (u.take i)).map dat)) ⟨_, _, _, _, [], rfl, Ex.new hp, upd_same, .nil⟩ (fun _ _ _ _ _ => trivial) ?_ ?_
  · rintro i ⟨j, c⟩ x σ H2 H3 hi ⟨_, _, _, _, os, rfl, e2, hp2, ho2⟩ e23 hx
    obtain ⟨rfl, huj⟩ := num_get hi
    have huj : u[j]? = some c := huj
    have jl := (List.getElem?_eq_some_iff.mp huj).1
    obtain ⟨T0, y, z, rfl, hT, dy, dz⟩ := dp_pair hx
    have dy := dp_nat dy
    have dz := dp_sg dz
    subst dy dz
    have hp3 := e23 _ _ hp2
    have ho3 := ho2.ex e23
    have e3 := e2.trans e23
    have lo : os.length = j := by rw [dpAll_len ho3, List.length_map, rowT_length, List.length_take]; omega
    refine ⟨_, _, rfl, hT, rfl, _, _, rfl, _, _, rfl, rfl, ?_⟩
    have tk : rowT 0 (u.take (j + 1)) = rowT 0 (u.take j) ++ [tieOf j c] := by
      rw [take_snoc huj, rowT_snoc, List.length_take, show 0 + min j u.length = j by omega]
    rcases (show c.low = true ∨ c.low = false by cases c.low <;> simp) with hc | hc
    case' inl =>
      have et : tieOf j c = ⟨j, c.ltr, j + 1⟩ := by unfold tieOf Sg.ltr; rw [hc]; rfl
      refine ⟨_, rfl, sgC c, _, congrArg V.str (sgS_C c), rfl, _, rfl, ifP (of_decide_eq_true (low_letters hc)) ⟨_, rfl, _, rfl, _, _, rfl, rfl, by show 2 ≤ sizeLine; decide, fun T1 hT1 => ⟨_, _, rfl, sqt_new, rfl, _, _, rfl, _, _, rfl, rfl, ?_⟩⟩⟩
    case' inr =>
      have et : tieOf j c = ⟨j + 1, c.ltr, j⟩ := by unfold tieOf Sg.ltr; rw [hc]; rfl
      refine ⟨_, rfl, sgC c, _, congrArg V.str (sgS_C c), rfl, _, rfl, ifN (high_letters hc) ⟨_, rfl, _, _, rfl, rfl, _, rfl, by show 2 ≤ sizeLine; decide, fun T1 hT1 => ⟨_, _, rfl, sqt_new, rfl, _, _, rfl, _, _, rfl, rfl, ?_⟩⟩⟩
    all_goals
      have e34 : ∀ o, Ex H3 (upd H3 T1 o) := fun o => Ex.new hT1
      refine ⟨_, rfl, .inl ⟨rfl, _, SqL.of (e34 _ _ _ hp3)⟩, _, rfl, _, rfl, c, rfl, fun H5 e5 => ⟨_, rfl, by show 3 ≤ sizeLine; decide, fun T2 hT2 => ?_⟩⟩
      have e35 := (e34 _).trans e5
      have e36 : ∀ o, Ex H3 (upd H5 T2 o) := fun o => e35.trans (Ex.new hT2)
      refine ⟨p, _, _, rfl, rfl, e36 _ _ _ hp3, by rw [sizeLine_eq]; omega, ?_⟩
      refine ⟨_, _, _, _, _, rfl, (e3.trans (e36 _)).mut hp, upd_same, ?_⟩
      rw [tk, List.map_append, et]
      exact dpAll_snoc (dats_lt (Lt.mut (noT_lst (e36 _ _ _ hp3))) (ho3.ex (e36 _))) (dat_lt (Lt.mut (noT_lst (e36 _ _ _ hp3))) (t3_dp sqt_new (nat_dp _) (sg_dp _) (nat_dp _)))
  · rintro σ H2 ⟨_, _, _, _, os, rfl, e2, hp2, ho2⟩
    rw [num_len, List.take_length] at ho2
    refine ⟨_, rfl, _, (u.length : Nat), rfl, ⟨by rw [wdS_len, sizeLine_eq]; omega, (wdS_len u).symm⟩, _, _, rfl, rfl, _, rfl, u.length + 1, .ref p, rowT 0 u, rfl, .inl (.lst (SqL.of hp2) ho2), ⟨rowT_nodup u 0, by rw [rowT_length]; omega, fun t ht => ?_⟩, by omega, by omega, fun v H' e hv => k v H' ((e1.trans e2).trans e) hv⟩
    have := rowT_bound ht
    exact ⟨by omega, by omega, rowT_low ht⟩
end
end K26

set_option Elab.async false
set_option linter.all false
set_option maxRecDepth 100000
set_option maxHeartbeats 4000000
/-! within: seen_first, closed. -/
namespace K26
open PySem PySem.Spec PyProof.Rows L2
open Ky C8
/-! ### the closure, standing by standing -/
def War (R : Nat → Nat → Prop) : Nat → Nat → Nat → Prop
  | 0, i, j => R i j
  | k + 1, i, j => War R k i j ∨ (War R k i k ∧ War R k k j)
theorem war_sound {R : Nat → Nat → Prop} : ∀ {k i j : Nat}, War R k i j → Rch R i j
  | 0, _, _, h => .one h
  | k + 1, _, _, .inl h => war_sound h
  | k + 1, _, _, .inr ⟨a, b⟩ => (war_sound a).trans (war_sound b)
theorem war_mono {R : Nat → Nat → Prop} {i j : Nat} (h : R i j) : ∀ k, War R k i j
  | 0 => h
  | k + 1 => .inl (war_mono h k)
theorem war_tr {R : Nat → Nat → Prop} : ∀ {k i m j : Nat}, m < k → War R k i m → War R k m j → War R k i j
  | 0, _, _, _, h, _, _ => absurd h (Nat.not_lt_zero _)
  | k + 1, i, m, j, hm, h1, h2 => by
    rcases Nat.lt_or_ge m k with hk | hk
    · rcases h1 with h1 | ⟨a1, b1⟩ <;> rcases h2 with h2 | ⟨a2, b2⟩
      · exact .inl (war_tr hk h1 h2)
      · exact .inr ⟨war_tr hk h1 a2, b2⟩
      · exact .inr ⟨a1, war_tr hk b1 h2⟩
      · exact .inr ⟨a1, b2⟩
    · have : m = k := by omega
      subst this
      have a : War R m i m := h1.elim id And.left
      have b : War R m m j := h2.elim id And.right
      exact .inr ⟨a, b⟩
theorem war_iff {R : Nat → Nat → Prop} {n i j : Nat} (hr : ∀ i, i < n → R i i) (hb : ∀ a b, R a b → a < n) (hi : i < n) : War R n i j ↔ Rch R i j := by
  refine ⟨war_sound, fun h => ?_⟩
  induction h with
  | refl => exact war_mono (hr _ hi) n
  | tail _ r ih => exact war_tr (hb _ _ r) ih (war_mono r n)
theorem mergeK_keys {kvs more : List (Key × V)} {l m : List Nat} (h : ikeys kvs l) (h2 : ikeys more m) : ikeys (mergeK kvs more) (m.foldl addK l) := by
  induction more generalizing kvs l m with
  | nil =>
    have : m = [] := by
      have := congrArg List.length h2
      simp at this
      exact List.eq_nil_of_length_eq_zero this.symm
    subst this
    exact h
  | cons a more ih =>
    cases m with
    | nil => simp [ikeys] at h2
    | cons b m =>
      unfold ikeys at h2
      rw [List.map_cons, List.map_cons] at h2
      injection h2 with e1 e2
      show ikeys (mergeK (putK kvs a.1 a.2) more) (m.foldl addK (addK l b))
      refine ih ?_ e2
      rw [e1]
      unfold addK
      split
      · rename_i hm
        exact ikeys_same h hm _
      · rename_i hm
        exact ikeys_put h hm _
section
variable {α β : Type} {J : It} {R : Rl α} {l : List α} {G : Hp → Prop}
/-- two clauses; what the inner one walks is made on the way -/
theorem lc2_dx {K : PySem.W.Frag} {γ : Type} [Ky γ] (w : TW J R l G) {R1 : Rl β} (l1 : α → List β) (f : α → β → Option γ) {g : TG} {tt : TT} {wi1 : TI} {g1 : TG} {tt1 : TT} {te : TE} {vs vs1 : List Nat} {σ : L2.St} {H1 : Hp} {D : Addr} {Qd : Hp → Prop} (hD : H1 D = none) (hG : ∀ H, Ex H1 H → G H) (hlen : (l.map fun a => (l1 a).length).sum ≤ sizeLine)
    (hs : ∀ a x H acc (M : L2.St → It → Hp → Prop) (M' : Hp → Prop), a ∈ l → Ex H1 H → H D = some (.lst acc) → R a H x →
      (∀ J1 σ2 H4 (G1 : Hp → Prop), Ex H H4 → TW J1 R1 (l1 a) G1 → (∀ H', Ex1 D H4 H' → G1 H') →
        (∀ b x H5 acc (N : V → Hp → Prop) (N' : Hp → Prop), b ∈ l1 a → Ex H1 H5 → H5 D = some (.lst acc) → R1 b H5 x → (∀ c y H7, f a b = some c → Ex H5 H7 → Dp K H7 y (dat c) → N y H7) → (f a b = none → ∀ H6, Ex H5 H6 → N' H6) →
          g1 x (wipe σ2 vs1) H5 fun σ3 H6 => wipe σ3 vs1 = wipe σ2 vs1 ∧ tt1 σ3 H6 fun b H6 => if b = true then te σ3 H6 N else N' H6) → M σ2 J1 H4) →
      (l1 a = [] → ∀ H3, Ex H H3 → M' H3) →
      g x (wipe σ vs) H fun σ2 H2 => wipe σ2 vs = wipe σ vs ∧ tt σ2 H2 fun b H3 => if b = true then wi1 σ2 H3 (M σ2) else M' H3)
    (hd : ∀ H acc, Ex H1 H → H D = some (.lst acc) → DpAll K H acc ((l.flatMap fun a => (l1 a).filterMap (f a)).map dat) → Qd H) :
    ∃ W : Nat → Nat → Hp → Prop, (∃ m, W 0 m (upd H1 D (.lst []))) ∧ ∀ i m H, W i m H →
      (J.stop i H ∧ Qd H) ∨ (J.go i H ∧ ∃ Nx : Hp → Prop, (∀ H', Nx H' → ∃ m', m' < m ∧ W (i + 1) m' H') ∧ ∀ x H', J.yld i H x H' → g x (wipe σ vs) H' fun σ2 H2 => wipe σ2 vs = wipe σ vs ∧ tt σ2 H2 fun b H3 =>
        if b = true then wi1 σ2 H3 fun J1 H4 => ∃ W1 : Nat → Nat → Hp → Prop, (∃ m, W1 0 m H4) ∧ ∀ j k H, W1 j k H →
          (J1.stop j H ∧ Nx H) ∨ (J1.go j H ∧ ∃ Nx1 : Hp → Prop, (∀ H', Nx1 H' → ∃ k', k' < k ∧ W1 (j + 1) k' H') ∧ ∀ x H', J1.yld j H x H' → g1 x (wipe σ2 vs1) H' fun σ3 H5 => wipe σ3 vs1 = wipe σ2 vs1 ∧ tt1 σ3 H5 fun b H6 =>
            if b = true then te σ3 H6 fun y H7 => ∃ acc, H7 D = some (.lst acc) ∧ acc.length < sizeLine ∧ Nx1 (upd H7 D (.lst (acc ++ [y]))) else Nx1 H6)
        else Nx H3) := by
  refine ⟨fun i m H => m = l.length - i ∧ i ≤ l.length ∧ Ex H1 H ∧ ∃ acc, H D = some (.lst acc) ∧ DpAll K H acc (((l.take i).flatMap fun a => (l1 a).filterMap (f a)).map dat), ⟨l.length, rfl, Nat.zero_le _, Ex.new hD, [], upd_same, .nil⟩, ?_⟩
  rintro i m H ⟨rfl, hi, ex, acc, hacc, ha⟩
  have q := hG H ex
  rcases Nat.lt_or_ge i l.length with hlt | hge
  · refine .inr ⟨w.goes i H hlt q, fun H' => i + 1 ≤ l.length ∧ Ex H1 H' ∧ ∃ acc, H' D = some (.lst acc) ∧ DpAll K H' acc (((l.take (i + 1)).flatMap fun a => (l1 a).filterMap (f a)).map dat), fun σ' p' => ⟨l.length - (i + 1), by omega, rfl, p'⟩, fun x H' y => ?_⟩
    obtain ⟨e, a, h1, h2⟩ := w.yields i H x H' hlt q y
    have tk : (l.take (i + 1)).flatMap (fun a => (l1 a).filterMap (f a)) = ((l.take i).flatMap fun a => (l1 a).filterMap (f a)) ++ (l1 a).filterMap (f a) := by
      rw [take_snoc h1, List.flatMap_append]
      simp
    have room : ((l.take i).flatMap fun a => (l1 a).filterMap (f a)).length + (l1 a).length ≤ sizeLine := by
      have bnd : ∀ m : List α, (m.flatMap fun a => (l1 a).filterMap (f a)).length ≤ (m.map fun a => (l1 a).length).sum := by
        intro m
        induction m with
        | nil => exact Nat.le_refl _
        | cons b m ih =>
          rw [List.flatMap_cons, List.length_append, List.map_cons, List.sum_cons]
          have := List.length_filterMap_le (f b) (l1 b)
          omega
      have b1 := bnd (l.take i)
      have b2 : ((l.take (i + 1)).map fun a => (l1 a).length).sum ≤ (l.map fun a => (l1 a).length).sum := by
        have := List.take_append_drop (i + 1) l
        rw [← this, List.map_append, List.sum_append, List.take_append_drop]
        exact Nat.le_add_right _ _
      rw [take_snoc h1, List.map_append, List.sum_append, List.map_cons, List.map_nil, List.sum_cons, List.sum_nil] at b2
      omega
    refine hs a x H' acc _ _ (List.mem_of_getElem? h1) (ex.trans e) (e _ _ hacc) h2 (fun J1 σ2 H4 G1 e4 w1 hG1 turn => ?_) fun hn H3 e3 => ?_
    · have h4 := e4 _ _ (e _ _ hacc)
      have x4 := (ex.trans e).trans e4
      refine ⟨fun j k H => k = (l1 a).length - j ∧ j ≤ (l1 a).length ∧ Ex H1 H ∧ Ex1 D H4 H ∧ ∃ acc, H D = some (.lst acc) ∧ DpAll K H acc ((((l.take i).flatMap fun a => (l1 a).filterMap (f a)) ++ ((l1 a).take j).filterMap (f a)).map dat), ⟨(l1 a).length, rfl, Nat.zero_le _, x4, fun _ _ _ z => z, acc, h4, ?_⟩, ?_⟩
      · simpa using ha.ex (e.trans e4)
      rintro j k H5 ⟨rfl, hj, ex5, xx5, acc5, hacc5, ha5⟩
      have q5 := hG1 H5 xx5
      rcases Nat.lt_or_ge j (l1 a).length with hlt5 | hge5
      · refine .inr ⟨w1.goes j H5 hlt5 q5, fun H => j + 1 ≤ (l1 a).length ∧ Ex H1 H ∧ Ex1 D H4 H ∧ ∃ acc, H D = some (.lst acc) ∧ DpAll K H acc ((((l.take i).flatMap fun a => (l1 a).filterMap (f a)) ++ ((l1 a).take (j + 1)).filterMap (f a)).map dat), fun σ' p' => ⟨(l1 a).length - (j + 1), by omega, rfl, p'⟩, fun x H' y => ?_⟩
        obtain ⟨e', b, k1, k2⟩ := w1.yields j H5 x H' hlt5 q5 y
        refine turn b x H' acc5 _ _ (List.mem_of_getElem? k1) (ex5.trans e') (e' _ _ hacc5) k2 (fun c y H7 hc e7 sy => ?_) fun hn H6 e6 => ?_
        · have h7 := e7 _ _ (e' _ _ hacc5)
          have al : acc5.length = (((l.take i).flatMap fun a => (l1 a).filterMap (f a)) ++ ((l1 a).take j).filterMap (f a)).length := by rw [dpAll_len ha5, List.length_map]
          have := fm_len (l := l1 a) (f a) j
          rw [List.length_append] at al
          refine ⟨acc5, h7, by omega, hlt5, ((ex5.trans e').trans e7).mut hD, fun y o hy z => (upd_ne hy).trans (e7 _ _ (e' _ _ (xx5 y o hy z))), _, upd_same, ?_⟩
          rw [fm_snoc (f a) k1, hc, ← List.append_assoc, List.map_append]
          exact dpAll_snoc (dats_lt (Lt.mut (noT_lst h7)) (ha5.ex (e'.trans e7))) (dat_lt (Lt.mut (noT_lst h7)) sy)
        · refine ⟨hlt5, (ex5.trans e').trans e6, fun y o hy z => e6 _ _ (e' _ _ (xx5 y o hy z)), acc5, e6 _ _ (e' _ _ hacc5), ?_⟩
          rw [fm_snoc (f a) k1, hn, List.append_nil]
          exact ha5.ex (e'.trans e6)
      · have ej : j = (l1 a).length := by omega
        subst ej
        rw [List.take_length] at ha5
        exact .inl ⟨w1.stops H5 q5, hlt, ex5, acc5, hacc5, by rw [tk]; exact ha5⟩
    · refine ⟨hlt, (ex.trans e).trans e3, acc, e3 _ _ (e _ _ hacc), ?_⟩
      rw [tk, hn]
      simpa using ha.ex (e.trans e3)
  · have e : i = l.length := by omega
    subst e
    rw [List.take_length] at ha
    exact .inl ⟨w.stops H q, hd H acc ex hacc ha⟩
end
section
variable {P : Program} {w : World} {K : PySem.W.Frag} {mg : Str → Option Value} {base : Heap} {CS CQ f : Addr} {fd : FuncData}
theorem sc_seen_first : FnScope ["question", "standing"] ["question"] (defScope y_seen_first) := ⟨rfl, rfl, rfl, by decide +kernel, rfl, by decide +kernel, by decide +kernel⟩
def sp_seen_first (K : PySem.W.Frag) (CQ : Addr) : Sp := fun vs H Q _ => ∃ (v : V) (q : Qs), vs = [v] ∧ QAt K CQ H v q ∧ ∀ z H', Ex H H' → Dp K H' z (dat (seen0 q)) → Q z H'
theorem c_seen_first (T : Tx K mg CS CQ) (F : Fx K mg "seen_first" y_seen_first ["question"] f fd) : Cal P w K mg base 1 "seen_first" (sp_seen_first K CQ) [] := by
  refine F.cal sc_seen_first (fun vs H Q E h => ?_) (fun cdv A outer s H vs Q E hr h => ?_)
  · obtain ⟨v, q, rfl, _⟩ := h
    rfl
  obtain ⟨v, q, rfl, hq, k⟩ := h
  have hu := hu100 hr
  refine ⟨_, (pss_one (ps_ret (pe_tup (pa_cons (pe_tup (pa_cons pe_int pa_nil)) (pa_cons (pe_callTy (k_tuple (K := K) rfl) (by rfl) T.tuple (by decide +kernel) (pa_cons (pe_lc (own := [("standing", 1)]) rfl sc_seen_first.nd ((pi_range1 (by rfl) T.range (pa_cons (k_fld (K := K) rfl (pv 0)) pa_nil))) (blkOk_by (by kernel_rfl)) (fun _ _ _ _ _ => (pn 1 sc_seen_first.nd)) (fun _ _ _ _ _ => pts_nil) (fun _ _ _ _ _ => (pe_tup (pa_cons (pv 1) (pa_cons (pv 1) pa_nil))))) pa_nil)) pa_nil))))), ?_⟩
  obtain ⟨a, dx, st, en, fr, rfl, qf⟩ := hq
  have q3 := qf.ok.n3
  refine ⟨by show 1 ≤ sizeLine; decide, fun T1 hT1 => ?_⟩
  have e1 : Ex H (upd H T1 (.tup [V.int 0])) := Ex.new hT1
  have d1 : Dp K (upd H T1 (.tup [V.int 0])) (.ref T1) (dat ([0] : List Nat)) := by
    rw [dat_list]
    exact .tup sqt_new (.cons (nat_dp 0) .nil)
  show (fun H1 => _) (upd H T1 (.tup [V.int 0]))
  generalize upd H T1 (.tup [V.int 0]) = H1 at e1 d1
  refine ⟨_, rfl, a, CQ, dx, _, _, rfl, e1 _ _ qf.h, T.cQ, T.q_stand, rfl, (q.n : Int), rfl, by omega, by omega, fun D hD => ?_⟩
  refine lc_dt (K := K) (tw_range (K := K) (n := q.n)) (fun i => some ((i, i) : Nat × Nat)) hD (fun _ _ => trivial) (by rw [List.length_range, sizeLine_eq]; omega) (fun i v H2 acc N M hi e2 hacc hv hN hM => ?_) fun H2 acc e2 hacc ha => ?_
  · have hv := dp_nat hv
    subst hv
    exact ⟨rfl, _, rfl, _, rfl, by show 2 ≤ sizeLine; decide, fun T2 hT2 => hN (i, i) _ _ rfl (Ex.new hT2) (pair_dp sqt_new (nat_dp _) (nat_dp _))⟩
  · have em : (List.range q.n).filterMap (fun i => some ((i, i) : Nat × Nat)) = (List.range q.n).map fun i => (i, i) := by
      show List.filterMap (some ∘ fun i : Nat => ((i, i) : Nat × Nat)) _ = _
      rw [List.filterMap_eq_map]
    rw [em] at ha
    refine ⟨D, acc, rfl, .inl ⟨SqL.of hacc, fun t ht => ⟨by show 2 ≤ sizeLine; decide, fun T3 hT3 => k _ _ (((e1.trans e2).put ht).put hT3) ?_⟩⟩⟩
    refine pair_dp sqt_new (((d1.ex e2).ex (Ex.new ht)).ex (Ex.new hT3)) ?_
    rw [dat_list]
    exact .tup ((Ex.new hT3).ld.sqT sqt_new) ((ha.ex (Ex.new ht)).ex (Ex.new hT3))
theorem sc_closed : FnScope ["standings", "rounds", "found", "middle", "row", "standing", "near", "goal"] ["standings", "rounds"] (defScope y_closed) := ⟨rfl, rfl, rfl, by decide +kernel, rfl, by decide +kernel, by decide +kernel⟩
def sp_closed (K : PySem.W.Frag) : Sp := fun vs H Q _ => ∃ (n : Nat) (v : V) (l : List (Nat × Nat)), vs = [.int (n : Int), v] ∧ Dp K H v (.list (l.map dat)) ∧ n ≤ 3 ∧ l.length ≤ 1000 ∧ (∀ i, i < n → (i, i) ∈ l) ∧ (∀ u ∈ l, u.1 < n ∧ u.2 < n) ∧
  ∀ z H', Ex H H' → Dp K H' z (dat (cp n fun i j => dec (Rch (fun a b => (a, b) ∈ l) i j))) → Q z H'
theorem all_refs {H' : Hp} : ∀ ps : List Addr, All (fun (p : Addr) (_ : Hp) (x : V) => x = .ref p) ps H' (ps.map V.ref)
  | [] => .nil
  | _ :: ps => .cons rfl (all_refs (H' := H') ps)
def WarM (R : Nat → Nat → Prop) (r m j x : Nat) : Prop := if j < r then War R (m + 1) j x else War R m j x
/-- a row of the closure stands at p -/
def RowAt (H : Hp) (p : Addr) (n : Nat) (M : Nat → Prop) : Prop := ∃ kvs l, H p = some (.dK kvs) ∧ ikeys kvs l ∧ l.Nodup ∧ (∀ x ∈ l, x < n) ∧ ∀ x, x ∈ l ↔ M x
theorem RowAt.ex {H H' : Hp} {p : Addr} {n : Nat} {M : Nat → Prop} (r : RowAt H p n M) (e : H' p = H p) : RowAt H' p n M := by
  obtain ⟨kvs, l, h1, h2⟩ := r
  exact ⟨kvs, l, e.trans h1, h2⟩
theorem RowAt.iff {H : Hp} {p : Addr} {n : Nat} {M M' : Nat → Prop} (r : RowAt H p n M) (h : ∀ x, M x ↔ M' x) : RowAt H p n M' := by
  obtain ⟨kvs, l, h1, h2, h3, h4, h5⟩ := r
  exact ⟨kvs, l, h1, h2, h3, h4, fun x => (h5 x).trans (h x)⟩
theorem c_closed (T : Tx K mg CS CQ) (F : Fx K mg "closed" y_closed ["standings", "rounds"] f fd) : Cal P w K mg base 1 "closed" (sp_closed K) [] := by
  refine F.cal sc_closed (fun vs H Q E h => ?_) (fun cdv A outer s H vs Q E hr h => ?_)
  · obtain ⟨n, v, l, rfl, _⟩ := h
    rfl
  obtain ⟨n, v, l, rfl, dl, n3, l1000, hrf, hbd, k⟩ := h
  have hu := hu100 hr
  have hu1 := hu_of hr
  refine ⟨_, (pss_cons (pset 2 sc_closed.nd (pe_lc (own := [("standing", 5)]) rfl sc_closed.nd ((pi_range1 (by rfl) T.range (pa_cons (pv 0) pa_nil))) (blkOk_by (by kernel_rfl)) (fun _ _ _ _ _ => (pn 5 sc_closed.nd)) (fun _ _ _ _ _ => pts_nil) (fun _ _ _ _ _ => (k_dc (own := [("near", 6), ("goal", 7)]) (kd := kdK P w K) rfl hu rfl sc_closed.nd ((k_list (K := K) rfl (pv 1))) (blkOk_by (by kernel_rfl)) (fun _ _ _ _ _ => (k_gtup (n := 2) (K := K) rfl rfl (pgs_cons (pn 6 sc_closed.nd) (pgs_cons (pn 7 sc_closed.nd) pgs_nil)))) (fun _ _ _ _ _ => (pts_one (pt_cmpR (op_eq) (pv 6) (pv 5) (by rfl)))) (fun _ _ _ _ _ => (pv 7)) (fun _ _ _ _ _ => pe_bl)))))
    (pss_cons (ps_for PassesOwn.never rfl (pi_range1 (by rfl) T.range (pa_cons (pv 0) pa_nil)) (pn 3 sc_closed.nd) (pss_one (ps_for PassesOwn.never rfl (k_list (K := K) rfl (pv 2)) (pn 4 sc_closed.nd) (pss_one (ps_if (pt_cmp (pc_din hu1 (pv 3) (pv 4))) (pss_one (ps_expr (pe_bm PySem.F.plainAttrs_dict PySem.F.slot_dict_update PySem.F.type_dict_update mt_updK (pv 4) (pa_cons (pe_ix (k_ixl (K := K) rfl) (pv 2) (pv 3) (fun _ _ => rfl)) pa_nil)))) pss_nil)))))
    (pss_one (ps_ret (pe_callTy (k_tuple (K := K) rfl) (by rfl) T.tuple (by decide +kernel) (pa_cons (pe_lc2 (own := [("near", 6), ("goal", 7)]) (vs1 := [7]) rfl sc_closed.nd ((pi_range1 (by rfl) T.range (pa_cons (pv 0) pa_nil))) (blkOk_by (by kernel_rfl)) (by decide) (fun _ _ _ _ _ => (pn 6 sc_closed.nd)) (fun _ _ _ _ _ => pts_nil) (fun _ _ _ _ _ => (k_list (K := K) rfl (pe_callB (k_srtK (K := K) hu rfl rfl) (by rfl) T.sorted (by decide +kernel) (pa_cons (pe_ix (k_ixl (K := K) rfl) (pv 2) (pv 6) (fun _ _ => rfl)) pa_nil)))) (fun _ _ _ _ _ => (pn 7 sc_closed.nd)) (fun _ _ _ _ _ => pts_nil) (fun _ _ _ _ _ => (pe_tup (pa_cons (pv 6) (pa_cons (pv 7) pa_nil))))) pa_nil)))))), ?_⟩
  obtain ⟨pa, ys, rfl, hpa, hys⟩ := dp_lst dl
  generalize hR : (fun a b => (a, b) ∈ l) = R at k
  have hRi : ∀ a b, R a b ↔ (a, b) ∈ l := fun a b => by rw [← hR]
  refine ⟨_, rfl, (n : Int), rfl, by omega, by omega, fun D hD => ?_⟩
  refine lc_it walk_range (fun i H' => Ex H H' ∧ ∃ ps : List Addr, H' D = some (.lst (ps.map V.ref)) ∧ ps.length = i ∧ ps.Nodup ∧ ∀ j p, ps[j]? = some p → RowAt H' p n (R j) ∧ p ≠ D ∧ H p = none) ⟨Ex.new hD, [], upd_same, rfl, List.nodup_nil, by simp⟩ (fun _ _ _ _ => trivial) ?_ ?_
  · rintro i v3 H1 _ hi ⟨e1, ps, h1, h2, h3, h4⟩ ⟨rfl, rfl⟩
    have hi : i < n := hi
    have ev : V.int (0 + (i : Int)) = V.int (i : Int) := by rw [Int.zero_add]
    refine ⟨rfl, _, rfl, pa, rfl, ⟨ys, e1.ld.sqL hpa⟩, fun D2 hD2 => ?_⟩
    refine dcK_tw (tw_list (K := K) (R := Dt K) (l := l) (xs := ys)) (fun pr => if pr.1 = i then some (pr.2, V.bl true) else none) hD2 (fun H' e => ⟨(e1.trans e).ld.sqL hpa, all_dat (hys.ex (e1.trans e))⟩) l1000 ?_ ?_
    · intro pr x H2 kvs N M hpr e2 hkv hx hN hM
      obtain ⟨T0, y1, y2, rfl, hT, d1, d2⟩ := dp_pair hx
      have d1 := dp_nat d1
      have d2 := dp_nat d2
      subst d1 d2
      refine ⟨_, _, rfl, hT, rfl, _, _, rfl, _, _, rfl, rfl, rfl, _, rfl, _, rfl, rfl, _, rfl, ?_⟩
      by_cases c : pr.1 = i
      · exact dP (by rw [c]; exact ev.symm) ⟨_, rfl, hN pr.2 _ H2 (by rw [if_pos c]) (.refl H2)⟩
      · exact dN (fun z => c (by have z := z.trans ev; injection z with z; omega)) (hM (by rw [if_neg c]) H2 (.refl H2))
    · intro H2 e2 hk2
      have D2D : D2 ≠ D := fun z => by rw [z, h1] at hD2; cases hD2
      have hk := kvsOf_keys (l.filterMap fun pr => if pr.1 = i then some (pr.2, V.bl true) else none)
      refine ⟨ps.map V.ref, e2 _ _ h1, by rw [List.length_map, h2, sizeLine_eq]; omega, (e1.trans e2).mut hD, ps ++ [D2], ?_, by simp [h2], ?_, fun j p hj => ?_⟩
      · rw [upd_same, List.map_append]
        rfl
      · rw [List.nodup_append]
        refine ⟨h3, by simp, fun a ha b hb e => ?_⟩
        rw [List.mem_singleton] at hb
        rw [hb] at e
        obtain ⟨j, hj⟩ := List.mem_iff_getElem?.mp ha
        obtain ⟨⟨kvs, _, hk, _⟩, _⟩ := h4 j a hj
        rw [e, hD2] at hk
        cases hk
      · rcases Nat.lt_or_ge j ps.length with hjl | hjl
        · rw [List.getElem?_append_left hjl] at hj
          obtain ⟨r, g1, g2⟩ := h4 j p hj
          refine ⟨r.ex ?_, g1, g2⟩
          obtain ⟨kvs, _, hkk, _⟩ := r
          rw [upd_ne g1, e2 _ _ hkk, hkk]
        · have : j = ps.length := by
            have := (List.getElem?_eq_some_iff.mp hj).1
            simp at this
            omega
          subst this
          simp at hj
          subst hj
          refine ⟨⟨_, _, (upd_ne D2D).trans hk2, hk, keysOf_nodup _, fun x hx => ?_, fun x => ?_⟩, D2D, e1.back hD2⟩
          · rw [mem_keysOf, List.mem_map] at hx
            obtain ⟨y, hy, rfl⟩ := hx
            obtain ⟨pr, hpr, h⟩ := List.mem_filterMap.mp hy
            split at h
            · cases h
              exact (hbd pr hpr).2
            · cases h
          · rw [mem_keysOf, List.mem_map, hRi, h2]
            constructor
            · rintro ⟨y, hy, rfl⟩
              obtain ⟨pr, hpr, h⟩ := List.mem_filterMap.mp hy
              split at h
              · rename_i hc
                cases h
                rw [← hc]
                exact hpr
              · cases h
            · intro h
              exact ⟨(x, .bl true), List.mem_filterMap.mpr ⟨_, h, by rw [if_pos rfl]⟩, rfl⟩
  · rintro H1 ⟨e1, ps, h1, h2, h3, h4⟩
    have h2 : ps.length = n := by simpa using h2
    have hst : ∀ p ∈ ps, p ≠ D ∧ H p = none := fun p hp => by
      obtain ⟨j, hj⟩ := List.mem_iff_getElem?.mp hp
      exact (h4 j p hj).2
    have allp : ∀ H', All (fun (p : Addr) (_ : Hp) (x : V) => x = .ref p) ps H' (ps.map V.ref) := fun H' => all_refs ps
    refine ⟨_, rfl, (n : Int), rfl, by omega, by omega, ?_⟩
    refine for_tw (tw_range (K := K) (n := n)) (fun m σ H' => ∃ b3 b4 b5 b6 b7 : Option V, σ = [some (.int (n : Int)), some (.ref pa), some (.ref D), b3, b4, b5, b6, b7] ∧ Ex H H' ∧ H' D = some (.lst (ps.map V.ref)) ∧ ∀ j p, ps[j]? = some p → RowAt H' p n (War R m j)) ⟨_, _, _, _, _, rfl, e1, h1, fun j p hj => (h4 j p hj).1⟩ (fun _ _ _ _ _ => trivial) ?_ ?_
    · rintro m mm xv σ H2 H3 hm ⟨_, _, _, _, _, rfl, e2, hD2, rows⟩ e23 hxv
      have hmm : mm = m ∧ m < n := by
        obtain ⟨z1, z2⟩ := List.getElem?_eq_some_iff.mp hm
        rw [List.getElem_range] at z2
        rw [List.length_range] at z1
        exact ⟨z2.symm, z1⟩
      obtain ⟨rfl, hmn⟩ := hmm
      have hxv := dp_nat hxv
      subst hxv
      have hD3 := e23 _ _ hD2
      have hkk : War R mm mm mm := war_mono ((hRi mm mm).mpr (hrf mm hmn)) mm
      obtain ⟨pk, hpk⟩ : ∃ pk, ps[mm]? = some pk := ⟨ps[mm], List.getElem?_eq_getElem (by omega)⟩
      refine ⟨_, rfl, D, rfl, ⟨ps.map V.ref, SqL.of hD3⟩, ?_⟩
      refine for_tw (tw_list (K := K) (R := fun (p : Addr) (_ : Hp) (x : V) => x = .ref p) (l := ps) (xs := ps.map V.ref)) (fun r σ' H' => ∃ b4 b5 b6 b7 : Option V, σ' = [some (.int (n : Int)), some (.ref pa), some (.ref D), some (.int (mm : Int)), b4, b5, b6, b7] ∧ Ex H H' ∧ H' D = some (.lst (ps.map V.ref)) ∧ ∀ j p, ps[j]? = some p → RowAt H' p n (WarM R r mm j)) ⟨_, _, _, _, rfl, e2.trans e23, hD3, fun j p hj => ?_⟩ ?_ ?_ ?_
      · obtain ⟨kvs, l', g1, g2, g3, g4, g5⟩ := rows j p hj
        exact ⟨kvs, l', e23 _ _ g1, g2, g3, g4, fun x => by unfold WarM; rw [if_neg (by omega)]; exact g5 x⟩
      · rintro r σ' H4 _ ⟨_, _, _, _, rfl, _, hD4, _⟩
        exact ⟨SqL.of hD4, allp _⟩
      · rintro r p xp σ' H4 H5 hr' ⟨_, _, _, _, rfl, e4, hD4, rows4⟩ e45 hxp
        have hxp : xp = .ref p := hxp
        subst hxp
        have hD5 := e45 _ _ hD4
        have e5 := e4.trans e45
        have rows5 : ∀ j p, ps[j]? = some p → RowAt H5 p n (WarM R r mm j) := fun j p hj => by
          obtain ⟨kvs, l', g1, g2⟩ := rows4 j p hj
          exact ⟨kvs, l', e45 _ _ g1, g2⟩
        obtain ⟨kvs, l', g1, g2, g3, g4, g5⟩ := rows5 r p hr'
        have g6 : ∀ x, x ∈ l' ↔ War R mm r x := fun x => by
          have := g5 x
          unfold WarM at this
          rw [if_neg (by omega)] at this
          exact this
        have lenl : l'.length ≤ n := le_of_bound g3 g4
        have keep : (∀ x, War R (mm + 1) r x ↔ War R mm r x) → ∀ j p', ps[j]? = some p' → RowAt H5 p' n (WarM R (r + 1) mm j) := fun hsame j p' hj => by
          refine (rows5 j p' hj).iff fun x => ?_
          unfold WarM
          by_cases c1 : j < r
          · rw [if_pos c1, if_pos (by omega)]
          · by_cases c2 : j = r
            · subst c2
              rw [if_neg c1, if_pos (by omega), hsame]
            · rw [if_neg c1, if_neg (by omega)]
        refine ⟨_, rfl, _, rfl, p, _, rfl, DGet.k (k := Sum.inl (mm : Int)) g1, _, rfl, ?_⟩
        rw [ikeys_val g2 mm]
        by_cases hc : mm ∈ l'
        · obtain ⟨kvk, lk, f1, f2, f3, f4, f5⟩ := rows5 mm pk hpk
          have f6 : ∀ x, x ∈ lk ↔ War R mm mm x := fun x => by
            rw [f5]
            unfold WarM
            split
            · exact ⟨fun z => z.elim id And.right, fun z => .inl z⟩
            · exact Iff.rfl
          have lenk : lk.length ≤ n := le_of_bound f3 f4
          have l1 := ikeys_len g2
          have l2 := ikeys_len f2
          refine dP hc ⟨_, rfl, .inr (.inr (.inl ⟨rfl, .inl ⟨_, g1⟩⟩)), _, rfl, _, rfl, D, ps.map V.ref, (mm : Int), .ref pk, rfl, rfl, SqL.of hD5, atI_nat (by rw [List.getElem?_map, hpk]; rfl), kvs, kvk, p, pk, rfl, rfl, g1, f1, by rw [sizeLine_eq]; omega, fun ep => ?_, fun np => ?_⟩
          · subst ep
            have er : r = mm := nodup_at h3 hr' hpk
            exact ⟨_, _, _, _, rfl, e5, hD5, keep fun x => by
              rw [er]
              exact ⟨fun z => z.elim id And.right, fun z => .inl z⟩⟩
          · obtain ⟨pD, pH⟩ := hst p (List.mem_of_getElem? hr')
            refine ⟨_, _, _, _, rfl, e5.mut pH, (upd_ne (Ne.symm pD)).trans hD5, fun j p' hj => ?_⟩
            by_cases ej : j = r
            · subst ej
              rw [hr'] at hj
              cases hj
              refine ⟨_, _, upd_same, mergeK_keys g2 f2, foldK_nodup g3, fun x hx => ?_, fun x => ?_⟩
              · rw [mem_foldK] at hx
                exact hx.elim (g4 x) (f4 x)
              · unfold WarM
                rw [mem_foldK, if_pos (by omega), g6, f6]
                exact ⟨fun z => z.elim .inl fun z => .inr ⟨(g6 mm).mp hc, z⟩, fun z => z.elim .inl fun z => .inr z.2⟩
            · have pne : p' ≠ p := fun z => by
                rw [z] at hj
                exact ej (nodup_at h3 hj hr')
              refine ((rows5 j p' hj).iff fun x => ?_).ex (upd_ne pne)
              unfold WarM
              by_cases c1 : j < r
              · rw [if_pos c1, if_pos (by omega)]
              · rw [if_neg c1, if_neg (by omega)]
        · exact dN hc ⟨_, _, _, _, rfl, e5, hD5, keep fun x => ⟨fun z => z.elim id fun z => absurd ((g6 mm).mpr z.1) hc, fun z => .inl z⟩⟩
      · rintro σ' H4 ⟨_, _, _, _, rfl, e4, hD4, rows4⟩
        refine ⟨_, _, _, _, _, rfl, e4, hD4, fun j p hj => (rows4 j p hj).iff fun x => ?_⟩
        unfold WarM
        rw [if_pos (List.getElem?_eq_some_iff.mp hj).1]
    · rintro σ H2 ⟨_, _, _, _, _, rfl, e2, hD2, rows⟩
      rw [List.length_range] at rows
      have rows : ∀ j p, ps[j]? = some p → RowAt H2 p n (Rch R j) := fun j p hj => (rows j p hj).iff fun x => by
        have hj' := (List.getElem?_eq_some_iff.mp hj).1
        exact war_iff (fun i hi => (hRi i i).mpr (hrf i hi)) (fun a b h => (hbd _ ((hRi a b).mp h)).1) (by omega)
      refine ⟨_, rfl, (n : Int), rfl, by omega, by omega, fun D3 hD3 => ?_⟩
      have clen : ∀ i, (cl n fun j => dec (Rch R i j)).length ≤ n := fun i => le_of_bound (lt_nodup (cl_asc _ _)) fun x hx => (mem_cl.mp hx).1
      refine lc2_dx (K := K) (tw_range (K := K) (n := n)) (R1 := Dt K) (fun i => cl n fun j => dec (Rch R i j)) (fun i j => some ((i, j) : Nat × Nat)) hD3 (fun _ _ => trivial) ?_ ?_ ?_
      · have := fm_bound (List.range n) (fun i => cl n fun j => dec (Rch R i j)) n fun i _ => clen i
        rw [List.length_range] at this
        have : n * n ≤ 9 := Nat.le_trans (Nat.mul_le_mul n3 n3) (by decide)
        rw [sizeLine_eq]
        omega
      · intro i v Hc acc M M' hi ec hacc hv hM hM'
        have hv := dp_nat hv
        subst hv
        have hin := List.mem_range.mp hi
        obtain ⟨p, hp⟩ : ∃ p, ps[i]? = some p := ⟨ps[i], List.getElem?_eq_getElem (by omega)⟩
        obtain ⟨kvs, l', g1, g2, g3, g4, g5⟩ := rows i p hp
        have lenl : l'.length ≤ n := le_of_bound g3 g4
        have es : srt l' = cl n fun j => dec (Rch R i j) := srt_cl g3 fun u => by
          rw [g5, dec_iff]
          exact ⟨fun z => ⟨g4 u ((g5 u).mpr z), z⟩, fun z => z.2⟩
        refine ⟨rfl, ?_⟩
        refine ⟨_, rfl, _, rfl, D, ps.map V.ref, (i : Int), .ref p, rfl, rfl, SqL.of (ec _ _ hD2), atI_nat (by rw [List.getElem?_map, hp]; rfl), p, kvs, l', rfl, ec _ _ g1, g2, by omega, fun ys2 pp dy hpp => ⟨pp, rfl, ⟨ys2, sql_new⟩, ?_⟩⟩
        rw [es] at dy
        have e2' := dp_nats dy
        have ppD : pp ≠ D3 := fun z => by rw [z, hacc] at hpp; cases hpp
        refine hM (Itl K pp) _ _ _ (Ex.new hpp) (tw_list (K := K) (R := Dt K) (l := cl n fun j => dec (Rch R i j)) (xs := ys2)) (fun H' e => ⟨SqL.of (e _ _ ppD upd_same), ?_⟩) ?_
        · rw [e2']
          exact all_dat (nats_dp _)
        · intro j v2 H5 acc5 N N' hj e5 hacc5 hv2 hN hN'
          have hv2 := dp_nat hv2
          subst hv2
          exact ⟨rfl, _, rfl, _, rfl, by show 2 ≤ sizeLine; decide, fun T2 hT2 => hN (i, j) _ _ rfl (Ex.new hT2) (pair_dp sqt_new (nat_dp _) (nat_dp _))⟩
      · intro H5 acc e5 hacc ha
        have em : ((List.range n).flatMap fun i => (cl n fun j => dec (Rch R i j)).filterMap fun j => some ((i, j) : Nat × Nat)) = cp n fun i j => dec (Rch R i j) := by
          unfold cp
          congr 1
          funext i
          show List.filterMap (some ∘ fun j : Nat => ((i, j) : Nat × Nat)) _ = _
          rw [List.filterMap_eq_map]
          rfl
        rw [em] at ha
        refine ⟨D3, acc, rfl, .inl ⟨SqL.of hacc, fun t ht => k _ _ ((e2.trans e5).put ht) ?_⟩⟩
        rw [dat_list]
        exact .tup sqt_new (ha.ex (Ex.new ht))
end
end K26

set_option Elab.async false
set_option linter.all false
set_option maxRecDepth 100000
set_option maxHeartbeats 4000000
/-! within: seen_behind, small, triples_behind. -/
namespace K26
open PySem PySem.Spec PyProof.Rows L2
open Ky C8
section
variable {P : Program} {w : World} {K : PySem.W.Frag} {mg : Str → Option Value} {base : Heap} {CS CQ f : Addr} {fd : FuncData}
def goL (q : Qs) (s : Sg) : List (Nat × Nat) := q.steps.filterMap fun t => if t.y = s then some (t.x, t.z) else none
theorem mem_goL {q : Qs} {s : Sg} {u : Nat × Nat} : u ∈ goL q s ↔ (⟨u.1, s, u.2⟩ : Stp) ∈ q.steps := by
  unfold goL
  rw [List.mem_filterMap]
  constructor
  · rintro ⟨⟨t1, t2, t3⟩, h1, h2⟩
    split at h2
    · rename_i hc
      cases h2
      have hc : t2 = s := hc
      rw [← hc]
      exact h1
    · cases h2
  · intro h
    exact ⟨_, h, by rw [if_pos rfl]⟩
theorem goL_len (q : Qs) (s : Sg) : (goL q s).length ≤ q.steps.length := List.length_filterMap_le _ _
theorem dp_seen {H : Hp} {v : V} {sn : Seen} (h : Dp K H v (dat sn)) : ∃ a x y, v = .ref a ∧ SqT K H a [x, y] ∧ Dp K H x (.tuple (sn.1.map dat)) ∧ Dp K H y (.tuple (sn.2.map dat)) := by
  obtain ⟨a, x, y, e, hs, d1, d2⟩ := dp_pair h
  rw [dat_list] at d1 d2
  exact ⟨a, x, y, e, hs, d1, d2⟩
def extL (q : Qs) (rd : List (Nat × Nat)) (s : Sg) (u : Nat × Nat) : List (Nat × Nat) := (goL q s).filterMap fun t => if (u.2, t.1) ∈ rd then some (u.1, t.2) else none
def pairsL (q : Qs) (rd : List (Nat × Nat)) (s : Sg) (cs : List (Nat × Nat)) : List (Nat × Nat) := (List.range q.n).map (fun i => (i, i)) ++ cs.flatMap (extL q rd s)
theorem mem_pairsL {q : Qs} {rd : List (Nat × Nat)} {s : Sg} {u : Nat × Nat} : u ∈ pairsL q rd s (goL q s.con) ↔ (u.1 = u.2 ∧ u.1 < q.n) ∨ K26.base q (fun m k => (m, k) ∈ rd) s u.1 u.2 := by
  obtain ⟨i, j⟩ := u
  unfold pairsL extL K26.base
  rw [List.mem_append, List.mem_map, List.mem_flatMap]
  constructor
  · rintro (⟨a, h1, h2⟩ | ⟨c, h1, h2⟩)
    · cases h2
      exact .inl ⟨rfl, List.mem_range.mp h1⟩
    · obtain ⟨t, h3, h4⟩ := List.mem_filterMap.mp h2
      split at h4
      · rename_i hc
        cases h4
        exact .inr ⟨c.2, t.1, mem_goL.mp h1, hc, mem_goL.mp h3⟩
      · cases h4
  · rintro (⟨h1, h2⟩ | ⟨m, k, h1, h2, h3⟩)
    · have h1 : i = j := h1
      subst h1
      exact .inl ⟨i, List.mem_range.mpr h2, rfl⟩
    · exact .inr ⟨(i, m), mem_goL.mpr h1, List.mem_filterMap.mpr ⟨(k, j), mem_goL.mpr h3, by rw [if_pos h2]⟩⟩
theorem rch_pairs {q : Qs} {rd : List (Nat × Nat)} {s : Sg} {i j : Nat} : Rch (fun a b => (a, b) ∈ pairsL q rd s (goL q s.con)) i j ↔ Rch (K26.base q (fun m k => (m, k) ∈ rd) s) i j := by
  constructor
  · intro h
    induction h with
    | refl => exact .refl
    | tail _ r ih =>
      rcases mem_pairsL.mp r with ⟨e, _⟩ | r
      · have e : _ = _ := e
        simp only at e
        rw [← e]
        exact ih
      · exact .tail ih r
  · intro h
    exact h.mono fun a b r => mem_pairsL.mpr (.inr r)
theorem sc_seen_behind : FnScope ["question", "seen", "sign", "goes", "comes", "pairs", "later", "met", "reach", "rounds", "begin", "middle", "standing", "near", "one", "far", "end"] ["question", "seen", "sign"] (defScope y_seen_behind) := ⟨rfl, rfl, rfl, by decide +kernel, rfl, by decide +kernel, by decide +kernel⟩
def sp_seen_behind (K : PySem.W.Frag) (CQ : Addr) : Sp := fun vs H Q _ => ∃ (v v2 : V) (q : Qs) (sn : Seen) (s : Sg), vs = [v, v2, .str (sgS s)] ∧ QAt K CQ H v q ∧ Dp K H v2 (dat sn) ∧ ∀ z H', Ex H H' → Dp K H' z (dat (seenB q sn s)) → Q z H'
theorem c_seen_behind (T : Tx K mg CS CQ) (F : Fx K mg "seen_behind" y_seen_behind ["question", "seen", "sign"] f fd) (c_contrary : Cal P w K mg base 1 "contrary" (spS Sg.con) []) (c_closed : Cal P w K mg base 1 "closed" (sp_closed K) []) : Cal P w K mg base 2 "seen_behind" (sp_seen_behind K CQ) [] := by
  refine F.cal sc_seen_behind (fun vs H Q E h => ?_) (fun cdv A outer s H vs Q E hr h => ?_)
  · obtain ⟨v, v2, q, sn, sg, rfl, _⟩ := h
    rfl
  obtain ⟨v, v2, q, sn, sg, rfl, hq, dsn, k⟩ := h
  have hu := hu100 hr
  refine ⟨_, (pss_cons (ps_asg (pv 1) (k_gtup (n := 2) (K := K) rfl rfl (pgs_cons (pn 8 sc_seen_behind.nd) (pgs_cons (pn 9 sc_seen_behind.nd) pgs_nil))))
    (pss_cons (ps_setLc (i := 3) (own := [("near", 13), ("one", 14), ("far", 15)]) rfl sc_seen_behind.nd rfl rfl (sw_true rfl rfl rfl (by decide +kernel)) ((k_tup (K := K) rfl (k_fld (K := K) rfl (pv 0)))) (blkOk_by (by kernel_rfl)) (fun _ _ _ _ _ => (k_gtup (n := 3) (K := K) rfl rfl (pgs_cons (pn 13 sc_seen_behind.nd) (pgs_cons (pn 14 sc_seen_behind.nd) (pgs_cons (pn 15 sc_seen_behind.nd) pgs_nil))))) (fun _ _ _ _ _ => (pts_one (pt_cmpR (k_eq (α := Sg) (O := ⟨P, w, K⟩) hu rfl) (pv 14) (pv 2) (by rfl)))) (fun _ _ _ _ _ => (pe_tup (pa_cons (pv 13) (pa_cons (pv 15) pa_nil)))))
    (pss_cons (ps_setLc (i := 4) (own := [("near", 13), ("one", 14), ("far", 15)]) rfl sc_seen_behind.nd rfl rfl (sw_true rfl rfl rfl (by decide +kernel)) ((k_tup (K := K) rfl (k_fld (K := K) rfl (pv 0)))) (blkOk_by (by kernel_rfl)) (fun _ _ _ _ _ => (k_gtup (n := 3) (K := K) rfl rfl (pgs_cons (pn 13 sc_seen_behind.nd) (pgs_cons (pn 14 sc_seen_behind.nd) (pgs_cons (pn 15 sc_seen_behind.nd) pgs_nil))))) (fun _ _ _ _ _ => (pts_one (pt_cmpR (k_eq (α := Sg) (O := ⟨P, w, K⟩) hu rfl) (pv 14) (pe_c c_contrary hr (by decide) (by rfl) (pa_cons (pv 2) pa_nil)) (by rfl)))) (fun _ _ _ _ _ => (pe_tup (pa_cons (pv 13) (pa_cons (pv 15) pa_nil)))))
    (pss_cons (ps_setLc (i := 5) (own := [("standing", 12)]) rfl sc_seen_behind.nd rfl rfl (sw_true rfl rfl rfl (by decide +kernel)) ((pi_range1 (by rfl) T.range (pa_cons (k_fld (K := K) rfl (pv 0)) pa_nil))) (blkOk_by (by kernel_rfl)) (fun _ _ _ _ _ => (pn 12 sc_seen_behind.nd)) (fun _ _ _ _ _ => pts_nil) (fun _ _ _ _ _ => (pe_tup (pa_cons (pv 12) (pa_cons (pv 12) pa_nil)))))
    (pss_cons (ps_for PassesOwn.never rfl (k_list (K := K) rfl (pv 4)) (k_gtup (n := 2) (K := K) rfl rfl (pgs_cons (pn 10 sc_seen_behind.nd) (pgs_cons (pn 11 sc_seen_behind.nd) pgs_nil))) (pss_one (ps_expr (pe_bm PySem.F.plainAttrs_list PySem.F.slot_list_extend PySem.F.type_list_extend mt_extend (pv 5) (pa_cons (pe_lc (own := [("near", 13), ("end", 16)]) rfl sc_seen_behind.nd ((k_list (K := K) rfl (pv 3))) (blkOk_by (by kernel_rfl)) (fun _ _ _ _ _ => (k_gtup (n := 2) (K := K) rfl rfl (pgs_cons (pn 13 sc_seen_behind.nd) (pgs_cons (pn 16 sc_seen_behind.nd) pgs_nil)))) (fun _ _ _ _ _ => (pts_one (pt_cmpR (k_in (α := Nat × Nat) (O := ⟨P, w, K⟩) hu rfl) (pe_tup (pa_cons (pv 11) (pa_cons (pv 13) pa_nil))) (pv 9) (by rfl)))) (fun _ _ _ _ _ => (pe_tup (pa_cons (pv 10) (pa_cons (pv 16) pa_nil))))) pa_nil)))))
    (pss_cons (pset 6 sc_seen_behind.nd (pe_c c_closed hr (by decide) (by rfl) (pa_cons (k_fld (K := K) rfl (pv 0)) (pa_cons (pv 5) pa_nil))))
    (pss_cons (pset 7 sc_seen_behind.nd (pe_lc (own := [("near", 13), ("far", 15)]) rfl sc_seen_behind.nd ((k_list (K := K) rfl (pv 3))) (blkOk_by (by kernel_rfl)) (fun _ _ _ _ _ => (k_gtup (n := 2) (K := K) rfl rfl (pgs_cons (pn 13 sc_seen_behind.nd) (pgs_cons (pn 15 sc_seen_behind.nd) pgs_nil)))) (fun _ _ _ _ _ => (pts_one (pt_cmpR (k_in (α := Nat) (O := ⟨P, w, K⟩) hu rfl) (pv 13) (pv 8) (by rfl)))) (fun _ _ _ _ _ => (pv 15))))
    (pss_one (ps_ret (pe_tup (pa_cons (pe_callTy (k_tuple (K := K) rfl) (by rfl) T.tuple (by decide +kernel) (pa_cons (pe_callB (k_sset (w := w) rfl rfl) (by rfl) T.sorted (by decide +kernel) (pa_cons (pe_callTy (k_setL (O := ⟨P, w, K⟩) rfl rfl) (by rfl) T.set (by decide +kernel) (pa_cons (pe_lc (own := [("near", 13), ("end", 16)]) rfl sc_seen_behind.nd ((k_tup (K := K) rfl (pv 6))) (blkOk_by (by kernel_rfl)) (fun _ _ _ _ _ => (k_gtup (n := 2) (K := K) rfl rfl (pgs_cons (pn 13 sc_seen_behind.nd) (pgs_cons (pn 16 sc_seen_behind.nd) pgs_nil)))) (fun _ _ _ _ _ => (pts_one (pt_cmpR (k_in (α := Nat) (O := ⟨P, w, K⟩) hu rfl) (pv 13) (pv 7) (by rfl)))) (fun _ _ _ _ _ => (pv 16))) pa_nil)) pa_nil)) pa_nil)) (pa_cons (pv 6) pa_nil)))))))))))), ?_⟩
  obtain ⟨a, dx, st, en, fr, rfl, qf⟩ := hq
  have q3 := qf.ok.n3
  have s7 := qf.ok.s7
  have wf := qf.ok.wf
  obtain ⟨TS, v8, v9, rfl, hTS, d8, d9⟩ := dp_seen dsn
  refine ⟨_, rfl, _, _, rfl, hTS, rfl, _, _, rfl, _, _, rfl, rfl, ?_⟩
  obtain ⟨as, xs, est, hsx, hvx⟩ := dp_tuple qf.st
  subst est
  have goes : ∀ c : Sg, (goL q c).length ≤ 7 := fun c => Nat.le_trans (goL_len q c) s7
  -- goes
  refine ⟨_, rfl, a, CQ, dx, _, _, rfl, qf.h, T.cQ, T.q_steps, rfl, as, rfl, ⟨xs, hsx⟩, fun D1 hD1 => ?_⟩
  refine lc_dt (K := K) (tw_tup (K := K) (R := Dt K) (l := q.steps) (xs := xs)) (fun t => if t.y = sg then some (t.x, t.z) else none) hD1 (fun H' e => ⟨e.ld.sqT hsx, all_dat (hvx.ex e)⟩) (by rw [sizeLine_eq]; omega) (fun t x H1 acc N M ht e1 hacc hx hN hM => ?_) fun H1 acc1 e1 hacc1 ha1 => ?_
  · obtain ⟨T0, y1, y2, y3, rfl, hT, d1, d2, d3⟩ := dp_t3 hx
    refine ⟨_, _, rfl, hT, rfl, _, _, rfl, _, _, rfl, _, _, rfl, rfl, rfl, _, rfl, _, rfl, t.y, sg, d2, sg_dp sg, _, rfl, ?_⟩
    by_cases c : t.y = sg
    · exact dP c ⟨_, rfl, _, rfl, by show 2 ≤ sizeLine; decide, fun T2 hT2 => hN (t.x, t.z) _ _ (by rw [if_pos c]) (Ex.new hT2) (pair_dp sqt_new (d1.ex (Ex.new hT2)) (d3.ex (Ex.new hT2)))⟩
    · exact dN c (hM (by rw [if_neg c]) H1 (.refl H1))
  have ha1 : DpAll K H1 acc1 ((goL q sg).map dat) := ha1
  -- comes
  have q1 := qf.ex e1
  refine ⟨_, rfl, a, CQ, dx, _, _, rfl, q1.h, T.cQ, T.q_steps, rfl, as, rfl, ⟨xs, e1.ld.sqT hsx⟩, fun D2 hD2 => ?_⟩
  refine lc_dt (K := K) (tw_tup (K := K) (R := Dt K) (l := q.steps) (xs := xs)) (fun t => if t.y = sg.con then some (t.x, t.z) else none) hD2 (fun H' e => ⟨(e1.trans e).ld.sqT hsx, all_dat (hvx.ex (e1.trans e))⟩) (by rw [sizeLine_eq]; omega) (fun t x H2 acc N M ht e2 hacc hx hN hM => ?_) fun H2 acc2 e2 hacc2 ha2 => ?_
  · obtain ⟨T0, y1, y2, y3, rfl, hT, d1, d2, d3⟩ := dp_t3 hx
    refine ⟨_, _, rfl, hT, rfl, _, _, rfl, _, _, rfl, _, _, rfl, rfl, rfl, _, rfl, _, rfl, sg, rfl, fun H3 e3 => ⟨t.y, sg.con, d2.ex e3, sg_dp sg.con, _, rfl, ?_⟩⟩
    by_cases c : t.y = sg.con
    · exact dP c ⟨_, rfl, _, rfl, by show 2 ≤ sizeLine; decide, fun T2 hT2 => hN (t.x, t.z) _ _ (by rw [if_pos c]) (e3.trans (Ex.new hT2)) (pair_dp sqt_new ((d1.ex e3).ex (Ex.new hT2)) ((d3.ex e3).ex (Ex.new hT2)))⟩
    · exact dN c (hM (by rw [if_neg c]) H3 e3)
  have ha2 : DpAll K H2 acc2 ((goL q sg.con).map dat) := ha2
  have e02 := e1.trans e2
  have hacc12 := e2 _ _ hacc1
  have ha12 := ha1.ex e2
  -- pairs
  refine ⟨_, rfl, a, CQ, dx, _, _, rfl, e02 _ _ qf.h, T.cQ, T.q_stand, rfl, (q.n : Int), rfl, by omega, by omega, fun D3 hD3 => ?_⟩
  refine lc_dt (K := K) (tw_range (K := K) (n := q.n)) (fun i => some ((i, i) : Nat × Nat)) hD3 (fun _ _ => trivial) (by rw [List.length_range, sizeLine_eq]; omega) (fun i v H3 acc N M hi e3 hacc hv hN hM => ?_) fun H3 acc3 e3 hacc3 ha3 => ?_
  · have hv := dp_nat hv
    subst hv
    exact ⟨rfl, _, rfl, _, rfl, by show 2 ≤ sizeLine; decide, fun T2 hT2 => hN (i, i) _ _ rfl (Ex.new hT2) (pair_dp sqt_new (nat_dp _) (nat_dp _))⟩
  have em : (List.range q.n).filterMap (fun i => some ((i, i) : Nat × Nat)) = (List.range q.n).map fun i => (i, i) := by
    show List.filterMap (some ∘ fun i : Nat => ((i, i) : Nat × Nat)) _ = _
    rw [List.filterMap_eq_map]
  rw [em] at ha3
  have e03 := e02.trans e3
  -- the loop
  have hD3n : H D3 = none := e02.back hD3
  refine ⟨_, rfl, D2, rfl, ⟨acc2, SqL.of (e3 _ _ hacc2)⟩, ?_⟩
  refine for_tw (tw_list (K := K) (R := Dt K) (l := goL q sg.con) (xs := acc2)) (fun i σ H' => ∃ (b6 b7 b10 b11 b12 b13 b14 b15 b16 : Option V) (os : List V), σ = [some (.ref a), some (.ref TS), some (.str (sgS sg)), some (.ref D1), some (.ref D2), some (.ref D3), b6, b7, some v8, some v9, b10, b11, b12, b13, b14, b15, b16] ∧ Ex H2 H' ∧ H' D3 = some (.lst os) ∧ DpAll K H' os ((pairsL q sn.2 sg ((goL q sg.con).take i)).map dat))
    ⟨_, _, _, _, _, _, _, _, _, acc3, rfl, e3, hacc3, by unfold pairsL; simpa using ha3⟩ ?_ ?_ ?_
  · rintro i σ H4 _ ⟨_, _, _, _, _, _, _, _, _, os, rfl, e4, _⟩
    exact ⟨SqL.of (e4 _ _ hacc2), all_dat (ha2.ex e4)⟩
  · rintro i u x σ H4 H5 hi ⟨_, _, _, _, _, _, _, _, _, os, rfl, e4, ho, hd⟩ e45 hx
    have e5 := e4.trans e45
    have ho5 := e45 _ _ ho
    have hd5 := hd.ex e45
    obtain ⟨T0, y1, y2, rfl, hT, d1, d2⟩ := dp_pair hx
    refine ⟨_, _, rfl, hT, rfl, _, _, rfl, _, _, rfl, rfl, ?_⟩
    refine ⟨_, rfl, .inl ⟨rfl, _, SqL.of ho5⟩, _, rfl, D1, rfl, ⟨acc1, SqL.of (e5 _ _ hacc12)⟩, fun D6 hD6 => ?_⟩
    have D63 : D6 ≠ D3 := fun z => by rw [z, ho5] at hD6; cases hD6
    refine lc_dt (K := K) (tw_list (K := K) (R := Dt K) (l := goL q sg) (xs := acc1)) (fun t => if (u.2, t.1) ∈ sn.2 then some (u.1, t.2) else none) hD6 (fun H' e => ⟨SqL.of (e _ _ (e5 _ _ hacc12)), all_dat ((ha12.ex e5).ex e)⟩) (by have := goes sg; rw [sizeLine_eq]; omega) (fun t x6 H6 acc N M ht e6 hacc hx6 hN hM => ?_) fun H6 acc6 e6 hacc6 ha6 => ?_
    · obtain ⟨T6, z1, z2, rfl, hT6, g1, g2⟩ := dp_pair hx6
      refine ⟨_, _, rfl, hT6, rfl, _, _, rfl, _, _, rfl, rfl, rfl, ?_⟩
      refine ⟨_, rfl, _, rfl, by show 2 ≤ sizeLine; decide, fun T7 hT7 => ⟨_, rfl, sn.2, (u.2, t.1), pair_dp sqt_new ((d2.ex e6).ex (Ex.new hT7)) (g1.ex (Ex.new hT7)), .inl ((d9.ex (e02.trans (e5.trans e6))).ex (Ex.new hT7)), _, rfl, ?_⟩⟩
      by_cases c : (u.2, t.1) ∈ sn.2
      · exact dP c ⟨_, rfl, _, rfl, by show 2 ≤ sizeLine; decide, fun T8 hT8 => hN (u.1, t.2) _ _ (by rw [if_pos c]) ((Ex.new hT7).trans (Ex.new hT8)) (pair_dp sqt_new (((d1.ex e6).ex (Ex.new hT7)).ex (Ex.new hT8)) ((g2.ex (Ex.new hT7)).ex (Ex.new hT8)))⟩
      · exact dN c (hM (by rw [if_neg c]) _ (Ex.new hT7))
    · have ha6 : DpAll K H6 acc6 ((extL q sn.2 sg u).map dat) := ha6
      have ho6 := e6 _ _ ho5
      have lt7 : Lt H6 (upd H6 D3 (.lst (os ++ acc6))) := Lt.mut (noT_lst ho6)
      have l1 : acc6.length ≤ 7 := by
        rw [dpAll_len ha6, List.length_map]
        exact Nat.le_trans (List.length_filterMap_le _ _) (goes sg)
      have l2 : os.length ≤ 3 + 7 * 7 := by
        rw [dpAll_len hd5, List.length_map]
        unfold pairsL
        rw [List.length_append, List.length_map, List.length_range, List.length_flatMap]
        have := fm_bound ((goL q sg.con).take i) (extL q sn.2 sg) 7 fun c _ => Nat.le_trans (List.length_filterMap_le _ _) (goes sg)
        have h7 : ((goL q sg.con).take i).length ≤ 7 := by
          rw [List.length_take]
          have := goes sg.con
          omega
        have := Nat.mul_le_mul h7 (Nat.le_refl 7)
        omega
      refine ⟨D3, D6, os, acc6, rfl, rfl, ho6, hacc6, by rw [sizeLine_eq]; omega, ?_⟩
      refine ⟨_, _, _, _, _, _, _, _, _, os ++ acc6, rfl, (e5.trans e6).mut hD3, upd_same, ?_⟩
      have ep : pairsL q sn.2 sg ((goL q sg.con).take (i + 1)) = pairsL q sn.2 sg ((goL q sg.con).take i) ++ extL q sn.2 sg u := by
        unfold pairsL
        rw [take_snoc hi, List.flatMap_append, List.append_assoc]
        simp
      rw [ep, List.map_append]
      exact dpAll_app (dats_lt lt7 (hd5.ex e6)) (dats_lt lt7 ha6)
  · rintro σ H4 ⟨_, _, _, _, _, _, _, _, _, os, rfl, e4, ho, hd⟩
    rw [List.take_length] at hd
    have e04 := e02.trans e4
    have lp : (pairsL q sn.2 sg (goL q sg.con)).length ≤ 1000 := by
      unfold pairsL
      rw [List.length_append, List.length_map, List.length_range, List.length_flatMap]
      have := fm_bound (goL q sg.con) (extL q sn.2 sg) 7 fun c _ => Nat.le_trans (List.length_filterMap_le _ _) (goes sg)
      have := Nat.mul_le_mul (goes sg.con) (Nat.le_refl 7)
      omega
    refine ⟨_, rfl, a, CQ, dx, _, _, rfl, e04 _ _ qf.h, T.cQ, T.q_stand, rfl, _, rfl, q.n, .ref D3, pairsL q sn.2 sg (goL q sg.con), rfl, .lst (SqL.of ho) hd, q3, lp, fun i hi => mem_pairsL.mpr (.inl ⟨rfl, hi⟩), fun u hu => ?_, fun z5 H5 e5 d5 => ?_⟩
    · rcases mem_pairsL.mp hu with ⟨h1, h2⟩ | ⟨m, k', h1, _, h3⟩
      · exact ⟨h2, by rw [← h1]; exact h2⟩
      · exact ⟨(wf.st _ h1).1, (wf.st _ h3).2⟩
    have ecp : (cp q.n fun i j => dec (Rch (fun a b => (a, b) ∈ pairsL q sn.2 sg (goL q sg.con)) i j)) = (seenB q sn sg).2 := cp_congr fun i j _ _ => by
      rw [Bool.eq_iff_iff, dec_iff, dec_iff, rch_pairs]
    rw [ecp] at d5
    have e05 := e04.trans e5
    have e25 := e4.trans e5
    -- met
    refine ⟨_, rfl, D1, rfl, ⟨acc1, SqL.of (e25 _ _ hacc12)⟩, fun D6 hD6 => ?_⟩
    refine lc_dt (K := K) (tw_list (K := K) (R := Dt K) (l := goL q sg) (xs := acc1)) (fun t => if t.1 ∈ sn.1 then some t.2 else none) hD6 (fun H' e => ⟨SqL.of (e _ _ (e25 _ _ hacc12)), all_dat ((ha12.ex e25).ex e)⟩) (by have := goes sg; rw [sizeLine_eq]; omega) (fun t x6 H6 acc N M ht e6 hacc hx6 hN hM => ?_) fun H6 acc6 e6 hacc6 ha6 => ?_
    · obtain ⟨T6, z1, z2, rfl, hT6, g1, g2⟩ := dp_pair hx6
      refine ⟨_, _, rfl, hT6, rfl, _, _, rfl, _, _, rfl, rfl, rfl, ?_⟩
      refine ⟨_, rfl, _, rfl, sn.1, t.1, g1, .inl (d8.ex (e05.trans e6)), _, rfl, ?_⟩
      by_cases c : t.1 ∈ sn.1
      · exact dP c ⟨_, rfl, hN t.2 _ _ (by rw [if_pos c]) (.refl _) g2⟩
      · exact dN c (hM (by rw [if_neg c]) _ (.refl _))
    · generalize hM : ((goL q sg).filterMap fun t => if t.1 ∈ sn.1 then some t.2 else none) = met at ha6
      have memM : ∀ r, r ∈ met ↔ ∃ p, p ∈ sn.1 ∧ (⟨p, sg, r⟩ : Stp) ∈ q.steps := by
        intro r
        rw [← hM, List.mem_filterMap]
        constructor
        · rintro ⟨t, h1, h2⟩
          split at h2
          · rename_i hc
            cases h2
            exact ⟨t.1, hc, mem_goL.mp h1⟩
          · cases h2
        · rintro ⟨p, h1, h2⟩
          exact ⟨(p, r), mem_goL.mpr h2, by rw [if_pos h1]⟩
      have d56 := d5.ex e6
      rw [dat_list] at d56
      obtain ⟨al, xl, rfl, hsl, hvl⟩ := dp_tuple d56
      refine ⟨_, rfl, al, rfl, ⟨xl, hsl⟩, fun D7 hD7 => ?_⟩
      have ll : ((seenB q sn sg).2).length ≤ 9 := by
        have h1 := spots_few (l := (seenB q sn sg).2) (n := q.n) (m := q.n) (cp_nodup _ _) fun u hu => ⟨(mem_cp.mp hu).1, (mem_cp.mp hu).2.1⟩
        have := Nat.mul_le_mul q3 q3
        omega
      refine lc_dt (K := K) (tw_tup (K := K) (R := Dt K) (l := (seenB q sn sg).2) (xs := xl)) (fun t => if t.1 ∈ met then some t.2 else none) hD7 (fun H' e => ⟨e.ld.sqT hsl, all_dat (hvl.ex e)⟩) (by rw [sizeLine_eq]; omega) (fun t x7 H7 acc N M ht e7 hacc hx7 hN hM => ?_) fun H7 acc7 e7 hacc7 ha7 => ?_
      · obtain ⟨T6, z1, z2, rfl, hT6, g1, g2⟩ := dp_pair hx7
        refine ⟨_, _, rfl, hT6, rfl, _, _, rfl, _, _, rfl, rfl, rfl, ?_⟩
        refine ⟨_, rfl, _, rfl, met, t.1, g1, .inr (.lst (SqL.of (e7 _ _ hacc6)) (ha6.ex e7)), _, rfl, ?_⟩
        by_cases c : t.1 ∈ met
        · exact dP c ⟨_, rfl, hN t.2 _ _ (by rw [if_pos c]) (.refl _) g2⟩
        · exact dN c (hM (by rw [if_neg c]) _ (.refl _))
      · generalize hL : ((seenB q sn sg).2.filterMap fun t => if t.1 ∈ met then some t.2 else none) = L at ha7
        have el := dp_nats ha7
        have eN : (L.map fun n : Nat => (n : Int)).map V.int = nats L := by rw [List.map_map]; rfl
        have lenL : L.length ≤ 9 := by
          rw [← hL]
          exact Nat.le_trans (List.length_filterMap_le _ _) ll
        refine ⟨D7, L.map fun n : Nat => (n : Int), rfl, ?_, ?_, fun p2 c2 hc2 hp2' => ⟨p2, _, c2, rfl, upd_same, ?_, fun ns p3 hs hm hln hp3 => ?_⟩⟩
        · rw [eN]
          exact SqL.of (by rw [hacc7, el])
        · rw [List.length_map]
          unfold scanBound
          omega
        · rw [List.length_map] at hc2
          omega
        · obtain ⟨l', w1, w2, w3⟩ := sset_back hs hm
          have el' : l' = (seenB q sn sg).1 := asc_cl w2 fun e => by
            rw [w3, ← hL, List.mem_filterMap, dec_iff]
            constructor
            · rintro ⟨t, h1, h2⟩
              split at h2
              · rename_i hc
                cases h2
                obtain ⟨g1, g2, g3⟩ := mem_cp.mp h1
                obtain ⟨p, k1, k2⟩ := (memM _).mp hc
                exact ⟨g2, p, t.1, k1, k2, dec_iff.mp g3⟩
              · cases h2
            · rintro ⟨h1, p, r, k1, k2, k3⟩
              exact ⟨(r, e), mem_cp.mpr ⟨(wf.st _ k2).2, h1, dec_iff.mpr k3⟩, by rw [if_pos ((memM _).mpr ⟨p, k1, k2⟩)]⟩
          rw [w1, el']
          refine ⟨p3, _, rfl, .inl ⟨sql_new, fun t ht => ⟨_, rfl, by show 2 ≤ sizeLine; decide, fun T9 hT9 => ?_⟩⟩⟩
          have e79 := (((Ex.new hp2').put hp3).put ht).put (o := .tup [V.ref t, .ref al]) hT9
          refine k _ _ ((e05.trans (e6.trans e7)).trans e79) (pair_dp sqt_new ?_ ?_)
          · rw [dat_list]
            exact .tup ((Ex.new hT9).ld.sqT sqt_new) (nats_dp' _)
          · exact d5.ex ((e6.trans e7).trans e79)
theorem sc_small : FnScope ["question", "found"] ["question"] (defScope y_small) := ⟨rfl, rfl, rfl, by decide +kernel, rfl, by decide +kernel, by decide +kernel⟩
def sp_small (K : PySem.W.Frag) (CQ : Addr) : Sp := fun vs H Q _ => ∃ (v : V) (q : Qs), vs = [v] ∧ QAt K CQ H v q ∧ ∀ v' q' H', Ex H H' → QAt K CQ H' v' q' → (∀ w, reads q' w ↔ reads q w) → Q v' H'
theorem c_small (T : Tx K mg CS CQ) (F : Fx K mg "small" y_small ["question"] f fd) (c_Question_trimmed : Met P w K mg base 7 CQ "trimmed" (sp_trimmed K CQ) []) : Cal P w K mg base 8 "small" (sp_small K CQ) [] := by
  refine F.cal sc_small (fun vs H Q E h => ?_) (fun cdv A outer s H vs Q E hr h => ?_)
  · obtain ⟨v, q, rfl, _⟩ := h
    rfl
  obtain ⟨v, q, rfl, hq, k⟩ := h
  have hu := hu100 hr
  refine ⟨_, (pss_cons (pset 1 sc_small.nd (pe_mt0 c_Question_trimmed hr (by decide) (pv 0)))
    (pss_cons (ps_if (pt_cmpR (op_gt) (k_fld (K := K) rfl (pv 1)) (gI (by rfl) T.trimmed) (by rfl)) (pss_one ps_never) pss_nil)
    (pss_one (ps_ret (pv 1))))), ?_⟩
  have hq' := hq
  obtain ⟨a, dx, st, en, fr, rfl, qf⟩ := hq
  refine ⟨_, rfl, a, dx, _, rfl, qf.h, rfl, .ref a, q, rfl, hq', fun v' q' H' e hv hre => ?_⟩
  have hv' := hv
  obtain ⟨a2, dx2, st2, en2, fr2, rfl, qf2⟩ := hv
  have := qf2.ok.n3
  exact ⟨_, rfl, a2, CQ, dx2, _, _, rfl, qf2.h, T.cQ, T.q_stand, rfl, _, _, rfl, rfl, _, rfl, ifN (by omega) ⟨_, rfl, k _ _ H' e hv' hre⟩⟩
end
end K26

set_option Elab.async false
set_option linter.all false
set_option maxRecDepth 100000
set_option maxHeartbeats 4000000
/-! within: triples_behind. -/
namespace K26
open PySem PySem.Spec PyProof.Rows L2
open Ky C8
section
variable {P : Program} {w : World} {K : PySem.W.Frag} {mg : Str → Option Value} {base : Heap} {CS CQ f : Addr} {fd : FuncData}
theorem sgS_inj {s t : Sg} (h : sgS s = sgS t) : s = t := by
  rw [sgS_C, sgS_C] at h
  have := congrArg (fun z : Str => z.cps.toList) h
  simp at this
  exact sgC_inj this
noncomputable def behL (p q : Qs) (t : Tri) : List (Sg × Tri) := (fromR p.steps t.x).map fun pr => (pr.1, triNext q t pr.1 pr.2)
theorem mem_behL {p q : Qs} {t : Tri} {y : Sg × Tri} : y ∈ behL p q t ↔ ∃ r, (⟨t.x, y.1, r⟩ : Stp) ∈ p.steps ∧ y.2 = triNext q t y.1 r := by
  unfold behL
  rw [List.mem_map]
  constructor
  · rintro ⟨pr, h1, rfl⟩
    exact ⟨pr.2, mem_fromR.mp h1, rfl⟩
  · rintro ⟨r, h1, h2⟩
    exact ⟨(y.1, r), mem_fromR.mpr h1, by rw [← h2]⟩
theorem sc_triples_behind : FnScope ["one", "other", "triple", "standing", "reach", "rounds", "found", "known", "sign", "goal"] ["one", "other", "triple"] (defScope y_triples_behind) := ⟨rfl, rfl, rfl, by decide +kernel, rfl, by decide +kernel, by decide +kernel⟩
def sp_triples_behind (K : PySem.W.Frag) (CQ : Addr) : Sp := fun vs H Q _ => ∃ (v v2 v3 : V) (p q : Qs) (t : Tri), vs = [v, v2, v3] ∧ QAt K CQ H v p ∧ QAt K CQ H v2 q ∧ Dp K H v3 (dat t) ∧ t.x < p.n ∧
  ∀ (pp : Addr) (ys : List V) (H' : Hp), Ex H H' → H' pp = some (.lst ys) → DpAll K H' ys ((behL p q t).map dat) → Q (.ref pp) H'
theorem c_triples_behind (T : Tx K mg CS CQ) (F : Fx K mg "triples_behind" y_triples_behind ["one", "other", "triple"] f fd) (c_seen_behind : Cal P w K mg base 2 "seen_behind" (sp_seen_behind K CQ) []) : Cal P w K mg base 3 "triples_behind" (sp_triples_behind K CQ) [] := by
  refine F.cal sc_triples_behind (fun vs H Q E h => ?_) (fun cdv A outer s H vs Q E hr h => ?_)
  · obtain ⟨v, v2, v3, p, q, t, rfl, _⟩ := h
    rfl
  obtain ⟨v, v2, v3, p, q, t, rfl, hp, hq, dt, ht, k⟩ := h
  have hu := hu100 hr
  have hu1 := hu_of hr
  refine ⟨_, (pss_cons (ps_asg (pv 2) (k_gtup (n := 3) (K := K) rfl rfl (pgs_cons (pn 3 sc_triples_behind.nd) (pgs_cons (pn 4 sc_triples_behind.nd) (pgs_cons (pn 5 sc_triples_behind.nd) pgs_nil)))))
    (pss_cons (ps_par (i := 6) (j := 7) (by rfl) sc_triples_behind.nd rfl rfl (by decide) rfl rfl (pa_cons (pe_lst pa_nil) (pa_cons pe_dnewK pa_nil)) (by rfl))
    (pss_cons (ps_for PassesOwn.never rfl (k_list (K := K) rfl (pe_ix (k_ixl (K := K) rfl) (k_fld (K := K) rfl (pv 0)) (pv 3) (fun _ _ => rfl))) (k_gtup (n := 2) (K := K) rfl rfl (pgs_cons (pn 8 sc_triples_behind.nd) (pgs_cons (pn 9 sc_triples_behind.nd) pgs_nil))) (pss_cons (ps_if (pt_cmp (pc_dnotin hu1 (pv 8) (pv 7))) (pss_one (ps_dput hu1 (pv 7) (pv 8) (pe_c c_seen_behind hr (by decide) (by rfl) (pa_cons (pv 1) (pa_cons (pe_tup (pa_cons (pv 4) (pa_cons (pv 5) pa_nil))) (pa_cons (pv 8) pa_nil)))) rfl)) pss_nil)
    (pss_one (ps_expr (pe_bm PySem.F.plainAttrs_list PySem.F.slot_list_append PySem.F.type_list_append mt_append (pv 6) (pa_cons (pe_tup (pa_cons (pv 8) (pa_cons (pe_tup (pa_cons (pv 9) (StX.pa_star (pe_dget hu1 (pv 7) (pv 8) (fun _ _ => rfl)) pa_nil))) pa_nil))) pa_nil))))))
    (pss_one (ps_ret (pv 6)))))), ?_⟩
  obtain ⟨TT, y1, y2, y3, rfl, hT, d1, d2, d3⟩ := dp_t3 dt
  have d1 := dp_nat d1
  subst d1
  refine ⟨_, rfl, _, _, rfl, hT, rfl, _, _, rfl, _, _, rfl, _, _, rfl, rfl, ?_⟩
  obtain ⟨a, dx, st, en, fr, rfl, pf⟩ := hp
  obtain ⟨DF, vsF, rfl, hsF, rowF⟩ := pf.row
  obtain ⟨v0, b, xs, h1, rfl, h3, h4⟩ := rowF t.x ht
  have s7 := pf.ok.s7
  have fl := fromR_len p.steps t.x
  refine ⟨Nat.zero_le _, fun pl hpl => fun dk hdk => ⟨_, _, rfl, ?_⟩⟩
  have e0 : Ex H (upd (upd H pl (.lst [])) dk (.dK [])) := (Ex.new hpl).put hdk
  have pk : pl ≠ dk := fun z => by rw [← z, upd_same] at hdk; cases hdk
  have hk0 : (upd (upd H pl (.lst [])) dk (.dK [])) dk = some (.dK []) := upd_same
  have hp0 : (upd (upd H pl (.lst [])) dk (.dK [])) pl = some (.lst []) := (upd_ne pk).trans upd_same
  have dkn : H dk = none := (Ex.new hpl).back hdk
  show (fun H0 => _) (upd (upd H pl (.lst [])) dk (.dK []))
  generalize upd (upd H pl (.lst [])) dk (.dK []) = H0 at e0 hk0 hp0
  refine ⟨_, rfl, a, CQ, dx, _, _, rfl, e0 _ _ pf.h, T.cQ, T.q_from, rfl, _, rfl, DF, vsF, (t.x : Int), .ref b, rfl, rfl, e0.ld.sqL hsF, atI_nat h1, b, rfl, ⟨xs, e0.ld.sqL h3⟩, ?_⟩
  refine for_tw (tw_list (K := K) (R := Dt K) (l := fromR p.steps t.x) (xs := xs)) (fun i σ H' => ∃ (b8 b9 : Option V) (os : List V) (kvs : List (Key × V)), σ = [some (.ref a), some v2, some (.ref TT), some (.int (t.x : Int)), some y2, some y3, some (.ref pl), some (.ref dk), b8, b9] ∧ Ex H H' ∧ H' pl = some (.lst os) ∧ DpAll K H' os ((((fromR p.steps t.x).take i).map fun pr => ((pr.1, triNext q t pr.1 pr.2) : Sg × Tri)).map dat) ∧ H' dk = some (.dK kvs) ∧ kvs.length ≤ i ∧
      ∀ s z, valV kvs (Sum.inr (sgS s)) = some z → Dp K H' z (dat (seenB q (t.y, t.z) s))) ⟨_, _, [], [], rfl, e0, hp0, .nil, hk0, Nat.le_refl _, fun s z h => by cases h⟩ ?_ ?_ ?_
  · rintro i σ H2 _ ⟨_, _, os, kvs, rfl, e2, _⟩
    exact ⟨e2.ld.sqL h3, all_dat (h4.ex e2)⟩
  · rintro i ⟨c, r⟩ x σ H1 H5 hi ⟨_, _, os, kvs, rfl, e1, hp1, ho1, hk1, hl1, hv1⟩ e15 hx
    obtain ⟨T1, z1, z2, rfl, hT1, g1, g2⟩ := dp_pair hx
    have g1 := dp_sg g1
    have g2 := dp_nat g2
    subst g1 g2
    have i7 : i < 7 := by
      have := (List.getElem?_eq_some_iff.mp hi).1
      omega
    have e5 := e1.trans e15
    have hp5 := e15 _ _ hp1
    have hk5 := e15 _ _ hk1
    have ho5 := ho1.ex e15
    have lo : os.length ≤ i := by
      rw [dpAll_len ho5, List.length_map, List.length_map, List.length_take]
      omega
    refine ⟨_, _, rfl, hT1, rfl, _, _, rfl, _, _, rfl, rfl, ?_⟩
    refine ⟨_, rfl, _, rfl, dk, _, rfl, DGet.k (k := Sum.inr (sgS c)) hk5, _, rfl, ?_⟩
    rcases (show (∃ z, valV kvs (Sum.inr (sgS c)) = some z) ∨ valV kvs (Sum.inr (sgS c)) = none by cases valV kvs (Sum.inr (sgS c)) <;> simp) with ⟨z6, hc⟩ | hc
    case' inl =>
      rw [hc]
      refine iteF ?_
      have dz6 := (hv1 c z6 hc).ex e15
      have hv6 : ∀ s z, valV kvs (Sum.inr (sgS s)) = some z → Dp K H5 z (dat (seenB q (t.y, t.z) s)) := fun s z h => (hv1 s z h).ex e15
      have l6 : kvs.length ≤ i + 1 := by omega
      have e06 := e5
      have hp6 := hp5
      have hk6 := hk5
      have ho6 := ho5
      have hc6 := hc
      generalize H5 = H6 at hp6 hk6 ho6 dz6 hv6 e06 ⊢
      generalize kvs = kv6 at hk6 hc6 l6 hv6
    case' inr =>
      rw [hc]
      refine iteT ⟨_, rfl, _, rfl, _, rfl, by show 2 ≤ sizeLine; decide, fun T2 hT2 => ⟨_, rfl, v2, .ref T2, q, (t.y, t.z), c, rfl, hq.ex (e5.trans (Ex.new hT2)), pair_dp sqt_new ((d2.ex e5).ex (Ex.new hT2)) ((d3.ex e5).ex (Ex.new hT2)), fun z6 H7 e7 dz7 => ?_⟩⟩
      have e57 := (Ex.new hT2).trans e7
      have hk7 := e57 _ _ hk5
      refine ⟨_, rfl, _, rfl, dk, _, rfl, DPut.k (k := Sum.inr (sgS c)) hk7 (by rw [sizeLine_eq]; omega), ?_⟩
      have lt8 : Lt H7 (upd H7 dk (.dK (putK kvs (Sum.inr (sgS c)) z6))) := Lt.mut (noT_dK hk7)
      have dz6 := dat_lt lt8 dz7
      have hv6 : ∀ s z, valV (putK kvs (Sum.inr (sgS c)) z6) (Sum.inr (sgS s)) = some z → Dp K (upd H7 dk (.dK (putK kvs (Sum.inr (sgS c)) z6))) z (dat (seenB q (t.y, t.z) s)) := fun s z h => by
        rw [valV_put] at h
        split at h
        · rename_i hs
          have hs := sgS_inj (Sum.inr.inj hs)
          cases h
          rw [hs]
          exact dz6
        · exact dat_lt lt8 (((hv1 s z h).ex e15).ex e57)
      have l6 : (putK kvs (Sum.inr (sgS c)) z6).length ≤ i + 1 := by
        have := length_putK (kvs := kvs) (k := Sum.inr (sgS c)) (v := z6)
        omega
      have e06 := (e5.trans e57).mut (o := .dK (putK kvs (Sum.inr (sgS c)) z6)) dkn
      have hp6 : (upd H7 dk (.dK (putK kvs (Sum.inr (sgS c)) z6))) pl = some (.lst os) := (upd_ne pk).trans (e57 _ _ hp5)
      have ho6 := dats_lt lt8 (ho5.ex e57)
      have hk6 : (upd H7 dk (.dK (putK kvs (Sum.inr (sgS c)) z6))) dk = some (.dK (putK kvs (Sum.inr (sgS c)) z6)) := upd_same
      have hc6 : valV (putK kvs (Sum.inr (sgS c)) z6) (Sum.inr (sgS c)) = some z6 := by rw [valV_put, if_pos rfl]
      generalize upd H7 dk (.dK (putK kvs (Sum.inr (sgS c)) z6)) = H6 at hp6 hk6 ho6 dz6 hv6 e06 ⊢
      generalize putK kvs (Sum.inr (sgS c)) z6 = kv6 at hk6 hc6 l6 hv6
    all_goals
      obtain ⟨TS, w1, w2, rfl, hTS, f1, f2⟩ := dp_pair dz6
      refine ⟨_, rfl, .inl ⟨rfl, _, SqL.of hp6⟩, _, rfl, _, rfl, _, rfl, _, rfl, dk, .ref TS, rfl, hc6 ▸ DGet.k (k := Sum.inr (sgS c)) hk6, TS, _, rfl, .inl hTS, by show 3 ≤ sizeLine; decide, fun T8 hT8 => ⟨by show 2 ≤ sizeLine; decide, fun T9 hT9 => ?_⟩⟩
      have e68 : ∀ o, Ex H6 (upd H6 T8 o) := fun o => Ex.new hT8
      have e69 := fun o' => (e68 _).trans (Ex.new (o := o') hT9)
      refine ⟨pl, os, .ref T9, rfl, rfl, e69 _ _ _ hp6, by rw [sizeLine_eq]; omega, ?_⟩
      have pln : H pl = none := hpl
      refine ⟨_, _, _, kv6, rfl, (e06.trans (e69 _)).mut pln, upd_same, ?_, (upd_ne (Ne.symm pk)).trans (e69 _ _ _ hk6), l6, fun s z h => dat_lt (Lt.mut (noT_lst (e69 _ _ _ hp6))) ((hv6 s z h).ex (e69 _))⟩
      have lt10 := fun o' o'' => Lt.mut (o := o'') (noT_lst (e69 o' _ _ hp6))
      rw [take_snoc hi, List.map_append, List.map_append, List.map_singleton, List.map_singleton]
      refine dpAll_snoc (dats_lt (lt10 _ _) (ho6.ex (e69 _))) (dat_lt (lt10 _ _) (pair_dp sqt_new (sg_dp c) ?_))
      exact t3_dp (p := triNext q t c r) ((Ex.new hT9).ld.sqT sqt_new) (nat_dp r) ((f1.ex (e69 _))) ((f2.ex (e69 _)))
  · rintro σ H2 ⟨_, _, os, kvs, rfl, e2, hp2, ho2, _⟩
    rw [List.take_length] at ho2
    exact ⟨_, rfl, k pl os H2 e2 hp2 ho2⟩
end
end K26

set_option Elab.async false
set_option linter.all false
set_option maxRecDepth 100000
set_option maxHeartbeats 4000000
/-! within: triples_of. -/
namespace K26
open PySem PySem.Spec PyProof.Rows L2
open Ky C8
theorem wdS_snoc (l : List Sg) (s : Sg) : wdS l ++ sgS s = wdS (l ++ [s]) := by
  rw [sgS_C]
  unfold wdS
  rw [List.map_append]
  show (⟨(l.map sgC).toArray ++ #[sgC s]⟩ : Str) = _
  congr 1
  simp
abbrev Lv := Wd × Tri
noncomputable def nextL (p q : Qs) (l : List Lv) : List Lv := l.flatMap fun x => (behL p q x.2).map fun y => ((⟨x.1.l ++ [y.1]⟩, y.2) : Lv)
theorem mem_nextL {p q : Qs} {l : List Lv} {z : Lv} : z ∈ nextL p q l ↔ ∃ x ∈ l, ∃ s r, (⟨x.2.x, s, r⟩ : Stp) ∈ p.steps ∧ z = (⟨x.1.l ++ [s]⟩, triNext q x.2 s r) := by
  unfold nextL
  rw [List.mem_flatMap]
  constructor
  · rintro ⟨x, hx, h⟩
    obtain ⟨y, hy, rfl⟩ := List.mem_map.mp h
    obtain ⟨r, h1, h2⟩ := mem_behL.mp hy
    exact ⟨x, hx, y.1, r, h1, by rw [h2]⟩
  · rintro ⟨x, hx, s, r, h1, rfl⟩
    exact ⟨x, hx, List.mem_map.mpr ⟨(s, triNext q x.2 s r), mem_behL.mpr ⟨r, h1, rfl⟩, rfl⟩⟩
theorem nextL_snoc (p q : Qs) (l : List Lv) (x : Lv) : nextL p q (l ++ [x]) = nextL p q l ++ (behL p q x.2).map fun y => ((⟨x.1.l ++ [y.1]⟩, y.2) : Lv) := by
  unfold nextL
  rw [List.flatMap_append]
  simp
theorem behL_len (p q : Qs) (t : Tri) : (behL p q t).length ≤ p.steps.length := by
  unfold behL
  rw [List.length_map]
  exact fromR_len _ _
theorem nextL_len {p q : Qs} (h : p.steps.length ≤ 7) (l : List Lv) : (nextL p q l).length ≤ l.length * 7 := by
  unfold nextL
  rw [List.length_flatMap]
  simp only [List.length_map]
  exact fm_bound l (fun x => behL p q x.2) 7 fun x _ => Nat.le_trans (behL_len p q x.2) h
abbrev Kv := List (Tri × List Sg)
/-- the dict's triples and strings -/
def KvAt (ts : List (En Tri)) (kv : Kv) : Prop := ts.map (fun t => (t.1, t.2.2)) = kv.map fun e => (e.1, V.str (wdS e.2))
theorem KvAt.keys {ts : List (En Tri)} {kv : Kv} (h : KvAt ts kv) : ts.map (·.1) = kv.map (·.1) := by
  have := congrArg (List.map Prod.fst) h
  rw [List.map_map, List.map_map] at this
  exact this
theorem KvAt.snoc {ts : List (En Tri)} {kv : Kv} (h : KvAt ts kv) (t : Tri) (b : Addr) (u : List Sg) : KvAt (ts ++ [(t, b, .str (wdS u))]) (kv ++ [(t, u)]) := by
  unfold KvAt at h ⊢
  rw [List.map_append, List.map_append, h]
  rfl
/-- how far the triples have come -/
structure Trs (p q : Qs) (kv : Kv) (lev : List Lv) : Prop where
  nd : (kv.map (·.1)).Nodup
  leads : ∀ e ∈ kv, Leads p q e.2 e.1
  first : tri0 q ∈ kv.map (·.1)
  lv : ∀ x ∈ lev, (x.2, x.1.l) ∈ kv
  ln : (lev.map (·.2)).Nodup
  cl : ∀ t, t ∈ kv.map (·.1) → t ∉ lev.map (·.2) → ∀ s r, (⟨t.x, s, r⟩ : Stp) ∈ p.steps → triNext q t s r ∈ kv.map (·.1)
  len : ∀ e ∈ kv, e.2.length + 1 ≤ kv.length
section
variable {p q : Qs} {kv : Kv} {lev : List Lv}
theorem Trs.few (h : Trs p q kv lev) (hp : p.Wf) (hq : q.Wf) (h1 : p.n ≤ 3) (h2 : q.n ≤ 3) : kv.length ≤ 1536 := by
  have := K26.few hp hq h1 h2 h.nd fun t ht => by
    obtain ⟨e, he, rfl⟩ := List.mem_map.mp ht
    exact ⟨e.2, h.leads e he⟩
  rwa [List.length_map] at this
theorem Trs.levlen (h : Trs p q kv lev) : lev.length ≤ kv.length := by
  have := nodup_le (lev.map (·.2)) (kv.map (·.1)) h.ln fun t ht => by
    obtain ⟨x, hx, rfl⟩ := List.mem_map.mp ht
    exact List.mem_map.mpr ⟨_, h.lv x hx, rfl⟩
  rwa [List.length_map, List.length_map] at this
theorem Trs.ok (h : Trs p q kv []) : TriOk p q kv := ⟨h.nd, h.leads, h.first, fun t s r ht hs => h.cl t ht (fun z => nomatch z) s r hs⟩
/-- one round: lev2 are the new ones of longer, kv grows by them -/
theorem Trs.round (h : Trs p q kv lev) (lev2 : List Lv) (nd2 : ((kv ++ lev2.map fun x => (x.2, x.1.l)).map (·.1)).Nodup) (sub : ∀ x ∈ lev2, x ∈ nextL p q lev) (all : ∀ x ∈ nextL p q lev, x.2 ∈ (kv ++ lev2.map fun x => (x.2, x.1.l)).map (·.1)) :
    Trs p q (kv ++ lev2.map fun x => (x.2, x.1.l)) lev2 := by
  have nd3 := nd2
  rw [List.map_append, List.nodup_append, List.map_map] at nd3
  refine ⟨nd2, fun e he => ?_, ?_, fun x hx => List.mem_append.mpr (.inr (List.mem_map.mpr ⟨x, hx, rfl⟩)), nd3.2.1, fun t ht hn s r hs => ?_, fun e he => ?_⟩
  · rcases List.mem_append.mp he with he | he
    · exact h.leads e he
    · obtain ⟨x, hx, rfl⟩ := List.mem_map.mp he
      obtain ⟨y, hy, s, r, hs, rfl⟩ := mem_nextL.mp (sub x hx)
      exact (h.leads _ (h.lv y hy)).next hs
  · rw [List.map_append]
    exact List.mem_append.mpr (.inl h.first)
  · rw [List.map_append, List.mem_append] at ht
    rcases ht with ht | ht
    · by_cases hl : t ∈ lev.map (·.2)
      · obtain ⟨y, hy, rfl⟩ := List.mem_map.mp hl
        exact all _ (mem_nextL.mpr ⟨y, hy, s, r, hs, rfl⟩)
      · rw [List.map_append]
        exact List.mem_append.mpr (.inl (h.cl t ht hl s r hs))
    · rw [List.map_map] at ht
      exact absurd ht hn
  · rw [List.length_append, List.length_map]
    rcases List.mem_append.mp he with he' | he'
    · have := h.len e he'
      omega
    · obtain ⟨x, hx, rfl⟩ := List.mem_map.mp he'
      obtain ⟨y, hy, s, r, hs, rfl⟩ := mem_nextL.mp (sub x hx)
      have := h.len _ (h.lv y hy)
      have : 0 < lev2.length := List.length_pos_of_mem hx
      simp only [List.length_append, List.length_singleton]
      simp only at *
      omega
end
section
variable {P : Program} {w : World} {K : PySem.W.Frag} {mg : Str → Option Value} {base : Heap} {CS CQ f : Addr} {fd : FuncData}
theorem sc_triples_of : FnScope ["one", "other", "begin", "found", "level", "longer", "signs", "triple", "sign", "later"] ["one", "other"] (defScope y_triples_of) := ⟨rfl, rfl, rfl, by decide +kernel, rfl, by decide +kernel, by decide +kernel⟩
def sp_triples_of (P : Program) (w : World) (K : PySem.W.Frag) (CQ : Addr) : Sp := fun vs H Q _ => ∃ (v v2 : V) (p q : Qs), vs = [v, v2] ∧ QAt K CQ H v p ∧ QAt K CQ H v2 q ∧
  ∀ (d : Addr) (ts : List (En Tri)) (kv : Kv) (H' : Hp), Ex H H' → H d = none → H' d = some (DN P w d ts) → Keys K H' ts → KvAt ts kv → TriOk p q kv → (∀ e ∈ kv, e.2.length ≤ 2000) → kv.length ≤ 2000 → Q (.ref d) H'
theorem c_triples_of (T : Tx K mg CS CQ) (F : Fx K mg "triples_of" y_triples_of ["one", "other"] f fd) (c_seen_first : Cal P w K mg base 1 "seen_first" (sp_seen_first K CQ) []) (c_triples_behind : Cal P w K mg base 3 "triples_behind" (sp_triples_behind K CQ) []) : Cal P w K mg base 4 "triples_of" (sp_triples_of P w K CQ) [] := by
  refine F.cal sc_triples_of (fun vs H Q E h => ?_) (fun cdv A outer s H vs Q E hr h => ?_)
  · obtain ⟨v, v2, p, q, rfl, _⟩ := h
    rfl
  obtain ⟨v, v2, p, q, rfl, hp, hq, k⟩ := h
  have hu := hu100 hr
  have hu1 := hu_of hr
  refine ⟨_, (pss_cons (pset 2 sc_triples_of.nd (pe_tup (pa_cons pe_int (StX.pa_star (pe_c c_seen_first hr (by decide) (by rfl) (pa_cons (pv 1) pa_nil)) pa_nil))))
    (pss_cons (ps_par (i := 3) (j := 4) (by rfl) sc_triples_of.nd rfl rfl (by decide) rfl rfl (pa_cons (k_disp1 (α := Tri) (O := ⟨P, w, K⟩) hu rfl (pv 2) pe_str) (pa_cons (pe_lst (pa_cons (pe_tup (pa_cons pe_str (pa_cons (pv 2) pa_nil))) pa_nil)) pa_nil)) (by rfl))
    (pss_cons (ps_while PassesOwn.never (pt_cmpR (k_neL (α := Wd × Tri) (O := ⟨P, w, K⟩) hu rfl) (pv 4) (pe_lst pa_nil) (by rfl)) (pss_cons (pset 5 sc_triples_of.nd (pe_lst pa_nil))
    (pss_cons (ps_for PassesOwn.never rfl (k_list (K := K) rfl (pv 4)) (k_gtup (n := 2) (K := K) rfl rfl (pgs_cons (pn 6 sc_triples_of.nd) (pgs_cons (pn 7 sc_triples_of.nd) pgs_nil))) (pss_one (ps_expr (pe_bm PySem.F.plainAttrs_list PySem.F.slot_list_extend PySem.F.type_list_extend mt_extend (pv 5) (pa_cons (pe_lc (own := [("sign", 8), ("later", 9)]) rfl sc_triples_of.nd ((k_list (K := K) rfl (pe_c c_triples_behind hr (by decide) (by rfl) (pa_cons (pv 0) (pa_cons (pv 1) (pa_cons (pv 7) pa_nil)))))) (blkOk_by (by kernel_rfl)) (fun _ _ _ _ _ => (k_gtup (n := 2) (K := K) rfl rfl (pgs_cons (pn 8 sc_triples_of.nd) (pgs_cons (pn 9 sc_triples_of.nd) pgs_nil)))) (fun _ _ _ _ _ => pts_nil) (fun _ _ _ _ _ => (pe_tup (pa_cons (pe_op (op_add_str) (pv 6) (pv 8)) (pa_cons (pv 9) pa_nil))))) pa_nil)))))
    (pss_cons (pset 4 sc_triples_of.nd (pe_lst pa_nil))
    (pss_cons (ps_for PassesOwn.never rfl (k_list (K := K) rfl (pe_callB (k_srtL (α := Wd × Tri) (O := ⟨P, w, K⟩) hu rfl) (by rfl) T.sorted (by decide +kernel) (pa_cons (pv 5) pa_nil))) (k_gtup (n := 2) (K := K) rfl rfl (pgs_cons (pn 6 sc_triples_of.nd) (pgs_cons (pn 7 sc_triples_of.nd) pgs_nil))) (pss_one (ps_if (pt_cmpR (k_ninN (α := Tri) (O := ⟨P, w, K⟩) hu rfl) (pv 7) (pv 3) (by rfl)) (pss_cons (ps_asg (pv 6) (pg_sub (pv 3) (pv 7) (k_setN (α := Tri) (O := ⟨P, w, K⟩) hu rfl)))
    (pss_one (ps_expr (pe_bm PySem.F.plainAttrs_list PySem.F.slot_list_append PySem.F.type_list_append mt_append (pv 4) (pa_cons (pe_tup (pa_cons (pv 6) (pa_cons (pv 7) pa_nil))) pa_nil))))) pss_nil)))
    (pss_one (ps_if (pt_cmpR (op_gt) (pe_callB (k_lenN (α := Tri) (O := ⟨P, w, K⟩) rfl) (by rfl) T.len (by decide +kernel) (pa_cons (pv 3) pa_nil)) (gI (by rfl) T.triples) (by rfl)) (pss_one ps_never) pss_nil)))))))
    (pss_one (ps_ret (pv 3)))))), ?_⟩
  have pok : QOk p := by
    obtain ⟨_, _, _, _, _, _, pf⟩ := hp
    exact pf.ok
  have qok : QOk q := by
    obtain ⟨_, _, _, _, _, _, qf⟩ := hq
    exact qf.ok
  refine ⟨_, rfl, v2, q, rfl, hq, fun z1 H1 e1 dz => ?_⟩
  obtain ⟨TS, w1, w2, rfl, hTS, f1, f2⟩ := dp_pair dz
  refine ⟨TS, _, rfl, .inl hTS, by show 3 ≤ sizeLine; decide, fun TB hTB => ?_⟩
  have e2 : Ex H1 (upd H1 TB (.tup (V.int 0 :: ([w1, w2] ++ [])))) := Ex.new hTB
  have dB : Dp K (upd H1 TB (.tup (V.int 0 :: ([w1, w2] ++ [])))) (.ref TB) (dat (tri0 q)) := t3_dp (p := tri0 q) sqt_new (nat_dp 0) (f1.ex e2) (f2.ex e2)
  have e02 := e1.trans e2
  show (fun H2 => _) (upd H1 TB (.tup (V.int 0 :: ([w1, w2] ++ []))))
  generalize upd H1 TB (.tup (V.int 0 :: ([w1, w2] ++ []))) = H2 at dB e02
  intro d hd
  have hdn : H d = none := e02.back hd
  refine ⟨_, rfl, ?_⟩
  have ea : Ex H2 (upd H2 d (DN (α := Tri) P w d [])) := Ex.new hd
  have hda : (upd H2 d (DN (α := Tri) P w d [])) d = some (DN (α := Tri) P w d []) := upd_same
  refine ⟨_, _, tri0 q, TB, rfl, rfl, hda, dB.ex ea, ?_⟩
  have lt3 : Lt (upd H2 d (DN (α := Tri) P w d [])) (upd (upd H2 d (DN (α := Tri) P w d [])) d (DN P w d [(tri0 q, TB, V.str "")])) := Lt.mut (noT_DN hda)
  have e3 : Ex H2 (upd (upd H2 d (DN (α := Tri) P w d [])) d (DN P w d [(tri0 q, TB, V.str "")])) := ea.mut hd
  have hd3 : (upd (upd H2 d (DN (α := Tri) P w d [])) d (DN P w d [(tri0 q, TB, V.str "")])) d = some (DN P w d [(tri0 q, TB, V.str "")]) := upd_same
  have dB3 := dat_lt lt3 (dB.ex ea)
  show (fun H3 => _) (upd (upd H2 d (DN (α := Tri) P w d [])) d (DN P w d [(tri0 q, TB, V.str "")]))
  generalize upd (upd H2 d (DN (α := Tri) P w d [])) d (DN P w d [(tri0 q, TB, V.str "")]) = H3 at e3 hd3 dB3
  refine ⟨_, rfl, by show 2 ≤ sizeLine; decide, fun T2 hT2 => ⟨by show 1 ≤ sizeLine; decide, fun pl hpl => ⟨_, _, rfl, ?_⟩⟩⟩
  have e4 : Ex H3 (upd (upd H3 T2 (.tup [V.str "", .ref TB])) pl (.lst [.ref T2])) := (Ex.new hT2).put hpl
  have hp4 : (upd (upd H3 T2 (.tup [V.str "", .ref TB])) pl (.lst [.ref T2])) pl = some (.lst [.ref T2]) := upd_same
  have d4 : Dp K (upd (upd H3 T2 (.tup [V.str "", .ref TB])) pl (.lst [.ref T2])) (.ref T2) (dat ((⟨[]⟩, tri0 q) : Lv)) := pair_dp ((Ex.new hpl).ld.sqT sqt_new) (wd_dp ⟨[]⟩) (dB3.ex e4)
  show (fun H4 => _) (upd (upd H3 T2 (.tup [V.str "", .ref TB])) pl (.lst [.ref T2]))
  generalize upd (upd H3 T2 (.tup [V.str "", .ref TB])) pl (.lst [.ref T2]) = H4 at e4 hp4 d4
  have e04 := e02.trans (e3.trans e4)
  have trs0 : Trs p q [(tri0 q, [])] [(⟨[]⟩, tri0 q)] := ⟨by simp, fun e he => by rw [List.mem_singleton.mp he]; exact leads0 p q, by simp, fun x hx => by rw [List.mem_singleton.mp hx]; exact List.mem_singleton.mpr rfl, by simp, fun t ht hn => absurd ht hn, fun e he => by rw [List.mem_singleton.mp he]; simp⟩
  refine ⟨fun m σ H' => ∃ (b5 b6 b7 b8 b9 : Option V) (pl : Addr) (ts : List (En Tri)) (kv : Kv) (lev : List Lv) (os : List V), σ = [some v, some v2, some (.ref TB), some (.ref d), some (.ref pl), b5, b6, b7, b8, b9] ∧ Ex H H' ∧ H' d = some (DN P w d ts) ∧ Keys K H' ts ∧ KvAt ts kv ∧ H' pl = some (.lst os) ∧ DpAll K H' os (lev.map dat) ∧ Trs p q kv lev ∧ m = 2 * (1600 - kv.length) + min lev.length 1,
    ⟨_, _, _, _, _, _, pl, [(tri0 q, TB, V.str "")], [(tri0 q, [])], [(⟨[]⟩, tri0 q)], _, rfl, e04, e4 _ _ hd3, fun t ht => by rw [List.mem_singleton.mp ht]; exact dB3.ex e4, rfl, hp4, .cons d4 .nil, trs0, rfl⟩, ?_⟩
  clear trs0 e04 d4 hp4 e4 hpl hT2 dB3 hd3 e3 dB
  rintro m σ H5 ⟨b5, b6, b7, b8, b9, pl, ts, kv, lev, os, rfl, e5, hd5, hk5, kva, hp5, ho5, trs, rfl⟩
  have kfew := trs.few pok.wf qok.wf pok.n3 qok.n3
  have llev := trs.levlen
  have lts : ts.length = kv.length := by
    have := congrArg List.length kva
    simpa using this
  refine ⟨_, rfl, Nat.zero_le _, fun q1 hq1 => ⟨lev, [], .lst (SqL.of ((Ex.new hq1) _ _ hp5)) (ho5.ex (Ex.new hq1)), .lst sql_new .nil, _, rfl, ?_⟩⟩
  have e56 : Ex H5 (upd H5 q1 (.lst [])) := Ex.new hq1
  show (fun H6 => _) (upd H5 q1 (.lst []))
  generalize upd H5 q1 (.lst []) = H6 at e56
  have e06 := e5.trans e56
  have hd6 := e56 _ _ hd5
  have hk6 := hk5.ld e56.ld
  have hp6 := e56 _ _ hp5
  have ho6 := ho5.ex e56
  by_cases hlev : lev = []
  · exact dNP hlev ⟨_, rfl, k d ts kv H6 e06 hdn hd6 hk6 kva (by subst hlev; exact trs.ok) (fun e he => by have := trs.len e he; omega) (by omega)⟩
  have lev0 : 0 < lev.length := List.length_pos_iff.mpr hlev
  refine dNN hlev ⟨_, fun σ' H' h => h, ?_⟩
  refine ⟨Nat.zero_le _, fun lo hlo => ?_⟩
  have lop : lo ≠ pl := fun z => by rw [z, hp6] at hlo; cases hlo
  refine ⟨_, rfl, pl, rfl, ⟨os, SqL.of ((Ex.new hlo) _ _ hp6)⟩, ?_⟩
  refine for_tw (tw_list (K := K) (R := Dt K) (l := lev) (xs := os)) (fun i σ' H' => ∃ (b6 b7 b8 b9 : Option V) (ol : List V), σ' = [some v, some v2, some (.ref TB), some (.ref d), some (.ref pl), some (.ref lo), b6, b7, b8, b9] ∧ Ex H6 H' ∧ H' lo = some (.lst ol) ∧ DpAll K H' ol ((nextL p q (lev.take i)).map dat))
    ⟨_, _, _, _, [], rfl, Ex.new hlo, upd_same, .nil⟩ ?_ ?_ ?_
  · rintro i σ' H7 _ ⟨_, _, _, _, ol, rfl, e7, _⟩
    exact ⟨SqL.of (e7 _ _ hp6), all_dat (ho6.ex e7)⟩
  · rintro i x xv σ' H7 H8 hi ⟨_, _, _, _, ol, rfl, e7, hl7, hol7⟩ e78 hxv
    have hxl := List.mem_of_getElem? hi
    have hxk := trs.lv x hxl
    have xlen := trs.len _ hxk
    have xlen : x.1.l.length + 1 ≤ kv.length := xlen
    have e8 := e7.trans e78
    have e08 := e06.trans e8
    have hl8 := e78 _ _ hl7
    have hol8 := hol7.ex e78
    obtain ⟨T1, y1, y2, rfl, hT1, d1, d2⟩ := dp_pair hxv
    have d1 := dp_wd d1
    subst d1
    have hx3 : x.2.x < p.n := run_bound pok.wf (trs.leads _ hxk).1
    refine ⟨_, _, rfl, hT1, rfl, _, _, rfl, _, _, rfl, rfl, ?_⟩
    refine ⟨_, rfl, .inl ⟨rfl, _, SqL.of hl8⟩, _, rfl, _, rfl, _, rfl, v, v2, y2, p, q, x.2, rfl, hp.ex e08, hq.ex e08, d2, hx3, fun pp ys H9 e9 hpp hys => ⟨pp, rfl, ⟨ys, SqL.of hpp⟩, fun D9 hD9 => ?_⟩⟩
    have bl := Nat.le_trans (behL_len p q x.2) pok.s7
    refine lc_dt (K := K) (tw_list (K := K) (R := Dt K) (l := behL p q x.2) (xs := ys)) (fun y => some ((⟨x.1.l ++ [y.1]⟩, y.2) : Lv)) hD9 (fun H' e => ⟨SqL.of (e _ _ hpp), all_dat (hys.ex e)⟩) (by rw [sizeLine_eq]; omega) (fun y yv Ha acc N M hy ea' hacc hyv hN hM => ?_) fun Ha acc ea' hacc ha => ?_
    · obtain ⟨T3, z1, z2, rfl, hT3, g1, g2⟩ := dp_pair hyv
      have g1 := dp_sg g1
      subst g1
      refine ⟨_, _, rfl, hT3, rfl, _, _, rfl, _, _, rfl, rfl, rfl, ?_⟩
      refine ⟨_, rfl, _, rfl, wdS x.1.l, sgS y.1, rfl, rfl, by rw [wdS_len, sg_len, sizeLine_eq]; omega, _, rfl, by show 2 ≤ sizeLine; decide, fun T4 hT4 => hN _ _ _ rfl (Ex.new hT4) (pair_dp sqt_new ?_ (g2.ex (Ex.new hT4)))⟩
      rw [wdS_snoc]
      exact wd_dp ⟨x.1.l ++ [y.1]⟩
    · have em : (behL p q x.2).filterMap (fun y => some ((⟨x.1.l ++ [y.1]⟩, y.2) : Lv)) = (behL p q x.2).map fun y => ((⟨x.1.l ++ [y.1]⟩, y.2) : Lv) := by
        show List.filterMap (some ∘ fun y : Sg × Tri => ((⟨x.1.l ++ [y.1]⟩, y.2) : Lv)) _ = _
        rw [List.filterMap_eq_map]
      rw [em] at ha
      have hla := ea' _ _ (e9 _ _ hl8)
      have lt : Lt Ha (upd Ha lo (.lst (ol ++ acc))) := Lt.mut (noT_lst hla)
      have l1 : acc.length ≤ 7 := by
        rw [dpAll_len ha, List.length_map, List.length_map]
        exact bl
      have l2 : ol.length ≤ 1536 * 7 := by
        rw [dpAll_len hol8, List.length_map]
        have := nextL_len (q := q) pok.s7 (lev.take i)
        have h3 : (lev.take i).length ≤ lev.length := by rw [List.length_take]; omega
        have := Nat.mul_le_mul (Nat.le_trans h3 (Nat.le_trans llev kfew)) (Nat.le_refl 7)
        omega
      refine ⟨lo, D9, ol, acc, rfl, rfl, hla, hacc, by rw [sizeLine_eq]; omega, ?_⟩
      refine ⟨_, _, _, _, ol ++ acc, rfl, ((e8.trans e9).trans ea').mut hlo, upd_same, ?_⟩
      rw [take_snoc hi, nextL_snoc, List.map_append]
      exact dpAll_app (dats_lt lt ((hol8.ex e9).ex ea')) (dats_lt lt ha)
  · rintro σ' H7 ⟨_, _, _, _, ol, rfl, e7, hl7, hol7⟩
    rw [List.take_length] at hol7
    have lnx : (nextL p q lev).length ≤ 1536 * 7 := by
      have := nextL_len (q := q) pok.s7 lev
      have := Nat.mul_le_mul (Nat.le_trans llev kfew) (Nat.le_refl 7)
      omega
    refine ⟨Nat.zero_le _, fun p2 hp2 => ?_⟩
    refine ⟨_, rfl, lo, ol, nextL p q lev, rfl, SqL.of ((Ex.new hp2) _ _ hl7), hol7.ex (Ex.new hp2), fun ys qa dy hqa => ⟨qa, rfl, ⟨ys, sql_new⟩, ?_⟩⟩
    have e79 : Ex H7 (upd (upd H7 p2 (.lst [])) qa (.lst ys)) := (Ex.new hp2).put hqa
    have q2 : qa ≠ p2 := fun z => by rw [z, upd_same] at hqa; cases hqa
    have hp9 : (upd (upd H7 p2 (.lst [])) qa (.lst ys)) p2 = some (.lst []) := (upd_ne (Ne.symm q2)).trans upd_same
    have hq9 : (upd (upd H7 p2 (.lst [])) qa (.lst ys)) qa = some (.lst ys) := upd_same
    have dy9 := dy.ex (Ex.new (o := .lst ys) hqa)
    have hd7 := e7 _ _ hd6
    have qd : qa ≠ d := fun z => by
      rw [z] at hqa
      have := (Ex.new (o := .lst []) hp2) _ _ hd7
      rw [hqa] at this
      cases this
    have p2d : p2 ≠ d := fun z => by rw [z, hd7] at hp2; cases hp2
    have p2n : H p2 = none := (e06.trans e7).back hp2
    show (fun H9 => _) (upd (upd H7 p2 (.lst [])) qa (.lst ys))
    generalize upd (upd H7 p2 (.lst [])) qa (.lst ys) = H9 at e79 hp9 hq9 dy9
    have e69 := e7.trans e79
    refine for_tw (tw_list (K := K) (R := Dt K) (l := srt (nextL p q lev)) (xs := ys)) (fun j σ' H' => ∃ (b6 b7 b8 b9 : Option V) (ts' : List (En Tri)) (lev2 : List Lv) (os2 : List V), σ' = [some v, some v2, some (.ref TB), some (.ref d), some (.ref p2), some (.ref lo), b6, b7, b8, b9] ∧ Ex H H' ∧ H' d = some (DN P w d ts') ∧ Keys K H' ts' ∧ KvAt ts' (kv ++ lev2.map fun x => (x.2, x.1.l)) ∧ H' p2 = some (.lst os2) ∧ DpAll K H' os2 (lev2.map dat) ∧ H' qa = some (.lst ys) ∧ DpAll K H' ys ((srt (nextL p q lev)).map dat) ∧
        ((kv ++ lev2.map fun x => (x.2, x.1.l)).map (·.1)).Nodup ∧ (∀ x ∈ lev2, x ∈ nextL p q lev) ∧ lev2.length ≤ j ∧ ∀ x ∈ (srt (nextL p q lev)).take j, x.2 ∈ ts'.map (·.1))
      ⟨_, _, _, _, ts, [], [], rfl, e06.trans e69, e69 _ _ hd6, hk6.ld e69.ld, by simpa using kva, hp9, .nil, hq9, dy9, by simpa using trs.nd, by simp, Nat.le_refl _, by simp⟩ ?_ ?_ ?_
    · rintro j σ' Ha _ ⟨_, _, _, _, ts', lev2, os2, rfl, _, _, _, _, _, _, z1, z2, _⟩
      exact ⟨SqL.of z1, all_dat z2⟩
    · rintro j x xv σ' Ha Hb hj ⟨_, _, _, _, ts', lev2, os2, rfl, ea', hda, hka, kva', hpa, hoa, hqa', hya, nda, suba, lena, alla⟩ eab hxv
      have hxm := mem_srt.mp (List.mem_of_getElem? hj)
      have jl : j < (srt (nextL p q lev)).length := (List.getElem?_eq_some_iff.mp hj).1
      rw [srt_len] at jl
      have eb := ea'.trans eab
      have hdb := eab _ _ hda
      have hkb := hka.ld eab.ld
      have hpb := eab _ _ hpa
      have hob := hoa.ex eab
      have hqb := eab _ _ hqa'
      have hyb := hya.ex eab
      obtain ⟨T1, y1, y2, rfl, hT1, d1, d2⟩ := dp_pair hxv
      have d1 := dp_wd d1
      subst d1
      obtain ⟨bt, _, _, _, rfl, _⟩ := dp_t3 d2
      have lts' : ts'.length = kv.length + lev2.length := by
        have := congrArg List.length kva'
        simpa using this
      have lob : os2.length = lev2.length := by rw [dpAll_len hob, List.length_map]
      refine ⟨_, _, rfl, hT1, rfl, _, _, rfl, _, _, rfl, rfl, ?_⟩
      refine ⟨_, rfl, _, rfl, ts', x.2, ⟨bt, d, rfl, rfl, .inl hdb, hkb, d2⟩, _, rfl, ?_⟩
      by_cases hm : x.2 ∈ ts'.map (·.1)
      · refine dNP hm ⟨_, _, _, _, ts', lev2, os2, rfl, eb, hdb, hkb, kva', hpb, hob, hqb, hyb, nda, suba, by omega, fun y hy => ?_⟩
        rw [take_snoc hj] at hy
        rcases List.mem_append.mp hy with hy | hy
        · exact alla y hy
        · rw [List.mem_singleton.mp hy]
          exact hm
      · refine dNN hm ⟨_, rfl, _, rfl, _, rfl, ts', x.2, bt, d, rfl, rfl, hdb, hkb, d2, by rw [sizeLine_eq]; omega, ?_⟩
        have en := putE_new hm bt (.str (wdS x.1.l))
        have lt6 : Lt Hb (upd Hb d (DN P w d (putE ts' x.2 bt (.str (wdS x.1.l))))) := Lt.mut (noT_DN hdb)
        have e6' := eb.mut (o := DN P w d (putE ts' x.2 bt (.str (wdS x.1.l)))) hdn
        have hd6' : (upd Hb d (DN P w d (putE ts' x.2 bt (.str (wdS x.1.l))))) d = some (DN P w d (putE ts' x.2 bt (.str (wdS x.1.l)))) := upd_same
        have hp6' : (upd Hb d (DN P w d (putE ts' x.2 bt (.str (wdS x.1.l))))) p2 = some (.lst os2) := (upd_ne p2d).trans hpb
        have hq6' : (upd Hb d (DN P w d (putE ts' x.2 bt (.str (wdS x.1.l))))) qa = some (.lst ys) := (upd_ne qd).trans hqb
        rw [en] at hd6' e6' hp6' hq6' lt6 ⊢
        show (fun Hc => _) (upd Hb d (DN P w d (ts' ++ [(x.2, bt, V.str (wdS x.1.l))])))
        generalize upd Hb d (DN P w d (ts' ++ [(x.2, bt, V.str (wdS x.1.l))])) = Hc at hd6' e6' hp6' hq6' lt6
        refine ⟨_, rfl, .inl ⟨rfl, _, SqL.of hp6'⟩, _, rfl, _, rfl, by show 2 ≤ sizeLine; decide, fun T5 hT5 => ?_⟩
        have ecd : Ex Hc (upd Hc T5 (.tup [V.str (wdS x.1.l), .ref bt])) := Ex.new hT5
        have dT5 : Dp K (upd Hc T5 (.tup [V.str (wdS x.1.l), .ref bt])) (.ref T5) (dat x) := pair_dp sqt_new (wd_dp x.1) ((dat_lt lt6 d2).ex ecd)
        have hpd := ecd _ _ hp6'
        refine ⟨p2, os2, .ref T5, rfl, rfl, hpd, by rw [sizeLine_eq]; omega, ?_⟩
        have lt7 : Lt (upd Hc T5 (.tup [V.str (wdS x.1.l), .ref bt])) (upd (upd Hc T5 (.tup [V.str (wdS x.1.l), .ref bt])) p2 (.lst (os2 ++ [.ref T5]))) := Lt.mut (noT_lst hpd)
        have lt67 := (lt6.trans ecd.lt).trans lt7
        have ekv : kv ++ (lev2 ++ [x]).map (fun x => (x.2, x.1.l)) = (kv ++ lev2.map fun x => (x.2, x.1.l)) ++ [(x.2, x.1.l)] := by
          rw [List.map_append, List.append_assoc]
          rfl
        have hkk := kva'.keys
        refine ⟨_, _, _, _, ts' ++ [(x.2, bt, .str (wdS x.1.l))], lev2 ++ [x], os2 ++ [.ref T5], rfl, (e6'.trans ecd).mut p2n, (upd_ne (Ne.symm p2d)).trans (ecd _ _ hd6'), ?_, ?_, upd_same, ?_, (upd_ne q2).trans (ecd _ _ hq6'), dats_lt lt67 hyb, ?_, ?_, by simp; omega, ?_⟩
        · intro t ht
          rcases List.mem_append.mp ht with ht | ht
          · exact dat_lt lt67 (hkb t ht)
          · rw [List.mem_singleton.mp ht]
            exact dat_lt lt67 d2
        · rw [ekv]
          exact kva'.snoc _ _ _
        · rw [List.map_append]
          exact dpAll_snoc (dats_lt lt67 hob) (dat_lt lt7 dT5)
        · rw [ekv, List.map_append, List.nodup_append]
          refine ⟨nda, by simp, fun a ha b hb e => ?_⟩
          rw [List.map_singleton, List.mem_singleton] at hb
          rw [← hkk] at ha
          rw [e, hb] at ha
          exact hm ha
        · intro y hy
          rcases List.mem_append.mp hy with hy | hy
          · exact suba y hy
          · rw [List.mem_singleton.mp hy]
            exact hxm
        · intro y hy
          rw [take_snoc hj] at hy
          rw [List.map_append]
          rcases List.mem_append.mp hy with hy | hy
          · exact List.mem_append.mpr (.inl (alla y hy))
          · rw [List.mem_singleton.mp hy]
            exact List.mem_append.mpr (.inr (by simp))
    · rintro σ' Ha ⟨_, _, _, _, ts', lev2, os2, rfl, ea', hda, hka, kva', hpa, hoa, hqa', hya, nda, suba, lena, alla⟩
      rw [List.take_length] at alla
      have trs2 := trs.round lev2 nda suba fun x hx => by
        have := alla x (mem_srt.mpr hx)
        rwa [kva'.keys] at this
      have kfew2 := trs2.few pok.wf qok.wf pok.n3 qok.n3
      have lk2 : (kv ++ lev2.map fun x => (x.2, x.1.l)).length = kv.length + lev2.length := by simp
      have lts' : ts'.length = kv.length + lev2.length := by
        have := congrArg List.length kva'
        simpa using this
      refine ⟨_, rfl, d, ts', rfl, .inl hda, hka, _, _, rfl, rfl, _, rfl, ifN (by omega) ⟨2 * (1600 - (kv ++ lev2.map fun x => (x.2, x.1.l)).length) + min lev2.length 1, by omega, _, _, _, _, _, p2, ts', _, lev2, os2, rfl, ea', hda, hka, kva', hpa, hoa, trs2, rfl⟩⟩
end
end K26

set_option Elab.async false
set_option linter.all false
set_option maxRecDepth 100000
set_option maxHeartbeats 4000000
/-! within: is_wrong, partings, both_small, lies_within, parting, are_alike. -/
namespace K26
open PySem PySem.Spec PyProof.Rows L2
open Ky C8
theorem seen_len {q : Qs} (hq : q.Wf) (h : q.n ≤ 3) (u : List Sg) : (seenOf q u).1.length ≤ 3 := by
  obtain ⟨f, R, e, _⟩ := seen_form hq u
  rw [e]
  exact Nat.le_trans (le_of_bound (lt_nodup (cl_asc _ _)) fun x hx => (mem_cl.mp hx).1) h
section
variable {P : Program} {w : World} {K : PySem.W.Frag} {mg : Str → Option Value} {base : Heap} {CS CQ f : Addr} {fd : FuncData}
/-- an item of the triples -/
def Ik (K : PySem.W.Frag) : Rl (Tri × List Sg) := fun e H x => ∃ T b, x = .ref T ∧ SqT K H T [.ref b, .str (wdS e.2)] ∧ Dp K H (.ref b) (dat e.1)
theorem tw_Ik {d : Addr} {o : Obj} {ts : List (En Tri)} {kv : Kv} (h : KvAt ts kv) : TW (Iim P w d o ts) (Ik K) kv (fun H => H d = some (.frz o (DN P w d ts)) ∧ Keys K H ts) := by
  have hl : ts.length = kv.length := by
    have := congrArg List.length h
    simpa using this
  have t := tw_Im (K := K) (P := P) (w := w) (d := d) (o := o) (ts := ts)
  refine ⟨fun i H hi g => t.goes i H (by omega) g, fun H g => hl ▸ t.stops H g, fun i H x H' hi g y => ?_⟩
  obtain ⟨e, a, h1, T, rfl, hT, da⟩ := t.yields i H x H' (by omega) g y
  have h2 : (ts.map fun t => (t.1, t.2.2))[i]? = some (a.1, a.2.2) := by rw [List.getElem?_map, h1]; rfl
  rw [h, List.getElem?_map] at h2
  obtain ⟨k, hk, ek⟩ := Option.map_eq_some_iff.mp h2
  injection ek with ek1 ek2
  refine ⟨e, k, hk, T, a.2.1, rfl, ?_, ?_⟩
  · rw [ek2]
    exact hT
  · rw [ek1]
    exact da
theorem sc_is_wrong : FnScope ["one", "other", "triple", "standing"] ["one", "other", "triple"] (defScope y_is_wrong) := ⟨rfl, rfl, rfl, by decide +kernel, rfl, by decide +kernel, by decide +kernel⟩
def sp_is_wrong (K : PySem.W.Frag) (CQ : Addr) : Sp := spB fun vs H b => ∃ (v v2 v3 : V) (p q : Qs) (t : Tri), vs = [v, v2, v3] ∧ QAt K CQ H v p ∧ QAt K CQ H v2 q ∧ Dp K H v3 (dat t) ∧ t.y.length ≤ 1000 ∧ b = dec (Wrong p q t)
theorem c_is_wrong (T : Tx K mg CS CQ) (F : Fx K mg "is_wrong" y_is_wrong ["one", "other", "triple"] f fd) : Cal P w K mg base 1 "is_wrong" (sp_is_wrong K CQ) [] := by
  refine F.cal sc_is_wrong (fun vs H Q E h => ?_) (fun cdv A outer s H vs Q E hr h => ?_)
  · obtain ⟨b, ⟨v, v2, v3, p, q, t, rfl, _⟩, _⟩ := h
    rfl
  obtain ⟨b, ⟨v, v2, v3, p, q, t, rfl, hp, hq, dt, tl, rfl⟩, k⟩ := h
  have hu := hu100 hr
  refine ⟨_, (pss_one (ps_ret (pe_and (pe_cmpR (k_in (α := Nat) (O := ⟨P, w, K⟩) hu rfl) (pe_ix (k_ixt (K := K) rfl) (pv 2) pe_int (fun _ _ => rfl)) (k_fld (K := K) rfl (pv 0)) (by rfl)) (pe_one (pe_not (pe_callB (k_any (K := K) rfl rfl) (by rfl) T.any (by decide +kernel) (pa_cons (pe_lc (own := [("standing", 3)]) rfl sc_is_wrong.nd ((k_tup (K := K) rfl (pe_ix (k_ixt (K := K) rfl) (pv 2) pe_int (fun _ _ => rfl)))) (blkOk_by (by kernel_rfl)) (fun _ _ _ _ _ => (pn 3 sc_is_wrong.nd)) (fun _ _ _ _ _ => pts_nil) (fun _ _ _ _ _ => (pe_cmpR (k_in (α := Nat) (O := ⟨P, w, K⟩) hu rfl) (pv 3) (k_fld (K := K) rfl (pv 1)) (by rfl)))) pa_nil))))))), ?_⟩
  obtain ⟨TT, y1, y2, y3, rfl, hT, d1, d2, d3⟩ := dp_t3 dt
  obtain ⟨a, dx, st, en, fr, rfl, pf⟩ := hp
  obtain ⟨a2, dx2, st2, en2, fr2, rfl, qf⟩ := hq
  rw [dat_list] at d2
  obtain ⟨at', xt, rfl, hst, hvt⟩ := dp_tuple d2
  refine ⟨_, rfl, TT, _, 0, _, rfl, rfl, hT, rfl, _, rfl, a, CQ, dx, _, _, rfl, pf.h, T.cQ, T.q_ends, rfl, p.ends, t.x, d1, .inl pf.en, _, rfl, ?_⟩
  by_cases c : t.x ∈ p.ends
  · refine dP c ⟨_, rfl, TT, _, 1, _, rfl, rfl, hT, rfl, at', rfl, ⟨xt, hst⟩, fun D hD => ?_⟩
    refine lc_bl (tw_tup (K := K) (R := Dt K) (l := t.y) (xs := xt)) (fun x => decide (x ∈ q.ends)) hD (fun H' e => ⟨e.ld.sqT hst, all_dat (hvt.ex e)⟩) (by rw [sizeLine_eq]; omega) (fun x xv H2 acc N M hx e2 hacc hxv hN => ?_) fun H2 e2 hD2 => ?_
    · have q2 := qf.ex e2
      exact ⟨rfl, _, rfl, _, rfl, a2, CQ, dx2, _, _, rfl, q2.h, T.cQ, T.q_ends, rfl, q.ends, x, hxv, .inl q2.en, hN H2 (.refl H2)⟩
    · refine ⟨D, _, rfl, SqL.of hD2, _, rfl, ?_⟩
      have eb : (!((t.y.map fun x => decide (x ∈ q.ends)).any id)) = dec (Wrong p q t) := by
        rw [Bool.eq_iff_iff, dec_iff, Bool.not_eq_true', List.any_map, List.any_eq_false]
        constructor
        · intro h
          exact ⟨c, fun e he hq => h e he (decide_eq_true hq)⟩
        · intro h e he hq
          exact h.2 e he (of_decide_eq_true hq)
      rw [eb]
      exact k H2 e2
  · refine dN c ?_
    have eb : dec (Wrong p q t) = false := by
      rw [Bool.eq_false_iff, Ne, dec_iff]
      exact fun h => c h.1
    rw [eb] at k
    exact k H (.refl H)
theorem sc_partings : FnScope ["one", "other", "found", "triple", "signs"] ["one", "other"] (defScope y_partings) := ⟨rfl, rfl, rfl, by decide +kernel, rfl, by decide +kernel, by decide +kernel⟩
def sp_partings (K : PySem.W.Frag) (CQ : Addr) : Sp := fun vs H Q _ => ∃ (v v2 : V) (p q : Qs), vs = [v, v2] ∧ QAt K CQ H v p ∧ QAt K CQ H v2 q ∧
  ∀ (pp : Addr) (ys : List V) (L : List Wd) (H' : Hp), Ex H H' → H' pp = some (.lst ys) → DpAll K H' ys (L.map dat) → (∀ u ∈ L, Parts p q u.l ∧ u.l.length ≤ 2000) → (L = [] → Win p q) → L.length ≤ 2000 → Q (.ref pp) H'
theorem c_partings (T : Tx K mg CS CQ) (F : Fx K mg "partings" y_partings ["one", "other"] f fd) (c_triples_of : Cal P w K mg base 4 "triples_of" (sp_triples_of P w K CQ) []) (c_is_wrong : Cal P w K mg base 1 "is_wrong" (sp_is_wrong K CQ) []) : Cal P w K mg base 5 "partings" (sp_partings K CQ) [] := by
  refine F.cal sc_partings (fun vs H Q E h => ?_) (fun cdv A outer s H vs Q E hr h => ?_)
  · obtain ⟨v, v2, p, q, rfl, _⟩ := h
    rfl
  obtain ⟨v, v2, p, q, rfl, hp, hq, k⟩ := h
  have hu := hu100 hr
  refine ⟨_, (pss_cons (pset 2 sc_partings.nd (pe_c c_triples_of hr (by decide) (by rfl) (pa_cons (pv 0) (pa_cons (pv 1) pa_nil))))
    (pss_one (ps_ret (pe_lc (own := [("triple", 3), ("signs", 4)]) rfl sc_partings.nd ((k_ImF (α := Tri) (O := ⟨P, w, K⟩) rfl (pv 2))) (blkOk_by (by kernel_rfl)) (fun _ _ _ _ _ => (k_gtup (n := 2) (K := K) rfl rfl (pgs_cons (pn 3 sc_partings.nd) (pgs_cons (pn 4 sc_partings.nd) pgs_nil)))) (fun _ _ _ _ _ => (pts_one (pt_val (pe_c c_is_wrong hr (by decide) (by rfl) (pa_cons (pv 0) (pa_cons (pv 1) (pa_cons (pv 3) pa_nil))))))) (fun _ _ _ _ _ => (pv 4)))))), ?_⟩
  have qok : QOk q := by
    obtain ⟨_, _, _, _, _, _, qf⟩ := hq
    exact qf.ok
  refine ⟨_, rfl, _, rfl, v, v2, p, q, rfl, hp, hq, fun d ts kv H1 e1 hdn hd hk kva tok lw lk => ?_⟩
  refine ⟨_, rfl, d, ts, rfl, hd, fun o D hD => ?_⟩
  have e12 : Ex H (upd H1 d (.frz o (DN P w d ts))) := e1.mut hdn
  have fz : (upd H1 d (.frz o (DN P w d ts))) d = some (.frz o (DN P w d ts)) := upd_same
  have hk2 : Keys K (upd H1 d (.frz o (DN P w d ts))) ts := hk.lt (Lt.mut (noT_DN hd))
  show (fun H2 => _) (upd H1 d (.frz o (DN P w d ts)))
  generalize upd H1 d (.frz o (DN P w d ts)) = H2 at hD e12 fz hk2
  refine lc_dt (K := K) (tw_Ik (K := K) kva) (fun e => if dec (Wrong p q e.1) = true then some (⟨e.2⟩ : Wd) else none) hD (fun H' e => ⟨e _ _ fz, hk2.ld e.ld⟩) (by rw [sizeLine_eq]; omega) (fun e xe H3 acc N M he e3 hacc hxe hN hM => ?_) fun H3 acc e3 hacc ha => ?_
  · obtain ⟨T1, b, rfl, hT1, db⟩ := hxe
    have e03 := e12.trans e3
    have hly : e.1.y.length ≤ 1000 := by
      have h := (tok.leads e he).2
      rw [h]
      have := seen_len qok.wf qok.n3 e.2
      show (seenOf q e.2).1.length ≤ 1000
      omega
    refine ⟨_, _, rfl, hT1, rfl, _, _, rfl, _, _, rfl, rfl, rfl, ?_⟩
    refine ⟨_, rfl, _, rfl, _, rfl, dec (Wrong p q e.1), ⟨v, v2, .ref b, p, q, e.1, rfl, hp.ex e03, hq.ex e03, db, hly, rfl⟩, fun H4 e4 => ⟨_, rfl, ?_⟩⟩
    cases hb : dec (Wrong p q e.1) with
    | true => exact iteT ⟨_, rfl, hN ⟨e.2⟩ _ H4 (by rw [hb]; rfl) e4 (wd_dp ⟨e.2⟩)⟩
    | false => exact iteF (hM (by rw [hb]; rfl) H4 e4)
  · generalize hL : (kv.filterMap fun e => if dec (Wrong p q e.1) = true then some (⟨e.2⟩ : Wd) else none) = L at ha
    have memL : ∀ u, u ∈ L ↔ ∃ e ∈ kv, Wrong p q e.1 ∧ u = ⟨e.2⟩ := by
      intro u
      rw [← hL, List.mem_filterMap]
      constructor
      · rintro ⟨e, he, h⟩
        split at h
        · rename_i hc
          cases h
          exact ⟨e, he, dec_iff.mp hc, rfl⟩
        · cases h
      · rintro ⟨e, he, h1, rfl⟩
        exact ⟨e, he, by rw [if_pos (dec_iff.mpr h1)]⟩
    refine k D acc L H3 (e12.trans e3) hacc ha (fun u hu => ?_) (fun h => tok.win qok.wf fun e he hw => ?_) ?_
    · obtain ⟨e, he, hw, rfl⟩ := (memL u).mp hu
      exact ⟨(tok.leads e he).parts qok.wf hw, lw e he⟩
    · have := (memL ⟨e.2⟩).mpr ⟨e, he, hw, rfl⟩
      rw [h] at this
      cases this
    · rw [← hL]
      exact Nat.le_trans (List.length_filterMap_le _ _) lk
theorem sc_both_small : FnScope ["one", "other"] ["one", "other"] (defScope y_both_small) := ⟨rfl, rfl, rfl, by decide +kernel, rfl, by decide +kernel, by decide +kernel⟩
def sp_both_small (K : PySem.W.Frag) (CQ : Addr) : Sp := fun vs H Q _ => ∃ (v v2 : V) (p q : Qs), vs = [v, v2] ∧ QAt K CQ H v p ∧ QAt K CQ H v2 q ∧
  ∀ (TT : Addr) (x y : V) (p' q' : Qs) (H' : Hp), Ex H H' → SqT K H' TT [x, y] → QAt K CQ H' x p' → QAt K CQ H' y q' → (∀ u, reads p' u ↔ reads p u) → (∀ u, reads q' u ↔ reads q u) → Q (.ref TT) H'
theorem c_both_small (T : Tx K mg CS CQ) (F : Fx K mg "both_small" y_both_small ["one", "other"] f fd) (c_small : Cal P w K mg base 8 "small" (sp_small K CQ) []) : Cal P w K mg base 9 "both_small" (sp_both_small K CQ) [] := by
  refine F.cal sc_both_small (fun vs H Q E h => ?_) (fun cdv A outer s H vs Q E hr h => ?_)
  · obtain ⟨v, v2, p, q, rfl, _⟩ := h
    rfl
  obtain ⟨v, v2, p, q, rfl, hp, hq, k⟩ := h
  refine ⟨_, (pss_one (ps_ret (pe_tup (pa_cons (pe_c c_small hr (by decide) (by rfl) (pa_cons (pv 0) pa_nil)) (pa_cons (pe_c c_small hr (by decide) (by rfl) (pa_cons (pv 1) pa_nil)) pa_nil))))), ?_⟩
  refine ⟨_, rfl, v, p, rfl, hp, fun x p' H1 e1 hx hrx => ⟨_, rfl, v2, q, rfl, hq.ex e1, fun y q' H2 e2 hy hry => ⟨by show 2 ≤ sizeLine; decide, fun TT hTT => ?_⟩⟩⟩
  have e3 := Ex.new (o := .tup [x, y]) hTT
  exact k TT x y p' q' _ ((e1.trans e2).trans e3) sqt_new ((hx.ex e2).ex e3) (hy.ex e3) hrx hry
theorem sc_lies_within : FnScope ["one", "other", "first", "second"] ["one", "other"] (defScope y_lies_within) := ⟨rfl, rfl, rfl, by decide +kernel, rfl, by decide +kernel, by decide +kernel⟩
def sp_lies_within (K : PySem.W.Frag) (CQ : Addr) : Sp := spB fun vs H b => ∃ (v v2 : V) (p q : Qs), vs = [v, v2] ∧ QAt K CQ H v p ∧ QAt K CQ H v2 q ∧ b = dec (Win p q)
theorem c_lies_within (T : Tx K mg CS CQ) (F : Fx K mg "lies_within" y_lies_within ["one", "other"] f fd) (c_both_small : Cal P w K mg base 9 "both_small" (sp_both_small K CQ) []) (c_partings : Cal P w K mg base 5 "partings" (sp_partings K CQ) []) : Cal P w K mg base 10 "lies_within" (sp_lies_within K CQ) [] := by
  refine F.cal sc_lies_within (fun vs H Q E h => ?_) (fun cdv A outer s H vs Q E hr h => ?_)
  · obtain ⟨b, ⟨v, v2, p, q, rfl, _⟩, _⟩ := h
    rfl
  obtain ⟨b, ⟨v, v2, p, q, rfl, hp, hq, rfl⟩, k⟩ := h
  have hu := hu100 hr
  refine ⟨_, (pss_cons (ps_asg (pe_c c_both_small hr (by decide) (by rfl) (pa_cons (pv 0) (pa_cons (pv 1) pa_nil))) (k_gtup (n := 2) (K := K) rfl rfl (pgs_cons (pn 2 sc_lies_within.nd) (pgs_cons (pn 3 sc_lies_within.nd) pgs_nil))))
    (pss_one (ps_ret (pe_cmpR (k_eqL (α := Wd) (O := ⟨P, w, K⟩) hu rfl) (pe_c c_partings hr (by decide) (by rfl) (pa_cons (pv 2) (pa_cons (pv 3) pa_nil))) (pe_lst pa_nil) (by rfl))))), ?_⟩
  refine ⟨_, rfl, _, rfl, v, v2, p, q, rfl, hp, hq, fun TT x y p' q' H1 e1 hT hx hy rp rq => ?_⟩
  refine ⟨_, _, rfl, hT, rfl, _, _, rfl, _, _, rfl, rfl, ?_⟩
  refine ⟨_, rfl, _, rfl, x, y, p', q', rfl, hx, hy, fun pp ys L H2 e2 hpp hys hL hW hlen => ⟨Nat.zero_le _, fun q1 hq1 => ⟨L, [], .lst (SqL.of ((Ex.new hq1) _ _ hpp)) (hys.ex (Ex.new hq1)), .lst sql_new .nil, ?_⟩⟩⟩
  have hk := k _ ((e1.trans e2).trans (Ex.new (o := .lst []) hq1))
  have wi := win_reads rp rq
  have eb : dec (Win p q) = dec (L = []) := by
    rw [Bool.eq_iff_iff, dec_iff, dec_iff]
    constructor
    · intro h
      cases L with
      | nil => rfl
      | cons u L => exact absurd (wi.mpr h) (not_win (hL u List.mem_cons_self).1)
    · exact fun h => wi.mp (hW h)
  rw [eb] at hk
  rw [if_neg Bool.false_ne_true]
  by_cases h : L = []
  · rw [dT h]
    rw [dec_iff.mpr h] at hk
    exact hk
  · rw [dF h]
    rw [show dec (L = []) = false by rw [Bool.eq_false_iff, Ne, dec_iff]; exact h] at hk
    exact hk
theorem sc_parting : FnScope ["one", "other", "found", "first", "second", "signs"] ["one", "other"] (defScope y_parting) := ⟨rfl, rfl, rfl, by decide +kernel, rfl, by decide +kernel, by decide +kernel⟩
def sp_parting (K : PySem.W.Frag) (CQ : Addr) : Sp := fun vs H Q _ => ∃ (v v2 : V) (p q : Qs), vs = [v, v2] ∧ QAt K CQ H v p ∧ QAt K CQ H v2 q ∧
  (∀ H', Ex H H' → Win p q → Q .non H') ∧ (∀ u H', Ex H H' → Parts p q u → u.length ≤ 2000 → Q (.str (wdS u)) H')
theorem c_parting (T : Tx K mg CS CQ) (F : Fx K mg "parting" y_parting ["one", "other"] f fd) (c_both_small : Cal P w K mg base 9 "both_small" (sp_both_small K CQ) []) (c_partings : Cal P w K mg base 5 "partings" (sp_partings K CQ) []) : Cal P w K mg base 10 "parting" (sp_parting K CQ) [] := by
  refine F.cal sc_parting (fun vs H Q E h => ?_) (fun cdv A outer s H vs Q E hr h => ?_)
  · obtain ⟨v, v2, p, q, rfl, _⟩ := h
    rfl
  obtain ⟨v, v2, p, q, rfl, hp, hq, kn, ky⟩ := h
  have hu := hu100 hr
  refine ⟨_, (pss_cons (ps_asg (pe_c c_both_small hr (by decide) (by rfl) (pa_cons (pv 0) (pa_cons (pv 1) pa_nil))) (k_gtup (n := 2) (K := K) rfl rfl (pgs_cons (pn 3 sc_parting.nd) (pgs_cons (pn 4 sc_parting.nd) pgs_nil))))
    (pss_cons (pset 2 sc_parting.nd (pe_callB (k_srtL (α := Nat × Wd) (O := ⟨P, w, K⟩) hu rfl) (by rfl) T.sorted (by decide +kernel) (pa_cons (pe_lc (own := [("signs", 5)]) rfl sc_parting.nd ((k_list (K := K) rfl (pe_c c_partings hr (by decide) (by rfl) (pa_cons (pv 3) (pa_cons (pv 4) pa_nil))))) (blkOk_by (by kernel_rfl)) (fun _ _ _ _ _ => (pn 5 sc_parting.nd)) (fun _ _ _ _ _ => pts_nil) (fun _ _ _ _ _ => (pe_tup (pa_cons (pe_callB (k_len (K := K) rfl) (by rfl) T.len (by decide +kernel) (pa_cons (pv 5) pa_nil)) (pa_cons (pv 5) pa_nil))))) pa_nil)))
    (pss_one (ps_ret (pe_ifExp (pt_cmpR (k_neL (α := Nat × Wd) (O := ⟨P, w, K⟩) hu rfl) (pv 2) (pe_lst pa_nil) (by rfl)) (pe_ix (k_ixt (K := K) rfl) (pe_ix (k_ixl (K := K) rfl) (pv 2) pe_int (fun _ _ => rfl)) pe_int (fun _ _ => rfl)) pe_non))))), ?_⟩
  refine ⟨_, rfl, _, rfl, v, v2, p, q, rfl, hp, hq, fun TT x y p' q' H1 e1 hT hx hy rp rq => ?_⟩
  refine ⟨_, _, rfl, hT, rfl, _, _, rfl, _, _, rfl, rfl, ?_⟩
  refine ⟨_, rfl, _, rfl, x, y, p', q', rfl, hx, hy, fun pp ys L H2 e2 hpp hys hL hW hlen => ⟨pp, rfl, ⟨ys, SqL.of hpp⟩, fun D hD => ?_⟩⟩
  refine lc_dt (K := K) (tw_list (K := K) (R := Dt K) (l := L) (xs := ys)) (fun u => some ((u.l.length, u) : Nat × Wd)) hD (fun H' e => ⟨SqL.of (e _ _ hpp), all_dat (hys.ex e)⟩) (by rw [sizeLine_eq]; omega) (fun u xu H3 acc N M hu' e3 hacc hxu hN hM => ?_) fun H3 acc e3 hacc ha => ?_
  · have hxu := dp_wd hxu
    subst hxu
    have hul := (hL u hu').2
    exact ⟨rfl, _, rfl, _, (u.l.length : Nat), rfl, ⟨by rw [wdS_len, sizeLine_eq]; omega, (wdS_len u.l).symm⟩, _, rfl, by show 2 ≤ sizeLine; decide, fun T2 hT2 => hN _ _ _ rfl (Ex.new hT2) (pair_dp sqt_new (nat_dp _) (wd_dp u))⟩
  · have em : L.filterMap (fun u => some ((u.l.length, u) : Nat × Wd)) = L.map fun u => (u.l.length, u) := by
      show List.filterMap (some ∘ fun u : Wd => ((u.l.length, u) : Nat × Wd)) _ = _
      rw [List.filterMap_eq_map]
    rw [em] at ha
    have e03 := (e1.trans e2).trans e3
    refine ⟨D, acc, _, rfl, SqL.of hacc, ha, fun zs pz dz hpz => ?_⟩
    have e4 := Ex.new (o := .lst zs) hpz
    have hz4 : (upd H3 pz (.lst zs)) pz = some (.lst zs) := upd_same
    have dz4 := dz.ex e4
    have e04 := e03.trans e4
    show (fun H4 => _) (upd H3 pz (.lst zs))
    generalize upd H3 pz (.lst zs) = H4 at hz4 dz4 e04
    generalize hM : srt (L.map fun u => ((u.l.length, u) : Nat × Wd)) = M at dz4
    refine ⟨_, rfl, Nat.zero_le _, fun q1 hq1 => ⟨M, [], .lst (SqL.of ((Ex.new hq1) _ _ hz4)) (dz4.ex (Ex.new hq1)), .lst sql_new .nil, _, rfl, ?_⟩⟩
    have e5 := Ex.new (o := .lst []) hq1
    by_cases hm : M = []
    · refine dNP hm (kn _ (e04.trans e5) ((win_reads rp rq).mp (hW ?_)))
      have : M.length = L.length := by rw [← hM, srt_len, List.length_map]
      rw [hm] at this
      exact List.eq_nil_of_length_eq_zero this.symm
    · obtain ⟨m0, hm0⟩ : ∃ m0, M[0]? = some m0 := ⟨M[0]'(List.length_pos_iff.mpr hm), List.getElem?_eq_getElem _⟩
      obtain ⟨v0, hv0, dv0⟩ := all_at (all_dat dz4) hm0
      have dv0 : Dp K H4 v0 (dat m0) := dv0
      obtain ⟨T3, z1, z2, rfl, hT3, g1, g2⟩ := dp_pair dv0
      have g2 := dp_wd g2
      subst g2
      have hmem : m0 ∈ M := List.mem_of_getElem? hm0
      rw [← hM, mem_srt, List.mem_map] at hmem
      obtain ⟨u, hu', rfl⟩ := hmem
      obtain ⟨⟨pr1, pr2⟩, pl⟩ := hL u hu'
      refine dNN hm ⟨_, rfl, pz, zs, ((0 : Nat) : Int), .ref T3, rfl, rfl, SqL.of (e5 _ _ hz4), atI_nat hv0, T3, _, 1, _, rfl, rfl, e5.ld.sqT hT3, rfl, ky u.l _ (e04.trans e5) ⟨(rp _).mp pr1, fun h => pr2 ((ans_reads rq).mpr h)⟩ pl⟩
theorem sc_are_alike : FnScope ["one", "other", "found", "first", "second"] ["one", "other"] (defScope y_are_alike) := ⟨rfl, rfl, rfl, by decide +kernel, rfl, by decide +kernel, by decide +kernel⟩
def sp_are_alike (K : PySem.W.Frag) (CQ : Addr) : Sp := spB fun vs H b => ∃ (v v2 : V) (p q : Qs), vs = [v, v2] ∧ QAt K CQ H v p ∧ QAt K CQ H v2 q ∧ b = (dec (Win p q) && dec (Win q p))
theorem part_win {p q p' q' : Qs} {L : List Wd} (rp : ∀ u, reads p' u ↔ reads p u) (rq : ∀ u, reads q' u ↔ reads q u) (hL : ∀ u ∈ L, Parts p' q' u.l ∧ u.l.length ≤ 2000) (hW : L = [] → Win p' q') : dec (Win p q) = L.isEmpty := by
  have wi := win_reads rp rq
  rw [Bool.eq_iff_iff, dec_iff, List.isEmpty_iff]
  constructor
  · intro h
    cases L with
    | nil => rfl
    | cons u L => exact absurd (wi.mpr h) (not_win (hL u List.mem_cons_self).1)
  · exact fun h => wi.mp (hW h)
theorem c_are_alike (T : Tx K mg CS CQ) (F : Fx K mg "are_alike" y_are_alike ["one", "other"] f fd) (c_both_small : Cal P w K mg base 9 "both_small" (sp_both_small K CQ) []) (c_partings : Cal P w K mg base 5 "partings" (sp_partings K CQ) []) : Cal P w K mg base 10 "are_alike" (sp_are_alike K CQ) [] := by
  refine F.cal sc_are_alike (fun vs H Q E h => ?_) (fun cdv A outer s H vs Q E hr h => ?_)
  · obtain ⟨b, ⟨v, v2, p, q, rfl, _⟩, _⟩ := h
    rfl
  obtain ⟨b, ⟨v, v2, p, q, rfl, hp, hq, rfl⟩, k⟩ := h
  have hu := hu100 hr
  refine ⟨_, (pss_cons (ps_asg (pe_c c_both_small hr (by decide) (by rfl) (pa_cons (pv 0) (pa_cons (pv 1) pa_nil))) (k_gtup (n := 2) (K := K) rfl rfl (pgs_cons (pn 3 sc_are_alike.nd) (pgs_cons (pn 4 sc_are_alike.nd) pgs_nil))))
    (pss_cons (pset 2 sc_are_alike.nd (pe_lst (pa_cons (pe_c c_partings hr (by decide) (by rfl) (pa_cons (pv 3) (pa_cons (pv 4) pa_nil))) (pa_cons (pe_c c_partings hr (by decide) (by rfl) (pa_cons (pv 4) (pa_cons (pv 3) pa_nil))) pa_nil))))
    (pss_one (ps_ret (pe_cmpR (op_eqD hr.units) (pv 2) (pe_lst (pa_cons (pe_lst pa_nil) (pa_cons (pe_lst pa_nil) pa_nil))) (by rfl)))))), ?_⟩
  refine ⟨_, rfl, _, rfl, v, v2, p, q, rfl, hp, hq, fun TT x y p' q' H1 e1 hT hx hy rp rq => ?_⟩
  refine ⟨_, _, rfl, hT, rfl, _, _, rfl, _, _, rfl, rfl, ?_⟩
  refine ⟨_, rfl, _, rfl, x, y, p', q', rfl, hx, hy, fun pp ys L H2 e2 hpp hys hL hW hlen => ?_⟩
  refine ⟨_, rfl, _, rfl, y, x, q', p', rfl, hy.ex e2, hx.ex e2, fun pp2 ys2 L2 H3 e3 hpp2 hys2 hL2 hW2 hlen2 => ⟨by show 2 ≤ sizeLine; decide, fun pf hpf => ?_⟩⟩
  have e4 := Ex.new (o := .lst [.ref pp, .ref pp2]) hpf
  have d4 : Dp K (upd H3 pf (.lst [.ref pp, .ref pp2])) (.ref pf) (.list [.list (L.map dat), .list (L2.map dat)]) := .lst sql_new (.cons (.lst (SqL.of (e4 _ _ (e3 _ _ hpp))) (hys.ex (e3.trans e4))) (.cons (.lst (SqL.of (e4 _ _ hpp2)) (hys2.ex e4)) .nil))
  have e04 := ((e1.trans e2).trans e3).trans e4
  show (fun H4 => _) (upd H3 pf (.lst [.ref pp, .ref pp2]))
  generalize upd H3 pf (.lst [.ref pp, .ref pp2]) = H4 at d4 e04
  refine ⟨_, rfl, Nat.zero_le _, fun q1 hq1 => ⟨Nat.zero_le _, fun q2 hq2 => ⟨by show 2 ≤ sizeLine; decide, fun q3 hq3 => ?_⟩⟩⟩
  have e5 := ((Ex.new (o := .lst []) hq1).put (o := .lst []) hq2).put (o := .lst [.ref q1, .ref q2]) hq3
  have s1 : SqL K (upd (upd (upd H4 q1 (.lst [])) q2 (.lst [])) q3 (.lst [.ref q1, .ref q2])) q1 [] := SqL.of ((Ex.new hq3) _ _ ((Ex.new hq2) _ _ upd_same))
  have s2 : SqL K (upd (upd (upd H4 q1 (.lst [])) q2 (.lst [])) q3 (.lst [.ref q1, .ref q2])) q2 [] := SqL.of ((Ex.new hq3) _ _ upd_same)
  refine ⟨.list [.list (L.map dat), .list (L2.map dat)], .list [.list [], .list []], d4.ex e5, .lst sql_new (.cons (.lst s1 .nil) (.cons (.lst s2 .nil) .nil)), ?_, rfl, ?_⟩
  · have g1 := dats_depth L
    have g2 := dats_depth L2
    have g3 : dep Wd = 0 := rfl
    unfold SeqAt.shaped
    simp only [PyData.canLay0, PyData.canLayAll0, PyData.depth, PyData.depthAll, dats_lay, Bool.and_true, Bool.true_and, decide_eq_true_eq]
    exact decide_eq_true (by omega)
  · have eb : PyData.eqv (.list [.list (L.map dat), .list (L2.map dat)]) (.list [.list [], .list []]) = (dec (Win p q) && dec (Win q p)) := by
      rw [part_win rp rq hL hW, part_win rq rp hL2 hW2]
      cases L <;> cases L2 <;> simp [PyData.eqv, PyData.eqvAll]
    rw [eb]
    exact k _ (e04.trans e5)
end
end K26

set_option Elab.async false
set_option linter.all false
set_option maxRecDepth 100000
set_option maxHeartbeats 4000000
/-! law: pot, draw, pick. -/
namespace K26
open PySem PySem.Spec PyProof.Rows L2
open Ky C8
theorem k_ixB {X : Cx} {K : PySem.W.Frag} (hK : X.K = K) : IxR X (fun x y H Q => rIxL K x y H Q ∨ rIxS x y H Q) := by
  intro value slice pins s σ H x y v u Q I rx ry h hs
  rcases h with h | h
  · exact k_ixl hK value slice pins s σ H x y v u Q I rx ry h hs
  · exact ix_str value slice pins s σ H x y v u Q I rx ry h hs
theorem nz1 : (2147483549 : Int) ≠ 0 := by decide
theorem nz2 : (2147483477 : Int) ≠ 0 := by decide
theorem nz3 : (2147483579 : Int) ≠ 0 := by decide
theorem nz4 : (2147483543 : Int) ≠ 0 := by decide
theorem fmq (x : Int) : -(2 ^ 64) < x.fmod 2147483549 + 5 ∧ x.fmod 2147483549 + 5 < 2 ^ 64 := by
  have f1 := Int.fmod_nonneg_of_pos x (b := 2147483549) (by decide)
  have f2 := Int.fmod_lt_of_pos x (b := 2147483549) (by decide)
  omega
theorem fmr (x : Int) : 0 ≤ x.fmod 2147483477 + 1 ∧ x.fmod 2147483477 + 1 < 4294967296 := by
  have f1 := Int.fmod_nonneg_of_pos x (b := 2147483477) (by decide)
  have f2 := Int.fmod_lt_of_pos x (b := 2147483477) (by decide)
  omega
/-- a pot stands at p -/
def PotAt (H : Hp) (p : Addr) : Prop := ∃ a b : Int, H p = some (.lst [.int a, .int b]) ∧ 0 ≤ b ∧ b < 4294967296
theorem PotAt.ex {H H' : Hp} {p : Addr} (h : PotAt H p) (e : Ex H H') : PotAt H' p := by
  obtain ⟨a, b, h1, h2⟩ := h
  exact ⟨a, b, e _ _ h1, h2⟩
theorem Ex.x1 {H H' : Hp} {p : Addr} (e : Ex H H') : Ex1 p H H' := fun y o _ h => e y o h
theorem Ex1.trans {H H1 H2 : Hp} {p : Addr} (a : Ex1 p H H1) (b : Ex1 p H1 H2) : Ex1 p H H2 := fun y o n h => b y o n (a y o n h)
section
variable {P : Program} {w : World} {K : PySem.W.Frag} {mg : Str → Option Value} {base : Heap} {CS CQ f : Addr} {fd : FuncData}
theorem sc_law_pot : FnScope ["_law_script", "_law_k", "_law_seed"] ["_law_script", "_law_k"] (defScope y_law_pot) := ⟨rfl, rfl, rfl, by decide +kernel, rfl, by decide +kernel, by decide +kernel⟩
def sp_law_pot (K : PySem.W.Frag) : Sp := fun vs H Q _ => ∃ (l : Addr) (ns : List Int) (k : Nat), vs = [.ref l, .int (k : Int)] ∧ SqL K H l (ns.map V.int) ∧ ns.length ≤ 63 ∧ k < 3 ∧ ∀ p H', Ex H H' → H p = none → PotAt H' p → Q (.ref p) H'
theorem c_law_pot (T : Tx K mg CS CQ) (F : Fx K mg "_law_pot" y_law_pot ["_law_script", "_law_k"] f fd) : Cal P w K mg base 1 "_law_pot" (sp_law_pot K) [] := by
  refine F.cal sc_law_pot (fun vs H Q E h => ?_) (fun cdv A outer s H vs Q E hr h => ?_)
  · obtain ⟨l, ns, k, rfl, _⟩ := h
    rfl
  obtain ⟨l, ns, n, rfl, hl, hn, hk, k⟩ := h
  refine ⟨_, (pss_cons (pset 2 sc_law_pot.nd (pe_op (op_add) (pe_op (op_mul) pe_int (pv 1)) pe_int))
    (pss_cons (ps_if (pt_cmpR (op_lt) (pv 1) (pe_callB (k_len (K := K) rfl) (by rfl) T.len (by decide +kernel) (pa_cons (pv 0) pa_nil)) (by rfl)) (pss_one (pset 2 sc_law_pot.nd (pe_callB (call_abs) (by rfl) T.abs (by decide +kernel) (pa_cons (pe_ix (k_ixl (K := K) rfl) (pv 0) (pv 1) (fun _ _ => rfl)) pa_nil)))) pss_nil)
    (pss_one (ps_ret (pe_lst (pa_cons (pe_callB (call_max2 rfl) (by rfl) T.max (by decide +kernel) (pa_cons pe_int (pa_cons (pe_op (op_sub) (pv 2) (pe_op (op_pow) pe_int pe_int)) pa_nil))) (pa_cons (pe_op (op_add) (pe_op (op_modN) (pe_callTy (call_int1) (by rfl) T.int (by decide +kernel) (pa_cons (pe_op (op_mul) (pe_callTy (call_int1) (by rfl) T.int (by decide +kernel) (pa_cons (pe_op (op_add) (pe_op (op_modN) (pe_callTy (call_int1) (by rfl) T.int (by decide +kernel) (pa_cons (pv 2) pa_nil)) pe_int) pe_int) pa_nil)) (pe_op (op_pow) (pe_op (op_add) (pe_op (op_mul) pe_int (pv 1)) pe_int) pe_int)) pa_nil)) pe_int) pe_int) pa_nil))))))), ?_⟩
  refine ⟨_, rfl, _, _, rfl, rfl, .inl ⟨by decide, by decide⟩, _, _, rfl, rfl, ?_⟩
  refine ⟨_, rfl, _, rfl, _, (ns.length : Nat), rfl, .inl ⟨_, hl, by simp⟩, _, _, rfl, rfl, _, rfl, ?_⟩
  rcases Nat.lt_or_ge n ns.length with hc | hc
  case' inl =>
    refine ifP (by omega) ⟨_, rfl, _, rfl, l, _, (n : Int), .int ns[n], rfl, rfl, hl, atI_nat (by rw [List.getElem?_map, List.getElem?_eq_getElem hc]; rfl), ns[n], rfl, ?_⟩
  case' inr =>
    refine ifN (by omega) ?_
  all_goals
    refine ⟨_, rfl, _, _, rfl, rfl, ⟨by decide, by decide, by decide⟩, _, _, rfl, rfl, _, _, rfl, ?_⟩
    refine ⟨_, rfl, .inl ⟨_, rfl, _, _, rfl, rfl, nz1, _, _, rfl, rfl, .inl ⟨_, rfl, _, rfl, _, _, rfl, rfl, .inl ⟨by decide, by decide⟩, _, _, rfl, rfl, _, _, rfl, rfl, ⟨by decide, by decide, by omega⟩, _, _, rfl, rfl, .inl (fmq _), .inl ⟨_, rfl, _, _, rfl, rfl, nz2, _, _, rfl, rfl, ?_⟩⟩⟩⟩
    exact ⟨by show 2 ≤ sizeLine; decide, fun p hp => k p _ (Ex.new hp) hp ⟨_, _, upd_same, (fmr _).1, (fmr _).2⟩⟩
theorem sc_law_draw : FnScope ["_law_pot_here", "_law_faces", "_law_digit"] ["_law_pot_here", "_law_faces"] (defScope y_law_draw) := ⟨rfl, rfl, rfl, by decide +kernel, rfl, by decide +kernel, by decide +kernel⟩
def sp_law_draw : Sp := fun vs H Q _ => ∃ (p : Addr) (n : Nat), vs = [.ref p, .int (n : Int)] ∧ PotAt H p ∧ 0 < n ∧ n < 1000 ∧ ∀ (r : Nat) H', r < n → Ex1 p H H' → PotAt H' p → Q (.int (r : Int)) H'
theorem c_law_draw (T : Tx K mg CS CQ) (F : Fx K mg "_law_draw" y_law_draw ["_law_pot_here", "_law_faces"] f fd) : Cal P w K mg base 1 "_law_draw" sp_law_draw [] := by
  refine F.cal sc_law_draw (fun vs H Q E h => ?_) (fun cdv A outer s H vs Q E hr h => ?_)
  · obtain ⟨p, n, rfl, _⟩ := h
    rfl
  obtain ⟨p, n, rfl, ⟨a, b, hp, hb1, hb2⟩, hn, hn2, k⟩ := h
  refine ⟨_, (pss_cons (ps_if (pt_cmpR (op_gt) (pe_ix (k_ixl (K := K) rfl) (pv 0) pe_int (fun _ _ => rfl)) pe_int (by rfl)) (pss_cons (ps_asg (pe_callB (call_divmod) (by rfl) T.divmod (by decide +kernel) (pa_cons (pe_ix (k_ixl (K := K) rfl) (pv 0) pe_int (fun _ _ => rfl)) (pa_cons (pv 1) pa_nil))) (k_gtup (n := 2) (K := K) rfl rfl (pgs_cons (pg_sub (pv 0) pe_int (set_list)) (pgs_cons (pn 2 sc_law_draw.nd) pgs_nil))))
    (pss_one (ps_ret (pv 2)))) pss_nil)
    (pss_cons (ps_asg (pe_op (op_modN) (pe_callTy (call_int1) (by rfl) T.int (by decide +kernel) (pa_cons (pe_op (op_add) (pe_op (op_mul) (pe_ix (k_ixl (K := K) rfl) (pv 0) pe_int (fun _ _ => rfl)) pe_int) pe_int) pa_nil)) pe_int) (pg_sub (pv 0) pe_int (set_list)))
    (pss_one (ps_ret (pe_op (op_modN) (pe_callTy (call_int1) (by rfl) T.int (by decide +kernel) (pa_cons (pe_op (op_fdivN) (pe_op (op_modN) (pe_callTy (call_int1) (by rfl) T.int (by decide +kernel) (pa_cons (pe_op (op_mul) (pe_ix (k_ixl (K := K) rfl) (pv 0) pe_int (fun _ _ => rfl)) (pe_ix (k_ixl (K := K) rfl) (pv 0) pe_int (fun _ _ => rfl))) pa_nil)) pe_int) pe_int) pa_nil)) (pv 1)))))), ?_⟩
  refine ⟨_, rfl, p, _, 0, .int a, rfl, rfl, SqL.of hp, rfl, _, _, rfl, rfl, _, rfl, ?_⟩
  by_cases ha : a > 0
  · refine dP ha ⟨_, rfl, p, _, 0, .int a, rfl, rfl, SqL.of hp, rfl, _, rfl, a, (n : Int), rfl, ⟨by omega, by omega⟩, fun T0 hT0 => ?_⟩
    have pT : p ≠ T0 := ne_of_none hp hT0
    have hp1 : (upd H T0 (.tup [.int (a / (n : Int)), .int (a % (n : Int))])) p = some (.lst [.int a, .int b]) := (upd_ne pT).trans hp
    refine ⟨T0, _, rfl, sqt_new, rfl, _, _, rfl, _, rfl, p, _, 0, 0, rfl, rfl, hp1, rfl, _, _, rfl, rfl, ?_⟩
    have r1 := Int.emod_nonneg a (b := (n : Int)) (by omega)
    have r2 := Int.emod_lt_of_pos a (b := (n : Int)) (by omega)
    have er : a % (n : Int) = ((a % (n : Int)).toNat : Int) := (Int.toNat_of_nonneg r1).symm
    refine ⟨_, rfl, ?_⟩
    have kk := k (a % (n : Int)).toNat (upd (upd H T0 (.tup [.int (a / (n : Int)), .int (a % (n : Int))])) p (.lst [.int (a / (n : Int)), .int b])) (by omega) (fun y o hy h => (upd_ne hy).trans ((Ex.new hT0) _ _ h)) ⟨_, b, upd_same, hb1, hb2⟩
    rw [← er] at kk
    exact kk
  · refine dN ha ?_
    refine ⟨_, rfl, p, _, 1, .int b, rfl, rfl, SqL.of hp, rfl, _, _, rfl, rfl, .inr ⟨by decide, by decide⟩, _, _, rfl, rfl, .inl ⟨_, rfl, _, _, rfl, rfl, nz3, ?_⟩⟩
    have c1 := Int.fmod_nonneg_of_pos (b * 40009 + 23003) (b := 2147483579) (by decide)
    have c2 := Int.fmod_lt_of_pos (b * 40009 + 23003) (b := 2147483579) (by decide)
    refine ⟨_, rfl, p, _, 1, 1, rfl, rfl, hp, rfl, ?_⟩
    obtain ⟨z, hz⟩ : ∃ z, z = (b * 40009 + 23003).fmod 2147483579 := ⟨_, rfl⟩
    rw [← hz] at c1 c2
    have hp1 : (upd H p (.lst ([V.int a, V.int b].set 1 (.int ((b * 40009 + 23003).fmod 2147483579))))) p = some (.lst [.int a, .int z]) := by
      rw [hz]
      exact upd_same
    refine ⟨_, rfl, p, _, 1, .int z, rfl, rfl, SqL.of hp1, rfl, _, rfl, p, _, 1, .int z, rfl, rfl, SqL.of hp1, rfl, _, _, rfl, rfl, .inl ⟨by omega, by omega⟩, .inl ⟨_, rfl, _, _, rfl, rfl, nz4, _, _, rfl, rfl, ⟨by decide, by decide⟩, .inl ⟨_, rfl, _, rfl, _, _, rfl, rfl, by show (n : Int) ≠ 0; omega, ?_⟩⟩⟩
    have r1 := Int.fmod_nonneg_of_pos (((z * z).fmod 2147483543).fdiv 11) (b := (n : Int)) (by omega)
    have r2 := Int.fmod_lt_of_pos (((z * z).fmod 2147483543).fdiv 11) (b := (n : Int)) (by omega)
    have er := (Int.toNat_of_nonneg r1).symm
    have kk := k ((((z * z).fmod 2147483543).fdiv 11).fmod (n : Int)).toNat (upd H p (.lst ([V.int a, V.int b].set 1 (.int ((b * 40009 + 23003).fmod 2147483579))))) (by omega) (fun y o hy h => (upd_ne hy).trans h) ⟨a, z, hp1, c1, by omega⟩
    rw [← er] at kk
    exact kk
theorem sc_law_pick : FnScope ["_law_pot_here", "_law_some"] ["_law_pot_here", "_law_some"] (defScope y_law_pick) := ⟨rfl, rfl, rfl, by decide +kernel, rfl, by decide +kernel, by decide +kernel⟩
def sp_law_pick : Sp := fun vs H Q _ => ∃ p : Addr, PotAt H p ∧ ((∃ (l : Addr) (xs : List V), vs = [.ref p, .ref l] ∧ l ≠ p ∧ H l = some (.lst xs) ∧ 0 < xs.length ∧ xs.length < 1000 ∧ ∀ v H', v ∈ xs → Ex1 p H H' → PotAt H' p → Q v H') ∨
  (∃ u : List Sg, vs = [.ref p, .str (wdS u)] ∧ 0 < u.length ∧ u.length < 1000 ∧ ∀ s H', s ∈ u → Ex1 p H H' → PotAt H' p → Q (.str (sgS s)) H'))
theorem c_law_pick (T : Tx K mg CS CQ) (F : Fx K mg "_law_pick" y_law_pick ["_law_pot_here", "_law_some"] f fd) (c_law_draw : Cal P w K mg base 1 "_law_draw" sp_law_draw []) : Cal P w K mg base 2 "_law_pick" sp_law_pick [] := by
  refine F.cal sc_law_pick (fun vs H Q E h => ?_) (fun cdv A outer s H vs Q E hr h => ?_)
  · obtain ⟨p, _, ⟨l, xs, rfl, _⟩ | ⟨u, rfl, _⟩⟩ := h <;> rfl
  refine ⟨_, (pss_one (ps_ret (pe_ix (k_ixB (K := K) rfl) (pv 1) (pe_c c_law_draw hr (by decide) (by rfl) (pa_cons (pv 0) (pa_cons (pe_callB (k_len (K := K) rfl) (by rfl) T.len (by decide +kernel) (pa_cons (pv 1) pa_nil)) pa_nil))) (fun _ _ => rfl)))), ?_⟩
  obtain ⟨p, hp, ⟨l, xs, rfl, hne, hl, h1, h2, k⟩ | ⟨u, rfl, h1, h2, k⟩⟩ := h
  · refine ⟨_, rfl, _, rfl, _, rfl, _, (xs.length : Nat), rfl, .inl ⟨_, SqL.of hl, rfl⟩, p, xs.length, rfl, hp, h1, h2, fun r H1 hr1 e1 hp1 => .inl ⟨l, xs, (r : Int), xs[r], rfl, rfl, SqL.of (e1 _ _ hne hl), atI_nat (List.getElem?_eq_getElem hr1), k _ H1 (List.getElem_mem hr1) e1 hp1⟩⟩
  · refine ⟨_, rfl, _, rfl, _, rfl, _, (u.length : Nat), rfl, ⟨by rw [wdS_len, sizeLine_eq]; omega, (wdS_len u).symm⟩, p, u.length, rfl, hp, h1, h2, fun r H1 hr1 e1 hp1 => .inr ⟨wdS u, (r : Int), sgC u[r], rfl, rfl, by rw [wdS_len, sizeLine_eq]; omega, ?_, ?_⟩⟩
    · rw [wdS_tl]
      exact atI_nat (by rw [List.getElem?_map, List.getElem?_eq_getElem hr1]; rfl)
    · rw [← sgS_C]
      exact k _ H1 (List.getElem_mem hr1) e1 hp1
end
end K26

set_option Elab.async false
set_option linter.all false
set_option maxRecDepth 100000
set_option maxHeartbeats 4000000
/-! law: question, ties. -/
namespace K26
open PySem PySem.Spec PyProof.Rows L2
open Ky C8
section
variable {P : Program} {w : World} {K : PySem.W.Frag} {mg : Str → Option Value} {base : Heap} {CS CQ f : Addr} {fd : FuncData}
theorem PotAt.lt {H H' : Hp} {p : Addr} (h : PotAt H p) (e : Ex1 p H H') : Lt H H' := fun a xs r => by
  obtain ⟨_, _, hp, _⟩ := h
  have ap : a ≠ p := fun z => by
    rw [z] at r
    rcases r with r | ⟨o, r⟩
    · rw [hp] at r; cases r
    · rw [hp] at r; cases r
  exact r.imp (fun z => e _ _ ap z) fun ⟨o, z⟩ => ⟨o, e _ _ ap z⟩
theorem sqt_lt {H H' : Hp} {a : Addr} {xs : List V} (e : Lt H H') (h : SqT K H a xs) : SqT K H' a xs := h.elim (fun z => .inl (e _ _ z)) .inr
theorem PotAt.ne {H : Hp} {p q : Addr} (h : PotAt H p) (n : H q = none) : q ≠ p := fun z => by
  obtain ⟨_, _, hp, _⟩ := h
  rw [z, hp] at n
  cases n
theorem Ex1.mut {H H' : Hp} {p q : Addr} {o : HO} (e : Ex1 p H H') (h : H q = none) : Ex1 p H (upd H' q o) := fun y u hy hu => by
  have : y ≠ q := ne_of_none hu h
  exact (upd_ne this).trans (e y u hy hu)
theorem Ex1.back {H H' : Hp} {p q : Addr} (e : Ex1 p H H') (hq : q ≠ p) (h : H' q = none) : H q = none := by
  cases c : H q with
  | none => rfl
  | some o =>
    rw [e q o hq c] at h
    cases h
theorem PotAt.upd {H : Hp} {p q : Addr} {o : HO} (h : PotAt H p) (n : q ≠ p) : PotAt (upd H q o) p := by
  obtain ⟨a, b, h1, h2⟩ := h
  exact ⟨a, b, (upd_ne (Ne.symm n)).trans h1, h2⟩
/-- a drawn question, apart from the pot p -/
def DrawnAt (K : PySem.W.Frag) (H : Hp) (p : Addr) (v : V) (n : Nat) (S : List Stp) (E : List Nat) : Prop := ∃ T ls le xs, v = .ref T ∧ SqT K H T [.int (n : Int), .ref ls, .ref le] ∧ H ls = some (.lst xs) ∧ DpAll K H xs (S.map dat) ∧ H le = some (.lst (nats E)) ∧ ls ≠ p ∧ le ≠ p ∧ QIn n S E
theorem DrawnAt.x1 {H H' : Hp} {p : Addr} {v : V} {n : Nat} {S : List Stp} {E : List Nat} (d : DrawnAt K H p v n S E) (h : PotAt H p) (e : Ex1 p H H') : DrawnAt K H' p v n S E := by
  obtain ⟨T, ls, le, xs, h1, h2, h3, h4, h5, h6, h7, h8⟩ := d
  exact ⟨T, ls, le, xs, h1, sqt_lt (h.lt e) h2, e _ _ h6 h3, dats_lt (h.lt e) h4, e _ _ h7 h5, h6, h7, h8⟩
theorem sc_law_question : FnScope ["_law_pot_here", "_law_most", "_law_signs", "_law_turn", "_law_many", "_law_steps", "_law_step", "_law_standing"] ["_law_pot_here", "_law_most"] (defScope y_law_question) := ⟨rfl, rfl, rfl, by decide +kernel, rfl, by decide +kernel, by decide +kernel⟩
def sp_law_question (K : PySem.W.Frag) : Sp := fun vs H Q _ => ∃ p : Addr, vs = [.ref p, .int 3] ∧ PotAt H p ∧ ∀ v n S E H', Ex1 p H H' → PotAt H' p → DrawnAt K H' p v n S E → Q v H'
theorem c_law_question (T : Tx K mg CS CQ) (F : Fx K mg "_law_question" y_law_question ["_law_pot_here", "_law_most"] f fd) (c_law_draw : Cal P w K mg base 1 "_law_draw" sp_law_draw []) (c_law_pick : Cal P w K mg base 2 "_law_pick" sp_law_pick []) : Cal P w K mg base 3 "_law_question" (sp_law_question K) [] := by
  refine F.cal sc_law_question (fun vs H Q E h => ?_) (fun cdv A outer s H vs Q E hr h => ?_)
  · obtain ⟨p, rfl, _⟩ := h
    rfl
  obtain ⟨p, rfl, hp, k⟩ := h
  have hu := hu100 hr
  refine ⟨_, (pss_cons (ps_par (i := 4) (j := 5) (by rfl) sc_law_question.nd rfl rfl (by decide) rfl rfl (pa_cons (pe_op (op_add) pe_int (pe_c c_law_draw hr (by decide) (by rfl) (pa_cons (pv 0) (pa_cons (pv 1) pa_nil)))) (pa_cons (pe_lst pa_nil) pa_nil)) (by rfl))
    (pss_cons (pset 2 sc_law_question.nd (pe_c c_law_pick hr (by decide) (by rfl) (pa_cons (pv 0) (pa_cons (pe_lst (pa_cons pe_str (pa_cons pe_str (pa_cons pe_str (pa_cons pe_str pa_nil))))) pa_nil))))
    (pss_cons (ps_for PassesOwn.never rfl (pi_range1 (by rfl) T.range (pa_cons (pe_c c_law_draw hr (by decide) (by rfl) (pa_cons (pv 0) (pa_cons (pe_op (op_add) (pe_op (op_mul) pe_int (pv 4)) pe_int) pa_nil))) pa_nil)) (pn 3 sc_law_question.nd) (pss_cons (pset 6 sc_law_question.nd (pe_tup (pa_cons (pe_c c_law_draw hr (by decide) (by rfl) (pa_cons (pv 0) (pa_cons (pv 4) pa_nil))) (pa_cons (pe_c c_law_pick hr (by decide) (by rfl) (pa_cons (pv 0) (pa_cons (pv 2) pa_nil))) (pa_cons (pe_c c_law_draw hr (by decide) (by rfl) (pa_cons (pv 0) (pa_cons (pv 4) pa_nil))) pa_nil)))))
    (pss_one (ps_if (pt_cmpR (k_nin (α := Stp) (O := ⟨P, w, K⟩) hu rfl) (pv 6) (pv 5) (by rfl)) (pss_one (ps_expr (pe_bm PySem.F.plainAttrs_list PySem.F.slot_list_append PySem.F.type_list_append mt_append (pv 5) (pa_cons (pv 6) pa_nil)))) pss_nil))))
    (pss_one (ps_ret (pe_tup (pa_cons (pv 4) (pa_cons (pv 5) (pa_cons (pe_lc (own := [("_law_standing", 7)]) rfl sc_law_question.nd ((pi_range1 (by rfl) T.range (pa_cons (pv 4) pa_nil))) (blkOk_by (by kernel_rfl)) (fun _ _ _ _ _ => (pn 7 sc_law_question.nd)) (fun _ _ _ _ _ => (pts_one (pt_cmpR (op_eq) (pe_c c_law_draw hr (by decide) (by rfl) (pa_cons (pv 0) (pa_cons pe_int pa_nil))) pe_int (by rfl)))) (fun _ _ _ _ _ => (pv 7))) pa_nil))))))))), ?_⟩
  refine ⟨_, rfl, _, rfl, p, 3, rfl, hp, by decide, by decide, fun r H1 hr3 e1 hp1 => ⟨_, _, rfl, rfl, Nat.zero_le _, fun ls hls => ⟨_, _, rfl, ?_⟩⟩⟩
  obtain ⟨n, en⟩ : ∃ n, n = 1 + r := ⟨_, rfl⟩
  have n1 : 1 ≤ n := by omega
  have n3 : n ≤ 3 := by omega
  have lsp := hp1.ne hls
  have lsn := e1.back lsp hls
  have e2 : Ex1 p H (upd H1 ls (.lst [])) := e1.mut lsn
  have hp2 : PotAt (upd H1 ls (.lst [])) p := hp1.upd lsp
  have hls2 : (upd H1 ls (.lst [])) ls = some (.lst []) := upd_same
  show (fun (H2 : Hp) => _) (upd H1 ls (.lst []))
  generalize upd H1 ls (.lst []) = H2 at e2 hp2 hls2
  refine ⟨_, rfl, by show 4 ≤ sizeLine; decide, fun pk hpk => ⟨p, hp2.ex (Ex.new hpk), .inl ⟨pk, _, rfl, hp2.ne hpk, upd_same, by decide, by decide, fun v H3 hv e3 hp3 => ?_⟩⟩⟩
  have hw : ∃ u : List Sg, v = .str (wdS u) ∧ 0 < u.length ∧ u.length < 1000 := by
    rcases List.mem_cons.mp hv with h | hv
    · exact ⟨[.a, .A], h, by decide, by decide⟩
    rcases List.mem_cons.mp hv with h | hv
    · exact ⟨[.a, .b, .A, .B], h, by decide, by decide⟩
    rcases List.mem_cons.mp hv with h | hv
    · exact ⟨[.a, .b], h, by decide, by decide⟩
    rcases List.mem_cons.mp hv with h | hv
    · exact ⟨[.a, .A, .b], h, by decide, by decide⟩
    cases hv
  obtain ⟨u, rfl, u1, u2⟩ := hw
  have e23 : Ex1 p H2 H3 := (Ex.new hpk).x1.trans e3
  have e03 := e2.trans e23
  have hls3 := e23 _ _ lsp hls2
  refine ⟨_, rfl, _, rfl, _, _, rfl, rfl, .inl ⟨by decide, by decide⟩, _, _, rfl, rfl, p, 2 * n + 2, (by rw [en]; rfl), hp3, by omega, by omega, fun m H4 hm e4 hp4 => ⟨(m : Int), rfl, by omega, by omega, ?_⟩⟩
  refine for_tw (tw_range (K := K) (n := m)) (fun i σ' H' => ∃ (b3 b6 b7 : Option V) (S : List Stp) (xs : List V), σ' = [some (.ref p), some (.int 3), some (.str (wdS u)), b3, some (.int (n : Int)), some (.ref ls), b6, b7] ∧ Ex1 p H H' ∧ PotAt H' p ∧ H' ls = some (.lst xs) ∧ DpAll K H' xs (S.map dat) ∧ S.Nodup ∧ S.length ≤ i ∧ ∀ t ∈ S, t.x < n ∧ t.z < n)
    ⟨none, none, none, [], [], (by rw [en]; rfl), e03.trans e4, hp4, e4 _ _ lsp hls3, .nil, List.nodup_nil, Nat.le_refl _, by simp⟩ (fun _ _ _ _ _ => trivial) ?_ ?_
  · rintro i x xv σ' H5 H6 hi ⟨_, _, _, S, xs, rfl, e5, hp5, hl5, hd5, nd, len, bd⟩ e56 hxv
    have hxv := dp_nat hxv
    subst hxv
    have hp6 := hp5.ex e56
    have hl6 := e56 _ _ hl5
    have hd6 := hd5.ex e56
    have e6 := e5.trans e56.x1
    refine ⟨_, rfl, _, rfl, p, n, rfl, hp6, by omega, by omega, fun r1 Ha hr1 ea hpa => ⟨_, rfl, _, rfl, p, hpa, .inr ⟨u, rfl, u1, u2, fun s Hb hs eb hpb => ⟨_, rfl, _, rfl, p, n, rfl, hpb, by omega, by omega, fun r2 Hc hr2 ec hpc => ⟨by show 3 ≤ sizeLine; decide, fun T1 hT1 => ?_⟩⟩⟩⟩⟩
    have e6c := (ea.trans eb).trans ec
    have l6c := hp6.lt e6c
    have Tp := hpc.ne hT1
    have lcd : Lt Hc (upd Hc T1 (.tup [.int (r1 : Int), .str (sgS s), .int (r2 : Int)])) := (Ex.new hT1).lt
    have hl7 : (upd Hc T1 (.tup [.int (r1 : Int), .str (sgS s), .int (r2 : Int)])) ls = some (.lst xs) := (Ex.new hT1) _ _ (e6c _ _ lsp hl6)
    have hd7 := dats_lt (l6c.trans lcd) hd6
    have dT : Dp K (upd Hc T1 (.tup [.int (r1 : Int), .str (sgS s), .int (r2 : Int)])) (.ref T1) (dat (⟨r1, s, r2⟩ : Stp)) := t3_dp sqt_new (nat_dp _) (sg_dp _) (nat_dp _)
    have e7 := (e6.trans e6c).trans (Ex.new (o := .tup [.int (r1 : Int), .str (sgS s), .int (r2 : Int)]) hT1).x1
    have hp7 := hpc.ex (Ex.new (o := .tup [.int (r1 : Int), .str (sgS s), .int (r2 : Int)]) hT1)
    show (fun H7 => _) (upd Hc T1 (.tup [.int (r1 : Int), .str (sgS s), .int (r2 : Int)]))
    generalize upd Hc T1 (.tup [.int (r1 : Int), .str (sgS s), .int (r2 : Int)]) = H7 at hl7 hd7 dT e7 hp7
    have lx : xs.length = S.length := by rw [dpAll_len hd7, List.length_map]
    have im : i < m := by
      have := (List.getElem?_eq_some_iff.mp hi).1
      rwa [List.length_range] at this
    refine ⟨_, rfl, _, rfl, S, ⟨r1, s, r2⟩, dT, .inr (.lst (SqL.of hl7) hd7), _, rfl, ?_⟩
    by_cases hm' : (⟨r1, s, r2⟩ : Stp) ∈ S
    · exact dNP hm' ⟨_, _, _, S, xs, rfl, e7, hp7, hl7, hd7, nd, by omega, bd⟩
    · refine dNN hm' ⟨_, rfl, .inl ⟨rfl, _, SqL.of hl7⟩, _, rfl, ls, xs, _, rfl, rfl, hl7, by rw [sizeLine_eq]; omega, ?_⟩
      have lt8 : Lt H7 (upd H7 ls (.lst (xs ++ [.ref T1]))) := Lt.mut (noT_lst hl7)
      refine ⟨_, _, _, S ++ [⟨r1, s, r2⟩], xs ++ [.ref T1], rfl, e7.mut lsn, hp7.upd lsp, upd_same, ?_, ?_, by simp; omega, ?_⟩
      · rw [List.map_append]
        exact dpAll_snoc (dats_lt lt8 hd7) (dat_lt lt8 dT)
      · rw [List.nodup_append]
        exact ⟨nd, by simp, fun a ha b hb e => by rw [List.mem_singleton] at hb; rw [hb] at e; rw [e] at ha; exact hm' ha⟩
      · intro t ht
        rcases List.mem_append.mp ht with ht | ht
        · exact bd t ht
        · rw [List.mem_singleton.mp ht]
          exact ⟨hr1, hr2⟩
  · rintro σ' H5 ⟨_, _, _, S, xs, rfl, e5, hp5, hl5, hd5, nd, len, bd⟩
    rw [List.length_range] at len
    refine ⟨_, rfl, _, rfl, _, rfl, (n : Int), rfl, by omega, by omega, fun le hle => ?_⟩
    have lep := hp5.ne hle
    have len' := e5.back lep hle
    refine lc_it walk_range (fun i H' => Ex1 p H5 H' ∧ PotAt H' p ∧ ∃ E : List Nat, H' le = some (.lst (nats E)) ∧ E.Pairwise (· < ·) ∧ ∀ e ∈ E, e < i) ⟨(Ex.new hle).x1, hp5.upd lep, [], upd_same, List.Pairwise.nil, by simp⟩ (fun _ _ _ _ => trivial) ?_ ?_
    · rintro i v3 H6 _ hi ⟨e6, hp6, E2, hE, asc, bE⟩ ⟨rfl, rfl⟩
      have hi : i < n := hi
      refine ⟨rfl, _, rfl, p, 2, rfl, hp6, by decide, by decide, fun r1 H7 hr1 e7 hp7 => ⟨rfl, _, rfl, ?_⟩⟩
      have hE7 := e7 _ _ lep hE
      have e67 := e6.trans e7
      by_cases hc : V.int (r1 : Int) = V.int 0
      · have lE : E2.length ≤ i := le_of_bound (lt_nodup asc) bE
        refine dP hc ⟨_, rfl, nats E2, hE7, by rw [List.length_map, sizeLine_eq]; omega, e67.mut hle, hp7.upd lep, E2 ++ [i], ?_, ?_, ?_⟩
        · rw [upd_same]
          show some (HO.lst (nats E2 ++ [V.int (0 + (i : Int))])) = _
          rw [Int.zero_add]
          simp [nats]
        · rw [List.pairwise_append]
          exact ⟨asc, by simp, fun a ha b hb => by rw [List.mem_singleton] at hb; rw [hb]; exact bE a ha⟩
        · intro e he
          rcases List.mem_append.mp he with he | he
          · have := bE e he
            omega
          · rw [List.mem_singleton.mp he]
            omega
      · exact dN hc ⟨e67, hp7, E2, hE7, asc, fun e he => by have := bE e he; omega⟩
    · rintro H6 ⟨e6, hp6, E2, hE, asc, bE⟩
      have bE : ∀ e ∈ E2, e < n := fun e he => by
        have := bE e he
        simpa using this
      refine ⟨by show 3 ≤ sizeLine; decide, fun T9 hT9 => ?_⟩
      have e69 := Ex.new (o := .tup [V.int (n : Int), .ref ls, .ref le]) hT9
      refine k _ n S E2 _ ((e5.trans e6).trans e69.x1) (hp6.ex e69) ⟨T9, ls, le, xs, rfl, sqt_new, e69 _ _ (e6 _ _ lsp hl5), dats_lt ((hp5.lt e6).trans e69.lt) hd5, e69 _ _ hE, lsp, lep, ⟨n1, n3, by omega, nd, bd, lt_nodup asc, bE⟩⟩
theorem sc_law_ties : FnScope ["_law_pot_here", "_law_nodes", "_law_letters", "_law_most", "_law_found", "_law_turn", "_law_tie"] ["_law_pot_here", "_law_nodes", "_law_letters", "_law_most"] (defScope y_law_ties) := ⟨rfl, rfl, rfl, by decide +kernel, rfl, by decide +kernel, by decide +kernel⟩
def sp_law_ties (K : PySem.W.Frag) : Sp := fun vs H Q _ => ∃ (p : Addr) (n : Nat), vs = [.ref p, .int (n : Int), .str "ab", .int 8] ∧ PotAt H p ∧ 1 ≤ n ∧ n ≤ 5 ∧ ∀ l xs (L : List Stp) H', Ex1 p H H' → PotAt H' p → H' l = some (.lst xs) → l ≠ p → DpAll K H' xs (L.map dat) → L.Nodup → L.length ≤ 8 → (∀ t ∈ L, t.x < n ∧ t.z < n ∧ t.y.low = true) → Q (.ref l) H'
theorem c_law_ties (T : Tx K mg CS CQ) (F : Fx K mg "_law_ties" y_law_ties ["_law_pot_here", "_law_nodes", "_law_letters", "_law_most"] f fd) (c_law_draw : Cal P w K mg base 1 "_law_draw" sp_law_draw []) (c_law_pick : Cal P w K mg base 2 "_law_pick" sp_law_pick []) : Cal P w K mg base 3 "_law_ties" (sp_law_ties K) [] := by
  refine F.cal sc_law_ties (fun vs H Q E h => ?_) (fun cdv A outer s H vs Q E hr h => ?_)
  · obtain ⟨p, n, rfl, _⟩ := h
    rfl
  obtain ⟨p, n, rfl, hp, n1, n5, k⟩ := h
  have hu := hu100 hr
  refine ⟨_, (pss_cons (pset 4 sc_law_ties.nd (pe_lst pa_nil))
    (pss_cons (ps_for PassesOwn.never rfl (pi_range1 (by rfl) T.range (pa_cons (pe_c c_law_draw hr (by decide) (by rfl) (pa_cons (pv 0) (pa_cons (pe_op (op_add) (pv 3) pe_int) pa_nil))) pa_nil)) (pn 5 sc_law_ties.nd) (pss_cons (pset 6 sc_law_ties.nd (pe_tup (pa_cons (pe_c c_law_draw hr (by decide) (by rfl) (pa_cons (pv 0) (pa_cons (pv 1) pa_nil))) (pa_cons (pe_c c_law_pick hr (by decide) (by rfl) (pa_cons (pv 0) (pa_cons (pv 2) pa_nil))) (pa_cons (pe_c c_law_draw hr (by decide) (by rfl) (pa_cons (pv 0) (pa_cons (pv 1) pa_nil))) pa_nil)))))
    (pss_one (ps_if (pt_cmpR (k_nin (α := Stp) (O := ⟨P, w, K⟩) hu rfl) (pv 6) (pv 4) (by rfl)) (pss_one (ps_expr (pe_bm PySem.F.plainAttrs_list PySem.F.slot_list_append PySem.F.type_list_append mt_append (pv 4) (pa_cons (pv 6) pa_nil)))) pss_nil))))
    (pss_one (ps_ret (pv 4))))), ?_⟩
  refine ⟨Nat.zero_le _, fun ls hls => ?_⟩
  have lsp := hp.ne hls
  refine ⟨_, rfl, _, rfl, _, _, rfl, rfl, p, 9, rfl, hp.upd lsp, by decide, by decide, fun m H4 hm e4 hp4 => ⟨(m : Int), rfl, by omega, by omega, ?_⟩⟩
  refine for_tw (tw_range (K := K) (n := m)) (fun i σ' H' => ∃ (b5 b6 : Option V) (S : List Stp) (xs : List V), σ' = [some (.ref p), some (.int (n : Int)), some (.str "ab"), some (.int 8), some (.ref ls), b5, b6] ∧ Ex1 p H H' ∧ PotAt H' p ∧ H' ls = some (.lst xs) ∧ DpAll K H' xs (S.map dat) ∧ S.Nodup ∧ S.length ≤ i ∧ ∀ t ∈ S, t.x < n ∧ t.z < n ∧ t.y.low = true)
    ⟨_, _, [], [], rfl, (Ex.new hls).x1.trans e4, hp4, e4 _ _ lsp upd_same, .nil, List.nodup_nil, Nat.le_refl _, by simp⟩ (fun _ _ _ _ _ => trivial) ?_ ?_
  · rintro i x xv σ' H5 H6 hi ⟨_, _, S, xs, rfl, e5, hp5, hl5, hd5, nd, len, bd⟩ e56 hxv
    have hxv := dp_nat hxv
    subst hxv
    have hp6 := hp5.ex e56
    have hl6 := e56 _ _ hl5
    have hd6 := hd5.ex e56
    have e6 := e5.trans e56.x1
    refine ⟨_, rfl, _, rfl, p, n, rfl, hp6, by omega, by omega, fun r1 Ha hr1 ea hpa => ⟨_, rfl, _, rfl, p, hpa, .inr ⟨[.a, .b], rfl, by decide, by decide, fun s Hb hs eb hpb => ⟨_, rfl, _, rfl, p, n, rfl, hpb, by omega, by omega, fun r2 Hc hr2 ec hpc => ⟨by show 3 ≤ sizeLine; decide, fun T1 hT1 => ?_⟩⟩⟩⟩⟩
    have slow : s.low = true := by
      rcases List.mem_cons.mp hs with h | hs
      · rw [h]; rfl
      · rw [List.mem_singleton.mp hs]; rfl
    have e6c := (ea.trans eb).trans ec
    have l6c := hp6.lt e6c
    have lcd : Lt Hc (upd Hc T1 (.tup [.int (r1 : Int), .str (sgS s), .int (r2 : Int)])) := (Ex.new hT1).lt
    have hl7 : (upd Hc T1 (.tup [.int (r1 : Int), .str (sgS s), .int (r2 : Int)])) ls = some (.lst xs) := (Ex.new hT1) _ _ (e6c _ _ lsp hl6)
    have hd7 := dats_lt (l6c.trans lcd) hd6
    have dT : Dp K (upd Hc T1 (.tup [.int (r1 : Int), .str (sgS s), .int (r2 : Int)])) (.ref T1) (dat (⟨r1, s, r2⟩ : Stp)) := t3_dp sqt_new (nat_dp _) (sg_dp _) (nat_dp _)
    have e7 := (e6.trans e6c).trans (Ex.new (o := .tup [.int (r1 : Int), .str (sgS s), .int (r2 : Int)]) hT1).x1
    have hp7 := hpc.ex (Ex.new (o := .tup [.int (r1 : Int), .str (sgS s), .int (r2 : Int)]) hT1)
    show (fun H7 => _) (upd Hc T1 (.tup [.int (r1 : Int), .str (sgS s), .int (r2 : Int)]))
    generalize upd Hc T1 (.tup [.int (r1 : Int), .str (sgS s), .int (r2 : Int)]) = H7 at hl7 hd7 dT e7 hp7
    have lx : xs.length = S.length := by rw [dpAll_len hd7, List.length_map]
    have im : i < m := by
      have := (List.getElem?_eq_some_iff.mp hi).1
      rwa [List.length_range] at this
    refine ⟨_, rfl, _, rfl, S, ⟨r1, s, r2⟩, dT, .inr (.lst (SqL.of hl7) hd7), _, rfl, ?_⟩
    by_cases hm' : (⟨r1, s, r2⟩ : Stp) ∈ S
    · exact dNP hm' ⟨_, _, S, xs, rfl, e7, hp7, hl7, hd7, nd, by omega, bd⟩
    · refine dNN hm' ⟨_, rfl, .inl ⟨rfl, _, SqL.of hl7⟩, _, rfl, ls, xs, _, rfl, rfl, hl7, by rw [sizeLine_eq]; omega, ?_⟩
      have lt8 : Lt H7 (upd H7 ls (.lst (xs ++ [.ref T1]))) := Lt.mut (noT_lst hl7)
      refine ⟨_, _, S ++ [⟨r1, s, r2⟩], xs ++ [.ref T1], rfl, e7.mut hls, hp7.upd lsp, upd_same, ?_, ?_, by simp; omega, ?_⟩
      · rw [List.map_append]
        exact dpAll_snoc (dats_lt lt8 hd7) (dat_lt lt8 dT)
      · rw [List.nodup_append]
        exact ⟨nd, by simp, fun a ha b hb e => by rw [List.mem_singleton] at hb; rw [hb] at e; rw [e] at ha; exact hm' ha⟩
      · intro t ht
        rcases List.mem_append.mp ht with ht | ht
        · exact bd t ht
        · rw [List.mem_singleton.mp ht]
          exact ⟨hr1, hr2, slow⟩
  · rintro σ' H5 ⟨_, _, S, xs, rfl, e5, hp5, hl5, hd5, nd, len, bd⟩
    rw [List.length_range] at len
    exact ⟨_, rfl, k ls xs S H5 e5 hp5 hl5 lsp hd5 nd (by omega) bd⟩
end
end K26

set_option Elab.async false
set_option linter.all false
set_option maxRecDepth 100000
set_option maxHeartbeats 4000000
/-! A list is hidden while a def runs: the def neither reads nor writes it. -/
namespace K26
open PySem PySem.Spec PyProof.Rows L2
open Ky C8
/-- the promise, a list at p hidden -/
def hid (sp : Sp) : Sp := fun vs H Q E => ∃ (p : Addr) (xs : List V), H p = some (.lst xs) ∧ ∀ o, sp vs (upd H p (.frz o (.own p))) (fun v H' => H' p = some (.frz o (.own p)) ∧ Q v (upd H' p (.lst xs))) E
section
variable {P : Program} {w : World} {K : PySem.W.Frag} {mg : Str → Option Value} {base : Heap} {k : Nat} {sp : Sp}
theorem fn_hid {f : Addr} {fd : FuncData} {ps : List Str} (F : FnOk P w K mg base C8.CX0 k f fd ps sp) : FnOk P w K mg base C8.CX0 k f fd ps (hid sp) := by
  refine ⟨fun vs H Q E ⟨p, xs, hp, h⟩ => F.len vs _ _ E (h default), fun A outer s H args us vs Q E hr he hb hv hs => ?_⟩
  obtain ⟨p, xs, hp, h⟩ := hs
  obtain ⟨z, its, n, rv, hg⟩ := he.hok p _ hp
  have np : ∀ b, H b = none → b ≠ p := fun b e y => by rw [y, hp] at e; cases e
  have nn : ∀ b, H b = none → (upd H p (.frz { cls := .type "list", data := .seq its.toArray n } (.own p))) b = none := fun b e => (upd_ne (np b e)).trans e
  have hok1 : HOk P w (upd H p (.frz { cls := .type "list", data := .seq its.toArray n } (.own p))) s.heap := fun b u e => by
    by_cases hb' : b = p
    · subst hb'
      rw [upd_same] at e
      cases e
      exact ⟨hg, _, hg⟩
    · rw [upd_ne hb'] at e
      refine (he.hok b u e).stay (fun c v _ q => q) (fun c q => ?_) fun c ys q => ?_
      · rw [upd_ne (fun y => by rw [y, hp] at q; cases q)]; exact q
      · rw [upd_ne (fun y => by rw [y, hp] at q; cases q)]; exact q
  have he1 : Env0 P w K mg base A outer s (upd H p (.frz { cls := .type "list", data := .seq its.toArray n } (.own p))) := ⟨he.frames, he.mod, fun b o e => ⟨(he.bs b o e).1, nn b (he.bs b o e).2⟩, he.bsz, he.funs, fun b hb' => nn b (he.frf b hb'), hok1, he.bare⟩
  have r := F.run A outer s _ args us vs _ E hr he1 hb hv (h { cls := .type "list", data := .seq its.toArray n })
  refine codeAny_mono r fun res s' q => ?_
  cases res with
  | error e => exact q
  | ok v =>
    cases v with
    | ret u =>
      obtain ⟨v, H2, h1, h2, un, hok2, rv2, hp2, qq⟩ := q
      have n2 : ∀ b ob, b ≠ p → H2 b = some ob → (upd H2 p (.lst xs)) b = some ob := fun b ob hb' e => (upd_ne hb').trans e
      refine ⟨v, upd H2 p (.lst xs), h1, h2, ⟨fun b o q1 n1 => un.keep b o q1 (nn b n1), fun b o q1 n1 => un.slot b o q1 (nn b n1), fun b o q1 n1 hx => (upd_ne (np b n1)).trans (un.free b o q1 (nn b n1) hx), un.there, fun b ys e => ?_, fun b o u e => ?_, fun b ps e => ?_⟩, fun b ob e => ?_, rv2, qq⟩
      · have hb' : b ≠ p := fun y => by rw [y, hp] at e; cases e
        exact n2 b _ hb' (un.tups b ys ((upd_ne hb').trans e))
      · have hb' : b ≠ p := fun y => by rw [y, hp] at e; cases e
        exact n2 b _ hb' (un.frzs b o u ((upd_ne hb').trans e))
      · have hb' : b ≠ p := fun y => by rw [y, hp] at e; cases e
        obtain ⟨m, e2⟩ := un.tbls b ps ((upd_ne hb').trans e)
        exact ⟨m, n2 b _ hb' e2⟩
      · by_cases hb' : b = p
        · subst hb'
          rw [upd_same] at e
          cases e
          obtain ⟨g2, _⟩ := hok2 b _ hp2
          exact ⟨z, its, n, rv, g2⟩
        · rw [upd_ne hb'] at e
          refine (hok2 b ob e).stay (fun c v _ q => q) (fun c q => ?_) fun c ys q => ?_
          · exact n2 c _ (fun y => by rw [y, hp2] at q; cases q) q
          · exact n2 c _ (fun y => by rw [y, hp2] at q; cases q) q
    | _ => exact q.elim
theorem cal_hid {x : Str} {dvs : List V} (c : Cal P w K mg base k x sp dvs) : Cal P w K mg base k x (hid sp) dvs := by
  obtain ⟨f, fd, ps, ds, F, r⟩ := c
  exact ⟨f, fd, ps, ds, fn_hid F, r⟩
theorem calAt_hid {f : Addr} (c : CalAt P w K mg base k f sp) : CalAt P w K mg base k f (hid sp) := by
  obtain ⟨fd, ps, F, r⟩ := c
  exact ⟨fd, ps, fn_hid F, r⟩
theorem met_hid {C : Addr} {m : Str} {dvs : List V} (c : Met P w K mg base k C m sp dvs) : Met P w K mg base k C m (hid sp) dvs := by
  obtain ⟨f, fd, ps, ds, a, b, F, r⟩ := c
  exact ⟨f, fd, ps, ds, a, b, fn_hid F, r⟩
theorem mak_hid {x : Str} {C : Addr} {dvs : List V} (c : Mak P w K mg base k x C sp dvs) : Mak P w K mg base k x C (hid sp) dvs := by
  obtain ⟨f, fd, ps, ds, a, F, r⟩ := c
  exact ⟨f, fd, ps, ds, a, fn_hid F, r⟩
/-! ### stores apart from p -/
theorem rd_hid {H H' : Hp} {p : Addr} {o : Obj} (h : H p = some (.frz o (.own p))) (e : Ex1 p H H') {a : Addr} {u : HO} (n1 : u ≠ .own p) (n2 : u ≠ .frz o (.own p)) (r : Rd H a u) : Rd H' a u := by
  have ap : a ≠ p := fun z => by
    rw [z] at r
    rcases r with r | ⟨o', r⟩
    · rw [h] at r
      cases r
      exact n2 rfl
    · rw [h] at r
      cases r
      exact n1 rfl
  exact r.imp (fun z => e a _ ap z) fun ⟨o', z⟩ => ⟨o', e a _ ap z⟩
theorem ld_hid {H H' : Hp} {p : Addr} {o : Obj} (h : H p = some (.frz o (.own p))) (e : Ex1 p H H') : Ld H H' :=
  ⟨fun _ _ r => rd_hid h e (fun z => nomatch z) (fun z => nomatch z) r, fun _ _ r => rd_hid h e (fun z => nomatch z) (fun z => nomatch z) r⟩
theorem at_hid {H H' : Hp} {p : Addr} {o : Obj} (h : H p = some (.frz o (.own p))) (e : Ex1 p H H') {a : Addr} {u : HO} (n : u ≠ .frz o (.own p)) (r : H a = some u) : H' a = some u := by
  refine e a _ (fun z => ?_) r
  rw [z, h] at r
  cases r
  exact n rfl
theorem sat_hid {CS : Addr} {H H' : Hp} {p : Addr} {o : Obj} {v : V} {S : Sto} (h : H p = some (.frz o (.own p))) (e : Ex1 p H H') (s : SAt P w K CS H v S) : SAt P w K CS H' v S := by
  obtain ⟨a, dx, d, ts, g, rfl, h1, h2, h3, h4, ⟨ga, kvs, rfl, g1, g2⟩, h6⟩ := s
  refine ⟨a, dx, d, ts, .ref ga, rfl, at_hid h e (fun z => nomatch z) h1, at_hid h e (fun z => nomatch z) h2, h3.ld (ld_hid h e), h4, ⟨ga, kvs, rfl, rd_hid h e (fun z => nomatch z) (fun z => nomatch z) g1, fun s hs => ?_⟩, h6⟩
  obtain ⟨vl, a1, b1⟩ := g2 s hs
  exact ⟨vl, a1, dp_ld (ld_hid h e) b1⟩
/-- a store stands at v, nothing of it at p -/
def SOff (P : Program) (w : World) (K : PySem.W.Frag) (CS p : Addr) (H : Hp) (v : V) (S : Sto) : Prop := ∃ o, SAt P w K CS (upd H p (.frz o (.own p))) v S
theorem SOff.sat {CS p : Addr} {H : Hp} {v : V} {S : Sto} (s : SOff P w K CS p H v S) : SAt P w K CS H v S := by
  obtain ⟨o, s⟩ := s
  refine sat_hid (p := p) (o := o) upd_same (fun y u hy h => ?_) s
  rw [upd_ne hy] at h
  exact h
theorem SOff.x1 {CS p : Addr} {H H' : Hp} {v : V} {S : Sto} (s : SOff P w K CS p H v S) (e : Ex1 p H H') : SOff P w K CS p H' v S := by
  obtain ⟨o, s⟩ := s
  refine ⟨o, s.ex fun y u h => ?_⟩
  by_cases hy : y = p
  · subst hy
    rw [upd_same] at h ⊢
    exact h
  · rw [upd_ne hy] at h ⊢
    exact e y u hy h
theorem SOff.hid {CS p : Addr} {H : Hp} {v : V} {S : Sto} (s : SOff P w K CS p H v S) (o : Obj) : SAt P w K CS (upd H p (.frz o (.own p))) v S := by
  obtain ⟨o', s⟩ := s
  refine sat_hid (p := p) (o := o') upd_same (fun y u hy h => ?_) s
  rw [upd_ne hy] at h ⊢
  exact h
theorem soff_of {CS p : Addr} {H : Hp} {v : V} {S : Sto} {o : Obj} {u : HO} (h : H p = some (.frz o (.own p))) (s : SAt P w K CS H v S) : SOff P w K CS p (upd H p u) v S := by
  refine ⟨o, sat_hid h (fun y x hy e => ?_) s⟩
  rw [upd_ne hy, upd_ne hy]
  exact e
/-- what is told of a hidden run -/
theorem hid_ex1 {H H' : Hp} {p : Addr} {o : HO} {u : HO} (e : Ex (upd H p o) H') : Ex1 p H (upd H' p u) := fun y x hy h => (upd_ne hy).trans (e y x ((upd_ne hy).trans h))
theorem hid_ld {H : Hp} {p : Addr} {o : HO} {xs : List V} (h : H p = some (.lst xs)) : Lt H (upd H p o) := Lt.mut (noT_lst h)
end
end K26

set_option Elab.async false
set_option linter.all false
set_option maxRecDepth 100000
set_option maxHeartbeats 4000000
/-! law: stores. -/
namespace K26
open PySem PySem.Spec PyProof.Rows L2
open Ky C8
section
variable {P : Program} {w : World} {K : PySem.W.Frag} {mg : Str → Option Value} {base : Heap} {CS CQ f : Addr} {fd : FuncData}
theorem hid_of {sp : Sp} {vs : List V} {H : Hp} {Q : VK} {E : XK} {p : Addr} {xs : List V} {S : Sto} (hp : H p = some (.lst xs)) (h : ∀ o Q0, spMake P w K CS S (upd H p (.frz o (.own p))) Q0 → sp vs (upd H p (.frz o (.own p))) Q0 E)
    (q : ∀ v H', Ex1 p H H' → H' p = some (.lst xs) → SOff P w K CS p H' v S → Q v H') : hid sp vs H Q E :=
  ⟨p, xs, hp, fun o => h o _ fun v H' e hv => ⟨e _ _ upd_same, q v _ (hid_ex1 e) upd_same (soff_of (e _ _ upd_same) hv)⟩⟩
theorem hid_mk {n : Nat} {nv v : V} (hnv : nv = .int (n : Int)) {l : List Stp} {H : Hp} {W : Addr → VK} {p : Addr} {xs : List V} (hp : H p = some (.lst xs)) (ta : ∀ o, TiesAt K (upd H p (.frz o (.own p))) v l) (tok : TiesOk n l) (h1 : 1 ≤ n) (h2 : n ≤ 40)
    (q : ∀ x H', Ex1 p H H' → H' p = some (.lst xs) → SOff P w K CS p H' (.ref x) ⟨n, srt l⟩ → W x .non H') :
    ∀ x dx, H x = none → H dx = none → dx ≠ x → hid (sp_store_init P w K CS) [.ref x, nv, v] (upd (upd H dx (.own x)) x (.ins CS dx [])) (W x) C8.E0 := by
  intro x dx hx hdx hne
  subst hnv
  have px : p ≠ x := ne_of_none hp hx
  have pd : p ≠ dx := ne_of_none hp hdx
  have hp2 : (upd (upd H dx (.own x)) x (.ins CS dx [])) p = some (.lst xs) := by rw [upd_ne px, upd_ne pd]; exact hp
  refine ⟨p, xs, hp2, fun o => ⟨x, dx, n, v, l, rfl, (upd_ne (Ne.symm px)).trans upd_same, ?_, tok, h1, h2, fun H' e hs => ⟨e p _ px upd_same, q x _ (fun y u hy h => ?_) upd_same (soff_of (e p _ px upd_same) hs)⟩⟩⟩
  · have ex : Ex (upd H p (.frz o (.own p))) (upd (upd (upd H dx (.own x)) x (.ins CS dx [])) p (.frz o (.own p))) := fun y u h => by
      by_cases hy : y = p
      · subst hy
        rw [upd_same] at h ⊢
        exact h
      · rw [upd_ne hy] at h ⊢
        rw [upd_ne (ne_of_none h hx), upd_ne (ne_of_none h hdx)]
        exact h
    exact (ta o).imp (fun z => z.ex ex) (fun z => z.ex ex)
  · rw [upd_ne hy]
    refine e y u (ne_of_none h hx) ?_
    rw [upd_ne hy, upd_ne (ne_of_none h hx), upd_ne (ne_of_none h hdx)]
    exact h
theorem PotAt.lst {H : Hp} {p : Addr} (h : PotAt H p) : ∃ xs, H p = some (.lst xs) ∧ ∀ H', H' p = some (.lst xs) → PotAt H' p := by
  obtain ⟨a, b, h1, h2⟩ := h
  exact ⟨_, h1, fun H' h => ⟨a, b, h, h2⟩⟩
theorem joinL_nil : ∀ l : List (List Nat), TL.joinL [] l = l.flatten
  | [] => rfl
  | [p] => by simp [TL.joinL]
  | p :: q :: r => by
    rw [TL.joinL, joinL_nil (q :: r)]
    rfl
theorem join_signs (u : List Sg) : Txt.join (Str.ofString "") (u.map sgS) = wdS u := by
  have h : (Txt.join (Str.ofString "") (u.map sgS)).cps.toList = (wdS u).cps.toList := by
    rw [TL.join_eq]
    refine (TL.tl_join _ _).trans ?_
    rw [show TL.tl (Str.ofString "") = [] from rfl, joinL_nil, wdS_tl, List.map_map]
    induction u with
    | nil => rfl
    | cons s u ih =>
      rw [List.map_cons, List.flatten_cons, ih, List.map_cons]
      have : (TL.tl ∘ sgS) s = [sgC s] := by
        show (sgS s).cps.toList = _
        rw [sgS_C]
      rw [this]
      rfl
  have e : (Txt.join (Str.ofString "") (u.map sgS)).cps = (wdS u).cps := by
    rw [← Array.toArray_toList (xs := (Txt.join (Str.ofString "") (u.map sgS)).cps), h, Array.toArray_toList]
  exact congrArg Str.mk e
theorem sum_signs : ∀ u : List Sg, ((u.map sgS).map (·.length)).sum = u.length
  | [] => rfl
  | s :: u => by
    rw [List.map_cons, List.map_cons, List.sum_cons, sum_signs u, sg_len, List.length_cons, Nat.add_comm]
/-- the stores of the law stand at v -/
def StoresAt (P : Program) (w : World) (K : PySem.W.Frag) (CS p : Addr) (H : Hp) (v : V) : Prop := ∃ l vs Ss, v = .ref l ∧ l ≠ p ∧ H l = some (.lst vs) ∧ vs.length ≤ 10 ∧ Paired (fun (S : Sto) (x : V) => SOff P w K CS p H x S) Ss vs
theorem StoresAt.x1 {CS p : Addr} {H H' : Hp} {v : V} (s : StoresAt P w K CS p H v) (e : Ex1 p H H') : StoresAt P w K CS p H' v := by
  obtain ⟨l, vs, Ss, h1, h2, h3, h4, h5⟩ := s
  refine ⟨l, vs, Ss, h1, h2, e _ _ h2 h3, h4, ?_⟩
  clear h3 h4
  induction h5 with
  | nil => exact .nil
  | cons a _ ih => exact .cons (a.x1 e) ih
theorem sc_law_stores : FnScope ["_law_pot_here", "_law_nodes", "_law_store", "_law_found", "_law_tie", "_law_place"] ["_law_pot_here"] (defScope y_law_stores) := ⟨rfl, rfl, rfl, by decide +kernel, rfl, by decide +kernel, by decide +kernel⟩
def sp_law_stores (P : Program) (w : World) (K : PySem.W.Frag) (CS : Addr) : Sp := fun vs H Q _ => ∃ p : Addr, vs = [.ref p] ∧ PotAt H p ∧ ∀ v H', Ex1 p H H' → PotAt H' p → StoresAt P w K CS p H' v → Q v H'
theorem c_law_stores {rmc : Value} {rp rg : Addr} {dv : V} (T : Tx K mg CS CQ) (F : Fx K mg "_law_stores" y_law_stores ["_law_pot_here"] f fd) (hdv : ∀ H : Hp, TiesAt K H dv []) (rS : ClX.CRead K CS rmc) (sS : SMet K CS rmc "row" rp rg) (oA : OwnBin K CS (Operator.info .Add).2) (oB : OwnBin K CS (Operator.info .Sub).2)
    (c_law_draw : Cal P w K mg base 1 "_law_draw" sp_law_draw []) (c_law_pick : Cal P w K mg base 2 "_law_pick" sp_law_pick []) (c_law_ties : Cal P w K mg base 3 "_law_ties" (sp_law_ties K) []) (c_Store : Mak P w K mg base 5 "Store" CS (hid (sp_store_init P w K CS)) []) (c_Store1 : Mak P w K mg base 5 "Store" CS (hid (sp_store_init P w K CS)) [dv])
    (c_Store_inv : Met P w K mg base 7 CS "__invert__" (hid (sp_store_inv P w K CS)) []) (c_Store_beside : Met P w K mg base 8 CS "beside" (hid (sp_store_beside P w K CS)) []) (c_Store_row : CalAt P w K mg base 8 rg (hid (sp_store_row P w K CS)))
    (c_Store_add : Met P w K mg base 7 CS (PySem.dunder "add") (hid (sp_store_add P w K CS)) []) (c_Store_sub : Met P w K mg base 7 CS (PySem.dunder "sub") (hid (sp_store_sub P w K CS)) []) (c_row_of : Cal P w K mg base 8 "row_of" (hid (sp_row_of P w K CS)) []) : Cal P w K mg base 9 "_law_stores" (sp_law_stores P w K CS) [] := by
  refine F.cal sc_law_stores (fun vs H Q E h => ?_) (fun cdv A outer s H vs Q E hr h => ?_)
  · obtain ⟨p, rfl, _⟩ := h
    rfl
  obtain ⟨p, rfl, hp, k⟩ := h
  have hu := hu100 hr
  refine ⟨_, (pss_cons (pset 1 sc_law_stores.nd (pe_op (op_add) pe_int (pe_c c_law_draw hr (by decide) (by rfl) (pa_cons (pv 0) (pa_cons pe_int pa_nil)))))
    (pss_cons (pset 2 sc_law_stores.nd (pe_mk c_Store hr (by decide) (by rfl) (pa_cons (pv 1) (pa_cons (pe_c c_law_ties hr (by decide) (by rfl) (pa_cons (pv 0) (pa_cons (pv 1) (pa_cons pe_str (pa_cons pe_int pa_nil))))) pa_nil))))
    (pss_cons (pset 3 sc_law_stores.nd (pe_lst (pa_cons (pv 2) (pa_cons (pe_un (un_own c_Store_inv hr (by decide)) (pv 2)) (pa_cons (pe_mt c_Store_beside hr (by decide) (pv 2) (pa_cons (pe_smeth (gR (by rfl) T.store) rS sS c_Store_row hr (by decide) (pa_cons (pe_c c_law_pick hr (by decide) (by rfl) (pa_cons (pv 0) (pa_cons (pe_lst (pa_cons pe_str (pa_cons pe_str (pa_cons pe_str (pa_cons pe_str pa_nil))))) pa_nil))) pa_nil)) pa_nil)) (pa_cons (pe_mk c_Store1 hr (by decide) (by rfl) (pa_cons (pv 1) pa_nil)) pa_nil))))))
    (pss_cons (pset 4 sc_law_stores.nd (pe_tup (pa_cons (pe_c c_law_draw hr (by decide) (by rfl) (pa_cons (pv 0) (pa_cons (pv 1) pa_nil))) (pa_cons (pe_c c_law_pick hr (by decide) (by rfl) (pa_cons (pv 0) (pa_cons pe_str pa_nil))) (pa_cons (pe_c c_law_draw hr (by decide) (by rfl) (pa_cons (pv 0) (pa_cons (pv 1) pa_nil))) pa_nil)))))
    (pss_one (ps_ret (pe_op (op_cat) (pv 3) (pe_lst (pa_cons (pe_op (op_own (op := .Add) c_Store_add oA hr (by decide)) (pv 2) (pv 4)) (pa_cons (pe_op (op_own (op := .Sub) c_Store_sub oB hr (by decide)) (pv 2) (pv 4)) (pa_cons (pe_c c_row_of hr (by decide) (by rfl) (pa_cons (pe_join pe_str (pe_lc (own := [("_law_place", 5)]) rfl sc_law_stores.nd ((pi_range1 (by rfl) T.range (pa_cons pe_int pa_nil))) (blkOk_by (by kernel_rfl)) (fun _ _ _ _ _ => (pn 5 sc_law_stores.nd)) (fun _ _ _ _ _ => pts_nil) (fun _ _ _ _ _ => (pe_c c_law_pick hr (by decide) (by rfl) (pa_cons (pv 0) (pa_cons pe_str pa_nil)))))) pa_nil)) pa_nil))))))))))), ?_⟩
  refine ⟨_, rfl, p, 5, rfl, hp, by decide, by decide, fun r H1 hr5 e1 hp1 => ⟨_, _, rfl, rfl, ?_⟩⟩
  -- the first store
  refine ⟨_, rfl, _, rfl, _, rfl, p, 1 + r, rfl, hp1, by omega, by omega, fun ls xs L H2 e2 hp2 hl2 lsp hd2 nd2 len2 bd2 => ?_⟩
  obtain ⟨px, hpx, pb⟩ := hp2.lst
  refine hid_mk (n := 1 + r) (by rfl) hpx (fun o => .inl (.lst (SqL.of ((upd_ne lsp).trans hl2)) (dats_lt (Lt.mut (noT_lst hpx)) hd2))) ⟨nd2, by omega, bd2⟩ (by omega) (by omega) fun x1 H3 e3 hp3 s1 => ⟨rfl, ?_⟩
  have pot3 := pb H3 hp3
  have e03 := (e1.trans e2).trans e3
  generalize hS1 : (⟨1 + r, srt L⟩ : Sto) = S1 at s1
  have S1n : S1.n = 1 + r := by rw [← hS1]
  have S1l : S1.ties.length ≤ 8 := by rw [← hS1]; show (srt L).length ≤ 8; rw [srt_len]; exact len2
  clear hS1 hd2 hl2 hpx pb hp3
  -- ~store
  obtain ⟨a1, dx1, d1, ts1, g1, ea, sf1⟩ := s1.sat.sf
  cases ea
  obtain ⟨px, hpx, pb⟩ := pot3.lst
  refine ⟨_, rfl, _, rfl, x1, dx1, _, rfl, sf1.h, hid_of (S := ⟨S1.n, srt (S1.ties.map flipT)⟩) hpx (fun o Q0 q0 => ⟨.ref x1, S1, rfl, s1.hid o, q0⟩) fun v2 H4 e4 hp4 s2 => ?_⟩
  have pot4 := pb H4 hp4
  have s14 := s1.x1 e4
  have x1p : x1 ≠ p := fun z => by
    have := sf1.h
    rw [z, hpx] at this
    cases this
  have h14 := e4 _ _ x1p sf1.h
  have e04 := e03.trans e4
  clear hpx pb hp4
  -- beside a row
  refine ⟨_, rfl, x1, dx1, _, rfl, h14, rfl, ?_⟩
  refine ⟨rfl, _, rfl, by show 4 ≤ sizeLine; decide, fun pk hpk => ⟨p, pot4.ex (Ex.new hpk), .inl ⟨pk, _, rfl, pot4.ne hpk, upd_same, by decide, by decide, fun vw H5 hvw e5 pot5 => ?_⟩⟩⟩
  have hw : ∃ u : List Sg, vw = .str (wdS u) ∧ 1 ≤ u.length ∧ u.length ≤ 12 ∧ ∀ c ∈ u, c.low = true := by
    rcases List.mem_cons.mp hvw with h | hv
    · exact ⟨[.a], h, by decide, by decide, by decide⟩
    rcases List.mem_cons.mp hv with h | hv
    · exact ⟨[.a, .b], h, by decide, by decide, by decide⟩
    rcases List.mem_cons.mp hv with h | hv
    · exact ⟨[.b, .a], h, by decide, by decide, by decide⟩
    rcases List.mem_cons.mp hv with h | hv
    · exact ⟨[.a, .a, .b], h, by decide, by decide, by decide⟩
    cases hv
  obtain ⟨u, rfl, u1, u2, u3⟩ := hw
  have e45 : Ex1 p H4 H5 := (Ex.new hpk).x1.trans e5
  have e05 := e04.trans e45
  have s15 := s14.x1 e45
  have s25 := s2.x1 e45
  obtain ⟨px, hpx, pb⟩ := pot5.lst
  refine hid_of (S := ⟨u.length + 1, srt (rowL u)⟩) hpx (fun o Q0 q0 => ⟨u, rfl, u1, u2, u3, q0⟩) fun vr H6 e6 hp6 sr => ?_
  have pot6 := pb H6 hp6
  have e06 := e05.trans e6
  have s16 := s15.x1 e6
  have s26 := s25.x1 e6
  clear hpx pb hp6
  obtain ⟨px, hpx, pb⟩ := pot6.lst
  refine hid_of (S := ⟨S1.n + (u.length + 1), srt (S1.ties ++ (srt (rowL u)).map (shiftT S1.n))⟩) hpx (fun o Q0 q0 => ⟨.ref x1, vr, S1, ⟨u.length + 1, srt (rowL u)⟩, rfl, s16.hid o, sr.hid o, ?_, ?_, q0⟩) fun vb H7 e7 hp7 sb => ?_
  · show S1.n + (u.length + 1) ≤ 40
    omega
  · show S1.ties.length + (srt (rowL u)).length ≤ 400
    rw [srt_len]
    simp [rowL, num_len]
    omega
  have pot7 := pb H7 hp7
  have e07 := e06.trans e7
  have s17 := s16.x1 e7
  have s27 := s26.x1 e7
  clear hpx pb hp7
  -- the empty store
  obtain ⟨px, hpx, pb⟩ := pot7.lst
  refine ⟨_, rfl, ?_⟩
  refine hid_mk (n := 1 + r) (by rfl) hpx (fun o => hdv _) ⟨List.nodup_nil, Nat.zero_le _, by simp⟩ (by omega) (by omega) fun x8 H8 e8 hp8 s8 => ⟨rfl, ?_⟩
  have pot8 := pb H8 hp8
  have e08 := e07.trans e8
  have s18 := s17.x1 e8
  have s28 := s27.x1 e8
  have sb8 := sb.x1 e8
  clear hpx pb hp8
  refine ⟨by show 4 ≤ sizeLine; decide, fun lf hlf => ?_⟩
  have lfp := pot8.ne hlf
  have e89 : Ex H8 (upd H8 lf (.lst [.ref x1, v2, vb, .ref x8])) := Ex.new hlf
  have hlf9 : (upd H8 lf (.lst [.ref x1, v2, vb, .ref x8])) lf = some (.lst [.ref x1, v2, vb, .ref x8]) := upd_same
  show (fun H9 => _) (upd H8 lf (.lst [.ref x1, v2, vb, .ref x8]))
  generalize upd H8 lf (.lst [.ref x1, v2, vb, .ref x8]) = H9 at e89 hlf9
  have pot9 := pot8.ex e89
  have e09 := e08.trans e89.x1
  have s19 := s18.x1 e89.x1 (p := p)
  -- the tie
  refine ⟨_, rfl, _, rfl, p, 1 + r, rfl, pot9, by omega, by omega, fun r1 Ha hr1 ea pa => ⟨_, rfl, p, pa, .inr ⟨[.a, .b], rfl, by decide, by decide, fun s Hb hs eb pb => ⟨_, rfl, _, rfl, p, 1 + r, rfl, pb, by omega, by omega, fun r2 Hc hr2 ec pc => ⟨by show 3 ≤ sizeLine; decide, fun T1 hT1 => ?_⟩⟩⟩⟩⟩
  have slow : s.low = true := by
    rcases List.mem_cons.mp hs with h | hs
    · rw [h]; rfl
    · rw [List.mem_singleton.mp hs]; rfl
  have e9c := (ea.trans eb).trans ec
  have ecd : Ex Hc (upd Hc T1 (.tup [.int (r1 : Int), .str (sgS s), .int (r2 : Int)])) := Ex.new hT1
  have sT : SqT K (upd Hc T1 (.tup [.int (r1 : Int), .str (sgS s), .int (r2 : Int)])) T1 [.int (r1 : Int), .str (sgS s), .int (r2 : Int)] := sqt_new
  have dT : Dp K (upd Hc T1 (.tup [.int (r1 : Int), .str (sgS s), .int (r2 : Int)])) (.ref T1) (dat (⟨r1, s, r2⟩ : Stp)) := t3_dp sqt_new (nat_dp _) (sg_dp _) (nat_dp _)
  have potd := pc.ex ecd
  have e9d := e9c.trans ecd.x1
  show (fun Hd => _) (upd Hc T1 (.tup [.int (r1 : Int), .str (sgS s), .int (r2 : Int)]))
  generalize upd Hc T1 (.tup [.int (r1 : Int), .str (sgS s), .int (r2 : Int)]) = Hd at ecd sT dT potd e9d
  have s1d := s19.x1 e9d
  have hlfd := e9d _ _ lfp hlf9
  have e0d := e09.trans e9d
  clear ecd e9c
  -- store + tie
  have h1d := e9d _ _ x1p (e89 _ _ (e8 _ _ x1p (e7 _ _ x1p (e6 _ _ x1p (e45 _ _ x1p h14)))))
  obtain ⟨px, hpx, pb⟩ := potd.lst
  refine ⟨_, rfl, _, rfl, _, rfl, x1, dx1, _, T1, _, rfl, rfl, h1d, sT, hid_of (S := ⟨S1.n, srt (S1.ties ++ if (⟨r1, s, r2⟩ : Stp) ∈ S1.ties then [] else [⟨r1, s, r2⟩])⟩) hpx (fun o Q0 q0 => ⟨.ref x1, .ref T1, S1, ⟨r1, s, r2⟩, rfl, s1d.hid o, dat_lt (hid_ld hpx) dT, by rw [S1n]; exact hr1, by rw [S1n]; exact hr2, slow, by omega, q0⟩) fun va He ee hpe sa => ?_⟩
  have pote := pb He hpe
  have ltde := potd.lt ee
  have s1e := s1d.x1 ee
  have h1e := ee _ _ x1p h1d
  have e0e := e0d.trans ee
  have hlfe := ee _ _ lfp hlfd
  have sTe := sqt_lt ltde sT
  have dTe := dat_lt ltde dT
  clear hpx pb hpe
  obtain ⟨px, hpx, pb⟩ := pote.lst
  refine ⟨_, rfl, _, rfl, x1, dx1, _, T1, _, rfl, rfl, h1e, sTe, hid_of (S := ⟨S1.n, srt (S1.ties.filter fun u => decide (u ≠ (⟨r1, s, r2⟩ : Stp)))⟩) hpx (fun o Q0 q0 => ⟨.ref x1, .ref T1, S1, ⟨r1, s, r2⟩, rfl, s1e.hid o, dat_lt (hid_ld hpx) dTe, by rw [S1n]; exact hr1, by rw [S1n]; exact hr2, slow, q0⟩) fun vm Hf ef hpf sm => ?_⟩
  have potf := pb Hf hpf
  have e0f := e0e.trans ef
  have hlff := ef _ _ lfp hlfe
  clear hpx pb hpf
  -- the row
  refine ⟨⟨_, rfl⟩, (5 : Int), rfl, by omega, by omega, fun D hD => ?_⟩
  have Dp' := potf.ne hD
  refine lc_it walk_range (fun i H' => Ex1 p Hf H' ∧ PotAt H' p ∧ ∃ u : List Sg, H' D = some (.lst ((u.map sgS).map V.str)) ∧ u.length = i) ⟨(Ex.new hD).x1, potf.upd Dp', [], upd_same, rfl⟩ (fun _ _ _ _ => trivial) ?_ ?_
  · rintro i v3 Hg _ hi ⟨eg, potg, u5, hu5, lu5⟩ ⟨rfl, rfl⟩
    have hi : i < 5 := hi
    refine ⟨rfl, _, rfl, p, potg, .inr ⟨[.a, .A, .b, .B], rfl, by decide, by decide, fun s5 Hh hs5 eh poth => ?_⟩⟩
    refine ⟨_, eh _ _ Dp' hu5, by simp [sizeLine_eq]; omega, ((eg.trans eh)).mut hD, poth.upd Dp', u5 ++ [s5], ?_, by simp [lu5]⟩
    rw [upd_same]
    simp
  · rintro Hg ⟨eg, potg, u5, hu5, lu5⟩
    have lu5 : u5.length = 5 := lu5
    have ej : Txt.join (Str.ofString "") (u5.map sgS) = wdS u5 := join_signs u5
    have h0g := e0f.trans eg
    obtain ⟨px, hpx, pb⟩ := potg.lst
    refine ⟨_, _, u5.map sgS, rfl, rfl, .inl (SqL.of hu5), ?_, ?_⟩
    · rw [sum_signs, lu5, List.length_map, lu5]
      decide
    · rw [ej]
      refine hid_of (S := ⟨u5.length + 1, srt (rowT 0 u5)⟩) hpx (fun o Q0 q0 => ⟨u5, rfl, by omega, q0⟩) fun vz Hi ei hpi sz => ?_
      have poti := pb Hi hpi
      have efi := eg.trans ei
      refine ⟨by show 3 ≤ sizeLine; decide, fun l3 hl3 => ?_⟩
      have e3 := Ex.new (o := .lst [va, vm, vz]) hl3
      refine ⟨lf, l3, _, _, rfl, rfl, e3 _ _ (efi _ _ lfp hlff), upd_same, by show 4 + 3 ≤ sizeLine; decide, fun l7 hl7 => ?_⟩
      have e7' := Ex.new (o := .lst ([V.ref x1, v2, vb, .ref x8] ++ [va, vm, vz])) hl7
      have eij : Ex1 p Hi _ := (e3.trans e7').x1
      have pot9' := (poti.ex e3).ex e7'
      have l7p := (poti.ex e3).ne hl7
      have a1 := (ef.trans efi).trans eij
      have a2 := ee.trans a1
      have a3 := (e89.x1.trans e9d).trans a2
      exact k _ _ ((h0g.trans ei).trans eij) pot9' ⟨l7, _, [_, _, _, _, _, _, _], rfl, l7p, upd_same, by simp, .cons (s18.x1 a3) (.cons (s28.x1 a3) (.cons (sb8.x1 a3) (.cons (s8.x1 a3) (.cons (sa.x1 a1) (.cons (sm.x1 (efi.trans eij)) (.cons (sz.x1 eij) .nil))))))⟩
end
end K26

set_option Elab.async false
set_option linter.all false
set_option maxRecDepth 100000
set_option maxHeartbeats 4000000
/-! law: pair_right. -/
namespace K26
open PySem PySem.Spec PyProof.Rows L2
open Ky C8
theorem cut_sixty (u : List Sg) : cutS (wdS u) none (some (60 : Int)) = wdS (u.take 60) := by
  have e : (60 : Int) = ((60 : Nat) : Int) := rfl
  unfold cutS
  rw [e, HT.sIx_none, HT.sIx_nat, List.drop_zero, Nat.sub_zero, wdS_tl, wdS_len, ← List.map_take]
  show (⟨((u.take (min 60 u.length)).map sgC).toArray⟩ : Str) = ⟨((u.take 60).map sgC).toArray⟩
  rcases Nat.le_total 60 u.length with h | h
  · rw [Nat.min_eq_left h]
  · rw [Nat.min_eq_right h, List.take_of_length_le (Nat.le_refl _), List.take_of_length_le h]
/-- in the row of its own signs -/
theorem row_ans {p : Qs} {u : List Sg} (h : reads p u) : ans (rowE u) p 0 u.length := by
  have w := walk_row [] u
  rw [List.nil_append, List.length_nil, Nat.zero_add] at w
  exact ans_iff.mpr ⟨u, h, w⟩
theorem row_edge {u : List Sg} {q : Qs} {x y : Nat} : ans (tieE (srt (rowT 0 u))) q x y ↔ ans (rowE u) q x y := ans_edge fun a s b => tie_row (fun t => mem_srt) a s b
section
variable {P : Program} {w : World} {K : PySem.W.Frag} {mg : Str → Option Value} {base : Heap} {CS CQ f : Addr} {fd : FuncData}
theorem ties_low {n : Nat} {l : List Stp} (h : TiesOk n l) : Sym (tieE l) := tieE_sym fun t ht => (h.2.2 t ht).2.2
theorem Pth.ans {E : Edge} {q : Qs} {x y n : Nat} {l : List Spot} (h : Pth E q x y n l) : ans E q x y := by
  obtain ⟨e, he, la⟩ := h.la
  have r : ∀ (i : Nat) (u : Spot), l[i]? = some u → Rch (mv E q) (x, 0) u := by
    intro i
    induction i with
    | zero =>
      intro u hu
      rw [h.hd] at hu
      cases hu
      exact .refl
    | succ i ih =>
      intro u hu
      have lt := (List.getElem?_eq_some_iff.mp hu).1
      obtain ⟨v, hv⟩ : ∃ v, l[i]? = some v := ⟨l[i]'(by omega), List.getElem?_eq_getElem _⟩
      exact .tail (ih v hv) (h.st i v u hv hu)
  exact ⟨e, he, r _ _ la⟩
theorem offs_at {z : Addr} {H H' : Hp} {Ss : List Sto} {vs : List V} (h : Paired (fun (S : Sto) (x : V) => SOff P w K CS z H x S) Ss vs) (e : Ex H H') : All (fun (S : Sto) (H : Hp) (x : V) => SAt P w K CS H x S) Ss H' vs := by
  induction h with
  | nil => exact .nil
  | cons x _ ih => exact .cons (x.sat.ex e) ih
theorem sc_law_pair_right : FnScope ["_law_one", "_law_other", "_law_stores_here", "_law_signs", "_law_store", "_law_row", "_law_size", "_law_answer", "_law_pair"] ["_law_one", "_law_other", "_law_stores_here"] (defScope y_law_pair_right) := ⟨rfl, rfl, rfl, by decide +kernel, rfl, by decide +kernel, by decide +kernel⟩
/-- truth of what the law's pair test gives -/
def sp_law_pair (P : Program) (w : World) (K : PySem.W.Frag) (CS CQ : Addr) : Sp := fun vs H Q _ => ∃ (v v2 v3 : V) (p q : Qs) (z : Addr), vs = [v, v2, v3] ∧ QAt K CQ H v p ∧ QAt K CQ H v2 q ∧ StoresAt P w K CS z H v3 ∧ ∀ H', Ex H H' → Q (.bl true) H'
theorem c_law_pair_right (T : Tx K mg CS CQ) (F : Fx K mg "_law_pair_right" y_law_pair_right ["_law_one", "_law_other", "_law_stores_here"] f fd) (c_lies_within : Cal P w K mg base 10 "lies_within" (sp_lies_within K CQ) []) (c_parting : Cal P w K mg base 10 "parting" (sp_parting K CQ) []) (c_asked : Cal P w K mg base 4 "asked" (sp_asked P w K CS CQ) [])
    (c_Question_reads : Met P w K mg base 3 CQ "reads" (fun vs H Q _ => ∃ (v : V) (q : Qs) (u : List Sg), vs = [v, .str (wdS u)] ∧ QAt K CQ H v q ∧ u.length ≤ 60 ∧ ∀ b H', Ex H H' → (b = true ↔ reads q u) → Q (.bl b) H') [])
    (c_row_of : Cal P w K mg base 8 "row_of" (sp_row_of P w K CS) []) (c_reason : Cal P w K mg base 5 "reason" (sp_reason P w K CS CQ) []) (c_is_reason : Cal P w K mg base 5 "is_reason" (sp_is_reason P w K CS CQ) []) (c_denial : Cal P w K mg base 5 "denial" (sp_denial P w K CS CQ) []) (c_is_denial : Cal P w K mg base 5 "is_denial" (sp_is_denial P w K CS CQ) []) :
    Cal P w K mg base 11 "_law_pair_right" (sp_law_pair P w K CS CQ) [] := by
  refine F.cal sc_law_pair_right (fun vs H Q E h => ?_) (fun cdv A outer s H vs Q E hr h => ?_)
  · obtain ⟨v, v2, v3, p, q, z, rfl, _⟩ := h
    rfl
  obtain ⟨v, v2, v3, p, q, z, rfl, hp, hq, hst, k⟩ := h
  have hu := hu100 hr
  refine ⟨_, (pss_cons (ps_if (pt_val (pe_c c_lies_within hr (by decide) (by rfl) (pa_cons (pv 0) (pa_cons (pv 1) pa_nil)))) (pss_cons (ps_if (pt_cmpR op_notN (pe_c c_parting hr (by decide) (by rfl) (pa_cons (pv 0) (pa_cons (pv 1) pa_nil))) pe_non (by rfl)) (pss_one (ps_ret pe_bl)) pss_nil)
    (pss_cons (ps_for PassesOwn.never rfl (k_list (K := K) rfl (pv 2)) (pn 4 sc_law_pair_right.nd) (pss_cons (pset 7 sc_law_pair_right.nd (pe_c c_asked hr (by decide) (by rfl) (pa_cons (pv 4) (pa_cons (pv 1) pa_nil))))
    (pss_one (ps_if (pt_not (pt_val (pe_callB (k_all (K := K) rfl rfl) (by rfl) T.all (by decide +kernel) (pa_cons (pe_lc (own := [("_law_pair", 8)]) rfl sc_law_pair_right.nd ((k_list (K := K) rfl (pe_c c_asked hr (by decide) (by rfl) (pa_cons (pv 4) (pa_cons (pv 0) pa_nil))))) (blkOk_by (by kernel_rfl)) (fun _ _ _ _ _ => (pn 8 sc_law_pair_right.nd)) (fun _ _ _ _ _ => pts_nil) (fun _ _ _ _ _ => (pe_cmpR (k_in (α := Nat × Nat) (O := ⟨P, w, K⟩) hu rfl) (pv 8) (pv 7) (by rfl)))) pa_nil)))) (pss_one (ps_ret pe_bl)) pss_nil))))
    (pss_one (ps_ret pe_bl)))) pss_nil)
    (pss_cons (pset 3 sc_law_pair_right.nd (pe_c c_parting hr (by decide) (by rfl) (pa_cons (pv 0) (pa_cons (pv 1) pa_nil))))
    (pss_cons (ps_if (pt_cmpR (op_gt) (pe_callB (k_len (K := K) rfl) (by rfl) T.len (by decide +kernel) (pa_cons (pv 3) pa_nil)) pe_int (by rfl)) (pss_one (ps_ret (pe_or (pe_mt c_Question_reads hr (by decide) (pv 0) (pa_cons (pe_slice sl_str (pv 3) po_none (po_some pe_int)) pa_nil)) (pe_one (pe_cmpR (op_gt) (pe_callB (k_len (K := K) rfl) (by rfl) T.len (by decide +kernel) (pa_cons (pv 3) pa_nil)) pe_int (by rfl)))))) pss_nil)
    (pss_cons (ps_par (i := 5) (j := 6) (by rfl) sc_law_pair_right.nd rfl rfl (by decide) rfl rfl (pa_cons (pe_c c_row_of hr (by decide) (by rfl) (pa_cons (pv 3) pa_nil)) (pa_cons (pe_callB (k_len (K := K) rfl) (by rfl) T.len (by decide +kernel) (pa_cons (pv 3) pa_nil)) pa_nil)) (by rfl))
    (pss_cons (ps_if (PW.pt (pw_or (pt_not (pt_val (pe_mt c_Question_reads hr (by decide) (pv 0) (pa_cons (pv 3) pa_nil)))) (pw_or (pt_cmpR (k_nin (α := Nat × Nat) (O := ⟨P, w, K⟩) hu rfl) (pe_tup (pa_cons pe_int (pa_cons (pv 6) pa_nil))) (pe_c c_asked hr (by decide) (by rfl) (pa_cons (pv 5) (pa_cons (pv 0) pa_nil))) (by rfl)) (pw_or1 (pt_cmpR (k_in (α := Nat × Nat) (O := ⟨P, w, K⟩) hu rfl) (pe_tup (pa_cons pe_int (pa_cons (pv 6) pa_nil))) (pe_c c_asked hr (by decide) (by rfl) (pa_cons (pv 5) (pa_cons (pv 1) pa_nil))) (by rfl)))))) (pss_one (ps_ret pe_bl)) pss_nil)
    (pss_cons (ps_if (PW.pt (pw_or (pt_not (pt_val (pe_c c_is_reason hr (by decide) (by rfl) (pa_cons (pv 5) (pa_cons (pv 0) (pa_cons pe_int (pa_cons (pv 6) (pa_cons (pe_c c_reason hr (by decide) (by rfl) (pa_cons (pv 5) (pa_cons (pv 0) (pa_cons pe_int (pa_cons (pv 6) pa_nil))))) pa_nil)))))))) (pw_or1 (pt_cmpR op_notN (pe_c c_reason hr (by decide) (by rfl) (pa_cons (pv 5) (pa_cons (pv 1) (pa_cons pe_int (pa_cons (pv 6) pa_nil))))) pe_non (by rfl))))) (pss_one (ps_ret pe_bl)) pss_nil)
    (pss_one (ps_ret (pe_cmpR op_is_bl (pe_c c_is_denial hr (by decide) (by rfl) (pa_cons (pv 5) (pa_cons (pv 1) (pa_cons pe_int (pa_cons (pv 6) (pa_cons (pe_c c_denial hr (by decide) (by rfl) (pa_cons (pv 5) (pa_cons (pv 1) (pa_cons pe_int (pa_cons (pv 6) pa_nil))))) pa_nil)))))) pe_bl (by rfl)))))))))), ?_⟩
  obtain ⟨a, dx, st, en, fr, rfl, pf⟩ := hp
  have hp : QAt K CQ H (.ref a) p := ⟨a, dx, st, en, fr, rfl, pf⟩
  refine ⟨_, rfl, _, rfl, dec (Win p q), ⟨.ref a, v2, p, q, rfl, hp, hq, rfl⟩, fun H1 e1 => ⟨_, rfl, ?_⟩⟩
  cases hb : dec (Win p q) with
  | true =>
    have hw := dec_iff.mp hb
    refine iteT ?_
    refine ⟨_, rfl, _, rfl, .ref a, v2, p, q, rfl, hp.ex e1, hq.ex e1, fun H2 e2 _ => ⟨rfl, _, rfl, dNP rfl ?_⟩, fun u H2 e2 hpt _ => absurd hw (not_win hpt)⟩
    obtain ⟨l, vs, Ss, rfl, lz, hl, hlen, hall⟩ := hst
    have e02 := e1.trans e2
    have lS : Ss.length = vs.length := Paired.length hall
    refine ⟨_, rfl, l, rfl, ⟨vs, SqL.of (e02 _ _ hl)⟩, ?_⟩
    refine for_tw (tw_list (K := K) (R := fun (S : Sto) (H : Hp) (x : V) => SAt P w K CS H x S) (l := Ss) (xs := vs)) (fun i σ' H' => ∃ (b3 b4 b5 b6 b7 b8 : Option V), σ' = [some (.ref a), some v2, some (.ref l), b3, b4, b5, b6, b7, b8] ∧ Ex H H') ⟨_, _, _, _, _, _, rfl, e02⟩ ?_ ?_ ?_
    · rintro i σ' H3 _ ⟨_, _, _, _, _, _, rfl, e3⟩
      refine ⟨SqL.of (e3 _ _ hl), ?_⟩
      exact offs_at (z := z) hall e3
    · rintro i S x σ' H3 H4 hi ⟨_, _, _, _, _, _, rfl, e3⟩ e34 hx
      have e4 := e3.trans e34
      have hx : SAt P w K CS H4 x S := hx
      refine ⟨_, rfl, _, rfl, x, v2, S, q, rfl, hx, hq.ex e4, fun pp ys H5 e5 hpp hys => ?_⟩
      refine ⟨_, rfl, _, rfl, x, .ref a, S, p, rfl, hx.ex e5, hp.ex (e4.trans e5), fun pp2 ys2 H6 e6 hpp2 hys2 => ⟨pp2, rfl, ⟨ys2, SqL.of hpp2⟩, fun D hD => ?_⟩⟩
      have S40 : S.n ≤ 40 ∧ TiesOk S.n S.ties := by
        obtain ⟨_, _, _, _, _, _, sf⟩ := hx.sf
        exact ⟨sf.n2, sf.ok⟩
      have al := askL_len S p
      have : S.n * S.n ≤ 1600 := Nat.le_trans (Nat.mul_le_mul S40.1 S40.1) (by decide)
      refine lc_bl (tw_list (K := K) (R := Dt K) (l := askL S p) (xs := ys2)) (fun _ => true) hD (fun H' e' => ⟨SqL.of (e' _ _ hpp2), all_dat (hys2.ex e')⟩) (by rw [sizeLine_eq]; omega) (fun u xu Hc acc N M hul ec hacc hxu hN => ?_) fun H7 e7 hD7 => ?_
      · have hxu : Dp K Hc xu (dat u) := hxu
        refine ⟨rfl, _, rfl, _, rfl, askL S q, u, hxu, .inr (.lst (SqL.of (ec _ _ (e6 _ _ hpp))) ((hys.ex e6).ex ec)), ?_⟩
        obtain ⟨m1, m2, m3⟩ := mem_askL.mp hul
        have hN7 := hN Hc (.refl Hc)
        rw [if_neg Bool.false_ne_true, dT (mem_askL.mpr ⟨m1, m2, hw.all (ties_low S40.2) m3⟩)]
        exact hN7
      · have eb : ((askL S p).map fun _ => true).all id = true := by simp
        refine ⟨D, _, rfl, SqL.of hD7, true, ?_, iteF ⟨_, _, _, _, _, _, rfl, ((e4.trans e5).trans e6).trans e7⟩⟩
        rw [eb]
    · rintro σ' H3 ⟨_, _, _, _, _, _, rfl, e3⟩
      exact k H3 e3
  | false =>
    have hw : ¬ Win p q := fun h => by rw [dec_iff.mpr h] at hb; cases hb
    refine iteF ?_
    refine ⟨_, rfl, _, rfl, .ref a, v2, p, q, rfl, hp.ex e1, hq.ex e1, fun H2 e2 h => absurd h hw, fun u H2 e2 hpt hul => ?_⟩
    have e02 := e1.trans e2
    refine ⟨_, rfl, _, (u.length : Nat), rfl, ⟨by rw [wdS_len, sizeLine_eq]; omega, (wdS_len u).symm⟩, _, _, rfl, rfl, _, rfl, ?_⟩
    obtain ⟨hrd, hna⟩ := hpt
    have p2 := pf.ex e02
    have hp2 := hp.ex e02
    have hq2 := hq.ex e02
    by_cases h39 : u.length > 39
    · refine ifP (by omega) ?_
      refine ⟨_, rfl, a, dx, _, rfl, p2.h, rfl, _, rfl, 60, rfl, wdS u, rfl, by rw [wdS_len, sizeLine_eq]; omega, .ref a, p, u.take 60, ?_, hp2, by rw [List.length_take]; omega, fun b H3 e3 hb => ⟨b, rfl, ?_⟩⟩
      · rw [cut_sixty]
        rfl
      cases b with
      | true => exact iteT (k H3 (e02.trans e3))
      | false =>
        have l60 : 60 < u.length := by
          rcases Nat.lt_or_ge 60 u.length with h | h
          · exact h
          · rw [List.take_of_length_le h] at hb
            exact absurd (hb.mpr hrd) Bool.false_ne_true
        refine iteF ⟨_, rfl, _, (u.length : Nat), rfl, ⟨by rw [wdS_len, sizeLine_eq]; omega, (wdS_len u).symm⟩, _, _, rfl, rfl, ?_⟩
        show Q (V.bl (decide ((60 : Int) < ((u.length : Nat) : Int)))) H3
        rw [dT (show (60 : Int) < ((u.length : Nat) : Int) by omega)]
        exact k H3 (e02.trans e3)
    · refine ifN (by omega) ?_
      have le39 : u.length ≤ 39 := by omega
      have lw : (u.length : Int) = ((wdS u).length : Nat) := by rw [wdS_len]
      refine ⟨_, rfl, u, rfl, le39, fun vr H3 e3 sr => ⟨_, rfl, _, (u.length : Nat), rfl, ⟨by rw [wdS_len, sizeLine_eq]; omega, (wdS_len u).symm⟩, _, _, rfl, ?_⟩⟩
      have e03 := e02.trans e3
      have hyp : ans (tieE (srt (rowT 0 u))) p 0 u.length := row_edge.mpr (row_ans hrd)
      have hyq : ¬ ans (tieE (srt (rowT 0 u))) q 0 u.length := fun h => hna (row_edge.mp h)
      -- the tests of the first if
      refine ⟨_, rfl, a, dx, _, rfl, p2.ex e3 |>.h, rfl, _, rfl, .ref a, p, u, rfl, hp.ex e03, by omega, fun b H4 e4 hb => ⟨b, rfl, ?_⟩⟩
      have eb : b = true := hb.mpr hrd
      subst eb
      refine iteF ?_
      have e04 := e03.trans e4
      have sr4 := sr.ex e4
      refine ⟨_, rfl, by show 2 ≤ sizeLine; decide, fun T1 hT1 => ?_⟩
      have e5 := Ex.new (o := .tup [V.int 0, .int (u.length : Int)]) hT1
      refine ⟨_, rfl, _, rfl, vr, .ref a, _, p, rfl, sr4.ex e5, hp.ex (e04.trans e5), fun pp ys H6 e6 hpp hys => ⟨_, (0, u.length), (pair_dp sqt_new (nat_dp 0) (nat_dp u.length)).ex e6, .inr (.lst (SqL.of hpp) hys), ?_⟩⟩
      have m1 : ((0, u.length) : Spot) ∈ askL ⟨u.length + 1, srt (rowT 0 u)⟩ p := mem_askL.mpr ⟨Nat.succ_pos _, Nat.lt_succ_self _, hyp⟩
      have m2 : ((0, u.length) : Spot) ∉ askL ⟨u.length + 1, srt (rowT 0 u)⟩ q := fun h => hyq (mem_askL.mp h).2.2
      have e06 := (e04.trans e5).trans e6
      have sr6 := (sr4.ex e5).ex e6
      rw [if_pos rfl, dT m1]
      refine ⟨_, rfl, iteF ?_⟩
      refine ⟨_, rfl, by show 2 ≤ sizeLine; decide, fun T2 hT2 => ?_⟩
      have e7 := Ex.new (o := .tup [V.int 0, .int (u.length : Int)]) hT2
      refine ⟨_, rfl, _, rfl, vr, v2, _, q, rfl, sr6.ex e7, hq.ex (e06.trans e7), fun pp2 ys2 H8 e8 hpp2 hys2 => ⟨_, (0, u.length), (pair_dp sqt_new (nat_dp 0) (nat_dp u.length)).ex e8, .inr (.lst (SqL.of hpp2) hys2), ?_⟩⟩
      have e08 := (e06.trans e7).trans e8
      have sr8 := (sr6.ex e7).ex e8
      rw [if_neg Bool.false_ne_true, dF m2]
      refine ⟨_, rfl, iteF ?_⟩
      -- the reason of the one
      refine ⟨_, rfl, _, rfl, _, rfl, _, rfl, _, rfl, _, rfl, vr, .ref a, _, p, 0, u.length, rfl, sr8, hp.ex e08, Nat.succ_pos _, Nat.lt_succ_self _, fun _ _ h => absurd hyp h, fun pr yr l H9 e9 hpr hyr pth => ?_⟩
      have e09 := e08.trans e9
      have sr9 := sr8.ex e9
      refine ⟨true, ⟨vr, .ref a, _, _, p, 0, u.length, l, rfl, sr9, hp.ex e09, Nat.succ_pos _, Nat.lt_succ_self _, .lst (SqL.of hpr) hyr, pth, rfl⟩, fun Ha ea => ⟨true, rfl, iteF ?_⟩⟩
      have e0a := e09.trans ea
      have sra := sr9.ex ea
      -- no reason of the other one
      refine ⟨_, rfl, _, rfl, _, rfl, vr, v2, _, q, 0, u.length, rfl, sra, hq.ex e0a, Nat.succ_pos _, Nat.lt_succ_self _, fun Hb eb _ => ⟨rfl, _, rfl, iteF ?_⟩, fun _ _ l _ _ _ _ pth2 => absurd ?_ hyq⟩
      · have e0b := e0a.trans eb
        have srb := sra.ex eb
        -- a denial of the other one
        refine ⟨_, rfl, _, rfl, _, rfl, _, rfl, _, rfl, _, rfl, vr, v2, _, q, 0, u.length, rfl, srb, hq.ex e0b, Nat.succ_pos _, Nat.lt_succ_self _, hyq, fun pd yd ld Hc ec hpd hyd den => ?_⟩
        have e0c := e0b.trans ec
        refine ⟨true, ⟨vr, v2, _, _, q, 0, u.length, ld, rfl, srb.ex ec, hq.ex e0c, Nat.succ_pos _, Nat.lt_succ_self _, .lst (SqL.of hpd) hyd, den, rfl⟩, fun Hd ed => ?_⟩
        exact ⟨true, true, rfl, rfl, k Hd (e0c.trans ed)⟩
      · exact pth2.ans
end
end K26

set_option Elab.async false
set_option linter.all false
set_option maxRecDepth 100000
set_option maxHeartbeats 4000000
/-! law: right. -/
namespace K26
open PySem PySem.Spec PyProof.Rows L2
open Ky C8
section
variable {K : PySem.W.Frag} {CQ : Addr} {H H' : Hp}
theorem tupd_lt {α : Type} [Ky α] {v : V} {l : List α} (lt : Lt H H') (h : Dp K H v (.tuple (l.map dat))) : Dp K H' v (.tuple (l.map dat)) := by
  obtain ⟨a, xs, rfl, hs, hv⟩ := dp_tuple h
  exact .tup (sqt_lt lt hs) (dats_lt lt hv)
theorem lists_stay (lt : Lt H H') {c1 c2 : Int} (stay : ∀ b ys, SqL K H b ys → ys ≠ [V.int c1, V.int c2] → SqL K H' b ys) : ∀ {L : List (List (Sg × Nat))} {xs : List V}, DpAll K H xs (L.map fun r => .list (r.map dat)) → DpAll K H' xs (L.map fun r => .list (r.map dat))
  | [], _, h => by cases h; exact .nil
  | r :: L, _, h => by
    rw [List.map_cons] at h ⊢
    cases h with
    | cons a b =>
      refine .cons ?_ (lists_stay lt stay b)
      obtain ⟨c, ys, rfl, hc, hy⟩ := dp_lst a
      refine .lst (stay c ys hc fun z => ?_) (dats_lt lt hy)
      subst z
      cases r with
      | nil => cases hy
      | cons p r =>
        rw [List.map_cons] at hy
        cases hy with
        | cons d _ =>
          obtain ⟨_, _, _, e, _⟩ := dp_pair d
          cases e
/-- a question stays whatever is drawn -/
theorem QAt.x1 {p : Addr} {v : V} {q : Qs} (h : QAt K CQ H v q) (hp : PotAt H p) (e : Ex1 p H H') : QAt K CQ H' v q := by
  have lt := hp.lt e
  obtain ⟨a, dx, st, en, fr, rfl, f⟩ := h
  obtain ⟨c1, c2, hpp, _⟩ := hp
  have stay : ∀ b ys, SqL K H b ys → ys ≠ [V.int c1, V.int c2] → SqL K H' b ys := fun b ys r n => by
    rcases r with r | r
    · by_cases hb : b = p
      · subst hb
        rcases r with r | ⟨o, r⟩
        · rw [hpp] at r
          cases r
          exact absurd rfl n
        · rw [hpp] at r
          cases r
      · exact .inl (r.imp (fun z => e _ _ hb z) fun ⟨o, z⟩ => ⟨o, e _ _ hb z⟩)
    · exact .inr r
  refine ⟨a, dx, st, en, fr, rfl, ⟨e _ _ (fun z => ?_) f.h, tupd_lt lt f.st, tupd_lt lt f.en, ?_, f.ok⟩⟩
  · have := f.h
    rw [z, hpp] at this
    cases this
  · obtain ⟨b, xs, e2, hs, hv⟩ := dp_lst f.fr
    rw [e2]
    refine .lst (stay b xs hs fun z => ?_) (lists_stay lt stay hv)
    subst z
    generalize fromL q = L at hv
    cases L with
    | nil => cases hv
    | cons r L =>
      rw [List.map_cons] at hv
      cases hv with
      | cons d _ =>
        obtain ⟨_, _, e, _⟩ := dp_lst d
        cases e
/-- the same, a list at p left out of sight -/
theorem qat_hid {p : Addr} {o : Obj} {v : V} {q : Qs} (h : H p = some (.frz o (.own p))) (e : Ex1 p H H') (s : QAt K CQ H v q) : QAt K CQ H' v q := by
  obtain ⟨a, dx, st, en, fr, rfl, f⟩ := s
  have ld := ld_hid h e
  exact ⟨a, dx, st, en, fr, rfl, ⟨at_hid h e (fun z => nomatch z) f.h, dp_ld ld f.st, dp_ld ld f.en, dp_ld ld f.fr, f.ok⟩⟩
/-- a question stands at v, nothing of it at p -/
def QOff (K : PySem.W.Frag) (CQ p : Addr) (H : Hp) (v : V) (q : Qs) : Prop := ∃ o, QAt K CQ (upd H p (.frz o (.own p))) v q
theorem QOff.qat {p : Addr} {v : V} {q : Qs} (s : QOff K CQ p H v q) : QAt K CQ H v q := by
  obtain ⟨o, s⟩ := s
  refine qat_hid (p := p) (o := o) upd_same (fun y u hy h => ?_) s
  rw [upd_ne hy] at h
  exact h
theorem ex1_hid {p : Addr} {o : HO} (e : Ex1 p H H') : Ex (upd H p o) (upd H' p o) := fun y u h => by
  by_cases hy : y = p
  · subst hy
    rw [upd_same] at h ⊢
    exact h
  · rw [upd_ne hy] at h ⊢
    exact e y u hy h
theorem QOff.x1 {p : Addr} {v : V} {q : Qs} (s : QOff K CQ p H v q) (e : Ex1 p H H') : QOff K CQ p H' v q := by
  obtain ⟨o, s⟩ := s
  exact ⟨o, s.ex (ex1_hid e)⟩
theorem qoff_of {p : Addr} {v : V} {q : Qs} {o : Obj} {u : HO} (h : H p = some (.frz o (.own p))) (s : QAt K CQ H v q) : QOff K CQ p (upd H p u) v q := by
  refine ⟨o, qat_hid h (fun y x hy e => ?_) s⟩
  rw [upd_ne hy, upd_ne hy]
  exact e
theorem ex1_two {p D : Addr} {o : HO} (hn : D ≠ p) (e : Ex1 p H H') : Ex1 p (upd H D o) (upd H' D o) := fun y u hy h => by
  by_cases hd : y = D
  · subst hd
    rw [upd_same] at h ⊢
    exact h
  · rw [upd_ne hd] at h ⊢
    exact e y u hy h
theorem QOff.pot {p D : Addr} {v : V} {q : Qs} (s : QOff K CQ D H v q) (hn : D ≠ p) (hp : PotAt H p) (e : Ex1 p H H') : QOff K CQ D H' v q := by
  obtain ⟨o, s⟩ := s
  exact ⟨o, s.x1 (hp.upd hn) (ex1_two hn e)⟩
/-- a drawn question, apart from A -/
def Dr (K : PySem.W.Frag) (H : Hp) (A : List Addr) (v : V) (q : Nat × List Stp × List Nat) : Prop := ∃ T ls le xs, v = .ref T ∧ SqT K H T [.int (q.1 : Int), .ref ls, .ref le] ∧ H ls = some (.lst xs) ∧ DpAll K H xs (q.2.1.map dat) ∧ H le = some (.lst (nats q.2.2)) ∧ ls ∉ A ∧ le ∉ A ∧ QIn q.1 q.2.1 q.2.2
theorem Dr.stay {A : List Addr} {v : V} {q : Nat × List Stp × List Nat} (d : Dr K H A v q) (lt : Lt H H') (e : ∀ y o, y ∉ A → H y = some o → H' y = some o) : Dr K H' A v q := by
  obtain ⟨T, ls, le, xs, h1, h2, h3, h4, h5, h6, h7, h8⟩ := d
  exact ⟨T, ls, le, xs, h1, sqt_lt lt h2, e _ _ h6 h3, dats_lt lt h4, e _ _ h7 h5, h6, h7, h8⟩
theorem Dr.ex {A : List Addr} {v : V} {q : Nat × List Stp × List Nat} (d : Dr K H A v q) (e : Ex H H') : Dr K H' A v q := d.stay e.lt fun y o _ h => e y o h
theorem Dr.new {A : List Addr} {D : Addr} {v : V} {q : Nat × List Stp × List Nat} (d : Dr K H A v q) (n : H D = none) : Dr K H (D :: A) v q := by
  obtain ⟨T, ls, le, xs, h1, h2, h3, h4, h5, h6, h7, h8⟩ := d
  exact ⟨T, ls, le, xs, h1, h2, h3, h4, h5, fun z => (List.mem_cons.mp z).elim (ne_of_none h3 n) h6, fun z => (List.mem_cons.mp z).elim (ne_of_none h5 n) h7, h8⟩
theorem own_noT {p : Addr} {o : Obj} (h : H p = some (.frz o (.own p))) : NoT H p := noT_of h (fun _ z => nomatch z) fun _ _ z => nomatch z
end
section
variable {P : Program} {w : World} {K : PySem.W.Frag} {mg : Str → Option Value} {base : Heap} {CS CQ f : Addr} {fd : FuncData}
/-- the stores, nothing of them at D -/
def StOff (P : Program) (w : World) (K : PySem.W.Frag) (CS D p : Addr) (H : Hp) (v : V) : Prop := ∃ o, StoresAt P w K CS p (upd H D (.frz o (.own D))) v
theorem StOff.x1 {D p : Addr} {H H' : Hp} {v : V} (s : StOff P w K CS D p H v) (hn : D ≠ p) (e : Ex1 p H H') : StOff P w K CS D p H' v := by
  obtain ⟨o, s⟩ := s
  exact ⟨o, s.x1 (ex1_two hn e)⟩
theorem StOff.xD {D p : Addr} {H H' : Hp} {v : V} (s : StOff P w K CS D p H v) (e : Ex1 D H H') : StOff P w K CS D p H' v := by
  obtain ⟨o, s⟩ := s
  exact ⟨o, s.x1 (ex1_hid e).x1⟩
theorem StOff.sts {D p : Addr} {H : Hp} {v : V} (s : StOff P w K CS D p H v) (hn : D ≠ p) : StoresAt P w K CS p H v := by
  obtain ⟨o, l, vs, Ss, h1, h2, h3, h4, h5⟩ := s
  have lD : l ≠ D := fun z => by
    rw [z, upd_same] at h3
    cases h3
  rw [upd_ne lD] at h3
  refine ⟨l, vs, Ss, h1, h2, h3, h4, ?_⟩
  clear h3 h4
  induction h5 with
  | nil => exact .nil
  | cons a _ ih =>
    refine .cons ?_ ih
    obtain ⟨o', s⟩ := a
    refine ⟨o', sat_hid (p := D) (o := o) (by rw [upd_ne hn, upd_same]) (fun y u hy h => ?_) s⟩
    by_cases hp : y = p
    · subst hp
      rw [upd_same] at h ⊢
      exact h
    · rw [upd_ne hp] at h ⊢
      rw [upd_ne hy] at h
      exact h
theorem hid_mkq {n : Nat} {v v2 : V} {S : List Stp} {E : List Nat} {H : Hp} {W : Addr → VK} {p : Addr} {xs : List V} (hp : H p = some (.lst xs)) (ds : ∀ o, Dp K (upd H p (.frz o (.own p))) v (.list (S.map dat))) (de : ∀ o, Dp K (upd H p (.frz o (.own p))) v2 (.list (E.map dat))) (qin : QIn n S E)
    (q : ∀ x H', Ex H H' → H' p = some (.lst xs) → QOff K CQ p H' (.ref x) ⟨n, srt S, srt E⟩ → W x .non H') :
    ∀ x dx, H x = none → H dx = none → dx ≠ x → hid (sp_question_init K CQ) [.ref x, .int (n : Int), v, v2] (upd (upd H dx (.own x)) x (.ins CQ dx [])) (W x) C8.E0 := by
  intro x dx hx hdx hne
  have px : p ≠ x := ne_of_none hp hx
  have pd : p ≠ dx := ne_of_none hp hdx
  have hp2 : (upd (upd H dx (.own x)) x (.ins CQ dx [])) p = some (.lst xs) := by rw [upd_ne px, upd_ne pd]; exact hp
  have ex : ∀ o, Ex (upd H p (.frz o (.own p))) (upd (upd (upd H dx (.own x)) x (.ins CQ dx [])) p (.frz o (.own p))) := fun o y u h => by
    by_cases hy : y = p
    · subst hy
      rw [upd_same] at h ⊢
      exact h
    · rw [upd_ne hy] at h ⊢
      rw [upd_ne (ne_of_none h hx), upd_ne (ne_of_none h hdx)]
      exact h
  refine ⟨p, xs, hp2, fun o => ⟨x, dx, n, v, v2, S, E, rfl, (upd_ne (Ne.symm px)).trans upd_same, (ds o).ex (ex o), (de o).ex (ex o), qin, fun H' e hs => ⟨e p _ px upd_same, q x _ (fun y u h => ?_) upd_same (qoff_of (e p _ px upd_same) hs)⟩⟩⟩
  by_cases hy : y = p
  · subst hy
    rw [upd_same]
    rw [hp] at h
    exact h
  · rw [upd_ne hy]
    refine e y u (ne_of_none h hx) ?_
    rw [upd_ne hy, upd_ne (ne_of_none h hx), upd_ne (ne_of_none h hdx)]
    exact h
theorem x1_back {p D : Addr} {o u : HO} {H H' : Hp} (hD : H D = some u) (e : Ex1 p (upd H D o) H') : Ex1 p H (upd H' D u) := fun y x hy h => by
  by_cases hd : y = D
  · subst hd
    rw [upd_same]
    rw [hD] at h
    exact h
  · rw [upd_ne hd]
    exact e y x hy ((upd_ne hd).trans h)
theorem run_same {n : Nat} {S : List Stp} {E E' : List Nat} : ∀ {u : List Sg} {x y : Nat}, run ⟨n, S, E⟩ x u y → run ⟨n, S, E'⟩ x u y
  | [], _, _, h => h
  | _ :: u, _, _, ⟨r, h1, h2⟩ => ⟨r, h1, run_same h2⟩
/-- which pairs the table tells -/
def Tab (qs : List Qs) (ts : List (En (Nat × Nat))) (i j : Nat) : Prop := ∀ a b qa qb, qs[a]? = some qa → qs[b]? = some qb → (a < i ∨ (a = i ∧ b < j)) → atE ts (a, b) = some (.bl (dec (Win qa qb)))
theorem get_so {H : Hp} {d : Addr} {ts : List (En (Nat × Nat))} {i j : Nat} {v : V} (hd : H d = some (DN P w d ts)) (hk : Keys K H ts) (ht : atE ts (i, j) = some v) (Q : VK) (k : ∀ H', Ex H H' → Q v H') :
    [V.int (i : Int), .int (j : Int)].length ≤ sizeLine ∧ ∀ T, H T = none → rIxN (Nat × Nat) ⟨P, w, K⟩ (.ref d) (.ref T) (upd H T (.tup [.int (i : Int), .int (j : Int)])) Q :=
  ⟨by show 2 ≤ sizeLine; decide, fun T hT => ⟨ts, (i, j), v, ⟨T, d, rfl, rfl, .inl (Ex.new hT _ _ hd), hk.ld (Ex.new hT).ld, pair_dp sqt_new (nat_dp i) (nat_dp j)⟩, ht, k _ (Ex.new hT)⟩⟩
theorem all_bl {m : List Bool} {acc : List V} (h : Paired (fun (b : Bool) y => y = V.bl b) m acc) : acc = m.map V.bl := by
  induction h with
  | nil => rfl
  | cons h _ ih => rw [h, ih]; rfl
theorem askL_same {S : Sto} {q q' : Qs} (h : Win q q') (h' : Win q' q) (ok : TiesOk S.n S.ties) : askL S q = askL S q' := by
  unfold askL
  rw [cp_congr fun i j _ _ => ?_]
  rw [Bool.eq_iff_iff, dec_iff, dec_iff]
  exact ⟨h.all (ties_low ok), h'.all (ties_low ok)⟩
theorem sc_law_right : FnScope ["_law_pot_here", "_law_drawn", "_law_so", "_law_at", "_law_some", "_law_stores_here", "_law_many", "_law_steps", "_law_ends", "_law_one", "_law_place", "_law_turn", "_law_other", "_law_far", "_law_store"] ["_law_pot_here"] (defScope y_law_right) := ⟨rfl, rfl, rfl, by decide +kernel, rfl, by decide +kernel, by decide +kernel⟩
def sp_law_right : Sp := fun vs H Q _ => ∃ p : Addr, vs = [.ref p] ∧ PotAt H p ∧ ∀ H', Ex1 p H H' → Q (.bl true) H'
theorem c_law_right (T : Tx K mg CS CQ) (F : Fx K mg "_law_right" y_law_right ["_law_pot_here"] f fd) (c_law_question : Cal P w K mg base 3 "_law_question" (hid (sp_law_question K)) []) (c_Question : Mak P w K mg base 5 "Question" CQ (hid (sp_question_init K CQ)) [])
    (c_law_stores : Cal P w K mg base 9 "_law_stores" (hid (sp_law_stores P w K CS)) []) (c_law_draw : Cal P w K mg base 1 "_law_draw" sp_law_draw []) (c_lies_within : Cal P w K mg base 10 "lies_within" (sp_lies_within K CQ) []) (c_law_pair_right : Cal P w K mg base 11 "_law_pair_right" (sp_law_pair P w K CS CQ) [])
    (c_are_alike : Cal P w K mg base 10 "are_alike" (sp_are_alike K CQ) []) (c_asked : Cal P w K mg base 4 "asked" (sp_asked P w K CS CQ) []) : Cal P w K mg base 12 "_law_right" sp_law_right [] := by
  refine F.cal sc_law_right (fun vs H Q E h => ?_) (fun cdv A outer s H vs Q E hr h => ?_)
  · obtain ⟨p, rfl, _⟩ := h
    rfl
  obtain ⟨p, rfl, hp, k⟩ := h
  have hu := hu100 hr
  refine ⟨_, (pss_cons (ps_setLc (i := 1) (own := [("_law_turn", 11)]) rfl sc_law_right.nd rfl rfl (sw_true rfl rfl rfl (by decide +kernel)) ((pi_range1 (by rfl) T.range (pa_cons pe_int pa_nil))) (blkOk_by (by kernel_rfl)) (fun _ _ _ _ _ => (pn 11 sc_law_right.nd)) (fun _ _ _ _ _ => pts_nil) (fun _ _ _ _ _ => (pe_c c_law_question hr (by decide) (by rfl) (pa_cons (pv 0) (pa_cons pe_int pa_nil)))))
    (pss_cons (ps_asg (pe_tup (pa_cons (pe_lc (own := [("_law_many", 6), ("_law_steps", 7), ("_law_ends", 8)]) rfl sc_law_right.nd ((k_list (K := K) rfl (pv 1))) (blkOk_by (by kernel_rfl)) (fun _ _ _ _ _ => (k_gtup (n := 3) (K := K) rfl rfl (pgs_cons (pn 6 sc_law_right.nd) (pgs_cons (pn 7 sc_law_right.nd) (pgs_cons (pn 8 sc_law_right.nd) pgs_nil))))) (fun _ _ _ _ _ => pts_nil) (fun _ _ _ _ _ => (pe_mk c_Question hr (by decide) (by rfl) (pa_cons (pv 6) (pa_cons (pv 7) (pa_cons (pv 8) pa_nil)))))) (pa_cons (pe_c c_law_stores hr (by decide) (by rfl) (pa_cons (pv 0) pa_nil)) pa_nil))) (k_gtup (n := 2) (K := K) rfl rfl (pgs_cons (pn 4 sc_law_right.nd) (pgs_cons (pn 5 sc_law_right.nd) pgs_nil))))
    (pss_cons (ps_asg (pe_ix (k_ixl (K := K) rfl) (pv 1) pe_int (fun _ _ => rfl)) (k_gtup (n := 3) (K := K) rfl rfl (pgs_cons (pn 6 sc_law_right.nd) (pgs_cons (pn 7 sc_law_right.nd) (pgs_cons (pn 8 sc_law_right.nd) pgs_nil)))))
    (pss_cons (ps_expr (pe_bm PySem.F.plainAttrs_list PySem.F.slot_list_append PySem.F.type_list_append mt_append (pv 4) (pa_cons (pe_mk c_Question hr (by decide) (by rfl) (pa_cons (pv 6) (pa_cons (pv 7) (pa_cons (pe_callB (k_sset (w := w) rfl rfl) (by rfl) T.sorted (by decide +kernel) (pa_cons (pe_callTy (k_setL (O := ⟨P, w, K⟩) rfl rfl) (by rfl) T.set (by decide +kernel) (pa_cons (pe_op (op_cat) (pv 8) (pe_lst (pa_cons (pe_c c_law_draw hr (by decide) (by rfl) (pa_cons (pv 0) (pa_cons (pv 6) pa_nil))) pa_nil))) pa_nil)) pa_nil)) pa_nil)))) pa_nil)))
    (pss_cons (pset 2 sc_law_right.nd (k_new (α := Nat × Nat) (O := ⟨P, w, K⟩) rfl))
    (pss_cons (ps_for PassesOwn.never rfl (k_enum (K := K) rfl (by rfl) T.enumerate (pa_cons (pv 4) pa_nil)) (k_gtup (n := 2) (K := K) rfl rfl (pgs_cons (pn 3 sc_law_right.nd) (pgs_cons (pn 9 sc_law_right.nd) pgs_nil))) (pss_one (ps_for PassesOwn.never rfl (k_enum (K := K) rfl (by rfl) T.enumerate (pa_cons (pv 4) pa_nil)) (k_gtup (n := 2) (K := K) rfl rfl (pgs_cons (pn 10 sc_law_right.nd) (pgs_cons (pn 12 sc_law_right.nd) pgs_nil))) (pss_cons (ps_asg (pe_c c_lies_within hr (by decide) (by rfl) (pa_cons (pv 9) (pa_cons (pv 12) pa_nil))) (pg_sub (pv 2) (pe_tup (pa_cons (pv 3) (pa_cons (pv 10) pa_nil))) (k_setN (α := Nat × Nat) (O := ⟨P, w, K⟩) hu rfl)))
    (pss_one (ps_if (pt_not (pt_val (pe_c c_law_pair_right hr (by decide) (by rfl) (pa_cons (pv 9) (pa_cons (pv 12) (pa_cons (pv 5) pa_nil)))))) (pss_one (ps_ret pe_bl)) pss_nil))))))
    (pss_cons (ps_for PassesOwn.never rfl (pi_range1 (by rfl) T.range (pa_cons pe_int pa_nil)) (pn 3 sc_law_right.nd) (pss_one (ps_for PassesOwn.never rfl (pi_range1 (by rfl) T.range (pa_cons pe_int pa_nil)) (pn 10 sc_law_right.nd) (pss_cons (ps_if (pt_cmpR (op_ne) (pe_c c_are_alike hr (by decide) (by rfl) (pa_cons (pe_ix (k_ixl (K := K) rfl) (pv 4) (pv 3) (fun _ _ => rfl)) (pa_cons (pe_ix (k_ixl (K := K) rfl) (pv 4) (pv 10) (fun _ _ => rfl)) pa_nil))) (pe_and (k_get (α := Nat × Nat) (O := ⟨P, w, K⟩) hu rfl (pv 2) (pe_tup (pa_cons (pv 3) (pa_cons (pv 10) pa_nil)))) (pe_one (k_get (α := Nat × Nat) (O := ⟨P, w, K⟩) hu rfl (pv 2) (pe_tup (pa_cons (pv 10) (pa_cons (pv 3) pa_nil)))))) (by rfl)) (pss_one (ps_ret pe_bl)) pss_nil)
    (pss_cons (ps_if (PW.pt (pw_and (pt_val (k_get (α := Nat × Nat) (O := ⟨P, w, K⟩) hu rfl (pv 2) (pe_tup (pa_cons (pv 3) (pa_cons (pv 10) pa_nil))))) (pw_and1 (pt_not (pt_val (pe_callB (k_all (K := K) rfl rfl) (by rfl) T.all (by decide +kernel) (pa_cons (pe_lc (own := [("_law_far", 13)]) rfl sc_law_right.nd ((pi_range1 (by rfl) T.range (pa_cons pe_int pa_nil))) (blkOk_by (by kernel_rfl)) (fun _ _ _ _ _ => (pn 13 sc_law_right.nd)) (fun _ _ _ _ _ => (pts_one (pt_val (k_get (α := Nat × Nat) (O := ⟨P, w, K⟩) hu rfl (pv 2) (pe_tup (pa_cons (pv 10) (pa_cons (pv 13) pa_nil))))))) (fun _ _ _ _ _ => (k_get (α := Nat × Nat) (O := ⟨P, w, K⟩) hu rfl (pv 2) (pe_tup (pa_cons (pv 3) (pa_cons (pv 13) pa_nil)))))) pa_nil))))))) (pss_one (ps_ret pe_bl)) pss_nil)
    (pss_one (ps_if (PW.pt (pw_and (pt_val (k_get (α := Nat × Nat) (O := ⟨P, w, K⟩) hu rfl (pv 2) (pe_tup (pa_cons (pv 3) (pa_cons (pv 10) pa_nil))))) (pw_and1 (pt_val (k_get (α := Nat × Nat) (O := ⟨P, w, K⟩) hu rfl (pv 2) (pe_tup (pa_cons (pv 10) (pa_cons (pv 3) pa_nil)))))))) (pss_one (ps_if (pt_not (pt_val (pe_callB (k_all (K := K) rfl rfl) (by rfl) T.all (by decide +kernel) (pa_cons (pe_lc (own := [("_law_store", 14)]) rfl sc_law_right.nd ((k_list (K := K) rfl (pv 5))) (blkOk_by (by kernel_rfl)) (fun _ _ _ _ _ => (pn 14 sc_law_right.nd)) (fun _ _ _ _ _ => pts_nil) (fun _ _ _ _ _ => (pe_cmpR (k_eqL (α := Nat × Nat) (O := ⟨P, w, K⟩) hu rfl) (pe_c c_asked hr (by decide) (by rfl) (pa_cons (pv 14) (pa_cons (pe_ix (k_ixl (K := K) rfl) (pv 4) (pv 3) (fun _ _ => rfl)) pa_nil))) (pe_c c_asked hr (by decide) (by rfl) (pa_cons (pv 14) (pa_cons (pe_ix (k_ixl (K := K) rfl) (pv 4) (pv 10) (fun _ _ => rfl)) pa_nil))) (by rfl)))) pa_nil)))) (pss_one (ps_ret pe_bl)) pss_nil)) pss_nil)))))))
    (pss_one (ps_ret (pe_and (k_get (α := Nat × Nat) (O := ⟨P, w, K⟩) hu rfl (pv 2) (pe_tup (pa_cons pe_int (pa_cons pe_int pa_nil)))) (pe_one (pe_callB (k_all (K := K) rfl rfl) (by rfl) T.all (by decide +kernel) (pa_cons (pe_lc (own := [("_law_at", 3)]) rfl sc_law_right.nd ((pi_range1 (by rfl) T.range (pa_cons pe_int pa_nil))) (blkOk_by (by kernel_rfl)) (fun _ _ _ _ _ => (pn 3 sc_law_right.nd)) (fun _ _ _ _ _ => pts_nil) (fun _ _ _ _ _ => (k_get (α := Nat × Nat) (O := ⟨P, w, K⟩) hu rfl (pv 2) (pe_tup (pa_cons (pv 3) (pa_cons (pv 3) pa_nil)))))) pa_nil))))))))))))), ?_⟩
  refine ⟨(2 : Int), rfl, by omega, by omega, fun D hD => ?_⟩
  have Dp' := hp.ne hD
  refine lc_it walk_range (fun i H' => Ex1 p H H' ∧ PotAt H' p ∧ ∃ (xs : List V) (qs : List (Nat × List Stp × List Nat)), H' D = some (.lst xs) ∧ qs.length = i ∧ Paired (fun q x => Dr K H' [D, p] x q) qs xs) ⟨(Ex.new hD).x1, hp.upd Dp', [], [], upd_same, rfl, .nil⟩ (fun _ _ _ _ => trivial) ?_ ?_
  · rintro i v3 Hg _ hi ⟨eg, potg, xs, qs, hxs, lq, pr⟩ ⟨rfl, rfl⟩
    have hi : i < 2 := hi
    have lx : xs.length = i := by rw [← Paired.length pr, lq]
    refine ⟨rfl, _, rfl, D, xs, hxs, fun o => ⟨p, rfl, potg.upd Dp', fun v n S E2 H2 e2 pot2 dr => ?_⟩⟩
    have h2D := e2 D _ Dp' upd_same
    refine ⟨h2D, xs, upd_same, by rw [sizeLine_eq]; omega, ?_⟩
    have e4 := x1_back hxs e2
    have lt1 : Lt H2 (upd H2 D (.lst xs)) := Lt.mut (own_noT h2D)
    have lt2 : Lt (upd H2 D (.lst xs)) (upd (upd H2 D (.lst xs)) D (.lst (xs ++ [v]))) := Lt.mut (noT_lst upd_same)
    have lt0 := (potg.lt e4).trans lt2
    obtain ⟨T3, ls, le, xl, rfl, hT, hls, dls, hle, n1, n2, qin⟩ := dr
    have d1 : ls ≠ D := fun z => by rw [z, h2D] at hls; cases hls
    have d2 : le ≠ D := fun z => by rw [z, h2D] at hle; cases hle
    refine ⟨(eg.trans e4).mut hD, (pot2.upd Dp').upd Dp', xs ++ [.ref T3], qs ++ [(n, S, E2)], upd_same, by simp [lq], ?_⟩
    refine Paired.snoc (pr.mono fun q x d => d.stay lt0 fun y u hy h => ?_) ⟨T3, ls, le, xl, rfl, sqt_lt (lt1.trans lt2) hT, ?_, dats_lt (lt1.trans lt2) dls, ?_, by simp [d1, n1], by simp [d2, n2], qin⟩
    · rw [upd_ne d1, upd_ne d1]
      exact hls
    · rw [upd_ne d2, upd_ne d2]
      exact hle
    · have y1 : y ≠ D := fun z => hy (by simp [z])
      have y2 : y ≠ p := fun z => hy (by simp [z])
      rw [upd_ne y1]
      exact e4 _ _ y2 h
  · rintro Hn ⟨en, potn, xs, qs, hxs, lq, pr⟩
    obtain ⟨qa, qb, rfl⟩ : ∃ qa qb, qs = [qa, qb] := by
      match qs, lq with
      | [qa, qb], _ => exact ⟨qa, qb, rfl⟩
    obtain ⟨x0, x1, rfl, r0, r1⟩ : ∃ x0 x1, xs = [x0, x1] ∧ Dr K Hn [D, p] x0 qa ∧ Dr K Hn [D, p] x1 qb := by
      cases pr with
      | cons a b =>
        cases b with
        | cons c d =>
          cases d
          exact ⟨_, _, rfl, a, c⟩
    clear pr lq
    refine ⟨_, rfl, D, rfl, ⟨_, SqL.of hxs⟩, fun D2 hD2 => ?_⟩
    have D2p := potn.ne hD2
    have D2n := en.back D2p hD2
    refine lc_tw (tw_list (K := K) (R := fun q H x => Dr K H [D2, D, p] x q) (l := [qa, qb]) (xs := [x0, x1])) (fun (q : Nat × List Stp × List Nat) (H : Hp) (x : V) => QOff K CQ D2 H x ⟨q.1, srt q.2.1, srt q.2.2⟩) some hD2 (fun H' e => ⟨SqL.of (e _ _ hxs), .cons ((r0.new hD2).ex e) (.cons ((r1.new hD2).ex e) .nil)⟩)
      (fun q H' y acc acc' h s => s.x1 fun y u hy h => (upd_ne hy).trans h) (fun q H' H2 y e s => s.x1 e.x1) (by show 2 ≤ sizeLine; decide) (fun q x Hc acc N M hq ec hacc hR hN hM => ?_) fun H1 acc e1 hacc ha => ?_
    · obtain ⟨T3, ls, le, xl, rfl, hT, hls, dls, hle, n1, n2, qin⟩ := hR
      have d1 : ls ≠ D2 := fun z => n1 (by simp [z])
      have d2 : le ≠ D2 := fun z => n2 (by simp [z])
      refine ⟨_, _, rfl, hT, rfl, _, _, rfl, _, _, rfl, _, _, rfl, rfl, rfl, ?_⟩
      refine ⟨_, rfl, _, rfl, _, rfl, ?_⟩
      exact hid_mkq hacc (fun o => .lst (SqL.of ((upd_ne d1).trans hls)) (dats_lt (Lt.mut (noT_lst hacc)) dls)) (fun o => .lst (SqL.of ((upd_ne d2).trans hle)) (nats_dp' _)) qin fun x Hd ed _ qo => ⟨rfl, hN q _ Hd rfl ed qo⟩
    · obtain ⟨v0, v1, rfl, q0, q1⟩ : ∃ v0 v1, acc = [v0, v1] ∧ QOff K CQ D2 H1 v0 ⟨qa.1, srt qa.2.1, srt qa.2.2⟩ ∧ QOff K CQ D2 H1 v1 ⟨qb.1, srt qb.2.1, srt qb.2.2⟩ := by
        cases ha with
        | cons a b =>
          cases b with
          | cons c d =>
            cases d
            exact ⟨_, _, rfl, a, c⟩
      clear ha
      have pot1 := potn.ex e1
      refine ⟨_, rfl, D2, _, hacc, fun o => ⟨p, rfl, pot1.upd D2p, fun vst H2 e2 pot2 st2 => ?_⟩⟩
      have h2D := e2 D2 _ D2p upd_same
      refine ⟨h2D, ?_⟩
      have e12 := x1_back hacc e2
      have st3 : StOff P w K CS D2 p (upd H2 D2 (.lst [v0, v1])) vst := ⟨o, st2.x1 fun y u hy h => by
        by_cases hd : y = D2
        · subst hd
          rw [upd_same]
          rw [h2D] at h
          exact h
        · rw [upd_ne hd, upd_ne hd]
          exact h⟩
      have pot3 : PotAt (upd H2 D2 (.lst [v0, v1])) p := pot2.upd D2p
      have h3D : (upd H2 D2 (.lst [v0, v1])) D2 = some (.lst [v0, v1]) := upd_same
      show (fun H3 => _) (upd H2 D2 (.lst [v0, v1]))
      generalize upd H2 D2 (.lst [v0, v1]) = H3 at e12 st3 pot3 h3D
      have q0 := q0.pot D2p pot1 e12
      have q1 := q1.pot D2p pot1 e12
      have e03 := (en.trans e1.x1).trans e12
      have r0 : Dr K H3 [D2, D, p] x0 qa := ((r0.new hD2).ex e1).stay (pot1.lt e12) fun y u hy h => e12 _ _ (fun z => hy (by simp [z])) h
      have h3 := e12 _ _ Dp' (e1 _ _ hxs)
      clear h2D st2 e2 e12 e1 pot1 pot2 r1 hacc
      refine ⟨by show 2 ≤ sizeLine; decide, fun T4 hT4 => ?_⟩
      have e34 := Ex.new (o := .tup [.ref D2, vst]) hT4
      refine ⟨_, _, rfl, sqt_new, rfl, _, _, rfl, _, _, rfl, rfl, ?_⟩
      have q0 := q0.x1 e34.x1
      have q1 := q1.x1 e34.x1
      have r0 := r0.ex e34
      have st4 := st3.x1 D2p e34.x1
      have pot4 := pot3.ex e34
      have h4D2 := e34 _ _ h3D
      have h4D := e34 _ _ h3
      have e04 := e03.trans e34.x1
      show (fun (H4 : Hp) => _) (upd H3 T4 (.tup [.ref D2, vst]))
      generalize upd H3 T4 (.tup [.ref D2, vst]) = H4 at q0 q1 r0 st4 pot4 h4D2 h4D e04
      clear e34 hT4 st3 pot3 h3 h3D e03
      obtain ⟨T3, ls, le, xl, rfl, hT, hls, dls, hle, n1, n2, qin⟩ := r0
      refine ⟨_, rfl, D, _, 0, _, rfl, rfl, SqL.of h4D, rfl, _, _, rfl, hT, rfl, _, _, rfl, _, _, rfl, _, _, rfl, rfl, ?_⟩
      -- the third question
      refine ⟨_, rfl, .inl ⟨rfl, _, SqL.of h4D2⟩, _, rfl, _, rfl, ?_⟩
      have n3 := qin.n3
      have n0 := qin.pos
      refine ⟨_, rfl, _, rfl, _, rfl, p, qa.1, rfl, pot4, n0, by omega, fun r H5 hr5 e45 pot5 => ⟨by show 1 ≤ sizeLine; decide, fun l1 hl1 => ?_⟩⟩
      have l1p := pot5.ne hl1
      have lep : le ≠ p := fun z => n2 (by simp [z])
      have lsp : ls ≠ p := fun z => n1 (by simp [z])
      have e56 := Ex.new (o := .lst [V.int (r : Int)]) hl1
      have e46 : Ex1 p H4 (upd H5 l1 (.lst [V.int (r : Int)])) := e45.trans e56.x1
      have lenE : qa.2.2.length ≤ 3 := qin.e1000
      refine ⟨le, l1, _, _, rfl, rfl, e46 _ _ lep hle, upd_same, by simp [sizeLine_eq]; omega, fun l2 hl2 => ?_⟩
      have e47 : Ex1 p H4 (upd (upd H5 l1 (.lst [V.int (r : Int)])) l2 (.lst (nats qa.2.2 ++ [V.int (r : Int)]))) := e46.trans (Ex.new hl2).x1
      have pot7 : PotAt (upd (upd H5 l1 (.lst [V.int (r : Int)])) l2 (.lst (nats qa.2.2 ++ [V.int (r : Int)]))) p := (pot5.ex e56).ex (Ex.new hl2)
      have eN : nats qa.2.2 ++ [V.int (r : Int)] = ((qa.2.2 ++ [r]).map fun n : Nat => (n : Int)).map V.int := by simp [nats]
      have h7l2 : (upd (upd H5 l1 (.lst [V.int (r : Int)])) l2 (.lst (nats qa.2.2 ++ [V.int (r : Int)]))) l2 = some (.lst (nats qa.2.2 ++ [V.int (r : Int)])) := upd_same
      show (fun (H7 : Hp) => _) (upd (upd H5 l1 (.lst [V.int (r : Int)])) l2 (.lst (nats qa.2.2 ++ [V.int (r : Int)])))
      generalize upd (upd H5 l1 (.lst [V.int (r : Int)])) l2 (.lst (nats qa.2.2 ++ [V.int (r : Int)])) = H7 at e47 pot7 h7l2
      clear e56 e46 hl2 hl1 e45 pot5
      refine ⟨l2, (qa.2.2 ++ [r]).map fun n : Nat => (n : Int), rfl, by rw [← eN]; exact SqL.of h7l2, ?_, fun p2 c2 hc2 hp2 => ⟨p2, _, c2, rfl, upd_same, ?_, fun ns p3 hs hm hln hp3 => ?_⟩⟩
      · rw [List.length_map, List.length_append, List.length_singleton]
        unfold scanBound
        omega
      · rw [List.length_map, List.length_append, List.length_singleton] at hc2
        omega
      obtain ⟨E3, w1, w2, w3⟩ := sset_back hs hm
      rw [w1]
      have e79 := (Ex.new hp2).put (o := .lst (nats E3)) hp3
      have h9 : (upd (upd H7 p2 (SetO w p2 (fun j => decide (j ∈ (qa.2.2 ++ [r]).map fun n : Nat => (n : Int))) c2)) p3 (.lst (nats E3))) p3 = some (.lst (nats E3)) := upd_same
      show (fun (H9 : Hp) => _) (upd (upd H7 p2 (SetO w p2 (fun j => decide (j ∈ (qa.2.2 ++ [r]).map fun n : Nat => (n : Int))) c2)) p3 (.lst (nats E3)))
      have p3D : p3 ≠ D2 := fun z => by
        have := (Ex.new (o := SetO w p2 (fun j => decide (j ∈ (qa.2.2 ++ [r]).map fun n : Nat => (n : Int))) c2) hp2) _ _ (e47 _ _ D2p h4D2)
        rw [← z] at this
        exact nomatch hp3.symm.trans this
      generalize upd (upd H7 p2 (SetO w p2 (fun j => decide (j ∈ (qa.2.2 ++ [r]).map fun n : Nat => (n : Int))) c2)) p3 (.lst (nats E3)) = H9 at e79 h9
      have e49 := e47.trans e79.x1
      have pot9 := pot7.ex e79
      clear hp3 hm hs hc2 hp2 e79 e47 pot7 h7l2
      have lsD : ls ≠ D2 := fun z => n1 (by simp [z])
      have hD9 := e49 _ _ D2p h4D2
      have q0 := q0.pot D2p pot4 e49
      have q1 := q1.pot D2p pot4 e49
      have st9 := st4.x1 D2p e49
      have dls9 := dats_lt (pot4.lt e49) dls
      have hls9 := e49 _ _ lsp hls
      have e09 := e04.trans e49
      have mE : ∀ x, x ∈ E3 ↔ x ∈ qa.2.2 ∨ x = r := fun x => by rw [w3, List.mem_append, List.mem_singleton]
      have qin3 : QIn qa.1 qa.2.1 E3 := ⟨qin.pos, qin.n3, qin.s7, qin.sd, qin.sb, lt_nodup w2, fun e he => ((mE e).mp he).elim (qin.eb e) fun z => z ▸ hr5⟩
      refine hid_mkq hD9 (fun o => .lst (SqL.of ((upd_ne lsD).trans hls9)) (dats_lt (Lt.mut (noT_lst hD9)) dls9)) (fun o => .lst (SqL.of ((upd_ne p3D).trans h9)) (nats_dp' _)) qin3 fun x Ha ea hDa qo => ⟨rfl, ?_⟩
      have q0 := q0.x1 ea.x1
      have q1 := q1.x1 ea.x1
      have sta := st9.x1 D2p ea.x1
      refine ⟨D2, _, _, rfl, rfl, hDa, by show 2 < sizeLine; decide, ?_⟩
      have eD : Ex1 D2 Ha (upd Ha D2 (.lst ([v0, v1] ++ [.ref x]))) := fun y u hy h => (upd_ne hy).trans h
      have qa0 := (q0.x1 eD).qat
      have qa1 := (q1.x1 eD).qat
      have qa2 := (qo.x1 eD).qat
      have st := (sta.xD eD).sts D2p
      have eb : Ex1 p H (upd Ha D2 (.lst ([v0, v1] ++ [.ref x]))) := (e09.trans ea.x1).mut D2n
      have hDb : (upd Ha D2 (.lst ([v0, v1] ++ [.ref x]))) D2 = some (.lst [v0, v1, .ref x]) := upd_same
      show (fun (Hb : Hp) => _) (upd Ha D2 (.lst ([v0, v1] ++ [.ref x])))
      generalize upd Ha D2 (.lst ([v0, v1] ++ [.ref x])) = Hb at qa0 qa1 qa2 st eb hDb
      have win02 : Win ⟨qa.1, srt qa.2.1, srt qa.2.2⟩ ⟨qa.1, srt qa.2.1, srt E3⟩ := .of_reads fun u ⟨e, he, hrun⟩ => ⟨e, mem_srt.mpr ((mE e).mpr (.inl (mem_srt.mp he))), run_same hrun⟩
      generalize (⟨qa.1, srt qa.2.1, srt E3⟩ : Qs) = Q2 at qa2 win02
      generalize (⟨qa.1, srt qa.2.1, srt qa.2.2⟩ : Qs) = Q0 at qa0 win02
      generalize (⟨qb.1, srt qb.2.1, srt qb.2.2⟩ : Qs) = Q1 at qa1
      clear q0 q1 qo sta st9 ea hDa e09 qin3 mE w3 w2 w1 dls9 hls9 hD9 pot9 e49 h9 lsD p3D eD
      have aq : All (fun (q : Qs) (_ : Hp) (x : V) => QAt K CQ Hb x q) [Q0, Q1, Q2] Hb [v0, v1, .ref x] := .cons qa0 (.cons qa1 (.cons qa2 .nil))
      have hw02 : ∀ q0 q2, [Q0, Q1, Q2][0]? = some q0 → [Q0, Q1, Q2][2]? = some q2 → Win q0 q2 := fun a b h1 h2 => by
        cases h1
        cases h2
        exact win02
      have lqs : [Q0, Q1, Q2].length = 3 := rfl
      clear qa0 qa1 qa2 win02
      generalize [Q0, Q1, Q2] = qs at aq hw02 lqs
      generalize ([v0, v1, .ref x] : List V) = vs at aq hDb
      have aqH : ∀ H' : Hp, All (fun (q : Qs) (_ : Hp) (x : V) => QAt K CQ Hb x q) qs H' vs := fun H' => aq
      -- the table
      refine fun d hd => ?_
      have ed : Ex Hb (upd Hb d (DN (α := Nat × Nat) P w d [])) := Ex.new hd
      refine ⟨_, rfl, D2, _, rfl, SqL.of (ed _ _ hDb), ?_⟩
      refine for_tw (tw_enum (K := K) (R := fun (q : Qs) (_ : Hp) (x : V) => QAt K CQ Hb x q) (l := qs) (xs := vs) (fun _ _ _ _ _ h => h)) (fun i σ' H' => ∃ (b1 b3 b6 b7 b8 b9 b10 b11 b12 b13 b14 : Option V) (ts : List (En (Nat × Nat))), σ' = [some (.ref p), b1, some (.ref d), b3, some (.ref D2), some vst, b6, b7, b8, b9, b10, b11, b12, b13, b14] ∧
        Ex Hb H' ∧ H' d = some (DN P w d ts) ∧ Keys K H' ts ∧ ts.length ≤ 3 * i ∧ Tab qs ts i 0)
        ⟨_, _, _, _, _, _, _, _, _, _, _, [], rfl, ed, upd_same, Keys.nil, Nat.zero_le _, fun a b qa qb _ _ h => by omega⟩ ?_ ?_ ?_
      · rintro i σ' H' _ ⟨_, _, _, _, _, _, _, _, _, _, _, ts, rfl, e, _⟩
        exact ⟨SqL.of (e _ _ hDb), aqH H'⟩
      · rintro i a xa σ' H3 H4 hi ⟨_, _, _, _, _, _, _, _, _, _, _, ts, rfl, e3, hdn, hk, hl, tb⟩ e34 hx
        obtain ⟨T1, y, rfl, hT1, hy⟩ := hx
        obtain ⟨i1, i2⟩ := num_get hi
        obtain ⟨i', qi⟩ := a
        simp only at i1 i2 hT1 hy
        subst i1
        have e4 := e3.trans e34
        refine ⟨_, _, rfl, hT1, rfl, _, _, rfl, _, _, rfl, rfl, ?_⟩
        refine ⟨_, rfl, D2, _, rfl, SqL.of (e4 _ _ hDb), ?_⟩
        refine for_tw (tw_enum (K := K) (R := fun (q : Qs) (_ : Hp) (x : V) => QAt K CQ Hb x q) (l := qs) (xs := vs) (fun _ _ _ _ _ h => h)) (fun j σ' H' => ∃ (b1 b6 b7 b8 b10 b11 b12 b13 b14 : Option V) (ts : List (En (Nat × Nat))), σ' = [some (.ref p), b1, some (.ref d), some (.int (i' : Int)), some (.ref D2), some vst, b6, b7, b8, some y, b10, b11, b12, b13, b14] ∧
          Ex Hb H' ∧ H' d = some (DN P w d ts) ∧ Keys K H' ts ∧ ts.length ≤ 3 * i' + j ∧ Tab qs ts i' j)
          ⟨_, _, _, _, _, _, _, _, _, ts, rfl, e4, e34 _ _ hdn, hk.ld e34.ld, hl, tb⟩ ?_ ?_ ?_
        · rintro j σ' H' _ ⟨_, _, _, _, _, _, _, _, _, ts, rfl, e, _⟩
          exact ⟨SqL.of (e _ _ hDb), aqH H'⟩
        · rintro j b xb σ' H5 H6 hj ⟨_, _, _, _, _, _, _, _, _, ts, rfl, e5, hd5, hk5, hl5, tb5⟩ e56 hx
          obtain ⟨T2, z, rfl, hT2, hz⟩ := hx
          obtain ⟨j1, j2⟩ := num_get hj
          obtain ⟨j', qj⟩ := b
          simp only at j1 j2 hT2 hz
          subst j1
          have e6 := e5.trans e56
          refine ⟨_, _, rfl, hT2, rfl, _, _, rfl, _, _, rfl, rfl, ?_⟩
          refine ⟨_, rfl, _, rfl, _, ⟨y, z, qi, qj, rfl, hy.ex e6, hz.ex e6, rfl⟩, fun H7 e7 => ⟨_, rfl, _, rfl, _, rfl, by show 2 ≤ sizeLine; decide, fun T5 hT5 => ?_⟩⟩
          have e8 := Ex.new (o := .tup [V.int (i' : Int), .int (j' : Int)]) hT5
          have e08 := (e6.trans e7).trans e8
          have e58 := (e56.trans e7).trans e8
          have dT : Dp K (upd H7 T5 (.tup [V.int (i' : Int), .int (j' : Int)])) (.ref T5) (dat ((i', j') : Nat × Nat)) := pair_dp sqt_new (nat_dp i') (nat_dp j')
          have hd8 := e58 _ _ hd5
          have hk8 := hk5.ld e58.ld
          show (fun (H8 : Hp) => _) (upd H7 T5 (.tup [V.int (i' : Int), .int (j' : Int)]))
          generalize upd H7 T5 (.tup [V.int (i' : Int), .int (j' : Int)]) = H8 at e8 e08 e58 dT hd8 hk8
          have li : i' < 3 := by rw [← lqs]; exact (List.getElem?_eq_some_iff.mp i2).1
          have lj : j' < 3 := by rw [← lqs]; exact (List.getElem?_eq_some_iff.mp j2).1
          refine ⟨ts, (i', j'), T5, d, rfl, rfl, hd8, hk8, dT, by rw [sizeLine_eq]; omega, ?_⟩
          have e9 := e08.mut (o := DN P w d (putE ts (i', j') T5 (.bl (dec (Win qi qj))))) hd
          have hk9 : Keys K (upd H8 d (DN P w d (putE ts (i', j') T5 (.bl (dec (Win qi qj)))))) (putE ts (i', j') T5 (.bl (dec (Win qi qj)))) := (hk8.put dT).lt (Lt.mut (noT_DN hd8))
          refine ⟨_, rfl, _, rfl, _, rfl, y, z, vst, qi, qj, p, rfl, hy.ex e9, hz.ex e9, st.x1 e9.x1, fun Hc ec => ⟨true, rfl, iteF ?_⟩⟩
          refine ⟨_, _, _, _, _, _, _, _, _, putE ts (i', j') T5 (.bl (dec (Win qi qj))), rfl, e9.trans ec, ec _ _ upd_same, hk9.ld ec.ld, Nat.le_trans (putE_len _ _ _ _) (by omega), fun a b qa qb ha hb h => ?_⟩
          rw [atE_putE]
          by_cases hab : (a, b) = (i', j')
          · rw [if_pos hab]
            cases hab
            rw [i2] at ha
            rw [j2] at hb
            cases ha
            cases hb
            rfl
          · rw [if_neg hab]
            refine tb5 a b qa qb ha hb ?_
            rcases h with h | ⟨h, h2⟩
            · exact .inl h
            · refine .inr ⟨h, ?_⟩
              have : b ≠ j' := fun z => hab (by rw [h, z])
              omega
        · rintro σ' H5 ⟨_, _, _, _, _, _, _, _, _, ts, rfl, e5, hd5, hk5, hl5, tb5⟩
          rw [num_len, lqs] at hl5 tb5
          refine ⟨_, _, _, _, _, _, _, _, _, _, _, ts, rfl, e5, hd5, hk5, by omega, fun a b qa qb ha hb h => tb5 a b qa qb ha hb ?_⟩
          have lb : b < 3 := by rw [← lqs]; exact (List.getElem?_eq_some_iff.mp hb).1
          omega
      · rintro σ' Hc ⟨_, _, _, _, _, _, _, _, _, _, _, ts, rfl, ec, hdc, hkc, _, tb⟩
        rw [num_len, lqs] at tb
        have tab : ∀ a b qa qb, qs[a]? = some qa → qs[b]? = some qb → atE ts (a, b) = some (.bl (dec (Win qa qb))) := fun a b qa qb ha hb => tb a b qa qb ha hb (.inl (by rw [← lqs]; exact (List.getElem?_eq_some_iff.mp ha).1))
        have hDc := ec _ _ hDb
        have stc := st.x1 ec.x1
        have aqc : All (fun (q : Qs) (_ : Hp) (x : V) => QAt K CQ Hc x q) qs Hc vs := all_mono (fun _ _ h => h.ex ec) aq
        have ebc := eb.trans ec.x1
        clear tb aq aqH st eb hDb ed hd ec
        have sh : ∀ i, i < 3 → ∃ q x, qs[i]? = some q ∧ vs[i]? = some x ∧ QAt K CQ Hc x q := fun i hi => by
          have hq : qs[i]? = some (qs[i]'(by omega)) := List.getElem?_eq_getElem _
          obtain ⟨x, h1, h2⟩ := all_at aqc hq
          exact ⟨_, x, hq, h1, h2⟩
        have keep : ∀ {H'}, Ex Hc H' → H' d = some (DN P w d ts) ∧ Keys K H' ts := fun e => ⟨e _ _ hdc, hkc.ld e.ld⟩
        refine ⟨3, rfl, by omega, by omega, ?_⟩
        refine for_tw (tw_range (K := K) (n := 3)) (fun i σ' H' => ∃ (b1 b3 b6 b7 b8 b9 b10 b11 b12 b13 b14 : Option V), σ' = [some (.ref p), b1, some (.ref d), b3, some (.ref D2), some vst, b6, b7, b8, b9, b10, b11, b12, b13, b14] ∧ Ex Hc H')
          ⟨_, _, _, _, _, _, _, _, _, _, _, rfl, .refl _⟩ (fun _ _ _ _ _ => trivial) ?_ ?_
        · rintro i a xa σ' H3 H4 hi ⟨_, _, _, _, _, _, _, _, _, _, _, rfl, e3⟩ e34 hx
          have hx := dp_nat hx
          subst hx
          have li : a < 3 := by simpa using List.mem_of_getElem? hi
          obtain ⟨qi, vi, hqi, hvi, ai⟩ := sh a li
          refine ⟨3, rfl, by omega, by omega, ?_⟩
          refine for_tw (tw_range (K := K) (n := 3)) (fun i σ' H' => ∃ (b1 b6 b7 b8 b9 b10 b11 b12 b13 b14 : Option V), σ' = [some (.ref p), b1, some (.ref d), some (.int (a : Int)), some (.ref D2), some vst, b6, b7, b8, b9, b10, b11, b12, b13, b14] ∧ Ex Hc H')
            ⟨_, _, _, _, _, _, _, _, _, _, rfl, e3.trans e34⟩ (fun _ _ _ _ _ => trivial) ?_ ?_
          · rintro j b xb σ' H5 H6 hj ⟨_, _, _, _, _, _, _, _, _, _, rfl, e5⟩ e56 hx
            have hx := dp_nat hx
            subst hx
            have lj : b < 3 := by simpa using List.mem_of_getElem? hj
            obtain ⟨qj, vj, hqj, hvj, aj⟩ := sh b lj
            have e6 := e5.trans e56
            refine ⟨_, rfl, _, rfl, D2, vs, _, vi, rfl, rfl, SqL.of (e6 _ _ hDc), atI_nat hvi, _, rfl, _, rfl, D2, vs, _, vj, rfl, rfl, SqL.of (e6 _ _ hDc), atI_nat hvj, _, ⟨vi, vj, qi, qj, rfl, ai.ex e6, aj.ex e6, rfl⟩, fun H7 e7 => ?_⟩
            have e7 := e6.trans e7
            obtain ⟨d7, k7⟩ := keep e7
            refine ⟨_, rfl, _, rfl, _, rfl, get_so d7 k7 (tab _ _ _ _ hqi hqj) _ fun H8 e8 => ⟨_, rfl, ?_⟩⟩
            have e8 := e7.trans e8
            obtain ⟨d8, k8⟩ := keep e8
            cases hij : dec (Win qi qj) with
            | false =>
              refine iteF ⟨rfl, _, rfl, dNP rfl ?_⟩
              refine ⟨_, rfl, _, rfl, _, rfl, get_so d8 k8 (tab _ _ _ _ hqi hqj) _ fun H9 e9 => ⟨false, congrArg V.bl hij, iteF (iteF ?_)⟩⟩
              have e9 := e8.trans e9
              obtain ⟨d9, k9⟩ := keep e9
              refine ⟨_, rfl, _, rfl, _, rfl, get_so d9 k9 (tab _ _ _ _ hqi hqj) _ fun Ha ea => ⟨false, congrArg V.bl hij, iteF (iteF ?_)⟩⟩
              exact ⟨_, _, _, _, _, _, _, _, _, _, rfl, e9.trans ea⟩
            | true =>
              refine iteT ?_
              refine ⟨_, rfl, _, rfl, _, rfl, get_so d8 k8 (tab _ _ _ _ hqj hqi) _ fun H9 e9 => ⟨rfl, _, rfl, dNP rfl ?_⟩⟩
              have e9 := e8.trans e9
              obtain ⟨d9, k9⟩ := keep e9
              refine ⟨_, rfl, _, rfl, _, rfl, get_so d9 k9 (tab _ _ _ _ hqi hqj) _ fun Ha ea => ⟨true, congrArg V.bl hij, iteT ?_⟩⟩
              have ea := e9.trans ea
              refine ⟨3, rfl, by omega, by omega, fun D9 hD9 => ?_⟩
              refine lc_tw (tw_range (K := K) (n := 3)) (fun (b : Bool) (_ : Hp) (y : V) => y = .bl b) (fun far => if dec (Win qj ((qs[far]?).getD qi)) = true then some true else none) hD9 (fun _ _ => trivial) (fun _ _ _ _ _ _ h => h) (fun _ _ _ _ _ h => h) (by show 3 ≤ sizeLine; decide) (fun far xf Hd acc N M hf ed hacc hxf hN hM => ?_) fun Hd acc ed hacc ha => ?_
              · have hxf := dp_nat hxf
                subst hxf
                obtain ⟨qf, vf, hqf, _⟩ := sh far (by simpa using hf)
                have ed := ea.trans ed
                obtain ⟨dd, kd⟩ := keep ed
                have ef : (qs[far]?).getD qi = qf := by rw [hqf]; rfl
                refine ⟨rfl, _, rfl, _, rfl, _, rfl, get_so dd kd (tab _ _ _ _ hqj hqf) _ fun He ee => ⟨_, rfl, ?_⟩⟩
                cases hjf : dec (Win qj qf) with
                | false => exact iteF (hM (by rw [ef, hjf]; rfl) He ee)
                | true =>
                  obtain ⟨de, ke⟩ := keep (ed.trans ee)
                  refine iteT ⟨_, rfl, _, rfl, _, rfl, get_so de ke (tab _ _ _ _ hqi hqf) _ fun Hg eg => hN true _ Hg (by rw [ef, hjf]; rfl) (ee.trans eg) ?_⟩
                  rw [dec_iff.mpr ((dec_iff.mp hij).trans (dec_iff.mp hjf))]
              · have el := all_bl ha
                have et : ((List.range 3).filterMap fun far => if dec (Win qj ((qs[far]?).getD qi)) = true then some true else none).all id = true := by
                  rw [List.all_eq_true]
                  intro x hx
                  obtain ⟨far, _, h⟩ := List.mem_filterMap.mp hx
                  split at h
                  · exact (Option.some.inj h).symm
                  · cases h
                refine ⟨D9, _, rfl, SqL.of (el ▸ hacc), true, congrArg V.bl et, iteF ?_⟩
                have ed := ea.trans ed
                obtain ⟨dd, kd⟩ := keep ed
                refine ⟨_, rfl, _, rfl, _, rfl, get_so dd kd (tab _ _ _ _ hqi hqj) _ fun He ee => ⟨true, congrArg V.bl hij, iteT ?_⟩⟩
                have ee := ed.trans ee
                obtain ⟨de, ke⟩ := keep ee
                refine ⟨_, rfl, _, rfl, _, rfl, get_so de ke (tab _ _ _ _ hqj hqi) _ fun Hg eg => ⟨_, rfl, ?_⟩⟩
                have eg := ee.trans eg
                cases hji : dec (Win qj qi) with
                | false => exact iteF ⟨_, _, _, _, _, _, _, _, _, _, rfl, eg⟩
                | true =>
                  refine iteT ?_
                  obtain ⟨l, sv, Ss, rfl, lz, hl, hlen, hall⟩ := stc
                  refine ⟨_, rfl, l, rfl, ⟨sv, SqL.of (eg _ _ hl)⟩, fun D7 hD7 => ?_⟩
                  refine lc_bl (tw_list (K := K) (R := fun (S : Sto) (H : Hp) (x : V) => SAt P w K CS H x S) (l := Ss) (xs := sv)) (fun _ => true) hD7 (fun H' e' => ⟨SqL.of ((eg.trans e') _ _ hl), offs_at (z := p) hall (eg.trans e')⟩) (by rw [Paired.length hall, sizeLine_eq]; omega) (fun S xS Hh acc N M hS eh hacc hxS hN => ?_) fun Hh eh hDh => ?_
                  · have eh := eg.trans eh
                    have hxS : SAt P w K CS Hh xS S := hxS
                    refine ⟨rfl, _, rfl, _, rfl, _, rfl, D2, vs, _, vi, rfl, rfl, SqL.of (eh _ _ hDc), atI_nat hvi, xS, vi, S, qi, rfl, hxS, ai.ex eh, fun pp ys Hi ei hpp hys => ?_⟩
                    have ei' := eh.trans ei
                    refine ⟨_, rfl, _, rfl, _, rfl, D2, vs, _, vj, rfl, rfl, SqL.of (ei' _ _ hDc), atI_nat hvj, xS, vj, S, qj, rfl, hxS.ex ei, aj.ex ei', fun pp2 ys2 Hj ej hpp2 hys2 => ?_⟩
                    have okS : TiesOk S.n S.ties := by
                      obtain ⟨_, _, _, _, _, _, sf⟩ := hxS.sf
                      exact sf.ok
                    have eS := askL_same (dec_iff.mp hij) (dec_iff.mp hji) okS
                    refine ⟨askL S qi, askL S qj, .lst (SqL.of (ej _ _ hpp)) (hys.ex ej), .lst (SqL.of hpp2) hys2, ?_⟩
                    have hN7 := hN Hj (ei.trans ej)
                    rw [if_neg Bool.false_ne_true, dT eS]
                    exact hN7
                  · refine ⟨D7, _, rfl, SqL.of hDh, true, by simp, iteF ⟨_, _, _, _, _, _, _, _, _, _, rfl, eg.trans eh⟩⟩
          · rintro σ' H5 ⟨_, _, _, _, _, _, _, _, _, _, rfl, e5⟩
            exact ⟨_, _, _, _, _, _, _, _, _, _, _, rfl, e5⟩
        · rintro σ' H5 ⟨_, _, _, _, _, _, _, _, _, _, _, rfl, e5⟩
          obtain ⟨d5, k5⟩ := keep e5
          obtain ⟨Q0', _, hq0, _⟩ := sh 0 (by decide)
          obtain ⟨Q2', _, hq2, _⟩ := sh 2 (by decide)
          refine ⟨_, rfl, get_so (i := 0) (j := 2) d5 k5 (tab _ _ _ _ hq0 hq2) _ fun H6 e6 => ⟨true, congrArg V.bl (dec_iff.mpr (hw02 _ _ hq0 hq2)), iteT ?_⟩⟩
          have e6 := e5.trans e6
          refine ⟨3, rfl, by omega, by omega, fun D9 hD9 => ?_⟩
          refine lc_bl (tw_range (K := K) (n := 3)) (fun _ => true) hD9 (fun _ _ => trivial) (by show 3 ≤ sizeLine; decide) (fun far xf Hd acc N M hf ed hacc hxf hN => ?_) fun Hd ed hDd => ?_
          · have hxf := dp_nat hxf
            subst hxf
            obtain ⟨qf, vf, hqf, _⟩ := sh far (by simpa using hf)
            obtain ⟨dd, kd⟩ := keep (e6.trans ed)
            refine ⟨rfl, _, rfl, _, rfl, _, rfl, get_so dd kd (tab _ _ _ _ hqf hqf) _ fun He ee => ?_⟩
            rw [dec_iff.mpr (Win.refl qf)]
            exact hN He ee
          · have kk := k Hd (ebc.trans (e6.trans ed).x1)
            exact ⟨D9, [true, true, true], rfl, SqL.of hDd, kk⟩
end
end K26

set_option Elab.async false
set_option linter.all false
set_option maxRecDepth 100000
set_option maxHeartbeats 4000000
/-! law. -/
namespace K26
open PySem PySem.Spec PyProof.Rows L2
open Ky C8
section
variable {P : Program} {w : World} {K : PySem.W.Frag} {mg : Str → Option Value} {base : Heap} {CS CQ f : Addr} {fd : FuncData}
theorem sc_law : FnScope ["_law_script", "_law_k"] ["_law_script"] (defScope y_law) := ⟨rfl, rfl, rfl, by decide +kernel, rfl, by decide +kernel, by decide +kernel⟩
def sp_law (K : PySem.W.Frag) : Sp := fun vs H Q _ => ∃ (a : Addr) (ns : List Int), vs = [.ref a] ∧ SqL K H a (ns.map V.int) ∧ ns.length ≤ 63 ∧ ∀ H', Q (.bl true) H'
theorem ok_law (T : Tx K mg CS CQ) (F : Fx K mg "law" y_law ["_law_script"] f fd) (c_law_pot : Cal P w K mg base 1 "_law_pot" (sp_law_pot K) []) (c_law_right : Cal P w K mg base 12 "_law_right" sp_law_right []) : FnOk P w K mg base C8.CX0 13 f fd ["_law_script"] (sp_law K) := by
  refine ok_of F.fn sc_law (fun vs H Q E h => ?_) (fun cdv A outer s H vs Q E hr h => ?_)
  · obtain ⟨a, ns, rfl, _⟩ := h
    rfl
  obtain ⟨a, ns, rfl, hs, hl, k⟩ := h
  have hu := hu100 hr
  refine ⟨_, (pss_one (ps_ret (pe_callB (k_all (K := K) rfl rfl) (by rfl) T.all (by decide +kernel) (pa_cons (pe_lc (own := [("_law_k", 1)]) rfl sc_law.nd ((pi_range1 (by rfl) T.range (pa_cons (pe_callB (call_max2 rfl) (by rfl) T.max (by decide +kernel) (pa_cons pe_int (pa_cons (pe_callB (call_min2 rfl) (by rfl) T.min (by decide +kernel) (pa_cons (pe_callB (k_len (K := K) rfl) (by rfl) T.len (by decide +kernel) (pa_cons (pv 0) pa_nil)) (pa_cons pe_int pa_nil))) pa_nil))) pa_nil))) (blkOk_by (by kernel_rfl)) (fun _ _ _ _ _ => (pn 1 sc_law.nd)) (fun _ _ _ _ _ => pts_nil) (fun _ _ _ _ _ => (pe_c c_law_right hr (by decide) (by rfl) (pa_cons (pe_c c_law_pot hr (by decide) (by rfl) (pa_cons (pv 0) (pa_cons (pv 1) pa_nil))) pa_nil)))) pa_nil)))), ?_⟩
  refine ⟨_, rfl, _, (ns.length : Nat), rfl, .inl ⟨_, hs, by simp⟩, ?_⟩
  obtain ⟨J, eJ, j1, j2⟩ : ∃ J : Int, J = (if (if (3 : Int) < ((ns.length : Nat) : Int) then (3 : Int) else ((ns.length : Nat) : Int)) > (1 : Int) then (if (3 : Int) < ((ns.length : Nat) : Int) then (3 : Int) else ((ns.length : Nat) : Int)) else (1 : Int)) ∧ 1 ≤ J ∧ J ≤ 3 := by
    refine ⟨_, rfl, ?_, ?_⟩ <;> (repeat' split) <;> omega
  refine ⟨_, _, rfl, _, _, rfl, J, by rw [eJ], by omega, by omega, fun D hD => ?_⟩
  refine lc_bl (tw_range (K := K) (n := J.toNat)) (fun _ => true) hD (fun _ _ => trivial) (by rw [List.length_range, sizeLine_eq]; omega) (fun i x H2 acc N M hi e2 hacc hx hN => ?_) fun H2 e2 hD2 => ?_
  · have hx := dp_nat hx
    subst hx
    have hi : i < J.toNat := by simpa using hi
    refine ⟨rfl, _, rfl, _, rfl, a, ns, i, rfl, e2.ld.sqL hs, hl, by omega, fun p H3 e3 hp pot => ⟨p, rfl, pot, fun H4 e4 => hN H4 fun y u hu => ?_⟩⟩
    exact e4 y u (ne_of_none hu hp) (e3 y u hu)
  · refine ⟨D, _, rfl, SqL.of hD2, ?_⟩
    have e : ((List.range J.toNat).map fun _ => true).all id = true := by simp
    rw [e]
    exact k H2
end
end K26

set_option Elab.async false
set_option linter.all false
set_option maxRecDepth 100000
set_option maxHeartbeats 0
/-! The end: each def keeps its promise; the law. Printed by wip/genhead.py. -/
namespace K26
open PySem PySem.Spec PyProof.Rows L2
open Ky C8
theorem hexT_ok {K : PySem.W.Frag} {a : Addr} (h : hexT K a = true) (H : Hp) : TiesAt K H (.ref a) [] := by
  unfold hexT at h
  cases q : K.lookup a with
  | none =>
    rw [q] at h
    cases h
  | some o =>
    obtain ⟨oc, od, dt, osl⟩ := o
    rw [q] at h
    cases oc with
    | type c =>
      cases dt with
      | seq its n =>
        obtain ⟨h1, h2⟩ := He.ba (show (decide (c = "tuple") && its.toList.isEmpty) = true from h)
        have e : its = #[] := Array.toList_inj.mp (by rw [List.isEmpty_iff.mp h2])
        subst e
        have e2 : c = "tuple" := of_decide_eq_true h1
        subst e2
        exact .inr (.tup (.inr ⟨_, #[], n, q, rfl, rfl, Nat.zero_le _, .nil⟩) .nil)
      | _ => cases h
    | _ => cases dt <;> cases h
theorem hfacts {P : Program} {w : World} {K : PySem.W.Frag} {h : Heap} {mg : Str → Option Value} {f : Addr} (X : K.In h) (G : h.Ns mainGlobals mg) (hfa0 : mg ("law" : Str) = some (.ref f)) (c : SaysM K) :
    ∃ fd : FuncData, (∀ (s : Shared) (v : Value), BindsTo s fd ⟨[v], []⟩ [("_law_script", v)]) ∧ ∀ base : Heap, K.In base → base.Ns mainGlobals mg → FnOk P w K mg base C8.CX0 13 f fd ["_law_script"] (sp_law K) := by
  obtain ⟨x0, x1⟩ := He.ba c.2
  have x0 : (hexS K (He.ga K "Store")).all id = true := x0
  simp only [hexS, List.all_cons, List.all_nil, Bool.and_true, Bool.and_eq_true, id_eq] at x0
  obtain ⟨a0, a1, a2, a3, a4, a5, a6, a7, a8, a9, a10, a11, a12, a13, a14, a15⟩ := x0
  have iS : InsC K (He.ga K "Store") := ⟨He.cls_ok (c.1.fact 30 (f := .cls "Store") rfl), He.eqO_ok a0, He.eqO_ok a1, of_decide_eq_true a2, of_decide_eq_true a3, of_decide_eq_true a4⟩
  have rS : ClX.CRead K (He.ga K "Store") (.type "type") := ⟨a5, He.eqO_ok a6⟩
  have sS : SMet K (He.ga K "Store") (.type "type") "row" (He.ma K (He.ga K "Store") "row") (He5.wf K (He.ga K "Store") "staticmethod" "row") := ⟨(He5.wrapB_ok a7).1, (He5.wrapB_ok a7).2⟩
  have oA : OwnBin K (He.ga K "Store") (Operator.info .Add).2 := ⟨a8, He.eqO_ok a9, Option.isSome_iff_exists.mp a11, Option.isSome_iff_exists.mp a12, of_decide_eq_true a15⟩
  have oB : OwnBin K (He.ga K "Store") (Operator.info .Sub).2 := ⟨a8, He.eqO_ok a10, Option.isSome_iff_exists.mp a13, Option.isSome_iff_exists.mp a14, of_decide_eq_true a15⟩
  have T : Tx K mg (He.ga K "Store") (He.ga K "Question") := {
    isinstance := He.free_ok X G (c.1.fact 0 (f := .free "isinstance") rfl)
    int := He.free_ok X G (c.1.fact 1 (f := .free "int") rfl)
    bool := He.free_ok X G (c.1.fact 2 (f := .free "bool") rfl)
    str := He.free_ok X G (c.1.fact 3 (f := .free "str") rfl)
    list := He.free_ok X G (c.1.fact 4 (f := .free "list") rfl)
    tuple := He.free_ok X G (c.1.fact 5 (f := .free "tuple") rfl)
    len := He.free_ok X G (c.1.fact 6 (f := .free "len") rfl)
    all := He.free_ok X G (c.1.fact 7 (f := .free "all") rfl)
    any := He.free_ok X G (c.1.fact 8 (f := .free "any") rfl)
    enumerate := He.free_ok X G (c.1.fact 9 (f := .free "enumerate") rfl)
    sorted := He.free_ok X G (c.1.fact 10 (f := .free "sorted") rfl)
    range := He.free_ok X G (c.1.fact 11 (f := .free "range") rfl)
    set := He.free_ok X G (c.1.fact 12 (f := .free "set") rfl)
    zip := He.free_ok X G (c.1.fact 13 (f := .free "zip") rfl)
    abs := He.free_ok X G (c.1.fact 14 (f := .free "abs") rfl)
    max := He.free_ok X G (c.1.fact 15 (f := .free "max") rfl)
    min := He.free_ok X G (c.1.fact 16 (f := .free "min") rfl)
    divmod := He.free_ok X G (c.1.fact 17 (f := .free "divmod") rfl)
    letters := He.str_ok X G (c.1.fact 18 (f := .str "LETTERS" "abcdef") rfl)
    capitals := He.str_ok X G (c.1.fact 19 (f := .str "CAPITALS" "ABCDEF") rfl)
    signs := He.str_ok X G (c.1.fact 20 (f := .str "SIGNS" "ABCDEFabcdef") rfl)
    longest := He.int_ok X G (c.1.fact 21 (f := .int "LONGEST" 12) rfl)
    nodes := He.int_ok X G (c.1.fact 22 (f := .int "MOST_NODES_store" 40) rfl)
    ties := He.int_ok X G (c.1.fact 23 (f := .int "MOST_TIES" 400) rfl)
    standings := He.int_ok X G (c.1.fact 24 (f := .int "MOST_STANDINGS_questions" 9) rfl)
    msigns := He.int_ok X G (c.1.fact 25 (f := .int "MOST_SIGNS" 60) rfl)
    trimmed := He.int_ok X G (c.1.fact 26 (f := .int "MOST_TRIMMED" 4) rfl)
    triples := He.int_ok X G (c.1.fact 27 (f := .int "MOST_TRIPLES" 2000) rfl)
    store := He.glo_ok X G (c.1.fact 28 (f := .glo "Store") rfl)
    question := He.glo_ok X G (c.1.fact 29 (f := .glo "Question") rfl)
    cS := He.cls_ok (c.1.fact 30 (f := .cls "Store") rfl)
    cQ := He.cls_ok (c.1.fact 31 (f := .cls "Question") rfl)
    iS := iS
    n_nodes := He.noat_ok (c.1.fact 32 (f := .noat "Store" "own_nodes") rfl)
    n_ties := He.noat_ok (c.1.fact 33 (f := .noat "Store" "own_ties") rfl)
    n_goals := He.noat_ok (c.1.fact 34 (f := .noat "Store" "own_goals") rfl)
    q_stand := He.noat_ok (c.1.fact 35 (f := .noat "Question" "own_standings") rfl)
    q_steps := He.noat_ok (c.1.fact 36 (f := .noat "Question" "own_steps") rfl)
    q_ends := He.noat_ok (c.1.fact 37 (f := .noat "Question" "own_ends") rfl)
    q_from := He.noat_ok (c.1.fact 38 (f := .noat "Question" "own_from") rfl)
  }
  obtain ⟨fdd_is_integer, Fd_is_integer⟩ := c.1.def_ 0 (d := d_is_integer) rfl
  have Xd_is_integer : Fx K mg "is_integer" y_is_integer ["value"] _ fdd_is_integer := ⟨Fd_is_integer, He.glo_ok X G (c.1.fact 48 (f := .glo "is_integer") rfl), FunD.bindsN Fd_is_integer fun _ _ _ _ _ _ us hl => match us, hl with | [_], _ => rfl⟩
  obtain ⟨fdd_is_letter, Fd_is_letter⟩ := c.1.def_ 1 (d := d_is_letter) rfl
  have Xd_is_letter : Fx K mg "is_letter" y_is_letter ["value"] _ fdd_is_letter := ⟨Fd_is_letter, He.glo_ok X G (c.1.fact 49 (f := .glo "is_letter") rfl), FunD.bindsN Fd_is_letter fun _ _ _ _ _ _ us hl => match us, hl with | [_], _ => rfl⟩
  obtain ⟨fdd_is_word, Fd_is_word⟩ := c.1.def_ 2 (d := d_is_word) rfl
  have Xd_is_word : Fx K mg "is_word" y_is_word ["value"] _ fdd_is_word := ⟨Fd_is_word, He.glo_ok X G (c.1.fact 50 (f := .glo "is_word") rfl), FunD.bindsN Fd_is_word fun _ _ _ _ _ _ us hl => match us, hl with | [_], _ => rfl⟩
  obtain ⟨fdd_is_list, Fd_is_list⟩ := c.1.def_ 3 (d := d_is_list) rfl
  have Xd_is_list : Fx K mg "is_list" y_is_list ["value"] _ fdd_is_list := ⟨Fd_is_list, He.glo_ok X G (c.1.fact 51 (f := .glo "is_list") rfl), FunD.bindsN Fd_is_list fun _ _ _ _ _ _ us hl => match us, hl with | [_], _ => rfl⟩
  obtain ⟨fdd_want_letter, Fd_want_letter⟩ := c.1.def_ 4 (d := d_want_letter) rfl
  have Xd_want_letter : Fx K mg "want_letter" y_want_letter ["value"] _ fdd_want_letter := ⟨Fd_want_letter, He.glo_ok X G (c.1.fact 52 (f := .glo "want_letter") rfl), FunD.bindsN Fd_want_letter fun _ _ _ _ _ _ us hl => match us, hl with | [_], _ => rfl⟩
  obtain ⟨fdd_want_word, Fd_want_word⟩ := c.1.def_ 5 (d := d_want_word) rfl
  have Xd_want_word : Fx K mg "want_word" y_want_word ["value"] _ fdd_want_word := ⟨Fd_want_word, He.glo_ok X G (c.1.fact 53 (f := .glo "want_word") rfl), FunD.bindsN Fd_want_word fun _ _ _ _ _ _ us hl => match us, hl with | [_], _ => rfl⟩
  obtain ⟨fdd_is_node, Fd_is_node⟩ := c.1.def_ 6 (d := d_is_node) rfl
  have Xd_is_node : Fx K mg "is_node" y_is_node ["nodes", "value"] _ fdd_is_node := ⟨Fd_is_node, He.glo_ok X G (c.1.fact 54 (f := .glo "is_node") rfl), FunD.bindsN Fd_is_node fun _ _ _ _ _ _ us hl => match us, hl with | [_, _], _ => rfl⟩
  obtain ⟨fdd_is_tie, Fd_is_tie⟩ := c.1.def_ 7 (d := d_is_tie) rfl
  have Xd_is_tie : Fx K mg "is_tie" y_is_tie ["nodes", "value"] _ fdd_is_tie := ⟨Fd_is_tie, He.glo_ok X G (c.1.fact 55 (f := .glo "is_tie") rfl), FunD.bindsN Fd_is_tie fun _ _ _ _ _ _ us hl => match us, hl with | [_, _], _ => rfl⟩
  obtain ⟨fdd_want_nodes, Fd_want_nodes⟩ := c.1.def_ 8 (d := d_want_nodes) rfl
  have Xd_want_nodes : Fx K mg "want_nodes" y_want_nodes ["value"] _ fdd_want_nodes := ⟨Fd_want_nodes, He.glo_ok X G (c.1.fact 56 (f := .glo "want_nodes") rfl), FunD.bindsN Fd_want_nodes fun _ _ _ _ _ _ us hl => match us, hl with | [_], _ => rfl⟩
  obtain ⟨fdd_want_node, Fd_want_node⟩ := c.1.def_ 9 (d := d_want_node) rfl
  have Xd_want_node : Fx K mg "want_node" y_want_node ["nodes", "value"] _ fdd_want_node := ⟨Fd_want_node, He.glo_ok X G (c.1.fact 57 (f := .glo "want_node") rfl), FunD.bindsN Fd_want_node fun _ _ _ _ _ _ us hl => match us, hl with | [_, _], _ => rfl⟩
  obtain ⟨fdd_want_tie, Fd_want_tie⟩ := c.1.def_ 10 (d := d_want_tie) rfl
  have Xd_want_tie : Fx K mg "want_tie" y_want_tie ["nodes", "value"] _ fdd_want_tie := ⟨Fd_want_tie, He.glo_ok X G (c.1.fact 58 (f := .glo "want_tie") rfl), FunD.bindsN Fd_want_tie fun _ _ _ _ _ _ us hl => match us, hl with | [_, _], _ => rfl⟩
  obtain ⟨fdd_want_few_ties, Fd_want_few_ties⟩ := c.1.def_ 11 (d := d_want_few_ties) rfl
  have Xd_want_few_ties : Fx K mg "want_few_ties" y_want_few_ties ["many"] _ fdd_want_few_ties := ⟨Fd_want_few_ties, He.glo_ok X G (c.1.fact 59 (f := .glo "want_few_ties") rfl), FunD.bindsN Fd_want_few_ties fun _ _ _ _ _ _ us hl => match us, hl with | [_], _ => rfl⟩
  obtain ⟨fdd_want_ties, Fd_want_ties⟩ := c.1.def_ 12 (d := d_want_ties) rfl
  have Xd_want_ties : Fx K mg "want_ties" y_want_ties ["nodes", "ties"] _ fdd_want_ties := ⟨Fd_want_ties, He.glo_ok X G (c.1.fact 60 (f := .glo "want_ties") rfl), FunD.bindsN Fd_want_ties fun _ _ _ _ _ _ us hl => match us, hl with | [_, _], _ => rfl⟩
  obtain ⟨fdd_goals_by, Fd_goals_by⟩ := c.1.def_ 13 (d := d_goals_by) rfl
  have Xd_goals_by : Fx K mg "goals_by" y_goals_by ["nodes", "ties"] _ fdd_goals_by := ⟨Fd_goals_by, He.glo_ok X G (c.1.fact 61 (f := .glo "goals_by") rfl), FunD.bindsN Fd_goals_by fun _ _ _ _ _ _ us hl => match us, hl with | [_, _], _ => rfl⟩
  obtain ⟨fdi, Fi⟩ := c.1.def_ 58 (d := d_store_init) rfl
  obtain ⟨ds0, dv0, b0⟩ := FunD.binds1 (ps := ["self", "nodes", "ties"]) Fi 3 1 (List.cons_ne_nil _ _) rfl fun T kV doc pm an cdv ct us its l1 l2 => match us, its, l1, l2 with | [_, _, _], [_], _, _ => ⟨_, rfl, rfl⟩
  obtain ⟨ds1, dv1, b1⟩ := FunD.binds1 (ps := ["self", "nodes", "ties"]) Fi 2 0 (List.cons_ne_nil _ _) rfl fun T kV doc pm an cdv ct us its l1 l2 => match us, its, l1, l2 with | [_, _], [_], _, _ => ⟨_, rfl, rfl⟩
  obtain ⟨fdd_made_store, Fd_made_store⟩ := c.1.def_ 14 (d := d_made_store) rfl
  have Xd_made_store : Fx K mg "made_store" y_made_store ["nodes", "ties"] _ fdd_made_store := ⟨Fd_made_store, He.glo_ok X G (c.1.fact 62 (f := .glo "made_store") rfl), FunD.bindsN Fd_made_store fun _ _ _ _ _ _ us hl => match us, hl with | [_, _], _ => rfl⟩
  obtain ⟨fdd_store_ties, Fd_store_ties⟩ := c.1.def_ 59 (d := d_store_ties) rfl
  have Xd_store_ties : Fm K (He.ga K "Store") "ties" "Store.ties" y_store_ties ["self"] _ fdd_store_ties := ⟨Fd_store_ties, He.cls_ok (c.1.fact 30 (f := .cls "Store") rfl), He.meth_ok (c.1.fact 39 (f := .meth "Store" "ties") rfl), FunD.bindsN Fd_store_ties fun _ _ _ _ _ _ us hl => match us, hl with | [_], _ => rfl⟩
  obtain ⟨fdd_store_beside, Fd_store_beside⟩ := c.1.def_ 60 (d := d_store_beside) rfl
  have Xd_store_beside : Fm K (He.ga K "Store") "beside" "Store.beside" y_store_beside ["self", "other"] _ fdd_store_beside := ⟨Fd_store_beside, He.cls_ok (c.1.fact 30 (f := .cls "Store") rfl), He.meth_ok (c.1.fact 40 (f := .meth "Store" "beside") rfl), FunD.bindsN Fd_store_beside fun _ _ _ _ _ _ us hl => match us, hl with | [_, _], _ => rfl⟩
  obtain ⟨fdr, Fr⟩ := c.1.def_ 67 (d := d_store_row) rfl
  have br := FunD.bindsN (ps := ["word"]) Fr fun _ _ _ _ _ _ us hl => match us, hl with | [_], _ => rfl
  obtain ⟨fdd_store_add, Fd_store_add⟩ := c.1.def_ 61 (d := d_store_add) rfl
  have Xd_store_add : Fm K (He.ga K "Store") "__add__" "Store.__add__" y_store_add ["self", "tie"] _ fdd_store_add := ⟨Fd_store_add, He.cls_ok (c.1.fact 30 (f := .cls "Store") rfl), He.meth_ok (c.1.fact 41 (f := .meth "Store" "__add__") rfl), FunD.bindsN Fd_store_add fun _ _ _ _ _ _ us hl => match us, hl with | [_, _], _ => rfl⟩
  obtain ⟨fdd_store_sub, Fd_store_sub⟩ := c.1.def_ 62 (d := d_store_sub) rfl
  have Xd_store_sub : Fm K (He.ga K "Store") "__sub__" "Store.__sub__" y_store_sub ["self", "tie"] _ fdd_store_sub := ⟨Fd_store_sub, He.cls_ok (c.1.fact 30 (f := .cls "Store") rfl), He.meth_ok (c.1.fact 42 (f := .meth "Store" "__sub__") rfl), FunD.bindsN Fd_store_sub fun _ _ _ _ _ _ us hl => match us, hl with | [_, _], _ => rfl⟩
  obtain ⟨fdd_store_invert, Fd_store_invert⟩ := c.1.def_ 63 (d := d_store_invert) rfl
  have Xd_store_invert : Fm K (He.ga K "Store") "__invert__" "Store.__invert__" y_store_invert ["self"] _ fdd_store_invert := ⟨Fd_store_invert, He.cls_ok (c.1.fact 30 (f := .cls "Store") rfl), He.meth_ok (c.1.fact 43 (f := .meth "Store" "__invert__") rfl), FunD.bindsN Fd_store_invert fun _ _ _ _ _ _ us hl => match us, hl with | [_], _ => rfl⟩
  obtain ⟨fdd_is_sign, Fd_is_sign⟩ := c.1.def_ 15 (d := d_is_sign) rfl
  have Xd_is_sign : Fx K mg "is_sign" y_is_sign ["value"] _ fdd_is_sign := ⟨Fd_is_sign, He.glo_ok X G (c.1.fact 63 (f := .glo "is_sign") rfl), FunD.bindsN Fd_is_sign fun _ _ _ _ _ _ us hl => match us, hl with | [_], _ => rfl⟩
  obtain ⟨fdd_are_signs, Fd_are_signs⟩ := c.1.def_ 16 (d := d_are_signs) rfl
  have Xd_are_signs : Fx K mg "are_signs" y_are_signs ["value"] _ fdd_are_signs := ⟨Fd_are_signs, He.glo_ok X G (c.1.fact 64 (f := .glo "are_signs") rfl), FunD.bindsN Fd_are_signs fun _ _ _ _ _ _ us hl => match us, hl with | [_], _ => rfl⟩
  obtain ⟨fdd_want_signs, Fd_want_signs⟩ := c.1.def_ 17 (d := d_want_signs) rfl
  have Xd_want_signs : Fx K mg "want_signs" y_want_signs ["value"] _ fdd_want_signs := ⟨Fd_want_signs, He.glo_ok X G (c.1.fact 65 (f := .glo "want_signs") rfl), FunD.bindsN Fd_want_signs fun _ _ _ _ _ _ us hl => match us, hl with | [_], _ => rfl⟩
  obtain ⟨fdd_letter_of, Fd_letter_of⟩ := c.1.def_ 18 (d := d_letter_of) rfl
  have Xd_letter_of : Fx K mg "letter_of" y_letter_of ["sign"] _ fdd_letter_of := ⟨Fd_letter_of, He.glo_ok X G (c.1.fact 66 (f := .glo "letter_of") rfl), FunD.bindsN Fd_letter_of fun _ _ _ _ _ _ us hl => match us, hl with | [_], _ => rfl⟩
  obtain ⟨fdd_contrary, Fd_contrary⟩ := c.1.def_ 19 (d := d_contrary) rfl
  have Xd_contrary : Fx K mg "contrary" y_contrary ["sign"] _ fdd_contrary := ⟨Fd_contrary, He.glo_ok X G (c.1.fact 67 (f := .glo "contrary") rfl), FunD.bindsN Fd_contrary fun _ _ _ _ _ _ us hl => match us, hl with | [_], _ => rfl⟩
  obtain ⟨fdd_is_standing, Fd_is_standing⟩ := c.1.def_ 20 (d := d_is_standing) rfl
  have Xd_is_standing : Fx K mg "is_standing" y_is_standing ["standings", "value"] _ fdd_is_standing := ⟨Fd_is_standing, He.glo_ok X G (c.1.fact 68 (f := .glo "is_standing") rfl), FunD.bindsN Fd_is_standing fun _ _ _ _ _ _ us hl => match us, hl with | [_, _], _ => rfl⟩
  obtain ⟨fdd_is_step, Fd_is_step⟩ := c.1.def_ 21 (d := d_is_step) rfl
  have Xd_is_step : Fx K mg "is_step" y_is_step ["standings", "value"] _ fdd_is_step := ⟨Fd_is_step, He.glo_ok X G (c.1.fact 69 (f := .glo "is_step") rfl), FunD.bindsN Fd_is_step fun _ _ _ _ _ _ us hl => match us, hl with | [_, _], _ => rfl⟩
  obtain ⟨fdd_want_steps, Fd_want_steps⟩ := c.1.def_ 22 (d := d_want_steps) rfl
  have Xd_want_steps : Fx K mg "want_steps" y_want_steps ["standings", "steps"] _ fdd_want_steps := ⟨Fd_want_steps, He.glo_ok X G (c.1.fact 70 (f := .glo "want_steps") rfl), FunD.bindsN Fd_want_steps fun _ _ _ _ _ _ us hl => match us, hl with | [_, _], _ => rfl⟩
  obtain ⟨fdd_want_ends, Fd_want_ends⟩ := c.1.def_ 23 (d := d_want_ends) rfl
  have Xd_want_ends : Fx K mg "want_ends" y_want_ends ["standings", "ends"] _ fdd_want_ends := ⟨Fd_want_ends, He.glo_ok X G (c.1.fact 71 (f := .glo "want_ends") rfl), FunD.bindsN Fd_want_ends fun _ _ _ _ _ _ us hl => match us, hl with | [_, _], _ => rfl⟩
  obtain ⟨fdd_spread, Fd_spread⟩ := c.1.def_ 24 (d := d_spread) rfl
  have Xd_spread : Fx K mg "spread" y_spread ["ways", "start"] _ fdd_spread := ⟨Fd_spread, He.glo_ok X G (c.1.fact 72 (f := .glo "spread") rfl), FunD.bindsN Fd_spread fun _ _ _ _ _ _ us hl => match us, hl with | [_, _], _ => rfl⟩
  obtain ⟨fdq, Fq⟩ := c.1.def_ 64 (d := d_question_init) rfl
  have bq := FunD.bindsN (ps := ["self", "standings", "steps", "ends"]) Fq fun _ _ _ _ _ _ us hl => match us, hl with | [_, _, _, _], _ => rfl
  obtain ⟨fdd_does_read, Fd_does_read⟩ := c.1.def_ 25 (d := d_does_read) rfl
  have Xd_does_read : Fx K mg "does_read" y_does_read ["question", "signs"] _ fdd_does_read := ⟨Fd_does_read, He.glo_ok X G (c.1.fact 73 (f := .glo "does_read") rfl), FunD.bindsN Fd_does_read fun _ _ _ _ _ _ us hl => match us, hl with | [_, _], _ => rfl⟩
  obtain ⟨fdd_question_reads, Fd_question_reads⟩ := c.1.def_ 65 (d := d_question_reads) rfl
  have Xd_question_reads : Fm K (He.ga K "Question") "reads" "Question.reads" y_question_reads ["self", "signs"] _ fdd_question_reads := ⟨Fd_question_reads, He.cls_ok (c.1.fact 31 (f := .cls "Question") rfl), He.meth_ok (c.1.fact 44 (f := .meth "Question" "reads") rfl), FunD.bindsN Fd_question_reads fun _ _ _ _ _ _ us hl => match us, hl with | [_, _], _ => rfl⟩
  obtain ⟨fdd_useful, Fd_useful⟩ := c.1.def_ 26 (d := d_useful) rfl
  have Xd_useful : Fx K mg "useful" y_useful ["question"] _ fdd_useful := ⟨Fd_useful, He.glo_ok X G (c.1.fact 74 (f := .glo "useful") rfl), FunD.bindsN Fd_useful fun _ _ _ _ _ _ us hl => match us, hl with | [_], _ => rfl⟩
  obtain ⟨fdd_question_trimmed, Fd_question_trimmed⟩ := c.1.def_ 66 (d := d_question_trimmed) rfl
  have Xd_question_trimmed : Fm K (He.ga K "Question") "trimmed" "Question.trimmed" y_question_trimmed ["self"] _ fdd_question_trimmed := ⟨Fd_question_trimmed, He.cls_ok (c.1.fact 31 (f := .cls "Question") rfl), He.meth_ok (c.1.fact 45 (f := .meth "Question" "trimmed") rfl), FunD.bindsN Fd_question_trimmed fun _ _ _ _ _ _ us hl => match us, hl with | [_], _ => rfl⟩
  obtain ⟨fdd_moves_from, Fd_moves_from⟩ := c.1.def_ 27 (d := d_moves_from) rfl
  have Xd_moves_from : Fx K mg "moves_from" y_moves_from ["store", "question", "here"] _ fdd_moves_from := ⟨Fd_moves_from, He.glo_ok X G (c.1.fact 75 (f := .glo "moves_from") rfl), FunD.bindsN Fd_moves_from fun _ _ _ _ _ _ us hl => match us, hl with | [_, _, _], _ => rfl⟩
  obtain ⟨fdd_walked, Fd_walked⟩ := c.1.def_ 28 (d := d_walked) rfl
  have Xd_walked : Fx K mg "walked" y_walked ["store", "question", "start"] _ fdd_walked := ⟨Fd_walked, He.glo_ok X G (c.1.fact 76 (f := .glo "walked") rfl), FunD.bindsN Fd_walked fun _ _ _ _ _ _ us hl => match us, hl with | [_, _, _], _ => rfl⟩
  obtain ⟨fdd_want_pair, Fd_want_pair⟩ := c.1.def_ 30 (d := d_want_pair) rfl
  have Xd_want_pair : Fx K mg "want_pair" y_want_pair ["store", "start", "end"] _ fdd_want_pair := ⟨Fd_want_pair, He.glo_ok X G (c.1.fact 78 (f := .glo "want_pair") rfl), FunD.bindsN Fd_want_pair fun _ _ _ _ _ _ us hl => match us, hl with | [_, _, _], _ => rfl⟩
  obtain ⟨fdd_asked, Fd_asked⟩ := c.1.def_ 29 (d := d_asked) rfl
  have Xd_asked : Fx K mg "asked" y_asked ["store", "question"] _ fdd_asked := ⟨Fd_asked, He.glo_ok X G (c.1.fact 77 (f := .glo "asked") rfl), FunD.bindsN Fd_asked fun _ _ _ _ _ _ us hl => match us, hl with | [_, _], _ => rfl⟩
  obtain ⟨fdd_reason, Fd_reason⟩ := c.1.def_ 31 (d := d_reason) rfl
  have Xd_reason : Fx K mg "reason" y_reason ["store", "question", "start", "end"] _ fdd_reason := ⟨Fd_reason, He.glo_ok X G (c.1.fact 79 (f := .glo "reason") rfl), FunD.bindsN Fd_reason fun _ _ _ _ _ _ us hl => match us, hl with | [_, _, _, _], _ => rfl⟩
  obtain ⟨fdd_is_spot, Fd_is_spot⟩ := c.1.def_ 32 (d := d_is_spot) rfl
  have Xd_is_spot : Fx K mg "is_spot" y_is_spot ["store", "question", "value"] _ fdd_is_spot := ⟨Fd_is_spot, He.glo_ok X G (c.1.fact 80 (f := .glo "is_spot") rfl), FunD.bindsN Fd_is_spot fun _ _ _ _ _ _ us hl => match us, hl with | [_, _, _], _ => rfl⟩
  obtain ⟨fdd_is_reason, Fd_is_reason⟩ := c.1.def_ 33 (d := d_is_reason) rfl
  have Xd_is_reason : Fx K mg "is_reason" y_is_reason ["store", "question", "start", "end", "value"] _ fdd_is_reason := ⟨Fd_is_reason, He.glo_ok X G (c.1.fact 81 (f := .glo "is_reason") rfl), FunD.bindsN Fd_is_reason fun _ _ _ _ _ _ us hl => match us, hl with | [_, _, _, _, _], _ => rfl⟩
  obtain ⟨fdd_denial, Fd_denial⟩ := c.1.def_ 34 (d := d_denial) rfl
  have Xd_denial : Fx K mg "denial" y_denial ["store", "question", "start", "end"] _ fdd_denial := ⟨Fd_denial, He.glo_ok X G (c.1.fact 82 (f := .glo "denial") rfl), FunD.bindsN Fd_denial fun _ _ _ _ _ _ us hl => match us, hl with | [_, _, _, _], _ => rfl⟩
  obtain ⟨fdd_is_denial, Fd_is_denial⟩ := c.1.def_ 35 (d := d_is_denial) rfl
  have Xd_is_denial : Fx K mg "is_denial" y_is_denial ["store", "question", "start", "end", "value"] _ fdd_is_denial := ⟨Fd_is_denial, He.glo_ok X G (c.1.fact 83 (f := .glo "is_denial") rfl), FunD.bindsN Fd_is_denial fun _ _ _ _ _ _ us hl => match us, hl with | [_, _, _, _, _], _ => rfl⟩
  obtain ⟨fdd_row_of, Fd_row_of⟩ := c.1.def_ 36 (d := d_row_of) rfl
  have Xd_row_of : Fx K mg "row_of" y_row_of ["signs"] _ fdd_row_of := ⟨Fd_row_of, He.glo_ok X G (c.1.fact 84 (f := .glo "row_of") rfl), FunD.bindsN Fd_row_of fun _ _ _ _ _ _ us hl => match us, hl with | [_], _ => rfl⟩
  obtain ⟨fdd_seen_first, Fd_seen_first⟩ := c.1.def_ 37 (d := d_seen_first) rfl
  have Xd_seen_first : Fx K mg "seen_first" y_seen_first ["question"] _ fdd_seen_first := ⟨Fd_seen_first, He.glo_ok X G (c.1.fact 85 (f := .glo "seen_first") rfl), FunD.bindsN Fd_seen_first fun _ _ _ _ _ _ us hl => match us, hl with | [_], _ => rfl⟩
  obtain ⟨fdd_closed, Fd_closed⟩ := c.1.def_ 38 (d := d_closed) rfl
  have Xd_closed : Fx K mg "closed" y_closed ["standings", "rounds"] _ fdd_closed := ⟨Fd_closed, He.glo_ok X G (c.1.fact 86 (f := .glo "closed") rfl), FunD.bindsN Fd_closed fun _ _ _ _ _ _ us hl => match us, hl with | [_, _], _ => rfl⟩
  obtain ⟨fdd_seen_behind, Fd_seen_behind⟩ := c.1.def_ 39 (d := d_seen_behind) rfl
  have Xd_seen_behind : Fx K mg "seen_behind" y_seen_behind ["question", "seen", "sign"] _ fdd_seen_behind := ⟨Fd_seen_behind, He.glo_ok X G (c.1.fact 87 (f := .glo "seen_behind") rfl), FunD.bindsN Fd_seen_behind fun _ _ _ _ _ _ us hl => match us, hl with | [_, _, _], _ => rfl⟩
  obtain ⟨fdd_small, Fd_small⟩ := c.1.def_ 40 (d := d_small) rfl
  have Xd_small : Fx K mg "small" y_small ["question"] _ fdd_small := ⟨Fd_small, He.glo_ok X G (c.1.fact 88 (f := .glo "small") rfl), FunD.bindsN Fd_small fun _ _ _ _ _ _ us hl => match us, hl with | [_], _ => rfl⟩
  obtain ⟨fdd_triples_behind, Fd_triples_behind⟩ := c.1.def_ 41 (d := d_triples_behind) rfl
  have Xd_triples_behind : Fx K mg "triples_behind" y_triples_behind ["one", "other", "triple"] _ fdd_triples_behind := ⟨Fd_triples_behind, He.glo_ok X G (c.1.fact 89 (f := .glo "triples_behind") rfl), FunD.bindsN Fd_triples_behind fun _ _ _ _ _ _ us hl => match us, hl with | [_, _, _], _ => rfl⟩
  obtain ⟨fdd_triples_of, Fd_triples_of⟩ := c.1.def_ 42 (d := d_triples_of) rfl
  have Xd_triples_of : Fx K mg "triples_of" y_triples_of ["one", "other"] _ fdd_triples_of := ⟨Fd_triples_of, He.glo_ok X G (c.1.fact 90 (f := .glo "triples_of") rfl), FunD.bindsN Fd_triples_of fun _ _ _ _ _ _ us hl => match us, hl with | [_, _], _ => rfl⟩
  obtain ⟨fdd_is_wrong, Fd_is_wrong⟩ := c.1.def_ 43 (d := d_is_wrong) rfl
  have Xd_is_wrong : Fx K mg "is_wrong" y_is_wrong ["one", "other", "triple"] _ fdd_is_wrong := ⟨Fd_is_wrong, He.glo_ok X G (c.1.fact 91 (f := .glo "is_wrong") rfl), FunD.bindsN Fd_is_wrong fun _ _ _ _ _ _ us hl => match us, hl with | [_, _, _], _ => rfl⟩
  obtain ⟨fdd_partings, Fd_partings⟩ := c.1.def_ 44 (d := d_partings) rfl
  have Xd_partings : Fx K mg "partings" y_partings ["one", "other"] _ fdd_partings := ⟨Fd_partings, He.glo_ok X G (c.1.fact 92 (f := .glo "partings") rfl), FunD.bindsN Fd_partings fun _ _ _ _ _ _ us hl => match us, hl with | [_, _], _ => rfl⟩
  obtain ⟨fdd_both_small, Fd_both_small⟩ := c.1.def_ 45 (d := d_both_small) rfl
  have Xd_both_small : Fx K mg "both_small" y_both_small ["one", "other"] _ fdd_both_small := ⟨Fd_both_small, He.glo_ok X G (c.1.fact 93 (f := .glo "both_small") rfl), FunD.bindsN Fd_both_small fun _ _ _ _ _ _ us hl => match us, hl with | [_, _], _ => rfl⟩
  obtain ⟨fdd_lies_within, Fd_lies_within⟩ := c.1.def_ 46 (d := d_lies_within) rfl
  have Xd_lies_within : Fx K mg "lies_within" y_lies_within ["one", "other"] _ fdd_lies_within := ⟨Fd_lies_within, He.glo_ok X G (c.1.fact 94 (f := .glo "lies_within") rfl), FunD.bindsN Fd_lies_within fun _ _ _ _ _ _ us hl => match us, hl with | [_, _], _ => rfl⟩
  obtain ⟨fdd_parting, Fd_parting⟩ := c.1.def_ 47 (d := d_parting) rfl
  have Xd_parting : Fx K mg "parting" y_parting ["one", "other"] _ fdd_parting := ⟨Fd_parting, He.glo_ok X G (c.1.fact 95 (f := .glo "parting") rfl), FunD.bindsN Fd_parting fun _ _ _ _ _ _ us hl => match us, hl with | [_, _], _ => rfl⟩
  obtain ⟨fdd_are_alike, Fd_are_alike⟩ := c.1.def_ 48 (d := d_are_alike) rfl
  have Xd_are_alike : Fx K mg "are_alike" y_are_alike ["one", "other"] _ fdd_are_alike := ⟨Fd_are_alike, He.glo_ok X G (c.1.fact 96 (f := .glo "are_alike") rfl), FunD.bindsN Fd_are_alike fun _ _ _ _ _ _ us hl => match us, hl with | [_, _], _ => rfl⟩
  obtain ⟨fdd_law_pot, Fd_law_pot⟩ := c.1.def_ 49 (d := d_law_pot) rfl
  have Xd_law_pot : Fx K mg "_law_pot" y_law_pot ["_law_script", "_law_k"] _ fdd_law_pot := ⟨Fd_law_pot, He.glo_ok X G (c.1.fact 97 (f := .glo "_law_pot") rfl), FunD.bindsN Fd_law_pot fun _ _ _ _ _ _ us hl => match us, hl with | [_, _], _ => rfl⟩
  obtain ⟨fdd_law_draw, Fd_law_draw⟩ := c.1.def_ 50 (d := d_law_draw) rfl
  have Xd_law_draw : Fx K mg "_law_draw" y_law_draw ["_law_pot_here", "_law_faces"] _ fdd_law_draw := ⟨Fd_law_draw, He.glo_ok X G (c.1.fact 98 (f := .glo "_law_draw") rfl), FunD.bindsN Fd_law_draw fun _ _ _ _ _ _ us hl => match us, hl with | [_, _], _ => rfl⟩
  obtain ⟨fdd_law_pick, Fd_law_pick⟩ := c.1.def_ 51 (d := d_law_pick) rfl
  have Xd_law_pick : Fx K mg "_law_pick" y_law_pick ["_law_pot_here", "_law_some"] _ fdd_law_pick := ⟨Fd_law_pick, He.glo_ok X G (c.1.fact 99 (f := .glo "_law_pick") rfl), FunD.bindsN Fd_law_pick fun _ _ _ _ _ _ us hl => match us, hl with | [_, _], _ => rfl⟩
  obtain ⟨fdd_law_question, Fd_law_question⟩ := c.1.def_ 52 (d := d_law_question) rfl
  have Xd_law_question : Fx K mg "_law_question" y_law_question ["_law_pot_here", "_law_most"] _ fdd_law_question := ⟨Fd_law_question, He.glo_ok X G (c.1.fact 100 (f := .glo "_law_question") rfl), FunD.bindsN Fd_law_question fun _ _ _ _ _ _ us hl => match us, hl with | [_, _], _ => rfl⟩
  obtain ⟨fdd_law_ties, Fd_law_ties⟩ := c.1.def_ 53 (d := d_law_ties) rfl
  have Xd_law_ties : Fx K mg "_law_ties" y_law_ties ["_law_pot_here", "_law_nodes", "_law_letters", "_law_most"] _ fdd_law_ties := ⟨Fd_law_ties, He.glo_ok X G (c.1.fact 101 (f := .glo "_law_ties") rfl), FunD.bindsN Fd_law_ties fun _ _ _ _ _ _ us hl => match us, hl with | [_, _, _, _], _ => rfl⟩
  obtain ⟨fdd_law_stores, Fd_law_stores⟩ := c.1.def_ 54 (d := d_law_stores) rfl
  have Xd_law_stores : Fx K mg "_law_stores" y_law_stores ["_law_pot_here"] _ fdd_law_stores := ⟨Fd_law_stores, He.glo_ok X G (c.1.fact 102 (f := .glo "_law_stores") rfl), FunD.bindsN Fd_law_stores fun _ _ _ _ _ _ us hl => match us, hl with | [_], _ => rfl⟩
  obtain ⟨fdd_law_pair_right, Fd_law_pair_right⟩ := c.1.def_ 55 (d := d_law_pair_right) rfl
  have Xd_law_pair_right : Fx K mg "_law_pair_right" y_law_pair_right ["_law_one", "_law_other", "_law_stores_here"] _ fdd_law_pair_right := ⟨Fd_law_pair_right, He.glo_ok X G (c.1.fact 103 (f := .glo "_law_pair_right") rfl), FunD.bindsN Fd_law_pair_right fun _ _ _ _ _ _ us hl => match us, hl with | [_, _, _], _ => rfl⟩
  obtain ⟨fdd_law_right, Fd_law_right⟩ := c.1.def_ 56 (d := d_law_right) rfl
  have Xd_law_right : Fx K mg "_law_right" y_law_right ["_law_pot_here"] _ fdd_law_right := ⟨Fd_law_right, He.glo_ok X G (c.1.fact 104 (f := .glo "_law_right") rfl), FunD.bindsN Fd_law_right fun _ _ _ _ _ _ us hl => match us, hl with | [_], _ => rfl⟩
  obtain ⟨fdd_law, Fd_law⟩ := c.1.def_ 57 (d := d_law) rfl
  have Xd_law : Fx K mg "law" y_law ["_law_script"] _ fdd_law := ⟨Fd_law, He.glo_ok X G (c.1.fact 105 (f := .glo "law") rfl), FunD.bindsN Fd_law fun _ _ _ _ _ _ us hl => match us, hl with | [_], _ => rfl⟩
  have ef : He.ga K "law" = f := by
    have e := (Xd_law.mgf).symm.trans hfa0
    injection e with e
    injection e with e
  refine ⟨fdd_law, fun s v => FunD.bindsA (ps := ["_law_script"]) Fd_law (fun _ _ _ _ _ _ us hl => match us, hl with | [_], _ => rfl) s [v] rfl, fun base _ _ => ?_⟩
  have h_is_integer := c_is_integer (P := P) (w := w) (base := base) T Xd_is_integer 
  have h_is_letter := c_is_letter (P := P) (w := w) (base := base) T Xd_is_letter 
  have h_is_word := c_is_word (P := P) (w := w) (base := base) T Xd_is_word 
  have h_is_list := c_is_list (P := P) (w := w) (base := base) T Xd_is_list 
  have h_want_letter := c_want_letter (P := P) (w := w) (base := base) T Xd_want_letter h_is_letter
  have h_want_word := c_want_word (P := P) (w := w) (base := base) T Xd_want_word h_is_word
  have h_is_node := c_is_node (P := P) (w := w) (base := base) T Xd_is_node h_is_integer
  have h_is_tie := c_is_tie (P := P) (w := w) (base := base) T Xd_is_tie h_is_node h_is_letter
  have h_want_nodes := c_want_nodes (P := P) (w := w) (base := base) T Xd_want_nodes h_is_integer
  have h_want_node := c_want_node (P := P) (w := w) (base := base) T Xd_want_node h_is_node
  have h_want_tie := c_want_tie (P := P) (w := w) (base := base) T Xd_want_tie h_is_tie
  have h_want_few_ties := c_want_few_ties (P := P) (w := w) (base := base) T Xd_want_few_ties 
  have h_want_ties := c_want_ties (P := P) (w := w) (base := base) T Xd_want_ties h_is_list h_is_tie h_want_few_ties
  have h_goals_by := c_goals_by (P := P) (w := w) (base := base) T Xd_goals_by 
  have okS := ok_store_init (P := P) (w := w) (base := base) T Fi h_want_nodes h_want_ties h_goals_by
  have h_Store : Mak P w K mg base 5 "Store" (He.ga K "Store") (sp_store_init P w K (He.ga K "Store")) [] := ⟨_, fdi, _, ds0, He.mkr_ok (c.1.fact 46 (f := .mkr "Store") rfl), okS, T.store, b0, dv0⟩
  have h_Store1 : Mak P w K mg base 5 "Store" (He.ga K "Store") (sp_store_init P w K (He.ga K "Store")) [.ref (dvA K)] := ⟨_, fdi, _, ds1, He.mkr_ok (c.1.fact 46 (f := .mkr "Store") rfl), okS, T.store, b1, dv1⟩
  have h_made_store := c_made_store (P := P) (w := w) (base := base) T Xd_made_store h_Store
  have h_Store_ties := c_Store_ties (P := P) (w := w) (base := base) T Xd_store_ties 
  have h_Store_beside := c_Store_beside (P := P) (w := w) (base := base) T Xd_store_beside h_want_few_ties h_made_store
  have h_Store_row : CalAt P w K mg base 8 (He5.wf K (He.ga K "Store") "staticmethod" "row") (sp_store_row P w K (He.ga K "Store")) := ⟨fdr, _, ok_store_row T Fr h_want_word h_made_store, Fr.kp, br⟩
  have h_Store_add := c_Store_add (P := P) (w := w) (base := base) T Xd_store_add h_want_tie h_Store_ties h_Store
  have h_Store_sub := c_Store_sub (P := P) (w := w) (base := base) T Xd_store_sub h_want_tie h_Store
  have h_Store_inv := c_Store_inv (P := P) (w := w) (base := base) T Xd_store_invert h_Store
  have h_is_sign := c_is_sign (P := P) (w := w) (base := base) T Xd_is_sign 
  have h_are_signs := c_are_signs (P := P) (w := w) (base := base) T Xd_are_signs 
  have h_want_signs := c_want_signs (P := P) (w := w) (base := base) T Xd_want_signs h_are_signs
  have h_letter_of := c_letter_of (P := P) (w := w) (base := base) T Xd_letter_of 
  have h_contrary := c_contrary (P := P) (w := w) (base := base) T Xd_contrary 
  have h_is_standing := c_is_standing (P := P) (w := w) (base := base) T Xd_is_standing h_is_integer
  have h_is_step := c_is_step (P := P) (w := w) (base := base) T Xd_is_step h_is_standing h_is_sign
  have h_want_steps := c_want_steps (P := P) (w := w) (base := base) T Xd_want_steps h_is_list h_is_step
  have h_want_ends := c_want_ends (P := P) (w := w) (base := base) T Xd_want_ends h_is_list h_is_standing
  have h_spread := c_spread (P := P) (w := w) (base := base) T Xd_spread 
  have h_Question : Mak P w K mg base 5 "Question" (He.ga K "Question") (sp_question_init K (He.ga K "Question")) [] := ⟨_, fdq, _, [], He.mkr_ok (c.1.fact 47 (f := .mkr "Question") rfl), ok_question_init T Fq h_is_integer h_want_steps h_want_ends, T.question, bq, .nil⟩
  have h_does_read := c_does_read (P := P) (w := w) (base := base) T Xd_does_read 
  have h_Question_reads := c_Question_reads (P := P) (w := w) (base := base) T Xd_question_reads h_want_signs h_does_read
  have h_useful := c_useful (P := P) (w := w) (base := base) T Xd_useful h_spread
  have h_Question_trimmed := c_Question_trimmed (P := P) (w := w) (base := base) T Xd_question_trimmed h_useful h_Question
  have h_moves_from := c_moves_from (P := P) (w := w) (base := base) T Xd_moves_from h_letter_of
  have h_walked := c_walked (P := P) (w := w) (base := base) T Xd_walked h_moves_from
  have h_want_pair := c_want_pair (P := P) (w := w) (base := base) T Xd_want_pair h_want_node
  have h_asked := c_asked (P := P) (w := w) (base := base) T Xd_asked h_walked
  have h_reason := c_reason (P := P) (w := w) (base := base) T Xd_reason h_want_pair h_walked
  have h_is_spot := c_is_spot (P := P) (w := w) (base := base) T Xd_is_spot h_is_node h_is_standing
  have h_is_reason := c_is_reason (P := P) (w := w) (base := base) T Xd_is_reason h_want_pair h_is_list h_is_spot h_moves_from
  have h_denial := c_denial (P := P) (w := w) (base := base) T Xd_denial h_want_pair h_walked
  have h_is_denial := c_is_denial (P := P) (w := w) (base := base) T Xd_is_denial h_want_pair h_is_list h_is_spot h_moves_from
  have h_row_of := c_row_of (P := P) (w := w) (base := base) T Xd_row_of h_want_signs h_letter_of h_made_store
  have h_seen_first := c_seen_first (P := P) (w := w) (base := base) T Xd_seen_first 
  have h_closed := c_closed (P := P) (w := w) (base := base) T Xd_closed 
  have h_seen_behind := c_seen_behind (P := P) (w := w) (base := base) T Xd_seen_behind h_contrary h_closed
  have h_small := c_small (P := P) (w := w) (base := base) T Xd_small h_Question_trimmed
  have h_triples_behind := c_triples_behind (P := P) (w := w) (base := base) T Xd_triples_behind h_seen_behind
  have h_triples_of := c_triples_of (P := P) (w := w) (base := base) T Xd_triples_of h_seen_first h_triples_behind
  have h_is_wrong := c_is_wrong (P := P) (w := w) (base := base) T Xd_is_wrong 
  have h_partings := c_partings (P := P) (w := w) (base := base) T Xd_partings h_triples_of h_is_wrong
  have h_both_small := c_both_small (P := P) (w := w) (base := base) T Xd_both_small h_small
  have h_lies_within := c_lies_within (P := P) (w := w) (base := base) T Xd_lies_within h_both_small h_partings
  have h_parting := c_parting (P := P) (w := w) (base := base) T Xd_parting h_both_small h_partings
  have h_are_alike := c_are_alike (P := P) (w := w) (base := base) T Xd_are_alike h_both_small h_partings
  have h_law_pot := c_law_pot (P := P) (w := w) (base := base) T Xd_law_pot 
  have h_law_draw := c_law_draw (P := P) (w := w) (base := base) T Xd_law_draw 
  have h_law_pick := c_law_pick (P := P) (w := w) (base := base) T Xd_law_pick h_law_draw
  have h_law_question := c_law_question (P := P) (w := w) (base := base) T Xd_law_question h_law_draw h_law_pick
  have h_law_ties := c_law_ties (P := P) (w := w) (base := base) T Xd_law_ties h_law_draw h_law_pick
  have h_law_stores := c_law_stores (P := P) (w := w) (base := base) T Xd_law_stores (dv := .ref (dvA K)) (fun H => hexT_ok x1 H) rS sS oA oB h_law_draw h_law_pick h_law_ties (mak_hid h_Store) (mak_hid h_Store1) (met_hid h_Store_inv) (met_hid h_Store_beside) (calAt_hid h_Store_row) (met_hid h_Store_add) (met_hid h_Store_sub) (cal_hid h_row_of)
  have h_law_pair_right := c_law_pair_right (P := P) (w := w) (base := base) T Xd_law_pair_right h_lies_within h_parting h_asked h_Question_reads h_row_of h_reason h_is_reason h_denial h_is_denial
  have h_law_right := c_law_right (P := P) (w := w) (base := base) T Xd_law_right (cal_hid h_law_question) (mak_hid h_Question) (cal_hid h_law_stores) h_law_draw h_lies_within h_law_pair_right h_are_alike h_asked
  have r := ok_law (P := P) (w := w) (base := base) T Xd_law h_law_pot h_law_right
  rw [← ef]
  exact r
end K26

set_option Elab.async false
set_option linter.all false
set_option maxRecDepth 100000
set_option maxHeartbeats 0
open PySem PySem.W PySem.Calls PyProof.Rows
theorem PySem.Challenge.cw_netkeep_k26_whole_within_in_all_stores_holds : PySem.Challenge.rw_netkeep_k26_whole_within_in_all_stores.Holds := by
  w_on; o_law
  refine HandSHeadRun.head_any (r := K26.hR) (q := view K26.hR.prog [91]) (H := K26.hookM) (ob := K26.obM) (M := 12000) (loose := K26.hnm) (d := HandSHeadRun.topDef K26.hR.prog 91) (kwd := []) K26.obM_eq
    (by kernel_rfl) (fun s => by kernel_rfl) K26.hrun (by kernel_rfl) (by kernel_rfl) (by kernel_rfl) (by rfl) (by first | assumption | decide +kernel) (by decide +kernel) ⟨rfl, rfl, rfl, rfl, rfl, by decide +kernel⟩ ?hw ?hc
  case hw => w_witness2
  case hc =>
    refine L2.walk_ofE (l := PySem.Challenge.rw_netkeep_k26_whole_within_in_all_stores) (n := 63) (k := 13) (x := "_law_script") (CX := C8.CX0) rfl (by decide) (by kernel_rfl) ⟨rfl, by decide, by decide⟩ ?F (fun _ _ _ _ z => z)
    intro w mg fa h Y G hmg0
    obtain ⟨K, KX, c⟩ := Y
    have hmg : mg ("law" : PySem.Str) = some (.ref fa) := by
      have e : (HandSHeadRun.topDef K26.hR.prog 91).name = ("law" : PySem.Str) := by kernel_rfl
      rw [← e]
      exact hmg0
    obtain ⟨fd, hb, hF⟩ := K26.hfacts (P := (PySem.Challenge.rw_netkeep_k26_whole_within_in_all_stores).prog) (w := w) KX G hmg c
    exact ⟨K, fd, K26.sp_law K, KX, hb, fun H a ns hl _ hS => ⟨a, ns, rfl, hS, hl, fun _ => rfl⟩, hF⟩
