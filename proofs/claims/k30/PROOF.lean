import PyProof.Rows.All
import Wide.All
import OpenK.AllK
import Wide.FinOn
import HandS.ForMost
import HandS.Codes
import HandS.More
import HandS.Wide
import HandS.IsInst
import HandS.Finally
import HandS.Flow
import PySem.Challenge.RW_carrylog_k30_whole_segment_tables
import HandS.Exc
import HandS.ExcOwn
import HandS.ExcSuper
import HandS.ExcField
import HandS.ExcCtx
import HandS.FStr
import KE.KExcSuper
import KE.KSuper
import KE.KExcMake
import PyProof.FString
import PyProof.FString4
import PyProof.StrLawsRepr
import HandS.Hot
import HandS.HotCalls
import HandS.Star
import HandS.MethStar
import PyProof.ListIndex
import OpenK.KOps
import PyProof.FactsLen
import OpenK.KMeth
import HandS.Defaults
import HandS.MakeKwOnly
set_option Elab.async false
/-! The plain part: the rows of a store of segments, with no program in sight. -/
namespace Cg
section
variable {κ : Type}
abbrev Row (κ : Type) := List (Option κ)
def rowAt (R : List (Row κ)) (i : Nat) : Row κ := R.getD i []
def alive (r : Row κ) : Nat := (r.filter (·.isSome)).length
def total (R : List (Row κ)) : Nat := (R.map alive).sum
def livr (r : Row κ) : List κ := r.filterMap id
def liv (R : List (Row κ)) : List κ := livr R.flatten
def isOther (R : List (Row κ)) (hd i : Nat) : Bool := (rowAt R i).isEmpty && !decide (i = hd)
def others (R : List (Row κ)) (hd : Nat) : List Nat := (List.range R.length).filter (isOther R hd)
def empties (R : List (Row κ)) : List Nat := (List.range R.length).filter fun i => (rowAt R i).isEmpty
def room (w : Nat) (R : List (Row κ)) (hd : Nat) : Int := (w : Int) - ((rowAt R hd).length : Int) + (w : Int) * ((others R hd).length : Int)
def isShut (R : List (Row κ)) (hd i : Nat) : Bool := !decide (i = hd) && decide (0 < alive (rowAt R i))
def shut (R : List (Row κ)) (hd : Nat) : List Nat := (List.range R.length).filter (isShut R hd)
def headOf (w : Nat) (R : List (Row κ)) (hd : Nat) : Nat := if (rowAt R hd).length = w then (others R hd).headD 0 else hd
def push (R : List (Row κ)) (i : Nat) (k : κ) : List (Row κ) := R.set i (rowAt R i ++ [some k])
def write (w : Nat) (s : List (Row κ) × Nat) (k : κ) : List (Row κ) × Nat := (push s.1 (headOf w s.1 s.2) k, headOf w s.1 s.2)
def cleared (r : Row κ) (j : Nat) : Row κ := if alive (r.set j none) = 0 then [] else r.set j none
def killR (R : List (Row κ)) (i j : Nat) : List (Row κ) := R.set i (cleared (rowAt R i) j)
def lives (r : Row κ) : List Nat := (List.range r.length).filter fun j => (r.getD j none).isSome
def firstLive (r : Row κ) : Nat := (lives r).headD 0

/-! ### lists -/
theorem rowAt_of {R : List (Row κ)} {i : Nat} {r : Row κ} (h : R[i]? = some r) : rowAt R i = r := by
  unfold rowAt
  rw [List.getD_eq_getElem?_getD, h]
  rfl
theorem get_rowAt {R : List (Row κ)} {i : Nat} (h : i < R.length) : R[i]? = some (rowAt R i) := by
  unfold rowAt
  rw [List.getD_eq_getElem?_getD, List.getElem?_eq_getElem h]
  rfl
theorem rowAt_mem {R : List (Row κ)} {i : Nat} (h : i < R.length) : rowAt R i ∈ R := List.mem_of_getElem? (get_rowAt h)
theorem rowAt_out {R : List (Row κ)} {i : Nat} (h : R.length ≤ i) : rowAt R i = [] := by
  unfold rowAt
  rw [List.getD_eq_getElem?_getD, List.getElem?_eq_none h]
  rfl
theorem rowAt_set_same {R : List (Row κ)} {i : Nat} {r : Row κ} (h : i < R.length) : rowAt (R.set i r) i = r := rowAt_of (List.getElem?_set_self h)
theorem rowAt_set_ne {R : List (Row κ)} {i j : Nat} {r : Row κ} (h : i ≠ j) : rowAt (R.set i r) j = rowAt R j := by
  unfold rowAt
  rw [List.getD_eq_getElem?_getD, List.getD_eq_getElem?_getD, List.getElem?_set_ne h]
theorem set_split {R : List (Row κ)} : ∀ {i : Nat}, i < R.length → ∃ A B, R = A ++ rowAt R i :: B ∧ ∀ r, R.set i r = A ++ r :: B := by
  induction R with
  | nil =>
    intro i h
    exact absurd h (Nat.not_lt_zero _)
  | cons a R ih =>
    intro i h
    cases i with
    | zero => exact ⟨[], R, rfl, fun r => rfl⟩
    | succ i =>
      obtain ⟨A, B, e, f⟩ := ih (i := i) (Nat.lt_of_succ_lt_succ h)
      refine ⟨a :: A, B, ?_, fun r => ?_⟩
      · show a :: R = a :: (A ++ rowAt R i :: B)
        rw [← e]
      · show a :: R.set i r = a :: (A ++ r :: B)
        rw [f r]
theorem livr_append (a b : Row κ) : livr (a ++ b) = livr a ++ livr b := List.filterMap_append
theorem liv_split (A B : List (Row κ)) (r : Row κ) : liv (A ++ r :: B) = liv A ++ (livr r ++ liv B) := by
  unfold liv
  rw [List.flatten_append, List.flatten_cons, livr_append, livr_append]
theorem alive_livr (r : Row κ) : alive r = (livr r).length := by
  unfold alive livr
  induction r with
  | nil => rfl
  | cons o r ih =>
    cases o with
    | none => exact ih
    | some k =>
      show (r.filter (·.isSome)).length + 1 = (r.filterMap id).length + 1
      rw [ih]
theorem total_liv (R : List (Row κ)) : total R = (liv R).length := by
  unfold total liv
  induction R with
  | nil => rfl
  | cons r R ih =>
    rw [List.map_cons, List.sum_cons, List.flatten_cons, livr_append, List.length_append, ← ih, alive_livr]
theorem alive_le (r : Row κ) : alive r ≤ r.length := List.length_filter_le _ _
theorem livr_set {k : κ} : ∀ {r : Row κ} {j : Nat}, r[j]? = some (some k) → (livr r).Perm (k :: livr (r.set j none))
  | [], j, h => by simp at h
  | o :: r, 0, h => by
    have e : o = some k := Option.some.inj h
    subst e
    exact List.Perm.refl _
  | o :: r, j + 1, h => by
    have ih := livr_set (r := r) (j := j) (k := k) h
    cases o with
    | none => exact ih
    | some x =>
      show (x :: livr r).Perm (k :: x :: livr (r.set j none))
      exact (ih.cons x).trans (List.Perm.swap k x _)
theorem livr_cleared {k : κ} {r : Row κ} {j : Nat} (h : r[j]? = some (some k)) : (livr r).Perm (k :: livr (cleared r j)) := by
  refine (livr_set h).trans (List.Perm.of_eq (congrArg _ ?_))
  unfold cleared
  by_cases c : alive (r.set j none) = 0
  · rw [if_pos c]
    rw [alive_livr] at c
    exact List.length_eq_zero_iff.mp c
  · rw [if_neg c]
theorem spot_lt {R : List (Row κ)} {i j : Nat} {o : Option κ} (h : (rowAt R i)[j]? = some o) : i < R.length := by
  rcases Nat.lt_or_ge i R.length with q | q
  · exact q
  · rw [rowAt_out q] at h
    simp at h
theorem liv_kill {R : List (Row κ)} {i j : Nat} {k : κ} (h : (rowAt R i)[j]? = some (some k)) : (liv R).Perm (k :: liv (killR R i j)) := by
  obtain ⟨A, B, e, f⟩ := set_split (spot_lt h)
  unfold killR
  rw [f, liv_split]
  have e2 : liv R = liv A ++ (livr (rowAt R i) ++ liv B) := (congrArg liv e).trans (liv_split A B _)
  rw [e2]
  refine (List.Perm.append_left _ ((livr_cleared h).append_right _)).trans ?_
  show (liv A ++ k :: (livr (cleared (rowAt R i) j) ++ liv B)).Perm _
  exact List.perm_middle
theorem liv_push {R : List (Row κ)} {i : Nat} {k : κ} (h : i < R.length) : (liv (push R i k)).Perm (k :: liv R) := by
  obtain ⟨A, B, e, f⟩ := set_split h
  unfold push
  rw [f, liv_split, livr_append]
  have e2 : liv R = liv A ++ (livr (rowAt R i) ++ liv B) := (congrArg liv e).trans (liv_split A B _)
  rw [e2]
  have e3 : livr [some k] = [k] := rfl
  rw [e3, List.append_assoc]
  show (liv A ++ (livr (rowAt R i) ++ k :: liv B)).Perm _
  rw [← List.append_assoc, ← List.append_assoc]
  exact List.perm_middle
theorem mem_liv {R : List (Row κ)} {k : κ} : k ∈ liv R ↔ ∃ r ∈ R, some k ∈ r := by
  unfold liv livr
  rw [List.mem_filterMap]
  constructor
  · rintro ⟨o, h, e⟩
    obtain ⟨r, hr, ho⟩ := List.mem_flatten.mp h
    exact ⟨r, hr, by cases o with | none => cases e | some x => cases e; exact ho⟩
  · rintro ⟨r, hr, ho⟩
    exact ⟨some k, List.mem_flatten.mpr ⟨r, hr, ho⟩, rfl⟩

/-! ### the form of the rows -/
structure Wf (w : Nat) (R : List (Row κ)) (hd : Nat) : Prop where
  pos : 0 < w
  hdl : hd < R.length
  len : ∀ r ∈ R, r.length ≤ w
theorem Wf.at {w : Nat} {R : List (Row κ)} {hd : Nat} (h : Wf w R hd) (i : Nat) : (rowAt R i).length ≤ w := by
  rcases Nat.lt_or_ge i R.length with q | q
  · exact h.len _ (rowAt_mem q)
  · rw [rowAt_out q]
    exact Nat.zero_le _
theorem room_nn {w : Nat} {R : List (Row κ)} {hd : Nat} (h : Wf w R hd) : 0 ≤ room w R hd := by
  have a := h.at hd
  have b : (0 : Int) ≤ (w : Int) * ((others R hd).length : Int) := Int.mul_nonneg (by omega) (by omega)
  unfold room
  omega
theorem others_ne {w : Nat} {R : List (Row κ)} {hd : Nat} (hf : (rowAt R hd).length = w) (hr : room w R hd ≠ 0) : others R hd ≠ [] := fun e => by
  unfold room at hr
  rw [e, hf] at hr
  simp at hr
theorem others_mem {R : List (Row κ)} {hd i : Nat} : i ∈ others R hd ↔ i < R.length ∧ rowAt R i = [] ∧ i ≠ hd := by
  unfold others isOther
  rw [List.mem_filter, List.mem_range, Bool.and_eq_true, Bool.not_eq_true', decide_eq_false_iff_not, List.isEmpty_iff]
theorem headD_mem {l : List Nat} (h : l ≠ []) : l.headD 0 ∈ l := by
  cases l with
  | nil => exact absurd rfl h
  | cons a l => exact List.mem_cons_self
/-- where the next record goes -/
theorem headOf_ok {w : Nat} {R : List (Row κ)} {hd : Nat} (h : Wf w R hd) (hr : room w R hd ≠ 0) : headOf w R hd < R.length ∧ (rowAt R (headOf w R hd)).length < w := by
  unfold headOf
  by_cases c : (rowAt R hd).length = w
  · rw [if_pos c]
    obtain ⟨a, b, _⟩ := others_mem.mp (headD_mem (others_ne c hr))
    rw [b]
    exact ⟨a, h.pos⟩
  · rw [if_neg c]
    exact ⟨h.hdl, Nat.lt_of_le_of_ne (h.at hd) c⟩
theorem push_len {R : List (Row κ)} {i : Nat} {k : κ} : (push R i k).length = R.length := List.length_set
theorem killR_len {R : List (Row κ)} {i j : Nat} : (killR R i j).length = R.length := List.length_set
theorem mem_set_or {α : Type} {l : List α} {i : Nat} {a x : α} (h : x ∈ l.set i a) : x ∈ l ∨ x = a := List.mem_or_eq_of_mem_set h
theorem Wf.write {w : Nat} {R : List (Row κ)} {hd : Nat} {k : κ} (h : Wf w R hd) (hr : room w R hd ≠ 0) : Wf w (write w (R, hd) k).1 (write w (R, hd) k).2 := by
  obtain ⟨a, b⟩ := headOf_ok h hr
  refine ⟨h.pos, ?_, fun r hm => ?_⟩
  · show headOf w R hd < (push R (headOf w R hd) k).length
    rw [push_len]
    exact a
  · rcases mem_set_or (show r ∈ R.set (headOf w R hd) (rowAt R (headOf w R hd) ++ [some k]) from hm) with e | e
    · exact h.len r e
    · subst e
      rw [List.length_append, List.length_singleton]
      exact b
theorem cleared_len {r : Row κ} {j : Nat} : (cleared r j).length ≤ r.length := by
  unfold cleared
  by_cases c : alive (r.set j none) = 0
  · rw [if_pos c]
    exact Nat.zero_le _
  · rw [if_neg c, List.length_set]
    exact Nat.le_refl _
theorem Wf.kill {w : Nat} {R : List (Row κ)} {hd : Nat} (h : Wf w R hd) (i j : Nat) : Wf w (killR R i j) hd := by
  refine ⟨h.pos, by rw [killR_len]; exact h.hdl, fun r hm => ?_⟩
  rcases mem_set_or (show r ∈ R.set i (cleared (rowAt R i) j) from hm) with e | e
  · exact h.len r e
  · subst e
    exact Nat.le_trans cleared_len (h.at i)
theorem shut_mem {R : List (Row κ)} {hd i : Nat} : i ∈ shut R hd ↔ i < R.length ∧ i ≠ hd ∧ 0 < alive (rowAt R i) := by
  unfold shut isShut
  rw [List.mem_filter, List.mem_range, Bool.and_eq_true, Bool.not_eq_true', decide_eq_false_iff_not, decide_eq_true_iff]
theorem lives_mem {r : Row κ} {j : Nat} : j ∈ lives r ↔ ∃ k, r[j]? = some (some k) := by
  unfold lives
  rw [List.mem_filter, List.mem_range, List.getD_eq_getElem?_getD]
  constructor
  · rintro ⟨h, e⟩
    rw [List.getElem?_eq_getElem h] at e ⊢
    cases q : r[j] with
    | none => rw [q] at e; cases e
    | some k => exact ⟨k, rfl⟩
  · rintro ⟨k, h⟩
    exact ⟨(List.getElem?_eq_some_iff.mp h).1, by rw [h]; rfl⟩
theorem lives_ne {r : Row κ} (h : 0 < alive r) : lives r ≠ [] := fun e => by
  rw [alive_livr] at h
  obtain ⟨k, hk⟩ := List.exists_mem_of_length_pos h
  unfold livr at hk
  obtain ⟨o, ho, eo⟩ := List.mem_filterMap.mp hk
  have eo' : o = some k := eo
  subst eo'
  obtain ⟨j, hj, e2⟩ := List.mem_iff_getElem.mp ho
  have z : j ∈ lives r := lives_mem.mpr ⟨k, by rw [List.getElem?_eq_getElem hj, e2]⟩
  rw [e] at z
  cases z
theorem firstLive_ok {r : Row κ} (h : 0 < alive r) : ∃ k, r[firstLive r]? = some (some k) := lives_mem.mp (headD_mem (lives_ne h))
theorem empties_others {w : Nat} {R : List (Row κ)} {hd : Nat} (h : 0 < w) (hf : (rowAt R hd).length = w) : empties R = others R hd := by
  unfold empties others
  refine List.filter_congr fun i _ => ?_
  unfold isOther
  by_cases c : i = hd
  · subst c
    cases q : rowAt R i with
    | nil =>
      rw [q] at hf
      have hf' : 0 = w := hf
      omega
    | cons a l => rfl
  · rw [decide_eq_false c]
    simp
/-- the head's row is full, or not: no other row changes hands -/
theorem headOf_ne {w : Nat} {R : List (Row κ)} {hd i : Nat} (h : Wf w R hd) (hr : room w R hd ≠ 0) (hi : i ≠ hd) (ha : rowAt R i ≠ []) : headOf w R hd ≠ i := fun e => by
  unfold headOf at e
  by_cases c : (rowAt R hd).length = w
  · rw [if_pos c] at e
    obtain ⟨_, b, _⟩ := others_mem.mp (headD_mem (others_ne c hr))
    rw [e] at b
    exact ha b
  · rw [if_neg c] at e
    exact hi e.symm

/-! ### where a key stands -/
structure IsSpot (R : List (Row κ)) (k : κ) (i j : Nat) : Prop where
  at_ : (rowAt R i)[j]? = some (some k)
  fst : ∀ j', j' < j → (rowAt R i)[j']? ≠ some (some k)
  low : ∀ i', i' < i → some k ∉ rowAt R i'
theorem IsSpot.uniq {R : List (Row κ)} {k : κ} {i j i' j' : Nat} (a : IsSpot R k i j) (b : IsSpot R k i' j') : i = i' ∧ j = j' := by
  have hi : i = i' := by
    rcases Nat.lt_trichotomy i i' with q | q | q
    · exact absurd (List.mem_of_getElem? a.at_) (b.low i q)
    · exact q
    · exact absurd (List.mem_of_getElem? b.at_) (a.low i' q)
  subst hi
  refine ⟨rfl, ?_⟩
  rcases Nat.lt_trichotomy j j' with q | q | q
  · exact absurd a.at_ (b.fst j q)
  · exact q
  · exact absurd b.at_ (a.fst j' q)
open Classical in
noncomputable def findR (R : List (Row κ)) (k : κ) : Option (Nat × Nat) := if h : ∃ p : Nat × Nat, IsSpot R k p.1 p.2 then some h.choose else none
theorem findR_some {R : List (Row κ)} {k : κ} {i j : Nat} (h : IsSpot R k i j) : findR R k = some (i, j) := by
  have e : ∃ p : Nat × Nat, IsSpot R k p.1 p.2 := ⟨(i, j), h⟩
  unfold findR
  rw [dif_pos e]
  obtain ⟨a, b⟩ := e.choose_spec.uniq h
  exact congrArg some (Prod.ext a b)
theorem findR_none {R : List (Row κ)} {k : κ} (h : ∀ i, some k ∉ rowAt R i) : findR R k = none := by
  unfold findR
  rw [dif_neg]
  rintro ⟨p, s⟩
  exact h p.1 (List.mem_of_getElem? s.at_)
theorem findR_at {R : List (Row κ)} {k : κ} {i j : Nat} (h : findR R k = some (i, j)) : (rowAt R i)[j]? = some (some k) := by
  unfold findR at h
  split at h
  · rename_i q
    have e := Option.some.inj h
    have s := q.choose_spec
    rw [e] at s
    exact s.at_
  · cases h
theorem first_in {α : Type} [DecidableEq α] (x : α) : ∀ {r : List α}, x ∈ r → ∃ j : Nat, r[j]? = some x ∧ ∀ j' : Nat, j' < j → r[j']? ≠ some x
  | [], h => by cases h
  | a :: r, h => by
    by_cases c : a = x
    · exact ⟨0, by rw [c]; rfl, fun j' z => absurd z (Nat.not_lt_zero _)⟩
    · have h' : x ∈ r := by
        rcases List.mem_cons.mp h with e | e
        · exact absurd e.symm c
        · exact e
      obtain ⟨j, e1, e2⟩ := first_in x h'
      refine ⟨j + 1, e1, fun j' z => ?_⟩
      cases j' with
      | zero =>
        intro q
        exact c (Option.some.inj q)
      | succ j' => exact e2 j' (Nat.lt_of_succ_lt_succ z)
theorem spot_ex [DecidableEq κ] {k : κ} : ∀ {R : List (Row κ)}, (∃ i, some k ∈ rowAt R i) → ∃ i j, IsSpot R k i j := by
  intro R
  suffices h : ∀ n, (∃ i, i < n ∧ some k ∈ rowAt R i) → ∃ i j, IsSpot R k i j from fun ⟨i, hi⟩ => h (i + 1) ⟨i, Nat.lt_succ_self i, hi⟩
  intro n
  induction n with
  | zero =>
    rintro ⟨i, h, _⟩
    exact absurd h (Nat.not_lt_zero _)
  | succ n ih =>
    rintro ⟨i, hi, hm⟩
    by_cases c : ∃ i, i < n ∧ some k ∈ rowAt R i
    · exact ih c
    · have e : i = n := by
        rcases Nat.lt_or_ge i n with q | q
        · exact absurd ⟨i, q, hm⟩ c
        · omega
      subst e
      obtain ⟨j, e1, e2⟩ := first_in (some k) hm
      exact ⟨i, j, ⟨e1, e2, fun i' z q => c ⟨i', z, q⟩⟩⟩
theorem findR_none_iff [DecidableEq κ] {R : List (Row κ)} {k : κ} : findR R k = none ↔ k ∉ liv R := by
  constructor
  · intro h hk
    obtain ⟨r, hr, hm⟩ := mem_liv.mp hk
    obtain ⟨i, hi, e⟩ := List.mem_iff_getElem.mp hr
    obtain ⟨i, j, s⟩ := spot_ex (R := R) ⟨i, by rw [rowAt_of (by rw [List.getElem?_eq_getElem hi, e])]; exact hm⟩
    rw [findR_some s] at h
    cases h
  · intro h
    refine findR_none fun i hm => h (mem_liv.mpr ⟨rowAt R i, ?_, hm⟩)
    rcases Nat.lt_or_ge i R.length with q | q
    · exact rowAt_mem q
    · rw [rowAt_out q] at hm
      cases hm

/-! ### what the deeds do -/
inductive Ref where
  | limit (b : Int) | bad (n : Int) | stall (n : Int)
  deriving DecidableEq
abbrev Sg (κ : Type) := List (Row κ) × Nat
/-- one record is carried -/
def move (w : Nat) (s : Sg κ) (p : Int) : Option (Sg κ) :=
  if 0 ≤ p ∧ p.toNat ∈ shut s.1 s.2 ∧ room w s.1 s.2 ≠ 0 then
    match (rowAt s.1 p.toNat)[firstLive (rowAt s.1 p.toNat)]? with
    | some (some k) => some (killR (write w s k).1 p.toNat (firstLive (rowAt s.1 p.toNat)), (write w s k).2)
    | _ => none
  else none
def moves (w : Nat) : Sg κ → List Int → Sum Int (Sg κ)
  | s, [] => .inr s
  | s, p :: r => match move w s p with
    | none => .inl p
    | some s' => moves w s' r
noncomputable def start (w : Nat) (bound load deeds : Int) (late : Bool) (s : Sg κ) (k : κ) (count : Int) : Sum Ref (Sg κ) :=
  if findR s.1 k = none ∧ bound ≤ (total s.1 : Int) then .inl (.limit bound)
  else if load < count then .inl (.bad count)
  else if late = true ∧ room w s.1 s.2 = 0 then .inl (.stall deeds)
  else
    let s1 : Sg κ := if late = true then write w s k else s
    .inr (match findR s.1 k with
      | some (i, j) => (killR s1.1 i j, s1.2)
      | none => s1)
noncomputable def putM (w : Nat) (bound load deeds : Int) (late : Bool) (s : Sg κ) (k : κ) (picks : List Int) : Sum Ref (Sg κ) :=
  match start w bound load deeds late s k picks.length with
  | .inl r => .inl r
  | .inr s1 => match moves w s1 picks with
    | .inl p => .inl (.bad p)
    | .inr s2 => if late = true then .inr s2 else if room w s2.1 s2.2 = 0 then .inl (.stall deeds) else .inr (write w s2 k)

structure Keep (w : Nat) (s s' : Sg κ) (k : κ) : Prop where
  wf : Wf w s'.1 s'.2
  len : s'.1.length = s.1.length
theorem move_ok {w : Nat} {s s' : Sg κ} {p : Int} (h : Wf w s.1 s.2) (e : move w s p = some s') : Wf w s'.1 s'.2 ∧ s'.1.length = s.1.length ∧ (liv s'.1).Perm (liv s.1) := by
  unfold move at e
  split at e
  · rename_i c
    obtain ⟨c1, c2, c3⟩ := c
    split at e
    · rename_i k hk
      have e' := Option.some.inj e
      subst e'
      have hw := h.write (k := k) c3
      obtain ⟨_, q1, q2⟩ := shut_mem.mp c2
      have hne : rowAt s.1 p.toNat ≠ [] := fun z => by
        rw [z] at q2
        exact absurd q2 (Nat.lt_irrefl 0)
      have hho := headOf_ne h c3 q1 hne
      have er : rowAt (write w s k).1 p.toNat = rowAt s.1 p.toNat := rowAt_set_ne hho
      refine ⟨hw.kill _ _, by rw [killR_len]; exact push_len, ?_⟩
      have l1 := liv_push (k := k) (headOf_ok h c3).1
      have l2 := liv_kill (R := (write w s k).1) (i := p.toNat) (j := firstLive (rowAt s.1 p.toNat)) (k := k) (by rw [er]; exact hk)
      exact List.Perm.cons_inv (l2.symm.trans l1)
    · cases e
  · cases e
theorem moves_ok {w : Nat} : ∀ {ps : List Int} {s s' : Sg κ}, Wf w s.1 s.2 → moves w s ps = .inr s' → Wf w s'.1 s'.2 ∧ s'.1.length = s.1.length ∧ (liv s'.1).Perm (liv s.1)
  | [], s, s', h, e => by
    have e' : s = s' := Sum.inr.inj e
    subst e'
    exact ⟨h, rfl, List.Perm.refl _⟩
  | p :: r, s, s', h, e => by
    unfold moves at e
    cases q : move w s p with
    | none =>
      rw [q] at e
      cases e
    | some s1 =>
      rw [q] at e
      obtain ⟨a, b, c⟩ := move_ok h q
      obtain ⟨a2, b2, c2⟩ := moves_ok (ps := r) (s := s1) (s' := s') a e
      exact ⟨a2, b2.trans b, c2.trans c⟩
theorem write_at {w : Nat} {s : Sg κ} {k k' : κ} {i j : Nat} (h : (rowAt s.1 i)[j]? = some (some k')) : (rowAt (write w s k).1 i)[j]? = some (some k') := by
  show (rowAt (s.1.set (headOf w s.1 s.2) (rowAt s.1 (headOf w s.1 s.2) ++ [some k])) i)[j]? = _
  by_cases c : headOf w s.1 s.2 = i
  · rw [c, rowAt_set_same (spot_lt h), List.getElem?_append_left (List.getElem?_eq_some_iff.mp h).1]
    exact h
  · rw [rowAt_set_ne c]
    exact h
/-- behind the begin: rows of the same form; the keys that live -/
theorem start_ok [DecidableEq κ] {w : Nat} {bound load deeds : Int} {late : Bool} {s s' : Sg κ} {k : κ} {count : Int} (h : Wf w s.1 s.2) (e : start w bound load deeds late s k count = .inr s') :
    Wf w s'.1 s'.2 ∧ s'.1.length = s.1.length ∧ (if late = true then liv s'.1 else k :: liv s'.1).Perm (k :: (liv s.1).erase k) := by
  unfold start at e
  split at e
  · cases e
  split at e
  · cases e
  split at e
  · cases e
  rename_i _ _ c3
  have e' := Sum.inr.inj e
  clear e
  cases late with
  | true =>
    have hr : room w s.1 s.2 ≠ 0 := fun z => c3 ⟨rfl, z⟩
    have hw := h.write (k := k) hr
    have l1 : (liv (write w s k).1).Perm (k :: liv s.1) := liv_push (headOf_ok h hr).1
    cases q : findR s.1 k with
    | none =>
      rw [q] at e'
      have e2 : write w s k = s' := e'
      subst e2
      refine ⟨hw, push_len, ?_⟩
      rw [if_pos rfl, List.erase_of_not_mem (findR_none_iff.mp q)]
      exact l1
    | some p =>
      obtain ⟨i, j⟩ := p
      rw [q] at e'
      have e2 : (killR (write w s k).1 i j, (write w s k).2) = s' := e'
      subst e2
      refine ⟨hw.kill i j, (by show (killR _ i j).length = _; rw [killR_len]; exact push_len), ?_⟩
      rw [if_pos rfl]
      have l2 := liv_kill (write_at (w := w) (s := s) (k := k) (findR_at q))
      have l3 : (liv (killR (write w s k).1 i j)).Perm (liv s.1) := List.Perm.cons_inv (l2.symm.trans l1)
      have hm : k ∈ liv s.1 := mem_liv.mpr ⟨rowAt s.1 i, rowAt_mem (spot_lt (findR_at q)), List.mem_of_getElem? (findR_at q)⟩
      exact l3.trans (List.perm_cons_erase hm)
  | false =>
    cases q : findR s.1 k with
    | none =>
      rw [q] at e'
      have e2 : s = s' := e'
      subst e2
      refine ⟨h, rfl, ?_⟩
      rw [if_neg Bool.false_ne_true, List.erase_of_not_mem (findR_none_iff.mp q)]
    | some p =>
      obtain ⟨i, j⟩ := p
      rw [q] at e'
      have e2 : (killR s.1 i j, s.2) = s' := e'
      subst e2
      refine ⟨h.kill i j, killR_len, ?_⟩
      rw [if_neg Bool.false_ne_true]
      have l2 := liv_kill (findR_at q)
      have hm : k ∈ liv s.1 := mem_liv.mpr ⟨rowAt s.1 i, rowAt_mem (spot_lt (findR_at q)), List.mem_of_getElem? (findR_at q)⟩
      exact l2.symm.trans (List.perm_cons_erase hm)
theorem putM_ok [DecidableEq κ] {w : Nat} {bound load deeds : Int} {late : Bool} {s s' : Sg κ} {k : κ} {ps : List Int} (h : Wf w s.1 s.2) (e : putM w bound load deeds late s k ps = .inr s') :
    Wf w s'.1 s'.2 ∧ s'.1.length = s.1.length ∧ (liv s'.1).Perm (k :: (liv s.1).erase k) := by
  unfold putM at e
  cases q1 : start w bound load deeds late s k ps.length with
  | inl r =>
    rw [q1] at e
    cases e
  | inr s1 =>
    rw [q1] at e
    obtain ⟨a1, b1, c1⟩ := start_ok h q1
    cases q2 : moves w s1 ps with
    | inl p =>
      simp only [q2] at e
      cases e
    | inr s2 =>
      simp only [q2] at e
      obtain ⟨a2, b2, c2⟩ := moves_ok a1 q2
      cases late with
      | true =>
        rw [if_pos rfl] at e
        have e' := Sum.inr.inj e
        subst e'
        rw [if_pos rfl] at c1
        exact ⟨a2, b2.trans b1, c2.trans c1⟩
      | false =>
        rw [if_neg Bool.false_ne_true] at e
        rw [if_neg Bool.false_ne_true] at c1
        split at e
        · cases e
        · rename_i hr
          have e' := Sum.inr.inj e
          subst e'
          refine ⟨a2.write hr, push_len.trans (b2.trans b1), ?_⟩
          exact (liv_push (headOf_ok a2 hr).1).trans ((c2.cons k).trans c1)
end
end Cg

set_option Elab.async false
set_option linter.all false
set_option maxRecDepth 100000
set_option maxHeartbeats 4000000
namespace Cg
open PySem PySem.Spec PyProof.Rows L2

/-! ### the text by its places -/
def topS (i : Nat) : Stmt := PySem.Challenge.pw_carrylog_k30_whole_segment_tables.main.body.getD i (.Pass ⟨0, 0, 0, 0⟩)

/-- the built-in names are still what they were -/
structure Bi (mg : Str → Option Value) : Prop where
  len : mg "len" = none
  range : mg "range" = none
  list : mg "list" = none
  int : mg "int" = none
  max : mg "max" = none
  min : mg "min" = none
  sum : mg "sum" = none
  dict : mg "dict" = none
  isinstance : mg "isinstance" = none
  enumerate : mg "enumerate" = none
  str : mg "str" = none
  bool : mg "bool" = none

/-! ### heaps: all but S is as it was, tuples always -/
structure Fr (S : List Addr) (H H' : Hp) : Prop where
  all : ∀ b o, H b = some o → b ∉ S → H' b = some o
  tup : ∀ b xs, H b = some (.tup xs) → H' b = some (.tup xs)
theorem Fr.refl (S : List Addr) (H : Hp) : Fr S H H := ⟨fun _ _ h _ => h, fun _ _ h => h⟩
theorem Fr.trans {S S' : List Addr} {H H1 H2 : Hp} (a : Fr S H H1) (b : Fr S' H1 H2) (h : ∀ x ∈ S', x ∈ S ∨ H x = none) : Fr S H H2 :=
  ⟨fun c o e n => b.all c o (a.all c o e n) fun m => (h c m).elim n fun z => (by rw [z] at e; cases e), fun c xs e => b.tup c xs (a.tup c xs e)⟩
theorem Fr.mono {S S' : List Addr} {H H' : Hp} (a : Fr S H H') (h : ∀ x ∈ S, x ∈ S') : Fr S' H H' := ⟨fun b o e n => a.all b o e fun m => n (h b m), a.tup⟩
theorem Fr.new {S : List Addr} {H : Hp} {p : Addr} {o : HO} (h : H p = none) : Fr S H (upd H p o) :=
  ⟨fun b u e _ => by rw [upd_ne (ne_of_none e h)]; exact e, fun b xs e => by rw [upd_ne (ne_of_none e h)]; exact e⟩
theorem Fr.set {S : List Addr} {H : Hp} {p : Addr} {o u : HO} (hp : p ∈ S) (h : H p = some u) (nt : ∀ xs, u ≠ .tup xs) : Fr S H (upd H p o) :=
  ⟨fun b v e n => by rw [upd_ne (fun z => n (by rw [z]; exact hp))]; exact e, fun b xs e => by rw [upd_ne (ne_of e h fun z => nt xs z.symm)]; exact e⟩
theorem Fr.same {H H' : Hp} (a : Fr [] H H') : Same H H' := fun b o e => a.all b o e (by simp)
theorem Fr.of_same {S : List Addr} {H H' : Hp} (a : Same H H') : Fr S H H' := ⟨fun b o e _ => a b o e, fun b xs e => a b _ e⟩
theorem Fr.then {S : List Addr} {H H1 H2 : Hp} (a : Fr S H H1) (b : Fr S H1 H2) : Fr S H H2 := a.trans b fun _ h => .inl h
theorem Fr.free {S : List Addr} {H H' : Hp} (a : Fr S H H') {b : Addr} (h : H' b = none) (hS : ∀ x ∈ S, (H' x).isSome = true) : H b = none := by
  cases q : H b with
  | none => rfl
  | some o =>
    by_cases hb : b ∈ S
    · have := hS b hb
      rw [h] at this
      cases this
    · rw [a.all b o q hb] at h
      cases h

/-! ### rules whose reading names the written part by a letter (for a comprehension's block) -/
def rLenS (K : PySem.W.Frag) : List V → Hp → VK → Prop := fun xs H Q => ∃ p ys, xs = [.ref p] ∧ (SqL K H p ys ∨ SqT K H p ys) ∧ Q (.int ys.length) H
theorem call_lenK {X : Cx} {K : PySem.W.Frag} (h : X.K = K := by rfl) : CallR X (.builtin "len") (rLenS K) := by
  subst h
  exact call_len_seq
def rListS (K : PySem.W.Frag) : List V → Hp → VK → Prop := fun xs H Q => ∃ p ys, xs = [.ref p] ∧ (SqL K H p ys ∨ SqT K H p ys) ∧ ∀ l, H l = none → Q (.ref l) (upd H l (.lst ys))
theorem call_listK {X : Cx} {K : PySem.W.Frag} (h : X.K = K := by rfl) : CallR X (.type "list") (rListS K) := by
  subst h
  exact call_list_of
theorem pt_truthK {X : Cx} {K : PySem.W.Frag} {a : Expr} {ta : TE} (ha : PE X a ta) (he : ∀ whole, isTrue a X.env whole = (do let v ← whole; standAt a.pos; holding [v] (truthy v))) (h : X.K = K := by rfl) :
    PT X a (fun σ H Q => ta σ H fun x H' => ∃ k, TruV K x H' k ∧ Q k H') := by
  subst h
  exact pt_truth ha he

/-! ### rows -/
/-- a record as the law's model keeps it: None, or a tuple (key, value) -/
def RecV (H : Hp) (v : V) : Option Str → Prop
  | none => v = .non
  | some k => ∃ (t : Addr) (z : Int), v = .ref t ∧ H t = some (.tup [.str k, .int z])
theorem RecV.fr {S : List Addr} {H H' : Hp} (f : Fr S H H') {v : V} {o : Option Str} (h : RecV H v o) : RecV H' v o := by
  cases o with
  | none => exact h
  | some k =>
    obtain ⟨t, z, e, ht⟩ := h
    exact ⟨t, z, e, f.tup _ _ ht⟩
theorem RecV.non_iff {H : Hp} {v : V} {o : Option Str} (h : RecV H v o) : decide (v = .non) = !o.isSome := by
  cases o with
  | none =>
    rw [show v = .non from h]
    rfl
  | some k =>
    obtain ⟨t, z, e, ht⟩ := h
    rw [e]
    rfl
abbrev RowV (H : Hp) (vs : List V) (r : Row Str) : Prop := Paired (RecV H) vs r
/-- a record as the store keeps it: None or the key -/
def KeyV (_ : Hp) (v : V) : Option Str → Prop
  | none => v = .non
  | some k => v = .str k
/-- what a kind of record leans on: tuples at most -/
def Steady (rel : Hp → V → Option Str → Prop) : Prop := ∀ (S : List Addr) (H H' : Hp) (v : V) (o : Option Str), Fr S H H' → rel H v o → rel H' v o
theorem steady_rec : Steady RecV := fun _ _ _ _ _ f h => h.fr f
theorem steady_key : Steady KeyV := fun _ _ _ _ _ _ h => h
theorem paired_get {α β : Type} {F : α → β → Prop} : ∀ {l : List α} {m : List β} {i : Nat} {x : α}, Paired F l m → l[i]? = some x → ∃ y, m[i]? = some y ∧ F x y
  | _, _, _, _, .nil, h => by simp at h
  | _, _, 0, x, .cons r _, h => by
    have e := Option.some.inj h
    subst e
    exact ⟨_, rfl, r⟩
  | _, _, i + 1, x, .cons _ t, h => paired_get (i := i) t h
theorem paired_take {α β : Type} {F : α → β → Prop} : ∀ {l : List α} {m : List β} (i : Nat), Paired F l m → Paired F (l.take i) (m.take i)
  | _, _, 0, _ => .nil
  | _, _, _ + 1, .nil => .nil
  | _, _, i + 1, .cons r t => .cons r (paired_take i t)
theorem paired_get_r {α β : Type} {F : α → β → Prop} : ∀ {l : List α} {m : List β} {i : Nat} {y : β}, Paired F l m → m[i]? = some y → ∃ x, l[i]? = some x ∧ F x y
  | _, _, _, _, .nil, h => by simp at h
  | _, _, 0, y, .cons r _, h => by
    have e := Option.some.inj h
    subst e
    exact ⟨_, rfl, r⟩
  | _, _, i + 1, y, .cons _ t, h => paired_get_r (i := i) t h
theorem paired_set {α β : Type} {F : α → β → Prop} {x : α} {y : β} (h : F x y) : ∀ {l : List α} {m : List β} (i : Nat), Paired F l m → Paired F (l.set i x) (m.set i y)
  | _, _, _, .nil => .nil
  | _, _, 0, .cons _ t => .cons h t
  | _, _, i + 1, .cons r t => .cons r (paired_set h i t)
theorem paired_snoc {α β : Type} {F : α → β → Prop} {x : α} {y : β} (h : F x y) : ∀ {l : List α} {m : List β}, Paired F l m → Paired F (l ++ [x]) (m ++ [y])
  | _, _, .nil => .cons h .nil
  | _, _, .cons r t => .cons r (paired_snoc h t)
theorem nodup_ixA {l : List Addr} (hN : l.Nodup) {i j : Nat} {x : Addr} (a : l[i]? = some x) (b : l[j]? = some x) : i = j := by
  obtain ⟨h1, e1⟩ := List.getElem?_eq_some_iff.mp a
  obtain ⟨h2, e2⟩ := List.getElem?_eq_some_iff.mp b
  exact (List.getElem_inj hN).mp (e1.trans e2.symm)
theorem take_more {α : Type} : ∀ {l : List α} {i : Nat} {x : α}, l[i]? = some x → l.take (i + 1) = l.take i ++ [x]
  | [], i, x, h => by simp at h
  | a :: l, 0, x, h => by
    have e : a = x := Option.some.inj h
    subst e
    rfl
  | a :: l, i + 1, x, h => by
    have ih := take_more (l := l) (i := i) (x := x) h
    show a :: l.take (i + 1) = a :: l.take i ++ [x]
    rw [ih]
    rfl
/-! ### a list of rows -/
structure RowsAt (rel : Hp → V → Option Str → Prop) (H : Hp) (ra : Addr) (rs : List Addr) (R : List (Row Str)) : Prop where
  nd : (ra :: rs).Nodup
  rows : H ra = some (.lst (rs.map V.ref))
  len : rs.length = R.length
  row : ∀ (i : Nat) x, rs[i]? = some x → ∃ vs, H x = some (.lst vs) ∧ Paired (rel H) vs (rowAt R i)
theorem nodup_set {l : List Addr} {n : Addr} : ∀ {i : Nat}, l.Nodup → n ∉ l → (l.set i n).Nodup := by
  induction l with
  | nil => intro i _ _; exact List.nodup_nil
  | cons a l ih =>
    intro i hd hn
    obtain ⟨h1, h2⟩ := List.nodup_cons.mp hd
    cases i with
    | zero =>
      show (n :: l).Nodup
      exact List.nodup_cons.mpr ⟨fun z => hn (List.mem_cons_of_mem _ z), h2⟩
    | succ i =>
      show (a :: l.set i n).Nodup
      refine List.nodup_cons.mpr ⟨fun z => ?_, ih h2 fun z => hn (List.mem_cons_of_mem _ z)⟩
      rcases List.mem_or_eq_of_mem_set z with e | e
      · exact h1 e
      · exact hn (by rw [e]; exact List.mem_cons_self)
section
variable {rel : Hp → V → Option Str → Prop} {H H' : Hp} {ra : Addr} {rs : List Addr} {R : List (Row Str)}
theorem RowsAt.fr {S : List Addr} (st : Steady rel) (M : RowsAt rel H ra rs R) (f : Fr S H H') (h : ∀ x ∈ ra :: rs, x ∉ S) : RowsAt rel H' ra rs R := by
  refine ⟨M.nd, f.all _ _ M.rows (h _ List.mem_cons_self), M.len, fun i x hi => ?_⟩
  obtain ⟨vs, e, r⟩ := M.row i x hi
  exact ⟨vs, f.all _ _ e (h _ (List.mem_cons_of_mem _ (List.mem_of_getElem? hi))), Paired.mapP r fun v o z => st S H H' v o f z⟩
theorem RowsAt.get (M : RowsAt rel H ra rs R) {i : Nat} (h : i < R.length) : ∃ x vs, rs[i]? = some x ∧ (rs.map V.ref)[i]? = some (.ref x) ∧ H x = some (.lst vs) ∧ Paired (rel H) vs (rowAt R i) := by
  have hi : i < rs.length := by rw [M.len]; exact h
  have e := List.getElem?_eq_getElem hi
  obtain ⟨vs, e2, r⟩ := M.row i _ e
  exact ⟨_, vs, e, by rw [List.getElem?_map, e]; rfl, e2, r⟩
theorem RowsAt.lenV (M : RowsAt rel H ra rs R) : (rs.map V.ref).length = R.length := by rw [List.length_map, M.len]
/-- one row is written anew, at its own place -/
theorem RowsAt.set (st : Steady rel) (M : RowsAt rel H ra rs R) {i : Nat} {x : Addr} {vs ws : List V} {r : Row Str} (hi : rs[i]? = some x) (hx : H x = some (.lst vs)) (hr : Paired (rel H) ws r) :
    Fr (ra :: rs) H (upd H x (.lst ws)) ∧ RowsAt rel (upd H x (.lst ws)) ra rs (R.set i r) := by
  have f1 : Fr [x] H (upd H x (.lst ws)) := Fr.set (by simp) hx fun xs z => by cases z
  have hm : x ∈ rs := List.mem_of_getElem? hi
  have hne : ra ≠ x := fun z => (List.nodup_cons.mp M.nd).1 (z ▸ hm)
  have il : i < R.length := by
    rw [← M.len]
    exact (List.getElem?_eq_some_iff.mp hi).1
  refine ⟨f1.mono fun y hy => ?_, M.nd, by rw [upd_ne hne]; exact M.rows, by rw [List.length_set]; exact M.len, fun j y hj => ?_⟩
  · have e : y = x := by simpa using hy
    rw [e]
    exact List.mem_cons_of_mem _ hm
  · by_cases e : j = i
    · subst e
      rw [hi] at hj
      have e2 := Option.some.inj hj
      subst e2
      exact ⟨ws, upd_same, by rw [rowAt_set_same il]; exact Paired.mapP hr fun v o z => st _ _ _ v o f1 z⟩
    · have hyx : y ≠ x := fun z => e (nodup_ixA (List.nodup_cons.mp M.nd).2 (z ▸ hj) hi)
      obtain ⟨us, e3, r3⟩ := M.row j y hj
      exact ⟨us, by rw [upd_ne hyx]; exact e3, by rw [rowAt_set_ne (Ne.symm e)]; exact Paired.mapP r3 fun v o z => st _ _ _ v o f1 z⟩
/-- one row is a new list -/
theorem RowsAt.fresh (st : Steady rel) (M : RowsAt rel H ra rs R) {i : Nat} {n : Addr} (il : i < R.length) (hn : H n = none) :
    Fr (ra :: rs) H (upd (upd H n (.lst [])) ra (.lst ((rs.map V.ref).set i (.ref n)))) ∧ RowsAt rel (upd (upd H n (.lst [])) ra (.lst ((rs.map V.ref).set i (.ref n)))) ra (rs.set i n) (R.set i []) := by
  have f1 : Fr [] H (upd H n (.lst [])) := Fr.new hn
  have f2 : Fr [ra] (upd H n (.lst [])) (upd (upd H n (.lst [])) ra (.lst ((rs.map V.ref).set i (.ref n)))) := Fr.set (by simp) (f1.all _ _ M.rows (by simp)) fun xs z => by cases z
  have f : Fr [ra] H (upd (upd H n (.lst [])) ra (.lst ((rs.map V.ref).set i (.ref n)))) := (f1.mono fun x h => by cases h).then f2
  have nrs : n ∉ rs := fun z => by
    obtain ⟨j, hj⟩ := List.mem_iff_getElem?.mp z
    obtain ⟨us, e, _⟩ := M.row j n hj
    rw [hn] at e
    cases e
  have nra : n ≠ ra := fun z => by
    have e := M.rows
    rw [← z, hn] at e
    cases e
  obtain ⟨d1, d2⟩ := List.nodup_cons.mp M.nd
  refine ⟨f.mono fun y hy => ?_, List.nodup_cons.mpr ⟨fun z => ?_, nodup_set d2 nrs⟩, ?_, by rw [List.length_set, List.length_set]; exact M.len, fun j y hj => ?_⟩
  · have e : y = ra := by simpa using hy
    rw [e]
    exact List.mem_cons_self
  · rcases List.mem_or_eq_of_mem_set z with e | e
    · exact d1 e
    · exact nra e.symm
  · rw [upd_same, List.map_set]
  · have il2 : i < rs.length := by rw [M.len]; exact il
    by_cases e : i = j
    · subst e
      rw [List.getElem?_set_self il2] at hj
      have e2 := Option.some.inj hj
      subst e2
      exact ⟨[], by rw [upd_ne nra, upd_same], by rw [rowAt_set_same il]; exact .nil⟩
    · rw [List.getElem?_set_ne e] at hj
      have hyr : y ≠ ra := fun z => d1 (z ▸ List.mem_of_getElem? hj)
      obtain ⟨us, e3, r3⟩ := M.row j y hj
      exact ⟨us, by rw [upd_ne hyr, upd_ne (ne_of_none e3 hn)]; exact e3, by rw [rowAt_set_ne e]; exact Paired.mapP r3 fun v o z => st _ _ _ v o f z⟩
end
theorem ixN_at {n j : Nat} (h : j < n) : ixN n (j : Int) = some j := by
  unfold ixN
  rw [if_pos (by omega), if_pos (by omega), Int.toNat_natCast]

/-! ### comprehensions that fill a new list -/
/-- behind i turns: the new list at D holds acc i, all else is as it was at H -/
structure CompI (H : Hp) (D : Addr) (acc : Nat → List V) (i : Nat) (H' : Hp) : Prop where
  new : H D = none
  at_ : H' D = some (.lst (acc i))
  fr : Fr [D] H H'
theorem CompI.start {H : Hp} {D : Addr} {acc : Nat → List V} (h : H D = none) (e : acc 0 = []) : CompI H D acc 0 (upd H D (.lst [])) := ⟨h, by rw [upd_same, e], Fr.new h⟩
theorem CompI.put {H H' : Hp} {D : Addr} {acc : Nat → List V} {i : Nat} {y : V} (c : CompI H D acc i H') (hl : (acc i).length ≤ 1000) (e : acc (i + 1) = acc i ++ [y]) :
    ∃ l, H' D = some (.lst l) ∧ l.length < sizeLine ∧ CompI H D acc (i + 1) (upd H' D (.lst (l ++ [y]))) :=
  ⟨acc i, c.at_, small1000 hl, c.new, by rw [upd_same, e], c.fr.then (Fr.set (by simp) c.at_ fun xs z => by cases z)⟩
theorem CompI.skip {H H' : Hp} {D : Addr} {acc : Nat → List V} {i : Nat} (c : CompI H D acc i H') (e : acc (i + 1) = acc i) : CompI H D acc (i + 1) H' := ⟨c.new, by rw [e]; exact c.at_, c.fr⟩
theorem CompI.more {H H' H2 : Hp} {D : Addr} {acc : Nat → List V} {i : Nat} (c : CompI H D acc i H') (f : Fr [] H' H2) : CompI H D acc i H2 :=
  ⟨c.new, f.all _ _ c.at_ (by simp), c.fr.then (f.mono fun x h => by cases h)⟩
theorem CompI.old {H H' : Hp} {D : Addr} {acc : Nat → List V} {i : Nat} (c : CompI H D acc i H') {a : Addr} {o : HO} (e : H a = some o) : H' a = some o :=
  c.fr.all a o e (by simp [ne_of_none e c.new])
theorem Fr.out {H H' : Hp} {D : Addr} (f : Fr [D] H H') (h : H D = none) : Fr [] H H' := ⟨fun b o e _ => f.all b o e (by simp [ne_of_none e h]), f.tup⟩
theorem CompI.fr0 {H H' : Hp} {D : Addr} {acc : Nat → List V} {i : Nat} (c : CompI H D acc i H') : Fr [] H H' := c.fr.out c.new
theorem accR {p : Nat → Bool} (i : Nat) : ((List.range (i + 1)).filter p).map (fun j : Nat => V.int j) = ((List.range i).filter p).map (fun j : Nat => V.int j) ++ (if p i = true then [V.int i] else []) := by
  rw [List.range_succ, List.filter_append, List.map_append, List.filter_cons]
  cases p i <;> rfl
theorem accR_len {p : Nat → Bool} {i : Nat} (h : i ≤ 1000) : (((List.range i).filter p).map (fun j : Nat => V.int j)).length ≤ 1000 := by
  rw [List.length_map]
  refine Nat.le_trans (List.length_filter_le _ _) ?_
  rw [List.length_range]
  exact h

theorem dec_z (i h : Nat) : decide (V.int (0 + (i : Int)) = V.int ((h : Nat) : Int)) = decide (i = h) := by
  by_cases e : i = h
  · subst e
    rw [Int.zero_add, decide_eq_true rfl, decide_eq_true rfl]
  · rw [decide_eq_false e, decide_eq_false]
    intro z
    have z' := V.int.inj z
    omega
theorem dec_nn (i h : Nat) : decide (V.int (i : Int) = V.int ((h : Nat) : Int)) = decide (i = h) := by
  have := dec_z i h
  rwa [Int.zero_add] at this
theorem dec_pos (n : Nat) : decide ((0 : Int) < (n : Int)) = decide (0 < n) := by
  by_cases e : 0 < n
  · rw [decide_eq_true e, decide_eq_true (by omega)]
  · rw [decide_eq_false e, decide_eq_false (by omega)]
theorem dec_0 (n : Nat) : decide (V.int (n : Int) = V.int 0) = decide (n = 0) := dec_nn n 0
theorem iteT' {b : Bool} {A B : Prop} (h : b = true) (x : A) : if b = true then A else B := by
  rw [if_pos h]
  exact x
theorem iteF' {b : Bool} {A B : Prop} (h : b = false) (x : B) : if b = true then A else B := by
  rw [if_neg (by rw [h]; exact Bool.false_ne_true)]
  exact x
theorem not_true {b : Bool} (h : ¬ b = true) : b = false := by cases b <;> simp_all
theorem acc_yes {p : Nat → Bool} {i : Nat} (h : p i = true) : ((List.range (i + 1)).filter p).map (fun j : Nat => V.int j) = ((List.range i).filter p).map (fun j : Nat => V.int j) ++ [V.int (0 + (i : Int))] := by
  rw [accR, if_pos h, Int.zero_add]
theorem acc_no {p : Nat → Bool} {i : Nat} (h : p i = false) : ((List.range (i + 1)).filter p).map (fun j : Nat => V.int j) = ((List.range i).filter p).map (fun j : Nat => V.int j) := by
  rw [accR, if_neg (by rw [h]; exact Bool.false_ne_true), List.append_nil]

/-! ### the law's list of segments -/
structure Cfg where
  w : Nat
  bound : Int
  load : Int
  late : Bool
/-- the addresses of a model: the dict, the list of rows, born, frees, the rows -/
structure MAd where
  m : Addr
  ra : Addr
  ba : Addr
  fa : Addr
  rs : List Addr
def MAd.fp (a : MAd) : List Addr := a.m :: a.ra :: a.ba :: a.fa :: a.rs
def mkvs (a : MAd) (hd : Nat) (deeds mv wt : Int) (c : Cfg) : List (Key × V) :=
  [(.inr "rows", .ref a.ra), (.inr "head", .int hd), (.inr "born", .ref a.ba), (.inr "frees", .ref a.fa), (.inr "deeds", .int deeds), (.inr "moved", .int mv), (.inr "waits", .int wt),
   (.inr "wide", .int c.w), (.inr "bound", .int c.bound), (.inr "load", .int c.load), (.inr "first", .bl c.late)]
section
variable {a : MAd} {hd : Nat} {deeds mv wt : Int} {c : Cfg}
theorem mk_rows : valV (mkvs a hd deeds mv wt c) (Sum.inr "rows") = some (.ref a.ra) := rfl
theorem mk_head : valV (mkvs a hd deeds mv wt c) (Sum.inr "head") = some (.int hd) := rfl
theorem mk_born : valV (mkvs a hd deeds mv wt c) (Sum.inr "born") = some (.ref a.ba) := rfl
theorem mk_frees : valV (mkvs a hd deeds mv wt c) (Sum.inr "frees") = some (.ref a.fa) := rfl
theorem mk_deeds : valV (mkvs a hd deeds mv wt c) (Sum.inr "deeds") = some (.int deeds) := rfl
theorem mk_moved : valV (mkvs a hd deeds mv wt c) (Sum.inr "moved") = some (.int mv) := rfl
theorem mk_waits : valV (mkvs a hd deeds mv wt c) (Sum.inr "waits") = some (.int wt) := rfl
theorem mk_wide : valV (mkvs a hd deeds mv wt c) (Sum.inr "wide") = some (.int c.w) := rfl
theorem mk_bound : valV (mkvs a hd deeds mv wt c) (Sum.inr "bound") = some (.int c.bound) := rfl
theorem mk_load : valV (mkvs a hd deeds mv wt c) (Sum.inr "load") = some (.int c.load) := rfl
theorem mk_first : valV (mkvs a hd deeds mv wt c) (Sum.inr "first") = some (.bl c.late) := rfl
theorem mk_put_head (x : Nat) : putK (mkvs a hd deeds mv wt c) (Sum.inr "head") (.int x) = mkvs a x deeds mv wt c := rfl
theorem mk_put_deeds (x : Int) : putK (mkvs a hd deeds mv wt c) (Sum.inr "deeds") (.int x) = mkvs a hd x mv wt c := rfl
theorem mk_put_moved (x : Int) : putK (mkvs a hd deeds mv wt c) (Sum.inr "moved") (.int x) = mkvs a hd deeds x wt c := rfl
theorem mk_put_waits (x : Int) : putK (mkvs a hd deeds mv wt c) (Sum.inr "waits") (.int x) = mkvs a hd deeds mv x c := rfl
theorem mk_put_rows (x : Addr) : putK (mkvs a hd deeds mv wt c) (Sum.inr "rows") (.ref x) = mkvs { a with ra := x } hd deeds mv wt c := rfl
theorem mk_put_born (x : Addr) : putK (mkvs a hd deeds mv wt c) (Sum.inr "born") (.ref x) = mkvs { a with ba := x } hd deeds mv wt c := rfl
theorem mk_put_frees (x : Addr) : putK (mkvs a hd deeds mv wt c) (Sum.inr "frees") (.ref x) = mkvs { a with fa := x } hd deeds mv wt c := rfl
end
structure ModAt (H : Hp) (a : MAd) (c : Cfg) (s : Sg Str) (deeds : Int) : Prop where
  nd : a.fp.Nodup
  ob : ∃ mv wt, H a.m = some (.dK (mkvs a s.2 deeds mv wt c))
  rw : RowsAt RecV H a.ra a.rs s.1
  born : ∃ ns : List Int, H a.ba = some (.lst (ns.map V.int)) ∧ ns.length = s.1.length
  frees : ∃ ns : List Int, H a.fa = some (.lst (ns.map V.int)) ∧ ns.length = s.1.length
theorem RowV.fr {S : List Addr} {H H' : Hp} (f : Fr S H H') {vs : List V} {r : Row Str} (h : RowV H vs r) : RowV H' vs r := Paired.mapP h fun _ _ z => z.fr f
theorem MAd.mem_ra (a : MAd) : a.ra ∈ a.fp := by simp [MAd.fp]
theorem MAd.mem_m (a : MAd) : a.m ∈ a.fp := by simp [MAd.fp]
theorem MAd.mem_ba (a : MAd) : a.ba ∈ a.fp := by simp [MAd.fp]
theorem MAd.mem_fa (a : MAd) : a.fa ∈ a.fp := by simp [MAd.fp]
theorem MAd.mem_rows (a : MAd) : ∀ x ∈ a.ra :: a.rs, x ∈ a.fp := fun x h => by
  rcases List.mem_cons.mp h with e | e
  · rw [e]; exact a.mem_ra
  · simp [MAd.fp, e]
structure MAd.Apart (a : MAd) : Prop where
  mr : a.m ≠ a.ra
  mb : a.m ≠ a.ba
  mf : a.m ≠ a.fa
  ms : a.m ∉ a.rs
  rb : a.ra ≠ a.ba
  rf : a.ra ≠ a.fa
  rs : a.ra ∉ a.rs
  bf : a.ba ≠ a.fa
  bs : a.ba ∉ a.rs
  fs : a.fa ∉ a.rs
  nd : a.rs.Nodup
theorem MAd.apart {a : MAd} (h : a.fp.Nodup) : a.Apart := by
  unfold MAd.fp at h
  obtain ⟨h1, h⟩ := List.nodup_cons.mp h
  obtain ⟨h2, h⟩ := List.nodup_cons.mp h
  obtain ⟨h3, h⟩ := List.nodup_cons.mp h
  obtain ⟨h4, h⟩ := List.nodup_cons.mp h
  simp only [List.mem_cons, not_or] at h1 h2 h3 h4
  exact ⟨h1.1, h1.2.1, h1.2.2.1, h1.2.2.2, h2.1, h2.2.1, h2.2.2, h3.1, h3.2, h4, h⟩
theorem MAd.of_apart {a : MAd} (p : a.Apart) : a.fp.Nodup := by
  unfold MAd.fp
  refine List.nodup_cons.mpr ⟨?_, List.nodup_cons.mpr ⟨?_, List.nodup_cons.mpr ⟨?_, List.nodup_cons.mpr ⟨p.fs, p.nd⟩⟩⟩⟩
  · simp only [List.mem_cons, not_or]
    exact ⟨p.mr, p.mb, p.mf, p.ms⟩
  · simp only [List.mem_cons, not_or]
    exact ⟨p.rb, p.rf, p.rs⟩
  · simp only [List.mem_cons, not_or]
    exact ⟨p.bf, p.bs⟩
theorem ModAt.fr {S : List Addr} {H H' : Hp} {a : MAd} {c : Cfg} {s : Sg Str} {deeds : Int} (M : ModAt H a c s deeds) (f : Fr S H H') (h : ∀ x ∈ a.fp, x ∉ S) : ModAt H' a c s deeds := by
  obtain ⟨mv, wt, e⟩ := M.ob
  obtain ⟨ns, e2, l2⟩ := M.born
  obtain ⟨ms, e3, l3⟩ := M.frees
  exact ⟨M.nd, ⟨mv, wt, f.all _ _ e (h _ a.mem_m)⟩, M.rw.fr steady_rec f fun x hx => h x (a.mem_rows x hx), ⟨ns, f.all _ _ e2 (h _ a.mem_ba), l2⟩, ⟨ms, f.all _ _ e3 (h _ a.mem_fa), l3⟩⟩
/-- the model's object is written: the head, or a counter -/
theorem ModAt.set_ob {H : Hp} {a : MAd} {c : Cfg} {s : Sg Str} {d : Int} (M : ModAt H a c s d) {kvs : List (Key × V)} (hd : Nat) (d' mv wt : Int) (e : kvs = mkvs a hd d' mv wt c) :
    Fr a.fp H (upd H a.m (.dK kvs)) ∧ ModAt (upd H a.m (.dK kvs)) a c (s.1, hd) d' := by
  subst e
  obtain ⟨mv0, wt0, e⟩ := M.ob
  have p := MAd.apart M.nd
  have f : Fr [a.m] H (upd H a.m (.dK (mkvs a hd d' mv wt c))) := Fr.set (by simp) e fun xs z => by cases z
  obtain ⟨ns, e2, l2⟩ := M.born
  obtain ⟨ms, e3, l3⟩ := M.frees
  refine ⟨f.mono fun x hx => by rw [show x = a.m by simpa using hx]; exact a.mem_m, M.nd, ⟨mv, wt, upd_same⟩, M.rw.fr steady_rec f fun x hx => ?_, ⟨ns, f.all _ _ e2 (by simp [p.mb.symm]), l2⟩, ⟨ms, f.all _ _ e3 (by simp [p.mf.symm]), l3⟩⟩
  rcases List.mem_cons.mp hx with e | e
  · rw [e]
    simp [p.mr.symm]
  · intro z
    have z' : x = a.m := by simpa using z
    exact p.ms (z' ▸ e)
theorem ModAt.set_born {H : Hp} {a : MAd} {c : Cfg} {s : Sg Str} {d : Int} (M : ModAt H a c s d) {ns : List Int} (hl : ns.length = s.1.length) :
    Fr a.fp H (upd H a.ba (.lst (ns.map V.int))) ∧ ModAt (upd H a.ba (.lst (ns.map V.int))) a c s d := by
  obtain ⟨ns0, e2, l2⟩ := M.born
  have p := MAd.apart M.nd
  have f : Fr [a.ba] H (upd H a.ba (.lst (ns.map V.int))) := Fr.set (by simp) e2 fun xs z => by cases z
  obtain ⟨mv, wt, e⟩ := M.ob
  obtain ⟨ms, e3, l3⟩ := M.frees
  refine ⟨f.mono fun x hx => by rw [show x = a.ba by simpa using hx]; exact a.mem_ba, M.nd, ⟨mv, wt, f.all _ _ e (by simp [p.mb])⟩, M.rw.fr steady_rec f fun x hx => ?_, ⟨ns, upd_same, hl⟩, ⟨ms, f.all _ _ e3 (by simp [p.bf.symm]), l3⟩⟩
  rcases List.mem_cons.mp hx with e | e
  · rw [e]
    simp [p.rb]
  · intro z
    have z' : x = a.ba := by simpa using z
    exact p.bs (z' ▸ e)
theorem ModAt.set_frees {H : Hp} {a : MAd} {c : Cfg} {s : Sg Str} {d : Int} (M : ModAt H a c s d) {ns : List Int} (hl : ns.length = s.1.length) :
    Fr a.fp H (upd H a.fa (.lst (ns.map V.int))) ∧ ModAt (upd H a.fa (.lst (ns.map V.int))) a c s d := by
  obtain ⟨ns0, e2, l2⟩ := M.frees
  have p := MAd.apart M.nd
  have f : Fr [a.fa] H (upd H a.fa (.lst (ns.map V.int))) := Fr.set (by simp) e2 fun xs z => by cases z
  obtain ⟨mv, wt, e⟩ := M.ob
  obtain ⟨ms, e3, l3⟩ := M.born
  refine ⟨f.mono fun x hx => by rw [show x = a.fa by simpa using hx]; exact a.mem_fa, M.nd, ⟨mv, wt, f.all _ _ e (by simp [p.mf])⟩, M.rw.fr steady_rec f fun x hx => ?_, ⟨ms, f.all _ _ e3 (by simp [p.bf]), l3⟩, ⟨ns, upd_same, hl⟩⟩
  rcases List.mem_cons.mp hx with e | e
  · rw [e]
    simp [p.rf]
  · intro z
    have z' : x = a.fa := by simpa using z
    exact p.fs (z' ▸ e)
/-- a row is written at its place -/
theorem ModAt.set_row {H : Hp} {a : MAd} {c : Cfg} {s : Sg Str} {d : Int} (M : ModAt H a c s d) {i : Nat} {x : Addr} {vs ws : List V} {r : Row Str} (hi : a.rs[i]? = some x) (hx : H x = some (.lst vs)) (hr : RowV H ws r) :
    Fr a.fp H (upd H x (.lst ws)) ∧ ModAt (upd H x (.lst ws)) a c (s.1.set i r, s.2) d := by
  obtain ⟨f, rw'⟩ := M.rw.set steady_rec hi hx hr
  have p := MAd.apart M.nd
  have hm : x ∈ a.rs := List.mem_of_getElem? hi
  obtain ⟨mv, wt, e⟩ := M.ob
  obtain ⟨ns, e2, l2⟩ := M.born
  obtain ⟨ms, e3, l3⟩ := M.frees
  have ne : ∀ {y : Addr}, y ∉ a.rs → y ≠ x := fun {y} h z => h (by rw [z]; exact hm)
  exact ⟨f.mono a.mem_rows, M.nd, ⟨mv, wt, (upd_ne (ne p.ms)).trans e⟩, rw', ⟨ns, (upd_ne (ne p.bs)).trans e2, by rw [List.length_set]; exact l2⟩, ⟨ms, (upd_ne (ne p.fs)).trans e3, by rw [List.length_set]; exact l3⟩⟩
/-- a row is a new list -/
theorem ModAt.fresh {H : Hp} {a : MAd} {c : Cfg} {s : Sg Str} {d : Int} (M : ModAt H a c s d) {i : Nat} {n : Addr} (il : i < s.1.length) (hn : H n = none) :
    Fr a.fp H (upd (upd H n (.lst [])) a.ra (.lst ((a.rs.map V.ref).set i (.ref n)))) ∧ ModAt (upd (upd H n (.lst [])) a.ra (.lst ((a.rs.map V.ref).set i (.ref n)))) { a with rs := a.rs.set i n } c (s.1.set i [], s.2) d := by
  obtain ⟨f, rw'⟩ := M.rw.fresh steady_rec il hn
  have p := MAd.apart M.nd
  obtain ⟨mv, wt, e⟩ := M.ob
  obtain ⟨ns, e2, l2⟩ := M.born
  obtain ⟨ms, e3, l3⟩ := M.frees
  have out : ∀ {y : Addr}, y ∉ a.rs → H y ≠ none → y ∉ a.rs.set i n := fun {y} h1 h2 z => by
    rcases List.mem_or_eq_of_mem_set z with q | q
    · exact h1 q
    · exact h2 (q ▸ hn)
  refine ⟨f.mono a.mem_rows, MAd.of_apart ⟨p.mr, p.mb, p.mf, out p.ms (by rw [e]; simp), p.rb, p.rf, (List.nodup_cons.mp rw'.nd).1, p.bf, out p.bs (by rw [e2]; simp), out p.fs (by rw [e3]; simp), (List.nodup_cons.mp rw'.nd).2⟩,
    ⟨mv, wt, ?_⟩, rw', ⟨ns, ?_, by rw [List.length_set]; exact l2⟩, ⟨ms, ?_, by rw [List.length_set]; exact l3⟩⟩
  · show upd (upd H n (.lst [])) a.ra _ a.m = some (.dK (mkvs a s.2 d mv wt c))
    rw [upd_ne p.mr, upd_ne (ne_of_none e hn)]
    exact e
  · show upd (upd H n (.lst [])) a.ra _ a.ba = _
    rw [upd_ne p.rb.symm, upd_ne (ne_of_none e2 hn)]
    exact e2
  · show upd (upd H n (.lst [])) a.ra _ a.fa = _
    rw [upd_ne p.rf.symm, upd_ne (ne_of_none e3 hn)]
    exact e3
theorem ModAt.fr0 {H H' : Hp} {a : MAd} {c : Cfg} {s : Sg Str} {deeds : Int} (M : ModAt H a c s deeds) (f : Fr [] H H') : ModAt H' a c s deeds := M.fr f fun _ _ z => by cases z

end Cg

set_option Elab.async false
set_option linter.all false
set_option maxRecDepth 100000
set_option maxHeartbeats 400000
namespace Cg
open PySem PySem.Spec PyProof.Rows L2
theorem alive_take_le (r : Row Str) (i : Nat) : alive (r.take i) ≤ r.length := by
  have h := alive_le (r.take i)
  rw [List.length_take] at h
  omega
theorem at_z {xs : List V} {i : Nat} {x : V} (h : xs[i]? = some x) : atI xs (0 + (i : Int)) = some x := by
  rw [Int.zero_add]
  exact atI_nat h
/-- small, and of the form -/
structure Ok (c : Cfg) (s : Sg Str) : Prop where
  wf : Wf c.w s.1 s.2
  wsm : c.w ≤ 100
  lsm : s.1.length ≤ 100
theorem Ok.row {c : Cfg} {s : Sg Str} (o : Ok c s) (i : Nat) : (rowAt s.1 i).length ≤ 1000 := Nat.le_trans (o.wf.at i) (Nat.le_trans o.wsm (by decide))
section
variable {H : Hp} {a : MAd} {c : Cfg} {s : Sg Str} {d : Int}
theorem ModAt.g_rows (M : ModAt H a c s d) : DGet H a.m (.str "rows") (some (.ref a.ra)) := by
  obtain ⟨mv, wt, e⟩ := M.ob
  exact DGet.k (k := Sum.inr "rows") e
theorem ModAt.g_head (M : ModAt H a c s d) : DGet H a.m (.str "head") (some (.int (s.2 : Nat))) := by
  obtain ⟨mv, wt, e⟩ := M.ob
  exact DGet.k (k := Sum.inr "head") e
theorem ModAt.g_born (M : ModAt H a c s d) : DGet H a.m (.str "born") (some (.ref a.ba)) := by
  obtain ⟨mv, wt, e⟩ := M.ob
  exact DGet.k (k := Sum.inr "born") e
theorem ModAt.g_frees (M : ModAt H a c s d) : DGet H a.m (.str "frees") (some (.ref a.fa)) := by
  obtain ⟨mv, wt, e⟩ := M.ob
  exact DGet.k (k := Sum.inr "frees") e
theorem ModAt.g_deeds (M : ModAt H a c s d) : DGet H a.m (.str "deeds") (some (.int d)) := by
  obtain ⟨mv, wt, e⟩ := M.ob
  exact DGet.k (k := Sum.inr "deeds") e
theorem ModAt.g_wide (M : ModAt H a c s d) : DGet H a.m (.str "wide") (some (.int (c.w : Nat))) := by
  obtain ⟨mv, wt, e⟩ := M.ob
  exact DGet.k (k := Sum.inr "wide") e
theorem ModAt.g_bound (M : ModAt H a c s d) : DGet H a.m (.str "bound") (some (.int c.bound)) := by
  obtain ⟨mv, wt, e⟩ := M.ob
  exact DGet.k (k := Sum.inr "bound") e
theorem ModAt.g_load (M : ModAt H a c s d) : DGet H a.m (.str "load") (some (.int c.load)) := by
  obtain ⟨mv, wt, e⟩ := M.ob
  exact DGet.k (k := Sum.inr "load") e
theorem ModAt.g_first (M : ModAt H a c s d) : DGet H a.m (.str "first") (some (.bl c.late)) := by
  obtain ⟨mv, wt, e⟩ := M.ob
  exact DGet.k (k := Sum.inr "first") e
theorem ModAt.rows (M : ModAt H a c s d) : H a.ra = some (.lst (a.rs.map V.ref)) := M.rw.rows
theorem ModAt.rs_len (M : ModAt H a c s d) : (a.rs.map V.ref).length = s.1.length := M.rw.lenV
theorem ModAt.at_row (M : ModAt H a c s d) {i : Nat} (h : i < s.1.length) : ∃ x vs, a.rs[i]? = some x ∧ (a.rs.map V.ref)[i]? = some (.ref x) ∧ H x = some (.lst vs) ∧ RowV H vs (rowAt s.1 i) := M.rw.get h
end
section
variable {P : Program} {w : World} {K : PySem.W.Frag} {mg : Str → Option Value} {base : Heap} {f : Addr} {fd : FuncData}
/-! ### _law_alive -/
def sp_alive : Sp := fun vs H Q _ => ∃ (a : Addr) (xs : List V) (r : Row Str), vs = [.ref a] ∧ H a = some (.lst xs) ∧ RowV H xs r ∧ r.length ≤ 1000 ∧ ∀ H', Fr [] H H' → Q (.int (alive r)) H'
abbrev s_alive : Stmt := topS 28
theorem sc_alive : FnScope ["_law_row", "_law_one"] ["_law_row"] (C8.fnScope s_alive) := C8.fnScope_by (by decide +kernel)
theorem k_alive (T : Bi mg) (F : C8.Def K mg "_law_alive" s_alive f fd) (b : Binds K fd ["_law_row"] []) : C8.Cal P w K mg base 1 "_law_alive" sp_alive [] := by
  refine C8.cal0 F b .nil sc_alive (fun vs H Q E h => ?_) (fun cdv A outer s H vs Q E hr h => ?_)
  · obtain ⟨a, xs, r, rfl, _⟩ := h
    rfl
  · obtain ⟨a, xs, r, rfl, hx, hv, hl, q⟩ := h
    refine ⟨_, pss_one (ps_ret (pe_callB call_len_seq (by rfl) T.len PySem.boot_len (pa_cons (pe_lc (own := [("_law_one", 1)]) (g := gName 1) (tt := _) rfl sc_alive.nd (pi_list (pv 0)) (blkOk_by (own := [("_law_one", 1)]) (N := ["_law_row", "_law_one"]) (sc := C8.fnScope s_alive) (by decide +kernel)) (fun _ _ _ _ _ => pg_name (i := 1) sc_alive.nd rfl (by first | exact Or.inl rfl | exact Or.inr rfl)) (fun _ _ _ _ _ => pts_one (pt_cmp (pc_notN (pv 1)))) (fun _ _ _ _ _ => pv 1)) pa_nil))), ?_⟩
    have hxl : xs.length = r.length := Paired.length hv
    have lacc : ∀ i, ((xs.take i).filter fun v => !decide (v = V.non)).length = alive (r.take i) := fun i => by
      have hp := paired_take i hv
      unfold alive
      generalize xs.take i = l at hp
      generalize r.take i = m at hp
      induction hp with
      | nil => rfl
      | @cons x y l m r1 _ ih =>
        have e := r1.non_iff
        rw [List.filter_cons, List.filter_cons, e, Bool.not_not]
        cases y.isSome with
        | true => simpa using ih
        | false => simpa using ih
    refine ⟨_, rfl, a, rfl, ⟨_, SqL.of hx⟩, fun D hD => ?_⟩
    refine lc_list (K := K) (a := a) (xs := xs) (CompI H D fun i => (xs.take i).filter fun v => !decide (v = V.non)) (CompI.start hD rfl) (fun i H' _ c => SqL.of (c.old hx)) ?_ ?_
    · intro i x H' hi c
      have hacc := List.take_add_one (l := xs) (i := i)
      rw [hi] at hacc
      refine ⟨rfl, _, rfl, _, rfl, ite2 (fun hb => ?_) (fun hb => ?_)⟩
      · refine ⟨_, rfl, c.put ?_ ?_⟩
        · rw [lacc]
          exact Nat.le_trans (alive_take_le r i) hl
        · show (xs.take (i + 1)).filter _ = _
          rw [hacc, List.filter_append]
          have hb' : (!decide (x = V.non)) = true := hb
          simp [hb']
      · refine c.skip ?_
        show (xs.take (i + 1)).filter _ = _
        rw [hacc, List.filter_append]
        have hb' : (!decide (x = V.non)) = false := by simpa using hb
        simp [hb']
    · intro H' c
      refine ⟨D, _, rfl, .inl (SqL.of c.at_), ?_⟩
      rw [lacc, hxl, List.take_length]
      exact q H' c.fr0
/-! ### _law_shut -/
def sp_mlist (g : Sg Str → List Nat) : Sp := fun vs H Q _ => ∃ (a : MAd) (c : Cfg) (s : Sg Str) (d : Int), vs = [.ref a.m] ∧ ModAt H a c s d ∧ Ok c s ∧
  ∀ (H' : Hp) (p : Addr), Fr [] H H' → H p = none → H' p = some (.lst ((g s).map fun j : Nat => V.int j)) → Q (.ref p) H'
abbrev s_shut : Stmt := topS 29
theorem sc_shut : FnScope ["_law_model_here", "_law_rows", "_law_spot"] ["_law_model_here"] (C8.fnScope s_shut) := C8.fnScope_by (by decide +kernel)
theorem k_shut (T : Bi mg) (F : C8.Def K mg "_law_shut" s_shut f fd) (b : Binds K fd ["_law_model_here"] []) (c_alive : C8.Cal P w K mg base 1 "_law_alive" sp_alive []) :
    C8.Cal P w K mg base 2 "_law_shut" (sp_mlist fun s => shut s.1 s.2) [] := by
  refine C8.cal0 F b .nil sc_shut (fun vs H Q E h => ?_) (fun cdv A outer s0 H vs Q E hr h => ?_)
  · obtain ⟨a, c, s, d, rfl, _⟩ := h
    rfl
  · obtain ⟨a, c, s, d, rfl, M, ok, q⟩ := h
    have hu := hu_of hr
    have hl := ok.lsm
    refine ⟨_, pss_cons (ps_set (i := 1) sc_shut.nd rfl (by first | exact Or.inl rfl | exact Or.inr rfl) (pe_dget hu (pv 0) (pe_str) (fun _ _ => rfl)))
      (pss_one (ps_ret (pe_lc (own := [("_law_spot", 2)]) (g := gName 2) (tt := _) rfl sc_shut.nd (pi_range1 rfl T.range (pa_cons (pe_callB call_len_seq (by rfl) T.len PySem.boot_len (pa_cons (pv 1) pa_nil)) pa_nil)) (blkOk_by (own := [("_law_spot", 2)]) (N := ["_law_model_here", "_law_rows", "_law_spot"]) (sc := C8.fnScope s_shut) (by decide +kernel)) (fun _ _ _ _ _ => pg_name (i := 2) sc_shut.nd rfl (by first | exact Or.inl rfl | exact Or.inr rfl)) (fun _ _ _ _ _ => pts_one (PW.pt (pw_and (pt_cmpR op_ne (pv 2) (pe_dget hu (pv 0) (pe_str) (fun _ _ => rfl)) (nomark _)) (pw_and1 (pt_cmpR op_gt (C8.pe_c c_alive hr (by decide) rfl (pa_cons (pe_ix (r := rIxL K) ix_list (pv 1) (pv 2) (fun _ _ => rfl)) pa_nil)) (pe_int) (nomark _)))))) (fun _ _ _ _ _ => pv 2)))), ?_⟩
    refine ⟨_, rfl, a.m, _, rfl, M.g_rows, ?_⟩
    refine ⟨_, rfl, a.ra, _, rfl, .inl (SqL.of M.rows), _, rfl, by omega, by rw [M.rs_len]; omega, fun D hD => ?_⟩
    refine lc_range (CompI H D fun i => ((List.range i).filter (isShut s.1 s.2)).map fun j : Nat => V.int j) (CompI.start hD rfl) ?_ ?_
    · intro i H' hi ci
      have hi' : i < s.1.length := by rw [M.rs_len] at hi; omega
      have M' := M.fr0 ci.fr0
      obtain ⟨x, xs, e1, e2, hx, hv⟩ := M'.at_row hi'
      refine ⟨rfl, _, rfl, _, rfl, a.m, _, rfl, M'.g_head, rfl, _, rfl, ite2 (fun hb => ?_) (fun hb => ?_)⟩
      · rw [dec_z] at hb
        refine ⟨_, rfl, _, rfl, a.ra, _, _, _, rfl, rfl, SqL.of M'.rows, at_z e2, x, xs, _, rfl, hx, hv, ok.row i, fun H2 f2 => ?_⟩
        refine ⟨_, _, rfl, rfl, _, rfl, ite2 (fun hb2 => ?_) (fun hb2 => ?_)⟩
        · rw [dec_pos] at hb2
          refine ⟨_, rfl, (ci.more f2).put (accR_len (by omega)) (acc_yes ?_)⟩
          unfold isShut
          rw [hb, hb2]
          rfl
        · rw [dec_pos] at hb2
          refine (ci.more f2).skip (acc_no ?_)
          unfold isShut
          rw [not_true hb2, Bool.and_false]
      · rw [dec_z] at hb
        refine iteF (ci.skip (acc_no ?_))
        unfold isShut
        rw [not_true hb, Bool.false_and]
    · intro H' ci
      have e : ((((a.rs.map V.ref).length : Nat) : Int)).toNat = s.1.length := by rw [M.rs_len]; omega
      rw [e] at ci
      exact q H' D ci.fr0 hD ci.at_
/-! ### _law_empty -/
abbrev s_empty : Stmt := topS 30
theorem sc_empty : FnScope ["_law_model_here", "_law_rows", "_law_spot"] ["_law_model_here"] (C8.fnScope s_empty) := C8.fnScope_by (by decide +kernel)
theorem k_empty (T : Bi mg) (F : C8.Def K mg "_law_empty" s_empty f fd) (b : Binds K fd ["_law_model_here"] []) : C8.Cal P w K mg base 1 "_law_empty" (sp_mlist fun s => empties s.1) [] := by
  refine C8.cal0 F b .nil sc_empty (fun vs H Q E h => ?_) (fun cdv A outer s0 H vs Q E hr h => ?_)
  · obtain ⟨a, c, s, d, rfl, _⟩ := h
    rfl
  · obtain ⟨a, c, s, d, rfl, M, ok, q⟩ := h
    have hu := hu_of hr
    have hl := ok.lsm
    refine ⟨_, pss_cons (ps_set (i := 1) sc_empty.nd rfl (by first | exact Or.inl rfl | exact Or.inr rfl) (pe_dget hu (pv 0) (pe_str) (fun _ _ => rfl)))
      (pss_one (ps_ret (pe_lc (own := [("_law_spot", 2)]) (g := gName 2) (tt := _) rfl sc_empty.nd (pi_range1 rfl T.range (pa_cons (pe_callB call_len_seq (by rfl) T.len PySem.boot_len (pa_cons (pv 1) pa_nil)) pa_nil)) (blkOk_by (own := [("_law_spot", 2)]) (N := ["_law_model_here", "_law_rows", "_law_spot"]) (sc := C8.fnScope s_empty) (by decide +kernel)) (fun _ _ _ _ _ => pg_name (i := 2) sc_empty.nd rfl (by first | exact Or.inl rfl | exact Or.inr rfl)) (fun _ _ _ _ _ => pts_one (pt_cmpR op_eq (pe_callB (r := rLenS K) call_lenK (by rfl) T.len PySem.boot_len (pa_cons (pe_ix (r := rIxL K) ix_list (pv 1) (pv 2) (fun _ _ => rfl)) pa_nil)) (pe_int) (nomark _))) (fun _ _ _ _ _ => pv 2)))), ?_⟩
    refine ⟨_, rfl, a.m, _, rfl, M.g_rows, ?_⟩
    refine ⟨_, rfl, a.ra, _, rfl, .inl (SqL.of M.rows), _, rfl, by omega, by rw [M.rs_len]; omega, fun D hD => ?_⟩
    refine lc_range (CompI H D fun i => ((List.range i).filter fun i => (rowAt s.1 i).isEmpty).map fun j : Nat => V.int j) (CompI.start hD rfl) ?_ ?_
    · intro i H' hi ci
      have hi' : i < s.1.length := by rw [M.rs_len] at hi; omega
      have M' := M.fr0 ci.fr0
      obtain ⟨x, xs, e1, e2, hx, hv⟩ := M'.at_row hi'
      have hxl : xs.length = (rowAt s.1 i).length := Paired.length hv
      refine ⟨rfl, _, rfl, _, rfl, a.ra, _, _, _, rfl, rfl, SqL.of M'.rows, at_z e2, x, _, rfl, .inl (SqL.of hx), rfl, _, rfl, ite2 (fun hb => ?_) (fun hb => ?_)⟩
      · rw [dec_0, hxl] at hb
        refine ⟨_, rfl, ci.put (accR_len (by omega)) (acc_yes ?_)⟩
        rw [List.isEmpty_iff]
        exact List.length_eq_zero_iff.mp (of_decide_eq_true hb)
      · rw [dec_0, hxl] at hb
        refine ci.skip (acc_no ?_)
        cases e : rowAt s.1 i with
        | nil =>
          rw [e] at hb
          exact absurd rfl hb
        | cons y l => rfl
    · intro H' ci
      have e : ((((a.rs.map V.ref).length : Nat) : Int)).toNat = s.1.length := by rw [M.rs_len]; omega
      rw [e] at ci
      exact q H' D ci.fr0 hD ci.at_
/-! ### _law_room -/
def sp_room : Sp := fun vs H Q _ => ∃ (a : MAd) (c : Cfg) (s : Sg Str) (d : Int), vs = [.ref a.m] ∧ ModAt H a c s d ∧ Ok c s ∧ ∀ H' : Hp, Fr [] H H' → Q (.int (room c.w s.1 s.2)) H'
abbrev s_room : Stmt := topS 31
theorem sc_room : FnScope ["_law_model_here", "_law_others", "_law_spot"] ["_law_model_here"] (C8.fnScope s_room) := C8.fnScope_by (by decide +kernel)
theorem filter_twice {α : Type} (p q : α → Bool) (l : List α) : (l.filter p).filter q = l.filter fun x => p x && q x := by
  rw [List.filter_filter]
  exact List.filter_congr fun x _ => Bool.and_comm _ _
theorem k_room (T : Bi mg) (F : C8.Def K mg "_law_room" s_room f fd) (b : Binds K fd ["_law_model_here"] []) (c_empty : C8.Cal P w K mg base 1 "_law_empty" (sp_mlist fun s => empties s.1) []) :
    C8.Cal P w K mg base 2 "_law_room" sp_room [] := by
  refine C8.cal0 F b .nil sc_room (fun vs H Q E h => ?_) (fun cdv A outer s0 H vs Q E hr h => ?_)
  · obtain ⟨a, c, s, d, rfl, _⟩ := h
    rfl
  · obtain ⟨a, c, s, d, rfl, M, ok, q⟩ := h
    have hu := hu_of hr
    have hl := ok.lsm
    have hw := ok.wsm
    refine ⟨_, pss_cons (ps_setLc (i := 1) (own := [("_law_spot", 2)]) (g := gName 2) (tt := _) rfl sc_room.nd rfl rfl (sw_true rfl rfl rfl (by decide +kernel)) (pi_list (C8.pe_c c_empty hr (by decide) rfl (pa_cons (pv 0) pa_nil))) (blkOk_by (own := [("_law_spot", 2)]) (N := ["_law_model_here", "_law_others", "_law_spot"]) (sc := C8.fnScope s_room) (by decide +kernel)) (fun _ _ _ _ _ => pg_name (i := 2) sc_room.nd rfl (by first | exact Or.inl rfl | exact Or.inr rfl)) (fun _ _ _ _ _ => pts_one (pt_cmpR op_ne (pv 2) (pe_dget hu (pv 0) (pe_str) (fun _ _ => rfl)) (nomark _))) (fun _ _ _ _ _ => pv 2))
      (pss_one (ps_ret (pe_op op_add (pe_op op_sub (pe_dget hu (pv 0) (pe_str) (fun _ _ => rfl)) (pe_callB call_len_seq (by rfl) T.len PySem.boot_len (pa_cons (pe_ix ix_list (pe_dget hu (pv 0) (pe_str) (fun _ _ => rfl)) (pe_dget hu (pv 0) (pe_str) (fun _ _ => rfl)) (fun _ _ => rfl)) pa_nil))) (pe_op op_mul (pe_dget hu (pv 0) (pe_str) (fun _ _ => rfl)) (pe_callB call_len_seq (by rfl) T.len PySem.boot_len (pa_cons (pv 1) pa_nil)))))), ?_⟩
    refine ⟨_, rfl, a, c, s, d, rfl, M, ok, fun H1 p f1 np hp => ?_⟩
    refine ⟨p, rfl, ⟨_, SqL.of hp⟩, fun D hD => ?_⟩
    have M1 := M.fr0 f1
    have lE : ∀ i, ((empties s.1).take i).length ≤ 1000 := fun i => by
      have e : (empties s.1).length ≤ s.1.length := by
        refine Nat.le_trans (List.length_filter_le _ _) ?_
        rw [List.length_range]
        exact Nat.le_refl _
      rw [List.length_take]
      omega
    refine lc_list (K := K) (a := p) (xs := (empties s.1).map fun j : Nat => V.int j) (CompI H1 D fun i => (((empties s.1).take i).filter fun j => !decide (j = s.2)).map fun j : Nat => V.int j) (CompI.start hD rfl) (fun i H' _ c => SqL.of (c.old hp)) ?_ ?_
    · intro i x H' hi ci
      have M' := M1.fr0 ci.fr0
      rw [List.getElem?_map] at hi
      cases ei : (empties s.1)[i]? with
      | none =>
        rw [ei] at hi
        cases hi
      | some j =>
        rw [ei] at hi
        have hi2 : V.int (j : Int) = x := Option.some.inj hi
        subst hi2
        have hacc := List.take_add_one (l := empties s.1) (i := i)
        rw [ei] at hacc
        refine ⟨rfl, _, rfl, _, rfl, a.m, _, rfl, M'.g_head, rfl, _, rfl, ite2 (fun hb => ?_) (fun hb => ?_)⟩
        · rw [dec_nn] at hb
          refine ⟨_, rfl, ci.put ?_ ?_⟩
          · rw [List.length_map]
            exact Nat.le_trans (List.length_filter_le _ _) (lE i)
          · show (((empties s.1).take (i + 1)).filter _).map _ = _
            rw [hacc, List.filter_append, List.map_append]
            simp [hb]
        · rw [dec_nn] at hb
          refine ci.skip ?_
          show (((empties s.1).take (i + 1)).filter _).map _ = _
          rw [hacc, List.filter_append, List.map_append]
          simp [not_true hb]
    · intro H2 ci
      have hd := ci.at_
      rw [List.length_map] at hd
      rw [List.take_length] at hd
      have eo : (empties s.1).filter (fun j => !decide (j = s.2)) = others s.1 s.2 := by
        unfold empties others
        rw [filter_twice]
        rfl
      rw [eo] at hd
      have M2 := M1.fr0 ci.fr0
      obtain ⟨x, xs, e1, e2, hx, hv⟩ := M2.at_row ok.wf.hdl
      have hxl : xs.length = (rowAt s.1 s.2).length := Paired.length hv
      refine ⟨_, rfl, a.m, _, rfl, M2.g_wide, _, rfl, a.m, _, rfl, M2.g_rows, _, rfl, a.m, _, rfl, M2.g_head, a.ra, _, _, _, rfl, rfl, SqL.of M2.rows, atI_nat e2, x, _, rfl, .inl (SqL.of hx), _, _, rfl, rfl, ?_⟩
      refine ⟨_, rfl, a.m, _, rfl, M2.g_wide, _, rfl, D, _, rfl, .inl (SqL.of hd), _, _, rfl, rfl, .inl ⟨by omega, by omega⟩, _, _, rfl, rfl, ?_⟩
      rw [hxl, List.length_map]
      exact q H2 (f1.then ci.fr0)
end
end Cg

set_option Elab.async false
set_option linter.all false
set_option maxRecDepth 100000
set_option maxHeartbeats 400000
namespace Cg
open PySem PySem.Spec PyProof.Rows L2
theorem headD_get {l : List Nat} (h : l ≠ []) : l[0]? = some (l.headD 0) := by
  cases l with
  | nil => exact absurd rfl h
  | cons x l => rfl
section
variable {P : Program} {w : World} {K : PySem.W.Frag} {mg : Str → Option Value} {base : Heap} {f : Addr} {fd : FuncData}
/-! ### _law_write -/
def sp_write : Sp := fun vs H Q _ => ∃ (a : MAd) (c : Cfg) (s : Sg Str) (d : Int) (v : V) (k : Str), vs = [.ref a.m, v] ∧ ModAt H a c s d ∧ Ok c s ∧ RecV H v (some k) ∧
  (room c.w s.1 s.2 = 0 → ∀ H', Fr [] H H' → Q (.bl false) H') ∧
  (room c.w s.1 s.2 ≠ 0 → ∀ H', Fr a.fp H H' → ModAt H' a c (write c.w s k) d → Q (.bl true) H')
abbrev s_write : Stmt := topS 32
theorem sc_write : FnScope ["_law_model_here", "_law_one"] ["_law_model_here", "_law_one"] (C8.fnScope s_write) := C8.fnScope_by (by decide +kernel)
theorem k_write (T : Bi mg) (F : C8.Def K mg "_law_write" s_write f fd) (b : Binds K fd ["_law_model_here", "_law_one"] []) (c_empty : C8.Cal P w K mg base 1 "_law_empty" (sp_mlist fun s => empties s.1) [])
    (c_room : C8.Cal P w K mg base 2 "_law_room" sp_room []) : C8.Cal P w K mg base 3 "_law_write" sp_write [] := by
  refine C8.cal0 F b .nil sc_write (fun vs H Q E h => ?_) (fun cdv A outer s0 H vs Q E hr h => ?_)
  · obtain ⟨a, c, s, d, v, k, rfl, _⟩ := h
    rfl
  · obtain ⟨a, c, s, d, v, k, rfl, M, ok, hv, q0, q1⟩ := h
    have hu := hu_of hr
    have hl := ok.lsm
    have hw := ok.wsm
    refine ⟨_, pss_cons (ps_if (pt_cmpR op_eq (C8.pe_c c_room hr (by decide) rfl (pa_cons (pv 0) pa_nil)) (pe_int) (nomark _)) (pss_one (ps_ret (pe_bl))) (pss_nil))
      (pss_cons (ps_if (pt_cmpR op_eq (pe_callB call_len_seq (by rfl) T.len PySem.boot_len (pa_cons (pe_ix ix_list (pe_dget hu (pv 0) (pe_str) (fun _ _ => rfl)) (pe_dget hu (pv 0) (pe_str) (fun _ _ => rfl)) (fun _ _ => rfl)) pa_nil)) (pe_dget hu (pv 0) (pe_str) (fun _ _ => rfl)) (nomark _)) (pss_cons (ps_dput hu (pv 0) (pe_str) (pe_ix ix_list (C8.pe_c c_empty hr (by decide) rfl (pa_cons (pv 0) pa_nil)) (pe_int) (fun _ _ => rfl)) rfl)
      (pss_one (ps_asg (pe_op op_add (pe_callB (cr_max rfl) (by rfl) T.max (by decide +kernel) (pa_cons (pe_dget hu (pv 0) (pe_str) (fun _ _ => rfl)) pa_nil)) (pe_int)) (pg_sub (pe_dget hu (pv 0) (pe_str) (fun _ _ => rfl)) (pe_dget hu (pv 0) (pe_str) (fun _ _ => rfl)) set_list)))) (pss_nil))
      (pss_cons (ps_expr (pe_bm PySem.F.plainAttrs_list PySem.F.slot_list_append PySem.F.type_list_append mt_append (pe_ix ix_list (pe_dget hu (pv 0) (pe_str) (fun _ _ => rfl)) (pe_dget hu (pv 0) (pe_str) (fun _ _ => rfl)) (fun _ _ => rfl)) (pa_cons (pv 1) pa_nil)))
      (pss_one (ps_ret (pe_bl))))), ?_⟩
    refine ⟨_, rfl, a, c, s, d, rfl, M, ok, fun H1 f1 => ?_⟩
    refine ⟨rfl, _, rfl, ite2 (fun hb => ?_) (fun hb => ?_)⟩
    · have e : room c.w s.1 s.2 = 0 := V.int.inj (of_decide_eq_true hb)
      exact q0 e H1 f1
    · have hr0 : room c.w s.1 s.2 ≠ 0 := fun e => hb (decide_eq_true (by rw [e]))
      have M1 := M.fr0 f1
      have hv1 := hv.fr f1
      obtain ⟨x, xs, e1, e2, hx, hxv⟩ := M1.at_row ok.wf.hdl
      have hxl : xs.length = (rowAt s.1 s.2).length := Paired.length hxv
      refine ⟨_, rfl, a.m, _, rfl, M1.g_rows, _, rfl, a.m, _, rfl, M1.g_head, a.ra, _, _, _, rfl, rfl, SqL.of M1.rows, atI_nat e2, x, _, rfl, .inl (SqL.of hx), _, rfl, a.m, _, rfl, M1.g_wide, rfl, _, rfl, ite2 (fun hb2 => ?_) (fun hb2 => ?_)⟩
      · -- the head is full
        rw [hxl, dec_nn] at hb2
        have hf : (rowAt s.1 s.2).length = c.w := of_decide_eq_true hb2
        have hne := others_ne hf hr0
        refine ⟨_, rfl, a, c, s, d, rfl, M1, ok, fun H2 p f2 np hp => ?_⟩
        have hp' : H2 p = some (.lst ((others s.1 s.2).map fun j : Nat => V.int j)) := by
          have e := hp
          dsimp only at e
          rw [empties_others ok.wf.pos hf] at e
          exact e
        refine ⟨p, _, 0, .int ((others s.1 s.2).headD 0 : Nat), rfl, rfl, SqL.of hp', ?_, ?_⟩
        · exact atI_nat (j := 0) (by rw [List.getElem?_map, headD_get hne]; rfl)
        have M2 := M1.fr0 f2
        obtain ⟨mv, wt, e3⟩ := M2.ob
        have hho : headOf c.w s.1 s.2 = (others s.1 s.2).headD 0 := if_pos hf
        have hok := headOf_ok ok.wf hr0
        rw [hho] at hok
        generalize hy : (others s.1 s.2).headD 0 = y at hho hok
        obtain ⟨f3, M3⟩ := M2.set_ob (kvs := putK (mkvs a s.2 d mv wt c) (Sum.inr "head") (.int y)) y d mv wt rfl
        refine ⟨_, rfl, a.m, _, rfl, DPut.k (k := Sum.inr "head") e3 (by show 11 < sizeLine; decide), ?_⟩
        obtain ⟨ns, hns, lns⟩ := M3.born
        refine ⟨_, rfl, a.m, _, rfl, M3.g_born, a.ba, ns, rfl, SqL.of hns, by rw [lns]; exact Nat.lt_of_le_of_lt (Nat.zero_le _) ok.wf.hdl, fun mx hm1 hm2 => ?_⟩
        refine ⟨_, _, rfl, rfl, _, rfl, a.m, _, rfl, M3.g_born, _, rfl, a.m, _, rfl, M3.g_head, a.ba, _, _, y, rfl, rfl, hns, ixN_at (by rw [List.length_map, lns]; exact hok.1), ?_⟩
        rw [show (ns.map V.int).set y (.int (mx + 1)) = (ns.set y (mx + 1)).map V.int from (List.map_set ..).symm]
        obtain ⟨f4, M4⟩ := M3.set_born (ns := ns.set y (mx + 1)) (by rw [List.length_set]; exact lns)
        obtain ⟨x4, xs4, e41, e42, hx4, hxv4⟩ := M4.at_row (show (s.1, y).2 < (s.1, y).1.length from hok.1)
        have l4 : xs4.length = (rowAt s.1 y).length := Paired.length hxv4
        refine ⟨_, rfl, a.m, _, rfl, M4.g_rows, _, rfl, a.m, _, rfl, M4.g_head, a.ra, _, _, _, rfl, rfl, SqL.of M4.rows, atI_nat e42, .inl ⟨rfl, _, SqL.of hx4⟩, _, rfl, x4, _, _, rfl, rfl, hx4, small1000 (by rw [l4]; exact ok.row y), ?_⟩
        have hv4 := ((hv1.fr f2).fr f3).fr f4
        obtain ⟨f5, M5⟩ := M4.set_row e41 hx4 (paired_snoc hv4 hxv4)
        refine q1 hr0 _ ((((f1.then f2).mono fun _ h => by cases h).then f3).then f4 |>.then f5) ?_
        have e : write c.w s k = (s.1.set y (rowAt s.1 y ++ [some k]), y) := by
          unfold write push
          rw [hho]
        rw [e]
        exact M5
      · -- there is a place in the head
        rw [hxl, dec_nn] at hb2
        have hf : ¬ (rowAt s.1 s.2).length = c.w := fun z => hb2 (decide_eq_true z)
        refine ⟨_, rfl, a.m, _, rfl, M1.g_rows, _, rfl, a.m, _, rfl, M1.g_head, a.ra, _, _, _, rfl, rfl, SqL.of M1.rows, atI_nat e2, .inl ⟨rfl, _, SqL.of hx⟩, _, rfl, x, _, _, rfl, rfl, hx, small1000 (by rw [hxl]; exact ok.row s.2), ?_⟩
        obtain ⟨f5, M5⟩ := M1.set_row e1 hx (paired_snoc hv1 hxv)
        refine q1 hr0 _ ((f1.mono fun _ h => by cases h).then f5) ?_
        have e : write c.w s k = (s.1.set s.2 (rowAt s.1 s.2 ++ [some k]), s.2) := by
          unfold write push headOf
          rw [if_neg hf]
        rw [e]
        exact M5
/-! ### _law_kill -/
/-- the model behind it; its rows may stand elsewhere -/
def ModTo (H : Hp) (a : MAd) (c : Cfg) (s : Sg Str) (d : Int) (H' : Hp) (a' : MAd) : Prop := Fr a.fp H H' ∧ a'.m = a.m ∧ (∀ x ∈ a'.fp, x ∈ a.fp ∨ H x = none) ∧ ModAt H' a' c s d
theorem ModTo.of {H H' : Hp} {a : MAd} {c : Cfg} {s : Sg Str} {d : Int} (f : Fr a.fp H H') (M : ModAt H' a c s d) : ModTo H a c s d H' a := ⟨f, rfl, fun _ h => .inl h, M⟩
theorem ModTo.trans {H H1 H2 : Hp} {a a1 a2 : MAd} {c : Cfg} {s s' : Sg Str} {d d' : Int} (x : ModTo H a c s d H1 a1) (y : ModTo H1 a1 c s' d' H2 a2) (hs : ∀ z ∈ a.fp, (H z).isSome = true) : ModTo H a c s' d' H2 a2 := by
  have back : ∀ z, H1 z = none → z ∉ a.fp → H z = none := fun z h hn => by
    cases q : H z with
    | none => rfl
    | some o =>
      rw [x.1.all z o q hn] at h
      cases h
  refine ⟨x.1.trans y.1 fun z hz => x.2.2.1 z hz, y.2.1.trans x.2.1, fun z hz => ?_, y.2.2.2⟩
  rcases y.2.2.1 z hz with h | h
  · exact x.2.2.1 z h
  · by_cases hm : z ∈ a.fp
    · exact .inl hm
    · exact .inr (back z h hm)
theorem ModAt.there {H : Hp} {a : MAd} {c : Cfg} {s : Sg Str} {d : Int} (M : ModAt H a c s d) : ∀ z ∈ a.fp, (H z).isSome = true := fun z hz => by
  unfold MAd.fp at hz
  simp only [List.mem_cons] at hz
  obtain ⟨mv, wt, e⟩ := M.ob
  obtain ⟨ns, e2, l2⟩ := M.born
  obtain ⟨ms, e3, l3⟩ := M.frees
  rcases hz with h | h | h | h | h
  · rw [h, e]; rfl
  · rw [h, M.rw.rows]; rfl
  · rw [h, e2]; rfl
  · rw [h, e3]; rfl
  · obtain ⟨i, hi⟩ := List.mem_iff_getElem?.mp h
    obtain ⟨vs, e4, _⟩ := M.rw.row i z hi
    rw [e4]
    rfl
def sp_kill : Sp := fun vs H Q _ => ∃ (a : MAd) (c : Cfg) (s : Sg Str) (d : Int) (i j : Nat), vs = [.ref a.m, .int i, .int j] ∧ ModAt H a c s d ∧ Ok c s ∧ i < s.1.length ∧ j < (rowAt s.1 i).length ∧
  ∀ H' a', ModTo H a c (killR s.1 i j, s.2) d H' a' → Q .non H'
abbrev s_kill : Stmt := topS 33
theorem sc_kill : FnScope ["_law_model_here", "_law_spot", "_law_rank"] ["_law_model_here", "_law_spot", "_law_rank"] (C8.fnScope s_kill) := C8.fnScope_by (by decide +kernel)
theorem k_kill (T : Bi mg) (F : C8.Def K mg "_law_kill" s_kill f fd) (b : Binds K fd ["_law_model_here", "_law_spot", "_law_rank"] []) (c_alive : C8.Cal P w K mg base 1 "_law_alive" sp_alive []) :
    C8.Cal P w K mg base 2 "_law_kill" sp_kill [] := by
  refine C8.cal0 F b .nil sc_kill (fun vs H Q E h => ?_) (fun cdv A outer s0 H vs Q E hr h => ?_)
  · obtain ⟨a, c, s, d, i, j, rfl, _⟩ := h
    rfl
  · obtain ⟨a, c, s, d, i, j, rfl, M, ok, hi, hj, q⟩ := h
    have hu := hu_of hr
    have hl := ok.lsm
    have hw := ok.wsm
    refine ⟨_, pss_cons (ps_asg (pe_non) (pg_sub (pe_ix ix_list (pe_dget hu (pv 0) (pe_str) (fun _ _ => rfl)) (pv 1) (fun _ _ => rfl)) (pv 2) set_list))
      (pss_one (ps_if (pt_cmpR op_eq (C8.pe_c c_alive hr (by decide) rfl (pa_cons (pe_ix ix_list (pe_dget hu (pv 0) (pe_str) (fun _ _ => rfl)) (pv 1) (fun _ _ => rfl)) pa_nil)) (pe_int) (nomark _)) (pss_cons (ps_asg (pe_lst pa_nil) (pg_sub (pe_dget hu (pv 0) (pe_str) (fun _ _ => rfl)) (pv 1) set_list))
      (pss_one (ps_asg (pe_op op_add (pe_ix ix_list (pe_dget hu (pv 0) (pe_str) (fun _ _ => rfl)) (pv 1) (fun _ _ => rfl)) (pe_int)) (pg_sub (pe_dget hu (pv 0) (pe_str) (fun _ _ => rfl)) (pv 1) set_list)))) (pss_nil))), ?_⟩
    obtain ⟨x, xs, e1, e2, hx, hxv⟩ := M.at_row hi
    have hxl : xs.length = (rowAt s.1 i).length := Paired.length hxv
    refine ⟨_, rfl, a.m, _, rfl, M.g_rows, _, rfl, a.ra, _, _, _, rfl, rfl, SqL.of M.rows, atI_nat e2, _, rfl, x, _, _, j, rfl, rfl, hx, ixN_at (by rw [hxl]; exact hj), ?_⟩
    obtain ⟨f1, M1⟩ := M.set_row (r := (rowAt s.1 i).set j none) e1 hx (paired_set (x := V.non) (y := none) rfl j hxv)
    obtain ⟨x1, xs1, e11, e12, hx1, hxv1⟩ := M1.at_row (i := i) (by rw [List.length_set]; exact hi)
    have er : rowAt (s.1.set i ((rowAt s.1 i).set j none)) i = (rowAt s.1 i).set j none := rowAt_set_same hi
    rw [er] at hxv1
    refine ⟨_, rfl, a.m, _, rfl, M1.g_rows, _, rfl, a.ra, _, _, _, rfl, rfl, SqL.of M1.rows, atI_nat e12, x1, xs1, _, rfl, hx1, hxv1, by rw [List.length_set]; exact ok.row i, fun H2 f2 => ?_⟩
    have M2 := M1.fr0 f2
    refine ⟨rfl, _, rfl, ite2 (fun hb => ?_) (fun hb => ?_)⟩
    · rw [dec_0] at hb
      have ha : alive ((rowAt s.1 i).set j none) = 0 := of_decide_eq_true hb
      have il2 : i < (s.1.set i ((rowAt s.1 i).set j none)).length := by rw [List.length_set]; exact hi
      refine ⟨(by show 0 ≤ sizeLine; decide), fun n hn => ?_⟩
      obtain ⟨f3, M3⟩ := M2.fresh (n := n) il2 hn
      have n3 : ∀ {b o}, H2 b = some o → (upd H2 n (.lst [])) b = some o := fun {b o} e => by rw [upd_ne (ne_of_none e hn)]; exact e
      have M2' : ModAt (upd H2 n (.lst [])) a c _ d := M2.fr0 (Fr.new hn)
      refine ⟨_, rfl, a.m, _, rfl, M2'.g_rows, _, rfl, a.ra, _, _, i, rfl, rfl, M2'.rows, ixN_at (by rw [M2'.rs_len]; exact il2), ?_⟩
      obtain ⟨ns, hns, lns⟩ := M3.frees
      have lf : i < ns.length := by
        rw [lns]
        show i < ((s.1.set i _).set i _).length
        rw [List.length_set]
        exact il2
      have ef : (ns.map V.int)[i]? = some (.int ns[i]) := by
        rw [List.getElem?_map, List.getElem?_eq_getElem lf]
        rfl
      refine ⟨_, rfl, a.m, _, rfl, M3.g_frees, _, rfl, a.fa, _, _, _, rfl, rfl, SqL.of hns, atI_nat ef, _, _, rfl, rfl, _, rfl, a.m, _, rfl, M3.g_frees, _, rfl, a.fa, _, _, i, rfl, rfl, hns, ixN_at (by rw [List.length_map]; exact lf), ?_⟩
      rw [show (ns.map V.int).set i (.int (ns[i] + 1)) = (ns.set i (ns[i] + 1)).map V.int from (List.map_set ..).symm]
      obtain ⟨f4, M4⟩ := M3.set_frees (ns := ns.set i (ns[i] + 1)) (by rw [List.length_set]; exact lns)
      have e : killR s.1 i j = (s.1.set i ((rowAt s.1 i).set j none)).set i [] := by
        unfold killR cleared
        rw [if_pos ha, List.set_set]
      refine q _ { a with rs := a.rs.set i n } ?_
      rw [e]
      have t1 : ModTo H a c (s.1.set i ((rowAt s.1 i).set j none), s.2) d H2 a := ModTo.of (f1.then (f2.mono fun _ h => by cases h)) M2
      have t2 : ModTo H2 a c ((s.1.set i ((rowAt s.1 i).set j none)).set i [], s.2) d _ { a with rs := a.rs.set i n } := ⟨f3, rfl, fun y hy => ?_, M3⟩
      · exact (t1.trans t2 M.there).trans (ModTo.of f4 M4) M.there
      · rcases List.mem_cons.mp hy with h | h
        · exact .inl (by rw [h]; exact a.mem_m)
        rcases List.mem_cons.mp h with h | h
        · exact .inl (by rw [h]; exact a.mem_ra)
        rcases List.mem_cons.mp h with h | h
        · exact .inl (by rw [h]; exact a.mem_ba)
        rcases List.mem_cons.mp h with h | h
        · exact .inl (by rw [h]; exact a.mem_fa)
        rcases List.mem_or_eq_of_mem_set h with h | h
        · exact .inl (a.mem_rows y (List.mem_cons_of_mem _ h))
        · exact .inr (by rw [h]; exact hn)
    · rw [dec_0] at hb
      have ha : ¬ alive ((rowAt s.1 i).set j none) = 0 := fun z => hb (decide_eq_true z)
      have e : killR s.1 i j = s.1.set i ((rowAt s.1 i).set j none) := by
        unfold killR cleared
        rw [if_neg ha]
      refine q H2 a ?_
      rw [e]
      exact ModTo.of (f1.then (f2.mono fun _ h => by cases h)) M2
end
end Cg

set_option Elab.async false
set_option linter.all false
set_option maxRecDepth 100000
set_option maxHeartbeats 400000
namespace Cg
open PySem PySem.Spec PyProof.Rows L2
theorem flat_ints (l : List Nat) : (l.map fun j : Nat => V.int j).all flatV = true := by
  rw [List.all_eq_true]
  intro x hx
  obtain ⟨j, _, e⟩ := List.mem_map.mp hx
  rw [← e]
  rfl
theorem inV_ints (p : Int) (l : List Nat) : inV (.int p) (l.map fun j : Nat => V.int j) = decide (0 ≤ p ∧ p.toNat ∈ l) := by
  unfold inV
  rw [List.any_map]
  by_cases h : 0 ≤ p ∧ p.toNat ∈ l
  · rw [decide_eq_true h, List.any_eq_true]
    refine ⟨p.toNat, h.2, ?_⟩
    show ((p.toNat : Int) == p) = true
    rw [Int.toNat_of_nonneg h.1]
    exact beq_self_eq_true p
  · rw [decide_eq_false h, List.any_eq_false]
    intro j hj e
    have e' : (j : Int) = p := eq_of_beq e
    exact h ⟨by omega, by rw [← e', Int.toNat_natCast]; exact hj⟩
theorem dec_str2 {a b : Str} : decide (V.str a = V.str b) = decide (a = b) := by
  by_cases e : a = b
  · rw [decide_eq_true e, e, decide_eq_true rfl]
  · rw [decide_eq_false e, decide_eq_false fun z => e (V.str.inj z)]
def refT : Ref → List V
  | .limit b => [.str "KeyLimit", .int b, .bl true]
  | .bad n => [.str "BadChoice", .int n, .bl true]
  | .stall n => [.str "Stalled", .int n, .bl true]
theorem refT_len (r : Ref) : (refT r).length = 3 := by cases r <;> rfl
section
variable {P : Program} {w : World} {K : PySem.W.Frag} {mg : Str → Option Value} {base : Heap} {f : Addr} {fd : FuncData}
/-! ### _law_find -/
def sp_find : Sp := fun vs H Q _ => ∃ (a : MAd) (c : Cfg) (s : Sg Str) (d : Int) (k : Str), vs = [.ref a.m, .str k] ∧ ModAt H a c s d ∧ Ok c s ∧
  (findR s.1 k = none → ∀ H', Fr [] H H' → Q .non H') ∧ (∀ i j : Nat, findR s.1 k = some (i, j) → ∀ H' p, Fr [] H H' → H p = none → H' p = some (.tup [.int i, .int j]) → Q (.ref p) H')
abbrev s_find : Stmt := topS 34
theorem sc_find : FnScope ["_law_model_here", "_law_name", "_law_rows", "_law_spot", "_law_rank", "_law_one"] ["_law_model_here", "_law_name"] (C8.fnScope s_find) := C8.fnScope_by (by decide +kernel)
theorem k_find (T : Bi mg) (F : C8.Def K mg "_law_find" s_find f fd) (b : Binds K fd ["_law_model_here", "_law_name"] []) : C8.Cal P w K mg base 1 "_law_find" sp_find [] := by
  refine C8.cal0 F b .nil sc_find (fun vs H Q E h => ?_) (fun cdv A outer s0 H vs Q E hr h => ?_)
  · obtain ⟨a, c, s, d, k, rfl, _⟩ := h
    rfl
  · obtain ⟨a, c, s, d, k, rfl, M, ok, q0, q1⟩ := h
    have hu := hu_of hr
    have hl := ok.lsm
    have hw := ok.wsm
    refine ⟨_, pss_cons (ps_set (i := 2) sc_find.nd rfl (by first | exact Or.inl rfl | exact Or.inr rfl) (pe_dget hu (pv 0) (pe_str) (fun _ _ => rfl)))
      (pss_cons (ps_for PassesOwn.never rfl (pi_range1 rfl T.range (pa_cons (pe_callB call_len_seq (by rfl) T.len PySem.boot_len (pa_cons (pv 2) pa_nil)) pa_nil)) (pg_name (i := 3) sc_find.nd rfl (by first | exact Or.inl rfl | exact Or.inr rfl))
        (pss_one (ps_for PassesOwn.never rfl (pi_range1 rfl T.range (pa_cons (pe_callB call_len_seq (by rfl) T.len PySem.boot_len (pa_cons (pe_ix ix_list (pv 2) (pv 3) (fun _ _ => rfl)) pa_nil)) pa_nil)) (pg_name (i := 4) sc_find.nd rfl (by first | exact Or.inl rfl | exact Or.inr rfl))
        (pss_cons (ps_set (i := 5) sc_find.nd rfl (by first | exact Or.inl rfl | exact Or.inr rfl) (pe_ix ix_list (pe_ix ix_list (pv 2) (pv 3) (fun _ _ => rfl)) (pv 4) (fun _ _ => rfl)))
      (pss_one (ps_if (PW.pt (pw_and (pt_cmp (pc_notN (pv 5))) (pw_and1 (pt_cmpR op_eq (pe_ix ix_tup (pv 5) (pe_int) (fun _ _ => rfl)) (pv 1) (nomark _))))) (pss_one (ps_ret (pe_tup (pa_cons (pv 3) (pa_cons (pv 4) pa_nil))))) (pss_nil)))))))
      (pss_one (ps_ret (pe_non)))), ?_⟩
    refine ⟨_, rfl, a.m, _, rfl, M.g_rows, ?_⟩
    refine ⟨_, rfl, a.ra, _, rfl, .inl (SqL.of M.rows), _, rfl, by omega, by rw [M.rs_len]; omega, ?_⟩
    refine for_range (fun i σ H' => H' = H ∧ (∃ v3 v4 v5 : Option V, σ = [some (.ref a.m), some (.str k), some (.ref a.ra), v3, v4, v5]) ∧ ∀ i', i' < i → some k ∉ rowAt s.1 i') ⟨rfl, ⟨none, none, none, rfl⟩, fun _ h => absurd h (Nat.not_lt_zero _)⟩ ?_ ?_
    · rintro i σ H' hi ⟨rfl, ⟨v3, v4, v5, rfl⟩, low⟩
      have hi' : i < s.1.length := by rw [M.rs_len] at hi; omega
      obtain ⟨x, xs, e1, e2, hx, hv⟩ := M.at_row hi'
      have hxl : xs.length = (rowAt s.1 i).length := Paired.length hv
      have hrow := ok.row i
      refine ⟨_, rfl, _, rfl, a.ra, _, _, _, rfl, rfl, SqL.of M.rows, at_z e2, x, _, rfl, .inl (SqL.of hx), _, rfl, by omega, by omega, ?_⟩
      refine for_range (fun j σ H2 => H2 = H' ∧ (∃ v4 v5 : Option V, σ = [some (.ref a.m), some (.str k), some (.ref a.ra), some (.int (0 + (i : Nat))), v4, v5]) ∧ ∀ j', j' < j → (rowAt s.1 i)[j']? ≠ some (some k)) ⟨rfl, ⟨v4, v5, rfl⟩, fun _ h => absurd h (Nat.not_lt_zero _)⟩ ?_ ?_
      · rintro j σ H2 hj ⟨rfl, ⟨v4, v5, rfl⟩, fst⟩
        have hj' : j < xs.length := by omega
        obtain ⟨o, eo, ro⟩ := paired_get hv (List.getElem?_eq_getElem hj')
        refine ⟨_, rfl, _, rfl, a.ra, _, _, _, rfl, rfl, SqL.of M.rows, at_z e2, _, rfl, x, _, _, _, rfl, rfl, SqL.of hx, at_z (List.getElem?_eq_getElem hj'), ?_⟩
        cases o with
        | none =>
          have ev : xs[j] = .non := ro
          refine ⟨_, rfl, _, rfl, iteF' (by rw [ev]; rfl) (iteF ⟨rfl, ⟨_, _, rfl⟩, fun j' hj2 => ?_⟩)⟩
          rcases Nat.lt_or_ge j' j with h | h
          · exact fst j' h
          · rw [show j' = j by omega, eo]
            intro z
            cases z
        | some k2 =>
          obtain ⟨t, z, ev, ht⟩ := ro
          refine ⟨_, rfl, _, rfl, iteT' (by rw [ev]; rfl) ?_⟩
          refine ⟨_, rfl, t, _, _, .str k2, (by rw [ev]), rfl, SqT.of ht, rfl, _, rfl, rfl, _, rfl, ?_⟩
          rw [dec_str2]
          refine ite2 (fun hb => ?_) (fun hb => ?_)
          · have ek : k2 = k := of_decide_eq_true hb
            subst ek
            have sp : IsSpot s.1 k2 i j := ⟨eo, fst, low⟩
            refine ⟨_, rfl, _, rfl, (by show 2 ≤ sizeLine; decide), fun p hp => ?_⟩
            exact q1 i j (findR_some sp) _ p (Fr.new hp) hp (by rw [upd_same, Int.zero_add, Int.zero_add])
          · refine ⟨rfl, ⟨_, _, rfl⟩, fun j' hj2 => ?_⟩
            rcases Nat.lt_or_ge j' j with h | h
            · exact fst j' h
            · rw [show j' = j by omega, eo]
              intro z2
              have e3 : k2 = k := Option.some.inj (Option.some.inj z2)
              exact hb (decide_eq_true e3)
      · rintro σ H2 ⟨rfl, ⟨v4, v5, rfl⟩, fst⟩
        refine ⟨rfl, ⟨_, _, _, rfl⟩, fun i' hi2 => ?_⟩
        rcases Nat.lt_or_ge i' i with h | h
        · exact low i' h
        · rw [show i' = i by omega]
          intro hm
          obtain ⟨j, hj⟩ := List.mem_iff_getElem?.mp hm
          refine fst j ?_ hj
          have := (List.getElem?_eq_some_iff.mp hj).1
          omega
    · rintro σ H' ⟨rfl, _, low⟩
      refine q0 (findR_none fun i hm => ?_) _ (Fr.refl _ _)
      rcases Nat.lt_or_ge i s.1.length with h | h
      · exact low i (by rw [M.rs_len]; omega) hm
      · rw [rowAt_out h] at hm
        cases hm
end
end Cg

set_option Elab.async false
set_option linter.all false
set_option maxRecDepth 100000
set_option maxHeartbeats 400000
namespace Cg
open PySem PySem.Spec PyProof.Rows L2
section
variable {P : Program} {w : World} {K : PySem.W.Frag} {mg : Str → Option Value} {base : Heap} {f : Addr} {fd : FuncData}
theorem ModTo.of0 {H H' : Hp} {a : MAd} {c : Cfg} {s : Sg Str} {d : Int} (f : Fr [] H H') (M : ModAt H a c s d) : ModTo H a c s d H' a := .of (f.mono fun _ h => by cases h) (M.fr0 f)
/-! ### _law_move -/
def sp_move : Sp := fun vs H Q _ => ∃ (a : MAd) (c : Cfg) (s : Sg Str) (d p : Int), vs = [.ref a.m, .int p] ∧ ModAt H a c s d ∧ Ok c s ∧
  (move c.w s p = none → ∀ H', Fr [] H H' → Q (.bl false) H') ∧ (∀ s', move c.w s p = some s' → ∀ H' a', ModTo H a c s' d H' a' → Q (.bl true) H')
abbrev s_move : Stmt := topS 35
theorem sc_move : FnScope ["_law_model_here", "_law_pick", "_law_row", "_law_rank", "_law_k"] ["_law_model_here", "_law_pick"] (C8.fnScope s_move) := C8.fnScope_by (by decide +kernel)
theorem k_move (T : Bi mg) (F : C8.Def K mg "_law_move" s_move f fd) (b : Binds K fd ["_law_model_here", "_law_pick"] []) (c_shut : C8.Cal P w K mg base 2 "_law_shut" (sp_mlist fun s => shut s.1 s.2) [])
    (c_write : C8.Cal P w K mg base 3 "_law_write" sp_write []) (c_kill : C8.Cal P w K mg base 2 "_law_kill" sp_kill []) : C8.Cal P w K mg base 4 "_law_move" sp_move [] := by
  refine C8.cal0 F b .nil sc_move (fun vs H Q E h => ?_) (fun cdv A outer s0 H vs Q E hr h => ?_)
  · obtain ⟨a, c, s, d, p, rfl, _⟩ := h
    rfl
  · obtain ⟨a, c, s, d, p, rfl, M, ok, q0, q1⟩ := h
    have hu := hu_of hr
    have hl := ok.lsm
    have hw := ok.wsm
    refine ⟨_, pss_cons (ps_if (pt_cmpR op_notIn_seq (pv 1) (C8.pe_c c_shut hr (by decide) rfl (pa_cons (pv 0) pa_nil)) (by rfl)) (pss_one (ps_ret (pe_bl))) (pss_nil))
      (pss_cons (ps_set (i := 2) sc_move.nd rfl (by first | exact Or.inl rfl | exact Or.inr rfl) (pe_ix ix_list (pe_dget hu (pv 0) (pe_str) (fun _ _ => rfl)) (pv 1) (fun _ _ => rfl)))
      (pss_cons (ps_set (i := 3) sc_move.nd rfl (by first | exact Or.inl rfl | exact Or.inr rfl) (pe_ix ix_list (pe_lc (own := [("_law_k", 4)]) (g := gName 4) (tt := _) rfl sc_move.nd (pi_range1 rfl T.range (pa_cons (pe_callB call_len_seq (by rfl) T.len PySem.boot_len (pa_cons (pv 2) pa_nil)) pa_nil)) (blkOk_by (own := [("_law_k", 4)]) (N := ["_law_model_here", "_law_pick", "_law_row", "_law_rank", "_law_k"]) (sc := C8.fnScope s_move) (by decide +kernel)) (fun _ _ _ _ _ => pg_name (i := 4) sc_move.nd rfl (by first | exact Or.inl rfl | exact Or.inr rfl)) (fun _ _ _ _ _ => pts_one (pt_cmp (pc_notN (pe_ix (r := rIxL K) ix_list (pv 2) (pv 4) (fun _ _ => rfl))))) (fun _ _ _ _ _ => pv 4)) (pe_int) (fun _ _ => rfl)))
      (pss_cons (ps_if (pt_not (pt_val (C8.pe_c c_write hr (by decide) rfl (pa_cons (pv 0) (pa_cons (pe_ix ix_list (pv 2) (pv 3) (fun _ _ => rfl)) pa_nil))))) (pss_one (ps_ret (pe_bl))) (pss_nil))
      (pss_cons (ps_expr (C8.pe_c c_kill hr (by decide) rfl (pa_cons (pv 0) (pa_cons (pv 1) (pa_cons (pv 3) pa_nil)))))
      (pss_one (ps_ret (pe_bl))))))), ?_⟩
    refine ⟨_, rfl, _, rfl, a, c, s, d, rfl, M, ok, fun H1 y f1 np hp => ?_⟩
    refine ⟨y, _, rfl, .inl (SqL.of hp), rfl, flat_ints _, _, rfl, ite2 (fun hb => ?_) (fun hb => ?_)⟩
    · rw [inV_ints] at hb
      refine q0 ?_ H1 f1
      unfold move
      rw [if_neg]
      rintro ⟨z1, z2, _⟩
      rw [decide_eq_true ⟨z1, z2⟩] at hb
      cases hb
    · rw [inV_ints] at hb
      have hin : 0 ≤ p ∧ p.toNat ∈ shut s.1 s.2 := by
        by_cases z : 0 ≤ p ∧ p.toNat ∈ shut s.1 s.2
        · exact z
        · rw [decide_eq_false z] at hb
          exact absurd rfl hb
      obtain ⟨h0, hs⟩ := hin
      obtain ⟨hi, hne, hal⟩ := shut_mem.mp hs
      have ep : p = ((p.toNat : Nat) : Int) := (Int.toNat_of_nonneg h0).symm
      generalize hn : p.toNat = i at hs hi hne hal ep
      subst ep
      have M1 := M.fr0 f1
      obtain ⟨x, xs, e1, e2, hx, hv⟩ := M1.at_row hi
      have hxl : xs.length = (rowAt s.1 i).length := Paired.length hv
      have hrow := ok.row i
      refine ⟨_, rfl, a.m, _, rfl, M1.g_rows, _, rfl, a.ra, _, _, _, rfl, rfl, SqL.of M1.rows, atI_nat e2, ?_⟩
      refine ⟨_, rfl, x, _, rfl, .inl (SqL.of hx), _, rfl, by omega, by omega, fun D hD => ?_⟩
      refine lc_range (CompI H1 D fun n => ((List.range n).filter fun j => ((rowAt s.1 i).getD j none).isSome).map fun j : Nat => V.int j) (CompI.start hD rfl) ?_ ?_
      · intro j H' hj ci
        have hj' : j < xs.length := by omega
        have gx := List.getElem?_eq_getElem hj'
        obtain ⟨o, eo, ro⟩ := paired_get hv gx
        have eg : ((rowAt s.1 i).getD j none).isSome = o.isSome := by rw [List.getD_eq_getElem?_getD, eo]; rfl
        refine ⟨rfl, _, rfl, _, rfl, x, _, _, _, rfl, rfl, SqL.of (ci.old hx), at_z gx, _, rfl, ite2 (fun hb2 => ?_) (fun hb2 => ?_)⟩
        · rw [ro.non_iff, Bool.not_not] at hb2
          exact ⟨_, rfl, ci.put (accR_len (by omega)) (acc_yes (eg.trans hb2))⟩
        · rw [ro.non_iff, Bool.not_not] at hb2
          exact ci.skip (acc_no (eg.trans (not_true hb2)))
      · intro H2 ci
        have e : (((xs.length : Nat) : Int)).toNat = (rowAt s.1 i).length := by rw [hxl]; omega
        rw [e] at ci
        have hd := ci.at_
        have M2 := M1.fr0 ci.fr0
        have hx2 := ci.old hx
        obtain ⟨k, hk⟩ := firstLive_ok hal
        have hfl : (lives (rowAt s.1 i))[0]? = some (firstLive (rowAt s.1 i)) := headD_get (lives_ne hal)
        generalize hj : firstLive (rowAt s.1 i) = j at hk hfl
        refine ⟨D, _, 0, .int (j : Nat), rfl, rfl, SqL.of hd, ?_, ?_⟩
        · refine atI_nat (j := 0) ?_
          show (((List.range (rowAt s.1 i).length).filter fun j => ((rowAt s.1 i).getD j none).isSome).map fun j : Nat => V.int j)[0]? = _
          rw [List.getElem?_map]
          have e5 : ((List.range (rowAt s.1 i).length).filter fun j => ((rowAt s.1 i).getD j none).isSome) = lives (rowAt s.1 i) := rfl
          rw [e5, hfl]
          rfl
        obtain ⟨v, ev, rv⟩ := paired_get_r hv hk
        have hjl := (List.getElem?_eq_some_iff.mp hk).1
        refine ⟨_, rfl, _, rfl, _, rfl, x, _, _, v, rfl, rfl, SqL.of hx2, atI_nat ev, ?_⟩
        have rv2 : RecV H2 v (some k) := (show RecV H1 v (some k) from rv).fr ci.fr0
        refine ⟨a, c, s, d, v, k, rfl, M2, ok, rv2, fun er H3 f3 => ?_, fun er H3 f3 M3 => ?_⟩
        · refine ⟨_, rfl, iteT' rfl (q0 ?_ H3 ((f1.then ci.fr0).then f3))⟩
          unfold move
          rw [if_neg]
          rintro ⟨_, _, z⟩
          exact z er
        · refine ⟨_, rfl, iteF' rfl ?_⟩
          have hrne : rowAt s.1 i ≠ [] := fun z => by
            rw [z] at hal
            exact absurd hal (Nat.lt_irrefl 0)
          have hrow2 : rowAt (write c.w s k).1 i = rowAt s.1 i := rowAt_set_ne (headOf_ne ok.wf er hne hrne)
          have okw : Ok c (write c.w s k) := ⟨ok.wf.write er, ok.wsm, by show (push _ _ _).length ≤ _; rw [push_len]; exact hl⟩
          refine ⟨_, rfl, _, rfl, _, rfl, a, c, write c.w s k, d, i, j, rfl, M3, okw, (by show _ < (push _ _ _).length; rw [push_len]; exact hi), by rw [hrow2]; exact hjl, fun H4 a4 t4 => ?_⟩
          refine q1 _ ?_ H4 a4 ((ModTo.of ((((f1.then ci.fr0).mono fun _ h => by cases h)).then f3) M3).trans t4 M.there)
          unfold move
          rw [if_pos ⟨h0, by rw [hn]; exact hs, er⟩, hn, hj, hk]
end
end Cg

set_option Elab.async false
set_option linter.all false
set_option maxRecDepth 100000
set_option maxHeartbeats 400000
namespace Cg
open PySem PySem.Spec PyProof.Rows L2
/-- what find answers -/
def OldV (H : Hp) (v : V) : Option (Nat × Nat) → Prop
  | none => v = .non
  | some q => ∃ p, v = .ref p ∧ H p = some (.tup [.int q.1, .int q.2])
theorem OldV.fr {S : List Addr} {H H' : Hp} (f : Fr S H H') {v : V} : ∀ {o : Option (Nat × Nat)}, OldV H v o → OldV H' v o
  | none, h => h
  | some q, h => by
    obtain ⟨p, e, hp⟩ := h
    exact ⟨p, e, f.tup _ _ hp⟩
theorem OldV.dec {H : Hp} {v : V} : ∀ {o : Option (Nat × Nat)}, OldV H v o → decide (v = .non) = o.isNone
  | none, h => by rw [show v = .non from h]; rfl
  | some q, h => by
    obtain ⟨p, e, hp⟩ := h
    rw [e]
    rfl
theorem find_lt {R : List (Row Str)} {k : Str} {i j : Nat} (h : findR R k = some (i, j)) : i < R.length ∧ j < (rowAt R i).length := ⟨spot_lt (findR_at h), (List.getElem?_eq_some_iff.mp (findR_at h)).1⟩
theorem find_low {R : List (Row Str)} {k : Str} {i j i' : Nat} {k' : Str} (h : findR R k = some (i, j)) (hi : i' < R.length) : j < (rowAt (push R i' k') i).length := by
  have a := write_at (w := 0) (s := (R, 0)) (k := k') (findR_at h)
  have b := (find_lt h).2
  unfold push
  by_cases c : i' = i
  · rw [c, rowAt_set_same (find_lt h).1, List.length_append]
    omega
  · rw [rowAt_set_ne c]
    exact b
theorem alive_take_sum (R : List (Row Str)) : ∀ i x, R[i]? = some x → ((R.take (i + 1)).map alive).sum = ((R.take i).map alive).sum + alive x := fun i x h => by
  rw [take_more h, List.map_append, List.sum_append]
  simp
theorem sum_cast : ∀ l : List Nat, (l.map fun j : Nat => (j : Int)).sum = (l.sum : Int)
  | [] => rfl
  | x :: l => by
    rw [List.map_cons, List.sum_cons, List.sum_cons, sum_cast l]
    omega
section
variable {P : Program} {w : World} {K : PySem.W.Frag} {mg : Str → Option Value} {base : Heap} {f : Addr} {fd : FuncData}
/-! ### _law_drop -/
def sp_drop : Sp := fun vs H Q _ => ∃ (a : MAd) (c : Cfg) (s : Sg Str) (d : Int) (k : Str), vs = [.ref a.m, .str k] ∧ ModAt H a c s d ∧ Ok c s ∧
  (findR s.1 k = none → ∀ H' p, Fr [] H H' → H p = none → H' p = some (.tup [.str "UnknownKey", .str k, .bl true]) → Q (.ref p) H') ∧
  (∀ i j : Nat, findR s.1 k = some (i, j) → ∀ H' a', ModTo H a c (killR s.1 i j, s.2) d H' a' → Q .non H')
abbrev s_drop : Stmt := topS 38
theorem sc_drop : FnScope ["_law_model_here", "_law_name", "_law_old"] ["_law_model_here", "_law_name"] (C8.fnScope s_drop) := C8.fnScope_by (by decide +kernel)
theorem k_drop (T : Bi mg) (F : C8.Def K mg "_law_drop" s_drop f fd) (b : Binds K fd ["_law_model_here", "_law_name"] []) (c_find : C8.Cal P w K mg base 1 "_law_find" sp_find [])
    (c_kill : C8.Cal P w K mg base 2 "_law_kill" sp_kill []) : C8.Cal P w K mg base 3 "_law_drop" sp_drop [] := by
  refine C8.cal0 F b .nil sc_drop (fun vs H Q E h => ?_) (fun cdv A outer s0 H vs Q E hr h => ?_)
  · obtain ⟨a, c, s, d, k, rfl, _⟩ := h
    rfl
  · obtain ⟨a, c, s, d, k, rfl, M, ok, q0, q1⟩ := h
    have hu := hu_of hr
    have hl := ok.lsm
    have hw := ok.wsm
    refine ⟨_, pss_cons (ps_set (i := 2) sc_drop.nd rfl (by first | exact Or.inl rfl | exact Or.inr rfl) (C8.pe_c c_find hr (by decide) rfl (pa_cons (pv 0) (pa_cons (pv 1) pa_nil))))
      (pss_cons (ps_if (pt_cmp (pc_isN (pv 2))) (pss_one (ps_ret (pe_tup (pa_cons (pe_str) (pa_cons (pv 1) (pa_cons (pe_bl) pa_nil)))))) (pss_nil))
      (pss_cons (ps_expr (C8.pe_c c_kill hr (by decide) rfl (pa_cons (pv 0) (pa_cons (pe_ix ix_tup (pv 2) (pe_int) (fun _ _ => rfl)) (pa_cons (pe_ix ix_tup (pv 2) (pe_int) (fun _ _ => rfl)) pa_nil)))))
      (pss_one (ps_ret (pe_non))))), ?_⟩
    refine ⟨_, rfl, _, rfl, a, c, s, d, k, rfl, M, ok, fun e H1 f1 => ?_, fun i j e H1 p f1 np hp => ?_⟩
    · refine ⟨_, rfl, _, rfl, iteT' rfl ⟨_, rfl, (by show 3 ≤ sizeLine; decide), fun p hp => ?_⟩⟩
      exact q0 e _ p (f1.then (Fr.new hp)) (f1.free hp fun x h => by cases h) upd_same
    · refine ⟨_, rfl, _, rfl, iteF' rfl ?_⟩
      have M1 := M.fr0 f1
      refine ⟨_, rfl, _, rfl, p, _, 0, _, rfl, rfl, SqT.of hp, atI_nat (j := 0) rfl, _, rfl, p, _, 1, _, rfl, rfl, SqT.of hp, atI_nat (j := 1) rfl, a, c, s, d, i, j, rfl, M1, ok, (find_lt e).1, (find_lt e).2, fun H2 a2 t2 => ?_⟩
      exact q1 i j e H2 a2 ((ModTo.of0 f1 M).trans t2 M.there)
/-! ### _law_begin -/
def sp_begin : Sp := fun vs H Q _ => ∃ (a : MAd) (c : Cfg) (s : Sg Str) (d : Int) (k : Str) (z n : Int), vs = [.ref a.m, .str k, .int z, .int n] ∧ ModAt H a c s d ∧ Ok c s ∧
  (∀ r, start c.w c.bound c.load d c.late s k n = .inl r → ∀ H' p, Fr [] H H' → H p = none → H' p = some (.tup (refT r)) → Q (.ref p) H') ∧
  (∀ s', start c.w c.bound c.load d c.late s k n = .inr s' → ∀ H' a', ModTo H a c s' d H' a' → Q .non H')
abbrev s_begin : Stmt := topS 36
theorem sc_begin : FnScope ["_law_model_here", "_law_name", "_law_worth_here", "_law_count", "_law_old", "_law_row"] ["_law_model_here", "_law_name", "_law_worth_here", "_law_count"] (C8.fnScope s_begin) := C8.fnScope_by (by decide +kernel)
theorem k_begin (T : Bi mg) (F : C8.Def K mg "_law_begin" s_begin f fd) (b : Binds K fd ["_law_model_here", "_law_name", "_law_worth_here", "_law_count"] []) (c_find : C8.Cal P w K mg base 1 "_law_find" sp_find [])
    (c_alive : C8.Cal P w K mg base 1 "_law_alive" sp_alive []) (c_write : C8.Cal P w K mg base 3 "_law_write" sp_write []) (c_kill : C8.Cal P w K mg base 2 "_law_kill" sp_kill []) :
    C8.Cal P w K mg base 4 "_law_begin" sp_begin [] := by
  refine C8.cal0 F b .nil sc_begin (fun vs H Q E h => ?_) (fun cdv A outer s0 H vs Q E hr h => ?_)
  · obtain ⟨a, c, s, d, k, z, n, rfl, _⟩ := h
    rfl
  · obtain ⟨a, c, s, d, k, z, n, rfl, M, ok, q0, q1⟩ := h
    have hu := hu_of hr
    have hl := ok.lsm
    have hw := ok.wsm
    refine ⟨_, C8.pss_cut (ps_set (i := 4) sc_begin.nd rfl (by first | exact Or.inl rfl | exact Or.inr rfl) (C8.pe_c c_find hr (by decide) rfl (pa_cons (pv 0) (pa_cons (pv 1) pa_nil))))
      (C8.pss_cut (ps_if (PW.pt (pw_and (pt_cmp (pc_isN (pv 4))) (pw_and1 (pt_cmpR op_ge (pe_callB (cr_sum rfl) (by rfl) T.sum (by decide +kernel) (pa_cons (pe_lc (own := [("_law_row", 5)]) (g := gName 5) (tt := tYes) rfl sc_begin.nd (pi_list (pe_dget hu (pv 0) (pe_str) (fun _ _ => rfl))) (blkOk_by (own := [("_law_row", 5)]) (N := ["_law_model_here", "_law_name", "_law_worth_here", "_law_count", "_law_old", "_law_row"]) (sc := C8.fnScope s_begin) (by decide +kernel)) (fun _ _ _ _ _ => pg_name (i := 5) sc_begin.nd rfl (by first | exact Or.inl rfl | exact Or.inr rfl)) (fun _ _ _ _ _ => pts_nil) (fun _ _ _ _ _ => C8.pe_c c_alive hr (by decide) rfl (pa_cons (pv 5) pa_nil))) pa_nil)) (pe_dget hu (pv 0) (pe_str) (fun _ _ => rfl)) (nomark _))))) (pss_one (ps_ret (pe_tup (pa_cons (pe_str) (pa_cons (pe_dget hu (pv 0) (pe_str) (fun _ _ => rfl)) (pa_cons (pe_bl) pa_nil)))))) (pss_nil))
      (pss_cons (ps_if (pt_cmpR op_gt (pv 3) (pe_dget hu (pv 0) (pe_str) (fun _ _ => rfl)) (nomark _)) (pss_one (ps_ret (pe_tup (pa_cons (pe_str) (pa_cons (pv 3) (pa_cons (pe_bl) pa_nil)))))) (pss_nil))
      (C8.pss_cut (ps_if (pt_val (pe_dget hu (pv 0) (pe_str) (fun _ _ => rfl))) (pss_one (ps_if (pt_not (pt_val (C8.pe_c c_write hr (by decide) rfl (pa_cons (pv 0) (pa_cons (pe_tup (pa_cons (pv 1) (pa_cons (pv 2) pa_nil))) pa_nil))))) (pss_one (ps_ret (pe_tup (pa_cons (pe_str) (pa_cons (pe_dget hu (pv 0) (pe_str) (fun _ _ => rfl)) (pa_cons (pe_bl) pa_nil)))))) (pss_nil))) (pss_nil))
      (pss_cons (ps_if (pt_cmp (pc_notN (pv 4))) (pss_one (ps_expr (C8.pe_c c_kill hr (by decide) rfl (pa_cons (pv 0) (pa_cons (pe_ix ix_tup (pv 4) (pe_int) (fun _ _ => rfl)) (pa_cons (pe_ix ix_tup (pv 4) (pe_int) (fun _ _ => rfl)) pa_nil)))))) (pss_nil))
      (pss_one (ps_ret (pe_non))))))), ?_⟩
    -- the place of old
    refine ⟨fun σ H' => Fr [] H H' ∧ ∃ v, σ = [some (.ref a.m), some (.str k), some (.int z), some (.int n), some v, none] ∧ OldV H' v (findR s.1 k), ?_, ?_⟩
    · refine ⟨_, rfl, _, rfl, a, c, s, d, k, rfl, M, ok, fun e H1 f1 => ⟨f1, _, rfl, ?_⟩, fun i j e H1 p f1 np hp => ⟨f1, _, rfl, ?_⟩⟩
      · rw [e]
        rfl
      · rw [e]
        exact ⟨p, rfl, hp⟩
    rintro σ H1 ⟨f1, v, rfl, hv⟩
    have M1 := M.fr0 f1
    have hod := hv.dec
    -- too many keys
    refine ⟨fun σ H' => Fr [] H H' ∧ σ = [some (.ref a.m), some (.str k), some (.int z), some (.int n), some v, none] ∧ OldV H' v (findR s.1 k) ∧ ¬ (findR s.1 k = none ∧ c.bound ≤ (total s.1 : Int)), ?_, ?_⟩
    · refine ⟨_, rfl, _, rfl, ite2 (fun hb => ?_) (fun hb => ?_)⟩
      · rw [hod] at hb
        have hn : findR s.1 k = none := Option.isNone_iff_eq_none.mp hb
        refine ⟨_, rfl, a.m, _, rfl, M1.g_rows, a.ra, rfl, ⟨_, SqL.of M1.rows⟩, fun D hD => ?_⟩
        refine lc_list (K := K) (a := a.ra) (xs := a.rs.map V.ref) (CompI H1 D fun i => ((s.1.take i).map alive).map fun j : Nat => V.int j) (CompI.start hD rfl) (fun i H' _ ci => SqL.of (ci.old M1.rows)) ?_ ?_
        · intro i x H' hi ci
          have hi' : i < s.1.length := by
            have := (List.getElem?_eq_some_iff.mp hi).1
            rwa [M1.rs_len] at this
          have M' := M1.fr0 ci.fr0
          obtain ⟨x2, xs, e1, e2, hx, hxv⟩ := M'.at_row hi'
          rw [e2] at hi
          have hi2 := Option.some.inj hi
          subst hi2
          refine ⟨rfl, ?_⟩
          refine (show ∃ _, _ from ⟨_, rfl, x2, xs, _, rfl, hx, hxv, ok.row i, fun H2 f2 => (ci.more f2).put ?_ ?_⟩)
          · rw [List.length_map, List.length_map, List.length_take]
            omega
          · show ((s.1.take (i + 1)).map alive).map _ = _
            rw [take_more (get_rowAt hi'), List.map_append, List.map_append]
            rfl
        · intro H2 ci
          have hd := ci.at_
          rw [M1.rs_len, List.take_length] at hd
          have M2 := M1.fr0 ci.fr0
          refine ⟨D, (s.1.map alive).map fun j : Nat => (j : Int), rfl, SqL.of (hd.trans ?_), ?_⟩
          · rw [List.map_map (g := V.int)]
            rfl
          refine ⟨_, rfl, a.m, _, rfl, M2.g_bound, ?_⟩
          have es : ((s.1.map alive).map fun j : Nat => (j : Int)).sum = (total s.1 : Int) := sum_cast _
          rw [es]
          refine ⟨_, _, rfl, rfl, _, rfl, ite2 (fun hb2 => ?_) (fun hb2 => ?_)⟩
          · refine ⟨_, rfl, a.m, _, rfl, M2.g_bound, (by show 3 ≤ sizeLine; decide), fun p hp => ?_⟩
            refine q0 (.limit c.bound) ?_ _ p ((f1.then ci.fr0).then (Fr.new hp)) ((f1.then ci.fr0).free hp fun x h => by cases h) upd_same
            unfold start
            rw [if_pos ⟨hn, of_decide_eq_true hb2⟩]
          · exact ⟨f1.then ci.fr0, rfl, hv.fr ci.fr0, fun h => hb2 (decide_eq_true h.2)⟩
      · rw [hod] at hb
        exact iteF ⟨f1, rfl, hv, fun h => hb (by rw [h.1]; rfl)⟩
    clear f1 hv hod M1 H1
    rintro σ H1 ⟨f1, rfl, hv, hnl⟩
    have M1 := M.fr0 f1
    have hod := hv.dec
    -- too many picks
    refine ⟨_, rfl, _, rfl, a.m, _, rfl, M1.g_load, _, _, rfl, rfl, _, rfl, ite2 (fun hb => ?_) (fun hb => ?_)⟩
    · refine ⟨_, rfl, (by show 3 ≤ sizeLine; decide), fun p hp => ?_⟩
      refine q0 (.bad n) ?_ _ p (f1.then (Fr.new hp)) (f1.free hp fun x h => by cases h) upd_same
      unfold start
      rw [if_neg hnl, if_pos (of_decide_eq_true hb)]
    have hnb : ¬ c.load < n := fun z => hb (decide_eq_true z)
    -- the record first, or not yet
    refine ⟨fun σ H' => (∃ s1 : Sg Str, (c.late = true → room c.w s.1 s.2 ≠ 0) ∧ s1 = (if c.late = true then write c.w s k else s) ∧ ModTo H a c s1 d H' a) ∧ σ = [some (.ref a.m), some (.str k), some (.int z), some (.int n), some v, none] ∧ OldV H' v (findR s.1 k), ?_, ?_⟩
    · refine ⟨_, rfl, a.m, _, rfl, M1.g_first, _, rfl, ite2 (fun hl1 => ?_) (fun hl1 => ?_)⟩
      · refine ⟨_, rfl, _, rfl, _, rfl, (by show 2 ≤ sizeLine; decide), fun q hq => ?_⟩
        have fq : Fr [] H1 (upd H1 q (.tup [.str k, .int z])) := Fr.new hq
        refine ⟨a, c, s, d, .ref q, k, rfl, M1.fr0 fq, ok, ⟨q, z, rfl, upd_same⟩, fun e H2 f2 => ?_, fun e H2 f2 M2 => ?_⟩
        · refine ⟨_, rfl, iteT' rfl ?_⟩
          have M2 := (M1.fr0 fq).fr0 f2
          refine ⟨_, rfl, a.m, _, rfl, M2.g_deeds, (by show 3 ≤ sizeLine; decide), fun p hp => ?_⟩
          have f3 := (f1.then fq).then f2
          refine q0 (.stall d) ?_ _ p (f3.then (Fr.new hp)) (f3.free hp fun x h => by cases h) upd_same
          unfold start
          rw [if_neg hnl, if_neg hnb, if_pos ⟨hl1, e⟩]
        · refine ⟨_, rfl, iteF' rfl ?_⟩
          exact ⟨⟨write c.w s k, fun _ => e, (if_pos hl1).symm, .of ((((f1.then fq).mono fun _ h => by cases h)).then f2) M2⟩, rfl, (hv.fr fq).fr f2⟩
      · exact ⟨⟨s, fun h => absurd h hl1, (if_neg hl1).symm, ModTo.of0 f1 M⟩, rfl, hv⟩
    rintro σ H2 ⟨⟨s1, hr1, es1, t1⟩, rfl, hv2⟩
    have hod2 := hv2.dec
    have est : ∀ o, findR s.1 k = o → start c.w c.bound c.load d c.late s k n = .inr (match o with | some (i, j) => (killR s1.1 i j, s1.2) | none => s1) := fun o eo => by
      unfold start
      rw [if_neg hnl, if_neg hnb, if_neg fun h => hr1 h.1 h.2, ← es1, eo] <;> rfl
    refine ⟨_, rfl, _, rfl, ite2 (fun hb => ?_) (fun hb => ?_)⟩
    · rw [hod2] at hb
      cases e : findR s.1 k with
      | none =>
        rw [e] at hb
        cases hb
      | some ij =>
        obtain ⟨i, j⟩ := ij
        rw [e] at hv2
        obtain ⟨p, rfl, hp⟩ := hv2
        obtain ⟨i1, j1⟩ := find_lt e
        have ok1 : Ok c s1 ∧ i < s1.1.length ∧ j < (rowAt s1.1 i).length := by
          rw [es1]
          split
          · rename_i hl1
            have hr0 := hr1 hl1
            refine ⟨⟨ok.wf.write hr0, ok.wsm, by show (push _ _ _).length ≤ _; rw [push_len]; exact hl⟩, by show _ < (push _ _ _).length; rw [push_len]; exact i1, find_low e (headOf_ok ok.wf hr0).1⟩
          · exact ⟨ok, i1, j1⟩
        refine ⟨_, rfl, _, rfl, p, _, 0, _, rfl, rfl, SqT.of hp, atI_nat (j := 0) rfl, _, rfl, p, _, 1, _, rfl, rfl, SqT.of hp, atI_nat (j := 1) rfl, a, c, s1, d, i, j, rfl, t1.2.2.2, ok1.1, ok1.2.1, ok1.2.2, fun H3 a3 t3 => ?_⟩
        exact q1 _ (est _ e) H3 a3 (t1.trans t3 M.there)
    · rw [hod2] at hb
      cases e : findR s.1 k with
      | none => exact q1 _ (est _ e) H2 a t1
      | some ij =>
        rw [e] at hb
        exact absurd rfl hb
end
end Cg

set_option Elab.async false
set_option linter.all false
set_option maxRecDepth 100000
set_option maxHeartbeats 400000
namespace Cg
open PySem PySem.Spec PyProof.Rows L2
theorem moves_app {κ : Type} {w : Nat} : ∀ {l r : List Int} {s : Sg κ}, moves w s (l ++ r) = match moves w s l with | .inl p => .inl p | .inr s' => moves w s' r
  | [], r, s => rfl
  | p :: l, r, s => by
    show (match move w s p with | none => Sum.inl p | some s' => moves w s' (l ++ r)) = match (match move w s p with | none => Sum.inl p | some s' => moves w s' l) with | .inl p => .inl p | .inr s' => moves w s' r
    cases move w s p with
    | none => rfl
    | some s' => exact moves_app (l := l)
theorem moves_stop {κ : Type} {w : Nat} {ps : List Int} {i : Nat} {p : Int} {s si : Sg κ} (h : ps[i]? = some p) (e : moves w s (ps.take i) = .inr si) (hm : move w si p = none) : moves w s ps = .inl p := by
  obtain ⟨hi, hp⟩ := List.getElem?_eq_some_iff.mp h
  have ed : ps = ps.take i ++ p :: ps.drop (i + 1) := by
    rw [← hp, ← List.drop_eq_getElem_cons hi, List.take_append_drop]
  rw [ed, moves_app, e]
  show (match move w si p with | none => Sum.inl p | some s' => moves w s' _) = _
  rw [hm]
theorem moves_step {κ : Type} {w : Nat} {ps : List Int} {i : Nat} {p : Int} {s si s' : Sg κ} (h : ps[i]? = some p) (e : moves w s (ps.take i) = .inr si) (hm : move w si p = some s') : moves w s (ps.take (i + 1)) = .inr s' := by
  rw [take_more h, moves_app, e]
  show (match move w si p with | none => Sum.inl p | some s' => moves w s' _) = _
  rw [hm]
  rfl
theorem ints_get {ps : List Int} {i : Nat} {x : V} (h : (ps.map V.int)[i]? = some x) : ∃ p, ps[i]? = some p ∧ x = .int p := by
  rw [List.getElem?_map] at h
  cases e : ps[i]? with
  | none =>
    rw [e] at h
    cases h
  | some p =>
    rw [e] at h
    exact ⟨p, rfl, (Option.some.inj h).symm⟩
theorem mem_int_eq {x y : Addr} (p : Int) (h : x = y) : [V.ref y, V.int p] = [V.ref x, V.int p] := by rw [h]
theorem ModTo.step {H H1 H2 : Hp} {a a1 : MAd} {c : Cfg} {s s' : Sg Str} {d d' : Int} (x : ModTo H a c s d H1 a1) (y : Fr a1.fp H1 H2) (M : ModAt H2 a1 c s' d') (hs : ∀ z ∈ a.fp, (H z).isSome = true) : ModTo H a c s' d' H2 a1 := x.trans (.of y M) hs
theorem ModTo.step0 {H H1 H2 : Hp} {a a1 : MAd} {c : Cfg} {s : Sg Str} {d : Int} (x : ModTo H a c s d H1 a1) (y : Fr [] H1 H2) : ModTo H a c s d H2 a1 :=
  ⟨x.1.then (y.mono fun _ h => by cases h), x.2.1, x.2.2.1, x.2.2.2.fr0 y⟩
section
variable {P : Program} {w : World} {K : PySem.W.Frag} {mg : Str → Option Value} {base : Heap} {f : Addr} {fd : FuncData}
/-! ### _law_put -/
def sp_put : Sp := fun vs H Q _ => ∃ (a : MAd) (c : Cfg) (s : Sg Str) (d : Int) (k : Str) (z : Int) (pa : Addr) (ps : List Int), vs = [.ref a.m, .str k, .int z, .ref pa] ∧ ModAt H a c s d ∧ Ok c s ∧
  H pa = some (.lst (ps.map V.int)) ∧ pa ∉ a.fp ∧
  (∀ r, putM c.w c.bound c.load d c.late s k ps = .inl r → ∀ H' p, Fr a.fp H H' → H' p = some (.tup (refT r)) → Q (.ref p) H') ∧
  (∀ s', putM c.w c.bound c.load d c.late s k ps = .inr s' → ∀ H' a', ModTo H a c s' (d + 1) H' a' → Q .non H')
abbrev s_put : Stmt := topS 37
theorem sc_put : FnScope ["_law_model_here", "_law_name", "_law_worth_here", "_law_picks_here", "_law_due", "_law_pick"] ["_law_model_here", "_law_name", "_law_worth_here", "_law_picks_here"] (C8.fnScope s_put) := C8.fnScope_by (by decide +kernel)
theorem k_put (T : Bi mg) (F : C8.Def K mg "_law_put" s_put f fd) (b : Binds K fd ["_law_model_here", "_law_name", "_law_worth_here", "_law_picks_here"] []) (c_begin : C8.Cal P w K mg base 4 "_law_begin" sp_begin [])
    (c_move : C8.Cal P w K mg base 4 "_law_move" sp_move []) (c_write : C8.Cal P w K mg base 3 "_law_write" sp_write []) : C8.Cal P w K mg base 5 "_law_put" sp_put [] := by
  refine C8.cal0 F b .nil sc_put (fun vs H Q E h => ?_) (fun cdv A outer s0 H vs Q E hr h => ?_)
  · obtain ⟨a, c, s, d, k, z, pa, ps, rfl, _⟩ := h
    rfl
  · obtain ⟨a, c, s, d, k, z, pa, ps, rfl, M, ok, hpa, npa, q0, q1⟩ := h
    have hu := hu_of hr
    have hl := ok.lsm
    have hw := ok.wsm
    refine ⟨_, pss_cons (ps_set (i := 4) sc_put.nd rfl (by first | exact Or.inl rfl | exact Or.inr rfl) (C8.pe_c c_begin hr (by decide) rfl (pa_cons (pv 0) (pa_cons (pv 1) (pa_cons (pv 2) (pa_cons (pe_callB call_len_seq (by rfl) T.len PySem.boot_len (pa_cons (pv 3) pa_nil)) pa_nil))))))
      (pss_cons (ps_if (pt_cmp (pc_notN (pv 4))) (pss_one (ps_ret (pv 4))) (pss_nil))
      (pss_cons (ps_for PassesOwn.never rfl (pi_list (pv 3)) (pg_name (i := 5) sc_put.nd rfl (by first | exact Or.inl rfl | exact Or.inr rfl))
        (pss_one (ps_if (pt_not (pt_val (C8.pe_c c_move hr (by decide) rfl (pa_cons (pv 0) (pa_cons (pv 5) pa_nil))))) (pss_one (ps_ret (pe_tup (pa_cons (pe_str) (pa_cons (pv 5) (pa_cons (pe_bl) pa_nil)))))) (pss_nil))))
      (C8.pss_cut (ps_if (pt_not (pt_val (pe_dget hu (pv 0) (pe_str) (fun _ _ => rfl)))) (pss_one (ps_if (pt_not (pt_val (C8.pe_c c_write hr (by decide) rfl (pa_cons (pv 0) (pa_cons (pe_tup (pa_cons (pv 1) (pa_cons (pv 2) pa_nil))) pa_nil))))) (pss_one (ps_ret (pe_tup (pa_cons (pe_str) (pa_cons (pe_dget hu (pv 0) (pe_str) (fun _ _ => rfl)) (pa_cons (pe_bl) pa_nil)))))) (pss_nil))) (pss_nil))
      (pss_cons (ps_dput hu (pv 0) (pe_str) (pe_op op_add (pe_dget hu (pv 0) (pe_str) (fun _ _ => rfl)) (pe_int)) rfl)
      (pss_cons (ps_dput hu (pv 0) (pe_str) (pe_op op_add (pe_dget hu (pv 0) (pe_str) (fun _ _ => rfl)) (pe_callB call_len_seq (by rfl) T.len PySem.boot_len (pa_cons (pv 3) pa_nil))) rfl)
      (pss_cons (ps_dput hu (pv 0) (pe_str) (pe_callB call_len_seq (by rfl) T.len PySem.boot_len (pa_cons (pv 3) pa_nil)) rfl)
      (pss_one (ps_ret (pe_non))))))))), ?_⟩
    refine ⟨_, rfl, _, rfl, _, rfl, _, rfl, pa, _, rfl, .inl (SqL.of hpa), a, c, s, d, k, z, _, rfl, M, ok, fun r er H1 p f1 np hp => ?_, fun s1 es1 H1 a1 t1 => ?_⟩
    · refine ⟨_, rfl, _, rfl, iteT' rfl ⟨_, rfl, ?_⟩⟩
      rw [List.length_map] at er
      refine q0 r ?_ H1 p (f1.mono fun _ h => by cases h) hp
      unfold putM
      rw [er]
    · rw [List.length_map] at es1
      refine ⟨_, rfl, _, rfl, iteF' rfl ?_⟩
      obtain ⟨w1, l1, _⟩ := start_ok ok.wf es1
      have hpa1 : H1 pa = some (.lst (ps.map V.int)) := t1.1.all _ _ hpa npa
      refine ⟨_, rfl, pa, rfl, ⟨_, SqL.of hpa1⟩, ?_⟩
      refine for_list (K := K) (a := pa) (xs := ps.map V.int) (fun i σ H' => ∃ si ai v5, moves c.w s1 (ps.take i) = .inr si ∧ ModTo H a c si d H' ai ∧ σ = [some (.ref a.m), some (.str k), some (.int z), some (.ref pa), some .non, v5]) ⟨s1, a1, none, rfl, t1, rfl⟩ ?_ ?_ ?_
      · rintro i σ H' _ ⟨si, ai, v5, e, t, _⟩
        exact SqL.of (t.1.all _ _ hpa npa)
      · rintro i x σ H' hx ⟨si, ai, v5, e, t, rfl⟩
        obtain ⟨p, hp, rfl⟩ := ints_get hx
        obtain ⟨wi, li, _⟩ := moves_ok w1 e
        have oki : Ok c si := ⟨wi, hw, by rw [li, l1]; exact hl⟩
        refine ⟨_, rfl, _, rfl, ai, c, si, d, p, mem_int_eq p t.2.1, t.2.2.2, oki, fun em H2 f2 => ?_, fun s' em H2 a2 t2 => ?_⟩
        · refine ⟨_, rfl, iteT' rfl ⟨_, rfl, (by show 3 ≤ sizeLine; decide), fun q hq => ?_⟩⟩
          have f3 : Fr a.fp H H2 := t.1.then (f2.mono fun _ h => by cases h)
          refine q0 (.bad p) ?_ _ q (f3.then (Fr.new hq)) upd_same
          unfold putM
          rw [es1]
          simp only [moves_stop hp e em]
        · refine ⟨_, rfl, iteF' rfl ?_⟩
          exact ⟨s', a2, _, moves_step hp e em, t.trans t2 M.there, rfl⟩
      · rintro σ H2 ⟨s2, a2, v5, e, t, rfl⟩
        rw [List.length_map, List.take_length] at e
        obtain ⟨w2, l2, _⟩ := moves_ok w1 e
        have ok2 : Ok c s2 := ⟨w2, hw, by rw [l2, l1]; exact hl⟩
        have eput : ∀ A, (if c.late = true then Sum.inr s2 else if room c.w s2.1 s2.2 = 0 then .inl (.stall d) else .inr (write c.w s2 k)) = A → putM c.w c.bound c.load d c.late s k ps = A := fun A eA => by
          unfold putM
          rw [es1]
          simp only [e]
          exact eA
        have M2 := t.2.2.2
        have em := t.2.1
        rw [← em]
        refine ⟨fun σ H' => ∃ s3, putM c.w c.bound c.load d c.late s k ps = .inr s3 ∧ ModTo H a c s3 d H' a2 ∧ σ = [some (.ref a2.m), some (.str k), some (.int z), some (.ref pa), some .non, v5], ?_, ?_⟩
        · refine ⟨_, rfl, a2.m, _, rfl, M2.g_first, _, rfl, ite2 (fun hb => ?_) (fun hb => ?_)⟩
          · have hf : ¬ c.late = true := fun z => by rw [z] at hb; cases hb
            refine ⟨_, rfl, _, rfl, _, rfl, (by show 2 ≤ sizeLine; decide), fun q hq => ?_⟩
            have fq : Fr [] H2 (upd H2 q (.tup [.str k, .int z])) := Fr.new hq
            refine ⟨a2, c, s2, d, .ref q, k, rfl, M2.fr0 fq, ok2, ⟨q, z, rfl, upd_same⟩, fun er H3 f3 => ?_, fun er H3 f3 M3 => ?_⟩
            · refine ⟨_, rfl, iteT' rfl ?_⟩
              have M3 := (M2.fr0 fq).fr0 f3
              refine ⟨_, rfl, a2.m, _, rfl, M3.g_deeds, (by show 3 ≤ sizeLine; decide), fun p hp => ?_⟩
              refine q0 (.stall d) (eput _ (by rw [if_neg hf, if_pos er])) _ p ((t.1.then ((fq.then f3).mono fun _ h => by cases h)).then (Fr.new hp)) upd_same
            · refine ⟨_, rfl, iteF' rfl ?_⟩
              exact ⟨write c.w s2 k, eput _ (by rw [if_neg hf, if_neg er]), (t.step0 fq).step f3 M3 M.there, rfl⟩
          · have hf : c.late = true := by
              cases q : c.late with
              | true => rfl
              | false =>
                rw [q] at hb
                exact absurd rfl hb
            exact ⟨s2, eput _ (if_pos hf), t, rfl⟩
        rintro σ H3 ⟨s3, ep, t3, rfl⟩
        have M3 := t3.2.2.2
        have fz : ∀ {H' : Hp}, Fr a.fp H H' → H' pa = some (.lst (ps.map V.int)) := fun f => f.all _ _ hpa npa
        obtain ⟨mv, wt, e3⟩ := M3.ob
        obtain ⟨f4, M4⟩ := M3.set_ob (kvs := putK (mkvs a2 s3.2 d mv wt c) (Sum.inr "deeds") (.int (d + 1))) s3.2 (d + 1) mv wt rfl
        have t4 := t3.step f4 M4 M.there
        refine ⟨_, rfl, a2.m, _, rfl, M3.g_deeds, _, _, rfl, rfl, _, rfl, a2.m, _, rfl, DPut.k (k := Sum.inr "deeds") e3 (by show 11 < sizeLine; decide), ?_⟩
        obtain ⟨mv4, wt4, e4⟩ := M4.ob
        obtain ⟨f5, M5⟩ := M4.set_ob (kvs := putK (mkvs a2 s3.2 (d + 1) mv4 wt4 c) (Sum.inr "moved") (.int (mv4 + ((ps.map V.int).length : Nat)))) s3.2 (d + 1) (mv4 + ((ps.map V.int).length : Nat)) wt4 rfl
        have t5 := t4.step f5 M5 M.there
        refine ⟨_, rfl, a2.m, _, rfl, DGet.k (k := Sum.inr "moved") e4, _, rfl, pa, _, rfl, .inl (SqL.of (fz t4.1)), _, _, rfl, rfl, _, rfl, a2.m, _, rfl, DPut.k (k := Sum.inr "moved") e4 (by show 11 < sizeLine; decide), ?_⟩
        obtain ⟨mv5, wt5, e5⟩ := M5.ob
        obtain ⟨f6, M6⟩ := M5.set_ob (kvs := putK (mkvs a2 s3.2 (d + 1) mv5 wt5 c) (Sum.inr "waits") (.int ((ps.map V.int).length : Nat))) s3.2 (d + 1) mv5 ((ps.map V.int).length : Nat) rfl
        have t6 := t5.step f6 M6 M.there
        refine ⟨_, rfl, pa, _, rfl, .inl (SqL.of (fz t5.1)), _, rfl, a2.m, _, rfl, DPut.k (k := Sum.inr "waits") e5 (by show 11 < sizeLine; decide), ?_⟩
        exact q1 s3 ep _ a2 t6
end
end Cg

set_option Elab.async false
set_option linter.all false
set_option maxRecDepth 100000
set_option maxHeartbeats 400000
namespace Cg
open PySem PySem.Spec PyProof.Rows L2
/-! ### a comprehension that fills a new list with new rows -/
structure NewRows (rel : Hp → V → Option Str → Prop) (H : Hp) (D : Addr) (R : List (Row Str)) (i : Nat) (H' : Hp) : Prop where
  new : H D = none
  fr : Fr [D] H H'
  rows : ∃ ys : List Addr, ys.length = i ∧ (D :: ys).Nodup ∧ H' D = some (.lst (ys.map V.ref)) ∧ (∀ y ∈ ys, H y = none) ∧ ∀ (j : Nat) y, ys[j]? = some y → ∃ vs, H' y = some (.lst vs) ∧ Paired (rel H') vs (rowAt R j)
section
variable {rel : Hp → V → Option Str → Prop} {H H' : Hp} {D : Addr} {R : List (Row Str)} {i : Nat}
theorem NewRows.start (h : H D = none) : NewRows rel H D R 0 (upd H D (.lst [])) :=
  ⟨h, Fr.new h, [], rfl, List.nodup_cons.mpr ⟨fun z => (by cases z), List.nodup_nil⟩, by rw [upd_same]; rfl, fun y h => (by cases h), fun j y h => (by simp at h)⟩
theorem NewRows.fr0 (c : NewRows rel H D R i H') : Fr [] H H' := c.fr.out c.new
theorem NewRows.old (c : NewRows rel H D R i H') {a : Addr} {o : HO} (e : H a = some o) : H' a = some o := c.fr.all a o e (by simp [ne_of_none e c.new])
theorem NewRows.put (st : Steady rel) (c : NewRows rel H D R i H') (hi : i ≤ 1000) {l : Addr} {vs : List V} (hl : H' l = none) (hv : Paired (rel H') vs (rowAt R i)) :
    ∃ acc, (upd H' l (.lst vs)) D = some (.lst acc) ∧ acc.length < sizeLine ∧ NewRows rel H D R (i + 1) (upd (upd H' l (.lst vs)) D (.lst (acc ++ [.ref l]))) := by
  obtain ⟨ys, e1, e2, e3, e4, e5⟩ := c.rows
  have f1 : Fr [] H' (upd H' l (.lst vs)) := Fr.new hl
  have hD : (upd H' l (.lst vs)) D = some (.lst (ys.map V.ref)) := f1.all _ _ e3 (by simp)
  have f2 : Fr [D] (upd H' l (.lst vs)) (upd (upd H' l (.lst vs)) D (.lst (ys.map V.ref ++ [.ref l]))) := Fr.set (by simp) hD fun xs z => by cases z
  have f3 : Fr [D] H' (upd (upd H' l (.lst vs)) D (.lst (ys.map V.ref ++ [.ref l]))) := (f1.mono fun _ h => by cases h).then f2
  have lD : l ≠ D := fun z => by
    rw [z, e3] at hl
    cases hl
  have lys : l ∉ ys := fun z => by
    obtain ⟨j, hj⟩ := List.mem_iff_getElem?.mp z
    obtain ⟨us, e, _⟩ := e5 j l hj
    rw [hl] at e
    cases e
  have lH : H l = none := c.fr.free hl fun x hx => by
    rw [show x = D by simpa using hx, e3]
    rfl
  obtain ⟨d1, d2⟩ := List.nodup_cons.mp e2
  refine ⟨_, hD, small1000 (by rw [List.length_map]; omega), c.new, c.fr.then f3, ys ++ [l], by rw [List.length_append, e1]; rfl, List.nodup_cons.mpr ⟨fun z => ?_, ?_⟩, by rw [upd_same, List.map_append]; rfl, fun y hy => ?_, fun j y hj => ?_⟩
  · rcases List.mem_append.mp z with h | h
    · exact d1 h
    · exact lD (List.mem_singleton.mp h).symm
  · rw [List.nodup_append]
    refine ⟨d2, by simp, fun x hx y hy e => ?_⟩
    have hy' : y = l := by simpa using hy
    exact lys (by rw [← hy', ← e]; exact hx)
  · rcases List.mem_append.mp hy with h | h
    · exact e4 y h
    · rw [show y = l by simpa using h]
      exact lH
  · rcases Nat.lt_or_ge j ys.length with h | h
    · rw [List.getElem?_append_left h] at hj
      obtain ⟨us, e6, r6⟩ := e5 j y hj
      exact ⟨us, f3.all _ _ e6 (by simp; exact fun z => d1 (z ▸ List.mem_of_getElem? hj)), Paired.mapP r6 fun v o z => st _ _ _ v o f3 z⟩
    · have hj2 := hj
      rw [List.getElem?_append_right h] at hj2
      have hj0 : j - ys.length = 0 := by
        have := (List.getElem?_eq_some_iff.mp hj2).1
        simp at this
        omega
      rw [hj0] at hj2
      have ey : l = y := Option.some.inj hj2
      subst ey
      have ej : j = i := by omega
      subst ej
      exact ⟨vs, by rw [upd_ne lD, upd_same], Paired.mapP hv fun v o z => st _ _ _ v o f3 z⟩
theorem NewRows.done (c : NewRows rel H D R R.length H') : ∃ ys : List Addr, RowsAt rel H' D ys R ∧ ∀ y ∈ D :: ys, H y = none := by
  obtain ⟨ys, e1, e2, e3, e4, e5⟩ := c.rows
  refine ⟨ys, ⟨e2, e3, e1, e5⟩, fun y hy => ?_⟩
  rcases List.mem_cons.mp hy with h | h
  · rw [h]
    exact c.new
  · exact e4 y h
end
theorem rowAt_replicate {n i : Nat} : rowAt (List.replicate n ([] : Row Str)) i = [] := by
  unfold rowAt
  rw [List.getD_eq_getElem?_getD, List.getElem?_replicate]
  split <;> rfl
theorem putK_new {kvs : List (Key × V)} {k : Key} {v : V} (h : k ∉ kvs.map (·.1)) : putK kvs k v = kvs ++ [(k, v)] := by
  unfold putK
  rw [if_neg]
  intro z
  obtain ⟨kv, hm, e⟩ := List.any_eq_true.mp z
  exact h (by rw [← of_decide_eq_true e]; exact List.mem_map_of_mem hm)
theorem mergeK_new : ∀ {more kvs : List (Key × V)}, ((kvs ++ more).map (·.1)).Nodup → mergeK kvs more = kvs ++ more
  | [], kvs, _ => (List.append_nil _).symm
  | kv :: more, kvs, h => by
    have e : putK kvs kv.1 kv.2 = kvs ++ [kv] := putK_new fun z => by
      rw [List.map_append, List.nodup_append] at h
      exact h.2.2 _ z _ (by simp) rfl
    show mergeK (putK kvs kv.1 kv.2) more = _
    rw [e, mergeK_new (more := more) (kvs := kvs ++ [kv]) (by rw [List.append_assoc]; exact h), List.append_assoc]
    rfl
theorem mk_keys {a : MAd} {hd : Nat} {d mv wt : Int} {c : Cfg} : ((mkvs a hd d mv wt c).map (·.1)).Nodup := by
  show ([.inr "rows", .inr "head", .inr "born", .inr "frees", .inr "deeds", .inr "moved", .inr "waits", .inr "wide", .inr "bound", .inr "load", .inr "first"] : List Key).Nodup
  decide +kernel
end Cg

set_option Elab.async false
set_option linter.all false
set_option maxRecDepth 100000
set_option maxHeartbeats 400000
namespace Cg
open PySem PySem.Spec PyProof.Rows L2
theorem Fr.outs {H H' : Hp} {S : List Addr} (f : Fr S H H') (h : ∀ x ∈ S, H x = none) : Fr [] H H' := ⟨fun b o e _ => f.all b o e fun z => (by rw [h b z] at e; cases e), f.tup⟩
theorem Fr.in {H H' : Hp} {S : List Addr} (f : Fr [] H H') : Fr S H H' := f.mono fun _ h => by cases h
theorem ne_here {H : Hp} {x p : Addr} {o : HO} (h : H p = none) (e : H x = some o) : x ≠ p := fun z => by
  rw [z, h] at e
  cases e
theorem not_mem_free {H : Hp} {l : List Addr} {p : Addr} (h : H p = none) (hl : ∀ z ∈ l, (H z).isSome = true) : p ∉ l := fun z => by
  have := hl p z
  rw [h] at this
  cases this
section
variable {P : Program} {w : World} {K : PySem.W.Frag} {mg : Str → Option Value} {base : Heap} {f : Addr} {fd : FuncData}
/-! ### _law_copy -/
def sp_copy : Sp := fun vs H Q _ => ∃ (a : MAd) (c : Cfg) (s : Sg Str) (d : Int), vs = [.ref a.m] ∧ ModAt H a c s d ∧ Ok c s ∧ ∀ (H' : Hp) (a' : MAd), Fr [] H H' → (∀ x ∈ a'.fp, H x = none) → ModAt H' a' c s d → Q (.ref a'.m) H'
abbrev s_copy : Stmt := topS 27
theorem sc_copy : FnScope ["_law_model_here", "_law_other", "_law_row"] ["_law_model_here"] (C8.fnScope s_copy) := C8.fnScope_by (by decide +kernel)
theorem k_copy (T : Bi mg) (F : C8.Def K mg "_law_copy" s_copy f fd) (b : Binds K fd ["_law_model_here"] []) : C8.Cal P w K mg base 1 "_law_copy" sp_copy [] := by
  refine C8.cal0 F b .nil sc_copy (fun vs H Q E h => ?_) (fun cdv A outer s0 H vs Q E hr h => ?_)
  · obtain ⟨a, c, s, d, rfl, _⟩ := h
    rfl
  · obtain ⟨a, c, s, d, rfl, M, ok, q⟩ := h
    have hu := hu_of hr
    have hl := ok.lsm
    have hw := ok.wsm
    refine ⟨_, pss_cons (ps_set (i := 1) sc_copy.nd rfl (by first | exact Or.inl rfl | exact Or.inr rfl) (pe_callTy call_dictD (by rfl) T.dict (by decide +kernel) (pa_cons (pv 0) pa_nil)))
      (pss_cons (ps_dput hu (pv 1) (pe_str) (pe_lc (own := [("_law_row", 2)]) (g := gName 2) (tt := tYes) rfl sc_copy.nd (pi_list (pe_dget hu (pv 0) (pe_str) (fun _ _ => rfl))) (blkOk_by (own := [("_law_row", 2)]) (N := ["_law_model_here", "_law_other", "_law_row"]) (sc := C8.fnScope s_copy) (by decide +kernel)) (fun _ _ _ _ _ => pg_name (i := 2) sc_copy.nd rfl (by first | exact Or.inl rfl | exact Or.inr rfl)) (fun _ _ _ _ _ => pts_nil) (fun _ _ _ _ _ => pe_callTy (r := rListS K) call_listK (by rfl) T.list (by decide +kernel) (pa_cons (pv 2) pa_nil))) rfl)
      (pss_cons (ps_dput hu (pv 1) (pe_str) (pe_callTy call_list_of (by rfl) T.list (by decide +kernel) (pa_cons (pe_dget hu (pv 0) (pe_str) (fun _ _ => rfl)) pa_nil)) rfl)
      (pss_cons (ps_dput hu (pv 1) (pe_str) (pe_callTy call_list_of (by rfl) T.list (by decide +kernel) (pa_cons (pe_dget hu (pv 0) (pe_str) (fun _ _ => rfl)) pa_nil)) rfl)
      (pss_one (ps_ret (pv 1)))))), ?_⟩
    obtain ⟨mv, wt, e⟩ := M.ob
    refine ⟨_, rfl, a.m, _, rfl, Rd.of e, fun p hp => ?_⟩
    have f1 : Fr [] H (upd H p (.dK (mkvs a s.2 d mv wt c))) := Fr.new hp
    have e1 : (upd H p (.dK (mkvs a s.2 d mv wt c))) p = some (.dK (mkvs a s.2 d mv wt c)) := upd_same
    generalize upd H p (.dK (mkvs a s.2 d mv wt c)) = H1 at f1 e1 ⊢
    have M1 := M.fr0 f1
    refine ⟨_, rfl, a.m, _, rfl, M1.g_rows, a.ra, rfl, ⟨_, SqL.of M1.rows⟩, fun D hD => ?_⟩
    refine lc_list (K := K) (a := a.ra) (xs := a.rs.map V.ref) (NewRows RecV H1 D s.1) (NewRows.start hD) (fun i H' _ ci => SqL.of (ci.old M1.rows)) ?_ ?_
    · intro i x H' hi ci
      have hi' : i < s.1.length := by
        have := (List.getElem?_eq_some_iff.mp hi).1
        rwa [M1.rs_len] at this
      have M' := M1.fr0 ci.fr0
      obtain ⟨x2, xs, e1, e2, hx, hxv⟩ := M'.at_row hi'
      rw [e2] at hi
      have hi2 := Option.some.inj hi
      subst hi2
      refine ⟨rfl, ?_⟩
      refine (show ∃ _, _ from ⟨_, rfl, x2, xs, rfl, .inl (SqL.of hx), fun l hl2 => ci.put steady_rec (by omega) hl2 hxv⟩)
    · intro H2 ci
      rw [M1.rs_len] at ci
      obtain ⟨ys, R2, fy⟩ := ci.done
      have f2 := ci.fr0
      have e2 := ci.old e1
      have hDH : ∀ y ∈ D :: ys, H y = none := fun y hy => f1.free (fy y hy) fun x h => by cases h
      have pD : ∀ y ∈ D :: ys, y ≠ p := fun y hy z => by
        have := fy y hy
        rw [z, e1] at this
        cases this
      have hf2 := (f1.then f2)
      -- rows
      refine ⟨_, rfl, p, _, rfl, DPut.k (k := Sum.inr "rows") e2 (by show 11 < sizeLine; decide), ?_⟩
      rw [mk_put_rows]
      have f3 : Fr [p] H2 (upd H2 p (.dK (mkvs { a with ra := D } s.2 d mv wt c))) := Fr.set (by simp) e2 fun xs z => by cases z
      have e3 : (upd H2 p (.dK (mkvs { a with ra := D } s.2 d mv wt c))) p = some (.dK (mkvs { a with ra := D } s.2 d mv wt c)) := upd_same
      generalize upd H2 p (.dK (mkvs { a with ra := D } s.2 d mv wt c)) = H3 at f3 e3 ⊢
      have hf3 : Fr [] H H3 := ((hf2.in (S := [p])).then f3).outs fun x hx => by rw [show x = p by simpa using hx]; exact hp
      have M3 := M.fr0 hf3
      have R3 := R2.fr steady_rec f3 fun x hx => by simp; exact pD x hx
      obtain ⟨ns, hns, lns⟩ := M3.born
      -- born
      refine ⟨_, rfl, a.m, _, rfl, M3.g_born, a.ba, _, rfl, .inl (SqL.of hns), fun b2 hb2 => ?_⟩
      have f4 : Fr [] H3 (upd H3 b2 (.lst (ns.map V.int))) := Fr.new hb2
      have eb4 : (upd H3 b2 (.lst (ns.map V.int))) b2 = some (.lst (ns.map V.int)) := upd_same
      generalize upd H3 b2 (.lst (ns.map V.int)) = H4 at f4 eb4 ⊢
      have e4 := f4.all _ _ e3 (by simp)
      have hf4 := hf3.then f4
      have bp : b2 ≠ p := fun z => by rw [z, e3] at hb2; cases hb2
      refine ⟨_, rfl, p, _, rfl, DPut.k (k := Sum.inr "born") e4 (by show 11 < sizeLine; decide), ?_⟩
      rw [mk_put_born]
      have f5 : Fr [p] H4 (upd H4 p (.dK (mkvs { a with ra := D, ba := b2 } s.2 d mv wt c))) := Fr.set (by simp) e4 fun xs z => by cases z
      have e5 : (upd H4 p (.dK (mkvs { a with ra := D, ba := b2 } s.2 d mv wt c))) p = some (.dK (mkvs { a with ra := D, ba := b2 } s.2 d mv wt c)) := upd_same
      generalize upd H4 p (.dK (mkvs { a with ra := D, ba := b2 } s.2 d mv wt c)) = H5 at f5 e5 ⊢
      have hf5 : Fr [] H H5 := ((hf4.in (S := [p])).then f5).outs fun x hx => by rw [show x = p by simpa using hx]; exact hp
      have M5 := M.fr0 hf5
      have eb5 := f5.all _ _ eb4 (by simp; exact bp)
      obtain ⟨ms, hms, lms⟩ := M5.frees
      -- frees
      refine ⟨_, rfl, a.m, _, rfl, M5.g_frees, a.fa, _, rfl, .inl (SqL.of hms), fun c2 hc2 => ?_⟩
      have f6 : Fr [] H5 (upd H5 c2 (.lst (ms.map V.int))) := Fr.new hc2
      have ec6 : (upd H5 c2 (.lst (ms.map V.int))) c2 = some (.lst (ms.map V.int)) := upd_same
      generalize upd H5 c2 (.lst (ms.map V.int)) = H6 at f6 ec6 ⊢
      have e6 := f6.all _ _ e5 (by simp)
      have hf6 := hf5.then f6
      have cp : c2 ≠ p := fun z => by rw [z, e5] at hc2; cases hc2
      refine ⟨_, rfl, p, _, rfl, DPut.k (k := Sum.inr "frees") e6 (by show 11 < sizeLine; decide), ?_⟩
      rw [mk_put_frees]
      have f7 : Fr [p] H6 (upd H6 p (.dK (mkvs { a with ra := D, ba := b2, fa := c2 } s.2 d mv wt c))) := Fr.set (by simp) e6 fun xs z => by cases z
      have e7 : (upd H6 p (.dK (mkvs { a with ra := D, ba := b2, fa := c2 } s.2 d mv wt c))) p = some (.dK (mkvs { a with ra := D, ba := b2, fa := c2 } s.2 d mv wt c)) := upd_same
      generalize upd H6 p (.dK (mkvs { a with ra := D, ba := b2, fa := c2 } s.2 d mv wt c)) = H7 at f7 e7 ⊢
      have hf7 : Fr [] H H7 := ((hf6.in (S := [p])).then f7).outs fun x hx => by rw [show x = p by simpa using hx]; exact hp
      have R5 := (R3.fr steady_rec f4 fun x hx z => by cases z).fr steady_rec f5 fun x hx => by simp; exact pD x hx
      have R7 := (R5.fr steady_rec f6 fun x hx z => by cases z).fr steady_rec f7 fun x hx => by simp; exact pD x hx
      have there3 : ∀ y ∈ D :: ys, (H3 y).isSome = true := fun y hy => by
        rcases List.mem_cons.mp hy with h | h
        · rw [h, R3.rows]; rfl
        · obtain ⟨i, hi⟩ := List.mem_iff_getElem?.mp h
          obtain ⟨vs, e4, _⟩ := R3.row i y hi
          rw [e4]
          rfl
      have there5 : ∀ y ∈ D :: ys, (H5 y).isSome = true := fun y hy => by
        rcases List.mem_cons.mp hy with h | h
        · rw [h, R5.rows]; rfl
        · obtain ⟨i, hi⟩ := List.mem_iff_getElem?.mp h
          obtain ⟨vs, e4, _⟩ := R5.row i y hi
          rw [e4]
          rfl
      have nb := not_mem_free hb2 there3
      have nc := not_mem_free hc2 there5
      have bc : b2 ≠ c2 := fun z => by rw [← z, eb5] at hc2; cases hc2
      have eb7 := f7.all _ _ (f6.all _ _ eb5 (by simp)) (by simp; exact bp)
      have ec7 := f7.all _ _ ec6 (by simp; exact cp)
      refine ⟨_, rfl, ?_⟩
      refine q H7 ⟨p, D, b2, c2, ys⟩ hf7 (fun x hx => ?_) ⟨?_, ⟨mv, wt, e7⟩, R7, ⟨ns, eb7, lns⟩, ⟨ms, ec7, lms⟩⟩
      · rcases List.mem_cons.mp hx with h | hx
        · rw [h]; exact hp
        rcases List.mem_cons.mp hx with h | hx
        · rw [h]; exact hDH _ List.mem_cons_self
        rcases List.mem_cons.mp hx with h | hx
        · rw [h]; exact hf3.free hb2 fun x h => by cases h
        rcases List.mem_cons.mp hx with h | hx
        · rw [h]; exact hf5.free hc2 fun x h => by cases h
        · exact hDH x (List.mem_cons_of_mem _ hx)
      · have nd := R7.nd
        exact MAd.of_apart ⟨fun z => pD D List.mem_cons_self z.symm, fun z => bp z.symm, fun z => cp z.symm, fun z => pD p (List.mem_cons_of_mem _ z) rfl, fun z => nb (by rw [show b2 = D from z.symm]; exact List.mem_cons_self), fun z => nc (by rw [show c2 = D from z.symm]; exact List.mem_cons_self),
          (List.nodup_cons.mp nd).1, bc, fun z => nb (List.mem_cons_of_mem _ z), fun z => nc (List.mem_cons_of_mem _ z), (List.nodup_cons.mp nd).2⟩
end
end Cg

set_option Elab.async false
set_option linter.all false
set_option maxRecDepth 100000
set_option maxHeartbeats 400000
namespace Cg
open PySem PySem.Spec PyProof.Rows L2
section
variable {P : Program} {w : World} {K : PySem.W.Frag} {mg : Str → Option Value} {base : Heap} {f : Addr} {fd : FuncData}
theorem pairs_k {k : V} {tv : TE} {r : List (TE × TE)} {σ : L2.St} {H : Hp} {Q : List (V × V) → Hp → Prop} (h : tv σ H fun y H2 => tPairs r σ H2 fun ps H3 => Q ((k, y) :: ps) H3) : tPairs ((tC k, tv) :: r) σ H Q := h
theorem pairs_c {k v : V} {r : List (TE × TE)} {σ : L2.St} {H : Hp} {Q : List (V × V) → Hp → Prop} (h : tPairs r σ H fun ps H3 => Q ((k, v) :: ps) H3) : tPairs ((tC k, tC v) :: r) σ H Q := h
theorem pairs_nil {σ : L2.St} {H : Hp} {Q : List (V × V) → Hp → Prop} (h : Q [] H) : tPairs [] σ H Q := h
/-! ### _law_model -/
def sp_model : Sp := fun vs H Q _ => ∃ (t : Addr) (parts : Nat) (c : Cfg), vs = [.ref t, .bl c.late] ∧ H t = some (.tup [.int parts, .int c.w, .int c.bound, .int c.load]) ∧ 0 < parts ∧ parts ≤ 100 ∧
  ∀ (H' : Hp) (a' : MAd), Fr [] H H' → (∀ x ∈ a'.fp, H x = none) → ModAt H' a' c (List.replicate parts [], 0) 0 → Q (.ref a'.m) H'
abbrev s_model : Stmt := topS 26
theorem sc_model : FnScope ["_law_terms_here", "_law_first", "_law_rows", "_law_k", "_law_zeros"] ["_law_terms_here", "_law_first"] (C8.fnScope s_model) := C8.fnScope_by (by decide +kernel)
theorem k_model (T : Bi mg) (F : C8.Def K mg "_law_model" s_model f fd) (b : Binds K fd ["_law_terms_here", "_law_first"] []) : C8.Cal P w K mg base 1 "_law_model" sp_model [] := by
  refine C8.cal0 F b .nil sc_model (fun vs H Q E h => ?_) (fun cdv A outer s0 H vs Q E hr h => ?_)
  · obtain ⟨t, parts, c, rfl, _⟩ := h
    rfl
  · obtain ⟨t, parts, c, rfl, ht, hp0, hp1, q⟩ := h
    have hu := hu_of hr
    refine ⟨_, pss_cons (ps_setLc (i := 2) (own := [("_law_k", 3)]) (g := gName 3) (tt := tYes) rfl sc_model.nd rfl rfl (sw_true rfl rfl rfl (by decide +kernel)) (pi_range1 rfl T.range (pa_cons (pe_ix ix_tup (pv 0) (pe_int) (fun _ _ => rfl)) pa_nil)) (blkOk_by (own := [("_law_k", 3)]) (N := ["_law_terms_here", "_law_first", "_law_rows", "_law_k", "_law_zeros"]) (sc := C8.fnScope s_model) (by decide +kernel)) (fun _ _ _ _ _ => pg_name (i := 3) sc_model.nd rfl (by first | exact Or.inl rfl | exact Or.inr rfl)) (fun _ _ _ _ _ => pts_nil) (fun _ _ _ _ _ => pe_lst pa_nil))
      (pss_cons (ps_setLc (i := 4) (own := [("_law_k", 3)]) (g := gName 3) (tt := tYes) rfl sc_model.nd rfl rfl (sw_true rfl rfl rfl (by decide +kernel)) (pi_range1 rfl T.range (pa_cons (pe_ix ix_tup (pv 0) (pe_int) (fun _ _ => rfl)) pa_nil)) (blkOk_by (own := [("_law_k", 3)]) (N := ["_law_terms_here", "_law_first", "_law_rows", "_law_k", "_law_zeros"]) (sc := C8.fnScope s_model) (by decide +kernel)) (fun _ _ _ _ _ => pg_name (i := 3) sc_model.nd rfl (by first | exact Or.inl rfl | exact Or.inr rfl)) (fun _ _ _ _ _ => pts_nil) (fun _ _ _ _ _ => pe_int))
      (pss_one (ps_ret (pe_disp (pps_cons (pe_str) (pv 2) (pps_cons (pe_str) (pe_int) (pps_cons (pe_str) (pe_callTy call_list_of (by rfl) T.list (by decide +kernel) (pa_cons (pv 4) pa_nil)) (pps_cons (pe_str) (pv 4) (pps_cons (pe_str) (pe_int) (pps_cons (pe_str) (pe_int) (pps_cons (pe_str) (pe_int) (pps_cons (pe_str) (pe_ix ix_tup (pv 0) (pe_int) (fun _ _ => rfl)) (pps_cons (pe_str) (pe_ix ix_tup (pv 0) (pe_int) (fun _ _ => rfl)) (pps_cons (pe_str) (pe_ix ix_tup (pv 0) (pe_int) (fun _ _ => rfl)) (pps_cons (pe_str) (pv 1) (pps_nil)))))))))))) (by rfl) (by rfl) (fun z => by cases z) (by decide))))), ?_⟩
    refine ⟨_, rfl, t, _, 0, _, rfl, rfl, SqT.of ht, atI_nat (j := 0) rfl, _, rfl, by omega, by omega, fun D hD => ?_⟩
    have eT : ((parts : Nat) : Int).toNat = parts := Int.toNat_natCast _
    refine lc_range (NewRows RecV H D (List.replicate parts [])) (NewRows.start hD) ?_ ?_
    · intro i H' hi ci
      refine ⟨rfl, ?_⟩
      exact (show (_ ≤ sizeLine) ∧ _ from ⟨(by show 0 ≤ sizeLine; decide), fun l hl2 => ci.put steady_rec (by omega) hl2 (by rw [rowAt_replicate]; exact .nil)⟩)
    · intro H1 ci
      rw [eT] at ci
      have ci : NewRows RecV H D (List.replicate parts []) (List.replicate parts ([] : Row Str)).length H1 := by rw [List.length_replicate]; exact ci
      obtain ⟨ys, R1, fy⟩ := ci.done
      have f1 := ci.fr0
      have ht1 := f1.tup _ _ ht
      refine ⟨_, rfl, t, _, 0, _, rfl, rfl, SqT.of ht1, atI_nat (j := 0) rfl, _, rfl, by omega, by omega, fun D2 hD2 => ?_⟩
      refine lc_range (CompI H1 D2 fun i => (List.replicate i (0 : Int)).map V.int) (CompI.start hD2 rfl) ?_ ?_
      · intro i H' hi ci2
        refine ⟨rfl, ?_⟩
        refine (show ∃ _, _ from ci2.put (by rw [List.length_map, List.length_replicate]; omega) ?_)
        show (List.replicate (i + 1) (0 : Int)).map V.int = _
        rw [List.replicate_succ', List.map_append]
        rfl
      · intro H2 ci2
        rw [eT] at ci2
        have f2 := ci2.fr0
        have hz := ci2.at_
        intro p hp
        have f3 : Fr [] H2 (upd H2 p (.dK [])) := Fr.new hp
        have e3 : (upd H2 p (.dK [])) p = some (.dK []) := upd_same
        generalize upd H2 p (.dK []) = H3 at f3 e3 ⊢
        have hz3 := f3.all _ _ hz (by simp)
        refine pairs_k ?_
        refine ⟨_, rfl, ?_⟩
        refine pairs_c ?_
        refine pairs_k ?_
        refine ⟨_, rfl, D2, _, rfl, .inl (SqL.of hz3), fun b2 hb2 => ?_⟩
        have f4 : Fr [] H3 (upd H3 b2 (.lst ((List.replicate parts (0 : Int)).map V.int))) := Fr.new hb2
        have eb : (upd H3 b2 (.lst ((List.replicate parts (0 : Int)).map V.int))) b2 = some (.lst ((List.replicate parts (0 : Int)).map V.int)) := upd_same
        generalize upd H3 b2 (.lst ((List.replicate parts (0 : Int)).map V.int)) = H4 at f4 eb ⊢
        have ht4 := ((f1.then f2).then (f3.then f4)).tup _ _ ht
        have e4 := f4.all _ _ e3 (by simp)
        refine pairs_k ?_
        refine ⟨_, rfl, ?_⟩
        refine pairs_c ?_
        refine pairs_c ?_
        refine pairs_c ?_
        refine pairs_k ?_
        refine ⟨_, rfl, t, _, 1, _, rfl, rfl, SqT.of ht4, atI_nat (j := 1) rfl, ?_⟩
        refine pairs_k ?_
        refine ⟨_, rfl, t, _, 2, _, rfl, rfl, SqT.of ht4, atI_nat (j := 2) rfl, ?_⟩
        refine pairs_k ?_
        refine ⟨_, rfl, t, _, 3, _, rfl, rfl, SqT.of ht4, atI_nat (j := 3) rfl, ?_⟩
        refine pairs_k ?_
        refine ⟨_, rfl, ?_⟩
        refine pairs_nil ?_
        refine ⟨e4, mkvs ⟨p, D, b2, D2, ys⟩ 0 0 0 0 c, rfl, (by show 11 ≤ 15; decide), ?_⟩
        have em : mergeK [] (mkvs ⟨p, D, b2, D2, ys⟩ 0 0 0 0 c) = mkvs ⟨p, D, b2, D2, ys⟩ 0 0 0 0 c := mergeK_new (kvs := []) mk_keys
        rw [em]
        have f5 : Fr [p] H4 (upd H4 p (.dK (mkvs ⟨p, D, b2, D2, ys⟩ 0 0 0 0 c))) := Fr.set (by simp) e4 fun xs z => by cases z
        have e5 : (upd H4 p (.dK (mkvs ⟨p, D, b2, D2, ys⟩ 0 0 0 0 c))) p = some (.dK (mkvs ⟨p, D, b2, D2, ys⟩ 0 0 0 0 c)) := upd_same
        generalize upd H4 p (.dK (mkvs ⟨p, D, b2, D2, ys⟩ 0 0 0 0 c)) = H5 at f5 e5 ⊢
        have hp1 : H1 p = none := f2.free hp fun x h => by cases h
        have hp0' : H p = none := f1.free hp1 fun x h => by cases h
        have hb3 : H2 b2 = none := f3.free hb2 fun x h => by cases h
        have hD2' : H D2 = none := f1.free hD2 fun x h => by cases h
        have hb1 : H1 b2 = none := f2.free hb3 fun x h => by cases h
        have hb0 : H b2 = none := f1.free hb1 fun x h => by cases h
        have there1 : ∀ y ∈ D :: ys, (H1 y).isSome = true := fun y hy => by
          rcases List.mem_cons.mp hy with h | h
          · rw [h, R1.rows]; rfl
          · obtain ⟨i, hi⟩ := List.mem_iff_getElem?.mp h
            obtain ⟨vs, e4, _⟩ := R1.row i y hi
            rw [e4]
            rfl
        have nb := not_mem_free hb1 there1
        have nd2 := not_mem_free hD2 there1
        have np := not_mem_free hp1 there1
        have pb : p ≠ b2 := fun z => by rw [← z, e3] at hb2; cases hb2
        have pd : p ≠ D2 := fun z => by rw [z, hz] at hp; cases hp
        have bd : b2 ≠ D2 := fun z => by rw [z, hz3] at hb2; cases hb2
        have nP : ∀ x ∈ D :: ys, x ∉ [p] := fun x hx z => np (by rw [← List.mem_singleton.mp z]; exact hx)
        have f14 := (f2.then f3).then f4
        have R5 := (R1.fr steady_rec f14 fun x hx z => by cases z).fr steady_rec f5 nP
        have hf : Fr [] H H5 := ((((f1.then f14).in (S := [p]))).then f5).outs fun x hx => by rw [List.mem_singleton.mp hx]; exact hp0'
        have nd := R5.nd
        refine q H5 ⟨p, D, b2, D2, ys⟩ hf (fun x hx => ?_) ⟨?_, ⟨0, 0, e5⟩, R5, ⟨List.replicate parts 0, f5.all _ _ eb (fun z => pb (List.mem_singleton.mp z).symm), ?_⟩, ⟨List.replicate parts 0, f5.all _ _ (f4.all _ _ hz3 (by simp)) (fun z => pd (List.mem_singleton.mp z).symm), ?_⟩⟩
        · rcases List.mem_cons.mp hx with h | hx
          · rw [h]; exact hp0'
          rcases List.mem_cons.mp hx with h | hx
          · rw [h]; exact fy _ List.mem_cons_self
          rcases List.mem_cons.mp hx with h | hx
          · rw [h]; exact hb0
          rcases List.mem_cons.mp hx with h | hx
          · rw [h]; exact hD2'
          · exact fy x (List.mem_cons_of_mem _ hx)
        · exact MAd.of_apart ⟨fun z => np (by rw [show p = D from z]; exact List.mem_cons_self), pb, pd, fun z => np (List.mem_cons_of_mem _ z), fun z => nb (by rw [show b2 = D from z.symm]; exact List.mem_cons_self),
            fun z => nd2 (by rw [show D2 = D from z.symm]; exact List.mem_cons_self), (List.nodup_cons.mp nd).1, bd, fun z => nb (List.mem_cons_of_mem _ z), fun z => nd2 (List.mem_cons_of_mem _ z), (List.nodup_cons.mp nd).2⟩
        · rw [List.length_replicate, List.length_replicate]
        · rw [List.length_replicate, List.length_replicate]
end
end Cg

set_option Elab.async false
set_option linter.all false
set_option maxRecDepth 100000
set_option maxHeartbeats 400000
namespace Cg
open PySem PySem.Spec PyProof.Rows L2
def bkvs (ca : Addr) (r sd t : Int) : List (Key × V) := [(.inr "cells", .ref ca), (.inr "rest", .int r), (.inr "seed", .int sd), (.inr "turn", .int t)]
theorem bk_keys {ca : Addr} {r sd t : Int} : ((bkvs ca r sd t).map (·.1)).Nodup := by
  show ([.inr "cells", .inr "rest", .inr "seed", .inr "turn"] : List Key).Nodup
  decide +kernel
/-- the box of draws; at most n turns so far -/
structure BoxAt (H : Hp) (b ca : Addr) (n : Nat) : Prop where
  ne : b ≠ ca
  cells : ∃ xs : List Int, H ca = some (.lst (xs.map V.int)) ∧ xs.length ≤ 1000
  ob : ∃ r sd t : Int, H b = some (.dK (bkvs ca r sd t)) ∧ 0 ≤ r ∧ 0 ≤ sd ∧ sd < 2305843009213693951 ∧ 0 ≤ t ∧ t ≤ n
theorem BoxAt.fr {S : List Addr} {H H' : Hp} {b ca : Addr} {n : Nat} (B : BoxAt H b ca n) (f : Fr S H H') (h1 : b ∉ S) (h2 : ca ∉ S) : BoxAt H' b ca n := by
  obtain ⟨xs, e, l⟩ := B.cells
  obtain ⟨r, sd, t, e2, q⟩ := B.ob
  exact ⟨B.ne, ⟨xs, f.all _ _ e h2, l⟩, r, sd, t, f.all _ _ e2 h1, q⟩
theorem BoxAt.le {H : Hp} {b ca : Addr} {n m : Nat} (B : BoxAt H b ca n) (h : n ≤ m) : BoxAt H b ca m := by
  obtain ⟨r, sd, t, e2, q1, q2, q3, q4, q5⟩ := B.ob
  exact ⟨B.ne, B.cells, r, sd, t, e2, q1, q2, q3, q4, by omega⟩
theorem seq_idx0 {n : Nat} (h : 0 < n) : seqIndex? 0 n = some 0 := by
  rw [seqIndex_of (by omega) (by omega)]
  rfl
section
variable {P : Program} {w : World} {K : PySem.W.Frag} {mg : Str → Option Value} {base : Heap} {f : Addr} {fd : FuncData}
/-! ### _law_draw -/
def sp_draw : Sp := fun vs H Q _ => ∃ (b ca : Addr) (m : Int) (n : Nat), vs = [.ref b, .int m] ∧ BoxAt H b ca n ∧ n ≤ 900000 ∧ 0 < m ∧ m < 2 ^ 100 ∧ ∀ (H' : Hp) (x : Int), Fr [b, ca] H H' → BoxAt H' b ca (n + 1) → 0 ≤ x → x < m → Q (.int x) H'
abbrev s_draw : Stmt := topS 21
theorem sc_draw : FnScope ["_law_box_here", "_law_many", "_law_cells", "_law_cell", "_law_digit", "_law_base", "_law_once", "_law_twice"] ["_law_box_here", "_law_many"] (C8.fnScope s_draw) := C8.fnScope_by (by decide +kernel)
theorem k_draw (T : Bi mg) (F : C8.Def K mg "_law_draw" s_draw f fd) (b : Binds K fd ["_law_box_here", "_law_many"] []) : C8.Cal P w K mg base 1 "_law_draw" sp_draw [] := by
  refine C8.cal0 F b .nil sc_draw (fun vs H Q E h => ?_) (fun cdv A outer s0 H vs Q E hr h => ?_)
  · obtain ⟨a, ca, m, n, rfl, _⟩ := h
    rfl
  · obtain ⟨a, ca, m, n, rfl, B, hn, hm, hm2, q⟩ := h
    have hu := hu_of hr
    refine ⟨_, pss_cons (ps_set (i := 2) sc_draw.nd rfl (by first | exact Or.inl rfl | exact Or.inr rfl) (pe_dget hu (pv 0) (pe_str) (fun _ _ => rfl)))
      (C8.pss_cut (ps_if (PW.pt (pw_and (pt_cmpR op_eq (pe_dget hu (pv 0) (pe_str) (fun _ _ => rfl)) (pe_int) (nomark _)) (pw_and1 (pt_cmpR op_gt (pe_callB call_len_seq (by rfl) T.len PySem.boot_len (pa_cons (pv 2) pa_nil)) (pe_int) (nomark _))))) (pss_cons (ps_set (i := 3) sc_draw.nd rfl (by first | exact Or.inl rfl | exact Or.inr rfl) (pe_bm PySem.F.plainAttrs_list PySem.F.slot_list_pop PySem.F.type_list_pop mt_popAt (pv 2) (pa_cons (pe_int) pa_nil)))
      (pss_one (ps_if (pt_cmpR op_ge (pv 3) (pe_op op_pow (pe_int) (pe_int)) (nomark _)) (pss_one (ps_dput hu (pv 0) (pe_str) (pv 3) rfl)) (pss_one (ps_dput hu (pv 0) (pe_str) (pe_op op_mod (pe_callTy call_int1 (by rfl) T.int PyProof.Rows.boot_int (pa_cons (pe_op op_add (pe_op op_add (pe_op op_mul (pe_dget hu (pv 0) (pe_str) (fun _ _ => rfl)) (pe_int)) (pv 3)) (pe_int)) pa_nil)) (pe_int)) rfl))))) (pss_nil))
      (pss_cons (ps_if (pt_cmpR op_gt (pe_dget hu (pv 0) (pe_str) (fun _ _ => rfl)) (pe_int) (nomark _)) (pss_cons (ps_set (i := 4) sc_draw.nd rfl (by first | exact Or.inl rfl | exact Or.inr rfl) (pe_op op_mod (pe_callTy call_int1 (by rfl) T.int PyProof.Rows.boot_int (pa_cons (pe_dget hu (pv 0) (pe_str) (fun _ _ => rfl)) pa_nil)) (pv 1)))
      (pss_cons (ps_dput hu (pv 0) (pe_str) (pe_op op_fdivW (pe_callTy call_int1 (by rfl) T.int PyProof.Rows.boot_int (pa_cons (pe_dget hu (pv 0) (pe_str) (fun _ _ => rfl)) pa_nil)) (pv 1)) rfl)
      (pss_one (ps_ret (pv 4))))) (pss_nil))
      (pss_cons (ps_dput hu (pv 0) (pe_str) (pe_op op_add (pe_dget hu (pv 0) (pe_str) (fun _ _ => rfl)) (pe_int)) rfl)
      (pss_cons (ps_set (i := 5) sc_draw.nd rfl (by first | exact Or.inl rfl | exact Or.inr rfl) (pe_op op_add (pe_op op_add (pe_op op_mul (pe_dget hu (pv 0) (pe_str) (fun _ _ => rfl)) (pe_int)) (pe_op op_mul (pe_dget hu (pv 0) (pe_str) (fun _ _ => rfl)) (pe_int))) (pe_int)))
      (pss_cons (ps_set (i := 6) sc_draw.nd rfl (by first | exact Or.inl rfl | exact Or.inr rfl) (pe_op op_mod (pe_callTy call_int1 (by rfl) T.int PyProof.Rows.boot_int (pa_cons (pe_op op_add (pe_op op_mulW (pv 5) (pv 5)) (pe_dget hu (pv 0) (pe_str) (fun _ _ => rfl))) pa_nil)) (pe_int)))
      (pss_cons (ps_set (i := 7) sc_draw.nd rfl (by first | exact Or.inl rfl | exact Or.inr rfl) (pe_op op_mod (pe_callTy call_int1 (by rfl) T.int PyProof.Rows.boot_int (pa_cons (pe_op op_add (pe_op op_mulW (pv 6) (pv 6)) (pv 5)) pa_nil)) (pe_int)))
      (pss_one (ps_ret (pe_op op_mod (pe_callTy call_int1 (by rfl) T.int PyProof.Rows.boot_int (pa_cons (pe_op op_fdivW (pv 7) (pe_int)) pa_nil)) (pv 1)))))))))), ?_⟩
    obtain ⟨xs, hc, lx⟩ := B.cells
    obtain ⟨r, sd, t, hb, r0, sd0, sd1, t0, t1⟩ := B.ob
    have hne := B.ne
    refine ⟨_, rfl, a, _, rfl, DGet.k (k := Sum.inr "cells") hb, ?_⟩
    refine ⟨fun σ H' => Fr [a, ca] H H' ∧ BoxAt H' a ca n ∧ ∃ v3 v4 v5 v6 v7, σ = [some (.ref a), some (.int m), some (.ref ca), v3, v4, v5, v6, v7], ?_, ?_⟩
    · refine ⟨_, rfl, a, _, rfl, DGet.k (k := Sum.inr "rest") hb, rfl, _, rfl, ite2 (fun hb1 => ?_) (fun hb1 => ?_)⟩
      · refine ⟨_, rfl, ca, _, rfl, .inl (SqL.of hc), _, _, rfl, rfl, _, rfl, ite2 (fun hb2 => ?_) (fun hb2 => ?_)⟩
        · have hlen : 0 < (xs.map V.int).length := by
            have := of_decide_eq_true hb2
            omega
          cases xs with
          | nil => exact absurd hlen (Nat.lt_irrefl 0)
          | cons x xs =>
            refine ⟨_, rfl, .inl ⟨rfl, _, SqL.of hc⟩, ca, _, 0, 0, .int x, rfl, rfl, hc, by decide, by decide, seq_idx0 hlen, rfl, ?_⟩
            have f1 : Fr [a, ca] H (upd H ca (.lst (xs.map V.int))) := Fr.set (by simp) hc fun ys z => by cases z
            have hc1 : (upd H ca (.lst (xs.map V.int))) ca = some (.lst (xs.map V.int)) := upd_same
            have hb1' : (upd H ca (.lst (xs.map V.int))) a = some (.dK (bkvs ca r sd t)) := (upd_ne hne).trans hb
            rw [show ((x :: xs).map V.int).eraseIdx 0 = xs.map V.int from rfl]
            generalize upd H ca (.lst (xs.map V.int)) = H1 at f1 hc1 hb1' ⊢
            refine ⟨_, rfl, _, _, rfl, rfl, ⟨by decide, by decide, by decide⟩, _, _, rfl, rfl, _, rfl, ite2 (fun hb3 => ?_) (fun hb3 => ?_)⟩
            · have h18 : (0 : Int) ≤ x := by
                have := of_decide_eq_true hb3
                have e : (0 : Int) ≤ (10 : Int) ^ (18 : Int).toNat := by decide
                omega
              refine ⟨_, rfl, _, rfl, a, _, rfl, DPut.k (k := Sum.inr "rest") hb1' (by show 4 < sizeLine; decide), ?_⟩
              have f2 : Fr [a, ca] H1 (upd H1 a (.dK (putK (bkvs ca r sd t) (Sum.inr "rest") (.int x)))) := Fr.set (by simp) hb1' fun ys z => by cases z
              exact ⟨f1.then f2, ⟨hne, ⟨xs, (upd_ne hne.symm).trans hc1, by simp at lx; omega⟩, x, sd, t, upd_same, h18, sd0, sd1, t0, t1⟩, _, _, _, _, _, rfl⟩
            · refine ⟨_, rfl, a, _, rfl, DGet.k (k := Sum.inr "seed") hb1', _, _, rfl, rfl, .inr ⟨by decide, by decide⟩, _, rfl, _, _, rfl, rfl, _, _, rfl, rfl, .inl ⟨_, rfl, _, _, rfl, rfl, (show (0 : Int) < 2305843009213693951 by decide), _, rfl, a, _, rfl, DPut.k (k := Sum.inr "seed") hb1' (by show 4 < sizeLine; decide), ?_⟩⟩
              dsimp only
              generalize hy : (sd * 48271 + x + 1) % 2305843009213693951 = y
              have y0 : 0 ≤ y := by omega
              have y1 : y < 2305843009213693951 := by omega
              have f2 : Fr [a, ca] H1 (upd H1 a (.dK (putK (bkvs ca r sd t) (Sum.inr "seed") (.int y)))) := Fr.set (by simp) hb1' fun ys z => by cases z
              exact ⟨f1.then f2, ⟨hne, ⟨xs, (upd_ne hne.symm).trans hc1, by simp at lx; omega⟩, r, y, t, upd_same, r0, y0, y1, t0, t1⟩, _, _, _, _, _, rfl⟩
        · exact ⟨Fr.refl _ _, B, _, _, _, _, _, rfl⟩
      · exact iteF ⟨Fr.refl _ _, B, _, _, _, _, _, rfl⟩
    clear hc lx hb r0 sd0 sd1 t0 t1 xs r sd t
    rintro σ H1 ⟨f1, B1, v3, v4, v5, v6, v7, rfl⟩
    obtain ⟨xs, hc, lx⟩ := B1.cells
    obtain ⟨r, sd, t, hb, r0, sd0, sd1, t0, t1⟩ := B1.ob
    refine ⟨_, rfl, a, _, rfl, DGet.k (k := Sum.inr "rest") hb, _, _, rfl, rfl, _, rfl, ite2 (fun hb1 => ?_) (fun hb1 => ?_)⟩
    · have hmw : CDivW r m := wide_div hm (b := 100) (by omega) (by decide) (by decide)
      refine ⟨_, rfl, a, _, rfl, DGet.k (k := Sum.inr "rest") hb, .inl ⟨_, rfl, _, rfl, _, _, rfl, rfl, hm, ?_⟩⟩
      refine ⟨_, rfl, a, _, rfl, DGet.k (k := Sum.inr "rest") hb, .inl ⟨_, rfl, _, rfl, _, _, rfl, rfl, hmw, _, rfl, a, _, rfl, DPut.k (k := Sum.inr "rest") hb (by show 4 < sizeLine; decide), ?_⟩⟩
      have f2 : Fr [a, ca] H1 (upd H1 a (.dK (putK (bkvs ca r sd t) (Sum.inr "rest") (.int (r / m))))) := Fr.set (by simp) hb fun ys z => by cases z
      refine ⟨_, rfl, q _ (r % m) (f1.then f2) ?_ (Int.emod_nonneg _ (by omega)) (Int.emod_lt_of_pos _ hm)⟩
      exact (⟨hne, ⟨xs, (upd_ne hne.symm).trans hc, lx⟩, r / m, sd, t, upd_same, Int.ediv_nonneg r0 (by omega), sd0, sd1, t0, t1⟩ : BoxAt _ a ca n).le (Nat.le_succ n)
    · refine ⟨_, rfl, a, _, rfl, DGet.k (k := Sum.inr "turn") hb, _, _, rfl, rfl, _, rfl, a, _, rfl, DPut.k (k := Sum.inr "turn") hb (by show 4 < sizeLine; decide), ?_⟩
      have f2 : Fr [a, ca] H1 (upd H1 a (.dK (bkvs ca r sd (t + 1)))) := Fr.set (by simp) hb fun ys z => by cases z
      have hb2 : (upd H1 a (.dK (bkvs ca r sd (t + 1)))) a = some (.dK (bkvs ca r sd (t + 1))) := upd_same
      have hc2 : (upd H1 a (.dK (bkvs ca r sd (t + 1)))) ca = some (.lst (xs.map V.int)) := (upd_ne hne.symm).trans hc
      rw [show upd H1 a (.dK (putK (bkvs ca r sd t) (Sum.inr "turn") ((fun i j => V.int (i + j)) t 1))) = upd H1 a (.dK (bkvs ca r sd (t + 1))) from rfl]
      generalize upd H1 a (.dK (bkvs ca r sd (t + 1))) = H2 at f2 hb2 hc2 ⊢
      refine ⟨_, rfl, a, _, rfl, DGet.k (k := Sum.inr "seed") hb2, _, _, rfl, rfl, .inr ⟨by decide, by decide⟩, _, rfl, a, _, rfl, DGet.k (k := Sum.inr "turn") hb2, _, _, rfl, rfl, .inr ⟨by decide, by decide⟩, _, _, rfl, rfl, _, _, rfl, rfl, ?_⟩
      rw [show ((fun i j => V.int (i + j)) (sd * 69621 + (t + 1) * 1442695040888963407) 31435) = V.int (sd * 69621 + (t + 1) * 1442695040888963407 + 31435) from rfl]
      have tb : t + 1 ≤ 900001 := by omega
      have hB : (sd * 69621 + (t + 1) * 1442695040888963407 + 31435).natAbs < 2 ^ 90 := wide_le (j := 2305843009213693951 * 69621 + 900001 * 1442695040888963407 + 31435) (by omega) (by omega) (by decide)
      generalize sd * 69621 + (t + 1) * 1442695040888963407 + 31435 = x at hB
      refine ⟨_, rfl, _, rfl, _, _, rfl, rfl, wide_mul hB hB (by decide) (by decide) (by decide), _, rfl, a, _, rfl, DGet.k (k := Sum.inr "turn") hb2, _, _, rfl, rfl, .inl ⟨_, rfl, _, _, rfl, rfl, (show (0 : Int) < 2305843009213693951 by decide), ?_⟩⟩
      rw [show ((fun i j => V.int (i % j)) (x * x + (t + 1)) 2305843009213693951) = V.int ((x * x + (t + 1)) % 2305843009213693951) from rfl]
      have ho : ((x * x + (t + 1)) % 2305843009213693951).natAbs < 2 ^ 61 := wide_le (j := 2305843009213693951) (Int.emod_nonneg _ (by decide)) (Int.le_of_lt (Int.emod_lt_of_pos _ (by decide))) (by decide)
      generalize (x * x + (t + 1)) % 2305843009213693951 = y at ho
      refine ⟨_, rfl, _, rfl, _, _, rfl, rfl, wide_mul ho ho (by decide) (by decide) (by decide), _, rfl, _, _, rfl, rfl, .inl ⟨_, rfl, _, _, rfl, rfl, (show (0 : Int) < 618970019642690137449562111 by decide), ?_⟩⟩
      rw [show ((fun i j => V.int (i % j)) (y * y + x) 618970019642690137449562111) = V.int ((y * y + x) % 618970019642690137449562111) from rfl]
      generalize (y * y + x) % 618970019642690137449562111 = z
      refine ⟨_, rfl, _, _, rfl, rfl, wide_div (b := 30) (by decide) (by decide) (by decide) (by decide), .inl ⟨_, rfl, _, rfl, _, _, rfl, rfl, hm, ?_⟩⟩
      refine q _ (z / 1048576 % m) (f1.then f2) ?_ (Int.emod_nonneg _ (by omega)) (Int.emod_lt_of_pos _ hm)
      exact ⟨hne, ⟨xs, hc2, lx⟩, r, sd, t + 1, hb2, r0, sd0, sd1, by omega, by omega⟩
end
end Cg

set_option Elab.async false
set_option linter.all false
set_option maxRecDepth 100000
set_option maxHeartbeats 400000
namespace Cg
open PySem PySem.Spec PyProof.Rows L2
/-! ### names -/
abbrev SG : Str := Str.ofString "abcdefghijklmnopqrstuvwxyz0123456789"
def AllS (z : Str) : Prop := ∀ x ∈ z.cps.toList, x ∈ SG.cps.toList
structure Good (z : Str) : Prop where
  lo : 1 ≤ z.length
  hi : z.length ≤ 12
  all : AllS z
theorem SG_len : SG.length = 36 := by decide +kernel
theorem SG_get {i : Int} (h0 : 0 ≤ i) (h : i < 36) : ∃ c, SG.cps[i.toNat]? = some c ∧ c ∈ SG.cps.toList := by
  have hl : i.toNat < SG.cps.size := by
    have : SG.cps.size = 36 := SG_len
    omega
  exact ⟨SG.cps[i.toNat], Array.getElem?_eq_getElem hl, Array.getElem_mem_toList hl⟩
theorem str_app (a b : Str) : (a ++ b).cps.toList = a.cps.toList ++ b.cps.toList := Array.toList_append
theorem str_len (a : Str) : a.length = a.cps.toList.length := Array.length_toList.symm
theorem str_app_len (a b : Str) : (a ++ b).length = a.length + b.length := by rw [str_len, str_app, List.length_append, ← str_len, ← str_len]
theorem AllS.app {a b : Str} (ha : AllS a) (hb : AllS b) : AllS (a ++ b) := fun x hx => by
  rw [str_app] at hx
  rcases List.mem_append.mp hx with h | h
  · exact ha x h
  · exact hb x h
theorem AllS.cut {a : Str} (ha : AllS a) (lo hi : Option Int) : AllS (cutS a lo hi) := fun x hx => ha x (List.mem_of_mem_drop (List.mem_of_mem_take (by
  have e : (cutS a lo hi).cps.toList = (a.cps.toList.drop (HT.sIx a.length 0 lo)).take (HT.sIx a.length a.length hi - HT.sIx a.length 0 lo) := rfl
  rw [e] at hx
  exact hx)))
theorem cut_lo {a : Str} {i : Nat} (h : i ≤ a.length) : (cutS a none (some (i : Int))).length = i := by
  rw [str_len]
  show ((a.cps.toList.drop 0).take (HT.sIx a.length a.length (some (i : Int)) - 0)).length = i
  rw [HT.sIx_nat, List.length_take, List.drop_zero, ← str_len]
  omega
theorem cut_hi {a : Str} {i : Nat} (h : i ≤ a.length) : (cutS a (some (i : Int)) none).length = a.length - i := by
  rw [str_len]
  show ((a.cps.toList.drop (HT.sIx a.length 0 (some (i : Int)))).take (a.length - HT.sIx a.length 0 (some (i : Int)))).length = _
  rw [HT.sIx_nat, List.length_take, List.length_drop, ← str_len]
  omega
section
variable {P : Program} {w : World} {K : PySem.W.Frag} {mg : Str → Option Value} {base : Heap} {f : Addr} {fd : FuncData}
/-! ### _law_key -/
def sp_key : Sp := fun vs H Q _ => ∃ (x : Int) (n : Nat), vs = [.int x, .int n] ∧ n ≤ 12 ∧ ∀ t : Str, t.length = n → AllS t → Q (.str t) H
abbrev s_key : Stmt := topS 23
theorem sc_key : FnScope ["_law_number", "_law_count", "_law_signs", "_law_text", "_law_k"] ["_law_number", "_law_count"] (C8.fnScope s_key) := C8.fnScope_by (by decide +kernel)
theorem k_key (T : Bi mg) (F : C8.Def K mg "_law_key" s_key f fd) (b : Binds K fd ["_law_number", "_law_count"] []) : C8.Cal P w K mg base 1 "_law_key" sp_key [] := by
  refine C8.cal0 F b .nil sc_key (fun vs H Q E h => ?_) (fun cdv A outer s0 H vs Q E hr h => ?_)
  · obtain ⟨x, n, rfl, _⟩ := h
    rfl
  · obtain ⟨x, n, rfl, hn, q⟩ := h
    have hu := hu_of hr
    refine ⟨_, pss_cons (ps_set (i := 2) sc_key.nd rfl (by first | exact Or.inl rfl | exact Or.inr rfl) (pe_str))
      (pss_cons (ps_set (i := 3) sc_key.nd rfl (by first | exact Or.inl rfl | exact Or.inr rfl) (pe_str))
      (pss_cons (ps_for PassesOwn.never rfl (pi_range1 rfl T.range (pa_cons (pv 1) pa_nil)) (pg_name (i := 4) sc_key.nd rfl (by first | exact Or.inl rfl | exact Or.inr rfl))
        (pss_cons (ps_set (i := 3) sc_key.nd rfl (by first | exact Or.inl rfl | exact Or.inr rfl) (pe_op op_add_str (pv 3) (pe_item_str (pv 2) (pe_op op_mod (pe_callTy call_int1 (by rfl) T.int PyProof.Rows.boot_int (pa_cons (pv 0) pa_nil)) (pe_int)) (fun _ _ => rfl))))
      (pss_one (ps_set (i := 0) sc_key.nd rfl (by first | exact Or.inl rfl | exact Or.inr rfl) (pe_op op_fdiv (pv 0) (pe_int))))))
      (pss_one (ps_ret (pv 3))))), ?_⟩
    refine ⟨_, rfl, _, rfl, by omega, by omega, ?_⟩
    refine for_range (fun i σ H' => H' = H ∧ ∃ (y : Int) (t : Str) (v4 : Option V), σ = [some (.int y), some (.int n), some (.str SG), some (.str t), v4] ∧ t.length = i ∧ AllS t) ⟨rfl, x, ⟨#[]⟩, none, rfl, rfl, fun x h => by cases h⟩ ?_ ?_
    · rintro i σ H' hi ⟨rfl, y, t, v4, rfl, lt, ht⟩
      obtain ⟨c, hc, hm⟩ := SG_get (i := y % 36) (Int.emod_nonneg _ (by decide)) (Int.emod_lt_of_pos _ (by decide))
      have h36 := Int.emod_lt_of_pos y (show (0 : Int) < 36 by decide)
      have hsl : sizeLine = sizeLine := rfl
      refine ⟨_, rfl, _, rfl, _, rfl, .inl ⟨_, rfl, _, _, rfl, rfl, (show (0 : Int) < 36 by decide), SG, y % 36, c, rfl, rfl, Int.emod_nonneg _ (by decide), by omega, by rw [SG_len]; exact h36, hc, ?_⟩⟩
      refine ⟨t, ⟨#[c]⟩, rfl, rfl, ?_, _, rfl, _, _, rfl, rfl, ?_, ?_⟩
      · have : t.length ≤ 12 := by omega
        have h2 := small1000 (n := t.length + 1) (by omega)
        exact Nat.le_of_lt h2
      · exact ⟨by decide, by decide⟩
      · refine ⟨rfl, y / 36, t ++ ⟨#[c]⟩, _, rfl, by rw [str_app_len, lt]; rfl, ht.app fun x hx => ?_⟩
        have e : x = c := by simpa using hx
        rw [e]
        exact hm
    · rintro σ H' ⟨rfl, y, t, v4, rfl, lt, ht⟩
      refine ⟨_, rfl, q t (by rw [lt]; omega) ht⟩
end
end Cg

set_option Elab.async false
set_option linter.all false
set_option maxRecDepth 100000
set_option maxHeartbeats 400000
namespace Cg
open PySem PySem.Spec PyProof.Rows L2
section
variable {P : Program} {w : World} {K : PySem.W.Frag} {mg : Str → Option Value} {base : Heap} {f : Addr} {fd : FuncData}
/-! ### _law_box -/
theorem SqL.fr0 {K : PySem.W.Frag} {H H' : Hp} {a : Addr} {xs : List V} (h : SqL K H a xs) (f : Fr [] H H') : SqL K H' a xs := by
  rcases h with h | h
  · rcases h with e | ⟨o, e⟩
    · exact .inl (.inl (f.all _ _ e (by simp)))
    · exact .inl (.inr ⟨o, f.all _ _ e (by simp)⟩)
  · exact .inr h
def sp_box (K : PySem.W.Frag) : Sp := fun vs H Q _ => ∃ (sa : Addr) (xs : List Int), vs = [.ref sa] ∧ SqL K H sa (xs.map V.int) ∧
  ∀ (H' : Hp) (b ca : Addr), Fr [] H H' → H b = none → H ca = none → BoxAt H' b ca 0 → Q (.ref b) H'
abbrev s_box : Stmt := topS 20
theorem sc_box : FnScope ["_law_script"] ["_law_script"] (C8.fnScope s_box) := C8.fnScope_by (by decide +kernel)
theorem cut63 (xs : List Int) : ∃ ys : List Int, cutV (xs.map V.int) none (some 63) = ys.map V.int ∧ ys.length ≤ 1000 := by
  refine ⟨xs.take (min 63 xs.length), ?_, ?_⟩
  · unfold cutV
    rw [show HT.sIx (xs.map V.int).length (xs.map V.int).length (some 63) = min 63 (xs.map V.int).length from HT.sIx_nat _ _ 63]
    show ((xs.map V.int).drop 0).take _ = _
    rw [List.drop_zero, List.map_take, List.length_map]
    rfl
  · rw [List.length_take]
    omega
theorem k_box (T : Bi mg) (F : C8.Def K mg "_law_box" s_box f fd) (b : Binds K fd ["_law_script"] []) : C8.Cal P w K mg base 1 "_law_box" (sp_box K) [] := by
  refine C8.cal0 F b .nil sc_box (fun vs H Q E h => ?_) (fun cdv A outer s0 H vs Q E hr h => ?_)
  · obtain ⟨sa, xs, rfl, _⟩ := h
    rfl
  · obtain ⟨sa, xs, rfl, hs, q⟩ := h
    have hu := hu_of hr
    refine ⟨_, pss_one (ps_ret (pe_disp (pps_cons (pe_str) (pe_callTy call_list_of (by rfl) T.list (by decide +kernel) (pa_cons (pe_slice sl_list (pv 0) (po_none) (po_some (pe_int))) pa_nil)) (pps_cons (pe_str) (pe_int) (pps_cons (pe_str) (pe_int) (pps_cons (pe_str) (pe_int) (pps_nil))))) (by rfl) (by rfl) (fun z => by cases z) (by decide))), ?_⟩
    intro p hp
    obtain ⟨ys, ey, ly⟩ := cut63 xs
    have f1 : Fr [] H (upd H p (.dK [])) := Fr.new hp
    have e1 : (upd H p (.dK [])) p = some (.dK []) := upd_same
    generalize upd H p (.dK []) = H1 at f1 e1 ⊢
    refine pairs_k ?_
    refine ⟨_, rfl, _, rfl, sa, _, rfl, SqL.fr0 hs f1, fun p2 hp2 => ?_⟩
    rw [ey]
    have f2 : Fr [] H1 (upd H1 p2 (.lst (ys.map V.int))) := Fr.new hp2
    have e2 : (upd H1 p2 (.lst (ys.map V.int))) p2 = some (.lst (ys.map V.int)) := upd_same
    generalize upd H1 p2 (.lst (ys.map V.int)) = H2 at f2 e2 ⊢
    refine ⟨p2, _, rfl, .inl (SqL.of e2), fun p3 hp3 => ?_⟩
    have f3 : Fr [] H2 (upd H2 p3 (.lst (ys.map V.int))) := Fr.new hp3
    have e3 : (upd H2 p3 (.lst (ys.map V.int))) p3 = some (.lst (ys.map V.int)) := upd_same
    generalize upd H2 p3 (.lst (ys.map V.int)) = H3 at f3 e3 ⊢
    refine pairs_c ?_
    refine pairs_c ?_
    refine pairs_c ?_
    refine pairs_nil ?_
    have e4 := (f2.then f3).all _ _ e1 (by simp)
    refine ⟨e4, bkvs p3 0 0 0, rfl, (by show 4 ≤ 15; decide), ?_⟩
    rw [show mergeK [] (bkvs p3 0 0 0) = bkvs p3 0 0 0 from mergeK_new (kvs := []) bk_keys]
    have f13 := (f1.then f2).then f3
    have f4 : Fr [p] H3 (upd H3 p (.dK (bkvs p3 0 0 0))) := Fr.set (by simp) e4 fun xs z => by cases z
    have hp3' : H p3 = none := (f1.then f2).free hp3 fun x h => by cases h
    have ne : p ≠ p3 := fun z => by rw [← z, (f2.all _ _ e1 (by simp))] at hp3; cases hp3
    refine q _ p p3 ((f13.in.then f4).outs fun x hx => by rw [List.mem_singleton.mp hx]; exact hp) hp hp3' ⟨ne, ⟨ys, (upd_ne ne.symm).trans e3, ly⟩, 0, 0, 0, upd_same, by omega, by omega, by omega, by omega, by omega⟩
/-! ### _law_worth -/
def sp_worth : Sp := fun vs H Q _ => ∃ (b ca : Addr) (n : Nat), vs = [.ref b] ∧ BoxAt H b ca n ∧ n ≤ 800000 ∧ ∀ (H' : Hp) (z : Int), Fr [b, ca] H H' → BoxAt H' b ca (n + 3) → Q (.int z) H'
abbrev s_worth : Stmt := topS 43
theorem sc_worth : FnScope ["_law_box_here", "_law_way"] ["_law_box_here"] (C8.fnScope s_worth) := C8.fnScope_by (by decide +kernel)
theorem k_worth (T : Bi mg) (F : C8.Def K mg "_law_worth" s_worth f fd) (b : Binds K fd ["_law_box_here"] []) (c_draw : C8.Cal P w K mg base 1 "_law_draw" sp_draw []) : C8.Cal P w K mg base 2 "_law_worth" sp_worth [] := by
  refine C8.cal0 F b .nil sc_worth (fun vs H Q E h => ?_) (fun cdv A outer s0 H vs Q E hr h => ?_)
  · obtain ⟨a, ca, n, rfl, _⟩ := h
    rfl
  · obtain ⟨a, ca, n, rfl, B, hn, q⟩ := h
    have hu := hu_of hr
    refine ⟨_, pss_cons (ps_set (i := 1) sc_worth.nd rfl (by first | exact Or.inl rfl | exact Or.inr rfl) (C8.pe_c c_draw hr (by decide) rfl (pa_cons (pv 0) (pa_cons (pe_int) pa_nil))))
      (pss_cons (ps_if (pt_cmpR op_eq (pv 1) (pe_int) (nomark _)) (pss_one (ps_ret (pe_op op_sub (C8.pe_c c_draw hr (by decide) rfl (pa_cons (pv 0) (pa_cons (pe_int) pa_nil))) (pe_int)))) (pss_nil))
      (pss_cons (ps_if (pt_cmpR op_eq (pv 1) (pe_int) (nomark _)) (pss_one (ps_ret (pe_op op_add (pe_op op_mul (pe_op op_sub (C8.pe_c c_draw hr (by decide) rfl (pa_cons (pv 0) (pa_cons (pe_op op_pow (pe_int) (pe_int)) pa_nil))) (pe_op op_mul (pe_int) (pe_op op_pow (pe_int) (pe_int)))) (pe_op op_pow (pe_int) (pe_int))) (C8.pe_c c_draw hr (by decide) rfl (pa_cons (pv 0) (pa_cons (pe_op op_pow (pe_int) (pe_int)) pa_nil)))))) (pss_nil))
      (pss_one (ps_ret (pe_op op_sub (C8.pe_c c_draw hr (by decide) rfl (pa_cons (pv 0) (pa_cons (pe_int) pa_nil))) (pe_int)))))), ?_⟩
    have p15 : CPow 10 15 := ⟨by decide, by decide, by decide⟩
    have p14 : CPow 10 14 := ⟨by decide, by decide, by decide⟩
    refine ⟨_, rfl, a, ca, 4, n, rfl, B, by omega, by decide, by decide, fun H1 x f1 B1 x0 x1 => ?_⟩
    refine ⟨_, rfl, rfl, _, rfl, ite2 (fun hb => ?_) (fun hb => ?_)⟩
    · refine ⟨_, rfl, a, ca, 3, n + 1, rfl, B1, by omega, by decide, by decide, fun H2 y f2 B2 y0 y1 => ?_⟩
      exact ⟨_, _, rfl, rfl, q H2 _ (f1.then f2) (B2.le (by omega))⟩
    · refine ⟨_, rfl, rfl, _, rfl, ite2 (fun hb2 => ?_) (fun hb2 => ?_)⟩
      · refine ⟨_, rfl, _, _, rfl, rfl, p15, a, ca, _, n + 1, rfl, B1, by omega, by decide, by decide, fun H2 y f2 B2 y0 y1 => ?_⟩
        refine ⟨_, _, rfl, rfl, p14, _, _, rfl, rfl, .inl ⟨by decide, by decide⟩, _, _, rfl, rfl, _, _, rfl, rfl, p15, _, _, rfl, rfl, .inr ⟨by decide, by decide⟩, _, rfl, _, _, rfl, rfl, p15, a, ca, _, n + 2, rfl, B2, by omega, by decide, by decide, fun H3 y f3 B3 y0 y1 => ?_⟩
        exact ⟨_, _, rfl, rfl, q H3 _ ((f1.then f2).then f3) B3⟩
      · refine ⟨_, rfl, a, ca, 2001, n + 1, rfl, B1, by omega, by decide, by decide, fun H2 y f2 B2 y0 y1 => ?_⟩
        exact ⟨_, _, rfl, rfl, q H2 _ (f1.then f2) (B2.le (by omega))⟩
/-! ### _law_next -/
def StrsAt (H : Hp) (p : Addr) (ks : List Str) : Prop := H p = some (.lst (ks.map V.str))
def sp_next : Sp := fun vs H Q _ => ∃ (b ca : Addr) (n : Nat) (p : Addr) (ks : List Str) (k : Str), vs = [.ref b, .ref p, .str k] ∧ BoxAt H b ca n ∧ n ≤ 800000 ∧ StrsAt H p ks ∧ p ∉ [b, ca] ∧ (∀ x ∈ ks, Good x) ∧ Good k ∧ 0 < ks.length ∧ ks.length ≤ 1000 ∧
  ∀ (H' : Hp) (k' : Str), Fr [b, ca] H H' → BoxAt H' b ca (n + 2) → Good k' → Q (.str k') H'
abbrev s_next : Stmt := topS 25
theorem sc_next : FnScope ["_law_box_here", "_law_names_here", "_law_name"] ["_law_box_here", "_law_names_here", "_law_name"] (C8.fnScope s_next) := C8.fnScope_by (by decide +kernel)
theorem k_next (T : Bi mg) (F : C8.Def K mg "_law_next" s_next f fd) (b : Binds K fd ["_law_box_here", "_law_names_here", "_law_name"] []) (c_draw : C8.Cal P w K mg base 1 "_law_draw" sp_draw []) : C8.Cal P w K mg base 2 "_law_next" sp_next [] := by
  refine C8.cal0 F b .nil sc_next (fun vs H Q E h => ?_) (fun cdv A outer s0 H vs Q E hr h => ?_)
  · obtain ⟨a, ca, n, p, ks, k, rfl, _⟩ := h
    rfl
  · obtain ⟨a, ca, n, p, ks, k, rfl, B, hn, hp, np, hg, gk, l0, l1, q⟩ := h
    have hu := hu_of hr
    refine ⟨_, pss_cons (ps_if (pt_cmpR op_eq (C8.pe_c c_draw hr (by decide) rfl (pa_cons (pv 0) (pa_cons (pe_int) pa_nil))) (pe_int) (nomark _)) (pss_one (ps_ret (pv 2))) (pss_nil))
      (pss_one (ps_ret (pe_ix ix_list (pv 1) (C8.pe_c c_draw hr (by decide) rfl (pa_cons (pv 0) (pa_cons (pe_callB call_len_seq (by rfl) T.len PySem.boot_len (pa_cons (pv 1) pa_nil)) pa_nil))) (fun _ _ => rfl)))), ?_⟩
    refine ⟨_, rfl, a, ca, 4, n, rfl, B, by omega, by decide, by decide, fun H1 x f1 B1 x0 x1 => ?_⟩
    refine ⟨rfl, _, rfl, ite2 (fun hb => ?_) (fun hb => ?_)⟩
    · exact ⟨_, rfl, q H1 k f1 (B1.le (by omega)) gk⟩
    · have hp1 := f1.all _ _ hp np
      refine ⟨_, rfl, _, rfl, _, rfl, p, _, rfl, .inl (SqL.of hp1), a, ca, _, n + 1, rfl, B1, by omega, by rw [List.length_map]; omega, by rw [List.length_map]; omega, fun H2 y f2 B2 y0 y1 => ?_⟩
      have hp2 := f2.all _ _ hp1 np
      rw [List.length_map] at y1
      have hy : y.toNat < ks.length := by omega
      have ey : ((y.toNat : Nat) : Int) = y := Int.toNat_of_nonneg y0
      have eg : (ks.map V.str)[y.toNat]? = some (.str ks[y.toNat]) := by
        rw [List.getElem?_map, List.getElem?_eq_getElem hy]
        rfl
      have eat := atI_nat eg
      rw [ey] at eat
      exact ⟨p, _, _, _, rfl, rfl, SqL.of hp2, eat, q H2 _ (f1.then f2) B2 (hg _ (List.getElem_mem hy))⟩
/-! ### _law_terms -/
def sp_terms : Sp := fun vs H Q _ => ∃ (b ca : Addr) (n : Nat), vs = [.ref b] ∧ BoxAt H b ca n ∧ n ≤ 800000 ∧
  ∀ (H' : Hp) (t : Addr) (parts : Nat) (c : Cfg), Fr [b, ca] H H' → BoxAt H' b ca (n + 10) → H' t = some (.tup [.int parts, .int c.w, .int c.bound, .int c.load]) → 1 ≤ parts → parts ≤ 8 → 1 ≤ c.w → c.w ≤ 8 → 1 ≤ c.bound → c.bound ≤ 66 → 0 ≤ c.load → c.load ≤ 40 → Q (.ref t) H'
abbrev s_terms : Stmt := topS 22
theorem sc_terms : FnScope ["_law_box_here", "_law_cap", "_law_parts", "_law_wide", "_law_load", "_law_edge", "_law_way", "_law_bound"] ["_law_box_here"] (C8.fnScope s_terms) := C8.fnScope_by (by decide +kernel)
theorem k_terms (T : Bi mg) (F : C8.Def K mg "_law_terms" s_terms f fd) (b : Binds K fd ["_law_box_here"] []) (c_draw : C8.Cal P w K mg base 1 "_law_draw" sp_draw []) : C8.Cal P w K mg base 2 "_law_terms" sp_terms [] := by
  refine C8.cal0 F b .nil sc_terms (fun vs H Q E h => ?_) (fun cdv A outer s0 H vs Q E hr h => ?_)
  · obtain ⟨a, ca, n, rfl, _⟩ := h
    rfl
  · obtain ⟨a, ca, n, rfl, B, hn, q⟩ := h
    have hu := hu_of hr
    refine ⟨_, pss_cons (ps_set (i := 1) sc_terms.nd rfl (by first | exact Or.inl rfl | exact Or.inr rfl) (pe_int))
      (C8.pss_cut (ps_if (pt_cmpR op_eq (C8.pe_c c_draw hr (by decide) rfl (pa_cons (pv 0) (pa_cons (pe_int) pa_nil))) (pe_int) (nomark _)) (pss_one (ps_set (i := 1) sc_terms.nd rfl (by first | exact Or.inl rfl | exact Or.inr rfl) (pe_int))) (pss_nil))
      (pss_cons (ps_set (i := 2) sc_terms.nd rfl (by first | exact Or.inl rfl | exact Or.inr rfl) (pe_op op_add (pe_int) (C8.pe_c c_draw hr (by decide) rfl (pa_cons (pv 0) (pa_cons (pv 1) pa_nil)))))
      (pss_cons (ps_set (i := 3) sc_terms.nd rfl (by first | exact Or.inl rfl | exact Or.inr rfl) (pe_op op_add (pe_int) (C8.pe_c c_draw hr (by decide) rfl (pa_cons (pv 0) (pa_cons (pv 1) pa_nil)))))
      (pss_cons (ps_set (i := 4) sc_terms.nd rfl (by first | exact Or.inl rfl | exact Or.inr rfl) (C8.pe_c c_draw hr (by decide) rfl (pa_cons (pv 0) (pa_cons (pe_int) pa_nil))))
      (C8.pss_cut (ps_if (pt_cmpR op_eq (C8.pe_c c_draw hr (by decide) rfl (pa_cons (pv 0) (pa_cons (pe_int) pa_nil))) (pe_int) (nomark _)) (pss_one (ps_set (i := 4) sc_terms.nd rfl (by first | exact Or.inl rfl | exact Or.inr rfl) (C8.pe_c c_draw hr (by decide) rfl (pa_cons (pv 0) (pa_cons (pe_int) pa_nil))))) (pss_nil))
      (pss_cons (ps_set (i := 5) sc_terms.nd rfl (by first | exact Or.inl rfl | exact Or.inr rfl) (pe_op op_add (pe_op op_mul (pe_op op_sub (pv 2) (pe_int)) (pe_op op_add (pe_op op_fdiv (pe_op op_mul (pv 4) (pv 3)) (pe_op op_add (pv 4) (pe_int))) (pe_int))) (pe_int)))
      (pss_cons (ps_set (i := 6) sc_terms.nd rfl (by first | exact Or.inl rfl | exact Or.inr rfl) (C8.pe_c c_draw hr (by decide) rfl (pa_cons (pv 0) (pa_cons (pe_int) pa_nil))))
      (pss_cons (ps_set (i := 7) sc_terms.nd rfl (by first | exact Or.inl rfl | exact Or.inr rfl) (pv 5))
      (C8.pss_cut (ps_if (pt_cmpR op_eq (pv 6) (pe_int) (nomark _)) (pss_one (ps_set (i := 7) sc_terms.nd rfl (by first | exact Or.inl rfl | exact Or.inr rfl) (pe_op op_add (pe_int) (C8.pe_c c_draw hr (by decide) rfl (pa_cons (pv 0) (pa_cons (pe_op op_add (pe_op op_mul (pv 2) (pv 3)) (pe_int)) pa_nil)))))) (pss_nil))
      (C8.pss_cut (ps_if (pt_cmpR op_eq (pv 6) (pe_int) (nomark _)) (pss_one (ps_set (i := 7) sc_terms.nd rfl (by first | exact Or.inl rfl | exact Or.inr rfl) (pe_op op_add (pv 5) (pe_int)))) (pss_nil))
      (C8.pss_cut (ps_if (pt_cmpR op_eq (pv 6) (pe_int) (nomark _)) (pss_one (ps_set (i := 7) sc_terms.nd rfl (by first | exact Or.inl rfl | exact Or.inr rfl) (pe_callB (call_max2 rfl) (by rfl) T.max (by decide +kernel) (pa_cons (pe_int) (pa_cons (pe_op op_sub (pv 5) (pe_int)) pa_nil))))) (pss_nil))
      (pss_one (ps_ret (pe_tup (pa_cons (pv 2) (pa_cons (pv 3) (pa_cons (pv 7) (pa_cons (pv 4) pa_nil)))))))))))))))))), ?_⟩
    refine ⟨fun σ H' => Fr [a, ca] H H' ∧ BoxAt H' a ca (n + 1) ∧ ∃ cap : Int, 1 ≤ cap ∧ cap ≤ 8 ∧ σ = [some (.ref a), some (.int cap), none, none, none, none, none, none], ?_, ?_⟩
    · refine ⟨_, rfl, a, ca, 8, n, rfl, B, by omega, by decide, by decide, fun H1 x f1 B1 x0 x1 => ?_⟩
      refine ⟨rfl, _, rfl, ite2 (fun hb => ?_) (fun hb => ?_)⟩
      · exact ⟨f1, B1, 8, by decide, by decide, rfl⟩
      · exact ⟨f1, B1, 5, by decide, by decide, rfl⟩
    rintro σ H1 ⟨f1, B1, cap, cap1, cap8, rfl⟩
    refine ⟨_, rfl, _, rfl, a, ca, cap, n + 1, rfl, B1, by omega, by omega, by omega, fun H2 x f2 B2 x0 x1 => ?_⟩
    refine ⟨_, _, rfl, rfl, _, rfl, _, rfl, a, ca, cap, n + 2, rfl, B2, by omega, by omega, by omega, fun H3 y f3 B3 y0 y1 => ?_⟩
    refine ⟨_, _, rfl, rfl, _, rfl, a, ca, 5, n + 3, rfl, B3, by omega, by decide, by decide, fun H4 z f4 B4 z0 z1 => ?_⟩
    have f14 := (f1.then f2).then (f3.then f4)
    refine ⟨fun σ H' => Fr [a, ca] H H' ∧ BoxAt H' a ca (n + 6) ∧ ∃ ld : Int, 0 ≤ ld ∧ ld ≤ 40 ∧ σ = [some (.ref a), some (.int cap), some (.int (1 + x)), some (.int (1 + y)), some (.int ld), none, none, none], ?_, ?_⟩
    · refine ⟨_, rfl, a, ca, 8, n + 4, rfl, B4, by omega, by decide, by decide, fun H5 u f5 B5 u0 u1 => ?_⟩
      refine ⟨rfl, _, rfl, ite2 (fun hb => ?_) (fun hb => ?_)⟩
      · refine ⟨_, rfl, a, ca, 41, n + 5, rfl, B5, by omega, by decide, by decide, fun H6 v f6 B6 v0 v1 => ?_⟩
        exact ⟨f14.then (f5.then f6), B6, v, v0, by omega, rfl⟩
      · exact ⟨f14.then f5, B5.le (by omega), z, z0, by omega, rfl⟩
    clear f1 f2 f3 f4 f14 B1 B2 B3 B4 H1 H2 H3 H4 z0 z1 z
    rintro σ H1 ⟨f1, B1, ld, ld0, ld1, rfl⟩
    -- the edge
    have hP : 0 ≤ x ∧ x ≤ 7 := by omega
    have hW : 1 ≤ 1 + y ∧ 1 + y ≤ 8 := by omega
    have hq0 : 0 ≤ ld * (1 + y) / (ld + 1) := Int.ediv_nonneg (Int.mul_nonneg ld0 (by omega)) (by omega)
    have hq1 : ld * (1 + y) / (ld + 1) < 1 + y := Int.ediv_lt_of_lt_mul (by omega) (by rw [Int.mul_comm, Int.mul_add]; omega)
    refine ⟨_, rfl, _, _, rfl, rfl, _, rfl, _, rfl, _, _, rfl, rfl, .inl ⟨by omega, by omega⟩, _, rfl, _, _, rfl, rfl, _, _, rfl, rfl, ⟨by omega, by omega⟩, _, _, rfl, rfl, _, _, rfl, rfl, .inl ⟨by omega, by omega⟩, _, _, rfl, rfl, ?_⟩
    rw [show ((fun i j => V.int (i + j)) ((1 + x - 1) * (ld * (1 + y) / (ld + 1) + 1)) 1) = V.int ((1 + x - 1) * (ld * (1 + y) / (ld + 1) + 1) + 1) from rfl]
    have he : 0 ≤ (1 + x - 1) * (ld * (1 + y) / (ld + 1) + 1) ∧ (1 + x - 1) * (ld * (1 + y) / (ld + 1) + 1) ≤ 7 * 8 := by
      generalize ld * (1 + y) / (ld + 1) = v at hq0 hq1
      have e1 : 1 + x - 1 = x := by omega
      rw [e1]
      exact ⟨Int.mul_nonneg hP.1 (by omega), Int.mul_le_mul hP.2 (by omega) (by omega) (by decide)⟩
    generalize (1 + x - 1) * (ld * (1 + y) / (ld + 1) + 1) = e at he
    have hpw : 1 ≤ (1 + x) * (1 + y) ∧ (1 + x) * (1 + y) ≤ 8 * 8 := ⟨by
      have := Int.mul_le_mul (show (1 : Int) ≤ 1 + x by omega) hW.1 (by decide) (by omega)
      omega, Int.mul_le_mul (by omega) hW.2 (by omega) (by decide)⟩
    refine ⟨_, rfl, a, ca, 4, n + 6, rfl, B1, by omega, by decide, by decide, fun H2 way f2 B2 w0 w1 => ?_⟩
    refine ⟨_, rfl, ?_⟩
    refine ⟨fun σ H' => Fr [a, ca] H H' ∧ BoxAt H' a ca (n + 8) ∧ ∃ bd : Int, 1 ≤ bd ∧ bd ≤ 66 ∧ σ = [some (.ref a), some (.int cap), some (.int (1 + x)), some (.int (1 + y)), some (.int ld), some (.int (e + 1)), some (.int way), some (.int bd)], ?_, ?_⟩
    · refine ⟨_, rfl, rfl, _, rfl, ite2 (fun hb => ?_) (fun hb => ?_)⟩
      · refine ⟨_, rfl, _, rfl, _, rfl, _, _, rfl, rfl, .inl ⟨by omega, by omega⟩, _, _, rfl, rfl, a, ca, _, n + 7, rfl, B2, by omega, ?_⟩
        generalize (1 + x) * (1 + y) = v at hpw
        refine ⟨by omega, by omega, fun H3 u f3 B3 u0 u1 => ?_⟩
        exact ⟨_, _, rfl, rfl, (f1.then f2).then f3, B3, 1 + u, by omega, by omega, rfl⟩
      · exact ⟨f1.then f2, B2.le (by omega), e + 1, by omega, by omega, rfl⟩
    clear f1 f2 B1 B2 H1 H2
    rintro σ H1 ⟨f1, B1, bd, b0, b1, rfl⟩
    refine ⟨fun σ H' => H' = H1 ∧ ∃ bd : Int, 1 ≤ bd ∧ bd ≤ 66 ∧ σ = [some (.ref a), some (.int cap), some (.int (1 + x)), some (.int (1 + y)), some (.int ld), some (.int (e + 1)), some (.int way), some (.int bd)], ?_, ?_⟩
    · refine ⟨_, rfl, rfl, _, rfl, ite2 (fun hb => ?_) (fun hb => ?_)⟩
      · exact ⟨_, rfl, _, _, rfl, rfl, rfl, e + 1 + 1, by omega, by omega, rfl⟩
      · exact ⟨rfl, bd, b0, b1, rfl⟩
    clear b0 b1 bd
    rintro σ _ ⟨rfl, bd, b0, b1, rfl⟩
    rename_i H1
    refine ⟨fun σ H' => H' = H1 ∧ ∃ bd : Int, 1 ≤ bd ∧ bd ≤ 66 ∧ σ = [some (.ref a), some (.int cap), some (.int (1 + x)), some (.int (1 + y)), some (.int ld), some (.int (e + 1)), some (.int way), some (.int bd)], ?_, ?_⟩
    · refine ⟨_, rfl, rfl, _, rfl, ite2 (fun hb => ?_) (fun hb => ?_)⟩
      · refine ⟨_, rfl, _, _, rfl, rfl, 1, _, rfl, rfl, _, ?_, ?_, rfl⟩
        · split <;> omega
        · split <;> omega
      · exact ⟨rfl, bd, b0, b1, rfl⟩
    clear b0 b1 bd
    rintro σ _ ⟨rfl, bd, b0, b1, rfl⟩
    rename_i H1
    refine ⟨_, rfl, _, rfl, _, rfl, _, rfl, (by show 4 ≤ sizeLine; decide), fun t ht => ?_⟩
    have ex : (((1 + x).toNat : Nat) : Int) = 1 + x := Int.toNat_of_nonneg (by omega)
    have ey : (((1 + y).toNat : Nat) : Int) = 1 + y := Int.toNat_of_nonneg (by omega)
    refine q _ t (1 + x).toNat ⟨(1 + y).toNat, bd, ld, false⟩ (f1.then (Fr.new ht)) ?_ ?_ (by omega) (by omega) (by show 1 ≤ (1 + y).toNat; omega) (by show (1 + y).toNat ≤ 8; omega) b0 b1 ld0 ld1
    · exact (B1.le (by omega)).fr (Fr.new (S := []) ht) (by simp) (by simp)
    · show (upd H1 t _) t = some (.tup [.int (((1 + x).toNat : Nat) : Int), .int (((1 + y).toNat : Nat) : Int), .int bd, .int ld])
      rw [ex, ey]
      exact upd_same
end
end Cg

set_option Elab.async false
set_option linter.all false
set_option maxRecDepth 100000
set_option maxHeartbeats 400000
namespace Cg
open PySem PySem.Spec PyProof.Rows L2
theorem Fr.less {H H' : Hp} {S S' : List Addr} (f : Fr S H H') (h : ∀ x ∈ S, x ∈ S' ∨ H x = none) : Fr S' H H' := ⟨fun b o e n => f.all b o e fun z => (h b z).elim n fun z2 => (by rw [z2] at e; cases e), f.tup⟩
theorem key_vs (x y : Int) (h : 0 ≤ y) : [V.int x, V.int y] = [V.int x, V.int ((y.toNat : Nat) : Int)] := by rw [Int.toNat_of_nonneg h]
theorem flat_strs (l : List Str) : (l.map V.str).all flatV = true := by
  rw [List.all_eq_true]
  intro x hx
  obtain ⟨j, _, e⟩ := List.mem_map.mp hx
  rw [← e]
  rfl
theorem Good.of_key {t : Str} {n : Nat} (h : t.length = n) (h1 : 1 ≤ n) (h2 : n ≤ 12) (ha : AllS t) : Good t := ⟨by omega, by omega, ha⟩
section
variable {P : Program} {w : World} {K : PySem.W.Frag} {mg : Str → Option Value} {base : Heap} {f : Addr} {fd : FuncData}
/-! ### _law_names -/
def sp_names : Sp := fun vs H Q _ => ∃ (b ca : Addr) (n many : Nat), vs = [.ref b, .int many] ∧ BoxAt H b ca n ∧ n ≤ 700000 ∧ many ≤ 900 ∧
  ∀ (H' : Hp) (p : Addr) (ks : List Str), Fr [b, ca] H H' → BoxAt H' b ca (n + 5 + 2 * many) → H p = none → StrsAt H' p ks → ks.length = many → (∀ x ∈ ks, Good x) → Q (.ref p) H'
abbrev s_names : Stmt := topS 24
theorem sc_names : FnScope ["_law_box_here", "_law_many", "_law_near", "_law_stem", "_law_spot", "_law_shift", "_law_names_here", "_law_k", "_law_name", "_law_turn_here"] ["_law_box_here", "_law_many"] (C8.fnScope s_names) := C8.fnScope_by (by decide +kernel)
theorem k_names (T : Bi mg) (F : C8.Def K mg "_law_names" s_names f fd) (b : Binds K fd ["_law_box_here", "_law_many"] []) (c_draw : C8.Cal P w K mg base 1 "_law_draw" sp_draw [])
    (c_key : C8.Cal P w K mg base 1 "_law_key" sp_key []) : C8.Cal P w K mg base 2 "_law_names" sp_names [] := by
  refine C8.cal0 F b .nil sc_names (fun vs H Q E h => ?_) (fun cdv A outer s0 H vs Q E hr h => ?_)
  · obtain ⟨a, ca, n, many, rfl, _⟩ := h
    rfl
  · obtain ⟨a, ca, n, many, rfl, B, hn, hm, q⟩ := h
    have hu := hu_of hr
    refine ⟨_, pss_cons (ps_set (i := 2) sc_names.nd rfl (by first | exact Or.inl rfl | exact Or.inr rfl) (pe_cmpR op_eq (C8.pe_c c_draw hr (by decide) rfl (pa_cons (pv 0) (pa_cons (pe_int) pa_nil))) (pe_int) (nomark _)))
      (pss_cons (ps_set (i := 3) sc_names.nd rfl (by first | exact Or.inl rfl | exact Or.inr rfl) (C8.pe_c c_key hr (by decide) rfl (pa_cons (C8.pe_c c_draw hr (by decide) rfl (pa_cons (pv 0) (pa_cons (pe_op op_pow (pe_int) (pe_int)) pa_nil))) (pa_cons (pe_op op_add (pe_int) (C8.pe_c c_draw hr (by decide) rfl (pa_cons (pv 0) (pa_cons (pe_int) pa_nil)))) pa_nil))))
      (pss_cons (ps_set (i := 4) sc_names.nd rfl (by first | exact Or.inl rfl | exact Or.inr rfl) (C8.pe_c c_draw hr (by decide) rfl (pa_cons (pv 0) (pa_cons (pe_op op_sub (pe_callB call_len_str (by rfl) T.len PySem.boot_len (pa_cons (pv 3) pa_nil)) (pe_int)) pa_nil))))
      (pss_cons (ps_set (i := 5) sc_names.nd rfl (by first | exact Or.inl rfl | exact Or.inr rfl) (C8.pe_c c_draw hr (by decide) rfl (pa_cons (pv 0) (pa_cons (pe_int) pa_nil))))
      (pss_cons (ps_set (i := 6) sc_names.nd rfl (by first | exact Or.inl rfl | exact Or.inr rfl) (pe_lst pa_nil))
      (pss_cons (ps_for PassesOwn.never rfl (pi_range1 rfl T.range (pa_cons (pv 1) pa_nil)) (pg_name (i := 7) sc_names.nd rfl (by first | exact Or.inl rfl | exact Or.inr rfl))
        (C8.pss_cut (ps_if (pt_val (pv 2)) (pss_one (ps_set (i := 8) sc_names.nd rfl (by first | exact Or.inl rfl | exact Or.inr rfl) (pe_op op_add_str (pe_op op_add_str (pe_slice sl_str (pv 3) (po_none) (po_some (pv 4))) (C8.pe_c c_key hr (by decide) rfl (pa_cons (pe_op op_add (pe_op op_mod (pe_callTy call_int1 (by rfl) T.int PyProof.Rows.boot_int (pa_cons (pe_op op_add (pe_op op_mul (pv 7) (pe_int)) (pv 5)) pa_nil)) (pe_int)) (pe_op op_mul (pe_op op_fdiv (pv 7) (pe_int)) (pe_int))) (pa_cons (pe_int) pa_nil)))) (pe_slice sl_str (pv 3) (po_some (pe_op op_add (pv 4) (pe_int))) (po_none))))) (pss_one (ps_set (i := 8) sc_names.nd rfl (by first | exact Or.inl rfl | exact Or.inr rfl) (C8.pe_c c_key hr (by decide) rfl (pa_cons (C8.pe_c c_draw hr (by decide) rfl (pa_cons (pv 0) (pa_cons (pe_op op_pow (pe_int) (pe_int)) pa_nil))) (pa_cons (pe_op op_add (pe_int) (C8.pe_c c_draw hr (by decide) rfl (pa_cons (pv 0) (pa_cons (pe_int) pa_nil)))) pa_nil))))))
      (C8.pss_cut (ps_for PassesOwn.never rfl (pi_range1 rfl T.range (pa_cons (pe_op op_add (pe_callB call_len_seq (by rfl) T.len PySem.boot_len (pa_cons (pv 6) pa_nil)) (pe_int)) pa_nil)) (pg_name (i := 9) sc_names.nd rfl (by first | exact Or.inl rfl | exact Or.inr rfl))
        (pss_cons (ps_if (pt_cmpR op_notIn_seq (pv 8) (pv 6) (by rfl)) (pss_one (ps_break)) (pss_nil))
      (pss_one (ps_set (i := 8) sc_names.nd rfl (by first | exact Or.inl rfl | exact Or.inr rfl) (C8.pe_c c_key hr (by decide) rfl (pa_cons (pe_op op_add (pv 5) (pv 9)) (pa_cons (pe_int) pa_nil)))))))
      (pss_one (ps_expr (pe_bm PySem.F.plainAttrs_list PySem.F.slot_list_append PySem.F.type_list_append mt_append (pv 6) (pa_cons (pv 8) pa_nil)))))))
      (pss_one (ps_ret (pv 6)))))))), ?_⟩
    have p36 : CPow 36 12 := ⟨by decide, by decide, by decide⟩
    refine ⟨_, rfl, a, ca, 2, n, rfl, B, by omega, by decide, by decide, fun H1 near f1 B1 r0 r1 => ?_⟩
    refine ⟨rfl, ?_⟩
    refine ⟨_, rfl, _, _, rfl, rfl, p36, a, ca, _, n + 1, rfl, B1, by omega, by decide, by decide, fun H2 x f2 B2 x0 x1 => ?_⟩
    refine ⟨_, rfl, a, ca, 11, n + 2, rfl, B2, by omega, by decide, by decide, fun H3 y f3 B3 y0 y1 => ?_⟩
    refine ⟨_, _, rfl, rfl, x, (2 + y).toNat, key_vs _ _ (by omega), by omega, fun stem ls as => ?_⟩
    have hz : ∀ z : Str, z.length ≤ 100 → z.length ≤ sizeLine := fun z h => Nat.le_of_lt (small1000 (by omega))
    refine ⟨_, rfl, _, rfl, stem, rfl, hz _ (by omega), _, _, rfl, rfl, a, ca, _, n + 3, rfl, B3, by omega, by omega, by omega, fun H4 spot f4 B4 t0 t1 => ?_⟩
    refine ⟨_, rfl, a, ca, 36, n + 4, rfl, B4, by omega, by decide, by decide, fun H5 shift f5 B5 u0 u1 => ?_⟩
    refine ⟨(by show 0 ≤ sizeLine; decide), fun p hp => ?_⟩
    have f15 := ((f1.then f2).then (f3.then f4)).then f5
    have f6 : Fr [] H5 (upd H5 p (.lst [])) := Fr.new hp
    have e6 : (upd H5 p (.lst [])) p = some (.lst []) := upd_same
    have np : p ∉ [a, ca] := fun z => by
      obtain ⟨xs, e, _⟩ := B5.cells
      obtain ⟨_, _, _, e2, _⟩ := B5.ob
      rcases List.mem_cons.mp z with h | h
      · rw [h, e2] at hp; cases hp
      · rw [List.mem_singleton.mp h, e] at hp; cases hp
    have hp0 : H p = none := f15.free hp fun x h => by
      obtain ⟨xs, e, _⟩ := B5.cells
      obtain ⟨_, _, _, e2, _⟩ := B5.ob
      rcases List.mem_cons.mp h with h | h
      · rw [h, e2]; rfl
      · rw [List.mem_singleton.mp h, e]; rfl
    have B6 := B5.fr (Fr.new (S := []) (o := .lst []) hp) (by simp) (by simp)
    refine ⟨_, rfl, _, rfl, by omega, by omega, ?_⟩
    refine for_range (fun i σ H' => Fr [a, ca, p] H H' ∧ BoxAt H' a ca (n + 5 + 2 * i) ∧ ∃ (ks : List Str) (v7 v8 v9 : Option V), StrsAt H' p ks ∧ ks.length = i ∧ (∀ x ∈ ks, Good x) ∧
      σ = [some (.ref a), some (.int many), some (.bl (decide (V.int near = V.int 1))), some (.str stem), some (.int spot), some (.int shift), some (.ref p), v7, v8, v9]) ⟨(f15.mono fun x h => by simp at h ⊢; rcases h with h | h <;> simp [h]).then f6.in, B6, [], none, none, none, e6, rfl, fun x h => (by cases h), rfl⟩ ?_ ?_
    · rintro i σ H' hi ⟨fi, Bi, ks, v7, v8, v9, hk, lk, gk, rfl⟩
      have hi' : i < many := by omega
      refine ⟨fun σ H2 => Fr [a, ca] H' H2 ∧ BoxAt H2 a ca (n + 5 + 2 * (i + 1)) ∧ ∃ nm : Str, Good nm ∧ σ = [some (.ref a), some (.int many), some (.bl (decide (V.int near = V.int 1))), some (.str stem), some (.int spot), some (.int shift), some (.ref p), some (.int (0 + (i : Nat))), some (.str nm), v9], ?_, ?_⟩
      · refine ⟨_, rfl, _, rfl, ite2 (fun hb => ?_) (fun hb => ?_)⟩
        · have es : ((spot.toNat : Nat) : Int) = spot := Int.toNat_of_nonneg t0
          have ls2 : spot.toNat + 2 ≤ stem.length := by omega
          have c1 : (cutS stem none (some spot)).length = spot.toNat := by rw [← es]; exact cut_lo (by omega)
          have c2 : (cutS stem (some (spot + 2)) none).length = stem.length - (spot.toNat + 2) := by
            rw [show spot + 2 = ((spot.toNat + 2 : Nat) : Int) by omega]
            exact cut_hi (by omega)
          refine ⟨_, rfl, _, rfl, _, rfl, stem, rfl, hz _ (by omega), ?_⟩
          refine ⟨_, rfl, _, _, rfl, rfl, .inr ⟨by decide, by decide⟩, _, rfl, _, _, rfl, rfl, .inl ⟨_, rfl, _, _, rfl, rfl, (show (0 : Int) < 36 by decide), _, rfl, _, _, rfl, rfl, ⟨by decide, by decide⟩, _, _, rfl, rfl, .inr ⟨by decide, by decide⟩, _, _, rfl, rfl, _, 2, rfl, by decide, fun t lt at' => ?_⟩⟩
          have l1 : (cutS stem none (some spot) ++ t).length = spot.toNat + 2 := by rw [str_app_len, c1, lt]
          refine ⟨_, _, rfl, rfl, by have := hz (cutS stem none (some spot)) (by omega); rw [← str_app_len]; exact hz _ (by omega), _, rfl, _, rfl, _, _, rfl, rfl, _, rfl, stem, rfl, hz _ (by omega), _, _, rfl, rfl, ?_, ?_⟩
          · rw [← str_app_len]
            exact hz _ (by rw [str_app_len, l1, c2]; omega)
          · refine ⟨Fr.refl _ _, Bi.le (by omega), _, ⟨?_, ?_, ((as.cut _ _).app at').app (as.cut _ _)⟩, rfl⟩
            · rw [str_app_len, l1]
              omega
            · rw [str_app_len, l1, c2]
              omega
        · refine ⟨_, rfl, _, _, rfl, rfl, p36, a, ca, _, n + 5 + 2 * i, rfl, Bi, by omega, by decide, by decide, fun H7 z f7 B7 z0 z1 => ?_⟩
          refine ⟨_, rfl, a, ca, 12, n + 5 + 2 * i + 1, rfl, B7, by omega, by decide, by decide, fun H8 l f8 B8 l0 l1 => ?_⟩
          refine ⟨_, _, rfl, rfl, z, (1 + l).toNat, key_vs _ _ (by omega), by omega, fun nm ln an => ?_⟩
          exact ⟨f7.then f8, B8, nm, .of_key ln (by omega) (by omega) an, rfl⟩
      · rintro σ H7 ⟨f7, B7, nm, gn, rfl⟩
        have hk7 : StrsAt H7 p ks := f7.all _ _ hk np
        refine ⟨fun σ H' => H' = H7 ∧ ∃ (nm : Str) (v9 : Option V), Good nm ∧ σ = [some (.ref a), some (.int many), some (.bl (decide (V.int near = V.int 1))), some (.str stem), some (.int spot), some (.int shift), some (.ref p), some (.int (0 + (i : Nat))), some (.str nm), v9], ?_, ?_⟩
        · refine ⟨_, rfl, p, _, rfl, .inl (SqL.of hk7), _, _, rfl, rfl, _, rfl, by rw [List.length_map]; omega, by rw [List.length_map]; omega, ?_⟩
          refine for_range (fun j σ H' => H' = H7 ∧ ∃ (nm : Str) (v9 : Option V), Good nm ∧ σ = [some (.ref a), some (.int many), some (.bl (decide (V.int near = V.int 1))), some (.str stem), some (.int spot), some (.int shift), some (.ref p), some (.int (0 + (i : Nat))), some (.str nm), v9]) ⟨rfl, nm, v9, gn, rfl⟩ ?_ ?_
          · rintro j σ H' hj ⟨rfl, nm, v9, gn, rfl⟩
            refine ⟨_, rfl, _, rfl, p, _, rfl, .inl (SqL.of hk7), rfl, flat_strs _, _, rfl, ite2 (fun hb => ?_) (fun hb => ?_)⟩
            · exact ⟨rfl, nm, _, gn, rfl⟩
            · refine ⟨_, rfl, _, rfl, _, _, rfl, rfl, _, 12, rfl, by decide, fun t lt at' => ?_⟩
              exact ⟨rfl, t, _, .of_key lt (by decide) (by decide) at', rfl⟩
          · rintro σ H' ⟨rfl, nm, v9, gn, rfl⟩
            exact ⟨rfl, nm, v9, gn, rfl⟩
        clear gn
        rintro σ _ ⟨rfl, nm, v9, gn, rfl⟩
        rename_i H7
        refine ⟨_, rfl, .inl ⟨rfl, _, SqL.of hk7⟩, _, rfl, p, _, _, rfl, rfl, hk7, small1000 (by rw [List.length_map]; omega), ?_⟩
        have f8 : Fr [p] H7 (upd H7 p (.lst (ks.map V.str ++ [.str nm]))) := Fr.set (by simp) hk7 fun xs z => by cases z
        refine ⟨?_, B7.fr f8 (fun z => np (by rw [← List.mem_singleton.mp z]; simp)) (fun z => np (by rw [← List.mem_singleton.mp z]; simp)), ks ++ [nm], _, _, _, ?_, by rw [List.length_append, lk]; rfl, fun x hx => ?_, rfl⟩
        · exact (fi.then (f7.mono fun x h => by simp at h ⊢; rcases h with h | h <;> simp [h])).then (f8.mono fun x h => by simp at h ⊢; simp [h])
        · show (upd H7 p _) p = some (.lst ((ks ++ [nm]).map V.str))
          rw [upd_same, List.map_append]
          rfl
        · rcases List.mem_append.mp hx with h | h
          · exact gk x h
          · rw [List.mem_singleton.mp h]
            exact gn
    · rintro σ H' ⟨fi, Bi, ks, v7, v8, v9, hk, lk, gk, rfl⟩
      have em : ((many : Nat) : Int).toNat = many := Int.toNat_natCast _
      rw [em] at Bi lk
      refine ⟨_, rfl, q H' p ks (fi.less fun x h => ?_) Bi hp0 hk lk gk⟩
      simp at h
      rcases h with h | h | h
      · left; simp [h]
      · left; simp [h]
      · right; rw [h]; exact hp0
end
end Cg

set_option Elab.async false
set_option linter.all false
set_option maxRecDepth 100000
set_option maxHeartbeats 400000
namespace Cg
open PySem PySem.Spec PyProof.Rows L2
theorem BoxAt.there {H : Hp} {b ca : Addr} {n : Nat} (B : BoxAt H b ca n) : ∀ x ∈ [b, ca], (H x).isSome = true := fun x h => by
  obtain ⟨xs, e, _⟩ := B.cells
  obtain ⟨_, _, _, e2, _⟩ := B.ob
  rcases List.mem_cons.mp h with h | h
  · rw [h, e2]; rfl
  · rw [List.mem_singleton.mp h, e]; rfl
/-- what picks keeps: the probe and the list are new -/
structure Pk (H H' : Hp) (b ca : Addr) (n : Nat) (a : MAd) (c : Cfg) (s : Sg Str) (d : Int) (p : Addr) (ps : List Int) : Prop where
  fr : Fr [b, ca] H H'
  here : ∀ x ∈ [b, ca], (H x).isSome = true
  box : BoxAt H' b ca n
  md : ModAt H' a c s d
  ok : Ok c s
  fresh : ∀ x ∈ a.fp, H x = none
  np : p ∉ a.fp
  lst : H' p = some (.lst (ps.map V.int))
  new : H p = none
section
variable {H H' H2 : Hp} {b ca : Addr} {n : Nat} {a a2 : MAd} {c : Cfg} {s s2 : Sg Str} {d : Int} {p : Addr} {ps : List Int}
theorem Pk.out (k : Pk H H' b ca n a c s d p ps) {x : Addr} (h : H x = none) : x ∉ [b, ca] := fun z => by
  have := k.here x z
  rw [h] at this
  cases this
theorem Pk.draw (k : Pk H H' b ca n a c s d p ps) {m : Nat} (f : Fr [b, ca] H' H2) (B : BoxAt H2 b ca m) : Pk H H2 b ca m a c s d p ps :=
  ⟨k.fr.then f, k.here, B, k.md.fr f fun x hx => k.out (k.fresh x hx), k.ok, k.fresh, k.np, f.all _ _ k.lst (k.out k.new), k.new⟩
theorem Pk.read (k : Pk H H' b ca n a c s d p ps) (f : Fr [] H' H2) : Pk H H2 b ca n a c s d p ps := k.draw f.in (k.box.fr f (by simp) (by simp))
theorem Pk.mod (k : Pk H H' b ca n a c s d p ps) (t : ModTo H' a c s2 d H2 a2) (o : Ok c s2) : Pk H H2 b ca n a2 c s2 d p ps := by
  have nb : ∀ x ∈ [b, ca], x ∉ a.fp := fun x hx z => k.out (k.fresh x z) hx
  refine ⟨k.fr.trans t.1 fun x hx => .inr (k.fresh x hx), k.here, k.box.fr t.1 (nb _ (by simp)) (nb _ (by simp)), t.2.2.2, o, fun x hx => ?_, fun z => ?_, t.1.all _ _ k.lst k.np, k.new⟩
  · rcases t.2.2.1 x hx with h | h
    · exact k.fresh x h
    · exact k.fr.free h fun y hy => by
        have := k.here y hy
        exact k.box.there y hy
  · rcases t.2.2.1 p z with h | h
    · exact k.np h
    · rw [k.lst] at h
      cases h
theorem Pk.put (k : Pk H H' b ca n a c s d p ps) (x : Int) : Pk H (upd H' p (.lst (ps.map V.int ++ [.int x]))) b ca n a c s d p (ps ++ [x]) := by
  have f : Fr [p] H' (upd H' p (.lst (ps.map V.int ++ [.int x]))) := Fr.set (by simp) k.lst fun xs z => by cases z
  have nb : ∀ x ∈ [b, ca], x ∉ [p] := fun x hx z => k.out k.new (by rw [← List.mem_singleton.mp z]; exact hx)
  refine ⟨k.fr.trans f fun x hx => .inr (by rw [List.mem_singleton.mp hx]; exact k.new), k.here, k.box.fr f (nb _ (by simp)) (nb _ (by simp)), k.md.fr f fun x hx z => k.np (by rw [← List.mem_singleton.mp z]; exact hx), k.ok, k.fresh, k.np, ?_, k.new⟩
  rw [upd_same, List.map_append]
  rfl
end
abbrev pkS (a mm pm p : Addr) (k : Str) (mood : Int) (v6 v7 v8 v9 v10 v11 : Option V) : L2.St := [some (.ref a), some (.ref mm), some (.str k), some (.int mood), some (.ref pm), some (.ref p), v6, v7, v8, v9, v10, v11]
section
variable {P : Program} {w : World} {K : PySem.W.Frag} {mg : Str → Option Value} {base : Heap} {f : Addr} {fd : FuncData}
/-! ### _law_picks -/
def sp_picks : Sp := fun vs H Q _ => ∃ (b ca : Addr) (n : Nat) (a : MAd) (c : Cfg) (s : Sg Str) (d : Int) (k : Str) (mood : Int), vs = [.ref b, .ref a.m, .str k, .int mood] ∧ BoxAt H b ca n ∧ n ≤ 800000 ∧ ModAt H a c s d ∧ Ok c s ∧ 0 ≤ c.load ∧ (∀ x ∈ a.fp, x ∉ [b, ca]) ∧
  ∀ (H' : Hp) (p : Addr) (ps : List Int), Fr [b, ca] H H' → BoxAt H' b ca (n + 14) → H p = none → H' p = some (.lst (ps.map V.int)) → ps.length ≤ 12 → Q (.ref p) H'
abbrev s_picks : Stmt := topS 39
theorem sc_picks : FnScope ["_law_box_here", "_law_model_here", "_law_name", "_law_mood", "_law_probe", "_law_picks_here", "_law_way", "_law_many", "_law_k", "_law_shut_here", "_law_pick", "_law_spot"] ["_law_box_here", "_law_model_here", "_law_name", "_law_mood"] (C8.fnScope s_picks) := C8.fnScope_by (by decide +kernel)
theorem k_picks (T : Bi mg) (F : C8.Def K mg "_law_picks" s_picks f fd) (b : Binds K fd ["_law_box_here", "_law_model_here", "_law_name", "_law_mood"] []) (c_draw : C8.Cal P w K mg base 1 "_law_draw" sp_draw [])
    (c_copy : C8.Cal P w K mg base 1 "_law_copy" sp_copy []) (c_begin : C8.Cal P w K mg base 4 "_law_begin" sp_begin []) (c_shut : C8.Cal P w K mg base 2 "_law_shut" (sp_mlist fun s => shut s.1 s.2) [])
    (c_room : C8.Cal P w K mg base 2 "_law_room" sp_room []) (c_empty : C8.Cal P w K mg base 1 "_law_empty" (sp_mlist fun s => empties s.1) []) (c_alive : C8.Cal P w K mg base 1 "_law_alive" sp_alive [])
    (c_move : C8.Cal P w K mg base 4 "_law_move" sp_move []) : C8.Cal P w K mg base 5 "_law_picks" sp_picks [] := by
  refine C8.cal0 F b .nil sc_picks (fun vs H Q E h => ?_) (fun cdv A outer s0 H vs Q E hr h => ?_)
  · obtain ⟨a, ca, n, m, c, s, d, k, mood, rfl, _⟩ := h
    rfl
  · obtain ⟨a, ca, n, m, c, s, d, k, mood, rfl, B, hn, M, ok, hld, nm, q⟩ := h
    have hu := hu_of hr
    have hl := ok.lsm
    have hw := ok.wsm
    refine ⟨_, pss_cons (ps_set (i := 4) sc_picks.nd rfl (by first | exact Or.inl rfl | exact Or.inr rfl) (C8.pe_c c_copy hr (by decide) rfl (pa_cons (pv 1) pa_nil)))
      (pss_cons (ps_set (i := 5) sc_picks.nd rfl (by first | exact Or.inl rfl | exact Or.inr rfl) (pe_lst pa_nil))
      (pss_cons (ps_if (pt_cmp (pc_notN (C8.pe_c c_begin hr (by decide) rfl (pa_cons (pv 4) (pa_cons (pv 2) (pa_cons (pe_int) (pa_cons (pe_int) pa_nil))))))) (pss_one (ps_ret (pv 5))) (pss_nil))
      (pss_cons (ps_set (i := 6) sc_picks.nd rfl (by first | exact Or.inl rfl | exact Or.inr rfl) (pv 3))
      (C8.pss_cut (ps_if (pt_cmpR op_gt (pv 3) (pe_int) (nomark _)) (pss_one (ps_set (i := 6) sc_picks.nd rfl (by first | exact Or.inl rfl | exact Or.inr rfl) (C8.pe_c c_draw hr (by decide) rfl (pa_cons (pv 0) (pa_cons (pe_int) pa_nil))))) (pss_nil))
      (pss_cons (ps_set (i := 7) sc_picks.nd rfl (by first | exact Or.inl rfl | exact Or.inr rfl) (pe_callB (call_min2 rfl) (by rfl) T.min (by decide +kernel) (pa_cons (pe_dget hu (pv 1) (pe_str) (fun _ _ => rfl)) (pa_cons (pe_int) pa_nil))))
      (C8.pss_cut (ps_if (pt_cmpR op_eq (pv 6) (pe_int) (nomark _)) (pss_one (ps_set (i := 7) sc_picks.nd rfl (by first | exact Or.inl rfl | exact Or.inr rfl) (C8.pe_c c_draw hr (by decide) rfl (pa_cons (pv 0) (pa_cons (pe_op op_add (pv 7) (pe_int)) pa_nil))))) (pss_nil))
      (C8.pss_cut (ps_if (pt_cmpR op_eq (pv 6) (pe_int) (nomark _)) (pss_one (ps_set (i := 7) sc_picks.nd rfl (by first | exact Or.inl rfl | exact Or.inr rfl) (pe_int))) (pss_nil))
      (pss_cons (ps_for PassesOwn.never rfl (pi_range1 rfl T.range (pa_cons (pv 7) pa_nil)) (pg_name (i := 8) sc_picks.nd rfl (by first | exact Or.inl rfl | exact Or.inr rfl))
        (pss_cons (ps_set (i := 9) sc_picks.nd rfl (by first | exact Or.inl rfl | exact Or.inr rfl) (C8.pe_c c_shut hr (by decide) rfl (pa_cons (pv 4) pa_nil)))
      (pss_cons (ps_if (PW.pt (pw_or (pt_cmpR op_eq (pe_callB call_len_seq (by rfl) T.len PySem.boot_len (pa_cons (pv 9) pa_nil)) (pe_int) (nomark _)) (pw_or1 (pt_cmpR op_eq (C8.pe_c c_room hr (by decide) rfl (pa_cons (pv 4) pa_nil)) (pe_int) (nomark _))))) (pss_one (ps_break)) (pss_nil))
      (C8.pss_cut (ps_if (PW.pt (pw_and (pt_cmpR op_eq (pv 6) (pe_int) (nomark _)) (pw_and1 (pt_cmpR op_gt (pe_callB call_len_seq (by rfl) T.len PySem.boot_len (pa_cons (C8.pe_c c_empty hr (by decide) rfl (pa_cons (pv 4) pa_nil)) pa_nil)) (pe_int) (nomark _))))) (pss_one (ps_break)) (pss_nil))
      (pss_cons (ps_set (i := 10) sc_picks.nd rfl (by first | exact Or.inl rfl | exact Or.inr rfl) (pe_ix ix_list (pv 9) (pe_int) (fun _ _ => rfl)))
      (C8.pss_cut (ps_if (pt_cmpR op_eq (pv 6) (pe_int) (nomark _)) (pss_one (ps_set (i := 10) sc_picks.nd rfl (by first | exact Or.inl rfl | exact Or.inr rfl) (pe_ix ix_list (pv 9) (C8.pe_c c_draw hr (by decide) rfl (pa_cons (pv 0) (pa_cons (pe_callB call_len_seq (by rfl) T.len PySem.boot_len (pa_cons (pv 9) pa_nil)) pa_nil))) (fun _ _ => rfl)))) (pss_one (ps_for PassesOwn.never rfl (pi_list (pv 9)) (pg_name (i := 11) sc_picks.nd rfl (by first | exact Or.inl rfl | exact Or.inr rfl))
        (pss_one (ps_if (pt_cmpR op_lt (C8.pe_c c_alive hr (by decide) rfl (pa_cons (pe_ix ix_list (pe_dget hu (pv 4) (pe_str) (fun _ _ => rfl)) (pv 11) (fun _ _ => rfl)) pa_nil)) (C8.pe_c c_alive hr (by decide) rfl (pa_cons (pe_ix ix_list (pe_dget hu (pv 4) (pe_str) (fun _ _ => rfl)) (pv 10) (fun _ _ => rfl)) pa_nil)) (nomark _)) (pss_one (ps_set (i := 10) sc_picks.nd rfl (by first | exact Or.inl rfl | exact Or.inr rfl) (pv 11))) (pss_nil))))))
      (C8.pss_cut (ps_expr (C8.pe_c c_move hr (by decide) rfl (pa_cons (pv 4) (pa_cons (pv 10) pa_nil))))
      (pss_one (ps_expr (pe_bm PySem.F.plainAttrs_list PySem.F.slot_list_append PySem.F.type_list_append mt_append (pv 5) (pa_cons (pv 10) pa_nil)))))))))))
      (pss_one (ps_ret (pv 5))))))))))), ?_⟩
    refine ⟨_, rfl, m, c, s, d, rfl, M, ok, fun H1 m1 f1 fm1 M1 => ?_⟩
    refine ⟨(by show 0 ≤ sizeLine; decide), fun p hp => ?_⟩
    have f2 : Fr [] H1 (upd H1 p (.lst [])) := Fr.new hp
    have hp0 : H p = none := f1.free hp fun x h => by cases h
    have K2 : Pk H (upd H1 p (.lst [])) a ca n m1 c s d p [] :=
      ⟨(f1.then f2).in, B.there, (B.fr f1 (by simp) (by simp)).fr f2 (by simp) (by simp), M1.fr0 f2, ok, fm1, fun z => by
        have := M1.there p z
        rw [hp] at this
        exact Bool.noConfusion this, upd_same, hp0⟩
    generalize upd H1 p (.lst []) = H2 at f2 K2 ⊢
    refine ⟨_, rfl, _, rfl, m1, c, s, d, k, 0, 0, rfl, K2.md, ok, fun r er H3 t f3 nt ht => ?_, fun s1 es1 H3 m2 t3 => ?_⟩
    · have K3 := K2.read f3
      exact ⟨_, rfl, iteT' rfl ⟨_, rfl, q H3 p [] K3.fr (K3.box.le (by omega)) hp0 K3.lst (by decide)⟩⟩
    refine ⟨_, rfl, iteF' rfl ?_⟩
    obtain ⟨w1, l1, _⟩ := start_ok ok.wf es1
    have ok1 : Ok c s1 := ⟨w1, hw, by rw [l1]; exact hl⟩
    have K3 := K2.mod t3 ok1
    have em3 : m2.m = m1.m := t3.2.1
    clear f1 f2 M1 fm1 hp t3 es1 w1 K2
    refine ⟨_, rfl, ?_⟩
    have M3 : ∀ {H' : Hp} {n' : Nat} {a' : MAd} {s' : Sg Str} {ps : List Int}, Pk H H' a ca n' a' c s' d p ps → ModAt H' m c s d := fun K => M.fr K.fr nm
    -- the way
    refine ⟨fun σ H' => Pk H H' a ca (n + 1) m2 c s1 d p [] ∧ ∃ way : Int, σ = pkS a m.m m1.m p k mood (some (.int way)) none none none none none, ?_, ?_⟩
    · refine ⟨_, rfl, _, _, rfl, rfl, _, rfl, ite2 (fun hb => ?_) (fun hb => ?_)⟩
      · refine ⟨_, rfl, a, ca, 3, n, rfl, K3.box, by omega, by decide, by decide, fun H4 x f4 B4 x0 x1 => ?_⟩
        exact ⟨K3.draw f4 B4, x, rfl⟩
      · exact ⟨K3.draw (Fr.refl _ _) (K3.box.le (by omega)), mood, rfl⟩
    clear K3
    rintro σ H4 ⟨K4, way, rfl⟩
    have M4 := M3 K4
    refine ⟨_, rfl, m.m, _, rfl, M4.g_load, _, _, rfl, ?_⟩
    have hmn : 0 ≤ (if (12 : Int) < c.load then 12 else c.load) ∧ (if (12 : Int) < c.load then 12 else c.load) ≤ 12 := by split <;> omega
    generalize (if (12 : Int) < c.load then 12 else c.load) = mn at hmn
    refine ⟨fun σ H' => Pk H H' a ca (n + 2) m2 c s1 d p [] ∧ ∃ mn : Int, 0 ≤ mn ∧ mn ≤ 12 ∧ σ = pkS a m.m m1.m p k mood (some (.int way)) (some (.int mn)) none none none none, ?_, ?_⟩
    · refine ⟨_, rfl, rfl, _, rfl, ite2 (fun hb => ?_) (fun hb => ?_)⟩
      · refine ⟨_, rfl, _, rfl, _, _, rfl, rfl, a, ca, _, n + 1, rfl, K4.box, by omega, by omega, by omega, fun H5 x f5 B5 x0 x1 => ?_⟩
        exact ⟨K4.draw f5 B5, x, x0, by omega, rfl⟩
      · exact ⟨K4.draw (Fr.refl _ _) (K4.box.le (by omega)), mn, hmn.1, hmn.2, rfl⟩
    clear K4 M4 H4 hmn mn
    rintro σ H4 ⟨K4, mn, mn0, mn1, rfl⟩
    refine ⟨fun σ H' => H' = H4 ∧ ∃ mn : Int, 0 ≤ mn ∧ mn ≤ 12 ∧ σ = pkS a m.m m1.m p k mood (some (.int way)) (some (.int mn)) none none none none, ?_, ?_⟩
    · refine ⟨_, rfl, rfl, _, rfl, ite2 (fun hb => ?_) (fun hb => ?_)⟩
      · exact ⟨rfl, 0, by omega, by omega, rfl⟩
      · exact ⟨rfl, mn, mn0, mn1, rfl⟩
    clear mn0 mn1 mn
    rintro σ _ ⟨rfl, mn, mn0, mn1, rfl⟩
    rename_i H4
    refine ⟨_, rfl, _, rfl, by omega, by omega, ?_⟩
    have fin : ∀ {H' : Hp} {i : Nat} {a' : MAd} {s' : Sg Str} {ps : List Int} (v8 v9 v10 v11 : Option V), i ≤ 12 → Pk H H' a ca (n + 2 + i) a' c s' d p ps → ps.length ≤ i → Q (.ref p) H' := fun v8 v9 v10 v11 hi K hl => q _ p _ K.fr (K.box.le (by omega)) hp0 K.lst (by omega)
    refine for_range (fun i σ H' => ∃ (a' : MAd) (s' : Sg Str) (ps : List Int) (v8 v9 v10 v11 : Option V), Pk H H' a ca (n + 2 + i) a' c s' d p ps ∧ ps.length = i ∧ a'.m = m1.m ∧ σ = pkS a m.m m1.m p k mood (some (.int way)) (some (.int mn)) v8 v9 v10 v11) ⟨m2, s1, [], none, none, none, none, K4, rfl, em3, rfl⟩ ?_ ?_
    · clear K4
      rintro i σ H5 hi ⟨a5, s5, ps, v8, v9, v10, v11, K5, lps, em5, rfl⟩
      have hi12 : i < 12 := by omega
      rw [← em5]
      refine ⟨_, rfl, a5, c, s5, d, rfl, K5.md, K5.ok, fun H6 y f6 ny hy => ?_⟩
      have K6 := K5.read f6
      have hlS : ((shut s5.1 s5.2).map fun j : Nat => V.int j).length = (shut s5.1 s5.2).length := List.length_map ..
      refine ⟨_, rfl, y, _, rfl, .inl (SqL.of hy), rfl, _, rfl, ite2 (fun hb => ?_) (fun hb => ?_)⟩
      · exact ⟨_, rfl, fin none none none none (by omega) K6 (by omega)⟩
      · rw [dec_0, hlS] at hb
        have hne : (shut s5.1 s5.2) ≠ [] := fun z => hb (by rw [z]; rfl)
        refine ⟨_, rfl, a5, c, s5, d, rfl, K6.md, K6.ok, fun H7 f7 => ?_⟩
        have K7 := K6.read f7
        have hy7 := f7.all _ _ hy (by simp)
        refine ⟨rfl, _, rfl, ite2 (fun hb2 => ?_) (fun hb2 => ?_)⟩
        · exact ⟨_, rfl, fin none none none none (by omega) K7 (by omega)⟩
        · have hy0 : H y = none := K5.fr.free ny fun x hx => K5.box.there x hx
          have yo := K5.out hy0
          have sm : ∀ j ∈ shut s5.1 s5.2, j < s5.1.length := fun j hj => (shut_mem.mp hj).1
          -- room to spare for a way of its own
          refine ⟨fun σ H' => Pk H H' a ca (n + 2 + i) a5 c s5 d p ps ∧ H' y = some (.lst ((shut s5.1 s5.2).map fun j : Nat => V.int j)) ∧ σ = pkS a m.m a5.m p k mood (some (.int way)) (some (.int mn)) (some (.int (0 + (i : Nat)))) (some (.ref y)) v10 v11, ?_, ?_⟩
          · refine ⟨_, rfl, rfl, _, rfl, ite2 (fun hb3 => ?_) (fun hb3 => ?_)⟩
            · refine ⟨_, rfl, a5, c, s5, d, rfl, K7.md, K7.ok, fun H8 z f8 nz hz => ?_⟩
              have K8 := K7.read f8
              refine ⟨z, _, rfl, .inl (SqL.of hz), _, _, rfl, rfl, _, rfl, ite2 (fun hb4 => ?_) (fun hb4 => ?_)⟩
              · exact ⟨_, rfl, fin none none none none (by omega) K8 (by omega)⟩
              · exact ⟨K8, f8.all _ _ hy7 (by simp), rfl⟩
            · exact iteF ⟨K7, hy7, rfl⟩
          clear K6 K7 hy7 f6 f7 hy H6 H7 hb2
          rintro σ H7 ⟨K7, hy7, rfl⟩
          have h0 : (shut s5.1 s5.2)[0]? = some ((shut s5.1 s5.2).headD 0) := headD_get hne
          have hv0 : ((shut s5.1 s5.2).map fun j : Nat => V.int j)[0]? = some (.int ((shut s5.1 s5.2).headD 0 : Nat)) := by
            rw [List.getElem?_map, h0]
            rfl
          have hj0 := sm _ (List.mem_of_getElem? h0)
          generalize (shut s5.1 s5.2).headD 0 = j0 at hv0 hj0
          refine ⟨_, rfl, y, _, 0, _, rfl, rfl, SqL.of hy7, atI_nat (j := 0) hv0, ?_⟩
          refine ⟨fun σ H' => Pk H H' a ca (n + 2 + (i + 1)) a5 c s5 d p ps ∧ ∃ (j : Nat) (v11 : Option V), σ = pkS a m.m a5.m p k mood (some (.int way)) (some (.int mn)) (some (.int (0 + (i : Nat)))) (some (.ref y)) (some (.int (j : Nat))) v11, ?_, ?_⟩
          · refine ⟨_, rfl, rfl, _, rfl, ite2 (fun hb3 => ?_) (fun hb3 => ?_)⟩
            · have hlen : 0 < (shut s5.1 s5.2).length := List.length_pos_iff.mpr hne
              have hlen2 : (shut s5.1 s5.2).length ≤ s5.1.length := by
                refine Nat.le_trans (List.length_filter_le _ _) ?_
                rw [List.length_range]
                exact Nat.le_refl _
              have := K7.ok.lsm
              refine ⟨_, rfl, _, rfl, _, rfl, y, _, rfl, .inl (SqL.of hy7), a, ca, _, n + 2 + i, rfl, K7.box, by omega, by rw [hlS]; omega, by rw [hlS]; omega, fun H8 x f8 B8 x0 x1 => ?_⟩
              rw [hlS] at x1
              have hx : x.toNat < (shut s5.1 s5.2).length := by omega
              have ex : ((x.toNat : Nat) : Int) = x := Int.toNat_of_nonneg x0
              have eg : ((shut s5.1 s5.2).map fun j : Nat => V.int j)[x.toNat]? = some (.int ((shut s5.1 s5.2)[x.toNat] : Nat)) := by
                rw [List.getElem?_map, List.getElem?_eq_getElem hx]
                rfl
              have eat := atI_nat eg
              rw [ex] at eat
              exact ⟨y, _, _, _, rfl, rfl, SqL.of (f8.all _ _ hy7 yo), eat, K7.draw f8 B8, _, _, rfl⟩
            · refine ⟨_, rfl, y, rfl, ⟨_, SqL.of hy7⟩, ?_⟩
              refine for_list (K := K) (a := y) (xs := (shut s5.1 s5.2).map fun j : Nat => V.int j) (fun _ σ H' => Pk H H' a ca (n + 2 + i) a5 c s5 d p ps ∧ H' y = some (.lst ((shut s5.1 s5.2).map fun j : Nat => V.int j)) ∧ ∃ (j : Nat) (v11 : Option V), j < s5.1.length ∧ σ = pkS a m.m a5.m p k mood (some (.int way)) (some (.int mn)) (some (.int (0 + (i : Nat)))) (some (.ref y)) (some (.int (j : Nat))) v11) ⟨K7, hy7, j0, v11, hj0, rfl⟩ (fun _ σ H' _ z => SqL.of z.2.1) ?_ ?_
              · rintro jj x σ H8 hx ⟨K8, hy8, j, v11, hj, rfl⟩
                rw [List.getElem?_map] at hx
                cases ei : (shut s5.1 s5.2)[jj]? with
                | none =>
                  rw [ei] at hx
                  cases hx
                | some j2 =>
                  rw [ei] at hx
                  have hx2 : V.int (j2 : Int) = x := Option.some.inj hx
                  subst hx2
                  have hj2 := sm _ (List.mem_of_getElem? ei)
                  obtain ⟨r, rs, g1, g2, hr1, hv1⟩ := K8.md.at_row hj2
                  refine ⟨_, rfl, a5.m, _, rfl, K8.md.g_rows, _, rfl, a5.ra, _, _, _, rfl, rfl, SqL.of K8.md.rows, atI_nat g2, r, rs, _, rfl, hr1, hv1, K8.ok.row j2, fun H9 f9 => ?_⟩
                  have K9 := K8.read f9
                  obtain ⟨r2, rs2, g3, g4, hr2, hv2⟩ := K9.md.at_row hj
                  refine ⟨_, rfl, a5.m, _, rfl, K9.md.g_rows, _, rfl, a5.ra, _, _, _, rfl, rfl, SqL.of K9.md.rows, atI_nat g4, r2, rs2, _, rfl, hr2, hv2, K9.ok.row j, fun HA fA => ?_⟩
                  have KA := K9.read fA
                  have hyA := fA.all _ _ (f9.all _ _ hy8 (by simp)) (by simp)
                  refine ⟨_, _, rfl, rfl, _, rfl, ite2 (fun hb5 => ?_) (fun hb5 => ?_)⟩
                  · exact ⟨_, rfl, KA, hyA, j2, _, hj2, rfl⟩
                  · exact ⟨KA, hyA, j, _, hj, rfl⟩
              · rintro σ H8 ⟨K8, hy8, j, v11, hj, rfl⟩
                exact ⟨K8.draw (Fr.refl _ _) (K8.box.le (by omega)), j, v11, rfl⟩
          clear K7 hy7 hv0 hj0 H7
          rintro σ H7 ⟨K7, j, v11, rfl⟩
          refine ⟨fun σ H' => ∃ (a6 : MAd) (s6 : Sg Str), Pk H H' a ca (n + 2 + (i + 1)) a6 c s6 d p ps ∧ a6.m = a5.m ∧ σ = pkS a m.m a5.m p k mood (some (.int way)) (some (.int mn)) (some (.int (0 + (i : Nat)))) (some (.ref y)) (some (.int (j : Nat))) v11, ?_, ?_⟩
          · refine ⟨_, rfl, _, rfl, a5, c, s5, d, j, rfl, K7.md, K7.ok, fun em H8 f8 => ?_, fun s6 em H8 a6 t8 => ?_⟩
            · exact ⟨a5, s5, K7.read f8, rfl, rfl⟩
            · obtain ⟨w6, l6, _⟩ := move_ok K7.ok.wf em
              exact ⟨a6, s6, K7.mod t8 ⟨w6, hw, by rw [l6]; exact K7.ok.lsm⟩, t8.2.1, rfl⟩
          clear K7 H7
          rintro σ H7 ⟨a6, s6, K7, em6, rfl⟩
          refine ⟨_, rfl, .inl ⟨rfl, _, SqL.of K7.lst⟩, _, rfl, p, _, _, rfl, rfl, K7.lst, small1000 (by rw [List.length_map]; omega), ?_⟩
          exact ⟨a6, s6, ps ++ [(j : Int)], _, _, _, _, K7.put j, by rw [List.length_append, lps]; rfl, em6, rfl⟩
    · rintro σ H5 ⟨a5, s5, ps, v8, v9, v10, v11, K5, lps, em5, rfl⟩
      exact ⟨_, rfl, fin v8 v9 v10 v11 (i := mn.toNat) (by omega) K5 (by omega)⟩
end
end Cg

set_option Elab.async false
set_option linter.all false
set_option maxRecDepth 100000
set_option maxHeartbeats 400000
/-! The store's errors: class C(StoreError) whose __init__ says super().__init__(message), then self.f = f. -/
namespace CgE
open PySem PySem.W PySem.Calls PyProof.Rows PySem.HandSPX
/-! ### the text of __init__ -/
def iA (f : Str) (p1 p2 : Pos) : Arguments := { posonlyargs := [], args := [{ arg := "self", annotation := none, pos := p1 }, { arg := f, annotation := none, pos := p2 }], vararg := none, kwonlyargs := [], kw_defaults := [], kwarg := none, defaults := [] }
def iB (f : Str) (msg : Expr) (r1 r2 r3 r4 r5 q1 q2 q3 q4 : Pos) : List Stmt :=
  [.Expr (.Call (.Attribute (.Call (.Name "super" r1) [] [] r2) "__init__" r3) [msg] [] r4) r5, .Assign [.Attribute (.Name "self" q1) f q2] (.Name f q3) q4]
def iS (f : Str) : Scope := { kind := .function, names := [("self", .local), (f, .local), ("__class__", .free), ("super", .globalImplicit)], isGenerator := false, isCoroutine := false, more := [] }
/-- the frame of __init__ -/
abbrev iE (f qual : Str) (L fI cda cc : Addr) : Env := ksEnv qual (iS f) L fI (.ref cda) cc
/-- the message, evaluated in that frame: some text, nothing else changes -/
def MsgOk (prog : Program) (w : World) (f qual : Str) (fI cda cc : Addr) (msg : Expr) (v : Value) : Prop :=
  ∀ (A : Around) (E : Value → Shared → Prop) (L : Addr) (s : Shared) (m : Str → Option Value) (Q : Value → Shared → Prop), s.heap.Ns L m → m f = some v → (∀ u tk, Q u { s with toks := tk }) → wpAny (model prog w) A (eval msg (iE f qual L fI cda cc)) Q E s
/-- what the written part says of the class at C, and of its __init__, at fI -/
structure ErrTxt (prog : Program) (K : Frag) (mg : Str → Option Value) (cn f qual : Str) (msg : Expr) (C fI cda cc : Addr) : Prop where
  gC : mg cn = some (.ref C)
  cls : ∃ nm q N bs bm sn sub ab col dd k0 k1 k2 k3 k5, K.lookup C = some (excClassObj nm q C N bs bm true sn sub ab col dd k0 k1 k2 k3 k5 "ValueError.__new__") ∧ refsVE bm = true
  sa : findIn K (.ref C) "__setattr__" = some (some (.builtin "object.__setattr__"))
  noN : findIn K (.ref C) f = some none
  iC : findIn K (.ref C) "__init__" = some (some (.ref fI))
  tC : typeIn K (.ref fI) = some (.type "function")
  kC : keepIn K (.ref C) = true
  exC : subIn K (.ref C) (.type "BaseException") = some true
  tyC : typeIn K (.ref C) = some (.type "type")
  sup : ks_superIn K C C "__init__" = some (some (.builtin "ValueError.__init__"))
  hB : subIn K (.ref C) (.type "ValueError") = some true
  hsub : mroIn K C (.ref C) = some true
  opq : nsIn K cStatics "thirdparty.any" = some none
  noS : mg "super" = none
  fn : ∃ (oc : Value) (od : Option Addr) (doc pm : Value) (an : Option Addr) (ct : Value) (osl : Array (Option Value)) (p1 p2 r1 r2 r3 r4 r5 q1 q2 q3 q4 : Pos),
    K.lookup fI = some ⟨oc, od, .func (ksFn "__init__" qual (iA f p1 p2) (iB f msg r1 r2 r3 r4 r5 q1 q2 q3 q4) (iS f) .none .none doc pm an (.ref cda) ct cc), osl⟩ ∧ (r3.endLine == r4.line) = true
  cd : codeIn K (.ref cda) qual = true
  code : ∃ (ccl : Value) (cdd : Option Addr) (vs : Array Value) (ccs : Array (Option Value)) (file : Str) (tf : Tok), K.lookup cda = some ⟨ccl, cdd, .fields vs, ccs⟩ ∧ vs[2]? = some (.str file tf) ∧ ((prog.main.file : Str) == file) = true
  cell : ∃ (cl : Value) (cld : Option Addr) (csl : Array (Option Value)), K.lookup cc = some ⟨cl, cld, .cell (some (.ref C)), csl⟩
  top : (prog.main.scope.names.lookup ("super" : Str)).isSome = false
  sgl : (f == ("self" : Str)) = false
  lk : (iS f).names.lookup f = some .local
  kU : ∀ L, (iE f qual L fI cda cc).kindOf "super" = some .globalImplicit
  kK : ∀ L, (iE f qual L fI cda cc).kindOf "__class__" = some .free
  kM : ∀ L, (iE f qual L fI cda cc).kindOf "self" = some .local
  kF : ∀ L, (iE f qual L fI cda cc).kindOf f = some .local
  dbg : (f == ("__debug__" : Str)) = false
  bd : ∀ (body : List Stmt) (doc pm cdv ct : Value) (an : Option Addr) (p1 p2 : Pos) (s : Shared) (x v : Value), BindsTo s (ksFn "__init__" qual (iA f p1 p2) body (iS f) .none .none doc pm an cdv ct cc) ⟨[x, v], []⟩ [("self", x), (f, v)]
/-- the message is a plain argument -/
structure MsgTxt (msg : Expr) : Prop where
  call : ∀ (env : Env) (r1 r2 r3 r4 : Pos), (r3.endLine == r4.line) = true → ∃ pl : Sem Bool, eval (.Call (.Attribute (.Call (.Name "super" r1) [] [] r2) "__init__" r3) [msg] [] r4) env = (do
    let ov ← attributeBase (.Call (.Name "super" r1) [] [] r2) "__init__" env (eval (.Call (.Name "super" r1) [] [] r2) env)
    standAt r3.atName
    let (f, first) ← holding [ov] (getMethod ov "__init__" pl)
    callWith r4 f first (backTo r4 (starEach [msg] env)) [])
  star : ∀ env : Env, starEach (msg :: []) env = (false, eval msg env) :: starEach [] env
/-- a plain argument, told by its two looks -/
theorem MsgTxt.of {msg : Expr} (hs : ∀ env : Env, starEach (msg :: []) env = (false, eval msg env) :: starEach [] env) (hm : ∀ (env : Env) (p : Pos), methodCallForm 1 (backTo p (starEach [msg] env)) [] = true) : MsgTxt msg := by
  refine ⟨fun env r1 r2 r3 r4 h => ⟨(do return (← importBound (.Call (.Name "super" r1) [] [] r2) env).getD true), ?_⟩, hs⟩
  have e1 : methodCallPos true (.Call (.Name "super" r1) [] [] r2) env r3 r4 = pure r4 := by
    unfold methodCallPos
    rw [h]
    rfl
  rw [arm_eval_Call]
  unfold methodCall
  show (do
    let ov ← attributeBase (.Call (.Name "super" r1) [] [] r2) "__init__" env (eval (.Call (.Name "super" r1) [] [] r2) env)
    standAt r3.atName
    let (f, first) ← holding [ov] (calleeOf (methodCallForm 1 (backTo r4 (starEach [msg] env)) []) (.Call (.Name "super" r1) [] [] r2) env ov "__init__")
    let callPos ← methodCallPos (methodCallForm 1 (backTo r4 (starEach [msg] env)) []) (.Call (.Name "super" r1) [] [] r2) env r3 r4
    callWith callPos f first (backTo r4 (starEach [msg] env)) []) = _
  rw [hm env r4, e1]
  rfl
theorem kept_but {K : Frag} {h h' : Heap} {x : Addr} (X : K.In h) (hx : K.lookup x = none) (k : ∀ b o, b ≠ x → h.get? b = some o → h'.get? b = some o) : K.In h' := fun a o e =>
  k a o (fun z => by rw [z, hx] at e; cases e) (X a o e)
theorem one_size (v : Value) : [v].length ≤ sizeLine := by
  rw [sizeLine_eq]
  exact (by decide : 1 ≤ 16777216)
/-- what __init__ leaves of a fresh exception at x -/
structure InitEnd (f : Str) (h h' : Heap) (x C dx t1 : Addr) (v : Value) : Prop where
  keep : ∀ b o, b ≠ x → h.get? b = some o → h'.get? b = some o
  obj : h'.get? x = some { cls := .ref C, dict := some dx, data := .fields #[.ref t1, .none, .none, .none, .bool false, .none] }
  dbig : h.objs.size ≤ dx
  dne : dx ≠ x
  ns : h'.Ns1 dx (fun y => if y = f then some v else none)
structure OwnMade (f : Str) (h h' : Heap) (e C d : Addr) (v : Value) : Prop where
  keep : ∀ b o, h.get? b = some o → h'.get? b = some o
  new : h.objs.size ≤ e
  obj : ∃ oe vs, h'.get? e = some oe ∧ oe.cls = .ref C ∧ oe.dict = some d ∧ oe.data = .fields vs ∧ vs[1]? = some .none ∧ vs[2]? = some .none
  dbig : h.objs.size ≤ d
  dne : d ≠ e
  ns : h'.Ns1 d (fun y => if y = f then some v else none)
section
variable {prog : Program} {w : World} {A : Around} {E : Value → Shared → Prop} {h : Heap} {g : Array GenState} {d : Drawn} {t : Nat} {os : OsState}
variable {nm q : Str} {C N : Addr} {bs bm : List Value} {hdct : Bool} {sn : List Str} {sub : List Value} {ab : Bool} {col : Option Bool} {dd : Option Addr} {k0 k1 k2 k3 k5 : Option Value}
/-- ValueError.__init__, bound to the exception, called -/
theorem call_mw {u e t0 : Addr} {rest : List Value} {Q : Value → Shared → Prop}
    (hC : h.get? C = some (excClassObj nm q C N bs bm hdct sn sub ab col dd k0 k1 k2 k3 k5 "ValueError.__new__")) (he : h.get? e = some (excO C t0)) (hu : h.get? u = some (kxs_mw "ValueError.__init__" e)) (hrest : rest.length ≤ sizeLine)
    (hq : ∀ h' t1, (∀ b o, b ≠ e → h.get? b = some o → h'.get? b = some o) → h'.get? e = some (excO C t1) → Q .none ⟨h', g, d, t, os⟩) :
    wpAny (model prog w) A (call (.ref u) rest) Q E ⟨h, g, d, t, os⟩ := by
  have FB := F.excBase_ValueError
  refine wpAny_call (codeAny_of_tree ?_)
  show wpAny _ A.in1 (callAny (.ref u) ⟨rest, []⟩) _ _ _
  simp only [callAny]
  refine wpAny_bind (wpAny_load hu ?_)
  simp only [kxs_mw, show (Value.type "method-wrapper" == Value.type "method" || Value.type "method-wrapper" == Value.type "builtin_function_or_method" || Value.type "method-wrapper" == Value.type "method-wrapper") = true by decide, if_true]
  refine KFB.if_so (by decide) ?_
  refine wpAny_bind (check_bound_init FB.toExcCallFacts hC he rfl ?_)
  refine wpAny_bind (wpAny_pure (wpAny_pure ?_))
  refine ⟨plainId_quiet FB.init.plain _, codeAny_builtin FB.initEntry ?_⟩
  exact exc_init_tree (cls := .ref C) (t0 := t0) (dv := none) (c2 := .none) (c3 := .none) (b4 := .bool false) he hrest fun h' k e1 _ => hq h' _ k e1
end
section
variable {prog : Program} {w : World} {A : Around} {E : Value → Shared → Prop} {R : Result → Shared → Prop} {s : Shared} {K : Frag} {mg : Str → Option Value} {cn f qual : Str} {msg : Expr} {C fI cda cc : Addr}
theorem err_init (T : ErrTxt prog K mg cn f qual msg C fI cda cc) (MT : MsgTxt msg) {x t0 : Addr} {v : Value} (X : K.In s.heap) (G : s.heap.Ns mainGlobals mg) (Bl : ∃ mb, s.heap.Ns builtinsNs mb ∧ ∀ x : Str, x ≠ "__name__" → mb x = bootBuiltins x) (hlim : s.heap.NoLimit) (hx : s.heap.get? x = some (excO C t0))
    (hnx : K.lookup x = none) (hm : MsgOk prog w f qual fI cda cc msg v) (hroom : A.depth < recursionLimit)
    (hq : ∀ h' tk dx t1, InitEnd f s.heap h' x C dx t1 v → R (.ok (.ret .none)) { s with heap := h', toks := tk }) :
    codeAny (model prog w) A (.call (.ref fI) ⟨[.ref x, v], []⟩) R s := by
  obtain ⟨oc, od, doc, pm, an, ct, osl, p1, p2, r1, r2, r3, r4, r5, q1, q2, q3, q4, ho, hline⟩ := T.fn
  obtain ⟨nm, q, N, bs, bm, sn, sub, ab, col, dd, k0, k1, k2, k3, k5, hC, hbm⟩ := T.cls
  obtain ⟨ccl, cdd, vs, ccs, file, tf, hcode, hvs, hfile⟩ := T.code
  obtain ⟨cl, cld, csl, hcell⟩ := T.cell
  have hcl : clsIn K C = some { name := nm, bases := bs, mro := .ref C :: bm, ns := N, qualname := q, hasDict := true, slotNames := sn, subclasses := sub, abstract := ab, collection := col, hasDel := false } := by unfold clsIn; rw [hC] <;> rfl
  have hsg := T.sgl
  refine ks_codeAny_call_defAt (fd := ksFn "__init__" qual (iA f p1 p2) (iB f msg r1 r2 r3 r4 r5 q1 q2 q3 q4) (iS f) .none .none doc pm an (.ref cda) ct cc) (body := iB f msg r1 r2 r3 r4 r5 q1 q2 q3 q4) (binds := [("self", .ref x), (f, v)]) hroom (X _ _ ho) rfl hlim (codeRec_of X T.cd) rfl
    (T.bd _ _ _ _ _ _ _ _ _ _ _) ?_ ?_ ?_ rfl rfl rfl
  · intro y hy
    simp only [ksFn, fnX, iS, List.mem_cons, List.not_mem_nil, or_false] at hy
    rcases hy with e | e | e | e <;> rw [e]
    · decide
    · exact fun z => NameKind.noConfusion z
    · decide
    · decide
  · intro y hy
    simp only [List.mem_cons, List.not_mem_nil, or_false] at hy
    rcases hy with e | e
    · rw [e]
      rfl
    · rw [e]
      exact T.lk
  intro h1 hn k1
  have hne : ("self" : Str) ≠ f := fun z => by
    rw [← z] at hsg
    exact absurd hsg (by decide)
  generalize hmm : (fun y => List.lookup y [(("self" : Str), Value.ref x), (f, v)].reverse) = m at hn
  have ms : m "self" = some (.ref x) := by
    rw [← hmm]
    show List.lookup ("self" : Str) [(f, v), ("self", .ref x)] = _
    have : (("self" : Str) == f) = false := by simpa using hne
    simp [List.lookup, this]
  have mf : m f = some v := by
    rw [← hmm]
    show List.lookup f [(f, v), ("self", .ref x)] = _
    simp [List.lookup]
  have X1 : K.In h1 := X.keeps k1
  have hx1 := k1 _ _ hx
  have I1 : InstAt h1 x (excO C t0) C none := ⟨hx1, rfl, rfl, trivial⟩
  have hlt : s.heap.objs.size ≠ x := Nat.ne_of_gt (Heap.lt_size hx)
  obtain ⟨oD, hD1, hD2⟩ : ∃ oD, h1.get? C = some oD ∧ oD.data = .cls { name := nm, bases := bs, mro := .ref C :: bm, ns := N, qualname := q, hasDict := true, slotNames := sn, subclasses := sub, abstract := ab, collection := col, hasDel := false } := ⟨_, X1 _ _ hC, rfl⟩
  obtain ⟨mb, hmb, hmb2⟩ := Bl
  -- super().__init__(message)
  obtain ⟨pl, epl⟩ := MT.call (iE f qual s.heap.objs.size fI cda cc) r1 r2 r3 r4 hline
  refine ks_wpAt_execs_cons (ks_wpAt_Expr_any (ks_wpAt_MethodCall (pl := pl) ?_ epl) rfl rfl)
  refine ks_wpAt_super_base (env := iE f qual s.heap.objs.size fI cda cc) (T.kU _) (T.kK _) (by decide) rfl (X1 _ _ ho) rfl rfl rfl (X1 _ _ hcode) rfl hvs hfile T.top ?_
  refine ks_loadName_global rfl (T.kU _) (loadGlobal_builtin (env := iE f qual s.heap.objs.size fI cda cc) (G.keeps k1) T.noS (hmb.keeps k1) ((hmb2 _ (by decide +kernel)).trans (by first | rfl | kernel_rfl)) ⟨rfl, ?_⟩)
  refine wpAny_loadName_free rfl (T.kK _) rfl ⟨_, X1 _ _ hcell, rfl⟩ ?_
  refine wpAny_loadName_local rfl (T.kM _) hn ms ?_
  refine ks_wpAny_isType_cls hD1 hD2 ⟨rfl, ?_⟩
  refine ks_wpAny_call_super hD1 hD2 hx1 rfl (fun c e => by cases e) (looks_mroIn X1 T.hsub) (fun h2 hso k2 => ?_)
  have X2 : K.In h2 := X1.keeps k2
  have hx2 := k2 _ _ hx1
  have I2 : InstAt h2 x (excO C t0) C none := ⟨hx2, rfl, rfl, trivial⟩
  have hn2 : h2.Ns s.heap.objs.size m := by
    obtain ⟨oL, es, ep, hL, r⟩ := hn
    exact ⟨oL, es, ep, k2 _ _ hL, r⟩
  have hsup := T.sup
  unfold ks_superIn at hsup
  rw [hcl] at hsup
  refine kxs_getMethod kxs_ValueError hso (looks_opaque X2 T.opq) (l₀ := .ref C :: bm) (fun A Q E s k q => wpAny_bind ((looks_clsIn X2 hcl) A _ E s k (wpAny_pure q))) rfl X2 hsup (I2.type.andThen (looks_subIn X2 T.hB)) (ks_ne X2 I2 hcl) (by decide) ?_
  -- the message, then ValueError.__init__
  have k3 : ∀ b o, h2.get? b = some o → (h2.push (kxs_mw "ValueError.__init__" x)).get? b = some o := fun b o e => Heap.get?_push_of_some _ e
  have hu3 : (h2.push (kxs_mw "ValueError.__init__" x)).get? h2.objs.size = some (kxs_mw "ValueError.__init__" x) := Heap.get?_push_size _ rfl
  generalize h2.push (kxs_mw "ValueError.__init__" x) = h3 at k3 hu3 ⊢
  have hn3 : h3.Ns s.heap.objs.size m := by
    obtain ⟨oL, es, ep, hL, r⟩ := hn2
    exact ⟨oL, es, ep, k3 _ _ hL, r⟩
  show wpAny _ _ (callWith r4 (.ref h2.objs.size) [] (backTo r4 (starEach [msg] (iE f qual s.heap.objs.size fI cda cc))) []) _ _ _
  rw [MT.star]
  refine kxs_callWith (i := "ValueError.__init__") (x := x) rfl (evalArgs_plain ?_)
  show wpAny _ _ (spliced ((false, eval msg (iE f qual s.heap.objs.size fI cda cc)) :: backTo r4 (starEach [] (iE f qual s.heap.objs.size fI cda cc)))) _ _ _
  refine spliced_cons (hm _ _ _ _ m _ hn3 mf fun uu tk => ?_)
  refine spliced_nil ⟨hu3, ?_⟩
  refine call_mw (k3 _ _ (k2 _ _ (X1 _ _ hC))) (k3 _ _ hx2) hu3 (one_size uu) fun h4 t1 k4 hx4 => ?_
  -- self.f = f
  have X4 : K.In h4 := kept_but ((X2.keeps k3)) hnx k4
  have hn4 : h4.Ns s.heap.objs.size m := by
    obtain ⟨oL, es, ep, hL, r⟩ := hn3
    exact ⟨oL, es, ep, k4 _ _ hlt hL, r⟩
  show PySem.wpAt _ _ _ (execs [Stmt.Assign [(Expr.Name "self" q1).Attribute f q2] (Expr.Name f q3) q4] (iE f qual s.heap.objs.size fI cda cc)) _ _ _
  refine wpAt_of_wpAny ?_
  refine wpAny_execs_cons (plainObj_wpAny_Assign_Attribute ?_)
  refine wpAny_Name (wpAny_loadName_local rfl (T.kF _) hn4 mf (wpAny_Name (wpAny_loadName_local rfl (T.kM _) hn4 ms ?_) (by decide))) T.dbg
  refine set_plain X4 (ox := excO C t1) (od := none) ⟨hx4, rfl, rfl, trivial⟩ T.sa ?_
  refine exc_osa X4 hx4 hcl (show refsVE (.ref C :: bm) = true from hbm) rfl T.noN (fun h5 tk5 dx k5 dn dne hx5 hn5 => ?_)
  show wpAny _ _ (execs _ _) _ _ _
  have old : ∀ b o, b ≠ x → s.heap.get? b = some o → h5.get? b = some o := fun b o hb e => k5 b o hb (k4 b o hb (k3 b o (k2 b o (k1 b o e))))
  have z : s.heap.objs.size < h4.objs.size := by
    obtain ⟨oL, es, ep, hL, r⟩ := hn4
    exact Heap.lt_size hL
  exact wpAny_execs_nil (hq h5 tk5 dx t1 ⟨old, hx5, Nat.le_of_lt (Nat.lt_of_lt_of_le z dn), dne, hn5⟩)
end
end CgE

set_option Elab.async false
set_option linter.all false
set_option maxRecDepth 100000
set_option maxHeartbeats 400000
namespace CgE
open PySem PySem.W PySem.Calls PyProof.Rows PySem.HandSPX
section
variable {prog : Program} {w : World} {A : Around} {E : Value → Shared → Prop} {R : Result → Shared → Prop} {s : Shared} {K : Frag} {mg : Str → Option Value} {cn f qual : Str} {msg : Expr} {C fI cda cc : Addr}
/-- C(v) called -/
theorem err_made (T : ErrTxt prog K mg cn f qual msg C fI cda cc) (MT : MsgTxt msg) {v : Value} (X : K.In s.heap) (G : s.heap.Ns mainGlobals mg) (Bl : ∃ mb, s.heap.Ns builtinsNs mb ∧ ∀ x : Str, x ≠ "__name__" → mb x = bootBuiltins x) (hlim : s.heap.NoLimit) (hm : MsgOk prog w f qual fI cda cc msg v)
    (hroom : A.depth + 1 < recursionLimit) (hq : ∀ h' tk e d, OwnMade f s.heap h' e C d v → R (.ok (.ret (.ref e))) { s with heap := h', toks := tk }) :
    codeAny (model prog w) A (.call (.ref C) ⟨[v], []⟩) R s := by
  obtain ⟨nm, q, N, bs, bm, sn, sub, ab, col, dd, k0, k1, k2, k3, k5, hC, hbm⟩ := T.cls
  obtain ⟨hp, g, dr, tk, os⟩ := s
  have k : ∀ b o, hp.get? b = some o → ((hp.push (kdv_tup [v])).push (excO C hp.objs.size)).get? b = some o := fun b o e => Heap.get?_push_of_some _ (Heap.get?_push_of_some _ e)
  have hget : ((hp.push (kdv_tup [v])).push (excO C hp.objs.size)).get? (hp.objs.size + 1) = some (excO C hp.objs.size) := by heap_get
  have hnx : K.lookup (hp.objs.size + 1) = none := by
    cases e : K.lookup (hp.objs.size + 1) with
    | none => rfl
    | some o =>
      have z : hp.get? (hp.objs.size + 1) = some o := X _ _ e
      exact absurd (Nat.lt_of_succ_lt (Heap.lt_size z)) (Nat.lt_irrefl _)
  obtain ⟨mb, hb1, hb2⟩ := Bl
  refine call_own F.excBase_ValueError (fun X => refsVE_contains X bm hbm) (X _ _ hC) (looks_findIn X T.iC) (fun self => bind_fn X self T.tC) (one_size v) ?_
  refine err_init (s := ⟨(hp.push (kdv_tup [v])).push (excO C hp.objs.size), g, dr, tk, os⟩) T MT (X.keeps k) (G.keeps k) ⟨mb, hb1.keeps k, hb2⟩ (hlim.keeps k) hget hnx hm ?_ fun h' tk' dx t1 ⟨k', hx, dn, dne, hns⟩ => ?_
  · show A.depth + 1 < recursionLimit
    exact hroom
  · have old : ∀ b o, hp.get? b = some o → h'.get? b = some o := fun b o e => k' b o (Nat.ne_of_lt (Nat.lt_succ_of_lt (Heap.lt_size e))) (k b o e)
    have z : hp.objs.size + 1 + 1 ≤ dx := by
      first
        | (simpa only [Heap.size_push] using dn)
        | exact dn
        | (have q := dn; rw [Heap.size_push, Heap.size_push] at q; exact q)
    exact ⟨rfl, hq h' tk' (hp.objs.size + 1) dx ⟨old, Nat.le_succ _, ⟨_, _, hx, rfl, rfl, rfl, rfl, rfl⟩, Nat.le_trans (Nat.le_trans (Nat.le_succ _) (Nat.le_succ _)) z, dne, hns⟩⟩
end
/-! ### the messages -/
/-- a written text -/
theorem msg_const {prog : Program} {w : World} {f qual : Str} {fI cda cc : Addr} {z : Str} {j : Nat} {p : Pos} {v : Value} : MsgOk prog w f qual fI cda cc (.Constant (.str z) j p) v := fun A E L s m Q hn hv hq => by
  refine Constant_str ?_
  exact hq _ _
section
variable {prog : Program} {w : World} {f qual : Str} {fI cda cc : Addr}
/-- f'..{f}..' of an int -/
theorem msg_int (hk : ∀ L, (iE f qual L fI cda cc).kindOf f = some .local) (hd : (f == ("__debug__" : Str)) = false) {z1 z2 : Str} {j1 j2 : Nat} {p1 p2 p3 p4 p5 : Pos} {i : Int} {t : Tok} (h1 : z1.length ≤ 1000) (h2 : z2.length ≤ 1000) (hi : i.natAbs.log2 < 1920) (hl : (toString i : Str).length ≤ 1000) :
    MsgOk prog w f qual fI cda cc (.JoinedStr [.Constant (.str z1) j1 p1, .FormattedValue (.Name f p2) (-1) none p3, .Constant (.str z2) j2 p4] p5) (.int i t) := fun A E L s m Q hn hv hq => by
  have hz : ∀ n : Nat, n ≤ 10000 → n ≤ sizeLine := fun n h => by rw [sizeLine_eq]; omega
  have a1 : (Str.empty ++ z1).length = z1.length := by
    rw [Cg.str_app_len]
    exact Nat.zero_add _
  refine wpAny_JoinedStr ?_
  show wpAny _ _ (eval (.Constant (.str z1) j1 p1) _) _ _ _
  refine Constant_str ⟨z1, _, rfl, hz _ (by omega), ?_⟩
  show wpAny _ _ (eval (.FormattedValue (.Name f p2) (-1) none p3) _) _ _ _
  refine wpAny_FormattedValue_plain (wpAny_Name (wpAny_loadName_local rfl (hk L) hn hv (wpAny_formatField_int hi ?_)) hd)
  refine ⟨_, _, rfl, hz _ (by rw [Cg.str_app_len]; omega), ?_⟩
  show wpAny _ _ (eval (.Constant (.str z2) j2 p4) _) _ _ _
  refine Constant_str ⟨z2, _, rfl, hz _ (by rw [Cg.str_app_len, Cg.str_app_len]; omega), ?_⟩
  exact ⟨hz _ (by rw [Cg.str_app_len, Cg.str_app_len]; omega), hq _ _⟩
/-- f'..{f!r}' of a text -/
theorem msg_repr (hk : ∀ L, (iE f qual L fI cda cc).kindOf f = some .local) (hd : (f == ("__debug__" : Str)) = false) {z1 : Str} {j1 : Nat} {p1 p2 p3 p5 : Pos} {y : Str} {t : Tok} (h1 : z1.length ≤ 1000) (hy : (reprText y).length ≤ 1000) :
    MsgOk prog w f qual fI cda cc (.JoinedStr [.Constant (.str z1) j1 p1, .FormattedValue (.Name f p2) 114 none p3] p5) (.str y t) := fun A E L s m Q hn hv hq => by
  have hz : ∀ n : Nat, n ≤ 10000 → n ≤ sizeLine := fun n h => by rw [sizeLine_eq]; omega
  have a1 : (Str.empty ++ z1).length = z1.length := by
    rw [Cg.str_app_len]
    exact Nat.zero_add _
  refine wpAny_JoinedStr ?_
  show wpAny _ _ (eval (.Constant (.str z1) j1 p1) _) _ _ _
  refine Constant_str ⟨z1, _, rfl, hz _ (by omega), ?_⟩
  show wpAny _ _ (eval (.FormattedValue (.Name f p2) 114 none p3) _) _ _ _
  refine wpAny_FormattedValue_repr (wpAny_Name (wpAny_loadName_local rfl (hk L) hn hv (pyReprObj_str (wpAny_formatField_str ?_ ?_ (hz _ (by omega))) (hz _ (by omega)))) hd)
  · exact ⟨_, _, rfl, hz _ (by rw [Cg.str_app_len]; omega), hz _ (by rw [Cg.str_app_len]; omega), hq _ _⟩
  · exact ⟨_, _, rfl, hz _ (by rw [Cg.str_app_len]; omega), hz _ (by rw [Cg.str_app_len]; omega), hq _ _⟩
end
end CgE
/-! ### the rule -/
namespace Cg
open PySem PySem.Spec PyProof.Rows L2 CgE
theorem relO_one {v : V} {v' : Value} (r : RelV v v') (f0 f : Str) : RelO (List.lookup f [(f0, v)]) (if f = f0 then some v' else none) := by
  by_cases hw : f = f0
  · subst hw
    rw [if_pos rfl]
    have q : List.lookup f [(f, v)] = some v := by simp [List.lookup]
    rw [q]
    exact r
  · rw [if_neg hw]
    have qw : (f == f0) = false := by simpa using hw
    have q2 : List.lookup f [(f0, v)] = none := by simp [List.lookup, qw]
    rw [q2]
    trivial
/-- C(e), e's value of the kind that the message takes -/
def tMkErr (C : Addr) (f : Str) (ok : V → Prop) (ta : TA) : L2.St → Hp → XK → Prop := fun σ H Q => ta σ H fun vs H1 => ∃ v, vs = [v] ∧ ok v ∧ ∀ d, H1 d = none → Q (.ref C) (some d) (upd H1 d (.xd [(f, v)]))
section
variable {X : Cx} {cn f qual : Str} {msg : Expr} {C fI cda cc : Addr} {ok : V → Prop}
theorem pmk_err {a : Expr} {ta : TA} {p pos : Pos} {k : Nat} (T : ErrTxt X.prog X.K X.mg cn f qual msg C fI cda cc) (MT : MsgTxt msg) (hok : ∀ v u, ok v → RelV v u → MsgOk X.prog X.w f qual fI cda cc msg u) (hr : Room k X.A) (ha : PA X [a] ta) (hg : Gl X cn)
    (hdb : (cn == ("__debug__" : Str)) = false := by decide) (he : starEach (a :: []) X.env = (false, eval a X.env) :: starEach [] X.env := by rfl) (hpl : (backTo pos (starEach [] X.env)).any (·.1) = false := by rfl) :
    L2N.PMk X (.Call (.Name cn p) [a] [] pos) (tMkErr C f ok ta) := by
  intro pins s σ H Q I h
  refine wpAny_Call_Name_kw (ld_glob I hg T.gC ?_ hdb)
  refine PySem.W.callWith_K (h₀ := X.base) I.ok.mod.kin T.kC (thn (ha.run pos pins s σ H _ I h) fun us s1 hh => ?_) he hpl
  obtain ⟨vs, H1, I1, r1, v, ev, hv, q1⟩ := hh
  subst ev
  refine ⟨I1.kIn, ?_⟩
  cases r1 with
  | cons rv rn =>
    rename_i v' us'
    cases rn
    show wpAny _ _ (call (.ref C) [v']) _ _ _
    have hlim := I1.nolimit
    obtain ⟨mb, hb1, hb2⟩ := I1.mod.blt
    have G := I1.mod.glob.keeps I1.bk
    have B1 := hb1.keeps I1.bk
    have KI := I1.kIn
    obtain ⟨hp, g, dr, tk, os⟩ := s1
    refine wpAny_call (err_made T MT KI G ⟨mb, B1, hb2⟩ hlim (hok v v' hv rv) (by have := hr.dp; omega) fun h' tk' e d M => ?_)
    show L2N.MkP X pins σ Q (.ref e) ⟨h', g, dr, tk', os⟩
    obtain ⟨oe, fv, hoe, hc, hd, hdat, h1, h2⟩ := M.obj
    have hns := M.ns
    obtain ⟨G', g1, g2⟩ := restrict h' fun b => decide (b ≠ e)
    have gk : ∀ b, b ≠ e → G'.get? b = h'.get? b := fun b hb => g1 b (decide_eq_true hb)
    have ge : G'.get? e = none := g2 e (by simp)
    have old : ∀ b o, hp.get? b = some o → G'.get? b = some o := fun b o q => (gk b (Nat.ne_of_lt (Nat.lt_of_lt_of_le (Heap.lt_size q) M.new))).trans (M.keep b o q)
    have ob : ObjOk X.prog X.w (upd H1 d (.xd [(f, v)])) G' d (.xd [(f, v)]) :=
      ⟨_, hns.at (fun o q => (gk d M.dne).trans q), fun y => relO_one rv f y⟩
    have J : Inv X pins σ (upd H1 d (.xd [(f, v)])) ⟨G', g, dr, tk', os⟩ := I1.laid (t' := tk') old M.dbig ob
    refine ⟨e, oe, fv, ⟨G', g, dr, tk', os⟩, _, .ref C, some d, rfl, J, fun b o q => ?_, ge, hoe, ⟨hc, hd, fun vs z => ?_⟩, hdat, h1, ?_, rfl, I1.bare, raises_own T.exC T.tyC, q1 d (I1.hok.fresh M.dbig)⟩
    · by_cases hb : b = e
      · have q' : G'.get? b = some o := q
        rw [hb, ge] at q'; cases q'
      · exact (gk b hb).symm.trans q
    · rw [hdat] at z
      cases z
      exact h2
    · rw [upd_ne (Ne.symm M.dne)]
      exact I1.hok.fresh M.new
/-- raise C(e) -/
def tRaiseErr (C : Addr) (f : Str) (ok : V → Prop) (W : WX) (ta : TA) : TS := fun _ σ H => tMkErr C f ok ta σ H fun cls d H' => W cls d σ H'
theorem ps_raiseErr {a : Expr} {ta : TA} {W : WX} {p pos pos2 : Pos} {k : Nat} (hc : X.calm = true) (T : ErrTxt X.prog X.K X.mg cn f qual msg C fI cda cc) (MT : MsgTxt msg) (hok : ∀ v u, ok v → RelV v u → MsgOk X.prog X.w f qual fI cda cc msg u) (hr : Room k X.A) (tk : L2N.Takes X W)
    (ha : PA X [a] ta) (hg : Gl X cn) (hdb : (cn == ("__debug__" : Str)) = false := by decide) (he : starEach (a :: []) X.env = (false, eval a X.env) :: starEach [] X.env := by rfl) (hpl : (backTo pos (starEach [] X.env)).any (·.1) = false := by rfl) :
    PS X (.Raise (some (.Call (.Name cn p) [a] [] pos)) none pos2) (tRaiseErr C f ok W ta) := L2N.ps_raise hc tk (pmk_err T MT hok hr ha hg hdb he hpl)
end
end Cg

set_option Elab.async false
set_option linter.all false
set_option maxRecDepth 100000
set_option maxHeartbeats 1000000
/-! Several clauses `except C as n`, one behind the other, all by the same name n (slot i). -/
namespace Cg
open PySem PySem.Spec PyProof.Rows L2
def wAll (K : PySem.W.Frag) (i : Nat) (Wo : WX) (D : Ends) : List (Value × (Addr → Value → Option Addr → TS)) → WX
  | [] => Wo
  | (c, ts) :: r => wAs K c i ts (wAll K i Wo D r) D
/-- each clause names a class; its suite runs with the exception at hand -/
inductive Clauses (X : Cx) (n : Str) : List ExceptHandler → List (Value × (Addr → Value → Option Addr → TS)) → Prop
  | nil : Clauses X n [] []
  | cons {x : Str} {c : Value} {ts : Addr → Value → Option Addr → TS} {st : Stmt} {more : List Stmt} {p q : Pos} {hs : List ExceptHandler} {l : List (Value × (Addr → Value → Option Addr → TS))} (named : Names X x c)
      (suite : ∀ (a : Addr) (oe : Obj) (cls : Value) (d : Option Addr) (pn : List (Addr × Obj)), L2N.Zn cls d oe → (∃ vs, oe.data = .fields vs) → PSs (X.suite a ((a, oe) :: pn)) (st :: more) (ts a cls d)) (rest : Clauses X n hs l) :
      Clauses X n (.ExceptHandler (some (.Name x p)) (some n) (st :: more) q :: hs) ((c, ts) :: l)
section
variable {X : Cx} {n : Str} {i : Nat} {body : List Stmt} {hd : ExceptHandler} {hs : List ExceptHandler} {l : List (Value × (Addr → Value → Option Addr → TS))} {pos : Pos} {tb : WX → TS} {Wo : WX}
theorem ps_tryAll (eS : X.stack = X.env :: X.outer) (eF : X.env.frame = some X.env.locals) (eN : X.N.Nodup) (ei : X.N[i]? = some n) (el : X.env.kindOf n = some .local) (tk : L2N.Takes X Wo)
    (hb : ∀ (W : WX) (pn : List (Addr × Obj)) (xe : Value → Shared → Prop), L2N.Takes (X.tr pn xe) W → PassesOwn (model X.prog X.w) X.A X.env xe → PSs (X.tr pn xe) body (tb W))
    (hh : Clauses X n (hd :: hs) l) : PS X (.Try body (hd :: hs) [] [] pos) (fun D σ H => tb (wAll X.K i Wo D l) D σ H) := by
  refine ⟨fun pins s σ H D I h => ?_⟩
  have ok := I.ok
  have fr : X.A.frames = some (X.env :: X.outer) := by
    rw [ok.frames]
    exact congrArg some eS
  have here : Loc X.env.scope n := .inl el
  refine wpAny_Try_except ?_
  have caught := hb (wAll X.K i Wo D l) (X.pn ++ pins) (fun e s₁ => wpAny (model X.prog X.w) X.A (noteFrame e X.env) (fun _ s₂ => wpAny (model X.prog X.w) X.A (setFlight e none) (fun _ s₃ =>
    wpAny (model X.prog X.w) X.A (handleBy e X.env (hd :: hs)) (SP X pins D) X.xe s₃) X.xe s₂) X.xe s₁)
  refine wpAny_mono ((caught (fun u s' flying => ?_) PassesOwn.looking).run [] s σ H D (I.toTry _) h) (fun f s1 hsp => ?_) (fun e s1 z => z)
  · obtain ⟨a, B, sI, pins2, σ2, H2, cls, d, rfl, J0, nb, up, sky, na, os, ag, wish⟩ := flying
    have J : Inv X pins σ2 H2 sI := J0.ofTry ok
    have sky2 : Sky B (X.env :: X.outer) a (L2N.Zn cls d) X.env.locals s'.heap := by
      rw [← eS]
      exact sky
    show wpAny (model X.prog X.w) X.A (noteFrame (.ref a) X.env) _ _ _
    refine L2N.Sky.land L2N.Zn.steady fr eF sky2 fun g fl upg => ?_
    have Jg : Inv X pins σ2 H2 { s' with heap := g } := J.landed nb fl.1 (up.trans upg) os ag
    obtain ⟨og, vg, eg, zg, dg⟩ := fl.there
    have noFrame : a ∉ frs (X.env :: X.outer) := fun hm => by
      obtain ⟨_, o2, e2, nf⟩ := fl.2.2.1.mem hm
      rw [eg] at e2
      cases e2
      exact nf _ dg
    have nL : a ≠ X.env.locals := fun z => noFrame (List.mem_filterMap.mpr ⟨X.env, List.mem_cons_self, by rw [eF, z]⟩)
    have nF : a ∉ X.fs := fun hm => by
      obtain ⟨e, he, q⟩ := List.mem_filterMap.mp hm
      exact noFrame (List.mem_filterMap.mpr ⟨e, List.mem_cons_of_mem _ he, q⟩)
    have Sg := Jg.suite eg dg na nL nF
    have each : ∀ {hs2 : List ExceptHandler} {l2 : List (Value × (Addr → Value → Option Addr → TS))}, Clauses X n hs2 l2 → wAll X.K i Wo D l2 cls d σ2 H2 →
        wpAny (model X.prog X.w) X.A (handleBy (.ref a) X.env hs2) (SP X pins D) X.xe { s' with heap := g } := by
      intro hs2 l2 hk
      induction hk with
      | nil =>
        intro wo
        refine wpAny_handleBy_nil ?_
        obtain ⟨_, _, _, oe, vs, T, oT, ts', he, hz, hd1, h1, hr⟩ := id fl
        unfold PySem.passOn
        refine wpAny_bind (wpAny_field he hd1 h1 ?_)
        rw [if_neg (show ¬ ((Value.ref T == Value.none) = true) from by simp)]
        have out : wpAny (model X.prog X.w) X.A (setFlight (.ref a) X.env.frame) (fun _ s4 => wpAny (model X.prog X.w) X.A (throw (.ref a) : Sem Flow) (SP X pins D) X.xe s4) X.xe { s' with heap := g } := by
          rw [eF]
          refine HandSPX.setFlight_upZ fl fun h4 hh4 up4 => wpAny_throw (tk _ _ ?_)
          exact ⟨a, B, sI, pins, σ2, H2, cls, d, rfl, J, nb, (up.trans upg).trans up4, .inr (.inr (by rw [eS]; exact hh4)), na, os, ag, wo⟩
        first
          | exact wpAny_bind (wpAny_pure (wpAny_bind out))
          | exact wpAny_bind out
      | @cons x c ts st more p q hs3 l3 named suite rest ih =>
        rintro ⟨b, hb1, yes, no⟩
        refine wpAny_handleBy_cons (codeAny_handlers_test ?_) (by intro z; cases z)
        have LT : PySem.W.Looks (model X.prog X.w) g (typeOf (.ref a)) cls := fun A Q E s k z => wpAny_typeOf_ref (k _ _ eg) (by rw [zg.1]; exact z)
        have LM := PySem.W.exm_one (M := model X.prog X.w) (Jg.kIn) LT hb1
        have test : ∀ {Q : Value → Shared → Prop} {E : Value → Shared → Prop}, Q c { s' with heap := g } → wpAny (model X.prog X.w) (X.A.mark (some (.ref a))) (eval (.Name x p) X.env) Q E { s' with heap := g } := fun {Q E} z => by
          obtain ⟨hg, hdbg, hm | ⟨hm, hv, hnn⟩⟩ := named
          · exact ld_glob (X := X.suite a ((a, og) :: (X.pn ++ pins))) Sg hg hm z hdbg
          · exact ld_blt (X := X.suite a ((a, og) :: (X.pn ++ pins))) Sg hg hm hv z hnn hdbg
        refine test (LM.here ?_)
        cases b with
        | false => exact ih (no rfl)
        | true =>
          refine codeAny_handlers_suite_as ?_
          refine HandSPX.lands_againZ fl fun h4 fl4 up4 => ?_
          have J4 : Inv X pins σ2 H2 { s' with heap := h4 } := J.landed nb fl4.1 ((up.trans upg).trans up4) os ag
          obtain ⟨o4, v4, e4, z4, d4⟩ := fl4.there
          have S4 := J4.suite e4 d4 na nL nF
          refine store_ok (X := X.suite a ((a, o4) :: (X.pn ++ pins))) (v := .ref a) S4 eN ei here rfl (fun s5 S5 => ?_) (.inr el)
          refine wpAny_mono ((suite a o4 cls d (X.pn ++ pins) z4 ⟨_, d4⟩).run [] s5 _ H2 _ S5 (yes rfl a na)) (fun f s6 hsp => ?_) (fun _ _ z => False.elim z)
          have gone : ∀ {σ6 : L2.St} {H6 : Hp} {Q : Shared → Prop}, Inv (X.suite a ((a, o4) :: (X.pn ++ pins))) [] σ6 H6 s6 → (∀ s7, Inv X pins (σ6.set i none) H6 s7 → Q s7) →
              wpAny (model X.prog X.w) X.A (do bindName X.env n .none; unbindBehindTheSuite X.env n q) (fun _ s7 => Q s7) X.xe s6 := fun {σ6 H6 Q} S6 hq => gone_ok (S6.unsuite ok) eN ei el hq
          cases f with
          | next =>
            obtain ⟨σ6, H6, S6, q6⟩ := hsp
            exact gone S6 fun s7 J7 => ⟨_, _, J7, q6⟩
          | brk =>
            obtain ⟨σ6, H6, S6, q6⟩ := hsp
            exact gone S6 fun s7 J7 => ⟨_, _, J7, q6⟩
          | cont =>
            obtain ⟨σ6, H6, S6, q6⟩ := hsp
            exact gone S6 fun s7 J7 => ⟨_, _, J7, q6⟩
          | ret u =>
            obtain ⟨v6, σ6, H6, S6, r6, q6⟩ := hsp
            exact gone S6 fun s7 J7 => ⟨_, _, _, J7, r6, q6⟩
    exact each hh wish
  · cases f with
    | next =>
      obtain ⟨σ2, H2, J, q⟩ := hsp
      exact wpAny_execs_nil ⟨σ2, H2, J.ofTry ok, q⟩
    | brk =>
      obtain ⟨σ2, H2, J, q⟩ := hsp
      exact ⟨σ2, H2, J.ofTry ok, q⟩
    | cont =>
      obtain ⟨σ2, H2, J, q⟩ := hsp
      exact ⟨σ2, H2, J.ofTry ok, q⟩
    | ret u =>
      obtain ⟨v, σ2, H2, J, r, q⟩ := hsp
      exact ⟨v, σ2, H2, J.ofTry ok, r, q⟩
end
/-- the suite's own context bears the exception -/
theorem hotC_suite {X : Cx} {a : Addr} {oe : Obj} {cls : Value} {d : Option Addr} {pn : List (Addr × Obj)} (hz : L2N.Zn cls d oe) (hf : ∃ vs, oe.data = .fields vs) : L2H.HotC (X.suite a ((a, oe) :: pn)) := by
  obtain ⟨vs, e⟩ := hf
  exact ⟨(a, oe), ⟨rfl, vs, e, hz.2.2 vs e⟩, List.mem_cons_self⟩
end Cg

set_option Elab.async false
set_option linter.all false
set_option maxRecDepth 100000
set_option maxHeartbeats 400000
namespace Cg
open PySem PySem.Spec PyProof.Rows L2
/-! ### the store's list of segments -/
/-- the addresses: the object, the list of rows, turns, frees, the rows -/
structure LAd where
  l : Addr
  ra : Addr
  ta : Addr
  fa : Addr
  rs : List Addr
def LAd.fp (g : LAd) : List Addr := g.l :: g.ra :: g.ta :: g.fa :: g.rs
def lfl (w : Nat) (g : LAd) : List (Str × V) := [("span", .int w), ("rows", .ref g.ra), ("turns", .ref g.ta), ("frees", .ref g.fa)]
section
variable {w : Nat} {g : LAd} {x : Addr}
theorem lf_span : (lfl w g).lookup ("span" : Str) = some (.int w) := rfl
theorem lf_rows : (lfl w g).lookup ("rows" : Str) = some (.ref g.ra) := rfl
theorem lf_turns : (lfl w g).lookup ("turns" : Str) = some (.ref g.ta) := rfl
theorem lf_frees : (lfl w g).lookup ("frees" : Str) = some (.ref g.fa) := rfl
theorem lf_put_rows : putF "rows" (.ref x) (lfl w g) = lfl w { g with ra := x } := rfl
theorem lf_put_turns : putF "turns" (.ref x) (lfl w g) = lfl w { g with ta := x } := rfl
theorem lf_put_frees : putF "frees" (.ref x) (lfl w g) = lfl w { g with fa := x } := rfl
end
/-- a list of segment numbers with the head at its end -/
structure TurnsOk (n : Nat) (ts : List Nat) (hd : Nat) : Prop where
  last : ∃ r, ts = r ++ [hd]
  nd : ts.Nodup
  lt : ∀ x ∈ ts, x < n
theorem nodup_lt_len : ∀ {n : Nat} {l : List Nat}, l.Nodup → (∀ x ∈ l, x < n) → l.length ≤ n
  | 0, l, _, h => by
    cases l with
    | nil => exact Nat.le_refl _
    | cons x l => exact absurd (h x List.mem_cons_self) (Nat.not_lt_zero _)
  | n + 1, l, nd, h => by
    by_cases c : n ∈ l
    · have ih := nodup_lt_len (n := n) (l := l.erase n) (nd.erase n) (fun x hx => by
        have h1 := h x (List.mem_of_mem_erase hx)
        have h2 : x ≠ n := fun e => (List.Nodup.mem_erase_iff nd).mp hx |>.1 e
        omega)
      rw [List.length_erase_of_mem c] at ih
      omega
    · have ih := nodup_lt_len (n := n) (l := l) nd (fun x hx => by
        have h1 := h x hx
        have h2 : x ≠ n := fun e => c (e ▸ hx)
        omega)
      omega
theorem TurnsOk.len {n : Nat} {ts : List Nat} {hd : Nat} (t : TurnsOk n ts hd) : ts.length ≤ n := nodup_lt_len t.nd t.lt
structure LogAt (C : Addr) (H : Hp) (g : LAd) (w : Nat) (s : Sg Str) : Prop where
  nd : g.fp.Nodup
  ob : ∃ dx, H g.l = some (.ins C dx (lfl w g))
  rw : RowsAt KeyV H g.ra g.rs s.1
  turns : ∃ ts : List Nat, H g.ta = some (.lst (ts.map fun j : Nat => V.int j)) ∧ TurnsOk s.1.length ts s.2
  frees : ∃ ns : List Int, H g.fa = some (.lst (ns.map V.int)) ∧ ns.length = s.1.length
theorem LAd.mem_l (g : LAd) : g.l ∈ g.fp := by simp [LAd.fp]
theorem LAd.mem_ra (g : LAd) : g.ra ∈ g.fp := by simp [LAd.fp]
theorem LAd.mem_ta (g : LAd) : g.ta ∈ g.fp := by simp [LAd.fp]
theorem LAd.mem_fa (g : LAd) : g.fa ∈ g.fp := by simp [LAd.fp]
theorem LAd.mem_rows (g : LAd) : ∀ x ∈ g.ra :: g.rs, x ∈ g.fp := fun x h => by
  rcases List.mem_cons.mp h with e | e
  · rw [e]; exact g.mem_ra
  · simp [LAd.fp, e]
structure LAd.Apart (g : LAd) : Prop where
  lr : g.l ≠ g.ra
  lt : g.l ≠ g.ta
  lf : g.l ≠ g.fa
  ls : g.l ∉ g.rs
  rt : g.ra ≠ g.ta
  rf : g.ra ≠ g.fa
  rs : g.ra ∉ g.rs
  tf : g.ta ≠ g.fa
  ts : g.ta ∉ g.rs
  fs : g.fa ∉ g.rs
  nd : g.rs.Nodup
theorem LAd.apart {g : LAd} (h : g.fp.Nodup) : g.Apart := by
  unfold LAd.fp at h
  obtain ⟨h1, h⟩ := List.nodup_cons.mp h
  obtain ⟨h2, h⟩ := List.nodup_cons.mp h
  obtain ⟨h3, h⟩ := List.nodup_cons.mp h
  obtain ⟨h4, h⟩ := List.nodup_cons.mp h
  simp only [List.mem_cons, not_or] at h1 h2 h3 h4
  exact ⟨h1.1, h1.2.1, h1.2.2.1, h1.2.2.2, h2.1, h2.2.1, h2.2.2, h3.1, h3.2, h4, h⟩
theorem LAd.of_apart {g : LAd} (p : g.Apart) : g.fp.Nodup := by
  unfold LAd.fp
  refine List.nodup_cons.mpr ⟨?_, List.nodup_cons.mpr ⟨?_, List.nodup_cons.mpr ⟨?_, List.nodup_cons.mpr ⟨p.fs, p.nd⟩⟩⟩⟩
  · simp only [List.mem_cons, not_or]
    exact ⟨p.lr, p.lt, p.lf, p.ls⟩
  · simp only [List.mem_cons, not_or]
    exact ⟨p.rt, p.rf, p.rs⟩
  · simp only [List.mem_cons, not_or]
    exact ⟨p.tf, p.ts⟩
theorem rows_there {rel : Hp → V → Option Str → Prop} {H : Hp} {D : Addr} {ys : List Addr} {R : List (Row Str)} (M : RowsAt rel H D ys R) : ∀ y ∈ D :: ys, (H y).isSome = true := fun y hy => by
  rcases List.mem_cons.mp hy with h | h
  · rw [h, M.rows]; rfl
  · obtain ⟨i, hi⟩ := List.mem_iff_getElem?.mp h
    obtain ⟨vs, e4, _⟩ := M.row i y hi
    rw [e4]
    rfl
section
variable {C : Addr} {H H' : Hp} {g : LAd} {w : Nat} {s : Sg Str}
theorem LogAt.fr {S : List Addr} (M : LogAt C H g w s) (f : Fr S H H') (h : ∀ x ∈ g.fp, x ∉ S) : LogAt C H' g w s := by
  obtain ⟨dx, e⟩ := M.ob
  obtain ⟨ts, e2, t2⟩ := M.turns
  obtain ⟨ms, e3, l3⟩ := M.frees
  exact ⟨M.nd, ⟨dx, f.all _ _ e (h _ g.mem_l)⟩, M.rw.fr steady_key f fun x hx => h x (g.mem_rows x hx), ⟨ts, f.all _ _ e2 (h _ g.mem_ta), t2⟩, ⟨ms, f.all _ _ e3 (h _ g.mem_fa), l3⟩⟩
theorem LogAt.fr0 (M : LogAt C H g w s) (f : Fr [] H H') : LogAt C H' g w s := M.fr f fun _ _ z => by cases z
theorem LogAt.there (M : LogAt C H g w s) : ∀ z ∈ g.fp, (H z).isSome = true := fun z hz => by
  unfold LAd.fp at hz
  simp only [List.mem_cons] at hz
  obtain ⟨dx, e⟩ := M.ob
  obtain ⟨ns, e2, l2⟩ := M.turns
  obtain ⟨ms, e3, l3⟩ := M.frees
  rcases hz with h | h | h | h | h
  · rw [h, e]; rfl
  · rw [h, M.rw.rows]; rfl
  · rw [h, e2]; rfl
  · rw [h, e3]; rfl
  · exact rows_there M.rw z (List.mem_cons_of_mem _ h)
theorem LogAt.set_frees (M : LogAt C H g w s) {ns : List Int} (hl : ns.length = s.1.length) : Fr g.fp H (upd H g.fa (.lst (ns.map V.int))) ∧ LogAt C (upd H g.fa (.lst (ns.map V.int))) g w s := by
  obtain ⟨ms, e3, l3⟩ := M.frees
  have p := LAd.apart M.nd
  have f : Fr [g.fa] H (upd H g.fa (.lst (ns.map V.int))) := Fr.set (by simp) e3 fun xs z => by cases z
  obtain ⟨dx, e⟩ := M.ob
  obtain ⟨ts, e2, t2⟩ := M.turns
  refine ⟨f.mono fun x hx => by rw [show x = g.fa by simpa using hx]; exact g.mem_fa, M.nd, ⟨dx, f.all _ _ e (by simp [p.lf])⟩, M.rw.fr steady_key f fun x hx => ?_, ⟨ts, f.all _ _ e2 (by simp [p.tf]), t2⟩, ⟨ns, upd_same, hl⟩⟩
  rcases List.mem_cons.mp hx with e | e
  · rw [e]
    simp [p.rf]
  · intro z
    have z' : x = g.fa := by simpa using z
    exact p.fs (z' ▸ e)
/-- a row is written at its place -/
theorem LogAt.set_row (M : LogAt C H g w s) {i : Nat} {x : Addr} {vs ws : List V} {r : Row Str} (hi : g.rs[i]? = some x) (hx : H x = some (.lst vs)) (hr : Paired (KeyV H) ws r) :
    Fr g.fp H (upd H x (.lst ws)) ∧ LogAt C (upd H x (.lst ws)) g w (s.1.set i r, s.2) := by
  obtain ⟨f, rw'⟩ := M.rw.set steady_key hi hx hr
  have p := LAd.apart M.nd
  have hm : x ∈ g.rs := List.mem_of_getElem? hi
  obtain ⟨dx, e⟩ := M.ob
  obtain ⟨ts, e2, t2⟩ := M.turns
  obtain ⟨ms, e3, l3⟩ := M.frees
  have ne : ∀ {y : Addr}, y ∉ g.rs → y ≠ x := fun {y} h z => h (by rw [z]; exact hm)
  refine ⟨f.mono g.mem_rows, M.nd, ⟨dx, (upd_ne (ne p.ls)).trans e⟩, rw', ⟨ts, (upd_ne (ne p.ts)).trans e2, ?_⟩, ⟨ms, (upd_ne (ne p.fs)).trans e3, by rw [List.length_set]; exact l3⟩⟩
  refine ⟨t2.last, t2.nd, fun x hx => ?_⟩
  rw [List.length_set]
  exact t2.lt x hx
/-- a row is a new list -/
theorem LogAt.fresh (M : LogAt C H g w s) {i : Nat} {n : Addr} (il : i < s.1.length) (hn : H n = none) :
    Fr g.fp H (upd (upd H n (.lst [])) g.ra (.lst ((g.rs.map V.ref).set i (.ref n)))) ∧ LogAt C (upd (upd H n (.lst [])) g.ra (.lst ((g.rs.map V.ref).set i (.ref n)))) { g with rs := g.rs.set i n } w (s.1.set i [], s.2) := by
  obtain ⟨f, rw'⟩ := M.rw.fresh steady_key il hn
  have p := LAd.apart M.nd
  obtain ⟨dx, e⟩ := M.ob
  obtain ⟨ts, e2, t2⟩ := M.turns
  obtain ⟨ms, e3, l3⟩ := M.frees
  have out : ∀ {y : Addr}, y ∉ g.rs → H y ≠ none → y ∉ g.rs.set i n := fun {y} h1 h2 z => by
    rcases List.mem_or_eq_of_mem_set z with q | q
    · exact h1 q
    · exact h2 (q ▸ hn)
  refine ⟨f.mono g.mem_rows, LAd.of_apart ⟨p.lr, p.lt, p.lf, out p.ls (by rw [e]; simp), p.rt, p.rf, (List.nodup_cons.mp rw'.nd).1, p.tf, out p.ts (by rw [e2]; simp), out p.fs (by rw [e3]; simp), (List.nodup_cons.mp rw'.nd).2⟩,
    ⟨dx, ?_⟩, rw', ⟨ts, ?_, ⟨t2.last, t2.nd, fun x hx => ?_⟩⟩, ⟨ms, ?_, by rw [List.length_set]; exact l3⟩⟩
  · show upd (upd H n (.lst [])) g.ra _ g.l = some (.ins C dx (lfl w g))
    rw [upd_ne p.lr, upd_ne (ne_of_none e hn)]
    exact e
  · show upd (upd H n (.lst [])) g.ra _ g.ta = _
    rw [upd_ne p.rt.symm, upd_ne (ne_of_none e2 hn)]
    exact e2
  · rw [List.length_set]
    exact t2.lt x hx
  · show upd (upd H n (.lst [])) g.ra _ g.fa = _
    rw [upd_ne p.rf.symm, upd_ne (ne_of_none e3 hn)]
    exact e3
/-- turns is a new list -/
theorem LogAt.set_turns (M : LogAt C H g w s) {t : Addr} {ts : List Nat} {hd : Nat} (ht : H t = some (.lst (ts.map fun j : Nat => V.int j))) (hn : t ∉ g.fp) (ok : TurnsOk s.1.length ts hd) {dx : Addr} (e : H g.l = some (.ins C dx (lfl w g))) :
    Fr g.fp H (upd H g.l (.ins C dx (lfl w { g with ta := t }))) ∧ LogAt C (upd H g.l (.ins C dx (lfl w { g with ta := t }))) { g with ta := t } w (s.1, hd) := by
  have p := LAd.apart M.nd
  have f : Fr [g.l] H (upd H g.l (.ins C dx (lfl w { g with ta := t }))) := Fr.set (by simp) e fun xs z => by cases z
  obtain ⟨ms, e3, l3⟩ := M.frees
  simp only [LAd.fp, List.mem_cons, not_or] at hn
  refine ⟨f.mono fun x hx => by rw [show x = g.l by simpa using hx]; exact g.mem_l, LAd.of_apart ⟨p.lr, fun z => hn.1 z.symm, p.lf, p.ls, fun z => hn.2.1 z.symm, p.rf, p.rs, hn.2.2.2.1, hn.2.2.2.2, p.fs, p.nd⟩, ⟨dx, upd_same⟩, M.rw.fr steady_key f fun x hx => ?_,
    ⟨ts, f.all _ _ ht (by simp [hn.1]), ok⟩, ⟨ms, f.all _ _ e3 (by simp [p.lf.symm]), l3⟩⟩
  rcases List.mem_cons.mp hx with e | e
  · rw [e]
    simp [p.lr.symm]
  · intro z
    have z' : x = g.l := by simpa using z
    exact p.ls (z' ▸ e)
theorem LogAt.rows (M : LogAt C H g w s) : H g.ra = some (.lst (g.rs.map V.ref)) := M.rw.rows
theorem LogAt.rs_len (M : LogAt C H g w s) : (g.rs.map V.ref).length = s.1.length := M.rw.lenV
theorem LogAt.at_row (M : LogAt C H g w s) {i : Nat} (h : i < s.1.length) : ∃ x vs, g.rs[i]? = some x ∧ (g.rs.map V.ref)[i]? = some (.ref x) ∧ H x = some (.lst vs) ∧ Paired (KeyV H) vs (rowAt s.1 i) := M.rw.get h
end
/-- small, and of the form -/
structure OkL (w : Nat) (s : Sg Str) : Prop where
  wf : Wf w s.1 s.2
  wsm : w ≤ 100
  lsm : s.1.length ≤ 100
theorem OkL.row {w : Nat} {s : Sg Str} (o : OkL w s) (i : Nat) : (rowAt s.1 i).length ≤ 1000 := Nat.le_trans (o.wf.at i) (Nat.le_trans o.wsm (by decide))
/-- the log behind it; some of its lists may be new -/
def LogTo (C : Addr) (H : Hp) (g : LAd) (w : Nat) (s : Sg Str) (H' : Hp) (g' : LAd) : Prop := Fr g.fp H H' ∧ g'.l = g.l ∧ (∀ x ∈ g'.fp, x ∈ g.fp ∨ H x = none) ∧ LogAt C H' g' w s
section
variable {C : Addr} {H H1 H2 H' : Hp} {g g1 g2 : LAd} {w : Nat} {s s' : Sg Str}
theorem LogTo.of (f : Fr g.fp H H') (M : LogAt C H' g w s) : LogTo C H g w s H' g := ⟨f, rfl, fun _ h => .inl h, M⟩
theorem LogTo.of0 (f : Fr [] H H') (M : LogAt C H g w s) : LogTo C H g w s H' g := .of f.in (M.fr0 f)
theorem LogTo.trans (x : LogTo C H g w s H1 g1) (y : LogTo C H1 g1 w s' H2 g2) (hs : ∀ z ∈ g.fp, (H z).isSome = true) : LogTo C H g w s' H2 g2 := by
  have back : ∀ z, H1 z = none → z ∉ g.fp → H z = none := fun z h hn => by
    cases q : H z with
    | none => rfl
    | some o =>
      rw [x.1.all z o q hn] at h
      cases h
  refine ⟨x.1.trans y.1 fun z hz => x.2.2.1 z hz, y.2.1.trans x.2.1, fun z hz => ?_, y.2.2.2⟩
  rcases y.2.2.1 z hz with h | h
  · exact x.2.2.1 z h
  · by_cases hm : z ∈ g.fp
    · exact .inl hm
    · exact .inr (back z h hm)
theorem LogTo.step0 (x : LogTo C H g w s H1 g1) (y : Fr [] H1 H2) : LogTo C H g w s H2 g1 := ⟨x.1.then y.in, x.2.1, x.2.2.1, x.2.2.2.fr0 y⟩
theorem LogTo.step (x : LogTo C H g w s H1 g1) (y : Fr g1.fp H1 H2) (M : LogAt C H2 g1 w s') (hs : ∀ z ∈ g.fp, (H z).isSome = true) : LogTo C H g w s' H2 g1 := x.trans (.of y M) hs
end
theorem keyV_dec {H : Hp} {v : V} : ∀ {o : Option Str}, KeyV H v o → decide (v = .non) = !o.isSome
  | none, h => by rw [show v = .non from h]; rfl
  | some k, h => by rw [show v = .str k from h]; rfl
/-- what the top has made of the two classes -/
structure Txt (K : PySem.W.Frag) (mg : Str → Option Value) (CL CS : Addr) : Prop where
  cl : Cls K CL
  l_span : NoAttr K CL "span"
  l_rows : NoAttr K CL "rows"
  l_turns : NoAttr K CL "turns"
  l_frees : NoAttr K CL "frees"
  cs : Cls K CS
  s_segments : NoAttr K CS "_segments"
  s_size : NoAttr K CS "_size"
  s_limit : NoAttr K CS "_limit"
  s_budget : NoAttr K CS "_budget"
  s_late : NoAttr K CS "_late"
  s_log : NoAttr K CS "_log"
  s_values : NoAttr K CS "_values"
  s_done : NoAttr K CS "_done"
  s_carried : NoAttr K CS "_carried"
  s_wait : NoAttr K CS "_last_wait"
end Cg

set_option Elab.async false
set_option linter.all false
set_option maxRecDepth 100000
set_option maxHeartbeats 400000
namespace Cg
open PySem PySem.Spec PyProof.Rows L2
/-! ### enumerate over a list that the body leaves as it is -/
theorem for_enumL {K : PySem.W.Frag} {a : Addr} {xs : List V} {g : TG} {tb : TS} {D : Ends} {σ : L2.St} {H : Hp} (Pv : Nat → L2.St → Hp → Prop) (h0 : Pv 0 σ H) (hl : ∀ i σ H, i ≤ xs.length → Pv i σ H → SqL K H a xs)
    (step : ∀ i x σ H T, xs[i]? = some x → H T = none → Pv i σ H → g (.ref T) σ (upd H T (.tup [.int (i : Nat), x])) fun σ2 H2 => tb { D with nx := Pv (i + 1), ct := Pv (i + 1), bk := D.nx } σ2 H2) (fin : ∀ σ H, Pv xs.length σ H → D.nx σ H) :
    ∃ W : Nat → Nat → L2.St → Hp → Prop, (∃ m, W 0 m σ H) ∧ ∀ i m σ H, W i m σ H →
      ((Ite K a).stop i H ∧ D.nx σ H) ∨ ((Ite K a).go i H ∧ ∃ N : L2.St → Hp → Prop, (∀ σ' H', N σ' H' → ∃ m', m' < m ∧ W (i + 1) m' σ' H') ∧ ∀ x H', (Ite K a).yld i H x H' → g x σ H' fun σ2 H2 => tb { D with nx := N, ct := N, bk := D.nx } σ2 H2) := by
  refine ⟨fun i m σ H => m + i = xs.length ∧ Pv i σ H, ⟨xs.length, rfl, h0⟩, ?_⟩
  rintro i m σ H ⟨em, p⟩
  have le : i ≤ xs.length := by omega
  have q := hl i σ H le p
  rcases Nat.lt_or_ge i xs.length with hlt | hge
  · refine .inr ⟨⟨xs, xs[i], q, List.getElem?_eq_getElem hlt⟩, Pv (i + 1), fun σ' H' p' => ⟨m - 1, by omega, by omega, p'⟩, ?_⟩
    rintro x H' ⟨T, y, rfl, hT, rfl, hy⟩
    exact step i y σ H T (hy xs q) hT p
  · have e : i = xs.length := by omega
    subst e
    exact .inl ⟨⟨xs, q, Nat.le_refl _⟩, fin σ H p⟩
theorem lc_enumL {K : PySem.W.Frag} {a : Addr} {xs : List V} {g : TG} {tt : TT} {te : TE} {vs : List Nat} {σ : L2.St} {H1 : Hp} {D : Addr} {Qd : Hp → Prop} (Pv : Nat → Hp → Prop) (h0 : Pv 0 (upd H1 D (.lst []))) (hl : ∀ i H, i ≤ xs.length → Pv i H → SqL K H a xs)
    (step : ∀ i x H T, xs[i]? = some x → H T = none → Pv i H → g (.ref T) (wipe σ vs) (upd H T (.tup [.int (i : Nat), x])) fun σ2 H2 => wipe σ2 vs = wipe σ vs ∧ tt σ2 H2 fun b H3 =>
      if b = true then te σ2 H3 fun y H4 => ∃ acc, H4 D = some (.lst acc) ∧ acc.length < sizeLine ∧ Pv (i + 1) (upd H4 D (.lst (acc ++ [y]))) else Pv (i + 1) H3) (fin : ∀ H, Pv xs.length H → Qd H) :
    ∃ W : Nat → Nat → Hp → Prop, (∃ m, W 0 m (upd H1 D (.lst []))) ∧ ∀ i m H, W i m H →
      ((Ite K a).stop i H ∧ Qd H) ∨ ((Ite K a).go i H ∧ ∃ Nx : Hp → Prop, (∀ H', Nx H' → ∃ m', m' < m ∧ W (i + 1) m' H') ∧ ∀ x H', (Ite K a).yld i H x H' → g x (wipe σ vs) H' fun σ2 H2 => wipe σ2 vs = wipe σ vs ∧ tt σ2 H2 fun b H3 =>
        if b = true then te σ2 H3 fun y H4 => ∃ acc, H4 D = some (.lst acc) ∧ acc.length < sizeLine ∧ Nx (upd H4 D (.lst (acc ++ [y]))) else Nx H3) := by
  refine ⟨fun i m H => m + i = xs.length ∧ Pv i H, ⟨xs.length, rfl, h0⟩, ?_⟩
  rintro i m H ⟨em, p⟩
  have le : i ≤ xs.length := by omega
  have q := hl i H le p
  rcases Nat.lt_or_ge i xs.length with hlt | hge
  · refine .inr ⟨⟨xs, xs[i], q, List.getElem?_eq_getElem hlt⟩, Pv (i + 1), fun H' p' => ⟨m - 1, by omega, by omega, p'⟩, ?_⟩
    rintro x H' ⟨T, y, rfl, hT, rfl, hy⟩
    exact step i y H T (hy xs q) hT p
  · have e : i = xs.length := by omega
    subst e
    exact .inl ⟨⟨xs, q, Nat.le_refl _⟩, fin H p⟩
/-! ### l[i] within l[i] += 1 -/
theorem get_list {X : Cx} : PGet X (fun o i H Q => ∃ p xs j v, o = .ref p ∧ i = .int (j : Nat) ∧ SqL X.K H p xs ∧ xs[j]? = some v ∧ Q v H) := by
  intro pins s σ H o i ov iv Q I ro ri h
  obtain ⟨p, xs, j, z, rfl, rfl, hq, he, q⟩ := h
  cases ro
  obtain ⟨t, rfl⟩ := ri
  obtain ⟨its, r, pl, hz⟩ := I.list hq
  obtain ⟨w, ew, rw'⟩ := r.get he
  have hl := r.length
  have hn := line63
  have hj : j < xs.length := (List.getElem?_eq_some_iff.mp he).1
  refine wpAny_getItem_list (k := (j : Int)) (t := t) (x := w) pl.isList (by omega) (by omega) (by rw [Int.toNat_natCast]; simpa using ew) ?_
  exact ⟨z, H, I, rw', q⟩
/-! ### a def called, wherever -/
theorem run_fnA {X : Cx} {A : Around} {k : Nat} {f : Addr} {fd : FuncData} {ps : List Str} {ds : List Value} {dvs : List V} {sp : Sp} {pins : List (Addr × Obj)} {σ : L2.St} {H : Hp} {s : Shared} {Q : VK} {us : List Value} {vs : List V}
    (F : FnOk X.prog X.w X.K X.mg X.base C8.CX0 k f fd ps sp) (hr : Room k A) (e0 : Env0 X.prog X.w X.K X.mg X.base A X.stack s H) (hb : Binds X.K fd ps ds) (hd : Vals dvs ds) (I : Inv X pins σ H s) (r : Vals vs us) (h : sp (vs ++ dvs) H Q C8.E0) :
    wpAny (model X.prog X.w) A (call (.ref f) us) (EP X pins σ Q) X.xe s := by
  have r2 : Vals (vs ++ dvs) (us ++ ds) := r.append hd
  have hl : (us ++ ds).length = ps.length := by rw [← r2.length]; exact F.len _ _ _ _ h
  refine wpAny_call (codeAny_mono (F.run A X.stack s H ⟨us, []⟩ (us ++ ds) (vs ++ dvs) Q C8.E0 hr e0 (hb s us I.kIn hl) r2 h) fun r s' hq => ?_)
  cases r with
  | error e => exact hq.elim
  | ok fl =>
    cases fl with
    | ret u => exact I.after hq
    | next => exact False.elim hq
    | brk => exact False.elim hq
    | cont => exact False.elim hq
section
variable {X : Cx} {k j : Nat} {C : Addr} {sp : Sp}
/-- len(x), x an own object with __len__ -/
theorem call_len_seg (c : C8.Met X.prog X.w X.K X.mg X.base k C "__len__" sp []) (hr : Room j X.A) (hk : k + 1 ≤ j) :
    CallR X (.builtin "len") (fun xs H Q => ∃ a dx fs, xs = [.ref a] ∧ H a = some (.ins C dx fs) ∧ sp [.ref a] H (fun v H' => ∃ n : Int, v = .int n ∧ 0 ≤ n ∧ n < 2 ^ 63 ∧ Q (.int n) H') C8.E0) := by
  intro pins s σ H xs us Q I r h
  obtain ⟨a, dx, fs, rfl, ea, q⟩ := h
  obtain ⟨u, rfl, rx⟩ := vals1 r
  cases rx
  obtain ⟨f, fd, ps, ds, hc, hm, F, b, d⟩ := c.ex
  obtain ⟨mA, O, _⟩ := ins_get I.hok ea
  obtain ⟨od, J, _⟩ := O.look
  refine Calls.call_function_entry PySem.kind_len PySem.plain_len PySem.entry_len (PySem.args_len1 _) ?_
  unfold Builtin.«len»
  refine wpAny_bind (m := oneArg "len" _) (wpAny_pure ?_)
  refine wpAny_bind (m := callSpecial? (.ref a) (Str.ofString "__len__")) (PySem.W.special_fn I.kIn J hm.at_ (beq_iff_eq.mp hm.fn) ?_)
  refine thn (run_fnA (A := X.A.in1) F (Room.in1 (hr.mono hk)) I.env0.in1 b d I (.cons (show RelV (.ref a) (.ref a) from rfl) .nil) q) fun r s1 hh => ?_
  obtain ⟨v, H1, I1, rv, n, rfl, h0, h1, q1⟩ := hh
  obtain ⟨t, rfl⟩ := rv
  refine wpAny_bind (wpAny_holding (wpAny_pure ?_))
  refine wpAny_bind (wpAny_letGo ?_)
  show wpAny _ _ (if n < 0 then _ else _) _ _ _
  rw [if_neg (by omega)]
  show wpAny _ _ (if n ≥ 2 ^ 63 then _ else _) _ _ _
  rw [if_neg (by omega)]
  exact wpAny_bind (wpAny_mkInt (wpAny_pure ⟨_, rfl, .int n, H1, I1.tok _, ⟨_, rfl⟩, q1⟩))
/-- v in x, x an own object with __contains__ -/
theorem op_in_seg (c : C8.Met X.prog X.w X.K X.mg X.base k C "__contains__" sp []) (hr : Room j X.A) (hk : k ≤ j) :
    OpR X (compareOp .In) (fun x y H Q => ∃ a dx fs, y = .ref a ∧ H a = some (.ins C dx fs) ∧ sp [.ref a, x] H (fun v H' => ∃ b, v = .bl b ∧ Q (.bl b) H') C8.E0) := by
  intro pins s σ H x y v u Q I rx ry h
  obtain ⟨a, dx, fs, rfl, ea, q⟩ := h
  cases ry
  obtain ⟨f, fd, ps, ds, hc, hm, F, b, d⟩ := c.ex
  obtain ⟨mA, O, _⟩ := ins_get I.hok ea
  obtain ⟨od, J, _⟩ := O.look
  show wpAny _ _ (contains (.ref a) v >>= _) _ _ _
  refine wpAny_bind ?_
  unfold contains
  refine wpAny_holding (wpAny_bind (wpAny_bind (J.type.here ((PySem.W.looks_findIn I.kIn hm.at_).here ?_))))
  rw [if_neg (by simp)]
  refine wpAny_bind (PySem.W.unlessNone_K I.kIn J hm.at_ hm.fn ?_)
  refine thn (run_fnA (A := X.A) F (hr.mono hk) I.env0 b d I (.cons (show RelV (.ref a) (.ref a) from rfl) (.cons rx .nil)) q) fun r s1 hh => ?_
  obtain ⟨w, H1, I1, rw', bb, rfl, q1⟩ := hh
  obtain rfl : r = Value.bool bb := rw'
  exact wpAny_truthy_bool (wpAny_pure ⟨.bl bb, H1, I1, rfl, q1⟩)
end
end Cg

set_option Elab.async false
set_option linter.all false
set_option maxRecDepth 100000
set_option maxHeartbeats 400000
namespace Cg
open PySem PySem.Spec PyProof.Rows L2
theorem TurnsOk.at {n : Nat} {ts : List Nat} {hd : Nat} (t : TurnsOk n ts hd) : atI (ts.map fun j : Nat => V.int j) (-1) = some (.int (hd : Nat)) := by
  obtain ⟨r, e⟩ := t.last
  rw [e, List.map_append]
  exact atI_last _ _
theorem flat_keys {H : Hp} {vs : List V} {r : Row Str} (h : Paired (KeyV H) vs r) : vs.all flatV = true := by
  induction h with
  | nil => rfl
  | @cons v o l m h t ih =>
    rw [List.all_cons, ih, Bool.and_true]
    cases o with
    | none => rw [show v = .non from h]; rfl
    | some k => rw [show v = .str k from h]; rfl
theorem eqV_key {H : Hp} {v : V} {k : Str} : ∀ {o : Option Str}, KeyV H v o → eqV v (.str k) = decide (o = some k)
  | none, h => by
    rw [show v = .non from h, decide_eq_false (by simp)]
    rfl
  | some y, h => by
    rw [show v = .str y from h]
    show (y == k) = _
    by_cases c : y = k
    · rw [c, decide_eq_true rfl]
      exact beq_self_eq_true k
    · rw [decide_eq_false fun z => c (Option.some.inj z)]
      exact beq_eq_false_iff_ne.mpr c
theorem inV_key {H : Hp} {vs : List V} {r : Row Str} {k : Str} (h : Paired (KeyV H) vs r) : inV (.str k) vs = decide (some k ∈ r) := by
  unfold inV
  induction h with
  | nil => rfl
  | @cons v o l m h t ih =>
    rw [List.any_cons, ih, eqV_key h]
    by_cases c : o = some k
    · rw [c, decide_eq_true rfl, Bool.true_or, decide_eq_true List.mem_cons_self]
    · rw [decide_eq_false c, Bool.false_or]
      refine decide_eq_decide.mpr ⟨fun z => List.mem_cons_of_mem _ z, fun z => ?_⟩
      rcases List.mem_cons.mp z with e | e
      · exact absurd e.symm c
      · exact e
theorem paired_empty {α β : Type} {F : α → β → Prop} {l : List α} {m : List β} (h : Paired F l m) : l.isEmpty = m.isEmpty := by
  cases h <;> rfl
section
variable {P : Program} {w : World} {K : PySem.W.Frag} {mg : Str → Option Value} {base : Heap} {f : Addr} {fd : FuncData} {CL CS : Addr}
/-! ### SegmentLog.head_segment -/
def sp_l_head (C : Addr) : Sp := fun vs H Q _ => ∃ (g : LAd) (z : Nat) (s : Sg Str), vs = [.ref g.l] ∧ LogAt C H g z s ∧ Q (.int (s.2 : Nat)) H
abbrev s_l_head_segment : Stmt := inClass (topS 15) 1
theorem sc_l_head_segment : FnScope ["self"] ["self"] (C8.fnScope s_l_head_segment) := C8.fnScope_by (by decide +kernel)
theorem k_l_head (T : Bi mg) (S : Txt K mg CL CS) (me : Meth K CL "head_segment" f) (F : C8.Fun K "head_segment" "SegmentLog.head_segment" s_l_head_segment f fd) (b : Binds K fd ["self"] []) : C8.Met P w K mg base 1 CL "head_segment" (sp_l_head CL) [] := by
  refine C8.met0 S.cl me F b sc_l_head_segment (fun vs H Q E h => ?_) (fun cdv A outer s0 H vs Q E hr h => ?_)
  · obtain ⟨g, z, s, rfl, _⟩ := h
    rfl
  · obtain ⟨g, z, s, rfl, M, q⟩ := h
    have hu := hu_of hr
    refine ⟨_, pss_one (ps_ret (pe_ix ix_list (pe_fld (pv 0) rfl) (pe_un un_neg (pe_int)) (fun _ _ => rfl))), ?_⟩
    obtain ⟨dx, e⟩ := M.ob
    obtain ⟨ts, e2, t2⟩ := M.turns
    exact ⟨_, rfl, g.l, CL, dx, _, _, rfl, e, S.cl, S.l_turns, lf_turns, _, rfl, g.ta, _, _, _, rfl, rfl, SqL.of e2, t2.at, q⟩
/-! ### SegmentLog.alive -/
def sp_l_alive (C : Addr) : Sp := fun vs H Q _ => ∃ (g : LAd) (z : Nat) (s : Sg Str) (i : Nat), vs = [.ref g.l, .int i] ∧ LogAt C H g z s ∧ OkL z s ∧ i < s.1.length ∧ ∀ H', Fr [] H H' → Q (.int (alive (rowAt s.1 i))) H'
abbrev s_l_alive : Stmt := inClass (topS 15) 2
theorem sc_l_alive : FnScope ["self", "segment", "key"] ["self", "segment"] (C8.fnScope s_l_alive) := C8.fnScope_by (by decide +kernel)
theorem k_l_alive (T : Bi mg) (S : Txt K mg CL CS) (me : Meth K CL "alive" f) (F : C8.Fun K "alive" "SegmentLog.alive" s_l_alive f fd) (b : Binds K fd ["self", "segment"] []) : C8.Met P w K mg base 1 CL "alive" (sp_l_alive CL) [] := by
  refine C8.met0 S.cl me F b sc_l_alive (fun vs H Q E h => ?_) (fun cdv A outer s0 H vs Q E hr h => ?_)
  · obtain ⟨g, z, s, i, rfl, _⟩ := h
    rfl
  · obtain ⟨g, z, s, i, rfl, M, ok, hi, q⟩ := h
    have hu := hu_of hr
    refine ⟨_, pss_one (ps_ret (pe_callB call_len_seq (by rfl) T.len PySem.boot_len (pa_cons (pe_lc (own := [("key", 2)]) (g := gName 2) (tt := _) rfl sc_l_alive.nd (pi_list (pe_ix ix_list (pe_fld (pv 0) rfl) (pv 1) (fun _ _ => rfl))) (blkOk_by (own := [("key", 2)]) (N := ["self", "segment", "key"]) (sc := C8.fnScope s_l_alive) (by decide +kernel)) (fun _ _ _ _ _ => pg_name (i := 2) sc_l_alive.nd rfl (by first | exact Or.inl rfl | exact Or.inr rfl)) (fun _ _ _ _ _ => pts_one (pt_cmp (pc_notN (pv 2)))) (fun _ _ _ _ _ => pv 2)) pa_nil))), ?_⟩
    obtain ⟨dx, e⟩ := M.ob
    obtain ⟨x, xs, e1, e2, hx, hv⟩ := M.at_row hi
    have hxl : xs.length = (rowAt s.1 i).length := Paired.length hv
    have lacc : ∀ i', ((xs.take i').filter fun v => !decide (v = V.non)).length = alive ((rowAt s.1 i).take i') := fun i' => by
      have hp := paired_take i' hv
      unfold Cg.alive
      generalize xs.take i' = l at hp
      generalize (rowAt s.1 i).take i' = m at hp
      induction hp with
      | nil => rfl
      | @cons x y l m r1 _ ih =>
        have e := keyV_dec r1
        rw [List.filter_cons, List.filter_cons, e, Bool.not_not]
        cases y.isSome with
        | true => simpa using ih
        | false => simpa using ih
    refine ⟨_, rfl, g.l, CL, dx, _, _, rfl, e, S.cl, S.l_rows, lf_rows, _, rfl, g.ra, _, _, _, rfl, rfl, SqL.of M.rows, atI_nat e2, x, rfl, ⟨_, SqL.of hx⟩, fun D hD => ?_⟩
    refine lc_list (K := K) (a := x) (xs := xs) (CompI H D fun i => (xs.take i).filter fun v => !decide (v = V.non)) (CompI.start hD rfl) (fun i H' _ c => SqL.of (c.old hx)) ?_ ?_
    · intro j y H' hj c
      have hacc := List.take_add_one (l := xs) (i := j)
      rw [hj] at hacc
      refine ⟨rfl, _, rfl, _, rfl, ite2 (fun hb => ?_) (fun hb => ?_)⟩
      · refine ⟨_, rfl, c.put ?_ ?_⟩
        · rw [lacc]
          exact Nat.le_trans (alive_take_le _ j) (ok.row i)
        · show (xs.take (j + 1)).filter _ = _
          rw [hacc, List.filter_append]
          have hb' : (!decide (y = V.non)) = true := hb
          simp [hb']
      · refine c.skip ?_
        show (xs.take (j + 1)).filter _ = _
        rw [hacc, List.filter_append]
        have hb' : (!decide (y = V.non)) = false := by simpa using hb
        simp [hb']
    · intro H' c
      refine ⟨D, _, rfl, .inl (SqL.of c.at_), ?_⟩
      rw [lacc, hxl, List.take_length]
      exact q H' c.fr0
/-! ### SegmentLog.is_closed -/
def sp_l_closed (C : Addr) : Sp := fun vs H Q _ => ∃ (g : LAd) (z : Nat) (s : Sg Str) (i : Nat), vs = [.ref g.l, .int i] ∧ LogAt C H g z s ∧ OkL z s ∧ i < s.1.length ∧ ∀ H', Fr [] H H' → Q (.bl (isShut s.1 s.2 i)) H'
abbrev s_l_is_closed : Stmt := inClass (topS 15) 3
theorem sc_l_is_closed : FnScope ["self", "segment"] ["self", "segment"] (C8.fnScope s_l_is_closed) := C8.fnScope_by (by decide +kernel)
theorem k_l_closed (T : Bi mg) (S : Txt K mg CL CS) (me : Meth K CL "is_closed" f) (F : C8.Fun K "is_closed" "SegmentLog.is_closed" s_l_is_closed f fd) (b : Binds K fd ["self", "segment"] [])
    (c_l_head_segment : C8.Met P w K mg base 1 CL "head_segment" (sp_l_head CL) []) (c_l_alive : C8.Met P w K mg base 1 CL "alive" (sp_l_alive CL) []) : C8.Met P w K mg base 2 CL "is_closed" (sp_l_closed CL) [] := by
  refine C8.met0 S.cl me F b sc_l_is_closed (fun vs H Q E h => ?_) (fun cdv A outer s0 H vs Q E hr h => ?_)
  · obtain ⟨g, z, s, i, rfl, _⟩ := h
    rfl
  · obtain ⟨g, z, s, i, rfl, M, ok, hi, q⟩ := h
    have hu := hu_of hr
    refine ⟨_, pss_one (ps_ret (pe_and (pe_cmpR op_ne (pv 1) (C8.pe_mt0 c_l_head_segment hr (by decide) (pv 0)) (nomark _)) (pe_one (pe_cmpR op_gt (C8.pe_mt c_l_alive hr (by decide) (pv 0) (pa_cons (pv 1) pa_nil)) (pe_int) (nomark _))))), ?_⟩
    obtain ⟨dx, e⟩ := M.ob
    refine ⟨_, rfl, _, rfl, g.l, dx, _, rfl, e, rfl, g, z, s, rfl, M, rfl, _, rfl, ite2 (fun hb => ?_) (fun hb => ?_)⟩
    · rw [dec_nn] at hb
      refine ⟨_, rfl, g.l, dx, _, rfl, e, rfl, _, rfl, g, z, s, i, rfl, M, ok, hi, fun H' f' => ?_⟩
      refine ⟨_, _, rfl, rfl, ?_⟩
      show Q (.bl (decide ((0 : Int) < (alive (rowAt s.1 i) : Nat)))) H'
      rw [dec_pos]
      have := q H' f'
      unfold isShut at this
      rw [hb] at this
      exact this
    · rw [dec_nn] at hb
      have := q H (Fr.refl _ _)
      unfold isShut at this
      rw [not_true hb] at this
      exact this
/-! ### SegmentLog.unwritten -/
def sp_l_unwritten (C : Addr) : Sp := fun vs H Q _ => ∃ (g : LAd) (z : Nat) (s : Sg Str), vs = [.ref g.l] ∧ LogAt C H g z s ∧ OkL z s ∧ ∀ (H' : Hp) (p : Addr), Fr [] H H' → H p = none → H' p = some (.lst ((others s.1 s.2).map fun j : Nat => V.int j)) → Q (.ref p) H'
abbrev s_l_unwritten : Stmt := inClass (topS 15) 4
theorem sc_l_unwritten : FnScope ["self", "head", "segment", "row"] ["self"] (C8.fnScope s_l_unwritten) := C8.fnScope_by (by decide +kernel)
theorem k_l_unwritten (T : Bi mg) (S : Txt K mg CL CS) (me : Meth K CL "unwritten" f) (F : C8.Fun K "unwritten" "SegmentLog.unwritten" s_l_unwritten f fd) (b : Binds K fd ["self"] [])
    (c_l_head_segment : C8.Met P w K mg base 1 CL "head_segment" (sp_l_head CL) []) : C8.Met P w K mg base 2 CL "unwritten" (sp_l_unwritten CL) [] := by
  refine C8.met0 S.cl me F b sc_l_unwritten (fun vs H Q E h => ?_) (fun cdv A outer s0 H vs Q E hr h => ?_)
  · obtain ⟨g, z, s, rfl, _⟩ := h
    rfl
  · obtain ⟨g, z, s, rfl, M, ok, q⟩ := h
    have hu := hu_of hr
    have hl := ok.lsm
    refine ⟨_, pss_cons (ps_set (i := 1) sc_l_unwritten.nd rfl (by first | exact Or.inl rfl | exact Or.inr rfl) (C8.pe_mt0 c_l_head_segment hr (by decide) (pv 0)))
      (pss_one (ps_ret (pe_lc (own := [("segment", 2), ("row", 3)]) (g := gTup K 2 (gCons (gName 2) (gCons (gName 3) gNil))) (tt := _) rfl sc_l_unwritten.nd (pi_enum (by rfl) T.enumerate (pa_cons (pe_fld (pv 0) rfl) pa_nil)) (blkOk_by (own := [("segment", 2), ("row", 3)]) (N := ["self", "head", "segment", "row"]) (sc := C8.fnScope s_l_unwritten) (by decide +kernel)) (fun _ _ _ _ _ => pg_tup (by rfl) (pgs_cons (pg_name (i := 2) sc_l_unwritten.nd rfl (by first | exact Or.inl rfl | exact Or.inr rfl)) (pgs_cons (pg_name (i := 3) sc_l_unwritten.nd rfl (by first | exact Or.inl rfl | exact Or.inr rfl)) pgs_nil))) (fun _ _ _ _ _ => pts_one (PW.pt (pw_and (pt_not (pt_truthK (K := K) (pv 3) (by intro _; rfl))) (pw_and1 (pt_cmpR op_ne (pv 2) (pv 1) (nomark _)))))) (fun _ _ _ _ _ => pv 2)))), ?_⟩
    obtain ⟨dx, e⟩ := M.ob
    refine ⟨_, rfl, g.l, dx, _, rfl, e, rfl, g, z, s, rfl, M, ?_⟩
    refine ⟨_, rfl, g.l, CL, dx, _, _, rfl, e, S.cl, S.l_rows, lf_rows, g.ra, _, rfl, SqL.of M.rows, fun D hD => ?_⟩
    refine lc_enumL (K := K) (a := g.ra) (xs := g.rs.map V.ref) (CompI H D fun i => ((List.range i).filter (isOther s.1 s.2)).map fun j : Nat => V.int j) (CompI.start hD rfl) (fun i H' _ c => SqL.of (c.old M.rows)) ?_ ?_
    · intro i x H1 t hi ht c0
      have c := c0.more (Fr.new (o := .tup [.int (i : Nat), x]) ht)
      have et : (upd H1 t (.tup [.int (i : Nat), x])) t = some (.tup [.int (i : Nat), x]) := upd_same
      generalize upd H1 t (.tup [.int (i : Nat), x]) = H2 at c et ⊢
      have hi' : i < s.1.length := by
        have := (List.getElem?_eq_some_iff.mp hi).1
        rwa [M.rs_len] at this
      have M2 := M.fr0 c.fr0
      obtain ⟨y, xs, e1, e2, hx, hv⟩ := M2.at_row hi'
      rw [e2] at hi
      have hi2 := Option.some.inj hi
      subst hi2
      have hxl : xs.length = (rowAt s.1 i).length := Paired.length hv
      have hem : xs.isEmpty = (rowAt s.1 i).isEmpty := paired_empty hv
      refine ⟨t, _, rfl, SqT.of et, rfl, _, _, rfl, _, _, rfl, rfl, rfl, _, rfl, _, .inl ⟨xs, SqL.of hx, rfl⟩, ite2 (fun hb => ?_) (fun hb => ?_)⟩
      · rw [Bool.not_not, hem] at hb
        refine ⟨_, rfl, _, rfl, rfl, _, rfl, ite2 (fun hb2 => ?_) (fun hb2 => ?_)⟩
        · rw [dec_nn] at hb2
          refine ⟨_, rfl, c.put (accR_len (by omega)) ?_⟩
          rw [accR, if_pos]
          unfold isOther
          rw [hb, hb2]
          rfl
        · rw [dec_nn] at hb2
          refine c.skip (acc_no ?_)
          unfold isOther
          rw [not_true hb2, Bool.and_false]
      · rw [Bool.not_not, hem] at hb
        refine iteF (c.skip (acc_no ?_))
        unfold isOther
        rw [not_true hb, Bool.false_and]
    · intro H2 c
      rw [M.rs_len] at c
      exact q H2 D c.fr0 hD c.at_
/-! ### SegmentLog.room_left -/
def sp_l_room (C : Addr) : Sp := fun vs H Q _ => ∃ (g : LAd) (z : Nat) (s : Sg Str), vs = [.ref g.l] ∧ LogAt C H g z s ∧ OkL z s ∧ ∀ H' : Hp, Fr [] H H' → Q (.int (room z s.1 s.2)) H'
abbrev s_l_room_left : Stmt := inClass (topS 15) 5
theorem sc_l_room_left : FnScope ["self", "left"] ["self"] (C8.fnScope s_l_room_left) := C8.fnScope_by (by decide +kernel)
theorem k_l_room (T : Bi mg) (S : Txt K mg CL CS) (me : Meth K CL "room_left" f) (F : C8.Fun K "room_left" "SegmentLog.room_left" s_l_room_left f fd) (b : Binds K fd ["self"] [])
    (c_l_head_segment : C8.Met P w K mg base 1 CL "head_segment" (sp_l_head CL) []) (c_l_unwritten : C8.Met P w K mg base 2 CL "unwritten" (sp_l_unwritten CL) []) : C8.Met P w K mg base 3 CL "room_left" (sp_l_room CL) [] := by
  refine C8.met0 S.cl me F b sc_l_room_left (fun vs H Q E h => ?_) (fun cdv A outer s0 H vs Q E hr h => ?_)
  · obtain ⟨g, z, s, rfl, _⟩ := h
    rfl
  · obtain ⟨g, z, s, rfl, M, ok, q⟩ := h
    have hu := hu_of hr
    have hl := ok.lsm
    have hw := ok.wsm
    refine ⟨_, pss_cons (ps_set (i := 1) sc_l_room_left.nd rfl (by first | exact Or.inl rfl | exact Or.inr rfl) (pe_op op_sub (pe_fld (pv 0) rfl) (pe_callB call_len_seq (by rfl) T.len PySem.boot_len (pa_cons (pe_ix ix_list (pe_fld (pv 0) rfl) (C8.pe_mt0 c_l_head_segment hr (by decide) (pv 0)) (fun _ _ => rfl)) pa_nil))))
      (pss_one (ps_ret (pe_op op_add (pv 1) (pe_op op_mul (pe_fld (pv 0) rfl) (pe_callB call_len_seq (by rfl) T.len PySem.boot_len (pa_cons (C8.pe_mt0 c_l_unwritten hr (by decide) (pv 0)) pa_nil)))))), ?_⟩
    obtain ⟨dx, e⟩ := M.ob
    obtain ⟨x, xs, e1, e2, hx, hv⟩ := M.at_row ok.wf.hdl
    have hxl : xs.length = (rowAt s.1 s.2).length := Paired.length hv
    refine ⟨_, rfl, g.l, CL, dx, _, _, rfl, e, S.cl, S.l_span, lf_span, _, rfl, g.l, CL, dx, _, _, rfl, e, S.cl, S.l_rows, lf_rows, _, rfl, g.l, dx, _, rfl, e, rfl, g, z, s, rfl, M, ?_⟩
    refine ⟨g.ra, _, _, _, rfl, rfl, SqL.of M.rows, atI_nat e2, x, _, rfl, .inl (SqL.of hx), _, _, rfl, rfl, ?_⟩
    refine ⟨_, rfl, _, rfl, g.l, CL, dx, _, _, rfl, e, S.cl, S.l_span, lf_span, _, rfl, g.l, dx, _, rfl, e, rfl, g, z, s, rfl, M, ok, fun H' p f' np hp => ?_⟩
    refine ⟨p, _, rfl, .inl (SqL.of hp), _, _, rfl, rfl, .inl ⟨by omega, by omega⟩, _, _, rfl, rfl, ?_⟩
    have := q H' f'
    unfold room at this
    rw [List.length_map, hxl]
    exact this
/-! ### SegmentLog.spot_of -/
def sp_l_spot (C : Addr) : Sp := fun vs H Q _ => ∃ (g : LAd) (z : Nat) (s : Sg Str) (k : Str), vs = [.ref g.l, .str k] ∧ LogAt C H g z s ∧ OkL z s ∧
  (findR s.1 k = none → ∀ H', Fr [] H H' → Q .non H') ∧ (∀ i j : Nat, findR s.1 k = some (i, j) → ∀ H' p, Fr [] H H' → H' p = some (.tup [.int i, .int j]) → Q (.ref p) H')
abbrev s_l_spot_of : Stmt := inClass (topS 15) 6
theorem sc_l_spot_of : FnScope ["self", "key", "segment", "row"] ["self", "key"] (C8.fnScope s_l_spot_of) := C8.fnScope_by (by decide +kernel)
theorem k_l_spot (T : Bi mg) (S : Txt K mg CL CS) (me : Meth K CL "spot_of" f) (F : C8.Fun K "spot_of" "SegmentLog.spot_of" s_l_spot_of f fd) (b : Binds K fd ["self", "key"] []) : C8.Met P w K mg base 1 CL "spot_of" (sp_l_spot CL) [] := by
  refine C8.met0 S.cl me F b sc_l_spot_of (fun vs H Q E h => ?_) (fun cdv A outer s0 H vs Q E hr h => ?_)
  · obtain ⟨g, z, s, k, rfl, _⟩ := h
    rfl
  · obtain ⟨g, z, s, k, rfl, M, ok, q0, q1⟩ := h
    have hu := hu_of hr
    have hl := ok.lsm
    refine ⟨_, pss_cons (ps_for PassesOwn.never rfl (pi_enum (by rfl) T.enumerate (pa_cons (pe_fld (pv 0) rfl) pa_nil)) (pg_tup (by rfl) (pgs_cons (pg_name (i := 2) sc_l_spot_of.nd rfl (by first | exact Or.inl rfl | exact Or.inr rfl)) (pgs_cons (pg_name (i := 3) sc_l_spot_of.nd rfl (by first | exact Or.inl rfl | exact Or.inr rfl)) pgs_nil)))
        (pss_one (ps_if (pt_cmpR op_in_seq (pv 1) (pv 3) (by rfl)) (pss_one (ps_ret (pe_tup (pa_cons (pv 2) (pa_cons (pe_bm PySem.F.plainAttrs_list PySem.F.slot_list_index PySem.F.type_list_index mt_index (pv 3) (pa_cons (pv 1) pa_nil)) pa_nil))))) (pss_nil))))
      (pss_one (ps_ret (pe_non))), ?_⟩
    obtain ⟨dx, e⟩ := M.ob
    refine ⟨_, rfl, g.l, CL, dx, _, _, rfl, e, S.cl, S.l_rows, lf_rows, g.ra, _, rfl, SqL.of M.rows, ?_⟩
    refine for_enumL (K := K) (a := g.ra) (xs := g.rs.map V.ref) (fun i σ H' => Fr [] H H' ∧ (∃ v2 v3 : Option V, σ = [some (.ref g.l), some (.str k), v2, v3]) ∧ ∀ i', i' < i → some k ∉ rowAt s.1 i') ⟨Fr.refl _ _, ⟨none, none, rfl⟩, fun _ h => absurd h (Nat.not_lt_zero _)⟩ (fun i σ H' _ c => SqL.of (M.fr0 c.1).rows) ?_ ?_
    · rintro i x σ H1 t hi ht ⟨f1, ⟨v2, v3, rfl⟩, low⟩
      have f2 := f1.then (Fr.new (o := .tup [.int (i : Nat), x]) ht)
      have et : (upd H1 t (.tup [.int (i : Nat), x])) t = some (.tup [.int (i : Nat), x]) := upd_same
      generalize upd H1 t (.tup [.int (i : Nat), x]) = H2 at f2 et ⊢
      have hi' : i < s.1.length := by
        have := (List.getElem?_eq_some_iff.mp hi).1
        rwa [M.rs_len] at this
      have M2 := M.fr0 f2
      obtain ⟨y, xs, e1, e2, hx, hv⟩ := M2.at_row hi'
      rw [e2] at hi
      have hi2 := Option.some.inj hi
      subst hi2
      refine ⟨t, _, rfl, SqT.of et, rfl, _, _, rfl, _, _, rfl, rfl, ?_⟩
      refine ⟨_, rfl, _, rfl, y, _, rfl, .inl (SqL.of hx), rfl, flat_keys hv, _, rfl, ite2 (fun hb => ?_) (fun hb => ?_)⟩
      · rw [inV_key hv] at hb
        obtain ⟨j, hj, fst⟩ := first_in (some k) (of_decide_eq_true hb)
        obtain ⟨v, gv, rv⟩ := paired_get_r hv hj
        refine ⟨_, rfl, _, rfl, .inl ⟨rfl, _, SqL.of hx⟩, _, rfl, y, _, .str k, j, v, rfl, rfl, SqL.of hx, rfl, flat_keys hv, gv, ?_, fun m z' hm gz => ?_, (by show 2 ≤ sizeLine; decide), fun p hp => ?_⟩
        · rw [eqV_key rv]
          exact decide_eq_true rfl
        · obtain ⟨o, go, ro⟩ := paired_get hv gz
          rw [eqV_key ro]
          refine decide_eq_false fun z => fst m hm ?_
          rw [go, z]
        · exact q1 i j (findR_some ⟨hj, fst, low⟩) _ p (f2.then (Fr.new hp)) upd_same
      · rw [inV_key hv] at hb
        have hnm : some k ∉ rowAt s.1 i := fun z => hb (decide_eq_true z)
        refine ⟨f2, ⟨_, _, rfl⟩, fun i' h => ?_⟩
        rcases Nat.lt_or_ge i' i with h2 | h2
        · exact low i' h2
        · rw [show i' = i by omega]
          exact hnm
    · rintro σ H' ⟨f1, ⟨v2, v3, rfl⟩, low⟩
      rw [M.rs_len] at low
      refine q0 (findR_none fun i hm => ?_) H' f1
      rcases Nat.lt_or_ge i s.1.length with h | h
      · exact low i h hm
      · rw [rowAt_out h] at hm
        cases hm
/-! ### SegmentLog.can_carry -/
def can (z : Nat) (s : Sg Str) (p : Int) : Bool := decide (0 ≤ p ∧ p.toNat ∈ shut s.1 s.2 ∧ room z s.1 s.2 ≠ 0)
def sp_l_can (C : Addr) : Sp := fun vs H Q _ => ∃ (g : LAd) (z : Nat) (s : Sg Str) (p : Int), vs = [.ref g.l, .int p] ∧ LogAt C H g z s ∧ OkL z s ∧ ∀ H', Fr [] H H' → Q (.bl (can z s p)) H'
abbrev s_l_can_carry : Stmt := inClass (topS 15) 7
theorem sc_l_can_carry : FnScope ["self", "segment"] ["self", "segment"] (C8.fnScope s_l_can_carry) := C8.fnScope_by (by decide +kernel)
theorem k_l_can (T : Bi mg) (S : Txt K mg CL CS) (me : Meth K CL "can_carry" f) (F : C8.Fun K "can_carry" "SegmentLog.can_carry" s_l_can_carry f fd) (b : Binds K fd ["self", "segment"] [])
    (c_l_is_closed : C8.Met P w K mg base 2 CL "is_closed" (sp_l_closed CL) []) (c_l_room_left : C8.Met P w K mg base 3 CL "room_left" (sp_l_room CL) []) : C8.Met P w K mg base 4 CL "can_carry" (sp_l_can CL) [] := by
  refine C8.met0 S.cl me F b sc_l_can_carry (fun vs H Q E h => ?_) (fun cdv A outer s0 H vs Q E hr h => ?_)
  · obtain ⟨g, z, s, p, rfl, _⟩ := h
    rfl
  · obtain ⟨g, z, s, p, rfl, M, ok, q⟩ := h
    have hu := hu_of hr
    have hl := ok.lsm
    refine ⟨_, pss_cons (ps_if (PW.pt (pw_or (pt_cmpR op_lt (pv 1) (pe_int) (nomark _)) (pw_or1 (pt_cmpR op_ge (pv 1) (pe_callB call_len_seq (by rfl) T.len PySem.boot_len (pa_cons (pe_fld (pv 0) rfl) pa_nil)) (nomark _))))) (pss_one (ps_ret (pe_bl))) (pss_nil))
      (pss_one (ps_ret (pe_and (C8.pe_mt c_l_is_closed hr (by decide) (pv 0) (pa_cons (pv 1) pa_nil)) (pe_one (pe_cmpR op_gt (C8.pe_mt0 c_l_room_left hr (by decide) (pv 0)) (pe_int) (nomark _)))))), ?_⟩
    obtain ⟨dx, e⟩ := M.ob
    have hno : (0 ≤ p → s.1.length ≤ p.toNat) → can z s p = false := fun h => decide_eq_false fun ⟨h1, h2, _⟩ => by
      have := (shut_mem.mp h2).1
      have := h h1
      omega
    refine ⟨_, rfl, _, _, rfl, rfl, _, rfl, ite2 (fun hb => ?_) (fun hb => ?_)⟩
    · have hb' := of_decide_eq_true hb
      have := q H (Fr.refl _ _)
      rw [hno fun h => by omega] at this
      exact this
    · have h0 : 0 ≤ p := by
        rcases Int.lt_or_le p 0 with h | h
        · exact absurd (decide_eq_true h) hb
        · exact h
      refine ⟨_, rfl, _, rfl, g.l, CL, dx, _, _, rfl, e, S.cl, S.l_rows, lf_rows, g.ra, _, rfl, .inl (SqL.of M.rows), _, _, rfl, rfl, _, rfl, ite2 (fun hb2 => ?_) (fun hb2 => ?_)⟩
      · have hb3 := of_decide_eq_true hb2
        rw [M.rs_len] at hb3
        have := q H (Fr.refl _ _)
        rw [hno fun h => by omega] at this
        exact this
      · have hlt : p.toNat < s.1.length := by
          rcases Nat.lt_or_ge p.toNat s.1.length with h | h
          · exact h
          · exact absurd (decide_eq_true (by rw [M.rs_len]; omega)) hb2
        have ep : p = ((p.toNat : Nat) : Int) := (Int.toNat_of_nonneg h0).symm
        refine ⟨_, rfl, g.l, dx, _, rfl, e, rfl, _, rfl, g, z, s, p.toNat, ?_, M, ok, hlt, fun H1 f1 => ?_⟩
        · show [V.ref g.l, V.int p] = _
          rw [← ep]
        have M1 := M.fr0 f1
        obtain ⟨dx1, e1⟩ := M1.ob
        refine ⟨_, rfl, ite2 (fun hb4 => ?_) (fun hb4 => ?_)⟩
        · refine ⟨_, rfl, g.l, dx1, _, rfl, e1, rfl, g, z, s, rfl, M1, ok, fun H2 f2 => ?_⟩
          refine ⟨_, _, rfl, rfl, ?_⟩
          have := q H2 (f1.then f2)
          have hnn := room_nn ok.wf
          have ec : can z s p = decide ((0 : Int) < room z s.1 s.2) := by
            unfold can
            refine decide_eq_decide.mpr ⟨fun ⟨_, _, h⟩ => by omega, fun h => ⟨h0, ?_, by omega⟩⟩
            unfold shut
            rw [List.mem_filter, List.mem_range]
            exact ⟨hlt, hb4⟩
          rw [ec] at this
          exact this
        · have := q H1 f1
          have ec : can z s p = false := decide_eq_false fun ⟨_, h, _⟩ => by
            unfold shut at h
            rw [List.mem_filter] at h
            exact hb4 h.2
          rw [ec] at this
          exact this
end
end Cg

set_option Elab.async false
set_option linter.all false
set_option maxRecDepth 100000
set_option maxHeartbeats 400000
namespace Cg
open PySem PySem.Spec PyProof.Rows L2
theorem TurnsOk.move {n : Nat} {ts : List Nat} {hd x : Nat} (t : TurnsOk n ts hd) (hx : x < n) : TurnsOk n (ts.filter (fun j => !decide (j = x)) ++ [x]) x := by
  refine ⟨⟨_, rfl⟩, ?_, fun y hy => ?_⟩
  · rw [List.nodup_append]
    refine ⟨t.nd.filter _, by simp, fun a ha b hb e => ?_⟩
    have h1 := (List.mem_filter.mp ha).2
    rw [e, List.mem_singleton.mp hb] at h1
    simp at h1
  · rcases List.mem_append.mp hy with h | h
    · exact t.lt y (List.mem_filter.mp h).1
    · rw [List.mem_singleton.mp h]
      exact hx
section
variable {P : Program} {w : World} {K : PySem.W.Frag} {mg : Str → Option Value} {base : Heap} {f : Addr} {fd : FuncData} {CL CS : Addr}
/-! ### SegmentLog.append_key -/
def sp_l_append (C : Addr) : Sp := fun vs H Q _ => ∃ (g : LAd) (z : Nat) (s : Sg Str) (k : Str), vs = [.ref g.l, .str k] ∧ LogAt C H g z s ∧ OkL z s ∧ room z s.1 s.2 ≠ 0 ∧ ∀ H' g', LogTo C H g z (write z s k) H' g' → Q .non H'
abbrev s_l_append_key : Stmt := inClass (topS 15) 8
theorem sc_l_append_key : FnScope ["self", "key", "fresh", "segment"] ["self", "key"] (C8.fnScope s_l_append_key) := C8.fnScope_by (by decide +kernel)
theorem k_l_append (T : Bi mg) (S : Txt K mg CL CS) (me : Meth K CL "append_key" f) (F : C8.Fun K "append_key" "SegmentLog.append_key" s_l_append_key f fd) (b : Binds K fd ["self", "key"] [])
    (c_l_head_segment : C8.Met P w K mg base 1 CL "head_segment" (sp_l_head CL) []) (c_l_unwritten : C8.Met P w K mg base 2 CL "unwritten" (sp_l_unwritten CL) []) : C8.Met P w K mg base 3 CL "append_key" (sp_l_append CL) [] := by
  refine C8.met0 S.cl me F b sc_l_append_key (fun vs H Q E h => ?_) (fun cdv A outer s0 H vs Q E hr h => ?_)
  · obtain ⟨g, z, s, k, rfl, _⟩ := h
    rfl
  · obtain ⟨g, z, s, k, rfl, M, ok, hro, q⟩ := h
    have hu := hu_of hr
    have hl := ok.lsm
    have hw := ok.wsm
    refine ⟨_, C8.pss_cut (ps_if (pt_cmpR op_eq (pe_callB call_len_seq (by rfl) T.len PySem.boot_len (pa_cons (pe_ix ix_list (pe_fld (pv 0) rfl) (C8.pe_mt0 c_l_head_segment hr (by decide) (pv 0)) (fun _ _ => rfl)) pa_nil)) (pe_fld (pv 0) rfl) (nomark _)) (pss_cons (ps_set (i := 2) sc_l_append_key.nd rfl (by first | exact Or.inl rfl | exact Or.inr rfl) (pe_ix ix_list (C8.pe_mt0 c_l_unwritten hr (by decide) (pv 0)) (pe_int) (fun _ _ => rfl)))
      (pss_one (ps_fld (pv 0) (pe_op op_cat (pe_lc (own := [("segment", 3)]) (g := gName 3) (tt := _) rfl sc_l_append_key.nd (pi_list (pe_fld (pv 0) rfl)) (blkOk_by (own := [("segment", 3)]) (N := ["self", "key", "fresh", "segment"]) (sc := C8.fnScope s_l_append_key) (by decide +kernel)) (fun _ _ _ _ _ => pg_name (i := 3) sc_l_append_key.nd rfl (by first | exact Or.inl rfl | exact Or.inr rfl)) (fun _ _ _ _ _ => pts_one (pt_cmpR op_ne (pv 3) (pv 2) (nomark _))) (fun _ _ _ _ _ => pv 3)) (pe_lst (pa_cons (pv 2) pa_nil))) rfl))) (pss_nil))
      (pss_one (ps_expr (pe_bm PySem.F.plainAttrs_list PySem.F.slot_list_append PySem.F.type_list_append mt_append (pe_ix ix_list (pe_fld (pv 0) rfl) (C8.pe_mt0 c_l_head_segment hr (by decide) (pv 0)) (fun _ _ => rfl)) (pa_cons (pv 1) pa_nil)))), ?_⟩
    obtain ⟨dx, e⟩ := M.ob
    obtain ⟨x, xs, e1, e2, hx, hv⟩ := M.at_row ok.wf.hdl
    have hxl : xs.length = (rowAt s.1 s.2).length := Paired.length hv
    have hho := headOf_ok ok.wf hro
    refine ⟨fun σ H' => ∃ (g1 : LAd) (v2 v3 : Option V), LogTo CL H g z (s.1, headOf z s.1 s.2) H' g1 ∧ σ = [some (.ref g.l), some (.str k), v2, v3], ?_, ?_⟩
    · refine ⟨_, rfl, g.l, CL, dx, _, _, rfl, e, S.cl, S.l_rows, lf_rows, _, rfl, g.l, dx, _, rfl, e, rfl, g, z, s, rfl, M, ?_⟩
      refine ⟨g.ra, _, _, _, rfl, rfl, SqL.of M.rows, atI_nat e2, x, _, rfl, .inl (SqL.of hx), ?_⟩
      refine ⟨_, rfl, g.l, CL, dx, _, _, rfl, e, S.cl, S.l_span, lf_span, rfl, _, rfl, ite2 (fun hb => ?_) (fun hb => ?_)⟩
      · rw [hxl, dec_nn] at hb
        have hf : (rowAt s.1 s.2).length = z := of_decide_eq_true hb
        have hne := others_ne hf hro
        have eho : headOf z s.1 s.2 = (others s.1 s.2).headD 0 := if_pos hf
        refine ⟨_, rfl, g.l, dx, _, rfl, e, rfl, g, z, s, rfl, M, ok, fun H1 p f1 np hp => ?_⟩
        have h0 : ((others s.1 s.2).map fun j : Nat => V.int j)[0]? = some (.int ((others s.1 s.2).headD 0 : Nat)) := by
          rw [List.getElem?_map, headD_get hne]
          rfl
        rw [← eho] at h0
        generalize headOf z s.1 s.2 = y at hho h0 ⊢
        refine ⟨p, _, 0, _, rfl, rfl, SqL.of hp, atI_nat (j := 0) h0, ?_⟩
        have M1 := M.fr0 f1
        obtain ⟨dx1, e1'⟩ := M1.ob
        obtain ⟨ts, ht, t2⟩ := M1.turns
        have htl := t2.len
        refine ⟨_, rfl, g.l, CL, dx1, _, _, rfl, e1', S.cl, S.l_turns, lf_turns, g.ta, rfl, ⟨_, SqL.of ht⟩, fun D hD => ?_⟩
        refine lc_list (K := K) (a := g.ta) (xs := ts.map fun j : Nat => V.int j) (CompI H1 D fun i => ((ts.take i).filter fun j => !decide (j = y)).map fun j : Nat => V.int j) (CompI.start hD rfl) (fun i H' _ c => SqL.of (c.old ht)) ?_ ?_
        · intro i v H' hi c
          rw [List.getElem?_map] at hi
          cases ei : ts[i]? with
          | none =>
            rw [ei] at hi
            cases hi
          | some j =>
            rw [ei] at hi
            have hi2 : V.int (j : Int) = v := Option.some.inj hi
            subst hi2
            have hacc := take_more ei
            refine ⟨rfl, _, rfl, _, rfl, rfl, _, rfl, ite2 (fun hb3 => ?_) (fun hb3 => ?_)⟩
            · rw [dec_nn] at hb3
              refine ⟨_, rfl, c.put ?_ ?_⟩
              · rw [List.length_map]
                refine Nat.le_trans (List.length_filter_le _ _) ?_
                rw [List.length_take]
                omega
              · show ((ts.take (i + 1)).filter _).map _ = _
                rw [hacc, List.filter_append, List.map_append]
                simp [hb3]
            · rw [dec_nn] at hb3
              refine c.skip ?_
              show ((ts.take (i + 1)).filter _).map _ = _
              rw [hacc, List.filter_append, List.map_append]
              simp [not_true hb3]
        · intro H2 c
          have hd := c.at_
          rw [List.length_map, List.take_length] at hd
          refine ⟨_, rfl, (by show 1 ≤ sizeLine; decide), fun p2 hp2 => ?_⟩
          have f3 : Fr [] H2 (upd H2 p2 (.lst [.int (y : Nat)])) := Fr.new hp2
          have ep2 : (upd H2 p2 (.lst [.int (y : Nat)])) p2 = some (.lst [.int (y : Nat)]) := upd_same
          generalize upd H2 p2 (.lst [.int (y : Nat)]) = H3 at f3 ep2 ⊢
          refine ⟨D, p2, _, _, rfl, rfl, f3.all _ _ hd (by simp), ep2, ?_, fun p3 hp3 => ?_⟩
          · rw [List.length_map]
            have h1 := List.length_filter_le (fun j => !decide (j = y)) ts
            have h2 := small1000 (n := (ts.filter fun j => !decide (j = y)).length + 1) (by omega)
            exact Nat.le_of_lt h2
          have ec : ((ts.filter fun j => !decide (j = y)).map fun j : Nat => V.int j) ++ [V.int (y : Nat)] = (ts.filter (fun j => !decide (j = y)) ++ [y]).map fun j : Nat => V.int j := by rw [List.map_append]; rfl
          rw [ec]
          have f4 : Fr [] H3 (upd H3 p3 (.lst ((ts.filter (fun j => !decide (j = y)) ++ [y]).map fun j : Nat => V.int j))) := Fr.new hp3
          have ep3 : (upd H3 p3 (.lst ((ts.filter (fun j => !decide (j = y)) ++ [y]).map fun j : Nat => V.int j))) p3 = some (.lst ((ts.filter (fun j => !decide (j = y)) ++ [y]).map fun j : Nat => V.int j)) := upd_same
          generalize upd H3 p3 (.lst ((ts.filter (fun j => !decide (j = y)) ++ [y]).map fun j : Nat => V.int j)) = H4 at f4 ep3 ⊢
          have f14 := (c.fr0.then f3).then f4
          have M4 := M1.fr0 f14
          have n1 : H1 p3 = none := (c.fr0.then f3).free hp3 fun x h => by cases h
          have e4 := f14.all _ _ e1' (by simp)
          obtain ⟨f5, M5⟩ := M4.set_turns ep3 (not_mem_free n1 M1.there) (t2.move hho.1) e4
          refine ⟨_, rfl, g.l, CL, dx1, _, rfl, e4, S.cl, S.l_turns, (by show 4 < 1000; decide), { g with ta := p3 }, _, _, ?_, rfl⟩
          have ft := (f1.then f14)
          refine ⟨ft.in.then f5, rfl, fun y hy => ?_, M5⟩
          simp only [LAd.fp, List.mem_cons] at hy ⊢
          rcases hy with h | h | h | h | h
          · simp [h]
          · simp [h]
          · right
            rw [h]
            exact f1.free n1 fun x h => by cases h
          · simp [h]
          · simp [h]
      · rw [hxl, dec_nn] at hb
        have hf : ¬ (rowAt s.1 s.2).length = z := fun z => hb (decide_eq_true z)
        refine ⟨g, none, none, ?_, rfl⟩
        rw [show headOf z s.1 s.2 = s.2 from if_neg hf]
        exact LogTo.of0 (Fr.refl _ _) M
    · rintro σ H1 ⟨g1, v2, v3, t1, rfl⟩
      have M1 := t1.2.2.2
      obtain ⟨dx1, e1'⟩ := M1.ob
      rw [t1.2.1] at e1'
      have el : g1.l = g.l := t1.2.1
      obtain ⟨y, ys, e3, e4, hy, hvy⟩ := M1.at_row (show (s.1, headOf z s.1 s.2).2 < (s.1, headOf z s.1 s.2).1.length from hho.1)
      have hyl : ys.length = (rowAt s.1 (headOf z s.1 s.2)).length := Paired.length hvy
      refine ⟨_, rfl, g.l, CL, dx1, _, _, rfl, e1', S.cl, S.l_rows, lf_rows, _, rfl, g.l, dx1, _, rfl, e1', rfl, g1, z, _, (by rw [el]; rfl), M1, ?_⟩
      refine ⟨g1.ra, _, _, _, rfl, rfl, SqL.of M1.rows, atI_nat e4, .inl ⟨rfl, _, SqL.of hy⟩, _, rfl, y, _, _, rfl, rfl, hy, small1000 (by rw [hyl]; exact ok.row _), ?_⟩
      obtain ⟨f5, M5⟩ := M1.set_row e3 hy (paired_snoc (show KeyV H1 (.str k) (some k) from rfl) hvy)
      exact q _ g1 (t1.step f5 M5 M.there)
/-! ### SegmentLog.kill_at -/
def sp_l_kill (C : Addr) : Sp := fun vs H Q _ => ∃ (g : LAd) (z : Nat) (s : Sg Str) (i j : Nat), vs = [.ref g.l, .int i, .int j] ∧ LogAt C H g z s ∧ OkL z s ∧ i < s.1.length ∧ j < (rowAt s.1 i).length ∧ ∀ H' g', LogTo C H g z (killR s.1 i j, s.2) H' g' → Q .non H'
abbrev s_l_kill_at : Stmt := inClass (topS 15) 9
theorem sc_l_kill_at : FnScope ["self", "segment", "place"] ["self", "segment", "place"] (C8.fnScope s_l_kill_at) := C8.fnScope_by (by decide +kernel)
theorem k_l_kill (T : Bi mg) (S : Txt K mg CL CS) (me : Meth K CL "kill_at" f) (F : C8.Fun K "kill_at" "SegmentLog.kill_at" s_l_kill_at f fd) (b : Binds K fd ["self", "segment", "place"] [])
    (c_l_alive : C8.Met P w K mg base 1 CL "alive" (sp_l_alive CL) []) : C8.Met P w K mg base 2 CL "kill_at" (sp_l_kill CL) [] := by
  refine C8.met0 S.cl me F b sc_l_kill_at (fun vs H Q E h => ?_) (fun cdv A outer s0 H vs Q E hr h => ?_)
  · obtain ⟨g, z, s, i, j, rfl, _⟩ := h
    rfl
  · obtain ⟨g, z, s, i, j, rfl, M, ok, hi, hj, q⟩ := h
    have hu := hu_of hr
    have hl := ok.lsm
    have hw := ok.wsm
    refine ⟨_, pss_cons (ps_asg (pe_non) (pg_sub (pe_ix ix_list (pe_fld (pv 0) rfl) (pv 1) (fun _ _ => rfl)) (pv 2) set_list))
      (pss_one (ps_if (pt_cmpR op_eq (C8.pe_mt c_l_alive hr (by decide) (pv 0) (pa_cons (pv 1) pa_nil)) (pe_int) (nomark _)) (pss_cons (ps_asg (pe_lst pa_nil) (pg_sub (pe_fld (pv 0) rfl) (pv 1) set_list))
      (pss_one (ps_augS (pe_fld (pv 0) rfl) (pv 1) get_list (pe_int) ip_add set_list))) (pss_nil))), ?_⟩
    obtain ⟨dx, e⟩ := M.ob
    obtain ⟨x, xs, e1, e2, hx, hv⟩ := M.at_row hi
    have hxl : xs.length = (rowAt s.1 i).length := Paired.length hv
    refine ⟨_, rfl, g.l, CL, dx, _, _, rfl, e, S.cl, S.l_rows, lf_rows, _, rfl, g.ra, _, _, _, rfl, rfl, SqL.of M.rows, atI_nat e2, _, rfl, x, _, _, j, rfl, rfl, hx, ixN_at (by rw [hxl]; exact hj), ?_⟩
    obtain ⟨f1, M1⟩ := M.set_row (r := (rowAt s.1 i).set j none) e1 hx (paired_set (x := V.non) (y := none) rfl j hv)
    have ok1 : OkL z (s.1.set i ((rowAt s.1 i).set j none), s.2) := by
      refine ⟨⟨ok.wf.pos, by rw [List.length_set]; exact ok.wf.hdl, fun r hm => ?_⟩, hw, by rw [List.length_set]; exact hl⟩
      rcases mem_set_or hm with e | e
      · exact ok.wf.len r e
      · rw [e, List.length_set]
        exact ok.wf.at i
    obtain ⟨dx1, e1'⟩ := M1.ob
    have er : rowAt (s.1.set i ((rowAt s.1 i).set j none)) i = (rowAt s.1 i).set j none := rowAt_set_same hi
    have il2 : i < (s.1.set i ((rowAt s.1 i).set j none)).length := by rw [List.length_set]; exact hi
    refine ⟨_, rfl, g.l, dx1, _, rfl, e1', rfl, _, rfl, g, z, _, i, rfl, M1, ok1, il2, fun H2 f2 => ?_⟩
    have M2 := M1.fr0 f2
    obtain ⟨dx2, e2'⟩ := M2.ob
    have t1 : LogTo CL H g z (s.1.set i ((rowAt s.1 i).set j none), s.2) H2 g := LogTo.of (f1.then f2.in) M2
    refine ⟨rfl, _, rfl, ite2 (fun hb => ?_) (fun hb => ?_)⟩
    · rw [er, dec_0] at hb
      have ha : alive ((rowAt s.1 i).set j none) = 0 := of_decide_eq_true hb
      refine ⟨(by show 0 ≤ sizeLine; decide), fun n hn => ?_⟩
      have M2' : LogAt CL (upd H2 n (.lst [])) g z _ := M2.fr0 (Fr.new hn)
      obtain ⟨dx3, e3'⟩ := M2'.ob
      obtain ⟨f3, M3⟩ := M2.fresh (n := n) il2 hn
      refine ⟨_, rfl, g.l, CL, dx3, _, _, rfl, e3', S.cl, S.l_rows, lf_rows, _, rfl, g.ra, _, _, i, rfl, rfl, M2'.rows, ixN_at (by rw [M2'.rs_len]; exact il2), ?_⟩
      obtain ⟨dx4, e4'⟩ := M3.ob
      obtain ⟨ns, hns, lns⟩ := M3.frees
      have lf : i < ns.length := by
        rw [lns]
        show i < ((s.1.set i _).set i _).length
        rw [List.length_set]
        exact il2
      have ef : (ns.map V.int)[i]? = some (.int ns[i]) := by
        rw [List.getElem?_map, List.getElem?_eq_getElem lf]
        rfl
      refine ⟨_, rfl, g.l, CL, dx4, _, _, rfl, e4', S.cl, S.l_frees, lf_frees, _, rfl, g.fa, _, i, _, rfl, rfl, SqL.of hns, ef, _, _, rfl, rfl, g.fa, _, _, i, rfl, rfl, hns, ixN_at (by rw [List.length_map]; exact lf), ?_⟩
      show Q .non (upd _ g.fa (.lst ((ns.map V.int).set i (.int (ns[i] + 1)))))
      rw [show (ns.map V.int).set i (.int (ns[i] + 1)) = (ns.set i (ns[i] + 1)).map V.int from (List.map_set ..).symm]
      obtain ⟨f4, M4⟩ := M3.set_frees (ns := ns.set i (ns[i] + 1)) (by rw [List.length_set]; exact lns)
      have e : killR s.1 i j = (s.1.set i ((rowAt s.1 i).set j none)).set i [] := by
        unfold killR cleared
        rw [if_pos ha, List.set_set]
      refine q _ { g with rs := g.rs.set i n } ?_
      rw [e]
      have t2 : LogTo CL H2 g z ((s.1.set i ((rowAt s.1 i).set j none)).set i [], s.2) _ { g with rs := g.rs.set i n } := ⟨f3, rfl, fun y hy => ?_, M3⟩
      · exact (t1.trans t2 M.there).trans (LogTo.of f4 M4) M.there
      · rcases List.mem_cons.mp hy with h | h
        · exact .inl (by rw [h]; exact g.mem_l)
        rcases List.mem_cons.mp h with h | h
        · exact .inl (by rw [h]; exact g.mem_ra)
        rcases List.mem_cons.mp h with h | h
        · exact .inl (by rw [h]; exact g.mem_ta)
        rcases List.mem_cons.mp h with h | h
        · exact .inl (by rw [h]; exact g.mem_fa)
        rcases List.mem_or_eq_of_mem_set h with h | h
        · exact .inl (g.mem_rows y (List.mem_cons_of_mem _ h))
        · exact .inr (by rw [h]; exact hn)
    · rw [er, dec_0] at hb
      have ha : ¬ alive ((rowAt s.1 i).set j none) = 0 := fun z => hb (decide_eq_true z)
      have e : killR s.1 i j = s.1.set i ((rowAt s.1 i).set j none) := by
        unfold killR cleared
        rw [if_neg ha]
      refine q H2 g ?_
      rw [e]
      exact t1
/-! ### SegmentLog.carry_from -/
theorem can_move {z : Nat} {s : Sg Str} {p : Int} (h : can z s p = true) : ∃ s', move z s p = some s' := by
  have c := of_decide_eq_true h
  obtain ⟨k, hk⟩ := firstLive_ok (shut_mem.mp c.2.1).2.2
  unfold move
  rw [if_pos c, hk]
  exact ⟨_, rfl⟩
theorem cant_move {z : Nat} {s : Sg Str} {p : Int} (h : can z s p = false) : move z s p = none := by
  unfold move
  rw [if_neg (of_decide_eq_false h)]
def sp_l_carry (C : Addr) : Sp := fun vs H Q _ => ∃ (g : LAd) (z : Nat) (s : Sg Str) (p : Int), vs = [.ref g.l, .int p] ∧ LogAt C H g z s ∧ OkL z s ∧ can z s p = true ∧ ∀ s', move z s p = some s' → ∀ H' g', LogTo C H g z s' H' g' → Q .non H'
abbrev s_l_carry_from : Stmt := inClass (topS 15) 10
theorem sc_l_carry_from : FnScope ["self", "segment", "row", "places", "place", "key"] ["self", "segment"] (C8.fnScope s_l_carry_from) := C8.fnScope_by (by decide +kernel)
theorem k_l_carry (T : Bi mg) (S : Txt K mg CL CS) (me : Meth K CL "carry_from" f) (F : C8.Fun K "carry_from" "SegmentLog.carry_from" s_l_carry_from f fd) (b : Binds K fd ["self", "segment"] [])
    (c_l_append_key : C8.Met P w K mg base 3 CL "append_key" (sp_l_append CL) []) (c_l_kill_at : C8.Met P w K mg base 2 CL "kill_at" (sp_l_kill CL) []) : C8.Met P w K mg base 4 CL "carry_from" (sp_l_carry CL) [] := by
  refine C8.met0 S.cl me F b sc_l_carry_from (fun vs H Q E h => ?_) (fun cdv A outer s0 H vs Q E hr h => ?_)
  · obtain ⟨g, z, s, p, rfl, _⟩ := h
    rfl
  · obtain ⟨g, z, s, p, rfl, M, ok, hc, q⟩ := h
    have hu := hu_of hr
    have hl := ok.lsm
    have hw := ok.wsm
    refine ⟨_, pss_cons (ps_set (i := 2) sc_l_carry_from.nd rfl (by first | exact Or.inl rfl | exact Or.inr rfl) (pe_ix ix_list (pe_fld (pv 0) rfl) (pv 1) (fun _ _ => rfl)))
      (pss_cons (ps_setLc (i := 3) (own := [("place", 4), ("key", 5)]) (g := gTup K 2 (gCons (gName 4) (gCons (gName 5) gNil))) (tt := _) rfl sc_l_carry_from.nd rfl rfl (sw_true rfl rfl rfl (by decide +kernel)) (pi_enum (by rfl) T.enumerate (pa_cons (pv 2) pa_nil)) (blkOk_by (own := [("place", 4), ("key", 5)]) (N := ["self", "segment", "row", "places", "place", "key"]) (sc := C8.fnScope s_l_carry_from) (by decide +kernel)) (fun _ _ _ _ _ => pg_tup (by rfl) (pgs_cons (pg_name (i := 4) sc_l_carry_from.nd rfl (by first | exact Or.inl rfl | exact Or.inr rfl)) (pgs_cons (pg_name (i := 5) sc_l_carry_from.nd rfl (by first | exact Or.inl rfl | exact Or.inr rfl)) pgs_nil))) (fun _ _ _ _ _ => pts_one (pt_cmp (pc_notN (pv 5)))) (fun _ _ _ _ _ => pv 4))
      (pss_cons (ps_expr (C8.pe_mt c_l_append_key hr (by decide) (pv 0) (pa_cons (pe_ix ix_list (pv 2) (pe_ix ix_list (pv 3) (pe_int) (fun _ _ => rfl)) (fun _ _ => rfl)) pa_nil)))
      (pss_one (ps_expr (C8.pe_mt c_l_kill_at hr (by decide) (pv 0) (pa_cons (pv 1) (pa_cons (pe_ix ix_list (pv 3) (pe_int) (fun _ _ => rfl)) pa_nil))))))), ?_⟩
    obtain ⟨h0, hs, hro⟩ := of_decide_eq_true hc
    obtain ⟨hi, hne, hal⟩ := shut_mem.mp hs
    have ep : p = ((p.toNat : Nat) : Int) := (Int.toNat_of_nonneg h0).symm
    generalize hn : p.toNat = i at hs hi hne hal ep
    subst ep
    obtain ⟨dx, e⟩ := M.ob
    obtain ⟨x, xs, e1, e2, hx, hv⟩ := M.at_row hi
    have hxl : xs.length = (rowAt s.1 i).length := Paired.length hv
    have hrow := ok.row i
    refine ⟨_, rfl, g.l, CL, dx, _, _, rfl, e, S.cl, S.l_rows, lf_rows, _, rfl, g.ra, _, _, _, rfl, rfl, SqL.of M.rows, atI_nat e2, ?_⟩
    refine ⟨_, rfl, x, _, rfl, SqL.of hx, fun D hD => ?_⟩
    refine lc_enumL (K := K) (a := x) (xs := xs) (CompI H D fun n => ((List.range n).filter fun j => ((rowAt s.1 i).getD j none).isSome).map fun j : Nat => V.int j) (CompI.start hD rfl) (fun j H' _ c => SqL.of (c.old hx)) ?_ ?_
    · intro j y H1 t hj ht c0
      have c := c0.more (Fr.new (o := .tup [.int (j : Nat), y]) ht)
      have et : (upd H1 t (.tup [.int (j : Nat), y])) t = some (.tup [.int (j : Nat), y]) := upd_same
      generalize upd H1 t (.tup [.int (j : Nat), y]) = H2 at c et ⊢
      have hj' := (List.getElem?_eq_some_iff.mp hj).1
      obtain ⟨o, eo, ro⟩ := paired_get hv hj
      have eg : ((rowAt s.1 i).getD j none).isSome = o.isSome := by rw [List.getD_eq_getElem?_getD, eo]; rfl
      refine ⟨t, _, rfl, SqT.of et, rfl, _, _, rfl, _, _, rfl, rfl, rfl, _, rfl, _, rfl, ite2 (fun hb2 => ?_) (fun hb2 => ?_)⟩
      · rw [keyV_dec ro, Bool.not_not] at hb2
        refine ⟨_, rfl, c.put (accR_len (by omega)) ?_⟩
        rw [accR, if_pos (eg.trans hb2)]
      · rw [keyV_dec ro, Bool.not_not] at hb2
        exact c.skip (acc_no (eg.trans (not_true hb2)))
    · intro H2 c
      rw [hxl] at c
      have hd := c.at_
      have M2 := M.fr0 c.fr0
      have hx2 := c.old hx
      obtain ⟨dx2, e2'⟩ := M2.ob
      obtain ⟨k, hk⟩ := firstLive_ok hal
      have hfl : (lives (rowAt s.1 i))[0]? = some (firstLive (rowAt s.1 i)) := headD_get (lives_ne hal)
      generalize hj : firstLive (rowAt s.1 i) = j at hk hfl
      have hd0 : (((List.range (rowAt s.1 i).length).filter fun j => ((rowAt s.1 i).getD j none).isSome).map fun j : Nat => V.int j)[0]? = some (.int (j : Nat)) := by
        rw [List.getElem?_map]
        have e5 : ((List.range (rowAt s.1 i).length).filter fun j => ((rowAt s.1 i).getD j none).isSome) = lives (rowAt s.1 i) := rfl
        rw [e5, hfl]
        rfl
      obtain ⟨v, ev, rv⟩ := paired_get_r hv hk
      have hjl := (List.getElem?_eq_some_iff.mp hk).1
      have rv' : v = .str k := rv
      subst rv'
      refine ⟨_, rfl, g.l, dx2, _, rfl, e2', rfl, _, rfl, _, rfl, D, _, 0, _, rfl, rfl, SqL.of hd, atI_nat (j := 0) hd0, x, _, _, _, rfl, rfl, SqL.of hx2, atI_nat ev, g, z, s, k, rfl, M2, ok, hro, fun H3 g3 t3 => ?_⟩
      have M3 := t3.2.2.2
      have el := t3.2.1
      obtain ⟨dx3, e3⟩ := M3.ob
      rw [el] at e3
      have hrne : rowAt s.1 i ≠ [] := fun z => by
        rw [z] at hal
        exact absurd hal (Nat.lt_irrefl 0)
      have hrow2 : rowAt (write z s k).1 i = rowAt s.1 i := rowAt_set_ne (headOf_ne ok.wf hro hne hrne)
      have okw : OkL z (write z s k) := ⟨ok.wf.write hro, ok.wsm, by show (push _ _ _).length ≤ _; rw [push_len]; exact hl⟩
      have nD : D ∉ g.fp := not_mem_free c.new M.there
      have hd3 := t3.1.all _ _ hd nD
      refine ⟨_, rfl, g.l, dx3, _, rfl, e3, rfl, _, rfl, _, rfl, D, _, 0, _, rfl, rfl, SqL.of hd3, atI_nat (j := 0) hd0, g3, z, write z s k, i, j, (by rw [el]; rfl), M3, okw, (by show _ < (push _ _ _).length; rw [push_len]; exact hi), by rw [hrow2]; exact hjl, fun H4 g4 t4 => ?_⟩
      refine q _ ?_ H4 g4 (((LogTo.of0 c.fr0 M).trans t3 M.there).trans t4 M.there)
      unfold move
      rw [if_pos ⟨h0, by rw [hn]; exact hs, hro⟩, hn, hj, hk]
end
end Cg

set_option Elab.async false
set_option linter.all false
set_option maxRecDepth 100000
set_option maxHeartbeats 400000
namespace Cg
open PySem PySem.Spec PyProof.Rows L2
theorem turns0 {n : Nat} (h : 0 < n) : TurnsOk n [0] 0 := ⟨⟨[], rfl⟩, by simp, fun x hx => by rw [List.mem_singleton.mp hx]; exact h⟩
theorem flat_rep (n : Nat) : (List.replicate n [V.int 0]).flatten = (List.replicate n (0 : Int)).map V.int := by
  induction n with
  | zero => rfl
  | succ n ih => rw [List.replicate_succ, List.replicate_succ, List.flatten_cons, ih]; rfl
theorem ne_of_none' {H : Hp} {y x : Addr} {o : HO} (h : H y = none) (e : H x = some o) : y ≠ x := fun z => by
  rw [z, e] at h
  cases h
def lf1 (z : Nat) : List (Str × V) := [("span", .int z)]
def lf2 (z : Nat) (D : Addr) : List (Str × V) := [("span", .int z), ("rows", .ref D)]
def lf3 (z : Nat) (D t : Addr) : List (Str × V) := [("span", .int z), ("rows", .ref D), ("turns", .ref t)]
section
variable {P : Program} {w : World} {K : PySem.W.Frag} {mg : Str → Option Value} {base : Heap} {f : Addr} {fd : FuncData} {CL CS : Addr}
/-! ### SegmentLog.__init__ -/
def sp_l_init (C : Addr) : Sp := fun vs H Q _ => ∃ (x dx : Addr) (n z : Nat), vs = [.ref x, .int n, .int z] ∧ H x = some (.ins C dx []) ∧ 0 < n ∧ n ≤ 100 ∧
  ∀ (H' : Hp) (g : LAd), g.l = x → Fr [x] H H' → (∀ y ∈ g.fp, y = x ∨ H y = none) → LogAt C H' g z (List.replicate n [], 0) → Q .non H'
abbrev s_l___init : Stmt := inClass (topS 15) 0
theorem sc_l___init : FnScope ["self", "segments", "size", "_"] ["self", "segments", "size"] (C8.fnScope s_l___init) := C8.fnScope_by (by decide +kernel)
theorem k_l_init (T : Bi mg) (S : Txt K mg CL CS) (M : Mk K CL f) (hm : mg "SegmentLog" = some (.ref CL)) (F : C8.Fun K "__init__" "SegmentLog.__init__" s_l___init f fd) (b : Binds K fd ["self", "segments", "size"] []) :
    C8.Mak P w K mg base 1 "SegmentLog" CL (sp_l_init CL) [] := by
  refine C8.mak0 M hm F b .nil sc_l___init (fun vs H Q E h => ?_) (fun cdv A outer s0 H vs Q E hr h => ?_)
  · obtain ⟨x, dx, n, z, rfl, _⟩ := h
    rfl
  · obtain ⟨x, dx, n, z, rfl, e, n0, n1, q⟩ := h
    have hu := hu_of hr
    refine ⟨_, pss_cons (ps_fld (pv 0) (pv 2) rfl)
      (pss_cons (ps_fld (pv 0) (pe_lc (own := [("_", 3)]) (g := gName 3) (tt := tYes) rfl sc_l___init.nd (pi_range1 rfl T.range (pa_cons (pv 1) pa_nil)) (blkOk_by (own := [("_", 3)]) (N := ["self", "segments", "size", "_"]) (sc := C8.fnScope s_l___init) (by decide +kernel)) (fun _ _ _ _ _ => pg_name (i := 3) sc_l___init.nd rfl (by first | exact Or.inl rfl | exact Or.inr rfl)) (fun _ _ _ _ _ => pts_nil) (fun _ _ _ _ _ => pe_lst pa_nil)) rfl)
      (pss_cons (ps_fld (pv 0) (pe_lst (pa_cons (pe_int) pa_nil)) rfl)
      (pss_one (ps_fld (pv 0) (pe_op op_rep (pe_lst (pa_cons (pe_int) pa_nil)) (pv 1)) rfl)))), ?_⟩
    -- span
    refine ⟨_, rfl, _, rfl, x, CL, dx, _, rfl, e, S.cl, S.l_span, (by show 0 < 1000; decide), ?_⟩
    have f1 : Fr [x] H (upd H x (.ins CL dx (lf1 z))) := Fr.set (by simp) e fun xs z => by cases z
    have e1 : (upd H x (.ins CL dx (lf1 z))) x = some (.ins CL dx (lf1 z)) := upd_same
    rw [show upd H x (.ins CL dx (putF "span" (.int z) [])) = upd H x (.ins CL dx (lf1 z)) from rfl]
    generalize upd H x (.ins CL dx (lf1 z)) = H1 at f1 e1 ⊢
    -- rows
    refine ⟨_, rfl, _, rfl, by omega, by omega, fun D hD => ?_⟩
    have eT : ((n : Nat) : Int).toNat = n := Int.toNat_natCast _
    refine lc_range (NewRows KeyV H1 D (List.replicate n [])) (NewRows.start hD) ?_ ?_
    · intro i H' hi ci
      refine ⟨rfl, ?_⟩
      exact (show (_ ≤ sizeLine) ∧ _ from ⟨(by show 0 ≤ sizeLine; decide), fun l hl2 => ci.put steady_key (by omega) hl2 (by rw [rowAt_replicate]; exact .nil)⟩)
    intro H2 ci
    rw [eT] at ci
    have ci : NewRows KeyV H1 D (List.replicate n []) (List.replicate n ([] : Row Str)).length H2 := by rw [List.length_replicate]; exact ci
    obtain ⟨ys, R2, fy⟩ := ci.done
    have f2 := ci.fr0
    have e2 := ci.old e1
    have nx : ∀ y ∈ D :: ys, y ≠ x := fun y hy => ne_of_none' (fy y hy) e1
    refine ⟨_, rfl, x, CL, dx, _, rfl, e2, S.cl, S.l_rows, (by show 1 < 1000; decide), ?_⟩
    rw [show putF "rows" (.ref D) (lf1 z) = (lf2 z D) from rfl]
    have f3 : Fr [x] H2 (upd H2 x (.ins CL dx (lf2 z D))) := Fr.set (by simp) e2 fun xs z => by cases z
    have e3 : (upd H2 x (.ins CL dx (lf2 z D))) x = some (.ins CL dx (lf2 z D)) := upd_same
    generalize upd H2 x (.ins CL dx (lf2 z D)) = H3 at f3 e3 ⊢
    have R3 := R2.fr steady_key f3 fun y hy => by simp; exact nx y hy
    -- turns
    refine ⟨(by show 1 ≤ sizeLine; decide), fun t ht => ?_⟩
    have f4 : Fr [] H3 (upd H3 t (.lst [.int 0])) := Fr.new ht
    have et : (upd H3 t (.lst [.int 0])) t = some (.lst [.int 0]) := upd_same
    generalize upd H3 t (.lst [.int 0]) = H4 at f4 et ⊢
    have e4 := f4.all _ _ e3 (by simp)
    have tx : t ≠ x := ne_of_none' ht e3
    refine ⟨_, rfl, x, CL, dx, _, rfl, e4, S.cl, S.l_turns, (by show 2 < 1000; decide), ?_⟩
    rw [show putF "turns" (.ref t) (lf2 z D) = (lf3 z D t) from rfl]
    have f5 : Fr [x] H4 (upd H4 x (.ins CL dx (lf3 z D t))) := Fr.set (by simp) e4 fun xs z => by cases z
    have e5 : (upd H4 x (.ins CL dx (lf3 z D t))) x = some (.ins CL dx (lf3 z D t)) := upd_same
    generalize upd H4 x (.ins CL dx (lf3 z D t)) = H5 at f5 e5 ⊢
    have R5 := (R3.fr steady_key f4 fun y hy z => by cases z).fr steady_key f5 fun y hy => by simp; exact nx y hy
    have et5 := f5.all _ _ et (by simp; exact tx)
    -- frees
    refine ⟨(by show 1 ≤ sizeLine; decide), fun a ha => ?_⟩
    have f6 : Fr [] H5 (upd H5 a (.lst [.int 0])) := Fr.new ha
    have ea : (upd H5 a (.lst [.int 0])) a = some (.lst [.int 0]) := upd_same
    generalize upd H5 a (.lst [.int 0]) = H6 at f6 ea ⊢
    refine ⟨_, rfl, a, _, _, rfl, rfl, ea, by omega, by omega, ?_, fun fr hfr => ?_⟩
    · rw [eT]
      have h := small1000 (n := n) (by omega)
      show 1 * n ≤ _
      omega
    rw [eT, flat_rep]
    have f7 : Fr [] H6 (upd H6 fr (.lst ((List.replicate n (0 : Int)).map V.int))) := Fr.new hfr
    have ef : (upd H6 fr (.lst ((List.replicate n (0 : Int)).map V.int))) fr = some (.lst ((List.replicate n (0 : Int)).map V.int)) := upd_same
    generalize upd H6 fr (.lst ((List.replicate n (0 : Int)).map V.int)) = H7 at f7 ef ⊢
    have f67 := f6.then f7
    have e7 := f67.all _ _ e5 (by simp)
    have hfr5 : H5 fr = none := f6.free hfr fun x h => by cases h
    have fx : fr ≠ x := ne_of_none' hfr5 e5
    refine ⟨_, rfl, x, CL, dx, _, rfl, e7, S.cl, S.l_frees, (by show 3 < 1000; decide), ?_⟩
    rw [show putF "frees" (.ref fr) (lf3 z D t) = lfl z ⟨x, D, t, fr, ys⟩ from rfl]
    have f8 : Fr [x] H7 (upd H7 x (.ins CL dx (lfl z ⟨x, D, t, fr, ys⟩))) := Fr.set (by simp) e7 fun xs z => by cases z
    have e8 : (upd H7 x (.ins CL dx (lfl z ⟨x, D, t, fr, ys⟩))) x = some (.ins CL dx (lfl z ⟨x, D, t, fr, ys⟩)) := upd_same
    generalize upd H7 x (.ins CL dx (lfl z ⟨x, D, t, fr, ys⟩)) = H8 at f8 e8 ⊢
    have R8 := (R5.fr steady_key f67 fun y hy z => by cases z).fr steady_key f8 fun y hy => by simp; exact nx y hy
    have nd := R8.nd
    have ntD : t ∉ D :: ys := not_mem_free ht (rows_there R3)
    have nfD : fr ∉ D :: ys := not_mem_free hfr5 (rows_there R5)
    have nft : fr ≠ t := ne_of_none' hfr5 et5
    have ux : (H1 x).isSome = true := by rw [e1]; rfl
    have freeH : ∀ y, H1 y = none → H y = none := fun y h => f1.free h fun a ha => by rw [List.mem_singleton.mp ha]; exact ux
    have free3 : ∀ y, H3 y = none → H1 y = none := fun y h => f2.free (f3.free h fun a ha => by rw [List.mem_singleton.mp ha, e3]; rfl) fun x h => by cases h
    have free5 : ∀ y, H5 y = none → H3 y = none := fun y h => f4.free (f5.free h fun a ha => by rw [List.mem_singleton.mp ha, e5]; rfl) fun x h => by cases h
    refine q H8 ⟨x, D, t, fr, ys⟩ rfl ?_ (fun y hy => ?_) ⟨?_, ⟨dx, e8⟩, R8, ⟨[0], f8.all _ _ (f67.all _ _ et5 (by simp)) (by simp; exact tx), turns0 (by rw [List.length_replicate]; exact n0)⟩, ⟨List.replicate n 0, f8.all _ _ ef (by simp; exact fx), by rw [List.length_replicate, List.length_replicate]⟩⟩
    · exact ((f1.then (f2.in.then f3)).then (f4.in.then f5)).then (f67.in.then f8)
    · rcases List.mem_cons.mp hy with h | hy
      · exact .inl h
      rcases List.mem_cons.mp hy with h | hy
      · exact .inr (freeH _ (by rw [h]; exact fy D List.mem_cons_self))
      rcases List.mem_cons.mp hy with h | hy
      · exact .inr (freeH _ (by rw [h]; exact free3 _ ht))
      rcases List.mem_cons.mp hy with h | hy
      · exact .inr (freeH _ (by rw [h]; exact free3 _ (free5 _ hfr5)))
      · exact .inr (freeH _ (fy y (List.mem_cons_of_mem _ hy)))
    · exact LAd.of_apart ⟨fun z => nx D List.mem_cons_self z.symm, fun z => tx z.symm, fun z => fx z.symm, fun z => nx x (List.mem_cons_of_mem _ z) rfl, fun z => ntD (by rw [show t = D from z.symm]; exact List.mem_cons_self), fun z => nfD (by rw [show fr = D from z.symm]; exact List.mem_cons_self),
        (List.nodup_cons.mp nd).1, fun z => nft z.symm, fun z => ntD (List.mem_cons_of_mem _ z), fun z => nfD (List.mem_cons_of_mem _ z), (List.nodup_cons.mp nd).2⟩
end
end Cg

set_option Elab.async false
set_option linter.all false
set_option maxRecDepth 100000
set_option maxHeartbeats 400000
namespace Cg
open PySem PySem.Spec PyProof.Rows L2
section
variable {P : Program} {w : World} {K : PySem.W.Frag} {mg : Str → Option Value} {base : Heap} {f : Addr} {fd : FuncData} {CL CS : Addr}
/-! ### SegmentLog.copied -/
def sp_l_copied (C : Addr) : Sp := fun vs H Q _ => ∃ (g : LAd) (z : Nat) (s : Sg Str), vs = [.ref g.l] ∧ LogAt C H g z s ∧ OkL z s ∧ ∀ (H' : Hp) (g' : LAd), Fr [] H H' → (∀ x ∈ g'.fp, H x = none) → LogAt C H' g' z s → Q (.ref g'.l) H'
abbrev s_l_copied : Stmt := inClass (topS 15) 11
theorem sc_l_copied : FnScope ["self", "other", "row"] ["self"] (C8.fnScope s_l_copied) := C8.fnScope_by (by decide +kernel)
theorem k_l_copied (T : Bi mg) (S : Txt K mg CL CS) (me : Meth K CL "copied" f) (F : C8.Fun K "copied" "SegmentLog.copied" s_l_copied f fd) (b : Binds K fd ["self"] [])
    (c_l___init : C8.Mak P w K mg base 1 "SegmentLog" CL (sp_l_init CL) []) : C8.Met P w K mg base 3 CL "copied" (sp_l_copied CL) [] := by
  refine C8.met0 S.cl me F b sc_l_copied (fun vs H Q E h => ?_) (fun cdv A outer s0 H vs Q E hr h => ?_)
  · obtain ⟨g, z, s, rfl, _⟩ := h
    rfl
  · obtain ⟨g, z, s, rfl, M, ok, q⟩ := h
    have hu := hu_of hr
    have hl := ok.lsm
    refine ⟨_, pss_cons (ps_set (i := 1) sc_l_copied.nd rfl (by first | exact Or.inl rfl | exact Or.inr rfl) (C8.pe_mk c_l___init hr (by decide) rfl (pa_cons (pe_callB call_len_seq (by rfl) T.len PySem.boot_len (pa_cons (pe_fld (pv 0) rfl) pa_nil)) (pa_cons (pe_fld (pv 0) rfl) pa_nil))))
      (pss_cons (ps_fld (pv 1) (pe_lc (own := [("row", 2)]) (g := gName 2) (tt := tYes) rfl sc_l_copied.nd (pi_list (pe_fld (pv 0) rfl)) (blkOk_by (own := [("row", 2)]) (N := ["self", "other", "row"]) (sc := C8.fnScope s_l_copied) (by decide +kernel)) (fun _ _ _ _ _ => pg_name (i := 2) sc_l_copied.nd rfl (by first | exact Or.inl rfl | exact Or.inr rfl)) (fun _ _ _ _ _ => pts_nil) (fun _ _ _ _ _ => pe_callTy (r := rListS K) call_listK (by rfl) T.list (by decide +kernel) (pa_cons (pv 2) pa_nil))) rfl)
      (pss_cons (ps_fld (pv 1) (pe_callTy call_list_of (by rfl) T.list (by decide +kernel) (pa_cons (pe_fld (pv 0) rfl) pa_nil)) rfl)
      (pss_cons (ps_fld (pv 1) (pe_callTy call_list_of (by rfl) T.list (by decide +kernel) (pa_cons (pe_fld (pv 0) rfl) pa_nil)) rfl)
      (pss_one (ps_ret (pv 1)))))), ?_⟩
    obtain ⟨dx, e⟩ := M.ob
    have n0 : 0 < s.1.length := Nat.lt_of_le_of_lt (Nat.zero_le _) ok.wf.hdl
    refine ⟨_, rfl, g.l, CL, dx, _, _, rfl, e, S.cl, S.l_rows, lf_rows, g.ra, _, rfl, .inl (SqL.of M.rows), _, rfl, g.l, CL, dx, _, _, rfl, e, S.cl, S.l_span, lf_span, ?_⟩
    intro x dx2 hx hdx hne
    have hx1 : (upd H dx2 (.own x)) x = none := by rw [upd_ne (Ne.symm hne)]; exact hx
    have fa : Fr [] H (upd (upd H dx2 (.own x)) x (.ins CL dx2 [])) := (Fr.new hdx).then (Fr.new hx1)
    refine ⟨x, dx2, s.1.length, z, by rw [M.rs_len]; rfl, upd_same, n0, hl, fun H1 g1 eg f1 fr1 M1 => ⟨rfl, ?_⟩⟩
    have fH1 : Fr [] H H1 := fa.trans f1 (fun y hy => .inr (by rw [List.mem_singleton.mp hy]; exact hx)) |>.less fun y hy => by cases hy
    have N1 := M.fr0 fH1
    obtain ⟨dx1, e1⟩ := N1.ob
    obtain ⟨dx3, e3⟩ := M1.ob
    rw [eg] at e3
    -- rows
    refine ⟨_, rfl, g.l, CL, dx1, _, _, rfl, e1, S.cl, S.l_rows, lf_rows, g.ra, rfl, ⟨_, SqL.of N1.rows⟩, fun D hD => ?_⟩
    refine lc_list (K := K) (a := g.ra) (xs := g.rs.map V.ref) (NewRows KeyV H1 D s.1) (NewRows.start hD) (fun i H' _ ci => SqL.of (ci.old N1.rows)) ?_ ?_
    · intro i y H' hi ci
      have hi' : i < s.1.length := by
        have := (List.getElem?_eq_some_iff.mp hi).1
        rwa [M.rs_len] at this
      have M' := N1.fr0 ci.fr0
      obtain ⟨x2, xs, e1, e2, hx, hxv⟩ := M'.at_row hi'
      rw [e2] at hi
      have hi2 := Option.some.inj hi
      subst hi2
      refine ⟨rfl, ?_⟩
      exact (show ∃ _, _ from ⟨_, rfl, x2, xs, rfl, .inl (SqL.of hx), fun l hl2 => ci.put steady_key (by omega) hl2 hxv⟩)
    intro H2 ci
    rw [N1.rs_len] at ci
    obtain ⟨ys, R2, fy⟩ := ci.done
    have f2 := ci.fr0
    have e4 := ci.old e3
    have nx : ∀ y ∈ D :: ys, y ≠ x := fun y hy => ne_of_none' (fy y hy) e3
    have freeH : ∀ y, H1 y = none → H y = none := fun y h => fH1.free h fun x h => by cases h
    refine ⟨_, rfl, x, CL, dx3, _, rfl, e4, S.cl, S.l_rows, (by show 4 < 1000; decide), ?_⟩
    rw [lf_put_rows]
    have f3 : Fr [x] H2 (upd H2 x (.ins CL dx3 (lfl z { g1 with ra := D }))) := Fr.set (by simp) e4 fun xs z => by cases z
    have e5 : (upd H2 x (.ins CL dx3 (lfl z { g1 with ra := D }))) x = some (.ins CL dx3 (lfl z { g1 with ra := D })) := upd_same
    generalize upd H2 x (.ins CL dx3 (lfl z { g1 with ra := D })) = H3 at f3 e5 ⊢
    have R3 := R2.fr steady_key f3 fun y hy => by simp; exact nx y hy
    have fH3 : Fr [] H H3 := ((fH1.then f2).trans f3 fun y hy => .inr (by rw [List.mem_singleton.mp hy]; exact hx))
    have N3 := M.fr0 fH3
    obtain ⟨dx4, e6⟩ := N3.ob
    obtain ⟨ts, ht, t3⟩ := N3.turns
    -- turns
    refine ⟨_, rfl, g.l, CL, dx4, _, _, rfl, e6, S.cl, S.l_turns, lf_turns, g.ta, _, rfl, .inl (SqL.of ht), fun t ft => ?_⟩
    have f4 : Fr [] H3 (upd H3 t (.lst (ts.map fun j : Nat => V.int j))) := Fr.new ft
    have et : (upd H3 t (.lst (ts.map fun j : Nat => V.int j))) t = some (.lst (ts.map fun j : Nat => V.int j)) := upd_same
    generalize upd H3 t (.lst (ts.map fun j : Nat => V.int j)) = H4 at f4 et ⊢
    have e7 := f4.all _ _ e5 (by simp)
    have tx : t ≠ x := ne_of_none' ft e5
    refine ⟨_, rfl, x, CL, dx3, _, rfl, e7, S.cl, S.l_turns, (by show 4 < 1000; decide), ?_⟩
    rw [lf_put_turns]
    have f5 : Fr [x] H4 (upd H4 x (.ins CL dx3 (lfl z { g1 with ra := D, ta := t }))) := Fr.set (by simp) e7 fun xs z => by cases z
    have e8 : (upd H4 x (.ins CL dx3 (lfl z { g1 with ra := D, ta := t }))) x = some (.ins CL dx3 (lfl z { g1 with ra := D, ta := t })) := upd_same
    generalize upd H4 x (.ins CL dx3 (lfl z { g1 with ra := D, ta := t })) = H5 at f5 e8 ⊢
    have R5 := (R3.fr steady_key f4 fun y hy z => by cases z).fr steady_key f5 fun y hy => by simp; exact nx y hy
    have et5 := f5.all _ _ et (by simp; exact tx)
    have fH5 : Fr [] H H5 := ((fH3.then f4).trans f5 fun y hy => .inr (by rw [List.mem_singleton.mp hy]; exact hx))
    have N5 := M.fr0 fH5
    obtain ⟨dx6, e9⟩ := N5.ob
    obtain ⟨ms, hms, lms⟩ := N5.frees
    -- frees
    refine ⟨_, rfl, g.l, CL, dx6, _, _, rfl, e9, S.cl, S.l_frees, lf_frees, g.fa, _, rfl, .inl (SqL.of hms), fun c hc => ?_⟩
    have f6 : Fr [] H5 (upd H5 c (.lst (ms.map V.int))) := Fr.new hc
    have ec : (upd H5 c (.lst (ms.map V.int))) c = some (.lst (ms.map V.int)) := upd_same
    generalize upd H5 c (.lst (ms.map V.int)) = H6 at f6 ec ⊢
    have e10 := f6.all _ _ e8 (by simp)
    have cx : c ≠ x := ne_of_none' hc e8
    refine ⟨_, rfl, x, CL, dx3, _, rfl, e10, S.cl, S.l_frees, (by show 4 < 1000; decide), ?_⟩
    rw [lf_put_frees]
    have f7 : Fr [x] H6 (upd H6 x (.ins CL dx3 (lfl z { g1 with ra := D, ta := t, fa := c }))) := Fr.set (by simp) e10 fun xs z => by cases z
    have e11 : (upd H6 x (.ins CL dx3 (lfl z { g1 with ra := D, ta := t, fa := c }))) x = some (.ins CL dx3 (lfl z { g1 with ra := D, ta := t, fa := c })) := upd_same
    generalize upd H6 x (.ins CL dx3 (lfl z { g1 with ra := D, ta := t, fa := c })) = H7 at f7 e11 ⊢
    have R7 := (R5.fr steady_key f6 fun y hy z => by cases z).fr steady_key f7 fun y hy => by simp; exact nx y hy
    have fH7 : Fr [] H H7 := ((fH5.then f6).trans f7 fun y hy => .inr (by rw [List.mem_singleton.mp hy]; exact hx))
    have nd := R7.nd
    have ntD : t ∉ D :: ys := not_mem_free ft (rows_there R3)
    have ncD : c ∉ D :: ys := not_mem_free hc (rows_there R5)
    have nct : c ≠ t := ne_of_none' hc et5
    refine ⟨_, rfl, q H7 ⟨x, D, t, c, ys⟩ fH7 (fun y hy => ?_) ⟨?_, ⟨dx3, e11⟩, R7, ⟨ts, f7.all _ _ (f6.all _ _ et5 (by simp)) (by simp; exact tx), t3⟩, ⟨ms, f7.all _ _ ec (by simp; exact cx), lms⟩⟩⟩
    · rcases List.mem_cons.mp hy with h | hy
      · rw [h]; exact hx
      rcases List.mem_cons.mp hy with h | hy
      · rw [h]; exact freeH _ (fy D List.mem_cons_self)
      rcases List.mem_cons.mp hy with h | hy
      · rw [h]; exact fH3.free ft fun x h => by cases h
      rcases List.mem_cons.mp hy with h | hy
      · rw [h]; exact fH5.free hc fun x h => by cases h
      · exact freeH _ (fy y (List.mem_cons_of_mem _ hy))
    · exact LAd.of_apart ⟨fun z => nx D List.mem_cons_self z.symm, fun z => tx z.symm, fun z => cx z.symm, fun z => nx x (List.mem_cons_of_mem _ z) rfl, fun z => ntD (by rw [show t = D from z.symm]; exact List.mem_cons_self), fun z => ncD (by rw [show c = D from z.symm]; exact List.mem_cons_self),
        (List.nodup_cons.mp nd).1, fun z => nct z.symm, fun z => ntD (List.mem_cons_of_mem _ z), fun z => ncD (List.mem_cons_of_mem _ z), (List.nodup_cons.mp nd).2⟩
end
end Cg

set_option Elab.async false
set_option linter.all false
set_option maxRecDepth 100000
set_option maxHeartbeats 400000
/-! Defs that may raise, in the words of L2N (an exception's context is None). -/
namespace Cg
open PySem PySem.Spec PyProof.Rows L2
theorem takes0 {X : Cx} : L2N.Takes X (fun _ _ _ _ => False) := fun _ _ x => by
  obtain ⟨_, _, _, _, _, _, _, _, _, _, _, _, _, _, _, _, z⟩ := x
  exact z.elim
theorem cxUpN {P : Program} {w : World} : StX.CXUp (L2N.CX P w) := by
  rintro outer s H s2 H2 E e s' un kp ho ⟨a, B, H', cls, d, ea, fl, hok, ub, na, os, ag, he⟩
  have keep : ∀ b o, s.heap.get? b = some o → H b = none → H2 b = none := fun b o q n => un.free b o q n (by simp)
  refine ⟨a, B, H', cls, d, ea, fl, hok, ?_, na, os.trans ho, ag, he⟩
  refine ⟨fun b o q n hb => ub.keep b o (kp b o q) (keep b o q n) hb, fun b o q hb => ub.slot b o (kp b o q) hb, fun b o q n => ub.free b o (kp b o q) (keep b o q n),
    fun b o q hb => ub.there b o (kp b o q) hb, fun b xs q => ub.tups b xs (un.tups b xs q), fun b o xs q => ub.frzs b o xs (un.frzs b o xs q), fun b ps q => ?_⟩
  obtain ⟨m1, e1⟩ := un.tbls b ps q
  obtain ⟨m2, e2⟩ := ub.tbls b _ e1
  refine ⟨m1 ++ m2, ?_⟩
  rw [e2, Array.append_assoc]
section
variable {P : Program} {w : World} {K : PySem.W.Frag} {mg : Str → Option Value} {base : Heap}
/-- a def that may raise, by its body -/
theorem fnE {x qual : Str} {st : Stmt} {f : Addr} {fd : FuncData} {N ps : List Str} {k : Nat} {sp : Sp} (F : C8.Fun K x qual st f fd) (S : FnScope N ps (C8.fnScope st)) (len : ∀ vs H Q E, sp vs H Q E → vs.length = ps.length)
    (body : ∀ (cdv : Value) (A : Around) (outer : List Env) (s : Shared) (H : Hp) (vs : List V) (Q : VK) (E : XK), Room k (A.deeper (envOfC qual (C8.fnScope st) s.heap.objs.size f cdv)) → sp vs H Q E →
      L2N.Takes (cxOf (L2N.CX P w) P w K mg base N qual (C8.fnScope st) f cdv A outer s H E) (fun cls d _ H' => E cls d H') →
      ∃ t, PSs (cxOf (L2N.CX P w) P w K mg base N qual (C8.fnScope st) f cdv A outer s H E) (C8.fnBody st) t ∧ t { nx := fun _ H' => Q .non H', rt := Q } (L2.start N vs) H) : FnOk P w K mg base (L2N.CX P w) (k + 1) f fd ps sp := by
  obtain ⟨oc, od, dV, kV, doc, pm, an, cdv, ct, osl, rfl, lk, hcd⟩ := F.ex
  exact fn_of lk hcd S len fun A outer s H vs Q E hr hsp => body cdv A outer s H vs Q E hr hsp (L2N.takes_of rfl rfl rfl rfl)
/-- .. with *sources behind its parameters -/
theorem fnStar {x qual : Str} {st : Stmt} {f : Addr} {fd : FuncData} {N ps : List Str} {pv : Str} {k : Nat} {sp : Sp} (F : C8.Fun K x qual st f fd) (df : fd.defaults = .none) (S : FnScope N (ps ++ [pv]) (C8.fnScope st))
    (hb : ∀ (kV doc pm : Value) (an : Option Addr) (cdv ct : Value) (us rest : List Value), us.length = ps.length → bindArgs (PySem.W.fnOf x qual (C8.fnArgs st) (C8.fnBody st) (C8.fnScope st) .none kV doc pm an cdv ct) ⟨us ++ rest, []⟩ = (newTuple rest >>= fun t => pure (ps.zip us ++ [(pv, t)])))
    (body : ∀ (cdv : Value) (A : Around) (outer : List Env) (s : Shared) (H : Hp) (vs : List V) (Q : VK) (E : XK), Room k (A.deeper (envOfC qual (C8.fnScope st) s.heap.objs.size f cdv)) → sp vs H Q E →
      L2N.Takes (cxOf (L2N.CX P w) P w K mg base N qual (C8.fnScope st) f cdv A outer s H E) (fun cls d _ H' => E cls d H') →
      ∃ t, PSs (cxOf (L2N.CX P w) P w K mg base N qual (C8.fnScope st) f cdv A outer s H E) (C8.fnBody st) t ∧ t { nx := fun _ H' => Q .non H', rt := Q } (L2.start N vs) H) :
    FnR P w K mg base (L2N.CX P w) (k + 1) f (fun vs H Q E => ∃ ws rest, vs = ws ++ rest ∧ ws.length = ps.length ∧ rest.length ≤ sizeLine ∧ ∀ p, H p = Option.none → sp (ws ++ [V.ref p]) (upd H p (.tup rest)) Q E) := by
  obtain ⟨oc, od, dV, kV, doc, pm, an, cdv, ct, osl, rfl, lk, hcd⟩ := F.ex
  have e : dV = .none := df
  subst e
  exact StX.fn_star lk hcd S cxUpN (hb kV doc pm an cdv ct) fun A outer s H vs Q E hr hsp => body cdv A outer s H vs Q E hr hsp (L2N.takes_of rfl rfl rfl rfl)
/-- a def that may raise, under its name -/
structure CalE (P : Program) (w : World) (K : PySem.W.Frag) (mg : Str → Option Value) (base : Heap) (k : Nat) (x : Str) (sp : Sp) : Prop where
  ex : ∃ (f : Addr) (fd : FuncData) (ps : List Str), FnOk P w K mg base (L2N.CX P w) k f fd ps sp ∧ mg x = some (.ref f) ∧ PySem.W.keepIn K (.ref f) = true ∧ Binds K fd ps []
/-- a method that may raise -/
structure MetE (P : Program) (w : World) (K : PySem.W.Frag) (mg : Str → Option Value) (base : Heap) (k : Nat) (C : Addr) (m : Str) (sp : Sp) : Prop where
  ex : ∃ (f : Addr) (fd : FuncData) (ps : List Str), Cls K C ∧ Meth K C m f ∧ FnOk P w K mg base (L2N.CX P w) k f fd ps sp ∧ Binds K fd ps []
/-- .. by positional values -/
structure MetR (P : Program) (w : World) (K : PySem.W.Frag) (mg : Str → Option Value) (base : Heap) (k : Nat) (C : Addr) (m : Str) (sp : Sp) : Prop where
  ex : ∃ (f : Addr), Cls K C ∧ Meth K C m f ∧ FnR P w K mg base (L2N.CX P w) k f sp
end
section
variable {X : Cx} {k j : Nat} {C : Addr} {x m : Str} {sp : Sp} {W : WX} {p pos apos : Pos} {e o : Expr} {es : List Expr} {ta : TE} {t : TA}
theorem pe_cE (c : CalE X.prog X.w X.K X.mg X.base k x sp) (hr : Room j X.A) (hk : k ≤ j) (tk : L2N.Takes X W) (hg : Gl X x) (ha : PA X (e :: es) t)
    (hdb : (x == ("__debug__" : Str)) = false := by decide) (he : starEach (e :: es) X.env = (false, eval e X.env) :: starEach es X.env := by rfl) (hpl : (backTo pos (starEach es X.env)).any (·.1) = false := by rfl) :
    PE X (.Call (.Name x p) (e :: es) [] pos) (tCallS sp (WE W) t) := by
  obtain ⟨f, fd, ps, F, hm, kp, b⟩ := c.ex
  exact pe_callS F (hr.mono hk) hg hm kp b (fun σ => L2N.passAt tk σ) ha hdb he hpl
/-- o.m(e, ..) where m may raise -/
theorem pe_mE {pl : Sem Bool} (c : MetE X.prog X.w X.K X.mg X.base k C m sp) (hr : Room j X.A) (hk : k ≤ j) (tk : L2N.Takes X W) (he : PE X o ta) (ha : PA X (e :: es) t)
    (hst : starEach (e :: es) X.env = (false, eval e X.env) :: starEach es X.env := by rfl) (hpl : (backTo pos (starEach es X.env)).any (·.1) = false := by rfl)
    (ht : eval (.Call (.Attribute o m apos) (e :: es) [] pos) X.env = (do
      let ov ← eval o X.env
      standAt apos.atName
      let (f, first) ← holding [ov] (getMethod ov m pl)
      callWith pos f first (backTo pos (starEach (e :: es) X.env)) (backToKw pos (keywordEach [] X.env))) := by rfl) :
    PE X (.Call (.Attribute o m apos) (e :: es) [] pos) (L2H.tMethH C m sp (WE W) ta t) := by
  obtain ⟨f, fd, ps, hc, hm, F, b⟩ := c.ex
  refine ⟨fun pins s σ H Q I h => ?_⟩
  refine PySem.W.methodCall_KW (pl := pl) (thn (he.run pins s σ H _ I h) fun u s1 hh => ?_) ht
  obtain ⟨x, H1, I1, rx, a, dx, fs, ex, ea, l, q⟩ := hh
  subst ex
  obtain rfl : u = Value.ref a := rx
  refine getmeth_ok I1 ea hc hm l ?_
  refine PySem.W.callWith_K (first := [.ref a]) (h₀ := X.base) I.ok.mod.kin hm.kp (thn (ha.run pos pins s1 σ H1 _ I1 q) fun us s2 hq => ?_) hst hpl
  obtain ⟨vs, H2, I2, r, q2⟩ := hq
  exact ⟨I2.kIn, run_fnS (us := .ref a :: us) (vs := .ref a :: vs) F (hr.mono hk) b (L2N.passAt tk σ) I2 (.cons rfl r) q2⟩
/-- .. with *rest -/
theorem pe_mR {E : XK} {pl : Sem Bool} (c : MetR X.prog X.w X.K X.mg X.base k C m sp) (hr : Room j X.A) (hk : k ≤ j) (tk : L2N.Takes X (fun cls d _ H => E cls d H)) (he : PE X o ta) (ha : PA X (e :: es) t)
    (hst : starEach (e :: es) X.env = (false, eval e X.env) :: starEach es X.env := by rfl) (hpl : (backTo pos (starEach es X.env)).any (·.1) = false := by rfl)
    (ht : eval (.Call (.Attribute o m apos) (e :: es) [] pos) X.env = (do
      let ov ← eval o X.env
      standAt apos.atName
      let (f, first) ← holding [ov] (getMethod ov m pl)
      callWith pos f first (backTo pos (starEach (e :: es) X.env)) (backToKw pos (keywordEach [] X.env))) := by rfl) :
    PE X (.Call (.Attribute o m apos) (e :: es) [] pos) (tMethR C m sp E ta t) := by
  obtain ⟨f, hc, hm, F⟩ := c.ex
  exact pe_methR he hc hm F (hr.mono hk) (L2N.passes_call tk fun _ _ _ _ z => z) ha hst hpl ht
end
end Cg

set_option Elab.async false
set_option linter.all false
set_option maxRecDepth 100000
set_option maxHeartbeats 400000
namespace Cg
open PySem PySem.Spec PyProof.Rows L2
theorem kit_same {K : PySem.W.Frag} {t : Value} : PySem.W.kitOne K t t = some true := by
  unfold PySem.W.kitOne
  rw [if_pos (beq_self_eq_true t)]
theorem kit_ib {K : PySem.W.Frag} : PySem.W.kitOne K (.type "int") (.type "bool") = some false := by
  unfold PySem.W.kitOne
  rw [if_neg (by decide)]
  first
    | rfl
    | decide +kernel
    | kernel_rfl
theorem for_strL {z : Str} {g : TG} {tb : TS} {D : Ends} {σ : L2.St} {H : Hp} (Pv : Nat → L2.St → Hp → Prop) (h0 : Pv 0 σ H)
    (step : ∀ i c σ H, z.cps[i]? = some c → Pv i σ H → g (.str ⟨#[c]⟩) σ H fun σ2 H2 => tb { D with nx := Pv (i + 1), ct := Pv (i + 1), bk := D.nx } σ2 H2) (fin : ∀ σ H, Pv z.cps.size σ H → D.nx σ H) :
    ∃ W : Nat → Nat → L2.St → Hp → Prop, (∃ m, W 0 m σ H) ∧ ∀ i m σ H, W i m σ H →
      ((Its z).stop i H ∧ D.nx σ H) ∨ ((Its z).go i H ∧ ∃ N : L2.St → Hp → Prop, (∀ σ' H', N σ' H' → ∃ m', m' < m ∧ W (i + 1) m' σ' H') ∧ ∀ x H', (Its z).yld i H x H' → g x σ H' fun σ2 H2 => tb { D with nx := N, ct := N, bk := D.nx } σ2 H2) := by
  refine ⟨fun i m σ H => m + i = z.cps.size ∧ Pv i σ H, ⟨z.cps.size, rfl, h0⟩, ?_⟩
  rintro i m σ H ⟨em, p⟩
  rcases Nat.lt_or_ge i z.cps.size with hlt | hge
  · refine .inr ⟨hlt, Pv (i + 1), fun σ' H' p' => ⟨m - 1, by omega, by omega, p'⟩, ?_⟩
    rintro x H' ⟨rfl, c, hc, rfl⟩
    exact step i c σ H' hc p
  · have e : i = z.cps.size := by omega
    subst e
    exact .inl ⟨Nat.le_refl _, fin σ H p⟩
section
variable {P : Program} {w : World} {K : PySem.W.Frag} {mg : Str → Option Value} {base : Heap} {f : Addr} {fd : FuncData} {CL CS : Addr}
/-! ### at_least -/
def sp_least : Sp := fun vs H Q _ => ∃ (v l : Int) (z : Str), vs = [.int v, .int l, .str z] ∧ l ≤ v ∧ Q .non H
abbrev s_at_least : Stmt := topS 11
theorem sc_at_least : FnScope ["value", "least", "field"] ["value", "least", "field"] (C8.fnScope s_at_least) := C8.fnScope_by (by decide +kernel)
theorem k_least (T : Bi mg) (F : C8.Def K mg "at_least" s_at_least f fd) (b : Binds K fd ["value", "least", "field"] []) : C8.Cal P w K mg base 1 "at_least" sp_least [] := by
  refine C8.cal0 F b .nil sc_at_least (fun vs H Q E h => ?_) (fun cdv A outer s0 H vs Q E hr h => ?_)
  · obtain ⟨v, l, z, rfl, _⟩ := h
    rfl
  · obtain ⟨v, l, z, rfl, h, q⟩ := h
    refine ⟨_, pss_one (ps_if (pt_cmpR op_lt (pv 0) (pv 1) (nomark _)) (pss_one (ps_never)) (pss_nil)), ?_⟩
    exact ⟨_, rfl, _, rfl, _, _, rfl, rfl, _, rfl, iteF' (decide_eq_false (by omega)) q⟩
/-! ### good_key -/
def sp_good : Sp := fun vs H Q _ => ∃ k : Str, vs = [.str k] ∧ Good k ∧ Q .non H
abbrev s_good_key : Stmt := topS 13
theorem sc_good_key : FnScope ["key", "character"] ["key"] (C8.fnScope s_good_key) := C8.fnScope_by (by decide +kernel)
theorem k_good (T : Bi mg) (g_len : ∃ u, mg "KEY_LENGTH" = some u ∧ RelV (.int 12) u) (g_chars : ∃ u, mg "KEY_CHARACTERS" = some u ∧ RelV (.str SG) u) (F : C8.Def K mg "good_key" s_good_key f fd) (b : Binds K fd ["key"] []) :
    C8.Cal P w K mg base 1 "good_key" sp_good [] := by
  refine C8.cal0 F b .nil sc_good_key (fun vs H Q E h => ?_) (fun cdv A outer s0 H vs Q E hr h => ?_)
  · obtain ⟨k, rfl, _⟩ := h
    rfl
  · obtain ⟨k, rfl, g, q⟩ := h
    refine ⟨_, pss_cons (ps_if (PW.pt (pw_or (pt_not (pt_val (pe_callB call_isi (by rfl) T.isinstance (by decide +kernel) (pa_cons (pv 0) (pa_cons (pe_bltn (v := .ty "str") rfl T.str PyProof.Rows.boot_str rfl) pa_nil))))) (pw_or1 (pt_not (pt_chain op_le op_le (pe_int) (pe_callB call_len_str (by rfl) T.len PySem.boot_len (pa_cons (pv 0) pa_nil)) (C8.pe_gc (v := .int 12) rfl g_len)))))) (pss_one (ps_never)) (pss_nil))
      (pss_one (ps_for PassesOwn.never rfl (pi_str (pv 0)) (pg_name (i := 1) sc_good_key.nd rfl (by first | exact Or.inl rfl | exact Or.inr rfl))
        (pss_one (ps_if (pt_cmpR op_notIn_sign (pv 1) (C8.pe_gc (v := .str SG) rfl g_chars) (by rfl)) (pss_one (ps_never)) (pss_nil))))), ?_⟩
    have hz : k.length ≤ sizeLine := by
      have := small1000 (n := k.length) (by have := g.hi; omega)
      omega
    have hlo := g.lo
    have hhi := g.hi
    refine ⟨_, rfl, _, _, _, _, true, rfl, .ty "str", .base (.str k), kit_same, _, rfl, iteF' rfl ?_⟩
    refine ⟨_, rfl, k, rfl, hz, _, _, rfl, rfl, _, rfl, ?_⟩
    rw [decide_eq_true (show (1 : Int) ≤ (k.length : Nat) by omega)]
    refine iteT' rfl ⟨_, _, rfl, rfl, _, rfl, ?_⟩
    rw [decide_eq_true (show ((k.length : Nat) : Int) ≤ 12 by omega)]
    refine iteF' rfl ?_
    refine ⟨_, rfl, k, rfl, ?_⟩
    refine for_strL (fun i σ H' => H' = H ∧ ∃ v1 : Option V, σ = [some (.str k), v1]) ⟨rfl, none, rfl⟩ ?_ ?_
    · rintro i c σ H' hc ⟨rfl, v1, rfl⟩
      refine ⟨_, rfl, c, SG, rfl, rfl, _, rfl, ?_⟩
      have hm : c ∈ SG.cps.toList := g.all c (by
        rw [← Array.getElem?_toList] at hc
        exact List.mem_of_getElem? hc)
      rw [decide_eq_true hm]
      exact iteF' rfl ⟨rfl, _, rfl⟩
    · rintro σ H' ⟨rfl, v1, rfl⟩
      exact q
/-! ### _law_is_integer -/
def sp_isint : Sp := fun vs H Q _ => ∃ i : Int, vs = [.int i] ∧ Q (.bl true) H
abbrev s_is_integer : Stmt := topS 19
theorem sc_is_integer : FnScope ["_law_told"] ["_law_told"] (C8.fnScope s_is_integer) := C8.fnScope_by (by decide +kernel)
theorem k_isint (T : Bi mg) (F : C8.Def K mg "_law_is_integer" s_is_integer f fd) (b : Binds K fd ["_law_told"] []) : C8.Cal P w K mg base 1 "_law_is_integer" sp_isint [] := by
  refine C8.cal0 F b .nil sc_is_integer (fun vs H Q E h => ?_) (fun cdv A outer s0 H vs Q E hr h => ?_)
  · obtain ⟨i, rfl, _⟩ := h
    rfl
  · obtain ⟨i, rfl, q⟩ := h
    refine ⟨_, pss_one (ps_ret (pe_and (pe_callB call_isi (by rfl) T.isinstance (by decide +kernel) (pa_cons (pv 0) (pa_cons (pe_bltn (v := .ty "int") rfl T.int PyProof.Rows.boot_int rfl) pa_nil))) (pe_one (pe_not (pe_callB call_isi (by rfl) T.isinstance (by decide +kernel) (pa_cons (pv 0) (pa_cons (pe_bltn (v := .ty "bool") rfl T.bool PyProof.Rows.boot_bool rfl) pa_nil))))))), ?_⟩
    refine ⟨_, rfl, _, _, _, _, true, rfl, .ty "int", .base (.int i), kit_same, _, rfl, iteT' rfl ?_⟩
    exact ⟨_, rfl, _, _, _, _, false, rfl, .ty "bool", .base (.int i), kit_ib, _, rfl, q⟩
/-- .. where an exception is handled -/
structure CalH (P : Program) (w : World) (K : PySem.W.Frag) (mg : Str → Option Value) (base : Heap) (k : Nat) (x : Str) (sp : Sp) : Prop where
  ex : ∃ (f : Addr) (fd : FuncData) (ps : List Str), L2H.FnH P w K mg base C8.CX0 k f fd ps sp ∧ mg x = some (.ref f) ∧ PySem.W.keepIn K (.ref f) = true ∧ Binds K fd ps []
theorem h_isint (T : Bi mg) (F : C8.Def K mg "_law_is_integer" s_is_integer f fd) (b : Binds K fd ["_law_told"] []) : CalH P w K mg base 1 "_law_is_integer" sp_isint := by
  refine ⟨f, fd, ["_law_told"], ?_, F.mgf, F.kp, b⟩
  obtain ⟨oc, od, dV, kV, doc, pm, an, cdv, ct, osl, rfl, lk, hcd⟩ := F.fn.ex
  refine L2H.fn_ofH lk hcd sc_is_integer (fun vs H Q E h => ?_) (fun A outer s0 H vs Q E p hot hr h => ?_)
  · obtain ⟨i, rfl, _⟩ := h
    rfl
  · obtain ⟨i, rfl, q⟩ := h
    refine ⟨_, pss_one (ps_ret (pe_and (pe_callB call_isi (by rfl) T.isinstance (by decide +kernel) (pa_cons (pv 0) (pa_cons (pe_bltn (v := .ty "int") rfl T.int PyProof.Rows.boot_int rfl) pa_nil))) (pe_one (pe_not (pe_callB call_isi (by rfl) T.isinstance (by decide +kernel) (pa_cons (pv 0) (pa_cons (pe_bltn (v := .ty "bool") rfl T.bool PyProof.Rows.boot_bool rfl) pa_nil))))))), ?_⟩
    refine ⟨_, rfl, _, _, _, _, true, rfl, .ty "int", .base (.int i), kit_same, _, rfl, iteT' rfl ?_⟩
    exact ⟨_, rfl, _, _, _, _, false, rfl, .ty "bool", .base (.int i), kit_ib, _, rfl, q⟩
end
section
variable {X : Cx} {k j : Nat} {x : Str} {sp : Sp} {p pos : Pos} {e : Expr} {es : List Expr} {t : TA}
theorem pe_cH {A0 : Around} {h0 : Option Value} (c : CalH X.prog X.w X.K X.mg X.base k x sp) (hr : Room j A0) (hk : k ≤ j) (eA : X.A = A0.mark h0) (hc : L2H.HotC X) (hg : Gl X x) (ha : PA X (e :: es) t)
    (hdb : (x == ("__debug__" : Str)) = false := by decide) (he : starEach (e :: es) X.env = (false, eval e X.env) :: starEach es X.env := by rfl) (hpl : (backTo pos (starEach es X.env)).any (·.1) = false := by rfl) :
    PE X (.Call (.Name x p) (e :: es) [] pos) (tCallS sp (fun _ => C8.E0) t) := by
  obtain ⟨f, fd, ps, F, hm, kp, b⟩ := c.ex
  have hR : L2H.RoomH k X.A := by
    rw [eA]
    exact ⟨(L2H.roomH_of (hr.mono hk)).dp, (L2H.roomH_of (hr.mono hk)).un⟩
  exact L2H.pe_callH F hR hc hg hm kp b (fun σ pins H s e s' I z => z.elim) ha hdb he hpl
end
end Cg

set_option Elab.async false
set_option linter.all false
set_option maxRecDepth 100000
set_option maxHeartbeats 400000
namespace Cg
open PySem PySem.Spec PyProof.Rows L2
/-! ### the errors by their classes -/
structure ErrC (P : Program) (w : World) (K : PySem.W.Frag) (mg : Str → Option Value) (cn f : Str) (C : Addr) (ok : V → Prop) : Prop where
  ex : ∃ (qual : Str) (msg : Expr) (fI cda cc : Addr), CgE.ErrTxt P K mg cn f qual msg C fI cda cc ∧ CgE.MsgTxt msg ∧ ∀ v u, ok v → RelV v u → CgE.MsgOk P w f qual fI cda cc msg u
  gC : mg cn = some (.ref C)
  xf : XfC K C
  no : PySem.W.findIn K (.ref C) f = some none
theorem ps_raiseC {X : Cx} {cn f : Str} {C : Addr} {ok : V → Prop} {a : Expr} {ta : TA} {W : WX} {p pos pos2 : Pos} {k : Nat} (hc : X.calm = true) (c : ErrC X.prog X.w X.K X.mg cn f C ok) (hr : Room k X.A) (tk : L2N.Takes X W)
    (ha : PA X [a] ta) (hg : Gl X cn := by rfl) (hdb : (cn == ("__debug__" : Str)) = false := by decide) (he : starEach (a :: []) X.env = (false, eval a X.env) :: starEach [] X.env := by rfl) (hpl : (backTo pos (starEach [] X.env)).any (·.1) = false := by rfl) :
    PS X (.Raise (some (.Call (.Name cn p) [a] [] pos)) none pos2) (tRaiseErr C f ok W ta) := by
  obtain ⟨qual, msg, fI, cda, cc, T, MT, hok⟩ := c.ex
  exact ps_raiseErr hc T MT hok hr tk ha hg hdb he hpl
def okN (v : V) : Prop := ∃ n : Nat, v = .int n ∧ n ≤ 300
def okA (_ : V) : Prop := True
def okS (v : V) : Prop := ∃ y : Str, v = .str y ∧ Good y
/-- the classes KeyLimit, BadChoice, Stalled, UnknownKey -/
structure XC where
  k : Addr
  b : Addr
  t : Addr
  u : Addr
def XC.of (x : XC) : Ref → Addr
  | .limit _ => x.k
  | .bad _ => x.b
  | .stall _ => x.t
def refF : Ref → Str
  | .limit _ => "most"
  | .bad _ => "choice"
  | .stall _ => "deeds"
def refI : Ref → Int
  | .limit n => n
  | .bad n => n
  | .stall n => n
/-- the refusal r goes out, all that stood is as it was -/
def Out (x : XC) (H : Hp) (E : XK) (r : Ref) : Prop := ∀ (H' : Hp) (d : Addr), Fr [] H H' → H' d = some (.xd [(refF r, .int (refI r))]) → E (.ref (x.of r)) (some d) H'
section
variable {P : Program} {w : World} {K : PySem.W.Frag} {mg : Str → Option Value} {base : Heap} {f : Addr} {fd : FuncData} {CL CS : Addr} {xc : XC}
/-! ### _append_or_stall -/
def sp_stall (x : XC) (C : Addr) : Sp := fun vs H Q E => ∃ (g : LAd) (z : Nat) (s : Sg Str) (k : Str) (n : Nat), vs = [.ref g.l, .str k, .int n] ∧ LogAt C H g z s ∧ OkL z s ∧ n ≤ 300 ∧
  (room z s.1 s.2 = 0 → Out x H E (.stall n)) ∧ (room z s.1 s.2 ≠ 0 → ∀ H' g', LogTo C H g z (write z s k) H' g' → Q .non H')
abbrev s_append_or_stall : Stmt := topS 16
theorem sc_append_or_stall : FnScope ["draft", "key", "deeds"] ["draft", "key", "deeds"] (C8.fnScope s_append_or_stall) := C8.fnScope_by (by decide +kernel)
theorem k_stall (T : Bi mg) (S : Txt K mg CL CS) (er_Stalled : ErrC P w K mg "Stalled" "deeds" xc.t okN) (F : C8.Def K mg "_append_or_stall" s_append_or_stall f fd) (b : Binds K fd ["draft", "key", "deeds"] [])
    (c_l_room_left : C8.Met P w K mg base 3 CL "room_left" (sp_l_room CL) []) (c_l_append_key : C8.Met P w K mg base 3 CL "append_key" (sp_l_append CL) []) : CalE P w K mg base 4 "_append_or_stall" (sp_stall xc CL) := by
  refine ⟨f, fd, ["draft", "key", "deeds"], fnE F.fn sc_append_or_stall (fun vs H Q E h => ?_) (fun cdv A outer s0 H vs Q E hr h tk => ?_), F.mgf, F.kp, b⟩
  · obtain ⟨g, z, s, k, n, rfl, _⟩ := h
    rfl
  · obtain ⟨g, z, s, k, n, rfl, M, ok, hn, q0, q1⟩ := h
    have hu := hu_of hr
    refine ⟨_, pss_cons (ps_if (pt_cmpR op_eq (C8.pe_mt0 c_l_room_left hr (by decide) (pv 0)) (pe_int) (nomark _)) (pss_one (ps_raiseC rfl er_Stalled hr tk (pa_cons (pv 2) pa_nil))) (pss_nil))
      (pss_one (ps_expr (C8.pe_mt c_l_append_key hr (by decide) (pv 0) (pa_cons (pv 1) pa_nil)))), ?_⟩
    obtain ⟨dx, e⟩ := M.ob
    refine ⟨_, rfl, g.l, dx, _, rfl, e, rfl, g, z, s, rfl, M, ok, fun H1 f1 => ?_⟩
    have M1 := M.fr0 f1
    obtain ⟨dx1, e1⟩ := M1.ob
    refine ⟨rfl, _, rfl, ite2 (fun hb => ?_) (fun hb => ?_)⟩
    · have hr0 : room z s.1 s.2 = 0 := V.int.inj (of_decide_eq_true hb)
      exact ⟨_, rfl, _, rfl, ⟨n, rfl, hn⟩, fun d hd => q0 hr0 _ d (f1.then (Fr.new hd)) upd_same⟩
    · have hr0 : room z s.1 s.2 ≠ 0 := fun z => hb (decide_eq_true (by rw [z]))
      exact ⟨_, rfl, g.l, dx1, _, rfl, e1, rfl, _, rfl, g, z, s, k, rfl, M1, ok, hr0, fun H2 g2 t2 => q1 hr0 H2 g2 ((LogTo.of0 f1 M).trans t2 M.there)⟩
end
end Cg

set_option Elab.async false
set_option linter.all false
set_option maxRecDepth 100000
set_option maxHeartbeats 400000
namespace Cg
open PySem PySem.Spec PyProof.Rows L2
/-! ### the store -/
structure SAd where
  x : Addr
  va : Addr
  g : LAd
def SAd.fp (a : SAd) : List Addr := a.x :: a.va :: a.g.fp
def sfl (c : Cfg) (n : Nat) (a : SAd) (d cr wt : Int) : List (Str × V) :=
  [("_segments", .int n), ("_size", .int c.w), ("_limit", .int c.bound), ("_budget", .int c.load), ("_late", .bl c.late), ("_log", .ref a.g.l), ("_values", .ref a.va), ("_done", .int d), ("_carried", .int cr), ("_last_wait", .int wt)]
section
variable {c : Cfg} {n : Nat} {a : SAd} {d cr wt : Int} {g : LAd} {z : Int}
theorem sf_segments : (sfl c n a d cr wt).lookup ("_segments" : Str) = some (.int n) := rfl
theorem sf_size : (sfl c n a d cr wt).lookup ("_size" : Str) = some (.int c.w) := rfl
theorem sf_limit : (sfl c n a d cr wt).lookup ("_limit" : Str) = some (.int c.bound) := rfl
theorem sf_budget : (sfl c n a d cr wt).lookup ("_budget" : Str) = some (.int c.load) := rfl
theorem sf_late : (sfl c n a d cr wt).lookup ("_late" : Str) = some (.bl c.late) := rfl
theorem sf_log : (sfl c n a d cr wt).lookup ("_log" : Str) = some (.ref a.g.l) := rfl
theorem sf_values : (sfl c n a d cr wt).lookup ("_values" : Str) = some (.ref a.va) := rfl
theorem sf_done : (sfl c n a d cr wt).lookup ("_done" : Str) = some (.int d) := rfl
theorem sf_carried : (sfl c n a d cr wt).lookup ("_carried" : Str) = some (.int cr) := rfl
theorem sf_put_log : putF "_log" (.ref g.l) (sfl c n a d cr wt) = sfl c n { a with g := g } d cr wt := rfl
theorem sf_put_done : putF "_done" (.int z) (sfl c n a d cr wt) = sfl c n a z cr wt := rfl
theorem sf_put_carried : putF "_carried" (.int z) (sfl c n a d cr wt) = sfl c n a d z wt := rfl
theorem sf_put_wait : putF "_last_wait" (.int z) (sfl c n a d cr wt) = sfl c n a d cr z := rfl
end
/-- the pairs of a dict: the living keys, each an int -/
structure KvOk (L : List Str) (kvs : List (Key × V)) : Prop where
  nd : L.Nodup
  keys : (kvs.map (·.1)).Perm (L.map Sum.inr)
  whole : ∀ kv ∈ kvs, ∃ z : Int, kv.2 = .int z
theorem inr_inj : Function.Injective (Sum.inr : Str → Key) := fun _ _ h => Sum.inr.inj h
theorem nodup_inr : ∀ {L : List Str}, L.Nodup → (L.map (Sum.inr : Str → Key)).Nodup
  | [], _ => List.nodup_nil
  | k :: L, h => by
    obtain ⟨h1, h2⟩ := List.nodup_cons.mp h
    refine List.nodup_cons.mpr ⟨fun z => ?_, nodup_inr h2⟩
    obtain ⟨y, hy, e⟩ := List.mem_map.mp z
    exact h1 (by rw [← inr_inj e]; exact hy)
theorem valV_some {kvs : List (Key × V)} {k : Key} {v : V} (h : valV kvs k = some v) : (k, v) ∈ kvs := by
  unfold valV at h
  cases e : kvs.find? (fun kv => decide (kv.1 = k)) with
  | none =>
    rw [e] at h
    cases h
  | some kv =>
    rw [e] at h
    have h1 := List.mem_of_find?_eq_some e
    have h2 : kv.1 = k := by
      have q := List.find?_some (p := fun kv : Key × V => decide (kv.1 = k)) e
      exact of_decide_eq_true q
    have h3 : kv.2 = v := Option.some.inj h
    rw [← h2, ← h3]
    exact h1
theorem valV_isSome {kvs : List (Key × V)} {k : Key} : (valV kvs k).isSome = true ↔ k ∈ kvs.map (·.1) := by
  unfold valV
  rw [Option.isSome_map, List.find?_isSome]
  constructor
  · rintro ⟨kv, h, e⟩
    exact List.mem_map.mpr ⟨kv, h, of_decide_eq_true e⟩
  · intro h
    obtain ⟨kv, h1, e⟩ := List.mem_map.mp h
    exact ⟨kv, h1, decide_eq_true e⟩
section
variable {L : List Str} {kvs : List (Key × V)}
theorem KvOk.mem (h : KvOk L kvs) {k : Str} : (valV kvs (.inr k)).isSome = true ↔ k ∈ L := by
  rw [valV_isSome, h.keys.mem_iff]
  constructor
  · intro z
    obtain ⟨y, hy, e⟩ := List.mem_map.mp z
    rw [← inr_inj e]
    exact hy
  · intro z
    exact List.mem_map.mpr ⟨k, z, rfl⟩
theorem KvOk.get (h : KvOk L kvs) {k : Str} (hk : k ∈ L) : ∃ z : Int, valV kvs (.inr k) = some (.int z) := by
  obtain ⟨v, e⟩ := Option.isSome_iff_exists.mp (h.mem.mpr hk)
  obtain ⟨z, ez⟩ := h.whole _ (valV_some e)
  exact ⟨z, by rw [e]; exact congrArg some ez⟩
theorem KvOk.no (h : KvOk L kvs) {k : Str} (hk : k ∉ L) : valV kvs (.inr k) = none := by
  cases e : valV kvs (.inr k) with
  | none => rfl
  | some v => exact absurd (h.mem.mp (by rw [e]; rfl)) hk
theorem KvOk.len (h : KvOk L kvs) : kvs.length = L.length := by
  have := h.keys.length_eq
  rwa [List.length_map, List.length_map] at this
theorem KvOk.ndk (h : KvOk L kvs) : (kvs.map (·.1)).Nodup := h.keys.nodup_iff.mpr (nodup_inr h.nd)
theorem KvOk.put (h : KvOk L kvs) {L' : List Str} {k : Str} (z : Int) (hl : L'.Perm (k :: L.erase k)) : KvOk L' (putK kvs (.inr k) (.int z)) := by
  have nd2 : (k :: L.erase k).Nodup := List.nodup_cons.mpr ⟨fun m => ((List.Nodup.mem_erase_iff h.nd).mp m).1 rfl, h.nd.erase k⟩
  refine ⟨hl.nodup_iff.mpr nd2, ?_, fun kv hm => ?_⟩
  · by_cases c : k ∈ L
    · have e : (putK kvs (Sum.inr k) (V.int z)).map (·.1) = kvs.map (·.1) := by
        unfold putK
        have hs := h.mem.mpr c
        rw [if_pos (by rw [valV_any]; exact hs), List.map_map]
        refine List.map_congr_left fun kv _ => ?_
        show (if kv.1 = Sum.inr k then (kv.1, V.int z) else kv).1 = kv.1
        split <;> rfl
      rw [e]
      exact h.keys.trans (((List.perm_cons_erase c).trans hl.symm).map _)
    · have hn := h.no c
      rw [putK_new (fun m => by
        have := valV_isSome.mpr m
        rw [hn] at this
        cases this), List.map_append]
      refine List.Perm.trans ?_ (hl.symm.map _)
      rw [List.erase_of_not_mem c]
      exact List.perm_append_comm.trans (h.keys.cons (Sum.inr k))
  · unfold putK at hm
    split at hm
    · obtain ⟨kv0, h0, e⟩ := List.mem_map.mp hm
      by_cases c : kv0.1 = Sum.inr k
      · rw [if_pos c] at e
        exact ⟨z, by rw [← e]⟩
      · rw [if_neg c] at e
        rw [← e]
        exact h.whole kv0 h0
    · rcases List.mem_append.mp hm with m | m
      · exact h.whole kv m
      · rw [List.mem_singleton.mp m]
        exact ⟨z, rfl⟩
theorem KvOk.drop (h : KvOk L kvs) {L' : List Str} {k : Str} (hl : L.Perm (k :: L')) : KvOk L' (dropK kvs (.inr k)) := by
  have nd2 := List.nodup_cons.mp (hl.nodup_iff.mp h.nd)
  refine ⟨nd2.2, ?_, fun kv hm => h.whole kv (List.mem_filter.mp hm).1⟩
  have e : (dropK kvs (Sum.inr k)).map (·.1) = (kvs.map (·.1)).filter fun y => decide (y ≠ Sum.inr k) := by
    unfold dropK
    rw [List.filter_map]
    rfl
  rw [e]
  have h1 : ((kvs.map (·.1)).filter fun y => decide (y ≠ Sum.inr k)).Perm (((k :: L').map (Sum.inr : Str → Key)).filter fun y => decide (y ≠ Sum.inr k)) := ((h.keys.trans (hl.map _))).filter _
  refine h1.trans (List.Perm.of_eq ?_)
  rw [List.map_cons, List.filter_cons, if_neg (by simp)]
  refine List.filter_eq_self.mpr fun y hy => ?_
  obtain ⟨y', hy', e'⟩ := List.mem_map.mp hy
  refine decide_eq_true fun z => nd2.1 ?_
  rw [← inr_inj (e'.trans z)]
  exact hy'
end
structure SegAt (CL CS : Addr) (H : Hp) (a : SAd) (c : Cfg) (n : Nat) (s : Sg Str) (d : Int) (kvs : List (Key × V)) : Prop where
  nd : a.fp.Nodup
  ob : ∃ dx cr wt, H a.x = some (.ins CS dx (sfl c n a d cr wt))
  log : LogAt CL H a.g c.w s
  vals : H a.va = some (.dK kvs)
section
variable {CL CS : Addr} {H H' : Hp} {a : SAd} {c : Cfg} {n : Nat} {s : Sg Str} {d : Int} {kvs : List (Key × V)}
theorem SAd.mem_x (a : SAd) : a.x ∈ a.fp := by simp [SAd.fp]
theorem SAd.mem_va (a : SAd) : a.va ∈ a.fp := by simp [SAd.fp]
theorem SAd.mem_g (a : SAd) : ∀ y ∈ a.g.fp, y ∈ a.fp := fun y h => by simp [SAd.fp, h]
theorem SegAt.fr {S : List Addr} (M : SegAt CL CS H a c n s d kvs) (f : Fr S H H') (h : ∀ y ∈ a.fp, y ∉ S) : SegAt CL CS H' a c n s d kvs := by
  obtain ⟨dx, cr, wt, e⟩ := M.ob
  exact ⟨M.nd, ⟨dx, cr, wt, f.all _ _ e (h _ a.mem_x)⟩, M.log.fr f fun y hy => h y (a.mem_g y hy), f.all _ _ M.vals (h _ a.mem_va)⟩
theorem SegAt.fr0 (M : SegAt CL CS H a c n s d kvs) (f : Fr [] H H') : SegAt CL CS H' a c n s d kvs := M.fr f fun _ _ z => by cases z
theorem SegAt.there (M : SegAt CL CS H a c n s d kvs) : ∀ z ∈ a.fp, (H z).isSome = true := fun z hz => by
  obtain ⟨dx, cr, wt, e⟩ := M.ob
  rcases List.mem_cons.mp hz with h | h
  · rw [h, e]; rfl
  rcases List.mem_cons.mp h with h | h
  · rw [h, M.vals]; rfl
  · exact M.log.there z h
end
/-- behind a deed: the store may lean on new objects -/
def SegTo (CL CS : Addr) (H : Hp) (a : SAd) (c : Cfg) (n : Nat) (s : Sg Str) (d : Int) (kvs : List (Key × V)) (H' : Hp) (a' : SAd) : Prop :=
  Fr a.fp H H' ∧ a'.x = a.x ∧ (∀ y ∈ a'.fp, y ∈ a.fp ∨ H y = none) ∧ SegAt CL CS H' a' c n s d kvs
section
variable {P : Program} {w : World} {K : PySem.W.Frag} {mg : Str → Option Value} {base : Heap} {f : Addr} {fd : FuncData} {CL CS : Addr} {xc : XC}
/-! ### Segments.__len__, __contains__ -/
def sp_s_len (CL CS : Addr) : Sp := fun vs H Q _ => ∃ (a : SAd) (c : Cfg) (n : Nat) (s : Sg Str) (d : Int) (kvs : List (Key × V)), vs = [.ref a.x] ∧ SegAt CL CS H a c n s d kvs ∧ Q (.int kvs.length) H
abbrev s_s___len : Stmt := inClass (topS 17) 11
theorem sc_s___len : FnScope ["self"] ["self"] (C8.fnScope s_s___len) := C8.fnScope_by (by decide +kernel)
theorem k_s_len (T : Bi mg) (S : Txt K mg CL CS) (me : Meth K CS "__len__" f) (F : C8.Fun K "__len__" "Segments.__len__" s_s___len f fd) (b : Binds K fd ["self"] []) : C8.Met P w K mg base 1 CS "__len__" (sp_s_len CL CS) [] := by
  refine C8.met0 S.cs me F b sc_s___len (fun vs H Q E h => ?_) (fun cdv A outer s0 H vs Q E hr h => ?_)
  · obtain ⟨a, c, n, s, d, kvs, rfl, _⟩ := h
    rfl
  · obtain ⟨a, c, n, s, d, kvs, rfl, M, q⟩ := h
    refine ⟨_, pss_one (ps_ret (pe_callB call_lenD (by rfl) T.len PySem.boot_len (pa_cons (pe_fld (pv 0) rfl) pa_nil))), ?_⟩
    obtain ⟨dx, cr, wt, e⟩ := M.ob
    exact ⟨_, rfl, a.x, CS, dx, _, _, rfl, e, S.cs, S.s_values, sf_values, a.va, _, rfl, M.vals, q⟩
def sp_s_has (CL CS : Addr) : Sp := fun vs H Q _ => ∃ (a : SAd) (c : Cfg) (n : Nat) (s : Sg Str) (d : Int) (kvs : List (Key × V)) (k : Str), vs = [.ref a.x, .str k] ∧ SegAt CL CS H a c n s d kvs ∧ Q (.bl (valV kvs (.inr k)).isSome) H
abbrev s_s___contains : Stmt := inClass (topS 17) 12
theorem sc_s___contains : FnScope ["self", "key"] ["self", "key"] (C8.fnScope s_s___contains) := C8.fnScope_by (by decide +kernel)
theorem k_s_has (T : Bi mg) (S : Txt K mg CL CS) (me : Meth K CS "__contains__" f) (F : C8.Fun K "__contains__" "Segments.__contains__" s_s___contains f fd) (b : Binds K fd ["self", "key"] []) : C8.Met P w K mg base 1 CS "__contains__" (sp_s_has CL CS) [] := by
  refine C8.met0 S.cs me F b sc_s___contains (fun vs H Q E h => ?_) (fun cdv A outer s0 H vs Q E hr h => ?_)
  · obtain ⟨a, c, n, s, d, kvs, k, rfl, _⟩ := h
    rfl
  · obtain ⟨a, c, n, s, d, kvs, k, rfl, M, q⟩ := h
    have hu := hu_of hr
    refine ⟨_, pss_one (ps_ret (pe_cmp (pc_din hu (pv 1) (pe_fld (pv 0) rfl)) rfl)), ?_⟩
    obtain ⟨dx, cr, wt, e⟩ := M.ob
    exact ⟨_, rfl, _, rfl, a.x, CS, dx, _, _, rfl, e, S.cs, S.s_values, sf_values, a.va, _, rfl, DGet.k (k := Sum.inr k) M.vals, q⟩
/-! ### Segments.read -/
def OutK (x : XC) (H : Hp) (E : XK) (k : Str) : Prop := ∀ (H' : Hp) (d : Addr), Fr [] H H' → H' d = some (.xd [("key", .str k)]) → E (.ref x.u) (some d) H'
def sp_s_read (x : XC) (CL CS : Addr) : Sp := fun vs H Q E => ∃ (a : SAd) (c : Cfg) (n : Nat) (s : Sg Str) (d : Int) (kvs : List (Key × V)) (k : Str), vs = [.ref a.x, .str k] ∧ SegAt CL CS H a c n s d kvs ∧ Good k ∧
  (valV kvs (.inr k) = none → OutK x H E k) ∧ (∀ v, valV kvs (.inr k) = some v → Q v H)
abbrev s_s_read : Stmt := inClass (topS 17) 13
theorem sc_s_read : FnScope ["self", "key"] ["self", "key"] (C8.fnScope s_s_read) := C8.fnScope_by (by decide +kernel)
theorem k_s_read (T : Bi mg) (S : Txt K mg CL CS) (er_UnknownKey : ErrC P w K mg "UnknownKey" "key" xc.u okS) (me : Meth K CS "read" f) (F : C8.Fun K "read" "Segments.read" s_s_read f fd) (b : Binds K fd ["self", "key"] []) :
    MetE P w K mg base 2 CS "read" (sp_s_read xc CL CS) := by
  refine ⟨f, fd, ["self", "key"], S.cs, me, fnE F sc_s_read (fun vs H Q E h => ?_) (fun cdv A outer s0 H vs Q E hr h tk => ?_), b⟩
  · obtain ⟨a, c, n, s, d, kvs, k, rfl, _⟩ := h
    rfl
  · obtain ⟨a, c, n, s, d, kvs, k, rfl, M, gk, q0, q1⟩ := h
    have hu := hu_of hr
    refine ⟨_, pss_cons (ps_if (pt_cmp (pc_dnotin hu (pv 1) (pe_fld (pv 0) rfl))) (pss_one (ps_raiseC rfl er_UnknownKey hr tk (pa_cons (pv 1) pa_nil))) (pss_nil))
      (pss_one (ps_ret (pe_dget hu (pe_fld (pv 0) rfl) (pv 1) (fun _ _ => rfl)))), ?_⟩
    obtain ⟨dx, cr, wt, e⟩ := M.ob
    refine ⟨_, rfl, _, rfl, a.x, CS, dx, _, _, rfl, e, S.cs, S.s_values, sf_values, a.va, _, rfl, DGet.k (k := Sum.inr k) M.vals, _, rfl, ite2 (fun hb => ?_) (fun hb => ?_)⟩
    · have hn : valV kvs (Sum.inr k) = none := by
        cases z : valV kvs (Sum.inr k) with
        | none => rfl
        | some v =>
          rw [z] at hb
          cases hb
      exact ⟨_, rfl, _, rfl, ⟨k, rfl, gk⟩, fun d hd => q0 hn _ d (Fr.new hd) upd_same⟩
    · obtain ⟨v, ev⟩ : ∃ v, valV kvs (Sum.inr k) = some v := by
        cases z : valV kvs (Sum.inr k) with
        | none =>
          rw [z] at hb
          exact absurd rfl hb
        | some v => exact ⟨v, rfl⟩
      refine ⟨_, rfl, a.x, CS, dx, _, _, rfl, e, S.cs, S.s_values, sf_values, _, rfl, a.va, _, rfl, ?_, q1 v ev⟩
      rw [← ev]
      exact DGet.k (k := Sum.inr k) M.vals
end
end Cg

set_option Elab.async false
set_option linter.all false
set_option maxRecDepth 100000
set_option maxHeartbeats 400000
namespace Cg
open PySem PySem.Spec PyProof.Rows L2
/-- the table: the living keys in the order of their records -/
def tabL (kvs : List (Key × V)) (L : List Str) : List (Key × V) := L.map fun k => (Sum.inr k, (valV kvs (.inr k)).getD .non)
theorem tabL_snoc {kvs : List (Key × V)} {L : List Str} {k : Str} {v : V} (hn : k ∉ L) (e : valV kvs (.inr k) = some v) : putK (tabL kvs L) (.inr k) v = tabL kvs (L ++ [k]) := by
  rw [putK_new]
  · unfold tabL
    rw [List.map_append]
    show _ = _ ++ [(Sum.inr k, (valV kvs (.inr k)).getD .non)]
    rw [e]
    rfl
  · intro z
    unfold tabL at z
    rw [List.map_map] at z
    obtain ⟨y, hy, e2⟩ := List.mem_map.mp z
    exact hn (by rw [← inr_inj (show (Sum.inr y : Key) = Sum.inr k from e2)]; exact hy)
theorem liv_take {R : List (Row Str)} {i : Nat} (h : i < R.length) : liv (R.take (i + 1)) = liv (R.take i) ++ livr (rowAt R i) := by
  rw [take_more (get_rowAt h)]
  unfold liv
  rw [List.flatten_append, livr_append]
  simp
theorem livr_take {r : Row Str} {j : Nat} {o : Option Str} (h : r[j]? = some o) : livr (r.take (j + 1)) = livr (r.take j) ++ (match o with | some k => [k] | none => []) := by
  rw [take_more h, livr_append]
  cases o <;> rfl
/-- what has been seen stands ahead of the rest -/
theorem liv_part {R : List (Row Str)} {i j : Nat} {k : Str} (h : (rowAt R i)[j]? = some (some k)) (nd : (liv R).Nodup) : k ∉ liv (R.take i) ++ livr ((rowAt R i).take j) := by
  obtain ⟨A, B, e, _⟩ := set_split (spot_lt h)
  have hi := spot_lt h
  have e1 : liv R = liv (R.take i) ++ (livr (rowAt R i) ++ liv (R.drop (i + 1))) := by
    have e0 : R = R.take i ++ rowAt R i :: R.drop (i + 1) := by
      have g := get_rowAt hi
      rw [List.getElem?_eq_getElem hi] at g
      rw [← Option.some.inj g, ← List.drop_eq_getElem_cons hi, List.take_append_drop]
    exact (congrArg liv e0).trans (liv_split _ _ _)
  have hj := (List.getElem?_eq_some_iff.mp h).1
  have e2 : livr (rowAt R i) = livr ((rowAt R i).take j) ++ k :: livr ((rowAt R i).drop (j + 1)) := by
    have e0 : rowAt R i = (rowAt R i).take j ++ some k :: (rowAt R i).drop (j + 1) := by
      have g := h
      rw [List.getElem?_eq_getElem hj] at g
      rw [← Option.some.inj g, ← List.drop_eq_getElem_cons hj, List.take_append_drop]
    have e3 := congrArg livr e0
    rw [livr_append] at e3
    exact e3
  rw [e1, e2] at nd
  intro z
  have nd' : ((liv (R.take i) ++ livr ((rowAt R i).take j)) ++ (k :: livr ((rowAt R i).drop (j + 1)) ++ liv (R.drop (i + 1)))).Nodup := by
    simpa [List.append_assoc] using nd
  rw [List.nodup_append] at nd'
  exact nd'.2.2 k z k (by simp) rfl
theorem liv_le {w : Nat} {R : List (Row Str)} {hd : Nat} (h : Wf w R hd) : (liv R).length ≤ R.length * w := by
  rw [← total_liv]
  unfold total
  have : ∀ l : List (Row Str), (∀ r ∈ l, r.length ≤ w) → (l.map Cg.alive).sum ≤ l.length * w := by
    intro l
    induction l with
    | nil => intro _; simp
    | cons r l ih =>
      intro hl
      have h1 := ih fun r hr => hl r (List.mem_cons_of_mem _ hr)
      have h2 := Nat.le_trans (alive_le r) (hl r List.mem_cons_self)
      rw [List.map_cons, List.sum_cons, List.length_cons, Nat.succ_mul]
      omega
  exact this R h.len
theorem small10000 {n : Nat} (h : n ≤ 10100) : n < sizeLine := by
  rw [sizeLine_eq]
  omega
theorem OkL.liv_len {w : Nat} {s : Sg Str} (o : OkL w s) : (liv s.1).length ≤ 10000 := Nat.le_trans (liv_le o.wf) (by
  have := Nat.mul_le_mul o.lsm o.wsm
  omega)
section
variable {P : Program} {w : World} {K : PySem.W.Frag} {mg : Str → Option Value} {base : Heap} {f : Addr} {fd : FuncData} {CL CS : Addr} {xc : XC}
/-! ### Segments.table -/
def sp_s_table (CL CS : Addr) : Sp := fun vs H Q _ => ∃ (a : SAd) (c : Cfg) (n : Nat) (s : Sg Str) (d : Int) (kvs : List (Key × V)), vs = [.ref a.x] ∧ SegAt CL CS H a c n s d kvs ∧ OkL c.w s ∧ KvOk (liv s.1) kvs ∧
  ∀ (H' : Hp) (p : Addr), Fr [] H H' → H p = none → H' p = some (.dK (tabL kvs (liv s.1))) → Q (.ref p) H'
abbrev s_s_table : Stmt := inClass (topS 17) 14
theorem sc_s_table : FnScope ["self", "found", "row", "key"] ["self"] (C8.fnScope s_s_table) := C8.fnScope_by (by decide +kernel)
theorem k_s_table (T : Bi mg) (S : Txt K mg CL CS) (me : Meth K CS "table" f) (F : C8.Fun K "table" "Segments.table" s_s_table f fd) (b : Binds K fd ["self"] []) : C8.Met P w K mg base 1 CS "table" (sp_s_table CL CS) [] := by
  refine C8.met0 S.cs me F b sc_s_table (fun vs H Q E h => ?_) (fun cdv A outer s0 H vs Q E hr h => ?_)
  · obtain ⟨a, c, n, s, d, kvs, rfl, _⟩ := h
    rfl
  · obtain ⟨a, c, n, s, d, kvs, rfl, M, ok, kv, q⟩ := h
    have hu := hu_of hr
    have hl := ok.lsm
    have hll := ok.liv_len
    refine ⟨_, pss_cons (ps_set (i := 1) sc_s_table.nd rfl (by first | exact Or.inl rfl | exact Or.inr rfl) (pe_dnewK))
      (pss_cons (ps_for PassesOwn.never rfl (pi_list (pe_fld (pe_fld (pv 0) rfl) rfl)) (pg_name (i := 2) sc_s_table.nd rfl (by first | exact Or.inl rfl | exact Or.inr rfl))
        (pss_one (ps_for PassesOwn.never rfl (pi_list (pv 2)) (pg_name (i := 3) sc_s_table.nd rfl (by first | exact Or.inl rfl | exact Or.inr rfl))
        (pss_one (ps_if (pt_cmp (pc_notN (pv 3))) (pss_one (ps_dput hu (pv 1) (pv 3) (pe_dget hu (pe_fld (pv 0) rfl) (pv 3) (fun _ _ => rfl)) rfl)) (pss_nil))))))
      (pss_one (ps_ret (pv 1)))), ?_⟩
    obtain ⟨dx, cr, wt, e⟩ := M.ob
    intro p hp
    obtain ⟨dy, e2⟩ := M.log.ob
    have f1 : Fr [] H (upd H p (.dK [])) := Fr.new hp
    have ep : (upd H p (.dK [])) p = some (.dK []) := upd_same
    generalize upd H p (.dK []) = H1 at f1 ep ⊢
    have g1 := f1.all _ _ e (by simp)
    have g2 := f1.all _ _ e2 (by simp)
    have M1 := M.fr0 f1
    refine ⟨_, rfl, a.x, CS, dx, _, _, rfl, g1, S.cs, S.s_log, sf_log, a.g.l, CL, dy, _, _, rfl, g2, S.cl, S.l_rows, lf_rows, a.g.ra, rfl, ⟨_, SqL.of M1.log.rows⟩, ?_⟩
    have step : ∀ {L : List Str} {H2 H3 : Hp}, Fr [p] H1 H2 → H2 p = some (.dK (tabL kvs L)) → Fr [] H H2 := fun {L H2 H3} f e => f1.trans f fun x hx => .inr (by rw [List.mem_singleton.mp hx]; exact hp)
    refine for_list (K := K) (a := a.g.ra) (xs := a.g.rs.map V.ref) (fun i σ H' => Fr [p] H1 H' ∧ H' p = some (.dK (tabL kvs (liv (s.1.take i)))) ∧ ∃ v2 v3 : Option V, σ = [some (.ref a.x), some (.ref p), v2, v3]) ⟨Fr.refl _ _, ep, none, none, rfl⟩ (fun i σ H' _ z => SqL.of (M.fr0 (step (H3 := H') z.1 z.2.1)).log.rows) ?_ ?_
    · rintro i x σ H2 hx ⟨f2, hp2, v2, v3, rfl⟩
      have fH := step (H3 := H2) f2 hp2
      have M2 := M.fr0 fH
      have hi : i < s.1.length := by
        have := (List.getElem?_eq_some_iff.mp hx).1
        rwa [M.log.rs_len] at this
      obtain ⟨y, ys, e3, e4, hy, hv⟩ := M2.log.at_row hi
      rw [e4] at hx
      have hx2 := Option.some.inj hx
      subst hx2
      have hyl : ys.length = (rowAt s.1 i).length := Paired.length hv
      refine ⟨_, rfl, y, rfl, ⟨_, SqL.of hy⟩, ?_⟩
      have yp : y ≠ p := fun z => by rw [z, hp2] at hy; cases hy
      refine for_list (K := K) (a := y) (xs := ys) (fun j σ H' => Fr [p] H1 H' ∧ H' p = some (.dK (tabL kvs (liv (s.1.take i) ++ livr ((rowAt s.1 i).take j)))) ∧ H' y = some (.lst ys) ∧ ∃ v2 v3 : Option V, σ = [some (.ref a.x), some (.ref p), v2, v3]) ⟨f2, ?_, hy, _, _, rfl⟩ (fun i σ H' _ z => SqL.of z.2.2.1) ?_ ?_
      · rw [show livr ((rowAt s.1 i).take 0) = [] from rfl, List.append_nil]
        exact hp2
      · rintro j v σ H3 hv3 ⟨f3, hp3, hy3, w2, w3, rfl⟩
        obtain ⟨o, go, ro⟩ := paired_get hv hv3
        have M3 := M.fr0 (step (H3 := H3) f3 hp3)
        obtain ⟨dx3, cr3, wt3, e5⟩ := M3.ob
        cases o with
        | none =>
          have ev : v = .non := ro
          refine ⟨_, rfl, _, rfl, iteF' (by rw [ev]; rfl) ⟨f3, ?_, hy3, _, _, rfl⟩⟩
          rw [livr_take go]
          simpa using hp3
        | some k =>
          have ev : v = .str k := ro
          subst ev
          have hk : k ∈ liv s.1 := mem_liv.mpr ⟨rowAt s.1 i, rowAt_mem hi, List.mem_of_getElem? go⟩
          obtain ⟨z, hz⟩ := kv.get hk
          have hnew := liv_part go kv.nd
          refine ⟨_, rfl, _, rfl, iteT' rfl ?_⟩
          refine ⟨_, rfl, a.x, CS, dx3, _, _, rfl, e5, S.cs, S.s_values, sf_values, _, rfl, a.va, _, rfl, by rw [← hz]; exact DGet.k (k := Sum.inr k) M3.vals, _, rfl, _, rfl, p, _, rfl, DPut.k (k := Sum.inr k) hp3 ?_, ?_⟩
          · refine small10000 ?_
            unfold tabL
            rw [List.length_map]
            have h1 : (liv (s.1.take i) ++ livr ((rowAt s.1 i).take j)).length ≤ (liv s.1).length := by
              have e1 : liv (s.1.take (i + 1)) = _ := liv_take hi
              have h2 : livr ((rowAt s.1 i).take j) <+: livr (rowAt s.1 i) := by
                refine ⟨livr ((rowAt s.1 i).drop j), ?_⟩
                rw [← livr_append, List.take_append_drop]
              have h3 : liv (s.1.take (i + 1)) <+: liv s.1 := by
                refine ⟨liv (s.1.drop (i + 1)), ?_⟩
                unfold liv
                rw [← livr_append, ← List.flatten_append, List.take_append_drop]
              have h4 := h3.length_le
              rw [e1, List.length_append] at h4
              have h5 := h2.length_le
              rw [List.length_append]
              omega
            omega
          · rw [tabL_snoc hnew hz]
            have f4 : Fr [p] H3 (upd H3 p (.dK (tabL kvs (liv (s.1.take i) ++ livr ((rowAt s.1 i).take j) ++ [k])))) := Fr.set (by simp) hp3 fun xs z => by cases z
            refine ⟨f3.then f4, ?_, (upd_ne yp).trans hy3, _, _, rfl⟩
            rw [upd_same, livr_take go, List.append_assoc]
      · rintro σ H3 ⟨f3, hp3, hy3, w2, w3, rfl⟩
        rw [hyl, List.take_length, ← liv_take hi] at hp3
        exact ⟨f3, hp3, _, _, rfl⟩
    · rintro σ H2 ⟨f2, hp2, v2, v3, rfl⟩
      rw [M.log.rs_len, List.take_length] at hp2
      exact ⟨_, rfl, q H2 p (step (H3 := H2) f2 hp2) hp hp2⟩
end
end Cg

set_option Elab.async false
set_option linter.all false
set_option maxRecDepth 100000
set_option maxHeartbeats 400000
namespace Cg
open PySem PySem.Spec PyProof.Rows L2
section
variable {CL CS : Addr} {H H1 H2 H' : Hp} {a a1 a2 : SAd} {c : Cfg} {n : Nat} {s s' : Sg Str} {d d' : Int} {kvs kvs' : List (Key × V)}
theorem SegTo.of (f : Fr a.fp H H') (M : SegAt CL CS H' a c n s d kvs) : SegTo CL CS H a c n s d kvs H' a := ⟨f, rfl, fun _ h => .inl h, M⟩
theorem SegTo.trans (x : SegTo CL CS H a c n s d kvs H1 a1) (y : SegTo CL CS H1 a1 c n s' d' kvs' H2 a2) (hs : ∀ z ∈ a.fp, (H z).isSome = true) : SegTo CL CS H a c n s' d' kvs' H2 a2 := by
  have back : ∀ z, H1 z = none → z ∉ a.fp → H z = none := fun z h hn => by
    cases q : H z with
    | none => rfl
    | some o =>
      rw [x.1.all z o q hn] at h
      cases h
  refine ⟨x.1.trans y.1 fun z hz => x.2.2.1 z hz, y.2.1.trans x.2.1, fun z hz => ?_, y.2.2.2⟩
  rcases y.2.2.1 z hz with h | h
  · exact x.2.2.1 z h
  · by_cases hm : z ∈ a.fp
    · exact .inl hm
    · exact .inr (back z h hm)
theorem SAd.parts {a : SAd} (h : a.fp.Nodup) : a.x ≠ a.va ∧ a.x ∉ a.g.fp ∧ a.va ∉ a.g.fp ∧ a.g.fp.Nodup := by
  unfold SAd.fp at h
  obtain ⟨h1, h⟩ := List.nodup_cons.mp h
  obtain ⟨h2, h⟩ := List.nodup_cons.mp h
  simp only [List.mem_cons, not_or] at h1
  exact ⟨h1.1, h1.2, h2, h⟩
theorem SAd.of_parts {a : SAd} (h1 : a.x ≠ a.va) (h2 : a.x ∉ a.g.fp) (h3 : a.va ∉ a.g.fp) (h4 : a.g.fp.Nodup) : a.fp.Nodup := by
  unfold SAd.fp
  refine List.nodup_cons.mpr ⟨?_, List.nodup_cons.mpr ⟨h3, h4⟩⟩
  simp only [List.mem_cons, not_or]
  exact ⟨h1, h2⟩
/-- the log in place has moved on -/
theorem SegAt.log_to (M : SegAt CL CS H a c n s d kvs) {g' : LAd} (t : LogTo CL H a.g c.w s' H' g') : SegTo CL CS H a c n s' d kvs H' { a with g := g' } := by
  obtain ⟨p1, p2, p3, p4⟩ := SAd.parts M.nd
  obtain ⟨dx, cr, wt, e⟩ := M.ob
  have fresh : ∀ y ∈ g'.fp, y ≠ a.x ∧ y ≠ a.va := fun y hy => by
    rcases t.2.2.1 y hy with h | h
    · exact ⟨fun z => p2 (z ▸ h), fun z => p3 (z ▸ h)⟩
    · exact ⟨ne_of_none' h e, ne_of_none' h M.vals⟩
  refine ⟨t.1.mono a.mem_g, rfl, fun y hy => ?_, SAd.of_parts p1 (fun z => (fresh _ z).1 rfl) (fun z => (fresh _ z).2 rfl) t.2.2.2.nd, ⟨dx, cr, wt, ?_⟩, t.2.2.2, t.1.all _ _ M.vals p3⟩
  · rcases List.mem_cons.mp hy with h | hy
    · exact .inl (by rw [h]; exact a.mem_x)
    rcases List.mem_cons.mp hy with h | hy
    · exact .inl (by rw [h]; exact a.mem_va)
    rcases t.2.2.1 y hy with h | h
    · exact .inl (a.mem_g y h)
    · exact .inr h
  · have e2 := t.1.all _ _ e p2
    rw [e2]
    show some (HO.ins CS dx (sfl c n a d cr wt)) = some (HO.ins CS dx (sfl c n { a with g := g' } d cr wt))
    unfold sfl
    rw [show ({ a with g := g' } : SAd).g.l = a.g.l from t.2.1]
theorem SegAt.set_vals (M : SegAt CL CS H a c n s d kvs) : Fr a.fp H (upd H a.va (.dK kvs')) ∧ SegAt CL CS (upd H a.va (.dK kvs')) a c n s d kvs' := by
  obtain ⟨p1, p2, p3, p4⟩ := SAd.parts M.nd
  obtain ⟨dx, cr, wt, e⟩ := M.ob
  have f : Fr [a.va] H (upd H a.va (.dK kvs')) := Fr.set (by simp) M.vals fun xs z => by cases z
  exact ⟨f.mono fun y hy => by rw [List.mem_singleton.mp hy]; exact a.mem_va, M.nd, ⟨dx, cr, wt, (upd_ne p1).trans e⟩, M.log.fr f fun y hy z => p3 (by rw [← List.mem_singleton.mp z]; exact hy), upd_same⟩
theorem SegAt.set_ob (M : SegAt CL CS H a c n s d kvs) {dx : Addr} (d' cr wt : Int) (e : ∃ fs, H a.x = some (.ins CS dx fs)) :
    Fr a.fp H (upd H a.x (.ins CS dx (sfl c n a d' cr wt))) ∧ SegAt CL CS (upd H a.x (.ins CS dx (sfl c n a d' cr wt))) a c n s d' kvs := by
  obtain ⟨p1, p2, p3, p4⟩ := SAd.parts M.nd
  obtain ⟨fs, e⟩ := e
  have f : Fr [a.x] H (upd H a.x (.ins CS dx (sfl c n a d' cr wt))) := Fr.set (by simp) e fun xs z => by cases z
  exact ⟨f.mono fun y hy => by rw [List.mem_singleton.mp hy]; exact a.mem_x, M.nd, ⟨dx, cr, wt, upd_same⟩, M.log.fr f fun y hy z => p2 (by rw [← List.mem_singleton.mp z]; exact hy), (upd_ne p1.symm).trans M.vals⟩
/-- a draft takes the log's place -/
theorem SegAt.set_log (M : SegAt CL CS H a c n s d kvs) {g' : LAd} (L : LogAt CL H g' c.w s') (hx : a.x ∉ g'.fp) (hv : a.va ∉ g'.fp) {dx : Addr} {cr wt : Int} (e : ∃ fs, H a.x = some (.ins CS dx fs)) :
    Fr a.fp H (upd H a.x (.ins CS dx (sfl c n { a with g := g' } d cr wt))) ∧ SegAt CL CS (upd H a.x (.ins CS dx (sfl c n { a with g := g' } d cr wt))) { a with g := g' } c n s' d kvs := by
  obtain ⟨p1, p2, p3, p4⟩ := SAd.parts M.nd
  obtain ⟨fs, e⟩ := e
  have f : Fr [a.x] H (upd H a.x (.ins CS dx (sfl c n { a with g := g' } d cr wt))) := Fr.set (by simp) e fun xs z => by cases z
  exact ⟨f.mono fun y hy => by rw [List.mem_singleton.mp hy]; exact a.mem_x, SAd.of_parts p1 hx hv L.nd, ⟨dx, cr, wt, upd_same⟩, L.fr f fun y hy z => hx (by rw [← List.mem_singleton.mp z]; exact hy), (upd_ne p1.symm).trans M.vals⟩
end
/-- a draft: a log that is new since H -/
structure Dr (CL : Addr) (H H' : Hp) (g : LAd) (l : Addr) (w : Nat) (s : Sg Str) : Prop where
  fr : Fr [] H H'
  el : g.l = l
  new : ∀ y ∈ g.fp, H y = none
  log : LogAt CL H' g w s
theorem Dr.to {CL : Addr} {H H' H2 : Hp} {g g' : LAd} {l : Addr} {w : Nat} {s s' : Sg Str} (x : Dr CL H H' g l w s) (t : LogTo CL H' g w s' H2 g') : Dr CL H H2 g' l w s' :=
  ⟨x.fr.trans t.1 fun y hy => .inr (x.new y hy), t.2.1.trans x.el, fun y hy => (t.2.2.1 y hy).elim (x.new y) fun h => x.fr.free h fun a h => (by cases h), t.2.2.2⟩
theorem Dr.read {CL : Addr} {H H' H2 : Hp} {g : LAd} {l : Addr} {w : Nat} {s : Sg Str} (x : Dr CL H H' g l w s) (f : Fr [] H' H2) : Dr CL H H2 g l w s := ⟨x.fr.then f, x.el, x.new, x.log.fr0 f⟩
theorem Out.at {x : XC} {H H' : Hp} {E : XK} {r : Ref} (h : Out x H E r) (f : Fr [] H H') : Out x H' E r := fun H2 d f2 e => h H2 d (f.then f2) e
theorem OkL.write' {w : Nat} {s : Sg Str} {k : Str} (o : OkL w s) (hr : room w s.1 s.2 ≠ 0) : OkL w (write w s k) := ⟨o.wf.write hr, o.wsm, by show (push _ _ _).length ≤ _; rw [push_len]; exact o.lsm⟩
section
variable {P : Program} {w : World} {K : PySem.W.Frag} {mg : Str → Option Value} {base : Heap} {f : Addr} {fd : FuncData} {CL CS : Addr} {xc : XC}
/-! ### Segments.delete -/
def sp_s_delete (x : XC) (CL CS : Addr) : Sp := fun vs H Q E => ∃ (a : SAd) (c : Cfg) (n : Nat) (s : Sg Str) (d : Int) (kvs : List (Key × V)) (k : Str), vs = [.ref a.x, .str k] ∧ SegAt CL CS H a c n s d kvs ∧ OkL c.w s ∧ KvOk (liv s.1) kvs ∧ Good k ∧
  (findR s.1 k = none → OutK x H E k) ∧ (∀ i j : Nat, findR s.1 k = some (i, j) → ∀ H' a', SegTo CL CS H a c n (killR s.1 i j, s.2) d (dropK kvs (.inr k)) H' a' → Q .non H')
abbrev s_s_delete : Stmt := inClass (topS 17) 24
theorem sc_s_delete : FnScope ["self", "key", "segment", "place"] ["self", "key"] (C8.fnScope s_s_delete) := C8.fnScope_by (by decide +kernel)
theorem k_s_delete (T : Bi mg) (S : Txt K mg CL CS) (er_UnknownKey : ErrC P w K mg "UnknownKey" "key" xc.u okS) (me : Meth K CS "delete" f) (F : C8.Fun K "delete" "Segments.delete" s_s_delete f fd) (b : Binds K fd ["self", "key"] [])
    (c_l_spot_of : C8.Met P w K mg base 1 CL "spot_of" (sp_l_spot CL) []) (c_l_kill_at : C8.Met P w K mg base 2 CL "kill_at" (sp_l_kill CL) []) : MetE P w K mg base 3 CS "delete" (sp_s_delete xc CL CS) := by
  refine ⟨f, fd, ["self", "key"], S.cs, me, fnE F sc_s_delete (fun vs H Q E h => ?_) (fun cdv A outer s0 H vs Q E hr h tk => ?_), b⟩
  · obtain ⟨a, c, n, s, d, kvs, k, rfl, _⟩ := h
    rfl
  · obtain ⟨a, c, n, s, d, kvs, k, rfl, M, ok, kv, gk, q0, q1⟩ := h
    have hu := hu_of hr
    refine ⟨_, pss_cons (ps_if (pt_cmp (pc_dnotin hu (pv 1) (pe_fld (pv 0) rfl))) (pss_one (ps_raiseC rfl er_UnknownKey hr tk (pa_cons (pv 1) pa_nil))) (pss_nil))
      (pss_cons (ps_asg (C8.pe_mt c_l_spot_of hr (by decide) (pe_fld (pv 0) rfl) (pa_cons (pv 1) pa_nil)) (pg_tup (by rfl) (pgs_cons (pg_name (i := 2) sc_s_delete.nd rfl (by first | exact Or.inl rfl | exact Or.inr rfl)) (pgs_cons (pg_name (i := 3) sc_s_delete.nd rfl (by first | exact Or.inl rfl | exact Or.inr rfl)) pgs_nil))))
      (pss_cons (ps_expr (C8.pe_mt c_l_kill_at hr (by decide) (pe_fld (pv 0) rfl) (pa_cons (pv 2) (pa_cons (pv 3) pa_nil))))
      (pss_one (ps_ddel (pe_fld (pv 0) rfl) (pv 1))))), ?_⟩
    obtain ⟨dx, cr, wt, e⟩ := M.ob
    obtain ⟨dy, e2⟩ := M.log.ob
    refine ⟨_, rfl, _, rfl, a.x, CS, dx, _, _, rfl, e, S.cs, S.s_values, sf_values, a.va, _, rfl, DGet.k (k := Sum.inr k) M.vals, _, rfl, ite2 (fun hb => ?_) (fun hb => ?_)⟩
    · have hn : k ∉ liv s.1 := fun z => by
        obtain ⟨v, ev⟩ := kv.get z
        rw [ev] at hb
        cases hb
      exact ⟨_, rfl, _, rfl, ⟨k, rfl, gk⟩, fun d hd => q0 (findR_none_iff.mpr hn) _ d (Fr.new hd) upd_same⟩
    · have hm : k ∈ liv s.1 := by
        by_cases z : k ∈ liv s.1
        · exact z
        · rw [kv.no z] at hb
          exact absurd rfl hb
      refine ⟨_, rfl, a.x, CS, dx, _, _, rfl, e, S.cs, S.s_log, sf_log, a.g.l, dy, _, rfl, e2, rfl, _, rfl, a.g, c.w, s, k, rfl, M.log, ok, fun z => absurd hm (findR_none_iff.mp z), fun i j ef H1 p f1 hp => ?_⟩
      have M1 := M.fr0 f1
      obtain ⟨dx1, cr1, wt1, e3⟩ := M1.ob
      obtain ⟨dy1, e4⟩ := M1.log.ob
      refine ⟨p, _, rfl, SqT.of hp, rfl, _, _, rfl, _, _, rfl, rfl, ?_⟩
      refine ⟨_, rfl, a.x, CS, dx1, _, _, rfl, e3, S.cs, S.s_log, sf_log, a.g.l, dy1, _, rfl, e4, rfl, _, rfl, _, rfl, a.g, c.w, s, i, j, rfl, M1.log, ok, (find_lt ef).1, (find_lt ef).2, fun H2 g2 t2 => ?_⟩
      have t3 := M1.log_to t2
      have M3 := t3.2.2.2
      obtain ⟨dx3, cr3, wt3, e5⟩ := M3.ob
      have hin : (valV kvs (Sum.inr k)).isSome = true := kv.mem.mpr hm
      refine ⟨_, rfl, a.x, CS, dx3, _, _, rfl, e5, S.cs, S.s_values, sf_values, _, rfl, a.va, kvs, Sum.inr k, rfl, M3.vals, rfl, ?_, ?_⟩
      · first
          | exact hin
          | (intro z; rw [z] at hin; cases hin)
          | simpa using hin
      · obtain ⟨f4, M4⟩ := M3.set_vals (kvs' := dropK kvs (Sum.inr k))
        exact q1 i j ef _ _ (((SegTo.of f1.in M1).trans t3 M.there).trans (SegTo.of f4 M4) M.there)
/-! ### Segments.put -/
def sp_s_put (x : XC) (CL CS : Addr) : Sp := fun vs H Q E => ∃ (a : SAd) (c : Cfg) (n : Nat) (s : Sg Str) (d b : Nat) (kvs : List (Key × V)) (k : Str) (v : Int) (t : Addr) (ps : List Int), vs = [.ref a.x, .str k, .int v, .ref t] ∧ SegAt CL CS H a c n s d kvs ∧ OkL c.w s ∧ KvOk (liv s.1) kvs ∧ Good k ∧
  H t = some (.tup (ps.map V.int)) ∧ ps.length ≤ 100 ∧ d ≤ 300 ∧ c.bound = (b : Nat) ∧ b ≤ 300 ∧
  (∀ r, putM c.w c.bound c.load d c.late s k ps = .inl r → Out x H E r) ∧
  (∀ s', putM c.w c.bound c.load d c.late s k ps = .inr s' → ∀ H' a', SegTo CL CS H a c n s' (d + 1) (putK kvs (.inr k) (.int v)) H' a' → Q .non H')
abbrev s_s_put : Stmt := inClass (topS 17) 23
theorem sc_s_put : FnScope ["self", "key", "value", "sources", "draft", "old", "segment", "place", "source"] ["self", "key", "value", "sources"] (C8.fnScope s_s_put) := C8.fnScope_by (by decide +kernel)
theorem k_s_put (T : Bi mg) (S : Txt K mg CL CS) (er_KeyLimit : ErrC P w K mg "KeyLimit" "most" xc.k okN) (er_BadChoice : ErrC P w K mg "BadChoice" "choice" xc.b okA) (me : Meth K CS "put" f) (F : C8.Fun K "put" "Segments.put" s_s_put f fd) (df : fd.defaults = .none)
    (hb : ∀ (kV doc pm : Value) (an : Option Addr) (cdv ct : Value) (us rest : List Value), us.length = (["self", "key", "value"] : List Str).length →
      bindArgs (PySem.W.fnOf "put" "Segments.put" (C8.fnArgs s_s_put) (C8.fnBody s_s_put) (C8.fnScope s_s_put) .none kV doc pm an cdv ct) ⟨us ++ rest, []⟩ = (newTuple rest >>= fun t => pure ((["self", "key", "value"] : List Str).zip us ++ [(("sources" : Str), t)])))
    (c_good_key : C8.Cal P w K mg base 1 "good_key" sp_good []) (c_append_or_stall : CalE P w K mg base 4 "_append_or_stall" (sp_stall xc CL)) (c_l_copied : C8.Met P w K mg base 3 CL "copied" (sp_l_copied CL) [])
    (c_l_spot_of : C8.Met P w K mg base 1 CL "spot_of" (sp_l_spot CL) []) (c_l_kill_at : C8.Met P w K mg base 2 CL "kill_at" (sp_l_kill CL) []) (c_l_can_carry : C8.Met P w K mg base 4 CL "can_carry" (sp_l_can CL) [])
    (c_l_carry_from : C8.Met P w K mg base 4 CL "carry_from" (sp_l_carry CL) []) :
    MetR P w K mg base 5 CS "put" (fun vs H Q E => ∃ ws rest, vs = ws ++ rest ∧ ws.length = (["self", "key", "value"] : List Str).length ∧ rest.length ≤ sizeLine ∧ ∀ p, H p = Option.none → sp_s_put xc CL CS (ws ++ [V.ref p]) (upd H p (.tup rest)) Q E) := by
  refine ⟨f, S.cs, me, fnStar F df sc_s_put hb (fun cdv A outer s0 H vs Q E hr h tk => ?_)⟩
  obtain ⟨a, c, n, s, d, b, kvs, k, v, t, ps, rfl, M, ok, kv, gk, ht, lps, hd, hbb, hb3, q0, q1⟩ := h
  have hu := hu_of hr
  have hl := ok.lsm
  have hw := ok.wsm
  refine ⟨_, pss_cons (ps_expr (C8.pe_c c_good_key hr (by decide) rfl (pa_cons (pv 1) pa_nil)))
      (C8.pss_cut (ps_if (PW.pt (pw_and (pt_cmp (pc_dnotin hu (pv 1) (pe_fld (pv 0) rfl))) (pw_and1 (pt_cmpR op_ge (pe_callB call_lenD (by rfl) T.len PySem.boot_len (pa_cons (pe_fld (pv 0) rfl) pa_nil)) (pe_fld (pv 0) rfl) (nomark _))))) (pss_one (ps_raiseC rfl er_KeyLimit hr tk (pa_cons (pe_fld (pv 0) rfl) pa_nil))) (pss_nil))
      (pss_cons (ps_if (pt_cmpR op_gt (pe_callB call_len_seq (by rfl) T.len PySem.boot_len (pa_cons (pv 3) pa_nil)) (pe_fld (pv 0) rfl) (nomark _)) (pss_one (ps_raiseC rfl er_BadChoice hr tk (pa_cons (pe_callB call_len_seq (by rfl) T.len PySem.boot_len (pa_cons (pv 3) pa_nil)) pa_nil))) (pss_nil))
      (pss_cons (ps_set (i := 4) sc_s_put.nd rfl (by first | exact Or.inl rfl | exact Or.inr rfl) (C8.pe_mt0 c_l_copied hr (by decide) (pe_fld (pv 0) rfl)))
      (C8.pss_cut (ps_set (i := 5) sc_s_put.nd rfl (by first | exact Or.inl rfl | exact Or.inr rfl) (C8.pe_mt c_l_spot_of hr (by decide) (pv 4) (pa_cons (pv 1) pa_nil)))
      (C8.pss_cut (ps_if (pt_val (pe_fld (pv 0) rfl)) (pss_one (ps_expr (pe_cE c_append_or_stall hr (by decide) tk rfl (pa_cons (pv 4) (pa_cons (pv 1) (pa_cons (pe_fld (pv 0) rfl) pa_nil)))))) (pss_nil))
      (C8.pss_cut (ps_if (pt_cmp (pc_notN (pv 5))) (pss_cons (ps_asg (pv 5) (pg_tup (by rfl) (pgs_cons (pg_name (i := 6) sc_s_put.nd rfl (by first | exact Or.inl rfl | exact Or.inr rfl)) (pgs_cons (pg_name (i := 7) sc_s_put.nd rfl (by first | exact Or.inl rfl | exact Or.inr rfl)) pgs_nil))))
      (pss_one (ps_expr (C8.pe_mt c_l_kill_at hr (by decide) (pv 4) (pa_cons (pv 6) (pa_cons (pv 7) pa_nil)))))) (pss_nil))
      (C8.pss_cut (ps_for PassesOwn.leaving rfl (pi_tup (pv 3)) (pg_name (i := 8) sc_s_put.nd rfl (by first | exact Or.inl rfl | exact Or.inr rfl))
        (pss_cons (ps_if (pt_not (pt_val (C8.pe_mt c_l_can_carry hr (by decide) (pv 4) (pa_cons (pv 8) pa_nil)))) (pss_one (ps_raiseC rfl er_BadChoice hr tk (pa_cons (pv 8) pa_nil))) (pss_nil))
      (pss_one (ps_expr (C8.pe_mt c_l_carry_from hr (by decide) (pv 4) (pa_cons (pv 8) pa_nil))))))
      (C8.pss_cut (ps_if (pt_not (pt_val (pe_fld (pv 0) rfl))) (pss_one (ps_expr (pe_cE c_append_or_stall hr (by decide) tk rfl (pa_cons (pv 4) (pa_cons (pv 1) (pa_cons (pe_fld (pv 0) rfl) pa_nil)))))) (pss_nil))
      (pss_cons (ps_fld (pv 0) (pv 4) rfl)
      (pss_cons (ps_dput hu (pe_fld (pv 0) rfl) (pv 1) (pv 2) rfl)
      (pss_cons (ps_fldaug (pv 0) (pe_int) in_add)
      (pss_cons (ps_fldaug (pv 0) (pe_callB call_len_seq (by rfl) T.len PySem.boot_len (pa_cons (pv 3) pa_nil)) in_add)
      (pss_one (ps_fld (pv 0) (pe_callB call_len_seq (by rfl) T.len PySem.boot_len (pa_cons (pv 3) pa_nil)) rfl)))))))))))))), ?_⟩
  obtain ⟨dx, cr, wt, e⟩ := M.ob
  obtain ⟨dy, e2⟩ := M.log.ob
  have hlen : (kvs.length : Nat) = total s.1 := by rw [kv.len, total_liv]
  refine ⟨_, rfl, k, rfl, gk, ?_⟩
  -- too many keys
  refine ⟨fun σ H' => H' = H ∧ σ = [some (.ref a.x), some (.str k), some (.int v), some (.ref t), none, none, none, none, none] ∧ ¬ (findR s.1 k = none ∧ c.bound ≤ (total s.1 : Int)), ?_, ?_⟩
  · refine ⟨_, rfl, _, rfl, a.x, CS, dx, _, _, rfl, e, S.cs, S.s_values, sf_values, a.va, _, rfl, DGet.k (k := Sum.inr k) M.vals, _, rfl, ite2 (fun hb => ?_) (fun hb => ?_)⟩
    · have hnm : k ∉ liv s.1 := fun z => by
        obtain ⟨v, ev⟩ := kv.get z
        rw [ev] at hb
        cases hb
      refine ⟨_, rfl, a.x, CS, dx, _, _, rfl, e, S.cs, S.s_values, sf_values, a.va, kvs, rfl, M.vals, _, rfl, a.x, CS, dx, _, _, rfl, e, S.cs, S.s_limit, sf_limit, _, _, rfl, rfl, _, rfl, ite2 (fun hb2 => ?_) (fun hb2 => ?_)⟩
      · have hb3' := of_decide_eq_true hb2
        refine ⟨_, rfl, a.x, CS, dx, _, _, rfl, e, S.cs, S.s_limit, sf_limit, _, rfl, ⟨b, by rw [hbb], hb3⟩, fun d hd => ?_⟩
        refine q0 (.limit c.bound) ?_ _ d (Fr.new hd) upd_same
        unfold putM start
        rw [if_pos ⟨findR_none_iff.mpr hnm, by rw [← hlen]; exact hb3'⟩]
      · exact ⟨rfl, rfl, fun h => hb2 (decide_eq_true (by rw [hlen]; exact h.2))⟩
    · refine iteF ⟨rfl, rfl, fun h => hb ?_⟩
      rw [kv.no (findR_none_iff.mp h.1)]
      rfl
  rintro σ _ ⟨rfl, rfl, hnl⟩
  rename_i H
  -- too many sources
  refine ⟨_, rfl, t, _, rfl, .inr (SqT.of ht), _, rfl, a.x, CS, dx, _, _, rfl, e, S.cs, S.s_budget, sf_budget, _, _, rfl, rfl, _, rfl, ite2 (fun hb => ?_) (fun hb => ?_)⟩
  · rw [List.length_map] at hb
    refine ⟨_, rfl, t, _, rfl, .inr (SqT.of ht), _, rfl, trivial, fun d hd => ?_⟩
    rw [List.length_map]
    refine q0 (.bad (ps.length : Nat)) ?_ _ d (Fr.new hd) upd_same
    unfold putM start
    rw [if_neg hnl, if_pos (of_decide_eq_true hb)]
  rw [List.length_map] at hb
  have hnb : ¬ c.load < (ps.length : Nat) := fun z => hb (decide_eq_true z)
  -- the draft
  refine ⟨_, rfl, a.x, CS, dx, _, _, rfl, e, S.cs, S.s_log, sf_log, a.g.l, dy, _, rfl, e2, rfl, a.g, c.w, s, rfl, M.log, ok, fun H1 g1 f1 n1 L1 => ?_⟩
  have D1 : Dr CL H H1 g1 g1.l c.w s := ⟨f1, rfl, n1, L1⟩
  obtain ⟨dz, e3⟩ := L1.ob
  have lst : ∀ H' : Hp, Fr [] H H' → ∃ dx cr wt, H' a.x = some (.ins CS dx (sfl c n a d cr wt)) := fun H' f => (M.fr0 f).ob
  refine ⟨fun σ H' => Dr CL H H' g1 g1.l c.w s ∧ ∃ ov, OldV H' ov (findR s.1 k) ∧ σ = [some (.ref a.x), some (.str k), some (.int v), some (.ref t), some (.ref g1.l), some ov, none, none, none], ?_, ?_⟩
  · refine ⟨_, rfl, g1.l, dz, _, rfl, e3, rfl, _, rfl, g1, c.w, s, k, rfl, L1, ok, fun ef H2 f2 => ⟨D1.read f2, _, ?_, rfl⟩, fun i j ef H2 p f2 hp => ⟨D1.read f2, _, ?_, rfl⟩⟩
    · rw [ef]
      rfl
    · rw [ef]
      exact ⟨p, rfl, hp⟩
  clear D1 e3 dz
  rintro σ H2 ⟨D2, ov, hov, rfl⟩
  have hdn : (d : Int) = ((d : Nat) : Int) := rfl
  -- the record first, or not yet
  refine ⟨fun σ H' => (∃ (s1 : Sg Str) (g2 : LAd), (c.late = true → room c.w s.1 s.2 ≠ 0) ∧ s1 = (if c.late = true then write c.w s k else s) ∧ Dr CL H H' g2 g1.l c.w s1) ∧ OldV H' ov (findR s.1 k) ∧
    σ = [some (.ref a.x), some (.str k), some (.int v), some (.ref t), some (.ref g1.l), some ov, none, none, none], ?_, ?_⟩
  · obtain ⟨dx2, cr2, wt2, e4⟩ := lst H2 D2.fr
    refine ⟨_, rfl, a.x, CS, dx2, _, _, rfl, e4, S.cs, S.s_late, sf_late, _, rfl, ite2 (fun hl1 => ?_) (fun hl1 => ?_)⟩
    · refine ⟨_, rfl, _, rfl, _, rfl, a.x, CS, dx2, _, _, rfl, e4, S.cs, S.s_done, sf_done, g1, c.w, s, k, d, rfl, D2.log, ok, hd, fun er => ?_, fun er H3 g3 t3 => ?_⟩
      · refine Out.at (E := E) (q0 (.stall d) ?_) D2.fr
        unfold putM start
        rw [if_neg hnl, if_neg hnb, if_pos ⟨hl1, er⟩]
      · exact ⟨⟨write c.w s k, g3, fun _ => er, (if_pos hl1).symm, D2.to t3⟩, hov.fr t3.1, rfl⟩
    · exact ⟨⟨s, g1, fun h => absurd h hl1, (if_neg hl1).symm, D2⟩, hov, rfl⟩
  clear hov D2 H2
  rintro σ H2 ⟨⟨s1, g2, hr1, es1, D2⟩, hov, rfl⟩
  have est : ∀ o, findR s.1 k = o → start c.w c.bound c.load d c.late s k ps.length = .inr (match o with | some (i, j) => (killR s1.1 i j, s1.2) | none => s1) := fun o eo => by
    unfold Cg.start
    rw [if_neg hnl, if_neg hnb, if_neg fun h => hr1 h.1 h.2, ← es1, eo] <;> rfl
  have ok1 : OkL c.w s1 := by
    rw [es1]
    split
    · rename_i hl1
      exact ok.write' (hr1 hl1)
    · exact ok
  have hodec := hov.dec
  -- the old record dies
  refine ⟨fun σ H' => (∃ (s2 : Sg Str) (g3 : LAd), start c.w c.bound c.load d c.late s k ps.length = .inr s2 ∧ Dr CL H H' g3 g1.l c.w s2) ∧ ∃ v6 v7 : Option V, σ = [some (.ref a.x), some (.str k), some (.int v), some (.ref t), some (.ref g1.l), some ov, v6, v7, none], ?_, ?_⟩
  · refine ⟨_, rfl, _, rfl, ite2 (fun hb5 => ?_) (fun hb5 => ?_)⟩
    · rw [hodec] at hb5
      cases ef : findR s.1 k with
      | none =>
        rw [ef] at hb5
        cases hb5
      | some ij =>
        obtain ⟨i, j⟩ := ij
        rw [ef] at hov
        obtain ⟨p, rfl, hp⟩ := hov
        obtain ⟨i1, j1⟩ := find_lt ef
        have okk : i < s1.1.length ∧ j < (rowAt s1.1 i).length := by
          rw [es1]
          split
          · rename_i hl1
            exact ⟨by show _ < (push _ _ _).length; rw [push_len]; exact i1, find_low ef (headOf_ok ok.wf (hr1 hl1)).1⟩
          · exact ⟨i1, j1⟩
        obtain ⟨dz, e5⟩ := D2.log.ob
        rw [D2.el] at e5
        refine ⟨_, rfl, p, _, rfl, SqT.of hp, rfl, _, _, rfl, _, _, rfl, rfl, _, rfl, g1.l, dz, _, rfl, e5, rfl, _, rfl, _, rfl, g2, c.w, s1, i, j, by rw [D2.el]; rfl, D2.log, ok1, okk.1, okk.2, fun H3 g3 t3 => ?_⟩
        exact ⟨⟨_, g3, est _ ef, D2.to t3⟩, _, _, rfl⟩
    · rw [hodec] at hb5
      cases ef : findR s.1 k with
      | none => exact ⟨⟨_, g2, est _ ef, D2⟩, _, _, rfl⟩
      | some ij =>
        rw [ef] at hb5
        exact absurd rfl hb5
  clear D2 H2 hov hodec est
  rintro σ H2 ⟨⟨s2, g3, es2, D2⟩, v6, v7, rfl⟩
  obtain ⟨w2, l2, _⟩ := start_ok ok.wf es2
  -- the moves
  refine ⟨fun σ H' => (∃ (s3 : Sg Str) (g4 : LAd), moves c.w s2 ps = .inr s3 ∧ Dr CL H H' g4 g1.l c.w s3) ∧ ∃ v8 : Option V, σ = [some (.ref a.x), some (.str k), some (.int v), some (.ref t), some (.ref g1.l), some ov, v6, v7, v8], ?_, ?_⟩
  · refine ⟨_, rfl, t, rfl, ⟨_, SqT.of (D2.fr.tup _ _ ht)⟩, ?_⟩
    refine for_tup (K := K) (a := t) (xs := ps.map V.int) (fun i σ H' => (∃ (si : Sg Str) (gi : LAd), moves c.w s2 (ps.take i) = .inr si ∧ Dr CL H H' gi g1.l c.w si) ∧ ∃ v8 : Option V, σ = [some (.ref a.x), some (.str k), some (.int v), some (.ref t), some (.ref g1.l), some ov, v6, v7, v8])
      ⟨⟨s2, g3, rfl, D2⟩, none, rfl⟩ (fun i σ H' _ z => ?_) ?_ ?_
    · obtain ⟨⟨si, gi, ei, Di⟩, _⟩ := z
      exact SqT.of (Di.fr.tup _ _ ht)
    · rintro i x σ H' hx ⟨⟨si, gi, ei, Di⟩, v8, rfl⟩
      obtain ⟨p, hp, rfl⟩ := ints_get hx
      obtain ⟨wi, li, _⟩ := moves_ok w2 ei
      have oki : OkL c.w si := ⟨wi, hw, by rw [li, l2]; exact hl⟩
      obtain ⟨dz, e5⟩ := Di.log.ob
      rw [Di.el] at e5
      refine ⟨_, rfl, g1.l, dz, _, rfl, e5, rfl, _, rfl, gi, c.w, si, p, by rw [Di.el]; rfl, Di.log, oki, fun H3 f3 => ?_⟩
      have D3 := Di.read f3
      refine ⟨_, rfl, ite2 (fun hb6 => ?_) (fun hb6 => ?_)⟩
      · have hc : can c.w si p = false := by
          cases q : can c.w si p with
          | false => rfl
          | true => rw [q] at hb6; cases hb6
        refine ⟨_, rfl, _, rfl, trivial, fun y hy => ?_⟩
        refine q0 (.bad p) ?_ _ y (D3.fr.then (Fr.new hy)) upd_same
        unfold putM
        rw [es2]
        simp only [moves_stop hp ei (cant_move hc)]
      · have hc : can c.w si p = true := by
          cases q : can c.w si p with
          | true => rfl
          | false =>
            rw [q] at hb6
            exact absurd rfl hb6
        obtain ⟨s', em⟩ := can_move hc
        obtain ⟨dz2, e6⟩ := D3.log.ob
        rw [D3.el] at e6
        refine ⟨_, rfl, g1.l, dz2, _, rfl, e6, rfl, _, rfl, gi, c.w, si, p, by rw [D3.el]; rfl, D3.log, oki, hc, fun s'' em2 H4 g4 t4 => ?_⟩
        exact ⟨⟨s'', g4, moves_step hp ei em2, D3.to t4⟩, _, rfl⟩
    · rintro σ H' ⟨⟨si, gi, ei, Di⟩, v8, rfl⟩
      rw [List.length_map, List.take_length] at ei
      exact ⟨⟨si, gi, ei, Di⟩, v8, rfl⟩
  clear D2 H2
  rintro σ H2 ⟨⟨s3, g4, em, D2⟩, v8, rfl⟩
  obtain ⟨w3, l3, _⟩ := moves_ok w2 em
  have ok3 : OkL c.w s3 := ⟨w3, hw, by rw [l3, l2]; exact hl⟩
  have eput : ∀ A, (if c.late = true then Sum.inr s3 else if room c.w s3.1 s3.2 = 0 then .inl (.stall d) else .inr (write c.w s3 k)) = A → putM c.w c.bound c.load d c.late s k ps = A := fun A eA => by
    unfold putM
    rw [es2]
    simp only [em]
    exact eA
  -- the record now
  refine ⟨fun σ H' => (∃ (s4 : Sg Str) (g5 : LAd), putM c.w c.bound c.load d c.late s k ps = .inr s4 ∧ Dr CL H H' g5 g1.l c.w s4) ∧ σ = [some (.ref a.x), some (.str k), some (.int v), some (.ref t), some (.ref g1.l), some ov, v6, v7, v8], ?_, ?_⟩
  · obtain ⟨dx2, cr2, wt2, e4⟩ := lst H2 D2.fr
    refine ⟨_, rfl, a.x, CS, dx2, _, _, rfl, e4, S.cs, S.s_late, sf_late, _, rfl, ite2 (fun hl1 => ?_) (fun hl1 => ?_)⟩
    · have hf : ¬ c.late = true := fun z => by rw [z] at hl1; cases hl1
      refine ⟨_, rfl, _, rfl, _, rfl, a.x, CS, dx2, _, _, rfl, e4, S.cs, S.s_done, sf_done, g4, c.w, s3, k, d, by rw [D2.el], D2.log, ok3, hd, fun er => ?_, fun er H3 g5 t3 => ?_⟩
      · exact Out.at (E := E) (q0 (.stall d) (eput _ (by rw [if_neg hf, if_pos er]))) D2.fr
      · exact ⟨⟨_, g5, eput _ (by rw [if_neg hf, if_neg er]), D2.to t3⟩, rfl⟩
    · have hf : c.late = true := by
        cases q : c.late with
        | true => rfl
        | false =>
          rw [q] at hl1
          exact absurd rfl hl1
      exact ⟨⟨s3, g4, eput _ (if_pos hf), D2⟩, rfl⟩
  clear D2 H2
  rintro σ H2 ⟨⟨s4, g5, ep, D2⟩, rfl⟩
  have M2 := M.fr0 D2.fr
  obtain ⟨dx2, cr2, wt2, e4⟩ := M2.ob
  have nin : ∀ y, (H y).isSome = true → y ∉ g5.fp := fun y hy z => by
    rw [D2.new y z] at hy
    cases hy
  obtain ⟨f3, M3⟩ := M2.set_log (cr := cr2) (wt := wt2) (dx := dx2) D2.log (nin _ (M.there _ a.mem_x)) (nin _ (M.there _ a.mem_va)) ⟨_, e4⟩
  have hg5 : g5.l = g1.l := D2.el
  refine ⟨_, rfl, _, rfl, a.x, CS, dx2, _, rfl, e4, S.cs, S.s_log, (by show 10 < 1000; decide), ?_⟩
  rw [← hg5, sf_put_log]
  have t3 : SegTo CL CS H a c n s4 d kvs _ { a with g := g5 } := ⟨D2.fr.in.then f3, rfl, fun y hy => ?_, M3⟩
  rotate_left
  · rcases List.mem_cons.mp hy with h | hy
    · exact .inl (by rw [h]; exact a.mem_x)
    rcases List.mem_cons.mp hy with h | hy
    · exact .inl (by rw [h]; exact a.mem_va)
    · exact .inr (D2.new y hy)
  generalize upd H2 a.x (.ins CS dx2 (sfl c n { a with g := g5 } d cr2 wt2)) = H3 at M3 t3 ⊢
  obtain ⟨dx3, cr3, wt3, e5⟩ := M3.ob
  have hkl := kv.len
  have hll := ok.liv_len
  -- the value
  refine ⟨_, rfl, _, rfl, a.x, CS, dx3, _, _, rfl, e5, S.cs, S.s_values, sf_values, _, rfl, a.va, _, rfl, DPut.k (k := Sum.inr k) M3.vals (small10000 (by omega)), ?_⟩
  obtain ⟨f4, M4⟩ := M3.set_vals (kvs' := putK kvs (Sum.inr k) (.int v))
  have t4 := t3.trans (SegTo.of f4 M4) M.there
  rw [show upd H3 a.va (.dK (putK kvs (Sum.inr k) (.int v))) = upd H3 ({ a with g := g5 } : SAd).va (.dK (putK kvs (Sum.inr k) (.int v))) from rfl]
  generalize upd H3 ({ a with g := g5 } : SAd).va (.dK (putK kvs (Sum.inr k) (.int v))) = H4 at M4 t4 ⊢
  obtain ⟨dx4, cr4, wt4, e6⟩ := M4.ob
  -- done
  refine ⟨_, rfl, a.x, CS, dx4, _, _, rfl, e6, S.cs, S.s_done, sf_done, _, _, rfl, rfl, dx4, _, e6, (by show 10 < 1000; decide), ?_⟩
  rw [sf_put_done]
  obtain ⟨f5, M5⟩ := M4.set_ob (dx := dx4) (d + 1) cr4 wt4 ⟨_, e6⟩
  have t5 := t4.trans (SegTo.of f5 M5) M.there
  rw [show upd H4 a.x (.ins CS dx4 (sfl c n { a with g := g5 } ((d : Int) + 1) cr4 wt4)) = upd H4 ({ a with g := g5 } : SAd).x (.ins CS dx4 (sfl c n { a with g := g5 } ((d : Int) + 1) cr4 wt4)) from rfl]
  generalize upd H4 ({ a with g := g5 } : SAd).x (.ins CS dx4 (sfl c n { a with g := g5 } ((d : Int) + 1) cr4 wt4)) = H5 at M5 t5 ⊢
  obtain ⟨dx5, cr5, wt5, e7⟩ := M5.ob
  have ht5 : H5 t = some (.tup (ps.map V.int)) := t5.1.tup _ _ ht
  -- carried
  refine ⟨_, rfl, a.x, CS, dx5, _, _, rfl, e7, S.cs, S.s_carried, sf_carried, _, rfl, t, _, rfl, .inr (SqT.of ht5), _, _, rfl, rfl, dx5, _, e7, (by show 10 < 1000; decide), ?_⟩
  rw [sf_put_carried]
  obtain ⟨f6, M6⟩ := M5.set_ob (dx := dx5) (d + 1) (cr5 + ((ps.map V.int).length : Nat)) wt5 ⟨_, e7⟩
  have t6 := t5.trans (SegTo.of f6 M6) M.there
  rw [show upd H5 a.x (.ins CS dx5 (sfl c n { a with g := g5 } ((d : Int) + 1) (cr5 + ((ps.map V.int).length : Nat)) wt5)) = upd H5 ({ a with g := g5 } : SAd).x (.ins CS dx5 (sfl c n { a with g := g5 } ((d : Int) + 1) (cr5 + ((ps.map V.int).length : Nat)) wt5)) from rfl]
  generalize upd H5 ({ a with g := g5 } : SAd).x (.ins CS dx5 (sfl c n { a with g := g5 } ((d : Int) + 1) (cr5 + ((ps.map V.int).length : Nat)) wt5)) = H6 at M6 t6 ⊢
  obtain ⟨dx6, cr6, wt6, e8⟩ := M6.ob
  have ht6 : H6 t = some (.tup (ps.map V.int)) := t6.1.tup _ _ ht
  -- the last wait
  refine ⟨_, rfl, t, _, rfl, .inr (SqT.of ht6), _, rfl, a.x, CS, dx6, _, rfl, e8, S.cs, S.s_wait, (by show 10 < 1000; decide), ?_⟩
  rw [sf_put_wait]
  obtain ⟨f7, M7⟩ := M6.set_ob (dx := dx6) (d + 1) cr6 ((ps.map V.int).length : Nat) ⟨_, e8⟩
  exact q1 s4 ep _ _ (t6.trans (SegTo.of f7 M7) M.there)
end
end Cg

set_option Elab.async false
set_option linter.all false
set_option maxRecDepth 100000
set_option maxHeartbeats 400000
namespace Cg
open PySem PySem.Spec PyProof.Rows L2
/-- C(e, .., k = v) where __init__'s last parameter is keyword-only -/
structure MakK (P : Program) (w : World) (K : PySem.W.Frag) (mg : Str → Option Value) (base : Heap) (k : Nat) (x : Str) (C : Addr) (n : Nat) (ks : List Str) (sp : Sp) : Prop where
  ex : ∃ (f : Addr) (fd : FuncData) (ps : List Str) (g : List Value → List Value → List Value), Mk K C f ∧ FnOk P w K mg base C8.CX0 k f fd ps sp ∧ mg x = some (.ref C) ∧ KBn K fd ps (n + 1) ks g (fun vs zs => vs ++ zs)
theorem pe_mkK {X : Cx} {k j n : Nat} {C : Addr} {x : Str} {ks : List Str} {sp : Sp} {p pos : Pos} {e : Expr} {es : List Expr} {kws : List Keyword} {t tk : TA} (c : MakK X.prog X.w X.K X.mg X.base k x C n ks sp) (hr : Room j X.A) (hk : k + 1 ≤ j) (hg : Gl X x) (ha : PA X (e :: es) t) (hkw : PK X kws tk)
    (hall : (backToKw pos (keywordEach kws X.env)).all (·.1.isSome) = true := by rfl) (hks : (backToKw pos (keywordEach kws X.env)).filterMap (·.1) = ks := by rfl) (hdb : (x == ("__debug__" : Str)) = false := by decide)
    (he : starEach (e :: es) X.env = (false, eval e X.env) :: starEach es X.env := by rfl) (hpl : ((backTo pos (starEach (e :: es) X.env)).any (·.1) || (backToKw pos (keywordEach kws X.env)).any (·.1.isNone)) = false := by rfl) :
    PE X (.Call (.Name x p) (e :: es) kws pos) (tMakeK C n ks.length sp (fun vs zs => vs ++ zs) C8.E0 t tk) := by
  obtain ⟨f, fd, ps, g, M, F, hm, hb⟩ := c.ex
  exact pe_makeK M F (hr.mono hk) hg hm hb C8.pass0 ha hkw hall hks hdb he hpl
theorem kv0 (n : Nat) : KvOk (liv (List.replicate n ([] : Row Str))) [] := by
  have e : liv (List.replicate n ([] : Row Str)) = [] := by
    unfold liv
    rw [show (List.replicate n ([] : Row Str)).flatten = [] by induction n with | zero => rfl | succ n ih => rw [List.replicate_succ, List.flatten_cons, ih]; rfl]
    rfl
  rw [e]
  exact ⟨List.nodup_nil, List.Perm.refl _, fun kv h => by cases h⟩
def spre (c : Cfg) (n : Nat) (l va : Addr) : List (Str × V) :=
  [("_segments", .int n), ("_size", .int c.w), ("_limit", .int c.bound), ("_budget", .int c.load), ("_late", .bl c.late), ("_log", .ref l), ("_values", .ref va), ("_done", .int 0), ("_carried", .int 0), ("_last_wait", .int 0)]
section
variable {c : Cfg} {n : Nat} {l va : Addr}
theorem sp0 : putF "_segments" (.int n) [] = (spre c n 0 0).take 1 := rfl
theorem sp1 : putF "_size" (.int c.w) ((spre c n 0 0).take 1) = (spre c n 0 0).take 2 := rfl
theorem sp2 : putF "_limit" (.int c.bound) ((spre c n 0 0).take 2) = (spre c n 0 0).take 3 := rfl
theorem sp3 : putF "_budget" (.int c.load) ((spre c n 0 0).take 3) = (spre c n 0 0).take 4 := rfl
theorem sp4 : putF "_late" (.bl c.late) ((spre c n 0 0).take 4) = (spre c n 0 0).take 5 := rfl
theorem sp5 : putF "_log" (.ref l) ((spre c n 0 0).take 5) = (spre c n l 0).take 6 := rfl
theorem sp6 : putF "_values" (.ref va) ((spre c n l 0).take 6) = (spre c n l va).take 7 := rfl
theorem sp7 : putF "_done" (.int 0) ((spre c n l va).take 7) = (spre c n l va).take 8 := rfl
theorem sp8 : putF "_carried" (.int 0) ((spre c n l va).take 8) = (spre c n l va).take 9 := rfl
theorem sp9 : putF "_last_wait" (.int 0) ((spre c n l va).take 9) = spre c n l va := rfl
theorem sp_len {k : Nat} : ((spre c n l va).take k).length < 1000 := by
  rw [List.length_take]
  show min k 10 < 1000
  omega
end
section
variable {P : Program} {w : World} {K : PySem.W.Frag} {mg : Str → Option Value} {base : Heap} {f : Addr} {fd : FuncData} {CL CS : Addr} {xc : XC}
/-! ### Segments.__init__ -/
def sp_s_init (CL CS : Addr) : Sp := fun vs H Q _ => ∃ (x dx : Addr) (n : Nat) (c : Cfg), vs = [.ref x, .int n, .int c.w, .int c.bound, .int c.load, .bl c.late] ∧ H x = some (.ins CS dx []) ∧ 0 < n ∧ n ≤ 100 ∧ 0 < c.w ∧ 1 ≤ c.bound ∧ 0 ≤ c.load ∧
  ∀ (H' : Hp) (a : SAd), a.x = x → Fr [x] H H' → (∀ y ∈ a.fp, y = x ∨ H y = none) → SegAt CL CS H' a c n (List.replicate n [], 0) 0 [] → Q .non H'
abbrev s_s___init : Stmt := inClass (topS 17) 0
theorem sc_s___init : FnScope ["self", "segments", "size", "limit", "budget", "late"] ["self", "segments", "size", "limit", "budget", "late"] (C8.fnScope s_s___init) := C8.fnScope_by (by decide +kernel)
theorem k_s_init (T : Bi mg) (S : Txt K mg CL CS) (F : C8.Fun K "__init__" "Segments.__init__" s_s___init f fd) (c_at_least : C8.Cal P w K mg base 1 "at_least" sp_least []) (c_l___init : C8.Mak P w K mg base 1 "SegmentLog" CL (sp_l_init CL) []) :
    FnOk P w K mg base C8.CX0 3 f fd ["self", "segments", "size", "limit", "budget", "late"] (sp_s_init CL CS) := by
  refine C8.fn0 F sc_s___init (fun vs H Q E h => ?_) (fun cdv A outer s0 H vs Q E hr h => ?_)
  · obtain ⟨x, dx, n, c, rfl, _⟩ := h
    rfl
  · obtain ⟨x, dx, n, c, rfl, e, n0, n1, w0, b0, l0, q⟩ := h
    have hu := hu_of hr
    refine ⟨_, pss_cons (ps_expr (C8.pe_c c_at_least hr (by decide) rfl (pa_cons (pv 1) (pa_cons (pe_int) (pa_cons (pe_str) pa_nil)))))
      (pss_cons (ps_expr (C8.pe_c c_at_least hr (by decide) rfl (pa_cons (pv 2) (pa_cons (pe_int) (pa_cons (pe_str) pa_nil)))))
      (pss_cons (ps_expr (C8.pe_c c_at_least hr (by decide) rfl (pa_cons (pv 3) (pa_cons (pe_int) (pa_cons (pe_str) pa_nil)))))
      (pss_cons (ps_expr (C8.pe_c c_at_least hr (by decide) rfl (pa_cons (pv 4) (pa_cons (pe_int) (pa_cons (pe_str) pa_nil)))))
      (pss_cons (ps_fld (pv 0) (pv 1) rfl)
      (pss_cons (ps_fld (pv 0) (pv 2) rfl)
      (pss_cons (ps_fld (pv 0) (pv 3) rfl)
      (pss_cons (ps_fld (pv 0) (pv 4) rfl)
      (pss_cons (ps_fld (pv 0) (pv 5) rfl)
      (pss_cons (ps_fld (pv 0) (C8.pe_mk c_l___init hr (by decide) rfl (pa_cons (pv 1) (pa_cons (pv 2) pa_nil))) rfl)
      (pss_cons (ps_fld (pv 0) (pe_dnewK) rfl)
      (pss_cons (ps_fld (pv 0) (pe_int) rfl)
      (pss_cons (ps_fld (pv 0) (pe_int) rfl)
      (pss_one (ps_fld (pv 0) (pe_int) rfl)))))))))))))), ?_⟩
    refine ⟨_, rfl, _, _, _, rfl, by omega, _, rfl, _, _, _, rfl, by omega, _, rfl, _, _, _, rfl, b0, _, rfl, _, _, _, rfl, l0, ?_⟩
    have fset : ∀ {H1 : Hp} {fs gs : List (Str × V)}, H1 x = some (.ins CS dx fs) → Fr [x] H1 (upd H1 x (.ins CS dx gs)) ∧ (upd H1 x (.ins CS dx gs)) x = some (.ins CS dx gs) := fun h => ⟨Fr.set (by simp) h fun xs z => (by cases z), upd_same⟩
    refine ⟨_, rfl, _, rfl, x, CS, dx, _, rfl, e, S.cs, S.s_segments, (by show 0 < 1000; decide), ?_⟩
    rw [sp0 (c := c)]
    obtain ⟨f1, e1⟩ := fset (gs := (spre c n 0 0).take 1) e
    generalize upd H x (.ins CS dx ((spre c n 0 0).take 1)) = H1 at f1 e1 ⊢
    refine ⟨_, rfl, _, rfl, x, CS, dx, _, rfl, e1, S.cs, S.s_size, sp_len, ?_⟩
    rw [sp1]
    obtain ⟨f2, e2⟩ := fset (gs := (spre c n 0 0).take 2) e1
    generalize upd H1 x (.ins CS dx ((spre c n 0 0).take 2)) = H2 at f2 e2 ⊢
    refine ⟨_, rfl, _, rfl, x, CS, dx, _, rfl, e2, S.cs, S.s_limit, sp_len, ?_⟩
    rw [sp2]
    obtain ⟨f3, e3⟩ := fset (gs := (spre c n 0 0).take 3) e2
    generalize upd H2 x (.ins CS dx ((spre c n 0 0).take 3)) = H3 at f3 e3 ⊢
    refine ⟨_, rfl, _, rfl, x, CS, dx, _, rfl, e3, S.cs, S.s_budget, sp_len, ?_⟩
    rw [sp3]
    obtain ⟨f4, e4⟩ := fset (gs := (spre c n 0 0).take 4) e3
    generalize upd H3 x (.ins CS dx ((spre c n 0 0).take 4)) = H4 at f4 e4 ⊢
    refine ⟨_, rfl, _, rfl, x, CS, dx, _, rfl, e4, S.cs, S.s_late, sp_len, ?_⟩
    rw [sp4]
    obtain ⟨f5, e5⟩ := fset (gs := (spre c n 0 0).take 5) e4
    generalize upd H4 x (.ins CS dx ((spre c n 0 0).take 5)) = H5 at f5 e5 ⊢
    have f15 := (((f1.then f2).then f3).then f4).then f5
    -- the log
    refine ⟨_, rfl, _, rfl, fun y dy hy hdy ne => ?_⟩
    have hy1 : (upd H5 dy (.own y)) y = none := by rw [upd_ne (Ne.symm ne)]; exact hy
    have fa : Fr [] H5 (upd (upd H5 dy (.own y)) y (.ins CL dy [])) := (Fr.new hdy).then (Fr.new hy1)
    refine ⟨y, dy, n, c.w, rfl, upd_same, n0, n1, fun H6 g eg f6 n6 L6 => ⟨rfl, ?_⟩⟩
    have f56 : Fr [] H5 H6 := fa.trans f6 fun z hz => .inr (by rw [List.mem_singleton.mp hz]; exact hy)
    have gnew : ∀ z ∈ g.fp, H5 z = none := fun z hz => (n6 z hz).elim (fun h => by rw [h]; exact hy) fun h => fa.free h fun a h => by cases h
    have e6 := f56.all _ _ e5 (by simp)
    refine ⟨_, rfl, x, CS, dx, _, rfl, e6, S.cs, S.s_log, sp_len, ?_⟩
    rw [sp5]
    obtain ⟨f7, e7⟩ := fset (gs := (spre c n y 0).take 6) e6
    generalize upd H6 x (.ins CS dx ((spre c n y 0).take 6)) = H7 at f7 e7 ⊢
    have gx : ∀ z ∈ g.fp, z ≠ x := fun z hz => ne_of_none' (gnew z hz) e5
    have gX : ∀ z ∈ g.fp, z ∉ [x] := fun z hz h => gx z hz (List.mem_singleton.mp h)
    have L7 := L6.fr f7 gX
    -- the values
    intro va hva
    have f8 : Fr [] H7 (upd H7 va (.dK [])) := Fr.new hva
    have ev : (upd H7 va (.dK [])) va = some (.dK []) := upd_same
    generalize upd H7 va (.dK []) = H8 at f8 ev ⊢
    have e8 := f8.all _ _ e7 (by simp)
    have L8 := L7.fr0 f8
    have vx : va ≠ x := ne_of_none' hva e7
    have vX : va ∉ [x] := fun h => vx (List.mem_singleton.mp h)
    have vg : va ∉ g.fp := not_mem_free hva L7.there
    refine ⟨_, rfl, x, CS, dx, _, rfl, e8, S.cs, S.s_values, sp_len, ?_⟩
    rw [sp6]
    obtain ⟨f9, e9⟩ := fset (gs := (spre c n y va).take 7) e8
    generalize upd H8 x (.ins CS dx ((spre c n y va).take 7)) = H9 at f9 e9 ⊢
    refine ⟨_, rfl, x, CS, dx, _, rfl, e9, S.cs, S.s_done, sp_len, ?_⟩
    rw [sp7]
    obtain ⟨fA, eA⟩ := fset (gs := (spre c n y va).take 8) e9
    generalize upd H9 x (.ins CS dx ((spre c n y va).take 8)) = HA at fA eA ⊢
    refine ⟨_, rfl, x, CS, dx, _, rfl, eA, S.cs, S.s_carried, sp_len, ?_⟩
    rw [sp8]
    obtain ⟨fB, eB⟩ := fset (gs := (spre c n y va).take 9) eA
    generalize upd HA x (.ins CS dx ((spre c n y va).take 9)) = HB at fB eB ⊢
    refine ⟨_, rfl, x, CS, dx, _, rfl, eB, S.cs, S.s_wait, sp_len, ?_⟩
    rw [sp9]
    obtain ⟨fC, eC⟩ := fset (gs := spre c n y va) eB
    generalize upd HB x (.ins CS dx (spre c n y va)) = HC at fC eC ⊢
    have f9C := ((f9.then fA).then fB).then fC
    have LC := L8.fr f9C gX
    have evC := f9C.all _ _ ev vX
    have xt : ∀ z ∈ [x], (H5 z).isSome = true := fun z hz => by rw [List.mem_singleton.mp hz, e5]; rfl
    have fr5 : ∀ z, H5 z = none → H z = none := fun z h => f15.free h xt
    have h6v : H6 va = none := f7.free hva fun z hz => by rw [List.mem_singleton.mp hz, e7]; rfl
    refine q HC ⟨x, va, g⟩ rfl ?_ (fun z hz => ?_) ⟨SAd.of_parts (Ne.symm vx) (fun h => gx _ h rfl) vg LC.nd, ⟨dx, 0, 0, ?_⟩, LC, evC⟩
    · exact (f15.then (f56.in.then f7)).then (f8.in.then f9C)
    · rcases List.mem_cons.mp hz with h | hz
      · exact .inl h
      rcases List.mem_cons.mp hz with h | hz
      · exact .inr (fr5 _ (by rw [h]; exact f56.free h6v fun a h => by cases h))
      · exact .inr (fr5 _ (gnew z hz))
    · rw [eC]
      show some (HO.ins CS dx (spre c n y va)) = some (HO.ins CS dx (sfl c n ⟨x, va, g⟩ 0 0 0))
      rw [show y = g.l from eg.symm]
      rfl
end
end Cg

set_option Elab.async false
set_option linter.all false
set_option maxRecDepth 100000
set_option maxHeartbeats 1000000
namespace Cg
open PySem PySem.Spec PyProof.Rows L2
theorem len_0 : ∀ {ps : List Int}, ps.length = 0 → ps = []
  | [], _ => rfl
theorem len_1 : ∀ {ps : List Int}, ps.length = 1 → ∃ p0 : Int, ps = [p0]
  | [p0], _ => ⟨p0, rfl⟩
theorem len_2 : ∀ {ps : List Int}, ps.length = 2 → ∃ p0 p1 : Int, ps = [p0, p1]
  | [p0, p1], _ => ⟨p0, p1, rfl⟩
theorem len_3 : ∀ {ps : List Int}, ps.length = 3 → ∃ p0 p1 p2 : Int, ps = [p0, p1, p2]
  | [p0, p1, p2], _ => ⟨p0, p1, p2, rfl⟩
theorem len_4 : ∀ {ps : List Int}, ps.length = 4 → ∃ p0 p1 p2 p3 : Int, ps = [p0, p1, p2, p3]
  | [p0, p1, p2, p3], _ => ⟨p0, p1, p2, p3, rfl⟩
theorem len_5 : ∀ {ps : List Int}, ps.length = 5 → ∃ p0 p1 p2 p3 p4 : Int, ps = [p0, p1, p2, p3, p4]
  | [p0, p1, p2, p3, p4], _ => ⟨p0, p1, p2, p3, p4, rfl⟩
theorem len_6 : ∀ {ps : List Int}, ps.length = 6 → ∃ p0 p1 p2 p3 p4 p5 : Int, ps = [p0, p1, p2, p3, p4, p5]
  | [p0, p1, p2, p3, p4, p5], _ => ⟨p0, p1, p2, p3, p4, p5, rfl⟩
theorem len_7 : ∀ {ps : List Int}, ps.length = 7 → ∃ p0 p1 p2 p3 p4 p5 p6 : Int, ps = [p0, p1, p2, p3, p4, p5, p6]
  | [p0, p1, p2, p3, p4, p5, p6], _ => ⟨p0, p1, p2, p3, p4, p5, p6, rfl⟩
theorem len_8 : ∀ {ps : List Int}, ps.length = 8 → ∃ p0 p1 p2 p3 p4 p5 p6 p7 : Int, ps = [p0, p1, p2, p3, p4, p5, p6, p7]
  | [p0, p1, p2, p3, p4, p5, p6, p7], _ => ⟨p0, p1, p2, p3, p4, p5, p6, p7, rfl⟩
theorem len_9 : ∀ {ps : List Int}, ps.length = 9 → ∃ p0 p1 p2 p3 p4 p5 p6 p7 p8 : Int, ps = [p0, p1, p2, p3, p4, p5, p6, p7, p8]
  | [p0, p1, p2, p3, p4, p5, p6, p7, p8], _ => ⟨p0, p1, p2, p3, p4, p5, p6, p7, p8, rfl⟩
theorem len_10 : ∀ {ps : List Int}, ps.length = 10 → ∃ p0 p1 p2 p3 p4 p5 p6 p7 p8 p9 : Int, ps = [p0, p1, p2, p3, p4, p5, p6, p7, p8, p9]
  | [p0, p1, p2, p3, p4, p5, p6, p7, p8, p9], _ => ⟨p0, p1, p2, p3, p4, p5, p6, p7, p8, p9, rfl⟩
theorem len_11 : ∀ {ps : List Int}, ps.length = 11 → ∃ p0 p1 p2 p3 p4 p5 p6 p7 p8 p9 p10 : Int, ps = [p0, p1, p2, p3, p4, p5, p6, p7, p8, p9, p10]
  | [p0, p1, p2, p3, p4, p5, p6, p7, p8, p9, p10], _ => ⟨p0, p1, p2, p3, p4, p5, p6, p7, p8, p9, p10, rfl⟩
theorem len_12 : ∀ {ps : List Int}, ps.length = 12 → ∃ p0 p1 p2 p3 p4 p5 p6 p7 p8 p9 p10 p11 : Int, ps = [p0, p1, p2, p3, p4, p5, p6, p7, p8, p9, p10, p11]
  | [p0, p1, p2, p3, p4, p5, p6, p7, p8, p9, p10, p11], _ => ⟨p0, p1, p2, p3, p4, p5, p6, p7, p8, p9, p10, p11, rfl⟩
section
variable {P : Program} {w : World} {K : PySem.W.Frag} {mg : Str → Option Value} {base : Heap} {f : Addr} {fd : FuncData} {CL CS : Addr} {xc : XC}
/-! ### _law_call -/
abbrev spPut (xc : XC) (CL CS : Addr) : Sp := fun vs H Q E => ∃ ws rest, vs = ws ++ rest ∧ ws.length = (["self", "key", "value"] : List Str).length ∧ rest.length ≤ sizeLine ∧ ∀ p, H p = Option.none → sp_s_put xc CL CS (ws ++ [V.ref p]) (upd H p (.tup rest)) Q E
def sp_call (x : XC) (CL CS : Addr) : Sp := fun vs H Q E => ∃ (a : SAd) (c : Cfg) (n : Nat) (s : Sg Str) (d b : Nat) (kvs : List (Key × V)) (k : Str) (v : Int) (pa : Addr) (ps : List Int), vs = [.ref a.x, .str k, .int v, .ref pa] ∧ SegAt CL CS H a c n s d kvs ∧ OkL c.w s ∧ KvOk (liv s.1) kvs ∧ Good k ∧
  H pa = some (.lst (ps.map V.int)) ∧ ps.length ≤ 12 ∧ d ≤ 300 ∧ c.bound = (b : Nat) ∧ b ≤ 300 ∧
  (∀ r, putM c.w c.bound c.load d c.late s k ps = .inl r → Out x H E r) ∧
  (∀ s', putM c.w c.bound c.load d c.late s k ps = .inr s' → ∀ H' a', SegTo CL CS H a c n s' (d + 1) (putK kvs (.inr k) (.int v)) H' a' → Q .non H')
abbrev s_call : Stmt := topS 40
theorem sc_call : FnScope ["_law_store", "_law_name", "_law_worth_here", "_law_c"] ["_law_store", "_law_name", "_law_worth_here", "_law_c"] (C8.fnScope s_call) := C8.fnScope_by (by decide +kernel)
theorem k_call (T : Bi mg) (F : C8.Def K mg "_law_call" s_call f fd) (b : Binds K fd ["_law_store", "_law_name", "_law_worth_here", "_law_c"] []) (c_s_put : MetR P w K mg base 5 CS "put" (spPut xc CL CS)) : CalE P w K mg base 6 "_law_call" (sp_call xc CL CS) := by
  refine ⟨f, fd, ["_law_store", "_law_name", "_law_worth_here", "_law_c"], fnE F.fn sc_call (fun vs H Q E h => ?_) (fun cdv A outer s0 H vs Q E hr h tk => ?_), F.mgf, F.kp, b⟩
  · obtain ⟨a, c, n, s, d, bb, kvs, k, v, pa, ps, rfl, _⟩ := h
    rfl
  · obtain ⟨a, c, n, s, d, bb, kvs, k, v, pa, ps, rfl, M, ok, kv, gk, hpa, lps, hd, hbb, hb3, q0, q1⟩ := h
    have hu := hu_of hr
    refine ⟨_, pss_cons (ps_if (pt_cmpR op_eq (pe_callB call_len_seq (by rfl) T.len PySem.boot_len (pa_cons (pv 3) pa_nil)) (pe_int) (nomark _)) (pss_one (ps_ret (pe_mR c_s_put hr (by decide) tk (pv 0) (pa_cons (pv 1) (pa_cons (pv 2) pa_nil))))) (pss_nil))
      (pss_cons (ps_if (pt_cmpR op_eq (pe_callB call_len_seq (by rfl) T.len PySem.boot_len (pa_cons (pv 3) pa_nil)) (pe_int) (nomark _)) (pss_one (ps_ret (pe_mR c_s_put hr (by decide) tk (pv 0) (pa_cons (pv 1) (pa_cons (pv 2) (pa_cons (pe_ix ix_list (pv 3) (pe_int) (fun _ _ => rfl)) pa_nil)))))) (pss_nil))
      (pss_cons (ps_if (pt_cmpR op_eq (pe_callB call_len_seq (by rfl) T.len PySem.boot_len (pa_cons (pv 3) pa_nil)) (pe_int) (nomark _)) (pss_one (ps_ret (pe_mR c_s_put hr (by decide) tk (pv 0) (pa_cons (pv 1) (pa_cons (pv 2) (pa_cons (pe_ix ix_list (pv 3) (pe_int) (fun _ _ => rfl)) (pa_cons (pe_ix ix_list (pv 3) (pe_int) (fun _ _ => rfl)) pa_nil))))))) (pss_nil))
      (pss_cons (ps_if (pt_cmpR op_eq (pe_callB call_len_seq (by rfl) T.len PySem.boot_len (pa_cons (pv 3) pa_nil)) (pe_int) (nomark _)) (pss_one (ps_ret (pe_mR c_s_put hr (by decide) tk (pv 0) (pa_cons (pv 1) (pa_cons (pv 2) (pa_cons (pe_ix ix_list (pv 3) (pe_int) (fun _ _ => rfl)) (pa_cons (pe_ix ix_list (pv 3) (pe_int) (fun _ _ => rfl)) (pa_cons (pe_ix ix_list (pv 3) (pe_int) (fun _ _ => rfl)) pa_nil)))))))) (pss_nil))
      (pss_cons (ps_if (pt_cmpR op_eq (pe_callB call_len_seq (by rfl) T.len PySem.boot_len (pa_cons (pv 3) pa_nil)) (pe_int) (nomark _)) (pss_one (ps_ret (pe_mR c_s_put hr (by decide) tk (pv 0) (pa_cons (pv 1) (pa_cons (pv 2) (pa_cons (pe_ix ix_list (pv 3) (pe_int) (fun _ _ => rfl)) (pa_cons (pe_ix ix_list (pv 3) (pe_int) (fun _ _ => rfl)) (pa_cons (pe_ix ix_list (pv 3) (pe_int) (fun _ _ => rfl)) (pa_cons (pe_ix ix_list (pv 3) (pe_int) (fun _ _ => rfl)) pa_nil))))))))) (pss_nil))
      (pss_cons (ps_if (pt_cmpR op_eq (pe_callB call_len_seq (by rfl) T.len PySem.boot_len (pa_cons (pv 3) pa_nil)) (pe_int) (nomark _)) (pss_one (ps_ret (pe_mR c_s_put hr (by decide) tk (pv 0) (pa_cons (pv 1) (pa_cons (pv 2) (pa_cons (pe_ix ix_list (pv 3) (pe_int) (fun _ _ => rfl)) (pa_cons (pe_ix ix_list (pv 3) (pe_int) (fun _ _ => rfl)) (pa_cons (pe_ix ix_list (pv 3) (pe_int) (fun _ _ => rfl)) (pa_cons (pe_ix ix_list (pv 3) (pe_int) (fun _ _ => rfl)) (pa_cons (pe_ix ix_list (pv 3) (pe_int) (fun _ _ => rfl)) pa_nil)))))))))) (pss_nil))
      (pss_cons (ps_if (pt_cmpR op_eq (pe_callB call_len_seq (by rfl) T.len PySem.boot_len (pa_cons (pv 3) pa_nil)) (pe_int) (nomark _)) (pss_one (ps_ret (pe_mR c_s_put hr (by decide) tk (pv 0) (pa_cons (pv 1) (pa_cons (pv 2) (pa_cons (pe_ix ix_list (pv 3) (pe_int) (fun _ _ => rfl)) (pa_cons (pe_ix ix_list (pv 3) (pe_int) (fun _ _ => rfl)) (pa_cons (pe_ix ix_list (pv 3) (pe_int) (fun _ _ => rfl)) (pa_cons (pe_ix ix_list (pv 3) (pe_int) (fun _ _ => rfl)) (pa_cons (pe_ix ix_list (pv 3) (pe_int) (fun _ _ => rfl)) (pa_cons (pe_ix ix_list (pv 3) (pe_int) (fun _ _ => rfl)) pa_nil))))))))))) (pss_nil))
      (pss_cons (ps_if (pt_cmpR op_eq (pe_callB call_len_seq (by rfl) T.len PySem.boot_len (pa_cons (pv 3) pa_nil)) (pe_int) (nomark _)) (pss_one (ps_ret (pe_mR c_s_put hr (by decide) tk (pv 0) (pa_cons (pv 1) (pa_cons (pv 2) (pa_cons (pe_ix ix_list (pv 3) (pe_int) (fun _ _ => rfl)) (pa_cons (pe_ix ix_list (pv 3) (pe_int) (fun _ _ => rfl)) (pa_cons (pe_ix ix_list (pv 3) (pe_int) (fun _ _ => rfl)) (pa_cons (pe_ix ix_list (pv 3) (pe_int) (fun _ _ => rfl)) (pa_cons (pe_ix ix_list (pv 3) (pe_int) (fun _ _ => rfl)) (pa_cons (pe_ix ix_list (pv 3) (pe_int) (fun _ _ => rfl)) (pa_cons (pe_ix ix_list (pv 3) (pe_int) (fun _ _ => rfl)) pa_nil)))))))))))) (pss_nil))
      (pss_cons (ps_if (pt_cmpR op_eq (pe_callB call_len_seq (by rfl) T.len PySem.boot_len (pa_cons (pv 3) pa_nil)) (pe_int) (nomark _)) (pss_one (ps_ret (pe_mR c_s_put hr (by decide) tk (pv 0) (pa_cons (pv 1) (pa_cons (pv 2) (pa_cons (pe_ix ix_list (pv 3) (pe_int) (fun _ _ => rfl)) (pa_cons (pe_ix ix_list (pv 3) (pe_int) (fun _ _ => rfl)) (pa_cons (pe_ix ix_list (pv 3) (pe_int) (fun _ _ => rfl)) (pa_cons (pe_ix ix_list (pv 3) (pe_int) (fun _ _ => rfl)) (pa_cons (pe_ix ix_list (pv 3) (pe_int) (fun _ _ => rfl)) (pa_cons (pe_ix ix_list (pv 3) (pe_int) (fun _ _ => rfl)) (pa_cons (pe_ix ix_list (pv 3) (pe_int) (fun _ _ => rfl)) (pa_cons (pe_ix ix_list (pv 3) (pe_int) (fun _ _ => rfl)) pa_nil))))))))))))) (pss_nil))
      (pss_cons (ps_if (pt_cmpR op_eq (pe_callB call_len_seq (by rfl) T.len PySem.boot_len (pa_cons (pv 3) pa_nil)) (pe_int) (nomark _)) (pss_one (ps_ret (pe_mR c_s_put hr (by decide) tk (pv 0) (pa_cons (pv 1) (pa_cons (pv 2) (pa_cons (pe_ix ix_list (pv 3) (pe_int) (fun _ _ => rfl)) (pa_cons (pe_ix ix_list (pv 3) (pe_int) (fun _ _ => rfl)) (pa_cons (pe_ix ix_list (pv 3) (pe_int) (fun _ _ => rfl)) (pa_cons (pe_ix ix_list (pv 3) (pe_int) (fun _ _ => rfl)) (pa_cons (pe_ix ix_list (pv 3) (pe_int) (fun _ _ => rfl)) (pa_cons (pe_ix ix_list (pv 3) (pe_int) (fun _ _ => rfl)) (pa_cons (pe_ix ix_list (pv 3) (pe_int) (fun _ _ => rfl)) (pa_cons (pe_ix ix_list (pv 3) (pe_int) (fun _ _ => rfl)) (pa_cons (pe_ix ix_list (pv 3) (pe_int) (fun _ _ => rfl)) pa_nil)))))))))))))) (pss_nil))
      (pss_cons (ps_if (pt_cmpR op_eq (pe_callB call_len_seq (by rfl) T.len PySem.boot_len (pa_cons (pv 3) pa_nil)) (pe_int) (nomark _)) (pss_one (ps_ret (pe_mR c_s_put hr (by decide) tk (pv 0) (pa_cons (pv 1) (pa_cons (pv 2) (pa_cons (pe_ix ix_list (pv 3) (pe_int) (fun _ _ => rfl)) (pa_cons (pe_ix ix_list (pv 3) (pe_int) (fun _ _ => rfl)) (pa_cons (pe_ix ix_list (pv 3) (pe_int) (fun _ _ => rfl)) (pa_cons (pe_ix ix_list (pv 3) (pe_int) (fun _ _ => rfl)) (pa_cons (pe_ix ix_list (pv 3) (pe_int) (fun _ _ => rfl)) (pa_cons (pe_ix ix_list (pv 3) (pe_int) (fun _ _ => rfl)) (pa_cons (pe_ix ix_list (pv 3) (pe_int) (fun _ _ => rfl)) (pa_cons (pe_ix ix_list (pv 3) (pe_int) (fun _ _ => rfl)) (pa_cons (pe_ix ix_list (pv 3) (pe_int) (fun _ _ => rfl)) (pa_cons (pe_ix ix_list (pv 3) (pe_int) (fun _ _ => rfl)) pa_nil))))))))))))))) (pss_nil))
      (pss_cons (ps_if (pt_cmpR op_eq (pe_callB call_len_seq (by rfl) T.len PySem.boot_len (pa_cons (pv 3) pa_nil)) (pe_int) (nomark _)) (pss_one (ps_ret (pe_mR c_s_put hr (by decide) tk (pv 0) (pa_cons (pv 1) (pa_cons (pv 2) (pa_cons (pe_ix ix_list (pv 3) (pe_int) (fun _ _ => rfl)) (pa_cons (pe_ix ix_list (pv 3) (pe_int) (fun _ _ => rfl)) (pa_cons (pe_ix ix_list (pv 3) (pe_int) (fun _ _ => rfl)) (pa_cons (pe_ix ix_list (pv 3) (pe_int) (fun _ _ => rfl)) (pa_cons (pe_ix ix_list (pv 3) (pe_int) (fun _ _ => rfl)) (pa_cons (pe_ix ix_list (pv 3) (pe_int) (fun _ _ => rfl)) (pa_cons (pe_ix ix_list (pv 3) (pe_int) (fun _ _ => rfl)) (pa_cons (pe_ix ix_list (pv 3) (pe_int) (fun _ _ => rfl)) (pa_cons (pe_ix ix_list (pv 3) (pe_int) (fun _ _ => rfl)) (pa_cons (pe_ix ix_list (pv 3) (pe_int) (fun _ _ => rfl)) (pa_cons (pe_ix ix_list (pv 3) (pe_int) (fun _ _ => rfl)) pa_nil)))))))))))))))) (pss_nil))
      (pss_one (ps_ret (pe_mR c_s_put hr (by decide) tk (pv 0) (pa_cons (pv 1) (pa_cons (pv 2) (pa_cons (pe_ix ix_list (pv 3) (pe_int) (fun _ _ => rfl)) (pa_cons (pe_ix ix_list (pv 3) (pe_int) (fun _ _ => rfl)) (pa_cons (pe_ix ix_list (pv 3) (pe_int) (fun _ _ => rfl)) (pa_cons (pe_ix ix_list (pv 3) (pe_int) (fun _ _ => rfl)) (pa_cons (pe_ix ix_list (pv 3) (pe_int) (fun _ _ => rfl)) (pa_cons (pe_ix ix_list (pv 3) (pe_int) (fun _ _ => rfl)) (pa_cons (pe_ix ix_list (pv 3) (pe_int) (fun _ _ => rfl)) (pa_cons (pe_ix ix_list (pv 3) (pe_int) (fun _ _ => rfl)) (pa_cons (pe_ix ix_list (pv 3) (pe_int) (fun _ _ => rfl)) (pa_cons (pe_ix ix_list (pv 3) (pe_int) (fun _ _ => rfl)) (pa_cons (pe_ix ix_list (pv 3) (pe_int) (fun _ _ => rfl)) (pa_cons (pe_ix ix_list (pv 3) (pe_int) (fun _ _ => rfl)) pa_nil)))))))))))))))))))))))))))), ?_⟩
    obtain ⟨dx, cr, wt, e⟩ := M.ob
    have fin : ∀ (rest : List V), rest = ps.map V.int → ∀ p, H p = Option.none → sp_s_put xc CL CS ([V.ref a.x, V.str k, V.int v] ++ [V.ref p]) (upd H p (.tup rest)) Q E := fun rest er p hp => by
      subst er
      have f1 : Fr [] H (upd H p (.tup (ps.map V.int))) := Fr.new hp
      exact ⟨a, c, n, s, d, bb, kvs, k, v, p, ps, rfl, M.fr0 f1, ok, kv, gk, upd_same, by omega, hd, hbb, hb3, fun r er => Out.at (q0 r er) f1, fun s' es H' a' t => q1 s' es H' a' ((SegTo.of f1.in (M.fr0 f1)).trans t M.there)⟩
    have hz : ∀ rest : List V, rest.length ≤ 12 → rest.length ≤ sizeLine := fun rest h => Nat.le_of_lt (small1000 (by omega))
    refine ⟨_, rfl, pa, _, rfl, .inl (SqL.of hpa), rfl, _, rfl, ite2 (fun hb => ?_) (fun hb0 => ?_)⟩
    · have hl : ps.length = 0 := by
        rw [List.length_map] at hb
        have q := V.int.inj (of_decide_eq_true hb)
        omega
      have hl := len_0 hl
      subst hl
      refine ⟨_, rfl, a.x, dx, _, rfl, e, rfl, _, rfl, _, rfl, [V.ref a.x, V.str k, V.int v], [], rfl, rfl, hz _ (by show 0 ≤ 12; omega), fin _ rfl⟩
    refine ⟨_, rfl, pa, _, rfl, .inl (SqL.of hpa), rfl, _, rfl, ite2 (fun hb => ?_) (fun hb1 => ?_)⟩
    · have hl : ps.length = 1 := by
        rw [List.length_map] at hb
        have q := V.int.inj (of_decide_eq_true hb)
        omega
      obtain ⟨p0, rfl⟩ := len_1 hl
      refine ⟨_, rfl, a.x, dx, _, rfl, e, rfl, _, rfl, _, rfl, _, rfl, pa, _, 0, .int p0, rfl, rfl, SqL.of hpa, atI_nat (j := 0) rfl, [V.ref a.x, V.str k, V.int v], [V.int p0], rfl, rfl, hz _ (by show 1 ≤ 12; omega), fin _ rfl⟩
    refine ⟨_, rfl, pa, _, rfl, .inl (SqL.of hpa), rfl, _, rfl, ite2 (fun hb => ?_) (fun hb2 => ?_)⟩
    · have hl : ps.length = 2 := by
        rw [List.length_map] at hb
        have q := V.int.inj (of_decide_eq_true hb)
        omega
      obtain ⟨p0, p1, rfl⟩ := len_2 hl
      refine ⟨_, rfl, a.x, dx, _, rfl, e, rfl, _, rfl, _, rfl, _, rfl, pa, _, 0, .int p0, rfl, rfl, SqL.of hpa, atI_nat (j := 0) rfl, _, rfl, pa, _, 1, .int p1, rfl, rfl, SqL.of hpa, atI_nat (j := 1) rfl, [V.ref a.x, V.str k, V.int v], [V.int p0, V.int p1], rfl, rfl, hz _ (by show 2 ≤ 12; omega), fin _ rfl⟩
    refine ⟨_, rfl, pa, _, rfl, .inl (SqL.of hpa), rfl, _, rfl, ite2 (fun hb => ?_) (fun hb3 => ?_)⟩
    · have hl : ps.length = 3 := by
        rw [List.length_map] at hb
        have q := V.int.inj (of_decide_eq_true hb)
        omega
      obtain ⟨p0, p1, p2, rfl⟩ := len_3 hl
      refine ⟨_, rfl, a.x, dx, _, rfl, e, rfl, _, rfl, _, rfl, _, rfl, pa, _, 0, .int p0, rfl, rfl, SqL.of hpa, atI_nat (j := 0) rfl, _, rfl, pa, _, 1, .int p1, rfl, rfl, SqL.of hpa, atI_nat (j := 1) rfl, _, rfl, pa, _, 2, .int p2, rfl, rfl, SqL.of hpa, atI_nat (j := 2) rfl, [V.ref a.x, V.str k, V.int v], [V.int p0, V.int p1, V.int p2], rfl, rfl, hz _ (by show 3 ≤ 12; omega), fin _ rfl⟩
    refine ⟨_, rfl, pa, _, rfl, .inl (SqL.of hpa), rfl, _, rfl, ite2 (fun hb => ?_) (fun hb4 => ?_)⟩
    · have hl : ps.length = 4 := by
        rw [List.length_map] at hb
        have q := V.int.inj (of_decide_eq_true hb)
        omega
      obtain ⟨p0, p1, p2, p3, rfl⟩ := len_4 hl
      refine ⟨_, rfl, a.x, dx, _, rfl, e, rfl, _, rfl, _, rfl, _, rfl, pa, _, 0, .int p0, rfl, rfl, SqL.of hpa, atI_nat (j := 0) rfl, _, rfl, pa, _, 1, .int p1, rfl, rfl, SqL.of hpa, atI_nat (j := 1) rfl, _, rfl, pa, _, 2, .int p2, rfl, rfl, SqL.of hpa, atI_nat (j := 2) rfl, _, rfl, pa, _, 3, .int p3, rfl, rfl, SqL.of hpa, atI_nat (j := 3) rfl, [V.ref a.x, V.str k, V.int v], [V.int p0, V.int p1, V.int p2, V.int p3], rfl, rfl, hz _ (by show 4 ≤ 12; omega), fin _ rfl⟩
    refine ⟨_, rfl, pa, _, rfl, .inl (SqL.of hpa), rfl, _, rfl, ite2 (fun hb => ?_) (fun hb5 => ?_)⟩
    · have hl : ps.length = 5 := by
        rw [List.length_map] at hb
        have q := V.int.inj (of_decide_eq_true hb)
        omega
      obtain ⟨p0, p1, p2, p3, p4, rfl⟩ := len_5 hl
      refine ⟨_, rfl, a.x, dx, _, rfl, e, rfl, _, rfl, _, rfl, _, rfl, pa, _, 0, .int p0, rfl, rfl, SqL.of hpa, atI_nat (j := 0) rfl, _, rfl, pa, _, 1, .int p1, rfl, rfl, SqL.of hpa, atI_nat (j := 1) rfl, _, rfl, pa, _, 2, .int p2, rfl, rfl, SqL.of hpa, atI_nat (j := 2) rfl, _, rfl, pa, _, 3, .int p3, rfl, rfl, SqL.of hpa, atI_nat (j := 3) rfl, _, rfl, pa, _, 4, .int p4, rfl, rfl, SqL.of hpa, atI_nat (j := 4) rfl, [V.ref a.x, V.str k, V.int v], [V.int p0, V.int p1, V.int p2, V.int p3, V.int p4], rfl, rfl, hz _ (by show 5 ≤ 12; omega), fin _ rfl⟩
    refine ⟨_, rfl, pa, _, rfl, .inl (SqL.of hpa), rfl, _, rfl, ite2 (fun hb => ?_) (fun hb6 => ?_)⟩
    · have hl : ps.length = 6 := by
        rw [List.length_map] at hb
        have q := V.int.inj (of_decide_eq_true hb)
        omega
      obtain ⟨p0, p1, p2, p3, p4, p5, rfl⟩ := len_6 hl
      refine ⟨_, rfl, a.x, dx, _, rfl, e, rfl, _, rfl, _, rfl, _, rfl, pa, _, 0, .int p0, rfl, rfl, SqL.of hpa, atI_nat (j := 0) rfl, _, rfl, pa, _, 1, .int p1, rfl, rfl, SqL.of hpa, atI_nat (j := 1) rfl, _, rfl, pa, _, 2, .int p2, rfl, rfl, SqL.of hpa, atI_nat (j := 2) rfl, _, rfl, pa, _, 3, .int p3, rfl, rfl, SqL.of hpa, atI_nat (j := 3) rfl, _, rfl, pa, _, 4, .int p4, rfl, rfl, SqL.of hpa, atI_nat (j := 4) rfl, _, rfl, pa, _, 5, .int p5, rfl, rfl, SqL.of hpa, atI_nat (j := 5) rfl, [V.ref a.x, V.str k, V.int v], [V.int p0, V.int p1, V.int p2, V.int p3, V.int p4, V.int p5], rfl, rfl, hz _ (by show 6 ≤ 12; omega), fin _ rfl⟩
    refine ⟨_, rfl, pa, _, rfl, .inl (SqL.of hpa), rfl, _, rfl, ite2 (fun hb => ?_) (fun hb7 => ?_)⟩
    · have hl : ps.length = 7 := by
        rw [List.length_map] at hb
        have q := V.int.inj (of_decide_eq_true hb)
        omega
      obtain ⟨p0, p1, p2, p3, p4, p5, p6, rfl⟩ := len_7 hl
      refine ⟨_, rfl, a.x, dx, _, rfl, e, rfl, _, rfl, _, rfl, _, rfl, pa, _, 0, .int p0, rfl, rfl, SqL.of hpa, atI_nat (j := 0) rfl, _, rfl, pa, _, 1, .int p1, rfl, rfl, SqL.of hpa, atI_nat (j := 1) rfl, _, rfl, pa, _, 2, .int p2, rfl, rfl, SqL.of hpa, atI_nat (j := 2) rfl, _, rfl, pa, _, 3, .int p3, rfl, rfl, SqL.of hpa, atI_nat (j := 3) rfl, _, rfl, pa, _, 4, .int p4, rfl, rfl, SqL.of hpa, atI_nat (j := 4) rfl, _, rfl, pa, _, 5, .int p5, rfl, rfl, SqL.of hpa, atI_nat (j := 5) rfl, _, rfl, pa, _, 6, .int p6, rfl, rfl, SqL.of hpa, atI_nat (j := 6) rfl, [V.ref a.x, V.str k, V.int v], [V.int p0, V.int p1, V.int p2, V.int p3, V.int p4, V.int p5, V.int p6], rfl, rfl, hz _ (by show 7 ≤ 12; omega), fin _ rfl⟩
    refine ⟨_, rfl, pa, _, rfl, .inl (SqL.of hpa), rfl, _, rfl, ite2 (fun hb => ?_) (fun hb8 => ?_)⟩
    · have hl : ps.length = 8 := by
        rw [List.length_map] at hb
        have q := V.int.inj (of_decide_eq_true hb)
        omega
      obtain ⟨p0, p1, p2, p3, p4, p5, p6, p7, rfl⟩ := len_8 hl
      refine ⟨_, rfl, a.x, dx, _, rfl, e, rfl, _, rfl, _, rfl, _, rfl, pa, _, 0, .int p0, rfl, rfl, SqL.of hpa, atI_nat (j := 0) rfl, _, rfl, pa, _, 1, .int p1, rfl, rfl, SqL.of hpa, atI_nat (j := 1) rfl, _, rfl, pa, _, 2, .int p2, rfl, rfl, SqL.of hpa, atI_nat (j := 2) rfl, _, rfl, pa, _, 3, .int p3, rfl, rfl, SqL.of hpa, atI_nat (j := 3) rfl, _, rfl, pa, _, 4, .int p4, rfl, rfl, SqL.of hpa, atI_nat (j := 4) rfl, _, rfl, pa, _, 5, .int p5, rfl, rfl, SqL.of hpa, atI_nat (j := 5) rfl, _, rfl, pa, _, 6, .int p6, rfl, rfl, SqL.of hpa, atI_nat (j := 6) rfl, _, rfl, pa, _, 7, .int p7, rfl, rfl, SqL.of hpa, atI_nat (j := 7) rfl, [V.ref a.x, V.str k, V.int v], [V.int p0, V.int p1, V.int p2, V.int p3, V.int p4, V.int p5, V.int p6, V.int p7], rfl, rfl, hz _ (by show 8 ≤ 12; omega), fin _ rfl⟩
    refine ⟨_, rfl, pa, _, rfl, .inl (SqL.of hpa), rfl, _, rfl, ite2 (fun hb => ?_) (fun hb9 => ?_)⟩
    · have hl : ps.length = 9 := by
        rw [List.length_map] at hb
        have q := V.int.inj (of_decide_eq_true hb)
        omega
      obtain ⟨p0, p1, p2, p3, p4, p5, p6, p7, p8, rfl⟩ := len_9 hl
      refine ⟨_, rfl, a.x, dx, _, rfl, e, rfl, _, rfl, _, rfl, _, rfl, pa, _, 0, .int p0, rfl, rfl, SqL.of hpa, atI_nat (j := 0) rfl, _, rfl, pa, _, 1, .int p1, rfl, rfl, SqL.of hpa, atI_nat (j := 1) rfl, _, rfl, pa, _, 2, .int p2, rfl, rfl, SqL.of hpa, atI_nat (j := 2) rfl, _, rfl, pa, _, 3, .int p3, rfl, rfl, SqL.of hpa, atI_nat (j := 3) rfl, _, rfl, pa, _, 4, .int p4, rfl, rfl, SqL.of hpa, atI_nat (j := 4) rfl, _, rfl, pa, _, 5, .int p5, rfl, rfl, SqL.of hpa, atI_nat (j := 5) rfl, _, rfl, pa, _, 6, .int p6, rfl, rfl, SqL.of hpa, atI_nat (j := 6) rfl, _, rfl, pa, _, 7, .int p7, rfl, rfl, SqL.of hpa, atI_nat (j := 7) rfl, _, rfl, pa, _, 8, .int p8, rfl, rfl, SqL.of hpa, atI_nat (j := 8) rfl, [V.ref a.x, V.str k, V.int v], [V.int p0, V.int p1, V.int p2, V.int p3, V.int p4, V.int p5, V.int p6, V.int p7, V.int p8], rfl, rfl, hz _ (by show 9 ≤ 12; omega), fin _ rfl⟩
    refine ⟨_, rfl, pa, _, rfl, .inl (SqL.of hpa), rfl, _, rfl, ite2 (fun hb => ?_) (fun hb10 => ?_)⟩
    · have hl : ps.length = 10 := by
        rw [List.length_map] at hb
        have q := V.int.inj (of_decide_eq_true hb)
        omega
      obtain ⟨p0, p1, p2, p3, p4, p5, p6, p7, p8, p9, rfl⟩ := len_10 hl
      refine ⟨_, rfl, a.x, dx, _, rfl, e, rfl, _, rfl, _, rfl, _, rfl, pa, _, 0, .int p0, rfl, rfl, SqL.of hpa, atI_nat (j := 0) rfl, _, rfl, pa, _, 1, .int p1, rfl, rfl, SqL.of hpa, atI_nat (j := 1) rfl, _, rfl, pa, _, 2, .int p2, rfl, rfl, SqL.of hpa, atI_nat (j := 2) rfl, _, rfl, pa, _, 3, .int p3, rfl, rfl, SqL.of hpa, atI_nat (j := 3) rfl, _, rfl, pa, _, 4, .int p4, rfl, rfl, SqL.of hpa, atI_nat (j := 4) rfl, _, rfl, pa, _, 5, .int p5, rfl, rfl, SqL.of hpa, atI_nat (j := 5) rfl, _, rfl, pa, _, 6, .int p6, rfl, rfl, SqL.of hpa, atI_nat (j := 6) rfl, _, rfl, pa, _, 7, .int p7, rfl, rfl, SqL.of hpa, atI_nat (j := 7) rfl, _, rfl, pa, _, 8, .int p8, rfl, rfl, SqL.of hpa, atI_nat (j := 8) rfl, _, rfl, pa, _, 9, .int p9, rfl, rfl, SqL.of hpa, atI_nat (j := 9) rfl, [V.ref a.x, V.str k, V.int v], [V.int p0, V.int p1, V.int p2, V.int p3, V.int p4, V.int p5, V.int p6, V.int p7, V.int p8, V.int p9], rfl, rfl, hz _ (by show 10 ≤ 12; omega), fin _ rfl⟩
    refine ⟨_, rfl, pa, _, rfl, .inl (SqL.of hpa), rfl, _, rfl, ite2 (fun hb => ?_) (fun hb11 => ?_)⟩
    · have hl : ps.length = 11 := by
        rw [List.length_map] at hb
        have q := V.int.inj (of_decide_eq_true hb)
        omega
      obtain ⟨p0, p1, p2, p3, p4, p5, p6, p7, p8, p9, p10, rfl⟩ := len_11 hl
      refine ⟨_, rfl, a.x, dx, _, rfl, e, rfl, _, rfl, _, rfl, _, rfl, pa, _, 0, .int p0, rfl, rfl, SqL.of hpa, atI_nat (j := 0) rfl, _, rfl, pa, _, 1, .int p1, rfl, rfl, SqL.of hpa, atI_nat (j := 1) rfl, _, rfl, pa, _, 2, .int p2, rfl, rfl, SqL.of hpa, atI_nat (j := 2) rfl, _, rfl, pa, _, 3, .int p3, rfl, rfl, SqL.of hpa, atI_nat (j := 3) rfl, _, rfl, pa, _, 4, .int p4, rfl, rfl, SqL.of hpa, atI_nat (j := 4) rfl, _, rfl, pa, _, 5, .int p5, rfl, rfl, SqL.of hpa, atI_nat (j := 5) rfl, _, rfl, pa, _, 6, .int p6, rfl, rfl, SqL.of hpa, atI_nat (j := 6) rfl, _, rfl, pa, _, 7, .int p7, rfl, rfl, SqL.of hpa, atI_nat (j := 7) rfl, _, rfl, pa, _, 8, .int p8, rfl, rfl, SqL.of hpa, atI_nat (j := 8) rfl, _, rfl, pa, _, 9, .int p9, rfl, rfl, SqL.of hpa, atI_nat (j := 9) rfl, _, rfl, pa, _, 10, .int p10, rfl, rfl, SqL.of hpa, atI_nat (j := 10) rfl, [V.ref a.x, V.str k, V.int v], [V.int p0, V.int p1, V.int p2, V.int p3, V.int p4, V.int p5, V.int p6, V.int p7, V.int p8, V.int p9, V.int p10], rfl, rfl, hz _ (by show 11 ≤ 12; omega), fin _ rfl⟩
    have hl : ps.length = 12 := by
      rcases Nat.lt_or_ge ps.length 12 with h | h
      · exfalso
        have h0 : ps.length ≠ 0 := fun z => hb0 (decide_eq_true (by rw [List.length_map, z]; rfl))
        have h1 : ps.length ≠ 1 := fun z => hb1 (decide_eq_true (by rw [List.length_map, z]; rfl))
        have h2 : ps.length ≠ 2 := fun z => hb2 (decide_eq_true (by rw [List.length_map, z]; rfl))
        have h3 : ps.length ≠ 3 := fun z => hb3 (decide_eq_true (by rw [List.length_map, z]; rfl))
        have h4 : ps.length ≠ 4 := fun z => hb4 (decide_eq_true (by rw [List.length_map, z]; rfl))
        have h5 : ps.length ≠ 5 := fun z => hb5 (decide_eq_true (by rw [List.length_map, z]; rfl))
        have h6 : ps.length ≠ 6 := fun z => hb6 (decide_eq_true (by rw [List.length_map, z]; rfl))
        have h7 : ps.length ≠ 7 := fun z => hb7 (decide_eq_true (by rw [List.length_map, z]; rfl))
        have h8 : ps.length ≠ 8 := fun z => hb8 (decide_eq_true (by rw [List.length_map, z]; rfl))
        have h9 : ps.length ≠ 9 := fun z => hb9 (decide_eq_true (by rw [List.length_map, z]; rfl))
        have h10 : ps.length ≠ 10 := fun z => hb10 (decide_eq_true (by rw [List.length_map, z]; rfl))
        have h11 : ps.length ≠ 11 := fun z => hb11 (decide_eq_true (by rw [List.length_map, z]; rfl))
        omega
      · omega
    obtain ⟨p0, p1, p2, p3, p4, p5, p6, p7, p8, p9, p10, p11, rfl⟩ := len_12 hl
    refine ⟨_, rfl, a.x, dx, _, rfl, e, rfl, _, rfl, _, rfl, _, rfl, pa, _, 0, .int p0, rfl, rfl, SqL.of hpa, atI_nat (j := 0) rfl, _, rfl, pa, _, 1, .int p1, rfl, rfl, SqL.of hpa, atI_nat (j := 1) rfl, _, rfl, pa, _, 2, .int p2, rfl, rfl, SqL.of hpa, atI_nat (j := 2) rfl, _, rfl, pa, _, 3, .int p3, rfl, rfl, SqL.of hpa, atI_nat (j := 3) rfl, _, rfl, pa, _, 4, .int p4, rfl, rfl, SqL.of hpa, atI_nat (j := 4) rfl, _, rfl, pa, _, 5, .int p5, rfl, rfl, SqL.of hpa, atI_nat (j := 5) rfl, _, rfl, pa, _, 6, .int p6, rfl, rfl, SqL.of hpa, atI_nat (j := 6) rfl, _, rfl, pa, _, 7, .int p7, rfl, rfl, SqL.of hpa, atI_nat (j := 7) rfl, _, rfl, pa, _, 8, .int p8, rfl, rfl, SqL.of hpa, atI_nat (j := 8) rfl, _, rfl, pa, _, 9, .int p9, rfl, rfl, SqL.of hpa, atI_nat (j := 9) rfl, _, rfl, pa, _, 10, .int p10, rfl, rfl, SqL.of hpa, atI_nat (j := 10) rfl, _, rfl, pa, _, 11, .int p11, rfl, rfl, SqL.of hpa, atI_nat (j := 11) rfl, [V.ref a.x, V.str k, V.int v], [V.int p0, V.int p1, V.int p2, V.int p3, V.int p4, V.int p5, V.int p6, V.int p7, V.int p8, V.int p9, V.int p10, V.int p11], rfl, rfl, hz _ (by show 12 ≤ 12; omega), fin _ rfl⟩
end
end Cg

set_option Elab.async false
set_option linter.all false
set_option maxRecDepth 100000
set_option maxHeartbeats 400000
namespace Cg
open PySem PySem.Spec PyProof.Rows L2
theorem call_isiL {X : Cx} {K : PySem.W.Frag} (h : X.K = K := by rfl) : CallR X (.builtin "isinstance") (rIsi K) := by
  subst h
  exact call_isi
/-- which clause names which error -/
structure EM (K : PySem.W.Frag) (x : XC) : Prop where
  kk : PySem.W.exmOne K (.ref x.k) (.ref x.k) = some true
  bk : PySem.W.exmOne K (.ref x.b) (.ref x.k) = some false
  tk : PySem.W.exmOne K (.ref x.t) (.ref x.k) = some false
  bb : PySem.W.exmOne K (.ref x.b) (.ref x.b) = some true
  tb : PySem.W.exmOne K (.ref x.t) (.ref x.b) = some false
  tt : PySem.W.exmOne K (.ref x.t) (.ref x.t) = some true
  uu : PySem.W.exmOne K (.ref x.u) (.ref x.u) = some true
section
variable {P : Program} {w : World} {K : PySem.W.Frag} {mg : Str → Option Value} {base : Heap} {f : Addr} {fd : FuncData} {CL CS : Addr} {xc : XC}
/-! ### _law_told_put -/
def sp_told_put (x : XC) (CL CS : Addr) : Sp := fun vs H Q _ => ∃ (a : SAd) (c : Cfg) (n : Nat) (s : Sg Str) (d b : Nat) (kvs : List (Key × V)) (k : Str) (v : Int) (pa : Addr) (ps : List Int), vs = [.ref a.x, .str k, .int v, .ref pa] ∧ SegAt CL CS H a c n s d kvs ∧ OkL c.w s ∧ KvOk (liv s.1) kvs ∧ Good k ∧
  H pa = some (.lst (ps.map V.int)) ∧ ps.length ≤ 12 ∧ d ≤ 300 ∧ c.bound = (b : Nat) ∧ b ≤ 300 ∧
  (∀ r, putM c.w c.bound c.load d c.late s k ps = .inl r → ∀ (H' : Hp) (p : Addr), Fr [] H H' → H' p = some (.tup (refT r)) → Q (.ref p) H') ∧
  (∀ s', putM c.w c.bound c.load d c.late s k ps = .inr s' → ∀ H' a', SegTo CL CS H a c n s' (d + 1) (putK kvs (.inr k) (.int v)) H' a' → Q .non H')
abbrev s_told_put : Stmt := topS 41
theorem sc_told_put : FnScope ["_law_store", "_law_name", "_law_worth_here", "_law_picks_here", "_law_told", "e"] ["_law_store", "_law_name", "_law_worth_here", "_law_picks_here"] (C8.fnScope s_told_put) := C8.fnScope_by (by decide +kernel)
theorem k_told_put (T : Bi mg) (em : EM K xc) (er_KeyLimit : ErrC P w K mg "KeyLimit" "most" xc.k okN) (er_BadChoice : ErrC P w K mg "BadChoice" "choice" xc.b okA) (er_Stalled : ErrC P w K mg "Stalled" "deeds" xc.t okN)
    (F : C8.Def K mg "_law_told_put" s_told_put f fd) (b : Binds K fd ["_law_store", "_law_name", "_law_worth_here", "_law_picks_here"] []) (c_call : CalE P w K mg base 6 "_law_call" (sp_call xc CL CS)) (h_is_integer : CalH P w K mg base 1 "_law_is_integer" sp_isint) :
    C8.Cal P w K mg base 7 "_law_told_put" (sp_told_put xc CL CS) [] := by
  refine C8.cal0 F b .nil sc_told_put (fun vs H Q E h => ?_) (fun cdv A outer s0 H vs Q E hr h => ?_)
  · obtain ⟨a, c, n, s, d, bb, kvs, k, v, pa, ps, rfl, _⟩ := h
    rfl
  · obtain ⟨a, c, n, s, d, bb, kvs, k, v, pa, ps, rfl, M, ok, kv, gk, hpa, lps, hd, hbb, hb3, q0, q1⟩ := h
    have hu := hu_of hr
    refine ⟨_, pss_cons (ps_tryAll (n := "e") (i := 5) rfl rfl sc_told_put.nd rfl rfl takes0 (fun W pn xe tk _ => pss_one (ps_set (i := 4) sc_told_put.nd rfl (by first | exact Or.inl rfl | exact Or.inr rfl) (pe_cE c_call hr (by decide) tk rfl (pa_cons (pv 0) (pa_cons (pv 1) (pa_cons (pv 2) (pa_cons (pv 3) pa_nil)))))))
      (Clauses.cons ⟨rfl, by decide, .inl er_KeyLimit.gC⟩ (fun a oe cls d pn hz hf => pss_one (ps_ret (pe_tup (pa_cons (pe_str) (pa_cons (pe_xf er_KeyLimit.xf er_KeyLimit.no hz.zc hf (pv 5)) (pa_cons (pe_cH h_is_integer hr (by decide) rfl (hotC_suite hz hf) rfl (pa_cons (pe_xf er_KeyLimit.xf er_KeyLimit.no hz.zc hf (pv 5)) pa_nil)) pa_nil)))))) (Clauses.cons ⟨rfl, by decide, .inl er_BadChoice.gC⟩ (fun a oe cls d pn hz hf => pss_one (ps_ret (pe_tup (pa_cons (pe_str) (pa_cons (pe_xf er_BadChoice.xf er_BadChoice.no hz.zc hf (pv 5)) (pa_cons (pe_cH h_is_integer hr (by decide) rfl (hotC_suite hz hf) rfl (pa_cons (pe_xf er_BadChoice.xf er_BadChoice.no hz.zc hf (pv 5)) pa_nil)) pa_nil)))))) (Clauses.cons ⟨rfl, by decide, .inl er_Stalled.gC⟩ (fun a oe cls d pn hz hf => pss_one (ps_ret (pe_tup (pa_cons (pe_str) (pa_cons (pe_xf er_Stalled.xf er_Stalled.no hz.zc hf (pv 5)) (pa_cons (pe_cH h_is_integer hr (by decide) rfl (hotC_suite hz hf) rfl (pa_cons (pe_xf er_Stalled.xf er_Stalled.no hz.zc hf (pv 5)) pa_nil)) pa_nil)))))) (Clauses.nil)))))
      (pss_cons (ps_if (pt_cmp (pc_notN (pv 4))) (pss_one (ps_ret (pe_tup (pa_cons (pe_str) (pa_cons (pe_int) (pa_cons (pe_bl) pa_nil)))))) (pss_nil))
      (pss_one (ps_ret (pe_non)))), ?_⟩
    refine ⟨_, rfl, _, rfl, _, rfl, _, rfl, a, c, n, s, d, bb, kvs, k, v, pa, ps, rfl, M, ok, kv, gk, hpa, lps, hd, hbb, hb3, fun r er => ?_, fun s' es H' a' t => ?_⟩
    · intro H1 dd f1 ed
      cases r with
      | limit m =>
        exact ⟨true, em.kk, fun _ a0 _ => ⟨_, rfl, rfl, rfl, dd, _, _, rfl, ed, rfl, _, rfl, rfl, rfl, dd, _, _, rfl, ed, rfl, _, rfl, (by show 3 ≤ sizeLine; decide), fun p hp => q0 _ er _ p (f1.then (Fr.new hp)) upd_same⟩, fun q => Bool.noConfusion q⟩
      | bad m =>
        exact ⟨false, em.bk, fun q => Bool.noConfusion q, fun _ => ⟨true, em.bb, fun _ a0 _ => ⟨_, rfl, rfl, rfl, dd, _, _, rfl, ed, rfl, _, rfl, rfl, rfl, dd, _, _, rfl, ed, rfl, _, rfl, (by show 3 ≤ sizeLine; decide), fun p hp => q0 _ er _ p (f1.then (Fr.new hp)) upd_same⟩, fun q => Bool.noConfusion q⟩⟩
      | stall m =>
        exact ⟨false, em.tk, fun q => Bool.noConfusion q, fun _ => ⟨false, em.tb, fun q => Bool.noConfusion q, fun _ => ⟨true, em.tt, fun _ a0 _ => ⟨_, rfl, rfl, rfl, dd, _, _, rfl, ed, rfl, _, rfl, rfl, rfl, dd, _, _, rfl, ed, rfl, _, rfl, (by show 3 ≤ sizeLine; decide), fun p hp => q0 _ er _ p (f1.then (Fr.new hp)) upd_same⟩, fun q => Bool.noConfusion q⟩⟩⟩
    · exact ⟨_, rfl, _, rfl, iteF' rfl (q1 s' es H' a' t)⟩
/-! ### _law_told_drop -/
def sp_told_drop (x : XC) (CL CS : Addr) : Sp := fun vs H Q _ => ∃ (a : SAd) (c : Cfg) (n : Nat) (s : Sg Str) (d : Int) (kvs : List (Key × V)) (k : Str), vs = [.ref a.x, .str k] ∧ SegAt CL CS H a c n s d kvs ∧ OkL c.w s ∧ KvOk (liv s.1) kvs ∧ Good k ∧
  (findR s.1 k = none → ∀ (H' : Hp) (p : Addr), Fr [] H H' → H' p = some (.tup [.str "UnknownKey", .str k, .bl true]) → Q (.ref p) H') ∧
  (∀ i j : Nat, findR s.1 k = some (i, j) → ∀ H' a', SegTo CL CS H a c n (killR s.1 i j, s.2) d (dropK kvs (.inr k)) H' a' → Q .non H')
abbrev s_told_drop : Stmt := topS 42
theorem sc_told_drop : FnScope ["_law_store", "_law_name", "_law_told", "e"] ["_law_store", "_law_name"] (C8.fnScope s_told_drop) := C8.fnScope_by (by decide +kernel)
theorem k_told_drop (T : Bi mg) (em : EM K xc) (er_UnknownKey : ErrC P w K mg "UnknownKey" "key" xc.u okS) (F : C8.Def K mg "_law_told_drop" s_told_drop f fd) (b : Binds K fd ["_law_store", "_law_name"] []) (c_s_delete : MetE P w K mg base 3 CS "delete" (sp_s_delete xc CL CS)) :
    C8.Cal P w K mg base 4 "_law_told_drop" (sp_told_drop xc CL CS) [] := by
  refine C8.cal0 F b .nil sc_told_drop (fun vs H Q E h => ?_) (fun cdv A outer s0 H vs Q E hr h => ?_)
  · obtain ⟨a, c, n, s, d, kvs, k, rfl, _⟩ := h
    rfl
  · obtain ⟨a, c, n, s, d, kvs, k, rfl, M, ok, kv, gk, q0, q1⟩ := h
    have hu := hu_of hr
    refine ⟨_, pss_cons (ps_tryAll (n := "e") (i := 3) rfl rfl sc_told_drop.nd rfl rfl takes0 (fun W pn xe tk _ => pss_one (ps_set (i := 2) sc_told_drop.nd rfl (by first | exact Or.inl rfl | exact Or.inr rfl) (pe_mE c_s_delete hr (by decide) tk (pv 0) (pa_cons (pv 1) pa_nil))))
      (Clauses.cons ⟨rfl, by decide, .inl er_UnknownKey.gC⟩ (fun a oe cls d pn hz hf => pss_one (ps_ret (pe_tup (pa_cons (pe_str) (pa_cons (pe_xf er_UnknownKey.xf er_UnknownKey.no hz.zc hf (pv 3)) (pa_cons (pe_callB (r := rIsi K) call_isiL (by rfl) T.isinstance PyProof.Rows.boot_isinstance (pa_cons (pe_xf er_UnknownKey.xf er_UnknownKey.no hz.zc hf (pv 3)) (pa_cons (pe_bltn (v := .ty "str") rfl T.str PyProof.Rows.boot_str rfl) pa_nil))) pa_nil)))))) (Clauses.nil)))
      (pss_cons (ps_if (pt_cmp (pc_notN (pv 2))) (pss_one (ps_ret (pe_tup (pa_cons (pe_str) (pa_cons (pe_int) (pa_cons (pe_bl) pa_nil)))))) (pss_nil))
      (pss_one (ps_ret (pe_non)))), ?_⟩
    obtain ⟨dx, cr, wt, e⟩ := M.ob
    refine ⟨_, rfl, a.x, dx, _, rfl, e, rfl, _, rfl, a, c, n, s, d, kvs, k, rfl, M, ok, kv, gk, fun ef => ?_, fun i j ef H' a' t => ?_⟩
    · intro H1 dd f1 ed
      refine ⟨true, em.uu, fun _ a0 _ => ?_, fun q => Bool.noConfusion q⟩
      refine ⟨_, rfl, rfl, rfl, dd, _, _, rfl, ed, rfl, _, rfl, rfl, rfl, dd, _, _, rfl, ed, rfl, _, _, _, _, true, rfl, .ty "str", .base (.str k), kit_same, (by show 3 ≤ sizeLine; decide), fun p hp => ?_⟩
      exact q0 ef _ p (f1.then (Fr.new hp)) upd_same
    · exact ⟨_, rfl, _, rfl, iteF' rfl (q1 i j ef H' a' t)⟩
/-! ### _law_name_holds -/
def sp_name_holds (x : XC) (CL CS : Addr) : Sp := fun vs H Q _ => ∃ (a : SAd) (c : Cfg) (n : Nat) (s : Sg Str) (d : Int) (kvs : List (Key × V)) (pl : Addr) (k : Str), vs = [.ref a.x, .ref pl, .str k] ∧ SegAt CL CS H a c n s d kvs ∧ KvOk (liv s.1) kvs ∧ H pl = some (.dK kvs) ∧ Good k ∧
  ∀ H', Fr [] H H' → Q (.bl true) H'
abbrev s_name_holds : Stmt := topS 48
theorem sc_name_holds : FnScope ["_law_store", "_law_plain", "_law_name", "_law_worth_here", "e"] ["_law_store", "_law_plain", "_law_name"] (C8.fnScope s_name_holds) := C8.fnScope_by (by decide +kernel)
theorem k_name_holds (T : Bi mg) (em : EM K xc) (er_UnknownKey : ErrC P w K mg "UnknownKey" "key" xc.u okS) (F : C8.Def K mg "_law_name_holds" s_name_holds f fd) (b : Binds K fd ["_law_store", "_law_plain", "_law_name"] [])
    (c_s___contains : C8.Met P w K mg base 1 CS "__contains__" (sp_s_has CL CS) []) (c_s_read : MetE P w K mg base 2 CS "read" (sp_s_read xc CL CS)) (c_is_integer : C8.Cal P w K mg base 1 "_law_is_integer" sp_isint []) :
    C8.Cal P w K mg base 4 "_law_name_holds" (sp_name_holds xc CL CS) [] := by
  refine C8.cal0 F b .nil sc_name_holds (fun vs H Q E h => ?_) (fun cdv A outer s0 H vs Q E hr h => ?_)
  · obtain ⟨a, c, n, s, d, kvs, pl, k, rfl, _⟩ := h
    rfl
  · obtain ⟨a, c, n, s, d, kvs, pl, k, rfl, M, kv, hpl, gk, q⟩ := h
    have hu := hu_of hr
    refine ⟨_, pss_cons (ps_if (pt_cmpR op_ne (pe_cmpR (op_in_seg c_s___contains hr (by decide)) (pv 2) (pv 0) (by rfl)) (pe_cmp (pc_din hu (pv 2) (pv 1)) rfl) (nomark _)) (pss_one (ps_ret (pe_bl))) (pss_nil))
      (pss_cons (ps_tryAll (n := "e") (i := 4) rfl rfl sc_name_holds.nd rfl rfl takes0 (fun W pn xe tk _ => pss_one (ps_set (i := 3) sc_name_holds.nd rfl (by first | exact Or.inl rfl | exact Or.inr rfl) (pe_mE c_s_read hr (by decide) tk (pv 0) (pa_cons (pv 2) pa_nil))))
      (Clauses.cons ⟨rfl, by decide, .inl er_UnknownKey.gC⟩ (fun a oe cls d pn hz hf => pss_one (ps_ret (pe_and (pe_cmp (pc_dnotin hu (pv 2) (pv 1)) rfl) (pe_and (pe_callB (r := rIsi K) call_isiL (by rfl) T.isinstance PyProof.Rows.boot_isinstance (pa_cons (pe_xf er_UnknownKey.xf er_UnknownKey.no hz.zc hf (pv 4)) (pa_cons (pe_bltn (v := .ty "str") rfl T.str PyProof.Rows.boot_str rfl) pa_nil))) (pe_one (pe_cmpR op_eq (pe_xf er_UnknownKey.xf er_UnknownKey.no hz.zc hf (pv 4)) (pv 2) (nomark _))))))) (Clauses.nil)))
      (pss_one (ps_ret (pe_and (pe_cmp (pc_din hu (pv 2) (pv 1)) rfl) (pe_and (C8.pe_c c_is_integer hr (by decide) rfl (pa_cons (pv 3) pa_nil)) (pe_one (pe_cmpR op_eq (pv 3) (pe_dget hu (pv 1) (pv 2) (fun _ _ => rfl)) (nomark _)))))))), ?_⟩
    obtain ⟨dx, cr, wt, e⟩ := M.ob
    refine ⟨_, rfl, _, rfl, a.x, dx, _, rfl, e, a, c, n, s, d, kvs, k, rfl, M, _, rfl, _, rfl, _, rfl, pl, _, rfl, DGet.k (k := Sum.inr k) hpl, rfl, _, rfl, ?_⟩
    rw [decide_eq_true rfl]
    refine iteF' rfl ?_
    refine ⟨_, rfl, a.x, dx, _, rfl, e, rfl, _, rfl, a, c, n, s, d, kvs, k, rfl, M, gk, fun hn => ?_, fun v ev => ?_⟩
    · intro H1 dd f1 ed
      have hpl1 := f1.all _ _ hpl (by simp)
      refine ⟨true, em.uu, fun _ a0 _ => ?_, fun q => Bool.noConfusion q⟩
      refine ⟨_, rfl, _, rfl, pl, _, rfl, DGet.k (k := Sum.inr k) hpl1, _, rfl, ?_⟩
      rw [hn]
      refine iteT' rfl ⟨_, rfl, rfl, rfl, dd, _, _, rfl, ed, rfl, _, _, _, _, true, rfl, .ty "str", .base (.str k), kit_same, _, rfl, iteT' rfl ?_⟩
      refine ⟨_, rfl, rfl, rfl, dd, _, _, rfl, ed, rfl, _, rfl, rfl, ?_⟩
      rw [decide_eq_true rfl]
      exact q H1 f1
    · obtain ⟨z, rfl⟩ := kv.whole _ (valV_some ev)
      refine ⟨_, rfl, _, rfl, pl, _, rfl, DGet.k (k := Sum.inr k) hpl, _, rfl, ?_⟩
      rw [ev]
      refine iteT' rfl ⟨_, rfl, z, rfl, _, rfl, iteT' rfl ⟨_, rfl, _, rfl, _, rfl, pl, _, rfl, (by rw [← ev]; exact DGet.k (k := Sum.inr k) hpl), rfl, ?_⟩⟩
      rw [decide_eq_true rfl]
      exact q H (Fr.refl _ _)
end
end Cg

set_option Elab.async false
set_option linter.all false
set_option maxRecDepth 100000
set_option maxHeartbeats 400000
namespace Cg
open PySem PySem.Spec PyProof.Rows L2
/-! ### rules -/
theorem lc_keysL {d : Addr} {o : Obj} {kvs : List (Key × V)} {g : TG} {tt : TT} {te : TE} {vs : List Nat} {σ : L2.St} {H1 : Hp} {D : Addr} {Qd : Hp → Prop} (Pv : Nat → Hp → Prop) (h0 : Pv 0 (upd H1 D (.lst []))) (hl : ∀ i H, i ≤ kvs.length → Pv i H → H d = some (.frz o (.dK kvs)))
    (step : ∀ i k v H, kvs[i]? = some (k, v) → Pv i H → g (kV k) (wipe σ vs) H fun σ2 H2 => wipe σ2 vs = wipe σ vs ∧ tt σ2 H2 fun b H3 =>
      if b = true then te σ2 H3 fun y H4 => ∃ acc, H4 D = some (.lst acc) ∧ acc.length < sizeLine ∧ Pv (i + 1) (upd H4 D (.lst (acc ++ [y]))) else Pv (i + 1) H3) (fin : ∀ H, Pv kvs.length H → Qd H) :
    ∃ W : Nat → Nat → Hp → Prop, (∃ m, W 0 m (upd H1 D (.lst []))) ∧ ∀ i m H, W i m H →
      ((Itk d o kvs).stop i H ∧ Qd H) ∨ ((Itk d o kvs).go i H ∧ ∃ Nx : Hp → Prop, (∀ H', Nx H' → ∃ m', m' < m ∧ W (i + 1) m' H') ∧ ∀ x H', (Itk d o kvs).yld i H x H' → g x (wipe σ vs) H' fun σ2 H2 => wipe σ2 vs = wipe σ vs ∧ tt σ2 H2 fun b H3 =>
        if b = true then te σ2 H3 fun y H4 => ∃ acc, H4 D = some (.lst acc) ∧ acc.length < sizeLine ∧ Nx (upd H4 D (.lst (acc ++ [y]))) else Nx H3) := by
  refine ⟨fun i m H => m + i = kvs.length ∧ Pv i H, ⟨kvs.length, rfl, h0⟩, ?_⟩
  rintro i m H ⟨em, p⟩
  have le : i ≤ kvs.length := by omega
  have q := hl i H le p
  rcases Nat.lt_or_ge i kvs.length with hlt | hge
  · refine .inr ⟨⟨q, hlt⟩, Pv (i + 1), fun H' p' => ⟨m - 1, by omega, by omega, p'⟩, ?_⟩
    rintro x H' ⟨rfl, k, v, hk, rfl⟩
    exact step i k v _ hk p
  · have e : i = kvs.length := by omega
    subst e
    exact .inl ⟨⟨q, Nat.le_refl _⟩, fin H p⟩
theorem valV_at {kvs : List (Key × V)} (nd : (kvs.map (·.1)).Nodup) : ∀ {i : Nat} {k : Key} {v : V}, kvs[i]? = some (k, v) → valV kvs k = some v := by
  induction kvs with
  | nil => intro i k v h; simp at h
  | cons p r ih =>
    intro i k v h
    obtain ⟨h1, h2⟩ := List.nodup_cons.mp nd
    cases i with
    | zero =>
      have e : p = (k, v) := Option.some.inj h
      rw [valV_pos (by rw [e]), e]
    | succ i =>
      have h' : r[i]? = some (k, v) := h
      have hk : k ∈ r.map (·.1) := List.mem_map.mpr ⟨(k, v), List.mem_of_getElem? h', rfl⟩
      rw [valV_neg (fun z => h1 (by have z' : (fun x : Key × V => x.1) p = k := z; rw [z']; exact hk))]
      exact ih h2 h'
/-! ### pairs -/
def PairV (H : Hp) (v : V) (p : Key × V) : Prop := ∃ (t : Addr) (k : Str) (z : Int), p = (.inr k, .int z) ∧ v = .ref t ∧ H t = some (.tup [.str k, .int z])
def PairsAt (H : Hp) (p : Addr) (prs : List (Key × V)) : Prop := ∃ vs, H p = some (.lst vs) ∧ Paired (PairV H) vs prs
theorem PairV.fr {S : List Addr} {H H' : Hp} (f : Fr S H H') {v : V} {p : Key × V} (h : PairV H v p) : PairV H' v p := by
  obtain ⟨t, k, z, e1, e2, e3⟩ := h
  exact ⟨t, k, z, e1, e2, f.tup _ _ e3⟩
theorem PairsAt.fr {S : List Addr} {H H' : Hp} {p : Addr} {prs : List (Key × V)} (M : PairsAt H p prs) (f : Fr S H H') (h : p ∉ S) : PairsAt H' p prs := by
  obtain ⟨vs, e, pr⟩ := M
  exact ⟨vs, f.all _ _ e h, Paired.mapP pr fun _ _ z => z.fr f⟩
/-- pairs as a table keeps them -/
structure PrOk (prs : List (Key × V)) : Prop where
  nd : (prs.map (·.1)).Nodup
  len : prs.length ≤ 10000
theorem tab_ok {w : Nat} {s : Sg Str} {kvs : List (Key × V)} (o : OkL w s) (h : KvOk (liv s.1) kvs) : PrOk (tabL kvs (liv s.1)) := by
  refine ⟨?_, ?_⟩
  · unfold tabL
    rw [List.map_map]
    exact nodup_inr h.nd
  · unfold tabL
    rw [List.length_map]
    exact o.liv_len
section
variable {P : Program} {w : World} {K : PySem.W.Frag} {mg : Str → Option Value} {base : Heap} {f : Addr} {fd : FuncData} {CL CS : Addr} {xc : XC}
/-! ### _law_pairs -/
def sp_pairs : Sp := fun vs H Q _ => ∃ (a : MAd) (c : Cfg) (s : Sg Str) (d : Int) (kvs : List (Key × V)) (pl : Addr), vs = [.ref a.m, .ref pl] ∧ ModAt H a c s d ∧ OkL c.w s ∧ KvOk (liv s.1) kvs ∧ H pl = some (.dK kvs) ∧
  ∀ (H' : Hp) (p : Addr), Fr [] H H' → H p = none → PairsAt H' p (tabL kvs (liv s.1)) → Q (.ref p) H'
abbrev s_pairs : Stmt := topS 45
theorem sc_pairs : FnScope ["_law_model_here", "_law_plain", "_law_pairs_here", "_law_row", "_law_one"] ["_law_model_here", "_law_plain"] (C8.fnScope s_pairs) := C8.fnScope_by (by decide +kernel)
theorem k_pairs (T : Bi mg) (F : C8.Def K mg "_law_pairs" s_pairs f fd) (b : Binds K fd ["_law_model_here", "_law_plain"] []) : C8.Cal P w K mg base 1 "_law_pairs" sp_pairs [] := by
  refine C8.cal0 F b .nil sc_pairs (fun vs H Q E h => ?_) (fun cdv A outer s0 H vs Q E hr h => ?_)
  · obtain ⟨a, c, s, d, kvs, pl, rfl, _⟩ := h
    rfl
  · obtain ⟨a, c, s, d, kvs, pl, rfl, M, ok, kv, hpl, q⟩ := h
    have hu := hu_of hr
    have hl := ok.lsm
    have hll := ok.liv_len
    refine ⟨_, pss_cons (ps_set (i := 2) sc_pairs.nd rfl (by first | exact Or.inl rfl | exact Or.inr rfl) (pe_lst pa_nil))
      (pss_cons (ps_for PassesOwn.never rfl (pi_list (pe_dget hu (pv 0) (pe_str) (fun _ _ => rfl))) (pg_name (i := 3) sc_pairs.nd rfl (by first | exact Or.inl rfl | exact Or.inr rfl))
        (pss_one (ps_for PassesOwn.never rfl (pi_list (pv 3)) (pg_name (i := 4) sc_pairs.nd rfl (by first | exact Or.inl rfl | exact Or.inr rfl))
        (pss_one (ps_if (pt_cmp (pc_notN (pv 4))) (pss_one (ps_expr (pe_bm PySem.F.plainAttrs_list PySem.F.slot_list_append PySem.F.type_list_append mt_append (pv 2) (pa_cons (pe_tup (pa_cons (pe_ix ix_tup (pv 4) (pe_int) (fun _ _ => rfl)) (pa_cons (pe_dget hu (pv 1) (pe_ix ix_tup (pv 4) (pe_int) (fun _ _ => rfl)) (fun _ _ => rfl)) pa_nil))) pa_nil)))) (pss_nil))))))
      (pss_one (ps_ret (pv 2)))), ?_⟩
    refine ⟨(by show 0 ≤ sizeLine; decide), fun p hp => ?_⟩
    have f1 : Fr [] H (upd H p (.lst [])) := Fr.new hp
    have ep : (upd H p (.lst [])) p = some (.lst []) := upd_same
    generalize upd H p (.lst []) = H1 at f1 ep ⊢
    have M1 := M.fr0 f1
    refine ⟨_, rfl, a.m, _, rfl, M1.g_rows, a.ra, rfl, ⟨_, SqL.of M1.rows⟩, ?_⟩
    have step : ∀ {H2 : Hp}, Fr [p] H1 H2 → Fr [] H H2 := fun f => f1.trans f fun x hx => .inr (by rw [List.mem_singleton.mp hx]; exact hp)
    refine for_list (K := K) (a := a.ra) (xs := a.rs.map V.ref) (fun i σ H' => Fr [p] H1 H' ∧ PairsAt H' p (tabL kvs (liv (s.1.take i))) ∧ ∃ v3 v4 : Option V, σ = [some (.ref a.m), some (.ref pl), some (.ref p), v3, v4]) ⟨Fr.refl _ _, ⟨[], ep, .nil⟩, none, none, rfl⟩ (fun i σ H' _ z => SqL.of (M.fr0 (step z.1)).rows) ?_ ?_
    · rintro i x σ H2 hx ⟨f2, hp2, v3, v4, rfl⟩
      have fH := step f2
      have M2 := M.fr0 fH
      have hi : i < s.1.length := by
        have := (List.getElem?_eq_some_iff.mp hx).1
        rwa [M.rs_len] at this
      obtain ⟨y, ys, e3, e4, hy, hv⟩ := M2.at_row hi
      obtain ⟨y0, ys0, e30, e40, hy0, hv0⟩ := M1.at_row hi
      rw [e4] at hx
      have hx2 := Option.some.inj hx
      subst hx2
      have hyy : y0 = y := by rw [e40] at e4; exact V.ref.inj (Option.some.inj e4)
      subst hyy
      have hyl : ys.length = (rowAt s.1 i).length := Paired.length hv
      refine ⟨_, rfl, y0, rfl, ⟨_, SqL.of hy⟩, ?_⟩
      have yp : y0 ≠ p := fun z => by
        obtain ⟨y1, ys1, e31, e41, hy1, hv1⟩ := M.at_row hi
        rw [e40] at e41
        have e := V.ref.inj (Option.some.inj e41)
        rw [← e, z, hp] at hy1
        cases hy1
      refine for_list (K := K) (a := y0) (xs := ys) (fun j σ H' => Fr [p] H1 H' ∧ PairsAt H' p (tabL kvs (liv (s.1.take i) ++ livr ((rowAt s.1 i).take j))) ∧ H' y0 = some (.lst ys) ∧ RowV H' ys (rowAt s.1 i) ∧ ∃ v3 v4 : Option V, σ = [some (.ref a.m), some (.ref pl), some (.ref p), v3, v4]) ⟨f2, ?_, hy, hv, _, _, rfl⟩ (fun i σ H' _ z => SqL.of z.2.2.1) ?_ ?_
      · rw [show livr ((rowAt s.1 i).take 0) = [] from rfl, List.append_nil]
        exact hp2
      · rintro j v σ H3 hv3 ⟨f3, hp3, hy3, hrv, w3, w4, rfl⟩
        obtain ⟨o, go, ro⟩ := paired_get hrv hv3
        have hpl3 := (step f3).all _ _ hpl (by simp)
        cases o with
        | none =>
          have ev : v = .non := ro
          refine ⟨_, rfl, _, rfl, iteF' (by rw [ev]; rfl) ⟨f3, ?_, hy3, hrv, _, _, rfl⟩⟩
          rw [livr_take go]
          simpa using hp3
        | some k =>
          obtain ⟨t, z0, rfl, ht⟩ := ro
          have hk : k ∈ liv s.1 := mem_liv.mpr ⟨rowAt s.1 i, rowAt_mem hi, List.mem_of_getElem? go⟩
          obtain ⟨z, hz⟩ := kv.get hk
          have hnew := liv_part go kv.nd
          obtain ⟨vs, hvs, pv⟩ := hp3
          have lvs : vs.length ≤ 10000 := by
            rw [Paired.length pv]
            unfold tabL
            rw [List.length_map]
            have h1 : (liv (s.1.take i) ++ livr ((rowAt s.1 i).take j)).length ≤ (liv s.1).length := by
              have e1 : liv (s.1.take (i + 1)) = _ := liv_take hi
              have h2 : livr ((rowAt s.1 i).take j) <+: livr (rowAt s.1 i) := by
                refine ⟨livr ((rowAt s.1 i).drop j), ?_⟩
                rw [← livr_append, List.take_append_drop]
              have h3 : liv (s.1.take (i + 1)) <+: liv s.1 := by
                refine ⟨liv (s.1.drop (i + 1)), ?_⟩
                unfold liv
                rw [← livr_append, ← List.flatten_append, List.take_append_drop]
              have h4 := h3.length_le
              rw [e1, List.length_append] at h4
              have h5 := h2.length_le
              rw [List.length_append]
              omega
            omega
          refine ⟨_, rfl, _, rfl, iteT' rfl ?_⟩
          refine ⟨_, rfl, .inl ⟨rfl, _, SqL.of hvs⟩, _, rfl, t, _, _, _, rfl, rfl, SqT.of ht, atI_nat (j := 0) rfl, _, rfl, _, rfl, t, _, _, _, rfl, rfl, SqT.of ht, atI_nat (j := 0) rfl, pl, _, rfl, by rw [← hz]; exact DGet.k (k := Sum.inr k) hpl3, (by show 2 ≤ sizeLine; decide), fun T hT => ?_⟩
          have f4 : Fr [] H3 (upd H3 T (.tup [.str k, .int z])) := Fr.new hT
          have e4 : (upd H3 T (.tup [.str k, .int z])) T = some (.tup [.str k, .int z]) := upd_same
          generalize upd H3 T (.tup [.str k, .int z]) = H4 at f4 e4 ⊢
          have hvs4 := f4.all _ _ hvs (by simp)
          have hy4 := f4.all _ _ hy3 (by simp)
          have f5 : Fr [p] H4 (upd H4 p (.lst (vs ++ [.ref T]))) := Fr.set (by simp) hvs4 fun xs z => by cases z
          refine ⟨p, _, _, rfl, rfl, hvs4, small10000 (by omega), (f3.then f4.in).then f5, ⟨vs ++ [.ref T], upd_same, ?_⟩, (upd_ne yp).trans hy4, (hrv.fr f4).fr f5, _, _, rfl⟩
          have ee : tabL kvs (liv (s.1.take i) ++ livr ((rowAt s.1 i).take (j + 1))) = tabL kvs (liv (s.1.take i) ++ livr ((rowAt s.1 i).take j)) ++ [(.inr k, .int z)] := by
            rw [livr_take go, ← List.append_assoc]
            unfold tabL
            rw [List.map_append (l₂ := [k])]
            show _ ++ [(Sum.inr k, (valV kvs (.inr k)).getD .non)] = _
            rw [hz]
            rfl
          rw [ee]
          exact paired_snoc (PairV.fr f5 ⟨T, k, z, rfl, rfl, e4⟩) (Paired.mapP pv fun _ _ x => (x.fr f4).fr f5)
      · rintro σ H3 ⟨f3, hp3, hy3, hrv, w3, w4, rfl⟩
        rw [hyl, List.take_length, ← liv_take hi] at hp3
        exact ⟨f3, hp3, _, _, rfl⟩
    · rintro σ H2 ⟨f2, hp2, v3, v4, rfl⟩
      rw [M.rs_len, List.take_length] at hp2
      exact ⟨_, rfl, q H2 p (step f2) hp hp2⟩
end
end Cg

set_option Elab.async false
set_option linter.all false
set_option maxRecDepth 100000
set_option maxHeartbeats 400000
namespace Cg
open PySem PySem.Spec PyProof.Rows L2
section
variable {P : Program} {w : World} {K : PySem.W.Frag} {mg : Str → Option Value} {base : Heap} {f : Addr} {fd : FuncData} {CL CS : Addr} {xc : XC}
/-! ### _law_table_is -/
def sp_table_is : Sp := fun vs H Q _ => ∃ (td pp : Addr) (prs : List (Key × V)), vs = [.ref td, .ref pp] ∧ H td = some (.dK prs) ∧ PairsAt H pp prs ∧ PrOk prs ∧ ∀ H', Fr [] H H' → Q (.bl true) H'
abbrev s_table_is : Stmt := topS 46
theorem sc_table_is : FnScope ["_law_told", "_law_pairs_here", "_law_order", "_law_one", "_law_k", "_law_worth_here"] ["_law_told", "_law_pairs_here"] (C8.fnScope s_table_is) := C8.fnScope_by (by decide +kernel)
theorem k_table_is (T : Bi mg) (F : C8.Def K mg "_law_table_is" s_table_is f fd) (b : Binds K fd ["_law_told", "_law_pairs_here"] []) (c_is_integer : C8.Cal P w K mg base 1 "_law_is_integer" sp_isint []) : C8.Cal P w K mg base 2 "_law_table_is" sp_table_is [] := by
  refine C8.cal0 F b .nil sc_table_is (fun vs H Q E h => ?_) (fun cdv A outer s0 H vs Q E hr h => ?_)
  · obtain ⟨td, pp, prs, rfl, _⟩ := h
    rfl
  · obtain ⟨td, pp, prs, rfl, htd, M, ok, q⟩ := h
    have hu := hu_of hr
    have hll := ok.len
    refine ⟨_, pss_cons (ps_if (PW.pt (pw_or (pt_not (pt_val (pe_callB call_isi (by rfl) T.isinstance (by decide +kernel) (pa_cons (pv 0) (pa_cons (pe_bltn (v := .ty "dict") rfl T.dict PyProof.Rows.boot_dict rfl) pa_nil))))) (pw_or1 (pt_cmpR op_ne (pe_callB call_lenD (by rfl) T.len PySem.boot_len (pa_cons (pv 0) pa_nil)) (pe_callB call_len_seq (by rfl) T.len PySem.boot_len (pa_cons (pv 1) pa_nil)) (nomark _))))) (pss_one (ps_ret (pe_bl))) (pss_nil))
      (pss_cons (ps_lock (ps_setLc (i := 2) (own := [("_law_one", 3)]) (g := gName 3) (tt := tYes) rfl sc_table_is.nd rfl rfl (sw_true rfl rfl rfl (by decide +kernel)) (pi_keys (pv 0)) (blkOk_by (own := [("_law_one", 3)]) (N := ["_law_told", "_law_pairs_here", "_law_order", "_law_one", "_law_k", "_law_worth_here"]) (sc := C8.fnScope s_table_is) (by decide +kernel)) (fun _ _ _ _ _ => pg_name (i := 3) sc_table_is.nd rfl (by first | exact Or.inl rfl | exact Or.inr rfl)) (fun _ _ _ _ _ => pts_nil) (fun _ _ _ _ _ => pv 3)))
      (pss_cons (ps_for PassesOwn.never rfl (pi_range1 rfl T.range (pa_cons (pe_callB call_len_seq (by rfl) T.len PySem.boot_len (pa_cons (pv 1) pa_nil)) pa_nil)) (pg_name (i := 4) sc_table_is.nd rfl (by first | exact Or.inl rfl | exact Or.inr rfl))
        (pss_cons (ps_if (PW.pt (pw_or (pt_not (pt_val (pe_callB call_isi (by rfl) T.isinstance (by decide +kernel) (pa_cons (pe_ix ix_list (pv 2) (pv 4) (fun _ _ => rfl)) (pa_cons (pe_bltn (v := .ty "str") rfl T.str PyProof.Rows.boot_str rfl) pa_nil))))) (pw_or1 (pt_cmpR op_ne (pe_ix ix_list (pv 2) (pv 4) (fun _ _ => rfl)) (pe_ix ix_tup (pe_ix ix_list (pv 1) (pv 4) (fun _ _ => rfl)) (pe_int) (fun _ _ => rfl)) (nomark _))))) (pss_one (ps_ret (pe_bl))) (pss_nil))
      (pss_cons (ps_set (i := 5) sc_table_is.nd rfl (by first | exact Or.inl rfl | exact Or.inr rfl) (pe_dget hu (pv 0) (pe_ix ix_list (pv 2) (pv 4) (fun _ _ => rfl)) (fun _ _ => rfl)))
      (pss_one (ps_if (PW.pt (pw_or (pt_not (pt_val (C8.pe_c c_is_integer hr (by decide) rfl (pa_cons (pv 5) pa_nil)))) (pw_or1 (pt_cmpR op_ne (pv 5) (pe_ix ix_tup (pe_ix ix_list (pv 1) (pv 4) (fun _ _ => rfl)) (pe_int) (fun _ _ => rfl)) (nomark _))))) (pss_one (ps_ret (pe_bl))) (pss_nil))))))
      (pss_one (ps_ret (pe_bl))))), ?_⟩
    obtain ⟨vs, hvs, pv⟩ := M
    have lvs : vs.length = prs.length := Paired.length pv
    refine ⟨_, rfl, _, _, _, _, true, rfl, .ty "dict", .base (.dK htd), kit_same, _, rfl, iteF' rfl ⟨_, rfl, td, _, rfl, htd, _, rfl, pp, _, rfl,   .inl (SqL.of hvs), rfl, _, rfl, iteF' (by rw [lvs, decide_eq_true rfl]; rfl) ?_⟩⟩
    refine ⟨td, _, htd, True.intro, fun od => ?_⟩
    have f1 : Fr [td] H (upd H td (.frz od (.dK prs))) := Fr.set (by simp) htd fun xs z => by cases z
    have e1 : (upd H td (.frz od (.dK prs))) td = some (.frz od (.dK prs)) := upd_same
    have back1 : upd (upd H td (.frz od (.dK prs))) td (.dK prs) = H := by
      funext y
      by_cases hy : y = td
      · rw [hy, upd_same, htd]
      · rw [upd_ne hy, upd_ne hy]
    generalize hG : upd H td (.frz od (.dK prs)) = G at f1 e1 back1 ⊢
    refine ⟨_, rfl, td, od, rfl, .inl ⟨prs, e1, fun D hD => ?_⟩⟩
    have f2 : Fr [] G (upd G D (.lst [])) := Fr.new hD
    refine lc_keysL (Pv := fun i H' => Fr [D] G H' ∧ H' D = some (.lst ((prs.take i).map fun p => kV p.1))) ⟨f2.in, upd_same⟩ (fun i H' _ z => z.1.all _ _ e1 (fun m => by rw [← List.mem_singleton.mp m, e1] at hD; cases hD)) ?_ ?_
    · rintro i k v H' hk ⟨f3, e3⟩
      refine ⟨rfl, ?_⟩
      refine (show ∃ _, _ from ⟨_, rfl, _, e3, ?_, ?_, ?_⟩)
      · rw [List.length_map, List.length_take]
        exact small10000 (by omega)
      · exact f3.then (Fr.set (by simp) e3 fun xs z => by cases z)
      · rw [upd_same, take_more hk, List.map_append]
        rfl
    · rintro H' ⟨f3, e3⟩
      rw [List.take_length] at e3
      refine ⟨f3.all _ _ e1 (fun m => by rw [← List.mem_singleton.mp m, e1] at hD; cases hD), ?_⟩
      have ne0 : ∀ {b o}, H b = some o → b ≠ D := fun {b o} e z => by
        rw [z] at e
        have := f1.all D o e (fun m => by rw [List.mem_singleton.mp m, e1] at hD; cases hD)
        rw [hD] at this
        cases this
      have fq : Fr [] H (upd H' td (.dK prs)) := by
        refine ⟨fun b o e _ => ?_, fun b xs e => ?_⟩
        · by_cases hb : b = td
          · rw [hb, upd_same, ← e, hb, htd]
          · rw [upd_ne hb]
            exact f3.all _ _ (f1.all _ _ e (by simp; exact hb)) (by simp; exact ne0 e)
        · have hb : b ≠ td := fun z => by rw [z, htd] at e; cases e
          rw [upd_ne hb]
          exact f3.tup _ _ (f1.tup _ _ e)
      have eD : (upd H' td (.dK prs)) D = some (.lst (prs.map fun p => kV p.1)) := by
        have nD : D ≠ td := fun z => by
          rw [z, e1] at hD
          cases hD
        rw [upd_ne nD]
        exact e3
      generalize upd H' td (.dK prs) = H2 at fq eD ⊢
      clear e3 f3 f2 hD ne0 back1 e1 f1
      have htd2 := fq.all _ _ htd (by simp)
      have hvs2 := fq.all _ _ hvs (by simp)
      have pv2 : Paired (PairV H2) vs prs := Paired.mapP pv fun _ _ z => z.fr fq
      refine ⟨_, rfl, pp, _, rfl, .inl (SqL.of hvs2), vs.length, rfl, by omega, by omega, ?_⟩
      refine for_range (fun i σ H' => H' = H2 ∧ ∃ v3 v4 v5 : Option V, σ = [some (.ref td), some (.ref pp), some (.ref D), v3, v4, v5]) ⟨rfl, _, _, _, rfl⟩ ?_ ?_
      · rintro i σ _ hi ⟨rfl, v3, v4, v5, rfl⟩
        rw [Int.zero_add]
        have hi2 : i < prs.length := by omega
        obtain ⟨x, hx, t, k, z, ep, ev, ht⟩ := paired_get_r pv2 (List.getElem?_eq_getElem hi2)
        subst ev
        have hD : (prs.map fun p => kV p.1)[i]? = some (.str k) := by
          rw [List.getElem?_map, List.getElem?_eq_getElem hi2, ep]
          rfl
        have hv := valV_at ok.nd (by rw [List.getElem?_eq_getElem hi2, ep] : prs[i]? = some (.inr k, .int z))
        refine ⟨_, rfl, _, rfl, D, _, _, _, rfl, rfl, SqL.of eD, atI_nat hD, _, _, _, _, true, rfl, .ty "str", .base (.str k), kit_same, _, rfl, iteF' rfl ?_⟩
        refine ⟨_, rfl, _, rfl, D, _, _, _, rfl, rfl, SqL.of eD, atI_nat hD, _, rfl, _, rfl, pp, _, _, _, rfl, rfl, SqL.of hvs2, atI_nat hx, t, _, _, _, rfl, rfl, SqT.of ht, atI_nat (j := 0) rfl, rfl, _, rfl, iteF' (by rw [decide_eq_true rfl]; rfl) ?_⟩
        refine ⟨_, rfl, _, rfl, _, rfl, D, _, _, _, rfl, rfl, SqL.of eD, atI_nat hD, td, _, rfl, by rw [← hv]; exact DGet.k (k := Sum.inr k) htd2, ?_⟩
        refine ⟨_, rfl, z, rfl, _, rfl, iteF' rfl ?_⟩
        refine ⟨_, rfl, _, rfl, _, rfl, pp, _, _, _, rfl, rfl, SqL.of hvs2, atI_nat hx, t, _, _, _, rfl, rfl, SqT.of ht, atI_nat (j := 1) rfl, rfl, _, rfl, iteF' (by rw [decide_eq_true rfl]; rfl) ⟨rfl, _, _, _, rfl⟩⟩
      · rintro σ _ ⟨rfl, v3, v4, v5, rfl⟩
        exact q _ fq
end
end Cg

set_option Elab.async false
set_option linter.all false
set_option maxRecDepth 100000
set_option maxHeartbeats 400000
namespace Cg
open PySem PySem.Spec PyProof.Rows L2
section
variable {P : Program} {w : World} {K : PySem.W.Frag} {mg : Str → Option Value} {base : Heap} {f : Addr} {fd : FuncData} {CL CS : Addr} {xc : XC}
/-! ### _law_table_holds -/
def sp_table_holds (CL CS : Addr) : Sp := fun vs H Q _ => ∃ (a : SAd) (m : MAd) (c : Cfg) (n : Nat) (s : Sg Str) (d : Int) (kvs : List (Key × V)) (pl : Addr), vs = [.ref a.x, .ref m.m, .ref pl] ∧ SegAt CL CS H a c n s d kvs ∧ ModAt H m c s d ∧ OkL c.w s ∧ KvOk (liv s.1) kvs ∧ H pl = some (.dK kvs) ∧ ∀ H', Fr [] H H' → Q (.bl true) H'
abbrev s_table_holds : Stmt := topS 47
theorem sc_table_holds : FnScope ["_law_store", "_law_model_here", "_law_plain", "_law_pairs_here", "_law_told"] ["_law_store", "_law_model_here", "_law_plain"] (C8.fnScope s_table_holds) := C8.fnScope_by (by decide +kernel)
theorem k_table_holds (T : Bi mg) (F : C8.Def K mg "_law_table_holds" s_table_holds f fd) (b : Binds K fd ["_law_store", "_law_model_here", "_law_plain"] []) (c_pairs : C8.Cal P w K mg base 1 "_law_pairs" sp_pairs []) (c_s_table : C8.Met P w K mg base 1 CS "table" (sp_s_table CL CS) [])
    (c_s___len : C8.Met P w K mg base 1 CS "__len__" (sp_s_len CL CS) []) (c_table_is : C8.Cal P w K mg base 2 "_law_table_is" sp_table_is []) : C8.Cal P w K mg base 3 "_law_table_holds" (sp_table_holds CL CS) [] := by
  refine C8.cal0 F b .nil sc_table_holds (fun vs H Q E h => ?_) (fun cdv A outer s0 H vs Q E hr h => ?_)
  · obtain ⟨a, m, c, n, s, d, kvs, pl, rfl, _⟩ := h
    rfl
  · obtain ⟨a, m, c, n, s, d, kvs, pl, rfl, S, M, ok, kv, hpl, q⟩ := h
    have hu := hu_of hr
    refine ⟨_, pss_cons (ps_set (i := 3) sc_table_holds.nd rfl (by first | exact Or.inl rfl | exact Or.inr rfl) (C8.pe_c c_pairs hr (by decide) rfl (pa_cons (pv 1) (pa_cons (pv 2) pa_nil))))
      (pss_cons (ps_set (i := 4) sc_table_holds.nd rfl (by first | exact Or.inl rfl | exact Or.inr rfl) (C8.pe_mt0 c_s_table hr (by decide) (pv 0)))
      (pss_cons (ps_if (PW.pt (pw_or (pt_not (pt_val (C8.pe_c c_table_is hr (by decide) rfl (pa_cons (pv 4) (pa_cons (pv 3) pa_nil))))) (pw_or1 (pt_cmpR op_ne (pe_callB (call_len_seg c_s___len hr (by decide)) (by rfl) T.len PySem.boot_len (pa_cons (pv 0) pa_nil)) (pe_callB call_lenD (by rfl) T.len PySem.boot_len (pa_cons (pv 2) pa_nil)) (nomark _))))) (pss_one (ps_ret (pe_bl))) (pss_nil))
      (pss_cons (ps_expr (pe_dclear (pv 4)))
      (pss_one (ps_ret (C8.pe_c c_table_is hr (by decide) rfl (pa_cons (C8.pe_mt0 c_s_table hr (by decide) (pv 0)) (pa_cons (pv 3) pa_nil)))))))), ?_⟩
    refine ⟨_, rfl, _, rfl, m, c, s, d, kvs, pl, rfl, M, ok, kv, hpl, fun H1 p f1 hp pa => ?_⟩
    have S1 := S.fr0 f1
    obtain ⟨dx, cr, wt, e⟩ := S1.ob
    refine ⟨_, rfl, a.x, dx, _, rfl, e, rfl, a, c, n, s, d, kvs, rfl, S1, ok, kv, fun H2 t f2 ht e2 => ?_⟩
    have tp : p ≠ t := fun z => by
      obtain ⟨vs, e5, _⟩ := pa
      rw [z, ht] at e5
      cases e5
    refine ⟨_, rfl, _, rfl, t, p, _, rfl, e2, pa.fr f2 (by simp), tab_ok ok kv, fun H3 f3 => ⟨_, rfl, iteF' rfl ?_⟩⟩
    have S3 := S1.fr0 (f2.then f3)
    have hpl3 := ((f1.then f2).then f3).all _ _ hpl (by simp)
    have e3 := f3.all _ _ e2 (by simp)
    obtain ⟨dx3, cr3, wt3, eo⟩ := S3.ob
    have hk : kvs.length ≤ 10000 := by
      rw [kv.len]
      exact ok.liv_len
    refine ⟨_, rfl, a.x, dx3, _, rfl, eo, a, c, n, s, d, kvs, rfl, S3, (kvs.length : Nat), rfl, by omega, by omega, _, rfl, pl, _, rfl, hpl3, rfl, _, rfl, iteF' (by rw [decide_eq_true rfl]; rfl) ?_⟩
    refine ⟨_, rfl, .inr (.inr (.inl ⟨rfl, .inl ⟨_, e3⟩⟩)), t, _, rfl, rfl, e3, ?_⟩
    have f4 : Fr [t] H3 (upd H3 t (.dK [])) := Fr.set (by simp) e3 fun xs z => by cases z
    generalize upd H3 t (.dK []) = H4 at f4 ⊢
    have ht0 : H t = none := f1.free ht fun x h => by cases h
    have f5 : Fr [] H H4 := (((f1.then f2).then f3).in.then f4).outs fun x hx => by rw [List.mem_singleton.mp hx]; exact ht0
    have S4 := S.fr0 f5
    have pa4 := ((pa.fr f2 (by simp)).fr f3 (by simp)).fr f4 (fun z => tp (List.mem_singleton.mp z))
    obtain ⟨dx4, cr4, wt4, eo4⟩ := S4.ob
    refine ⟨_, rfl, a.x, dx4, _, rfl, eo4, rfl, a, c, n, s, d, kvs, rfl, S4, ok, kv, fun H5 t5 f6 ht5 e5 => ?_⟩
    exact ⟨_, rfl, t5, p, _, rfl, e5, pa4.fr f6 (by simp), tab_ok ok kv, fun H6 f7 => q H6 ((f5.then f6).then f7)⟩
end
end Cg

set_option Elab.async false
set_option linter.all false
set_option maxRecDepth 100000
set_option maxHeartbeats 400000
namespace Cg
open PySem PySem.Spec PyProof.Rows L2
def dRef : Ref → PyData
  | .limit b => .tuple [.str "KeyLimit", .int b, .bool true]
  | .bad n => .tuple [.str "BadChoice", .int n, .bool true]
  | .stall n => .tuple [.str "Stalled", .int n, .bool true]
theorem dRef_shaped (r : Ref) : SeqAt.shaped (dRef r) = true := by
  cases r <;> (unfold dRef SeqAt.shaped; simp [PyData.canLay0, PyData.canLayAll0, PyData.depth, PyData.depthAll]; decide +kernel)
theorem dp_ref {K : PySem.W.Frag} {H : Hp} {p : Addr} {r : Ref} (h : H p = some (.tup (refT r))) : Dp K H (.ref p) (dRef r) := by
  cases r <;> exact .tup (SqT.of h) (.cons (.str _) (.cons (.int _) (.cons (.bl _) .nil)))
theorem eqv_shaped {d : PyData} (h : SeqAt.shaped d = true) : PyData.eqv d d = true := PySem.SeqAt.eqv_refl d (SeqAt.canLay_of_shaped h)
def dUnk (k : Str) : PyData := .tuple [.str "UnknownKey", .str k, .bool true]
theorem good_strOk {k : Str} (g : Good k) : PyData.strOk k = true := by
  unfold PyData.strOk
  rw [Array.all_eq_true]
  intro i hi
  have h := g.all k.cps[i] (by simp)
  have : ∀ x ∈ SG.cps.toList, x < 0x110000 := by decide +kernel
  exact decide_eq_true (this _ h)
theorem dUnk_shaped {k : Str} (g : Good k) : SeqAt.shaped (dUnk k) = true := by
  unfold dUnk SeqAt.shaped
  simp [PyData.canLay0, PyData.canLayAll0, PyData.depth, PyData.depthAll, good_strOk g]
  decide +kernel
theorem dp_unk {K : PySem.W.Frag} {H : Hp} {p : Addr} {k : Str} (h : H p = some (.tup [.str "UnknownKey", .str k, .bl true])) : Dp K H (.ref p) (dUnk k) :=
  .tup (SqT.of h) (.cons (.str _) (.cons (.str _) (.cons (.bl _) .nil)))
/-! ### one side: the store, the model, the plain dict -/
structure SideAt (CL CS : Addr) (H : Hp) (a : SAd) (m : MAd) (pl : Addr) (c : Cfg) (n : Nat) (s : Sg Str) (d : Nat) (kvs : List (Key × V)) : Prop where
  st : SegAt CL CS H a c n s d kvs
  md : ModAt H m c s d
  hp : H pl = some (.dK kvs)
  kv : KvOk (liv s.1) kvs
  ok : Ok c s
  am : ∀ x ∈ a.fp, x ∉ m.fp
  pa : pl ∉ a.fp
  pm : pl ∉ m.fp
section
variable {CL CS : Addr} {H H2 H3 : Hp} {a a' : SAd} {m p2 : MAd} {pl : Addr} {c : Cfg} {n : Nat} {s s' : Sg Str} {d d' : Nat} {kvs kvs' : List (Key × V)}
theorem Ok.l (o : Ok c s) : OkL c.w s := ⟨o.wf, o.wsm, o.lsm⟩
theorem SideAt.fr {S : List Addr} (D : SideAt CL CS H a m pl c n s d kvs) (f : Fr S H H2) (h : ∀ x ∈ pl :: (a.fp ++ m.fp), x ∉ S) : SideAt CL CS H2 a m pl c n s d kvs :=
  ⟨D.st.fr f fun y hy => h y (by simp [hy]), D.md.fr f fun y hy => h y (by simp [hy]), f.all _ _ D.hp (h pl (by simp)), D.kv, D.ok, D.am, D.pa, D.pm⟩
theorem SideAt.fr0 (D : SideAt CL CS H a m pl c n s d kvs) (f : Fr [] H H2) : SideAt CL CS H2 a m pl c n s d kvs := D.fr f fun x _ z => by cases z
theorem SideAt.there (D : SideAt CL CS H a m pl c n s d kvs) : ∀ x ∈ pl :: (a.fp ++ m.fp), (H x).isSome = true := fun x hx => by
  rcases List.mem_cons.mp hx with h | h
  · rw [h, D.hp]; rfl
  rcases List.mem_append.mp h with h | h
  · exact D.st.there x h
  · exact D.md.there x h
/-- behind a turn -/
def SideTo (CL CS : Addr) (H : Hp) (a : SAd) (m : MAd) (pl : Addr) (c : Cfg) (n : Nat) (d : Nat) (H' : Hp) (m' : MAd) : Prop :=
  ∃ (a' : SAd) (s' : Sg Str) (d' : Nat) (kvs' : List (Key × V)), SideAt CL CS H' a' m' pl c n s' d' kvs' ∧ d' ≤ d + 1 ∧ a'.x = a.x ∧ Fr (pl :: a.fp) H H' ∧ ∀ x ∈ a'.fp ++ m'.fp, x ∈ a.fp ++ m.fp ∨ H x = none
theorem SideAt.stays (D : SideAt CL CS H a m pl c n s d kvs) (f : Fr [] H H2) : SideTo CL CS H a m pl c n d H2 m :=
  ⟨a, s, d, kvs, D.fr0 f, by omega, rfl, f.in, fun x hx => .inl hx⟩
theorem SideAt.turned (D : SideAt CL CS H a m pl c n s d kvs) (f2 : Fr [] H H2) (M2 : ModAt H2 p2 c s' d') (n2 : ∀ x ∈ p2.fp, H x = none) (t3 : SegTo CL CS H2 a c n s' d' kvs' H3 a') (kv : KvOk (liv s'.1) kvs') (ok : Ok c s') (hd : d' ≤ d + 1) :
    H3 pl = some (.dK kvs) ∧ SideTo CL CS H a m pl c n d (upd H3 pl (.dK kvs')) p2 := by
  obtain ⟨f3, ex, fx, S3⟩ := t3
  have h2 := f2.all _ _ D.hp (by simp)
  have h3 := f3.all _ _ h2 D.pa
  have pn : pl ∉ p2.fp := fun z => by
    have := n2 _ z
    rw [D.hp] at this
    cases this
  have pa' : pl ∉ a'.fp := fun z => (fx _ z).elim D.pa fun e => by rw [h2] at e; cases e
  have ap : ∀ x ∈ p2.fp, x ∉ a.fp := fun x hx z => by
    have := D.st.there x z
    rw [n2 x hx] at this
    cases this
  have f4 : Fr [pl] H3 (upd H3 pl (.dK kvs')) := Fr.set (by simp) h3 fun xs z => by cases z
  have h4 : (upd H3 pl (.dK kvs')) pl = some (.dK kvs') := upd_same
  refine ⟨h3, a', s', d', kvs', ⟨S3.fr f4 fun y hy z => pa' (List.mem_singleton.mp z ▸ hy), (M2.fr f3 ap).fr f4 fun y hy z => pn (List.mem_singleton.mp z ▸ hy), h4, kv, ok, fun x hx hz => ?_, pa', pn⟩, hd, ex, ?_, fun x hx => ?_⟩
  · rcases fx x hx with h | h
    · exact ap x hz h
    · have := M2.there x hz
      rw [h] at this
      cases this
  · exact ((f2.in.then (f3.mono fun x hx => List.mem_cons_of_mem _ hx)).then (f4.mono fun x hx => by rw [List.mem_singleton.mp hx]; simp))
  · rcases List.mem_append.mp hx with h | h
    · rcases fx x h with h' | h'
      · exact .inl (List.mem_append_left _ h')
      · exact .inr (f2.free h' fun x h => by cases h)
    · exact .inr (n2 x h)
end
section
variable {P : Program} {w : World} {K : PySem.W.Frag} {mg : Str → Option Value} {base : Heap} {f : Addr} {fd : FuncData} {CL CS : Addr} {xc : XC}
/-! ### _law_turn -/
def sp_turn (CL CS : Addr) : Sp := fun vs H Q _ => ∃ (a : SAd) (m : MAd) (pl : Addr) (c : Cfg) (n : Nat) (s : Sg Str) (d : Nat) (kvs : List (Key × V)) (kind : Int) (k : Str) (v : Int) (pa : Addr) (ps : List Int) (bb : Nat), vs = [.ref a.x, .ref m.m, .ref pl, .int kind, .str k, .int v, .ref pa] ∧ SideAt CL CS H a m pl c n s d kvs ∧ Good k ∧
  H pa = some (.lst (ps.map V.int)) ∧ ps.length ≤ 12 ∧ d ≤ 300 ∧ c.bound = (bb : Nat) ∧ bb ≤ 300 ∧ ∀ H' m', SideTo CL CS H a m pl c n d H' m' → Q (.ref m'.m) H'
abbrev s_turn : Stmt := topS 44
theorem sc_turn : FnScope ["_law_store", "_law_model_here", "_law_plain", "_law_kind", "_law_name", "_law_worth_here", "_law_picks_here", "_law_probe", "_law_due", "_law_told"] ["_law_store", "_law_model_here", "_law_plain", "_law_kind", "_law_name", "_law_worth_here", "_law_picks_here"] (C8.fnScope s_turn) := C8.fnScope_by (by decide +kernel)
theorem k_turn (T : Bi mg) (F : C8.Def K mg "_law_turn" s_turn f fd) (b : Binds K fd ["_law_store", "_law_model_here", "_law_plain", "_law_kind", "_law_name", "_law_worth_here", "_law_picks_here"] []) (c_copy : C8.Cal P w K mg base 1 "_law_copy" sp_copy []) (c_drop : C8.Cal P w K mg base 3 "_law_drop" sp_drop [])
    (c_told_drop : C8.Cal P w K mg base 4 "_law_told_drop" (sp_told_drop xc CL CS) []) (c_put : C8.Cal P w K mg base 5 "_law_put" sp_put []) (c_told_put : C8.Cal P w K mg base 7 "_law_told_put" (sp_told_put xc CL CS) []) : C8.Cal P w K mg base 8 "_law_turn" (sp_turn CL CS) [] := by
  refine C8.cal0 F b .nil sc_turn (fun vs H Q E h => ?_) (fun cdv A outer s0 H vs Q E hr h => ?_)
  · obtain ⟨a, m, pl, c, n, s, d, kvs, kind, k, v, pa, ps, bb, rfl, _⟩ := h
    rfl
  · obtain ⟨a, m, pl, c, n, s, d, kvs, kind, k, v, pa, ps, bb, rfl, D, gk, hpa, hps, hd, hbb, hb3, q⟩ := h
    have hu := hu_of hr
    refine ⟨_, pss_cons (ps_set (i := 7) sc_turn.nd rfl (by first | exact Or.inl rfl | exact Or.inr rfl) (C8.pe_c c_copy hr (by decide) rfl (pa_cons (pv 1) pa_nil)))
      (pss_cons (ps_if (pt_cmpR op_eq (pv 3) (pe_int) (nomark _)) (pss_cons (ps_set (i := 8) sc_turn.nd rfl (by first | exact Or.inl rfl | exact Or.inr rfl) (C8.pe_c c_drop hr (by decide) rfl (pa_cons (pv 7) (pa_cons (pv 4) pa_nil))))
      (pss_one (ps_set (i := 9) sc_turn.nd rfl (by first | exact Or.inl rfl | exact Or.inr rfl) (C8.pe_c c_told_drop hr (by decide) rfl (pa_cons (pv 0) (pa_cons (pv 4) pa_nil)))))) (pss_cons (ps_set (i := 8) sc_turn.nd rfl (by first | exact Or.inl rfl | exact Or.inr rfl) (C8.pe_c c_put hr (by decide) rfl (pa_cons (pv 7) (pa_cons (pv 4) (pa_cons (pv 5) (pa_cons (pv 6) pa_nil))))))
      (pss_one (ps_set (i := 9) sc_turn.nd rfl (by first | exact Or.inl rfl | exact Or.inr rfl) (C8.pe_c c_told_put hr (by decide) rfl (pa_cons (pv 0) (pa_cons (pv 4) (pa_cons (pv 5) (pa_cons (pv 6) pa_nil)))))))))
      (pss_cons (ps_if (pt_cmpR (op_neD hr.units) (pv 9) (pv 8) (nomark _)) (pss_one (ps_ret (pe_non))) (pss_nil))
      (pss_cons (ps_if (pt_cmp (pc_notN (pv 8))) (pss_one (ps_ret (pv 1))) (pss_nil))
      (pss_cons (ps_if (pt_cmpR op_eq (pv 3) (pe_int) (nomark _)) (pss_one (ps_expr (pe_dpop1 (pv 2) (pv 4) ⟨by rfl, by rfl, by rfl, by rfl⟩))) (pss_one (ps_dput hu (pv 2) (pv 4) (pv 5) rfl)))
      (pss_one (ps_ret (pv 7))))))), ?_⟩
    refine ⟨_, rfl, m, c, s, d, rfl, D.md, D.ok, fun H1 p1 f1 n1 M1 => ?_⟩
    have D1 := D.fr0 f1
    refine ⟨_, rfl, rfl, _, rfl, ite2 (fun hb => ?_) (fun hb => ?_)⟩
    · refine ⟨_, rfl, _, rfl, p1, c, s, d, k, rfl, M1, D.ok, fun en H2 p f2 hp e2 => ?_, fun i j ef H2 p2 t2 => ?_⟩
      · have S2 := D1.st.fr0 f2
        refine ⟨_, rfl, _, rfl, a, c, n, s, d, kvs, k, rfl, S2, D.ok.l, D.kv, gk, fun _ H3 p3 f3 e3 => ?_, fun i j ef => by rw [en] at ef; cases ef⟩
        refine ⟨_, rfl, _, rfl, dUnk k, dUnk k, dp_unk e3, dp_unk (f3.tup _ _ e2), dUnk_shaped gk, dUnk_shaped gk, _, rfl, iteF' (by rw [eqv_shaped (dUnk_shaped gk)]; rfl) ?_⟩
        exact ⟨_, rfl, _, rfl, iteT' rfl ⟨_, rfl, q H3 m (D.stays ((f1.then f2).then f3))⟩⟩
      · obtain ⟨g2, em2, fx2, M2⟩ := t2
        have S2 := D1.st.fr g2 fun y hy z => by
          have := D.st.there y hy
          rw [n1 y z] at this
          cases this
        have f2 : Fr [] H H2 := (f1.in.then g2).outs n1
        have n2 : ∀ x ∈ p2.fp, H x = none := fun x hx => (fx2 x hx).elim (fun h => n1 x h) fun h => f1.free h fun x h => by cases h
        rw [← em2]
        refine ⟨_, rfl, _, rfl, a, c, n, s, d, kvs, k, rfl, S2, D.ok.l, D.kv, gk, fun en => (by rw [en] at ef; cases ef), fun i' j' ef' H3 a' t3 => ?_⟩
        rw [ef] at ef'
        cases ef'
        have hk : k ∈ liv s.1 := mem_liv.mpr ⟨rowAt s.1 i, rowAt_mem (spot_lt (findR_at ef)), List.mem_of_getElem? (findR_at ef)⟩
        obtain ⟨z, hz⟩ := D.kv.get hk
        obtain ⟨h3, done⟩ := D.turned f2 M2 n2 t3 (D.kv.drop (liv_kill (findR_at ef))) ⟨D.ok.wf.kill i j, D.ok.wsm, by show (killR _ _ _).length ≤ 100; rw [killR_len]; exact D.ok.lsm⟩ (by omega)
        refine ⟨_, rfl, _, rfl, .none, .none, .non, .non, by rfl, by rfl, _, rfl, iteF' (by rfl) ?_⟩
        refine ⟨_, rfl, _, rfl, iteF' rfl ?_⟩
        refine ⟨_, rfl, rfl, _, rfl, iteT' hb ?_⟩
        exact ⟨_, rfl, pl, rfl, .inl ⟨kvs, Rd.of h3⟩, _, rfl, kvs, .inr k, _, h3, rfl, hz, _, rfl, q _ p2 done⟩
    · have hpa1 := f1.all _ _ hpa (by simp)
      have pn : pa ∉ p1.fp := fun z => by
        have := n1 _ z
        rw [hpa] at this
        cases this
      have lf : ∀ {S2 : Hp}, Fr p1.fp H1 S2 → Fr [] H S2 := fun g => (f1.in.then g).outs n1
      refine ⟨_, rfl, _, rfl, _, rfl, _, rfl, p1, c, s, d, k, v, pa, ps, rfl, M1, D.ok, hpa1, pn, fun r er H2 p g2 e2 => ?_, fun s' es H2 p2 t2 => ?_⟩
      · have f2 := lf g2
        have S2 := D.st.fr0 f2
        refine ⟨_, rfl, _, rfl, _, rfl, _, rfl, a, c, n, s, d, bb, kvs, k, v, pa, ps, rfl, S2, D.ok.l, D.kv, gk, f2.all _ _ hpa (by simp), hps, hd, hbb, hb3, fun r' er' H3 p3 f3 e3 => ?_, fun s' es => by rw [er] at es; cases es⟩
        rw [er] at er'
        cases er'
        refine ⟨_, rfl, _, rfl, dRef r, dRef r, dp_ref e3, dp_ref (f3.tup _ _ e2), dRef_shaped r, dRef_shaped r, _, rfl, iteF' (by rw [eqv_shaped (dRef_shaped r)]; rfl) ?_⟩
        exact ⟨_, rfl, _, rfl, iteT' rfl ⟨_, rfl, q H3 m (D.stays (f2.then f3))⟩⟩
      · obtain ⟨g2, em2, fx2, M2⟩ := t2
        have f2 := lf g2
        have S2 := D.st.fr0 f2
        have n2 : ∀ x ∈ p2.fp, H x = none := fun x hx => (fx2 x hx).elim (fun h => n1 x h) fun h => f1.free h fun x h => by cases h
        rw [← em2]
        refine ⟨_, rfl, _, rfl, _, rfl, _, rfl, a, c, n, s, d, bb, kvs, k, v, pa, ps, rfl, S2, D.ok.l, D.kv, gk, f2.all _ _ hpa (by simp), hps, hd, hbb, hb3, fun r' er' => (by rw [es] at er'; cases er'), fun s2 es' H3 a' t3 => ?_⟩
        rw [es] at es'
        cases es'
        obtain ⟨w1, w2, w3⟩ := putM_ok D.ok.wf es
        obtain ⟨h3, done⟩ := D.turned (d' := d + 1) f2 M2 n2 t3 (D.kv.put v w3) ⟨w1, D.ok.wsm, by rw [w2]; exact D.ok.lsm⟩ (by omega)
        refine ⟨_, rfl, _, rfl, .none, .none, .non, .non, by rfl, by rfl, _, rfl, iteF' (by rfl) ?_⟩
        refine ⟨_, rfl, _, rfl, iteF' rfl ?_⟩
        refine ⟨_, rfl, rfl, _, rfl, iteF' (by simpa using hb) ?_⟩
        exact ⟨_, rfl, _, rfl, _, rfl, pl, _, rfl, DPut.k (k := Sum.inr k) h3 (small10000 (by rw [D.kv.len]; have := D.ok.l.liv_len; omega)), _, rfl, q _ p2 done⟩
end
end Cg

set_option Elab.async false
set_option linter.all false
set_option maxRecDepth 100000
set_option maxHeartbeats 400000
namespace Cg
open PySem PySem.Spec PyProof.Rows L2
/-- what is kept of a side -/
structure Sd where
  a : SAd
  m : MAd
  pl : Addr
  s : Sg Str
  d : Nat
  kvs : List (Key × V)
def Sd.fp (x : Sd) : List Addr := x.pl :: (x.a.fp ++ x.m.fp)
abbrev Sd.At (CL CS : Addr) (H : Hp) (x : Sd) (c : Cfg) (n : Nat) : Prop := SideAt CL CS H x.a x.m x.pl c n x.s x.d x.kvs
theorem two_get {g : Nat → V} {i : Nat} (h : i < 2) : [g 0, g 1][i]? = some (g i) := by
  rcases (by omega : i = 0 ∨ i = 1) with e | e <;> (subst e; rfl)
theorem two_ix {i : Nat} {x y : V} (h : i < 2) : i < [x, y].length := h
section
variable {P : Program} {w : World} {K : PySem.W.Frag} {mg : Str → Option Value} {base : Heap} {f : Addr} {fd : FuncData} {CL CS : Addr} {xc : XC}
/-! ### _law_ends -/
def sp_ends (CL CS : Addr) : Sp := fun vs H Q _ => ∃ (X : Nat → Sd) (c : Nat → Cfg) (n : Nat) (sa ma pa na : Addr) (ks : List Str), vs = [.ref sa, .ref ma, .ref pa, .ref na] ∧ H sa = some (.lst [.ref (X 0).a.x, .ref (X 1).a.x]) ∧ H ma = some (.lst [.ref (X 0).m.m, .ref (X 1).m.m]) ∧ H pa = some (.lst [.ref (X 0).pl, .ref (X 1).pl]) ∧
  StrsAt H na ks ∧ (∀ x ∈ ks, Good x) ∧ ks.length ≤ 1000 ∧ (∀ i < 2, (X i).At CL CS H (c i) n) ∧ ∀ H', Fr [] H H' → Q (.bl true) H'
abbrev s_ends : Stmt := topS 49
theorem sc_ends : FnScope ["_law_stores", "_law_models", "_law_plains", "_law_names_here", "_law_side", "_law_name"] ["_law_stores", "_law_models", "_law_plains", "_law_names_here"] (C8.fnScope s_ends) := C8.fnScope_by (by decide +kernel)
theorem k_ends (T : Bi mg) (F : C8.Def K mg "_law_ends" s_ends f fd) (b : Binds K fd ["_law_stores", "_law_models", "_law_plains", "_law_names_here"] []) (c_table_holds : C8.Cal P w K mg base 3 "_law_table_holds" (sp_table_holds CL CS) [])
    (c_name_holds : C8.Cal P w K mg base 4 "_law_name_holds" (sp_name_holds xc CL CS) []) : C8.Cal P w K mg base 5 "_law_ends" (sp_ends CL CS) [] := by
  refine C8.cal0 F b .nil sc_ends (fun vs H Q E h => ?_) (fun cdv A outer s0 H vs Q E hr h => ?_)
  · obtain ⟨X, c, n, sa, ma, pa, na, ks, rfl, _⟩ := h
    rfl
  · obtain ⟨X, c, n, sa, ma, pa, na, ks, rfl, es, em, ep, hks, gk, lk, D, q⟩ := h
    have hu := hu_of hr
    refine ⟨_, pss_cons (ps_for PassesOwn.never rfl (pi_range1 rfl T.range (pa_cons (pe_int) pa_nil)) (pg_name (i := 4) sc_ends.nd rfl (by first | exact Or.inl rfl | exact Or.inr rfl))
        (pss_cons (ps_if (pt_not (pt_val (C8.pe_c c_table_holds hr (by decide) rfl (pa_cons (pe_ix ix_list (pv 0) (pv 4) (fun _ _ => rfl)) (pa_cons (pe_ix ix_list (pv 1) (pv 4) (fun _ _ => rfl)) (pa_cons (pe_ix ix_list (pv 2) (pv 4) (fun _ _ => rfl)) pa_nil)))))) (pss_one (ps_ret (pe_bl))) (pss_nil))
      (pss_one (ps_for PassesOwn.never rfl (pi_list (pv 3)) (pg_name (i := 5) sc_ends.nd rfl (by first | exact Or.inl rfl | exact Or.inr rfl))
        (pss_one (ps_if (pt_not (pt_val (C8.pe_c c_name_holds hr (by decide) rfl (pa_cons (pe_ix ix_list (pv 0) (pv 4) (fun _ _ => rfl)) (pa_cons (pe_ix ix_list (pv 2) (pv 4) (fun _ _ => rfl)) (pa_cons (pv 5) pa_nil)))))) (pss_one (ps_ret (pe_bl))) (pss_nil)))))))
      (pss_one (ps_ret (pe_bl))), ?_⟩
    refine ⟨2, rfl, by omega, by omega, ?_⟩
    refine for_range (fun i σ H' => Fr [] H H' ∧ ∃ v4 v5 : Option V, σ = [some (.ref sa), some (.ref ma), some (.ref pa), some (.ref na), v4, v5]) ⟨Fr.refl _ _, _, _, rfl⟩ ?_ ?_
    · rintro i σ H1 hi ⟨f1, v4, v5, rfl⟩
      rw [Int.zero_add]
      have hi2 : i < 2 := hi
      have D1 := (D i hi2).fr0 f1
      have es1 := f1.all _ _ es (by simp)
      have em1 := f1.all _ _ em (by simp)
      have ep1 := f1.all _ _ ep (by simp)
      refine ⟨_, rfl, _, rfl, sa, _, _, _, rfl, rfl, SqL.of es1, atI_nat (two_get (g := fun i => .ref (X i).a.x) hi2), _, rfl, _, rfl, ma, _, _, _, rfl, rfl, SqL.of em1, atI_nat (two_get (g := fun i => .ref (X i).m.m) hi2), _, rfl, _, rfl, pa, _, _, _, rfl, rfl, SqL.of ep1, atI_nat (two_get (g := fun i => .ref (X i).pl) hi2), ?_⟩
      refine ⟨_, _, _, _, _, _, _, _, rfl, D1.st, D1.md, D1.ok.l, D1.kv, D1.hp, fun H2 f2 => ⟨_, rfl, iteF' rfl ?_⟩⟩
      have f12 := f1.then f2
      refine ⟨_, rfl, na, rfl, ⟨_, SqL.of (f12.all _ _ hks (by simp))⟩, ?_⟩
      refine for_list (K := K) (a := na) (xs := ks.map V.str) (fun j σ H' => Fr [] H H' ∧ ∃ v5 : Option V, σ = [some (.ref sa), some (.ref ma), some (.ref pa), some (.ref na), some (.int (i : Nat)), v5]) ⟨f12, _, rfl⟩ (fun j σ H' _ z => SqL.of (z.1.all _ _ hks (by simp))) ?_ ?_
      · rintro j x σ H3 hx ⟨f3, v5, rfl⟩
        rw [List.getElem?_map] at hx
        cases hk : ks[j]? with
        | none => rw [hk] at hx; cases hx
        | some k =>
          rw [hk] at hx
          have ex : V.str k = x := Option.some.inj hx
          subst ex
          have D3 := (D i hi2).fr0 f3
          have es3 := f3.all _ _ es (by simp)
          have ep3 := f3.all _ _ ep (by simp)
          refine ⟨_, rfl, _, rfl, sa, _, _, _, rfl, rfl, SqL.of es3, atI_nat (two_get (g := fun i => .ref (X i).a.x) hi2), _, rfl, _, rfl, pa, _, _, _, rfl, rfl, SqL.of ep3, atI_nat (two_get (g := fun i => .ref (X i).pl) hi2), _, rfl, ?_⟩
          exact ⟨_, _, _, _, _, _, _, _, rfl, D3.st, D3.kv, D3.hp, gk k (List.mem_of_getElem? hk), fun H4 f4 => ⟨_, rfl, iteF' rfl ⟨f3.then f4, _, rfl⟩⟩⟩
      · rintro σ H3 ⟨f3, v5, rfl⟩
        exact ⟨f3, _, _, rfl⟩
    · rintro σ H1 ⟨f1, v4, v5, rfl⟩
      exact q _ f1
end
end Cg

set_option Elab.async false
set_option linter.all false
set_option maxRecDepth 100000
set_option maxHeartbeats 400000
namespace Cg
open PySem PySem.Spec PyProof.Rows L2
/-! ### regions apart -/
def Dis (R : List (List Addr)) : Prop := ∀ (i j : Nat) (r s : List Addr), i ≠ j → R[i]? = some r → R[j]? = some s → ∀ x ∈ r, x ∉ s
theorem Dis.nil : Dis [] := fun i j r s _ h => by simp at h
theorem Dis.cons {R : List (List Addr)} {H : Hp} {r : List Addr} (d : Dis R) (th : ∀ s ∈ R, ∀ x ∈ s, (H x).isSome = true) (hn : ∀ x ∈ r, H x = none) : Dis (r :: R) := by
  have one : ∀ s ∈ R, ∀ x ∈ s, x ∉ r := fun s hs x hx z => by
    have := th s hs x hx
    rw [hn x z] at this
    cases this
  intro i j a b ij ha hb x hx hy
  cases i with
  | zero =>
    have e : r = a := Option.some.inj ha
    subst e
    cases j with
    | zero => exact ij rfl
    | succ j => exact one b (List.mem_of_getElem? (show R[j]? = some b from hb)) x hy hx
  | succ i =>
    cases j with
    | zero =>
      have e : r = b := Option.some.inj hb
      subst e
      exact one a (List.mem_of_getElem? (show R[i]? = some a from ha)) x hx hy
    | succ j => exact d i j a b (fun z => ij (by rw [z])) ha hb x hx hy
/-- regions joined: own says whose a region is -/
theorem Dis.join {R S : List (List Addr)} (d : Dis R) (own : Nat → Nat) (h : ∀ (i : Nat) (s : List Addr), S[i]? = some s → ∀ x ∈ s, ∃ (j : Nat) (r : List Addr), R[j]? = some r ∧ x ∈ r ∧ own j = i) : Dis S := by
  intro i j a b ij ha hb x hx hy
  obtain ⟨i', r, h1, h2, h3⟩ := h i a ha x hx
  obtain ⟨j', t, k1, k2, k3⟩ := h j b hb x hy
  exact d i' j' r t (fun z => ij (by rw [← h3, ← k3, z])) h1 k1 x h2 k2
theorem Dis.set {R : List (List Addr)} {H : Hp} {i : Nat} {r r' : List Addr} (d : Dis R) (th : ∀ s ∈ R, ∀ x ∈ s, (H x).isSome = true) (hi : R[i]? = some r) (h : ∀ x ∈ r', x ∈ r ∨ H x = none) : Dis (R.set i r') := by
  have one : ∀ (j : Nat) (s : List Addr), i ≠ j → R[j]? = some s → ∀ x ∈ r', x ∉ s := fun j s ij hs x hx z => by
    rcases h x hx with q | q
    · exact d i j r s ij hi hs x q z
    · have := th s (List.mem_of_getElem? hs) x z
      rw [q] at this
      cases this
  have hl := (List.getElem?_eq_some_iff.mp hi).1
  intro a b s t ab ha hb x hx hy
  rw [List.getElem?_set] at ha hb
  by_cases ea : i = a
  · rw [if_pos ea, if_pos hl] at ha
    have e : r' = s := Option.some.inj ha
    subst e
    rw [if_neg (fun z => ab (ea.symm.trans z))] at hb
    exact one b t (fun z => ab (ea.symm.trans z)) hb x hx hy
  · rw [if_neg ea] at ha
    by_cases eb : i = b
    · rw [if_pos eb, if_pos hl] at hb
      have e : r' = t := Option.some.inj hb
      subst e
      exact one a s ea ha x hy hx
    · rw [if_neg eb] at hb
      exact d a b s t ab ha hb x hx hy
/-! ### all that the law keeps -/
structure Adr where
  b : Addr
  ca : Addr
  sa : Addr
  ma : Addr
  pa : Addr
  na : Addr
  ka : Addr
  da : Addr
def regs (A : Adr) (X : Nat → Sd) (kp du : Nat → Addr) : List (List Addr) := [[A.b, A.ca], [A.sa], [A.ma], [A.pa], [A.na], [A.ka], [A.da], (X 0).fp, (X 1).fp, [kp 0, kp 1, du 0, du 1]]
structure Big (CL CS : Addr) (H : Hp) (A : Adr) (cnt : Nat) (ks : List Str) (X : Nat → Sd) (c : Nat → Cfg) (n : Nat) (kp du : Nat → Addr) (pk pd : Nat → List (Key × V)) : Prop where
  box : BoxAt H A.b A.ca cnt
  es : H A.sa = some (.lst [.ref (X 0).a.x, .ref (X 1).a.x])
  em : H A.ma = some (.lst [.ref (X 0).m.m, .ref (X 1).m.m])
  ep : H A.pa = some (.lst [.ref (X 0).pl, .ref (X 1).pl])
  ek : H A.ka = some (.lst [.ref (kp 0), .ref (kp 1)])
  ed : H A.da = some (.lst [.ref (du 0), .ref (du 1)])
  hks : StrsAt H A.na ks
  D : ∀ i < 2, (X i).At CL CS H (c i) n
  tab : ∀ i < 2, H (kp i) = some (.dK (pk i))
  prs : ∀ i < 2, PairsAt H (du i) (pd i)
  dis : Dis (regs A X kp du)
theorem lt2 {i : Nat} (h : i < 2) : i = 0 ∨ i = 1 := by omega
section
variable {CL CS : Addr} {H H' H2 : Hp} {A : Adr} {cnt cnt' : Nat} {ks : List Str} {X : Nat → Sd} {c : Nat → Cfg} {n : Nat} {kp du : Nat → Addr} {pk pd : Nat → List (Key × V)}
theorem regs_side {i : Nat} (h : i < 2) : (regs A X kp du)[7 + i]? = some (X i).fp := by
  rcases lt2 h with e | e <;> (subst e; rfl)
theorem mem_kp {i : Nat} (h : i < 2) : kp i ∈ [kp 0, kp 1, du 0, du 1] := by
  rcases lt2 h with e | e <;> (subst e; simp)
theorem mem_du {i : Nat} (h : i < 2) : du i ∈ [kp 0, kp 1, du 0, du 1] := by
  rcases lt2 h with e | e <;> (subst e; simp)
theorem Big.there (B : Big CL CS H A cnt ks X c n kp du pk pd) : ∀ s ∈ regs A X kp du, ∀ x ∈ s, (H x).isSome = true := by
  intro s hs x hx
  unfold regs at hs
  simp only [List.mem_cons, List.not_mem_nil, or_false] at hs
  rcases hs with rfl | rfl | rfl | rfl | rfl | rfl | rfl | rfl | rfl | rfl
  · obtain ⟨xs, e, _⟩ := B.box.cells
    obtain ⟨r, sd, t, e2, _⟩ := B.box.ob
    simp only [List.mem_cons, List.not_mem_nil, or_false] at hx
    rcases hx with rfl | rfl
    · rw [e2]; rfl
    · rw [e]; rfl
  · rw [List.mem_singleton.mp hx, B.es]; rfl
  · rw [List.mem_singleton.mp hx, B.em]; rfl
  · rw [List.mem_singleton.mp hx, B.ep]; rfl
  · rw [List.mem_singleton.mp hx, show H A.na = _ from B.hks]; rfl
  · rw [List.mem_singleton.mp hx, B.ek]; rfl
  · rw [List.mem_singleton.mp hx, B.ed]; rfl
  · exact (B.D 0 (by omega)).there x hx
  · exact (B.D 1 (by omega)).there x hx
  · obtain ⟨v0, e0, _⟩ := B.prs 0 (by omega)
    obtain ⟨v1, e1, _⟩ := B.prs 1 (by omega)
    simp only [List.mem_cons, List.not_mem_nil, or_false] at hx
    rcases hx with rfl | rfl | rfl | rfl
    · rw [B.tab 0 (by omega)]; rfl
    · rw [B.tab 1 (by omega)]; rfl
    · rw [e0]; rfl
    · rw [e1]; rfl
/-- what is written lies within region j: all others stay -/
theorem Dis.off {R : List (List Addr)} (d : Dis R) {S : List Addr} {j : Nat} {r : List Addr} (hj : R[j]? = some r) (hS : ∀ x ∈ S, x ∈ r) (i : Nat) {s : List Addr} (ij : i ≠ j) (hi : R[i]? = some s) {x : Addr} (hx : x ∈ s) : x ∉ S :=
  fun z => d i j s r ij hi hj x hx (hS x z)
theorem Big.fr0 (B : Big CL CS H A cnt ks X c n kp du pk pd) (f : Fr [] H H') : Big CL CS H' A cnt ks X c n kp du pk pd :=
  ⟨B.box.fr f (by simp) (by simp), f.all _ _ B.es (by simp), f.all _ _ B.em (by simp), f.all _ _ B.ep (by simp), f.all _ _ B.ek (by simp), f.all _ _ B.ed (by simp), f.all _ _ B.hks (by simp),
    fun i hi => (B.D i hi).fr0 f, fun i hi => f.all _ _ (B.tab i hi) (by simp), fun i hi => (B.prs i hi).fr f (by simp), B.dis⟩
theorem Big.drawn (B : Big CL CS H A cnt ks X c n kp du pk pd) (f : Fr [A.b, A.ca] H H') (x : BoxAt H' A.b A.ca cnt') : Big CL CS H' A cnt' ks X c n kp du pk pd := by
  have o := @Dis.off _ B.dis [A.b, A.ca] 0 _ rfl fun x h => h
  exact ⟨x, f.all _ _ B.es (o 1 (by omega) rfl (by simp)), f.all _ _ B.em (o 2 (by omega) rfl (by simp)), f.all _ _ B.ep (o 3 (by omega) rfl (by simp)), f.all _ _ B.ek (o 5 (by omega) rfl (by simp)), f.all _ _ B.ed (o 6 (by omega) rfl (by simp)), f.all _ _ B.hks (o 4 (by omega) rfl (by simp)),
    fun i hi => (B.D i hi).fr f fun y hy => o (7 + i) (by omega) (regs_side hi) hy, fun i hi => f.all _ _ (B.tab i hi) (o 9 (by omega) rfl (mem_kp hi)), fun i hi => (B.prs i hi).fr f (o 9 (by omega) rfl (mem_du hi)), B.dis⟩
/-- kept[i] = p -/
theorem Big.keepK (B : Big CL CS H A cnt ks X c n kp du pk pd) {i : Nat} (hi : i < 2) (f : Fr [] H H') {p : Addr} {pr : List (Key × V)} (hp : H p = none) (e : H' p = some (.dK pr)) :
    H' A.ka = some (.lst [.ref (kp 0), .ref (kp 1)]) ∧ Big CL CS (upd H' A.ka (.lst ([V.ref (kp 0), V.ref (kp 1)].set i (.ref p)))) A cnt ks X c n (fun j => if j = i then p else kp j) du (fun j => if j = i then pr else pk j) pd := by
  have B1 := B.fr0 f
  have o := @Dis.off _ B1.dis [A.ka] 5 _ rfl fun x h => h
  have np : p ≠ A.ka := fun z => by rw [z, B.ek] at hp; cases hp
  have g : Fr [A.ka] H' (upd H' A.ka (.lst ([V.ref (kp 0), V.ref (kp 1)].set i (.ref p)))) := Fr.set (by simp) B1.ek fun xs z => by cases z
  have eg : (upd H' A.ka (.lst ([V.ref (kp 0), V.ref (kp 1)].set i (.ref p)))) A.ka = some (.lst ([V.ref (kp 0), V.ref (kp 1)].set i (.ref p))) := upd_same
  generalize upd H' A.ka (.lst ([V.ref (kp 0), V.ref (kp 1)].set i (.ref p))) = G at g eg ⊢
  refine ⟨B1.ek, B1.box.fr g (o 0 (by omega) rfl (by simp)) (o 0 (by omega) rfl (by simp)), g.all _ _ B1.es (o 1 (by omega) rfl (by simp)), g.all _ _ B1.em (o 2 (by omega) rfl (by simp)), g.all _ _ B1.ep (o 3 (by omega) rfl (by simp)), ?_, g.all _ _ B1.ed (o 6 (by omega) rfl (by simp)), g.all _ _ B1.hks (o 4 (by omega) rfl (by simp)),
    fun j hj => (B1.D j hj).fr g fun y hy => o (7 + j) (by omega) (regs_side hj) hy, fun j hj => ?_, fun j hj => (B1.prs j hj).fr g (o 9 (by omega) rfl (mem_du hj)), ?_⟩
  · rw [eg]
    rcases lt2 hi with q | q <;> (subst q; rfl)
  · by_cases q : j = i
    · subst q
      rw [if_pos rfl, if_pos rfl]
      exact g.all _ _ e (fun z => np (List.mem_singleton.mp z))
    · rw [if_neg q, if_neg q]
      exact g.all _ _ (B1.tab j hj) (o 9 (by omega) rfl (mem_kp hj))
  · refine Dis.set (R := regs A X kp du) (i := 9) (r' := [if 0 = i then p else kp 0, if 1 = i then p else kp 1, du 0, du 1]) B.dis B.there rfl fun x hx => ?_
    simp only [List.mem_cons, List.not_mem_nil, or_false] at hx
    rcases hx with h | h | h | h
    · by_cases q : 0 = i
      · rw [if_pos q] at h; exact .inr (h ▸ hp)
      · rw [if_neg q] at h; exact .inl (by rw [h]; simp)
    · by_cases q : 1 = i
      · rw [if_pos q] at h; exact .inr (h ▸ hp)
      · rw [if_neg q] at h; exact .inl (by rw [h]; simp)
    · exact .inl (by rw [h]; simp)
    · exact .inl (by rw [h]; simp)
/-- dues[i] = p -/
theorem Big.keepD (B : Big CL CS H A cnt ks X c n kp du pk pd) {i : Nat} (hi : i < 2) (f : Fr [] H H') {p : Addr} {pr : List (Key × V)} (hp : H p = none) (e : PairsAt H' p pr) :
    H' A.da = some (.lst [.ref (du 0), .ref (du 1)]) ∧ Big CL CS (upd H' A.da (.lst ([V.ref (du 0), V.ref (du 1)].set i (.ref p)))) A cnt ks X c n kp (fun j => if j = i then p else du j) pk (fun j => if j = i then pr else pd j) := by
  have B1 := B.fr0 f
  have o := @Dis.off _ B1.dis [A.da] 6 _ rfl fun x h => h
  have np : p ≠ A.da := fun z => by rw [z, B.ed] at hp; cases hp
  have g : Fr [A.da] H' (upd H' A.da (.lst ([V.ref (du 0), V.ref (du 1)].set i (.ref p)))) := Fr.set (by simp) B1.ed fun xs z => by cases z
  have eg : (upd H' A.da (.lst ([V.ref (du 0), V.ref (du 1)].set i (.ref p)))) A.da = some (.lst ([V.ref (du 0), V.ref (du 1)].set i (.ref p))) := upd_same
  generalize upd H' A.da (.lst ([V.ref (du 0), V.ref (du 1)].set i (.ref p))) = G at g eg ⊢
  refine ⟨B1.ed, B1.box.fr g (o 0 (by omega) rfl (by simp)) (o 0 (by omega) rfl (by simp)), g.all _ _ B1.es (o 1 (by omega) rfl (by simp)), g.all _ _ B1.em (o 2 (by omega) rfl (by simp)), g.all _ _ B1.ep (o 3 (by omega) rfl (by simp)), g.all _ _ B1.ek (o 5 (by omega) rfl (by simp)), ?_, g.all _ _ B1.hks (o 4 (by omega) rfl (by simp)),
    fun j hj => (B1.D j hj).fr g fun y hy => o (7 + j) (by omega) (regs_side hj) hy, fun j hj => g.all _ _ (B1.tab j hj) (o 9 (by omega) rfl (mem_kp hj)), fun j hj => ?_, ?_⟩
  · rw [eg]
    rcases lt2 hi with q | q <;> (subst q; rfl)
  · by_cases q : j = i
    · subst q
      rw [if_pos rfl, if_pos rfl]
      exact e.fr g (fun z => np (List.mem_singleton.mp z))
    · rw [if_neg q, if_neg q]
      exact (B1.prs j hj).fr g (o 9 (by omega) rfl (mem_du hj))
  · refine Dis.set (R := regs A X kp du) (i := 9) (r' := [kp 0, kp 1, if 0 = i then p else du 0, if 1 = i then p else du 1]) B.dis B.there rfl fun x hx => ?_
    simp only [List.mem_cons, List.not_mem_nil, or_false] at hx
    rcases hx with h | h | h | h
    · exact .inl (by rw [h]; simp)
    · exact .inl (by rw [h]; simp)
    · by_cases q : 0 = i
      · rw [if_pos q] at h; exact .inr (h ▸ hp)
      · rw [if_neg q] at h; exact .inl (by rw [h]; simp)
    · by_cases q : 1 = i
      · rw [if_pos q] at h; exact .inr (h ▸ hp)
      · rw [if_neg q] at h; exact .inl (by rw [h]; simp)
/-- models[i] = the model behind a turn -/
theorem Big.turn (B : Big CL CS H A cnt ks X c n kp du pk pd) {i : Nat} (hi : i < 2) {m' : MAd} (t : SideTo CL CS H (X i).a (X i).m (X i).pl (c i) n (X i).d H' m') :
    H' A.ma = some (.lst [.ref (X 0).m.m, .ref (X 1).m.m]) ∧ ∃ X' : Nat → Sd, (X' i).d ≤ (X i).d + 1 ∧ (∀ j, j ≠ i → X' j = X j) ∧ Big CL CS (upd H' A.ma (.lst ([V.ref (X 0).m.m, V.ref (X 1).m.m].set i (.ref m'.m)))) A cnt ks X' c n kp du pk pd := by
  obtain ⟨a', s', d', kvs', S', hd, ex, f, fx⟩ := t
  have o := @Dis.off _ B.dis ((X i).pl :: (X i).a.fp) (7 + i) _ (regs_side hi) fun x h => by
    unfold Sd.fp
    rcases List.mem_cons.mp h with h | h
    · rw [h]; simp
    · simp [h]
  have em := f.all _ _ B.em (o 2 (by omega) rfl (by simp))
  have dz : Dis (regs A (fun j => if j = i then ⟨a', m', (X i).pl, s', d', kvs'⟩ else X j) kp du) := by
    have h := Dis.set (i := 7 + i) (r' := (⟨a', m', (X i).pl, s', d', kvs'⟩ : Sd).fp) B.dis B.there (regs_side hi) fun x hx => by
      unfold Sd.fp at hx ⊢
      rcases List.mem_cons.mp hx with h | h
      · exact .inl (by rw [h]; simp)
      · exact (fx x h).elim (fun h => .inl (List.mem_cons_of_mem _ h)) .inr
    rcases lt2 hi with q | q <;> (subst q; exact h)
  have o2 := @Dis.off _ B.dis [A.ma] 2 _ rfl fun x h => h
  have g : Fr [A.ma] H' (upd H' A.ma (.lst ([V.ref (X 0).m.m, V.ref (X 1).m.m].set i (.ref m'.m)))) := Fr.set (by simp) em fun xs z => by cases z
  have eg : (upd H' A.ma (.lst ([V.ref (X 0).m.m, V.ref (X 1).m.m].set i (.ref m'.m)))) A.ma = some (.lst ([V.ref (X 0).m.m, V.ref (X 1).m.m].set i (.ref m'.m))) := upd_same
  generalize upd H' A.ma (.lst ([V.ref (X 0).m.m, V.ref (X 1).m.m].set i (.ref m'.m))) = G at g eg ⊢
  refine ⟨em, fun j => if j = i then ⟨a', m', (X i).pl, s', d', kvs'⟩ else X j, by show (if i = i then (⟨a', m', (X i).pl, s', d', kvs'⟩ : Sd) else X i).d ≤ _; rw [if_pos rfl]; exact hd, fun j h => if_neg h, ?_⟩
  have es' : ∀ j, (if j = i then (⟨a', m', (X i).pl, s', d', kvs'⟩ : Sd) else X j).a.x = (X j).a.x := fun j => by
    by_cases q : j = i
    · rw [if_pos q, q]; exact ex
    · rw [if_neg q]
  have ep' : ∀ j, (if j = i then (⟨a', m', (X i).pl, s', d', kvs'⟩ : Sd) else X j).pl = (X j).pl := fun j => by
    by_cases q : j = i
    · rw [if_pos q, q]
    · rw [if_neg q]
  refine ⟨(B.box.fr f (o 0 (by omega) rfl (by simp)) (o 0 (by omega) rfl (by simp))).fr g (o2 0 (by omega) rfl (by simp)) (o2 0 (by omega) rfl (by simp)), ?_, ?_, ?_, g.all _ _ (f.all _ _ B.ek (o 5 (by omega) rfl (by simp))) (o2 5 (by omega) rfl (by simp)), g.all _ _ (f.all _ _ B.ed (o 6 (by omega) rfl (by simp))) (o2 6 (by omega) rfl (by simp)), g.all _ _ (f.all _ _ B.hks (o 4 (by omega) rfl (by simp))) (o2 4 (by omega) rfl (by simp)), fun j hj => ?_,
    fun j hj => g.all _ _ (f.all _ _ (B.tab j hj) (o 9 (by omega) rfl (mem_kp hj))) (o2 9 (by omega) rfl (mem_kp hj)), fun j hj => ((B.prs j hj).fr f (o 9 (by omega) rfl (mem_du hj))).fr g (o2 9 (by omega) rfl (mem_du hj)), dz⟩
  · rw [es' 0, es' 1]
    exact g.all _ _ (f.all _ _ B.es (o 1 (by omega) rfl (by simp))) (o2 1 (by omega) rfl (by simp))
  · rw [eg]
    rcases lt2 hi with q | q <;> (subst q; rfl)
  · rw [ep' 0, ep' 1]
    exact g.all _ _ (f.all _ _ B.ep (o 3 (by omega) rfl (by simp))) (o2 3 (by omega) rfl (by simp))
  · have o3 := @Dis.off _ dz [A.ma] 2 _ rfl fun x h => h
    by_cases q : j = i
    · have e : (if j = i then (⟨a', m', (X i).pl, s', d', kvs'⟩ : Sd) else X j) = ⟨a', m', (X i).pl, s', d', kvs'⟩ := if_pos q
      show Sd.At CL CS G (if j = i then (⟨a', m', (X i).pl, s', d', kvs'⟩ : Sd) else X j) (c j) n
      have hh' : ∀ y, y ∈ (if j = i then (⟨a', m', (X i).pl, s', d', kvs'⟩ : Sd) else X j).fp → y ∉ [A.ma] := fun y hy => o3 (7 + j) (by omega) (regs_side hj) hy
      rw [e] at hh' ⊢
      rw [q]
      exact S'.fr g fun y hy => hh' y hy
    · show Sd.At CL CS G (if j = i then (⟨a', m', (X i).pl, s', d', kvs'⟩ : Sd) else X j) (c j) n
      rw [if_neg q]
      exact ((B.D j hj).fr f fun y hy => o (7 + j) (by omega) (regs_side hj) hy).fr g fun y hy => o2 (7 + j) (by omega) (regs_side hj) hy
end
end Cg

set_option Elab.async false
set_option linter.all false
set_option maxRecDepth 100000
set_option maxHeartbeats 400000
namespace Cg
open PySem PySem.Spec PyProof.Rows L2
/-! ### what is known while all is laid -/
structure Kn (H : Hp) (R : List (List Addr)) : Prop where
  dis : Dis R
  th : ∀ s ∈ R, ∀ x ∈ s, (H x).isSome = true
section
variable {H H' : Hp} {R : List (List Addr)}
theorem Kn.fr0 (k : Kn H R) (f : Fr [] H H') : Kn H' R := ⟨k.dis, fun s hs x hx => by
  have := k.th s hs x hx
  cases e : H x with
  | none => rw [e] at this; cases this
  | some o => rw [f.all _ _ e (by simp)]; rfl⟩
theorem Kn.add (k : Kn H R) {r : List Addr} (f : Fr [] H H') (hn : ∀ x ∈ r, H x = none) (th : ∀ x ∈ r, (H' x).isSome = true) : Kn H' (r :: R) :=
  ⟨k.dis.cons k.th hn, fun s hs => (List.mem_cons.mp hs).elim (fun e => by rw [e]; exact th) fun h => (k.fr0 f).th s h⟩
theorem Kn.put (k : Kn H R) {p : Addr} {o : HO} (hp : H p = none) : Kn (upd H p o) ([p] :: R) :=
  k.add (Fr.new hp) (fun x hx => by rw [List.mem_singleton.mp hx]; exact hp) fun x hx => by rw [List.mem_singleton.mp hx, upd_same]; rfl
theorem Kn.set (k : Kn H R) {p : Addr} {o : HO} : Kn (upd H p o) R := ⟨k.dis, fun s hs x hx => by
  by_cases e : x = p
  · rw [e, upd_same]; rfl
  · rw [upd_ne e]; exact k.th s hs x hx⟩
end
def cc (c : Cfg) (i : Nat) : Cfg := { c with late := decide (i = 1) }
def lS (s0 : Addr) (A : Adr) (t : Addr) (mood fill : Int) (nm : Str) (v12 v13 v14 v15 v16 v17 v18 v19 : Option V) : L2.St :=
  [some (.ref s0), some (.ref A.b), some (.ref t), some (.ref A.na), some (.int mood), some (.ref A.sa), some (.ref A.ma), some (.ref A.pa), some (.ref A.ka), some (.ref A.da), some (.int fill), some (.str nm), v12, v13, v14, v15, v16, v17, v18, v19]
structure Set0 (CL CS : Addr) (H : Hp) (A : Adr) (cnt : Nat) (ks : List Str) (X : Nat → Sd) (c : Cfg) (n bb : Nat) (kp du : Nat → Addr) (pk pd : Nat → List (Key × V)) (fill : Int) : Prop where
  big : Big CL CS H A cnt ks X (cc c) n kp du pk pd
  lks : ks.length = bb + 2
  gks : ∀ x ∈ ks, Good x
  hbb : c.bound = (bb : Nat)
  b66 : bb ≤ 66
  l0 : 0 ≤ c.load
  f0 : 0 ≤ fill
  f1 : fill ≤ bb
/-- an object just made, and filled -/
theorem made {H H' : Hp} {x dx C : Addr} {l : List Addr} (hx : H x = none) (hd : H dx = none) (f : Fr [x] (upd (upd H dx (.own x)) x (.ins C dx [])) H') (n : ∀ y ∈ l, y = x ∨ (upd (upd H dx (.own x)) x (.ins C dx [])) y = none) : Fr [] H H' ∧ ∀ y ∈ l, H y = none := by
  have g : Fr [x] H (upd (upd H dx (.own x)) x (.ins C dx [])) := by
    refine ⟨fun b o e _ => ?_, fun b xs e => ?_⟩
    · rw [upd_ne (ne_of_none e hx), upd_ne (ne_of_none e hd)]; exact e
    · rw [upd_ne (ne_of_none e hx), upd_ne (ne_of_none e hd)]; exact e
  refine ⟨(g.then f).outs fun y hy => by rw [List.mem_singleton.mp hy]; exact hx, fun y hy => ?_⟩
  rcases n y hy with e | e
  · rw [e]; exact hx
  · by_cases q : y = x
    · rw [q]; exact hx
    · cases h : H y with
      | none => rfl
      | some o =>
        rw [g.all _ _ h (fun z => q (List.mem_singleton.mp z))] at e
        cases e
section
variable {CL CS : Addr} {H H' : Hp} {A : Adr} {cnt cnt' : Nat} {ks : List Str} {X X' : Nat → Sd} {c : Cfg} {n bb : Nat} {kp du kp' du' : Nat → Addr} {pk pd pk' pd' : Nat → List (Key × V)} {fill : Int}
theorem Set0.to (S : Set0 CL CS H A cnt ks X c n bb kp du pk pd fill) (B : Big CL CS H' A cnt' ks X' (cc c) n kp' du' pk' pd') : Set0 CL CS H' A cnt' ks X' c n bb kp' du' pk' pd' fill := ⟨B, S.lks, S.gks, S.hbb, S.b66, S.l0, S.f0, S.f1⟩
theorem Set0.key (S : Set0 CL CS H A cnt ks X c n bb kp du pk pd fill) {i : Nat} (h : i < bb + 2) : ∃ nm, (ks.map V.str)[i]? = some (.str nm) ∧ Good nm := by
  have hl : i < ks.length := by rw [S.lks]; exact h
  refine ⟨ks[i], ?_, S.gks _ (List.getElem_mem hl)⟩
  rw [List.getElem?_map, List.getElem?_eq_getElem hl]
  rfl
end
section
variable {P : Program} {w : World} {K : PySem.W.Frag} {mg : Str → Option Value} {base : Heap} {f : Addr} {fd : FuncData} {CL CS : Addr} {xc : XC}
/-! ### law -/
def sp_law (K : PySem.W.Frag) : Sp := fun vs H Q _ => ∃ (s0 : Addr) (ns : List Int), vs = [.ref s0] ∧ SqL K H s0 (ns.map V.int) ∧ ∀ H', Q (.bl true) H'
abbrev s_law : Stmt := topS 50
theorem sc_law : FnScope ["_law_script", "_law_box_here", "_law_terms_here", "_law_names_here", "_law_mood", "_law_stores", "_law_models", "_law_plains", "_law_kept", "_law_dues", "_law_fill", "_law_name", "_law_k", "_law_kind", "_law_asked", "_law_worth_here", "_law_seen", "_law_side", "_law_picks_here", "_law_found"] ["_law_script"] (C8.fnScope s_law) := C8.fnScope_by (by decide +kernel)
theorem k_law (T : Bi mg) (F : C8.Def K mg "law" s_law f fd) (c_box : C8.Cal P w K mg base 1 "_law_box" (sp_box K) []) (c_terms : C8.Cal P w K mg base 2 "_law_terms" sp_terms []) (c_names : C8.Cal P w K mg base 2 "_law_names" sp_names []) (c_draw : C8.Cal P w K mg base 1 "_law_draw" sp_draw [])
    (c_model : C8.Cal P w K mg base 1 "_law_model" sp_model []) (c_s___init : C8.Mak P w K mg base 3 "Segments" CS (sp_s_init CL CS) [.bl false]) (c_s_initK : MakK P w K mg base 3 "Segments" CS 4 ["late"] (sp_s_init CL CS)) (c_next : C8.Cal P w K mg base 2 "_law_next" sp_next []) (c_worth : C8.Cal P w K mg base 2 "_law_worth" sp_worth [])
    (c_picks : C8.Cal P w K mg base 5 "_law_picks" sp_picks []) (c_turn : C8.Cal P w K mg base 8 "_law_turn" (sp_turn CL CS) []) (c_table_holds : C8.Cal P w K mg base 3 "_law_table_holds" (sp_table_holds CL CS) []) (c_name_holds : C8.Cal P w K mg base 4 "_law_name_holds" (sp_name_holds xc CL CS) [])
    (c_s_table : C8.Met P w K mg base 1 CS "table" (sp_s_table CL CS) []) (c_pairs : C8.Cal P w K mg base 1 "_law_pairs" sp_pairs []) (c_table_is : C8.Cal P w K mg base 2 "_law_table_is" sp_table_is []) (c_ends : C8.Cal P w K mg base 5 "_law_ends" (sp_ends CL CS) []) : FnOk P w K mg base C8.CX0 9 f fd ["_law_script"] (sp_law K) := by
  refine C8.fn0 F.fn sc_law (fun vs H Q E h => ?_) (fun cdv A outer s0 H vs Q E hr h => ?_)
  · obtain ⟨s0, ns, rfl, _⟩ := h
    rfl
  · obtain ⟨s0, ns, rfl, hS, q⟩ := h
    have hu := hu_of hr
    refine ⟨_, pss_cons (ps_set (i := 1) sc_law.nd rfl (by first | exact Or.inl rfl | exact Or.inr rfl) (C8.pe_c c_box hr (by decide) rfl (pa_cons (pv 0) pa_nil)))
      (pss_cons (ps_set (i := 2) sc_law.nd rfl (by first | exact Or.inl rfl | exact Or.inr rfl) (C8.pe_c c_terms hr (by decide) rfl (pa_cons (pv 1) pa_nil)))
      (pss_cons (ps_set (i := 3) sc_law.nd rfl (by first | exact Or.inl rfl | exact Or.inr rfl) (C8.pe_c c_names hr (by decide) rfl (pa_cons (pv 1) (pa_cons (pe_op op_add (pe_ix ix_tup (pv 2) (pe_int) (fun _ _ => rfl)) (pe_int)) pa_nil))))
      (pss_cons (ps_set (i := 4) sc_law.nd rfl (by first | exact Or.inl rfl | exact Or.inr rfl) (C8.pe_c c_draw hr (by decide) rfl (pa_cons (pv 1) (pa_cons (pe_int) pa_nil))))
      (pss_cons (ps_set (i := 5) sc_law.nd rfl (by first | exact Or.inl rfl | exact Or.inr rfl) (pe_lst (pa_cons (C8.pe_mk c_s___init hr (by decide) rfl (pa_cons (pe_ix ix_tup (pv 2) (pe_int) (fun _ _ => rfl)) (pa_cons (pe_ix ix_tup (pv 2) (pe_int) (fun _ _ => rfl)) (pa_cons (pe_ix ix_tup (pv 2) (pe_int) (fun _ _ => rfl)) (pa_cons (pe_ix ix_tup (pv 2) (pe_int) (fun _ _ => rfl)) pa_nil))))) pa_nil)))
      (pss_cons (ps_expr (pe_bm PySem.F.plainAttrs_list PySem.F.slot_list_append PySem.F.type_list_append mt_append (pv 5) (pa_cons (pe_mkK c_s_initK hr (by decide) rfl (pa_cons (pe_ix ix_tup (pv 2) (pe_int) (fun _ _ => rfl)) (pa_cons (pe_ix ix_tup (pv 2) (pe_int) (fun _ _ => rfl)) (pa_cons (pe_ix ix_tup (pv 2) (pe_int) (fun _ _ => rfl)) (pa_cons (pe_ix ix_tup (pv 2) (pe_int) (fun _ _ => rfl)) pa_nil)))) (pk_cons (pe_bl) pk_nil)) pa_nil)))
      (pss_cons (ps_set (i := 6) sc_law.nd rfl (by first | exact Or.inl rfl | exact Or.inr rfl) (pe_lst (pa_cons (C8.pe_c c_model hr (by decide) rfl (pa_cons (pv 2) (pa_cons (pe_bl) pa_nil))) (pa_cons (C8.pe_c c_model hr (by decide) rfl (pa_cons (pv 2) (pa_cons (pe_bl) pa_nil))) pa_nil))))
      (pss_cons (ps_set (i := 7) sc_law.nd rfl (by first | exact Or.inl rfl | exact Or.inr rfl) (pe_lst (pa_cons (pe_dnewK) (pa_cons (pe_dnewK) pa_nil))))
      (pss_cons (ps_set (i := 8) sc_law.nd rfl (by first | exact Or.inl rfl | exact Or.inr rfl) (pe_lst (pa_cons (pe_dnewK) (pa_cons (pe_dnewK) pa_nil))))
      (pss_cons (ps_set (i := 9) sc_law.nd rfl (by first | exact Or.inl rfl | exact Or.inr rfl) (pe_lst (pa_cons (pe_lst pa_nil) (pa_cons (pe_lst pa_nil) pa_nil))))
      (pss_cons (ps_set (i := 10) sc_law.nd rfl (by first | exact Or.inl rfl | exact Or.inr rfl) (C8.pe_c c_draw hr (by decide) rfl (pa_cons (pv 1) (pa_cons (pe_op op_add (pe_ix ix_tup (pv 2) (pe_int) (fun _ _ => rfl)) (pe_int)) pa_nil))))
      (C8.pss_cut (ps_set (i := 11) sc_law.nd rfl (by first | exact Or.inl rfl | exact Or.inr rfl) (pe_ix ix_list (pv 3) (pe_int) (fun _ _ => rfl)))
      (pss_cons (ps_for PassesOwn.never rfl (pi_range1 rfl T.range (pa_cons (pe_op op_add (pe_op op_add (pv 10) (pe_int)) (C8.pe_c c_draw hr (by decide) rfl (pa_cons (pv 1) (pa_cons (pe_int) pa_nil)))) pa_nil)) (pg_name (i := 12) sc_law.nd rfl (by first | exact Or.inl rfl | exact Or.inr rfl))
        (pss_cons (ps_set (i := 13) sc_law.nd rfl (by first | exact Or.inl rfl | exact Or.inr rfl) (pe_int))
      (pss_cons (ps_set (i := 14) sc_law.nd rfl (by first | exact Or.inl rfl | exact Or.inr rfl) (pe_bl))
      (C8.pss_cut (ps_if (pt_cmpR op_lt (pv 12) (pv 10) (nomark _)) (pss_one (ps_set (i := 11) sc_law.nd rfl (by first | exact Or.inl rfl | exact Or.inr rfl) (pe_ix ix_list (pv 3) (pv 12) (fun _ _ => rfl)))) (pss_cons (ps_set (i := 13) sc_law.nd rfl (by first | exact Or.inl rfl | exact Or.inr rfl) (C8.pe_c c_draw hr (by decide) rfl (pa_cons (pv 1) (pa_cons (pe_int) pa_nil))))
      (pss_cons (ps_set (i := 11) sc_law.nd rfl (by first | exact Or.inl rfl | exact Or.inr rfl) (C8.pe_c c_next hr (by decide) rfl (pa_cons (pv 1) (pa_cons (pv 3) (pa_cons (pv 11) pa_nil)))))
      (pss_one (ps_set (i := 14) sc_law.nd rfl (by first | exact Or.inl rfl | exact Or.inr rfl) (pe_cmpR op_ne (C8.pe_c c_draw hr (by decide) rfl (pa_cons (pv 1) (pa_cons (pe_int) pa_nil))) (pe_int) (nomark _)))))))
      (pss_cons (ps_set (i := 15) sc_law.nd rfl (by first | exact Or.inl rfl | exact Or.inr rfl) (C8.pe_c c_worth hr (by decide) rfl (pa_cons (pv 1) pa_nil)))
      (pss_cons (ps_set (i := 16) sc_law.nd rfl (by first | exact Or.inl rfl | exact Or.inr rfl) (pe_ix ix_list (pv 3) (C8.pe_c c_draw hr (by decide) rfl (pa_cons (pv 1) (pa_cons (pe_callB call_len_seq (by rfl) T.len PySem.boot_len (pa_cons (pv 3) pa_nil)) pa_nil))) (fun _ _ => rfl)))
      (pss_one (ps_for PassesOwn.never rfl (pi_range1 rfl T.range (pa_cons (pe_int) pa_nil)) (pg_name (i := 17) sc_law.nd rfl (by first | exact Or.inl rfl | exact Or.inr rfl))
        (pss_cons (ps_set (i := 18) sc_law.nd rfl (by first | exact Or.inl rfl | exact Or.inr rfl) (pe_lst pa_nil))
      (C8.pss_cut (ps_if (pt_cmpR op_ne (pv 13) (pe_int) (nomark _)) (pss_one (ps_set (i := 18) sc_law.nd rfl (by first | exact Or.inl rfl | exact Or.inr rfl) (C8.pe_c c_picks hr (by decide) rfl (pa_cons (pv 1) (pa_cons (pe_ix ix_list (pv 6) (pv 17) (fun _ _ => rfl)) (pa_cons (pv 11) (pa_cons (pv 4) pa_nil))))))) (pss_nil))
      (pss_cons (ps_set (i := 19) sc_law.nd rfl (by first | exact Or.inl rfl | exact Or.inr rfl) (C8.pe_c c_turn hr (by decide) rfl (pa_cons (pe_ix ix_list (pv 5) (pv 17) (fun _ _ => rfl)) (pa_cons (pe_ix ix_list (pv 6) (pv 17) (fun _ _ => rfl)) (pa_cons (pe_ix ix_list (pv 7) (pv 17) (fun _ _ => rfl)) (pa_cons (pv 13) (pa_cons (pv 11) (pa_cons (pv 15) (pa_cons (pv 18) pa_nil)))))))))
      (pss_cons (ps_if (pt_cmp (pc_isN (pv 19))) (pss_one (ps_ret (pe_bl))) (pss_nil))
      (pss_cons (ps_asg (pv 19) (pg_sub (pv 6) (pv 17) set_list))
      (C8.pss_cut (ps_if (PW.pt (pw_and (pt_val (pv 14)) (pw_and1 (pt_not (pt_val (C8.pe_c c_table_holds hr (by decide) rfl (pa_cons (pe_ix ix_list (pv 5) (pv 17) (fun _ _ => rfl)) (pa_cons (pe_ix ix_list (pv 6) (pv 17) (fun _ _ => rfl)) (pa_cons (pe_ix ix_list (pv 7) (pv 17) (fun _ _ => rfl)) pa_nil))))))))) (pss_one (ps_ret (pe_bl))) (pss_nil))
      (pss_cons (ps_if (pt_not (pt_val (C8.pe_c c_name_holds hr (by decide) rfl (pa_cons (pe_ix ix_list (pv 5) (pv 17) (fun _ _ => rfl)) (pa_cons (pe_ix ix_list (pv 7) (pv 17) (fun _ _ => rfl)) (pa_cons (pv 16) pa_nil)))))) (pss_one (ps_ret (pe_bl))) (pss_nil))
      (pss_one (ps_if (pt_cmpR op_eq (pv 12) (pv 10) (nomark _)) (pss_cons (ps_asg (C8.pe_mt0 c_s_table hr (by decide) (pe_ix ix_list (pv 5) (pv 17) (fun _ _ => rfl))) (pg_sub (pv 8) (pv 17) set_list))
      (pss_one (ps_asg (C8.pe_c c_pairs hr (by decide) rfl (pa_cons (pe_ix ix_list (pv 6) (pv 17) (fun _ _ => rfl)) (pa_cons (pe_ix ix_list (pv 7) (pv 17) (fun _ _ => rfl)) pa_nil))) (pg_sub (pv 9) (pv 17) set_list)))) (pss_nil))))))))))))))))))
      (pss_cons (ps_for PassesOwn.never rfl (pi_range1 rfl T.range (pa_cons (pe_int) pa_nil)) (pg_name (i := 17) sc_law.nd rfl (by first | exact Or.inl rfl | exact Or.inr rfl))
        (pss_one (ps_if (pt_not (pt_val (C8.pe_c c_table_is hr (by decide) rfl (pa_cons (pe_ix ix_list (pv 8) (pv 17) (fun _ _ => rfl)) (pa_cons (pe_ix ix_list (pv 9) (pv 17) (fun _ _ => rfl)) pa_nil))))) (pss_one (ps_ret (pe_bl))) (pss_nil))))
      (pss_one (ps_ret (C8.pe_c c_ends hr (by decide) rfl (pa_cons (pv 5) (pa_cons (pv 6) (pa_cons (pv 7) (pa_cons (pv 3) pa_nil)))))))))))))))))))), ?_⟩
    refine ⟨_, rfl, s0, ns, rfl, hS, fun H1 b ca f1 hb hca B1 => ?_⟩
    refine ⟨_, rfl, b, ca, 0, rfl, B1, by omega, fun H2 t parts c f2 B2 ht p1 p8 w1 w8 b1 b66 l0 l40 => ?_⟩
    obtain ⟨bb, hbb⟩ : ∃ bb : Nat, c.bound = bb := ⟨c.bound.toNat, by omega⟩
    refine ⟨_, rfl, _, rfl, t, _, _, _, rfl, rfl, SqT.of ht, atI_nat (j := 2) rfl, _, _, rfl, rfl, b, ca, 10, bb + 2, by rw [hbb]; rfl, B2, by omega, by omega, fun H3 na ks f3 B3 hna hks lks gks => ?_⟩
    refine ⟨_, rfl, b, ca, 6, _, rfl, B3, by omega, by decide, by decide, fun H4 mood f4 B4 m0 m6 => ?_⟩
    have nbc : na ∉ [b, ca] := fun z => by
      obtain ⟨xs, e, _⟩ := B2.cells
      obtain ⟨r, sd, t, e2, _⟩ := B2.ob
      simp only [List.mem_cons, List.not_mem_nil, or_false] at z
      rcases z with z | z
      · rw [z, e2] at hna; cases hna
      · rw [z, e] at hna; cases hna
    have hks4 : StrsAt H4 na ks := f4.all _ _ hks nbc
    have ht4 := f4.tup _ _ (f3.tup _ _ ht)
    have K4 : Kn H4 [[na], [b, ca]] := by
      refine ⟨?_, ?_⟩
      · intro i j r s ij hi hj x hx hy
        have hi2 := (List.getElem?_eq_some_iff.mp hi).1
        have hj2 := (List.getElem?_eq_some_iff.mp hj).1
        simp only [List.length_cons, List.length_nil] at hi2 hj2
        rcases lt2 hi2 with q1 | q1 <;> rcases lt2 hj2 with q2 | q2 <;> subst q1 <;> subst q2
        · exact ij rfl
        · have e1 : [na] = r := Option.some.inj hi
          have e2 : [b, ca] = s := Option.some.inj hj
          subst e1
          subst e2
          exact nbc (List.mem_singleton.mp hx ▸ hy)
        · have e1 : [b, ca] = r := Option.some.inj hi
          have e2 : [na] = s := Option.some.inj hj
          subst e1
          subst e2
          exact nbc (List.mem_singleton.mp hy ▸ hx)
        · exact ij rfl
      · intro s hs x hx
        obtain ⟨xs, e, _⟩ := B4.cells
        obtain ⟨r, sd, t, e2, _⟩ := B4.ob
        simp only [List.mem_cons, List.not_mem_nil, or_false] at hs
        rcases hs with rfl | rfl
        · rw [List.mem_singleton.mp hx, show H4 na = _ from hks4]; rfl
        · simp only [List.mem_cons, List.not_mem_nil, or_false] at hx
          rcases hx with rfl | rfl
          · rw [e2]; rfl
          · rw [e]; rfl
    clear f1 hb hca B1 f2 B2 ht f3 B3 hna hks f4 H1 H2 H3 hS nbc
    have okc : ∀ i, Ok (cc c i) (List.replicate parts [], 0) := fun i => ⟨⟨w1, by show 0 < (List.replicate parts _).length; rw [List.length_replicate]; omega, fun r hr => by rw [List.eq_of_mem_replicate hr]; exact Nat.zero_le _⟩, by show c.w ≤ 100; omega, by show (List.replicate parts _).length ≤ 100; rw [List.length_replicate]; omega⟩
    -- the stores
    have ixt : ∀ {Hx : Hp}, Hx t = some (.tup [.int parts, .int c.w, .int c.bound, .int c.load]) → SqT K Hx t [.int parts, .int c.w, .int c.bound, .int c.load] := fun e => SqT.of e
    refine ⟨_, rfl, t, _, _, _, rfl, rfl, ixt ht4, atI_nat (j := 0) rfl, _, rfl, t, _, _, _, rfl, rfl, ixt ht4, atI_nat (j := 1) rfl, _, rfl, t, _, _, _, rfl, rfl, ixt ht4, atI_nat (j := 2) rfl, _, rfl, t, _, _, _, rfl, rfl, ixt ht4, atI_nat (j := 3) rfl, fun x0 dx0 hx0 hdx0 ne0 => ?_⟩
    refine ⟨x0, dx0, parts, cc c 0, rfl, upd_same, by omega, by omega, w1, b1, l0, fun H5 a0 ea0 f5 n5 S0 => ⟨rfl, ?_⟩⟩
    obtain ⟨f45, n5⟩ := made hx0 hdx0 f5 n5
    clear f5
    have K5 := K4.add f45 n5 S0.there
    have ht5 := f45.tup _ _ ht4
    refine ⟨(by show 1 ≤ sizeLine; decide), fun sa hsa => ?_⟩
    have f56 : Fr [] H5 (upd H5 sa (.lst [.ref x0])) := Fr.new hsa
    have e6 : (upd H5 sa (.lst [.ref x0])) sa = some (.lst [.ref x0]) := upd_same
    have K6 := K5.put (o := .lst [.ref x0]) hsa
    generalize upd H5 sa (.lst [.ref x0]) = H6 at f56 e6 K6 ⊢
    have ht6 := f56.tup _ _ ht5
    refine ⟨_, rfl, .inl ⟨rfl, _, SqL.of e6⟩, _, rfl, t, _, _, _, rfl, rfl, ixt ht6, atI_nat (j := 0) rfl, _, rfl, t, _, _, _, rfl, rfl, ixt ht6, atI_nat (j := 1) rfl, _, rfl, t, _, _, _, rfl, rfl, ixt ht6, atI_nat (j := 2) rfl, _, rfl, t, _, _, _, rfl, rfl, ixt ht6, atI_nat (j := 3) rfl, rfl, rfl, fun x1 dx1 hx1 hdx1 ne1 => ?_⟩
    refine ⟨x1, dx1, parts, cc c 1, rfl, upd_same, by omega, by omega, w1, b1, l0, fun H7 a1 ea1 f7 n7 S1 => ⟨rfl, ?_⟩⟩
    obtain ⟨f67, n7⟩ := made hx1 hdx1 f7 n7
    clear f7
    have K7 := K6.add f67 n7 S1.there
    have e7 := f67.all _ _ e6 (by simp)
    have ht7 := f67.tup _ _ ht6
    refine ⟨sa, _, _, rfl, rfl, e7, (by show 1 < sizeLine; decide), ?_⟩
    have f78 : Fr [sa] H7 (upd H7 sa (.lst ([.ref x0] ++ [.ref x1]))) := Fr.set (by simp) e7 fun xs z => by cases z
    have e8 : (upd H7 sa (.lst ([.ref x0] ++ [.ref x1]))) sa = some (.lst ([.ref x0] ++ [.ref x1])) := upd_same
    have K8 := K7.set (p := sa) (o := .lst ([.ref x0] ++ [.ref x1]))
    generalize upd H7 sa (.lst ([.ref x0] ++ [.ref x1])) = H8 at f78 e8 K8 ⊢
    have ht8 := f78.tup _ _ ht7
    have off8 := @Dis.off _ K8.dis [sa] 1 _ rfl fun x h => h
    have f47 := (f45.then f56).then f67
    have S0' := ((S0.fr0 f56).fr0 f67).fr f78 fun y hy => off8 2 (by omega) rfl hy
    have S1' := S1.fr f78 fun y hy => off8 0 (by omega) rfl hy
    have hks8 : StrsAt H8 na ks := f78.all _ _ (f47.all _ _ hks4 (by simp)) (off8 3 (by omega) rfl (by simp))
    have B8 := (B4.fr f47 (by simp) (by simp)).fr f78 (off8 4 (by omega) rfl (by simp)) (off8 4 (by omega) rfl (by simp))
    clear f78 f67 f56 f45 f47 S0 S1 K4 K5 K6 K7 off8 e6 e7 ht4 ht5 ht6 ht7 hks4 B4 hsa
    -- the models
    refine ⟨_, rfl, t, parts, cc c 0, rfl, ht8, by omega, by omega, fun H9 m0' f89 n9 M0 => ?_⟩
    have K9 := K8.add f89 n9 M0.there
    have ht9 := f89.tup _ _ ht8
    refine ⟨_, rfl, t, parts, cc c 1, rfl, ht9, by omega, by omega, fun H10 m1' f910 n10 M1 => ?_⟩
    have K10 := K9.add f910 n10 M1.there
    refine ⟨(by show 2 ≤ sizeLine; decide), fun ma hma => ?_⟩
    have fa : Fr [] H10 (upd H10 ma (.lst [.ref m0'.m, .ref m1'.m])) := Fr.new hma
    have ea : (upd H10 ma (.lst [.ref m0'.m, .ref m1'.m])) ma = some (.lst [.ref m0'.m, .ref m1'.m]) := upd_same
    have Ka := K10.put (o := .lst [.ref m0'.m, .ref m1'.m]) hma
    generalize upd H10 ma (.lst [.ref m0'.m, .ref m1'.m]) = Ha at fa ea Ka ⊢
    have f8a := (f89.then f910).then fa
    have M0a := (M0.fr0 f910).fr0 fa
    have M1a := M1.fr0 fa
    clear f89 f910 fa K9 K10 ht9 hma M0 M1 K8
    -- the plain dicts
    refine fun p0 hp0 => ?_
    have fb : Fr [] Ha (upd Ha p0 (.dK [])) := Fr.new hp0
    have eb : (upd Ha p0 (.dK [])) p0 = some (.dK []) := upd_same
    have Kb := Ka.put (o := .dK []) hp0
    generalize upd Ha p0 (.dK []) = Hb at fb eb Kb ⊢
    refine fun p1 hp1 => ?_
    have fc : Fr [] Hb (upd Hb p1 (.dK [])) := Fr.new hp1
    have ec : (upd Hb p1 (.dK [])) p1 = some (.dK []) := upd_same
    have Kc := Kb.put (o := .dK []) hp1
    generalize upd Hb p1 (.dK []) = Hc at fc ec Kc ⊢
    refine ⟨(by show 2 ≤ sizeLine; decide), fun pa hpa => ?_⟩
    have fd2 : Fr [] Hc (upd Hc pa (.lst [.ref p0, .ref p1])) := Fr.new hpa
    have ed : (upd Hc pa (.lst [.ref p0, .ref p1])) pa = some (.lst [.ref p0, .ref p1]) := upd_same
    have Kd := Kc.put (o := .lst [.ref p0, .ref p1]) hpa
    generalize upd Hc pa (.lst [.ref p0, .ref p1]) = Hd at fd2 ed Kd ⊢
    -- kept
    refine fun k0 hk0 => ?_
    have fe : Fr [] Hd (upd Hd k0 (.dK [])) := Fr.new hk0
    have ee : (upd Hd k0 (.dK [])) k0 = some (.dK []) := upd_same
    have Ke := Kd.put (o := .dK []) hk0
    generalize upd Hd k0 (.dK []) = He at fe ee Ke ⊢
    refine fun k1 hk1 => ?_
    have ff : Fr [] He (upd He k1 (.dK [])) := Fr.new hk1
    have ef : (upd He k1 (.dK [])) k1 = some (.dK []) := upd_same
    have Kf := Ke.put (o := .dK []) hk1
    generalize upd He k1 (.dK []) = Hf at ff ef Kf ⊢
    refine ⟨(by show 2 ≤ sizeLine; decide), fun ka hka => ?_⟩
    have fg : Fr [] Hf (upd Hf ka (.lst [.ref k0, .ref k1])) := Fr.new hka
    have eg : (upd Hf ka (.lst [.ref k0, .ref k1])) ka = some (.lst [.ref k0, .ref k1]) := upd_same
    have Kg := Kf.put (o := .lst [.ref k0, .ref k1]) hka
    generalize upd Hf ka (.lst [.ref k0, .ref k1]) = Hg at fg eg Kg ⊢
    -- dues
    refine ⟨(by show 0 ≤ sizeLine; decide), fun d0 hd0 => ?_⟩
    have fh : Fr [] Hg (upd Hg d0 (.lst [])) := Fr.new hd0
    have eh : (upd Hg d0 (.lst [])) d0 = some (.lst []) := upd_same
    have Kh := Kg.put (o := .lst []) hd0
    generalize upd Hg d0 (.lst []) = Hh at fh eh Kh ⊢
    refine ⟨(by show 0 ≤ sizeLine; decide), fun d1 hd1 => ?_⟩
    have fi : Fr [] Hh (upd Hh d1 (.lst [])) := Fr.new hd1
    have ei : (upd Hh d1 (.lst [])) d1 = some (.lst []) := upd_same
    have Ki := Kh.put (o := .lst []) hd1
    generalize upd Hh d1 (.lst []) = Hi at fi ei Ki ⊢
    refine ⟨(by show 2 ≤ sizeLine; decide), fun da hda => ?_⟩
    have fj : Fr [] Hi (upd Hi da (.lst [.ref d0, .ref d1])) := Fr.new hda
    have ej : (upd Hi da (.lst [.ref d0, .ref d1])) da = some (.lst [.ref d0, .ref d1]) := upd_same
    have Kj := Ki.put (o := .lst [.ref d0, .ref d1]) hda
    generalize upd Hi da (.lst [.ref d0, .ref d1]) = Hj at fj ej Kj ⊢
    have g9 := fi.then fj
    have g8 := fh.then g9
    have g7 := fg.then g8
    have g6 := ff.then g7
    have g5 := fe.then g6
    have g4 := fd2.then g5
    have g3 := fc.then g4
    have g2 := fb.then g3
    have g1 := f8a.then g2
    clear hp0 hp1 hpa hk0 hk1 hka hd0 hd1 hda Ka Kb Kc Kd Ke Kf Kg Kh Ki
    have dj := Kj.dis
    have big : Big CL CS Hj ⟨b, ca, sa, ma, pa, na, ka, da⟩ (10 + 5 + 2 * (bb + 2) + 1) ks (fun i => if i = 0 then ⟨a0, m0', p0, (List.replicate parts [], 0), 0, []⟩ else ⟨a1, m1', p1, (List.replicate parts [], 0), 0, []⟩) (cc c) parts (fun i => if i = 0 then k0 else k1) (fun i => if i = 0 then d0 else d1) (fun _ => []) (fun _ => []) := by
      refine ⟨B8.fr g1 (by simp) (by simp), ?_, g2.all _ _ ea (by simp), g5.all _ _ ed (by simp), g8.all _ _ eg (by simp), ej, g1.all _ _ hks8 (by simp), fun i hi => ?_, fun i hi => ?_, fun i hi => ?_, ?_⟩
      · show Hj sa = some (.lst [.ref a0.x, .ref a1.x])
        rw [ea0, ea1]
        exact g1.all _ _ e8 (by simp)
      · rcases lt2 hi with q | q <;> subst q
        · exact ⟨S0'.fr0 g1, M0a.fr0 g2, g3.all _ _ eb (by simp), kv0 parts, okc 0, fun x hx => dj 14 11 _ _ (by omega) rfl rfl x hx, dj 8 14 _ _ (by omega) rfl rfl p0 (by simp), dj 8 11 _ _ (by omega) rfl rfl p0 (by simp)⟩
        · exact ⟨S1'.fr0 g1, M1a.fr0 g2, g4.all _ _ ec (by simp), kv0 parts, okc 1, fun x hx => dj 12 10 _ _ (by omega) rfl rfl x hx, dj 7 12 _ _ (by omega) rfl rfl p1 (by simp), dj 7 10 _ _ (by omega) rfl rfl p1 (by simp)⟩
      · rcases lt2 hi with q | q <;> subst q
        · exact g6.all _ _ ee (by simp)
        · exact g7.all _ _ ef (by simp)
      · rcases lt2 hi with q | q <;> subst q
        · exact ⟨[], g9.all _ _ eh (by simp), .nil⟩
        · exact ⟨[], fj.all _ _ ei (by simp), .nil⟩
      · refine dj.join (fun j => [6, 9, 9, 5, 9, 9, 3, 8, 7, 2, 8, 7, 8, 1, 7, 4, 0].getD j 0) fun i s hs x hx => ?_
        have hl := (List.getElem?_eq_some_iff.mp hs).1
        have hl2 : i < 10 := hl
        have one : ∀ {y : Addr} {j : Nat} {r : List Addr} {k : Nat}, x = y → y ∈ r → (([[da], [d1], [d0], [ka], [k1], [k0], [pa], [p1], [p0], [ma], m1'.fp, m0'.fp, a1.fp, [sa], a0.fp, [na], [b, ca]] : List (List Addr))[j]? = some r) → (([6, 9, 9, 5, 9, 9, 3, 8, 7, 2, 8, 7, 8, 1, 7, 4, 0] : List Nat).getD j 0 = k) → ∃ (j : Nat) (r : List Addr), (([[da], [d1], [d0], [ka], [k1], [k0], [pa], [p1], [p0], [ma], m1'.fp, m0'.fp, a1.fp, [sa], a0.fp, [na], [b, ca]] : List (List Addr))[j]? = some r) ∧ x ∈ r ∧ (([6, 9, 9, 5, 9, 9, 3, 8, 7, 2, 8, 7, 8, 1, 7, 4, 0] : List Nat).getD j 0 = k) := fun {y j r k} e h1 h2 h3 => ⟨j, r, h2, e ▸ h1, h3⟩
        match i, hl2 with
        | 0, _ =>
          have e : [b, ca] = s := Option.some.inj hs
          rw [← e] at hx
          exact one (j := 16) rfl hx rfl rfl
        | 1, _ =>
          have e : [sa] = s := Option.some.inj hs
          rw [← e] at hx
          exact one (j := 13) rfl hx rfl rfl
        | 2, _ =>
          have e : [ma] = s := Option.some.inj hs
          rw [← e] at hx
          exact one (j := 9) rfl hx rfl rfl
        | 3, _ =>
          have e : [pa] = s := Option.some.inj hs
          rw [← e] at hx
          exact one (j := 6) rfl hx rfl rfl
        | 4, _ =>
          have e : [na] = s := Option.some.inj hs
          rw [← e] at hx
          exact one (j := 15) rfl hx rfl rfl
        | 5, _ =>
          have e : [ka] = s := Option.some.inj hs
          rw [← e] at hx
          exact one (j := 3) rfl hx rfl rfl
        | 6, _ =>
          have e : [da] = s := Option.some.inj hs
          rw [← e] at hx
          exact one (j := 0) rfl hx rfl rfl
        | 7, _ =>
          have e : p0 :: (a0.fp ++ m0'.fp) = s := Option.some.inj hs
          rw [← e] at hx
          rcases List.mem_cons.mp hx with h | h
          · exact one (j := 8) h List.mem_cons_self rfl rfl
          rcases List.mem_append.mp h with h | h
          · exact one (j := 14) rfl h rfl rfl
          · exact one (j := 11) rfl h rfl rfl
        | 8, _ =>
          have e : p1 :: (a1.fp ++ m1'.fp) = s := Option.some.inj hs
          rw [← e] at hx
          rcases List.mem_cons.mp hx with h | h
          · exact one (j := 7) h List.mem_cons_self rfl rfl
          rcases List.mem_append.mp h with h | h
          · exact one (j := 12) rfl h rfl rfl
          · exact one (j := 10) rfl h rfl rfl
        | 9, _ =>
          have e : [k0, k1, d0, d1] = s := Option.some.inj hs
          rw [← e] at hx
          simp only [List.mem_cons, List.not_mem_nil, or_false] at hx
          rcases hx with h | h | h | h
          · exact one (j := 5) h List.mem_cons_self rfl rfl
          · exact one (j := 4) h List.mem_cons_self rfl rfl
          · exact one (j := 2) h List.mem_cons_self rfl rfl
          · exact one (j := 1) h List.mem_cons_self rfl rfl
    have ht9 := g1.tup _ _ ht8
    clear g1 g2 g3 g4 g5 g6 g7 g8 g9 f8a fb fc fd2 fe ff fg fh fi fj dj Kj ea eb ec ed ee ef eg eh ei ej e8 S0' S1' M0a M1a B8 hks8 n5 n7 n9 n10 ht8
    -- fill, name
    have b67 : c.bound + 1 < 2 ^ 100 := Int.lt_of_le_of_lt (show c.bound + 1 ≤ 67 by omega) (by decide)
    refine ⟨_, rfl, _, rfl, t, _, _, _, rfl, rfl, ixt ht9, atI_nat (j := 2) rfl, _, _, rfl, rfl, b, ca, c.bound + 1, _, rfl, big.box, by omega, by omega, b67, fun Hk fill fk Bk fill0 fill1 => ?_⟩
    have big1 := big.drawn fk Bk
    clear big Bk fk b67 ht9
    refine ⟨fun σ H' => ∃ (A : Adr) (t : Addr) (cnt : Nat) (ks : List Str) (X : Nat → Sd) (c : Cfg) (n bb : Nat) (kp du : Nat → Addr) (pr : Nat → List (Key × V)) (fill mood : Int) (nm : Str), Set0 CL CS H' A cnt ks X c n bb kp du pr pr fill ∧ cnt ≤ 1000 ∧ (∀ j < 2, PrOk (pr j)) ∧ (∀ j < 2, (X j).d = 0) ∧ Good nm ∧ σ = lS s0 A t mood fill nm none none none none none none none none, ?_, ?_⟩
    · obtain ⟨nm, hnm⟩ : ∃ nm, ks[0]? = some nm := ⟨ks[0], List.getElem?_eq_getElem (by omega)⟩
      refine ⟨_, rfl, na, _, _, _, rfl, rfl, SqL.of big1.hks, atI_nat (j := 0) (by rw [List.getElem?_map, hnm]; rfl), ?_⟩
      refine ⟨_, t, _, ks, _, c, parts, bb, _, _, _, fill, mood, nm, ⟨big1, lks, gks, hbb, by omega, l0, fill0, by omega⟩, by omega, fun j _ => ⟨List.nodup_nil, by decide⟩, fun j hj => ?_, gks _ (List.mem_of_getElem? hnm), rfl⟩
      rcases lt2 hj with q | q <;> (subst q; rfl)
    clear big1 lks gks hbb l0 fill0 fill1 okc ea0 ea1 b1 b66 w1 w8 p1 p8 l40 m0 m6
    rintro σ H0 ⟨A, t, cnt, ks, X, c, n, bb, kp, du, pr, fill, mood, nm, S, hcnt, okp, hd, gnm, rfl⟩
    refine ⟨_, rfl, _, _, rfl, rfl, _, rfl, A.b, A.ca, 36, cnt, rfl, S.big.box, by omega, by decide, by decide, fun H1 many f1 B1 many0 many36 => ?_⟩
    have S1 := S.to (S.big.drawn f1 B1)
    clear S f1 B1 H0
    have hf0 := S1.f0
    have hf1 := S1.f1
    have hb66 := S1.b66
    refine ⟨_, _, rfl, rfl, _, rfl, by omega, by omega, ?_⟩
    have hN : (fill + 4 + many).toNat ≤ 110 := by omega
    generalize (fill + 4 + many).toNat = N at hN ⊢
    refine for_range (fun i σ H' => ∃ (cnt : Nat) (X : Nat → Sd) (kp du : Nat → Addr) (pr : Nat → List (Key × V)) (nm : Str) (v12 v13 v14 v15 v16 v17 v18 v19 : Option V), Set0 CL CS H' A cnt ks X c n bb kp du pr pr fill ∧ cnt ≤ 1001 + i * 100 ∧ (∀ j < 2, PrOk (pr j)) ∧ (∀ j < 2, (X j).d ≤ i) ∧ Good nm ∧ σ = lS s0 A t mood fill nm v12 v13 v14 v15 v16 v17 v18 v19)
      ⟨_, X, kp, du, pr, nm, none, none, none, none, none, none, none, none, S1, by omega, okp, fun j hj => by rw [hd j hj]; exact Nat.le_refl _, gnm, rfl⟩ ?_ ?_
    · clear S1 hcnt okp hd gnm
      rintro i σ H2 hi ⟨cnt, X, kp, du, pr, nm, v12, v13, v14, v15, v16, v17, v18, v19, S, hcnt, okp, hd, gnm, rfl⟩
      rw [Int.zero_add]
      refine ⟨fun σ H' => ∃ (cnt' : Nat) (kind : Int) (asked : Bool) (nm : Str), Set0 CL CS H' A cnt' ks X c n bb kp du pr pr fill ∧ cnt' ≤ cnt + 4 ∧ Good nm ∧ σ = lS s0 A t mood fill nm (some (.int (i : Nat))) (some (.int kind)) (some (.bl asked)) v15 v16 v17 v18 v19, ?_, ?_⟩
      · refine ⟨_, rfl, _, rfl, _, _, rfl, rfl, _, rfl, ite2 (fun hb => ?_) (fun hb => ?_)⟩
        · have hif : (i : Int) < fill := of_decide_eq_true hb
          obtain ⟨nm2, e2, g2⟩ := S.key (i := i) (by have := S.f1; omega)
          exact ⟨_, rfl, _, rfl, A.na, _, _, _, rfl, rfl, SqL.of S.big.hks, atI_nat e2, cnt, 1, false, nm2, S, by omega, g2, rfl⟩
        · refine ⟨_, rfl, A.b, A.ca, 8, cnt, rfl, S.big.box, by omega, by decide, by decide, fun H3 kind f3 B3 kind0 kind8 => ?_⟩
          have S3 := S.to (S.big.drawn f3 B3)
          refine ⟨_, rfl, _, rfl, _, rfl, A.b, A.ca, _, A.na, ks, nm, rfl, S3.big.box, by omega, S3.big.hks, S3.big.dis 4 0 _ _ (by omega) rfl rfl A.na (by simp), S3.gks, gnm, by rw [S3.lks]; omega, by rw [S3.lks]; have := S3.b66; omega, fun H4 nm4 f4 B4 g4 => ?_⟩
          have S4 := S3.to (S3.big.drawn f4 B4)
          refine ⟨_, rfl, A.b, A.ca, 3, _, rfl, S4.big.box, by omega, by decide, by decide, fun H5 x f5 B5 x0 x3 => ?_⟩
          exact ⟨rfl, _, kind, _, nm4, S4.to (S4.big.drawn f5 B5), by omega, g4, rfl⟩
      clear S gnm nm
      rintro σ H3 ⟨cnt3, kind, asked, nm, S, hcnt3, gnm, rfl⟩
      refine ⟨_, rfl, A.b, A.ca, cnt3, rfl, S.big.box, by omega, fun H4 z f4 B4 => ?_⟩
      have S4 := S.to (S.big.drawn f4 B4)
      clear S f4 B4 H2 H3
      have hlk := S4.lks
      have hb66' := S4.b66
      have lt100 : (ks.length : Int) < 2 ^ 100 := Int.lt_of_le_of_lt (show (ks.length : Int) ≤ 68 by omega) (by decide)
      refine ⟨_, rfl, _, rfl, _, rfl, A.na, _, rfl, .inl (SqL.of S4.big.hks), A.b, A.ca, _, _, rfl, S4.big.box, by omega, by rw [List.length_map]; omega, by rw [List.length_map]; exact lt100, fun H5 x f5 B5 x0 x1 => ?_⟩
      have S5 := S4.to (S4.big.drawn f5 B5)
      clear S4 f5 B5 lt100
      rw [List.length_map] at x1
      obtain ⟨j, rfl⟩ := Int.eq_ofNat_of_zero_le x0
      obtain ⟨seen, eseen, gseen⟩ := S5.key (i := j) (by omega)
      refine ⟨A.na, _, _, _, rfl, rfl, SqL.of S5.big.hks, atI_nat eseen, ?_⟩
      have hcnt5 : cnt3 + 3 + 1 ≤ cnt + 8 := by omega
      generalize cnt3 + 3 + 1 = cnt5 at S5 hcnt5
      clear hcnt3 x0 x1 eseen
      refine ⟨2, rfl, by omega, by omega, ?_⟩
      refine for_range (fun sd σ H' => ∃ (cnt' : Nat) (X : Nat → Sd) (kp du : Nat → Addr) (pr : Nat → List (Key × V)) (v17 v18 v19 : Option V), Set0 CL CS H' A cnt' ks X c n bb kp du pr pr fill ∧ cnt' ≤ cnt5 + sd * 20 ∧ (∀ j < 2, PrOk (pr j)) ∧ (∀ j < 2, (X j).d ≤ i + 1 ∧ (sd ≤ j → (X j).d ≤ i)) ∧ σ = lS s0 A t mood fill nm (some (.int (i : Nat))) (some (.int kind)) (some (.bl asked)) (some (.int z)) (some (.str seen)) v17 v18 v19)
        ⟨cnt5, X, kp, du, pr, _, _, _, S5, by omega, okp, fun j hj => ⟨by have := hd j hj; omega, fun _ => hd j hj⟩, rfl⟩ ?_ ?_
      · clear S5 okp hd X kp du pr
        rintro sd σ H6 hsd ⟨cnt6, X, kp, du, pr, v17, v18, v19, S, hcnt6, okp, hd, rfl⟩
        rw [Int.zero_add]
        have hsd2 : sd < 2 := hsd
        have lix : ∀ {x y : V}, ixN [x, y].length (sd : Nat) = some sd := fun {x y} => ixN_at (two_ix hsd2)
        refine ⟨(by show 0 ≤ sizeLine; decide), fun q0 hq0 => ?_⟩
        have f7 : Fr [] H6 (upd H6 q0 (.lst [])) := Fr.new hq0
        have e7 : (upd H6 q0 (.lst [])) q0 = some (.lst []) := upd_same
        generalize upd H6 q0 (.lst []) = H7 at f7 e7 ⊢
        have S7 := S.to (S.big.fr0 f7)
        clear S f7 hq0 H6
        refine ⟨fun σ H' => ∃ (cnt' : Nat) (p : Addr) (ps : List Int), Set0 CL CS H' A cnt' ks X c n bb kp du pr pr fill ∧ cnt' ≤ cnt6 + 14 ∧ H' p = some (.lst (ps.map V.int)) ∧ ps.length ≤ 12 ∧ σ = lS s0 A t mood fill nm (some (.int (i : Nat))) (some (.int kind)) (some (.bl asked)) (some (.int z)) (some (.str seen)) (some (.int (sd : Nat))) (some (.ref p)) v19, ?_, ?_⟩
        · refine ⟨_, rfl, rfl, _, rfl, ite2 (fun hb => ?_) (fun hb => ?_)⟩
          · refine ⟨_, rfl, _, rfl, _, rfl, A.ma, _, _, _, rfl, rfl, SqL.of S7.big.em, atI_nat (two_get (g := fun i => .ref (X i).m.m) hsd2), _, rfl, _, rfl, ?_⟩
            refine ⟨A.b, A.ca, cnt6, (X sd).m, cc c sd, (X sd).s, ((X sd).d : Nat), nm, mood, rfl, S7.big.box, by omega, (S7.big.D sd hsd2).md, (S7.big.D sd hsd2).ok, S7.l0, fun x hx => S7.big.dis (7 + sd) 0 _ _ (by omega) (regs_side hsd2) rfl x (by unfold Sd.fp; simp [hx]), fun H8 p ps f8 B8 hp ep lps => ?_⟩
            exact ⟨_, p, ps, S7.to (S7.big.drawn f8 B8), by omega, ep, lps, rfl⟩
          · exact ⟨cnt6, q0, [], S7, by omega, e7, by decide, rfl⟩
        clear S7 e7 q0 H7
        rintro σ H7 ⟨cnt7, p, ps, S7, hcnt7, ep, lps, rfl⟩
        have D7 := S7.big.D sd hsd2
        refine ⟨_, rfl, _, rfl, A.sa, _, _, _, rfl, rfl, SqL.of S7.big.es, atI_nat (two_get (g := fun i => .ref (X i).a.x) hsd2), _, rfl, _, rfl, A.ma, _, _, _, rfl, rfl, SqL.of S7.big.em, atI_nat (two_get (g := fun i => .ref (X i).m.m) hsd2), _, rfl, _, rfl, A.pa, _, _, _, rfl, rfl, SqL.of S7.big.ep, atI_nat (two_get (g := fun i => .ref (X i).pl) hsd2), _, rfl, _, rfl, _, rfl, _, rfl, ?_⟩
        refine ⟨(X sd).a, (X sd).m, (X sd).pl, cc c sd, n, (X sd).s, (X sd).d, (X sd).kvs, kind, nm, z, p, ps, bb, rfl, D7, gnm, ep, lps, by have := (hd sd hsd2).2 (Nat.le_refl _); omega, S7.hbb, by have := S7.b66; omega, fun H8 m' t8 => ?_⟩
        obtain ⟨em8, X', hdX, hX, B8⟩ := S7.big.turn hsd2 t8
        refine ⟨_, rfl, _, rfl, iteF' rfl ?_⟩
        refine ⟨_, rfl, _, rfl, _, rfl, A.ma, _, _, sd, rfl, rfl, em8, lix, ?_⟩
        have S9 := S7.to B8
        generalize upd H8 A.ma (.lst ([V.ref (X 0).m.m, V.ref (X 1).m.m].set sd (.ref m'.m))) = H9 at S9 ⊢
        have hd' : ∀ j < 2, (X' j).d ≤ i + 1 ∧ (sd + 1 ≤ j → (X' j).d ≤ i) := fun j hj => by
          by_cases q : j = sd
          · subst q
            have := (hd j hj).2 (Nat.le_refl _)
            exact ⟨by omega, fun h => by omega⟩
          · rw [hX j q]
            exact ⟨(hd j hj).1, fun h => (hd j hj).2 (by omega)⟩
        clear S7 B8 t8 em8 D7 hdX hX hd ep lps H8 H7
        generalize X' = Y at S9 hd' ⊢
        refine ⟨fun σ H' => Set0 CL CS H' A cnt7 ks Y c n bb kp du pr pr fill ∧ σ = lS s0 A t mood fill nm (some (.int (i : Nat))) (some (.int kind)) (some (.bl asked)) (some (.int z)) (some (.str seen)) (some (.int (sd : Nat))) (some (.ref p)) (some (.ref m'.m)), ?_, ?_⟩
        · have D9 := S9.big.D sd hsd2
          refine ⟨_, rfl, _, rfl, ?_⟩
          cases asked with
          | false => exact iteF' rfl (iteF' rfl ⟨S9, rfl⟩)
          | true =>
            refine iteT' rfl ⟨_, rfl, _, rfl, A.sa, _, _, _, rfl, rfl, SqL.of S9.big.es, atI_nat (two_get (g := fun i => .ref (Y i).a.x) hsd2), _, rfl, _, rfl, A.ma, _, _, _, rfl, rfl, SqL.of S9.big.em, atI_nat (two_get (g := fun i => .ref (Y i).m.m) hsd2), _, rfl, _, rfl, A.pa, _, _, _, rfl, rfl, SqL.of S9.big.ep, atI_nat (two_get (g := fun i => .ref (Y i).pl) hsd2), ?_⟩
            exact ⟨_, _, _, _, _, _, _, _, rfl, D9.st, D9.md, D9.ok.l, D9.kv, D9.hp, fun H10 f10 => ⟨_, rfl, iteF' rfl ⟨S9.to (S9.big.fr0 f10), rfl⟩⟩⟩
        clear S9 H9
        rintro σ H9 ⟨S9, rfl⟩
        have D9 := S9.big.D sd hsd2
        refine ⟨_, rfl, _, rfl, A.sa, _, _, _, rfl, rfl, SqL.of S9.big.es, atI_nat (two_get (g := fun i => .ref (Y i).a.x) hsd2), _, rfl, _, rfl, A.pa, _, _, _, rfl, rfl, SqL.of S9.big.ep, atI_nat (two_get (g := fun i => .ref (Y i).pl) hsd2), _, rfl, ?_⟩
        refine ⟨_, _, _, _, _, _, _, _, rfl, D9.st, D9.kv, D9.hp, gseen, fun H10 f10 => ⟨_, rfl, iteF' rfl ?_⟩⟩
        have S10 := S9.to (S9.big.fr0 f10)
        clear S9 D9 f10 H9
        have D10 := S10.big.D sd hsd2
        refine ⟨_, rfl, _, rfl, rfl, _, rfl, ite2 (fun hb => ?_) (fun hb => ?_)⟩
        · obtain ⟨dx, cr, wt, eo⟩ := D10.st.ob
          refine ⟨_, rfl, _, rfl, A.sa, _, _, _, rfl, rfl, SqL.of S10.big.es, atI_nat (two_get (g := fun i => .ref (Y i).a.x) hsd2), (Y sd).a.x, dx, _, rfl, eo, rfl, _, _, _, _, _, _, rfl, D10.st, D10.ok.l, D10.kv, fun H11 p11 f11 hp11 e11 => ?_⟩
          obtain ⟨ek, B12⟩ := S10.big.keepK hsd2 f11 hp11 e11
          refine ⟨_, rfl, _, rfl, A.ka, _, _, sd, rfl, rfl, ek, lix, ?_⟩
          generalize upd H11 A.ka (.lst ([V.ref (kp 0), V.ref (kp 1)].set sd (.ref p11))) = H12 at B12 ⊢
          have D12 := B12.D sd hsd2
          refine ⟨_, rfl, _, rfl, A.ma, _, _, _, rfl, rfl, SqL.of B12.em, atI_nat (two_get (g := fun i => .ref (Y i).m.m) hsd2), _, rfl, _, rfl, A.pa, _, _, _, rfl, rfl, SqL.of B12.ep, atI_nat (two_get (g := fun i => .ref (Y i).pl) hsd2), ?_⟩
          refine ⟨_, _, _, _, _, _, rfl, D12.md, D12.ok.l, D12.kv, D12.hp, fun H13 p13 f13 hp13 e13 => ?_⟩
          obtain ⟨ed, B14⟩ := B12.keepD hsd2 f13 hp13 e13
          refine ⟨_, rfl, _, rfl, A.da, _, _, sd, rfl, rfl, ed, lix, ?_⟩
          refine ⟨cnt7, Y, _, _, _, _, _, _, S10.to B14, by omega, fun j hj => ?_, hd', rfl⟩
          show PrOk (if j = sd then _ else pr j)
          by_cases q : j = sd
          · rw [if_pos q]; exact tab_ok D10.ok.l D10.kv
          · rw [if_neg q]; exact okp j hj
        · exact ⟨cnt7, Y, kp, du, pr, _, _, _, S10, by omega, okp, hd', rfl⟩
      · rintro σ H6 ⟨cnt6, X, kp, du, pr, v17, v18, v19, S, hcnt6, okp, hd, rfl⟩
        exact ⟨cnt6, X, kp, du, pr, nm, _, _, _, _, _, _, _, _, S, by omega, okp, fun j hj => (hd j hj).1, gnm, rfl⟩
    · rintro σ H2 ⟨cnt, X, kp, du, pr, nm, v12, v13, v14, v15, v16, v17, v18, v19, S, hcnt, okp, hd, gnm, rfl⟩
      refine ⟨2, rfl, by omega, by omega, ?_⟩
      refine for_range (fun sd σ H' => Fr [] H2 H' ∧ ∃ (v17 : Option V), σ = lS s0 A t mood fill nm v12 v13 v14 v15 v16 v17 v18 v19) ⟨Fr.refl _ _, _, rfl⟩ ?_ ?_
      · rintro sd σ H3 hsd ⟨f3, v17, rfl⟩
        rw [Int.zero_add]
        have hsd2 : sd < 2 := hsd
        have B3 := S.big.fr0 f3
        refine ⟨_, rfl, _, rfl, A.ka, _, _, _, rfl, rfl, SqL.of B3.ek, atI_nat (two_get (g := fun i => .ref (kp i)) hsd2), _, rfl, _, rfl, A.da, _, _, _, rfl, rfl, SqL.of B3.ed, atI_nat (two_get (g := fun i => .ref (du i)) hsd2), ?_⟩
        exact ⟨_, _, _, rfl, B3.tab sd hsd2, B3.prs sd hsd2, okp sd hsd2, fun H4 f4 => ⟨_, rfl, iteF' rfl ⟨f3.then f4, _, rfl⟩⟩⟩
      · rintro σ H3 ⟨f3, v17, rfl⟩
        have B3 := S.big.fr0 f3
        have hlk := S.lks
        have hb66' := S.b66
        exact ⟨_, rfl, _, rfl, _, rfl, _, rfl, X, cc c, n, A.sa, A.ma, A.pa, A.na, ks, rfl, B3.es, B3.em, B3.ep, B3.hks, S.gks, by omega, B3.D, fun H4 f4 => q H4⟩
end
end Cg

set_option Elab.async false
set_option linter.all false
set_option maxRecDepth 100000
set_option maxHeartbeats 400000
namespace Cg
open PySem PySem.Spec PyProof.Rows L2
/-! ### what the top has left -/
structure FnF (K : PySem.W.Frag) (x qual : Str) (st : Stmt) (f : Addr) : Prop where
  ex : ∃ (oc : Value) (od : Option Addr) (kV doc pm : Value) (an : Option Addr) (cdv ct : Value) (osl : Array (Option Value)),
    K.lookup f = some ⟨oc, od, .func (PySem.W.fnOf x qual (C8.fnArgs st) (C8.fnBody st) (C8.fnScope st) .none kV doc pm an cdv ct), osl⟩ ∧ PySem.W.codeIn K cdv qual = true
  kp : PySem.W.keepIn K (.ref f) = true
structure FnL (K : PySem.W.Frag) (x qual : Str) (st : Stmt) (f D : Addr) : Prop where
  ex : ∃ (oc : Value) (od : Option Addr) (dV doc pm : Value) (an : Option Addr) (cdv ct : Value) (osl : Array (Option Value)),
    K.lookup f = some ⟨oc, od, .func (PySem.W.fnOf x qual (C8.fnArgs st) (C8.fnBody st) (C8.fnScope st) .none (.ref D) doc pm an cdv ct), osl⟩ ∧ PySem.W.codeIn K cdv qual = true
  kp : PySem.W.keepIn K (.ref f) = true
theorem FnF.of {K : PySem.W.Frag} {x qual : Str} {st : Stmt} {f : Addr} {oc : Value} {od : Option Addr} {kV doc pm : Value} {an : Option Addr} {cdv ct : Value} {osl : Array (Option Value)}
    (l : K.lookup f = some ⟨oc, od, .func (PySem.W.fnOf x qual (C8.fnArgs st) (C8.fnBody st) (C8.fnScope st) .none kV doc pm an cdv ct), osl⟩) (c : PySem.W.codeIn K cdv qual = true) (k : PySem.W.keepIn K (.ref f) = true) : FnF K x qual st f := ⟨⟨oc, od, kV, doc, pm, an, cdv, ct, osl, l, c⟩, k⟩
theorem FnL.of {K : PySem.W.Frag} {x qual : Str} {st : Stmt} {f D : Addr} {oc : Value} {od : Option Addr} {doc pm : Value} {an : Option Addr} {cdv ct : Value} {osl : Array (Option Value)}
    (l : K.lookup f = some ⟨oc, od, .func (PySem.W.fnOf x qual (C8.fnArgs st) (C8.fnBody st) (C8.fnScope st) .none (.ref D) doc pm an cdv ct), osl⟩) (c : PySem.W.codeIn K cdv qual = true) (k : PySem.W.keepIn K (.ref f) = true) : FnL K x qual st f D := ⟨⟨oc, od, .none, doc, pm, an, cdv, ct, osl, l, c⟩, k⟩
section
variable {K : PySem.W.Frag} {mg : Str → Option Value} {h : Heap} {x qual : Str} {st : Stmt} {f D : Addr} {ps : List Str}
theorem FnF.fn0 (F : FnF K x qual st f) : ∃ fd : FuncData, C8.Fun K x qual st f fd ∧ fd.defaults = .none := by
  obtain ⟨oc, od, kV, doc, pm, an, cdv, ct, osl, l, c⟩ := F.ex
  exact ⟨_, ⟨oc, od, .none, kV, doc, pm, an, cdv, ct, osl, rfl, l, c⟩, rfl⟩
theorem FnF.binds (F : FnF K x qual st f) (hb : ∀ (kV doc pm : Value) (an : Option Addr) (cdv ct : Value) (us : List Value), us.length = ps.length → bindArgs (PySem.W.fnOf x qual (C8.fnArgs st) (C8.fnBody st) (C8.fnScope st) .none kV doc pm an cdv ct) ⟨us, []⟩ = pure (ps.zip us)) :
    ∃ fd : FuncData, C8.Fun K x qual st f fd ∧ Binds K fd ps [] := by
  obtain ⟨fd, G, e⟩ := F.fn0
  exact ⟨fd, G, G.binds e hb⟩
theorem def_of (X : K.In h) (G : h.Ns mainGlobals mg) (a : PySem.W.nsIn K mainGlobals x = some (some (.ref f))) (F : FnF K x x st f)
    (hb : ∀ (kV doc pm : Value) (an : Option Addr) (cdv ct : Value) (us : List Value), us.length = ps.length → bindArgs (PySem.W.fnOf x x (C8.fnArgs st) (C8.fnBody st) (C8.fnScope st) .none kV doc pm an cdv ct) ⟨us, []⟩ = pure (ps.zip us)) :
    ∃ fd : FuncData, C8.Def K mg x st f fd ∧ Binds K fd ps [] := by
  obtain ⟨fd, G1, b⟩ := F.binds hb
  exact ⟨fd, ⟨G1, PySem.W.mg_of X G a, F.kp⟩, b⟩
theorem law_of (X : K.In h) (G : h.Ns mainGlobals mg) (a : PySem.W.nsIn K mainGlobals "law" = some (some (.ref f))) (F : FnF K "law" "law" s_law f) :
    ∃ fd : FuncData, C8.Def K mg "law" s_law f fd ∧ ∀ (s : Shared) (v : Value), BindsTo s fd ⟨[v], []⟩ [("_law_script", v)] := by
  obtain ⟨oc, od, kV, doc, pm, an, cdv, ct, osl, l, c⟩ := F.ex
  exact ⟨_, ⟨⟨oc, od, .none, kV, doc, pm, an, cdv, ct, osl, rfl, l, c⟩, PySem.W.mg_of X G a, F.kp⟩, fun s v => .of_eq rfl⟩
theorem FnL.late (F : FnL K x qual st f D) (hl : PySem.W.nsIn K D "late" = some (some (.bool false))) :
    ∃ fd : FuncData, C8.Fun K x qual st f fd ∧ FunD K x qual (C8.fnArgs st) (C8.fnBody st) (C8.fnScope st) [] [(("late" : Str), .bl false)] f fd := by
  obtain ⟨oc, od, dV, doc, pm, an, cdv, ct, osl, l, c⟩ := F.ex
  refine ⟨_, ⟨oc, od, .none, .ref D, doc, pm, an, cdv, ct, osl, rfl, l, c⟩, ⟨oc, od, .none, .ref D, doc, pm, an, cdv, ct, osl, rfl, l, c, .inl ⟨rfl, rfl⟩, .inr ⟨D, rfl, fun q hq => ?_⟩⟩, F.kp⟩
  rw [List.mem_singleton.mp hq]
  exact ⟨_, hl, rfl⟩
end
open CgE PySem.W in
/-- one own error -/
structure ErF (P : Program) (K : PySem.W.Frag) (f qual : Str) (msg : Expr) (C fI cda cc : Addr) : Prop where
  cls : ∃ nm q N bs bm sn sub ab col dd k0 k1 k2 k3 k5, K.lookup C = some (excClassObj nm q C N bs bm true sn sub ab col dd k0 k1 k2 k3 k5 "ValueError.__new__") ∧ PySem.HandSPX.refsVE bm = true
  sa : findIn K (.ref C) "__setattr__" = some (some (.builtin "object.__setattr__"))
  noN : findIn K (.ref C) f = some none
  tC : typeIn K (.ref fI) = some (.type "function")
  kC : keepIn K (.ref C) = true
  exC : subIn K (.ref C) (.type "BaseException") = some true
  tyC : typeIn K (.ref C) = some (.type "type")
  hB : subIn K (.ref C) (.type "ValueError") = some true
  hsub : mroIn K C (.ref C) = some true
  fn : ∃ (oc : Value) (od : Option Addr) (doc pm : Value) (an : Option Addr) (ct : Value) (osl : Array (Option Value)) (p1 p2 r1 r2 r3 r4 r5 q1 q2 q3 q4 : Pos),
    K.lookup fI = some ⟨oc, od, .func (ksFn "__init__" qual (iA f p1 p2) (iB f msg r1 r2 r3 r4 r5 q1 q2 q3 q4) (iS f) .none .none doc pm an (.ref cda) ct cc), osl⟩ ∧ (r3.endLine == r4.line) = true
  cd : codeIn K (.ref cda) qual = true
  code : ∃ (ccl : Value) (cdd : Option Addr) (vs : Array Value) (ccs : Array (Option Value)) (file : Str) (tf : Tok), K.lookup cda = some ⟨ccl, cdd, .fields vs, ccs⟩ ∧ vs[2]? = some (.str file tf) ∧ ((P.main.file : Str) == file) = true
  cell : ∃ (cl : Value) (cld : Option Addr) (csl : Array (Option Value)), K.lookup cc = some ⟨cl, cld, .cell (some (.ref C)), csl⟩
  ga : findIn K (.ref C) "__getattribute__" = some (some (.builtin "BaseException.__getattribute__"))
  gg : findIn K (.ref C) "__getattr__" = some none
  hdC : hasDictIn K C = true
  isC : isClsIn K C = true
open CgE PySem.W in
theorem ErF.of {P : Program} {K : PySem.W.Frag} {f qual : Str} {msg : Expr} {C fI cda cc : Addr} {nm q : Str} {N : Addr} {bs bm : List Value} {sn : List Str} {sub : List Value} {ab : Bool} {col : Option Bool} {dd : Option Addr} {k0 k1 k2 k3 k5 : Option Value}
    {oc : Value} {od : Option Addr} {doc pm : Value} {an : Option Addr} {ct : Value} {osl : Array (Option Value)} {p1 p2 r1 r2 r3 r4 r5 q1 q2 q3 q4 : Pos} {ccl : Value} {cdd : Option Addr} {vs : Array Value} {ccs : Array (Option Value)} {file : Str} {tf : Tok} {cl : Value} {cld : Option Addr} {csl : Array (Option Value)}
    (hC : K.lookup C = some (excClassObj nm q C N bs bm true sn sub ab col dd k0 k1 k2 k3 k5 "ValueError.__new__")) (rv : PySem.HandSPX.refsVE bm = true) (sa : findIn K (.ref C) "__setattr__" = some (some (.builtin "object.__setattr__"))) (noN : findIn K (.ref C) f = some none) (tC : typeIn K (.ref fI) = some (.type "function"))
    (kC : keepIn K (.ref C) = true) (exC : subIn K (.ref C) (.type "BaseException") = some true) (tyC : typeIn K (.ref C) = some (.type "type")) (hB : subIn K (.ref C) (.type "ValueError") = some true) (hsub : mroIn K C (.ref C) = some true)
    (fn : K.lookup fI = some ⟨oc, od, .func (ksFn "__init__" qual (iA f p1 p2) (iB f msg r1 r2 r3 r4 r5 q1 q2 q3 q4) (iS f) .none .none doc pm an (.ref cda) ct cc), osl⟩) (ln : (r3.endLine == r4.line) = true) (cd : codeIn K (.ref cda) qual = true)
    (co : K.lookup cda = some ⟨ccl, cdd, .fields vs, ccs⟩) (v2 : vs[2]? = some (.str file tf)) (pf : ((P.main.file : Str) == file) = true) (ce : K.lookup cc = some ⟨cl, cld, .cell (some (.ref C)), csl⟩)
    (ga : findIn K (.ref C) "__getattribute__" = some (some (.builtin "BaseException.__getattribute__"))) (gg : findIn K (.ref C) "__getattr__" = some none) (hdC : hasDictIn K C = true) (isC : isClsIn K C = true) : ErF P K f qual msg C fI cda cc :=
  ⟨⟨nm, q, N, bs, bm, sn, sub, ab, col, dd, k0, k1, k2, k3, k5, hC, rv⟩, sa, noN, tC, kC, exC, tyC, hB, hsub, ⟨oc, od, doc, pm, an, ct, osl, p1, p2, r1, r2, r3, r4, r5, q1, q2, q3, q4, fn, ln⟩, cd, ⟨ccl, cdd, vs, ccs, file, tf, co, v2, pf⟩, ⟨cl, cld, csl, ce⟩, ga, gg, hdC, isC⟩
theorem ErF.exm {P : Program} {K : PySem.W.Frag} {f qual : Str} {msg : Expr} {S C fI cda cc : Addr} {t : Bool} (E : ErF P K f qual msg C fI cda cc) (h4 : PySem.W.subIn K (.ref S) (.ref C) = some t) : PySem.W.exmOne K (.ref S) (.ref C) = some t := by
  have e1 : (PySem.W.subIn K (.ref C) (.type "BaseException") == some true) = true := by rw [E.exC] <;> rfl
  have e2 : ((PySem.W.clsIn K C).isSome && PySem.W.typeIn K (.ref C) == some (.type "type")) = true := by
    have h : (PySem.W.clsIn K C).isSome = true := E.isC
    rw [h, E.tyC] <;> rfl
  unfold PySem.W.exmOne
  rw [if_pos e1]
  show (if ((PySem.W.clsIn K C).isSome && PySem.W.typeIn K (.ref C) == some (.type "type")) = true then PySem.W.subIn K (.ref S) (.ref C) else none) = some t
  rw [if_pos e2]
  exact h4
theorem log_ok {n : Nat} (h : n ≤ 300) : ((n : Nat) : Int).natAbs.log2 < 1920 := by
  have : ∀ i : Fin 301, ((i.1 : Nat) : Int).natAbs.log2 < 1920 := by decide +kernel
  exact this ⟨n, by omega⟩
theorem str_ok {n : Nat} (h : n ≤ 300) : (toString ((n : Nat) : Int) : Str).length ≤ 1000 := by
  have : ∀ i : Fin 301, (toString ((i.1 : Nat) : Int) : Str).length ≤ 1000 := by decide +kernel
  exact this ⟨n, by omega⟩
theorem repr_ok {y : Str} (g : Good y) : (reprText y).length ≤ 1000 := by
  have hc : ∀ c ∈ y.cps.toList, c < 16 ^ 8 := fun c hc => by
    have : ∀ x ∈ SG.cps.toList, x < 16 ^ 8 := by decide +kernel
    exact this c (g.all c hc)
  have := PySem.StrLaws.reprText_len y hc
  have := g.hi
  omega

theorem all_mk {P : Program} {w : World} {K : PySem.W.Frag} {h : Heap} {mg : Str → Option Value} {fa CL CS : Addr} {tk1 tk2 : Tok} {zc : Str} {Ck : Addr} {zk1 zk2 : Str} {jk1 jk2 : Nat} {pk1 pk2 pk3 pk4 pk5 : Pos} {fk cdk cck : Addr} {Cu : Addr} {zu1 : Str} {ju1 : Nat} {pu1 pu2 pu3 pu5 : Pos} {fu cdu ccu : Addr} {Cb : Addr} {zb1 : Str} {jb1 : Nat} {pb1 : Pos} {fb cdb ccb : Addr} {Ct : Addr} {zt1 zt2 : Str} {jt1 jt2 : Nat} {pt1 pt2 pt3 pt4 pt5 : Pos} {ft cdt cct : Addr} {f__law_alive : Addr} {f__law_shut : Addr} {f__law_empty : Addr} {f__law_room : Addr} {f__law_write : Addr} {f__law_kill : Addr} {f__law_find : Addr} {f__law_move : Addr} {f__law_drop : Addr} {f__law_begin : Addr} {f__law_put : Addr} {f__law_copy : Addr} {f__law_model : Addr} {f__law_draw : Addr} {f__law_key : Addr} {f__law_box : Addr} {f__law_worth : Addr} {f__law_next : Addr} {f__law_terms : Addr} {f__law_names : Addr} {f__law_picks : Addr} {f_at_least : Addr} {f_good_key : Addr} {f__law_is_integer : Addr} {f__append_or_stall : Addr} {f__law_call : Addr} {f__law_told_put : Addr} {f__law_told_drop : Addr} {f__law_name_holds : Addr} {f__law_pairs : Addr} {f__law_table_is : Addr} {f__law_table_holds : Addr} {f__law_turn : Addr} {f__law_ends : Addr} {f_law : Addr} {f_SegmentLog_head_segment : Addr} {f_SegmentLog_alive : Addr} {f_SegmentLog_is_closed : Addr} {f_SegmentLog_unwritten : Addr} {f_SegmentLog_room_left : Addr} {f_SegmentLog_spot_of : Addr} {f_SegmentLog_can_carry : Addr} {f_SegmentLog_append_key : Addr} {f_SegmentLog_kill_at : Addr} {f_SegmentLog_carry_from : Addr} {f_SegmentLog___init__ : Addr} {f_SegmentLog_copied : Addr} {f_Segments___len__ : Addr} {f_Segments___contains__ : Addr} {f_Segments_read : Addr} {f_Segments_table : Addr} {f_Segments_delete : Addr} {f_Segments_put : Addr} {f_Segments___init__ : Addr} {kwD : Addr}
    (X : K.In h) (G : h.Ns mainGlobals mg) (hfa : mg "law" = some (.ref fa))
    (z_len : PySem.W.nsIn K mainGlobals "len" = some none)
    (z_range : PySem.W.nsIn K mainGlobals "range" = some none)
    (z_list : PySem.W.nsIn K mainGlobals "list" = some none)
    (z_int : PySem.W.nsIn K mainGlobals "int" = some none)
    (z_max : PySem.W.nsIn K mainGlobals "max" = some none)
    (z_min : PySem.W.nsIn K mainGlobals "min" = some none)
    (z_sum : PySem.W.nsIn K mainGlobals "sum" = some none)
    (z_dict : PySem.W.nsIn K mainGlobals "dict" = some none)
    (z_isinstance : PySem.W.nsIn K mainGlobals "isinstance" = some none)
    (z_enumerate : PySem.W.nsIn K mainGlobals "enumerate" = some none)
    (z_str : PySem.W.nsIn K mainGlobals "str" = some none)
    (z_bool : PySem.W.nsIn K mainGlobals "bool" = some none)
    (z_super : PySem.W.nsIn K mainGlobals "super" = some none)
    (z_any : PySem.W.nsIn K cStatics "thirdparty.any" = some none)
    (z_top : (P.main.scope.names.lookup ("super" : Str)).isSome = false)
    (z_KL : PySem.W.nsIn K mainGlobals "KEY_LENGTH" = some (some (.int 12 tk1)))
    (z_KC : PySem.W.nsIn K mainGlobals "KEY_CHARACTERS" = some (some (.str zc tk2)))
    (z_KCe : zc = SG)
    (a_CL : PySem.W.nsIn K mainGlobals "SegmentLog" = some (some (.ref CL)))
    (p_CL : PySem.W.plainGet K CL Str.empty = true)
    (h_CL : PySem.W.hasDictIn K CL = true)
    (o_CL : PySem.W.plainOver K CL = true)
    (s_CL : PySem.W.findIn K (.ref CL) "__setattr__" = some (some (.builtin "object.__setattr__")))
    (m_CL : PySem.W.makesIn K CL = true)
    (k_CL : PySem.W.keepIn K (.ref CL) = true)
    (a_CS : PySem.W.nsIn K mainGlobals "Segments" = some (some (.ref CS)))
    (p_CS : PySem.W.plainGet K CS Str.empty = true)
    (h_CS : PySem.W.hasDictIn K CS = true)
    (o_CS : PySem.W.plainOver K CS = true)
    (s_CS : PySem.W.findIn K (.ref CS) "__setattr__" = some (some (.builtin "object.__setattr__")))
    (m_CS : PySem.W.makesIn K CS = true)
    (k_CS : PySem.W.keepIn K (.ref CS) = true)
    (n_l_span : PySem.W.findIn K (.ref CL) "span" = some none)
    (n_l_rows : PySem.W.findIn K (.ref CL) "rows" = some none)
    (n_l_turns : PySem.W.findIn K (.ref CL) "turns" = some none)
    (n_l_frees : PySem.W.findIn K (.ref CL) "frees" = some none)
    (n_s_segments : PySem.W.findIn K (.ref CS) "_segments" = some none)
    (n_s_size : PySem.W.findIn K (.ref CS) "_size" = some none)
    (n_s_limit : PySem.W.findIn K (.ref CS) "_limit" = some none)
    (n_s_budget : PySem.W.findIn K (.ref CS) "_budget" = some none)
    (n_s_late : PySem.W.findIn K (.ref CS) "_late" = some none)
    (n_s_log : PySem.W.findIn K (.ref CS) "_log" = some none)
    (n_s_values : PySem.W.findIn K (.ref CS) "_values" = some none)
    (n_s_done : PySem.W.findIn K (.ref CS) "_done" = some none)
    (n_s_carried : PySem.W.findIn K (.ref CS) "_carried" = some none)
    (n_s_last_wait : PySem.W.findIn K (.ref CS) "_last_wait" = some none)
    (a_KeyLimit : PySem.W.nsIn K mainGlobals "KeyLimit" = some (some (.ref Ck)))
    (i_KeyLimit : PySem.W.findIn K (.ref Ck) "__init__" = some (some (.ref fk)))
    (e_KeyLimit : ErF P K "most" "KeyLimit.__init__" (.JoinedStr [.Constant (.str zk1) jk1 pk1, .FormattedValue (.Name "most" pk2) (-1) none pk3, .Constant (.str zk2) jk2 pk4] pk5) Ck fk cdk cck)
    (u_KeyLimit : PySem.W.ks_superIn K Ck Ck "__init__" = some (some (.builtin "ValueError.__init__")))
    (y1_KeyLimit : zk1.length ≤ 1000)
    (y2_KeyLimit : zk2.length ≤ 1000)
    (a_UnknownKey : PySem.W.nsIn K mainGlobals "UnknownKey" = some (some (.ref Cu)))
    (i_UnknownKey : PySem.W.findIn K (.ref Cu) "__init__" = some (some (.ref fu)))
    (e_UnknownKey : ErF P K "key" "UnknownKey.__init__" (.JoinedStr [.Constant (.str zu1) ju1 pu1, .FormattedValue (.Name "key" pu2) 114 none pu3] pu5) Cu fu cdu ccu)
    (u_UnknownKey : PySem.W.ks_superIn K Cu Cu "__init__" = some (some (.builtin "ValueError.__init__")))
    (y1_UnknownKey : zu1.length ≤ 1000)
    (a_BadChoice : PySem.W.nsIn K mainGlobals "BadChoice" = some (some (.ref Cb)))
    (i_BadChoice : PySem.W.findIn K (.ref Cb) "__init__" = some (some (.ref fb)))
    (e_BadChoice : ErF P K "choice" "BadChoice.__init__" (.Constant (.str zb1) jb1 pb1) Cb fb cdb ccb)
    (u_BadChoice : PySem.W.ks_superIn K Cb Cb "__init__" = some (some (.builtin "ValueError.__init__")))
    (a_Stalled : PySem.W.nsIn K mainGlobals "Stalled" = some (some (.ref Ct)))
    (i_Stalled : PySem.W.findIn K (.ref Ct) "__init__" = some (some (.ref ft)))
    (e_Stalled : ErF P K "deeds" "Stalled.__init__" (.JoinedStr [.Constant (.str zt1) jt1 pt1, .FormattedValue (.Name "deeds" pt2) (-1) none pt3, .Constant (.str zt2) jt2 pt4] pt5) Ct ft cdt cct)
    (u_Stalled : PySem.W.ks_superIn K Ct Ct "__init__" = some (some (.builtin "ValueError.__init__")))
    (y1_Stalled : zt1.length ≤ 1000)
    (y2_Stalled : zt2.length ≤ 1000)
    (x_kk : PySem.W.subIn K (.ref Ck) (.ref Ck) = some true)
    (x_bk : PySem.W.subIn K (.ref Cb) (.ref Ck) = some false)
    (x_tk : PySem.W.subIn K (.ref Ct) (.ref Ck) = some false)
    (x_bb : PySem.W.subIn K (.ref Cb) (.ref Cb) = some true)
    (x_tb : PySem.W.subIn K (.ref Ct) (.ref Cb) = some false)
    (x_tt : PySem.W.subIn K (.ref Ct) (.ref Ct) = some true)
    (x_uu : PySem.W.subIn K (.ref Cu) (.ref Cu) = some true)
    (a__law_alive : PySem.W.nsIn K mainGlobals "_law_alive" = some (some (.ref f__law_alive)))
    (d__law_alive : FnF K "_law_alive" "_law_alive" s_alive f__law_alive)
    (a__law_shut : PySem.W.nsIn K mainGlobals "_law_shut" = some (some (.ref f__law_shut)))
    (d__law_shut : FnF K "_law_shut" "_law_shut" s_shut f__law_shut)
    (a__law_empty : PySem.W.nsIn K mainGlobals "_law_empty" = some (some (.ref f__law_empty)))
    (d__law_empty : FnF K "_law_empty" "_law_empty" s_empty f__law_empty)
    (a__law_room : PySem.W.nsIn K mainGlobals "_law_room" = some (some (.ref f__law_room)))
    (d__law_room : FnF K "_law_room" "_law_room" s_room f__law_room)
    (a__law_write : PySem.W.nsIn K mainGlobals "_law_write" = some (some (.ref f__law_write)))
    (d__law_write : FnF K "_law_write" "_law_write" s_write f__law_write)
    (a__law_kill : PySem.W.nsIn K mainGlobals "_law_kill" = some (some (.ref f__law_kill)))
    (d__law_kill : FnF K "_law_kill" "_law_kill" s_kill f__law_kill)
    (a__law_find : PySem.W.nsIn K mainGlobals "_law_find" = some (some (.ref f__law_find)))
    (d__law_find : FnF K "_law_find" "_law_find" s_find f__law_find)
    (a__law_move : PySem.W.nsIn K mainGlobals "_law_move" = some (some (.ref f__law_move)))
    (d__law_move : FnF K "_law_move" "_law_move" s_move f__law_move)
    (a__law_drop : PySem.W.nsIn K mainGlobals "_law_drop" = some (some (.ref f__law_drop)))
    (d__law_drop : FnF K "_law_drop" "_law_drop" s_drop f__law_drop)
    (a__law_begin : PySem.W.nsIn K mainGlobals "_law_begin" = some (some (.ref f__law_begin)))
    (d__law_begin : FnF K "_law_begin" "_law_begin" s_begin f__law_begin)
    (a__law_put : PySem.W.nsIn K mainGlobals "_law_put" = some (some (.ref f__law_put)))
    (d__law_put : FnF K "_law_put" "_law_put" s_put f__law_put)
    (a__law_copy : PySem.W.nsIn K mainGlobals "_law_copy" = some (some (.ref f__law_copy)))
    (d__law_copy : FnF K "_law_copy" "_law_copy" s_copy f__law_copy)
    (a__law_model : PySem.W.nsIn K mainGlobals "_law_model" = some (some (.ref f__law_model)))
    (d__law_model : FnF K "_law_model" "_law_model" s_model f__law_model)
    (a__law_draw : PySem.W.nsIn K mainGlobals "_law_draw" = some (some (.ref f__law_draw)))
    (d__law_draw : FnF K "_law_draw" "_law_draw" s_draw f__law_draw)
    (a__law_key : PySem.W.nsIn K mainGlobals "_law_key" = some (some (.ref f__law_key)))
    (d__law_key : FnF K "_law_key" "_law_key" s_key f__law_key)
    (a__law_box : PySem.W.nsIn K mainGlobals "_law_box" = some (some (.ref f__law_box)))
    (d__law_box : FnF K "_law_box" "_law_box" s_box f__law_box)
    (a__law_worth : PySem.W.nsIn K mainGlobals "_law_worth" = some (some (.ref f__law_worth)))
    (d__law_worth : FnF K "_law_worth" "_law_worth" s_worth f__law_worth)
    (a__law_next : PySem.W.nsIn K mainGlobals "_law_next" = some (some (.ref f__law_next)))
    (d__law_next : FnF K "_law_next" "_law_next" s_next f__law_next)
    (a__law_terms : PySem.W.nsIn K mainGlobals "_law_terms" = some (some (.ref f__law_terms)))
    (d__law_terms : FnF K "_law_terms" "_law_terms" s_terms f__law_terms)
    (a__law_names : PySem.W.nsIn K mainGlobals "_law_names" = some (some (.ref f__law_names)))
    (d__law_names : FnF K "_law_names" "_law_names" s_names f__law_names)
    (a__law_picks : PySem.W.nsIn K mainGlobals "_law_picks" = some (some (.ref f__law_picks)))
    (d__law_picks : FnF K "_law_picks" "_law_picks" s_picks f__law_picks)
    (a_at_least : PySem.W.nsIn K mainGlobals "at_least" = some (some (.ref f_at_least)))
    (d_at_least : FnF K "at_least" "at_least" s_at_least f_at_least)
    (a_good_key : PySem.W.nsIn K mainGlobals "good_key" = some (some (.ref f_good_key)))
    (d_good_key : FnF K "good_key" "good_key" s_good_key f_good_key)
    (a__law_is_integer : PySem.W.nsIn K mainGlobals "_law_is_integer" = some (some (.ref f__law_is_integer)))
    (d__law_is_integer : FnF K "_law_is_integer" "_law_is_integer" s_is_integer f__law_is_integer)
    (a__append_or_stall : PySem.W.nsIn K mainGlobals "_append_or_stall" = some (some (.ref f__append_or_stall)))
    (d__append_or_stall : FnF K "_append_or_stall" "_append_or_stall" s_append_or_stall f__append_or_stall)
    (a__law_call : PySem.W.nsIn K mainGlobals "_law_call" = some (some (.ref f__law_call)))
    (d__law_call : FnF K "_law_call" "_law_call" s_call f__law_call)
    (a__law_told_put : PySem.W.nsIn K mainGlobals "_law_told_put" = some (some (.ref f__law_told_put)))
    (d__law_told_put : FnF K "_law_told_put" "_law_told_put" s_told_put f__law_told_put)
    (a__law_told_drop : PySem.W.nsIn K mainGlobals "_law_told_drop" = some (some (.ref f__law_told_drop)))
    (d__law_told_drop : FnF K "_law_told_drop" "_law_told_drop" s_told_drop f__law_told_drop)
    (a__law_name_holds : PySem.W.nsIn K mainGlobals "_law_name_holds" = some (some (.ref f__law_name_holds)))
    (d__law_name_holds : FnF K "_law_name_holds" "_law_name_holds" s_name_holds f__law_name_holds)
    (a__law_pairs : PySem.W.nsIn K mainGlobals "_law_pairs" = some (some (.ref f__law_pairs)))
    (d__law_pairs : FnF K "_law_pairs" "_law_pairs" s_pairs f__law_pairs)
    (a__law_table_is : PySem.W.nsIn K mainGlobals "_law_table_is" = some (some (.ref f__law_table_is)))
    (d__law_table_is : FnF K "_law_table_is" "_law_table_is" s_table_is f__law_table_is)
    (a__law_table_holds : PySem.W.nsIn K mainGlobals "_law_table_holds" = some (some (.ref f__law_table_holds)))
    (d__law_table_holds : FnF K "_law_table_holds" "_law_table_holds" s_table_holds f__law_table_holds)
    (a__law_turn : PySem.W.nsIn K mainGlobals "_law_turn" = some (some (.ref f__law_turn)))
    (d__law_turn : FnF K "_law_turn" "_law_turn" s_turn f__law_turn)
    (a__law_ends : PySem.W.nsIn K mainGlobals "_law_ends" = some (some (.ref f__law_ends)))
    (d__law_ends : FnF K "_law_ends" "_law_ends" s_ends f__law_ends)
    (a_law : PySem.W.nsIn K mainGlobals "law" = some (some (.ref f_law)))
    (d_law : FnF K "law" "law" s_law f_law)
    (a_SegmentLog_head_segment : PySem.W.findIn K (.ref CL) "head_segment" = some (some (.ref f_SegmentLog_head_segment)))
    (i_SegmentLog_head_segment : PySem.W.isFn K (.ref f_SegmentLog_head_segment) = true)
    (d_SegmentLog_head_segment : FnF K "head_segment" "SegmentLog.head_segment" s_l_head_segment f_SegmentLog_head_segment)
    (a_SegmentLog_alive : PySem.W.findIn K (.ref CL) "alive" = some (some (.ref f_SegmentLog_alive)))
    (i_SegmentLog_alive : PySem.W.isFn K (.ref f_SegmentLog_alive) = true)
    (d_SegmentLog_alive : FnF K "alive" "SegmentLog.alive" s_l_alive f_SegmentLog_alive)
    (a_SegmentLog_is_closed : PySem.W.findIn K (.ref CL) "is_closed" = some (some (.ref f_SegmentLog_is_closed)))
    (i_SegmentLog_is_closed : PySem.W.isFn K (.ref f_SegmentLog_is_closed) = true)
    (d_SegmentLog_is_closed : FnF K "is_closed" "SegmentLog.is_closed" s_l_is_closed f_SegmentLog_is_closed)
    (a_SegmentLog_unwritten : PySem.W.findIn K (.ref CL) "unwritten" = some (some (.ref f_SegmentLog_unwritten)))
    (i_SegmentLog_unwritten : PySem.W.isFn K (.ref f_SegmentLog_unwritten) = true)
    (d_SegmentLog_unwritten : FnF K "unwritten" "SegmentLog.unwritten" s_l_unwritten f_SegmentLog_unwritten)
    (a_SegmentLog_room_left : PySem.W.findIn K (.ref CL) "room_left" = some (some (.ref f_SegmentLog_room_left)))
    (i_SegmentLog_room_left : PySem.W.isFn K (.ref f_SegmentLog_room_left) = true)
    (d_SegmentLog_room_left : FnF K "room_left" "SegmentLog.room_left" s_l_room_left f_SegmentLog_room_left)
    (a_SegmentLog_spot_of : PySem.W.findIn K (.ref CL) "spot_of" = some (some (.ref f_SegmentLog_spot_of)))
    (i_SegmentLog_spot_of : PySem.W.isFn K (.ref f_SegmentLog_spot_of) = true)
    (d_SegmentLog_spot_of : FnF K "spot_of" "SegmentLog.spot_of" s_l_spot_of f_SegmentLog_spot_of)
    (a_SegmentLog_can_carry : PySem.W.findIn K (.ref CL) "can_carry" = some (some (.ref f_SegmentLog_can_carry)))
    (i_SegmentLog_can_carry : PySem.W.isFn K (.ref f_SegmentLog_can_carry) = true)
    (d_SegmentLog_can_carry : FnF K "can_carry" "SegmentLog.can_carry" s_l_can_carry f_SegmentLog_can_carry)
    (a_SegmentLog_append_key : PySem.W.findIn K (.ref CL) "append_key" = some (some (.ref f_SegmentLog_append_key)))
    (i_SegmentLog_append_key : PySem.W.isFn K (.ref f_SegmentLog_append_key) = true)
    (d_SegmentLog_append_key : FnF K "append_key" "SegmentLog.append_key" s_l_append_key f_SegmentLog_append_key)
    (a_SegmentLog_kill_at : PySem.W.findIn K (.ref CL) "kill_at" = some (some (.ref f_SegmentLog_kill_at)))
    (i_SegmentLog_kill_at : PySem.W.isFn K (.ref f_SegmentLog_kill_at) = true)
    (d_SegmentLog_kill_at : FnF K "kill_at" "SegmentLog.kill_at" s_l_kill_at f_SegmentLog_kill_at)
    (a_SegmentLog_carry_from : PySem.W.findIn K (.ref CL) "carry_from" = some (some (.ref f_SegmentLog_carry_from)))
    (i_SegmentLog_carry_from : PySem.W.isFn K (.ref f_SegmentLog_carry_from) = true)
    (d_SegmentLog_carry_from : FnF K "carry_from" "SegmentLog.carry_from" s_l_carry_from f_SegmentLog_carry_from)
    (a_SegmentLog___init__ : PySem.W.findIn K (.ref CL) "__init__" = some (some (.ref f_SegmentLog___init__)))
    (i_SegmentLog___init__ : PySem.W.isFn K (.ref f_SegmentLog___init__) = true)
    (d_SegmentLog___init__ : FnF K "__init__" "SegmentLog.__init__" s_l___init f_SegmentLog___init__)
    (a_SegmentLog_copied : PySem.W.findIn K (.ref CL) "copied" = some (some (.ref f_SegmentLog_copied)))
    (i_SegmentLog_copied : PySem.W.isFn K (.ref f_SegmentLog_copied) = true)
    (d_SegmentLog_copied : FnF K "copied" "SegmentLog.copied" s_l_copied f_SegmentLog_copied)
    (a_Segments___len__ : PySem.W.findIn K (.ref CS) "__len__" = some (some (.ref f_Segments___len__)))
    (i_Segments___len__ : PySem.W.isFn K (.ref f_Segments___len__) = true)
    (d_Segments___len__ : FnF K "__len__" "Segments.__len__" s_s___len f_Segments___len__)
    (a_Segments___contains__ : PySem.W.findIn K (.ref CS) "__contains__" = some (some (.ref f_Segments___contains__)))
    (i_Segments___contains__ : PySem.W.isFn K (.ref f_Segments___contains__) = true)
    (d_Segments___contains__ : FnF K "__contains__" "Segments.__contains__" s_s___contains f_Segments___contains__)
    (a_Segments_read : PySem.W.findIn K (.ref CS) "read" = some (some (.ref f_Segments_read)))
    (i_Segments_read : PySem.W.isFn K (.ref f_Segments_read) = true)
    (d_Segments_read : FnF K "read" "Segments.read" s_s_read f_Segments_read)
    (a_Segments_table : PySem.W.findIn K (.ref CS) "table" = some (some (.ref f_Segments_table)))
    (i_Segments_table : PySem.W.isFn K (.ref f_Segments_table) = true)
    (d_Segments_table : FnF K "table" "Segments.table" s_s_table f_Segments_table)
    (a_Segments_delete : PySem.W.findIn K (.ref CS) "delete" = some (some (.ref f_Segments_delete)))
    (i_Segments_delete : PySem.W.isFn K (.ref f_Segments_delete) = true)
    (d_Segments_delete : FnF K "delete" "Segments.delete" s_s_delete f_Segments_delete)
    (a_Segments_put : PySem.W.findIn K (.ref CS) "put" = some (some (.ref f_Segments_put)))
    (i_Segments_put : PySem.W.isFn K (.ref f_Segments_put) = true)
    (d_Segments_put : FnF K "put" "Segments.put" s_s_put f_Segments_put)
    (a_Segments___init__ : PySem.W.findIn K (.ref CS) "__init__" = some (some (.ref f_Segments___init__)))
    (i_Segments___init__ : PySem.W.isFn K (.ref f_Segments___init__) = true)
    (d_Segments___init__ : FnL K "__init__" "Segments.__init__" s_s___init f_Segments___init__ kwD)
    (d_late : PySem.W.nsIn K kwD "late" = some (some (.bool false))) :
    ∃ fd : FuncData, (∀ (s : Shared) (v : Value), BindsTo s fd ⟨[v], []⟩ [("_law_script", v)]) ∧ ∀ base : Heap, K.In base → base.Ns mainGlobals mg → FnOk P w K mg base C8.CX0 9 fa fd ["_law_script"] (sp_law K) := by
  have e := hfa.symm.trans (PySem.W.mg_of X G a_law)
  cases e
  have T : Bi mg := ⟨PySem.W.mg_none_of X G z_len, PySem.W.mg_none_of X G z_range, PySem.W.mg_none_of X G z_list, PySem.W.mg_none_of X G z_int, PySem.W.mg_none_of X G z_max, PySem.W.mg_none_of X G z_min, PySem.W.mg_none_of X G z_sum, PySem.W.mg_none_of X G z_dict, PySem.W.mg_none_of X G z_isinstance, PySem.W.mg_none_of X G z_enumerate, PySem.W.mg_none_of X G z_str, PySem.W.mg_none_of X G z_bool⟩
  have S : Txt K mg CL CS := ⟨⟨p_CL, h_CL, o_CL, s_CL⟩, n_l_span, n_l_rows, n_l_turns, n_l_frees, ⟨p_CS, h_CS, o_CS, s_CS⟩, n_s_segments, n_s_size, n_s_limit, n_s_budget, n_s_late, n_s_log, n_s_values, n_s_done, n_s_carried, n_s_last_wait⟩
  have g_len : ∃ u, mg "KEY_LENGTH" = some u ∧ RelV (.int 12) u := ⟨_, PySem.W.mg_of X G z_KL, _, rfl⟩
  have g_chars : ∃ u, mg "KEY_CHARACTERS" = some u ∧ RelV (.str SG) u := ⟨_, PySem.W.mg_of X G z_KC, by subst z_KCe; exact ⟨_, rfl⟩⟩
  have g_CL := PySem.W.mg_of X G a_CL
  have g_CS := PySem.W.mg_of X G a_CS
  have em : EM K ⟨Ck, Cb, Ct, Cu⟩ := ⟨e_KeyLimit.exm x_kk, e_KeyLimit.exm x_bk, e_KeyLimit.exm x_tk, e_BadChoice.exm x_bb, e_BadChoice.exm x_tb, e_Stalled.exm x_tt, e_UnknownKey.exm x_uu⟩
  have er_KeyLimit : ErrC P w K mg "KeyLimit" "most" Ck okN := ⟨⟨_, _, _, _, _, ⟨PySem.W.mg_of X G a_KeyLimit, e_KeyLimit.cls, e_KeyLimit.sa, e_KeyLimit.noN, i_KeyLimit, e_KeyLimit.tC, e_KeyLimit.kC, e_KeyLimit.exC, e_KeyLimit.tyC, u_KeyLimit, e_KeyLimit.hB, e_KeyLimit.hsub, z_any, PySem.W.mg_none_of X G z_super, e_KeyLimit.fn, e_KeyLimit.cd, e_KeyLimit.code, e_KeyLimit.cell, z_top, by decide, by decide +kernel, fun _ => rfl, fun _ => rfl, fun _ => rfl, fun _ => rfl, by decide, fun _ _ _ _ _ _ _ _ _ _ _ => .of_eq rfl⟩, .of (fun _ => rfl) (fun _ _ => rfl), fun v u ⟨n, e, hn⟩ r => by subst e; obtain ⟨t, rfl⟩ := r; exact CgE.msg_int (fun _ => rfl) (by decide) y1_KeyLimit y2_KeyLimit (log_ok hn) (str_ok hn)⟩, PySem.W.mg_of X G a_KeyLimit, ⟨e_KeyLimit.ga, e_KeyLimit.gg, e_KeyLimit.exC, e_KeyLimit.hdC⟩, e_KeyLimit.noN⟩
  have er_UnknownKey : ErrC P w K mg "UnknownKey" "key" Cu okS := ⟨⟨_, _, _, _, _, ⟨PySem.W.mg_of X G a_UnknownKey, e_UnknownKey.cls, e_UnknownKey.sa, e_UnknownKey.noN, i_UnknownKey, e_UnknownKey.tC, e_UnknownKey.kC, e_UnknownKey.exC, e_UnknownKey.tyC, u_UnknownKey, e_UnknownKey.hB, e_UnknownKey.hsub, z_any, PySem.W.mg_none_of X G z_super, e_UnknownKey.fn, e_UnknownKey.cd, e_UnknownKey.code, e_UnknownKey.cell, z_top, by decide, by decide +kernel, fun _ => rfl, fun _ => rfl, fun _ => rfl, fun _ => rfl, by decide, fun _ _ _ _ _ _ _ _ _ _ _ => .of_eq rfl⟩, .of (fun _ => rfl) (fun _ _ => rfl), fun v u ⟨y, e, g⟩ r => by subst e; obtain ⟨t, rfl⟩ := r; exact CgE.msg_repr (fun _ => rfl) (by decide) y1_UnknownKey (repr_ok g)⟩, PySem.W.mg_of X G a_UnknownKey, ⟨e_UnknownKey.ga, e_UnknownKey.gg, e_UnknownKey.exC, e_UnknownKey.hdC⟩, e_UnknownKey.noN⟩
  have er_BadChoice : ErrC P w K mg "BadChoice" "choice" Cb okA := ⟨⟨_, _, _, _, _, ⟨PySem.W.mg_of X G a_BadChoice, e_BadChoice.cls, e_BadChoice.sa, e_BadChoice.noN, i_BadChoice, e_BadChoice.tC, e_BadChoice.kC, e_BadChoice.exC, e_BadChoice.tyC, u_BadChoice, e_BadChoice.hB, e_BadChoice.hsub, z_any, PySem.W.mg_none_of X G z_super, e_BadChoice.fn, e_BadChoice.cd, e_BadChoice.code, e_BadChoice.cell, z_top, by decide, by decide +kernel, fun _ => rfl, fun _ => rfl, fun _ => rfl, fun _ => rfl, by decide, fun _ _ _ _ _ _ _ _ _ _ _ => .of_eq rfl⟩, .of (fun _ => rfl) (fun _ _ => rfl), fun v u _ _ => CgE.msg_const⟩, PySem.W.mg_of X G a_BadChoice, ⟨e_BadChoice.ga, e_BadChoice.gg, e_BadChoice.exC, e_BadChoice.hdC⟩, e_BadChoice.noN⟩
  have er_Stalled : ErrC P w K mg "Stalled" "deeds" Ct okN := ⟨⟨_, _, _, _, _, ⟨PySem.W.mg_of X G a_Stalled, e_Stalled.cls, e_Stalled.sa, e_Stalled.noN, i_Stalled, e_Stalled.tC, e_Stalled.kC, e_Stalled.exC, e_Stalled.tyC, u_Stalled, e_Stalled.hB, e_Stalled.hsub, z_any, PySem.W.mg_none_of X G z_super, e_Stalled.fn, e_Stalled.cd, e_Stalled.code, e_Stalled.cell, z_top, by decide, by decide +kernel, fun _ => rfl, fun _ => rfl, fun _ => rfl, fun _ => rfl, by decide, fun _ _ _ _ _ _ _ _ _ _ _ => .of_eq rfl⟩, .of (fun _ => rfl) (fun _ _ => rfl), fun v u ⟨n, e, hn⟩ r => by subst e; obtain ⟨t, rfl⟩ := r; exact CgE.msg_int (fun _ => rfl) (by decide) y1_Stalled y2_Stalled (log_ok hn) (str_ok hn)⟩, PySem.W.mg_of X G a_Stalled, ⟨e_Stalled.ga, e_Stalled.gg, e_Stalled.exC, e_Stalled.hdC⟩, e_Stalled.noN⟩
  obtain ⟨fd__law_alive, D__law_alive, B__law_alive⟩ := def_of (ps := ["_law_row"]) X G a__law_alive d__law_alive fun _ _ _ _ _ _ us hl => match us, hl with | [_], _ => rfl
  obtain ⟨fd__law_shut, D__law_shut, B__law_shut⟩ := def_of (ps := ["_law_model_here"]) X G a__law_shut d__law_shut fun _ _ _ _ _ _ us hl => match us, hl with | [_], _ => rfl
  obtain ⟨fd__law_empty, D__law_empty, B__law_empty⟩ := def_of (ps := ["_law_model_here"]) X G a__law_empty d__law_empty fun _ _ _ _ _ _ us hl => match us, hl with | [_], _ => rfl
  obtain ⟨fd__law_room, D__law_room, B__law_room⟩ := def_of (ps := ["_law_model_here"]) X G a__law_room d__law_room fun _ _ _ _ _ _ us hl => match us, hl with | [_], _ => rfl
  obtain ⟨fd__law_write, D__law_write, B__law_write⟩ := def_of (ps := ["_law_model_here", "_law_one"]) X G a__law_write d__law_write fun _ _ _ _ _ _ us hl => match us, hl with | [_, _], _ => rfl
  obtain ⟨fd__law_kill, D__law_kill, B__law_kill⟩ := def_of (ps := ["_law_model_here", "_law_spot", "_law_rank"]) X G a__law_kill d__law_kill fun _ _ _ _ _ _ us hl => match us, hl with | [_, _, _], _ => rfl
  obtain ⟨fd__law_find, D__law_find, B__law_find⟩ := def_of (ps := ["_law_model_here", "_law_name"]) X G a__law_find d__law_find fun _ _ _ _ _ _ us hl => match us, hl with | [_, _], _ => rfl
  obtain ⟨fd__law_move, D__law_move, B__law_move⟩ := def_of (ps := ["_law_model_here", "_law_pick"]) X G a__law_move d__law_move fun _ _ _ _ _ _ us hl => match us, hl with | [_, _], _ => rfl
  obtain ⟨fd__law_drop, D__law_drop, B__law_drop⟩ := def_of (ps := ["_law_model_here", "_law_name"]) X G a__law_drop d__law_drop fun _ _ _ _ _ _ us hl => match us, hl with | [_, _], _ => rfl
  obtain ⟨fd__law_begin, D__law_begin, B__law_begin⟩ := def_of (ps := ["_law_model_here", "_law_name", "_law_worth_here", "_law_count"]) X G a__law_begin d__law_begin fun _ _ _ _ _ _ us hl => match us, hl with | [_, _, _, _], _ => rfl
  obtain ⟨fd__law_put, D__law_put, B__law_put⟩ := def_of (ps := ["_law_model_here", "_law_name", "_law_worth_here", "_law_picks_here"]) X G a__law_put d__law_put fun _ _ _ _ _ _ us hl => match us, hl with | [_, _, _, _], _ => rfl
  obtain ⟨fd__law_copy, D__law_copy, B__law_copy⟩ := def_of (ps := ["_law_model_here"]) X G a__law_copy d__law_copy fun _ _ _ _ _ _ us hl => match us, hl with | [_], _ => rfl
  obtain ⟨fd__law_model, D__law_model, B__law_model⟩ := def_of (ps := ["_law_terms_here", "_law_first"]) X G a__law_model d__law_model fun _ _ _ _ _ _ us hl => match us, hl with | [_, _], _ => rfl
  obtain ⟨fd__law_draw, D__law_draw, B__law_draw⟩ := def_of (ps := ["_law_box_here", "_law_many"]) X G a__law_draw d__law_draw fun _ _ _ _ _ _ us hl => match us, hl with | [_, _], _ => rfl
  obtain ⟨fd__law_key, D__law_key, B__law_key⟩ := def_of (ps := ["_law_number", "_law_count"]) X G a__law_key d__law_key fun _ _ _ _ _ _ us hl => match us, hl with | [_, _], _ => rfl
  obtain ⟨fd__law_box, D__law_box, B__law_box⟩ := def_of (ps := ["_law_script"]) X G a__law_box d__law_box fun _ _ _ _ _ _ us hl => match us, hl with | [_], _ => rfl
  obtain ⟨fd__law_worth, D__law_worth, B__law_worth⟩ := def_of (ps := ["_law_box_here"]) X G a__law_worth d__law_worth fun _ _ _ _ _ _ us hl => match us, hl with | [_], _ => rfl
  obtain ⟨fd__law_next, D__law_next, B__law_next⟩ := def_of (ps := ["_law_box_here", "_law_names_here", "_law_name"]) X G a__law_next d__law_next fun _ _ _ _ _ _ us hl => match us, hl with | [_, _, _], _ => rfl
  obtain ⟨fd__law_terms, D__law_terms, B__law_terms⟩ := def_of (ps := ["_law_box_here"]) X G a__law_terms d__law_terms fun _ _ _ _ _ _ us hl => match us, hl with | [_], _ => rfl
  obtain ⟨fd__law_names, D__law_names, B__law_names⟩ := def_of (ps := ["_law_box_here", "_law_many"]) X G a__law_names d__law_names fun _ _ _ _ _ _ us hl => match us, hl with | [_, _], _ => rfl
  obtain ⟨fd__law_picks, D__law_picks, B__law_picks⟩ := def_of (ps := ["_law_box_here", "_law_model_here", "_law_name", "_law_mood"]) X G a__law_picks d__law_picks fun _ _ _ _ _ _ us hl => match us, hl with | [_, _, _, _], _ => rfl
  obtain ⟨fd_at_least, D_at_least, B_at_least⟩ := def_of (ps := ["value", "least", "field"]) X G a_at_least d_at_least fun _ _ _ _ _ _ us hl => match us, hl with | [_, _, _], _ => rfl
  obtain ⟨fd_good_key, D_good_key, B_good_key⟩ := def_of (ps := ["key"]) X G a_good_key d_good_key fun _ _ _ _ _ _ us hl => match us, hl with | [_], _ => rfl
  obtain ⟨fd__law_is_integer, D__law_is_integer, B__law_is_integer⟩ := def_of (ps := ["_law_told"]) X G a__law_is_integer d__law_is_integer fun _ _ _ _ _ _ us hl => match us, hl with | [_], _ => rfl
  obtain ⟨fd__append_or_stall, D__append_or_stall, B__append_or_stall⟩ := def_of (ps := ["draft", "key", "deeds"]) X G a__append_or_stall d__append_or_stall fun _ _ _ _ _ _ us hl => match us, hl with | [_, _, _], _ => rfl
  obtain ⟨fd__law_call, D__law_call, B__law_call⟩ := def_of (ps := ["_law_store", "_law_name", "_law_worth_here", "_law_c"]) X G a__law_call d__law_call fun _ _ _ _ _ _ us hl => match us, hl with | [_, _, _, _], _ => rfl
  obtain ⟨fd__law_told_put, D__law_told_put, B__law_told_put⟩ := def_of (ps := ["_law_store", "_law_name", "_law_worth_here", "_law_picks_here"]) X G a__law_told_put d__law_told_put fun _ _ _ _ _ _ us hl => match us, hl with | [_, _, _, _], _ => rfl
  obtain ⟨fd__law_told_drop, D__law_told_drop, B__law_told_drop⟩ := def_of (ps := ["_law_store", "_law_name"]) X G a__law_told_drop d__law_told_drop fun _ _ _ _ _ _ us hl => match us, hl with | [_, _], _ => rfl
  obtain ⟨fd__law_name_holds, D__law_name_holds, B__law_name_holds⟩ := def_of (ps := ["_law_store", "_law_plain", "_law_name"]) X G a__law_name_holds d__law_name_holds fun _ _ _ _ _ _ us hl => match us, hl with | [_, _, _], _ => rfl
  obtain ⟨fd__law_pairs, D__law_pairs, B__law_pairs⟩ := def_of (ps := ["_law_model_here", "_law_plain"]) X G a__law_pairs d__law_pairs fun _ _ _ _ _ _ us hl => match us, hl with | [_, _], _ => rfl
  obtain ⟨fd__law_table_is, D__law_table_is, B__law_table_is⟩ := def_of (ps := ["_law_told", "_law_pairs_here"]) X G a__law_table_is d__law_table_is fun _ _ _ _ _ _ us hl => match us, hl with | [_, _], _ => rfl
  obtain ⟨fd__law_table_holds, D__law_table_holds, B__law_table_holds⟩ := def_of (ps := ["_law_store", "_law_model_here", "_law_plain"]) X G a__law_table_holds d__law_table_holds fun _ _ _ _ _ _ us hl => match us, hl with | [_, _, _], _ => rfl
  obtain ⟨fd__law_turn, D__law_turn, B__law_turn⟩ := def_of (ps := ["_law_store", "_law_model_here", "_law_plain", "_law_kind", "_law_name", "_law_worth_here", "_law_picks_here"]) X G a__law_turn d__law_turn fun _ _ _ _ _ _ us hl => match us, hl with | [_, _, _, _, _, _, _], _ => rfl
  obtain ⟨fd__law_ends, D__law_ends, B__law_ends⟩ := def_of (ps := ["_law_stores", "_law_models", "_law_plains", "_law_names_here"]) X G a__law_ends d__law_ends fun _ _ _ _ _ _ us hl => match us, hl with | [_, _, _, _], _ => rfl
  have M_SegmentLog_head_segment : Meth K CL "head_segment" f_SegmentLog_head_segment := ⟨a_SegmentLog_head_segment, i_SegmentLog_head_segment, d_SegmentLog_head_segment.kp⟩
  obtain ⟨fd_SegmentLog_head_segment, D_SegmentLog_head_segment, B_SegmentLog_head_segment⟩ := d_SegmentLog_head_segment.binds (ps := ["self"]) fun _ _ _ _ _ _ us hl => match us, hl with | [_], _ => rfl
  have M_SegmentLog_alive : Meth K CL "alive" f_SegmentLog_alive := ⟨a_SegmentLog_alive, i_SegmentLog_alive, d_SegmentLog_alive.kp⟩
  obtain ⟨fd_SegmentLog_alive, D_SegmentLog_alive, B_SegmentLog_alive⟩ := d_SegmentLog_alive.binds (ps := ["self", "segment"]) fun _ _ _ _ _ _ us hl => match us, hl with | [_, _], _ => rfl
  have M_SegmentLog_is_closed : Meth K CL "is_closed" f_SegmentLog_is_closed := ⟨a_SegmentLog_is_closed, i_SegmentLog_is_closed, d_SegmentLog_is_closed.kp⟩
  obtain ⟨fd_SegmentLog_is_closed, D_SegmentLog_is_closed, B_SegmentLog_is_closed⟩ := d_SegmentLog_is_closed.binds (ps := ["self", "segment"]) fun _ _ _ _ _ _ us hl => match us, hl with | [_, _], _ => rfl
  have M_SegmentLog_unwritten : Meth K CL "unwritten" f_SegmentLog_unwritten := ⟨a_SegmentLog_unwritten, i_SegmentLog_unwritten, d_SegmentLog_unwritten.kp⟩
  obtain ⟨fd_SegmentLog_unwritten, D_SegmentLog_unwritten, B_SegmentLog_unwritten⟩ := d_SegmentLog_unwritten.binds (ps := ["self"]) fun _ _ _ _ _ _ us hl => match us, hl with | [_], _ => rfl
  have M_SegmentLog_room_left : Meth K CL "room_left" f_SegmentLog_room_left := ⟨a_SegmentLog_room_left, i_SegmentLog_room_left, d_SegmentLog_room_left.kp⟩
  obtain ⟨fd_SegmentLog_room_left, D_SegmentLog_room_left, B_SegmentLog_room_left⟩ := d_SegmentLog_room_left.binds (ps := ["self"]) fun _ _ _ _ _ _ us hl => match us, hl with | [_], _ => rfl
  have M_SegmentLog_spot_of : Meth K CL "spot_of" f_SegmentLog_spot_of := ⟨a_SegmentLog_spot_of, i_SegmentLog_spot_of, d_SegmentLog_spot_of.kp⟩
  obtain ⟨fd_SegmentLog_spot_of, D_SegmentLog_spot_of, B_SegmentLog_spot_of⟩ := d_SegmentLog_spot_of.binds (ps := ["self", "key"]) fun _ _ _ _ _ _ us hl => match us, hl with | [_, _], _ => rfl
  have M_SegmentLog_can_carry : Meth K CL "can_carry" f_SegmentLog_can_carry := ⟨a_SegmentLog_can_carry, i_SegmentLog_can_carry, d_SegmentLog_can_carry.kp⟩
  obtain ⟨fd_SegmentLog_can_carry, D_SegmentLog_can_carry, B_SegmentLog_can_carry⟩ := d_SegmentLog_can_carry.binds (ps := ["self", "segment"]) fun _ _ _ _ _ _ us hl => match us, hl with | [_, _], _ => rfl
  have M_SegmentLog_append_key : Meth K CL "append_key" f_SegmentLog_append_key := ⟨a_SegmentLog_append_key, i_SegmentLog_append_key, d_SegmentLog_append_key.kp⟩
  obtain ⟨fd_SegmentLog_append_key, D_SegmentLog_append_key, B_SegmentLog_append_key⟩ := d_SegmentLog_append_key.binds (ps := ["self", "key"]) fun _ _ _ _ _ _ us hl => match us, hl with | [_, _], _ => rfl
  have M_SegmentLog_kill_at : Meth K CL "kill_at" f_SegmentLog_kill_at := ⟨a_SegmentLog_kill_at, i_SegmentLog_kill_at, d_SegmentLog_kill_at.kp⟩
  obtain ⟨fd_SegmentLog_kill_at, D_SegmentLog_kill_at, B_SegmentLog_kill_at⟩ := d_SegmentLog_kill_at.binds (ps := ["self", "segment", "place"]) fun _ _ _ _ _ _ us hl => match us, hl with | [_, _, _], _ => rfl
  have M_SegmentLog_carry_from : Meth K CL "carry_from" f_SegmentLog_carry_from := ⟨a_SegmentLog_carry_from, i_SegmentLog_carry_from, d_SegmentLog_carry_from.kp⟩
  obtain ⟨fd_SegmentLog_carry_from, D_SegmentLog_carry_from, B_SegmentLog_carry_from⟩ := d_SegmentLog_carry_from.binds (ps := ["self", "segment"]) fun _ _ _ _ _ _ us hl => match us, hl with | [_, _], _ => rfl
  have M_SegmentLog___init__ : Meth K CL "__init__" f_SegmentLog___init__ := ⟨a_SegmentLog___init__, i_SegmentLog___init__, d_SegmentLog___init__.kp⟩
  have K_SegmentLog___init__ : Mk K CL f_SegmentLog___init__ := ⟨m_CL, a_SegmentLog___init__, i_SegmentLog___init__, k_CL⟩
  obtain ⟨fd_SegmentLog___init__, D_SegmentLog___init__, B_SegmentLog___init__⟩ := d_SegmentLog___init__.binds (ps := ["self", "segments", "size"]) fun _ _ _ _ _ _ us hl => match us, hl with | [_, _, _], _ => rfl
  have M_SegmentLog_copied : Meth K CL "copied" f_SegmentLog_copied := ⟨a_SegmentLog_copied, i_SegmentLog_copied, d_SegmentLog_copied.kp⟩
  obtain ⟨fd_SegmentLog_copied, D_SegmentLog_copied, B_SegmentLog_copied⟩ := d_SegmentLog_copied.binds (ps := ["self"]) fun _ _ _ _ _ _ us hl => match us, hl with | [_], _ => rfl
  have M_Segments___len__ : Meth K CS "__len__" f_Segments___len__ := ⟨a_Segments___len__, i_Segments___len__, d_Segments___len__.kp⟩
  obtain ⟨fd_Segments___len__, D_Segments___len__, B_Segments___len__⟩ := d_Segments___len__.binds (ps := ["self"]) fun _ _ _ _ _ _ us hl => match us, hl with | [_], _ => rfl
  have M_Segments___contains__ : Meth K CS "__contains__" f_Segments___contains__ := ⟨a_Segments___contains__, i_Segments___contains__, d_Segments___contains__.kp⟩
  obtain ⟨fd_Segments___contains__, D_Segments___contains__, B_Segments___contains__⟩ := d_Segments___contains__.binds (ps := ["self", "key"]) fun _ _ _ _ _ _ us hl => match us, hl with | [_, _], _ => rfl
  have M_Segments_read : Meth K CS "read" f_Segments_read := ⟨a_Segments_read, i_Segments_read, d_Segments_read.kp⟩
  obtain ⟨fd_Segments_read, D_Segments_read, B_Segments_read⟩ := d_Segments_read.binds (ps := ["self", "key"]) fun _ _ _ _ _ _ us hl => match us, hl with | [_, _], _ => rfl
  have M_Segments_table : Meth K CS "table" f_Segments_table := ⟨a_Segments_table, i_Segments_table, d_Segments_table.kp⟩
  obtain ⟨fd_Segments_table, D_Segments_table, B_Segments_table⟩ := d_Segments_table.binds (ps := ["self"]) fun _ _ _ _ _ _ us hl => match us, hl with | [_], _ => rfl
  have M_Segments_delete : Meth K CS "delete" f_Segments_delete := ⟨a_Segments_delete, i_Segments_delete, d_Segments_delete.kp⟩
  obtain ⟨fd_Segments_delete, D_Segments_delete, B_Segments_delete⟩ := d_Segments_delete.binds (ps := ["self", "key"]) fun _ _ _ _ _ _ us hl => match us, hl with | [_, _], _ => rfl
  have M_Segments_put : Meth K CS "put" f_Segments_put := ⟨a_Segments_put, i_Segments_put, d_Segments_put.kp⟩
  obtain ⟨fd_Segments_put, D_Segments_put, df_Segments_put⟩ := d_Segments_put.fn0
  have M_Segments___init__ : Meth K CS "__init__" f_Segments___init__ := ⟨a_Segments___init__, i_Segments___init__, d_Segments___init__.kp⟩
  have K_Segments___init__ : Mk K CS f_Segments___init__ := ⟨m_CS, a_Segments___init__, i_Segments___init__, k_CS⟩
  obtain ⟨fd_Segments___init__, D_Segments___init__, E_Segments___init__⟩ := d_Segments___init__.late d_late
  obtain ⟨ds_Segments___init__, V_Segments___init__, B_Segments___init__⟩ := E_Segments___init__.binds0 (ps := ["self", "segments", "size", "limit", "budget", "late"]) 5 (by decide) rfl fun D doc pm an cdv ct us ks l1 l2 => match us, l1, ks, l2 with | [_, _, _, _, _], _, [_], _ => ⟨_, _, _, _, _, _, rfl, rfl, rfl⟩
  obtain ⟨mv_Segments___init__, N_Segments___init__⟩ := E_Segments___init__.kbinds0 (ps := ["self", "segments", "size", "limit", "budget", "late"]) 5 ["late"] [] (fun us _ ws => us ++ ws) (by decide) (fun _ z => by cases z) (fun r _ r2 => r.append r2) fun D doc pm an cdv ct us mv ws l1 l2 l3 => match us, l1, mv, l2, ws, l3 with | [_, _, _, _, _], _, [], _, [_], _ => rfl
  obtain ⟨fd_law, D_law, L_law⟩ := law_of X G a_law d_law
  refine ⟨fd_law, L_law, fun base _ _ => ?_⟩
  have c_alive : C8.Cal P w K mg base 1 "_law_alive" sp_alive [] := k_alive T D__law_alive B__law_alive
  have c_shut : C8.Cal P w K mg base 2 "_law_shut" (sp_mlist fun s => shut s.1 s.2) [] := k_shut T D__law_shut B__law_shut c_alive
  have c_empty : C8.Cal P w K mg base 1 "_law_empty" (sp_mlist fun s => empties s.1) [] := k_empty T D__law_empty B__law_empty
  have c_room : C8.Cal P w K mg base 2 "_law_room" sp_room [] := k_room T D__law_room B__law_room c_empty
  have c_write : C8.Cal P w K mg base 3 "_law_write" sp_write [] := k_write T D__law_write B__law_write c_empty c_room
  have c_kill : C8.Cal P w K mg base 2 "_law_kill" sp_kill [] := k_kill T D__law_kill B__law_kill c_alive
  have c_find : C8.Cal P w K mg base 1 "_law_find" sp_find [] := k_find T D__law_find B__law_find
  have c_move : C8.Cal P w K mg base 4 "_law_move" sp_move [] := k_move T D__law_move B__law_move c_shut c_write c_kill
  have c_drop : C8.Cal P w K mg base 3 "_law_drop" sp_drop [] := k_drop T D__law_drop B__law_drop c_find c_kill
  have c_begin : C8.Cal P w K mg base 4 "_law_begin" sp_begin [] := k_begin T D__law_begin B__law_begin c_find c_alive c_write c_kill
  have c_put : C8.Cal P w K mg base 5 "_law_put" sp_put [] := k_put T D__law_put B__law_put c_begin c_move c_write
  have c_copy : C8.Cal P w K mg base 1 "_law_copy" sp_copy [] := k_copy T D__law_copy B__law_copy
  have c_model : C8.Cal P w K mg base 1 "_law_model" sp_model [] := k_model T D__law_model B__law_model
  have c_draw : C8.Cal P w K mg base 1 "_law_draw" sp_draw [] := k_draw T D__law_draw B__law_draw
  have c_key : C8.Cal P w K mg base 1 "_law_key" sp_key [] := k_key T D__law_key B__law_key
  have c_box : C8.Cal P w K mg base 1 "_law_box" (sp_box K) [] := k_box T D__law_box B__law_box
  have c_worth : C8.Cal P w K mg base 2 "_law_worth" sp_worth [] := k_worth T D__law_worth B__law_worth c_draw
  have c_next : C8.Cal P w K mg base 2 "_law_next" sp_next [] := k_next T D__law_next B__law_next c_draw
  have c_terms : C8.Cal P w K mg base 2 "_law_terms" sp_terms [] := k_terms T D__law_terms B__law_terms c_draw
  have c_names : C8.Cal P w K mg base 2 "_law_names" sp_names [] := k_names T D__law_names B__law_names c_draw c_key
  have c_picks : C8.Cal P w K mg base 5 "_law_picks" sp_picks [] := k_picks T D__law_picks B__law_picks c_draw c_copy c_begin c_shut c_room c_empty c_alive c_move
  have c_l_head_segment : C8.Met P w K mg base 1 CL "head_segment" (sp_l_head CL) [] := k_l_head T S M_SegmentLog_head_segment D_SegmentLog_head_segment B_SegmentLog_head_segment
  have c_l_alive : C8.Met P w K mg base 1 CL "alive" (sp_l_alive CL) [] := k_l_alive T S M_SegmentLog_alive D_SegmentLog_alive B_SegmentLog_alive
  have c_l_is_closed : C8.Met P w K mg base 2 CL "is_closed" (sp_l_closed CL) [] := k_l_closed T S M_SegmentLog_is_closed D_SegmentLog_is_closed B_SegmentLog_is_closed c_l_head_segment c_l_alive
  have c_l_unwritten : C8.Met P w K mg base 2 CL "unwritten" (sp_l_unwritten CL) [] := k_l_unwritten T S M_SegmentLog_unwritten D_SegmentLog_unwritten B_SegmentLog_unwritten c_l_head_segment
  have c_l_room_left : C8.Met P w K mg base 3 CL "room_left" (sp_l_room CL) [] := k_l_room T S M_SegmentLog_room_left D_SegmentLog_room_left B_SegmentLog_room_left c_l_head_segment c_l_unwritten
  have c_l_spot_of : C8.Met P w K mg base 1 CL "spot_of" (sp_l_spot CL) [] := k_l_spot T S M_SegmentLog_spot_of D_SegmentLog_spot_of B_SegmentLog_spot_of
  have c_l_can_carry : C8.Met P w K mg base 4 CL "can_carry" (sp_l_can CL) [] := k_l_can T S M_SegmentLog_can_carry D_SegmentLog_can_carry B_SegmentLog_can_carry c_l_is_closed c_l_room_left
  have c_l_append_key : C8.Met P w K mg base 3 CL "append_key" (sp_l_append CL) [] := k_l_append T S M_SegmentLog_append_key D_SegmentLog_append_key B_SegmentLog_append_key c_l_head_segment c_l_unwritten
  have c_l_kill_at : C8.Met P w K mg base 2 CL "kill_at" (sp_l_kill CL) [] := k_l_kill T S M_SegmentLog_kill_at D_SegmentLog_kill_at B_SegmentLog_kill_at c_l_alive
  have c_l_carry_from : C8.Met P w K mg base 4 CL "carry_from" (sp_l_carry CL) [] := k_l_carry T S M_SegmentLog_carry_from D_SegmentLog_carry_from B_SegmentLog_carry_from c_l_append_key c_l_kill_at
  have c_l___init : C8.Mak P w K mg base 1 "SegmentLog" CL (sp_l_init CL) [] := k_l_init T S K_SegmentLog___init__ g_CL D_SegmentLog___init__ B_SegmentLog___init__
  have c_l_copied : C8.Met P w K mg base 3 CL "copied" (sp_l_copied CL) [] := k_l_copied T S M_SegmentLog_copied D_SegmentLog_copied B_SegmentLog_copied c_l___init
  have c_at_least : C8.Cal P w K mg base 1 "at_least" sp_least [] := k_least T D_at_least B_at_least
  have c_good_key : C8.Cal P w K mg base 1 "good_key" sp_good [] := k_good T g_len g_chars D_good_key B_good_key
  have c_is_integer : C8.Cal P w K mg base 1 "_law_is_integer" sp_isint [] := k_isint T D__law_is_integer B__law_is_integer
  have h_is_integer : CalH P w K mg base 1 "_law_is_integer" sp_isint := h_isint T D__law_is_integer B__law_is_integer
  have c_append_or_stall : CalE P w K mg base 4 "_append_or_stall" (sp_stall ⟨Ck, Cb, Ct, Cu⟩ CL) := k_stall T S er_Stalled D__append_or_stall B__append_or_stall c_l_room_left c_l_append_key
  have c_s___len : C8.Met P w K mg base 1 CS "__len__" (sp_s_len CL CS) [] := k_s_len T S M_Segments___len__ D_Segments___len__ B_Segments___len__
  have c_s___contains : C8.Met P w K mg base 1 CS "__contains__" (sp_s_has CL CS) [] := k_s_has T S M_Segments___contains__ D_Segments___contains__ B_Segments___contains__
  have c_s_read : MetE P w K mg base 2 CS "read" (sp_s_read ⟨Ck, Cb, Ct, Cu⟩ CL CS) := k_s_read T S er_UnknownKey M_Segments_read D_Segments_read B_Segments_read
  have c_s_table : C8.Met P w K mg base 1 CS "table" (sp_s_table CL CS) [] := k_s_table T S M_Segments_table D_Segments_table B_Segments_table
  have c_s_delete : MetE P w K mg base 3 CS "delete" (sp_s_delete ⟨Ck, Cb, Ct, Cu⟩ CL CS) := k_s_delete T S er_UnknownKey M_Segments_delete D_Segments_delete B_Segments_delete c_l_spot_of c_l_kill_at
  have c_s_put : MetR P w K mg base 5 CS "put" (fun vs H Q E => ∃ ws rest, vs = ws ++ rest ∧ ws.length = (["self", "key", "value"] : List Str).length ∧ rest.length ≤ sizeLine ∧ ∀ p, H p = Option.none → sp_s_put ⟨Ck, Cb, Ct, Cu⟩ CL CS (ws ++ [V.ref p]) (upd H p (.tup rest)) Q E) := k_s_put T S er_KeyLimit er_BadChoice M_Segments_put D_Segments_put df_Segments_put (fun kV doc pm an cdv ct us rest hl => match us, hl, rest with | [_, _, _], _, [] => rfl | [_, _, _], _, _ :: _ => rfl) c_good_key c_append_or_stall c_l_copied c_l_spot_of c_l_kill_at c_l_can_carry c_l_carry_from
  have F_s_init : FnOk P w K mg base C8.CX0 3 f_Segments___init__ fd_Segments___init__ ["self", "segments", "size", "limit", "budget", "late"] (sp_s_init CL CS) := k_s_init T S D_Segments___init__ c_at_least c_l___init
  have c_call : CalE P w K mg base 6 "_law_call" (sp_call ⟨Ck, Cb, Ct, Cu⟩ CL CS) := k_call T D__law_call B__law_call c_s_put
  have c_told_put : C8.Cal P w K mg base 7 "_law_told_put" (sp_told_put ⟨Ck, Cb, Ct, Cu⟩ CL CS) [] := k_told_put T em er_KeyLimit er_BadChoice er_Stalled D__law_told_put B__law_told_put c_call h_is_integer
  have c_told_drop : C8.Cal P w K mg base 4 "_law_told_drop" (sp_told_drop ⟨Ck, Cb, Ct, Cu⟩ CL CS) [] := k_told_drop T em er_UnknownKey D__law_told_drop B__law_told_drop c_s_delete
  have c_name_holds : C8.Cal P w K mg base 4 "_law_name_holds" (sp_name_holds ⟨Ck, Cb, Ct, Cu⟩ CL CS) [] := k_name_holds T em er_UnknownKey D__law_name_holds B__law_name_holds c_s___contains c_s_read c_is_integer
  have c_pairs : C8.Cal P w K mg base 1 "_law_pairs" sp_pairs [] := k_pairs T D__law_pairs B__law_pairs
  have c_table_is : C8.Cal P w K mg base 2 "_law_table_is" sp_table_is [] := k_table_is T D__law_table_is B__law_table_is c_is_integer
  have c_table_holds : C8.Cal P w K mg base 3 "_law_table_holds" (sp_table_holds CL CS) [] := k_table_holds T D__law_table_holds B__law_table_holds c_pairs c_s_table c_s___len c_table_is
  have c_turn : C8.Cal P w K mg base 8 "_law_turn" (sp_turn CL CS) [] := k_turn T D__law_turn B__law_turn c_copy c_drop c_told_drop c_put c_told_put
  have c_ends : C8.Cal P w K mg base 5 "_law_ends" (sp_ends CL CS) [] := k_ends T D__law_ends B__law_ends c_table_holds c_name_holds
  have c_s_init : C8.Mak P w K mg base 3 "Segments" CS (sp_s_init CL CS) [.bl false] := ⟨_, _, _, _, K_Segments___init__, F_s_init, g_CS, B_Segments___init__, V_Segments___init__⟩
  have c_s_initK : MakK P w K mg base 3 "Segments" CS 4 ["late"] (sp_s_init CL CS) := ⟨_, _, _, _, K_Segments___init__, F_s_init, g_CS, N_Segments___init__⟩
  exact k_law T D_law c_box c_terms c_names c_draw c_model c_s_init c_s_initK c_next c_worth c_picks c_turn c_table_holds c_name_holds c_s_table c_pairs c_table_is c_ends
end Cg

open PySem PySem.W PyProof.Rows
set_option maxRecDepth 100000 in
set_option maxHeartbeats 0 in
theorem PySem.Challenge.cw_carrylog_k30_whole_segment_tables_holds : PySem.Challenge.rw_carrylog_k30_whole_segment_tables.Holds := by
  w_on; o_law; k_head; (case hw => w_witness2)
  k_fill
  refine L2.walk_ofK (l := PySem.Challenge.rw_carrylog_k30_whole_segment_tables) (n := 63) (k := 9) (x := "_law_script") (CX := C8.CX0) (sp := Cg.sp_law) rfl (by decide) rfl ⟨rfl, by decide, by decide⟩ (fun w h Y => PySem.W.kIn_of Y) ?F (fun _ _ a ns hl _ hS => ⟨a, ns, rfl, hS, fun _ => rfl⟩) fun _ _ _ _ z => z
  case F =>
    intro w mg fa h KX G hmg
    have hm2 : mg "law" = some (.ref fa) := hmg
    clear hmg
    refine' Cg.all_mk KX G hm2 ?z_len ?z_range ?z_list ?z_int ?z_max ?z_min ?z_sum ?z_dict ?z_isinstance ?z_enumerate ?z_str ?z_bool ?z_super ?z_any ?z_top ?z_KL ?z_KC ?z_KCe ?a_CL ?p_CL ?h_CL ?o_CL ?s_CL ?m_CL ?k_CL ?a_CS ?p_CS ?h_CS ?o_CS ?s_CS ?m_CS ?k_CS ?n_l_span ?n_l_rows ?n_l_turns ?n_l_frees ?n_s_segments ?n_s_size ?n_s_limit ?n_s_budget ?n_s_late ?n_s_log ?n_s_values ?n_s_done ?n_s_carried ?n_s_last_wait ?a_KeyLimit ?i_KeyLimit ?e_KeyLimit ?u_KeyLimit ?y1_KeyLimit ?y2_KeyLimit ?a_UnknownKey ?i_UnknownKey ?e_UnknownKey ?u_UnknownKey ?y1_UnknownKey ?a_BadChoice ?i_BadChoice ?e_BadChoice ?u_BadChoice ?a_Stalled ?i_Stalled ?e_Stalled ?u_Stalled ?y1_Stalled ?y2_Stalled ?x_kk ?x_bk ?x_tk ?x_bb ?x_tb ?x_tt ?x_uu ?a__law_alive ?d__law_alive ?a__law_shut ?d__law_shut ?a__law_empty ?d__law_empty ?a__law_room ?d__law_room ?a__law_write ?d__law_write ?a__law_kill ?d__law_kill ?a__law_find ?d__law_find ?a__law_move ?d__law_move ?a__law_drop ?d__law_drop ?a__law_begin ?d__law_begin ?a__law_put ?d__law_put ?a__law_copy ?d__law_copy ?a__law_model ?d__law_model ?a__law_draw ?d__law_draw ?a__law_key ?d__law_key ?a__law_box ?d__law_box ?a__law_worth ?d__law_worth ?a__law_next ?d__law_next ?a__law_terms ?d__law_terms ?a__law_names ?d__law_names ?a__law_picks ?d__law_picks ?a_at_least ?d_at_least ?a_good_key ?d_good_key ?a__law_is_integer ?d__law_is_integer ?a__append_or_stall ?d__append_or_stall ?a__law_call ?d__law_call ?a__law_told_put ?d__law_told_put ?a__law_told_drop ?d__law_told_drop ?a__law_name_holds ?d__law_name_holds ?a__law_pairs ?d__law_pairs ?a__law_table_is ?d__law_table_is ?a__law_table_holds ?d__law_table_holds ?a__law_turn ?d__law_turn ?a__law_ends ?d__law_ends ?a_law ?d_law ?a_SegmentLog_head_segment ?i_SegmentLog_head_segment ?d_SegmentLog_head_segment ?a_SegmentLog_alive ?i_SegmentLog_alive ?d_SegmentLog_alive ?a_SegmentLog_is_closed ?i_SegmentLog_is_closed ?d_SegmentLog_is_closed ?a_SegmentLog_unwritten ?i_SegmentLog_unwritten ?d_SegmentLog_unwritten ?a_SegmentLog_room_left ?i_SegmentLog_room_left ?d_SegmentLog_room_left ?a_SegmentLog_spot_of ?i_SegmentLog_spot_of ?d_SegmentLog_spot_of ?a_SegmentLog_can_carry ?i_SegmentLog_can_carry ?d_SegmentLog_can_carry ?a_SegmentLog_append_key ?i_SegmentLog_append_key ?d_SegmentLog_append_key ?a_SegmentLog_kill_at ?i_SegmentLog_kill_at ?d_SegmentLog_kill_at ?a_SegmentLog_carry_from ?i_SegmentLog_carry_from ?d_SegmentLog_carry_from ?a_SegmentLog___init__ ?i_SegmentLog___init__ ?d_SegmentLog___init__ ?a_SegmentLog_copied ?i_SegmentLog_copied ?d_SegmentLog_copied ?a_Segments___len__ ?i_Segments___len__ ?d_Segments___len__ ?a_Segments___contains__ ?i_Segments___contains__ ?d_Segments___contains__ ?a_Segments_read ?i_Segments_read ?d_Segments_read ?a_Segments_table ?i_Segments_table ?d_Segments_table ?a_Segments_delete ?i_Segments_delete ?d_Segments_delete ?a_Segments_put ?i_Segments_put ?d_Segments_put ?a_Segments___init__ ?i_Segments___init__ ?d_Segments___init__ ?d_late
    (case z_len => k_is)
    (case z_range => k_is)
    (case z_list => k_is)
    (case z_int => k_is)
    (case z_max => k_is)
    (case z_min => k_is)
    (case z_sum => k_is)
    (case z_dict => k_is)
    (case z_isinstance => k_is)
    (case z_enumerate => k_is)
    (case z_str => k_is)
    (case z_bool => k_is)
    (case z_super => k_is)
    (case z_any => k_is)
    (case z_top => decide +kernel)
    (case z_KL => k_is)
    (case z_KC => k_is)
    (case z_KCe => decide +kernel)
    (case a_CL => k_is)
    (case p_CL => k_is)
    (case h_CL => k_is)
    (case o_CL => k_is)
    (case s_CL => k_is)
    (case m_CL => k_is)
    (case k_CL => k_is)
    (case a_CS => k_is)
    (case p_CS => k_is)
    (case h_CS => k_is)
    (case o_CS => k_is)
    (case s_CS => k_is)
    (case m_CS => k_is)
    (case k_CS => k_is)
    (case n_l_span => k_is)
    (case n_l_rows => k_is)
    (case n_l_turns => k_is)
    (case n_l_frees => k_is)
    (case n_s_segments => k_is)
    (case n_s_size => k_is)
    (case n_s_limit => k_is)
    (case n_s_budget => k_is)
    (case n_s_late => k_is)
    (case n_s_log => k_is)
    (case n_s_values => k_is)
    (case n_s_done => k_is)
    (case n_s_carried => k_is)
    (case n_s_last_wait => k_is)
    (case a_KeyLimit => k_is)
    (case i_KeyLimit => k_is)
    (case e_KeyLimit => (refine' Cg.ErF.of ?cl ?rv ?sa ?nn ?tc ?kc ?ex ?ty ?hb ?ms ?fn ?ln ?cd ?co ?v2 ?pf ?ce ?ga ?gg ?hd ?ic; (case cl => k_is); (case rv => decide +kernel); (case sa => k_is); (case nn => k_is); (case tc => k_is); (case kc => k_is); (case ex => k_is); (case ty => k_is); (case hb => k_is); (case ms => k_is); (case fn => k_is); (case ln => rfl); (case cd => k_is); (case co => k_is); (case v2 => rfl); (case pf => decide +kernel); (case ce => k_is); (case ga => k_is); (case gg => k_is); (case hd => k_is); (case ic => k_is)))
    (case u_KeyLimit => ks_is)
    (case y1_KeyLimit => decide +kernel)
    (case y2_KeyLimit => decide +kernel)
    (case a_UnknownKey => k_is)
    (case i_UnknownKey => k_is)
    (case e_UnknownKey => (refine' Cg.ErF.of ?cl ?rv ?sa ?nn ?tc ?kc ?ex ?ty ?hb ?ms ?fn ?ln ?cd ?co ?v2 ?pf ?ce ?ga ?gg ?hd ?ic; (case cl => k_is); (case rv => decide +kernel); (case sa => k_is); (case nn => k_is); (case tc => k_is); (case kc => k_is); (case ex => k_is); (case ty => k_is); (case hb => k_is); (case ms => k_is); (case fn => k_is); (case ln => rfl); (case cd => k_is); (case co => k_is); (case v2 => rfl); (case pf => decide +kernel); (case ce => k_is); (case ga => k_is); (case gg => k_is); (case hd => k_is); (case ic => k_is)))
    (case u_UnknownKey => ks_is)
    (case y1_UnknownKey => decide +kernel)
    (case a_BadChoice => k_is)
    (case i_BadChoice => k_is)
    (case e_BadChoice => (refine' Cg.ErF.of ?cl ?rv ?sa ?nn ?tc ?kc ?ex ?ty ?hb ?ms ?fn ?ln ?cd ?co ?v2 ?pf ?ce ?ga ?gg ?hd ?ic; (case cl => k_is); (case rv => decide +kernel); (case sa => k_is); (case nn => k_is); (case tc => k_is); (case kc => k_is); (case ex => k_is); (case ty => k_is); (case hb => k_is); (case ms => k_is); (case fn => k_is); (case ln => rfl); (case cd => k_is); (case co => k_is); (case v2 => rfl); (case pf => decide +kernel); (case ce => k_is); (case ga => k_is); (case gg => k_is); (case hd => k_is); (case ic => k_is)))
    (case u_BadChoice => ks_is)
    (case a_Stalled => k_is)
    (case i_Stalled => k_is)
    (case e_Stalled => (refine' Cg.ErF.of ?cl ?rv ?sa ?nn ?tc ?kc ?ex ?ty ?hb ?ms ?fn ?ln ?cd ?co ?v2 ?pf ?ce ?ga ?gg ?hd ?ic; (case cl => k_is); (case rv => decide +kernel); (case sa => k_is); (case nn => k_is); (case tc => k_is); (case kc => k_is); (case ex => k_is); (case ty => k_is); (case hb => k_is); (case ms => k_is); (case fn => k_is); (case ln => rfl); (case cd => k_is); (case co => k_is); (case v2 => rfl); (case pf => decide +kernel); (case ce => k_is); (case ga => k_is); (case gg => k_is); (case hd => k_is); (case ic => k_is)))
    (case u_Stalled => ks_is)
    (case y1_Stalled => decide +kernel)
    (case y2_Stalled => decide +kernel)
    (case x_kk => k_is)
    (case x_bk => k_is)
    (case x_tk => k_is)
    (case x_bb => k_is)
    (case x_tb => k_is)
    (case x_tt => k_is)
    (case x_uu => k_is)
    (case a__law_alive => k_is)
    (case d__law_alive => (refine' Cg.FnF.of ?l ?c ?k; (case l => k_is); (case c => k_is); (case k => k_is)))
    (case a__law_shut => k_is)
    (case d__law_shut => (refine' Cg.FnF.of ?l ?c ?k; (case l => k_is); (case c => k_is); (case k => k_is)))
    (case a__law_empty => k_is)
    (case d__law_empty => (refine' Cg.FnF.of ?l ?c ?k; (case l => k_is); (case c => k_is); (case k => k_is)))
    (case a__law_room => k_is)
    (case d__law_room => (refine' Cg.FnF.of ?l ?c ?k; (case l => k_is); (case c => k_is); (case k => k_is)))
    (case a__law_write => k_is)
    (case d__law_write => (refine' Cg.FnF.of ?l ?c ?k; (case l => k_is); (case c => k_is); (case k => k_is)))
    (case a__law_kill => k_is)
    (case d__law_kill => (refine' Cg.FnF.of ?l ?c ?k; (case l => k_is); (case c => k_is); (case k => k_is)))
    (case a__law_find => k_is)
    (case d__law_find => (refine' Cg.FnF.of ?l ?c ?k; (case l => k_is); (case c => k_is); (case k => k_is)))
    (case a__law_move => k_is)
    (case d__law_move => (refine' Cg.FnF.of ?l ?c ?k; (case l => k_is); (case c => k_is); (case k => k_is)))
    (case a__law_drop => k_is)
    (case d__law_drop => (refine' Cg.FnF.of ?l ?c ?k; (case l => k_is); (case c => k_is); (case k => k_is)))
    (case a__law_begin => k_is)
    (case d__law_begin => (refine' Cg.FnF.of ?l ?c ?k; (case l => k_is); (case c => k_is); (case k => k_is)))
    (case a__law_put => k_is)
    (case d__law_put => (refine' Cg.FnF.of ?l ?c ?k; (case l => k_is); (case c => k_is); (case k => k_is)))
    (case a__law_copy => k_is)
    (case d__law_copy => (refine' Cg.FnF.of ?l ?c ?k; (case l => k_is); (case c => k_is); (case k => k_is)))
    (case a__law_model => k_is)
    (case d__law_model => (refine' Cg.FnF.of ?l ?c ?k; (case l => k_is); (case c => k_is); (case k => k_is)))
    (case a__law_draw => k_is)
    (case d__law_draw => (refine' Cg.FnF.of ?l ?c ?k; (case l => k_is); (case c => k_is); (case k => k_is)))
    (case a__law_key => k_is)
    (case d__law_key => (refine' Cg.FnF.of ?l ?c ?k; (case l => k_is); (case c => k_is); (case k => k_is)))
    (case a__law_box => k_is)
    (case d__law_box => (refine' Cg.FnF.of ?l ?c ?k; (case l => k_is); (case c => k_is); (case k => k_is)))
    (case a__law_worth => k_is)
    (case d__law_worth => (refine' Cg.FnF.of ?l ?c ?k; (case l => k_is); (case c => k_is); (case k => k_is)))
    (case a__law_next => k_is)
    (case d__law_next => (refine' Cg.FnF.of ?l ?c ?k; (case l => k_is); (case c => k_is); (case k => k_is)))
    (case a__law_terms => k_is)
    (case d__law_terms => (refine' Cg.FnF.of ?l ?c ?k; (case l => k_is); (case c => k_is); (case k => k_is)))
    (case a__law_names => k_is)
    (case d__law_names => (refine' Cg.FnF.of ?l ?c ?k; (case l => k_is); (case c => k_is); (case k => k_is)))
    (case a__law_picks => k_is)
    (case d__law_picks => (refine' Cg.FnF.of ?l ?c ?k; (case l => k_is); (case c => k_is); (case k => k_is)))
    (case a_at_least => k_is)
    (case d_at_least => (refine' Cg.FnF.of ?l ?c ?k; (case l => k_is); (case c => k_is); (case k => k_is)))
    (case a_good_key => k_is)
    (case d_good_key => (refine' Cg.FnF.of ?l ?c ?k; (case l => k_is); (case c => k_is); (case k => k_is)))
    (case a__law_is_integer => k_is)
    (case d__law_is_integer => (refine' Cg.FnF.of ?l ?c ?k; (case l => k_is); (case c => k_is); (case k => k_is)))
    (case a__append_or_stall => k_is)
    (case d__append_or_stall => (refine' Cg.FnF.of ?l ?c ?k; (case l => k_is); (case c => k_is); (case k => k_is)))
    (case a__law_call => k_is)
    (case d__law_call => (refine' Cg.FnF.of ?l ?c ?k; (case l => k_is); (case c => k_is); (case k => k_is)))
    (case a__law_told_put => k_is)
    (case d__law_told_put => (refine' Cg.FnF.of ?l ?c ?k; (case l => k_is); (case c => k_is); (case k => k_is)))
    (case a__law_told_drop => k_is)
    (case d__law_told_drop => (refine' Cg.FnF.of ?l ?c ?k; (case l => k_is); (case c => k_is); (case k => k_is)))
    (case a__law_name_holds => k_is)
    (case d__law_name_holds => (refine' Cg.FnF.of ?l ?c ?k; (case l => k_is); (case c => k_is); (case k => k_is)))
    (case a__law_pairs => k_is)
    (case d__law_pairs => (refine' Cg.FnF.of ?l ?c ?k; (case l => k_is); (case c => k_is); (case k => k_is)))
    (case a__law_table_is => k_is)
    (case d__law_table_is => (refine' Cg.FnF.of ?l ?c ?k; (case l => k_is); (case c => k_is); (case k => k_is)))
    (case a__law_table_holds => k_is)
    (case d__law_table_holds => (refine' Cg.FnF.of ?l ?c ?k; (case l => k_is); (case c => k_is); (case k => k_is)))
    (case a__law_turn => k_is)
    (case d__law_turn => (refine' Cg.FnF.of ?l ?c ?k; (case l => k_is); (case c => k_is); (case k => k_is)))
    (case a__law_ends => k_is)
    (case d__law_ends => (refine' Cg.FnF.of ?l ?c ?k; (case l => k_is); (case c => k_is); (case k => k_is)))
    (case a_law => k_is)
    (case d_law => (refine' Cg.FnF.of ?l ?c ?k; (case l => k_is); (case c => k_is); (case k => k_is)))
    (case a_SegmentLog_head_segment => k_is)
    (case i_SegmentLog_head_segment => k_is)
    (case d_SegmentLog_head_segment => (refine' Cg.FnF.of ?l ?c ?k; (case l => k_is); (case c => k_is); (case k => k_is)))
    (case a_SegmentLog_alive => k_is)
    (case i_SegmentLog_alive => k_is)
    (case d_SegmentLog_alive => (refine' Cg.FnF.of ?l ?c ?k; (case l => k_is); (case c => k_is); (case k => k_is)))
    (case a_SegmentLog_is_closed => k_is)
    (case i_SegmentLog_is_closed => k_is)
    (case d_SegmentLog_is_closed => (refine' Cg.FnF.of ?l ?c ?k; (case l => k_is); (case c => k_is); (case k => k_is)))
    (case a_SegmentLog_unwritten => k_is)
    (case i_SegmentLog_unwritten => k_is)
    (case d_SegmentLog_unwritten => (refine' Cg.FnF.of ?l ?c ?k; (case l => k_is); (case c => k_is); (case k => k_is)))
    (case a_SegmentLog_room_left => k_is)
    (case i_SegmentLog_room_left => k_is)
    (case d_SegmentLog_room_left => (refine' Cg.FnF.of ?l ?c ?k; (case l => k_is); (case c => k_is); (case k => k_is)))
    (case a_SegmentLog_spot_of => k_is)
    (case i_SegmentLog_spot_of => k_is)
    (case d_SegmentLog_spot_of => (refine' Cg.FnF.of ?l ?c ?k; (case l => k_is); (case c => k_is); (case k => k_is)))
    (case a_SegmentLog_can_carry => k_is)
    (case i_SegmentLog_can_carry => k_is)
    (case d_SegmentLog_can_carry => (refine' Cg.FnF.of ?l ?c ?k; (case l => k_is); (case c => k_is); (case k => k_is)))
    (case a_SegmentLog_append_key => k_is)
    (case i_SegmentLog_append_key => k_is)
    (case d_SegmentLog_append_key => (refine' Cg.FnF.of ?l ?c ?k; (case l => k_is); (case c => k_is); (case k => k_is)))
    (case a_SegmentLog_kill_at => k_is)
    (case i_SegmentLog_kill_at => k_is)
    (case d_SegmentLog_kill_at => (refine' Cg.FnF.of ?l ?c ?k; (case l => k_is); (case c => k_is); (case k => k_is)))
    (case a_SegmentLog_carry_from => k_is)
    (case i_SegmentLog_carry_from => k_is)
    (case d_SegmentLog_carry_from => (refine' Cg.FnF.of ?l ?c ?k; (case l => k_is); (case c => k_is); (case k => k_is)))
    (case a_SegmentLog___init__ => k_is)
    (case i_SegmentLog___init__ => k_is)
    (case d_SegmentLog___init__ => (refine' Cg.FnF.of ?l ?c ?k; (case l => k_is); (case c => k_is); (case k => k_is)))
    (case a_SegmentLog_copied => k_is)
    (case i_SegmentLog_copied => k_is)
    (case d_SegmentLog_copied => (refine' Cg.FnF.of ?l ?c ?k; (case l => k_is); (case c => k_is); (case k => k_is)))
    (case a_Segments___len__ => k_is)
    (case i_Segments___len__ => k_is)
    (case d_Segments___len__ => (refine' Cg.FnF.of ?l ?c ?k; (case l => k_is); (case c => k_is); (case k => k_is)))
    (case a_Segments___contains__ => k_is)
    (case i_Segments___contains__ => k_is)
    (case d_Segments___contains__ => (refine' Cg.FnF.of ?l ?c ?k; (case l => k_is); (case c => k_is); (case k => k_is)))
    (case a_Segments_read => k_is)
    (case i_Segments_read => k_is)
    (case d_Segments_read => (refine' Cg.FnF.of ?l ?c ?k; (case l => k_is); (case c => k_is); (case k => k_is)))
    (case a_Segments_table => k_is)
    (case i_Segments_table => k_is)
    (case d_Segments_table => (refine' Cg.FnF.of ?l ?c ?k; (case l => k_is); (case c => k_is); (case k => k_is)))
    (case a_Segments_delete => k_is)
    (case i_Segments_delete => k_is)
    (case d_Segments_delete => (refine' Cg.FnF.of ?l ?c ?k; (case l => k_is); (case c => k_is); (case k => k_is)))
    (case a_Segments_put => k_is)
    (case i_Segments_put => k_is)
    (case d_Segments_put => (refine' Cg.FnF.of ?l ?c ?k; (case l => k_is); (case c => k_is); (case k => k_is)))
    (case a_Segments___init__ => k_is)
    (case i_Segments___init__ => k_is)
    (case d_Segments___init__ => (refine' Cg.FnL.of ?l ?c ?k; (case l => k_is); (case c => k_is); (case k => k_is)))
    (case d_late => k_is)
#print axioms PySem.Challenge.cw_carrylog_k30_whole_segment_tables_holds
