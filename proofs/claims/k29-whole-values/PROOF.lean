import PyProof.Rows.All
import Wide.All
import OpenK.AllK
import Wide.FinOn
import KE.KStateDown
import HandS.ForMost
import HandS.More
import HandS.Style
import HandS.IsInst
import HandS.Defaults
import HandS.Head0
import HandS.Head1
import HandS.Head2
import HandS.HeadEnd
import HandS.HeadHook1
import HandS.HeadHook2
import HandS.HeadHook3
import HandS.HeadHook4
import PySem.Challenge.RW_anchorpages_k29_whole_values_of_plain_te
set_option Elab.async false
set_option linter.all false
set_option maxRecDepth 100000
/-! # part Ap1 -/
set_option maxHeartbeats 4000000
namespace Ap
/-! ### texts as lists of codes; b: in brackets (I, P), l: on a line (K, P) -/
def isBr (x : Nat) : Bool := [44, 91, 93, 123, 125].contains x
def isSg (x : Nat) : Bool := decide (33 ≤ x) && decide (x ≤ 126)
def safe (b : Bool) (x : Nat) : Bool := isSg x && !(b && isBr x)
def safeO (b : Bool) : Option Nat → Bool
  | none => false
  | some x => safe b x
def begins (t : List Nat) (i : Nat) : Bool := i == 0 || t[i - 1]? == some 10
def mark (t : List Nat) (i : Nat) : Bool := begins t i && (([[45, 45, 45], [46, 46, 46]] : List (List Nat)).contains ((t.drop i).take 3) && ([none, some 32, some 10] : List (Option Nat)).contains t[i + 3]?)
def nextOk (b : Bool) (t : List Nat) (i : Nat) (beh : Bool) : Bool := !mark t i && match t[i]? with
  | none => false
  | some x => if x = 58 then safeO b t[i + 1]? else safe b x && !(decide (x = 35) && !beh)
def notFirst (x : Nat) : Bool := [44, 91, 93, 123, 125, 35, 38, 42, 33, 124, 62, 39, 34, 64, 96].contains x
def maybeFirst (x : Nat) : Bool := [45, 63, 58].contains x
def firstOk (b : Bool) (t : List Nat) (i : Nat) : Bool := !mark t i && match t[i]? with
  | none => false
  | some x => if maybeFirst x then safeO b t[i + 1]? else safe b x && !notFirst x
/-- past the blanks -/
def pb (t : List Nat) (i : Nat) : Nat := i + ((t.drop i).takeWhile fun x => x == 32).length
inductive RowEnd (b : Bool) (t : List Nat) : Nat → Nat → Prop
  | stop {i : Nat} (h : nextOk b t (pb t i) (i == pb t i) = false) : RowEnd b t i i
  | go {i e : Nat} (h : nextOk b t (pb t i) (i == pb t i) = true) (r : RowEnd b t (pb t i + 1) e) : RowEnd b t i e
inductive Empt (t : List Nat) : Nat → Nat → Nat → Prop
  | nil {j : Nat} (h : t[pb t j]? ≠ some 10) : Empt t j 0 j
  | cons {j c k : Nat} (h : t[pb t j]? = some 10) (r : Empt t (pb t j + 1) c k) : Empt t j (c + 1) k
/-- the fold at i stands, ends at f, with c empty lines -/
def FoldAt (t : List Nat) (i n f c : Nat) : Prop := t[pb t i]? = some 10 ∧ ∃ j, Empt t (pb t i + 1) c j ∧ (∀ k, k < n → t[j + k]? = some 32) ∧ f = pb t (j + n)
def NoFold (t : List Nat) (i n : Nat) : Prop := t[pb t i]? ≠ some 10 ∨ (t[pb t i]? = some 10 ∧ ∃ c j, Empt t (pb t i + 1) c j ∧ ∃ k, k < n ∧ t[j + k]? ≠ some 32)
def brk (c : Nat) : List Nat := if c = 0 then [32] else List.replicate c 10
def slice (t : List Nat) (i e : Nat) : List Nat := (t.take e).drop i
inductive Tail (b : Bool) (n : Nat) (t : List Nat) : Nat → List Nat → Nat → List Nat → Prop
  | stop1 {e : Nat} {v : List Nat} (h : NoFold t e n) : Tail b n t e v e v
  | stop2 {e f c : Nat} {v : List Nat} (h : FoldAt t e n f c) (h2 : nextOk b t f false = false) : Tail b n t e v e v
  | go {e f c e1 e2 : Nat} {v v2 : List Nat} (h : FoldAt t e n f c) (h2 : nextOk b t f false = true) (r : RowEnd b t (f + 1) e1) (q : Tail b n t e1 (v ++ (brk c ++ slice t f e1)) e2 v2) : Tail b n t e v e2 v2
/-- from within a row, at i, with the value v so far -/
def Reads (b l : Bool) (n : Nat) (t : List Nat) (i : Nat) (v : List Nat) (e : Nat) (v2 : List Nat) : Prop :=
  ∃ e0, RowEnd b t i e0 ∧ (if l = true then e = e0 ∧ v2 = v ++ slice t i e0 else Tail b n t e0 (v ++ slice t i e0) e v2)
/-- what plain hands back -/
inductive PlainR (b l : Bool) (n : Nat) (t : List Nat) : Option (Nat × List Nat) → Prop
  | no (h : firstOk b t 1 = false) : PlainR b l n t none
  | yes {e0 e : Nat} {v : List Nat} (h : firstOk b t 1 = true) (r : RowEnd b t 2 e0) (q : if l = true then e = e0 ∧ v = slice t 1 e0 else Tail b n t e0 (slice t 1 e0) e v) : PlainR b l n t (some (e, v))
def ReadR (b l : Bool) (n : Nat) (x B : List Nat) (r : Option (List Nat)) : Prop :=
  ∃ p, PlainR b l n (32 :: (x ++ B)) p ∧ r = match p with
    | some (e, v) => if e = x.length + 1 then some v else none
    | none => none

/-! ### blanks -/
theorem pb_le (t : List Nat) (i : Nat) : i ≤ pb t i := Nat.le_add_right _ _
theorem tw_at : ∀ (l : List Nat) (k : Nat), k < (l.takeWhile fun x => x == 32).length → l[k]? = some 32
  | [], k, h => by simp at h
  | x :: r, k, h => by
    by_cases hx : x = 32
    · subst hx
      rw [List.takeWhile_cons_of_pos (by rfl)] at h
      cases k with
      | zero => rfl
      | succ k =>
        rw [List.getElem?_cons_succ]
        exact tw_at r k (by simpa using h)
    · rw [List.takeWhile_cons_of_neg (by simpa using hx)] at h
      simp at h
theorem tw_end : ∀ (l : List Nat), l[(l.takeWhile fun x => x == 32).length]? ≠ some 32
  | [] => by simp
  | x :: r => by
    by_cases hx : x = 32
    · subst hx
      rw [List.takeWhile_cons_of_pos (by rfl), List.length_cons, List.getElem?_cons_succ]
      exact tw_end r
    · rw [List.takeWhile_cons_of_neg (by simpa using hx)]
      simpa using hx
theorem pb_blank {t : List Nat} {i k : Nat} (h1 : i ≤ k) (h2 : k < pb t i) : t[k]? = some 32 := by
  unfold pb at h2
  have h := tw_at (t.drop i) (k - i) (by omega)
  rw [List.getElem?_drop, show i + (k - i) = k by omega] at h
  exact h
theorem pb_end (t : List Nat) (i : Nat) : t[pb t i]? ≠ some 32 := by
  have h := tw_end (t.drop i)
  rw [List.getElem?_drop] at h
  exact h
/-- the only place: blanks up to it, none at it -/
theorem pb_eq {t : List Nat} {i j : Nat} (h1 : i ≤ j) (h2 : ∀ k, i ≤ k → k < j → t[k]? = some 32) (h3 : t[j]? ≠ some 32) : pb t i = j := by
  rcases Nat.lt_trichotomy (pb t i) j with h | h | h
  · exact absurd (h2 _ (pb_le t i) h) (pb_end t i)
  · exact h
  · exact absurd (pb_blank h1 h) h3
theorem pb_le_of {t : List Nat} {i j : Nat} (h1 : i ≤ j) (h3 : t[j]? ≠ some 32) : pb t i ≤ j := by
  by_cases h : pb t i ≤ j
  · exact h
  · exact absurd (pb_blank h1 (by omega)) h3

/-! ### where signs stand -/
def SgAt (t : List Nat) (i : Nat) : Prop := ∃ x, t[i]? = some x ∧ isSg x = true
theorem safe_sg {b : Bool} {x : Nat} (h : safe b x = true) : isSg x = true := by
  unfold safe at h
  exact (Bool.and_eq_true_iff.mp h).1
theorem next_sg {b : Bool} {t : List Nat} {i : Nat} {beh : Bool} (h : nextOk b t i beh = true) : SgAt t i := by
  unfold nextOk at h
  have h2 := (Bool.and_eq_true_iff.mp h).2
  cases e : t[i]? with
  | none => rw [e] at h2; cases h2
  | some x =>
    rw [e] at h2
    refine ⟨x, e, ?_⟩
    by_cases hx : x = 58
    · subst hx; decide
    · have h3 : (if x = 58 then safeO b t[i + 1]? else safe b x && !(decide (x = 35) && !beh)) = true := h2
      rw [if_neg hx] at h3
      exact safe_sg (Bool.and_eq_true_iff.mp h3).1
theorem first_sg {b : Bool} {t : List Nat} {i : Nat} (h : firstOk b t i = true) : SgAt t i := by
  unfold firstOk at h
  have h2 := (Bool.and_eq_true_iff.mp h).2
  cases e : t[i]? with
  | none => rw [e] at h2; cases h2
  | some x =>
    rw [e] at h2
    refine ⟨x, e, ?_⟩
    have h3 : (if maybeFirst x = true then safeO b t[i + 1]? else safe b x && !notFirst x) = true := h2
    by_cases hx : maybeFirst x = true
    · unfold maybeFirst at hx
      rcases (by simpa using hx : x = 45 ∨ x = 63 ∨ x = 58) with rfl | rfl | rfl <;> decide
    · rw [if_neg hx] at h3
      exact safe_sg (Bool.and_eq_true_iff.mp h3).1
theorem row_le {b : Bool} {t : List Nat} {i e : Nat} (r : RowEnd b t i e) : i ≤ e := by
  induction r with
  | stop h => exact Nat.le_refl _
  | @go i e h r ih => exact Nat.le_trans (Nat.le_trans (pb_le t i) (Nat.le_succ _)) ih
theorem row_sg {b : Bool} {t : List Nat} {i e : Nat} (r : RowEnd b t i e) : SgAt t (i - 1) → SgAt t (e - 1) := by
  induction r with
  | stop h => exact fun z => z
  | @go i e h r ih => exact fun _ => ih (by rw [Nat.add_sub_cancel]; exact next_sg h)
theorem tail_sg {b : Bool} {n : Nat} {t : List Nat} {e e2 : Nat} {v v2 : List Nat} (r : Tail b n t e v e2 v2) : SgAt t (e - 1) → SgAt t (e2 - 1) := by
  induction r with
  | stop1 h => exact fun z => z
  | stop2 h h2 => exact fun z => z
  | go h h2 r q ih => exact fun _ => ih (row_sg r (by rw [Nat.add_sub_cancel]; exact next_sg h2))
theorem plain_sg {b l : Bool} {n : Nat} {t : List Nat} {e : Nat} {v : List Nat} (r : PlainR b l n t (some (e, v))) : SgAt t (e - 1) := by
  cases r with
  | yes h r q =>
    have h1 := row_sg r (first_sg h)
    cases l with
    | true =>
      rw [if_pos rfl] at q
      rw [q.1]
      exact h1
    | false =>
      rw [if_neg Bool.false_ne_true] at q
      exact tail_sg q h1

/-! ### obstacles -/
theorem empt_le {t : List Nat} {i c j : Nat} (r : Empt t i c j) : i ≤ j := by
  induction r with
  | nil h => exact Nat.le_refl _
  | @cons j c k h r ih => exact Nat.le_trans (Nat.le_trans (pb_le t j) (Nat.le_succ _)) ih
theorem empt_pass {t : List Nat} {i c j q : Nat} (r : Empt t i c j) (h1 : t[q]? ≠ some 32) (h2 : t[q]? ≠ some 10) : i ≤ q → j ≤ q := by
  induction r with
  | nil h => exact fun z => z
  | @cons j c k h r ih =>
    intro z
    have h3 := pb_le_of z h1
    rcases Nat.lt_or_eq_of_le h3 with h4 | h4
    · exact ih h4
    · rw [h4] at h; exact absurd h h2
theorem fold_blanks {t : List Nat} {e n f c : Nat} (r : FoldAt t e n f c) : ∃ j, j + n ≤ f ∧ ∀ k, j ≤ k → k < f → t[k]? = some 32 := by
  obtain ⟨_, j, _, hk, rfl⟩ := r
  refine ⟨j, pb_le _ _, fun k h1 h2 => ?_⟩
  by_cases h : k < j + n
  · have := hk (k - j) (by omega)
    rwa [show j + (k - j) = k by omega] at this
  · exact pb_blank (by omega) h2
theorem fold_pass {t : List Nat} {e n f c q : Nat} (r : FoldAt t e n f c) (h1 : t[q]? ≠ some 32) (h2 : t[q]? ≠ some 10) (h : e ≤ q) : f ≤ q := by
  obtain ⟨h0, j, he, hk, rfl⟩ := r
  have h3 := pb_le_of h h1
  rcases Nat.lt_or_eq_of_le h3 with h4 | h4
  · have h5 := empt_pass he h1 h2 h4
    refine pb_le_of ?_ h1
    by_cases h6 : j + n ≤ q
    · exact h6
    · have := hk (q - j) (by omega)
      rw [show j + (q - j) = q by omega] at this
      exact absurd this h1
  · rw [h4] at h0; exact absurd h0 h2
/-- nothing goes past q -/
structure Obst (b l : Bool) (n : Nat) (t : List Nat) (q : Nat) : Prop where
  nb : t[q]? ≠ some 32
  nf : l = false → t[q]? ≠ some 10
  row : ∀ e, e ≤ q → 1 ≤ e → SgAt t (e - 1) → pb t e = q → nextOk b t q (e == q) = false
  fold : l = false → ∀ e c, FoldAt t e n q c → nextOk b t q false = false
theorem row_ob {b l : Bool} {n : Nat} {t : List Nat} {q i e : Nat} (O : Obst b l n t q) (r : RowEnd b t i e) : SgAt t (i - 1) → 1 ≤ i → i ≤ q → e ≤ q := by
  induction r with
  | stop h => exact fun _ _ z => z
  | @go i e h r ih =>
    intro h1 h2 h3
    have h4 := pb_le_of h3 O.nb
    refine ih (by rw [Nat.add_sub_cancel]; exact next_sg h) (Nat.le_add_left _ _) ?_
    rcases Nat.lt_or_eq_of_le h4 with h5 | h5
    · exact h5
    · have h6 := O.row i h3 h2 h1 h5
      rw [h5] at h
      rw [h6] at h
      cases h
theorem tail_ob {b : Bool} {n : Nat} {t : List Nat} {q e e2 : Nat} {v v2 : List Nat} (O : Obst b false n t q) (r : Tail b n t e v e2 v2) : e ≤ q → e2 ≤ q := by
  induction r with
  | stop1 h => exact fun z => z
  | stop2 h h2 => exact fun z => z
  | @go e f c e1 e2 v v2 h h2 r _ ih =>
    intro z
    have h4 := fold_pass h O.nb (O.nf rfl) z
    refine ih (row_ob O r (by rw [Nat.add_sub_cancel]; exact next_sg h2) (Nat.le_add_left _ _) ?_)
    rcases Nat.lt_or_eq_of_le h4 with h5 | h5
    · exact h5
    · rw [h5] at h h2
      rw [O.fold rfl _ _ h] at h2
      cases h2
theorem plain_ob {b l : Bool} {n : Nat} {t : List Nat} {q e : Nat} {v : List Nat} (O : Obst b l n t q) (hq : 2 ≤ q) (r : PlainR b l n t (some (e, v))) : e ≤ q := by
  cases r with
  | yes h r z =>
    have h1 := row_ob O r (first_sg h) (by omega) hq
    cases l with
    | true =>
      rw [if_pos rfl] at z
      rw [z.1]
      exact h1
    | false =>
      rw [if_neg Bool.false_ne_true] at z
      exact tail_ob O z h1
theorem read_ob {b l : Bool} {n : Nat} {x B : List Nat} {q : Nat} {r : Option (List Nat)} (O : Obst b l n (32 :: (x ++ B)) q) (hq : 2 ≤ q) (hx : q ≤ x.length) (h : ReadR b l n x B r) : r = none := by
  obtain ⟨p, h, rfl⟩ := h
  cases p with
  | none => rfl
  | some p =>
    obtain ⟨e, v⟩ := p
    have h1 := plain_ob O hq h
    show (if e = x.length + 1 then some v else none) = none
    rw [if_neg (by omega)]
/-- the last sign is white: nothing ends behind it -/
theorem read_white {b l : Bool} {n : Nat} {x B : List Nat} {y : Nat} {r : Option (List Nat)} (h : ReadR b l n (x ++ [y]) B r) (hy : isSg y = false) : r = none := by
  obtain ⟨p, h, rfl⟩ := h
  cases p with
  | none => rfl
  | some p =>
    obtain ⟨e, v⟩ := p
    obtain ⟨z, h1, h2⟩ := plain_sg h
    show (if e = (x ++ [y]).length + 1 then some v else none) = none
    refine if_neg fun he => ?_
    rw [he, List.length_append, List.length_singleton, show x.length + 1 + 1 - 1 = x.length + 1 by omega, List.getElem?_cons_succ, List.append_assoc, List.getElem?_append_right (Nat.le_refl _), Nat.sub_self] at h1
    have : y = z := by simpa using h1
    rw [← this, hy] at h2
    cases h2
/-- the first sign may not stand there -/
theorem read_first {b l : Bool} {n : Nat} {x B : List Nat} {r : Option (List Nat)} (h : ReadR b l n x B r) (hf : firstOk b (32 :: (x ++ B)) 1 = false) : r = none := by
  obtain ⟨p, h, rfl⟩ := h
  cases h with
  | no _ => rfl
  | yes h1 _ _ => rw [hf] at h1; cases h1
end Ap
/-! # part Ap2 -/
set_option maxHeartbeats 4000000
namespace Ap
/-! ### the kinds of obstacles -/
theorem next_unsafe {b : Bool} {t : List Nat} {q x : Nat} {beh : Bool} (e : t[q]? = some x) (h : safe b x = false) : nextOk b t q beh = false := by
  unfold nextOk
  rw [e]
  show (!mark t q && (if x = 58 then safeO b t[q + 1]? else safe b x && !(decide (x = 35) && !beh))) = false
  have hx : x ≠ 58 := by
    rintro rfl
    revert h
    cases b <;> decide
  rw [if_neg hx, h]
  simp
theorem ob_unsafe {b l : Bool} {n : Nat} {t : List Nat} {q x : Nat} (e : t[q]? = some x) (h : safe b x = false) (h1 : x ≠ 32) (h2 : l = false → x ≠ 10) : Obst b l n t q where
  nb := by rw [e]; simpa using h1
  nf := fun z => by rw [e]; simpa using h2 z
  row := fun _ _ _ _ _ => next_unsafe e h
  fold := fun _ _ _ _ => next_unsafe e h
theorem ob_colon {b l : Bool} {n : Nat} {t : List Nat} {q : Nat} (e : t[q]? = some 58) (h : safeO b t[q + 1]? = false) : Obst b l n t q := by
  have key : ∀ beh, nextOk b t q beh = false := fun beh => by
    unfold nextOk
    rw [e]
    show (!mark t q && (if 58 = 58 then safeO b t[q + 1]? else safe b 58 && !(decide (58 = 35) && !beh))) = false
    rw [if_pos rfl, h, Bool.and_false]
  exact ⟨by rw [e]; decide, fun _ => by rw [e]; decide, fun _ _ _ _ _ => key _, fun _ _ _ _ => key _⟩
theorem ob_hash {b l : Bool} {n : Nat} {t : List Nat} {q y : Nat} (e : t[q]? = some 35) (h : t[q - 1]? = some y) (hy : isSg y = false) : Obst b l n t q := by
  have key : nextOk b t q false = false := by
    unfold nextOk
    rw [e]
    show (!mark t q && (if 35 = 58 then safeO b t[q + 1]? else safe b 35 && !(decide (35 = 35) && !false))) = false
    rw [if_neg (by decide)]
    simp
  refine ⟨by rw [e]; decide, fun _ => by rw [e]; decide, fun e0 h1 h2 h3 h4 => ?_, fun _ _ _ _ => key⟩
  have hne : (e0 == q) = false := by
    rw [beq_eq_false_iff_ne]
    rintro rfl
    obtain ⟨x, h5, h6⟩ := h3
    rw [h] at h5
    rw [← Option.some.inj h5, hy] at h6
    cases h6
  rw [hne]
  exact key
theorem ob_mark {b l : Bool} {n : Nat} {t : List Nat} {q x : Nat} (e : t[q]? = some x) (h : mark t q = true) (h1 : x ≠ 32) (h2 : x ≠ 10) : Obst b l n t q := by
  have key : ∀ beh, nextOk b t q beh = false := fun beh => by
    unfold nextOk
    rw [h]
    rfl
  exact ⟨by rw [e]; simpa using h1, fun _ => by rw [e]; simpa using h2, fun _ _ _ _ _ => key _, fun _ _ _ _ => key _⟩
/-- behind a line feed too few blanks -/
theorem ob_under {b l : Bool} {n : Nat} {t : List Nat} {p q x : Nat} (e : t[q]? = some x) (h1 : x ≠ 32) (h2 : x ≠ 10) (hp : t[p]? = some 10) (hpq : p < q) (hn : q ≤ p + n) (hb : ∀ k, p < k → k < q → t[k]? = some 32) : Obst b l n t q := by
  refine ⟨by rw [e]; simpa using h1, fun _ => by rw [e]; simpa using h2, fun e0 g1 g2 g3 g4 => ?_, fun _ e0 c g => ?_⟩
  · exfalso
    have hlt : p < e0 := by
      by_cases z : p < e0
      · exact z
      · have := pb_blank (t := t) (i := e0) (k := p) (by omega) (by omega)
        rw [hp] at this
        cases this
    obtain ⟨y, g5, g6⟩ := g3
    rcases Nat.lt_or_eq_of_le (show p ≤ e0 - 1 by omega) with z | z
    · rw [hb (e0 - 1) z (by omega)] at g5
      rw [← Option.some.inj g5] at g6
      cases g6
    · rw [← z, hp] at g5
      rw [← Option.some.inj g5] at g6
      cases g6
  · exfalso
    obtain ⟨j, g1, g2⟩ := fold_blanks g
    have := g2 p (by omega) hpq
    rw [hp] at this
    cases this

/-! ### the same over parts of the text -/
theorem at_mid {A B : List Nat} {x : Nat} : (A ++ x :: B)[A.length]? = some x := by
  rw [List.getElem?_append_right (Nat.le_refl _), Nat.sub_self]
  rfl
theorem at_mid1 {A B : List Nat} {x y : Nat} : (A ++ x :: y :: B)[A.length + 1]? = some y := by
  rw [List.getElem?_append_right (by omega), show A.length + 1 - A.length = 1 by omega]
  rfl
theorem at_midO {A B : List Nat} {x : Nat} : (A ++ x :: B)[A.length + 1]? = B.head? := by
  rw [List.getElem?_append_right (by omega), show A.length + 1 - A.length = 1 by omega]
  cases B <;> rfl
theorem at_rep {A B : List Nat} {m k : Nat} (h1 : A.length ≤ k) (h2 : k < A.length + m) : (A ++ (List.replicate m 32 ++ B))[k]? = some 32 := by
  rw [List.getElem?_append_right h1, List.getElem?_append_left (by rw [List.length_replicate]; omega), List.getElem?_replicate, if_pos (by omega)]

/-! ### running on: the relations turned round -/
/-- a sign that goes on a row -/
def okc (b : Bool) (x : Nat) (nxt : Option Nat) : Bool := safe b x && (!decide (x = 58) || safeO b nxt)
theorem next_ok {b : Bool} {A B : List Nat} {x : Nat} {beh : Bool} (h : okc b x B.head? = true) (hb : beh = true ∨ x ≠ 35) (hm : mark (A ++ x :: B) A.length = false) : nextOk b (A ++ x :: B) A.length beh = true := by
  unfold nextOk
  rw [hm, at_mid, at_midO]
  show (!false && (if x = 58 then safeO b B.head? else safe b x && !(decide (x = 35) && !beh))) = true
  obtain ⟨h1, h2⟩ := Bool.and_eq_true_iff.mp h
  by_cases hx : x = 58
  · subst hx
    rw [if_pos rfl]
    simpa using h2
  · rw [if_neg hx, h1]
    rcases hb with rfl | hb
    · simp
    · simp [hb]
theorem mark_no {t : List Nat} {i y : Nat} (h0 : i ≠ 0) (h : t[i - 1]? = some y) (hy : y ≠ 10) : mark t i = false := by
  unfold mark begins
  rw [h]
  have e1 : (i == 0) = false := by simpa using h0
  have e2 : (some y == some 10) = false := by simpa using hy
  rw [e1, e2]
  rfl
theorem last_at {A B : List Nat} {y : Nat} : (A ++ [y] ++ B)[(A ++ [y]).length - 1]? = some y := by
  rw [List.length_append, List.length_singleton, Nat.add_sub_cancel, List.append_assoc]
  exact at_mid
/-- one sign, directly behind what is read -/
theorem row_one {b : Bool} {A B : List Nat} {x y e : Nat} (h : okc b x B.head? = true) (hx : x ≠ 32) (hy : y ≠ 10) (r : RowEnd b (A ++ [y] ++ x :: B) (A ++ [y]).length e) : RowEnd b (A ++ [y] ++ x :: B) ((A ++ [y]).length + 1) e := by
  have ep : pb (A ++ [y] ++ x :: B) (A ++ [y]).length = (A ++ [y]).length := pb_eq (Nat.le_refl _) (fun k h1 h2 => by omega) (by rw [at_mid]; simpa using hx)
  have hn : nextOk b (A ++ [y] ++ x :: B) (A ++ [y]).length true = true := next_ok h (.inl rfl) (mark_no (by simp) last_at hy)
  cases r with
  | stop h2 =>
    rw [ep, beq_self_eq_true, hn] at h2
    cases h2
  | go h2 r =>
    rw [ep] at r
    exact r
/-- a sign behind blanks -/
theorem row_blanks {b : Bool} {A B : List Nat} {m x e : Nat} (h : okc b x B.head? = true) (hx : x ≠ 32) (hh : x ≠ 35) (hm : 1 ≤ m) (r : RowEnd b (A ++ (List.replicate m 32 ++ x :: B)) A.length e) : RowEnd b (A ++ (List.replicate m 32 ++ x :: B)) (A.length + m + 1) e := by
  have el : (A ++ List.replicate m 32).length = A.length + m := by simp
  have et : A ++ (List.replicate m 32 ++ x :: B) = A ++ List.replicate m 32 ++ x :: B := (List.append_assoc _ _ _).symm
  have ex : (A ++ (List.replicate m 32 ++ x :: B))[A.length + m]? = some x := by
    rw [et, ← el]
    exact at_mid
  have ep : pb (A ++ (List.replicate m 32 ++ x :: B)) A.length = A.length + m := pb_eq (Nat.le_add_right _ _) (fun k h1 h2 => at_rep h1 h2) (by rw [ex]; simpa using hx)
  have hn : ∀ beh, nextOk b (A ++ (List.replicate m 32 ++ x :: B)) (A.length + m) beh = true := fun beh => by
    have q := next_ok (b := b) (A := A ++ List.replicate m 32) (B := B) (x := x) (beh := beh) h (.inr hh) (mark_no (y := 32) (by rw [el]; omega) (by rw [el, ← et]; exact at_rep (by omega) (by omega)) (by decide))
    rw [el, ← et] at q
    exact q
  cases r with
  | stop h2 =>
    rw [ep, hn] at h2
    cases h2
  | go h2 r =>
    rw [ep] at r
    exact r
/-- a word's signs -/
def wok (b : Bool) : List Nat → Bool
  | [] => true
  | x :: r => okc b x r.head? && wok b r
theorem okc_mono {b : Bool} {x : Nat} {r : List Nat} {o : List Nat} (h : okc b x r.head? = true) : okc b x (r ++ o).head? = true := by
  cases r with
  | nil =>
    unfold okc at h ⊢
    obtain ⟨h1, h2⟩ := Bool.and_eq_true_iff.mp h
    have h3 : (!decide (x = 58)) = true := by simpa [safeO] using h2
    rw [h1, h3]
    rfl
  | cons y r => exact h
theorem okc_ne {b : Bool} {x : Nat} {o : Option Nat} (h : okc b x o = true) : x ≠ 32 ∧ x ≠ 10 := by
  have h1 := safe_sg (Bool.and_eq_true_iff.mp h).1
  constructor <;> (rintro rfl; revert h1; decide)
theorem row_word {b : Bool} {B : List Nat} {e : Nat} : ∀ (w A : List Nat) (y : Nat), wok b w = true → y ≠ 10 → RowEnd b (A ++ [y] ++ (w ++ B)) (A ++ [y]).length e → RowEnd b (A ++ [y] ++ (w ++ B)) ((A ++ [y]).length + w.length) e
  | [], _, _, _, _, r => r
  | x :: w, A, y, h, hy, r => by
    obtain ⟨h1, h2⟩ := Bool.and_eq_true_iff.mp (show (okc b x w.head? && wok b w) = true from h)
    have h3 := okc_mono (o := B) h1
    have r2 := row_one (B := w ++ B) h3 (okc_ne h1).1 hy r
    have et : A ++ [y] ++ (x :: w ++ B) = A ++ [y] ++ [x] ++ (w ++ B) := by simp
    have r3 : RowEnd b (A ++ [y] ++ [x] ++ (w ++ B)) (A ++ [y] ++ [x]).length e := by
      rw [← et, show (A ++ [y] ++ [x]).length = (A ++ [y]).length + 1 by simp]
      exact r2
    have r4 := row_word w (A ++ [y]) x h2 (okc_ne h1).2 r3
    rw [← et, show (A ++ [y] ++ [x]).length = (A ++ [y]).length + 1 by simp] at r4
    rw [List.length_cons, show (A ++ [y]).length + (w.length + 1) = (A ++ [y]).length + 1 + w.length by omega]
    exact r4
end Ap
/-! # part Ap3 -/
set_option maxHeartbeats 4000000
namespace Ap
/-! ### slices -/
theorem slice_split {A M C : List Nat} {e : Nat} (h : A.length + M.length ≤ e) : slice (A ++ (M ++ C)) A.length e = M ++ slice (A ++ (M ++ C)) (A.length + M.length) e := by
  unfold slice
  have e1 : (A ++ (M ++ C)).take e = A ++ (M ++ C.take (e - A.length - M.length)) := by
    rw [List.take_append, List.take_of_length_le (by omega), List.take_append, List.take_of_length_le (l := M) (by omega)]
  rw [e1, List.drop_left]
  congr 1
  rw [← List.drop_drop, List.drop_left, List.drop_left]
theorem slice_nil {t : List Nat} {i : Nat} : slice t i i = [] := by
  unfold slice
  rw [List.drop_eq_nil_iff, List.length_take]
  omega
theorem reads_shift {b l : Bool} {n : Nat} {A M C : List Nat} {v v2 : List Nat} {e : Nat} (r : Reads b l n (A ++ (M ++ C)) A.length v e v2)
    (h : ∀ e0, RowEnd b (A ++ (M ++ C)) A.length e0 → RowEnd b (A ++ (M ++ C)) (A.length + M.length) e0) : Reads b l n (A ++ (M ++ C)) (A.length + M.length) (v ++ M) e v2 := by
  obtain ⟨e0, h1, h2⟩ := r
  have h3 := h e0 h1
  rw [slice_split (row_le h3), ← List.append_assoc] at h2
  exact ⟨e0, h3, h2⟩

/-! ### words and gaps -/
def lineOk (w : List Nat) : Bool := !(([[45, 45, 45], [46, 46, 46]] : List (List Nat)).contains (w.take 3))
def wordOk (b : Bool) (w : List Nat) : Bool := !w.isEmpty && (w.head? != some 35 && (wok b w && lineOk w))
theorem wordOk_of {b : Bool} {w : List Nat} (h : wordOk b w = true) : w ≠ [] ∧ w.head? ≠ some 35 ∧ wok b w = true ∧ lineOk w = true := by
  obtain ⟨h1, h⟩ := Bool.and_eq_true_iff.mp h
  obtain ⟨h2, h⟩ := Bool.and_eq_true_iff.mp h
  obtain ⟨h3, h4⟩ := Bool.and_eq_true_iff.mp h
  refine ⟨?_, by simpa using h2, h3, h4⟩
  rintro rfl
  cases h1
/-- what stands behind a word at a line's begin -/
def behOk (r : List Nat) : Prop := r.head? ≠ some 45 ∧ r.head? ≠ some 46
theorem mark_word {A w r : List Nat} (hw : w ≠ []) (h : lineOk w = true) (hr : behOk r) : mark (A ++ (w ++ r)) A.length = false := by
  have h0 : (([[45, 45, 45], [46, 46, 46]] : List (List Nat)).contains (((A ++ (w ++ r)).drop A.length).take 3)) = false := by
    rw [List.drop_left]
    unfold lineOk at h
    match w, hw with
    | [x], _ =>
      match r, hr with
      | [], _ => simp
      | a :: r', hr =>
        have h1 : a ≠ 45 := by simpa using hr.1
        have h2 : a ≠ 46 := by simpa using hr.2
        cases r' <;> simp [h1, h2]
    | [x, y], _ =>
      match r, hr with
      | [], _ => simp
      | a :: r', hr =>
        have h1 : a ≠ 45 := by simpa using hr.1
        have h2 : a ≠ 46 := by simpa using hr.2
        simp [h1, h2]
    | x :: y :: z :: w', _ =>
      have e1 : (x :: y :: z :: w' ++ r).take 3 = (x :: y :: z :: w').take 3 := rfl
      rw [e1]
      simpa only [Bool.not_eq_true'] using h
  unfold mark
  rw [h0, Bool.false_and, Bool.and_false]
inductive Gp where
  | bl (k : Nat)
  | br (a : Nat) (ls : List Nat) (d : Nat)
def lsT (ls : List Nat) : List Nat := ls.flatMap fun m => List.replicate m 32 ++ [10]
def Gp.txt (n : Nat) : Gp → List Nat
  | .bl k => List.replicate k 32
  | .br a ls d => List.replicate a 32 ++ 10 :: (lsT ls ++ List.replicate (n + d) 32)
def Gp.val : Gp → List Nat
  | .bl k => List.replicate k 32
  | .br _ ls _ => brk ls.length
def Gp.ok : Gp → Prop
  | .bl k => 1 ≤ k
  | .br _ _ _ => True
def Gp.isBr : Gp → Bool
  | .bl _ => false
  | .br _ _ _ => true
abbrev Pcs := List (Gp × List Nat)
def txtOf (n : Nat) (gs : Pcs) : List Nat := gs.flatMap fun g => g.1.txt n ++ g.2
def valOf (gs : Pcs) : List Nat := gs.flatMap fun g => g.1.val ++ g.2
theorem txt_cons {n : Nat} {g : Gp × List Nat} {gs : Pcs} : txtOf n (g :: gs) = g.1.txt n ++ (g.2 ++ txtOf n gs) := by
  unfold txtOf
  rw [List.flatMap_cons, List.append_assoc]
theorem val_cons {g : Gp × List Nat} {gs : Pcs} : valOf (g :: gs) = g.1.val ++ (g.2 ++ valOf gs) := by
  unfold valOf
  rw [List.flatMap_cons, List.append_assoc]
/-- a gap's first sign is a blank or a line feed -/
theorem gap_head {n : Nat} {g : Gp} (h : g.ok) (r : List Nat) : (g.txt n ++ r).head? = some 32 ∨ (g.txt n ++ r).head? = some 10 := by
  cases g with
  | bl k =>
    left
    cases k with
    | zero => exact absurd (show 1 ≤ 0 from h) (by decide)
    | succ k => rfl
  | br a ls d =>
    cases a with
    | zero => right; rfl
    | succ a => left; rfl
theorem beh_txt {n : Nat} {gs : Pcs} {B : List Nat} (hg : ∀ g ∈ gs, g.1.ok) (hB : behOk B) : behOk (txtOf n gs ++ B) := by
  cases gs with
  | nil => exact hB
  | cons g gs =>
    rw [txt_cons, List.append_assoc]
    rcases gap_head (n := n) (hg g (List.mem_cons_self ..)) (g.2 ++ txtOf n gs ++ B) with h | h <;> (unfold behOk; rw [h]; exact ⟨by decide, by decide⟩)

/-! ### breaks -/
theorem empt_is {n : Nat} {x : Nat} {C : List Nat} (hx : x ≠ 32) (hx2 : x ≠ 10) : ∀ (ls A : List Nat) {c k : Nat}, Empt (A ++ (lsT ls ++ (List.replicate n 32 ++ x :: C))) A.length c k → c = ls.length ∧ k = A.length + (lsT ls).length
  | [], A, c, k, r => by
    have ep : pb (A ++ ([] ++ (List.replicate n 32 ++ x :: C))) A.length = A.length + n := by
      refine pb_eq (Nat.le_add_right _ _) (fun k h1 h2 => at_rep h1 h2) ?_
      rw [List.nil_append, ← List.append_assoc, ← List.length_replicate (n := n) (a := 32), ← List.length_append, List.length_replicate, at_mid]
      simpa using hx
    have ex : (A ++ ([] ++ (List.replicate n 32 ++ x :: C)))[A.length + n]? = some x := by
      rw [List.nil_append, ← List.append_assoc, ← List.length_replicate (n := n) (a := 32), ← List.length_append, List.length_replicate]
      exact at_mid
    cases r with
    | nil h => exact ⟨rfl, rfl⟩
    | cons h r =>
      exfalso
      have h' : (A ++ ([] ++ (List.replicate n 32 ++ x :: C)))[pb (A ++ ([] ++ (List.replicate n 32 ++ x :: C))) A.length]? = some 10 := h
      rw [ep, ex] at h'
      exact hx2 (Option.some.inj h')
  | m :: ls, A, c, k, r => by
    have et : A ++ (lsT (m :: ls) ++ (List.replicate n 32 ++ x :: C)) = A ++ (List.replicate m 32 ++ 10 :: (lsT ls ++ (List.replicate n 32 ++ x :: C))) := by
      unfold lsT
      rw [List.flatMap_cons]
      simp
    have et2 : A ++ (List.replicate m 32 ++ 10 :: (lsT ls ++ (List.replicate n 32 ++ x :: C))) = (A ++ (List.replicate m 32 ++ [10])) ++ (lsT ls ++ (List.replicate n 32 ++ x :: C)) := by simp
    have el : (A ++ (List.replicate m 32 ++ [10])).length = A.length + m + 1 := by
      simp
      omega
    have ex : (A ++ (List.replicate m 32 ++ 10 :: (lsT ls ++ (List.replicate n 32 ++ x :: C))))[A.length + m]? = some 10 := by
      rw [← List.append_assoc, show A.length + m = (A ++ List.replicate m 32).length by simp]
      exact at_mid
    have ep : pb (A ++ (List.replicate m 32 ++ 10 :: (lsT ls ++ (List.replicate n 32 ++ x :: C)))) A.length = A.length + m :=
      pb_eq (Nat.le_add_right _ _) (fun k h1 h2 => at_rep h1 h2) (by rw [ex]; decide)
    rw [et] at r
    cases r with
    | nil h =>
      rw [ep, ex] at h
      exact absurd rfl h
    | @cons _ c' _ h r =>
      rw [ep, et2, ← el] at r
      obtain ⟨h1, h2⟩ := empt_is hx hx2 ls _ r
      refine ⟨by rw [h1, List.length_cons], ?_⟩
      rw [h2, el]
      unfold lsT
      rw [List.flatMap_cons, List.length_append, List.length_append, List.length_replicate, List.length_singleton]
      omega
theorem fold_is {A C : List Nat} {a n d x f c : Nat} {ls : List Nat} (hx : x ≠ 32) (hx2 : x ≠ 10) (r : FoldAt (A ++ (Gp.txt n (.br a ls d) ++ x :: C)) A.length n f c) : c = ls.length ∧ f = A.length + (Gp.txt n (.br a ls d)).length := by
  have et : A ++ (Gp.txt n (.br a ls d) ++ x :: C) = A ++ (List.replicate a 32 ++ 10 :: (lsT ls ++ (List.replicate (n + d) 32 ++ x :: C))) := by
    unfold Gp.txt
    simp
  have et2 : A ++ (List.replicate a 32 ++ 10 :: (lsT ls ++ (List.replicate (n + d) 32 ++ x :: C))) = (A ++ (List.replicate a 32 ++ [10])) ++ (lsT ls ++ (List.replicate (n + d) 32 ++ x :: C)) := by simp
  have el : (A ++ (List.replicate a 32 ++ [10])).length = A.length + a + 1 := by
    simp
    omega
  have ex : (A ++ (List.replicate a 32 ++ 10 :: (lsT ls ++ (List.replicate (n + d) 32 ++ x :: C))))[A.length + a]? = some 10 := by
    rw [← List.append_assoc, show A.length + a = (A ++ List.replicate a 32).length by simp]
    exact at_mid
  have ep : pb (A ++ (List.replicate a 32 ++ 10 :: (lsT ls ++ (List.replicate (n + d) 32 ++ x :: C)))) A.length = A.length + a :=
    pb_eq (Nat.le_add_right _ _) (fun k h1 h2 => at_rep h1 h2) (by rw [ex]; decide)
  rw [et] at r
  obtain ⟨_, j, he, hk, rfl⟩ := r
  rw [ep] at he
  rw [et2] at he hk ⊢
  rw [← el] at he
  obtain ⟨h1, h2⟩ := empt_is hx hx2 ls _ he
  refine ⟨h1, ?_⟩
  have e3 : (A ++ (List.replicate a 32 ++ [10])) ++ (lsT ls ++ (List.replicate (n + d) 32 ++ x :: C)) = (A ++ (List.replicate a 32 ++ [10]) ++ lsT ls) ++ (List.replicate (n + d) 32 ++ x :: C) := by simp
  have e4 : j = (A ++ (List.replicate a 32 ++ [10]) ++ lsT ls).length := by rw [h2, List.length_append (as := A ++ (List.replicate a 32 ++ [10]))]
  have e5 : (Gp.txt n (.br a ls d)).length = a + 1 + (lsT ls).length + (n + d) := by
    unfold Gp.txt
    simp
    omega
  rw [e3, e5]
  have e6 : A.length + (a + 1 + (lsT ls).length + (n + d)) = (A ++ (List.replicate a 32 ++ [10]) ++ lsT ls).length + (n + d) := by
    rw [List.length_append (as := A ++ (List.replicate a 32 ++ [10])), el]
    omega
  rw [e6]
  refine pb_eq (by rw [e4]; omega) (fun k h3 h4 => at_rep (by rw [← e4]; omega) h4) ?_
  have e7 : (A ++ (List.replicate a 32 ++ [10]) ++ lsT ls).length + (n + d) = (A ++ (List.replicate a 32 ++ [10]) ++ lsT ls ++ List.replicate (n + d) 32).length := by
    rw [List.length_append (as := A ++ (List.replicate a 32 ++ [10]) ++ lsT ls), List.length_replicate]
  rw [e7, ← List.append_assoc (A ++ (List.replicate a 32 ++ [10]) ++ lsT ls), at_mid]
  simpa using hx
theorem fold_no {A C : List Nat} {a n d x : Nat} {ls : List Nat} (hx : x ≠ 32) (hx2 : x ≠ 10) (r : NoFold (A ++ (Gp.txt n (.br a ls d) ++ x :: C)) A.length n) : False := by
  have et : A ++ (Gp.txt n (.br a ls d) ++ x :: C) = A ++ (List.replicate a 32 ++ 10 :: (lsT ls ++ (List.replicate (n + d) 32 ++ x :: C))) := by
    unfold Gp.txt
    simp
  have et2 : A ++ (List.replicate a 32 ++ 10 :: (lsT ls ++ (List.replicate (n + d) 32 ++ x :: C))) = (A ++ (List.replicate a 32 ++ [10])) ++ (lsT ls ++ (List.replicate (n + d) 32 ++ x :: C)) := by simp
  have el : (A ++ (List.replicate a 32 ++ [10])).length = A.length + a + 1 := by
    simp
    omega
  have ex : (A ++ (List.replicate a 32 ++ 10 :: (lsT ls ++ (List.replicate (n + d) 32 ++ x :: C))))[A.length + a]? = some 10 := by
    rw [← List.append_assoc, show A.length + a = (A ++ List.replicate a 32).length by simp]
    exact at_mid
  have ep : pb (A ++ (List.replicate a 32 ++ 10 :: (lsT ls ++ (List.replicate (n + d) 32 ++ x :: C)))) A.length = A.length + a :=
    pb_eq (Nat.le_add_right _ _) (fun k h1 h2 => at_rep h1 h2) (by rw [ex]; decide)
  rw [et] at r
  unfold NoFold at r
  rw [ep, ex] at r
  rcases r with r | ⟨_, c, j, he, k, hk, hn⟩
  · exact r rfl
  · rw [et2] at he hn
    rw [← el] at he
    obtain ⟨_, h2⟩ := empt_is hx hx2 ls _ he
    refine hn ?_
    have e3 : (A ++ (List.replicate a 32 ++ [10])) ++ (lsT ls ++ (List.replicate (n + d) 32 ++ x :: C)) = (A ++ (List.replicate a 32 ++ [10]) ++ lsT ls) ++ (List.replicate (n + d) 32 ++ x :: C) := by simp
    have e4 : j = (A ++ (List.replicate a 32 ++ [10]) ++ lsT ls).length := by rw [h2, List.length_append (as := A ++ (List.replicate a 32 ++ [10]))]
    rw [e3]
    exact at_rep (by omega) (by omega)
end Ap
/-! # part Ap4 -/
set_option maxHeartbeats 4000000
namespace Ap
theorem last_split {w : List Nat} (h : w ≠ []) : ∃ u z, w = u ++ [z] := by
  rcases List.eq_nil_or_concat w with e | ⟨u, z, e⟩
  · exact absurd e h
  · exact ⟨u, z, by rw [e, List.concat_eq_append]⟩
theorem wok_last {b : Bool} {w : List Nat} {z : Nat} : ∀ {u : List Nat}, wok b (u ++ [z]) = true → z ≠ 32 ∧ z ≠ 10
  | [], h => by
    obtain ⟨h1, _⟩ := Bool.and_eq_true_iff.mp (show (okc b z none && wok b []) = true from h)
    exact okc_ne h1
  | x :: u, h => by
    obtain ⟨_, h2⟩ := Bool.and_eq_true_iff.mp (show (okc b x (u ++ [z]).head? && wok b (u ++ [z])) = true from h)
    exact wok_last (w := w) h2
/-- what stands behind all: reading from there ends there, with eS more -/
def Stops (b l : Bool) (n : Nat) (B eS : List Nat) : Prop := ∀ (A : List Nat) (y : Nat) (v : List Nat) (e : Nat) (v2 : List Nat), y ≠ 10 → y ≠ 32 → Reads b l n (A ++ [y] ++ B) (A ++ [y]).length v e v2 → e = (A ++ [y]).length + eS.length ∧ v2 = v ++ eS
/-- a word's signs, from its first one on, behind some blanks that are read -/
theorem reads_word {b l : Bool} {n : Nat} {w A B : List Nat} {y : Nat} {v v2 : List Nat} {e : Nat} (hw : wok b w = true) (hy : y ≠ 10) (r : Reads b l n (A ++ [y] ++ (w ++ B)) (A ++ [y]).length v e v2) :
    Reads b l n (A ++ [y] ++ (w ++ B)) ((A ++ [y]).length + w.length) (v ++ w) e v2 := reads_shift r fun _ z => row_word w A y hw hy z
theorem reads_pieces {b l : Bool} {n : Nat} {B eS : List Nat} (hB : behOk B) (stop : Stops b l n B eS) : ∀ (gs : Pcs) (A : List Nat) (y : Nat) (v : List Nat) (e : Nat) (v2 : List Nat), (∀ g ∈ gs, g.1.ok ∧ wordOk b g.2 = true ∧ (l = true → g.1.isBr = false)) →
    y ≠ 10 → y ≠ 32 → Reads b l n (A ++ [y] ++ (txtOf n gs ++ B)) (A ++ [y]).length v e v2 → e = (A ++ [y]).length + (txtOf n gs).length + eS.length ∧ v2 = v ++ (valOf gs ++ eS)
  | [], A, y, v, e, v2, _, h1, h2, r => stop A y v e v2 h1 h2 r
  | (g, w) :: gs, A, y, v, e, v2, hg, h1, h2, r => by
    obtain ⟨g1, g2, g3⟩ : g.ok ∧ wordOk b w = true ∧ (l = true → g.isBr = false) := hg (g, w) (List.mem_cons_self ..)
    have hgs : ∀ g ∈ gs, g.1.ok ∧ wordOk b g.2 = true ∧ (l = true → g.1.isBr = false) := fun z hz => hg z (List.mem_cons_of_mem _ hz)
    obtain ⟨w1, w2, w3, w4⟩ := wordOk_of g2
    obtain ⟨u, z, ez⟩ := last_split w1
    have hz := wok_last (w := w) (b := b) (u := u) (z := z) (by rw [← ez]; exact w3)
    have et : A ++ [y] ++ (txtOf n ((g, w) :: gs) ++ B) = A ++ [y] ++ (g.txt n ++ (w ++ (txtOf n gs ++ B))) := by
      rw [txt_cons]
      simp
    rw [et] at r
    -- behind the word
    have key : Reads b l n (A ++ [y] ++ (g.txt n ++ (w ++ (txtOf n gs ++ B)))) ((A ++ [y]).length + (g.txt n).length + w.length) (v ++ (g.val ++ w)) e v2 := by
      cases g with
      | bl k =>
        have hk : 1 ≤ k := g1
        cases w with
        | nil => exact absurd rfl w1
        | cons x w =>
          obtain ⟨o1, o2⟩ := Bool.and_eq_true_iff.mp (show (okc b x w.head? && wok b w) = true from w3)
          have hx35 : x ≠ 35 := by
            intro zz
            subst zz
            exact w2 rfl
          have o3 := okc_mono (o := txtOf n gs ++ B) o1
          have r2 : Reads b l n (A ++ [y] ++ ((List.replicate k 32 ++ [x]) ++ (w ++ (txtOf n gs ++ B)))) ((A ++ [y]).length + (List.replicate k 32 ++ [x]).length) (v ++ (List.replicate k 32 ++ [x])) e v2 := by
            refine reads_shift (A := A ++ [y]) (M := List.replicate k 32 ++ [x]) (C := w ++ (txtOf n gs ++ B)) ?_ fun e0 z => ?_
            · have e1 : A ++ [y] ++ ((List.replicate k 32 ++ [x]) ++ (w ++ (txtOf n gs ++ B))) = A ++ [y] ++ (Gp.txt n (.bl k) ++ (x :: w ++ (txtOf n gs ++ B))) := by simp [Gp.txt]
              rw [e1]
              exact r
            · have e1 : A ++ [y] ++ ((List.replicate k 32 ++ [x]) ++ (w ++ (txtOf n gs ++ B))) = A ++ [y] ++ (List.replicate k 32 ++ x :: (w ++ (txtOf n gs ++ B))) := by simp
              rw [e1] at z ⊢
              have q := row_blanks o3 (okc_ne o1).1 hx35 hk z
              rw [List.length_append (as := List.replicate k 32), List.length_replicate, List.length_singleton, ← Nat.add_assoc]
              exact q
          have e2 : A ++ [y] ++ ((List.replicate k 32 ++ [x]) ++ (w ++ (txtOf n gs ++ B))) = (A ++ [y] ++ List.replicate k 32) ++ [x] ++ (w ++ (txtOf n gs ++ B)) := by simp
          have e3 : (A ++ [y]).length + (List.replicate k 32 ++ [x]).length = ((A ++ [y] ++ List.replicate k 32) ++ [x]).length := by
            simp
            omega
          rw [e2, e3] at r2
          have r3 := reads_word o2 (okc_ne o1).2 r2
          have e4 : (A ++ [y] ++ List.replicate k 32) ++ [x] ++ (w ++ (txtOf n gs ++ B)) = A ++ [y] ++ (Gp.txt n (.bl k) ++ (x :: w ++ (txtOf n gs ++ B))) := by simp [Gp.txt]
          have e5 : ((A ++ [y] ++ List.replicate k 32) ++ [x]).length + w.length = (A ++ [y]).length + (Gp.txt n (.bl k)).length + (x :: w).length := by
            simp [Gp.txt]
            omega
          have e6 : v ++ (List.replicate k 32 ++ [x]) ++ w = v ++ (Gp.val (.bl k) ++ x :: w) := by simp [Gp.val]
          rw [e4, e5, e6] at r3
          exact r3
      | br a ls d =>
        have hl : l = false := by
          cases l with
          | false => rfl
          | true => exact absurd (show true = false from g3 rfl) (by decide)
        subst hl
        cases w with
        | nil => exact absurd rfl w1
        | cons x w =>
          obtain ⟨o1, o2⟩ := Bool.and_eq_true_iff.mp (show (okc b x w.head? && wok b w) = true from w3)
          obtain ⟨hx1, hx2⟩ := okc_ne o1
          have hx35 : x ≠ 35 := by
            intro zz
            subst zz
            exact w2 rfl
          have o3 := okc_mono (o := txtOf n gs ++ B) o1
          obtain ⟨e0, r1, r2⟩ := r
          rw [if_neg Bool.false_ne_true] at r2
          -- the row ends at once
          have ea : A ++ [y] ++ (Gp.txt n (.br a ls d) ++ (x :: w ++ (txtOf n gs ++ B))) = A ++ [y] ++ (List.replicate a 32 ++ 10 :: (lsT ls ++ (List.replicate (n + d) 32 ++ (x :: w ++ (txtOf n gs ++ B))))) := by simp [Gp.txt]
          have ex : (A ++ [y] ++ (Gp.txt n (.br a ls d) ++ (x :: w ++ (txtOf n gs ++ B))))[(A ++ [y]).length + a]? = some 10 := by
            rw [ea, ← List.append_assoc (A ++ [y]), show (A ++ [y]).length + a = (A ++ [y] ++ List.replicate a 32).length by rw [List.length_append (as := A ++ [y]), List.length_replicate]]
            exact at_mid
          have ep : pb (A ++ [y] ++ (Gp.txt n (.br a ls d) ++ (x :: w ++ (txtOf n gs ++ B)))) (A ++ [y]).length = (A ++ [y]).length + a := by
            refine pb_eq (Nat.le_add_right _ _) (fun k q1 q2 => ?_) (by rw [ex]; decide)
            rw [ea]
            exact at_rep q1 q2
          have ee : e0 = (A ++ [y]).length := by
            cases r1 with
            | stop _ => rfl
            | go h r =>
              rw [ep, next_unsafe ex (by cases b <;> rfl)] at h
              cases h
          subst ee
          rw [slice_nil, List.append_nil] at r2
          -- the fold
          have hfm : mark (A ++ [y] ++ (Gp.txt n (.br a ls d) ++ (x :: w ++ (txtOf n gs ++ B)))) ((A ++ [y]).length + (Gp.txt n (.br a ls d)).length) = false := by
            rw [← List.append_assoc (A ++ [y]), ← List.length_append]
            exact mark_word (by simp) w4 (beh_txt (fun z hz => (hgs z hz).1) hB)
          have hfn : nextOk b (A ++ [y] ++ (Gp.txt n (.br a ls d) ++ (x :: w ++ (txtOf n gs ++ B)))) ((A ++ [y]).length + (Gp.txt n (.br a ls d)).length) false = true := by
            rw [← List.append_assoc (A ++ [y]), ← List.length_append] at hfm ⊢
            exact next_ok o3 (.inr hx35) hfm
          cases r2 with
          | stop1 h => exact absurd h (fun h => fold_no (C := w ++ (txtOf n gs ++ B)) hx1 hx2 h)
          | stop2 h q =>
            obtain ⟨_, rfl⟩ := fold_is (C := w ++ (txtOf n gs ++ B)) hx1 hx2 h
            rw [hfn] at q
            cases q
          | @go _ f c e1 _ _ _ h q r t =>
            obtain ⟨rfl, rfl⟩ := fold_is (C := w ++ (txtOf n gs ++ B)) hx1 hx2 h
            have hle := row_le r
            have e2 : A ++ [y] ++ (Gp.txt n (.br a ls d) ++ (x :: w ++ (txtOf n gs ++ B))) = (A ++ [y] ++ Gp.txt n (.br a ls d)) ++ ([x] ++ (w ++ (txtOf n gs ++ B))) := by simp
            have e3 : (A ++ [y]).length + (Gp.txt n (.br a ls d)).length = (A ++ [y] ++ Gp.txt n (.br a ls d)).length := by rw [List.length_append (as := A ++ [y])]
            rw [e2, e3] at r t
            rw [e3] at hle
            rw [slice_split (A := A ++ [y] ++ Gp.txt n (.br a ls d)) (M := [x]) (by simpa using hle)] at t
            have r2 : Reads b false n ((A ++ [y] ++ Gp.txt n (.br a ls d)) ++ [x] ++ (w ++ (txtOf n gs ++ B))) ((A ++ [y] ++ Gp.txt n (.br a ls d)) ++ [x]).length (v ++ (brk ls.length ++ [x])) e v2 := by
              refine ⟨e1, ?_, ?_⟩
              · rw [List.append_assoc (A ++ [y] ++ Gp.txt n (.br a ls d)), List.length_append (as := A ++ [y] ++ Gp.txt n (.br a ls d))]
                exact r
              · rw [if_neg Bool.false_ne_true, List.append_assoc (A ++ [y] ++ Gp.txt n (.br a ls d)), List.length_append (as := A ++ [y] ++ Gp.txt n (.br a ls d))]
                rw [List.append_assoc v, List.append_assoc (brk ls.length)]
                exact t
            have r3 := reads_word o2 hx2 r2
            have e4 : (A ++ [y] ++ Gp.txt n (.br a ls d)) ++ [x] ++ (w ++ (txtOf n gs ++ B)) = A ++ [y] ++ (Gp.txt n (.br a ls d) ++ (x :: w ++ (txtOf n gs ++ B))) := by simp
            have e5 : ((A ++ [y] ++ Gp.txt n (.br a ls d)) ++ [x]).length + w.length = (A ++ [y]).length + (Gp.txt n (.br a ls d)).length + (x :: w).length := by
              rw [List.length_append (bs := [x]), List.length_append (bs := Gp.txt n (.br a ls d)), List.length_singleton, List.length_cons]
              omega
            have e6 : v ++ (brk ls.length ++ [x]) ++ w = v ++ (Gp.val (.br a ls d) ++ x :: w) := by simp [Gp.val]
            rw [e4, e5, e6] at r3
            exact r3
    -- on, from the word's last sign
    have e7 : A ++ [y] ++ (g.txt n ++ (w ++ (txtOf n gs ++ B))) = (A ++ [y] ++ (g.txt n ++ u)) ++ [z] ++ (txtOf n gs ++ B) := by
      rw [ez]
      simp
    have e8 : (A ++ [y]).length + (g.txt n).length + w.length = ((A ++ [y] ++ (g.txt n ++ u)) ++ [z]).length := by
      rw [ez]
      simp
      omega
    rw [e7, e8] at key
    obtain ⟨q1, q2⟩ := reads_pieces hB stop gs (A ++ [y] ++ (g.txt n ++ u)) z _ e v2 hgs hz.2 hz.1 key
    refine ⟨?_, ?_⟩
    · have e9 : (txtOf n ((g, w) :: gs)).length = (Gp.txt n g).length + (w.length + (txtOf n gs).length) := by
        rw [txt_cons, List.length_append, List.length_append]
      rw [q1, ← e8, e9]
      omega
    · rw [q2, val_cons]
      show _ = v ++ (g.val ++ (w ++ valOf gs) ++ eS)
      simp
end Ap
/-! # part Ap5 -/
set_option maxHeartbeats 4000000
namespace Ap
/-! ### where reading stops -/
theorem row_stop {b : Bool} {t : List Nat} {i x e : Nat} (hx : t[i]? = some x) (h1 : x ≠ 32) (h2 : nextOk b t i true = false) (r : RowEnd b t i e) : e = i := by
  have ep : pb t i = i := pb_eq (Nat.le_refl _) (fun k q1 q2 => by omega) (by rw [hx]; simpa using h1)
  cases r with
  | stop _ => rfl
  | go h _ =>
    rw [ep, beq_self_eq_true, h2] at h
    cases h
theorem fold_gt {t : List Nat} {e n f c : Nat} (r : FoldAt t e n f c) : pb t e < f := by
  obtain ⟨_, j, he, _, rfl⟩ := r
  have h1 := empt_le he
  have h2 := pb_le t (j + n)
  omega
theorem stops_O (n : Nat) : Stops false false n [10] [] := by
  intro A y v e v2 h1 h2 ⟨e0, r, q⟩
  have hx : (A ++ [y] ++ [10])[(A ++ [y]).length]? = some 10 := at_mid
  have e1 := row_stop hx (by decide) (next_unsafe hx (by decide)) r
  subst e1
  rw [slice_nil, List.append_nil, if_neg Bool.false_ne_true] at q
  have fin : e = (A ++ [y]).length ∧ v2 = v := by
    cases q with
    | stop1 _ => exact ⟨rfl, rfl⟩
    | stop2 _ _ => exact ⟨rfl, rfl⟩
    | go h n2 _ _ =>
      exfalso
      have hf := fold_gt h
      have hp := pb_le (A ++ [y] ++ [10]) (A ++ [y]).length
      obtain ⟨z, hz, _⟩ := next_sg n2
      have hl := (List.getElem?_eq_some_iff.mp hz).1
      rw [List.length_append (bs := [10]), List.length_singleton] at hl
      omega
  rw [List.append_nil]
  exact fin
theorem stops_I (n : Nat) : Stops true false n [93] [] := by
  intro A y v e v2 h1 h2 ⟨e0, r, q⟩
  have hx : (A ++ [y] ++ [93])[(A ++ [y]).length]? = some 93 := at_mid
  have ep : pb (A ++ [y] ++ [93]) (A ++ [y]).length = (A ++ [y]).length := pb_eq (Nat.le_refl _) (fun k q1 q2 => by omega) (by rw [hx]; decide)
  have e1 := row_stop hx (by decide) (next_unsafe hx (by decide)) r
  subst e1
  rw [slice_nil, List.append_nil, if_neg Bool.false_ne_true] at q
  have fin : e = (A ++ [y]).length ∧ v2 = v := by
    cases q with
    | stop1 _ => exact ⟨rfl, rfl⟩
    | stop2 _ _ => exact ⟨rfl, rfl⟩
    | go h _ _ _ =>
      exfalso
      have := h.1
      rw [ep, hx] at this
      cases this
  rw [List.append_nil]
  exact fin
theorem colon_not {b : Bool} {t : List Nat} {i : Nat} {beh : Bool} (hx : t[i]? = some 58) (h : safeO b t[i + 1]? = false) : nextOk b t i beh = false := by
  unfold nextOk
  rw [hx]
  show (!mark t i && (if 58 = 58 then safeO b t[i + 1]? else safe b 58 && !(decide (58 = 35) && !beh))) = false
  rw [if_pos rfl, h, Bool.and_false]
theorem stops_l (b : Bool) (n : Nat) : Stops b true n [58, 32] [] := by
  intro A y v e v2 h1 h2 ⟨e0, r, q⟩
  have hx : (A ++ [y] ++ [58, 32])[(A ++ [y]).length]? = some 58 := at_mid
  have hy : (A ++ [y] ++ [58, 32])[(A ++ [y]).length + 1]? = some 32 := at_mid1
  have e1 := row_stop hx (by decide) (colon_not hx (by rw [hy]; cases b <;> decide)) r
  subst e1
  rw [slice_nil, List.append_nil, if_pos rfl] at q
  rw [List.append_nil]
  exact q
theorem stops_c (b : Bool) (n : Nat) : Stops b true n [58, 58, 32] [58] := by
  intro A y v e v2 h1 h2 r
  have r2 := reads_shift (A := A ++ [y]) (M := [58]) (C := [58, 32]) r fun e0 z => row_one (x := 58) (B := [58, 32]) (by cases b <;> decide) (by decide) h1 z
  have e1 : A ++ [y] ++ ([58] ++ [58, 32]) = (A ++ [y]) ++ [58] ++ [58, 32] := by simp
  have e2 : (A ++ [y]).length + ([58] : List Nat).length = ((A ++ [y]) ++ [58]).length := by simp
  rw [e1, e2] at r2
  obtain ⟨q1, q2⟩ := stops_l b n (A ++ [y]) 58 _ e v2 (by decide) (by decide) r2
  refine ⟨?_, ?_⟩
  · rw [q1, ← e2]
    rfl
  · rw [q2, List.append_nil]

/-! ### the whole text -/
def fstOk (b : Bool) : List Nat → Bool
  | [] => false
  | x :: r => if maybeFirst x then safeO b r.head? else safe b x && !notFirst x
theorem first_ok {b : Bool} {f R : List Nat} (h : fstOk b f = true) : firstOk b (32 :: (f ++ R)) 1 = true := by
  cases f with
  | nil => cases h
  | cons x r =>
    have hm : mark (32 :: (x :: r ++ R)) 1 = false := mark_no (y := 32) (by decide) rfl (by decide)
    unfold firstOk
    rw [hm]
    show (!false && (if maybeFirst x = true then safeO b (r ++ R)[0]? else safe b x && !notFirst x)) = true
    have h2 : (if maybeFirst x = true then safeO b r.head? else safe b x && !notFirst x) = true := h
    by_cases hx : maybeFirst x = true
    · rw [if_pos hx] at h2 ⊢
      cases r with
      | nil => cases h2
      | cons z r => exact h2
    · rw [if_neg hx] at h2 ⊢
      exact h2
theorem read_main {b l : Bool} {n : Nat} {B B' eS f : List Nat} {gs : Pcs} {r : Option (List Nat)} (eB : B = eS ++ B') (hB : behOk B) (stop : Stops b l n B eS) (hf : fstOk b f = true) (hw : wok b f = true)
    (hg : ∀ g ∈ gs, g.1.ok ∧ wordOk b g.2 = true ∧ (l = true → g.1.isBr = false)) (h : ReadR b l n (f ++ (txtOf n gs ++ eS)) B' r) : r = some (f ++ (valOf gs ++ eS)) := by
  obtain ⟨p, hp, rfl⟩ := h
  have et : 32 :: (f ++ (txtOf n gs ++ eS) ++ B') = 32 :: (f ++ (txtOf n gs ++ B)) := by
    rw [eB]
    simp
  rw [et] at hp
  cases hp with
  | no h =>
    rw [first_ok hf] at h
    cases h
  | @yes e0 e v h r q =>
    cases f with
    | nil => cases hf
    | cons x f =>
      have hle := row_le r
      have e1 : 32 :: (x :: f ++ (txtOf n gs ++ B)) = [32] ++ ([x] ++ (f ++ (txtOf n gs ++ B))) := by simp
      rw [e1] at r q
      rw [show (1 : Nat) = ([32] : List Nat).length from rfl, slice_split (by simpa using hle)] at q
      obtain ⟨o1, o2⟩ := Bool.and_eq_true_iff.mp (show (okc b x f.head? && wok b f) = true from hw)
      have r2 : Reads b l n ([32] ++ [x] ++ (f ++ (txtOf n gs ++ B))) ([32] ++ [x]).length [x] e v := ⟨e0, r, q⟩
      have r3 := reads_word o2 (okc_ne o1).2 r2
      obtain ⟨u, z, ez⟩ := last_split (w := x :: f) (by simp)
      have hz := wok_last (w := x :: f) (b := b) (u := u) (z := z) (by rw [← ez]; exact hw)
      have e2 : [32] ++ [x] ++ (f ++ (txtOf n gs ++ B)) = ([32] ++ u) ++ [z] ++ (txtOf n gs ++ B) := by
        have : [x] ++ f = u ++ [z] := ez
        rw [List.append_assoc, ← List.append_assoc [x], this]
        simp
      have e3 : ([32] ++ [x]).length + f.length = (([32] ++ u) ++ [z]).length := by
        have : (x :: f).length = (u ++ [z]).length := by rw [ez]
        simp at this
        simp
        omega
      rw [e2, e3] at r3
      obtain ⟨q1, q2⟩ := reads_pieces hB stop gs ([32] ++ u) z _ e v hg hz.2 hz.1 r3
      have e4 : e = (x :: f ++ (txtOf n gs ++ eS)).length + 1 := by
        rw [q1, ← e3]
        simp
        omega
      show (if e = (x :: f ++ (txtOf n gs ++ eS)).length + 1 then some v else none) = _
      rw [if_pos e4, q2]
      simp
end Ap
/-! # part Ap6 -/
set_option maxHeartbeats 4000000
namespace Ap
/-! ### the law's menus -/
def firstsL : List (List Nat) := [[97], [98, 58, 99], [45, 49], [63, 120], [58, 121], [45, 45], [48], [46, 46, 46]]
def wordsL18 : List (List Nat) := [[97], [98, 58, 99], [100, 35], [45], [63], [45, 45], [38, 101], [39], [33], [120, 124], [45, 102], [63, 103], [58, 104], [64], [34, 105, 34], [62], [106, 58, 44], [107, 93]]
theorem chk1 : firstsL.all (fun f => ((fstOk false f && wok false f) && (fstOk true f && wok true f)) && (f.all isSg && (!f.any isBr && decide (f.length ≤ 3)))) = true := by decide
theorem chk2 : wordsL18.all (fun w => (wordOk false w && (w.any isBr || wordOk true w)) && (w.all isSg && decide (w.length ≤ 3))) = true := by decide
theorem fst_of {f : List Nat} (h : f ∈ firstsL) (b : Bool) : fstOk b f = true ∧ wok b f = true := by
  have h1 := List.all_eq_true.mp chk1 f h
  simp only [Bool.and_eq_true] at h1
  cases b
  · exact h1.1.1
  · exact h1.1.2
theorem fst_sg {f : List Nat} (h : f ∈ firstsL) : (∀ x ∈ f, isSg x = true) ∧ (∀ x ∈ f, isBr x = false) ∧ f.length ≤ 3 ∧ f ≠ [] := by
  have h1 := List.all_eq_true.mp chk1 f h
  simp only [Bool.and_eq_true, Bool.not_eq_true', decide_eq_true_eq] at h1
  obtain ⟨⟨⟨h2, _⟩, _⟩, h3, h4, h5⟩ := h1
  refine ⟨List.all_eq_true.mp h3, fun x hx => ?_, h5, ?_⟩
  · have := List.any_eq_false.mp h4 x hx
    simpa using this
  · rintro rfl
    cases h2
theorem word_of {w : List Nat} (h : w ∈ wordsL18) : wordOk false w = true ∧ (w.any isBr = false → wordOk true w = true) ∧ (∀ x ∈ w, isSg x = true) ∧ w.length ≤ 3 := by
  have h1 := List.all_eq_true.mp chk2 w h
  simp only [Bool.and_eq_true, Bool.or_eq_true, decide_eq_true_eq] at h1
  obtain ⟨⟨h2, h3⟩, h4, h5⟩ := h1
  refine ⟨h2, fun h => ?_, List.all_eq_true.mp h4, h5⟩
  rcases h3 with h3 | h3
  · rw [h] at h3
    cases h3
  · exact h3
def Gp.okN (n : Nat) : Gp → Prop
  | .bl k => 1 ≤ k ∧ k ≤ 3
  | .br a ls d => a ≤ 2 ∧ ls.length ≤ 3 ∧ (∀ m ∈ ls, m ≤ n + 2) ∧ d ≤ 3
theorem Gp.okN.ok {n : Nat} {g : Gp} (h : g.okN n) : g.ok := by
  cases g with
  | bl k => exact h.1
  | br a ls d => exact True.intro
structure Good (n : Nat) (f : List Nat) (gs : Pcs) : Prop where
  n5 : n ≤ 5
  fst : f ∈ firstsL
  len : gs.length ≤ 6
  gap : ∀ g ∈ gs, g.1.okN n ∧ g.2 ∈ wordsL18
section
variable {n : Nat} {f : List Nat} {gs : Pcs}
theorem lsT_mem {x : Nat} : ∀ {ls : List Nat}, x ∈ lsT ls → x = 32 ∨ x = 10 := fun {ls} h => by
  unfold lsT at h
  obtain ⟨m, _, h⟩ := List.mem_flatMap.mp h
  rcases List.mem_append.mp h with h | h
  · exact .inl (List.eq_of_mem_replicate h)
  · exact .inr (List.mem_singleton.mp h)
theorem gap_mem {g : Gp} {x : Nat} (h : x ∈ g.txt n) : x = 32 ∨ x = 10 := by
  cases g with
  | bl k => exact .inl (List.eq_of_mem_replicate h)
  | br a ls d =>
    rcases List.mem_append.mp h with h | h
    · exact .inl (List.eq_of_mem_replicate h)
    · rcases List.mem_cons.mp h with h | h
      · exact .inr h
      · rcases List.mem_append.mp h with h | h
        · exact lsT_mem h
        · exact .inl (List.eq_of_mem_replicate h)
theorem val_mem {g : Gp} {x : Nat} (h : x ∈ g.val) : x = 32 ∨ x = 10 := by
  cases g with
  | bl k => exact .inl (List.eq_of_mem_replicate h)
  | br a ls d =>
    have h : x ∈ brk ls.length := h
    unfold brk at h
    split at h
    · exact .inl (List.mem_singleton.mp h)
    · exact .inr (List.eq_of_mem_replicate h)
theorem txt_mem {x : Nat} (h : x ∈ txtOf n gs) : (x = 32 ∨ x = 10) ∨ ∃ g ∈ gs, x ∈ g.2 := by
  obtain ⟨g, hg, h⟩ := List.mem_flatMap.mp h
  rcases List.mem_append.mp h with h | h
  · exact .inl (gap_mem h)
  · exact .inr ⟨g, hg, h⟩
theorem vals_mem {x : Nat} (h : x ∈ valOf gs) : (x = 32 ∨ x = 10) ∨ ∃ g ∈ gs, x ∈ g.2 := by
  obtain ⟨g, hg, h⟩ := List.mem_flatMap.mp h
  rcases List.mem_append.mp h with h | h
  · exact .inl (val_mem h)
  · exact .inr ⟨g, hg, h⟩
theorem word_in {x : Nat} {g : Gp × List Nat} (hg : g ∈ gs) (h : x ∈ g.2) : x ∈ txtOf n gs ∧ x ∈ valOf gs :=
  ⟨List.mem_flatMap.mpr ⟨g, hg, List.mem_append_right _ h⟩, List.mem_flatMap.mpr ⟨g, hg, List.mem_append_right _ h⟩⟩
theorem br_in {g : Gp × List Nat} (hg : g ∈ gs) (h : g.1.isBr = true) : 10 ∈ txtOf n gs := by
  refine List.mem_flatMap.mpr ⟨g, hg, List.mem_append_left _ ?_⟩
  obtain ⟨g1, w⟩ := g
  cases g1 with
  | bl k => cases h
  | br a ls d => exact List.mem_append_right _ (List.mem_cons_self ..)
/-- where the text may not stand -/
def outB (b l : Bool) (n : Nat) (f : List Nat) (gs : Pcs) : Bool := (f ++ txtOf n gs).contains 10 && l || (f ++ valOf gs).any isBr && b
theorem Good.head (G : Good n f gs) {Y : List Nat} {q x : Nat} (e : (32 :: (f ++ Y))[q]? = some x) (h : x = 10 ∨ isBr x = true) : 2 ≤ q := by
  obtain ⟨h1, h2, _, h4⟩ := fst_sg G.fst
  cases f with
  | nil => exact absurd rfl h4
  | cons y r =>
    match q, e with
    | 0, e =>
      have : 32 = x := Option.some.inj e
      subst this
      rcases h with h | h <;> cases h
    | 1, e =>
      have : y = x := Option.some.inj e
      subst this
      rcases h with h | h
      · have := h1 y (List.mem_cons_self ..)
        rw [h] at this
        cases this
      · rw [h2 y (List.mem_cons_self ..)] at h
        cases h
    | q + 2, _ => exact Nat.le_add_left _ _
theorem out_ob {b l : Bool} (G : Good n f gs) (h : outB b l n f gs = true) (Y : List Nat) : ∃ q, Obst b l n (32 :: (f ++ txtOf n gs ++ Y)) q ∧ 2 ≤ q ∧ q ≤ (f ++ txtOf n gs).length := by
  unfold outB at h
  have find : ∀ x, x ∈ f ++ txtOf n gs → ∃ q, (32 :: (f ++ txtOf n gs ++ Y))[q]? = some x ∧ q ≤ (f ++ txtOf n gs).length := fun x hx => by
    obtain ⟨i, hi, e⟩ := List.mem_iff_getElem.mp hx
    refine ⟨i + 1, ?_, hi⟩
    rw [List.getElem?_cons_succ, List.getElem?_append_left hi, List.getElem?_eq_getElem hi, e]
  rcases Bool.or_eq_true_iff.mp h with h | h
  · obtain ⟨h1, h2⟩ := Bool.and_eq_true_iff.mp h
    obtain ⟨q, e, hq⟩ := find 10 (by simpa using h1)
    refine ⟨q, ob_unsafe e (by cases b <;> rfl) (by decide) (fun z => by rw [h2] at z; cases z), G.head (Y := txtOf n gs ++ Y) (by rw [← List.append_assoc]; exact e) (.inl rfl), hq⟩
  · obtain ⟨h1, h2⟩ := Bool.and_eq_true_iff.mp h
    obtain ⟨x, hx, hb⟩ := List.any_eq_true.mp h1
    have hx2 : x ∈ f ++ txtOf n gs := by
      rcases List.mem_append.mp hx with hx | hx
      · exact List.mem_append_left _ hx
      · rcases vals_mem hx with (rfl | rfl) | ⟨g, hg, hw⟩
        · cases hb
        · cases hb
        · exact List.mem_append_right _ (word_in hg hw).1
    obtain ⟨q, e, hq⟩ := find x hx2
    refine ⟨q, ob_unsafe e ?_ (by rintro rfl; cases hb) (fun _ => by rintro rfl; cases hb), G.head (Y := txtOf n gs ++ Y) (by rw [← List.append_assoc]; exact e) (.inr hb), hq⟩
    unfold safe
    rw [h2, hb]
    simp
theorem in_ok {b l : Bool} (G : Good n f gs) (h : outB b l n f gs = false) : ∀ g ∈ gs, g.1.ok ∧ wordOk b g.2 = true ∧ (l = true → g.1.isBr = false) := fun g hg => by
  obtain ⟨h1, h2⟩ := G.gap g hg
  obtain ⟨w1, w2, w3, _⟩ := word_of h2
  unfold outB at h
  obtain ⟨o1, o2⟩ := Bool.or_eq_false_iff.mp h
  refine ⟨h1.ok, ?_, fun hl => ?_⟩
  · cases b with
    | false => exact w1
    | true =>
      refine w2 ?_
      rw [Bool.and_true] at o2
      refine List.any_eq_false.mpr fun x hx => ?_
      exact List.any_eq_false.mp o2 x (List.mem_append_right _ (word_in (n := n) hg hx).2)
  · rw [hl, Bool.and_true] at o1
    cases e : g.1.isBr with
    | false => rfl
    | true =>
      have := List.mem_append_right f (br_in (n := n) hg e)
      rw [List.contains_eq_mem] at o1
      exact absurd this (by simpa using o1)
/-- the text itself -/
theorem read_law {b l : Bool} {B : List Nat} {r : Option (List Nat)} (G : Good n f gs) (hB : behOk B) (stop : Stops b l n B []) (h : ReadR b l n (f ++ txtOf n gs) B r) : r = if outB b l n f gs = true then none else some (f ++ valOf gs) := by
  cases ho : outB b l n f gs with
  | true =>
    obtain ⟨q, O, h1, h2⟩ := out_ob G ho B
    rw [if_pos rfl]
    exact read_ob O h1 h2 h
  | false =>
    rw [if_neg Bool.false_ne_true]
    obtain ⟨f1, f2⟩ := fst_of G.fst b
    have := read_main (eS := []) (B := B) (B' := B) rfl hB stop f1 f2 (in_ok G ho) (by rw [List.append_nil]; exact h)
    rw [List.append_nil] at this
    exact this
/-- with a colon behind it, on a line -/
theorem read_colon {b : Bool} {r : Option (List Nat)} (G : Good n f gs) (h : ReadR b true n (f ++ txtOf n gs ++ [58]) [58, 32] r) : r = if outB b true n f gs = true then none else some (f ++ valOf gs ++ [58]) := by
  cases ho : outB b true n f gs with
  | true =>
    obtain ⟨q, O, h1, h2⟩ := out_ob G ho ([58] ++ [58, 32])
    rw [if_pos rfl]
    refine read_ob (q := q) (by rw [List.append_assoc]; exact O) h1 ?_ h
    rw [List.length_append (as := f ++ txtOf n gs)]
    omega
  | false =>
    rw [if_neg Bool.false_ne_true]
    obtain ⟨f1, f2⟩ := fst_of G.fst b
    have := read_main (eS := [58]) (B := [58, 58, 32]) (B' := [58, 32]) rfl ⟨by decide, by decide⟩ (stops_c b n) f1 f2 (in_ok G ho) (by rw [← List.append_assoc]; exact h)
    rw [← List.append_assoc] at this
    exact this
/-- .. and where it can't -/
theorem read_colon_no {b l : Bool} {B : List Nat} {r : Option (List Nat)} (G : Good n f gs) (hB : safeO b B.head? = false) (h : ReadR b l n (f ++ txtOf n gs ++ [58]) B r) : r = none := by
  have h4 := (fst_sg G.fst).2.2.2
  have hl : 1 ≤ f.length := by
    cases f with
    | nil => exact absurd rfl h4
    | cons _ _ => simp
  have et : 32 :: (f ++ txtOf n gs ++ [58] ++ B) = (32 :: (f ++ txtOf n gs)) ++ 58 :: B := by simp
  refine read_ob (q := (32 :: (f ++ txtOf n gs)).length) ?_ ?_ ?_ h
  · rw [et]
    exact ob_colon at_mid (by rw [at_midO]; exact hB)
  · simp
    omega
  · simp
    omega

/-! ### spoilt texts -/
def oddsL (n : Nat) : List (List Nat) := (if n = 0 then [[10, 45, 45, 45, 32], [10, 46, 46, 46, 10], [10, 35]] else [10 :: List.replicate (n - 1) 32, 10 :: 10 :: List.replicate (n - 1) 32]) ++
  [[32, 35], [58, 32], [9], [32, 9, 32], 58 :: 10 :: List.replicate n 32, 10 :: (List.replicate n 32 ++ [9])]
theorem mark_of {A R : List Nat} {x y : Nat} (hx : x = 45 ∨ x = 46) (hy : y = 32 ∨ y = 10) : mark ((A ++ [10]) ++ x :: x :: x :: y :: R) (A ++ [10]).length = true := by
  unfold mark begins
  rw [List.drop_left, last_at]
  have e3 : ((A ++ [10]) ++ x :: x :: x :: y :: R)[(A ++ [10]).length + 3]? = some y := by
    rw [List.getElem?_append_right (by omega), Nat.add_sub_cancel_left]
    rfl
  rw [e3]
  rcases hx with rfl | rfl <;> rcases hy with rfl | rfl <;> simp
theorem odd_ob {b l : Bool} {A R odd : List Nat} (h : odd ∈ oddsL n) : ∃ q, Obst b l n (A ++ (odd ++ 122 :: R)) q ∧ A.length ≤ q ∧ q ≤ A.length + odd.length := by
  unfold oddsL at h
  rcases List.mem_append.mp h with h | h
  · by_cases hn : n = 0
    · subst hn
      rw [if_pos rfl] at h
      simp only [List.mem_cons, List.not_mem_nil, or_false] at h
      rcases h with rfl | rfl | rfl
      · have e : A ++ ([10, 45, 45, 45, 32] ++ 122 :: R) = (A ++ [10]) ++ 45 :: 45 :: 45 :: 32 :: 122 :: R := by simp
        rw [e]
        exact ⟨_, ob_mark (x := 45) at_mid (mark_of (.inl rfl) (.inl rfl)) (by decide) (by decide), by simp, by simp⟩
      · have e : A ++ ([10, 46, 46, 46, 10] ++ 122 :: R) = (A ++ [10]) ++ 46 :: 46 :: 46 :: 10 :: 122 :: R := by simp
        rw [e]
        exact ⟨_, ob_mark (x := 46) at_mid (mark_of (.inr rfl) (.inr rfl)) (by decide) (by decide), by simp, by simp⟩
      · have e : A ++ ([10, 35] ++ 122 :: R) = (A ++ [10]) ++ 35 :: 122 :: R := by simp
        rw [e]
        exact ⟨_, ob_hash (y := 10) at_mid last_at (by decide), by simp, by simp⟩
    · rw [if_neg hn] at h
      simp only [List.mem_cons, List.not_mem_nil, or_false] at h
      rcases h with rfl | rfl
      · have e : A ++ (10 :: List.replicate (n - 1) 32 ++ 122 :: R) = (A ++ [10]) ++ (List.replicate (n - 1) 32 ++ 122 :: R) := by simp
        have e2 : A ++ (10 :: List.replicate (n - 1) 32 ++ 122 :: R) = (A ++ 10 :: List.replicate (n - 1) 32) ++ 122 :: R := by simp
        refine ⟨A.length + n, ob_under (p := A.length) (x := 122) ?_ (by decide) (by decide) ?_ (by omega) (by omega) (fun k h1 h2 => ?_), by omega, ?_⟩
        · rw [e2, show A.length + n = (A ++ 10 :: List.replicate (n - 1) 32).length by simp; omega]
          exact at_mid
        · exact at_mid
        · rw [e]
          exact at_rep (by rw [List.length_append, List.length_singleton]; omega) (by rw [List.length_append, List.length_singleton]; omega)
        · rw [List.length_cons, List.length_replicate]
          omega
      · have e : A ++ (10 :: 10 :: List.replicate (n - 1) 32 ++ 122 :: R) = (A ++ [10] ++ [10]) ++ (List.replicate (n - 1) 32 ++ 122 :: R) := by simp
        have e2 : A ++ (10 :: 10 :: List.replicate (n - 1) 32 ++ 122 :: R) = (A ++ 10 :: 10 :: List.replicate (n - 1) 32) ++ 122 :: R := by simp
        refine ⟨A.length + 1 + n, ob_under (p := A.length + 1) (x := 122) ?_ (by decide) (by decide) ?_ (by omega) (by omega) (fun k h1 h2 => ?_), by omega, ?_⟩
        · rw [e2, show A.length + 1 + n = (A ++ 10 :: 10 :: List.replicate (n - 1) 32).length by simp; omega]
          exact at_mid
        · exact at_mid1
        · rw [e]
          exact at_rep (by rw [List.length_append, List.length_append, List.length_singleton]; omega) (by rw [List.length_append, List.length_append, List.length_singleton]; omega)
        · rw [List.length_cons, List.length_cons, List.length_replicate]
          omega
  · simp only [List.mem_cons, List.not_mem_nil, or_false] at h
    rcases h with rfl | rfl | rfl | rfl | rfl | rfl
    · have e : A ++ ([32, 35] ++ 122 :: R) = (A ++ [32]) ++ 35 :: 122 :: R := by simp
      rw [e]
      exact ⟨_, ob_hash (y := 32) at_mid last_at (by decide), by simp, by simp⟩
    · refine ⟨A.length, ?_, Nat.le_refl _, by simp⟩
      show Obst b l n (A ++ 58 :: 32 :: 122 :: R) A.length
      exact ob_colon at_mid (by rw [at_mid1]; cases b <;> decide)
    · exact ⟨_, ob_unsafe (x := 9) at_mid (by cases b <;> decide) (by decide) (fun _ => by decide), Nat.le_refl _, by simp⟩
    · have e : A ++ ([32, 9, 32] ++ 122 :: R) = (A ++ [32]) ++ 9 :: 32 :: 122 :: R := by simp
      rw [e]
      exact ⟨_, ob_unsafe (x := 9) at_mid (by cases b <;> decide) (by decide) (fun _ => by decide), by simp, by simp⟩
    · refine ⟨A.length, ?_, Nat.le_refl _, by simp⟩
      show Obst b l n (A ++ 58 :: 10 :: (List.replicate n 32 ++ 122 :: R)) A.length
      exact ob_colon at_mid (by rw [at_mid1]; cases b <;> decide)
    · have e : A ++ (10 :: (List.replicate n 32 ++ [9]) ++ 122 :: R) = (A ++ 10 :: List.replicate n 32) ++ 9 :: 122 :: R := by simp
      rw [e]
      exact ⟨_, ob_unsafe (x := 9) at_mid (by cases b <;> decide) (by decide) (fun _ => by decide), by simp, by simp⟩
theorem read_spoilt {b l : Bool} {B pre post odd : List Nat} {r : Option (List Nat)} (hp : pre ≠ []) (h : odd ∈ oddsL n) (hr : ReadR b l n (pre ++ (odd ++ 122 :: post)) B r) : r = none := by
  have et : 32 :: (pre ++ (odd ++ 122 :: post) ++ B) = (32 :: pre) ++ (odd ++ 122 :: (post ++ B)) := by simp
  obtain ⟨q, O, h1, h2⟩ := odd_ob (b := b) (l := l) (n := n) (A := 32 :: pre) (R := post ++ B) h
  refine read_ob (q := q) (by rw [et]; exact O) ?_ ?_ hr
  · have : 1 ≤ pre.length := by
      cases pre with
      | nil => exact absurd rfl hp
      | cons _ _ => simp
    rw [List.length_cons] at h1
    omega
  · rw [List.length_cons] at h2
    rw [List.length_append, List.length_append, List.length_cons]
    omega
/-- the wrong first signs -/
theorem read_bad {b l : Bool} {B X : List Nat} {x : Nat} {r : Option (List Nat)} (hx : x = 32 ∨ x = 38 ∨ x = 44) (h : ReadR b l n (x :: X) B r) : r = none := by
  refine read_first h ?_
  unfold firstOk
  have e : (32 :: (x :: X ++ B))[1]? = some x := rfl
  rw [e]
  show (!mark (32 :: (x :: X ++ B)) 1 && (if maybeFirst x = true then safeO b (32 :: (x :: X ++ B))[1 + 1]? else safe b x && !notFirst x)) = false
  rcases hx with rfl | rfl | rfl
  · rw [if_neg (by decide)]
    cases b <;> simp [safe, isSg]
  · rw [if_neg (by decide)]
    simp [notFirst]
  · rw [if_neg (by decide)]
    simp [notFirst]
end
end Ap
/-! # part K0 -/
set_option maxHeartbeats 4000000
/-! The text by places, the facts that the head tells. -/
namespace Anp
open PySem PySem.Spec PyProof.Rows L2
def top (i : Nat) : Stmt := PySem.Challenge.pw_anchorpages_k29_whole_values_of_plain_te.main.body.getD i (.Pass ⟨0, 0, 0, 0⟩)
abbrev sSafe : Stmt := top 10
abbrev cSource : Stmt := top 11
abbrev sInit : Stmt := inClass cSource 0
abbrev sAt : Stmt := inClass cSource 1
abbrev sMiss : Stmt := inClass cSource 2
abbrev sBegin : Stmt := inClass cSource 3
abbrev sPast : Stmt := inClass cSource 5
abbrev sMark : Stmt := inClass cSource 7
abbrev sBarred : Stmt := inClass cSource 8
abbrev sIndented : Stmt := inClass cSource 10
abbrev sFirst : Stmt := top 16
abbrev sNext : Stmt := top 17
abbrev sRowEnd : Stmt := top 18
abbrev sFold : Stmt := top 19
abbrev sPlain : Stmt := top 20
abbrev sSign : Stmt := top 36
abbrev sText : Stmt := top 37
abbrev sFromTo : Stmt := top 38
abbrev sCkValue : Stmt := top 39
abbrev sCkPlace : Stmt := top 40
abbrev sCkNumbers : Stmt := top 41
abbrev sStands : Stmt := top 42
abbrev sIsFitting : Stmt := top 44
abbrev sFits : Stmt := top 45
abbrev sRead : Stmt := top 47
abbrev sDigit : Stmt := top 50
abbrev sOne : Stmt := top 51
abbrev sGap : Stmt := top 52
abbrev sPieces : Stmt := top 53
abbrev sSpoilt : Stmt := top 54
abbrev sLaw : Stmt := top 55
/-- a def of the module -/
def gd (x : Str) (st : Stmt) (dfl : List He.Dv := []) : He.DefD := ⟨(x, none), x, x, defArgs st, defBody st, defScope st, dfl, []⟩
/-- a method of Source -/
def md (x q : Str) (st : Stmt) (dfl : List He.Dv := []) : He.DefD := ⟨("Source", some x), x, q, defArgs st, defBody st, defScope st, dfl, []⟩
def wordsAt : PySem.W.Frag → Addr := He.dflAt ("Source", some "is_mark") 0
def fn : List He.DefD := [gd "is_safe" sSafe, md "__init__" "Source.__init__" sInit, md "at" "Source.at" sAt, md "miss" "Source.miss" sMiss, md "is_begin" "Source.is_begin" sBegin, md "past_blanks" "Source.past_blanks" sPast,
  md "is_mark" "Source.is_mark" sMark [.adr wordsAt], md "is_barred" "Source.is_barred" sBarred, md "indented" "Source.indented" sIndented,
  gd "is_first" sFirst, gd "is_next" sNext, gd "row_end" sRowEnd, gd "plain_fold" sFold, gd "plain" sPlain,
  gd "is_sign" sSign, gd "is_text" sText, gd "is_from_to" sFromTo, gd "check_value" sCkValue, gd "check_place" sCkPlace, gd "check_numbers" sCkNumbers,
  gd "stands_plain" sStands, gd "is_fitting" sIsFitting, gd "fits" sFits, gd "read_scalar" sRead [.int 1],
  gd "_law_digit" sDigit, gd "_law_one" sOne, gd "_law_gap" sGap, gd "_law_pieces" sPieces, gd "_law_spoilt" sSpoilt, gd "law" sLaw]
def fa1 : List He.Fa := [.glo "is_safe", .glo "Source", .glo "is_first", .glo "is_next", .glo "row_end", .glo "plain_fold", .glo "plain", .glo "is_sign", .glo "is_text", .glo "is_from_to", .glo "check_value", .glo "check_place", .glo "check_numbers",
  .glo "stands_plain", .glo "is_fitting", .glo "fits", .glo "read_scalar", .glo "_law_digit", .glo "_law_one", .glo "_law_gap", .glo "_law_pieces", .glo "_law_spoilt", .glo "law"]
def fa2 : List He.Fa := [.glo "IN_BRACKETS", .glo "ON_A_LINE", .glo "STYLES", .glo "LETTERS", .glo "BEHIND", .glo "QUOTES", .glo "HEADS", .glo "ONE_LINE",
  .str "BRACKETS" ",[]{}", .str "NOT_FIRST" ",[]{}#&*!|>'\"@`", .str "MAYBE_FIRST" "-?:", .int "MOST_SIGNS" 3000, .int "MOST_INDENT" 100, .int "MOST_WIDTH" 200,
  .free "len", .free "max", .free "min", .free "all", .free "isinstance", .free "int", .free "str", .free "bool", .free "range"]
def fa3 : List He.Fa := [.cls "Source", .noat "Source" "text", .noat "Source" "length", .noat "Source" "far", .mkr "Source", .meth "Source" "at", .meth "Source" "miss", .meth "Source" "is_begin", .meth "Source" "past_blanks", .meth "Source" "is_mark",
  .meth "Source" "is_barred", .meth "Source" "indented"]
def fa : List He.Fa := fa1 ++ (fa2 ++ fa3)
def ts : List He.Tab := [(fun K => He.ga K "LETTERS", ["block", "key", "flow", "pair"]), (fun K => He.ga K "BEHIND", ["block", "key", "flow", "pair"]), (fun K => He.ga K "QUOTES", ["plain", "single", "double"]), (fun K => He.ga K "HEADS", ["literal", "folded"])]
/-- a tuple of texts at an address of the written part -/
def tupAt (K : PySem.W.Frag) (a : Addr) (vs : List V) : Bool := match K.lookup a with
  | some ⟨.type c, _, .seq its _, _⟩ => decide (c = "tuple") && (decide (its.size ≤ sizeLine) && He.relAll vs its.toList)
  | _ => false
theorem tupAt_ok {K : PySem.W.Frag} {a : Addr} {vs : List V} (h : tupAt K a vs = true) (H : Hp) : SqT K H a vs := by
  unfold tupAt at h
  cases q : K.lookup a with
  | none =>
    rw [q] at h
    cases h
  | some o =>
    obtain ⟨oc, od, dt, osl⟩ := o
    rw [q] at h
    cases oc with
    | type c =>
      cases dt with
      | seq its n =>
        obtain ⟨h1, h2⟩ := He.ba (show (decide (c = "tuple") && (decide (its.size ≤ sizeLine) && He.relAll vs its.toList)) = true from h)
        obtain ⟨h3, h4⟩ := He.ba h2
        exact .inr ⟨_, its, n, q, congrArg Value.type (of_decide_eq_true h1), rfl, of_decide_eq_true h3, He.relAll_ok h4⟩
      | _ => cases h
    | _ => cases dt <;> cases h
def stylesV : List V := [.str "plain", .str "single", .str "double", .str "literal", .str "folded"]
def ex (K : PySem.W.Frag) : Bool :=
  (He.valsB K (He.ga K "LETTERS") [("block", .str "O"), ("key", .str "K"), ("flow", .str "I"), ("pair", .str "P")] && (He.valsB K (He.ga K "BEHIND") [("block", .str "\n"), ("key", .str ": "), ("flow", .str "]"), ("pair", .str ": ")] &&
  (He.valsB K (He.ga K "QUOTES") [("plain", .str "")] && He.eqO (PySem.W.nsIn K (He.ga K "HEADS") "plain") (some none)))) &&
  ((tupAt K (He.ga K "IN_BRACKETS") [.str "I", .str "P"] && (tupAt K (He.ga K "ON_A_LINE") [.str "K", .str "P"] && (tupAt K (He.ga K "STYLES") stylesV && tupAt K (He.ga K "ONE_LINE") [.str "key", .str "pair"]))) &&
  tupAt K (wordsAt K) [.str "---", .str "..."])
abbrev R : PySem.W.OpenRow := PySem.W.OpenLaw.row PySem.Challenge.rw_anchorpages_k29_whole_values_of_plain_te
abbrev hk : PySem.W.Hook := He.hookX 6 fa fn ts [] ex
def ob (s : PySem.W.SharedT) : He.AlX := He.obsX 6 fa fn ts [] ex (HandSHeadRun.getT s)
theorem ob_eq (s : PySem.W.SharedT) : ob s = hk.obs s.abs := He.obsX_eq (HandSHeadRun.getT_eq s)
def names1 : List PySem.Str := ["_wall", "PageError", "NoStyle", "Piece", "IN_BRACKETS", "ON_A_LINE", "BRACKETS", "is_safe", "Source", "NOT_FIRST", "MAYBE_FIRST", "ESCAPES", "is_first", "is_next", "row_end", "plain_fold", "plain", "quote_fold", "escaped", "folded_part", "quoted"]
def names2 : List PySem.Str := ["STYLES", "LETTERS", "BEHIND", "QUOTES", "HEADS", "ONE_LINE", "WHITE", "MOST_SIGNS", "MOST_INDENT", "MOST_WIDTH", "is_sign", "is_text", "is_from_to", "check_value", "check_place", "check_numbers", "stands_plain", "fits_single", "is_fitting", "fits", "block_value", "read_scalar",
  "_law_cell_at", "_law_digit", "_law_one", "_law_gap", "_law_pieces", "_law_spoilt"]
def names : List PySem.Str := names1 ++ names2
end Anp
/-! # part K2 -/
set_option maxHeartbeats 4000000
/-! Rules for texts as lists of codes. -/
namespace Anp
open PySem PySem.Spec PyProof.Rows L2 Ap
def S (t : List Nat) : Str := ⟨t.toArray⟩
theorem S_cps (t : List Nat) : (S t).cps.toList = t := rfl
theorem S_len (t : List Nat) : (S t).length = t.length := by
  show t.toArray.size = _
  exact List.size_toArray
theorem S_app (a b : List Nat) : S a ++ S b = S (a ++ b) := by
  show (⟨a.toArray ++ b.toArray⟩ : Str) = ⟨(a ++ b).toArray⟩
  rw [List.append_toArray]
theorem S_inj {a b : List Nat} (h : S a = S b) : a = b := congrArg (fun z : Str => z.cps.toList) h
theorem S_of (x : Str) : S x.cps.toList = x := rfl
theorem VS_inj {a b : List Nat} : (V.str (S a) = V.str (S b)) ↔ a = b := ⟨fun h => S_inj (V.str.inj h), fun h => by rw [h]⟩
abbrev VS (t : List Nat) : V := .str (S t)
section
variable {X : Cx} {j : Nat} {pos : Pos}
theorem pe_S {x : Str} {j pos} (t : List Nat) (h : x = S t) : PE X (.Constant (.str x) j pos) (tC (VS t)) := by
  subst h
  exact pe_str
theorem pe_never {e : Expr} : PE X e (fun _ _ _ => False) := ⟨fun _ _ _ _ _ _ h => h.elim⟩
def rEqS : R2 := fun x y H Q => ∃ a b, x = VS a ∧ y = VS b ∧ Q (.bl (decide (a = b))) H
def rNeS : R2 := fun x y H Q => ∃ a b, x = VS a ∧ y = VS b ∧ Q (.bl (!decide (a = b))) H
theorem op_eqS : OpR X (compareOp .Eq) rEqS := fun pins s σ H x y v u Q I rx ry ⟨a, b, hx, hy, q⟩ => op_eq pins s σ H x y v u Q I rx ry (by
  subst hx hy
  refine ⟨rfl, ?_⟩
  rw [show decide (VS a = VS b) = decide (a = b) from by rw [decide_eq_decide]; exact VS_inj]
  exact q)
theorem op_neS : OpR X (compareOp .NotEq) rNeS := fun pins s σ H x y v u Q I rx ry ⟨a, b, hx, hy, q⟩ => op_ne pins s σ H x y v u Q I rx ry (by
  subst hx hy
  refine ⟨rfl, ?_⟩
  rw [show decide (VS a = VS b) = decide (a = b) from by rw [decide_eq_decide]; exact VS_inj]
  exact q)
def rLeS : R2 := fun x y H Q => ∃ a b, x = VS a ∧ y = VS b ∧ Q (.bl (!decide (b < a))) H
theorem op_leS : OpR X (compareOp .LtE) rLeS := fun pins s σ H x y v u Q I rx ry ⟨a, b, hx, hy, q⟩ => op_le_str pins s σ H x y v u Q I rx ry ⟨S a, S b, hx, hy, q⟩
def rInS1 : R2 := fun x y H Q => ∃ (c : Nat) (z : List Nat), x = VS [c] ∧ y = VS z ∧ Q (.bl (z.contains c)) H
theorem dec_mem (c : Nat) (z : List Nat) : decide (c ∈ z) = z.contains c := by
  rw [Bool.eq_iff_iff]
  simp
theorem op_inS1 : OpR X (compareOp .In) rInS1 := fun pins s σ H x y v u Q I rx ry ⟨c, z, hx, hy, q⟩ => op_in_sign pins s σ H x y v u Q I rx ry ⟨c, S z, hx, hy, by rw [S_cps, dec_mem]; exact q⟩
def rAddS2 : R2 := fun x y H Q => ∃ a b, x = VS a ∧ y = VS b ∧ a.length + b.length ≤ 1000000 ∧ Q (VS (a ++ b)) H
theorem op_addS : OpR X (binaryOp .Add) rAddS2 := fun pins s σ H x y v u Q I rx ry ⟨a, b, hx, hy, hl, q⟩ => op_add_str pins s σ H x y v u Q I rx ry ⟨S a, S b, hx, hy, by
  rw [S_len, S_len]
  exact Nat.le_trans hl (by decide), by rw [S_app]; exact q⟩
theorem ip_addS : PIp X .Add rAddS2 := by
  intro pins s σ H x y v u Q I rx ry h
  obtain ⟨a, b, rfl, rfl, hl, q⟩ := h
  exact iop_add_str pins s σ H _ _ v u Q I rx ry ⟨S a, S b, rfl, rfl, by
    rw [S_len, S_len]
    exact Nat.le_trans hl (by decide), by rw [S_app]; exact q⟩
/-- a sign so many times -/
def rMulS : R2 := fun x y H Q => ∃ (c n : Nat), x = VS [c] ∧ y = .int n ∧ n ≤ 1000000 ∧ Q (VS (List.replicate n c)) H
theorem fold_one (c : Nat) : ∀ (n : Nat) (a : List Nat), (List.replicate n (#[c] : Array Nat)).foldl (· ++ ·) a.toArray = (a ++ List.replicate n c).toArray
  | 0, a => by simp
  | n + 1, a => by
    rw [List.replicate_succ, List.foldl_cons]
    have e : a.toArray ++ #[c] = (a ++ [c]).toArray := by simp
    rw [e, fold_one c n (a ++ [c]), List.append_assoc]
    rfl
theorem mul_S (c n : Nat) : Txt.mul (S [c]) (n : Int) = S (List.replicate n c) := by
  unfold Txt.mul
  cases n with
  | zero => rfl
  | succ n =>
    rw [if_neg (by omega)]
    by_cases h : n = 0
    · subst h
      rfl
    · rw [if_neg]
      · show (⟨(List.replicate (n + 1 : Nat) (#[c] : Array Nat)).foldl (· ++ ·) #[]⟩ : Str) = _
        have e := fold_one c (n + 1) []
        rw [show (#[] : Array Nat) = ([] : List Nat).toArray from rfl, e]
        rfl
      · have h1 : ((((n + 1 : Nat) : Int)) == 1) = false := by
          rw [beq_eq_false_iff_ne]
          omega
        rw [h1, S_len]
        simp
theorem op_mulS : OpR X (binaryOp .Mult) rMulS := by
  intro pins s σ H x y v u Q I rx ry h
  obtain ⟨c, n, rfl, rfl, hn, q⟩ := h
  obtain ⟨t, rfl⟩ := rx
  obtain ⟨t', rfl⟩ := ry
  refine SB.mul (mulOk_of 1 1000000 (by rw [S_len]; exact Nat.le_refl 1) (by omega) (by omega) (by decide) (by decide)) fun t2 k => ?_
  rw [mul_S]
  exact ⟨VS (List.replicate n c), H, I.tok k, ⟨_, rfl⟩, q⟩
/-- a text among texts -/
def rInT (K : PySem.W.Frag) (neg : Bool) : R2 := fun x y H Q => ∃ (a : List Nat) (p : Addr) (ws : List (List Nat)), x = VS a ∧ y = .ref p ∧ SqT K H p (ws.map VS) ∧ Q (.bl (if neg then !ws.contains a else ws.contains a)) H
theorem inV_S (a : List Nat) (ws : List (List Nat)) : inV (VS a) (ws.map VS) = ws.contains a := by
  induction ws with
  | nil => rfl
  | cons w ws ih =>
    rw [List.map_cons, List.contains_cons, ← ih]
    show (eqV (VS w) (VS a) || inV (VS a) (ws.map VS)) = _
    congr 1
    show (S w == S a) = (a == w)
    rw [Bool.eq_iff_iff, beq_iff_eq, beq_iff_eq]
    exact ⟨fun h => (S_inj h).symm, fun h => by rw [h]⟩
theorem flat_S (ws : List (List Nat)) : (ws.map VS).all flatV = true := by
  rw [List.all_eq_true]
  intro z hz
  obtain ⟨w, _, rfl⟩ := List.mem_map.mp hz
  rfl
theorem op_inT : OpR X (compareOp .In) (rInT X.K false) := fun pins s σ H x y v u Q I rx ry ⟨a, p, ws, hx, hy, ht, q⟩ => op_in_seq pins s σ H x y v u Q I rx ry ⟨p, ws.map VS, hy, .inr ht, by rw [hx]; rfl, flat_S ws, by rw [hx, inV_S]; exact q⟩
theorem op_ninT : OpR X (compareOp .NotIn) (rInT X.K true) := fun pins s σ H x y v u Q I rx ry ⟨a, p, ws, hx, hy, ht, q⟩ => op_notIn_seq pins s σ H x y v u Q I rx ry ⟨p, ws.map VS, hy, .inr ht, by rw [hx]; rfl, flat_S ws, by rw [hx, inV_S]; exact q⟩
/-! ### slices -/
def cutL (t : List Nat) (lo hi : Option Int) : List Nat := (t.drop (HT.sIx t.length 0 lo)).take (HT.sIx t.length t.length hi - HT.sIx t.length 0 lo)
def rSlL2 : V → Option Int → Option Int → Hp → VK → Prop := fun x lo hi H Q => ∃ t, x = VS t ∧ t.length ≤ 1000000 ∧ Q (VS (cutL t lo hi)) H
theorem sl_S : SlR X rSlL2 := fun pins s σ H x v vl vu lo hi sl Q I rx hs pl pu ⟨t, hx, hl, q⟩ => sl_str pins s σ H x v vl vu lo hi sl Q I rx hs pl pu ⟨S t, hx, by
  rw [S_len]
  exact Nat.le_trans hl (by decide), by
  have e : cutS (S t) lo hi = S (cutL t lo hi) := by
    unfold cutS cutL
    rw [S_len, S_cps]
    rfl
  rw [e]
  exact q⟩
theorem cut_nat (t : List Nat) (i j : Nat) : cutL t (some (i : Int)) (some (j : Int)) = (t.take j).drop i := by
  unfold cutL
  rw [HT.sIx_nat, HT.sIx_nat, List.drop_take]
  by_cases h : i ≤ t.length
  · rw [Nat.min_eq_left (a := i) h]
    by_cases h2 : j ≤ t.length
    · rw [Nat.min_eq_left h2]
    · rw [Nat.min_eq_right (a := j) (by omega), List.take_of_length_le (by rw [List.length_drop]; omega), List.take_of_length_le (by rw [List.length_drop]; omega)]
  · rw [Nat.min_eq_right (a := i) (by omega), List.drop_eq_nil_of_le (i := t.length) (Nat.le_refl _), List.drop_eq_nil_of_le (i := i) (by omega)]
    simp
theorem cut_to (t : List Nat) (j : Nat) : cutL t none (some (j : Int)) = t.take j := by
  have e : cutL t none (some (j : Int)) = cutL t (some ((0 : Nat) : Int)) (some (j : Int)) := by
    have e0 : HT.sIx t.length 0 (some ((0 : Nat) : Int)) = 0 := by
      rw [HT.sIx_nat]
      exact Nat.zero_min _
    unfold cutL
    rw [e0, HT.sIx_none]
  rw [e, cut_nat, List.drop_zero]
/-- the sign at a place, or nothing -/
def sg (t : List Nat) (i : Nat) : List Nat := (t.take (i + 1)).drop i
theorem sg_some {t : List Nat} {i x : Nat} (h : t[i]? = some x) : sg t i = [x] := by
  unfold sg
  rw [List.drop_take, Nat.add_sub_cancel_left]
  have h : (t.drop i)[0]? = some x := by
    rw [List.getElem?_drop, Nat.add_zero]
    exact h
  cases e : t.drop i with
  | nil =>
    rw [e] at h
    cases h
  | cons y r =>
    rw [e] at h
    rw [show y = x from Option.some.inj h]
    rfl
theorem sg_none {t : List Nat} {i : Nat} (h : t[i]? = none) : sg t i = [] := by
  unfold sg
  have := List.getElem?_eq_none_iff.mp h
  rw [List.drop_take, List.drop_eq_nil_of_le this, List.take_nil]
theorem sg_eq (t : List Nat) (i : Nat) : sg t i = t[i]?.toList := by
  cases h : t[i]? with
  | none => rw [sg_none h]; rfl
  | some x => rw [sg_some h]; rfl
theorem sg_is (t : List Nat) (i x : Nat) : decide (sg t i = [x]) = decide (t[i]? = some x) := by
  rw [sg_eq]
  cases t[i]? <;> simp
/-- an item of a text -/
def rIxS2 : R2 := fun x y H Q => ∃ (t : List Nat) (i c : Nat), x = VS t ∧ y = .int i ∧ t.length ≤ 1000000 ∧ t[i]? = some c ∧ Q (VS [c]) H
theorem ix_S : IxR X rIxS2 := fun value slice pins s σ H x y v u Q I rx ry ⟨t, i, c, hx, hy, hl, hi, q⟩ hs => ix_str value slice pins s σ H x y v u Q I rx ry ⟨S t, (i : Int), c, hx, hy, by
  rw [S_len]
  exact Nat.le_trans hl (by decide), atI_nat hi, q⟩ hs
end
end Anp
/-! # part K3 -/
set_option maxHeartbeats 4000000
/-! The facts of the top by name; what a def is, for its callers. -/
namespace Anp
open PySem PySem.Spec PyProof.Rows L2 Ap
abbrev cS (K : PySem.W.Frag) : Addr := He.ga K "Source"
/-- what the top has left -/
structure Tx (w : World) (K : PySem.W.Frag) (mg : Str → Option Value) : Prop where
  heap : ∃ h : Heap, K.In h ∧ h.Ns mainGlobals mg
  d : He.SaysD fa fn K
  tabs : ∀ (i : Nat) (t : He.Tab), ts[i]? = some t → ∃ es n, KDict K w (t.1 K) es n
  more : ex K = true
section
variable {w : World} {K : PySem.W.Frag} {mg : Str → Option Value}
theorem Tx.glo (T : Tx w K mg) (i : Nat) {x : Str} (h : fa[i]? = some (.glo x) := by rfl) : mg x = some (.ref (He.ga K x)) := by
  obtain ⟨h', X, G⟩ := T.heap
  exact He.glo_ok X G (T.d.fact i h)
theorem Tx.free (T : Tx w K mg) (i : Nat) {x : Str} (h : fa[i]? = some (.free x) := by rfl) : mg x = none := by
  obtain ⟨h', X, G⟩ := T.heap
  exact He.free_ok X G (T.d.fact i h)
theorem Tx.str (T : Tx w K mg) (i : Nat) {x z : Str} (h : fa[i]? = some (.str x z) := by rfl) : ∃ t, mg x = some (.str z t) := by
  obtain ⟨h', X, G⟩ := T.heap
  exact He.str_ok X G (T.d.fact i h)
theorem Tx.int (T : Tx w K mg) (i : Nat) {x : Str} {z : Int} (h : fa[i]? = some (.int x z) := by rfl) : ∃ t, mg x = some (.int z t) := by
  obtain ⟨h', X, G⟩ := T.heap
  exact He.int_ok X G (T.d.fact i h)
theorem Tx.cls (T : Tx w K mg) (i : Nat) {x : Str} (h : fa[i]? = some (.cls x) := by rfl) : Cls K (He.ga K x) := He.cls_ok (T.d.fact i h)
theorem Tx.noat (T : Tx w K mg) (i : Nat) {x f : Str} (h : fa[i]? = some (.noat x f) := by rfl) : NoAttr K (He.ga K x) f := He.noat_ok (T.d.fact i h)
theorem Tx.mkr (T : Tx w K mg) (i : Nat) {x : Str} (h : fa[i]? = some (.mkr x) := by rfl) : Mk K (He.ga K x) (He.ma K (He.ga K x) "__init__") := He.mkr_ok (T.d.fact i h)
theorem Tx.meth (T : Tx w K mg) (i : Nat) {x m : Str} (h : fa[i]? = some (.meth x m) := by rfl) : Meth K (He.ga K x) m (He.ma K (He.ga K x) m) := He.meth_ok (T.d.fact i h)
theorem Tx.def_ (T : Tx w K mg) (i : Nat) {d : He.DefD} (h : fn[i]? = some d := by rfl) : ∃ fd, FunD K d.name d.qual d.params d.body d.scope (d.dvs K) (d.kws K) (He.fAd K d.at_) fd := T.d.def_ i h
theorem Tx.g_is_safe (T : Tx w K mg) : mg "is_safe" = some (.ref (He.ga K "is_safe")) := T.glo 0
theorem Tx.g_Source (T : Tx w K mg) : mg "Source" = some (.ref (He.ga K "Source")) := T.glo 1
theorem Tx.g_is_first (T : Tx w K mg) : mg "is_first" = some (.ref (He.ga K "is_first")) := T.glo 2
theorem Tx.g_is_next (T : Tx w K mg) : mg "is_next" = some (.ref (He.ga K "is_next")) := T.glo 3
theorem Tx.g_row_end (T : Tx w K mg) : mg "row_end" = some (.ref (He.ga K "row_end")) := T.glo 4
theorem Tx.g_plain_fold (T : Tx w K mg) : mg "plain_fold" = some (.ref (He.ga K "plain_fold")) := T.glo 5
theorem Tx.g_plain (T : Tx w K mg) : mg "plain" = some (.ref (He.ga K "plain")) := T.glo 6
theorem Tx.g_is_sign (T : Tx w K mg) : mg "is_sign" = some (.ref (He.ga K "is_sign")) := T.glo 7
theorem Tx.g_is_text (T : Tx w K mg) : mg "is_text" = some (.ref (He.ga K "is_text")) := T.glo 8
theorem Tx.g_is_from_to (T : Tx w K mg) : mg "is_from_to" = some (.ref (He.ga K "is_from_to")) := T.glo 9
theorem Tx.g_check_value (T : Tx w K mg) : mg "check_value" = some (.ref (He.ga K "check_value")) := T.glo 10
theorem Tx.g_check_place (T : Tx w K mg) : mg "check_place" = some (.ref (He.ga K "check_place")) := T.glo 11
theorem Tx.g_check_numbers (T : Tx w K mg) : mg "check_numbers" = some (.ref (He.ga K "check_numbers")) := T.glo 12
theorem Tx.g_stands_plain (T : Tx w K mg) : mg "stands_plain" = some (.ref (He.ga K "stands_plain")) := T.glo 13
theorem Tx.g_is_fitting (T : Tx w K mg) : mg "is_fitting" = some (.ref (He.ga K "is_fitting")) := T.glo 14
theorem Tx.g_fits (T : Tx w K mg) : mg "fits" = some (.ref (He.ga K "fits")) := T.glo 15
theorem Tx.g_read_scalar (T : Tx w K mg) : mg "read_scalar" = some (.ref (He.ga K "read_scalar")) := T.glo 16
theorem Tx.g__law_digit (T : Tx w K mg) : mg "_law_digit" = some (.ref (He.ga K "_law_digit")) := T.glo 17
theorem Tx.g__law_one (T : Tx w K mg) : mg "_law_one" = some (.ref (He.ga K "_law_one")) := T.glo 18
theorem Tx.g__law_gap (T : Tx w K mg) : mg "_law_gap" = some (.ref (He.ga K "_law_gap")) := T.glo 19
theorem Tx.g__law_pieces (T : Tx w K mg) : mg "_law_pieces" = some (.ref (He.ga K "_law_pieces")) := T.glo 20
theorem Tx.g__law_spoilt (T : Tx w K mg) : mg "_law_spoilt" = some (.ref (He.ga K "_law_spoilt")) := T.glo 21
theorem Tx.g_law (T : Tx w K mg) : mg "law" = some (.ref (He.ga K "law")) := T.glo 22
theorem Tx.g_IN_BRACKETS (T : Tx w K mg) : mg "IN_BRACKETS" = some (.ref (He.ga K "IN_BRACKETS")) := T.glo 23
theorem Tx.g_ON_A_LINE (T : Tx w K mg) : mg "ON_A_LINE" = some (.ref (He.ga K "ON_A_LINE")) := T.glo 24
theorem Tx.g_STYLES (T : Tx w K mg) : mg "STYLES" = some (.ref (He.ga K "STYLES")) := T.glo 25
theorem Tx.g_LETTERS (T : Tx w K mg) : mg "LETTERS" = some (.ref (He.ga K "LETTERS")) := T.glo 26
theorem Tx.g_BEHIND (T : Tx w K mg) : mg "BEHIND" = some (.ref (He.ga K "BEHIND")) := T.glo 27
theorem Tx.g_QUOTES (T : Tx w K mg) : mg "QUOTES" = some (.ref (He.ga K "QUOTES")) := T.glo 28
theorem Tx.g_HEADS (T : Tx w K mg) : mg "HEADS" = some (.ref (He.ga K "HEADS")) := T.glo 29
theorem Tx.g_ONE_LINE (T : Tx w K mg) : mg "ONE_LINE" = some (.ref (He.ga K "ONE_LINE")) := T.glo 30
theorem Tx.s_BRACKETS (T : Tx w K mg) : ∃ t, mg "BRACKETS" = some (.str ",[]{}" t) := T.str 31
theorem Tx.s_NOT_FIRST (T : Tx w K mg) : ∃ t, mg "NOT_FIRST" = some (.str ",[]{}#&*!|>'\"@`" t) := T.str 32
theorem Tx.s_MAYBE_FIRST (T : Tx w K mg) : ∃ t, mg "MAYBE_FIRST" = some (.str "-?:" t) := T.str 33
theorem Tx.i_MOST_SIGNS (T : Tx w K mg) : ∃ t, mg "MOST_SIGNS" = some (.int 3000 t) := T.int 34
theorem Tx.i_MOST_INDENT (T : Tx w K mg) : ∃ t, mg "MOST_INDENT" = some (.int 100 t) := T.int 35
theorem Tx.i_MOST_WIDTH (T : Tx w K mg) : ∃ t, mg "MOST_WIDTH" = some (.int 200 t) := T.int 36
theorem Tx.n_len (T : Tx w K mg) : mg "len" = none := T.free 37
theorem Tx.n_max (T : Tx w K mg) : mg "max" = none := T.free 38
theorem Tx.n_min (T : Tx w K mg) : mg "min" = none := T.free 39
theorem Tx.n_all (T : Tx w K mg) : mg "all" = none := T.free 40
theorem Tx.n_isinstance (T : Tx w K mg) : mg "isinstance" = none := T.free 41
theorem Tx.n_int (T : Tx w K mg) : mg "int" = none := T.free 42
theorem Tx.n_str (T : Tx w K mg) : mg "str" = none := T.free 43
theorem Tx.n_bool (T : Tx w K mg) : mg "bool" = none := T.free 44
theorem Tx.n_range (T : Tx w K mg) : mg "range" = none := T.free 45
theorem Tx.cl (T : Tx w K mg) : Cls K (cS K) := T.cls 46
theorem Tx.no_text (T : Tx w K mg) : NoAttr K (cS K) "text" := T.noat 47
theorem Tx.no_length (T : Tx w K mg) : NoAttr K (cS K) "length" := T.noat 48
theorem Tx.no_far (T : Tx w K mg) : NoAttr K (cS K) "far" := T.noat 49
theorem Tx.mkS (T : Tx w K mg) : Mk K (cS K) (He.ma K (cS K) "__init__") := T.mkr 50
theorem Tx.m_at (T : Tx w K mg) : Meth K (cS K) "at" (He.ma K (cS K) "at") := T.meth 51
theorem Tx.m_miss (T : Tx w K mg) : Meth K (cS K) "miss" (He.ma K (cS K) "miss") := T.meth 52
theorem Tx.m_is_begin (T : Tx w K mg) : Meth K (cS K) "is_begin" (He.ma K (cS K) "is_begin") := T.meth 53
theorem Tx.m_past_blanks (T : Tx w K mg) : Meth K (cS K) "past_blanks" (He.ma K (cS K) "past_blanks") := T.meth 54
theorem Tx.m_is_mark (T : Tx w K mg) : Meth K (cS K) "is_mark" (He.ma K (cS K) "is_mark") := T.meth 55
theorem Tx.m_is_barred (T : Tx w K mg) : Meth K (cS K) "is_barred" (He.ma K (cS K) "is_barred") := T.meth 56
theorem Tx.m_indented (T : Tx w K mg) : Meth K (cS K) "indented" (He.ma K (cS K) "indented") := T.meth 57
theorem Tx.f_is_safe (T : Tx w K mg) : ∃ fd, FunD K "is_safe" "is_safe" (defArgs sSafe) (defBody sSafe) (defScope sSafe) [] [] (He.ga K "is_safe") fd := T.def_ 0
theorem Tx.f_init (T : Tx w K mg) : ∃ fd, FunD K "__init__" "Source.__init__" (defArgs sInit) (defBody sInit) (defScope sInit) [] [] (He.ma K (cS K) "__init__") fd := T.def_ 1
theorem Tx.f_at (T : Tx w K mg) : ∃ fd, FunD K "at" "Source.at" (defArgs sAt) (defBody sAt) (defScope sAt) [] [] (He.ma K (cS K) "at") fd := T.def_ 2
theorem Tx.f_miss (T : Tx w K mg) : ∃ fd, FunD K "miss" "Source.miss" (defArgs sMiss) (defBody sMiss) (defScope sMiss) [] [] (He.ma K (cS K) "miss") fd := T.def_ 3
theorem Tx.f_is_begin (T : Tx w K mg) : ∃ fd, FunD K "is_begin" "Source.is_begin" (defArgs sBegin) (defBody sBegin) (defScope sBegin) [] [] (He.ma K (cS K) "is_begin") fd := T.def_ 4
theorem Tx.f_past_blanks (T : Tx w K mg) : ∃ fd, FunD K "past_blanks" "Source.past_blanks" (defArgs sPast) (defBody sPast) (defScope sPast) [] [] (He.ma K (cS K) "past_blanks") fd := T.def_ 5
theorem Tx.f_is_mark (T : Tx w K mg) : ∃ fd, FunD K "is_mark" "Source.is_mark" (defArgs sMark) (defBody sMark) (defScope sMark) [.ref (wordsAt K)] [] (He.ma K (cS K) "is_mark") fd := T.def_ 6
theorem Tx.f_is_barred (T : Tx w K mg) : ∃ fd, FunD K "is_barred" "Source.is_barred" (defArgs sBarred) (defBody sBarred) (defScope sBarred) [] [] (He.ma K (cS K) "is_barred") fd := T.def_ 7
theorem Tx.f_indented (T : Tx w K mg) : ∃ fd, FunD K "indented" "Source.indented" (defArgs sIndented) (defBody sIndented) (defScope sIndented) [] [] (He.ma K (cS K) "indented") fd := T.def_ 8
theorem Tx.f_is_first (T : Tx w K mg) : ∃ fd, FunD K "is_first" "is_first" (defArgs sFirst) (defBody sFirst) (defScope sFirst) [] [] (He.ga K "is_first") fd := T.def_ 9
theorem Tx.f_is_next (T : Tx w K mg) : ∃ fd, FunD K "is_next" "is_next" (defArgs sNext) (defBody sNext) (defScope sNext) [] [] (He.ga K "is_next") fd := T.def_ 10
theorem Tx.f_row_end (T : Tx w K mg) : ∃ fd, FunD K "row_end" "row_end" (defArgs sRowEnd) (defBody sRowEnd) (defScope sRowEnd) [] [] (He.ga K "row_end") fd := T.def_ 11
theorem Tx.f_plain_fold (T : Tx w K mg) : ∃ fd, FunD K "plain_fold" "plain_fold" (defArgs sFold) (defBody sFold) (defScope sFold) [] [] (He.ga K "plain_fold") fd := T.def_ 12
theorem Tx.f_plain (T : Tx w K mg) : ∃ fd, FunD K "plain" "plain" (defArgs sPlain) (defBody sPlain) (defScope sPlain) [] [] (He.ga K "plain") fd := T.def_ 13
theorem Tx.f_is_sign (T : Tx w K mg) : ∃ fd, FunD K "is_sign" "is_sign" (defArgs sSign) (defBody sSign) (defScope sSign) [] [] (He.ga K "is_sign") fd := T.def_ 14
theorem Tx.f_is_text (T : Tx w K mg) : ∃ fd, FunD K "is_text" "is_text" (defArgs sText) (defBody sText) (defScope sText) [] [] (He.ga K "is_text") fd := T.def_ 15
theorem Tx.f_is_from_to (T : Tx w K mg) : ∃ fd, FunD K "is_from_to" "is_from_to" (defArgs sFromTo) (defBody sFromTo) (defScope sFromTo) [] [] (He.ga K "is_from_to") fd := T.def_ 16
theorem Tx.f_check_value (T : Tx w K mg) : ∃ fd, FunD K "check_value" "check_value" (defArgs sCkValue) (defBody sCkValue) (defScope sCkValue) [] [] (He.ga K "check_value") fd := T.def_ 17
theorem Tx.f_check_place (T : Tx w K mg) : ∃ fd, FunD K "check_place" "check_place" (defArgs sCkPlace) (defBody sCkPlace) (defScope sCkPlace) [] [] (He.ga K "check_place") fd := T.def_ 18
theorem Tx.f_check_numbers (T : Tx w K mg) : ∃ fd, FunD K "check_numbers" "check_numbers" (defArgs sCkNumbers) (defBody sCkNumbers) (defScope sCkNumbers) [] [] (He.ga K "check_numbers") fd := T.def_ 19
theorem Tx.f_stands_plain (T : Tx w K mg) : ∃ fd, FunD K "stands_plain" "stands_plain" (defArgs sStands) (defBody sStands) (defScope sStands) [] [] (He.ga K "stands_plain") fd := T.def_ 20
theorem Tx.f_is_fitting (T : Tx w K mg) : ∃ fd, FunD K "is_fitting" "is_fitting" (defArgs sIsFitting) (defBody sIsFitting) (defScope sIsFitting) [] [] (He.ga K "is_fitting") fd := T.def_ 21
theorem Tx.f_fits (T : Tx w K mg) : ∃ fd, FunD K "fits" "fits" (defArgs sFits) (defBody sFits) (defScope sFits) [] [] (He.ga K "fits") fd := T.def_ 22
theorem Tx.f_read_scalar (T : Tx w K mg) : ∃ fd, FunD K "read_scalar" "read_scalar" (defArgs sRead) (defBody sRead) (defScope sRead) [.int 1] [] (He.ga K "read_scalar") fd := T.def_ 23
theorem Tx.f_law_digit (T : Tx w K mg) : ∃ fd, FunD K "_law_digit" "_law_digit" (defArgs sDigit) (defBody sDigit) (defScope sDigit) [] [] (He.ga K "_law_digit") fd := T.def_ 24
theorem Tx.f_law_one (T : Tx w K mg) : ∃ fd, FunD K "_law_one" "_law_one" (defArgs sOne) (defBody sOne) (defScope sOne) [] [] (He.ga K "_law_one") fd := T.def_ 25
theorem Tx.f_law_gap (T : Tx w K mg) : ∃ fd, FunD K "_law_gap" "_law_gap" (defArgs sGap) (defBody sGap) (defScope sGap) [] [] (He.ga K "_law_gap") fd := T.def_ 26
theorem Tx.f_law_pieces (T : Tx w K mg) : ∃ fd, FunD K "_law_pieces" "_law_pieces" (defArgs sPieces) (defBody sPieces) (defScope sPieces) [] [] (He.ga K "_law_pieces") fd := T.def_ 27
theorem Tx.f_law_spoilt (T : Tx w K mg) : ∃ fd, FunD K "_law_spoilt" "_law_spoilt" (defArgs sSpoilt) (defBody sSpoilt) (defScope sSpoilt) [] [] (He.ga K "_law_spoilt") fd := T.def_ 28
theorem Tx.f_law (T : Tx w K mg) : ∃ fd, FunD K "law" "law" (defArgs sLaw) (defBody sLaw) (defScope sLaw) [] [] (He.ga K "law") fd := T.def_ 29
theorem Tx.parts (T : Tx w K mg) : ((He.valsB K (He.ga K "LETTERS") [("block", .str "O"), ("key", .str "K"), ("flow", .str "I"), ("pair", .str "P")] = true ∧ He.valsB K (He.ga K "BEHIND") [("block", .str "\n"), ("key", .str ": "), ("flow", .str "]"), ("pair", .str ": ")] = true) ∧
    He.valsB K (He.ga K "QUOTES") [("plain", .str "")] = true ∧ He.eqO (PySem.W.nsIn K (He.ga K "HEADS") "plain") (some none) = true) ∧
    (tupAt K (He.ga K "IN_BRACKETS") [.str "I", .str "P"] = true ∧ tupAt K (He.ga K "ON_A_LINE") [.str "K", .str "P"] = true ∧ tupAt K (He.ga K "STYLES") stylesV = true ∧ tupAt K (He.ga K "ONE_LINE") [.str "key", .str "pair"] = true) ∧
    tupAt K (wordsAt K) [.str "---", .str "..."] = true := by
  have h := T.more
  unfold ex at h
  obtain ⟨h1, h2⟩ := He.ba h
  obtain ⟨h3, h4⟩ := He.ba h1
  obtain ⟨h5, h6⟩ := He.ba h4
  obtain ⟨h7, h8⟩ := He.ba h6
  obtain ⟨h9, h10⟩ := He.ba h2
  obtain ⟨h11, h12⟩ := He.ba h9
  obtain ⟨h13, h14⟩ := He.ba h12
  obtain ⟨h15, h16⟩ := He.ba h14
  exact ⟨⟨⟨h3, h5⟩, h7, h8⟩, ⟨h11, h13, h15, h16⟩, h10⟩
theorem Tx.inBr (T : Tx w K mg) (H : Hp) : SqT K H (He.ga K "IN_BRACKETS") ([[73], [80]].map VS) := tupAt_ok (vs := [.str "I", .str "P"]) T.parts.2.1.1 H
theorem Tx.onLine (T : Tx w K mg) (H : Hp) : SqT K H (He.ga K "ON_A_LINE") ([[75], [80]].map VS) := tupAt_ok (vs := [.str "K", .str "P"]) T.parts.2.1.2.1 H
def stylesL : List (List Nat) := [[112, 108, 97, 105, 110], [115, 105, 110, 103, 108, 101], [100, 111, 117, 98, 108, 101], [108, 105, 116, 101, 114, 97, 108], [102, 111, 108, 100, 101, 100]]
theorem styles_eq : stylesV = stylesL.map VS := by decide +kernel
theorem Tx.styles (T : Tx w K mg) (H : Hp) : SqT K H (He.ga K "STYLES") (stylesL.map VS) := by
  rw [← styles_eq]
  exact tupAt_ok T.parts.2.1.2.2.1 H
theorem one_eq : ([.str "key", .str "pair"] : List V) = [[107, 101, 121], [112, 97, 105, 114]].map VS := by decide +kernel
theorem Tx.oneLine (T : Tx w K mg) (H : Hp) : SqT K H (He.ga K "ONE_LINE") ([[107, 101, 121], [112, 97, 105, 114]].map VS) := by
  rw [← one_eq]
  exact tupAt_ok T.parts.2.1.2.2.2 H
theorem words_eq : ([.str "---", .str "..."] : List V) = [[45, 45, 45], [46, 46, 46]].map VS := by decide +kernel
theorem Tx.words (T : Tx w K mg) (H : Hp) : SqT K H (wordsAt K) ([[45, 45, 45], [46, 46, 46]].map VS) := by
  rw [← words_eq]
  exact tupAt_ok T.parts.2.2 H
/-- a text of the module by its codes -/
theorem strS {x z : Str} (t : List Nat) (h : ∃ k, mg x = some (.str z k)) (e : z = S t) : ∃ u, mg x = some u ∧ RelV (VS t) u := by
  obtain ⟨k, h⟩ := h
  exact ⟨_, h, k, by rw [e]⟩
theorem Tx.brackets (T : Tx w K mg) : ∃ u, mg "BRACKETS" = some u ∧ RelV (VS [44, 91, 93, 123, 125]) u := strS _ T.s_BRACKETS (by decide +kernel)
def notFirstL : List Nat := [44, 91, 93, 123, 125, 35, 38, 42, 33, 124, 62, 39, 34, 64, 96]
theorem Tx.notFirst (T : Tx w K mg) : ∃ u, mg "NOT_FIRST" = some u ∧ RelV (VS notFirstL) u := strS _ T.s_NOT_FIRST (by decide +kernel)
theorem Tx.maybeFirst (T : Tx w K mg) : ∃ u, mg "MAYBE_FIRST" = some u ∧ RelV (VS [45, 63, 58]) u := strS _ T.s_MAYBE_FIRST (by decide +kernel)
theorem Tx.tab (T : Tx w K mg) (i : Nat) {t : He.Tab} (h : ts[i]? = some t := by rfl) : ∃ es n, KDict K w (t.1 K) es n := T.tabs i t h
end

/-! ### contexts -/
inductive Ct where
  | O | K | I | P
  deriving DecidableEq
/-- in brackets -/
def Ct.b : Ct → Bool
  | .O => false | .K => false | .I => true | .P => true
/-- on a line -/
def Ct.l : Ct → Bool
  | .O => false | .K => true | .I => false | .P => true
def Ct.lt : Ct → List Nat
  | .O => [79] | .K => [75] | .I => [73] | .P => [80]
def Ct.nm : Ct → List Nat
  | .O => [98, 108, 111, 99, 107] | .K => [107, 101, 121] | .I => [102, 108, 111, 119] | .P => [112, 97, 105, 114]
def Ct.beh : Ct → List Nat
  | .O => [10] | .K => [58, 32] | .I => [93] | .P => [58, 32]

/-! ### a def for its callers -/
structure Dn (P : Program) (w : World) (K : PySem.W.Frag) (mg : Str → Option Value) (base : Heap) (k : Nat) (f : Addr) (ps : List Str) (dvs : List V) (sp : Sp) : Prop where
  ex : ∃ fd ds, FnOk P w K mg base CX0 k f fd ps sp ∧ Binds K fd ps ds ∧ Vals dvs ds ∧ PySem.W.keepIn K (.ref f) = true
section
variable {X : Cx} {k j : Nat} {f C : Addr} {ps : List Str} {dvs : List V} {sp : Sp} {x m : Str} {p pos apos : Pos} {e o : Expr} {es : List Expr} {ta : TE} {t : TA}
theorem pe_dn (D : Dn X.prog X.w X.K X.mg X.base k f ps dvs sp) (hr : Room j X.A) (hk : k ≤ j) (hm : X.mg x = some (.ref f)) (hg : Gl X x) (ha : PA X (e :: es) t) (hdb : (x == ("__debug__" : Str)) = false := by decide)
    (he : starEach (e :: es) X.env = (false, eval e X.env) :: starEach es X.env := by rfl) (hpl : (backTo pos (starEach es X.env)).any (·.1) = false := by rfl) :
    PE X (.Call (.Name x p) (e :: es) [] pos) (tCall sp dvs E0 t) := by
  obtain ⟨fd, ds, G, b, v, kp⟩ := D.ex
  exact pe_call G (hr.mono hk) hg hm kp b v pass0 ha hdb he hpl
theorem pe_mt {pl : Sem Bool} (D : Dn X.prog X.w X.K X.mg X.base k f ps dvs sp) (hr : Room j X.A) (hk : k ≤ j) (c : Cls X.K C) (hm : Meth X.K C m f) (ho : PE X o ta) (ha : PA X (e :: es) t)
    (hst : starEach (e :: es) X.env = (false, eval e X.env) :: starEach es X.env := by rfl) (hpl : (backTo pos (starEach es X.env)).any (·.1) = false := by rfl)
    (ht : eval (.Call (.Attribute o m apos) (e :: es) [] pos) X.env = (do
      let ov ← eval o X.env
      standAt apos.atName
      let (f, first) ← holding [ov] (getMethod ov m pl)
      callWith pos f first (backTo pos (starEach (e :: es) X.env)) (backToKw pos (keywordEach [] X.env))) := by rfl) :
    PE X (.Call (.Attribute o m apos) (e :: es) [] pos) (tMeth C m sp dvs E0 ta t) := by
  obtain ⟨fd, ds, G, b, v, kp⟩ := D.ex
  exact pe_meth ho c hm G (hr.mono hk) b v pass0 ha hst hpl ht
theorem pe_gl {x : Str} {a : Addr} (hm : X.mg x = some (.ref a)) (hg : Gl X x) (hd : (x == ("__debug__" : Str)) = false := by decide) : PE X (.Name x pos) (tC (.ref a)) := pe_glob hg hm rfl hd
theorem pe_gv {x : Str} {v : V} (hm : ∃ u, X.mg x = some u ∧ RelV v u) (hg : Gl X x) (hd : (x == ("__debug__" : Str)) = false := by decide) : PE X (.Name x pos) (tC v) := by
  obtain ⟨u, h1, h2⟩ := hm
  exact pe_glob hg h1 h2 hd
end
end Anp
/-! # part K4 -/
set_option maxHeartbeats 4000000
/-! is_safe; Source and its methods. -/
namespace Anp
open PySem PySem.Spec PyProof.Rows L2 Ap
theorem lt_sg (x c : Nat) : (!decide ([x] < [c])) = decide (c ≤ x) := by
  rw [Bool.eq_iff_iff]
  simp [List.cons_le_cons_iff]
  omega
theorem lt_nil (c : Nat) : (!decide (([] : List Nat) < [c])) = false := by
  simp
section
variable {P : Program} {w : World} {K : PySem.W.Frag} {mg : Str → Option Value} {base : Heap}
/-! ### is_safe -/
def spSafe : Sp := fun vs H Q _ => ∃ (o : Option Nat) (c : Ct), vs = [VS o.toList, VS c.lt] ∧ Q (.bl (safeO c.b o)) H
theorem scSafe : FnScope ["sign", "c"] ["sign", "c"] (defScope sSafe) := ⟨rfl, rfl, rfl, by decide +kernel, rfl, by decide +kernel, by decide +kernel⟩
theorem dSafe (T : Tx w K mg) : Dn P w K mg base 1 (He.ga K "is_safe") ["sign", "c"] [] spSafe := by
  obtain ⟨fd, F⟩ := T.f_is_safe
  refine ⟨fd, [], F.ok scSafe (fun vs H Q E h => ?_) (fun cdv A outer s H vs Q E hr h => ?_), F.bindsN fun _ _ _ _ _ _ us hl => match us, hl with | [_, _], _ => rfl, .nil, F.kp⟩
  · obtain ⟨o, c, rfl, _⟩ := h
    rfl
  · obtain ⟨o, c, rfl, q⟩ := h
    refine ⟨_, PSs.nox (pss_one (ps_ret (pe_and (pe_chain op_leS op_leS (pe_S [33] (by decide +kernel)) (pv 0) (pe_S [126] (by decide +kernel)))
      (pe_one (pe_not (pe_and (pe_cmpR op_inT (pv 1) (pe_gl T.g_IN_BRACKETS rfl) rfl) (pe_one (pe_cmpR op_inS1 (pv 0) (pe_gv T.brackets rfl) rfl)))))))), ?_⟩
    refine ⟨_, rfl, [33], o.toList, rfl, rfl, _, rfl, ?_⟩
    cases o with
    | none =>
      rw [show (!decide ((none : Option Nat).toList < [33])) = false from lt_nil 33]
      exact iteF ⟨_, rfl, iteF q⟩
    | some x =>
      rw [show (!decide ((some x : Option Nat).toList < [33])) = decide (33 ≤ x) from lt_sg x 33]
      have e0 : safeO c.b (some x) = ((decide (33 ≤ x) && decide (x ≤ 126)) && !(c.b && isBr x)) := rfl
      rw [e0] at q
      by_cases h1 : 33 ≤ x
      · rw [decide_eq_true h1] at q ⊢
        refine iteT ⟨[x], [126], rfl, rfl, _, rfl, ?_⟩
        rw [show (!decide ([126] < [x])) = decide (x ≤ 126) from lt_sg 126 x]
        by_cases h2 : x ≤ 126
        · rw [decide_eq_true h2] at q ⊢
          refine iteT ⟨_, rfl, c.lt, _, _, rfl, rfl, T.inBr _, c.b, (by cases c <;> rfl), ?_⟩
          cases hb : c.b with
          | true =>
            rw [hb] at q
            exact iteT ⟨_, rfl, x, [44, 91, 93, 123, 125], rfl, rfl, _, rfl, q⟩
          | false =>
            rw [hb] at q
            exact iteF ⟨_, rfl, q⟩
        · rw [decide_eq_false h2] at q ⊢
          exact iteF q
      · rw [decide_eq_false h1] at q ⊢
        exact iteF ⟨_, rfl, iteF q⟩

/-! ### Source -/
abbrev aM (K : PySem.W.Frag) (m : Str) : Addr := He.ma K (cS K) m
def flds (t : List Nat) (z : Int) : List (Str × V) := [("text", VS t), ("length", .int t.length), ("far", .int z)]
def SrcAt (C : Addr) (H : Hp) (p : Addr) (t : List Nat) : Prop := ∃ dx z, H p = some (.ins C dx (flds t z))
/-- all but p stands -/
def Kp (p : Addr) (H H' : Hp) : Prop := ∀ b o, H b = some o → b ≠ p → H' b = some o
structure Src (C p : Addr) (t : List Nat) (H H' : Hp) : Prop where
  at_ : SrcAt C H' p t
  kp : Kp p H H'
theorem Kp.refl (p : Addr) (H : Hp) : Kp p H H := fun _ _ h _ => h
theorem Kp.trans {p : Addr} {H H1 H2 : Hp} (a : Kp p H H1) (b : Kp p H1 H2) : Kp p H H2 := fun c o h n => b c o (a c o h n) n
theorem Kp.new {p q : Addr} {H : Hp} {o : HO} (h : H q = none) : Kp p H (upd H q o) := fun b u e _ => by
  rw [upd_ne (ne_of_none e h)]
  exact e
theorem Kp.own {p : Addr} {H : Hp} {o : HO} : Kp p H (upd H p o) := fun b u e n => by
  rw [upd_ne n]
  exact e
theorem SrcAt.new {C p q : Addr} {H : Hp} {t : List Nat} {o : HO} (a : SrcAt C H p t) (h : H q = none) : SrcAt C (upd H q o) p t := by
  obtain ⟨dx, z, e⟩ := a
  exact ⟨dx, z, by rw [upd_ne (ne_of_none e h)]; exact e⟩
theorem SrcAt.src {C p : Addr} {H : Hp} {t : List Nat} (a : SrcAt C H p t) : Src C p t H H := ⟨a, Kp.refl p H⟩
theorem Src.trans {C p : Addr} {t : List Nat} {H H1 H2 : Hp} (a : Src C p t H H1) (b : Src C p t H1 H2) : Src C p t H H2 := ⟨b.at_, a.kp.trans b.kp⟩
theorem Src.new {C p q : Addr} {t : List Nat} {H H1 : Hp} {o : HO} (a : Src C p t H H1) (h : H1 q = none) : Src C p t H (upd H1 q o) := ⟨a.at_.new h, a.kp.trans (Kp.new h)⟩
theorem look_text (t : List Nat) (z : Int) : (flds t z).lookup ("text" : Str) = some (VS t) := by
  unfold flds
  rw [List.lookup_cons_self]
theorem look_far (t : List Nat) (z : Int) : (flds t z).lookup ("far" : Str) = some (.int z) := by
  unfold flds
  rw [List.lookup_cons, show (("far" : Str) == "text") = false by decide +kernel]
  show List.lookup ("far" : Str) [("length", V.int t.length), ("far", V.int z)] = _
  rw [List.lookup_cons, show (("far" : Str) == "length") = false by decide +kernel]
  show List.lookup ("far" : Str) [("far", V.int z)] = _
  rw [List.lookup_cons_self]
theorem look_no (t : List Nat) (z : Int) {m : Str} (h1 : (m == "text") = false) (h2 : (m == "length") = false) (h3 : (m == "far") = false) : (flds t z).lookup m = none := by
  unfold flds
  rw [List.lookup_cons, h1]
  show List.lookup m [("length", V.int t.length), ("far", V.int z)] = _
  rw [List.lookup_cons, h2]
  show List.lookup m [("far", V.int z)] = _
  rw [List.lookup_cons, h3]
  rfl
theorem put_far (t : List Nat) (z y : Int) : putF "far" (.int y) (flds t z) = flds t y := by
  unfold flds
  show (if ("text" : Str) = "far" then _ else (("text" : Str), VS t) :: (if ("length" : Str) = "far" then _ else (("length" : Str), V.int t.length) :: (if ("far" : Str) = "far" then [(("far" : Str), V.int y)] else _))) = _
  rw [if_neg (by decide +kernel), if_neg (by decide +kernel), if_pos rfl]
theorem put_all (t : List Nat) : putF "far" (.int 0) (putF "length" (.int t.length) (putF "text" (VS t) [])) = flds t 0 := by
  unfold flds
  show putF "far" (.int 0) (if ("text" : Str) = "length" then _ else (("text" : Str), VS t) :: [(("length" : Str), V.int t.length)]) = _
  rw [if_neg (by decide +kernel)]
  show (if ("text" : Str) = "far" then _ else (("text" : Str), VS t) :: (if ("length" : Str) = "far" then _ else (("length" : Str), V.int t.length) :: [(("far" : Str), V.int 0)])) = _
  rw [if_neg (by decide +kernel), if_neg (by decide +kernel)]
/-- a text that is not too long -/
abbrev Sz (t : List Nat) : Prop := t.length ≤ 100000

def spInit (C : Addr) : Sp := fun vs H Q _ => ∃ (p dx : Addr) (t : List Nat), vs = [.ref p, VS t] ∧ H p = some (.ins C dx []) ∧ Sz t ∧ ∀ H', Src C p t H H' → Q .non H'
theorem scInit : FnScope ["self", "text"] ["self", "text"] (defScope sInit) := ⟨rfl, rfl, rfl, by decide +kernel, rfl, by decide +kernel, by decide +kernel⟩
theorem dInit (T : Tx w K mg) : Dn P w K mg base 1 (aM K "__init__") ["self", "text"] [] (spInit (cS K)) := by
  obtain ⟨fd, F⟩ := T.f_init
  refine ⟨fd, [], F.ok scInit (fun vs H Q E h => ?_) (fun cdv A outer s H vs Q E hr h => ?_), F.bindsN fun _ _ _ _ _ _ us hl => match us, hl with | [_, _], _ => rfl, .nil, F.kp⟩
  · obtain ⟨p, dx, t, rfl, _⟩ := h
    rfl
  · obtain ⟨p, dx, t, rfl, hp, hz, q⟩ := h
    refine ⟨_, PSs.nox (pss_cons (ps_fld (pv 0) (pv 1) rfl) (pss_cons (ps_fld (pv 0) (pe_callB call_len_str (by rfl) T.n_len PySem.boot_len (pa_cons (pv 1) pa_nil)) rfl) (pss_one (ps_fld (pv 0) pe_int rfl)))), ?_⟩
    refine ⟨_, rfl, _, rfl, p, cS K, dx, _, rfl, hp, T.cl, T.no_text, (by show 0 < 1000; decide), _, rfl, S t, rfl, (by rw [S_len]; exact Nat.le_trans hz (by decide)), _, rfl, p, cS K, dx, _, rfl, upd_same, T.cl, T.no_length, (by show 1 < 1000; decide), ?_⟩
    refine ⟨_, rfl, p, cS K, dx, _, rfl, upd_same, T.cl, T.no_far, ?_, ?_⟩
    · rw [show putF ("length" : Str) (V.int ((S t).length : Int)) (putF ("text" : Str) (VS t) []) = [(("text" : Str), VS t), (("length" : Str), V.int ((S t).length : Int))] by
        show (if ("text" : Str) = "length" then _ else (("text" : Str), VS t) :: [(("length" : Str), V.int ((S t).length : Int))]) = _
        rw [if_neg (by decide +kernel)]]
      show 2 < 1000
      decide
    · refine q _ ⟨⟨dx, 0, ?_⟩, fun b o e n => ?_⟩
      · rw [upd_same, S_len, put_all]
      · rw [upd_ne n, upd_ne n, upd_ne n]
        exact e

def spAt (C : Addr) : Sp := fun vs H Q _ => ∃ (p : Addr) (t : List Nat) (i : Nat), vs = [.ref p, .int i] ∧ SrcAt C H p t ∧ Sz t ∧ Q (VS (sg t i)) H
theorem scAt : FnScope ["self", "i"] ["self", "i"] (defScope sAt) := ⟨rfl, rfl, rfl, by decide +kernel, rfl, by decide +kernel, by decide +kernel⟩
theorem dAt (T : Tx w K mg) : Dn P w K mg base 1 (aM K "at") ["self", "i"] [] (spAt (cS K)) := by
  obtain ⟨fd, F⟩ := T.f_at
  refine ⟨fd, [], F.ok scAt (fun vs H Q E h => ?_) (fun cdv A outer s H vs Q E hr h => ?_), F.bindsN fun _ _ _ _ _ _ us hl => match us, hl with | [_, _], _ => rfl, .nil, F.kp⟩
  · obtain ⟨p, t, i, rfl, _⟩ := h
    rfl
  · obtain ⟨p, t, i, rfl, ⟨dx, z, hp⟩, hz, q⟩ := h
    refine ⟨_, PSs.nox (pss_one (ps_ret (pe_slice sl_S (pe_fld (pv 0) rfl) (po_some (pv 1)) (po_some (pe_op op_add (pv 1) pe_int))))), ?_⟩
    refine ⟨_, rfl, p, cS K, dx, _, _, rfl, hp, T.cl, T.no_text, look_text t z, _, rfl, _, rfl, _, rfl, _, _, rfl, rfl, _, rfl, t, rfl, Nat.le_trans hz (by decide), ?_⟩
    rw [show (i : Int) + 1 = ((i + 1 : Nat) : Int) by omega, cut_nat]
    exact q

def spMiss (C : Addr) : Sp := fun vs H Q _ => ∃ (p : Addr) (t : List Nat) (i : Int), vs = [.ref p, .int i] ∧ SrcAt C H p t ∧ ∀ H', Src C p t H H' → Q .non H'
theorem scMiss : FnScope ["self", "i"] ["self", "i"] (defScope sMiss) := ⟨rfl, rfl, rfl, by decide +kernel, rfl, by decide +kernel, by decide +kernel⟩
theorem dMiss (T : Tx w K mg) : Dn P w K mg base 1 (aM K "miss") ["self", "i"] [] (spMiss (cS K)) := by
  obtain ⟨fd, F⟩ := T.f_miss
  refine ⟨fd, [], F.ok scMiss (fun vs H Q E h => ?_) (fun cdv A outer s H vs Q E hr h => ?_), F.bindsN fun _ _ _ _ _ _ us hl => match us, hl with | [_, _], _ => rfl, .nil, F.kp⟩
  · obtain ⟨p, t, i, rfl, _⟩ := h
    rfl
  · obtain ⟨p, t, i, rfl, ⟨dx, z, hp⟩, q⟩ := h
    refine ⟨_, PSs.nox (pss_one (ps_fld (pv 0) (pe_callB (call_max2 rfl) (by rfl) T.n_max boot_max (pa_cons (pe_fld (pv 0) rfl) (pa_cons (pv 1) pa_nil))) rfl)), ?_⟩
    refine ⟨_, rfl, p, cS K, dx, _, _, rfl, hp, T.cl, T.no_far, look_far t z, _, rfl, _, _, rfl, _, rfl, p, cS K, dx, _, rfl, hp, T.cl, T.no_far, (by show 3 < 1000; decide), ?_⟩
    refine q _ ⟨⟨dx, (if i > z then i else z), ?_⟩, Kp.own⟩
    rw [upd_same, put_far]

def spBegin (C : Addr) : Sp := fun vs H Q _ => ∃ (p : Addr) (t : List Nat) (i : Nat), vs = [.ref p, .int i] ∧ SrcAt C H p t ∧ Sz t ∧ i ≤ t.length ∧ Q (.bl (begins t i)) H
theorem scBegin : FnScope ["self", "i"] ["self", "i"] (defScope sBegin) := ⟨rfl, rfl, rfl, by decide +kernel, rfl, by decide +kernel, by decide +kernel⟩
theorem dBegin (T : Tx w K mg) : Dn P w K mg base 1 (aM K "is_begin") ["self", "i"] [] (spBegin (cS K)) := by
  obtain ⟨fd, F⟩ := T.f_is_begin
  refine ⟨fd, [], F.ok scBegin (fun vs H Q E h => ?_) (fun cdv A outer s H vs Q E hr h => ?_), F.bindsN fun _ _ _ _ _ _ us hl => match us, hl with | [_, _], _ => rfl, .nil, F.kp⟩
  · obtain ⟨p, t, i, rfl, _⟩ := h
    rfl
  · obtain ⟨p, t, i, rfl, ⟨dx, z, hp⟩, hz, hi, q⟩ := h
    refine ⟨_, PSs.nox (pss_one (ps_ret (pe_or (pe_cmp (pc_eqI (pv 1) pe_int) rfl) (pe_one (pe_cmpR op_eqS (pe_ix ix_S (pe_fld (pv 0) rfl) (pe_op op_sub (pv 1) pe_int) (fun _ _ => rfl)) (pe_S [10] (by decide +kernel)) (nomark _)))))), ?_⟩
    refine ⟨_, rfl, _, _, rfl, rfl, i == 0, ?_, ?_⟩
    · rw [Bool.beq_eq_decide_eq]
      congr 1
      rw [decide_eq_decide]
      omega
    · unfold begins at q
      cases h0 : (i == 0) with
      | true =>
        rw [h0] at q
        exact iteT q
      | false =>
        rw [h0] at q
        have hi0 : i ≠ 0 := by simpa using h0
        have hlt : i - 1 < t.length := by omega
        refine iteF ⟨_, rfl, p, cS K, dx, _, _, rfl, hp, T.cl, T.no_text, look_text t z, _, rfl, _, _, rfl, rfl, t, i - 1, t[i - 1], rfl, ?_, Nat.le_trans hz (by decide), List.getElem?_eq_getElem hlt, _, _, rfl, rfl, ?_⟩
        · exact congrArg V.int (by omega)
        · rw [List.getElem?_eq_getElem hlt] at q
          rw [show decide (([t[i - 1]] : List Nat) = [10]) = (false || (some t[i - 1] == some 10)) by
            rw [Bool.false_or, Bool.beq_eq_decide_eq, decide_eq_decide]
            simp]
          exact q
end
end Anp
/-! # part K5 -/
set_option maxHeartbeats 4000000
/-! Source's methods, on. -/
namespace Anp
open PySem PySem.Spec PyProof.Rows L2 Ap
theorem pb_blank1 {t : List Nat} {i : Nat} (h : t[i]? = some 32) : pb t i = pb t (i + 1) :=
  pb_eq (Nat.le_trans (Nat.le_succ i) (pb_le t (i + 1))) (fun k h1 h2 => by
    rcases Nat.lt_or_eq_of_le h1 with h3 | h3
    · exact pb_blank h3 h2
    · rw [← h3]
      exact h) (pb_end t (i + 1))
theorem pb_stay {t : List Nat} {i : Nat} (h : t[i]? ≠ some 32) : pb t i = i := pb_eq (Nat.le_refl i) (fun k h1 h2 => by omega) h
theorem pb_len {t : List Nat} {i : Nat} (h : i ≤ t.length) : pb t i ≤ t.length := pb_le_of h (by rw [List.getElem?_eq_none (Nat.le_refl _)]; exact fun z => by cases z)
theorem lt_of_at {t : List Nat} {i x : Nat} (h : t[i]? = some x) : i < t.length := (List.getElem?_eq_some_iff.mp h).1
section
variable {P : Program} {w : World} {K : PySem.W.Frag} {mg : Str → Option Value} {base : Heap}

def spPast (C : Addr) : Sp := fun vs H Q _ => ∃ (p : Addr) (t : List Nat) (i : Nat), vs = [.ref p, .int i] ∧ SrcAt C H p t ∧ Sz t ∧ Q (.int (pb t i : Nat)) H
theorem scPast : FnScope ["self", "i"] ["self", "i"] (defScope sPast) := ⟨rfl, rfl, rfl, by decide +kernel, rfl, by decide +kernel, by decide +kernel⟩
theorem dPast (T : Tx w K mg) : Dn P w K mg base 2 (aM K "past_blanks") ["self", "i"] [] (spPast (cS K)) := by
  obtain ⟨fd, F⟩ := T.f_past_blanks
  have DA : Dn P w K mg base 1 (aM K "at") ["self", "i"] [] (spAt (cS K)) := dAt T
  refine ⟨fd, [], F.ok scPast (fun vs H Q E h => ?_) (fun cdv A outer s H vs Q E hr h => ?_), F.bindsN fun _ _ _ _ _ _ us hl => match us, hl with | [_, _], _ => rfl, .nil, F.kp⟩
  · obtain ⟨p, t, i, rfl, _⟩ := h
    rfl
  · obtain ⟨p, t, i, rfl, hS, hz, q⟩ := h
    obtain ⟨dx, z, hp⟩ := id hS
    refine ⟨_, PSs.nox (pss_cons (ps_while PassesOwn.never (pt_cmpR op_eqS (pe_mt DA hr (by decide) T.cl T.m_at (pv 0) (pa_cons (pv 1) pa_nil)) (pe_S [32] (by decide +kernel)) (nomark _))
      (pss_one (ps_aug (i := 1) scPast.nd rfl (.inl rfl) pe_int ip_add))) (pss_one (ps_ret (pv 1)))), ?_⟩
    refine ⟨fun m σ H' => ∃ k : Nat, σ = [some (.ref p), some (.int k)] ∧ H' = H ∧ pb t k = pb t i ∧ m = t.length - k, ⟨_, i, rfl, rfl, rfl, rfl⟩, ?_⟩
    rintro m σ H' ⟨k, rfl, rfl, hk, rfl⟩
    refine ⟨_, rfl, p, dx, _, rfl, hp, look_no t z (by decide +kernel) (by decide +kernel) (by decide +kernel), _, rfl, p, t, k, rfl, hS, hz, _, _, rfl, rfl, _, rfl, ?_⟩
    rw [sg_is]
    by_cases hb : t[k]? = some 32
    · rw [decide_eq_true hb]
      refine iteT ⟨fun σ' H2 => ∃ k' : Nat, σ' = [some (.ref p), some (.int k')] ∧ H2 = H' ∧ pb t k' = pb t i ∧ t.length - k' < t.length - k, fun σ' H2 ⟨k', h1, h2, h3, h4⟩ => ⟨_, h4, k', h1, h2, h3, rfl⟩, ?_⟩
      have := lt_of_at hb
      refine ⟨_, rfl, _, _, rfl, rfl, k + 1, ?_, rfl, ?_, by omega⟩
      · rfl
      · rw [← pb_blank1 hb]
        exact hk
    · rw [decide_eq_false hb]
      refine iteF ⟨_, rfl, ?_⟩
      rw [pb_stay hb] at hk
      rw [hk]
      exact q

def wordsL : List (List Nat) := [[45, 45, 45], [46, 46, 46]]
def spMark (K : PySem.W.Frag) (C : Addr) : Sp := fun vs H Q _ => ∃ (p a : Addr) (t : List Nat) (i : Nat), vs = [.ref p, .int i, .ref a] ∧ SrcAt C H p t ∧ Sz t ∧ i ≤ t.length ∧ SqT K H a (wordsL.map VS) ∧ ∀ H', Src C p t H H' → Q (.bl (mark t i)) H'
theorem scMark : FnScope ["self", "i", "words"] ["self", "i", "words"] (defScope sMark) := ⟨rfl, rfl, rfl, by decide +kernel, rfl, by decide +kernel, by decide +kernel⟩
theorem mark_at (t : List Nat) (j : Nat) : ([[], [32], [10]] : List (List Nat)).contains (sg t j) = ([none, some 32, some 10] : List (Option Nat)).contains t[j]? := by
  rw [sg_eq]
  cases t[j]? with
  | none => rfl
  | some x =>
    rw [Bool.eq_iff_iff]
    simp
theorem SqT.keep {K : PySem.W.Frag} {H H' : Hp} {a : Addr} {xs : List V} (h : SqT K H a xs) (k : ∀ o, H a = some o → H' a = some o) : SqT K H' a xs := by
  rcases h with (h | ⟨o, h⟩) | h
  · exact .inl (.inl (k _ h))
  · exact .inl (.inr ⟨o, k _ h⟩)
  · exact .inr h
theorem dMark (T : Tx w K mg) : Dn P w K mg base 2 (aM K "is_mark") ["self", "i", "words"] [.ref (wordsAt K)] (spMark K (cS K)) := by
  obtain ⟨fd, F⟩ := T.f_is_mark
  have DA : Dn P w K mg base 1 (aM K "at") ["self", "i"] [] (spAt (cS K)) := dAt T
  have DB : Dn P w K mg base 1 (aM K "is_begin") ["self", "i"] [] (spBegin (cS K)) := dBegin T
  obtain ⟨ds, hv, hb⟩ := F.binds1 (ps := ["self", "i", "words"]) 2 0 (List.cons_ne_nil _ _) rfl fun T kV doc pm an cdv ct us its h1 h2 => match us, its, h1, h2 with | [a, b], [c], _, _ => ⟨_, rfl, rfl⟩
  refine ⟨fd, ds, F.ok scMark (fun vs H Q E h => ?_) (fun cdv A outer s H vs Q E hr h => ?_), hb, hv, F.kp⟩
  · obtain ⟨p, a, t, i, rfl, _⟩ := h
    rfl
  · obtain ⟨p, a, t, i, rfl, hS, hz, hi, ha, q⟩ := h
    obtain ⟨dx, z, hp⟩ := id hS
    have lk : ∀ {m : Str}, (m == "text") = false → (m == "length") = false → (m == "far") = false → (flds t z).lookup m = none := fun h1 h2 h3 => look_no t z h1 h2 h3
    refine ⟨_, PSs.nox (pss_one (ps_ret (pe_and (pe_mt DB hr (by decide) T.cl T.m_is_begin (pv 0) (pa_cons (pv 1) pa_nil))
      (pe_and (pe_cmpR op_inT (pe_slice sl_S (pe_fld (pv 0) rfl) (po_some (pv 1)) (po_some (pe_op op_add (pv 1) pe_int))) (pv 2) rfl)
        (pe_one (pe_cmpR op_inT (pe_mt DA hr (by decide) T.cl T.m_at (pv 0) (pa_cons (pe_op op_add (pv 1) pe_int) pa_nil)) (pe_tup (pa_cons (pe_S [] (by decide +kernel)) (pa_cons (pe_S [32] (by decide +kernel)) (pa_cons (pe_S [10] (by decide +kernel)) pa_nil)))) rfl)))))), ?_⟩
    have q0 := q H hS.src
    unfold mark at q q0
    refine ⟨_, rfl, p, dx, _, rfl, hp, lk (by decide +kernel) (by decide +kernel) (by decide +kernel), _, rfl, p, t, i, rfl, hS, hz, hi, _, rfl, ?_⟩
    cases h1 : begins t i with
    | false =>
      rw [h1] at q0
      exact iteF q0
    | true =>
      rw [h1] at q q0
      refine iteT ⟨_, rfl, p, cS K, dx, _, _, rfl, hp, T.cl, T.no_text, look_text t z, _, rfl, _, rfl, _, rfl, _, _, rfl, rfl, _, rfl, t, rfl, Nat.le_trans hz (by decide), _, rfl, _, a, wordsL, rfl, rfl, ha, _, rfl, ?_⟩
      have e3 : cutL t (some (i : Int)) (some ((i : Int) + 3)) = (t.drop i).take 3 := by
        rw [show (i : Int) + 3 = ((i + 3 : Nat) : Int) by omega, cut_nat, List.drop_take, show i + 3 - i = 3 by omega]
      rw [e3]
      have e4 : (if false = true then !wordsL.contains ((t.drop i).take 3) else wordsL.contains ((t.drop i).take 3)) = (([[45, 45, 45], [46, 46, 46]] : List (List Nat)).contains ((t.drop i).take 3)) := rfl
      rw [e4]
      cases h2 : (([[45, 45, 45], [46, 46, 46]] : List (List Nat)).contains ((t.drop i).take 3)) with
      | false =>
        rw [h2] at q0
        exact iteF q0
      | true =>
        rw [h2] at q
        refine iteT ⟨_, rfl, p, dx, _, rfl, hp, lk (by decide +kernel) (by decide +kernel) (by decide +kernel), _, rfl, _, _, rfl, rfl, p, t, i + 3, rfl, hS, hz, (by show 3 ≤ sizeLine; decide), fun b nb => ?_⟩
        refine ⟨_, b, [[], [32], [10]], rfl, rfl, SqT.of upd_same, ?_⟩
        have e5 : (if false = true then !([[], [32], [10]] : List (List Nat)).contains (sg t (i + 3)) else ([[], [32], [10]] : List (List Nat)).contains (sg t (i + 3))) = ([none, some 32, some 10] : List (Option Nat)).contains t[i + 3]? := mark_at t (i + 3)
        rw [e5]
        exact q _ (hS.src.new nb)

def spBarred (C : Addr) : Sp := fun vs H Q _ => ∃ (p : Addr) (t : List Nat) (i : Nat), vs = [.ref p, .int i] ∧ SrcAt C H p t ∧ Sz t ∧ i ≤ t.length ∧ ∀ H', Src C p t H H' → Q (.bl (mark t i)) H'
theorem scBarred : FnScope ["self", "i"] ["self", "i"] (defScope sBarred) := ⟨rfl, rfl, rfl, by decide +kernel, rfl, by decide +kernel, by decide +kernel⟩
theorem dBarred (T : Tx w K mg) : Dn P w K mg base 3 (aM K "is_barred") ["self", "i"] [] (spBarred (cS K)) := by
  obtain ⟨fd, F⟩ := T.f_is_barred
  have DA : Dn P w K mg base 2 (aM K "is_mark") ["self", "i", "words"] [.ref (wordsAt K)] (spMark K (cS K)) := dMark T
  have DB : Dn P w K mg base 1 (aM K "miss") ["self", "i"] [] (spMiss (cS K)) := dMiss T
  refine ⟨fd, [], F.ok scBarred (fun vs H Q E h => ?_) (fun cdv A outer s H vs Q E hr h => ?_), F.bindsN fun _ _ _ _ _ _ us hl => match us, hl with | [_, _], _ => rfl, .nil, F.kp⟩
  · obtain ⟨p, t, i, rfl, _⟩ := h
    rfl
  · obtain ⟨p, t, i, rfl, hS, hz, hi, q⟩ := h
    obtain ⟨dx, z, hp⟩ := id hS
    refine ⟨_, PSs.nox (pss_cons (ps_if (pt_val (pe_mt DA hr (by decide) T.cl T.m_is_mark (pv 0) (pa_cons (pv 1) pa_nil)))
      (pss_cons (ps_expr (pe_mt DB hr (by decide) T.cl T.m_miss (pv 0) (pa_cons (pe_op op_add (pv 1) pe_int) pa_nil))) (pss_one (ps_ret pe_bl))) pss_nil) (pss_one (ps_ret pe_bl))), ?_⟩
    refine ⟨_, rfl, p, dx, _, rfl, hp, look_no t z (by decide +kernel) (by decide +kernel) (by decide +kernel), _, rfl, p, wordsAt K, t, i, rfl, hS, hz, hi, T.words _, fun H1 S1 => ⟨_, rfl, ?_⟩⟩
    cases h1 : mark t i with
    | false =>
      rw [h1] at q
      exact iteF (q H1 S1)
    | true =>
      rw [h1] at q
      obtain ⟨dx1, z1, hp1⟩ := S1.at_
      exact iteT ⟨_, rfl, p, dx1, _, rfl, hp1, look_no t z1 (by decide +kernel) (by decide +kernel) (by decide +kernel), _, rfl, _, _, rfl, rfl, p, t, _, rfl, S1.at_, fun H2 S2 => q H2 (S1.trans S2)⟩

def spIndented (C : Addr) : Sp := fun vs H Q _ => ∃ (p : Addr) (t : List Nat) (i n : Nat), vs = [.ref p, .int i, .int n] ∧ SrcAt C H p t ∧ Sz t ∧ n ≤ 1000 ∧
  ((∀ k, k < n → t[i + k]? = some 32) → ∀ H', Src C p t H H' → Q (.int ((i + n : Nat))) H') ∧ (∀ k, k < n → t[i + k]? ≠ some 32 → ∀ H', Src C p t H H' → Q .non H')
theorem scIndented : FnScope ["self", "i", "n", "k"] ["self", "i", "n"] (defScope sIndented) := ⟨rfl, rfl, rfl, by decide +kernel, rfl, by decide +kernel, by decide +kernel⟩
theorem dIndented (T : Tx w K mg) : Dn P w K mg base 2 (aM K "indented") ["self", "i", "n"] [] (spIndented (cS K)) := by
  obtain ⟨fd, F⟩ := T.f_indented
  have DA : Dn P w K mg base 1 (aM K "at") ["self", "i"] [] (spAt (cS K)) := dAt T
  have DB : Dn P w K mg base 1 (aM K "miss") ["self", "i"] [] (spMiss (cS K)) := dMiss T
  refine ⟨fd, [], F.ok scIndented (fun vs H Q E h => ?_) (fun cdv A outer s H vs Q E hr h => ?_), F.bindsN fun _ _ _ _ _ _ us hl => match us, hl with | [_, _, _], _ => rfl, .nil, F.kp⟩
  · obtain ⟨p, t, i, n, rfl, _⟩ := h
    rfl
  · obtain ⟨p, t, i, n, rfl, hS, hz, hn, q1, q2⟩ := h
    obtain ⟨dx, z, hp⟩ := id hS
    refine ⟨_, PSs.nox (pss_cons (ps_for PassesOwn.never rfl (pi_range1 (by rfl) T.n_range (pa_cons (pv 2) pa_nil)) (pg_name (i := 3) scIndented.nd rfl (Or.inl rfl))
      (pss_one (ps_if (pt_cmpR op_neS (pe_mt DA hr (by decide) T.cl T.m_at (pv 0) (pa_cons (pe_op op_add (pv 1) (pv 3)) pa_nil)) (pe_S [32] (by decide +kernel)) (nomark _))
        (pss_one (ps_ret (pe_mt DB hr (by decide) T.cl T.m_miss (pv 0) (pa_cons (pe_op op_add (pv 1) (pv 3)) pa_nil)))) pss_nil)))
      (pss_one (ps_ret (pe_op op_add (pv 1) (pe_callB (call_max2 rfl) (by rfl) T.n_max boot_max (pa_cons pe_int (pa_cons (pv 2) pa_nil))))))), ?_⟩
    refine ⟨_, rfl, _, rfl, by omega, by omega, for_range (n := n) (fun k σ H' => H' = H ∧ (∃ v, σ = [some (.ref p), some (.int i), some (.int n), v]) ∧ ∀ j, j < k → t[i + j]? = some 32) ⟨rfl, ⟨_, rfl⟩, fun j hj => by omega⟩ ?_ ?_⟩
    · rintro k σ H' hk ⟨rfl, ⟨v, rfl⟩, hj⟩
      refine ⟨_, rfl, p, dx, _, rfl, hp, look_no t z (by decide +kernel) (by decide +kernel) (by decide +kernel), _, rfl, _, rfl, _, _, rfl, rfl, p, t, i + k, ?_, hS, hz, _, _, rfl, rfl, _, rfl, ?_⟩
      · show [V.ref p, V.int ((i : Int) + (0 + (k : Int)))] = _
        rw [show (i : Int) + (0 + (k : Int)) = ((i + k : Nat) : Int) by omega]
      · rw [sg_is]
        by_cases hb : t[i + k]? = some 32
        · rw [decide_eq_true hb]
          refine iteF ⟨rfl, ⟨_, rfl⟩, fun j hj2 => ?_⟩
          rcases Nat.lt_or_eq_of_le (Nat.le_of_lt_succ hj2) with h3 | h3
          · exact hj j h3
          · rw [h3]
            exact hb
        · rw [decide_eq_false hb]
          refine iteT ⟨_, rfl, p, dx, _, rfl, hp, look_no t z (by decide +kernel) (by decide +kernel) (by decide +kernel), _, rfl, _, rfl, _, _, rfl, rfl, p, t, _, rfl, hS, fun H2 S2 => q2 k hk hb H2 S2⟩
    · rintro σ H' ⟨rfl, ⟨v, rfl⟩, hj⟩
      refine ⟨_, rfl, _, rfl, _, _, rfl, _, _, rfl, rfl, ?_⟩
      show Q (V.int ((i : Int) + (if (n : Int) > 0 then (n : Int) else 0))) _
      rw [show (i : Int) + (if (n : Int) > 0 then (n : Int) else 0) = ((i + n : Nat) : Int) by split <;> omega]
      exact q1 hj _ hS.src
end
end Anp
/-! # part K6 -/
set_option maxHeartbeats 4000000
/-! is_first, is_next, row_end, plain_fold. -/
namespace Anp
open PySem PySem.Spec PyProof.Rows L2 Ap
theorem next_lt {b : Bool} {t : List Nat} {i : Nat} {beh : Bool} (h : nextOk b t i beh = true) : i < t.length := by
  obtain ⟨x, h1, _⟩ := next_sg h
  exact lt_of_at h1
theorem row_len {b : Bool} {t : List Nat} {i e : Nat} (r : RowEnd b t i e) : i ≤ t.length → e ≤ t.length := by
  induction r with
  | stop h => exact fun z => z
  | go h r ih => exact fun _ => ih (next_lt h)
theorem empt_len {t : List Nat} {i c j : Nat} (r : Empt t i c j) : i ≤ t.length → j ≤ t.length := by
  induction r with
  | nil h => exact fun z => z
  | cons h r ih => exact fun _ => ih (lt_of_at h)
theorem empt_c {t : List Nat} {i c j : Nat} (r : Empt t i c j) : i + c ≤ j := by
  induction r with
  | nil h => exact Nat.le_refl _
  | @cons j c k h r ih =>
    have := pb_le t j
    omega
theorem fold_len {t : List Nat} {e n f c : Nat} (r : FoldAt t e n f c) : f ≤ t.length ∧ e + c + 1 ≤ f := by
  obtain ⟨h0, j, he, hk, rfl⟩ := r
  have h1 := empt_len he (lt_of_at h0)
  have h2 := empt_c he
  have h3 := pb_le t e
  have h4 := pb_le t (j + n)
  refine ⟨pb_len ?_, by omega⟩
  cases n with
  | zero => exact h1
  | succ n =>
    have := lt_of_at (hk n (Nat.lt_succ_self n))
    omega
theorem brk_len (c : Nat) : (brk c).length ≤ c + 1 := by
  unfold brk
  split
  · simp
  · simp
theorem slice_len (t : List Nat) (i e : Nat) : (slice t i e).length ≤ e - i := by
  unfold slice
  rw [List.length_drop, List.length_take]
  omega
section
variable {P : Program} {w : World} {K : PySem.W.Frag} {mg : Str → Option Value} {base : Heap}
theorem mf_eq (x : Nat) : ([45, 63, 58] : List Nat).contains x = maybeFirst x := rfl
theorem nf_eq (x : Nat) : notFirstL.contains x = notFirst x := rfl

def spFirst (C : Addr) : Sp := fun vs H Q _ => ∃ (p : Addr) (t : List Nat) (i : Nat) (c : Ct), vs = [.ref p, .int i, VS c.lt] ∧ SrcAt C H p t ∧ Sz t ∧ i ≤ t.length ∧ ∀ H', Src C p t H H' → Q (.bl (firstOk c.b t i)) H'
theorem scFirst : FnScope ["source", "i", "c", "sign"] ["source", "i", "c"] (defScope sFirst) := ⟨rfl, rfl, rfl, by decide +kernel, rfl, by decide +kernel, by decide +kernel⟩
theorem dFirst (T : Tx w K mg) : Dn P w K mg base 4 (He.ga K "is_first") ["source", "i", "c"] [] (spFirst (cS K)) := by
  obtain ⟨fd, F⟩ := T.f_is_first
  have DA : Dn P w K mg base 1 (aM K "at") ["self", "i"] [] (spAt (cS K)) := dAt T
  have DB : Dn P w K mg base 3 (aM K "is_barred") ["self", "i"] [] (spBarred (cS K)) := dBarred T
  have DM : Dn P w K mg base 1 (aM K "miss") ["self", "i"] [] (spMiss (cS K)) := dMiss T
  have DS : Dn P w K mg base 1 (He.ga K "is_safe") ["sign", "c"] [] spSafe := dSafe T
  refine ⟨fd, [], F.ok scFirst (fun vs H Q E h => ?_) (fun cdv A outer s H vs Q E hr h => ?_), F.bindsN fun _ _ _ _ _ _ us hl => match us, hl with | [_, _, _], _ => rfl, .nil, F.kp⟩
  · obtain ⟨p, t, i, c, rfl, _⟩ := h
    rfl
  · obtain ⟨p, t, i, c, rfl, hS, hz, hi, q⟩ := h
    have lk : ∀ {z : Int} {m : Str}, (m == "text") = false → (m == "length") = false → (m == "far") = false → (flds t z).lookup m = none := fun {z m} h1 h2 h3 => look_no t z h1 h2 h3
    obtain ⟨dx, z, hp⟩ := id hS
    refine ⟨_, PSs.nox (pss_cons (ps_if (pt_val (pe_mt DB hr (by decide) T.cl T.m_is_barred (pv 0) (pa_cons (pv 1) pa_nil))) (pss_one (ps_ret pe_bl)) pss_nil)
      (pss_cons (ps_set (i := 3) scFirst.nd rfl (.inl rfl) (pe_mt DA hr (by decide) T.cl T.m_at (pv 0) (pa_cons (pv 1) pa_nil)))
      (pss_cons (ps_if (PW.pt (pw_and (pt_cmpR op_neS (pv 3) (pe_S [] (by decide +kernel)) (nomark _)) (pw_and1 (pt_cmpR op_inS1 (pv 3) (pe_gv T.maybeFirst rfl) rfl))))
        (pss_cons (ps_if (pt_not (pt_val (pe_dn DS hr (by decide) T.g_is_safe rfl (pa_cons (pe_mt DA hr (by decide) T.cl T.m_at (pv 0) (pa_cons (pe_op op_add (pv 1) pe_int) pa_nil)) (pa_cons (pv 2) pa_nil)))))
          (pss_cons (ps_expr (pe_mt DM hr (by decide) T.cl T.m_miss (pv 0) (pa_cons (pe_op op_add (pv 1) pe_int) pa_nil))) (pss_one (ps_ret pe_bl))) pss_nil) (pss_one (ps_ret pe_bl))) pss_nil)
      (pss_cons (ps_if (PW.pt (pw_or (pt_not (pt_val (pe_dn DS hr (by decide) T.g_is_safe rfl (pa_cons (pv 3) (pa_cons (pv 2) pa_nil))))) (pw_or1 (pt_cmpR op_inS1 (pv 3) (pe_gv T.notFirst rfl) rfl))))
        (pss_cons (ps_expr (pe_mt DM hr (by decide) T.cl T.m_miss (pv 0) (pa_cons (pv 1) pa_nil))) (pss_one (ps_ret pe_bl))) pss_nil)
      (pss_one (ps_ret pe_bl)))))), ?_⟩
    refine ⟨_, rfl, p, dx, _, rfl, hp, lk (by decide +kernel) (by decide +kernel) (by decide +kernel), _, rfl, p, t, i, rfl, hS, hz, hi, fun H1 S1 => ⟨_, rfl, ?_⟩⟩
    unfold firstOk at q
    cases hm : mark t i with
    | true =>
      rw [hm] at q
      exact iteT (q H1 S1)
    | false =>
      rw [hm] at q
      refine iteF ?_
      obtain ⟨dx1, z1, hp1⟩ := id S1.at_
      refine ⟨_, rfl, p, dx1, _, rfl, hp1, lk (by decide +kernel) (by decide +kernel) (by decide +kernel), _, rfl, p, t, i, rfl, S1.at_, hz, ?_⟩
      refine ⟨_, rfl, _, _, rfl, rfl, _, rfl, ?_⟩
      -- is it one of - ? :
      cases hx : t[i]? with
      | none =>
        rw [hx] at q
        rw [sg_none hx]
        refine iteF (iteF ?_)
        refine ⟨_, rfl, _, rfl, none, c, rfl, _, rfl, iteT ?_⟩
        exact iteT ⟨_, rfl, p, dx1, _, rfl, hp1, lk (by decide +kernel) (by decide +kernel) (by decide +kernel), _, rfl, p, t, _, rfl, S1.at_, fun H2 S2 => q H2 (S1.trans S2)⟩
      | some x =>
        rw [hx] at q
        rw [sg_some hx]
        refine iteT ⟨_, rfl, x, [45, 63, 58], rfl, rfl, _, rfl, ?_⟩
        rw [mf_eq]
        cases hf : maybeFirst x with
        | true =>
          simp only [hf, if_true] at q
          refine iteT ⟨_, rfl, p, dx1, _, rfl, hp1, lk (by decide +kernel) (by decide +kernel) (by decide +kernel), _, rfl, _, _, rfl, rfl, p, t, i + 1, rfl, S1.at_, hz, _, rfl, t[i + 1]?, c, ?_, _, rfl, ?_⟩
          · rw [sg_eq]
            rfl
          · cases hs : safeO c.b t[i + 1]? with
            | true =>
              rw [hs] at q
              exact iteF (q H1 S1)
            | false =>
              rw [hs] at q
              exact iteT ⟨_, rfl, p, dx1, _, rfl, hp1, lk (by decide +kernel) (by decide +kernel) (by decide +kernel), _, rfl, _, _, rfl, rfl, p, t, _, rfl, S1.at_, fun H2 S2 => q H2 (S1.trans S2)⟩
        | false =>
          simp only [hf, Bool.false_eq_true, if_false] at q
          refine iteF ⟨_, rfl, _, rfl, some x, c, rfl, _, rfl, ?_⟩
          show if (!safe c.b x) = true then _ else _
          cases hs : safe c.b x with
          | false =>
            rw [hs] at q
            refine iteT ?_
            exact iteT ⟨_, rfl, p, dx1, _, rfl, hp1, lk (by decide +kernel) (by decide +kernel) (by decide +kernel), _, rfl, p, t, _, rfl, S1.at_, fun H2 S2 => q H2 (S1.trans S2)⟩
          | true =>
            rw [hs] at q
            refine iteF ⟨_, rfl, x, notFirstL, rfl, rfl, _, rfl, ?_⟩
            rw [nf_eq]
            cases hn : notFirst x with
            | true =>
              rw [hn] at q
              exact iteT ⟨_, rfl, p, dx1, _, rfl, hp1, lk (by decide +kernel) (by decide +kernel) (by decide +kernel), _, rfl, p, t, _, rfl, S1.at_, fun H2 S2 => q H2 (S1.trans S2)⟩
            | false =>
              rw [hn] at q
              exact iteF (q H1 S1)

def spNext (C : Addr) : Sp := fun vs H Q _ => ∃ (p : Addr) (t : List Nat) (i : Nat) (c : Ct) (beh : Bool), vs = [.ref p, .int i, VS c.lt, .bl beh] ∧ SrcAt C H p t ∧ Sz t ∧ i ≤ t.length ∧ ∀ H', Src C p t H H' → Q (.bl (nextOk c.b t i beh)) H'
theorem scNext : FnScope ["source", "i", "c", "is_behind", "sign"] ["source", "i", "c", "is_behind"] (defScope sNext) := ⟨rfl, rfl, rfl, by decide +kernel, rfl, by decide +kernel, by decide +kernel⟩
theorem dNext (T : Tx w K mg) : Dn P w K mg base 4 (He.ga K "is_next") ["source", "i", "c", "is_behind"] [] (spNext (cS K)) := by
  obtain ⟨fd, F⟩ := T.f_is_next
  have DA : Dn P w K mg base 1 (aM K "at") ["self", "i"] [] (spAt (cS K)) := dAt T
  have DB : Dn P w K mg base 3 (aM K "is_barred") ["self", "i"] [] (spBarred (cS K)) := dBarred T
  have DM : Dn P w K mg base 1 (aM K "miss") ["self", "i"] [] (spMiss (cS K)) := dMiss T
  have DS : Dn P w K mg base 1 (He.ga K "is_safe") ["sign", "c"] [] spSafe := dSafe T
  refine ⟨fd, [], F.ok scNext (fun vs H Q E h => ?_) (fun cdv A outer s H vs Q E hr h => ?_), F.bindsN fun _ _ _ _ _ _ us hl => match us, hl with | [_, _, _, _], _ => rfl, .nil, F.kp⟩
  · obtain ⟨p, t, i, c, beh, rfl, _⟩ := h
    rfl
  · obtain ⟨p, t, i, c, beh, rfl, hS, hz, hi, q⟩ := h
    have lk : ∀ {z : Int} {m : Str}, (m == "text") = false → (m == "length") = false → (m == "far") = false → (flds t z).lookup m = none := fun {z m} h1 h2 h3 => look_no t z h1 h2 h3
    obtain ⟨dx, z, hp⟩ := id hS
    refine ⟨_, PSs.nox (pss_cons (ps_if (pt_val (pe_mt DB hr (by decide) T.cl T.m_is_barred (pv 0) (pa_cons (pv 1) pa_nil))) (pss_one (ps_ret pe_bl)) pss_nil)
      (pss_cons (ps_set (i := 4) scNext.nd rfl (.inl rfl) (pe_mt DA hr (by decide) T.cl T.m_at (pv 0) (pa_cons (pv 1) pa_nil)))
      (pss_cons (ps_if (pt_cmpR op_eqS (pv 4) (pe_S [58] (by decide +kernel)) (nomark _))
        (pss_cons (ps_if (pt_not (pt_val (pe_dn DS hr (by decide) T.g_is_safe rfl (pa_cons (pe_mt DA hr (by decide) T.cl T.m_at (pv 0) (pa_cons (pe_op op_add (pv 1) pe_int) pa_nil)) (pa_cons (pv 2) pa_nil)))))
          (pss_cons (ps_expr (pe_mt DM hr (by decide) T.cl T.m_miss (pv 0) (pa_cons (pe_op op_add (pv 1) pe_int) pa_nil))) (pss_one (ps_ret pe_bl))) pss_nil) (pss_one (ps_ret pe_bl))) pss_nil)
      (pss_cons (ps_if (PW.pt (pw_or (pt_not (pt_val (pe_dn DS hr (by decide) T.g_is_safe rfl (pa_cons (pv 4) (pa_cons (pv 2) pa_nil))))) (pw_or1 (PW.pt (pw_and (pt_cmpR op_eqS (pv 4) (pe_S [35] (by decide +kernel)) (nomark _)) (pw_and1 (pt_not (pt_val (pv 3)))))))))
        (pss_cons (ps_expr (pe_mt DM hr (by decide) T.cl T.m_miss (pv 0) (pa_cons (pv 1) pa_nil))) (pss_one (ps_ret pe_bl))) pss_nil)
      (pss_one (ps_ret pe_bl)))))), ?_⟩
    refine ⟨_, rfl, p, dx, _, rfl, hp, lk (by decide +kernel) (by decide +kernel) (by decide +kernel), _, rfl, p, t, i, rfl, hS, hz, hi, fun H1 S1 => ⟨_, rfl, ?_⟩⟩
    unfold nextOk at q
    cases hm : mark t i with
    | true =>
      rw [hm] at q
      exact iteT (q H1 S1)
    | false =>
      rw [hm] at q
      refine iteF ?_
      obtain ⟨dx1, z1, hp1⟩ := id S1.at_
      refine ⟨_, rfl, p, dx1, _, rfl, hp1, lk (by decide +kernel) (by decide +kernel) (by decide +kernel), _, rfl, p, t, i, rfl, S1.at_, hz, ?_⟩
      refine ⟨_, rfl, _, _, rfl, rfl, _, rfl, ?_⟩
      cases hx : t[i]? with
      | none =>
        rw [hx] at q
        rw [sg_none hx]
        refine iteF ?_
        refine ⟨_, rfl, _, rfl, none, c, rfl, _, rfl, iteT ?_⟩
        exact iteT ⟨_, rfl, p, dx1, _, rfl, hp1, lk (by decide +kernel) (by decide +kernel) (by decide +kernel), _, rfl, p, t, _, rfl, S1.at_, fun H2 S2 => q H2 (S1.trans S2)⟩
      | some x =>
        rw [hx] at q
        rw [sg_some hx]
        rw [show decide (([x] : List Nat) = [58]) = decide (x = 58) by rw [decide_eq_decide]; simp]
        by_cases hf : x = 58
        · rw [decide_eq_true hf]
          simp only [hf, if_true] at q
          refine iteT ⟨_, rfl, p, dx1, _, rfl, hp1, lk (by decide +kernel) (by decide +kernel) (by decide +kernel), _, rfl, _, _, rfl, rfl, p, t, i + 1, rfl, S1.at_, hz, _, rfl, t[i + 1]?, c, ?_, _, rfl, ?_⟩
          · rw [sg_eq]
            rfl
          · cases hs : safeO c.b t[i + 1]? with
            | true =>
              rw [hs] at q
              exact iteF (q H1 S1)
            | false =>
              rw [hs] at q
              exact iteT ⟨_, rfl, p, dx1, _, rfl, hp1, lk (by decide +kernel) (by decide +kernel) (by decide +kernel), _, rfl, _, _, rfl, rfl, p, t, _, rfl, S1.at_, fun H2 S2 => q H2 (S1.trans S2)⟩
        · rw [decide_eq_false hf]
          simp only [hf, if_false] at q
          refine iteF ⟨_, rfl, _, rfl, some x, c, rfl, _, rfl, ?_⟩
          show if (!safe c.b x) = true then _ else _
          cases hs : safe c.b x with
          | false =>
            rw [hs] at q
            refine iteT ?_
            exact iteT ⟨_, rfl, p, dx1, _, rfl, hp1, lk (by decide +kernel) (by decide +kernel) (by decide +kernel), _, rfl, p, t, _, rfl, S1.at_, fun H2 S2 => q H2 (S1.trans S2)⟩
          | true =>
            rw [hs] at q
            refine iteF ⟨_, rfl, _, _, rfl, rfl, _, rfl, ?_⟩
            rw [show decide (([x] : List Nat) = [35]) = decide (x = 35) by rw [decide_eq_decide]; simp]
            by_cases hn : x = 35
            · rw [decide_eq_true hn] at q ⊢
              refine iteT ⟨_, rfl, _, rfl, ?_⟩
              cases beh with
              | true => exact iteF (q H1 S1)
              | false => exact iteT ⟨_, rfl, p, dx1, _, rfl, hp1, lk (by decide +kernel) (by decide +kernel) (by decide +kernel), _, rfl, p, t, _, rfl, S1.at_, fun H2 S2 => q H2 (S1.trans S2)⟩
            · rw [decide_eq_false hn] at q ⊢
              exact iteF (iteF (q H1 S1))
end
end Anp
/-! # part K7 -/
set_option maxHeartbeats 4000000
/-! row_end, plain_fold. -/
namespace Anp
open PySem PySem.Spec PyProof.Rows L2 Ap
section
variable {P : Program} {w : World} {K : PySem.W.Frag} {mg : Str → Option Value} {base : Heap}
theorem ieq (i j : Nat) : decide ((i : Int) = (j : Int)) = (i == j) := by
  rw [Bool.beq_eq_decide_eq, decide_eq_decide]
  omega

def spRowEnd (C : Addr) : Sp := fun vs H Q _ => ∃ (p : Addr) (t : List Nat) (i : Nat) (c : Ct), vs = [.ref p, .int i, VS c.lt] ∧ SrcAt C H p t ∧ Sz t ∧ i ≤ t.length ∧ ∀ e H', RowEnd c.b t i e → Src C p t H H' → Q (.int (e : Nat)) H'
theorem scRowEnd : FnScope ["source", "i", "c", "j"] ["source", "i", "c"] (defScope sRowEnd) := ⟨rfl, rfl, rfl, by decide +kernel, rfl, by decide +kernel, by decide +kernel⟩
theorem dRowEnd (T : Tx w K mg) : Dn P w K mg base 5 (He.ga K "row_end") ["source", "i", "c"] [] (spRowEnd (cS K)) := by
  obtain ⟨fd, F⟩ := T.f_row_end
  have DP : Dn P w K mg base 2 (aM K "past_blanks") ["self", "i"] [] (spPast (cS K)) := dPast T
  have DN : Dn P w K mg base 4 (He.ga K "is_next") ["source", "i", "c", "is_behind"] [] (spNext (cS K)) := dNext T
  refine ⟨fd, [], F.ok scRowEnd (fun vs H Q E h => ?_) (fun cdv A outer s H vs Q E hr h => ?_), F.bindsN fun _ _ _ _ _ _ us hl => match us, hl with | [_, _, _], _ => rfl, .nil, F.kp⟩
  · obtain ⟨p, t, i, c, rfl, _⟩ := h
    rfl
  · obtain ⟨p, t, i, c, rfl, hS, hz, hi, q⟩ := h
    have lk : ∀ {z : Int} {m : Str}, (m == "text") = false → (m == "length") = false → (m == "far") = false → (flds t z).lookup m = none := fun {z m} h1 h2 h3 => look_no t z h1 h2 h3
    refine ⟨_, PSs.nox (pss_one (ps_while PassesOwn.never (pt_val pe_bl)
      (pss_cons (ps_set (i := 3) scRowEnd.nd rfl (.inl rfl) (pe_mt DP hr (by decide) T.cl T.m_past_blanks (pv 0) (pa_cons (pv 1) pa_nil)))
      (pss_cons (ps_if (pt_not (pt_val (pe_dn DN hr (by decide) T.g_is_next rfl (pa_cons (pv 0) (pa_cons (pv 3) (pa_cons (pv 2) (pa_cons (pe_cmp (pc_eqI (pv 1) (pv 3)) rfl) pa_nil))))))) (pss_one (ps_ret (pv 1))) pss_nil)
      (pss_one (ps_set (i := 1) scRowEnd.nd rfl (.inl rfl) (pe_op op_add (pv 3) pe_int))))))), ?_⟩
    refine ⟨fun m σ H' => ∃ (k : Nat) (v : Option V), σ = [some (.ref p), some (.int k), some (VS c.lt), v] ∧ Src (cS K) p t H H' ∧ k ≤ t.length ∧ (∀ e, RowEnd c.b t k e → RowEnd c.b t i e) ∧ m = t.length - k, ⟨_, i, none, rfl, hS.src, hi, fun e z => z, rfl⟩, ?_⟩
    rintro m σ H' ⟨k, v, rfl, S1, hk, hR, rfl⟩
    obtain ⟨dx, z, hp⟩ := id S1.at_
    refine ⟨_, rfl, iteT ⟨fun σ' H2 => ∃ (k' : Nat) (v : Option V), σ' = [some (.ref p), some (.int k'), some (VS c.lt), v] ∧ Src (cS K) p t H H2 ∧ k' ≤ t.length ∧ (∀ e, RowEnd c.b t k' e → RowEnd c.b t i e) ∧ t.length - k' < t.length - k, fun σ' H2 ⟨k', v', h1, h2, h3, h4, h5⟩ => ⟨_, h5, k', v', h1, h2, h3, h4, rfl⟩, ?_⟩⟩
    refine ⟨_, rfl, p, dx, _, rfl, hp, lk (by decide +kernel) (by decide +kernel) (by decide +kernel), _, rfl, p, t, k, rfl, S1.at_, hz, ?_⟩
    refine ⟨_, rfl, _, rfl, _, rfl, _, rfl, _, rfl, _, _, rfl, rfl, p, t, pb t k, c, k == pb t k, ?_, S1.at_, hz, pb_len hk, fun H2 S2 => ⟨_, rfl, ?_⟩⟩
    · exact congrArg (fun z => [V.ref p, V.int ((pb t k : Nat) : Int), VS c.lt, V.bl z]) (ieq k (pb t k))
    · cases hn : nextOk c.b t (pb t k) (k == pb t k) with
      | false => exact iteT ⟨_, rfl, q k H2 (hR k (.stop hn)) (S1.trans S2)⟩
      | true =>
        have h1 := next_lt hn
        have h2 := pb_le t k
        exact iteF ⟨_, rfl, _, _, rfl, rfl, pb t k + 1, _, rfl, S1.trans S2, h1, fun e r => hR e (.go hn r), by omega⟩

def spFold (C : Addr) : Sp := fun vs H Q _ => ∃ (p : Addr) (t : List Nat) (i n : Nat), vs = [.ref p, .int i, .int n] ∧ SrcAt C H p t ∧ Sz t ∧ n ≤ 1000 ∧
  (∀ f c H' a, FoldAt t i n f c → Src C p t H H' → H' a = some (.tup [.int (f : Nat), VS (brk c)]) → Q (.ref a) H') ∧ (∀ H', NoFold t i n → Src C p t H H' → Q .non H')
theorem scFold : FnScope ["source", "i", "n", "j", "count", "k"] ["source", "i", "n"] (defScope sFold) := ⟨rfl, rfl, rfl, by decide +kernel, rfl, by decide +kernel, by decide +kernel⟩
theorem dFold (T : Tx w K mg) : Dn P w K mg base 3 (He.ga K "plain_fold") ["source", "i", "n"] [] (spFold (cS K)) := by
  obtain ⟨fd, F⟩ := T.f_plain_fold
  have DA : Dn P w K mg base 1 (aM K "at") ["self", "i"] [] (spAt (cS K)) := dAt T
  have DM : Dn P w K mg base 1 (aM K "miss") ["self", "i"] [] (spMiss (cS K)) := dMiss T
  have DP : Dn P w K mg base 2 (aM K "past_blanks") ["self", "i"] [] (spPast (cS K)) := dPast T
  have DI : Dn P w K mg base 2 (aM K "indented") ["self", "i", "n"] [] (spIndented (cS K)) := dIndented T
  refine ⟨fd, [], F.ok scFold (fun vs H Q E h => ?_) (fun cdv A outer s H vs Q E hr h => ?_), F.bindsN fun _ _ _ _ _ _ us hl => match us, hl with | [_, _, _], _ => rfl, .nil, F.kp⟩
  · obtain ⟨p, t, i, n, rfl, _⟩ := h
    rfl
  · obtain ⟨p, t, i, n, rfl, hS, hz, hn, q1, q2⟩ := h
    have lk : ∀ {z : Int} {m : Str}, (m == "text") = false → (m == "length") = false → (m == "far") = false → (flds t z).lookup m = none := fun {z m} h1 h2 h3 => look_no t z h1 h2 h3
    obtain ⟨dx, z, hp⟩ := id hS
    refine ⟨_, PSs.nox (pss_cons (ps_set (i := 3) scFold.nd rfl (.inl rfl) (pe_mt DP hr (by decide) T.cl T.m_past_blanks (pv 0) (pa_cons (pv 1) pa_nil)))
      (pss_cons (ps_if (pt_cmpR op_neS (pe_mt DA hr (by decide) T.cl T.m_at (pv 0) (pa_cons (pv 3) pa_nil)) (pe_S [10] (by decide +kernel)) (nomark _)) (pss_one (ps_ret (pe_mt DM hr (by decide) T.cl T.m_miss (pv 0) (pa_cons (pv 3) pa_nil)))) pss_nil)
      (pss_cons (ps_aug (i := 3) scFold.nd rfl (.inl rfl) pe_int ip_add)
      (pss_cons (ps_set (i := 4) scFold.nd rfl (.inl rfl) pe_int)
      (pss_cons (ps_while PassesOwn.never (pt_cmpR op_eqS (pe_mt DA hr (by decide) T.cl T.m_at (pv 0) (pa_cons (pe_mt DP hr (by decide) T.cl T.m_past_blanks (pv 0) (pa_cons (pv 3) pa_nil)) pa_nil)) (pe_S [10] (by decide +kernel)) (nomark _))
        (pss_cons (ps_set (i := 3) scFold.nd rfl (.inl rfl) (pe_op op_add (pe_mt DP hr (by decide) T.cl T.m_past_blanks (pv 0) (pa_cons (pv 3) pa_nil)) pe_int))
        (pss_one (ps_aug (i := 4) scFold.nd rfl (.inl rfl) pe_int ip_add))))
      (pss_cons (ps_set (i := 5) scFold.nd rfl (.inl rfl) (pe_mt DI hr (by decide) T.cl T.m_indented (pv 0) (pa_cons (pv 3) (pa_cons (pv 2) pa_nil))))
      (pss_cons (ps_if (pt_cmpR op_isN (pv 5) pe_non (nomark _)) (pss_one (ps_ret pe_non)) pss_nil)
      (pss_one (ps_ret (pe_tup (pa_cons (pe_mt DP hr (by decide) T.cl T.m_past_blanks (pv 0) (pa_cons (pv 5) pa_nil)) (pa_cons (pe_ifExp (pt_truth (pv 4) (by intro _; rfl)) (pe_op op_mulS (pe_S [10] (by decide +kernel)) (pv 4)) (pe_S [32] (by decide +kernel))) pa_nil)))))))))))), ?_⟩
    refine ⟨_, rfl, p, dx, _, rfl, hp, lk (by decide +kernel) (by decide +kernel) (by decide +kernel), _, rfl, p, t, i, rfl, hS, hz, ?_⟩
    refine ⟨_, rfl, p, dx, _, rfl, hp, lk (by decide +kernel) (by decide +kernel) (by decide +kernel), _, rfl, p, t, pb t i, rfl, hS, hz, _, _, rfl, rfl, _, rfl, ?_⟩
    rw [sg_is]
    by_cases h0 : t[pb t i]? = some 10
    · rw [decide_eq_true h0]
      refine iteF ?_
      refine ⟨_, rfl, _, _, rfl, rfl, ?_⟩
      refine ⟨fun m σ H' => ∃ (j c : Nat), σ = [some (.ref p), some (.int i), some (.int n), some (.int j), some (.int c), none] ∧ H' = H ∧ j ≤ t.length ∧ c ≤ j ∧ (∀ c' k, Empt t j c' k → Empt t (pb t i + 1) (c + c') k) ∧ m = t.length - j,
        ⟨_, pb t i + 1, 0, rfl, rfl, lt_of_at h0, Nat.zero_le _, fun c' k z => by rw [Nat.zero_add]; exact z, rfl⟩, ?_⟩
      rintro m σ H' ⟨j, c, rfl, rfl, hj, hc, hE, rfl⟩
      refine ⟨_, rfl, p, dx, _, rfl, hp, lk (by decide +kernel) (by decide +kernel) (by decide +kernel), _, rfl, p, dx, _, rfl, hp, lk (by decide +kernel) (by decide +kernel) (by decide +kernel), _, rfl, p, t, j, rfl, hS, hz, p, t, pb t j, rfl, hS, hz, _, _, rfl, rfl, _, rfl, ?_⟩
      rw [sg_is]
      by_cases h1 : t[pb t j]? = some 10
      · rw [decide_eq_true h1]
        have hlt := lt_of_at h1
        have hle := pb_le t j
        refine iteT ⟨fun σ' H2 => ∃ (j' c' : Nat), σ' = [some (.ref p), some (.int i), some (.int n), some (.int j'), some (.int c'), none] ∧ H2 = H' ∧ j' ≤ t.length ∧ c' ≤ j' ∧ (∀ c2 k, Empt t j' c2 k → Empt t (pb t i + 1) (c' + c2) k) ∧ t.length - j' < t.length - j,
          fun σ' H2 ⟨j', c', h1, h2, h3, h4, h5, h6⟩ => ⟨_, h6, j', c', h1, h2, h3, h4, h5, rfl⟩, ?_⟩
        refine ⟨_, rfl, p, dx, _, rfl, hp, lk (by decide +kernel) (by decide +kernel) (by decide +kernel), _, rfl, p, t, j, rfl, hS, hz, _, _, rfl, rfl, ?_⟩
        refine ⟨_, rfl, _, _, rfl, rfl, pb t j + 1, c + 1, rfl, rfl, hlt, by omega, fun c2 k z => ?_, by omega⟩
        rw [show c + 1 + c2 = c + (c2 + 1) by omega]
        exact hE _ _ (.cons h1 z)
      · rw [decide_eq_false h1]
        have hF : Empt t (pb t i + 1) c j := by
          have := hE 0 j (.nil h1)
          rwa [Nat.add_zero] at this
        refine iteF ⟨_, rfl, p, dx, _, rfl, hp, lk (by decide +kernel) (by decide +kernel) (by decide +kernel), _, rfl, _, rfl, p, t, j, n, rfl, hS, hz, hn, fun hall H2 S2 => ?_, fun k hk hb H2 S2 => ?_⟩
        · refine ⟨_, rfl, rfl, _, rfl, ?_⟩
          refine iteF ?_
          obtain ⟨dx2, z2, hp2⟩ := id S2.at_
          refine ⟨_, rfl, p, dx2, _, rfl, hp2, lk (by decide +kernel) (by decide +kernel) (by decide +kernel), _, rfl, p, t, j + n, rfl, S2.at_, hz, _, rfl, ((c : Int) != 0), rfl, ?_⟩
          have hFA : FoldAt t i n (pb t (j + n)) c := ⟨h0, j, hF, hall, rfl⟩
          have hc2 : c ≤ 1000000 := by
            have hz2 : t.length ≤ 100000 := hz
            omega
          by_cases hc0 : c = 0
          · subst hc0
            exact iteF ⟨by show 2 ≤ sizeLine; decide, fun a na => q1 _ 0 _ a hFA (S2.new na) upd_same⟩
          · rw [show ((c : Int) != 0) = true by
              rw [bne_iff_ne]
              omega]
            refine iteT ⟨_, rfl, 10, c, rfl, rfl, hc2, by show 2 ≤ sizeLine; decide, fun a na => q1 _ c _ a hFA (S2.new na) ?_⟩
            rw [upd_same]
            unfold brk
            rw [if_neg hc0]
        · refine ⟨_, rfl, rfl, _, rfl, ?_⟩
          exact iteT (q2 H2 (.inr ⟨h0, c, j, hF, k, hk, hb⟩) S2)
    · rw [decide_eq_false h0]
      refine iteT ⟨_, rfl, p, dx, _, rfl, hp, lk (by decide +kernel) (by decide +kernel) (by decide +kernel), _, rfl, p, t, _, rfl, hS, fun H2 S2 => q2 H2 (.inl h0) S2⟩
end
end Anp
/-! # part K8 -/
set_option maxHeartbeats 4000000
/-! plain. -/
namespace Anp
open PySem PySem.Spec PyProof.Rows L2 Ap
section
variable {P : Program} {w : World} {K : PySem.W.Frag} {mg : Str → Option Value} {base : Heap}
theorem on_line (c : Ct) : ([[75], [80]] : List (List Nat)).contains c.lt = c.l := by cases c <;> rfl
def spPlain (C : Addr) : Sp := fun vs H Q _ => ∃ (p : Addr) (t : List Nat) (n : Nat) (c : Ct), vs = [.ref p, .int 1, .int n, VS c.lt] ∧ SrcAt C H p t ∧ Sz t ∧ 1 ≤ t.length ∧ n ≤ 1000 ∧
  (∀ H', PlainR c.b c.l n t none → Src C p t H H' → Q .non H') ∧ (∀ e v H' a, PlainR c.b c.l n t (some (e, v)) → v.length ≤ t.length → Src C p t H H' → H' a = some (.tup [.int (e : Nat), VS v]) → Q (.ref a) H')
theorem scPlain : FnScope ["source", "i", "n", "c", "end", "value", "found"] ["source", "i", "n", "c"] (defScope sPlain) := ⟨rfl, rfl, rfl, by decide +kernel, rfl, by decide +kernel, by decide +kernel⟩
theorem slice_cut (t : List Nat) (i e : Nat) : cutL t (some (i : Int)) (some (e : Int)) = slice t i e := cut_nat t i e
theorem dPlain (T : Tx w K mg) : Dn P w K mg base 6 (He.ga K "plain") ["source", "i", "n", "c"] [] (spPlain (cS K)) := by
  obtain ⟨fd, F⟩ := T.f_plain
  have DF : Dn P w K mg base 4 (He.ga K "is_first") ["source", "i", "c"] [] (spFirst (cS K)) := dFirst T
  have DN : Dn P w K mg base 4 (He.ga K "is_next") ["source", "i", "c", "is_behind"] [] (spNext (cS K)) := dNext T
  have DR : Dn P w K mg base 5 (He.ga K "row_end") ["source", "i", "c"] [] (spRowEnd (cS K)) := dRowEnd T
  have DO : Dn P w K mg base 3 (He.ga K "plain_fold") ["source", "i", "n"] [] (spFold (cS K)) := dFold T
  refine ⟨fd, [], F.ok scPlain (fun vs H Q E h => ?_) (fun cdv A outer s H vs Q E hr h => ?_), F.bindsN fun _ _ _ _ _ _ us hl => match us, hl with | [_, _, _, _], _ => rfl, .nil, F.kp⟩
  · obtain ⟨p, t, n, c, rfl, _⟩ := h
    rfl
  · obtain ⟨p, t, n, c, rfl, hS, hz, h1, hn, q1, q2⟩ := h
    refine ⟨_, PSs.nox (pss_cons (ps_if (pt_not (pt_val (pe_dn DF hr (by decide) T.g_is_first rfl (pa_cons (pv 0) (pa_cons (pv 1) (pa_cons (pv 3) pa_nil)))))) (pss_one (ps_ret pe_non)) pss_nil)
      (pss_cons (ps_set (i := 4) scPlain.nd rfl (.inl rfl) (pe_dn DR hr (by decide) T.g_row_end rfl (pa_cons (pv 0) (pa_cons (pe_op op_add (pv 1) pe_int) (pa_cons (pv 3) pa_nil)))))
      (pss_cons (ps_set (i := 5) scPlain.nd rfl (.inl rfl) (pe_slice sl_S (pe_fld (pv 0) rfl) (po_some (pv 1)) (po_some (pv 4))))
      (pss_cons (ps_while PassesOwn.never (pt_cmpR op_ninT (pv 3) (pe_gl T.g_ON_A_LINE rfl) rfl)
        (pss_cons (ps_set (i := 6) scPlain.nd rfl (.inl rfl) (pe_dn DO hr (by decide) T.g_plain_fold rfl (pa_cons (pv 0) (pa_cons (pv 4) (pa_cons (pv 2) pa_nil)))))
        (pss_cons (ps_if (PW.pt (pw_or (pt_cmpR op_isN (pv 6) pe_non (nomark _)) (pw_or1 (pt_not (pt_val (pe_dn DN hr (by decide) T.g_is_next rfl (pa_cons (pv 0) (pa_cons (pe_ix ix_tup (pv 6) pe_int (fun _ _ => rfl)) (pa_cons (pv 3) (pa_cons pe_bl pa_nil)))))))))) (pss_one ps_break) pss_nil)
        (pss_cons (ps_set (i := 4) scPlain.nd rfl (.inl rfl) (pe_dn DR hr (by decide) T.g_row_end rfl (pa_cons (pv 0) (pa_cons (pe_op op_add (pe_ix ix_tup (pv 6) pe_int (fun _ _ => rfl)) pe_int) (pa_cons (pv 3) pa_nil)))))
        (pss_one (ps_aug (i := 5) scPlain.nd rfl (.inl rfl) (pe_op op_addS (pe_ix ix_tup (pv 6) pe_int (fun _ _ => rfl)) (pe_slice sl_S (pe_fld (pv 0) rfl) (po_some (pe_ix ix_tup (pv 6) pe_int (fun _ _ => rfl))) (po_some (pv 4)))) ip_addS))))))
      (pss_one (ps_ret (pe_tup (pa_cons (pv 4) (pa_cons (pv 5) pa_nil))))))))), ?_⟩
    have hz2 : t.length ≤ 100000 := hz
    refine ⟨_, rfl, _, rfl, _, rfl, p, t, 1, c, rfl, hS, hz, h1, fun H1 S1 => ⟨_, rfl, ?_⟩⟩
    cases hf : firstOk c.b t 1 with
    | false => exact iteT (q1 H1 (.no hf) S1)
    | true =>
      have h2 : 2 ≤ t.length := by
        obtain ⟨x, hx, _⟩ := first_sg hf
        exact lt_of_at hx
      refine iteF ⟨_, rfl, _, rfl, _, _, rfl, rfl, _, rfl, p, t, 2, c, rfl, S1.at_, hz, h2, fun e0 H2 R0 S2 => ?_⟩
      have S02 := S1.trans S2
      obtain ⟨dx, z, hp⟩ := id S2.at_
      have he0 := row_le R0
      have hl0 := row_len R0 h2
      refine ⟨_, rfl, p, cS K, dx, _, _, rfl, hp, T.cl, T.no_text, look_text t z, _, rfl, _, rfl, _, rfl, _, rfl, t, rfl, Nat.le_trans hz (by decide), ?_⟩
      rw [show cutL t (some 1) (some (e0 : Int)) = slice t 1 e0 from slice_cut t 1 e0]
      have hv0 := slice_len t 1 e0
      -- the rest, from a given end and value
      refine ⟨fun m σ H' => ∃ (e : Nat) (v : List Nat) (x : Option V), σ = [some (.ref p), some (.int 1), some (.int n), some (VS c.lt), some (.int e), some (VS v), x] ∧ Src (cS K) p t H H' ∧ e ≤ t.length ∧ v.length ≤ e ∧
          (c.l = true → PlainR c.b c.l n t (some (e, v))) ∧ (c.l = false → ∀ e2 v2, Tail c.b n t e v e2 v2 → PlainR c.b c.l n t (some (e2, v2))) ∧ m = t.length - e,
        ⟨_, e0, _, none, rfl, S02, hl0, by omega, fun hc => .yes hf R0 (by rw [if_pos hc]; exact ⟨rfl, rfl⟩), fun hc e2 v2 tl => .yes hf R0 (by rw [hc, if_neg Bool.false_ne_true]; exact tl), rfl⟩, ?_⟩
      rintro m σ H' ⟨e, v, x, rfl, S3, he, hv, hT, hF, rfl⟩
      refine ⟨_, rfl, c.lt, _, [[75], [80]], rfl, rfl, T.onLine _, !c.l, (by cases c <;> rfl), ?_⟩
      cases hc : c.l with
      | true =>
        rw [hc] at hT q2
        exact iteF ⟨_, rfl, _, rfl, by show 2 ≤ sizeLine; decide, fun a na => q2 e v _ a (hT rfl) (by omega) (S3.new na) upd_same⟩
      | false =>
        rw [hc] at hF hT q2
        have fin : ∀ H4, Src (cS K) p t H H4 → PlainR c.b false n t (some (e, v)) → ∀ x', (fun (σ : L2.St) (H : Hp) => tRet (tTup (tCons (tVar 4) (tCons (tVar 5) tNil))) { nx := fun _ H' => Q .non H', rt := Q } σ H) [some (.ref p), some (.int 1), some (.int n), some (VS c.lt), some (.int e), some (VS v), x'] H4 :=
          fun H4 S4 R x' => ⟨_, rfl, _, rfl, by show 2 ≤ sizeLine; decide, fun a na => q2 e v _ a R (by omega) (S4.new na) upd_same⟩
        refine iteT ⟨fun σ' H4 => ∃ (e' : Nat) (v' : List Nat) (x : Option V), σ' = [some (.ref p), some (.int 1), some (.int n), some (VS c.lt), some (.int e'), some (VS v'), x] ∧ Src (cS K) p t H H4 ∧ e' ≤ t.length ∧ v'.length ≤ e' ∧
            (false = true → PlainR c.b false n t (some (e', v'))) ∧ (false = false → ∀ e2 v2, Tail c.b n t e' v' e2 v2 → PlainR c.b false n t (some (e2, v2))) ∧ t.length - e' < t.length - e,
          fun σ' H4 ⟨e', v', x', g1, g2, g3, g4, g5, g6, g7⟩ => ⟨_, g7, e', v', x', g1, g2, g3, g4, g5, g6, rfl⟩, ?_⟩
        refine ⟨_, rfl, _, rfl, _, rfl, p, t, e, n, rfl, S3.at_, hz, hn, fun f k H4 a hA S4 ha => ?_, fun H4 hN S4 => ?_⟩
        · have S34 := S3.trans S4
          obtain ⟨hfl, hfe⟩ := fold_len hA
          have hat : ∀ {H5 : Hp}, Kp p H4 H5 → H5 a = some (.tup [.int (f : Nat), VS (brk k)]) := fun {H5} kp => kp a _ ha fun z => by
            subst z
            obtain ⟨dx4, z4, hp4⟩ := S4.at_
            rw [ha] at hp4
            cases hp4
          refine ⟨_, rfl, rfl, _, rfl, iteF ⟨_, rfl, _, rfl, a, _, 0, _, rfl, rfl, SqT.of ha, rfl, _, rfl, p, t, f, c, false, rfl, S4.at_, hz, hfl, fun H5 S5 => ⟨_, rfl, ?_⟩⟩⟩
          have S35 := S34.trans S5
          cases hx : nextOk c.b t f false with
          | false => exact iteT (fin H5 S35 (hF rfl _ _ (.stop2 hA hx)) _)
          | true =>
            have hflt := next_lt hx
            refine iteF ⟨_, rfl, _, rfl, a, _, 0, _, rfl, rfl, SqT.of (hat S5.kp), rfl, _, _, rfl, rfl, _, rfl, p, t, f + 1, c, rfl, S5.at_, hz, hflt, fun e1 H6 R1 S6 => ?_⟩
            have S36 := S35.trans S6
            have S46 := S5.trans S6
            obtain ⟨dx6, z6, hp6⟩ := id S6.at_
            have hr1 := row_le R1
            have hr2 := row_len R1 hflt
            refine ⟨_, rfl, _, rfl, a, _, 1, _, rfl, rfl, SqT.of (hat S46.kp), rfl, _, rfl, p, cS K, dx6, _, _, rfl, hp6, T.cl, T.no_text, look_text t z6, _, rfl, a, _, 0, _, rfl, rfl, SqT.of (hat S46.kp), rfl, _, rfl, _, rfl, _, rfl, t, rfl, Nat.le_trans hz (by decide), ?_⟩
            rw [slice_cut]
            have hb := brk_len k
            have hs := slice_len t f e1
            refine ⟨brk k, slice t f e1, rfl, rfl, by omega, v, _, rfl, rfl, by rw [List.length_append]; omega, ?_⟩
            exact ⟨e1, _, _, rfl, S36, hr2, by rw [List.length_append, List.length_append]; omega, fun z => (nomatch z), fun _ e2 v2 tl => hF rfl _ _ (.go hA hx R1 tl), by omega⟩
        · refine ⟨_, rfl, rfl, _, rfl, iteT ?_⟩
          exact fin H4 (S3.trans S4) (hF rfl _ _ (.stop1 hN)) _
end
end Anp
/-! # part K9 -/
set_option maxHeartbeats 4000000
/-! is_sign, is_text, is_from_to, the checks. -/
namespace Anp
open PySem PySem.Spec PyProof.Rows L2 Ap
/-- a sign that there is -/
def txOk (x : Nat) : Bool := (decide (32 ≤ x) && decide (x ≤ 126)) || ([9, 10] : List Nat).contains x
def TxOk (t : List Nat) : Prop := ∀ x ∈ t, txOk x = true
def sgO : Option Nat → Bool
  | none => false
  | some x => isSg x
/-- [.. for c in s] -/
theorem lc_str {t : List Nat} {g : TG} {tt : TT} {te : TE} {vs : List Nat} {σ : L2.St} {H1 : Hp} {D : Addr} {Qd : Hp → Prop} (Pv : Nat → Hp → Prop) (h0 : Pv 0 (upd H1 D (.lst [])))
    (hs : ∀ (i : Nat) c H, t[i]? = some c → Pv i H → g (VS [c]) (wipe σ vs) H fun σ2 H2 => wipe σ2 vs = wipe σ vs ∧ tt σ2 H2 fun b H3 =>
      if b = true then te σ2 H3 fun y H4 => ∃ acc, H4 D = some (.lst acc) ∧ acc.length < sizeLine ∧ Pv (i + 1) (upd H4 D (.lst (acc ++ [y]))) else Pv (i + 1) H3) (hd : ∀ H, Pv t.length H → Qd H) :
    ∃ W : Nat → Nat → Hp → Prop, (∃ m, W 0 m (upd H1 D (.lst []))) ∧ ∀ i m H, W i m H →
      ((Its (S t)).stop i H ∧ Qd H) ∨ ((Its (S t)).go i H ∧ ∃ Nx : Hp → Prop, (∀ H', Nx H' → ∃ m', m' < m ∧ W (i + 1) m' H') ∧ ∀ x H', (Its (S t)).yld i H x H' → g x (wipe σ vs) H' fun σ2 H2 => wipe σ2 vs = wipe σ vs ∧ tt σ2 H2 fun b H3 =>
        if b = true then te σ2 H3 fun y H4 => ∃ acc, H4 D = some (.lst acc) ∧ acc.length < sizeLine ∧ Nx (upd H4 D (.lst (acc ++ [y]))) else Nx H3) := by
  refine ⟨fun i m H => m = t.length - i ∧ i ≤ t.length ∧ Pv i H, ⟨t.length, by simp, Nat.zero_le _, h0⟩, ?_⟩
  rintro i m H ⟨rfl, hi, p⟩
  by_cases hlt : i < t.length
  · refine .inr ⟨(by show i < t.toArray.size; rw [List.size_toArray]; exact hlt), Pv (i + 1), fun H' p' => ⟨t.length - (i + 1), by omega, rfl, hlt, p'⟩, fun x H' y => ?_⟩
    obtain ⟨e, c, hc, e2⟩ := y
    subst e e2
    exact hs i c _ (by rw [← hc]; show _ = t.toArray[i]?; rw [List.getElem?_toArray]) p
  · have e : i = t.length := by omega
    subst e
    exact .inl ⟨(by show t.toArray.size ≤ t.length; rw [List.size_toArray]; exact Nat.le_refl _), hd H p⟩
section
variable {P : Program} {w : World} {K : PySem.W.Frag} {mg : Str → Option Value} {base : Heap}
def spSign : Sp := fun vs H Q _ => ∃ o : Option Nat, vs = [VS o.toList] ∧ Q (.bl (sgO o)) H
theorem scSign : FnScope ["sign"] ["sign"] (defScope sSign) := ⟨rfl, rfl, rfl, by decide +kernel, rfl, by decide +kernel, by decide +kernel⟩
theorem dSign (T : Tx w K mg) : Dn P w K mg base 1 (He.ga K "is_sign") ["sign"] [] spSign := by
  obtain ⟨fd, F⟩ := T.f_is_sign
  refine ⟨fd, [], F.ok scSign (fun vs H Q E h => ?_) (fun cdv A outer s H vs Q E hr h => ?_), F.bindsN fun _ _ _ _ _ _ us hl => match us, hl with | [_], _ => rfl, .nil, F.kp⟩
  · obtain ⟨o, rfl, _⟩ := h
    rfl
  · obtain ⟨o, rfl, q⟩ := h
    refine ⟨_, PSs.nox (pss_one (ps_ret (pe_chain op_leS op_leS (pe_S [33] (by decide +kernel)) (pv 0) (pe_S [126] (by decide +kernel))))), ?_⟩
    refine ⟨_, rfl, [33], o.toList, rfl, rfl, _, rfl, ?_⟩
    cases o with
    | none =>
      rw [show (!decide ((none : Option Nat).toList < [33])) = false from lt_nil 33]
      exact iteF q
    | some x =>
      rw [show (!decide ((some x : Option Nat).toList < [33])) = decide (33 ≤ x) from lt_sg x 33]
      have e0 : sgO (some x) = (decide (33 ≤ x) && decide (x ≤ 126)) := rfl
      rw [e0] at q
      by_cases h1 : 33 ≤ x
      · rw [decide_eq_true h1] at q ⊢
        refine iteT ⟨[x], [126], rfl, rfl, ?_⟩
        rw [show (!decide ([126] < [x])) = decide (x ≤ 126) from lt_sg 126 x]
        exact q
      · rw [decide_eq_false h1] at q ⊢
        exact iteF q

def spText : Sp := fun vs H Q _ => ∃ t : List Nat, vs = [VS t] ∧ Sz t ∧ TxOk t ∧ ∀ H', Same H H' → Q (.bl true) H'
theorem scText : FnScope ["thing", "sign"] ["thing"] (defScope sText) := ⟨rfl, rfl, rfl, by decide +kernel, rfl, by decide +kernel, by decide +kernel⟩
theorem same_new {H : Hp} {q : Addr} {o : HO} (h : H q = none) : Same H (upd H q o) := fun b u e => by
  rw [upd_ne (ne_of_none e h)]
  exact e
theorem same_own {H H' : Hp} {q : Addr} {o : HO} (s : Same H H') (h : H q = none) : Same H (upd H' q o) := fun b u e => by
  rw [upd_ne (ne_of_none e h)]
  exact s b u e
theorem all_true (n : Nat) : (List.replicate n true).all id = true := by simp
theorem map_true (n : Nat) : (List.replicate n true).map V.bl = List.replicate n (V.bl true) := List.map_replicate
theorem dText (T : Tx w K mg) : Dn P w K mg base 1 (He.ga K "is_text") ["thing"] [] spText := by
  obtain ⟨fd, F⟩ := T.f_is_text
  refine ⟨fd, [], F.ok scText (fun vs H Q E h => ?_) (fun cdv A outer s H vs Q E hr h => ?_), F.bindsN fun _ _ _ _ _ _ us hl => match us, hl with | [_], _ => rfl, .nil, F.kp⟩
  · obtain ⟨t, rfl, _⟩ := h
    rfl
  · obtain ⟨t, rfl, hz, ht, q⟩ := h
    refine ⟨_, PSs.nox (pss_one (ps_ret (pe_and (pe_callB call_isi (by rfl) T.n_isinstance boot_isinstance (pa_cons (pv 0) (pa_cons (pe_bltn (v := .ty "str") (by rfl) T.n_str PyProof.Rows.boot_str rfl) pa_nil)))
      (pe_one (pe_callB (cr_all rfl) (by rfl) T.n_all boot_all (pa_cons (pe_lc (own := [("sign", 1)]) (g := gName 1) (tt := tYes) rfl scText.nd (pi_str (pv 0)) (blkOk_by (own := [("sign", 1)]) (N := ["thing", "sign"]) (sc := defScope sText) (by decide +kernel))
        (fun _ _ _ _ _ => pg_name (i := 1) scText.nd rfl (Or.inl rfl)) (fun _ _ _ _ _ => pts_nil)
        (fun _ _ _ _ _ => pe_or (pe_chain op_leS op_leS (pe_S [32] (by decide +kernel)) (pv 1) (pe_S [126] (by decide +kernel))) (pe_one (pe_cmpR op_inS1 (pv 1) (pe_S [9, 10] (by decide +kernel)) rfl)))) pa_nil)))))), ?_⟩
    refine ⟨_, rfl, _, _, .type "str", .type "str", true, rfl, .ty "str", .base (.str _), kit_ty (by decide +kernel), true, rfl, iteT ?_⟩
    refine ⟨_, rfl, S t, rfl, fun D hD => ?_⟩
    have hz2 : t.length ≤ 100000 := hz
    refine lc_str (t := t) (fun i H' => i ≤ t.length ∧ Same H H' ∧ H' D = some (.lst (List.replicate i (V.bl true)))) ⟨Nat.zero_le _, same_new hD, upd_same⟩ ?_ ?_
    · rintro i c H' hi ⟨hle, S1, h1⟩
      refine ⟨rfl, ?_⟩
      refine ⟨_, rfl, [32], [c], rfl, rfl, _, rfl, ?_⟩
      have hc := ht c (List.mem_of_getElem? hi)
      unfold txOk at hc
      have hlt := lt_of_at hi
      have fin : ∃ acc, H' D = some (.lst acc) ∧ acc.length < sizeLine ∧ (i + 1 ≤ t.length ∧ Same H (upd H' D (.lst (acc ++ [V.bl true]))) ∧ (upd H' D (.lst (acc ++ [V.bl true]))) D = some (.lst (List.replicate (i + 1) (V.bl true)))) :=
        ⟨_, h1, by rw [List.length_replicate]; exact Nat.lt_of_lt_of_le (show i < 100001 by omega) (by decide), hlt, same_own S1 hD, by rw [upd_same, List.replicate_succ']⟩
      rw [show (!decide (([c] : List Nat) < [32])) = decide (32 ≤ c) from lt_sg c 32]
      by_cases a1 : 32 ≤ c
      · rw [decide_eq_true a1] at hc ⊢
        refine iteT ⟨[c], [126], rfl, rfl, _, rfl, ?_⟩
        rw [show (!decide (([126] : List Nat) < [c])) = decide (c ≤ 126) from lt_sg 126 c]
        by_cases a2 : c ≤ 126
        · rw [decide_eq_true a2]
          exact iteT fin
        · rw [decide_eq_false a2] at hc ⊢
          refine iteF ⟨_, rfl, c, [9, 10], rfl, rfl, ?_⟩
          have hc2 : ([9, 10] : List Nat).contains c = true := hc
          rw [hc2]
          exact fin
      · rw [decide_eq_false a1] at hc ⊢
        refine iteF ⟨_, rfl, iteF ⟨_, rfl, c, [9, 10], rfl, rfl, ?_⟩⟩
        have hc2 : ([9, 10] : List Nat).contains c = true := hc
        rw [hc2]
        exact fin
    · rintro H' ⟨_, S1, h1⟩
      refine ⟨D, List.replicate t.length true, rfl, SqL.of (by rw [map_true]; exact h1), ?_⟩
      rw [all_true]
      exact q H' S1

def spFromTo : Sp := fun vs H Q _ => ∃ i lo hi : Int, vs = [.int i, .int lo, .int hi] ∧ lo ≤ i ∧ i ≤ hi ∧ Q (.bl true) H
theorem scFromTo : FnScope ["thing", "low", "high"] ["thing", "low", "high"] (defScope sFromTo) := ⟨rfl, rfl, rfl, by decide +kernel, rfl, by decide +kernel, by decide +kernel⟩
theorem dFromTo (T : Tx w K mg) : Dn P w K mg base 1 (He.ga K "is_from_to") ["thing", "low", "high"] [] spFromTo := by
  obtain ⟨fd, F⟩ := T.f_is_from_to
  refine ⟨fd, [], F.ok scFromTo (fun vs H Q E h => ?_) (fun cdv A outer s H vs Q E hr h => ?_), F.bindsN fun _ _ _ _ _ _ us hl => match us, hl with | [_, _, _], _ => rfl, .nil, F.kp⟩
  · obtain ⟨i, lo, hi, rfl, _⟩ := h
    rfl
  · obtain ⟨i, lo, hi, rfl, h1, h2, q⟩ := h
    refine ⟨_, PSs.nox (pss_one (ps_ret (pe_and (pe_callB call_isi (by rfl) T.n_isinstance boot_isinstance (pa_cons (pv 0) (pa_cons (pe_bltn (v := .ty "int") (by rfl) T.n_int PyProof.Rows.boot_int rfl) pa_nil)))
      (pe_and (pe_not (pe_callB call_isi (by rfl) T.n_isinstance boot_isinstance (pa_cons (pv 0) (pa_cons (pe_bltn (v := .ty "bool") (by rfl) T.n_bool PyProof.Rows.boot_bool rfl) pa_nil))))
      (pe_one (pe_chain op_le op_le (pv 1) (pv 0) (pv 2))))))), ?_⟩
    refine ⟨_, rfl, _, _, .type "int", .type "int", true, rfl, .ty "int", .base (.int _), kit_ty (by decide +kernel), true, rfl, iteT ?_⟩
    refine ⟨_, rfl, _, _, .type "int", .type "bool", false, rfl, .ty "bool", .base (.int _), kit_ty (by decide +kernel), false, rfl, true, rfl, iteT ?_⟩
    refine ⟨_, rfl, _, rfl, lo, i, rfl, rfl, true, congrArg V.bl (decide_eq_true h1), iteT ⟨_, rfl, i, hi, rfl, rfl, ?_⟩⟩
    show Q (V.bl (decide (i ≤ hi))) H
    rw [decide_eq_true h2]
    exact q

def spCkValue : Sp := fun vs H Q _ => ∃ t : List Nat, vs = [VS t] ∧ t.length ≤ 3000 ∧ TxOk t ∧ ∀ H', Same H H' → Q .non H'
theorem scCkValue : FnScope ["value"] ["value"] (defScope sCkValue) := ⟨rfl, rfl, rfl, by decide +kernel, rfl, by decide +kernel, by decide +kernel⟩
theorem intV {x : Str} {i : Int} (h : ∃ t, mg x = some (.int i t)) : ∃ u, mg x = some u ∧ RelV (.int i) u := by
  obtain ⟨t, h⟩ := h
  exact ⟨_, h, t, rfl⟩
theorem dCkValue (T : Tx w K mg) : Dn P w K mg base 2 (He.ga K "check_value") ["value"] [] spCkValue := by
  obtain ⟨fd, F⟩ := T.f_check_value
  have DT : Dn P w K mg base 1 (He.ga K "is_text") ["thing"] [] spText := dText T
  refine ⟨fd, [], F.ok scCkValue (fun vs H Q E h => ?_) (fun cdv A outer s H vs Q E hr h => ?_), F.bindsN fun _ _ _ _ _ _ us hl => match us, hl with | [_], _ => rfl, .nil, F.kp⟩
  · obtain ⟨t, rfl, _⟩ := h
    rfl
  · obtain ⟨t, rfl, hz, ht, q⟩ := h
    refine ⟨_, PSs.nox (pss_one (ps_if (PW.pt (pw_or (pt_not (pt_val (pe_dn DT hr (by decide) T.g_is_text rfl (pa_cons (pv 0) pa_nil)))) (pw_or1 (pt_cmpR op_gt (pe_callB call_len_str (by rfl) T.n_len PySem.boot_len (pa_cons (pv 0) pa_nil)) (pe_gv (intV T.i_MOST_SIGNS) rfl) (nomark _)))))
      (pss_one ps_never) pss_nil)), ?_⟩
    refine ⟨_, rfl, t, rfl, Nat.le_trans hz (by decide), ht, fun H1 S1 => ⟨_, rfl, iteF ?_⟩⟩
    refine ⟨_, rfl, S t, rfl, by rw [S_len]; exact Nat.le_trans hz (by decide), _, _, rfl, rfl, false, ?_, iteF (q H1 S1)⟩
    refine congrArg V.bl (decide_eq_false ?_)
    rw [S_len]
    omega

def plainL : List Nat := [112, 108, 97, 105, 110]
theorem Tx.letters (T : Tx w K mg) (c : Ct) : KDct K w (He.ga K "LETTERS") (S c.nm) (VS c.lt) := by
  obtain ⟨es, n, D⟩ := T.tab 0
  have h := fun q hq => He.valsB_ok (q := q) T.parts.1.1.1 hq
  cases c with
  | O =>
    obtain ⟨u, h1, h2⟩ := h ("block", .str "O") (by simp)
    exact ⟨es, n, u, D.at_, D.lit, by rw [← h1]; exact congrArg _ (by decide +kernel), h2⟩
  | K =>
    obtain ⟨u, h1, h2⟩ := h ("key", .str "K") (by simp)
    exact ⟨es, n, u, D.at_, D.lit, by rw [← h1]; exact congrArg _ (by decide +kernel), h2⟩
  | I =>
    obtain ⟨u, h1, h2⟩ := h ("flow", .str "I") (by simp)
    exact ⟨es, n, u, D.at_, D.lit, by rw [← h1]; exact congrArg _ (by decide +kernel), h2⟩
  | P =>
    obtain ⟨u, h1, h2⟩ := h ("pair", .str "P") (by simp)
    exact ⟨es, n, u, D.at_, D.lit, by rw [← h1]; exact congrArg _ (by decide +kernel), h2⟩
theorem Tx.behind (T : Tx w K mg) (c : Ct) : KDct K w (He.ga K "BEHIND") (S c.nm) (VS c.beh) := by
  obtain ⟨es, n, D⟩ := T.tab 1
  have h := fun q hq => He.valsB_ok (q := q) T.parts.1.1.2 hq
  cases c with
  | O =>
    obtain ⟨u, h1, h2⟩ := h ("block", .str "\n") (by simp)
    exact ⟨es, n, u, D.at_, D.lit, by rw [← h1]; exact congrArg _ (by decide +kernel), h2⟩
  | K =>
    obtain ⟨u, h1, h2⟩ := h ("key", .str ": ") (by simp)
    exact ⟨es, n, u, D.at_, D.lit, by rw [← h1]; exact congrArg _ (by decide +kernel), h2⟩
  | I =>
    obtain ⟨u, h1, h2⟩ := h ("flow", .str "]") (by simp)
    exact ⟨es, n, u, D.at_, D.lit, by rw [← h1]; exact congrArg _ (by decide +kernel), h2⟩
  | P =>
    obtain ⟨u, h1, h2⟩ := h ("pair", .str ": ") (by simp)
    exact ⟨es, n, u, D.at_, D.lit, by rw [← h1]; exact congrArg _ (by decide +kernel), h2⟩
theorem Tx.quotes (T : Tx w K mg) : KDct K w (He.ga K "QUOTES") (S plainL) (VS []) := by
  obtain ⟨es, n, D⟩ := T.tab 2
  obtain ⟨u, h1, h2⟩ := He.valsB_ok (q := ("plain", .str "")) T.parts.1.2.1 (by simp)
  exact ⟨es, n, u, D.at_, D.lit, by rw [← h1]; exact congrArg _ (by decide +kernel), h2⟩
theorem Tx.heads (T : Tx w K mg) : (∃ es n, KDict K w (He.ga K "HEADS") es n) ∧ PySem.W.nsIn K (He.ga K "HEADS") (S plainL) = some none := by
  refine ⟨T.tab 3, ?_⟩
  rw [← He.eqO_ok T.parts.1.2.2]
  exact congrArg _ (by decide +kernel)

def spCkPlace : Sp := fun vs H Q _ => ∃ c : Ct, vs = [VS plainL, VS c.nm] ∧ Q .non H
theorem scCkPlace : FnScope ["style", "context"] ["style", "context"] (defScope sCkPlace) := ⟨rfl, rfl, rfl, by decide +kernel, rfl, by decide +kernel, by decide +kernel⟩
theorem dCkPlace (T : Tx w K mg) : Dn P w K mg base 1 (He.ga K "check_place") ["style", "context"] [] spCkPlace := by
  obtain ⟨fd, F⟩ := T.f_check_place
  obtain ⟨es, n, D⟩ := T.tab 0
  refine ⟨fd, [], F.ok scCkPlace (fun vs H Q E h => ?_) (fun cdv A outer s H vs Q E hr h => ?_), F.bindsN fun _ _ _ _ _ _ us hl => match us, hl with | [_, _], _ => rfl, .nil, F.kp⟩
  · obtain ⟨c, rfl, _⟩ := h
    rfl
  · obtain ⟨c, rfl, q⟩ := h
    obtain ⟨_, _, u, _, _, hu, _⟩ := T.letters c
    refine ⟨_, PSs.nox (pss_cons (ps_if (PW.pt (pw_or (pt_not (pt_val (pe_callB call_isi (by rfl) T.n_isinstance boot_isinstance (pa_cons (pv 0) (pa_cons (pe_bltn (v := .ty "str") (by rfl) T.n_str PyProof.Rows.boot_str rfl) pa_nil)))))
        (pw_or1 (pt_cmpR op_ninT (pv 0) (pe_gl T.g_STYLES rfl) rfl)))) (pss_one ps_never) pss_nil)
      (pss_one (ps_if (PW.pt (pw_or (pt_not (pt_val (pe_callB call_isi (by rfl) T.n_isinstance boot_isinstance (pa_cons (pv 1) (pa_cons (pe_bltn (v := .ty "str") (by rfl) T.n_str PyProof.Rows.boot_str rfl) pa_nil)))))
        (pw_or1 (pt_cmpR (op_notIn_kd D) (pv 1) (pe_gl T.g_LETTERS rfl) rfl)))) (pss_one ps_never) pss_nil))), ?_⟩
    refine ⟨_, rfl, _, _, .type "str", .type "str", true, rfl, .ty "str", .base (.str _), kit_ty (by decide +kernel), true, rfl, iteF ?_⟩
    refine ⟨_, rfl, plainL, _, stylesL, rfl, rfl, T.styles _, false, (by decide +kernel), iteF ?_⟩
    refine ⟨_, rfl, _, _, .type "str", .type "str", true, rfl, .ty "str", .base (.str _), kit_ty (by decide +kernel), true, rfl, iteF ?_⟩
    exact ⟨_, rfl, S c.nm, some u, rfl, rfl, hu, false, rfl, iteF q⟩

def spCkNumbers : Sp := fun vs H Q _ => ∃ n : Nat, vs = [.int n, .int 0, .int 1] ∧ n ≤ 100 ∧ Q .non H
theorem scCkNumbers : FnScope ["indent", "width", "deep"] ["indent", "width", "deep"] (defScope sCkNumbers) := ⟨rfl, rfl, rfl, by decide +kernel, rfl, by decide +kernel, by decide +kernel⟩
theorem dCkNumbers (T : Tx w K mg) : Dn P w K mg base 2 (He.ga K "check_numbers") ["indent", "width", "deep"] [] spCkNumbers := by
  obtain ⟨fd, F⟩ := T.f_check_numbers
  have DT : Dn P w K mg base 1 (He.ga K "is_from_to") ["thing", "low", "high"] [] spFromTo := dFromTo T
  refine ⟨fd, [], F.ok scCkNumbers (fun vs H Q E h => ?_) (fun cdv A outer s H vs Q E hr h => ?_), F.bindsN fun _ _ _ _ _ _ us hl => match us, hl with | [_, _, _], _ => rfl, .nil, F.kp⟩
  · obtain ⟨n, rfl, _⟩ := h
    rfl
  · obtain ⟨n, rfl, hn, q⟩ := h
    refine ⟨_, PSs.nox (pss_cons (ps_if (pt_not (pt_val (pe_dn DT hr (by decide) T.g_is_from_to rfl (pa_cons (pv 0) (pa_cons pe_int (pa_cons (pe_gv (intV T.i_MOST_INDENT) rfl) pa_nil)))))) (pss_one ps_never) pss_nil)
      (pss_cons (ps_if (pt_not (pt_val (pe_dn DT hr (by decide) T.g_is_from_to rfl (pa_cons (pv 1) (pa_cons pe_int (pa_cons (pe_gv (intV T.i_MOST_WIDTH) rfl) pa_nil)))))) (pss_one ps_never) pss_nil)
      (pss_one (ps_if (pt_not (pt_val (pe_dn DT hr (by decide) T.g_is_from_to rfl (pa_cons (pv 2) (pa_cons pe_int (pa_cons (pe_callB (call_min2 rfl) (by rfl) T.n_min boot_min (pa_cons pe_int (pa_cons (pe_op op_add (pv 0) pe_int) pa_nil))) pa_nil)))))) (pss_one ps_never) pss_nil)))), ?_⟩
    refine ⟨_, rfl, _, _, _, rfl, by omega, by omega, true, rfl, iteF ?_⟩
    refine ⟨_, rfl, _, _, _, rfl, by decide, by decide, true, rfl, iteF ?_⟩
    refine ⟨_, rfl, _, rfl, _, _, rfl, rfl, _, _, rfl, _, _, _, rfl, by decide, ?_, true, rfl, iteF q⟩
    show (1 : Int) ≤ if (n : Int) + 1 < 9 then (n : Int) + 1 else 9
    split <;> omega
end
end Anp
/-! # part K10 -/
set_option maxHeartbeats 4000000
/-! stands_plain. -/
namespace Anp
open PySem PySem.Spec PyProof.Rows L2 Ap
def prevAt (v : List Nat) (i : Nat) : Option Nat := if i = 0 then none else v[i - 1]?
/-- whether a sign may stand; prev: the one ahead, y: the one behind -/
def standsP (b l : Bool) (prev : Option Nat) (x y : Nat) (last : Bool) : Bool :=
  if x = 32 then !([none, some 10] : List (Option Nat)).contains prev && (!decide (y = 10) && !last)
  else if x = 10 then !l && (!decide (prev = none) && !last)
  else if (decide (prev = none) && maybeFirst x || decide (x = 58)) = true then safe b y
  else if (decide (x = 35) && !sgO prev || decide (prev = none) && notFirst x) = true then false
  else safe b x
theorem cut_last (u : List Nat) : cutL u (some (-1)) none = u.getLast?.toList := by
  unfold cutL
  have e : HT.sIx u.length 0 (some (-1)) = u.length - 1 := by
    show (if (-1 : Int) < 0 then ((-1 : Int) + (u.length : Int)).toNat else min (-1 : Int).toNat u.length) = _
    rw [if_pos (by decide)]
    omega
  rw [e, HT.sIx_none]
  rcases List.eq_nil_or_concat u with rfl | ⟨a, x, rfl⟩
  · rfl
  · rw [List.concat_eq_append, List.length_append, List.length_singleton, Nat.add_sub_cancel, List.drop_left, Nat.add_sub_cancel_left, List.getLast?_append]
    rfl
theorem ahead_eq {v : List Nat} {i : Nat} (h : i ≤ v.length) : cutL (cutL v none (some (i : Int))) (some (-1)) none = (prevAt v i).toList := by
  rw [cut_to, cut_last]
  congr 1
  unfold prevAt
  by_cases h0 : i = 0
  · subst h0
    rw [if_pos rfl]
    rfl
  · rw [if_neg h0, List.getLast?_eq_getElem?, List.length_take, Nat.min_eq_left h, List.getElem?_take_of_lt (by omega)]
theorem prev_none {v : List Nat} {i : Nat} (h : i ≤ v.length) : decide (prevAt v i = none) = (i == 0) := by
  unfold prevAt
  by_cases h0 : i = 0
  · subst h0
    rfl
  · rw [if_neg h0, List.getElem?_eq_getElem (show i - 1 < v.length by omega), show (i == 0) = false by simpa using h0]
    rfl
theorem prev_in (o : Option Nat) : ([[], [10]] : List (List Nat)).contains o.toList = ([none, some 10] : List (Option Nat)).contains o := by
  cases o with
  | none => rfl
  | some x =>
    rw [Bool.eq_iff_iff]
    simp
theorem prev_ne (o : Option Nat) : decide (o.toList = []) = decide (o = none) := by cases o <;> simp
section
variable {P : Program} {w : World} {K : PySem.W.Frag} {mg : Str → Option Value} {base : Heap}
def spStands : Sp := fun vs H Q _ => ∃ (v : List Nat) (i x y : Nat) (c : Ct), vs = [VS v, .int i, VS c.nm] ∧ v.length ≤ 3000 ∧ v[i]? = some x ∧ (v ++ c.beh)[i + 1]? = some y ∧ ∀ H', Same H H' → Q (.bl (standsP c.b c.l (prevAt v i) x y (i == v.length - 1))) H'
theorem scStands : FnScope ["value", "at", "context", "sign", "ahead", "behind", "is_last"] ["value", "at", "context"] (defScope sStands) := ⟨rfl, rfl, rfl, by decide +kernel, rfl, by decide +kernel, by decide +kernel⟩
theorem dec_one (x c : Nat) : decide (([x] : List Nat) = [c]) = decide (x = c) := by
  rw [decide_eq_decide]
  simp
theorem dStands (T : Tx w K mg) : Dn P w K mg base 2 (He.ga K "stands_plain") ["value", "at", "context"] [] spStands := by
  obtain ⟨fd, F⟩ := T.f_stands_plain
  have DS : Dn P w K mg base 1 (He.ga K "is_safe") ["sign", "c"] [] spSafe := dSafe T
  have DG : Dn P w K mg base 1 (He.ga K "is_sign") ["sign"] [] spSign := dSign T
  refine ⟨fd, [], F.ok scStands (fun vs H Q E h => ?_) (fun cdv A outer s H vs Q E hr h => ?_), F.bindsN fun _ _ _ _ _ _ us hl => match us, hl with | [_, _, _], _ => rfl, .nil, F.kp⟩
  · obtain ⟨v, i, x, y, c, rfl, _⟩ := h
    rfl
  · obtain ⟨v, i, x, y, c, rfl, hz, hx, hy, q⟩ := h
    have hi := lt_of_at hx
    refine ⟨_, PSs.nox (pss_cons (ps_par3 (i := 3) (j := 4) (l := 5) rfl scStands.nd rfl rfl rfl (by decide) (by decide) (by decide) rfl rfl rfl
        (pa_cons (pe_ix ix_S (pv 0) (pv 1) (fun _ _ => rfl)) (pa_cons (pe_slice sl_S (pe_slice sl_S (pv 0) po_none (po_some (pv 1))) (po_some (pe_un un_neg pe_int)) po_none)
          (pa_cons (pe_ix ix_S (pe_op op_addS (pv 0) (pe_ix ix_kdict (pe_gl T.g_BEHIND rfl) (pv 2) (fun _ _ => rfl))) (pe_op op_add (pv 1) pe_int) (fun _ _ => rfl)) pa_nil))) rfl)
      (pss_cons (ps_set (i := 6) scStands.nd rfl (.inl rfl) (pe_cmp (pc_eqI (pv 1) (pe_op op_sub (pe_callB call_len_str (by rfl) T.n_len PySem.boot_len (pa_cons (pv 0) pa_nil)) pe_int)) rfl))
      (pss_cons (ps_if (pt_cmpR op_eqS (pv 3) (pe_S [32] (by decide +kernel)) (nomark _))
        (pss_one (ps_ret (pe_and (pe_cmpR op_ninT (pv 4) (pe_tup (pa_cons (pe_S [] (by decide +kernel)) (pa_cons (pe_S [10] (by decide +kernel)) pa_nil))) rfl) (pe_and (pe_cmpR op_neS (pv 5) (pe_S [10] (by decide +kernel)) (nomark _)) (pe_one (pe_not (pv 6))))))) pss_nil)
      (pss_cons (ps_if (pt_cmpR op_eqS (pv 3) (pe_S [10] (by decide +kernel)) (nomark _))
        (pss_one (ps_ret (pe_and (pe_cmpR op_ninT (pv 2) (pe_gl T.g_ONE_LINE rfl) rfl) (pe_and (pe_cmpR op_neS (pv 4) (pe_S [] (by decide +kernel)) (nomark _)) (pe_one (pe_not (pv 6))))))) pss_nil)
      (pss_cons (ps_if (PW.pt (pw_or (PW.pt (pw_and (pt_cmp (pc_eqI (pv 1) pe_int)) (pw_and1 (pt_cmpR op_inS1 (pv 3) (pe_gv T.maybeFirst rfl) rfl)))) (pw_or1 (pt_cmpR op_eqS (pv 3) (pe_S [58] (by decide +kernel)) (nomark _)))))
        (pss_one (ps_ret (pe_dn DS hr (by decide) T.g_is_safe rfl (pa_cons (pv 5) (pa_cons (pe_ix ix_kdict (pe_gl T.g_LETTERS rfl) (pv 2) (fun _ _ => rfl)) pa_nil))))) pss_nil)
      (pss_cons (ps_if (PW.pt (pw_or (PW.pt (pw_and (pt_cmpR op_eqS (pv 3) (pe_S [35] (by decide +kernel)) (nomark _)) (pw_and1 (pt_not (pt_val (pe_dn DG hr (by decide) T.g_is_sign rfl (pa_cons (pv 4) pa_nil)))))))
          (pw_or1 (PW.pt (pw_and (pt_cmp (pc_eqI (pv 1) pe_int)) (pw_and1 (pt_cmpR op_inS1 (pv 3) (pe_gv T.notFirst rfl) rfl)))))))
        (pss_one (ps_ret pe_bl)) pss_nil)
      (pss_one (ps_ret (pe_dn DS hr (by decide) T.g_is_safe rfl (pa_cons (pv 3) (pa_cons (pe_ix ix_kdict (pe_gl T.g_LETTERS rfl) (pv 2) (fun _ _ => rfl)) pa_nil))))))))))), ?_⟩
    have hbl : c.beh.length ≤ 2 := by cases c <;> decide
    have hL : decide ((i : Int) = ((S v).length : Int) - 1) = (i == v.length - 1) := by
      rw [S_len, Bool.beq_eq_decide_eq, decide_eq_decide]
      omega
    rw [← hL] at q
    refine ⟨_, rfl, _, rfl, v, i, x, rfl, rfl, Nat.le_trans hz (by decide), hx, ?_⟩
    refine ⟨_, rfl, _, rfl, _, rfl, v, rfl, Nat.le_trans hz (by decide), _, rfl, _, rfl, _, rfl, by rw [cut_to, List.length_take]; omega, ?_⟩
    refine ⟨_, rfl, _, rfl, _, S c.nm, VS c.beh, rfl, rfl, T.behind c, v, c.beh, rfl, rfl, by omega, _, rfl, _, _, rfl, rfl, v ++ c.beh, i + 1, y, rfl, rfl, by rw [List.length_append]; omega, hy, ?_⟩
    refine ⟨VS [x], VS (prevAt v i).toList, VS [y], by rw [ahead_eq (Nat.le_of_lt hi)], ?_⟩
    refine ⟨_, rfl, _, rfl, S v, rfl, by rw [S_len]; exact Nat.le_trans hz (by decide), _, _, rfl, rfl, _, _, rfl, rfl, ?_⟩
    generalize hl : decide ((i : Int) = ((S v).length : Int) - 1) = last at q
    have hl2 : (fun i j : Int => decide (i = j)) (i : Int) (((S v).length : Int) - 1) = last := hl
    have q0 := q H (Same.refl H)
    unfold standsP at q q0
    -- sign == ' '
    refine ⟨_, rfl, _, _, rfl, rfl, _, rfl, ?_⟩
    rw [dec_one]
    by_cases e1 : x = 32
    · rw [if_pos e1] at q q0
      rw [decide_eq_true e1]
      refine iteT ⟨_, rfl, by show 2 ≤ sizeLine; decide, fun b nb => ?_⟩
      have q1 := q _ (same_new (o := .tup [VS [], VS [10]]) nb)
      refine ⟨(prevAt v i).toList, b, [[], [10]], rfl, rfl, SqT.of upd_same, _, rfl, ?_⟩
      show if (!([[], [10]] : List (List Nat)).contains (prevAt v i).toList) = true then _ else _
      rw [prev_in]
      cases h1 : ([none, some 10] : List (Option Nat)).contains (prevAt v i) with
      | true =>
        rw [h1] at q1
        exact iteF q1
      | false =>
        rw [h1] at q1
        refine iteT ⟨_, rfl, [y], [10], rfl, rfl, _, rfl, ?_⟩
        rw [dec_one]
        cases h2 : decide (y = 10) with
        | true =>
          rw [h2] at q1
          exact iteF q1
        | false =>
          rw [h2] at q1
          refine iteT ⟨_, rfl, _, rfl, ?_⟩
          rw [hl2]
          exact q1
    · rw [if_neg e1] at q q0
      rw [decide_eq_false e1]
      refine iteF ⟨_, rfl, _, _, rfl, rfl, _, rfl, ?_⟩
      rw [dec_one]
      by_cases e2 : x = 10
      · rw [if_pos e2] at q q0
        rw [decide_eq_true e2]
        refine iteT ⟨_, rfl, c.nm, _, [[107, 101, 121], [112, 97, 105, 114]], rfl, rfl, T.oneLine _, !c.l, (by cases c <;> rfl), ?_⟩
        cases hc : c.l with
        | true =>
          rw [hc] at q0
          exact iteF q0
        | false =>
          rw [hc] at q0
          refine iteT ⟨_, rfl, (prevAt v i).toList, [], rfl, rfl, _, rfl, ?_⟩
          rw [prev_ne]
          cases h2 : decide (prevAt v i = none) with
          | true =>
            rw [h2] at q0
            exact iteF q0
          | false =>
            rw [h2] at q0
            refine iteT ⟨_, rfl, _, rfl, ?_⟩
            rw [hl2]
            exact q0
      · rw [if_neg e2] at q q0
        rw [decide_eq_false e2]
        -- the first sign, or a colon
        have hp := prev_none (v := v) (Nat.le_of_lt hi)
        have h00 : decide ((i : Int) = 0) = (i == 0) := by
          rw [Bool.beq_eq_decide_eq, decide_eq_decide]
          omega
        refine iteF ⟨_, rfl, _, _, rfl, rfl, i == 0, congrArg V.bl h00, ?_⟩
        rw [hp] at q0
        have safeEnd : Q (.bl (safe c.b y)) H → tRet (tCall spSafe [] E0 (tCons (tVar 5) (tCons (tOp (rIxD K w) (tC (.ref (He.ga K "LETTERS"))) (tVar 2)) tNil))) { nx := fun _ H' => Q .non H', rt := Q } [some (VS v), some (.int i), some (VS c.nm), some (VS [x]), some (VS (prevAt v i).toList), some (VS [y]), some (.bl last)] H := fun z =>
          ⟨_, rfl, _, rfl, _, S c.nm, VS c.lt, rfl, rfl, T.letters c, some y, c, rfl, z⟩
        have signEnd : Q (.bl (safe c.b x)) H → tRet (tCall spSafe [] E0 (tCons (tVar 3) (tCons (tOp (rIxD K w) (tC (.ref (He.ga K "LETTERS"))) (tVar 2)) tNil))) { nx := fun _ H' => Q .non H', rt := Q } [some (VS v), some (.int i), some (VS c.nm), some (VS [x]), some (VS (prevAt v i).toList), some (VS [y]), some (.bl last)] H := fun z =>
          ⟨_, rfl, _, rfl, _, S c.nm, VS c.lt, rfl, rfl, T.letters c, some x, c, rfl, z⟩
        rw [← hl2] at safeEnd signEnd
        cases h0 : (i == 0) with
        | true =>
          rw [h0] at q0
          refine iteT ⟨_, rfl, x, [45, 63, 58], rfl, rfl, _, rfl, ?_⟩
          rw [mf_eq]
          cases hm : maybeFirst x with
          | true =>
            rw [hm] at q0
            exact iteT (iteT (safeEnd q0))
          | false =>
            rw [hm] at q0
            refine iteF (iteF (A := True) ?_)
            refine ⟨_, rfl, _, _, rfl, rfl, _, rfl, ?_⟩
            rw [dec_one]
            cases h58 : decide (x = 58) with
            | true =>
              rw [h58] at q0
              exact iteT (safeEnd q0)
            | false =>
              rw [h58] at q0
              refine iteF ?_
              refine ⟨_, rfl, _, _, rfl, rfl, _, rfl, ?_⟩
              rw [dec_one]
              cases h35 : decide (x = 35) with
              | true =>
                rw [h35] at q0
                refine iteT ⟨_, rfl, prevAt v i, rfl, _, rfl, ?_⟩
                cases hs : sgO (prevAt v i) with
                | true =>
                  rw [hs] at q0
                  refine iteF ?_
                  refine ⟨_, rfl, _, _, rfl, rfl, true, congrArg V.bl (h00.trans h0), iteT ⟨_, rfl, x, notFirstL, rfl, rfl, _, rfl, ?_⟩⟩
                  rw [nf_eq]
                  cases hn : notFirst x with
                  | true =>
                    rw [hn] at q0
                    exact iteT q0
                  | false =>
                    rw [hn] at q0
                    exact iteF (signEnd q0)
                | false =>
                  rw [hs] at q0
                  exact iteT (iteT q0)
              | false =>
                rw [h35] at q0
                refine iteF (iteF (A := True) ?_)
                refine ⟨_, rfl, _, _, rfl, rfl, true, congrArg V.bl (h00.trans h0), iteT ⟨_, rfl, x, notFirstL, rfl, rfl, _, rfl, ?_⟩⟩
                rw [nf_eq]
                cases hn : notFirst x with
                | true =>
                  rw [hn] at q0
                  exact iteT q0
                | false =>
                  rw [hn] at q0
                  exact iteF (signEnd q0)
        | false =>
          rw [h0] at q0
          refine iteF (iteF (A := True) ?_)
          refine ⟨_, rfl, _, _, rfl, rfl, _, rfl, ?_⟩
          rw [dec_one]
          cases h58 : decide (x = 58) with
          | true =>
            rw [h58] at q0
            exact iteT (safeEnd q0)
          | false =>
            rw [h58] at q0
            refine iteF ?_
            refine ⟨_, rfl, _, _, rfl, rfl, _, rfl, ?_⟩
            rw [dec_one]
            cases h35 : decide (x = 35) with
            | true =>
              rw [h35] at q0
              refine iteT ⟨_, rfl, prevAt v i, rfl, _, rfl, ?_⟩
              cases hs : sgO (prevAt v i) with
              | true =>
                rw [hs] at q0
                refine iteF ?_
                refine ⟨_, rfl, _, _, rfl, rfl, false, congrArg V.bl (h00.trans h0), iteF (iteF (signEnd q0))⟩
              | false =>
                rw [hs] at q0
                exact iteT (iteT q0)
            | false =>
              rw [h35] at q0
              refine iteF (iteF (A := True) ?_)
              refine ⟨_, rfl, _, _, rfl, rfl, false, congrArg V.bl (h00.trans h0), iteF (iteF (signEnd q0))⟩
end
end Anp
/-! # part K11 -/
set_option maxHeartbeats 4000000
/-! is_fitting, fits, read_scalar. -/
namespace Anp
open PySem PySem.Spec PyProof.Rows L2 Ap
section
variable {P : Program} {w : World} {K : PySem.W.Frag} {mg : Str → Option Value} {base : Heap}
/-- every sign of a value stands -/
def AllStand (c : Ct) (v : List Nat) : Prop := ∀ (i x y : Nat), v[i]? = some x → (v ++ c.beh)[i + 1]? = some y → standsP c.b c.l (prevAt v i) x y (i == v.length - 1) = true
def spIsFitting : Sp := fun vs H Q _ => ∃ (v : List Nat) (c : Ct), vs = [VS v, VS plainL, VS c.nm] ∧ v.length ≤ 3000 ∧ v ≠ [] ∧ AllStand c v ∧ ∀ H', Same H H' → Q (.bl true) H'
theorem scIsFitting : FnScope ["value", "style", "context", "at"] ["value", "style", "context"] (defScope sIsFitting) := ⟨rfl, rfl, rfl, by decide +kernel, rfl, by decide +kernel, by decide +kernel⟩
theorem dIsFitting (T : Tx w K mg) : Dn P w K mg base 3 (He.ga K "is_fitting") ["value", "style", "context"] [] spIsFitting := by
  obtain ⟨fd, F⟩ := T.f_is_fitting
  have DS : Dn P w K mg base 2 (He.ga K "stands_plain") ["value", "at", "context"] [] spStands := dStands T
  refine ⟨fd, [], F.ok scIsFitting (fun vs H Q E h => ?_) (fun cdv A outer s H vs Q E hr h => ?_), F.bindsN fun _ _ _ _ _ _ us hl => match us, hl with | [_, _, _], _ => rfl, .nil, F.kp⟩
  · obtain ⟨v, c, rfl, _⟩ := h
    rfl
  · obtain ⟨v, c, rfl, hz, hne, ha, q⟩ := h
    refine ⟨_, PSs.nox (pss_cons (ps_if (pt_cmpR op_eqS (pv 1) (pe_S plainL (by decide +kernel)) (nomark _))
      (pss_one (ps_ret (pe_and (pe_cmpR op_neS (pv 0) (pe_S [] (by decide +kernel)) (nomark _)) (pe_one (pe_callB (cr_all rfl) (by rfl) T.n_all boot_all (pa_cons
        (pe_lc (own := [("at", 3)]) (g := gName 3) (tt := tYes) rfl scIsFitting.nd (pi_range1 (by rfl) T.n_range (pa_cons (pe_callB call_len_str (by rfl) T.n_len PySem.boot_len (pa_cons (pv 0) pa_nil)) pa_nil))
          (blkOk_by (own := [("at", 3)]) (N := ["value", "style", "context", "at"]) (sc := defScope sIsFitting) (by decide +kernel))
          (fun _ _ _ _ _ => pg_name (i := 3) scIsFitting.nd rfl (Or.inl rfl)) (fun _ _ _ _ _ => pts_nil)
          (fun _ _ _ _ _ => pe_dn DS hr (by decide) T.g_stands_plain rfl (pa_cons (pv 0) (pa_cons (pv 3) (pa_cons (pv 2) pa_nil))))) pa_nil)))))) pss_nil) pss_never), ?_⟩
    refine ⟨_, rfl, plainL, plainL, rfl, rfl, true, rfl, iteT ?_⟩
    refine ⟨_, rfl, v, [], rfl, rfl, true, by rw [decide_eq_false hne]; rfl, iteT ?_⟩
    have hsl : (S v).length ≤ sizeLine := by
      rw [S_len]
      exact Nat.le_trans hz (by decide)
    refine ⟨_, rfl, S v, rfl, hsl, _, rfl, by rw [S_len]; omega, by rw [S_len]; omega, fun D hD => ?_⟩
    have hn : (((S v).length : Int)).toNat = v.length := by
      rw [S_len]
      omega
    rw [hn]
    refine lc_range (lo := 0) (n := v.length) (fun i H' => Same H H' ∧ H' D = some (.lst (List.replicate i (V.bl true)))) ⟨same_new hD, upd_same⟩ ?_ ?_
    · rintro i H' hi ⟨S1, h1⟩
      refine ⟨rfl, ?_⟩
      have hy : i + 1 < (v ++ c.beh).length := by
        rw [List.length_append]
        have : 1 ≤ c.beh.length := by cases c <;> decide
        omega
      refine ⟨_, rfl, _, rfl, _, rfl, v, i, v[i], (v ++ c.beh)[i + 1], c, ?_, hz, List.getElem?_eq_getElem hi, List.getElem?_eq_getElem hy, fun H2 S2 => ?_⟩
      · show [VS v, V.int (0 + (i : Int)), VS c.nm] = _
        rw [Int.zero_add]
      · rw [ha i _ _ (List.getElem?_eq_getElem hi) (List.getElem?_eq_getElem hy)]
        refine ⟨_, S2 _ _ h1, by rw [List.length_replicate]; exact Nat.lt_of_le_of_lt (show i ≤ 3000 by omega) (by decide), same_own (S1.trans S2) hD, by rw [upd_same, List.replicate_succ']⟩
    · rintro H' ⟨S1, h1⟩
      refine ⟨D, List.replicate v.length true, rfl, SqL.of (by rw [map_true]; exact h1), ?_⟩
      rw [all_true]
      exact q H' S1

def spFits : Sp := fun vs H Q _ => ∃ (v : List Nat) (c : Ct), vs = [VS v, VS plainL, VS c.nm] ∧ v.length ≤ 3000 ∧ v ≠ [] ∧ TxOk v ∧ AllStand c v ∧ ∀ H', Same H H' → Q (.bl true) H'
theorem scFits : FnScope ["value", "style", "context"] ["value", "style", "context"] (defScope sFits) := ⟨rfl, rfl, rfl, by decide +kernel, rfl, by decide +kernel, by decide +kernel⟩
theorem dFits (T : Tx w K mg) : Dn P w K mg base 4 (He.ga K "fits") ["value", "style", "context"] [] spFits := by
  obtain ⟨fd, F⟩ := T.f_fits
  have D1 : Dn P w K mg base 2 (He.ga K "check_value") ["value"] [] spCkValue := dCkValue T
  have D2 : Dn P w K mg base 1 (He.ga K "check_place") ["style", "context"] [] spCkPlace := dCkPlace T
  have D3 : Dn P w K mg base 3 (He.ga K "is_fitting") ["value", "style", "context"] [] spIsFitting := dIsFitting T
  refine ⟨fd, [], F.ok scFits (fun vs H Q E h => ?_) (fun cdv A outer s H vs Q E hr h => ?_), F.bindsN fun _ _ _ _ _ _ us hl => match us, hl with | [_, _, _], _ => rfl, .nil, F.kp⟩
  · obtain ⟨v, c, rfl, _⟩ := h
    rfl
  · obtain ⟨v, c, rfl, hz, hne, ht, ha, q⟩ := h
    refine ⟨_, PSs.nox (pss_cons (ps_expr (pe_dn D1 hr (by decide) T.g_check_value rfl (pa_cons (pv 0) pa_nil)))
      (pss_cons (ps_expr (pe_dn D2 hr (by decide) T.g_check_place rfl (pa_cons (pv 1) (pa_cons (pv 2) pa_nil))))
      (pss_one (ps_ret (pe_dn D3 hr (by decide) T.g_is_fitting rfl (pa_cons (pv 0) (pa_cons (pv 1) (pa_cons (pv 2) pa_nil)))))))), ?_⟩
    refine ⟨_, rfl, v, rfl, hz, ht, fun H1 S1 => ?_⟩
    refine ⟨_, rfl, _, rfl, c, rfl, ?_⟩
    exact ⟨_, rfl, _, rfl, _, rfl, v, c, rfl, hz, hne, ha, fun H2 S2 => q H2 (S1.trans S2)⟩

/-! ### read_scalar -/
def optV : Option (List Nat) → V
  | none => .non
  | some v => VS v
theorem starts_nil (x : List Nat) : Txt.startswith (S x) (S []) = true := by
  show (decide (0 + (S []).length ≤ (S x).length) && ((S x).cps.extract 0 (0 + (S []).length) == (S []).cps)) = true
  have e0 : (S []).length = 0 := S_len []
  rw [e0]
  show (decide (0 ≤ (S x).length) && (x.toArray.extract 0 0 == #[])) = true
  simp
section
variable {X : Cx} {k j : Nat} {f C : Addr} {ps : List Str} {dvs : List V} {sp : Sp} {x : Str} {p pos : Pos} {e : Expr} {es : List Expr} {t : TA}
theorem pe_mkD (M : Mk X.K C f) (D : Dn X.prog X.w X.K X.mg X.base k f ps dvs sp) (hr : Room j X.A) (hk : k + 1 ≤ j) (hm : X.mg x = some (.ref C)) (hg : Gl X x) (ha : PA X (e :: es) t) (hdb : (x == ("__debug__" : Str)) = false := by decide)
    (he : starEach (e :: es) X.env = (false, eval e X.env) :: starEach es X.env := by rfl) (hpl : (backTo pos (starEach es X.env)).any (·.1) = false := by rfl) :
    PE X (.Call (.Name x p) (e :: es) [] pos) (tMake C sp dvs E0 t) := by
  obtain ⟨fd, ds, G, b, v, kp⟩ := D.ex
  exact pe_make M G (hr.mono hk) hg hm b v pass0 ha hdb he hpl
end
def spRead : Sp := fun vs H Q _ => ∃ (x : List Nat) (c : Ct) (n : Nat), vs = [VS x, VS plainL, VS c.nm, .int n, .int 1] ∧ x.length ≤ 3000 ∧ x ≠ [] ∧ TxOk x ∧ n ≤ 100 ∧ ∀ r H', ReadR c.b c.l n x c.beh r → Same H H' → Q (optV r) H'
theorem scRead : FnScope ["text", "style", "context", "indent", "deep", "source", "letter", "found"] ["text", "style", "context", "indent", "deep"] (defScope sRead) := ⟨rfl, rfl, rfl, by decide +kernel, rfl, by decide +kernel, by decide +kernel⟩
theorem dRead (T : Tx w K mg) : Dn P w K mg base 7 (He.ga K "read_scalar") ["text", "style", "context", "indent", "deep"] [.int 1] spRead := by
  obtain ⟨fd, F⟩ := T.f_read_scalar
  obtain ⟨es, en, DH⟩ := T.heads.1
  have D1 : Dn P w K mg base 1 (He.ga K "check_place") ["style", "context"] [] spCkPlace := dCkPlace T
  have D2 : Dn P w K mg base 2 (He.ga K "check_numbers") ["indent", "width", "deep"] [] spCkNumbers := dCkNumbers T
  have D3 : Dn P w K mg base 1 (He.ga K "is_text") ["thing"] [] spText := dText T
  have D4 : Dn P w K mg base 1 (aM K "__init__") ["self", "text"] [] (spInit (cS K)) := dInit T
  have D5 : Dn P w K mg base 6 (He.ga K "plain") ["source", "i", "n", "c"] [] (spPlain (cS K)) := dPlain T
  obtain ⟨ds, hv, hb⟩ := F.binds1 (ps := ["text", "style", "context", "indent", "deep"]) 4 0 (List.cons_ne_nil _ _) rfl fun T kV doc pm an cdv ct us its h1 h2 => match us, its, h1, h2 with | [a, b, c, d], [e], _, _ => ⟨_, rfl, rfl⟩
  refine ⟨fd, ds, F.ok scRead (fun vs H Q E h => ?_) (fun cdv A outer s H vs Q E hr h => ?_), hb, hv, F.kp⟩
  · obtain ⟨x, c, n, rfl, _⟩ := h
    rfl
  · obtain ⟨x, c, n, rfl, hz, hne, ht, hn, q⟩ := h
    refine ⟨_, PSs.nox (pss_cons (ps_expr (pe_dn D1 hr (by decide) T.g_check_place rfl (pa_cons (pv 1) (pa_cons (pv 2) pa_nil))))
      (pss_cons (ps_expr (pe_dn D2 hr (by decide) T.g_check_numbers rfl (pa_cons (pv 3) (pa_cons pe_int (pa_cons (pv 4) pa_nil)))))
      (pss_cons (ps_if (PW.pt (pw_or (pt_not (pt_val (pe_dn D3 hr (by decide) T.g_is_text rfl (pa_cons (pv 0) pa_nil)))) (pw_or1 (pt_cmpR op_eqS (pv 0) (pe_S [] (by decide +kernel)) (nomark _))))) (pss_one (ps_ret pe_non)) pss_nil)
      (pss_cons (ps_if (pt_cmpR (op_in_kd DH) (pv 1) (pe_gl T.g_HEADS rfl) rfl) pss_never pss_nil)
      (pss_cons (ps_if (pt_not (pt_val (pe_m1 PySem.F.slot_str_startswith PySem.F.type_str_startswith mt_startswith (pv 0) (pe_ix ix_kdict (pe_gl T.g_QUOTES rfl) (pv 1) (fun _ _ => rfl))))) (pss_one (ps_ret pe_non)) pss_nil)
      (pss_cons (ps_par (i := 5) (j := 6) rfl scRead.nd rfl rfl (by decide) rfl rfl (pa_cons (pe_mkD T.mkS D4 hr (by decide) T.g_Source rfl
          (pa_cons (pe_op op_addS (pe_op op_addS (pe_S [32] (by decide +kernel)) (pv 0)) (pe_ix ix_kdict (pe_gl T.g_BEHIND rfl) (pv 2) (fun _ _ => rfl))) pa_nil)) (pa_cons (pe_ix ix_kdict (pe_gl T.g_LETTERS rfl) (pv 2) (fun _ _ => rfl)) pa_nil)) rfl)
      (pss_cons (ps_set (i := 7) scRead.nd rfl (.inl rfl) (pe_ifExp (pt_cmpR op_eqS (pv 1) (pe_S plainL (by decide +kernel)) (nomark _)) (pe_dn D5 hr (by decide) T.g_plain rfl (pa_cons (pv 5) (pa_cons pe_int (pa_cons (pv 3) (pa_cons (pv 6) pa_nil))))) pe_never))
      (pss_one (ps_ret (pe_ifExp (PW.pt (pw_and (pt_cmpR op_notN (pv 7) pe_non (nomark _)) (pw_and1 (pt_cmp (pc_eqI (pe_ix ix_tup (pv 7) pe_int (fun _ _ => rfl)) (pe_op op_add (pe_callB call_len_str (by rfl) T.n_len PySem.boot_len (pa_cons (pv 0) pa_nil)) pe_int))))))
        (pe_ix ix_tup (pv 7) pe_int (fun _ _ => rfl)) pe_non)))))))))), ?_⟩
    refine ⟨_, rfl, _, rfl, c, rfl, ?_⟩
    refine ⟨_, rfl, _, rfl, n, rfl, hn, ?_⟩
    refine ⟨_, rfl, x, rfl, Nat.le_trans hz (by decide), ht, fun H1 S1 => ⟨_, rfl, iteF ?_⟩⟩
    refine ⟨_, rfl, x, [], rfl, rfl, false, by rw [decide_eq_false hne], iteF ?_⟩
    refine ⟨_, rfl, S plainL, none, rfl, rfl, T.heads.2, false, rfl, iteF ?_⟩
    refine ⟨_, rfl, ⟨_, rfl⟩, _, rfl, _, S plainL, VS [], rfl, rfl, T.quotes, S x, S [], rfl, rfl, true, congrArg V.bl (starts_nil x), iteF ?_⟩
    have hbl : c.beh.length ≤ 2 := by cases c <;> decide
    refine ⟨_, rfl, [32], x, rfl, rfl, by rw [List.length_singleton]; omega, _, rfl, _, S c.nm, VS c.beh, rfl, rfl, T.behind c, _, c.beh, rfl, rfl, by rw [List.length_append, List.length_singleton]; omega, ?_⟩
    intro p dx np ndx npd
    refine ⟨p, dx, 32 :: (x ++ c.beh), rfl, upd_same, ?_, fun H2 S2 => ⟨rfl, ?_⟩⟩
    · show (32 :: (x ++ c.beh)).length ≤ 100000
      rw [List.length_cons, List.length_append]
      omega
    have kp2 : Same H1 H2 := fun b o e => S2.kp b o (by rw [upd_ne (ne_of_none e np), upd_ne (ne_of_none e ndx)]; exact e) (ne_of_none e np)
    refine ⟨_, rfl, _, S c.nm, VS c.lt, rfl, rfl, T.letters c, _, _, rfl, ?_⟩
    refine ⟨_, rfl, plainL, plainL, rfl, rfl, true, rfl, iteT ?_⟩
    have hS : SrcAt (cS K) H2 p (32 :: (x ++ c.beh)) := S2.at_
    have hlen : (32 :: (x ++ c.beh)).length ≤ 100000 := by
      rw [List.length_cons, List.length_append]
      omega
    have hsl : (S x).length ≤ sizeLine := by
      rw [S_len]
      exact Nat.le_trans hz (by decide)
    refine ⟨_, rfl, _, rfl, _, rfl, p, _, n, c, rfl, hS, hlen, by rw [List.length_cons]; omega, by omega, fun H3 R S3 => ?_, fun e v H3 a R hv S3 ha => ?_⟩
    · refine ⟨_, rfl, rfl, false, rfl, iteF ?_⟩
      refine q none H3 ⟨none, R, rfl⟩ fun b o eb => ?_
      have eb2 := S1.trans kp2 b o eb
      exact S3.kp b o eb2 (ne_of_none (S1 b o eb) np)
    · have same : Same H H3 := fun b o eb => S3.kp b o (S1.trans kp2 b o eb) (ne_of_none (S1 b o eb) np)
      have hq := q _ H3 ⟨some (e, v), R, rfl⟩ same
      refine ⟨_, rfl, rfl, true, rfl, iteT ?_⟩
      refine ⟨_, rfl, a, _, 0, _, rfl, rfl, SqT.of ha, rfl, _, rfl, S x, rfl, hsl, _, _, rfl, rfl, _, _, rfl, rfl, decide (e = x.length + 1), ?_, ?_⟩
      · refine congrArg V.bl ?_
        show decide ((e : Int) = ((S x).length : Int) + 1) = _
        rw [S_len, decide_eq_decide]
        omega
      · by_cases he : e = x.length + 1
        · rw [decide_eq_true he]
          have hq : Q (optV (if e = x.length + 1 then some v else none)) H3 := hq
          rw [if_pos he] at hq
          exact iteT ⟨_, rfl, a, _, 1, _, rfl, rfl, SqT.of ha, rfl, hq⟩
        · rw [decide_eq_false he]
          have hq : Q (optV (if e = x.length + 1 then some v else none)) H3 := hq
          rw [if_neg he] at hq
          exact iteF hq
end
end Anp
/-! # part K12 -/
set_option maxHeartbeats 4000000
/-! The law's draws. -/
namespace Anp
open PySem PySem.Spec PyProof.Rows L2 Ap
/-- a state that is drawn from -/
def Stt (H : Hp) (p : Addr) : Prop := ∃ xs : List V, H p = some (.lst xs) ∧ ((∃ i, xs = [.int i]) ∨ ∃ i j k, xs = [.int i, .int j, .int k])
theorem Stt.new {H : Hp} {p q : Addr} {o : HO} (a : Stt H p) (h : H q = none) : Stt (upd H q o) p := by
  obtain ⟨xs, e, z⟩ := a
  exact ⟨xs, by rw [upd_ne (ne_of_none e h)]; exact e, z⟩
section
variable {P : Program} {w : World} {K : PySem.W.Frag} {mg : Str → Option Value} {base : Heap}
def spDigit : Sp := fun vs H Q _ => ∃ (p : Addr) (b : Nat), vs = [.ref p, .int b] ∧ Stt H p ∧ 1 ≤ b ∧ b ≤ 1000 ∧ ∀ (d : Nat) H', d < b → Stt H' p → Kp p H H' → Q (.int d) H'
theorem scDigit : FnScope ["_law_state", "_law_base", "_law_found", "_law_mixed"] ["_law_state", "_law_base"] (defScope sDigit) := ⟨rfl, rfl, rfl, by decide +kernel, rfl, by decide +kernel, by decide +kernel⟩
theorem at3 {i j k : Int} : atI [V.int i, V.int j, V.int k] 0 = some (.int i) ∧ atI [V.int i, V.int j, V.int k] 1 = some (.int j) ∧ atI [V.int i, V.int j, V.int k] 2 = some (.int k) := ⟨rfl, rfl, rfl⟩
theorem mod_nat {z : Int} {b : Nat} (hb : 1 ≤ b) : ∃ d : Nat, z % (b : Int) = d ∧ d < b := by
  have h1 := Int.emod_nonneg z (show (b : Int) ≠ 0 by omega)
  have h2 := Int.emod_lt_of_pos z (show (0 : Int) < b by omega)
  exact ⟨(z % (b : Int)).toNat, by omega, by omega⟩
theorem dDigit (T : Tx w K mg) : Dn P w K mg base 1 (He.ga K "_law_digit") ["_law_state", "_law_base"] [] spDigit := by
  obtain ⟨fd, F⟩ := T.f_law_digit
  refine ⟨fd, [], F.ok scDigit (fun vs H Q E h => ?_) (fun cdv A outer s H vs Q E hr h => ?_), F.bindsN fun _ _ _ _ _ _ us hl => match us, hl with | [_, _], _ => rfl, .nil, F.kp⟩
  · obtain ⟨p, b, rfl, _⟩ := h
    rfl
  · obtain ⟨p, b, rfl, hS, h1, h2, q⟩ := h
    -- behind the first part: three numbers
    obtain ⟨tR, hR, eR⟩ : ∃ tR, PSs (cxOf CX0 P w K mg base ["_law_state", "_law_base", "_law_found", "_law_mixed"] "_law_digit" (defScope sDigit) (He.ga K "_law_digit") cdv A outer s H E).nox ((defBody sDigit).drop 1) tR ∧
        ∀ (i j k : Int) (H' : Hp), H' p = some (.lst [.int i, .int j, .int k]) → Kp p H H' → tR { nx := fun _ H' => Q .non H', rt := Q } [some (.ref p), some (.int b), none, none] H' := by
      refine ⟨_, pss_cons (ps_if (pt_cmpR op_gt (pe_ix ix_list (pv 0) pe_int (fun _ _ => rfl)) pe_int (nomark _))
          (pss_cons (ps_set (i := 2) scDigit.nd rfl (.inl rfl) (pe_op op_mod (pe_callTy call_int1 (by rfl) T.n_int PyProof.Rows.boot_int (pa_cons (pe_ix ix_list (pv 0) pe_int (fun _ _ => rfl)) pa_nil)) (pv 1)))
          (pss_cons (ps_asg (pe_op op_fdiv (pe_ix ix_list (pv 0) pe_int (fun _ _ => rfl)) (pv 1)) (pg_sub (pv 0) pe_int set_list)) (pss_one (ps_ret (pv 2))))) pss_nil)
        (pss_cons (ps_asg (pe_op op_add (pe_ix ix_list (pv 0) pe_int (fun _ _ => rfl)) pe_int) (pg_sub (pv 0) pe_int set_list))
        (pss_cons (ps_set (i := 3) scDigit.nd rfl (.inl rfl) (pe_op op_mod (pe_callTy call_int1 (by rfl) T.n_int PyProof.Rows.boot_int (pa_cons (pe_op op_mul (pe_op op_add (pe_op op_add (pe_ix ix_list (pv 0) pe_int (fun _ _ => rfl)) (pe_op op_mul pe_int (pe_ix ix_list (pv 0) pe_int (fun _ _ => rfl)))) pe_int) pe_int) pa_nil)) pe_int))
        (pss_cons (ps_set (i := 3) scDigit.nd rfl (.inl rfl) (pe_op op_mod (pe_callTy call_int1 (by rfl) T.n_int PyProof.Rows.boot_int (pa_cons (pe_op op_mul (pv 3) (pe_op op_add (pe_op op_fdiv (pv 3) pe_int) pe_int)) pa_nil)) pe_int))
        (pss_one (ps_ret (pe_op op_mod (pe_callTy call_int1 (by rfl) T.n_int PyProof.Rows.boot_int (pa_cons (pe_op op_mod (pe_callTy call_int1 (by rfl) T.n_int PyProof.Rows.boot_int (pa_cons (pe_op op_mul (pv 3) (pe_op op_add (pe_op op_fdiv (pv 3) pe_int) pe_int)) pa_nil)) pe_int) pa_nil)) (pv 1))))))), fun i j k H' hp hk => ?_⟩
      have hb0 : (0 : Int) < (b : Int) := by omega
      refine ⟨_, rfl, p, _, _, _, rfl, rfl, SqL.of hp, rfl, _, _, rfl, rfl, _, rfl, ?_⟩
      refine ite2 (fun _ => ?_) (fun _ => ?_)
      · obtain ⟨d, hd, hdb⟩ := mod_nat (z := i) h1
        refine ⟨_, rfl, p, _, _, _, rfl, rfl, SqL.of hp, rfl, .inl ⟨_, rfl, _, rfl, _, _, rfl, rfl, hb0, ?_⟩⟩
        refine ⟨_, rfl, p, _, _, _, rfl, rfl, SqL.of hp, rfl, _, rfl, _, _, rfl, rfl, ⟨hb0, by omega⟩, ?_⟩
        refine ⟨_, rfl, p, _, _, 0, rfl, rfl, hp, rfl, ?_⟩
        refine ⟨_, rfl, ?_⟩
        show Q (V.int (i % (b : Int))) _
        rw [hd]
        exact q d _ hdb ⟨_, upd_same, .inr ⟨_, _, _, rfl⟩⟩ (hk.trans Kp.own)
      · refine ⟨_, rfl, p, _, _, _, rfl, rfl, SqL.of hp, rfl, _, _, rfl, rfl, ?_⟩
        refine ⟨_, rfl, p, _, _, 2, rfl, rfl, hp, rfl, ?_⟩
        refine ⟨_, rfl, p, _, _, _, rfl, rfl, SqL.of upd_same, rfl, _, rfl, p, _, _, _, rfl, rfl, SqL.of upd_same, rfl, _, _, rfl, rfl, .inl ⟨by decide, by decide⟩, _, _, rfl, rfl, _, _, rfl, rfl, _, _, rfl, rfl, .inr ⟨by decide, by decide⟩, .inl ⟨_, rfl, _, _, rfl, rfl, (show (0 : Int) < 2147483647 by decide), ?_⟩⟩
        have m1a : 0 ≤ ((j + 7919 * (k + 1) + 1) * 48271) % 2147483647 := Int.emod_nonneg _ (by decide)
        have m1b : ((j + 7919 * (k + 1) + 1) * 48271) % 2147483647 < 2147483647 := Int.emod_lt_of_pos _ (by decide)
        revert m1a m1b
        show 0 ≤ ((j + 7919 * (k + 1) + 1) * 48271) % 2147483647 → ((j + 7919 * (k + 1) + 1) * 48271) % 2147483647 < 2147483647 → tSeq _ _ _ ([some (.ref p), some (.int b), none, some (.int (((j + 7919 * (k + 1) + 1) * 48271) % 2147483647))]) _
        generalize ((j + 7919 * (k + 1) + 1) * 48271) % 2147483647 = m1
        intro m1a m1b
        refine ⟨_, rfl, _, rfl, _, _, rfl, rfl, ⟨by decide, by decide⟩, _, _, rfl, rfl, _, _, rfl, rfl, .inl ⟨by omega, by omega⟩, .inl ⟨_, rfl, _, _, rfl, rfl, (show (0 : Int) < 2147483647 by decide), ?_⟩⟩
        obtain ⟨m2, hm2, m2a, m2b⟩ : ∃ m2, (m1 * (m1 / 1009 + 69621)) % 2147483647 = m2 ∧ 0 ≤ m2 ∧ m2 < 2147483647 := ⟨_, rfl, Int.emod_nonneg _ (by decide), Int.emod_lt_of_pos _ (by decide)⟩
        simp only [hm2]
        refine ⟨_, rfl, _, rfl, _, _, rfl, rfl, ⟨by decide, by decide⟩, _, _, rfl, rfl, _, _, rfl, rfl, .inl ⟨by omega, by omega⟩, .inl ⟨_, rfl, _, _, rfl, rfl, (show (0 : Int) < 2147483399 by decide), .inl ⟨_, rfl, _, rfl, _, _, rfl, rfl, hb0, ?_⟩⟩⟩
        obtain ⟨d, hd, hdb⟩ := mod_nat (z := (m2 * (m2 / 2003 + 40692)) % 2147483399) h1
        show Q (V.int (((m2 * (m2 / 2003 + 40692)) % 2147483399) % (b : Int))) _
        rw [hd]
        exact q d _ hdb ⟨_, upd_same, .inr ⟨_, _, _, rfl⟩⟩ (hk.trans Kp.own)
    refine ⟨_, PSs.nox (pss_cons (ps_if (pt_cmp (pc_eqI (pe_callB call_len_seq (by rfl) T.n_len PySem.boot_len (pa_cons (pv 0) pa_nil)) pe_int))
        (pss_cons (ps_expr (pe_bm PySem.F.plainAttrs_list PySem.F.slot_list_extend PySem.F.type_list_extend mt_extend (pv 0) (pa_cons (pe_lst (pa_cons (pe_op op_mod (pe_callTy call_int1 (by rfl) T.n_int PyProof.Rows.boot_int (pa_cons (pe_ix ix_list (pv 0) pe_int (fun _ _ => rfl)) pa_nil)) pe_int) (pa_cons pe_int pa_nil))) pa_nil)))
        (pss_one (ps_asg (pe_ix ix_list (pe_lst (pa_cons pe_int (pa_cons (pe_ix ix_list (pv 0) pe_int (fun _ _ => rfl)) pa_nil))) (pe_callTy call_int1 (by rfl) T.n_int PyProof.Rows.boot_int (pa_cons (pe_cmpR op_ge (pe_ix ix_list (pv 0) pe_int (fun _ _ => rfl)) (pe_op op_pow pe_int pe_int) (nomark _)) pa_nil)) (fun _ _ => rfl)) (pg_sub (pv 0) pe_int set_list)))) pss_nil) hR), ?_⟩
    obtain ⟨xs, hp, hx⟩ := hS
    refine ⟨_, rfl, p, xs, rfl, .inl (SqL.of hp), _, _, rfl, rfl, decide (xs.length = 1), ?_, ?_⟩
    · refine congrArg V.bl ?_
      show decide ((xs.length : Int) = 1) = _
      rw [decide_eq_decide]
      omega
    · rcases hx with ⟨i, rfl⟩ | ⟨i, j, k, rfl⟩
      · refine iteT ?_
        refine ⟨_, rfl, .inl ⟨rfl, _, SqL.of hp⟩, _, rfl, p, _, _, _, rfl, rfl, SqL.of hp, rfl, .inl ⟨_, rfl, _, _, rfl, rfl, (show (0 : Int) < 2147483647 by decide), (by show 2 ≤ sizeLine; decide), fun a na => ?_⟩⟩
        have npa : p ≠ a := ne_of_none hp na
        refine ⟨p, a, _, _, rfl, rfl, by rw [upd_ne npa]; exact hp, upd_same, (by show 1 + 2 ≤ sizeLine; decide), ?_⟩
        refine ⟨_, rfl, p, _, _, _, rfl, rfl, SqL.of upd_same, rfl, (by show 2 ≤ sizeLine; decide), fun b2 nb => ?_⟩
        have npb : p ≠ b2 := ne_of_none (upd_same (H := upd H a _)) nb
        obtain ⟨k, hk⟩ : ∃ k, decide ((10 : Int) ^ (18 : Int).toNat ≤ i) = k := ⟨_, rfl⟩
        have hp2 : ∀ {o : HO}, upd (upd (upd H a (.lst [V.int (i % 2147483647), V.int 0])) p (.lst ([V.int i] ++ [V.int (i % 2147483647), V.int 0]))) b2 o p = some (.lst [V.int i, V.int (i % 2147483647), V.int 0]) := by
          intro o
          rw [upd_ne npb]
          exact upd_same
        refine ⟨_, rfl, p, _, _, _, rfl, rfl, SqL.of hp2, rfl, _, _, rfl, rfl, ⟨by decide, by decide, by decide⟩, _, _, rfl, rfl, .inr ⟨k, congrArg (fun z => [V.bl z]) hk, ?_⟩⟩
        refine ⟨b2, _, _, V.int (if k = true then i else 0), rfl, rfl, SqL.of upd_same, by cases k <;> rfl, ?_⟩
        refine ⟨_, rfl, p, _, _, 0, rfl, rfl, hp2, rfl, ?_⟩
        refine eR _ _ _ _ upd_same fun c o e n => ?_
        rw [upd_ne n, upd_ne (ne_of_none (show (upd (upd H a (.lst [V.int (i % 2147483647), V.int 0])) p (.lst ([V.int i] ++ [V.int (i % 2147483647), V.int 0]))) c = some o by rw [upd_ne n, upd_ne (ne_of_none e na)]; exact e) nb), upd_ne n, upd_ne (ne_of_none e na)]
        exact e
      · exact iteF (eR i j k H hp (Kp.refl p H))
end
end Anp
/-! # part K13 -/
set_option maxHeartbeats 4000000
/-! The values fit. -/
namespace Anp
open Ap
def Chk (b l : Bool) (B : List Nat) : Option Nat → List Nat → List Nat → Prop
  | _, [], _ => True
  | prev, x :: r, R => (∀ y, (r ++ (R ++ B)).head? = some y → standsP b l prev x y (r ++ R).isEmpty = true) ∧ Chk b l B (some x) r R
section
variable {b l : Bool} {B : List Nat}
theorem chk_app : ∀ {xs : List Nat} {prev : Option Nat} {ys R : List Nat}, Chk b l B prev xs (ys ++ R) → Chk b l B (if xs = [] then prev else xs.getLast?) ys R → Chk b l B prev (xs ++ ys) R
  | [], _, _, _, _, h2 => h2
  | x :: r, prev, ys, R, ⟨h1, h3⟩, h2 => by
    refine ⟨fun y hy => ?_, chk_app h3 ?_⟩
    · have hy2 : ((r ++ ys) ++ (R ++ B)).head? = some y := hy
      show standsP b l prev x y ((r ++ ys) ++ R).isEmpty = true
      rw [List.append_assoc] at hy2 ⊢
      refine h1 y ?_
      rw [List.append_assoc]
      exact hy2
    · rw [if_neg (by simp)] at h2
      cases r with
      | nil =>
        rw [if_pos rfl]
        exact h2
      | cons z r =>
        rw [if_neg (by simp)]
        rw [List.getLast?_cons_cons] at h2
        exact h2
theorem sg_ne {x : Nat} (h : isSg x = true) : x ≠ 32 ∧ x ≠ 10 := by
  constructor <;> (rintro rfl; revert h; decide)
theorem chk_word : ∀ {w : List Nat} {p : Nat} {R : List Nat}, wok b w = true → (w.head? ≠ some 35 ∨ isSg p = true) → Chk b l B (some p) w R
  | [], _, _, _, _ => True.intro
  | x :: w, p, R, h, hp => by
    obtain ⟨h1, h2⟩ := Bool.and_eq_true_iff.mp (show (okc b x w.head? && wok b w) = true from h)
    obtain ⟨h3, h4⟩ := Bool.and_eq_true_iff.mp h1
    have hx := safe_sg h3
    refine ⟨fun y hy => ?_, chk_word h2 (.inr hx)⟩
    unfold standsP
    rw [if_neg (sg_ne hx).1, if_neg (sg_ne hx).2]
    by_cases e : x = 58
    · subst e
      rw [if_pos (by simp)]
      cases w with
      | nil => cases b <;> simp [safeO] at h4
      | cons z w =>
        have : z = y := Option.some.inj hy
        subst this
        simpa [safeO] using h4
    · rw [if_neg (by simp [e])]
      have hc : (decide (x = 35) && !sgO (some p)) = false := by
        by_cases e2 : x = 35
        · rcases hp with hp | hp
          · subst e2
            exact absurd rfl hp
          · rw [show sgO (some p) = true from hp]
            simp
        · simp [e2]
      rw [hc, if_neg (by simp)]
      exact h3
theorem chk_first {f R : List Nat} (h : fstOk b f = true) (hw : wok b f = true) : Chk b l B none f R := by
  cases f with
  | nil => cases h
  | cons x f =>
    obtain ⟨h1, h2⟩ := Bool.and_eq_true_iff.mp (show (okc b x f.head? && wok b f) = true from hw)
    obtain ⟨h3, h4⟩ := Bool.and_eq_true_iff.mp h1
    have hx := safe_sg h3
    refine ⟨fun y hy => ?_, chk_word h2 (.inr hx)⟩
    have h5 : (if maybeFirst x = true then safeO b f.head? else safe b x && !notFirst x) = true := h
    unfold standsP
    rw [if_neg (sg_ne hx).1, if_neg (sg_ne hx).2]
    by_cases e : maybeFirst x = true
    · rw [if_pos e] at h5
      rw [if_pos (by simp [e])]
      cases f with
      | nil => cases h5
      | cons z f =>
        have : z = y := Option.some.inj hy
        subst this
        exact h5
    · rw [if_neg e] at h5
      have e58 : x ≠ 58 := by
        rintro rfl
        exact e rfl
      rw [if_neg (by simp [e, e58])]
      obtain ⟨h6, h7⟩ := Bool.and_eq_true_iff.mp h5
      have e35 : x ≠ 35 := by
        rintro rfl
        cases h7
      have hn : notFirst x = false := by simpa using h7
      rw [if_neg (by simp [e35, hn])]
      exact h6
theorem chk_blanks : ∀ {k p : Nat} {R : List Nat}, p ≠ 10 → R ≠ [] → R.head? ≠ some 10 → Chk b l B (some p) (List.replicate k 32) R
  | 0, _, _, _, _, _ => True.intro
  | k + 1, p, R, hp, hR, hh => by
    rw [List.replicate_succ]
    refine ⟨fun y hy => ?_, chk_blanks (by decide) hR hh⟩
    have hy10 : y ≠ 10 := by
      rintro rfl
      cases k with
      | zero =>
        cases R with
        | nil => exact hR rfl
        | cons z R =>
          have : z = 10 := Option.some.inj hy
          subst this
          exact hh rfl
      | succ k =>
        have : 32 = 10 := Option.some.inj hy
        cases this
    unfold standsP
    rw [if_pos rfl]
    have he : (List.replicate k 32 ++ R).isEmpty = false := by
      cases R with
      | nil => exact absurd rfl hR
      | cons z R => simp
    rw [he]
    simp [hp, hy10]
theorem chk_feeds : ∀ {k p : Nat} {R : List Nat}, R ≠ [] → Chk b false B (some p) (List.replicate k 10) R
  | 0, _, _, _ => True.intro
  | k + 1, p, R, hR => by
    rw [List.replicate_succ]
    refine ⟨fun y hy => ?_, chk_feeds hR⟩
    unfold standsP
    rw [if_neg (by decide), if_pos rfl]
    have he : (List.replicate k 10 ++ R).isEmpty = false := by
      cases R with
      | nil => exact absurd rfl hR
      | cons z R => simp
    rw [he]
    simp
theorem chk_pieces : ∀ {gs : Pcs} {z : Nat}, isSg z = true → (∀ g ∈ gs, g.1.ok ∧ wordOk b g.2 = true ∧ (l = true → g.1.isBr = false)) → Chk b l B (some z) (valOf gs) []
  | [], _, _, _ => True.intro
  | (g, w) :: gs, z, hz, hg => by
    obtain ⟨g1, g2, g3⟩ : g.ok ∧ wordOk b w = true ∧ (l = true → g.isBr = false) := hg (g, w) (List.mem_cons_self ..)
    obtain ⟨w1, w2, w3, _⟩ := wordOk_of g2
    obtain ⟨u, t, et⟩ := last_split w1
    have hgs : ∀ g ∈ gs, g.1.ok ∧ wordOk b g.2 = true ∧ (l = true → g.1.isBr = false) := fun z hz => hg z (List.mem_cons_of_mem _ hz)
    have ht : isSg t = true := by
      have : ∀ {u : List Nat}, wok b (u ++ [t]) = true → isSg t = true := fun {u} => by
        induction u with
        | nil => exact fun h => safe_sg (Bool.and_eq_true_iff.mp (Bool.and_eq_true_iff.mp (show (okc b t none && wok b []) = true from h)).1).1
        | cons x u ih => exact fun h => ih (Bool.and_eq_true_iff.mp (show (okc b x (u ++ [t]).head? && wok b (u ++ [t])) = true from h)).2
      exact this (u := u) (by rw [← et]; exact w3)
    have rest : ∀ p, Chk b l B (some p) (w ++ valOf gs) [] := fun p => by
      refine chk_app (chk_word w3 (.inl w2)) ?_
      rw [if_neg w1, et, List.getLast?_append]
      exact chk_pieces ht hgs
    rw [val_cons]
    show Chk b l B (some z) (g.val ++ (w ++ valOf gs)) []
    have hne : w ++ valOf gs ++ [] ≠ [] := by
      cases w with
      | nil => exact absurd rfl w1
      | cons x w => simp
    have hh : (w ++ valOf gs ++ []).head? ≠ some 10 := by
      cases w with
      | nil => exact absurd rfl w1
      | cons x w =>
        have := (okc_ne (Bool.and_eq_true_iff.mp (show (okc b x w.head? && wok b w) = true from w3)).1).2
        simpa using this
    have blanks : ∀ k, 1 ≤ k → Chk b l B (some z) (List.replicate k 32 ++ (w ++ valOf gs)) [] := fun k hk => by
      refine chk_app (chk_blanks (sg_ne hz).2 hne hh) ?_
      rw [if_neg (by intro e; have := congrArg List.length e; simp at this; omega)]
      cases k with
      | zero => omega
      | succ k =>
        rw [List.replicate_succ', List.getLast?_append]
        exact rest 32
    cases g with
    | bl k => exact blanks k g1
    | br a ls d =>
      have hl : l = false := by
        cases l with
        | false => rfl
        | true => exact absurd (show true = false from g3 rfl) (by decide)
      show Chk b l B (some z) (brk ls.length ++ (w ++ valOf gs)) []
      unfold brk
      by_cases hc : ls.length = 0
      · rw [if_pos hc]
        exact blanks 1 (Nat.le_refl 1)
      · rw [if_neg hc]
        subst hl
        refine chk_app (chk_feeds hne) ?_
        rw [if_neg (by intro e; have := congrArg List.length e; simp at this; exact hc (by simp [this]))]
        cases hk : ls.length with
        | zero => exact absurd hk hc
        | succ k =>
          rw [List.replicate_succ', List.getLast?_append]
          exact rest 10
theorem chk_at : ∀ (xs A : List Nat), Chk b l B A.getLast? xs [] → ∀ (i x y : Nat), xs[i]? = some x → (xs ++ B)[i + 1]? = some y → standsP b l (prevAt (A ++ xs) (A.length + i)) x y (A.length + i == (A ++ xs).length - 1) = true
  | [], _, _, i, x, y, h, _ => by simp at h
  | x0 :: r, A, ⟨h1, h2⟩, i, x, y, hx, hy => by
    cases i with
    | zero =>
      have : x0 = x := Option.some.inj hx
      subst this
      have e1 : prevAt (A ++ x0 :: r) (A.length + 0) = A.getLast? := by
        unfold prevAt
        rw [Nat.add_zero]
        by_cases h0 : A.length = 0
        · rw [if_pos h0, List.eq_nil_of_length_eq_zero h0]
          rfl
        · rw [if_neg h0, List.getLast?_eq_getElem?, List.getElem?_append_left (by omega)]
      have e2 : (A.length + 0 == (A ++ x0 :: r).length - 1) = (r ++ []).isEmpty := by
        rw [List.append_nil, Bool.eq_iff_iff, beq_iff_eq, List.isEmpty_iff, List.length_append, List.length_cons]
        constructor
        · intro h
          exact List.eq_nil_of_length_eq_zero (by omega)
        · rintro rfl
          simp
      rw [e1, e2]
      refine h1 y ?_
      rw [List.nil_append, List.head?_eq_getElem?]
      exact hy
    | succ i =>
      have e1 : A ++ x0 :: r = (A ++ [x0]) ++ r := by simp
      have e2 : A.length + (i + 1) = (A ++ [x0]).length + i := by
        simp
        omega
      rw [e1, e2]
      exact chk_at r (A ++ [x0]) (by rw [List.getLast?_append]; exact h2) i x y hx hy
end
theorem all_stand {c : Ct} {n : Nat} {f : List Nat} {gs : Pcs} (G : Good n f gs) (h : outB c.b c.l n f gs = false) : AllStand c (f ++ valOf gs) := by
  obtain ⟨f1, f2⟩ := fst_of G.fst c.b
  obtain ⟨s1, _, _, s4⟩ := fst_sg G.fst
  obtain ⟨u, t, et⟩ := last_split s4
  have hc : Chk c.b c.l c.beh none (f ++ valOf gs) [] := by
    refine chk_app (chk_first f1 f2) ?_
    rw [if_neg s4, et, List.getLast?_append]
    exact chk_pieces (s1 t (by rw [et]; simp)) (in_ok G h)
  intro i x y hx hy
  have := chk_at (f ++ valOf gs) [] hc i x y hx hy
  simpa using this
end Anp
/-! # part K14 -/
set_option maxHeartbeats 4000000
/-! The law's one, gap. -/
namespace Anp
open PySem PySem.Spec PyProof.Rows L2 Ap
section
variable {P : Program} {w : World} {K : PySem.W.Frag} {mg : Str → Option Value} {base : Heap}
theorem Stt.ne {H : Hp} {p q : Addr} (a : Stt H p) (h : H q = none) : p ≠ q := by
  obtain ⟨xs, e, _⟩ := a
  exact ne_of_none e h
def spOne : Sp := fun vs H Q _ => ∃ (p a : Addr) (xs : List V), vs = [.ref p, .ref a] ∧ Stt H p ∧ H a = some (.lst xs) ∧ a ≠ p ∧ 1 ≤ xs.length ∧ xs.length ≤ 1000 ∧ ∀ (i : Nat) v H', xs[i]? = some v → Stt H' p → Kp p H H' → Q v H'
theorem scOne : FnScope ["_law_state", "_law_some"] ["_law_state", "_law_some"] (defScope sOne) := ⟨rfl, rfl, rfl, by decide +kernel, rfl, by decide +kernel, by decide +kernel⟩
theorem dOne (T : Tx w K mg) : Dn P w K mg base 2 (He.ga K "_law_one") ["_law_state", "_law_some"] [] spOne := by
  obtain ⟨fd, F⟩ := T.f_law_one
  have DD : Dn P w K mg base 1 (He.ga K "_law_digit") ["_law_state", "_law_base"] [] spDigit := dDigit T
  refine ⟨fd, [], F.ok scOne (fun vs H Q E h => ?_) (fun cdv A outer s H vs Q E hr h => ?_), F.bindsN fun _ _ _ _ _ _ us hl => match us, hl with | [_, _], _ => rfl, .nil, F.kp⟩
  · obtain ⟨p, a, xs, rfl, _⟩ := h
    rfl
  · obtain ⟨p, a, xs, rfl, hS, ha, hne, h1, h2, q⟩ := h
    refine ⟨_, PSs.nox (pss_one (ps_ret (pe_ix ix_list (pv 1) (pe_dn DD hr (by decide) T.g__law_digit rfl (pa_cons (pv 0) (pa_cons (pe_callB call_len_seq (by rfl) T.n_len PySem.boot_len (pa_cons (pv 1) pa_nil)) pa_nil))) (fun _ _ => rfl)))), ?_⟩
    refine ⟨_, rfl, _, rfl, _, rfl, a, xs, rfl, .inl (SqL.of ha), p, xs.length, rfl, hS, h1, h2, fun d H1 hd S1 k1 => ?_⟩
    exact ⟨a, xs, d, xs[d], rfl, rfl, SqL.of (k1 a _ ha hne), atI_nat (List.getElem?_eq_getElem hd), q d _ H1 (List.getElem?_eq_getElem hd) S1 k1⟩

theorem menu6 {i : Nat} {v : V} (h : [V.int 0, V.int 0, V.int 0, V.int 1, V.int 2, V.int 3][i]? = some v) : ∃ m : Nat, v = .int m ∧ m ≤ 3 := by
  match i, h with
  | 0, h => exact ⟨0, (Option.some.inj h).symm, by decide⟩
  | 1, h => exact ⟨0, (Option.some.inj h).symm, by decide⟩
  | 2, h => exact ⟨0, (Option.some.inj h).symm, by decide⟩
  | 3, h => exact ⟨1, (Option.some.inj h).symm, by decide⟩
  | 4, h => exact ⟨2, (Option.some.inj h).symm, by decide⟩
  | 5, h => exact ⟨3, (Option.some.inj h).symm, by decide⟩
  | i + 6, h => cases h
theorem menu4 {i : Nat} {v : V} (h : [V.int 0, V.int 0, V.int 1, V.int 2][i]? = some v) : ∃ m : Nat, v = .int m ∧ m ≤ 2 := by
  match i, h with
  | 0, h => exact ⟨0, (Option.some.inj h).symm, by decide⟩
  | 1, h => exact ⟨0, (Option.some.inj h).symm, by decide⟩
  | 2, h => exact ⟨1, (Option.some.inj h).symm, by decide⟩
  | 3, h => exact ⟨2, (Option.some.inj h).symm, by decide⟩
  | i + 4, h => cases h
theorem menu5 {i : Nat} {v : V} (h : [V.int 0, V.int 0, V.int 0, V.int 1, V.int 3][i]? = some v) : ∃ m : Nat, v = .int m ∧ m ≤ 3 := by
  match i, h with
  | 0, h => exact ⟨0, (Option.some.inj h).symm, by decide⟩
  | 1, h => exact ⟨0, (Option.some.inj h).symm, by decide⟩
  | 2, h => exact ⟨0, (Option.some.inj h).symm, by decide⟩
  | 3, h => exact ⟨1, (Option.some.inj h).symm, by decide⟩
  | 4, h => exact ⟨3, (Option.some.inj h).symm, by decide⟩
  | i + 5, h => cases h
theorem lsT_len {M : Nat} : ∀ {ls : List Nat}, (∀ m ∈ ls, m ≤ M) → (lsT ls).length ≤ ls.length * (M + 1)
  | [], _ => by simp [lsT]
  | m :: ls, h => by
    have h1 := h m (List.mem_cons_self ..)
    have h2 := lsT_len (M := M) (ls := ls) fun z hz => h z (List.mem_cons_of_mem _ hz)
    have e : (lsT (m :: ls)).length = m + 1 + (lsT ls).length := by
      unfold lsT
      rw [List.flatMap_cons, List.length_append, List.length_append, List.length_replicate, List.length_singleton]
    rw [e, List.length_cons, Nat.succ_mul]
    omega
theorem lsT_snoc (ls : List Nat) (m : Nat) : lsT (ls ++ [m]) = lsT ls ++ (List.replicate m 32 ++ [10]) := by
  unfold lsT
  rw [List.flatMap_append]
  simp

def spGap : Sp := fun vs H Q _ => ∃ (p : Addr) (n : Nat), vs = [.ref p, .int n] ∧ Stt H p ∧ n ≤ 5 ∧ ∀ (g : Gp) a H', g.okN n → Stt H' p → Kp p H H' → H' a = some (.tup [VS (g.txt n), VS g.val]) → Q (.ref a) H'
theorem scGap : FnScope ["_law_state", "_law_indent", "_law_blanks", "_law_many", "_law_text", "_law_turn"] ["_law_state", "_law_indent"] (defScope sGap) := ⟨rfl, rfl, rfl, by decide +kernel, rfl, by decide +kernel, by decide +kernel⟩
theorem dGap (T : Tx w K mg) : Dn P w K mg base 3 (He.ga K "_law_gap") ["_law_state", "_law_indent"] [] spGap := by
  obtain ⟨fd, F⟩ := T.f_law_gap
  have DD : Dn P w K mg base 1 (He.ga K "_law_digit") ["_law_state", "_law_base"] [] spDigit := dDigit T
  have DO : Dn P w K mg base 2 (He.ga K "_law_one") ["_law_state", "_law_some"] [] spOne := dOne T
  refine ⟨fd, [], F.ok scGap (fun vs H Q E h => ?_) (fun cdv A outer s H vs Q E hr h => ?_), F.bindsN fun _ _ _ _ _ _ us hl => match us, hl with | [_, _], _ => rfl, .nil, F.kp⟩
  · obtain ⟨p, n, rfl, _⟩ := h
    rfl
  · obtain ⟨p, n, rfl, hS, hn, q⟩ := h
    refine ⟨_, PSs.nox (pss_cons (ps_if (pt_cmp (pc_eqI (pe_dn DD hr (by decide) T.g__law_digit rfl (pa_cons (pv 0) (pa_cons pe_int pa_nil))) pe_int))
        (pss_cons (ps_set (i := 2) scGap.nd rfl (.inl rfl) (pe_op op_mulS (pe_S [32] (by decide +kernel)) (pe_op op_add pe_int (pe_dn DD hr (by decide) T.g__law_digit rfl (pa_cons (pv 0) (pa_cons pe_int pa_nil))))))
        (pss_one (ps_ret (pe_tup (pa_cons (pv 2) (pa_cons (pv 2) pa_nil)))))) pss_nil)
      (pss_cons (ps_set (i := 3) scGap.nd rfl (.inl rfl) (pe_dn DO hr (by decide) T.g__law_one rfl (pa_cons (pv 0) (pa_cons (pe_lst (pa_cons pe_int (pa_cons pe_int (pa_cons pe_int (pa_cons pe_int (pa_cons pe_int (pa_cons pe_int pa_nil))))))) pa_nil))))
      (pss_cons (ps_set (i := 4) scGap.nd rfl (.inl rfl) (pe_op op_addS (pe_op op_mulS (pe_S [32] (by decide +kernel)) (pe_dn DO hr (by decide) T.g__law_one rfl (pa_cons (pv 0) (pa_cons (pe_lst (pa_cons pe_int (pa_cons pe_int (pa_cons pe_int (pa_cons pe_int pa_nil))))) pa_nil)))) (pe_S [10] (by decide +kernel))))
      (pss_cons (ps_for PassesOwn.never rfl (pi_range1 (by rfl) T.n_range (pa_cons (pv 3) pa_nil)) (pg_name (i := 5) scGap.nd rfl (Or.inl rfl))
        (pss_one (ps_set (i := 4) scGap.nd rfl (.inl rfl) (pe_op op_addS (pe_op op_addS (pv 4) (pe_op op_mulS (pe_S [32] (by decide +kernel)) (pe_dn DD hr (by decide) T.g__law_digit rfl (pa_cons (pv 0) (pa_cons (pe_op op_add (pv 1) pe_int) pa_nil))))) (pe_S [10] (by decide +kernel))))))
      (pss_one (ps_ret (pe_tup (pa_cons (pe_op op_addS (pv 4) (pe_op op_mulS (pe_S [32] (by decide +kernel)) (pe_op op_add (pv 1) (pe_dn DO hr (by decide) T.g__law_one rfl (pa_cons (pv 0) (pa_cons (pe_lst (pa_cons pe_int (pa_cons pe_int (pa_cons pe_int (pa_cons pe_int (pa_cons pe_int pa_nil)))))) pa_nil))))))
        (pa_cons (pe_ifExp (pt_cmp (pc_gt (pv 3) pe_int)) (pe_op op_mulS (pe_S [10] (by decide +kernel)) (pv 3)) (pe_S [32] (by decide +kernel))) pa_nil))))))))), ?_⟩
    refine ⟨_, rfl, p, 2, rfl, hS, by decide, by decide, fun d H1 hd S1 k1 => ?_⟩
    refine ⟨_, _, rfl, rfl, _, rfl, ?_⟩
    refine ite2 (fun _ => ?_) (fun _ => ?_)
    · -- blanks
      refine ⟨_, rfl, p, 3, rfl, S1, by decide, by decide, fun k H2 hk S2 k2 => ?_⟩
      refine ⟨_, _, rfl, rfl, 32, k + 1, rfl, congrArg V.int (by omega), by omega, ?_⟩
      refine ⟨_, rfl, _, rfl, by show 2 ≤ sizeLine; decide, fun a na => ?_⟩
      exact q (.bl (k + 1)) a _ ⟨by omega, by omega⟩ (S2.new na) ((k1.trans k2).trans (Kp.new na)) upd_same
    · -- a break
      refine ⟨_, rfl, by show 6 ≤ sizeLine; decide, fun a1 na1 => ?_⟩
      refine ⟨p, a1, _, rfl, S1.new na1, upd_same, (S1.ne na1).symm, by show 1 ≤ 6; decide, by show 6 ≤ 1000; decide, fun i v H2 hv S2 k2 => ?_⟩
      obtain ⟨many, rfl, hm⟩ := menu6 hv
      have kA := (k1.trans (Kp.new na1)).trans k2
      refine ⟨_, rfl, by show 4 ≤ sizeLine; decide, fun a2 na2 => ?_⟩
      refine ⟨p, a2, _, rfl, S2.new na2, upd_same, (S2.ne na2).symm, by show 1 ≤ 4; decide, by show 4 ≤ 1000; decide, fun i v H3 hv S3 k3 => ?_⟩
      obtain ⟨a0, rfl, ha0⟩ := menu4 hv
      have kB := (kA.trans (Kp.new na2)).trans k3
      refine ⟨32, a0, rfl, rfl, by omega, _, [10], rfl, rfl, by rw [List.length_replicate]; show a0 + 1 ≤ 1000000; omega, ?_⟩
      refine ⟨_, rfl, _, rfl, by omega, by omega, ?_⟩
      rw [Int.toNat_natCast]
      refine for_range (n := many) (fun i σ H' => ∃ (ls : List Nat) (v : Option V), σ = [some (.ref p), some (.int n), none, some (.int many), some (VS (List.replicate a0 32 ++ [10] ++ lsT ls)), v] ∧ ls.length = i ∧ (∀ m ∈ ls, m ≤ n + 2) ∧ Stt H' p ∧ Kp p H H')
        ⟨[], none, by simp [lsT]; rfl, rfl, fun m hm => (by cases hm), S3, kB⟩ ?_ ?_
      · rintro i σ H' hi ⟨ls, v, rfl, hl, hb, S4, k4⟩
        refine ⟨_, rfl, _, rfl, _, rfl, _, _, rfl, rfl, p, n + 3, rfl, S4, by omega, by omega, fun m H5 hm S5 k5 => ?_⟩
        have h1 := lsT_len hb
        have h2 : ls.length * (n + 2 + 1) ≤ 3 * 8 := Nat.mul_le_mul (by omega) (by omega)
        refine ⟨32, m, rfl, rfl, by omega, _, _, rfl, rfl, by simp only [List.length_append, List.length_replicate, List.length_singleton]; omega, ?_⟩
        refine ⟨_, [10], rfl, rfl, by simp only [List.length_append, List.length_replicate, List.length_singleton]; omega, ?_⟩
        refine ⟨ls ++ [m], some (.int (0 + (i : Int))), ?_, by rw [List.length_append, List.length_singleton, hl], fun z hz => ?_, S5, k4.trans k5⟩
        · rw [lsT_snoc]
          simp only [← List.append_assoc]
          rfl
        · rcases List.mem_append.mp hz with hz | hz
          · exact hb z hz
          · rw [List.mem_singleton.mp hz]
            omega
      · rintro σ H' ⟨ls, v, rfl, hl, hb, S4, k4⟩
        have h1 := lsT_len hb
        have h2 : ls.length * (n + 2 + 1) ≤ 3 * 8 := Nat.mul_le_mul (by omega) (by omega)
        refine ⟨_, rfl, _, rfl, _, rfl, by show 5 ≤ sizeLine; decide, fun a3 na3 => ?_⟩
        refine ⟨p, a3, _, rfl, S4.new na3, upd_same, (S4.ne na3).symm, by show 1 ≤ 5; decide, by show 5 ≤ 1000; decide, fun i v H5 hv S5 k5 => ?_⟩
        obtain ⟨d3, rfl, hd3⟩ := menu5 hv
        have kC := (k4.trans (Kp.new na3)).trans k5
        refine ⟨_, _, rfl, rfl, 32, n + d3, rfl, congrArg V.int (by omega), by omega, _, _, rfl, rfl, by simp only [List.length_append, List.length_replicate, List.length_singleton]; omega, ?_⟩
        refine ⟨_, rfl, _, _, rfl, rfl, _, rfl, ?_⟩
        have fin : ∀ (a : Addr) H6, H6 = upd H5 a (.tup [VS (List.replicate a0 32 ++ [10] ++ lsT ls ++ List.replicate (n + d3) 32), VS (brk ls.length)]) → H5 a = none → Q (.ref a) H6 := fun a H6 e6 na => by
          subst e6
          refine q (.br a0 ls d3) a _ ⟨ha0, by omega, hb, hd3⟩ (S5.new na) (kC.trans (Kp.new na)) ?_
          rw [upd_same]
          have e : Gp.txt n (.br a0 ls d3) = List.replicate a0 32 ++ [10] ++ lsT ls ++ List.replicate (n + d3) 32 := by simp [Gp.txt]
          rw [e]
          rfl
        by_cases hm0 : many = 0
        · refine (if_neg ?_).mpr ?_
          · show ¬ decide ((many : Int) > 0) = true
            rw [decide_eq_true_eq]
            omega
          · refine ⟨by show 2 ≤ sizeLine; decide, fun a na => fin a _ ?_ na⟩
            rw [hl, hm0]
            rfl
        · refine (if_pos ?_).mpr ?_
          · show decide ((many : Int) > 0) = true
            rw [decide_eq_true_eq]
            omega
          · refine ⟨_, rfl, 10, many, rfl, rfl, by omega, by show 2 ≤ sizeLine; decide, fun a na => fin a _ ?_ na⟩
            rw [hl]
            unfold brk
            rw [if_neg hm0]
end
end Anp
/-! # part K15 -/
set_option maxHeartbeats 4000000
/-! The law's pieces. -/
namespace Anp
open PySem PySem.Spec PyProof.Rows L2 Ap
/-- a list of pairs of texts -/
def PcsAt (H : Hp) (L : Addr) (tv : List (List Nat × List Nat)) : Prop := ∃ xs, H L = some (.lst xs) ∧ xs.length = tv.length ∧ ∀ (i : Nat) t, tv[i]? = some t → ∃ q, xs[i]? = some (.ref q) ∧ H q = some (.tup [VS t.1, VS t.2])
def tvs (n : Nat) (f : List Nat) (gs : Pcs) : List (List Nat × List Nat) := (f, f) :: gs.flatMap fun g => [(g.1.txt n, g.1.val), (g.2, g.2)]
theorem tvs_snoc (n : Nat) (f : List Nat) (gs : Pcs) (g : Gp × List Nat) : tvs n f (gs ++ [g]) = tvs n f gs ++ [(g.1.txt n, g.1.val), (g.2, g.2)] := by
  unfold tvs
  rw [List.flatMap_append]
  simp
theorem tvs_len (n : Nat) (f : List Nat) : ∀ gs : Pcs, (tvs n f gs).length = 1 + 2 * gs.length
  | [] => rfl
  | g :: gs => by
    have h : (tvs n f (g :: gs)).length = (tvs n f gs).length + 2 := by
      unfold tvs
      simp
    have e : (g :: gs).length = gs.length + 1 := List.length_cons
    rw [h, tvs_len n f gs, e]
    omega
theorem PcsAt.same {H H' : Hp} {L : Addr} {tv : List (List Nat × List Nat)} (a : PcsAt H L tv) (s : Same H H') : PcsAt H' L tv := by
  obtain ⟨xs, e, hl, h⟩ := a
  refine ⟨xs, s _ _ e, hl, fun i t ht => ?_⟩
  obtain ⟨q, h1, h2⟩ := h i t ht
  exact ⟨q, h1, s _ _ h2⟩
theorem PcsAt.ne {H : Hp} {L p : Addr} {t : List Nat × List Nat} {tv : List (List Nat × List Nat)} (a : PcsAt H L (t :: tv)) (s : Stt H p) : L ≠ p := by
  rintro rfl
  obtain ⟨xs, e, hl, h⟩ := a
  obtain ⟨ys, e2, hy⟩ := s
  rw [e] at e2
  have : xs = ys := by
    injection e2 with e3
    injection e3
  subst this
  obtain ⟨q, h1, _⟩ := h 0 t rfl
  rcases hy with ⟨i, rfl⟩ | ⟨i, j, k, rfl⟩ <;> cases h1
theorem PcsAt.keep {H H' : Hp} {L p : Addr} {t : List Nat × List Nat} {tv : List (List Nat × List Nat)} (a : PcsAt H L (t :: tv)) (s : Stt H p) (k : Kp p H H') : PcsAt H' L (t :: tv) := by
  have hne := a.ne s
  obtain ⟨xs, e, hl, h⟩ := a
  obtain ⟨ys, e2, _⟩ := s
  refine ⟨xs, k _ _ e hne, hl, fun i t ht => ?_⟩
  obtain ⟨q, h1, h2⟩ := h i t ht
  refine ⟨q, h1, k _ _ h2 fun z => ?_⟩
  subst z
  rw [h2] at e2
  cases e2
theorem PcsAt.cat {H : Hp} {L a b c : Addr} {xs : List V} {tv : List (List Nat × List Nat)} {t1 t2 : List Nat × List Nat} (ha : PcsAt H L tv) (hx : H L = some (.lst xs)) (h1 : H a = some (.tup [VS t1.1, VS t1.2])) (h2 : H b = some (.tup [VS t2.1, VS t2.2])) (hc : H c = none) :
    PcsAt (upd H c (.lst (xs ++ [.ref a, .ref b]))) c (tv ++ [t1, t2]) := by
  obtain ⟨ys, e, hl, h⟩ := ha
  rw [hx] at e
  have : xs = ys := by
    injection e with e3
    injection e3
  subst this
  refine ⟨_, upd_same, by rw [List.length_append, List.length_append, hl]; rfl, fun i t ht => ?_⟩
  have st : ∀ {q : Addr} {o : HO}, H q = some o → (upd H c (.lst (xs ++ [.ref a, .ref b]))) q = some o := fun {q o} z => by
    rw [upd_ne (ne_of_none z hc)]
    exact z
  by_cases hi : i < tv.length
  · rw [List.getElem?_append_left hi] at ht
    obtain ⟨q, q1, q2⟩ := h i t ht
    refine ⟨q, ?_, st q2⟩
    rw [List.getElem?_append_left (by omega)]
    exact q1
  · rw [List.getElem?_append_right (by omega)] at ht
    rw [List.getElem?_append_right (by omega), hl]
    match hj : i - tv.length, ht with
    | 0, ht =>
      have : t1 = t := Option.some.inj ht
      subst this
      exact ⟨a, rfl, st h1⟩
    | 1, ht =>
      have : t2 = t := Option.some.inj ht
      subst this
      exact ⟨b, rfl, st h2⟩
    | j + 2, ht => cases ht
theorem menu_of {l : List (List Nat)} {i : Nat} {v : V} (h : (l.map VS)[i]? = some v) : ∃ u ∈ l, v = VS u := by
  rw [List.getElem?_map] at h
  cases e : l[i]? with
  | none =>
    rw [e] at h
    cases h
  | some u =>
    rw [e] at h
    exact ⟨u, List.mem_of_getElem? e, (Option.some.inj h).symm⟩
section
variable {P : Program} {w : World} {K : PySem.W.Frag} {mg : Str → Option Value} {base : Heap}
def spPieces : Sp := fun vs H Q _ => ∃ (p : Addr) (n : Nat), vs = [.ref p, .int n] ∧ Stt H p ∧ n ≤ 5 ∧ ∀ f gs L H', Good n f gs → PcsAt H' L (tvs n f gs) → Stt H' p → Kp p H H' → Q (.ref L) H'
theorem scPieces : FnScope ["_law_state", "_law_indent", "_law_some", "_law_first", "_law_found", "_law_turn", "_law_word"] ["_law_state", "_law_indent"] (defScope sPieces) := ⟨rfl, rfl, rfl, by decide +kernel, rfl, by decide +kernel, by decide +kernel⟩
theorem dPieces (T : Tx w K mg) : Dn P w K mg base 4 (He.ga K "_law_pieces") ["_law_state", "_law_indent"] [] spPieces := by
  obtain ⟨fd, F⟩ := T.f_law_pieces
  have DD : Dn P w K mg base 1 (He.ga K "_law_digit") ["_law_state", "_law_base"] [] spDigit := dDigit T
  have DO : Dn P w K mg base 2 (He.ga K "_law_one") ["_law_state", "_law_some"] [] spOne := dOne T
  have DG : Dn P w K mg base 3 (He.ga K "_law_gap") ["_law_state", "_law_indent"] [] spGap := dGap T
  refine ⟨fd, [], F.ok scPieces (fun vs H Q E h => ?_) (fun cdv A outer s H vs Q E hr h => ?_), F.bindsN fun _ _ _ _ _ _ us hl => match us, hl with | [_, _], _ => rfl, .nil, F.kp⟩
  · obtain ⟨p, n, rfl, _⟩ := h
    rfl
  · obtain ⟨p, n, rfl, hS, hn, q⟩ := h
    refine ⟨_, PSs.nox (pss_cons (ps_set (i := 2) scPieces.nd rfl (.inl rfl) (pe_lst (pa_cons (pe_S [97] (by decide +kernel)) (pa_cons (pe_S [98, 58, 99] (by decide +kernel)) (pa_cons (pe_S [100, 35] (by decide +kernel)) (pa_cons (pe_S [45] (by decide +kernel)) (pa_cons (pe_S [63] (by decide +kernel)) (pa_cons (pe_S [45, 45] (by decide +kernel)) (pa_cons (pe_S [38, 101] (by decide +kernel)) (pa_cons (pe_S [39] (by decide +kernel)) (pa_cons (pe_S [33] (by decide +kernel)) (pa_cons (pe_S [120, 124] (by decide +kernel)) (pa_cons (pe_S [45, 102] (by decide +kernel)) (pa_cons (pe_S [63, 103] (by decide +kernel)) (pa_cons (pe_S [58, 104] (by decide +kernel)) (pa_cons (pe_S [64] (by decide +kernel)) (pa_cons (pe_S [34, 105, 34] (by decide +kernel)) (pa_cons (pe_S [62] (by decide +kernel)) (pa_cons (pe_S [106, 58, 44] (by decide +kernel)) (pa_cons (pe_S [107, 93] (by decide +kernel)) pa_nil))))))))))))))))))))
      (pss_cons (ps_set (i := 3) scPieces.nd rfl (.inl rfl) (pe_dn DO hr (by decide) T.g__law_one rfl (pa_cons (pv 0) (pa_cons (pe_lst (pa_cons (pe_S [97] (by decide +kernel)) (pa_cons (pe_S [98, 58, 99] (by decide +kernel)) (pa_cons (pe_S [45, 49] (by decide +kernel)) (pa_cons (pe_S [63, 120] (by decide +kernel)) (pa_cons (pe_S [58, 121] (by decide +kernel)) (pa_cons (pe_S [45, 45] (by decide +kernel)) (pa_cons (pe_S [48] (by decide +kernel)) (pa_cons (pe_S [46, 46, 46] (by decide +kernel)) pa_nil))))))))) pa_nil))))
      (pss_cons (ps_set (i := 4) scPieces.nd rfl (.inl rfl) (pe_lst (pa_cons (pe_tup (pa_cons (pv 3) (pa_cons (pv 3) pa_nil))) pa_nil)))
      (pss_cons (ps_for PassesOwn.never rfl (pi_range1 (by rfl) T.n_range (pa_cons (pe_dn DD hr (by decide) T.g__law_digit rfl (pa_cons (pv 0) (pa_cons pe_int pa_nil))) pa_nil)) (pg_name (i := 5) scPieces.nd rfl (Or.inl rfl))
        (pss_cons (ps_set (i := 6) scPieces.nd rfl (.inl rfl) (pe_dn DO hr (by decide) T.g__law_one rfl (pa_cons (pv 0) (pa_cons (pv 2) pa_nil))))
        (pss_one (ps_set (i := 4) scPieces.nd rfl (.inl rfl) (pe_op op_cat (pv 4) (pe_lst (pa_cons (pe_dn DG hr (by decide) T.g__law_gap rfl (pa_cons (pv 0) (pa_cons (pv 1) pa_nil))) (pa_cons (pe_tup (pa_cons (pv 6) (pa_cons (pv 6) pa_nil))) pa_nil))))))))
      (pss_one (ps_ret (pv 4))))))), ?_⟩
    refine ⟨by show 18 ≤ sizeLine; decide, fun aw naw => ?_⟩
    refine ⟨_, rfl, by show 8 ≤ sizeLine; decide, fun af naf => ?_⟩
    have S1 := (hS.new (o := .lst (wordsL18.map VS)) naw)
    refine ⟨p, af, firstsL.map VS, rfl, S1.new naf, upd_same, (S1.ne naf).symm, by decide, by decide, fun i v H2 hv S2 k2 => ?_⟩
    obtain ⟨f, hf, rfl⟩ := menu_of hv
    have kA := ((Kp.new (p := p) (o := .lst (wordsL18.map VS)) naw).trans (Kp.new naf)).trans k2
    have hW : H2 aw = some (.lst (wordsL18.map VS)) := k2 _ _ (by rw [upd_ne (ne_of_none (upd_same (H := H) (a := aw) (o := .lst (wordsL18.map VS))) naf)]; exact upd_same) (hS.ne naw).symm
    refine ⟨_, rfl, _, rfl, by show 2 ≤ sizeLine; decide, fun t0 nt0 => ?_⟩
    refine ⟨by show 1 ≤ sizeLine; decide, fun l0 nl0 => ?_⟩
    have S3 := (S2.new (o := .tup [VS f, VS f]) nt0).new (o := .lst [.ref t0]) nl0
    have kB := (kA.trans (Kp.new (o := .tup [VS f, VS f]) nt0)).trans (Kp.new (o := .lst [.ref t0]) nl0)
    have P0 : PcsAt (upd (upd H2 t0 (.tup [VS f, VS f])) l0 (.lst [.ref t0])) l0 (tvs n f []) := by
      refine ⟨_, upd_same, rfl, fun i t ht => ?_⟩
      match i, ht with
      | 0, ht =>
        have : (f, f) = t := Option.some.inj ht
        subst this
        exact ⟨t0, rfl, by rw [upd_ne (ne_of_none upd_same nl0)]; exact upd_same⟩
      | i + 1, ht => cases ht
    have hW2 : (upd (upd H2 t0 (.tup [VS f, VS f])) l0 (.lst [.ref t0])) aw = some (.lst (wordsL18.map VS)) := same_new nl0 _ _ (same_new nt0 _ _ hW)
    refine ⟨_, rfl, p, 7, rfl, S3, by decide, by decide, fun cnt H4 hcnt S4 k4 => ?_⟩
    have hpaw : aw ≠ p := (hS.ne naw).symm
    refine ⟨_, rfl, by omega, by omega, ?_⟩
    rw [Int.toNat_natCast]
    refine for_range (n := cnt) (fun i σ H' => ∃ (gs : Pcs) (L : Addr) (v5 v6 : Option V), σ = [some (.ref p), some (.int n), some (.ref aw), some (VS f), some (.ref L), v5, v6] ∧ gs.length = i ∧ (∀ g ∈ gs, g.1.okN n ∧ g.2 ∈ wordsL18) ∧ PcsAt H' L (tvs n f gs) ∧ H' aw = some (.lst (wordsL18.map VS)) ∧ Stt H' p ∧ Kp p H H')
      ⟨[], l0, none, none, rfl, rfl, fun g hg => (by cases hg), P0.keep S3 k4, k4 _ _ hW2 hpaw, S4, kB.trans k4⟩ ?_ ?_
    · rintro i σ H' hi ⟨gs, L, v5, v6, rfl, hl, hg, hP, hw, S5, k5⟩
      refine ⟨_, rfl, _, rfl, p, aw, _, rfl, S5, hw, hpaw, by decide, by decide, fun j v H6 hv S6 k6 => ?_⟩
      obtain ⟨u, hu, rfl⟩ := menu_of hv
      refine ⟨_, rfl, _, rfl, _, rfl, p, n, rfl, S6, hn, fun g a H7 hgo S7 k7 ha => ?_⟩
      refine ⟨_, rfl, _, rfl, by show 2 ≤ sizeLine; decide, fun b nb => ?_⟩
      refine ⟨by show 2 ≤ sizeLine; decide, fun c nc => ?_⟩
      have k67 := k6.trans k7
      have P7 := hP.keep S5 k67
      obtain ⟨xs, hx, hxl, _⟩ := id P7
      have P8 := (P7.same (same_new (o := .tup [VS u, VS u]) nb)).same (same_new (o := .lst [.ref a, .ref b]) nc)
      have hx8 : (upd (upd H7 b (.tup [VS u, VS u])) c (.lst [.ref a, .ref b])) L = some (.lst xs) := same_new nc _ _ (same_new nb _ _ hx)
      have hb8 : (upd (upd H7 b (.tup [VS u, VS u])) c (.lst [.ref a, .ref b])) b = some (.tup [VS u, VS u]) := same_new nc _ _ upd_same
      have hsz : xs.length ≤ 20 := by
        have e := hxl.trans (tvs_len n f gs)
        omega
      refine ⟨L, c, xs, _, rfl, rfl, hx8, upd_same, by show xs.length + 2 ≤ sizeLine; exact Nat.le_trans (show xs.length + 2 ≤ 22 by omega) (by decide), fun d nd => ?_⟩
      have S8 := (S7.new (o := .tup [VS u, VS u]) nb).new (o := .lst [.ref a, .ref b]) nc
      refine ⟨gs ++ [(g, u)], d, some (.int (0 + (i : Int))), some (VS u), rfl, by rw [List.length_append, List.length_singleton, hl], fun z hz => ?_, ?_, ?_, S8.new nd, ((((k5.trans k67).trans (Kp.new nb)).trans (Kp.new nc)).trans (Kp.new nd))⟩
      · rcases List.mem_append.mp hz with hz | hz
        · exact hg z hz
        · rw [List.mem_singleton.mp hz]
          exact ⟨hgo, hu⟩
      · rw [tvs_snoc]
        exact P8.cat hx8 (same_new nc _ _ (same_new nb _ _ ha)) hb8 nd
      · exact same_new nd _ _ (same_new nc _ _ (same_new nb _ _ (k67 _ _ hw hpaw)))
    · rintro σ H' ⟨gs, L, v5, v6, rfl, hl, hg, hP, hw, S5, k5⟩
      exact ⟨_, rfl, q f gs L H' ⟨hn, hf, by omega, hg⟩ hP S5 k5⟩
end
end Anp
/-! # part K16 -/
set_option maxHeartbeats 4000000
/-! The law's spoilt texts. -/
namespace Anp
open PySem PySem.Spec PyProof.Rows L2 Ap
theorem cutV_to (xs : List V) (j : Nat) : cutV xs none (some (j : Int)) = xs.take j := by
  unfold cutV
  rw [HT.sIx_none, HT.sIx_nat, List.drop_zero, Nat.sub_zero]
  by_cases h : j ≤ xs.length
  · rw [Nat.min_eq_left h]
  · rw [Nat.min_eq_right (by omega), List.take_of_length_le (Nat.le_refl _), List.take_of_length_le (by omega)]
theorem cutV_from (xs : List V) (j : Nat) : cutV xs (some (j : Int)) none = xs.drop j := by
  unfold cutV
  rw [HT.sIx_none, HT.sIx_nat]
  by_cases h : j ≤ xs.length
  · rw [Nat.min_eq_left h, List.take_of_length_le (by rw [List.length_drop]; omega)]
  · rw [Nat.min_eq_right (by omega), List.drop_eq_nil_of_le (Nat.le_refl _), List.drop_eq_nil_of_le (by omega)]
    simp
theorem joinL_nil : ∀ ps : List (List Nat), TL.joinL [] ps = ps.flatten
  | [] => rfl
  | [p] => by
    show p = [p].flatten
    simp
  | p :: q :: r => by
    show p ++ ([] ++ TL.joinL [] (q :: r)) = _
    rw [joinL_nil (q :: r)]
    rfl
theorem join_S (ts : List (List Nat)) : Txt.join (S []) (ts.map S) = S ts.flatten := by
  rw [TL.join_eq]
  have h := TL.tl_join (S []) (ts.map S)
  rw [List.map_map] at h
  have e : ts.map (TL.tl ∘ S) = ts := by
    have : (TL.tl ∘ S) = id := funext fun t => rfl
    rw [this, List.map_id]
  rw [e, show TL.tl (S []) = [] from rfl, joinL_nil] at h
  have h2 : (Str.join (S []) (ts.map S)).cps.toList = ts.flatten := h
  rw [← h2]
  rfl
theorem sum_S (ts : List (List Nat)) : ((ts.map S).map (·.length)).sum = ts.flatten.length := by
  rw [List.length_flatten, List.map_map]
  exact congrArg List.sum (List.map_congr_left fun t _ => S_len t)
/-- the texts of the pieces -/
theorem fst_tvs (n : Nat) (f : List Nat) (gs : Pcs) : (tvs n f gs).map (·.1) = f :: gs.flatMap fun g => [g.1.txt n, g.2] := by
  unfold tvs
  rw [List.map_cons, List.map_flatMap]
  rfl
theorem snd_tvs (n : Nat) (f : List Nat) (gs : Pcs) : (tvs n f gs).map (·.2) = f :: gs.flatMap fun g => [g.1.val, g.2] := by
  unfold tvs
  rw [List.map_cons, List.map_flatMap]
  rfl
theorem flat2 (h1 h2 : Gp × List Nat → List Nat) : ∀ gs : Pcs, (gs.flatMap fun g => [h1 g, h2 g]).flatten = gs.flatMap fun g => h1 g ++ h2 g
  | [] => rfl
  | g :: gs => by
    rw [List.flatMap_cons, List.flatMap_cons, List.flatten_append, flat2 h1 h2 gs]
    simp
theorem take2 (h1 h2 : Gp × List Nat → List Nat) : ∀ (k : Nat) (gs : Pcs), (gs.flatMap fun g => [h1 g, h2 g]).take (2 * k) = (gs.take k).flatMap fun g => [h1 g, h2 g]
  | 0, gs => by simp
  | k + 1, [] => by simp
  | k + 1, g :: gs => by
    rw [List.flatMap_cons, List.take_succ_cons, List.flatMap_cons, show 2 * (k + 1) = (2 * k) + 1 + 1 by omega]
    show h1 g :: h2 g :: ((gs.flatMap fun g => [h1 g, h2 g]).take (2 * k)) = _
    rw [take2 h1 h2 k gs]
    rfl
theorem drop2 (h1 h2 : Gp × List Nat → List Nat) : ∀ (k : Nat) (gs : Pcs), (gs.flatMap fun g => [h1 g, h2 g]).drop (2 * k) = (gs.drop k).flatMap fun g => [h1 g, h2 g]
  | 0, gs => by simp
  | k + 1, [] => by simp
  | k + 1, g :: gs => by
    rw [List.flatMap_cons, List.drop_succ_cons, show 2 * (k + 1) = (2 * k) + 1 + 1 by omega]
    show (gs.flatMap fun g => [h1 g, h2 g]).drop (2 * k) = _
    exact drop2 h1 h2 k gs
theorem flat_txt (n : Nat) (f : List Nat) (gs : Pcs) : ((tvs n f gs).map (·.1)).flatten = f ++ txtOf n gs := by
  rw [fst_tvs, List.flatten_cons, flat2]
  rfl
theorem flat_val (n : Nat) (f : List Nat) (gs : Pcs) : ((tvs n f gs).map (·.2)).flatten = f ++ valOf gs := by
  rw [snd_tvs, List.flatten_cons, flat2]
  rfl
theorem take_txt (n : Nat) (f : List Nat) (gs : Pcs) (k : Nat) : (((tvs n f gs).map (·.1)).take (2 * k + 1)).flatten = f ++ txtOf n (gs.take k) := by
  rw [fst_tvs, List.take_succ_cons, take2, List.flatten_cons, flat2]
  rfl
theorem drop_txt (n : Nat) (f : List Nat) (gs : Pcs) (k : Nat) : (((tvs n f gs).map (·.1)).drop (2 * k + 1)).flatten = txtOf n (gs.drop k) := by
  rw [fst_tvs, List.drop_succ_cons, drop2, flat2]
  rfl
theorem gap_len {n : Nat} {g : Gp} (hn : n ≤ 5) (h : g.okN n) : (g.txt n).length ≤ 40 ∧ g.val.length ≤ 4 := by
  cases g with
  | bl k =>
    have : (Gp.txt n (.bl k)).length = k ∧ (Gp.val (.bl k)).length = k := by simp [Gp.txt, Gp.val]
    obtain ⟨h1, h2⟩ := h
    omega
  | br a ls d =>
    obtain ⟨h1, h2, h3, h4⟩ := h
    have e1 := lsT_len h3
    have e2 : ls.length * (n + 2 + 1) ≤ 3 * 8 := Nat.mul_le_mul h2 (by omega)
    have e3 : (Gp.txt n (.br a ls d)).length = a + 1 + (lsT ls).length + (n + d) := by
      simp [Gp.txt]
      omega
    have e4 : (Gp.val (.br a ls d)).length ≤ ls.length + 1 := brk_len ls.length
    omega
theorem pcs_len {n : Nat} : ∀ {gs : Pcs}, n ≤ 5 → (∀ g ∈ gs, g.1.okN n ∧ g.2 ∈ wordsL18) → (txtOf n gs).length ≤ gs.length * 50 ∧ (valOf gs).length ≤ gs.length * 50
  | [], _, _ => by simp [txtOf, Ap.valOf]
  | g :: gs, hn, h => by
    obtain ⟨h1, h2⟩ := h g (List.mem_cons_self ..)
    obtain ⟨e1, e2⟩ := gap_len hn h1
    have e3 := (word_of h2).2.2.2
    obtain ⟨e4, e5⟩ := pcs_len hn fun z hz => h z (List.mem_cons_of_mem _ hz)
    have el : (g :: gs).length = gs.length + 1 := List.length_cons
    rw [txt_cons, val_cons, el, List.length_append, List.length_append, List.length_append, List.length_append]
    omega
theorem good_size {n : Nat} {f : List Nat} {gs : Pcs} (G : Good n f gs) : (f ++ txtOf n gs).length ≤ 400 ∧ (f ++ valOf gs).length ≤ 400 := by
  obtain ⟨h1, h2⟩ := pcs_len G.n5 G.gap
  have h3 := (fst_sg G.fst).2.2.1
  have h4 := G.len
  rw [List.length_append, List.length_append]
  omega
section
variable {P : Program} {w : World} {K : PySem.W.Frag} {mg : Str → Option Value} {base : Heap}
def spSpoilt : Sp := fun vs H Q _ => ∃ (p L : Addr) (n : Nat) (f : List Nat) (gs : Pcs), vs = [.ref p, .ref L, .int n] ∧ Stt H p ∧ Good n f gs ∧ PcsAt H L (tvs n f gs) ∧
  ∀ (k : Nat) odd H', k ≤ gs.length → odd ∈ oddsL n → Stt H' p → Kp p H H' → Q (VS ((f ++ txtOf n (gs.take k)) ++ (odd ++ 122 :: txtOf n (gs.drop k)))) H'
theorem scSpoilt : FnScope ["_law_state", "_law_pieces_here", "_law_indent", "_law_at", "_law_few", "_law_odd", "_law_texts", "_law_piece"] ["_law_state", "_law_pieces_here", "_law_indent"] (defScope sSpoilt) := ⟨rfl, rfl, rfl, by decide +kernel, rfl, by decide +kernel, by decide +kernel⟩
theorem dSpoilt (T : Tx w K mg) : Dn P w K mg base 3 (He.ga K "_law_spoilt") ["_law_state", "_law_pieces_here", "_law_indent"] [] spSpoilt := by
  obtain ⟨fd, F⟩ := T.f_law_spoilt
  have DD : Dn P w K mg base 1 (He.ga K "_law_digit") ["_law_state", "_law_base"] [] spDigit := dDigit T
  have DO : Dn P w K mg base 2 (He.ga K "_law_one") ["_law_state", "_law_some"] [] spOne := dOne T
  refine ⟨fd, [], F.ok scSpoilt (fun vs H Q E h => ?_) (fun cdv A outer s H vs Q E hr h => ?_), F.bindsN fun _ _ _ _ _ _ us hl => match us, hl with | [_, _, _], _ => rfl, .nil, F.kp⟩
  · obtain ⟨p, L, n, f, gs, rfl, _⟩ := h
    rfl
  · obtain ⟨p, L, n, f, gs, rfl, hS, G, hP, q⟩ := h
    have hn := G.n5
    -- behind «few»
    obtain ⟨tR, hR, eR⟩ : ∃ tR, PSs (cxOf CX0 P w K mg base ["_law_state", "_law_pieces_here", "_law_indent", "_law_at", "_law_few", "_law_odd", "_law_texts", "_law_piece"] "_law_spoilt" (defScope sSpoilt) (He.ga K "_law_spoilt") cdv A outer s H E).nox ((defBody sSpoilt).drop 2) tR ∧
        ∀ (k : Nat) (af : Addr) (few : List (List Nat)) (H' : Hp), k ≤ gs.length → H' af = some (.lst (few.map VS)) → few.length ≤ 3 → (∀ x ∈ few, x ∈ oddsL n) → PcsAt H' L (tvs n f gs) → Stt H' p → Kp p H H' →
          tR { nx := fun _ H' => Q .non H', rt := Q } [some (.ref p), some (.ref L), some (.int n), some (.int k), some (.ref af), none, none, none] H' := by
      refine ⟨_, pss_cons (ps_set (i := 5) scSpoilt.nd rfl (.inl rfl) (pe_dn DO hr (by decide) T.g__law_one rfl (pa_cons (pv 0) (pa_cons (pe_op op_cat (pv 4) (pe_lst (pa_cons (pe_S [32, 35] (by decide +kernel)) (pa_cons (pe_S [58, 32] (by decide +kernel)) (pa_cons (pe_S [9] (by decide +kernel)) (pa_cons (pe_S [32, 9, 32] (by decide +kernel)) (pa_cons (pe_op op_addS (pe_S [58, 10] (by decide +kernel)) (pe_op op_mulS (pe_S [32] (by decide +kernel)) (pv 2))) (pa_cons (pe_op op_addS (pe_op op_addS (pe_S [10] (by decide +kernel)) (pe_op op_mulS (pe_S [32] (by decide +kernel)) (pv 2))) (pe_S [9] (by decide +kernel))) pa_nil)))))))) pa_nil))))
        (pss_cons (ps_setLc (i := 6) (own := [("_law_piece", 7)]) (g := gName 7) (tt := tYes) rfl scSpoilt.nd rfl rfl (sw_true rfl rfl rfl (by decide +kernel)) (pi_list (pv 1))
          (blkOk_by (own := [("_law_piece", 7)]) (N := ["_law_state", "_law_pieces_here", "_law_indent", "_law_at", "_law_few", "_law_odd", "_law_texts", "_law_piece"]) (sc := defScope sSpoilt) (by decide +kernel))
          (fun _ _ _ _ _ => pg_name (i := 7) scSpoilt.nd rfl (Or.inl rfl)) (fun _ _ _ _ _ => pts_nil) (fun _ _ _ _ _ => pe_ix (r := rIxT K) ix_tup (pv 7) pe_int (fun _ _ => rfl)))
        (pss_one (ps_ret (pe_op op_addS (pe_op op_addS (pe_op op_addS (pe_join (pe_S [] (by decide +kernel)) (pe_slice sl_list (pv 6) po_none (po_some (pe_op op_add (pe_op op_mul pe_int (pv 3)) pe_int)))) (pv 5)) (pe_S [122] (by decide +kernel)))
          (pe_join (pe_S [] (by decide +kernel)) (pe_slice sl_list (pv 6) (po_some (pe_op op_add (pe_op op_mul pe_int (pv 3)) pe_int)) po_none)))))), fun k af few H' hk hf hfl hfm hP' S' k' => ?_⟩
      have mulN : ∀ m : Nat, m = n → m ≤ 1000000 := fun m hm => by omega
      refine ⟨_, rfl, _, rfl, _, rfl, 32, n, rfl, rfl, by omega, _, _, rfl, rfl, by rw [List.length_replicate]; show 2 + n ≤ 1000000; omega, ?_⟩
      refine ⟨_, rfl, 32, n, rfl, rfl, by omega, _, _, rfl, rfl, by rw [List.length_replicate]; show 1 + n ≤ 1000000; omega, _, _, rfl, rfl, by rw [List.length_append, List.length_replicate]; show 1 + n + 1 ≤ 1000000; omega, ?_⟩
      refine ⟨by show 6 ≤ sizeLine; decide, fun b nb => ?_⟩
      have hf1 := same_new (o := .lst (([[32, 35], [58, 32], [9], [32, 9, 32], [58, 10] ++ List.replicate n 32, [10] ++ List.replicate n 32 ++ [9]] : List (List Nat)).map VS)) nb _ _ hf
      refine ⟨af, b, _, _, rfl, rfl, hf1, upd_same, by rw [List.length_map]; show few.length + 6 ≤ sizeLine; exact Nat.le_trans (show few.length + 6 ≤ 9 by omega) (by decide), fun c nc => ?_⟩
      have S2 := (S'.new nb).new (o := .lst (few.map VS ++ ([[32, 35], [58, 32], [9], [32, 9, 32], [58, 10] ++ List.replicate n 32, [10] ++ List.replicate n 32 ++ [9]] : List (List Nat)).map VS)) nc
      refine ⟨p, c, (few ++ [[32, 35], [58, 32], [9], [32, 9, 32], [58, 10] ++ List.replicate n 32, [10] ++ List.replicate n 32 ++ [9]]).map VS, rfl, S2, by rw [List.map_append]; exact upd_same, (Stt.ne (S'.new nb) nc).symm, ?_, ?_, fun i v H2 hv S3 k3 => ?_⟩
      · rw [List.length_map, List.length_append]
        show 1 ≤ few.length + 6
        omega
      · rw [List.length_map, List.length_append]
        show few.length + 6 ≤ 1000
        omega
      obtain ⟨odd, ho, rfl⟩ := menu_of hv
      have hod : odd ∈ oddsL n := by
        rcases List.mem_append.mp ho with ho | ho
        · exact hfm _ ho
        · unfold oddsL
          exact List.mem_append_right _ ho
      have kc := ((k'.trans (Kp.new nb)).trans (Kp.new nc)).trans k3
      have P2 : PcsAt H2 L (tvs n f gs) := (((hP'.same (same_new nb)).same (same_new nc)).keep S2 k3)
      obtain ⟨xs, hx, hxl, hxa⟩ := id P2
      refine ⟨_, rfl, L, rfl, ⟨xs, SqL.of hx⟩, fun D nD => ?_⟩
      refine lc_list (K := K) (a := L) (xs := xs) (fun i H3 => Same H2 H3 ∧ H3 D = some (.lst ((((tvs n f gs).map (·.1)).take i).map VS))) ⟨same_new nD, upd_same⟩ (fun i H3 _ ⟨s3, _⟩ => SqL.of (s3 _ _ hx)) ?_ ?_
      · rintro i x H3 hi ⟨s3, hd⟩
        have hlt : i < (tvs n f gs).length := by
          rw [← hxl]
          exact (List.getElem?_eq_some_iff.mp hi).1
        obtain ⟨qa, q1, q2⟩ := hxa i _ (List.getElem?_eq_getElem hlt)
        rw [hi] at q1
        have : x = .ref qa := Option.some.inj q1
        subst this
        refine ⟨rfl, ?_⟩
        refine ⟨_, rfl, qa, _, 0, _, rfl, rfl, SqT.of (s3 _ _ q2), rfl, _, hd, ?_, same_own s3 nD, ?_⟩
        · rw [List.length_map, List.length_take, List.length_map]
          have := tvs_len n f gs
          have := G.len
          exact Nat.lt_of_le_of_lt (show min i (tvs n f gs).length ≤ 13 by omega) (by decide)
        · rw [upd_same, List.take_succ_eq_append_getElem (by rw [List.length_map]; exact hlt), List.map_append, List.getElem_map]
          rfl
      · rintro H3 ⟨s3, hd⟩
        rw [hxl, List.take_of_length_le (by rw [List.length_map]; exact Nat.le_refl _)] at hd
        have e21 : (2 : Int) * (k : Int) + 1 = ((2 * k + 1 : Nat) : Int) := by omega
        have sz := good_size G
        have szt := congrArg List.length (flat_txt n f gs)
        refine ⟨⟨_, rfl⟩, _, rfl, _, rfl, _, _, rfl, rfl, .inl ⟨by decide, by decide⟩, _, _, rfl, rfl, _, rfl, D, _, rfl, SqL.of hd, fun j1 nj1 => ?_⟩
        have ez1 : cutV ((((tvs n f gs).map (·.1)).map VS)) none (some ((2 : Int) * (k : Int) + 1)) = ((((tvs n f gs).map (·.1)).take (2 * k + 1)).map S).map V.str := by
          rw [e21, cutV_to, ← List.map_take, List.map_map]
          rfl
        have ez2 : cutV ((((tvs n f gs).map (·.1)).map VS)) (some ((2 : Int) * (k : Int) + 1)) none = ((((tvs n f gs).map (·.1)).drop (2 * k + 1)).map S).map V.str := by
          rw [e21, cutV_from, ← List.map_drop, List.map_map]
          rfl
        have l1 : (f ++ txtOf n (gs.take k)).length ≤ 400 ∧ (txtOf n (gs.drop k)).length ≤ 400 := by
          have e : txtOf n gs = txtOf n (gs.take k) ++ txtOf n (gs.drop k) := by
            unfold txtOf
            rw [← List.flatMap_append, List.take_append_drop]
          have := sz.1
          rw [e, ← List.append_assoc, List.length_append] at this
          omega
        have lo : odd.length ≤ 20 := by
          unfold oddsL at hod
          rcases List.mem_append.mp hod with ho | ho
          · split at ho
            · simp only [List.mem_cons, List.not_mem_nil, or_false] at ho
              rcases ho with rfl | rfl | rfl <;> simp
            · simp only [List.mem_cons, List.not_mem_nil, or_false] at ho
              rcases ho with rfl | rfl <;> simp <;> omega
          · simp only [List.mem_cons, List.not_mem_nil, or_false] at ho
            rcases ho with rfl | rfl | rfl | rfl | rfl | rfl <;> simp <;> omega
        refine ⟨S [], j1, (((tvs n f gs).map (·.1)).take (2 * k + 1)).map S, rfl, rfl, .inl (SqL.of (by rw [← ez1]; exact upd_same)), ?_, ?_⟩
        · rw [sum_S, S_len, List.length_nil, Nat.mul_zero, Nat.add_zero, take_txt]
          exact Nat.le_trans l1.1 (by decide)
        rw [join_S, take_txt]
        refine ⟨_, rfl, f ++ txtOf n (gs.take k), odd, rfl, rfl, by omega, _, [122], rfl, rfl, by rw [List.length_append, List.length_singleton]; omega, ?_⟩
        refine ⟨⟨_, rfl⟩, _, rfl, _, rfl, _, _, rfl, rfl, .inl ⟨by decide, by decide⟩, _, _, rfl, rfl, _, rfl, D, _, rfl, SqL.of (same_new nj1 _ _ hd), fun j2 nj2 => ?_⟩
        refine ⟨S [], j2, (((tvs n f gs).map (·.1)).drop (2 * k + 1)).map S, rfl, rfl, .inl (SqL.of (by rw [← ez2]; exact upd_same)), ?_, ?_⟩
        · rw [sum_S, S_len, List.length_nil, Nat.mul_zero, Nat.add_zero, drop_txt]
          exact Nat.le_trans l1.2 (by decide)
        rw [join_S, drop_txt]
        refine ⟨_, _, rfl, rfl, by rw [List.length_append, List.length_append, List.length_singleton]; omega, ?_⟩
        have ef : (f ++ txtOf n (gs.take k) ++ odd ++ [122]) ++ txtOf n (gs.drop k) = (f ++ txtOf n (gs.take k)) ++ (odd ++ 122 :: txtOf n (gs.drop k)) := by simp
        rw [ef]
        have kf : Kp p H H3 := fun x o e nx => s3 _ _ (kc x o e nx)
        have S4 : Stt H3 p := by
          obtain ⟨ys, y1, y2⟩ := S3
          exact ⟨ys, s3 _ _ y1, y2⟩
        exact q k odd _ hk hod ((S4.new nj1).new nj2) ((kf.trans (Kp.new nj1)).trans (Kp.new nj2))
    refine ⟨_, PSs.nox (pss_cons (ps_set (i := 3) scSpoilt.nd rfl (.inl rfl) (pe_dn DD hr (by decide) T.g__law_digit rfl (pa_cons (pv 0) (pa_cons (pe_op op_add (pe_op op_fdiv (pe_callB call_len_seq (by rfl) T.n_len PySem.boot_len (pa_cons (pv 1) pa_nil)) pe_int) pe_int) pa_nil))))
      (pss_cons (ps_set (i := 4) scSpoilt.nd rfl (.inl rfl) (pe_ifExp (pt_cmp (pc_eqI (pv 2) pe_int)) (pe_lst (pa_cons (pe_S [10, 45, 45, 45, 32] (by decide +kernel)) (pa_cons (pe_S [10, 46, 46, 46, 10] (by decide +kernel)) (pa_cons (pe_S [10, 35] (by decide +kernel)) pa_nil)))) (pe_lst (pa_cons (pe_op op_addS (pe_S [10] (by decide +kernel)) (pe_op op_mulS (pe_S [32] (by decide +kernel)) (pe_op op_sub (pv 2) pe_int))) (pa_cons (pe_op op_addS (pe_S [10, 10] (by decide +kernel)) (pe_op op_mulS (pe_S [32] (by decide +kernel)) (pe_op op_sub (pv 2) pe_int))) pa_nil))))) hR)), ?_⟩
    obtain ⟨xs, hx, hxl, _⟩ := id hP
    have hxn : xs.length = 1 + 2 * gs.length := hxl.trans (tvs_len n f gs)
    refine ⟨_, rfl, _, rfl, L, xs, rfl, .inl (SqL.of hx), _, _, rfl, rfl, ⟨by decide, by decide⟩, _, _, rfl, rfl, p, gs.length + 1, ?_, hS, by omega, by have := G.len; omega, fun k H1 hk S1 k1 => ?_⟩
    · show [V.ref p, V.int ((xs.length : Int) / 2 + 1)] = _
      rw [hxn]
      exact congrArg (fun z => [V.ref p, V.int z]) (by omega)
    have P1 := hP.keep hS k1
    refine ⟨_, rfl, _, _, rfl, rfl, decide (n = 0), ?_, ?_⟩
    · refine congrArg V.bl ?_
      show decide ((n : Int) = 0) = _
      rw [decide_eq_decide]
      omega
    by_cases h0 : n = 0
    · rw [decide_eq_true h0]
      refine iteT ⟨by show 3 ≤ sizeLine; decide, fun af naf => ?_⟩
      refine eR k af [[10, 45, 45, 45, 32], [10, 46, 46, 46, 10], [10, 35]] _ (by omega) upd_same (by decide) (fun x hx => ?_) (P1.same (same_new naf)) (S1.new naf) (k1.trans (Kp.new naf))
      unfold oddsL
      rw [if_pos h0]
      exact List.mem_append_left _ hx
    · rw [decide_eq_false h0]
      have hn1 : (n : Int) - 1 = ((n - 1 : Nat) : Int) := by omega
      refine iteF ?_
      refine ⟨_, rfl, _, _, rfl, rfl, 32, n - 1, rfl, congrArg V.int hn1, by omega, _, _, rfl, rfl, by rw [List.length_replicate]; show 1 + (n - 1) ≤ 1000000; omega, ?_⟩
      refine ⟨_, rfl, _, _, rfl, rfl, 32, n - 1, rfl, congrArg V.int hn1, by omega, _, _, rfl, rfl, by rw [List.length_replicate]; show 2 + (n - 1) ≤ 1000000; omega, ?_⟩
      refine ⟨by show 2 ≤ sizeLine; decide, fun af naf => ?_⟩
      refine eR k af [10 :: List.replicate (n - 1) 32, 10 :: 10 :: List.replicate (n - 1) 32] _ (by omega) upd_same (by show 2 ≤ 3; decide) (fun x hx => ?_) (P1.same (same_new naf)) (S1.new naf) (k1.trans (Kp.new naf))
      unfold oddsL
      rw [if_neg h0]
      exact List.mem_append_left _ hx
end
end Anp
/-! # part K17 -/
set_option maxHeartbeats 4000000
/-! What the law asks, of the texts alone; its tests. -/
namespace Anp
open PySem PySem.Spec PyProof.Rows L2 Ap
theorem sg_tx {x : Nat} (h : isSg x = true) : txOk x = true := by
  unfold isSg at h
  obtain ⟨h1, h2⟩ := Bool.and_eq_true_iff.mp h
  have h1 := of_decide_eq_true h1
  unfold txOk
  rw [decide_eq_true (show 32 ≤ x by omega), h2]
  rfl
theorem TxOk.app {a b : List Nat} (h1 : TxOk a) (h2 : TxOk b) : TxOk (a ++ b) := fun x hx => by
  rcases List.mem_append.mp hx with h | h
  · exact h1 x h
  · exact h2 x h
theorem tx_dec {a : List Nat} (h : a.all txOk = true) : TxOk a := List.all_eq_true.mp h
theorem tx_rep (n : Nat) : TxOk (List.replicate n 32) := fun x hx => by
  rw [List.eq_of_mem_replicate hx]
  rfl
section
variable {n : Nat} {f : List Nat} {gs : Pcs}
theorem tx_pcs (h : ∀ g ∈ gs, g.1.okN n ∧ g.2 ∈ wordsL18) : TxOk (txtOf n gs) ∧ TxOk (Ap.valOf gs) := by
  constructor
  · intro x hx
    rcases txt_mem hx with (rfl | rfl) | ⟨g, hg, hw⟩
    · rfl
    · rfl
    · exact sg_tx ((word_of (h g hg).2).2.2.1 x hw)
  · intro x hx
    rcases vals_mem hx with (rfl | rfl) | ⟨g, hg, hw⟩
    · rfl
    · rfl
    · exact sg_tx ((word_of (h g hg).2).2.2.1 x hw)
theorem tx_good (G : Good n f gs) : TxOk (f ++ txtOf n gs) ∧ TxOk (f ++ Ap.valOf gs) := by
  have h1 : TxOk f := fun x hx => sg_tx ((fst_sg G.fst).1 x hx)
  obtain ⟨h2, h3⟩ := tx_pcs G.gap
  exact ⟨h1.app h2, h1.app h3⟩
theorem ne_good (G : Good n f gs) (Y : List Nat) : f ++ Y ≠ [] := by
  have := (fst_sg G.fst).2.2.2
  cases f with
  | nil => exact absurd rfl this
  | cons _ _ => simp
theorem read_c (c : Ct) {r : Option (List Nat)} (G : Good n f gs) (h : ReadR c.b c.l n (f ++ txtOf n gs) c.beh r) : r = if outB c.b c.l n f gs = true then none else some (f ++ Ap.valOf gs) := by
  cases c with
  | O => exact read_law G ⟨by decide, by decide⟩ (stops_O n) h
  | K => exact read_law G ⟨by decide, by decide⟩ (stops_l false n) h
  | I => exact read_law G ⟨by decide, by decide⟩ (stops_I n) h
  | P => exact read_law G ⟨by decide, by decide⟩ (stops_l true n) h
theorem colon_c (c : Ct) {r : Option (List Nat)} (G : Good n f gs) (h : ReadR c.b c.l n (f ++ txtOf n gs ++ [58]) c.beh r) : r = if (outB c.b c.l n f gs || !c.l) = true then none else some (f ++ Ap.valOf gs ++ [58]) := by
  cases c with
  | O =>
    have := read_colon_no (b := false) (l := false) G (by decide) h
    rw [this, show Ct.l .O = false from rfl, Bool.not_false, Bool.or_true, if_pos rfl]
  | K =>
    have := read_colon (b := false) G h
    rw [this, show Ct.l .K = true from rfl, Bool.not_true, Bool.or_false]
    rfl
  | I =>
    have := read_colon_no (b := true) (l := false) G (by decide) h
    rw [this, show Ct.l .I = false from rfl, Bool.not_false, Bool.or_true, if_pos rfl]
  | P =>
    have := read_colon (b := true) G h
    rw [this, show Ct.l .P = true from rfl, Bool.not_true, Bool.or_false]
    rfl
/-- a text that is read nowhere -/
structure Bad (n : Nat) (t : List Nat) : Prop where
  len : t.length ≤ 3000
  ne : t ≠ []
  tx : TxOk t
  no : ∀ (c : Ct) r, ReadR c.b c.l n t c.beh r → r = none
theorem odd_ok {odd : List Nat} (hn : n ≤ 5) (h : odd ∈ oddsL n) : odd.length ≤ 20 ∧ TxOk odd := by
  unfold oddsL at h
  rcases List.mem_append.mp h with ho | ho
  · split at ho
    · simp only [List.mem_cons, List.not_mem_nil, or_false] at ho
      rcases ho with rfl | rfl | rfl <;> exact ⟨by decide, tx_dec (by decide)⟩
    · simp only [List.mem_cons, List.not_mem_nil, or_false] at ho
      rcases ho with rfl | rfl
      · exact ⟨by simp; omega, (tx_dec (a := [10]) (by decide)).app (tx_rep (n - 1))⟩
      · exact ⟨by simp; omega, (tx_dec (a := [10, 10]) (by decide)).app (tx_rep (n - 1))⟩
  · simp only [List.mem_cons, List.not_mem_nil, or_false] at ho
    rcases ho with rfl | rfl | rfl | rfl | rfl | rfl
    · exact ⟨by decide, tx_dec (by decide)⟩
    · exact ⟨by decide, tx_dec (by decide)⟩
    · exact ⟨by decide, tx_dec (by decide)⟩
    · exact ⟨by decide, tx_dec (by decide)⟩
    · exact ⟨by simp; omega, (tx_dec (a := [58, 10]) (by decide)).app (tx_rep n)⟩
    · exact ⟨by simp; omega, (tx_dec (a := [10]) (by decide)).app ((tx_rep n).app (tx_dec (a := [9]) (by decide)))⟩
theorem split_txt (n : Nat) (gs : Pcs) (k : Nat) : txtOf n gs = txtOf n (gs.take k) ++ txtOf n (gs.drop k) := by
  unfold txtOf
  rw [← List.flatMap_append, List.take_append_drop]
theorem bad_spoilt (G : Good n f gs) {k : Nat} {odd : List Nat} (ho : odd ∈ oddsL n) : Bad n ((f ++ txtOf n (gs.take k)) ++ (odd ++ 122 :: txtOf n (gs.drop k))) := by
  have e := split_txt n gs k
  have sz := (good_size G).1
  rw [e, ← List.append_assoc, List.length_append] at sz
  obtain ⟨o1, o2⟩ := odd_ok G.n5 ho
  have tx := (tx_good G).1
  rw [e, ← List.append_assoc] at tx
  refine ⟨?_, ?_, ?_, fun c r h => read_spoilt (ne_good G _) ho h⟩
  · rw [List.length_append, List.length_append (as := odd), List.length_cons]
    omega
  · rw [List.append_assoc]
    exact ne_good G _
  · refine TxOk.app (fun x hx => tx x (List.mem_append_left _ hx)) (o2.app ?_)
    exact TxOk.app (a := [122]) (tx_dec (by decide)) fun x hx => tx x (List.mem_append_right _ hx)
theorem bad_white (G : Good n f gs) {ys : List Nat} {y : Nat} (hl : ys.length ≤ 5) (ht : TxOk (ys ++ [y])) (hy : isSg y = false) : Bad n (f ++ txtOf n gs ++ (ys ++ [y])) := by
  refine ⟨?_, ?_, (tx_good G).1.app ht, fun c r h => ?_⟩
  · have := (good_size G).1
    rw [List.length_append, List.length_append (as := ys), List.length_singleton]
    omega
  · rw [List.append_assoc]
    exact ne_good G _
  · rw [← List.append_assoc] at h
    exact read_white h hy
theorem bad_first (G : Good n f gs) {ys : List Nat} {y : Nat} (hl : ys.length ≤ 5) (ht : TxOk (y :: ys)) (hy : y = 32 ∨ y = 38 ∨ y = 44) : Bad n (y :: ys ++ (f ++ txtOf n gs)) := by
  refine ⟨?_, by simp, ht.app (tx_good G).1, fun c r h => read_bad hy h⟩
  have := (good_size G).1
  rw [List.length_append, List.length_cons]
  omega
end

/-! ### list != [] -/
theorem dp_signs {K : PySem.W.Frag} {H : Hp} : ∀ cs : List Nat, DpAll K H (cs.map fun c => VS [c]) (cs.map fun c => PyData.str (S [c]))
  | [] => .nil
  | c :: cs => .cons (.str _) (dp_signs cs)
theorem lay_signs : ∀ {cs : List Nat}, (∀ c ∈ cs, c ≤ 126) → PyData.canLayAll0 (cs.map fun c => PyData.str (S [c])) = true ∧ PyData.depthAll (cs.map fun c => PyData.str (S [c])) = 0
  | [], _ => ⟨rfl, rfl⟩
  | c :: cs, h => by
    obtain ⟨h1, h2⟩ := lay_signs (cs := cs) fun z hz => h z (List.mem_cons_of_mem _ hz)
    have h3 := h c (List.mem_cons_self ..)
    constructor
    · show (PyData.strOk (S [c]) && PyData.canLayAll0 (cs.map fun c => PyData.str (S [c]))) = true
      rw [h1, Bool.and_true]
      unfold PyData.strOk
      show (#[c].all fun x => decide (x < 0x110000)) = true
      simp
      omega
    · show max (PyData.depth (PyData.str (S [c]))) (PyData.depthAll (cs.map fun c => PyData.str (S [c]))) = 0
      rw [h2]
      rfl
theorem shaped_signs {cs : List Nat} (h : ∀ c ∈ cs, c ≤ 126) : SeqAt.shaped (.list (cs.map fun c => PyData.str (S [c]))) = true := by
  obtain ⟨h1, h2⟩ := lay_signs h
  unfold SeqAt.shaped
  show (PyData.canLayAll0 (cs.map fun c => PyData.str (S [c])) && decide (PyData.depthAll (cs.map fun c => PyData.str (S [c])) + 1 ≤ 64)) = true
  rw [h1, h2]
  rfl
theorem eqv_nil (cs : List Nat) : PyData.eqv (.list (cs.map fun c => PyData.str (S [c]))) (.list []) = cs.isEmpty := by
  cases cs with
  | nil => rfl
  | cons c cs => rfl
/-- x in (a, b), the tuple made on the way -/
theorem in2 {K : PySem.W.Frag} {σ : L2.St} {H : Hp} {Q : VK} {i : Nat} {x a b : List Nat} (h : σ[i]? = some (some (VS x))) (q : ∀ H', Same H H' → Q (.bl (([a, b] : List (List Nat)).contains x)) H') :
    tOp (rInT K false) (tVar i) (tTup (tCons (tC (VS a)) (tCons (tC (VS b)) tNil))) σ H Q :=
  ⟨_, h, by show 2 ≤ sizeLine; decide, fun p np => ⟨x, p, [a, b], rfl, rfl, SqT.of upd_same, q _ (same_new np)⟩⟩
theorem nm_l (c : Ct) : ([[107, 101, 121], [112, 97, 105, 114]] : List (List Nat)).contains c.nm = c.l := by cases c <;> rfl
theorem nm_b (c : Ct) : ([[102, 108, 111, 119], [112, 97, 105, 114]] : List (List Nat)).contains c.nm = c.b := by cases c <;> rfl
theorem nm_n (c : Ct) : ([[98, 108, 111, 99, 107], [102, 108, 111, 119]] : List (List Nat)).contains c.nm = !c.l := by cases c <;> rfl
theorem optV_ne {r s : Option (List Nat)} (h : r = s) : scal (optV r) (optV s) = true ∧ (!decide (optV r = optV s)) = false := by
  subst h
  cases r <;> exact ⟨rfl, by simp⟩
end Anp
/-! # part K18 -/
set_option maxHeartbeats 4000000
/-! The law: what is done in each context. -/
namespace Anp
open PySem PySem.Spec PyProof.Rows L2 Ap
def forBody : Stmt → List Stmt
  | .For _ _ b _ _ => b
  | _ => []
abbrev bCell : List Stmt := forBody ((defBody sLaw).getD 0 (.Pass ⟨0, 0, 0, 0⟩))
abbrev bTurn : List Stmt := forBody (bCell.getD 1 (.Pass ⟨0, 0, 0, 0⟩))
abbrev bCtx : List Stmt := forBody (bTurn.getD 5 (.Pass ⟨0, 0, 0, 0⟩))
abbrev nL : List Str := ["_law_script", "_law_cell", "_law_state", "_law_turn", "_law_indent", "_law_pieces_here", "_law_text", "_law_value", "_law_has_break", "_law_spoilt_here", "_law_has_bracket", "_law_context", "_law_is_out", "_law_found", "_law_odd", "_law_due", "_law_piece", "_law_sign"]
theorem scLaw : FnScope nL ["_law_script"] (defScope sLaw) := ⟨rfl, rfl, rfl, by decide +kernel, rfl, by decide +kernel, by decide +kernel⟩
abbrev XL (P : Program) (w : World) (K : PySem.W.Frag) (mg : Str → Option Value) (base : Heap) (cdv : Value) (A : Around) (outer : List Env) (s : Shared) (H : Hp) (E : XK) : Cx := (cxOf CX0 P w K mg base nL "law" (defScope sLaw) (He.ga K "law") cdv A outer s H E).nox
section
variable {P : Program} {w : World} {K : PySem.W.Frag} {mg : Str → Option Value} {base : Heap}
/-- the slots within a turn -/
def sgm (s0 s1 s2 s3 s5 : Option V) (n : Nat) (X Vl : List Nat) (hb : Bool) (sp : List Nat) (hk : Bool) (s11 s12 s13 s14 s15 : Option V) : L2.St :=
  [s0, s1, s2, s3, some (.int n), s5, some (VS X), some (VS Vl), some (.bl hb), some (VS sp), some (.bl hk), s11, s12, s13, s14, s15, none, none]
theorem bodyCtx3 (T : Tx w K mg) {cdv : Value} {A : Around} {outer : List Env} {s : Shared} {H : Hp} {E : XK} (hr : Room 8 (A.deeper (envOfC "law" (defScope sLaw) s.heap.objs.size (He.ga K "law") cdv))) :
    ∃ t, PSs (XL P w K mg base cdv A outer s H E) (bCtx.drop 5) t ∧ ∀ (D : Ends) (H1 : Hp) (n : Nat) (f : List Nat) (gs : Pcs) (sp : List Nat) (c : Ct) (s0 s1 s2 s3 s5 s12 s13 s14 s15 : Option V), Good n f gs → Bad n sp → s15 = some (optV (if (outB c.b c.l n f gs || !c.l) = true then none else some (f ++ Ap.valOf gs ++ [58]))) →
      (∀ H2 z12 z13 z14 z15, Same H1 H2 → D.nx (sgm s0 s1 s2 s3 s5 n (f ++ txtOf n gs) (f ++ Ap.valOf gs) ((f ++ txtOf n gs).contains 10) sp ((f ++ Ap.valOf gs).any isBr) (some (VS c.nm)) z12 z13 z14 z15) H2) →
      t D (sgm s0 s1 s2 s3 s5 n (f ++ txtOf n gs) (f ++ Ap.valOf gs) ((f ++ txtOf n gs).contains 10) sp ((f ++ Ap.valOf gs).any isBr) (some (VS c.nm)) s12 s13 s14 s15) H1 := by
  have DR : Dn P w K mg base 7 (He.ga K "read_scalar") ["text", "style", "context", "indent", "deep"] [.int 1] spRead := dRead T
  refine ⟨_, pss_one (ps_if (pt_cmpR op_ne (pe_dn DR hr (by decide) T.g_read_scalar rfl (pa_cons (pe_op op_addS (pv 6) (pe_S [58] (by decide +kernel))) (pa_cons (pe_S plainL (by decide +kernel)) (pa_cons (pv 11) (pa_cons (pv 4) pa_nil))))) (pv 15) (nomark _)) (pss_one (ps_ret pe_bl)) pss_nil), ?_⟩
  intro D H1 n f gs sp c s0 s1 s2 s3 s5 s12 s13 s14 s15 G B h15 k
  have hn := G.n5
  have szX := (good_size G).1
  have szV := (good_size G).2
  have txX := (tx_good G).1
  have txV := (tx_good G).2
  subst h15
  refine ⟨_, rfl, f ++ txtOf n gs, [58], rfl, rfl, by rw [List.length_singleton]; omega, _, rfl, _, rfl, f ++ txtOf n gs ++ [58], c, n, rfl, by rw [List.length_append (bs := [58]), List.length_singleton]; omega, by simp, txX.app (tx_dec (by decide)), by omega, fun r H3 hr S3 => ?_⟩
  obtain ⟨e1, e2⟩ := optV_ne (colon_c c G hr)
  exact ⟨_, rfl, e1, false, congrArg V.bl e2, iteF (k H3 _ _ _ _ S3)⟩
theorem bodyCtx2 (T : Tx w K mg) {cdv : Value} {A : Around} {outer : List Env} {s : Shared} {H : Hp} {E : XK} (hr : Room 8 (A.deeper (envOfC "law" (defScope sLaw) s.heap.objs.size (He.ga K "law") cdv))) :
    ∃ t, PSs (XL P w K mg base cdv A outer s H E) (bCtx.drop 4) t ∧ ∀ (D : Ends) (H1 : Hp) (n : Nat) (f : List Nat) (gs : Pcs) (sp : List Nat) (c : Ct) (s0 s1 s2 s3 s5 s12 s13 s14 s15 : Option V), Good n f gs → Bad n sp → s12 = some (.bl (outB c.b c.l n f gs)) →
      (∀ H2 z12 z13 z14 z15, Same H1 H2 → D.nx (sgm s0 s1 s2 s3 s5 n (f ++ txtOf n gs) (f ++ Ap.valOf gs) ((f ++ txtOf n gs).contains 10) sp ((f ++ Ap.valOf gs).any isBr) (some (VS c.nm)) z12 z13 z14 z15) H2) →
      t D (sgm s0 s1 s2 s3 s5 n (f ++ txtOf n gs) (f ++ Ap.valOf gs) ((f ++ txtOf n gs).contains 10) sp ((f ++ Ap.valOf gs).any isBr) (some (VS c.nm)) s12 s13 s14 s15) H1 := by
  obtain ⟨t3, h3, e3⟩ := bodyCtx3 (P := P) (base := base) T (outer := outer) (H := H) (E := E) hr
  refine ⟨_, pss_cons (ps_set (i := 15) scLaw.nd rfl (.inl rfl) (pe_ifExp (PW.pt (pw_or (pt_val (pv 12)) (pw_or1 (pt_cmpR op_inT (pv 11) (pe_tup (pa_cons (pe_S [98, 108, 111, 99, 107] (by decide +kernel)) (pa_cons (pe_S [102, 108, 111, 119] (by decide +kernel)) pa_nil))) rfl)))) pe_non (pe_op op_addS (pv 7) (pe_S [58] (by decide +kernel))))) h3, ?_⟩
  intro D H1 n f gs sp c s0 s1 s2 s3 s5 s12 s13 s14 s15 G B h12 k
  have hn := G.n5
  have szX := (good_size G).1
  have szV := (good_size G).2
  have txX := (tx_good G).1
  have txV := (tx_good G).2
  subst h12
  have go : ∀ H2, Same H1 H2 → t3 D (sgm s0 s1 s2 s3 s5 n (f ++ txtOf n gs) (f ++ Ap.valOf gs) ((f ++ txtOf n gs).contains 10) sp ((f ++ Ap.valOf gs).any isBr) (some (VS c.nm)) (some (.bl (outB c.b c.l n f gs))) s13 s14 (some (optV (if (outB c.b c.l n f gs || !c.l) = true then none else some (f ++ Ap.valOf gs ++ [58]))))) H2 :=
    fun H2 S2 => e3 D H2 n f gs sp c s0 s1 s2 s3 s5 _ s13 s14 _ G B rfl fun H3 z12 z13 z14 z15 S3 => k H3 z12 z13 z14 z15 (S2.trans S3)
  refine ⟨_, rfl, _, rfl, ?_⟩
  cases ho : outB c.b c.l n f gs with
  | true =>
    rw [ho] at go
    refine iteT (iteT ?_)
    exact go H1 (Same.refl H1)
  | false =>
    rw [ho] at go
    refine iteF (in2 rfl fun H2 S2 => ⟨_, rfl, ?_⟩)
    rw [nm_n]
    cases hl : c.l with
    | false =>
      rw [hl] at go
      refine iteT ?_
      exact go H2 S2
    | true =>
      rw [hl] at go
      refine iteF ⟨_, rfl, f ++ Ap.valOf gs, [58], rfl, rfl, by rw [List.length_singleton]; omega, ?_⟩
      exact go H2 S2
theorem bodyCtx1 (T : Tx w K mg) {cdv : Value} {A : Around} {outer : List Env} {s : Shared} {H : Hp} {E : XK} (hr : Room 8 (A.deeper (envOfC "law" (defScope sLaw) s.heap.objs.size (He.ga K "law") cdv))) :
    ∃ t, PSs (XL P w K mg base cdv A outer s H E) (bCtx.drop 3) t ∧ ∀ (D : Ends) (H1 : Hp) (n : Nat) (f : List Nat) (gs : Pcs) (sp : List Nat) (c : Ct) (s0 s1 s2 s3 s5 s12 s13 s14 s15 : Option V), Good n f gs → Bad n sp → s12 = some (.bl (outB c.b c.l n f gs)) →
      (∀ H2 z12 z13 z14 z15, Same H1 H2 → D.nx (sgm s0 s1 s2 s3 s5 n (f ++ txtOf n gs) (f ++ Ap.valOf gs) ((f ++ txtOf n gs).contains 10) sp ((f ++ Ap.valOf gs).any isBr) (some (VS c.nm)) z12 z13 z14 z15) H2) →
      t D (sgm s0 s1 s2 s3 s5 n (f ++ txtOf n gs) (f ++ Ap.valOf gs) ((f ++ txtOf n gs).contains 10) sp ((f ++ Ap.valOf gs).any isBr) (some (VS c.nm)) s12 s13 s14 s15) H1 := by
  have DR : Dn P w K mg base 7 (He.ga K "read_scalar") ["text", "style", "context", "indent", "deep"] [.int 1] spRead := dRead T
  obtain ⟨t2, h2, e2⟩ := bodyCtx2 (P := P) (base := base) T (outer := outer) (H := H) (E := E) hr
  refine ⟨_, pss_cons (ps_for PassesOwn.never rfl (pi_tup (pe_tup (pa_cons (pv 9) (pa_cons (pe_op op_addS (pe_S [32] (by decide +kernel)) (pv 6)) (pa_cons (pe_op op_addS (pv 6) (pe_S [32] (by decide +kernel))) (pa_cons (pe_op op_addS (pv 6) (pe_S [58, 32] (by decide +kernel)))
        (pa_cons (pe_op op_addS (pe_S [38] (by decide +kernel)) (pv 6)) (pa_cons (pe_op op_addS (pe_S [44, 32] (by decide +kernel)) (pv 6)) (pa_cons (pe_op op_addS (pv 6) (pe_S [10] (by decide +kernel))) pa_nil))))))))) (pg_name (i := 14) scLaw.nd rfl (Or.inl rfl))
      (pss_one (ps_if (pt_cmpR op_notN (pe_dn DR hr (by decide) T.g_read_scalar rfl (pa_cons (pv 14) (pa_cons (pe_S plainL (by decide +kernel)) (pa_cons (pv 11) (pa_cons (pv 4) pa_nil))))) pe_non (nomark _)) (pss_one (ps_ret pe_bl)) pss_nil))) h2, ?_⟩
  intro D H1 n f gs sp c s0 s1 s2 s3 s5 s12 s13 s14 s15 G B h12 k
  have hn := G.n5
  have szX := (good_size G).1
  have szV := (good_size G).2
  have txX := (tx_good G).1
  have txV := (tx_good G).2
  subst h12
  have bads : ∀ t ∈ ([sp, [32] ++ (f ++ txtOf n gs), f ++ txtOf n gs ++ [32], f ++ txtOf n gs ++ [58, 32], [38] ++ (f ++ txtOf n gs), [44, 32] ++ (f ++ txtOf n gs), f ++ txtOf n gs ++ [10]] : List (List Nat)), Bad n t := fun t ht => by
    simp only [List.mem_cons, List.not_mem_nil, or_false] at ht
    rcases ht with rfl | rfl | rfl | rfl | rfl | rfl | rfl
    · exact B
    · exact bad_first G (ys := []) (by decide) (tx_dec (by decide)) (.inl rfl)
    · exact bad_white G (ys := []) (by decide) (tx_dec (by decide)) (by decide)
    · exact bad_white G (ys := [58]) (by decide) (tx_dec (by decide)) (by decide)
    · exact bad_first G (ys := []) (by decide) (tx_dec (by decide)) (.inr (.inl rfl))
    · exact bad_first G (ys := [32]) (by decide) (tx_dec (by decide)) (.inr (.inr rfl))
    · exact bad_white G (ys := []) (by decide) (tx_dec (by decide)) (by decide)
  refine ⟨_, rfl, _, rfl, [32], f ++ txtOf n gs, rfl, rfl, by rw [List.length_singleton]; omega, _, rfl, f ++ txtOf n gs, [32], rfl, rfl, by rw [List.length_singleton]; omega, _, rfl, f ++ txtOf n gs, [58, 32], rfl, rfl, by show _ + 2 ≤ _; omega,
    _, rfl, [38], f ++ txtOf n gs, rfl, rfl, by rw [List.length_singleton]; omega, _, rfl, [44, 32], f ++ txtOf n gs, rfl, rfl, by show 2 + _ ≤ _; omega, _, rfl, f ++ txtOf n gs, [10], rfl, rfl, by rw [List.length_singleton]; omega, by show 7 ≤ sizeLine; decide, fun a na => ?_⟩
  refine ⟨a, rfl, ⟨_, SqT.of upd_same⟩, for_tup (K := K) (a := a) (xs := ([sp, [32] ++ (f ++ txtOf n gs), f ++ txtOf n gs ++ [32], f ++ txtOf n gs ++ [58, 32], [38] ++ (f ++ txtOf n gs), [44, 32] ++ (f ++ txtOf n gs), f ++ txtOf n gs ++ [10]] : List (List Nat)).map VS)
    (fun i σ H' => (∃ z14, σ = sgm s0 s1 s2 s3 s5 n (f ++ txtOf n gs) (f ++ Ap.valOf gs) ((f ++ txtOf n gs).contains 10) sp ((f ++ Ap.valOf gs).any isBr) (some (VS c.nm)) (some (.bl (outB c.b c.l n f gs))) s13 z14 s15) ∧ Same H1 H' ∧
      H' a = some (.tup (([sp, [32] ++ (f ++ txtOf n gs), f ++ txtOf n gs ++ [32], f ++ txtOf n gs ++ [58, 32], [38] ++ (f ++ txtOf n gs), [44, 32] ++ (f ++ txtOf n gs), f ++ txtOf n gs ++ [10]] : List (List Nat)).map VS)))
    ⟨⟨_, rfl⟩, same_new na, upd_same⟩ (fun i σ H' _ ⟨_, _, h⟩ => SqT.of h) ?_ ?_⟩
  · rintro i x σ H' hi ⟨⟨z14, rfl⟩, S1, ha⟩
    obtain ⟨t, ht, rfl⟩ := menu_of hi
    have Bt := bads t ht
    refine ⟨_, rfl, _, rfl, _, rfl, t, c, n, rfl, Bt.len, Bt.ne, Bt.tx, by omega, fun r H3 hr S3 => ?_⟩
    have := Bt.no c r hr
    subst this
    exact ⟨rfl, false, rfl, iteF ⟨⟨_, rfl⟩, S1.trans S3, S3 _ _ ha⟩⟩
  · rintro σ H' ⟨⟨z14, rfl⟩, S1, _⟩
    exact e2 D H' n f gs sp c s0 s1 s2 s3 s5 _ s13 z14 s15 G B rfl fun H3 y12 y13 y14 y15 S3 => k H3 y12 y13 y14 y15 (S1.trans S3)
theorem bodyCtx (T : Tx w K mg) {cdv : Value} {A : Around} {outer : List Env} {s : Shared} {H : Hp} {E : XK} (hr : Room 8 (A.deeper (envOfC "law" (defScope sLaw) s.heap.objs.size (He.ga K "law") cdv))) :
    ∃ t, PSs (XL P w K mg base cdv A outer s H E) (bCtx) t ∧ ∀ (D : Ends) (H1 : Hp) (n : Nat) (f : List Nat) (gs : Pcs) (sp : List Nat) (c : Ct) (s0 s1 s2 s3 s5 s12 s13 s14 s15 : Option V), Good n f gs → Bad n sp → 
      (∀ H2 z12 z13 z14 z15, Same H1 H2 → D.nx (sgm s0 s1 s2 s3 s5 n (f ++ txtOf n gs) (f ++ Ap.valOf gs) ((f ++ txtOf n gs).contains 10) sp ((f ++ Ap.valOf gs).any isBr) (some (VS c.nm)) z12 z13 z14 z15) H2) →
      t D (sgm s0 s1 s2 s3 s5 n (f ++ txtOf n gs) (f ++ Ap.valOf gs) ((f ++ txtOf n gs).contains 10) sp ((f ++ Ap.valOf gs).any isBr) (some (VS c.nm)) s12 s13 s14 s15) H1 := by
  have DR : Dn P w K mg base 7 (He.ga K "read_scalar") ["text", "style", "context", "indent", "deep"] [.int 1] spRead := dRead T
  have DF : Dn P w K mg base 4 (He.ga K "fits") ["value", "style", "context"] [] spFits := dFits T
  obtain ⟨t1, h1, e1⟩ := bodyCtx1 (P := P) (base := base) T (outer := outer) (H := H) (E := E) hr
  refine ⟨_, pss_cons (ps_set (i := 12) scLaw.nd rfl (.inl rfl) (pe_or (pe_and (pv 8) (pe_one (pe_cmpR op_inT (pv 11) (pe_tup (pa_cons (pe_S [107, 101, 121] (by decide +kernel)) (pa_cons (pe_S [112, 97, 105, 114] (by decide +kernel)) pa_nil))) rfl)))
        (pe_one (pe_and (pv 10) (pe_one (pe_cmpR op_inT (pv 11) (pe_tup (pa_cons (pe_S [102, 108, 111, 119] (by decide +kernel)) (pa_cons (pe_S [112, 97, 105, 114] (by decide +kernel)) pa_nil))) rfl))))))
    (pss_cons (ps_set (i := 13) scLaw.nd rfl (.inl rfl) (pe_dn DR hr (by decide) T.g_read_scalar rfl (pa_cons (pv 6) (pa_cons (pe_S plainL (by decide +kernel)) (pa_cons (pv 11) (pa_cons (pv 4) pa_nil))))))
    (pss_cons (ps_if (PW.pt (pw_or (pt_cmpR op_ne (pv 13) (pe_ifExp (pt_val (pv 12)) pe_non (pv 7)) (nomark _)) (pw_or1 (PW.pt (pw_and (pt_not (pt_val (pv 12))) (pw_and1 (pt_not (pt_val (pe_dn DF hr (by decide) T.g_fits rfl (pa_cons (pv 7) (pa_cons (pe_S plainL (by decide +kernel)) (pa_cons (pv 11) pa_nil))))))))))))
      (pss_one (ps_ret pe_bl)) pss_nil) h1)), ?_⟩
  intro D H1 n f gs sp c s0 s1 s2 s3 s5 s12 s13 s14 s15 G B k
  have hn := G.n5
  have szX := (good_size G).1
  have szV := (good_size G).2
  have txX := (tx_good G).1
  have txV := (tx_good G).2
  have eo : outB c.b c.l n f gs = ((f ++ txtOf n gs).contains 10 && c.l || (f ++ Ap.valOf gs).any isBr && c.b) := rfl
  generalize ehb : (f ++ txtOf n gs).contains 10 = hb at eo
  generalize ehk : (f ++ Ap.valOf gs).any isBr = hk at eo
  -- the first statement
  have first : ∀ (Q : VK) (σ : L2.St), σ[8]? = some (some (.bl hb)) → σ[10]? = some (some (.bl hk)) → σ[11]? = some (some (VS c.nm)) → (∀ H2, Same H1 H2 → Q (.bl (outB c.b c.l n f gs)) H2) →
      tOrV (tAndV (tVar 8) (tOp (rInT K false) (tVar 11) (tTup (tCons (tC (VS [107, 101, 121])) (tCons (tC (VS [112, 97, 105, 114])) tNil))))) (tAndV (tVar 10) (tOp (rInT K false) (tVar 11) (tTup (tCons (tC (VS [102, 108, 111, 119])) (tCons (tC (VS [112, 97, 105, 114])) tNil))))) σ H1 Q := by
    intro Q σ g8 g10 g11 q
    rw [eo] at q
    have second : ∀ H2, Same H1 H2 → (hb && c.l) = false → tAndV (tVar 10) (tOp (rInT K false) (tVar 11) (tTup (tCons (tC (VS [102, 108, 111, 119])) (tCons (tC (VS [112, 97, 105, 114])) tNil)))) σ H2 Q := fun H2 S2 h => by
      rw [h] at q
      refine ⟨_, g10, hk, rfl, ?_⟩
      cases hk with
      | false => exact iteF (q H2 S2)
      | true =>
        refine iteT (in2 g11 fun H3 S3 => ?_)
        rw [nm_b]
        have := q H3 (S2.trans S3)
        rw [Bool.false_or, Bool.true_and] at this
        exact this
    refine ⟨_, g8, hb, rfl, ?_⟩
    cases hb with
    | false => exact iteF ⟨_, rfl, iteF (second H1 (Same.refl H1) rfl)⟩
    | true =>
      refine iteT (in2 g11 fun H2 S2 => ⟨_, rfl, ?_⟩)
      rw [nm_l]
      cases hl : c.l with
      | true =>
        rw [hl] at q
        exact iteT (q H2 S2)
      | false =>
        exact iteF (second H2 S2 (by rw [hl]; rfl))
  refine first _ _ (by rw [← ehb]; rfl) (by rw [← ehk]; rfl) rfl fun H2 S2 => ?_
  refine ⟨_, rfl, _, rfl, _, rfl, f ++ txtOf n gs, c, n, rfl, by omega, ne_good G _, txX, by omega, fun r H3 hr S3 => ?_⟩
  have er := read_c c G hr
  have S23 := S2.trans S3
  have go : ∀ H4, Same H1 H4 → ∀ z13, t1 D (sgm s0 s1 s2 s3 s5 n (f ++ txtOf n gs) (f ++ Ap.valOf gs) hb sp hk (some (VS c.nm)) (some (.bl (outB c.b c.l n f gs))) z13 s14 s15) H4 := fun H4 S4 z13 => by
    rw [← ehb, ← ehk]
    exact e1 D H4 n f gs sp c s0 s1 s2 s3 s5 _ z13 s14 s15 G B rfl fun H5 y12 y13 y14 y15 S5 => k H5 y12 y13 y14 y15 (S4.trans S5)
  refine ⟨_, rfl, _, rfl, _, rfl, ?_⟩
  cases ho : outB c.b c.l n f gs with
  | true =>
    rw [ho, if_pos rfl] at er
    subst er
    rw [ho] at go
    refine iteT ⟨rfl, false, rfl, iteF ⟨_, rfl, true, rfl, ?_⟩⟩
    exact go H3 S23 _
  | false =>
    rw [ho, if_neg Bool.false_ne_true] at er
    subst er
    rw [ho] at go
    refine iteF ⟨_, rfl, rfl, false, congrArg V.bl (optV_ne (r := some (f ++ Ap.valOf gs)) rfl).2, iteF ⟨_, rfl, false, rfl, ?_⟩⟩
    refine iteT ⟨_, rfl, _, rfl, f ++ Ap.valOf gs, c, rfl, by omega, ne_good G _, txV, all_stand G ho, fun H4 S4 => ⟨true, rfl, ?_⟩⟩
    exact go H4 (S23.trans S4) _
end
end Anp
/-! # part K19 -/
set_option maxHeartbeats 4000000
/-! The law: a turn, a cell, all. -/
namespace Anp
open PySem PySem.Spec PyProof.Rows L2 Ap
/-- the slots -/
def sg2 (s0 s1 s2 s3 z4 z5 z6 z7 z8 z9 z10 z11 z12 z13 z14 z15 : Option V) : L2.St := [s0, s1, s2, s3, z4, z5, z6, z7, z8, z9, z10, z11, z12, z13, z14, z15, none, none]
/-- one column of the pieces -/
theorem lc_col {K : PySem.W.Frag} {σ : L2.St} {H : Hp} {D L : Addr} {tv : List (List Nat × List Nat)} {Qd : Hp → Prop} {j : Int} (π : List Nat × List Nat → List Nat) (hj : ∀ t, atI [VS t.1, VS t.2] j = some (VS (π t)))
    (hσ : ∀ x, ((wipe σ [16]).set 16 (some x))[16]? = some (some x)) (hw : ∀ x, wipe ((wipe σ [16]).set 16 (some x)) [16] = wipe σ [16]) (hP : PcsAt H L tv) (htv : tv.length ≤ 1000) (nD : H D = none)
    (q : ∀ H', Same H H' → H' D = some (.lst ((tv.map π).map VS)) → Qd H') :
    ∃ W : Nat → Nat → Hp → Prop, (∃ m, W 0 m (upd H D (.lst []))) ∧ ∀ i m H, W i m H →
      ((Itl K L).stop i H ∧ Qd H) ∨ ((Itl K L).go i H ∧ ∃ Nx : Hp → Prop, (∀ H', Nx H' → ∃ m', m' < m ∧ W (i + 1) m' H') ∧ ∀ x H', (Itl K L).yld i H x H' → gName 16 x (wipe σ [16]) H' fun σ2 H2 => wipe σ2 [16] = wipe σ [16] ∧ tYes σ2 H2 fun b H3 =>
        if b = true then (tOp (rIxT K) (tVar 16) (tC (.int j))) σ2 H3 fun y H4 => ∃ acc, H4 D = some (.lst acc) ∧ acc.length < sizeLine ∧ Nx (upd H4 D (.lst (acc ++ [y]))) else Nx H3) := by
  obtain ⟨xs, hx, hxl, hxa⟩ := hP
  refine lc_list (K := K) (a := L) (xs := xs) (fun i H3 => Same H H3 ∧ H3 D = some (.lst (((tv.map π).take i).map VS))) ⟨same_new nD, upd_same⟩ (fun i H3 _ ⟨s3, _⟩ => SqL.of (s3 _ _ hx)) ?_ ?_
  · rintro i x H3 hi ⟨s3, hd⟩
    have hlt : i < tv.length := by
      rw [← hxl]
      exact (List.getElem?_eq_some_iff.mp hi).1
    obtain ⟨qa, q1, q2⟩ := hxa i _ (List.getElem?_eq_getElem hlt)
    rw [hi] at q1
    have : x = .ref qa := Option.some.inj q1
    subst this
    refine ⟨hw _, ?_⟩
    refine ⟨_, hσ _, qa, _, j, _, rfl, rfl, SqT.of (s3 _ _ q2), hj _, _, hd, ?_, same_own s3 nD, ?_⟩
    · rw [List.length_map, List.length_take, List.length_map]
      exact Nat.lt_of_le_of_lt (show min i tv.length ≤ 1000 by omega) (by decide)
    · rw [upd_same, List.take_succ_eq_append_getElem (by rw [List.length_map]; exact hlt), List.map_append, List.getElem_map]
      rfl
  · rintro H3 ⟨s3, hd⟩
    rw [hxl, List.take_of_length_le (by rw [List.length_map]; exact Nat.le_refl _)] at hd
    exact q H3 s3 hd
theorem any_filter (l : List Nat) : (!(l.filter isBr).isEmpty) = l.any isBr := by
  rw [Bool.eq_iff_iff, Bool.not_eq_true', List.isEmpty_eq_false_iff, List.any_eq_true]
  constructor
  · intro h
    obtain ⟨x, hx⟩ := List.exists_mem_of_ne_nil _ h
    obtain ⟨h1, h2⟩ := List.mem_filter.mp hx
    exact ⟨x, h1, h2⟩
  · rintro ⟨x, h1, h2⟩ e
    have := List.mem_filter.mpr ⟨h1, h2⟩
    rw [e] at this
    cases this
theorem Stt.same {H H' : Hp} {p : Addr} (a : Stt H p) (s : Same H H') : Stt H' p := by
  obtain ⟨xs, e, z⟩ := a
  exact ⟨xs, s _ _ e, z⟩
theorem same_kp {H H' : Hp} {p : Addr} (s : Same H H') : Kp p H H' := fun b o e _ => s b o e
theorem br_le {l : List Nat} : ∀ c ∈ l.filter isBr, c ≤ 126 := fun c hc => by
  have h := (List.mem_filter.mp hc).2
  unfold isBr at h
  simp only [List.contains_iff_mem, List.mem_cons, List.not_mem_nil, or_false] at h
  omega
abbrev ctL : List Ct := [.O, .K, .I, .P]
section
variable {P : Program} {w : World} {K : PySem.W.Frag} {mg : Str → Option Value} {base : Heap}
theorem bodyTurn (T : Tx w K mg) {cdv : Value} {A : Around} {outer : List Env} {s : Shared} {H : Hp} {E : XK} (hr : Room 8 (A.deeper (envOfC "law" (defScope sLaw) s.heap.objs.size (He.ga K "law") cdv))) :
    ∃ t, PSs (XL P w K mg base cdv A outer s H E) bTurn t ∧ ∀ (D : Ends) (H1 : Hp) (p : Addr) (s0 s1 s3 z4 z5 z6 z7 z8 z9 z10 z11 z12 z13 z14 z15 : Option V), Stt H1 p →
      (∀ H2 z4 z5 z6 z7 z8 z9 z10 z11 z12 z13 z14 z15, Stt H2 p → Kp p H1 H2 → D.nx (sg2 s0 s1 (some (.ref p)) s3 z4 z5 z6 z7 z8 z9 z10 z11 z12 z13 z14 z15) H2) →
      t D (sg2 s0 s1 (some (.ref p)) s3 z4 z5 z6 z7 z8 z9 z10 z11 z12 z13 z14 z15) H1 := by
  obtain ⟨tC', hC, eC⟩ := bodyCtx (P := P) (base := base) T (outer := outer) (H := H) (E := E) hr
  have DD : Dn P w K mg base 1 (He.ga K "_law_digit") ["_law_state", "_law_base"] [] spDigit := dDigit T
  have DPi : Dn P w K mg base 4 (He.ga K "_law_pieces") ["_law_state", "_law_indent"] [] spPieces := dPieces T
  have DSp : Dn P w K mg base 3 (He.ga K "_law_spoilt") ["_law_state", "_law_pieces_here", "_law_indent"] [] spSpoilt := dSpoilt T
  refine ⟨_, pss_cons (ps_set (i := 4) scLaw.nd rfl (.inl rfl) (pe_dn DD hr (by decide) T.g__law_digit rfl (pa_cons (pv 2) (pa_cons pe_int pa_nil))))
    (pss_cons (ps_set (i := 5) scLaw.nd rfl (.inl rfl) (pe_dn DPi hr (by decide) T.g__law_pieces rfl (pa_cons (pv 2) (pa_cons (pv 4) pa_nil))))
    (pss_cons (ps_par (i := 6) (j := 7) rfl scLaw.nd rfl rfl (by decide) rfl rfl
      (pa_cons (pe_join (pe_S [] (by decide +kernel)) (pe_lc (own := [("_law_piece", 16)]) (g := gName 16) (tt := tYes) rfl scLaw.nd (pi_list (pv 5)) (blkOk_by (own := [("_law_piece", 16)]) (N := nL) (sc := defScope sLaw) (by decide +kernel))
          (fun _ _ _ _ _ => pg_name (i := 16) scLaw.nd rfl (Or.inl rfl)) (fun _ _ _ _ _ => pts_nil) (fun _ _ _ _ _ => pe_ix (r := rIxT K) ix_tup (pv 16) pe_int (fun _ _ => rfl))))
      (pa_cons (pe_join (pe_S [] (by decide +kernel)) (pe_lc (own := [("_law_piece", 16)]) (g := gName 16) (tt := tYes) rfl scLaw.nd (pi_list (pv 5)) (blkOk_by (own := [("_law_piece", 16)]) (N := nL) (sc := defScope sLaw) (by decide +kernel))
          (fun _ _ _ _ _ => pg_name (i := 16) scLaw.nd rfl (Or.inl rfl)) (fun _ _ _ _ _ => pts_nil) (fun _ _ _ _ _ => pe_ix (r := rIxT K) ix_tup (pv 16) pe_int (fun _ _ => rfl)))) pa_nil)) rfl)
    (pss_cons (ps_par (i := 8) (j := 9) rfl scLaw.nd rfl rfl (by decide) rfl rfl (pa_cons (pe_cmpR op_inS1 (pe_S [10] (by decide +kernel)) (pv 6) rfl) (pa_cons (pe_dn DSp hr (by decide) T.g__law_spoilt rfl (pa_cons (pv 2) (pa_cons (pv 5) (pa_cons (pv 4) pa_nil)))) pa_nil)) rfl)
    (pss_cons (ps_set (i := 10) scLaw.nd rfl (.inl rfl) (pe_cmpR (op_neD hr.units) (pe_lc (own := [("_law_sign", 17)]) (g := gName 17) rfl scLaw.nd (pi_str (pv 7)) (blkOk_by (own := [("_law_sign", 17)]) (N := nL) (sc := defScope sLaw) (by decide +kernel))
          (fun _ _ _ _ _ => pg_name (i := 17) scLaw.nd rfl (Or.inl rfl)) (fun _ _ _ _ _ => pts_one (pt_cmpR op_inS1 (pv 17) (pe_S [44, 91, 93, 123, 125] (by decide +kernel)) rfl)) (fun _ _ _ _ _ => pv 17)) (pe_lst pa_nil) (nomark _)))
    (pss_one (ps_for PassesOwn.never rfl (pi_tup (pe_tup (pa_cons (pe_S (Ct.nm .O) (by decide +kernel)) (pa_cons (pe_S (Ct.nm .K) (by decide +kernel)) (pa_cons (pe_S (Ct.nm .I) (by decide +kernel)) (pa_cons (pe_S (Ct.nm .P) (by decide +kernel)) pa_nil)))))) (pg_name (i := 11) scLaw.nd rfl (Or.inl rfl)) hC)))))), ?_⟩
  intro D H1 p s0 s1 s3 z4 z5 z6 z7 z8 z9 z10 z11 z12 z13 z14 z15 hS k
  refine ⟨_, rfl, p, 6, rfl, hS, by decide, by decide, fun n H2 hn S2 k2 => ?_⟩
  refine ⟨_, rfl, _, rfl, p, n, rfl, S2, by omega, fun f gs L H3 G hP S3 k3 => ?_⟩
  have k13 := k2.trans k3
  have htv : (tvs n f gs).length ≤ 1000 := by
    have := tvs_len n f gs
    have := G.len
    omega
  have szX := (good_size G).1
  have szV := (good_size G).2
  obtain ⟨xs, hx, _⟩ := id hP
  refine ⟨⟨_, rfl⟩, _, rfl, L, rfl, ⟨xs, SqL.of hx⟩, fun D1 nD1 => ?_⟩
  refine lc_col (K := K) (tv := tvs n f gs) (fun t => t.1) (fun t => rfl) (fun x => rfl) (fun x => rfl) hP htv nD1 fun H4 S34 hd => ?_
  have P4 : PcsAt H4 L (tvs n f gs) := hP.same S34
  refine ⟨S [], D1, ((tvs n f gs).map (·.1)).map S, rfl, rfl, .inl (SqL.of (by rw [List.map_map]; exact hd)), ?_, ?_⟩
  · rw [sum_S, S_len, List.length_nil, Nat.mul_zero, Nat.add_zero, flat_txt]
    exact Nat.le_trans szX (by decide)
  rw [join_S, flat_txt]
  obtain ⟨xs4, hx4, _⟩ := id P4
  refine ⟨⟨_, rfl⟩, _, rfl, L, rfl, ⟨xs4, SqL.of hx4⟩, fun D2 nD2 => ?_⟩
  refine lc_col (K := K) (tv := tvs n f gs) (fun t => t.2) (fun t => rfl) (fun x => rfl) (fun x => rfl) P4 htv nD2 fun H5 S45 hd2 => ?_
  have P5 : PcsAt H5 L (tvs n f gs) := P4.same S45
  have S5 : Stt H5 p := (S3.same S34).same S45
  have k15 : Kp p H1 H5 := k13.trans (same_kp (S34.trans S45))
  refine ⟨S [], D2, ((tvs n f gs).map (·.2)).map S, rfl, rfl, .inl (SqL.of (by rw [List.map_map]; exact hd2)), ?_, ?_⟩
  · rw [sum_S, S_len, List.length_nil, Nat.mul_zero, Nat.add_zero, flat_val]
    exact Nat.le_trans szV (by decide)
  rw [join_S, flat_val]
  refine ⟨_, _, rfl, ?_⟩
  -- has_break, spoilt
  refine ⟨_, rfl, 10, f ++ txtOf n gs, rfl, rfl, _, rfl, _, rfl, _, rfl, p, L, n, f, gs, rfl, S5, G, P5, fun kk odd H6 hkk ho S6 k6 => ?_⟩
  have B := bad_spoilt (k := kk) G ho
  have k16 := k15.trans k6
  generalize (f ++ txtOf n (gs.take kk)) ++ (odd ++ 122 :: txtOf n (gs.drop kk)) = sp at B ⊢
  refine ⟨_, _, rfl, ?_⟩
  -- has_bracket
  refine ⟨_, rfl, _, rfl, fun D3 nD3 => ?_⟩
  refine lc_str (t := f ++ Ap.valOf gs) (fun i H' => Same H6 H' ∧ H' D3 = some (.lst ((((f ++ Ap.valOf gs).take i).filter isBr).map fun c => VS [c]))) ⟨same_new nD3, upd_same⟩ ?_ ?_
  · rintro i c H' hi ⟨S67, hd3⟩
    refine ⟨rfl, ?_⟩
    have hlt : i < (f ++ Ap.valOf gs).length := (List.getElem?_eq_some_iff.mp hi).1
    have hge : (f ++ Ap.valOf gs)[i] = c := (List.getElem?_eq_some_iff.mp hi).2
    have tk : (f ++ Ap.valOf gs).take (i + 1) = (f ++ Ap.valOf gs).take i ++ [c] := by
      rw [List.take_succ_eq_append_getElem hlt, hge]
    refine ⟨_, rfl, c, [44, 91, 93, 123, 125], rfl, rfl, _, rfl, ?_⟩
    rw [tk, List.filter_append]
    have hlen : (((f ++ Ap.valOf gs).take i).filter isBr).length < sizeLine := by
      refine Nat.lt_of_le_of_lt (List.length_filter_le _ _) ?_
      rw [List.length_take]
      exact Nat.lt_of_le_of_lt (Nat.le_trans (Nat.min_le_right _ _) szV) (by decide)
    cases hc : ([44, 91, 93, 123, 125] : List Nat).contains c with
    | true =>
      rw [show [c].filter isBr = [c] by rw [List.filter_cons, if_pos (show isBr c = true from hc)]; rfl]
      refine iteT ⟨_, rfl, _, hd3, by rw [List.length_map]; exact hlen, same_own S67 nD3, ?_⟩
      rw [upd_same, List.map_append]
      rfl
    | false =>
      rw [show [c].filter isBr = [] by rw [List.filter_cons, if_neg (show ¬ isBr c = true by rw [show isBr c = false from hc]; decide)]; rfl, List.append_nil]
      exact iteF ⟨S67, hd3⟩
  · rintro H7 ⟨S67, hd3⟩
    rw [List.take_of_length_le (Nat.le_refl _)] at hd3
    refine ⟨by show 0 ≤ sizeLine; decide, fun b nb => ?_⟩
    have hb7 := same_new (o := .lst []) nb _ _ hd3
    have nbr := br_le (l := f ++ Ap.valOf gs)
    refine ⟨.list (((f ++ Ap.valOf gs).filter isBr).map fun c => PyData.str (S [c])), .list [], .lst (SqL.of hb7) (dp_signs _), .lst (SqL.of upd_same) .nil, shaped_signs nbr, shaped_signs (cs := []) (fun _ h => by cases h), ?_⟩
    rw [show (!PyData.eqv (.list (((f ++ Ap.valOf gs).filter isBr).map fun c => PyData.str (S [c]))) (.list [])) = (f ++ Ap.valOf gs).any isBr by rw [eqv_nil]; exact any_filter _]
    -- the contexts
    have S8 : Stt (upd H7 b (.lst [])) p := (S6.same S67).new nb
    have k18 : Kp p H1 (upd H7 b (.lst [])) := (k16.trans (same_kp S67)).trans (Kp.new nb)
    generalize upd H7 b (.lst []) = H8 at S8 k18 ⊢
    generalize ehk : (f ++ Ap.valOf gs).any isBr = hkv
    refine ⟨by show 4 ≤ sizeLine; decide, fun a na => ⟨a, rfl, ⟨_, SqT.of upd_same⟩, for_tup (K := K) (a := a) (xs := ctL.map fun c => VS c.nm)
      (fun i σ H' => (∃ z11 z12 z13 z14 z15, σ = sgm s0 s1 (some (.ref p)) s3 (some (.ref L)) n (f ++ txtOf n gs) (f ++ Ap.valOf gs) ((f ++ txtOf n gs).contains 10) sp hkv z11 z12 z13 z14 z15) ∧ Stt H' p ∧ Kp p H1 H' ∧ H' a = some (.tup (ctL.map fun c => VS c.nm)))
      ⟨⟨_, _, _, _, _, rfl⟩, S8.new na, k18.trans (Kp.new na), upd_same⟩ (fun i σ H' _ ⟨_, _, _, h⟩ => SqT.of h) ?_ ?_⟩⟩
    · rintro i x σ H' hi ⟨⟨z11, z12, z13, z14, z15, rfl⟩, Sx, kx, ha⟩
      obtain ⟨c, _, rfl⟩ := List.mem_map.mp (List.mem_of_getElem? hi)
      subst ehk
      exact eC _ H' n f gs sp c _ _ _ _ _ _ _ _ _ G B fun H9 y12 y13 y14 y15 S9 => ⟨⟨_, _, _, _, _, rfl⟩, Sx.same S9, kx.trans (same_kp S9), S9 _ _ ha⟩
    · rintro σ H' ⟨⟨z11, z12, z13, z14, z15, rfl⟩, Sx, kx, _⟩
      exact k H' _ _ _ _ _ _ _ _ _ _ _ _ Sx kx
end
end Anp
/-! # part K20 -/
set_option maxHeartbeats 4000000
/-! The law: a cell, all. -/
namespace Anp
open PySem PySem.Spec PyProof.Rows L2 Ap
section
variable {P : Program} {w : World} {K : PySem.W.Frag} {mg : Str → Option Value} {base : Heap}
theorem bodyCell (T : Tx w K mg) {cdv : Value} {A : Around} {outer : List Env} {s : Shared} {H : Hp} {E : XK} (hr : Room 8 (A.deeper (envOfC "law" (defScope sLaw) s.heap.objs.size (He.ga K "law") cdv))) :
    ∃ t, PSs (XL P w K mg base cdv A outer s H E) bCell t ∧ ∀ (D : Ends) (H1 : Hp) (i : Int) (s0 z2 z3 z4 z5 z6 z7 z8 z9 z10 z11 z12 z13 z14 z15 : Option V),
      (∀ H2 z2 z3 z4 z5 z6 z7 z8 z9 z10 z11 z12 z13 z14 z15, Same H1 H2 → D.nx (sg2 s0 (some (.int i)) z2 z3 z4 z5 z6 z7 z8 z9 z10 z11 z12 z13 z14 z15) H2) →
      t D (sg2 s0 (some (.int i)) z2 z3 z4 z5 z6 z7 z8 z9 z10 z11 z12 z13 z14 z15) H1 := by
  obtain ⟨tT, hT, eT⟩ := bodyTurn (P := P) (base := base) T (outer := outer) (H := H) (E := E) hr
  refine ⟨_, pss_cons (ps_set (i := 2) scLaw.nd rfl (.inl rfl) (pe_lst (pa_cons (pv 1) pa_nil)))
    (pss_one (ps_for PassesOwn.never rfl (pi_range1 (by rfl) T.n_range (pa_cons pe_int pa_nil)) (pg_name (i := 3) scLaw.nd rfl (Or.inl rfl)) hT)), ?_⟩
  intro D H1 i s0 z2 z3 z4 z5 z6 z7 z8 z9 z10 z11 z12 z13 z14 z15 k
  refine ⟨_, rfl, by show 1 ≤ sizeLine; decide, fun p np => ?_⟩
  refine ⟨_, rfl, by decide, by decide, ?_⟩
  refine for_range (n := 12) (fun j σ H' => (∃ z3 z4 z5 z6 z7 z8 z9 z10 z11 z12 z13 z14 z15, σ = sg2 s0 (some (.int i)) (some (.ref p)) z3 z4 z5 z6 z7 z8 z9 z10 z11 z12 z13 z14 z15) ∧ Stt H' p ∧ Kp p (upd H1 p (.lst [.int i])) H')
    ⟨⟨_, _, _, _, _, _, _, _, _, _, _, _, _, rfl⟩, ⟨_, upd_same, .inl ⟨_, rfl⟩⟩, Kp.refl _ _⟩ ?_ ?_
  · rintro j σ H' hj ⟨⟨z3, z4, z5, z6, z7, z8, z9, z10, z11, z12, z13, z14, z15, rfl⟩, Sx, kx⟩
    exact eT _ H' p _ _ _ _ _ _ _ _ _ _ _ _ _ _ _ Sx fun H2 y4 y5 y6 y7 y8 y9 y10 y11 y12 y13 y14 y15 S2 k2 => ⟨⟨_, _, _, _, _, _, _, _, _, _, _, _, _, rfl⟩, S2, kx.trans k2⟩
  · rintro σ H' ⟨⟨z3, z4, z5, z6, z7, z8, z9, z10, z11, z12, z13, z14, z15, rfl⟩, Sx, kx⟩
    refine k H' _ _ _ _ _ _ _ _ _ _ _ _ _ _ fun b o e => ?_
    exact kx b o (by rw [upd_ne (ne_of_none e np)]; exact e) (ne_of_none e np)
def spLaw (K : PySem.W.Frag) : Sp := fun vs H Q _ => ∃ (a : Addr) (ns : List Int), vs = [.ref a] ∧ SqL K H a (ns.map V.int) ∧ ns.length ≤ 63 ∧ ∀ H', Q (.bl true) H'
theorem okLaw (T : Tx w K mg) {fd : FuncData} (F : FunD K "law" "law" (defArgs sLaw) (defBody sLaw) (defScope sLaw) [] [] (He.ga K "law") fd) : FnOk P w K mg base CX0 9 (He.ga K "law") fd ["_law_script"] (spLaw K) := by
  refine F.ok scLaw (fun vs H Q E h => ?_) (fun cdv A outer s H vs Q E hr h => ?_)
  · obtain ⟨a, ns, rfl, _⟩ := h
    rfl
  · obtain ⟨a, ns, rfl, hS, hl, q⟩ := h
    obtain ⟨tC, hC, eC⟩ := bodyCell (P := P) (base := base) T (outer := outer) (H := H) (E := E) hr
    refine ⟨_, PSs.nox (pss_cons (ps_for PassesOwn.never rfl (pi_list (pe_op op_cat (pe_slice sl_list (pv 0) po_none (po_some pe_int)) (pe_lst (pa_cons pe_int pa_nil)))) (pg_name (i := 1) scLaw.nd rfl (Or.inl rfl)) hC)
      (pss_one (ps_ret pe_bl))), ?_⟩
    refine ⟨_, rfl, _, rfl, a, _, rfl, hS, fun c nc => ?_⟩
    refine ⟨by show 1 ≤ sizeLine; decide, fun b nb => ?_⟩
    refine ⟨c, b, _, _, rfl, rfl, same_new nb _ _ upd_same, upd_same, ?_, fun d nd => ?_⟩
    · rw [show cutV (ns.map V.int) none (some 6) = (ns.map V.int).take 6 from cutV_to _ 6, List.length_take]
      exact Nat.le_trans (show min 6 (ns.map V.int).length + 1 ≤ 7 by omega) (by decide)
    have el : cutV (ns.map V.int) none (some 6) ++ [V.int 0] = (ns.take 6 ++ [0]).map V.int := by
      rw [show cutV (ns.map V.int) none (some 6) = (ns.map V.int).take 6 from cutV_to _ 6, List.map_append, List.map_take]
      rfl
    refine ⟨d, rfl, ⟨_, SqL.of upd_same⟩, for_list (K := K) (a := d) (xs := (ns.take 6 ++ [0]).map V.int)
      (fun i σ H' => (∃ z1 z2 z3 z4 z5 z6 z7 z8 z9 z10 z11 z12 z13 z14 z15, σ = sg2 (some (.ref a)) z1 z2 z3 z4 z5 z6 z7 z8 z9 z10 z11 z12 z13 z14 z15) ∧ H' d = some (.lst ((ns.take 6 ++ [0]).map V.int)))
      ⟨⟨_, _, _, _, _, _, _, _, _, _, _, _, _, _, _, rfl⟩, by rw [← el]; exact upd_same⟩ (fun i σ H' _ ⟨_, h⟩ => SqL.of h) ?_ ?_⟩
    · rintro i x σ H' hi ⟨⟨z1, z2, z3, z4, z5, z6, z7, z8, z9, z10, z11, z12, z13, z14, z15, rfl⟩, hd⟩
      obtain ⟨j, _, rfl⟩ := List.mem_map.mp (List.mem_of_getElem? hi)
      exact eC _ H' j _ _ _ _ _ _ _ _ _ _ _ _ _ _ _ fun H2 y2 y3 y4 y5 y6 y7 y8 y9 y10 y11 y12 y13 y14 y15 S2 => ⟨⟨_, _, _, _, _, _, _, _, _, _, _, _, _, _, _, rfl⟩, S2 _ _ hd⟩
    · rintro σ H' ⟨⟨z1, z2, z3, z4, z5, z6, z7, z8, z9, z10, z11, z12, z13, z14, z15, rfl⟩, _⟩
      exact q H'
end
end Anp
/-! # part K1 -/
set_option maxHeartbeats 0
/-! The top's run. -/
namespace Anp
open PySem PySem.Spec PyProof.Rows L2
theorem runF (w : World) : HandSHeadRun.RunEq R (PySem.W.view R.prog [55]) hk ob 20000 names (w.withFollow "special-get-raises" false) := by
  intro os
  kernel_rfl
theorem runT (w : World) : HandSHeadRun.RunEq R (PySem.W.view R.prog [55]) hk ob 20000 names (w.withFollow "special-get-raises" true) := by
  intro os
  kernel_rfl
theorem run (w : World) : HandSHeadRun.RunEq R (PySem.W.view R.prog [55]) hk ob 20000 names w := PySem.W.byRow2 "special-get-raises" (P := fun w => HandSHeadRun.RunEq R (PySem.W.view R.prog [55]) hk ob 20000 names w) runF runT w
end Anp
set_option maxHeartbeats 0
/-! ## the law -/
namespace Anp
open PySem PySem.Spec PyProof.Rows L2
theorem facts {P : Program} {w : World} {K : PySem.W.Frag} {h : Heap} {mg : Str → Option Value} {f : Addr} (X : K.In h) (G : h.Ns mainGlobals mg) (hfa : mg ("law" : Str) = some (.ref f)) (c : He.SaysX fa fn ts [] ex w h K) :
    ∃ fd : FuncData, (∀ (s : Shared) (v : Value), BindsTo s fd ⟨[v], []⟩ [("_law_script", v)]) ∧ ∀ base : Heap, K.In base → base.Ns mainGlobals mg → FnOk P w K mg base CX0 9 f fd ["_law_script"] (spLaw K) := by
  have T : Tx w K mg := ⟨⟨h, X, G⟩, c.t.d, fun i t ht => c.t.tab i ht, c.more⟩
  obtain ⟨fd, F⟩ := T.f_law
  have e := hfa.symm.trans T.g_law
  cases e
  have b := FunD.bindsA (ps := ["_law_script"]) F fun _ _ _ _ _ _ us hl => match us, hl with | [_], _ => rfl
  exact ⟨fd, fun s v => b s [v] rfl, fun base _ _ => okLaw T F⟩
end Anp
open PySem PySem.W PySem.Calls PyProof.Rows
theorem PySem.Challenge.cw_anchorpages_k29_whole_values_of_plain_te_holds : PySem.Challenge.rw_anchorpages_k29_whole_values_of_plain_te.Holds := by
  w_on; o_law
  refine HandSHeadRun.head_any (r := OpenLaw.row PySem.Challenge.rw_anchorpages_k29_whole_values_of_plain_te) (q := view (OpenLaw.row PySem.Challenge.rw_anchorpages_k29_whole_values_of_plain_te).prog [55]) (H := Anp.hk) (ob := Anp.ob) (M := 20000) (loose := Anp.names) (d := HandSHeadRun.topDef (OpenLaw.row PySem.Challenge.rw_anchorpages_k29_whole_values_of_plain_te).prog 55) (kwd := []) Anp.ob_eq
    (by kernel_rfl) (fun s => by kernel_rfl) Anp.run (by kernel_rfl) (by kernel_rfl) (by kernel_rfl) (by rfl) (by first | assumption | decide +kernel) (by decide +kernel) ⟨rfl, rfl, rfl, rfl, rfl, by decide +kernel⟩ ?hw ?hc
  case hw => w_witness2
  case hc =>
    refine L2.walk_ofE (l := PySem.Challenge.rw_anchorpages_k29_whole_values_of_plain_te) (n := 63) (k := 9) (x := "_law_script") (CX := L2.CX0) rfl (by decide) (by kernel_rfl) ⟨rfl, by decide, by decide⟩ ?F (fun _ _ _ _ z => z)
    intro w mg fa h Y G hmg0
    obtain ⟨K, KX, c⟩ := Y
    have hmg : mg ("law" : PySem.Str) = some (.ref fa) := by
      have e : (HandSHeadRun.topDef (OpenLaw.row PySem.Challenge.rw_anchorpages_k29_whole_values_of_plain_te).prog 55).name = ("law" : PySem.Str) := by kernel_rfl
      rw [← e]
      exact hmg0
    obtain ⟨fd, hb, hF⟩ := Anp.facts (P := (PySem.Challenge.rw_anchorpages_k29_whole_values_of_plain_te).prog) (w := w) KX G hmg c
    exact ⟨K, fd, Anp.spLaw K, KX, hb, fun H a ns hl _ hS => ⟨a, ns, rfl, hS, hl, fun _ => rfl⟩, hF⟩
