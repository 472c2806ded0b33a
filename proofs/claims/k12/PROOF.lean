import PyProof.Rows.All
import Wide.All
import OpenK.AllK
import Wide.FinOn
import KE.KStateDown
import Lean
import HandS.ForExc
import HandS.ForMost
import HandS.More
import HandS.Defaults
import HandS.Head0
import HandS.Head1
import HandS.Head2
import HandS.HeadEnd
import HandS.HeadHook1
import HandS.HeadHook2
import HandS.ExcInit
import HandS.ExcField
import HandS.Star
import HandS.GenList
import PyProof.LongRange
import PyProof.GenComp
import KE.KExcSuper
import HandS.ExcSuper
import HandS.HotCalls
import KE.KOpsOwn
import HandS.Wide
import HandS.IsInst
import HandS.MakeKwOnly
import HandS.SetFor
import PySem.Challenge.RW_latereach_k12_whole_phase_words
set_option linter.all false
namespace K12M
/-! The mathematics, with no program in sight. -/
/-- what a rule is made of -/
inductive Spec where
  | line (s e : Int)
  | table (ps : List Int) (s : Int)
  | both (a b : Spec)
  | each (a b : Spec)
def Spec.depth : Spec → Nat
  | .line _ _ => 0
  | .table _ _ => 0
  | .both a b => max a.depth b.depth + 1
  | .each a b => max a.depth b.depth + 1
def Spec.price : Spec → Int → Int
  | .line s e, d => s * d + e
  | .table ps s, d => if d ≤ (ps.length : Int) then ps.getD (d - 1).toNat 0 else ps.getD (ps.length - 1) 0 + s * (d - ps.length)
  | .both a b, d => if a.price d < b.price d then a.price d else b.price d
  | .each a b, d => if a.price d < b.price d then b.price d else a.price d
/-- ascending by at least one -/
def Asc (ps : List Int) : Prop := ∀ i, i + 1 < ps.length → ps.getD i 0 + 1 ≤ ps.getD (i + 1) 0
def Spec.Ok : Spec → Prop
  | .line s e => 1 ≤ s ∧ s ≤ 1000000 ∧ 1 ≤ s + e ∧ e ≤ 1000000
  | .table ps s => 1 ≤ ps.length ∧ ps.length ≤ 64 ∧ Asc ps ∧ 1 ≤ ps.getD 0 0 ∧ (∀ i, i < ps.length → ps.getD i 0 ≤ 640000000) ∧ 1 ≤ s ∧ s ≤ 1000000
  | .both a b => a.Ok ∧ b.Ok
  | .each a b => a.Ok ∧ b.Ok

theorem asc_ge {ps : List Int} (h : Asc ps) (h0 : 1 ≤ ps.getD 0 0) : ∀ i, i < ps.length → (i : Int) + 1 ≤ ps.getD i 0
  | 0, _ => by simpa using h0
  | i + 1, hi => by
    have a := asc_ge h h0 i (by omega)
    have b := h i hi
    omega

theorem price_step : ∀ {s : Spec}, s.Ok → ∀ d : Int, 1 ≤ d → s.price d + 1 ≤ s.price (d + 1)
  | .line s e, h, d, _ => by
    obtain ⟨h1, _⟩ := h
    show s * d + e + 1 ≤ s * (d + 1) + e
    rw [Int.mul_add]
    omega
  | .table ps s, h, d, hd => by
    obtain ⟨h1, h2, h3, h4, h5, h6, h7⟩ := h
    show (if d ≤ (ps.length : Int) then ps.getD (d - 1).toNat 0 else _) + 1 ≤ (if d + 1 ≤ (ps.length : Int) then ps.getD (d + 1 - 1).toNat 0 else _)
    by_cases c : d ≤ (ps.length : Int)
    · rw [if_pos c]
      by_cases c2 : d + 1 ≤ (ps.length : Int)
      · rw [if_pos c2]
        have e : (d + 1 - 1).toNat = (d - 1).toNat + 1 := by omega
        rw [e]
        exact h3 _ (by omega)
      · rw [if_neg c2]
        have e : (d - 1).toNat = ps.length - 1 := by omega
        rw [e]
        have e2 : d + 1 - (ps.length : Int) = 1 := by omega
        rw [e2, Int.mul_one]
        omega
    · rw [if_neg c, if_neg (by omega)]
      have e2 : d + 1 - (ps.length : Int) = (d - ps.length) + 1 := by omega
      rw [e2, Int.mul_add]
      omega
  | .both a b, h, d, hd => by
    have h1 := price_step h.1 d hd
    have h2 := price_step h.2 d hd
    show (if a.price d < b.price d then a.price d else b.price d) + 1 ≤ (if a.price (d + 1) < b.price (d + 1) then a.price (d + 1) else b.price (d + 1))
    split <;> split <;> omega
  | .each a b, h, d, hd => by
    have h1 := price_step h.1 d hd
    have h2 := price_step h.2 d hd
    show (if a.price d < b.price d then b.price d else a.price d) + 1 ≤ (if a.price (d + 1) < b.price (d + 1) then b.price (d + 1) else a.price (d + 1))
    split <;> split <;> omega
theorem price_one : ∀ {s : Spec}, s.Ok → 1 ≤ s.price 1
  | .line s e, h => by
    obtain ⟨h1, h2, h3, h4⟩ := h
    show 1 ≤ s * 1 + e
    omega
  | .table ps s, h => by
    obtain ⟨h1, h2, h3, h4, h5, h6, h7⟩ := h
    show 1 ≤ (if (1 : Int) ≤ (ps.length : Int) then ps.getD ((1 : Int) - 1).toNat 0 else _)
    rw [if_pos (by omega)]
    exact h4
  | .both a b, h => by
    have h1 := price_one h.1
    have h2 := price_one h.2
    show 1 ≤ (if a.price 1 < b.price 1 then a.price 1 else b.price 1)
    split <;> omega
  | .each a b, h => by
    have h1 := price_one h.1
    have h2 := price_one h.2
    show 1 ≤ (if a.price 1 < b.price 1 then b.price 1 else a.price 1)
    split <;> omega
theorem price_mono {s : Spec} (h : s.Ok) {d : Int} (hd : 1 ≤ d) : ∀ n : Nat, s.price d + n ≤ s.price (d + n)
  | 0 => by simp
  | n + 1 => by
    have a := price_mono h hd n
    have b := price_step h (d + n) (by omega)
    have e : d + ((n + 1 : Nat) : Int) = d + n + 1 := by omega
    rw [e]
    omega
theorem price_slack {s : Spec} (h : s.Ok) {d e : Int} (hd : 1 ≤ d) (he : d ≤ e) : s.price d - d ≤ s.price e - e := by
  have a := price_mono h hd (e - d).toNat
  have q : d + ((e - d).toNat : Int) = e := by omega
  rw [q] at a
  omega
theorem price_ge {s : Spec} (h : s.Ok) {d : Int} (hd : 1 ≤ d) : d ≤ s.price d := by
  have a := price_slack h (Int.le_refl 1) hd
  have b := price_one h
  omega
theorem price_le : ∀ {s : Spec}, s.Ok → ∀ d : Int, 1 ≤ d → s.price d ≤ 1073741824 * d
  | .line s e, h, d, hd => by
    obtain ⟨h1, h2, h3, h4⟩ := h
    show s * d + e ≤ 1073741824 * d
    have : s * d ≤ 1000000 * d := Int.mul_le_mul_of_nonneg_right h2 (by omega)
    omega
  | .table ps s, h, d, hd => by
    obtain ⟨h1, h2, h3, h4, h5, h6, h7⟩ := h
    show (if d ≤ (ps.length : Int) then ps.getD (d - 1).toNat 0 else _) ≤ _
    by_cases c : d ≤ (ps.length : Int)
    · rw [if_pos c]
      have := h5 (d - 1).toNat (by omega)
      omega
    · rw [if_neg c]
      have a := h5 (ps.length - 1) (by omega)
      have b : s * (d - ps.length) ≤ 1000000 * (d - ps.length) := Int.mul_le_mul_of_nonneg_right h7 (by omega)
      omega
  | .both a b, h, d, hd => by
    have h1 := price_le h.1 d hd
    have h2 := price_le h.2 d hd
    show (if a.price d < b.price d then a.price d else b.price d) ≤ _
    split <;> omega
  | .each a b, h, d, hd => by
    have h1 := price_le h.1 d hd
    have h2 := price_le h.2 d hd
    show (if a.price d < b.price d then b.price d else a.price d) ≤ _
    split <;> omega

/-! ### the rows of the reach table: reach, length, repeats -/
structure Row where
  reach : Int
  len : Int
  times : Int
def nextRow (s : Spec) (far near : Row) : Row :=
  let times := (s.price (far.reach + 1) - far.reach - near.len) / far.len
  let size := times * far.len + near.len
  ⟨near.reach + size, size, times⟩
def row (s : Spec) : Nat → Row
  | 0 => ⟨0, 0, 0⟩
  | 1 => ⟨1, 1, 0⟩
  | 2 => ⟨1 + s.price 1, s.price 1, 0⟩
  | k + 3 => nextRow s (row s (k + 1)) (row s (k + 2))
abbrev len (s : Spec) (k : Nat) : Int := (row s k).len
abbrev reach (s : Spec) (k : Nat) : Int := (row s k).reach
abbrev times (s : Spec) (k : Nat) : Int := (row s k).times
theorem row3 (s : Spec) (k : Nat) : row s (k + 3) = nextRow s (row s (k + 1)) (row s (k + 2)) := by rw [row]
theorem len3 (s : Spec) (k : Nat) : len s (k + 3) = times s (k + 3) * len s (k + 1) + len s (k + 2) := by
  show (row s (k + 3)).len = (row s (k + 3)).times * _ + _
  rw [row3]
  rfl
theorem reach3 (s : Spec) (k : Nat) : reach s (k + 3) = reach s (k + 2) + len s (k + 3) := by
  show (row s (k + 3)).reach = _ + (row s (k + 3)).len
  rw [row3]
  rfl
theorem times3 (s : Spec) (k : Nat) : times s (k + 3) = (s.price (reach s (k + 1) + 1) - reach s (k + 1) - len s (k + 2)) / len s (k + 1) := by
  show (row s (k + 3)).times = _
  rw [row3]
  rfl
/-- what holds of a row and the one behind it -/
structure RowOk (s : Spec) (k : Nat) : Prop where
  l1 : 1 ≤ len s (k + 1)
  l2 : len s (k + 1) ≤ len s (k + 2)
  t1 : 0 ≤ times s (k + 1)
  t2 : 0 ≤ times s (k + 2)
  r0 : 0 ≤ reach s k
  r1 : reach s (k + 1) = reach s k + len s (k + 1)
  r2 : reach s (k + 2) = reach s (k + 1) + len s (k + 2)
  room : len s (k + 2) ≤ s.price (reach s k + 1) - reach s k
theorem rowOk {s : Spec} (h : s.Ok) : ∀ k, RowOk s k
  | 0 => by
    have p := price_one h
    refine ⟨Int.le_refl 1, ?_, Int.le_refl 0, Int.le_refl 0, Int.le_refl 0, rfl, ?_, ?_⟩
    · show (1 : Int) ≤ s.price 1
      exact p
    · show 1 + s.price 1 = 1 + s.price 1
      rfl
    · show s.price 1 ≤ s.price (0 + 1) - 0
      simp
  | k + 1 => by
    obtain ⟨l1, l2, t1, t2, r0, r1, r2, room⟩ := rowOk h k
    have sl := price_slack h (d := reach s k + 1) (e := reach s (k + 1) + 1) (by omega) (by omega)
    have rm : 0 ≤ s.price (reach s (k + 1) + 1) - reach s (k + 1) - len s (k + 2) := by omega
    have t3 : 0 ≤ times s (k + 3) := by
      rw [times3]
      exact Int.ediv_nonneg rm (by omega)
    have m : 0 ≤ times s (k + 3) * len s (k + 1) := Int.mul_nonneg t3 (by omega)
    have m2 : times s (k + 3) * len s (k + 1) ≤ s.price (reach s (k + 1) + 1) - reach s (k + 1) - len s (k + 2) := by
      rw [times3]
      exact Int.ediv_mul_le _ (by omega)
    have e := len3 s k
    refine ⟨?_, ?_, t2, t3, ?_, r2, reach3 s k, ?_⟩
    · show 1 ≤ len s (k + 2)
      omega
    · show len s (k + 2) ≤ len s (k + 3)
      omega
    · show 0 ≤ reach s (k + 1)
      omega
    · show len s (k + 3) ≤ _
      omega
section
variable {s : Spec} (h : s.Ok)
include h
theorem len_pos {k : Nat} (hk : 1 ≤ k) : 1 ≤ len s k := by
  obtain ⟨j, rfl⟩ : ∃ j, k = j + 1 := ⟨k - 1, by omega⟩
  exact (rowOk h j).l1
theorem times_nn {k : Nat} : 0 ≤ times s k := by
  cases k with
  | zero => exact Int.le_refl 0
  | succ j => exact (rowOk h j).t1
theorem reach_nn {k : Nat} : 0 ≤ reach s k := (rowOk h k).r0
theorem len_mono1 {k : Nat} (hk : 1 ≤ k) : len s k ≤ len s (k + 1) := by
  obtain ⟨j, rfl⟩ : ∃ j, k = j + 1 := ⟨k - 1, by omega⟩
  exact (rowOk h j).l2
theorem len_mono {j k : Nat} (hj : 1 ≤ j) (hk : j ≤ k) : len s j ≤ len s k := by
  obtain ⟨n, rfl⟩ : ∃ n, k = j + n := ⟨k - j, by omega⟩
  clear hk
  induction n with
  | zero => exact Int.le_refl _
  | succ n ih => exact Int.le_trans ih (len_mono1 h (k := j + n) (by omega))
theorem room_nn (k : Nat) : 0 ≤ s.price (reach s (k + 1) + 1) - reach s (k + 1) - len s (k + 2) := by
  obtain ⟨l1, l2, t1, t2, r0, r1, r2, room⟩ := rowOk h k
  have sl := price_slack h (d := reach s k + 1) (e := reach s (k + 1) + 1) (by omega) (by omega)
  omega
/-- all numbers lie below 2 ^ (31 * k + 31) -/
theorem reach_lt : ∀ k : Nat, reach s k + 1 ≤ (2 : Int) ^ (31 * k)
  | 0 => Int.le_refl 1
  | k + 1 => by
    have ih := reach_lt k
    obtain ⟨l1, l2, t1, t2, r0, r1, r2, room⟩ := rowOk h k
    have p := price_le h (reach s k + 1) (by omega)
    have e : (2 : Int) ^ (31 * (k + 1)) = 2 ^ (31 * k) * 2147483648 := by
      rw [show 31 * (k + 1) = 31 * k + 31 by omega, Int.pow_add]
      rfl
    rw [e]
    omega
theorem len_lt (k : Nat) : len s k ≤ (2 : Int) ^ (31 * k) := by
  have a := reach_lt h k
  cases k with
  | zero => exact (by decide : (0 : Int) ≤ 1)
  | succ k =>
    obtain ⟨l1, l2, t1, t2, r0, r1, r2, room⟩ := rowOk h k
    omega
theorem times_lt (k : Nat) : times s k ≤ (2 : Int) ^ (31 * k) := by
  match k with
  | 0 => exact (by decide : (0 : Int) ≤ 1)
  | 1 => exact (by decide : (0 : Int) ≤ 2 ^ 31)
  | 2 => exact (by decide : (0 : Int) ≤ 2 ^ 62)
  | k + 3 =>
    have a := len_lt h (k + 3)
    have e := len3 s k
    obtain ⟨l1, l2, t1, t2, r0, r1, r2, room⟩ := rowOk h k
    have t3 : 0 ≤ times s (k + 3) := times_nn h
    have : times s (k + 3) * 1 ≤ times s (k + 3) * len s (k + 1) := Int.mul_le_mul_of_nonneg_left l1 t3
    omega
end

/-! ### letters -/
def letter (s : Spec) : Nat → Int → Int
  | 0, _ => 0
  | 1, _ => 1
  | 2, at_ => if at_ = len s 2 then 2 else -1
  | k + 3, at_ => if at_ = len s (k + 3) then ((k + 3 : Nat) : Int) else if at_ ≤ times s (k + 3) * len s (k + 1) then letter s (k + 1) ((at_ - 1) % len s (k + 1) + 1) else letter s (k + 2) (at_ - times s (k + 3) * len s (k + 1))
theorem letter_end {s : Spec} {k : Nat} (hk : 1 ≤ k) : letter s k (len s k) = (k : Int) := by
  match k, hk with
  | 1, _ => rfl
  | 2, _ =>
    show (if len s 2 = len s 2 then (2 : Int) else -1) = 2
    rw [if_pos rfl]
  | k + 3, _ =>
    rw [letter, if_pos rfl]
theorem letter_two {s : Spec} {a : Int} (h : a ≠ len s 2) : letter s 2 a = -1 := by
  show (if a = len s 2 then (2 : Int) else -1) = -1
  rw [if_neg h]
theorem letter_in {s : Spec} {k : Nat} {a : Int} (h : a ≠ len s (k + 3)) (c : a ≤ times s (k + 3) * len s (k + 1)) : letter s (k + 3) a = letter s (k + 1) ((a - 1) % len s (k + 1) + 1) := by
  rw [letter, if_neg h, if_pos c]
theorem letter_out {s : Spec} {k : Nat} {a : Int} (h : a ≠ len s (k + 3)) (c : ¬ a ≤ times s (k + 3) * len s (k + 1)) : letter s (k + 3) a = letter s (k + 2) (a - times s (k + 3) * len s (k + 1)) := by
  rw [letter, if_neg h, if_neg c]

/-! ### words -/
def reps (w : List Int) : Nat → List Int
  | 0 => []
  | n + 1 => w ++ reps w n
def words (s : Spec) : Nat → List Int
  | 0 => []
  | 1 => [1]
  | 2 => List.replicate (len s 2 - 1).toNat (-1) ++ [2]
  | k + 3 => reps (words s (k + 1)) (times s (k + 3)).toNat ++ (words s (k + 2)).dropLast ++ [((k + 3 : Nat) : Int)]
theorem words3 (s : Spec) (k : Nat) : words s (k + 3) = reps (words s (k + 1)) (times s (k + 3)).toNat ++ (words s (k + 2)).dropLast ++ [((k + 3 : Nat) : Int)] := by rw [words]
theorem reps_length (w : List Int) (n : Nat) : (reps w n).length = n * w.length := by
  induction n with
  | zero => simp [reps]
  | succ n ih => rw [reps, List.length_append, ih, Nat.succ_mul]; omega
theorem reps_get (w : List Int) : ∀ (n i : Nat), i < n * w.length → (reps w n)[i]? = w[i % w.length]?
  | 0, i, h => by simp at h
  | n + 1, i, h => by
    rw [reps]
    by_cases c : i < w.length
    · rw [List.getElem?_append_left c, Nat.mod_eq_of_lt c]
    · rw [List.getElem?_append_right (by omega), reps_get w n (i - w.length) (by rw [Nat.succ_mul] at h; omega)]
      congr 1
      exact (Nat.mod_eq_sub_mod (by omega)).symm
theorem words_length {s : Spec} (h : s.Ok) : ∀ k, ((words s k).length : Int) = len s k
  | 0 => rfl
  | 1 => rfl
  | 2 => by
    show (((List.replicate (len s 2 - 1).toNat (-1 : Int) ++ [2]).length : Nat) : Int) = len s 2
    have := len_pos h (k := 2) (by omega)
    rw [List.length_append, List.length_replicate, List.length_singleton]
    omega
  | k + 3 => by
    have a := words_length h (k + 1)
    have b := words_length h (k + 2)
    have t := times_nn h (k := k + 3)
    have l := len_pos h (k := k + 2) (by omega)
    have e := len3 s k
    rw [words3, List.length_append, List.length_append, reps_length, List.length_dropLast, List.length_singleton]
    have m : (((times s (k + 3)).toNat * (words s (k + 1)).length : Nat) : Int) = times s (k + 3) * len s (k + 1) := by
      rw [Int.natCast_mul, a, Int.toNat_of_nonneg t]
    omega
theorem words_get {s : Spec} (h : s.Ok) : ∀ (k i : Nat), (i : Int) < len s k → (words s k)[i]? = some (letter s k (i + 1))
  | 0, i, hi => by
    have : (i : Int) < 0 := hi
    omega
  | 1, i, hi => by
    have : (i : Int) < 1 := hi
    have e : i = 0 := by omega
    subst e
    rfl
  | 2, i, hi => by
    have l := len_pos h (k := 2) (by omega)
    show (List.replicate (len s 2 - 1).toNat (-1 : Int) ++ [2])[i]? = some (if ((i : Int) + 1) = len s 2 then 2 else -1)
    by_cases c : (i : Int) + 1 = len s 2
    · rw [if_pos c, List.getElem?_append_right (by rw [List.length_replicate]; omega), List.length_replicate]
      have e : i - (len s 2 - 1).toNat = 0 := by omega
      rw [e]
      rfl
    · rw [if_neg c, List.getElem?_append_left (by rw [List.length_replicate]; omega), List.getElem?_replicate, if_pos (by omega)]
  | k + 3, i, hi => by
    have a := words_length h (k + 1)
    have b := words_length h (k + 2)
    have t := times_nn h (k := k + 3)
    have l1 := len_pos h (k := k + 1) (by omega)
    have l2 := len_pos h (k := k + 2) (by omega)
    have e := len3 s k
    have m : (((times s (k + 3)).toNat * (words s (k + 1)).length : Nat) : Int) = times s (k + 3) * len s (k + 1) := by
      rw [Int.natCast_mul, a, Int.toNat_of_nonneg t]
    rw [words3]
    by_cases c : (i : Int) + 1 = len s (k + 3)
    · rw [c, letter_end (by omega), List.getElem?_append_right (by rw [List.length_append, reps_length, List.length_dropLast]; omega), List.length_append, reps_length, List.length_dropLast]
      have z : i - ((times s (k + 3)).toNat * (words s (k + 1)).length + ((words s (k + 2)).length - 1)) = 0 := by omega
      rw [z]
      rfl
    · rw [List.getElem?_append_left (by rw [List.length_append, reps_length, List.length_dropLast]; omega)]
      by_cases c2 : (i : Int) + 1 ≤ times s (k + 3) * len s (k + 1)
      · rw [letter_in c c2, List.getElem?_append_left (by rw [reps_length]; omega), reps_get _ _ _ (by omega)]
        have hp : 0 < (words s (k + 1)).length := by omega
        have q := Nat.mod_lt i hp
        rw [words_get h (k + 1) (i % (words s (k + 1)).length) (by omega)]
        congr 2
        rw [Int.natCast_emod, a]
        congr 1
        congr 1
        omega
      · rw [letter_out c c2, List.getElem?_append_right (by rw [reps_length]; omega), reps_length]
        have z : ((i - (times s (k + 3)).toNat * (words s (k + 1)).length : Nat) : Int) = i - times s (k + 3) * len s (k + 1) := by omega
        rw [List.getElem?_dropLast, if_pos (by omega), words_get h (k + 2) _ (by omega)]
        congr 2
        omega

/-! ### counts -/
def cstep (s : Spec) (m : Int) (k : Nat) (a b : Int) : Int :=
  if m = (k : Int) then 1 else if m = (k : Int) - 1 then 0 else if 3 ≤ k then times s k * a + b else if m = -1 then len s k - 1 else 0
def cnt (s : Spec) (m : Int) : Nat → Int
  | 0 => 0
  | 1 => cstep s m 1 0 0
  | k + 2 => cstep s m (k + 2) (cnt s m k) (cnt s m (k + 1))
theorem cnt2 (s : Spec) (m : Int) (k : Nat) : cnt s m (k + 2) = cstep s m (k + 2) (cnt s m k) (cnt s m (k + 1)) := by rw [cnt]
theorem cnt3 (s : Spec) (m : Int) (k : Nat) : cnt s m (k + 3) = cstep s m (k + 3) (cnt s m (k + 1)) (cnt s m (k + 2)) := cnt2 s m (k + 1)
theorem cs_self {s : Spec} {m : Int} {k : Nat} {a b : Int} (h : m = (k : Int)) : cstep s m k a b = 1 := if_pos h
theorem cs_pred {s : Spec} {m : Int} {k : Nat} {a b : Int} (h : m = (k : Int) - 1) : cstep s m k a b = 0 := by
  unfold cstep
  rw [if_neg (by omega), if_pos h]
theorem cs_in {s : Spec} {m : Int} {k : Nat} {a b : Int} (h1 : m ≠ (k : Int)) (h2 : m ≠ (k : Int) - 1) (h3 : 3 ≤ k) : cstep s m k a b = times s k * a + b := by
  unfold cstep
  rw [if_neg h1, if_neg h2, if_pos h3]
theorem cs_low {s : Spec} {m : Int} {k : Nat} {a b : Int} (h1 : m ≠ (k : Int)) (h2 : m ≠ (k : Int) - 1) (h3 : k < 3) : cstep s m k a b = if m = -1 then len s k - 1 else 0 := by
  unfold cstep
  rw [if_neg h1, if_neg h2, if_neg (by omega)]
theorem cnt_self {s : Spec} {k : Nat} (hk : 1 ≤ k) : cnt s (k : Int) k = 1 := by
  match k, hk with
  | 1, _ => exact cs_self rfl
  | k + 2, _ =>
    rw [cnt2]
    exact cs_self rfl
theorem cnt_pred {s : Spec} {k : Nat} (hk : 1 ≤ k) : cnt s ((k : Int) - 1) k = 0 := by
  match k, hk with
  | 1, _ =>
    show cstep s ((1 : Nat) - 1 : Int) 1 0 0 = 0
    unfold cstep
    rw [if_neg (by omega), if_pos rfl]
  | k + 2, _ =>
    rw [cnt2]
    unfold cstep
    rw [if_neg (by omega), if_pos rfl]
theorem cnt_far {s : Spec} {m : Int} : ∀ {k : Nat}, (m < -1 ∨ (k : Int) < m) → cnt s m k = 0
  | 0, _ => rfl
  | 1, h => by
    show cstep s m 1 0 0 = 0
    unfold cstep
    rw [if_neg (by omega), if_neg (by omega), if_neg (by omega), if_neg (by omega)]
  | k + 2, h => by
    rw [cnt2]
    unfold cstep
    rw [if_neg (by omega), if_neg (by omega), cnt_far (k := k) (by omega), cnt_far (k := k + 1) (by omega)]
    split
    · omega
    · rw [if_neg (by omega)]
theorem cnt_nought {s : Spec} : ∀ {k : Nat}, cnt s 0 k = 0
  | 0 => rfl
  | 1 => by
    show cstep s 0 1 0 0 = 0
    unfold cstep
    rw [if_neg (by omega), if_pos (by omega)]
  | k + 2 => by
    rw [cnt2]
    unfold cstep
    rw [if_neg (by omega), if_neg (by omega), cnt_nought (k := k), cnt_nought (k := k + 1)]
    split
    · omega
    · rw [if_neg (by omega)]
theorem cnt_nn {s : Spec} (h : s.Ok) {m : Int} : ∀ {k : Nat}, 0 ≤ cnt s m k
  | 0 => Int.le_refl 0
  | 1 => by
    show 0 ≤ cstep s m 1 0 0
    unfold cstep
    have := len_pos h (k := 1) (by omega)
    split
    · omega
    split
    · omega
    split
    · omega
    split <;> omega
  | k + 2 => by
    rw [cnt2]
    unfold cstep
    have := len_pos h (k := k + 2) (by omega)
    have a := Int.mul_nonneg (times_nn h (k := k + 2)) (cnt_nn h (m := m) (k := k))
    have b := cnt_nn h (m := m) (k := k + 1)
    split
    · omega
    split
    · omega
    split
    · omega
    split <;> omega
theorem words_last (s : Spec) {k : Nat} (hk : 1 ≤ k) : ∃ w, words s k = w ++ [(k : Int)] := by
  match k, hk with
  | 1, _ => exact ⟨[], rfl⟩
  | 2, _ => exact ⟨_, rfl⟩
  | k + 3, _ => exact ⟨_, words3 s k⟩
theorem reps_count (w : List Int) (m : Int) (n : Nat) : (((reps w n).count m : Nat) : Int) = n * (w.count m : Nat) := by
  induction n with
  | zero => simp [reps]
  | succ n ih =>
    rw [reps, List.count_append, Int.natCast_add, ih, Int.natCast_succ, Int.add_mul]
    omega
theorem count_one (a m : Int) : (([a].count m : Nat) : Int) = if m = a then 1 else 0 := by
  by_cases c : m = a
  · subst c
    simp
  · rw [if_neg c, List.count_eq_zero_of_not_mem (by simpa using c)]
    rfl
theorem cnt_words {s : Spec} (h : s.Ok) (m : Int) : ∀ {k : Nat}, 1 ≤ k → (((words s k).count m : Nat) : Int) = cnt s m k
  | 1, _ => by
    show (([(1 : Int)].count m : Nat) : Int) = cstep s m 1 0 0
    have l : len s 1 = 1 := rfl
    rw [count_one]
    by_cases c : m = 1
    · rw [if_pos c, cs_self (by omega)]
    · rw [if_neg c]
      by_cases c2 : m = 0
      · rw [cs_pred (by omega)]
      · rw [cs_low (by omega) (by omega) (by omega), l]
        split <;> rfl
  | 2, _ => by
    have l := len_pos h (k := 2) (by omega)
    show (((List.replicate (len s 2 - 1).toNat (-1 : Int) ++ [2]).count m : Nat) : Int) = cstep s m 2 0 (cnt s m 1)
    rw [List.count_append, Int.natCast_add, count_one, List.count_replicate]
    by_cases c : m = 2
    · rw [if_pos c, cs_self (by omega), if_neg (by simp; omega)]
      rfl
    · rw [if_neg c]
      by_cases c0 : m = 1
      · rw [cs_pred (by omega), if_neg (by simp; omega)]
        rfl
      · rw [cs_low (by omega) (by omega) (by omega)]
        by_cases c1 : m = -1
        · rw [if_pos c1, if_pos (by simp; omega)]
          omega
        · rw [if_neg c1, if_neg (by simp; omega)]
          rfl
  | k + 3, _ => by
    have a := cnt_words h m (k := k + 1) (by omega)
    have b := cnt_words h m (k := k + 2) (by omega)
    have t := times_nn h (k := k + 3)
    obtain ⟨w, hw⟩ := words_last s (k := k + 2) (by omega)
    have b2 : ((w.count m : Nat) : Int) = cnt s m (k + 2) - if m = ((k + 2 : Nat) : Int) then 1 else 0 := by
      rw [hw, List.count_append, Int.natCast_add, count_one] at b
      omega
    rw [words3, hw, List.dropLast_concat, List.count_append, List.count_append, Int.natCast_add, Int.natCast_add, reps_count, count_one, a, b2, Int.toNat_of_nonneg t, cnt3]
    by_cases c : m = ((k + 3 : Nat) : Int)
    · rw [if_pos c, if_neg (by omega), cs_self c, cnt_far (k := k + 1) (by omega), cnt_far (k := k + 2) (by omega)]
      omega
    · rw [if_neg c]
      by_cases c2 : m = ((k + 2 : Nat) : Int)
      · have z : cnt s m (k + 2) = 1 := by
          rw [c2]
          exact cnt_self (by omega)
        rw [if_pos c2, cs_pred (by omega), cnt_far (k := k + 1) (by omega), z]
        omega
      · rw [if_neg c2, cs_in (by omega) (by omega) (by omega)]
        omega

/-! ### the law's rows of counts -/
def lrow (s : Spec) : Nat → Nat → Int
  | 0, _ => 0
  | 1, j => if j = 2 then 1 else 0
  | 2, j => if j = 0 then len s 2 - 1 else if j = 3 then 1 else 0
  | k + 3, j => times s (k + 3) * lrow s (k + 1) j + lrow s (k + 2) j - (if j = k + 3 then 1 else 0) + (if j = k + 4 then 1 else 0)
theorem lrow3 (s : Spec) (k j : Nat) : lrow s (k + 3) j = times s (k + 3) * lrow s (k + 1) j + lrow s (k + 2) j - (if j = k + 3 then 1 else 0) + (if j = k + 4 then 1 else 0) := by rw [lrow]
theorem lrow_cnt (s : Spec) (j : Nat) : ∀ {k : Nat}, 1 ≤ k → lrow s k j = cnt s ((j : Int) - 1) k
  | 1, _ => by
    show (if j = 2 then (1 : Int) else 0) = cstep s ((j : Int) - 1) 1 0 0
    have l : len s 1 = 1 := rfl
    by_cases c : j = 2
    · rw [if_pos c, cs_self (by omega)]
    · rw [if_neg c]
      by_cases c2 : j = 1
      · rw [cs_pred (by omega)]
      · rw [cs_low (by omega) (by omega) (by omega), l]
        split <;> rfl
  | 2, _ => by
    show (if j = 0 then len s 2 - 1 else if j = 3 then 1 else 0) = cstep s ((j : Int) - 1) 2 0 (cnt s ((j : Int) - 1) 1)
    by_cases c : j = 3
    · rw [if_neg (by omega), if_pos c, cs_self (by omega)]
    · by_cases c2 : j = 2
      · rw [if_neg (by omega), if_neg c, cs_pred (by omega)]
      · rw [cs_low (by omega) (by omega) (by omega), if_neg c]
        by_cases c3 : j = 0
        · rw [if_pos c3, if_pos (by omega)]
        · rw [if_neg c3, if_neg (by omega)]
  | k + 3, _ => by
    rw [lrow3, lrow_cnt s j (k := k + 1) (by omega), lrow_cnt s j (k := k + 2) (by omega), cnt3]
    by_cases c : j = k + 4
    · rw [if_pos c, if_neg (by omega), cs_self (by omega), cnt_far (k := k + 1) (by omega), cnt_far (k := k + 2) (by omega)]
      omega
    · rw [if_neg c]
      by_cases c2 : j = k + 3
      · have z : cnt s ((j : Int) - 1) (k + 2) = 1 := by
          have e : (j : Int) - 1 = ((k + 2 : Nat) : Int) := by omega
          rw [e]
          exact cnt_self (by omega)
        rw [if_pos c2, cs_pred (by omega), cnt_far (k := k + 1) (by omega), z]
        omega
      · rw [if_neg c2, cs_in (by omega) (by omega) (by omega)]
        omega
def sumN (f : Nat → Int) : Nat → Int
  | 0 => 0
  | n + 1 => sumN f n + f n
theorem sumN_ind (a : Nat) : ∀ n, sumN (fun j => if j = a then 1 else 0) n = if a < n then 1 else 0
  | 0 => by rw [if_neg (by omega)]; rfl
  | n + 1 => by
    show sumN _ n + (if n = a then (1 : Int) else 0) = _
    rw [sumN_ind a n]
    by_cases c : n = a
    · rw [if_pos c, if_neg (by omega), if_pos (by omega)]; rfl
    · rw [if_neg c]
      by_cases c2 : a < n
      · rw [if_pos c2, if_pos (by omega)]; rfl
      · rw [if_neg c2, if_neg (by omega)]; rfl
theorem sumN_lin (t : Int) (f g u v : Nat → Int) : ∀ n, sumN (fun j => t * f j + g j - u j + v j) n = t * sumN f n + sumN g n - sumN u n + sumN v n
  | 0 => by simp [sumN]
  | n + 1 => by
    show sumN _ n + (t * f n + g n - u n + v n) = t * (sumN f n + f n) + (sumN g n + g n) - (sumN u n + u n) + (sumN v n + v n)
    rw [sumN_lin t f g u v n, Int.mul_add]
    omega
theorem sumN_congr {f g : Nat → Int} : ∀ n, (∀ j, j < n → f j = g j) → sumN f n = sumN g n
  | 0, _ => rfl
  | n + 1, h => by
    show sumN f n + f n = sumN g n + g n
    rw [sumN_congr n fun j hj => h j (by omega), h n (by omega)]
theorem lrow_sum (s : Spec) : ∀ {k n : Nat}, 1 ≤ k → k + 2 ≤ n → sumN (lrow s k) n = len s k
  | 1, n, _, hn => by
    have e : sumN (lrow s 1) n = sumN (fun j => if j = 2 then 1 else 0) n := sumN_congr n fun j _ => rfl
    rw [e, sumN_ind, if_pos (by omega)]
    rfl
  | 2, n, _, hn => by
    have e : sumN (lrow s 2) n = sumN (fun j => (len s 2 - 1) * (if j = 0 then 1 else 0) + (if j = 3 then 1 else 0) - (if j = n then 1 else 0) + (if j = n then 1 else 0)) n := sumN_congr n fun j hj => by
      show (if j = 0 then len s 2 - 1 else if j = 3 then 1 else 0) = _
      by_cases c : j = 0
      · rw [if_pos c, if_pos c, if_neg (by omega), if_neg (by omega)]
        omega
      · rw [if_neg c, if_neg c]
        omega
    rw [e, sumN_lin, sumN_ind, sumN_ind, sumN_ind, if_pos (by omega), if_pos (by omega)]
    omega
  | k + 3, n, _, hn => by
    have e : sumN (lrow s (k + 3)) n = sumN (fun j => times s (k + 3) * lrow s (k + 1) j + lrow s (k + 2) j - (if j = k + 3 then 1 else 0) + (if j = k + 4 then 1 else 0)) n := sumN_congr n fun j _ => lrow3 s k j
    rw [e, sumN_lin, sumN_ind, sumN_ind, if_pos (by omega), if_pos (by omega), lrow_sum s (k := k + 1) (by omega) (by omega), lrow_sum s (k := k + 2) (by omega) (by omega), len3]
    omega
/-- all counts of a level add up to its length -/
theorem cnt_sum (s : Spec) {k : Nat} (hk : 1 ≤ k) : sumN (fun j => cnt s ((j : Int) - 1) k) (k + 2) = len s k := by
  rw [← lrow_sum s (k := k) (n := k + 2) hk (Nat.le_refl _)]
  exact sumN_congr _ fun j _ => (lrow_cnt s j hk).symm
end K12M
set_option Elab.async false
set_option linter.all false
set_option maxRecDepth 100000
set_option maxHeartbeats 4000000
namespace K12
open PySem PySem.Spec PyProof.Rows L2
def top (i : Nat) : Stmt := PySem.Challenge.pw_latereach_k12_whole_phase_words.main.body.getD i (.Pass ⟨0, 0, 0, 0⟩)
abbrev s_OutOfRange_init : Stmt := inClass (top 3) 0
abbrev s_need_range : Stmt := top 7
abbrev s_need_level : Stmt := top 8
abbrev s_reach_table : Stmt := top 10
abbrev s_phase_letter : Stmt := top 13
abbrev s_phase_letters : Stmt := top 14
abbrev s_phase_count : Stmt := top 15
abbrev s_letter_of : Stmt := top 16
abbrev s__need_late : Stmt := top 18
abbrev s__ascending : Stmt := top 19
abbrev s_Rule_and : Stmt := inClass (top 20) 0
abbrev s_Rule_or : Stmt := inClass (top 20) 1
abbrev s_Line_init : Stmt := inClass (top 21) 0
abbrev s_Line_call : Stmt := inClass (top 21) 1
abbrev s_Table_init : Stmt := inClass (top 22) 0
abbrev s_Table_call : Stmt := inClass (top 22) 1
abbrev s_Lesser_init : Stmt := inClass (top 23) 0
abbrev s_Lesser_call : Stmt := inClass (top 23) 1
abbrev s_Greater_init : Stmt := inClass (top 24) 0
abbrev s_Greater_call : Stmt := inClass (top 24) 1
abbrev s__law_integer : Stmt := top 26
abbrev s__law_is : Stmt := top 27
abbrev s__law_box : Stmt := top 28
abbrev s__law_mixed : Stmt := top 29
abbrev s__law_draw : Stmt := top 30
abbrev s__law_line : Stmt := top 31
abbrev s__law_listed : Stmt := top 32
abbrev s__law_simple : Stmt := top 33
abbrev s__law_spec : Stmt := top 34
abbrev s__law_built : Stmt := top 35
abbrev s__law_price : Stmt := top 36
abbrev s__law_levels : Stmt := top 37
abbrev s__law_level : Stmt := top 38
abbrev s__law_letter : Stmt := top 39
abbrev s__law_beyond : Stmt := top 40
abbrev s__law_spot : Stmt := top 41
abbrev s__law_low : Stmt := top 42
abbrev s__law_words : Stmt := top 43
abbrev s__law_counts : Stmt := top 44
abbrev s__law_words_right : Stmt := top 45
abbrev s__law_first_letters_right : Stmt := top 46
abbrev s__law_letters_right : Stmt := top 47
abbrev s__law_counted_right : Stmt := top 48
abbrev s__law_counts_right : Stmt := top 49
abbrev s__law_sum_right : Stmt := top 50
abbrev s__law_letter_refused : Stmt := top 51
abbrev s__law_letters_refused : Stmt := top 52
abbrev s__law_count_refused : Stmt := top 53
abbrev s__law_refusals_right : Stmt := top 54
abbrev s_law : Stmt := top 55
def d_need_range : He.DefD := ⟨("need_range", none), "need_range", "need_range", defArgs s_need_range, defBody s_need_range, defScope s_need_range, [], []⟩
def d_need_level : He.DefD := ⟨("need_level", none), "need_level", "need_level", defArgs s_need_level, defBody s_need_level, defScope s_need_level, [.int 0], []⟩
def d_reach_table : He.DefD := ⟨("reach_table", none), "reach_table", "reach_table", defArgs s_reach_table, defBody s_reach_table, defScope s_reach_table, [], []⟩
def d_phase_letter : He.DefD := ⟨("phase_letter", none), "phase_letter", "phase_letter", defArgs s_phase_letter, defBody s_phase_letter, defScope s_phase_letter, [], []⟩
def d_phase_letters : He.DefD := ⟨("phase_letters", none), "phase_letters", "phase_letters", defArgs s_phase_letters, defBody s_phase_letters, defScope s_phase_letters, [], []⟩
def d_phase_count : He.DefD := ⟨("phase_count", none), "phase_count", "phase_count", defArgs s_phase_count, defBody s_phase_count, defScope s_phase_count, [], []⟩
def d_letter_of : He.DefD := ⟨("letter_of", none), "letter_of", "letter_of", defArgs s_letter_of, defBody s_letter_of, defScope s_letter_of, [], []⟩
def d__need_late : He.DefD := ⟨("_need_late", none), "_need_late", "_need_late", defArgs s__need_late, defBody s__need_late, defScope s__need_late, [], []⟩
def d__ascending : He.DefD := ⟨("_ascending", none), "_ascending", "_ascending", defArgs s__ascending, defBody s__ascending, defScope s__ascending, [], []⟩
def d_Rule_and : He.DefD := ⟨("Rule", some "__and__"), "__and__", "Rule.__and__", defArgs s_Rule_and, defBody s_Rule_and, defScope s_Rule_and, [], []⟩
def d_Rule_or : He.DefD := ⟨("Rule", some "__or__"), "__or__", "Rule.__or__", defArgs s_Rule_or, defBody s_Rule_or, defScope s_Rule_or, [], []⟩
def d_Line_init : He.DefD := ⟨("Line", some "__init__"), "__init__", "Line.__init__", defArgs s_Line_init, defBody s_Line_init, defScope s_Line_init, [], []⟩
def d_Line_call : He.DefD := ⟨("Line", some "__call__"), "__call__", "Line.__call__", defArgs s_Line_call, defBody s_Line_call, defScope s_Line_call, [], []⟩
def d_Table_init : He.DefD := ⟨("Table", some "__init__"), "__init__", "Table.__init__", defArgs s_Table_init, defBody s_Table_init, defScope s_Table_init, [], [("slope", .int 1)]⟩
def d_Table_call : He.DefD := ⟨("Table", some "__call__"), "__call__", "Table.__call__", defArgs s_Table_call, defBody s_Table_call, defScope s_Table_call, [], []⟩
def d_Lesser_init : He.DefD := ⟨("Lesser", some "__init__"), "__init__", "Lesser.__init__", defArgs s_Lesser_init, defBody s_Lesser_init, defScope s_Lesser_init, [], []⟩
def d_Lesser_call : He.DefD := ⟨("Lesser", some "__call__"), "__call__", "Lesser.__call__", defArgs s_Lesser_call, defBody s_Lesser_call, defScope s_Lesser_call, [], []⟩
def d_Greater_init : He.DefD := ⟨("Greater", some "__init__"), "__init__", "Greater.__init__", defArgs s_Greater_init, defBody s_Greater_init, defScope s_Greater_init, [], []⟩
def d_Greater_call : He.DefD := ⟨("Greater", some "__call__"), "__call__", "Greater.__call__", defArgs s_Greater_call, defBody s_Greater_call, defScope s_Greater_call, [], []⟩
def d__law_integer : He.DefD := ⟨("_law_integer", none), "_law_integer", "_law_integer", defArgs s__law_integer, defBody s__law_integer, defScope s__law_integer, [], []⟩
def d__law_is : He.DefD := ⟨("_law_is", none), "_law_is", "_law_is", defArgs s__law_is, defBody s__law_is, defScope s__law_is, [], []⟩
def d__law_box : He.DefD := ⟨("_law_box", none), "_law_box", "_law_box", defArgs s__law_box, defBody s__law_box, defScope s__law_box, [], []⟩
def d__law_mixed : He.DefD := ⟨("_law_mixed", none), "_law_mixed", "_law_mixed", defArgs s__law_mixed, defBody s__law_mixed, defScope s__law_mixed, [], []⟩
def d__law_draw : He.DefD := ⟨("_law_draw", none), "_law_draw", "_law_draw", defArgs s__law_draw, defBody s__law_draw, defScope s__law_draw, [], []⟩
def d__law_line : He.DefD := ⟨("_law_line", none), "_law_line", "_law_line", defArgs s__law_line, defBody s__law_line, defScope s__law_line, [], []⟩
def d__law_listed : He.DefD := ⟨("_law_listed", none), "_law_listed", "_law_listed", defArgs s__law_listed, defBody s__law_listed, defScope s__law_listed, [], []⟩
def d__law_simple : He.DefD := ⟨("_law_simple", none), "_law_simple", "_law_simple", defArgs s__law_simple, defBody s__law_simple, defScope s__law_simple, [], []⟩
def d__law_spec : He.DefD := ⟨("_law_spec", none), "_law_spec", "_law_spec", defArgs s__law_spec, defBody s__law_spec, defScope s__law_spec, [], []⟩
def d__law_built : He.DefD := ⟨("_law_built", none), "_law_built", "_law_built", defArgs s__law_built, defBody s__law_built, defScope s__law_built, [], []⟩
def d__law_price : He.DefD := ⟨("_law_price", none), "_law_price", "_law_price", defArgs s__law_price, defBody s__law_price, defScope s__law_price, [], []⟩
def d__law_levels : He.DefD := ⟨("_law_levels", none), "_law_levels", "_law_levels", defArgs s__law_levels, defBody s__law_levels, defScope s__law_levels, [], []⟩
def d__law_level : He.DefD := ⟨("_law_level", none), "_law_level", "_law_level", defArgs s__law_level, defBody s__law_level, defScope s__law_level, [], []⟩
def d__law_letter : He.DefD := ⟨("_law_letter", none), "_law_letter", "_law_letter", defArgs s__law_letter, defBody s__law_letter, defScope s__law_letter, [], []⟩
def d__law_beyond : He.DefD := ⟨("_law_beyond", none), "_law_beyond", "_law_beyond", defArgs s__law_beyond, defBody s__law_beyond, defScope s__law_beyond, [], []⟩
def d__law_spot : He.DefD := ⟨("_law_spot", none), "_law_spot", "_law_spot", defArgs s__law_spot, defBody s__law_spot, defScope s__law_spot, [], []⟩
def d__law_low : He.DefD := ⟨("_law_low", none), "_law_low", "_law_low", defArgs s__law_low, defBody s__law_low, defScope s__law_low, [], []⟩
def d__law_words : He.DefD := ⟨("_law_words", none), "_law_words", "_law_words", defArgs s__law_words, defBody s__law_words, defScope s__law_words, [], []⟩
def d__law_counts : He.DefD := ⟨("_law_counts", none), "_law_counts", "_law_counts", defArgs s__law_counts, defBody s__law_counts, defScope s__law_counts, [], []⟩
def d__law_words_right : He.DefD := ⟨("_law_words_right", none), "_law_words_right", "_law_words_right", defArgs s__law_words_right, defBody s__law_words_right, defScope s__law_words_right, [], []⟩
def d__law_first_letters_right : He.DefD := ⟨("_law_first_letters_right", none), "_law_first_letters_right", "_law_first_letters_right", defArgs s__law_first_letters_right, defBody s__law_first_letters_right, defScope s__law_first_letters_right, [], []⟩
def d__law_letters_right : He.DefD := ⟨("_law_letters_right", none), "_law_letters_right", "_law_letters_right", defArgs s__law_letters_right, defBody s__law_letters_right, defScope s__law_letters_right, [], []⟩
def d__law_counted_right : He.DefD := ⟨("_law_counted_right", none), "_law_counted_right", "_law_counted_right", defArgs s__law_counted_right, defBody s__law_counted_right, defScope s__law_counted_right, [], []⟩
def d__law_counts_right : He.DefD := ⟨("_law_counts_right", none), "_law_counts_right", "_law_counts_right", defArgs s__law_counts_right, defBody s__law_counts_right, defScope s__law_counts_right, [], []⟩
def d__law_sum_right : He.DefD := ⟨("_law_sum_right", none), "_law_sum_right", "_law_sum_right", defArgs s__law_sum_right, defBody s__law_sum_right, defScope s__law_sum_right, [], []⟩
def d__law_letter_refused : He.DefD := ⟨("_law_letter_refused", none), "_law_letter_refused", "_law_letter_refused", defArgs s__law_letter_refused, defBody s__law_letter_refused, defScope s__law_letter_refused, [], []⟩
def d__law_letters_refused : He.DefD := ⟨("_law_letters_refused", none), "_law_letters_refused", "_law_letters_refused", defArgs s__law_letters_refused, defBody s__law_letters_refused, defScope s__law_letters_refused, [], []⟩
def d__law_count_refused : He.DefD := ⟨("_law_count_refused", none), "_law_count_refused", "_law_count_refused", defArgs s__law_count_refused, defBody s__law_count_refused, defScope s__law_count_refused, [], []⟩
def d__law_refusals_right : He.DefD := ⟨("_law_refusals_right", none), "_law_refusals_right", "_law_refusals_right", defArgs s__law_refusals_right, defBody s__law_refusals_right, defScope s__law_refusals_right, [], []⟩
def d_law : He.DefD := ⟨("law", none), "law", "law", defArgs s_law, defBody s_law, defScope s_law, [], []⟩
def fn : List He.DefD := ([d_need_range, d_need_level, d_reach_table, d_phase_letter, d_phase_letters, d_phase_count, d_letter_of, d__need_late, d__ascending, d_Rule_and, d_Rule_or, d_Line_init, d_Line_call, d_Table_init, d_Table_call, d_Lesser_init, d_Lesser_call, d_Greater_init, d_Greater_call, d__law_integer] : List He.DefD) ++ ([d__law_is, d__law_box, d__law_mixed, d__law_draw, d__law_line, d__law_listed, d__law_simple, d__law_spec, d__law_built, d__law_price, d__law_levels, d__law_level, d__law_letter, d__law_beyond, d__law_spot, d__law_low, d__law_words, d__law_counts, d__law_words_right, d__law_first_letters_right] : List He.DefD) ++ ([d__law_letters_right, d__law_counted_right, d__law_counts_right, d__law_sum_right, d__law_letter_refused, d__law_letters_refused, d__law_count_refused, d__law_refusals_right, d_law] : List He.DefD)
def fa : List He.Fa := ([.glo "need_range", .glo "need_level", .glo "reach_table", .glo "phase_letter", .glo "phase_letters", .glo "phase_count", .glo "letter_of", .glo "_need_late", .glo "_ascending", .glo "_law_integer", .glo "_law_is", .glo "_law_box", .glo "_law_mixed", .glo "_law_draw", .glo "_law_line", .glo "_law_listed", .glo "_law_simple", .glo "_law_spec", .glo "_law_built", .glo "_law_price"] : List He.Fa) ++ ([.glo "_law_levels", .glo "_law_level", .glo "_law_letter", .glo "_law_beyond", .glo "_law_spot", .glo "_law_low", .glo "_law_words", .glo "_law_counts", .glo "_law_words_right", .glo "_law_first_letters_right", .glo "_law_letters_right", .glo "_law_counted_right", .glo "_law_counts_right", .glo "_law_sum_right", .glo "_law_letter_refused", .glo "_law_letters_refused", .glo "_law_count_refused", .glo "_law_refusals_right", .glo "law", .glo "OutOfRange"] : List He.Fa) ++ ([.glo "ReachError", .glo "Line", .glo "Table", .glo "Lesser", .glo "Greater", .free "len", .free "range", .free "isinstance", .free "int", .free "bool", .free "tuple", .free "list", .free "min", .free "max", .free "ValueError", .free "super", .int "MOST_PLACES" (64), .int "STILL" (-1), .cls "Line", .mkr "Line"] : List He.Fa) ++ ([.cls "Table", .mkr "Table", .cls "Lesser", .mkr "Lesser", .cls "Greater", .mkr "Greater", .noat "Line" "slope", .noat "Line" "extra", .noat "Table" "prices", .noat "Table" "slope", .noat "Lesser" "_one", .noat "Lesser" "_other", .noat "Greater" "_one", .noat "Greater" "_other", .keep "OutOfRange"] : List He.Fa)
/-! the further looks at the written part -/
def callB (K : PySem.W.Frag) (C g : Addr) : Bool := He.eqO (PySem.W.findIn K (.ref C) "__call__") (some (some (.ref g))) && (PySem.W.isFn K (.ref g) && PySem.W.fnIn K g)
theorem callB_ok {K : PySem.W.Frag} {C g : Addr} (h : callB K C g = true) : StX.CallO K C g := by
  obtain ⟨h1, h⟩ := He.ba h
  obtain ⟨h2, h3⟩ := He.ba h
  exact ⟨He.eqO_ok h1, h2, h3⟩
/-- an own exception class over ValueError: its object, its own __init__ -/
def oexB (K : PySem.W.Frag) (C : Addr) : Bool := (match K.lookup C with
  | some ⟨.type "type", _, .cls cd, sl⟩ => (match cd.mro, sl.toList with
    | .ref C' :: bm, [_, _, _, _, some (.builtin n), _] => decide (C' = C) && (decide (n = "ValueError.__new__") && (!cd.hasDel && (cd.hasDict && PySem.HandSPX.refsVE bm)))
    | _, _ => false)
  | _ => false) && (He.eqO (PySem.W.findIn K (.ref C) "__setattr__") (some (some (.builtin "object.__setattr__"))) && (decide (PySem.W.subIn K (.ref C) (.type "BaseException") = some true) && (decide (PySem.W.typeIn K (.ref C) = some (.type "type")) && PySem.W.keepIn K (.ref C))))
abbrev OexB (K : PySem.W.Frag) (C : Addr) : Prop := OexC K C
theorem oexB_ok {K : PySem.W.Frag} {C : Addr} (h : oexB K C = true) : OexB K C := by
  obtain ⟨h1, h⟩ := He.ba h
  obtain ⟨h2, h⟩ := He.ba h
  obtain ⟨h3, h⟩ := He.ba h
  obtain ⟨h4, h5⟩ := He.ba h
  refine ⟨?_, He.eqO_ok h2, of_decide_eq_true h3, of_decide_eq_true h4, h5⟩
  split at h1
  · rename_i dd cd sl ho
    split at h1
    · rename_i C' bm k0 k1 k2 k3 n k5 hm hs
      obtain ⟨q1, h1⟩ := He.ba h1
      obtain ⟨q2, h1⟩ := He.ba h1
      obtain ⟨q3, h1⟩ := He.ba h1
      obtain ⟨q4, q5⟩ := He.ba h1
      have e1 := of_decide_eq_true q1
      have e2 := of_decide_eq_true q2
      obtain ⟨nm, bs, mro, ns, qn, hd, sn, sub, ab, col, del⟩ := cd
      dsimp only at hm q3 q4
      have q3' : del = false := by simpa using q3
      subst e1 e2 hm q3' q4
      have hs' : sl = #[k0, k1, k2, k3, some (.builtin "ValueError.__new__"), k5] := by
        have := congrArg List.toArray hs
        simpa using this
      exact ⟨nm, qn, ns, bs, bm, sn, sub, ab, col, dd, k0, k1, k2, k3, k5, by rw [ho, hs'], q5⟩
    · cases h1
  · cases h1
/-- the closed __init__: its cell bears the class, its code record the file -/
def cloB (K : PySem.W.Frag) (f C : Addr) : Bool := match K.lookup f with
  | some ⟨_, _, .func fd, _⟩ => (match fd.closure, fd.code with
    | [(_, cc)], .ref cda => (match K.lookup cc, K.lookup cda with
      | some ⟨_, _, .cell (some (.ref D)), _⟩, some ⟨_, _, .fields vs, _⟩ => decide (D = C) && (PySem.W.codeIn K fd.code "OutOfRange.__init__" && (match vs.toList with
        | _ :: _ :: .str file _ :: _ => (PySem.Challenge.pw_latereach_k12_whole_phase_words.main.file : Str) == file
        | _ => false))
      | _, _ => false)
    | _, _ => false)
  | _ => false
def CloB (K : PySem.W.Frag) (f C : Addr) : Prop := ∃ oc od fd osl x cc cda o1 o2 o3 o4 o5 o6 vs file tf, K.lookup f = some ⟨oc, od, .func fd, osl⟩ ∧ fd.closure = [(x, cc)] ∧ fd.code = .ref cda ∧ K.lookup cc = some ⟨o1, o2, .cell (some (.ref C)), o3⟩ ∧
  K.lookup cda = some ⟨o4, o5, .fields vs, o6⟩ ∧ PySem.W.codeIn K (.ref cda) "OutOfRange.__init__" = true ∧ vs[2]? = some (.str file tf) ∧ ((PySem.Challenge.pw_latereach_k12_whole_phase_words.main.file : Str) == file) = true
theorem cloB_ok {K : PySem.W.Frag} {f C : Addr} (h : cloB K f C = true) : CloB K f C := by
  unfold cloB at h
  split at h
  · rename_i oc od fd osl ho
    split at h
    · rename_i x cc cda hcl hcd
      split at h
      · rename_i o1 o2 D o3 o4 o5 vs o6 h1 h2
        obtain ⟨q1, hB⟩ := He.ba h
        clear h
        obtain ⟨q2, hC⟩ := He.ba hB
        clear hB
        have e1 := of_decide_eq_true q1
        subst e1
        split at hC
        · rename_i a b file tf r hv
          refine ⟨oc, od, fd, osl, x, cc, cda, o1, o2, o3, o4, o5, o6, vs, file, tf, ho, hcl, hcd, h1, h2, by rw [hcd] at q2; exact q2, ?_, hC⟩
          rw [← Array.getElem?_toList, hv] <;> rfl
        · cases hC
      · cases h
    · cases h
  · cases h

def exs : List (PySem.W.Frag → Bool) := ([(fun K => callB K (He.ga K "Line") (He.ma K (He.ga K "Line") "__call__")), (fun K => He.eqO (PySem.W.findIn K (.ref (He.ga K "Line")) "__and__") (some (some (.ref (He.ma K (He.ga K "Rule") "__and__"))))), (fun K => He.eqO (PySem.W.findIn K (.ref (He.ga K "Line")) "__rand__") (some none)), (fun K => He.eqO (PySem.W.findIn K (.ref (He.ga K "Line")) "__or__") (some (some (.ref (He.ma K (He.ga K "Rule") "__or__"))))), (fun K => He.eqO (PySem.W.findIn K (.ref (He.ga K "Line")) "__ror__") (some none)), (fun K => PySem.W.selfFirst K (He.ga K "Line")), (fun K => decide (PySem.W.subIn K (.ref (He.ga K "Table")) (.ref (He.ga K "Line")) = some false)), (fun K => decide (PySem.W.subIn K (.ref (He.ga K "Lesser")) (.ref (He.ga K "Line")) = some false)), (fun K => decide (PySem.W.subIn K (.ref (He.ga K "Greater")) (.ref (He.ga K "Line")) = some false)), (fun K => callB K (He.ga K "Table") (He.ma K (He.ga K "Table") "__call__")), (fun K => He.eqO (PySem.W.findIn K (.ref (He.ga K "Table")) "__and__") (some (some (.ref (He.ma K (He.ga K "Rule") "__and__"))))), (fun K => He.eqO (PySem.W.findIn K (.ref (He.ga K "Table")) "__rand__") (some none))] : List (PySem.W.Frag → Bool)) ++ ([(fun K => He.eqO (PySem.W.findIn K (.ref (He.ga K "Table")) "__or__") (some (some (.ref (He.ma K (He.ga K "Rule") "__or__"))))), (fun K => He.eqO (PySem.W.findIn K (.ref (He.ga K "Table")) "__ror__") (some none)), (fun K => PySem.W.selfFirst K (He.ga K "Table")), (fun K => decide (PySem.W.subIn K (.ref (He.ga K "Line")) (.ref (He.ga K "Table")) = some false)), (fun K => decide (PySem.W.subIn K (.ref (He.ga K "Lesser")) (.ref (He.ga K "Table")) = some false)), (fun K => decide (PySem.W.subIn K (.ref (He.ga K "Greater")) (.ref (He.ga K "Table")) = some false)), (fun K => callB K (He.ga K "Lesser") (He.ma K (He.ga K "Lesser") "__call__")), (fun K => He.eqO (PySem.W.findIn K (.ref (He.ga K "Lesser")) "__and__") (some (some (.ref (He.ma K (He.ga K "Rule") "__and__"))))), (fun K => He.eqO (PySem.W.findIn K (.ref (He.ga K "Lesser")) "__rand__") (some none)), (fun K => He.eqO (PySem.W.findIn K (.ref (He.ga K "Lesser")) "__or__") (some (some (.ref (He.ma K (He.ga K "Rule") "__or__"))))), (fun K => He.eqO (PySem.W.findIn K (.ref (He.ga K "Lesser")) "__ror__") (some none)), (fun K => PySem.W.selfFirst K (He.ga K "Lesser"))] : List (PySem.W.Frag → Bool)) ++ ([(fun K => decide (PySem.W.subIn K (.ref (He.ga K "Line")) (.ref (He.ga K "Lesser")) = some false)), (fun K => decide (PySem.W.subIn K (.ref (He.ga K "Table")) (.ref (He.ga K "Lesser")) = some false)), (fun K => decide (PySem.W.subIn K (.ref (He.ga K "Greater")) (.ref (He.ga K "Lesser")) = some false)), (fun K => callB K (He.ga K "Greater") (He.ma K (He.ga K "Greater") "__call__")), (fun K => He.eqO (PySem.W.findIn K (.ref (He.ga K "Greater")) "__and__") (some (some (.ref (He.ma K (He.ga K "Rule") "__and__"))))), (fun K => He.eqO (PySem.W.findIn K (.ref (He.ga K "Greater")) "__rand__") (some none)), (fun K => He.eqO (PySem.W.findIn K (.ref (He.ga K "Greater")) "__or__") (some (some (.ref (He.ma K (He.ga K "Rule") "__or__"))))), (fun K => He.eqO (PySem.W.findIn K (.ref (He.ga K "Greater")) "__ror__") (some none)), (fun K => PySem.W.selfFirst K (He.ga K "Greater")), (fun K => decide (PySem.W.subIn K (.ref (He.ga K "Line")) (.ref (He.ga K "Greater")) = some false)), (fun K => decide (PySem.W.subIn K (.ref (He.ga K "Table")) (.ref (He.ga K "Greater")) = some false)), (fun K => decide (PySem.W.subIn K (.ref (He.ga K "Lesser")) (.ref (He.ga K "Greater")) = some false))] : List (PySem.W.Frag → Bool)) ++ ([(fun K => PySem.W.isFn K (.ref (He.ma K (He.ga K "Rule") "__and__"))), (fun K => PySem.W.isFn K (.ref (He.ma K (He.ga K "Rule") "__or__"))), (fun K => oexB K (He.ga K "OutOfRange")), (fun K => xfB K (He.ga K "OutOfRange")), (fun K => He.eqO (PySem.W.findIn K (.ref (He.ga K "OutOfRange")) "found") (some none)), (fun K => He.eqO (PySem.W.findIn K (.ref (He.ga K "OutOfRange")) "__init__") (some (some (.ref (He.ma K (He.ga K "OutOfRange") "__init__"))))), (fun K => decide (PySem.W.typeIn K (.ref (He.ma K (He.ga K "OutOfRange") "__init__")) = some (.type "function"))), (fun K => decide (PySem.W.exmOne K (.ref (He.ga K "OutOfRange")) (.ref (He.ga K "OutOfRange")) = some true)), (fun K => decide (PySem.W.kitOne K (.ref (He.ga K "OutOfRange")) (.ref (He.ga K "ReachError")) = some true)), (fun K => decide (PySem.W.kitOne K (.ref (He.ga K "OutOfRange")) (.type "ValueError") = some true)), (fun K => decide (PySem.W.subIn K (.ref (He.ga K "OutOfRange")) (.type "ValueError") = some true)), (fun K => decide (PySem.W.subIn K (.ref (He.ga K "OutOfRange")) (.type "StopIteration") = some false))] : List (PySem.W.Frag → Bool)) ++ ([(fun K => decide (PySem.W.mroIn K (He.ga K "OutOfRange") (.type "object") = some true)), (fun K => decide (PySem.W.mroIn K (He.ga K "OutOfRange") (.ref (He.ga K "OutOfRange")) = some true)), (fun K => He.eqO (PySem.W.findIn K (.ref (He.ga K "OutOfRange")) "__class__") (some (some (.builtin "object.__class__")))), (fun K => decide (PySem.W.specialIn K (.builtin "object.__class__") "__get__" = some (some (.builtin "getset_descriptor.__get__")))), (fun K => decide (PySem.W.takesIn K (.builtin "object.__class__") = some true)), (fun K => He.eqO (PySem.W.ks_superIn K (He.ga K "OutOfRange") (He.ga K "OutOfRange") "__init__") (some (some (.builtin "ValueError.__init__")))), (fun K => He.eqO (PySem.W.nsIn K cStatics "thirdparty.any") (some none)), (fun K => He.eqO (PySem.W.nsIn K mainGlobals "super") (some none)), (fun K => cloB K (He.ma K (He.ga K "OutOfRange") "__init__") (He.ga K "OutOfRange"))] : List (PySem.W.Frag → Bool))
/-- what the closed __init__ is -/
abbrev ClV : Type := Option (Str × Str × Arguments × FuncBody × Scope × Addr × List Str × Addr × Value × Value)
def clObs (K : PySem.W.Frag) : ClV := match K.lookup (He.ma K (He.ga K "OutOfRange") "__init__") with
  | some ⟨_, _, .func fd, _⟩ => some (fd.name, fd.qualname, fd.params, fd.body, fd.scope, fd.globals, fd.closure.map (·.1), fd.builtins, fd.defaults, fd.kwdefaults)
  | _ => none
def clVal : ClV := some ("__init__", "OutOfRange.__init__", defArgs s_OutOfRange_init, .stmts (defBody s_OutOfRange_init), defScope s_OutOfRange_init, mainGlobals, ["__class__"], builtinsNs, .none, .none)
abbrev Obs : Type := He.AlD × Bool × ClV
def obsK (K : PySem.W.Frag) : Obs := (He.obsD fa fn K, exs.all (fun p => p K), clObs K)
def valK : Obs := (He.valD fn, true, clVal)
def frK (g : Addr → Option Obj) : PySem.W.Frag := He.frG g (He.asD g 4 ++ [cStatics])
def SaysK (K : PySem.W.Frag) : Prop := obsK K = valK
def hk : PySem.W.Hook where
  α := Obs
  obs := fun s => obsK (frK s.heap.get?)
  val := fun _ => valK
  says := fun _ h => ∃ K : PySem.W.Frag, K.In h ∧ SaysK K
  of := fun _ _ e => ⟨_, He.frG_in, e⟩
  keeps := fun _ _ _ ⟨K, hK, c⟩ k => ⟨K, PySem.W.Frag.In.keeps hK k, c⟩
def ob (s : PySem.W.SharedT) : Obs := obsK (frK (HandSHeadRun.getT s))
theorem ob_eq (s : PySem.W.SharedT) : ob s = hk.obs s.abs := by
  have e : HandSHeadRun.getT s = s.abs.heap.get? := funext (HandSHeadRun.getT_eq s)
  show obsK (frK (HandSHeadRun.getT s)) = obsK (frK s.abs.heap.get?)
  rw [e]
abbrev R : PySem.W.OpenRow := PySem.W.OpenLaw.row PySem.Challenge.rw_latereach_k12_whole_phase_words

def names : List PySem.Str := (["_wall", "ReachError", "OutOfRange", "InvalidRule", "MOST_PLACES", "need_range", "need_level", "reach_table", "STILL", "phase_letter", "phase_letters", "phase_count", "letter_of", "_need_late", "_ascending", "Rule", "Line", "Table", "Lesser", "Greater", "_law_integer", "_law_is", "_law_box", "_law_mixed", "_law_draw", "_law_line", "_law_listed", "_law_simple", "_law_spec", "_law_built"] : List PySem.Str) ++ (["_law_price", "_law_levels", "_law_level", "_law_letter", "_law_beyond", "_law_spot", "_law_low", "_law_words", "_law_counts", "_law_words_right", "_law_first_letters_right", "_law_letters_right", "_law_counted_right", "_law_counts_right", "_law_sum_right", "_law_letter_refused", "_law_letters_refused", "_law_count_refused", "_law_refusals_right"] : List PySem.Str)
/-- the facts, at hand -/
structure Ev (K : PySem.W.Frag) (mg : Str → Option Value) : Prop where
  glo : ∀ x, He.eqO (PySem.W.nsIn K mainGlobals x) (some (some (.ref (He.ga K x)))) = true → mg x = some (.ref (He.ga K x))
  free : ∀ x, He.eqO (PySem.W.nsIn K mainGlobals x) (some none) = true → mg x = none
  int : ∀ x i, (He.Fa.int x i).ok K = true → ∃ t, mg x = some (.int i t)
  says : SaysK K
theorem ev_of {K : PySem.W.Frag} {mg : Str → Option Value} {h : Heap} (X : K.In h) (G : h.Ns mainGlobals mg) (c : SaysK K) : Ev K mg :=
  ⟨fun _ e => He.glo_ok X G e, fun _ e => He.free_ok X G e, fun _ _ e => He.int_ok X G e, c⟩
section
variable {K : PySem.W.Frag} {mg : Str → Option Value} (T : Ev K mg)
include T
theorem Ev.d : He.SaysD fa fn K := congrArg (fun z : Obs => z.1) T.says
theorem Ev.x (i : Nat) {p : PySem.W.Frag → Bool} (h : exs[i]? = some p) : p K = true :=
  List.all_eq_true.mp (show exs.all (fun p => p K) = true from congrArg (fun z : Obs => z.2.1) T.says) p (List.mem_of_getElem? h)
theorem Ev.cl : clObs K = clVal := congrArg (fun z : Obs => z.2.2) T.says
theorem g_need_range : mg "need_range" = some (.ref (He.ga K "need_range")) := T.glo _ (T.d.fact 0 rfl)
theorem g_need_level : mg "need_level" = some (.ref (He.ga K "need_level")) := T.glo _ (T.d.fact 1 rfl)
theorem g_reach_table : mg "reach_table" = some (.ref (He.ga K "reach_table")) := T.glo _ (T.d.fact 2 rfl)
theorem g_phase_letter : mg "phase_letter" = some (.ref (He.ga K "phase_letter")) := T.glo _ (T.d.fact 3 rfl)
theorem g_phase_letters : mg "phase_letters" = some (.ref (He.ga K "phase_letters")) := T.glo _ (T.d.fact 4 rfl)
theorem g_phase_count : mg "phase_count" = some (.ref (He.ga K "phase_count")) := T.glo _ (T.d.fact 5 rfl)
theorem g_letter_of : mg "letter_of" = some (.ref (He.ga K "letter_of")) := T.glo _ (T.d.fact 6 rfl)
theorem g__need_late : mg "_need_late" = some (.ref (He.ga K "_need_late")) := T.glo _ (T.d.fact 7 rfl)
theorem g__ascending : mg "_ascending" = some (.ref (He.ga K "_ascending")) := T.glo _ (T.d.fact 8 rfl)
theorem g__law_integer : mg "_law_integer" = some (.ref (He.ga K "_law_integer")) := T.glo _ (T.d.fact 9 rfl)
theorem g__law_is : mg "_law_is" = some (.ref (He.ga K "_law_is")) := T.glo _ (T.d.fact 10 rfl)
theorem g__law_box : mg "_law_box" = some (.ref (He.ga K "_law_box")) := T.glo _ (T.d.fact 11 rfl)
theorem g__law_mixed : mg "_law_mixed" = some (.ref (He.ga K "_law_mixed")) := T.glo _ (T.d.fact 12 rfl)
theorem g__law_draw : mg "_law_draw" = some (.ref (He.ga K "_law_draw")) := T.glo _ (T.d.fact 13 rfl)
theorem g__law_line : mg "_law_line" = some (.ref (He.ga K "_law_line")) := T.glo _ (T.d.fact 14 rfl)
theorem g__law_listed : mg "_law_listed" = some (.ref (He.ga K "_law_listed")) := T.glo _ (T.d.fact 15 rfl)
theorem g__law_simple : mg "_law_simple" = some (.ref (He.ga K "_law_simple")) := T.glo _ (T.d.fact 16 rfl)
theorem g__law_spec : mg "_law_spec" = some (.ref (He.ga K "_law_spec")) := T.glo _ (T.d.fact 17 rfl)
theorem g__law_built : mg "_law_built" = some (.ref (He.ga K "_law_built")) := T.glo _ (T.d.fact 18 rfl)
theorem g__law_price : mg "_law_price" = some (.ref (He.ga K "_law_price")) := T.glo _ (T.d.fact 19 rfl)
theorem g__law_levels : mg "_law_levels" = some (.ref (He.ga K "_law_levels")) := T.glo _ (T.d.fact 20 rfl)
theorem g__law_level : mg "_law_level" = some (.ref (He.ga K "_law_level")) := T.glo _ (T.d.fact 21 rfl)
theorem g__law_letter : mg "_law_letter" = some (.ref (He.ga K "_law_letter")) := T.glo _ (T.d.fact 22 rfl)
theorem g__law_beyond : mg "_law_beyond" = some (.ref (He.ga K "_law_beyond")) := T.glo _ (T.d.fact 23 rfl)
theorem g__law_spot : mg "_law_spot" = some (.ref (He.ga K "_law_spot")) := T.glo _ (T.d.fact 24 rfl)
theorem g__law_low : mg "_law_low" = some (.ref (He.ga K "_law_low")) := T.glo _ (T.d.fact 25 rfl)
theorem g__law_words : mg "_law_words" = some (.ref (He.ga K "_law_words")) := T.glo _ (T.d.fact 26 rfl)
theorem g__law_counts : mg "_law_counts" = some (.ref (He.ga K "_law_counts")) := T.glo _ (T.d.fact 27 rfl)
theorem g__law_words_right : mg "_law_words_right" = some (.ref (He.ga K "_law_words_right")) := T.glo _ (T.d.fact 28 rfl)
theorem g__law_first_letters_right : mg "_law_first_letters_right" = some (.ref (He.ga K "_law_first_letters_right")) := T.glo _ (T.d.fact 29 rfl)
theorem g__law_letters_right : mg "_law_letters_right" = some (.ref (He.ga K "_law_letters_right")) := T.glo _ (T.d.fact 30 rfl)
theorem g__law_counted_right : mg "_law_counted_right" = some (.ref (He.ga K "_law_counted_right")) := T.glo _ (T.d.fact 31 rfl)
theorem g__law_counts_right : mg "_law_counts_right" = some (.ref (He.ga K "_law_counts_right")) := T.glo _ (T.d.fact 32 rfl)
theorem g__law_sum_right : mg "_law_sum_right" = some (.ref (He.ga K "_law_sum_right")) := T.glo _ (T.d.fact 33 rfl)
theorem g__law_letter_refused : mg "_law_letter_refused" = some (.ref (He.ga K "_law_letter_refused")) := T.glo _ (T.d.fact 34 rfl)
theorem g__law_letters_refused : mg "_law_letters_refused" = some (.ref (He.ga K "_law_letters_refused")) := T.glo _ (T.d.fact 35 rfl)
theorem g__law_count_refused : mg "_law_count_refused" = some (.ref (He.ga K "_law_count_refused")) := T.glo _ (T.d.fact 36 rfl)
theorem g__law_refusals_right : mg "_law_refusals_right" = some (.ref (He.ga K "_law_refusals_right")) := T.glo _ (T.d.fact 37 rfl)
theorem g_law : mg "law" = some (.ref (He.ga K "law")) := T.glo _ (T.d.fact 38 rfl)
theorem g_OutOfRange : mg "OutOfRange" = some (.ref (He.ga K "OutOfRange")) := T.glo _ (T.d.fact 39 rfl)
theorem g_ReachError : mg "ReachError" = some (.ref (He.ga K "ReachError")) := T.glo _ (T.d.fact 40 rfl)
theorem g_Line : mg "Line" = some (.ref (He.ga K "Line")) := T.glo _ (T.d.fact 41 rfl)
theorem g_Table : mg "Table" = some (.ref (He.ga K "Table")) := T.glo _ (T.d.fact 42 rfl)
theorem g_Lesser : mg "Lesser" = some (.ref (He.ga K "Lesser")) := T.glo _ (T.d.fact 43 rfl)
theorem g_Greater : mg "Greater" = some (.ref (He.ga K "Greater")) := T.glo _ (T.d.fact 44 rfl)
theorem n_len : mg "len" = none := T.free _ (T.d.fact 45 rfl)
theorem n_range : mg "range" = none := T.free _ (T.d.fact 46 rfl)
theorem n_isinstance : mg "isinstance" = none := T.free _ (T.d.fact 47 rfl)
theorem n_int : mg "int" = none := T.free _ (T.d.fact 48 rfl)
theorem n_bool : mg "bool" = none := T.free _ (T.d.fact 49 rfl)
theorem n_tuple : mg "tuple" = none := T.free _ (T.d.fact 50 rfl)
theorem n_list : mg "list" = none := T.free _ (T.d.fact 51 rfl)
theorem n_min : mg "min" = none := T.free _ (T.d.fact 52 rfl)
theorem n_max : mg "max" = none := T.free _ (T.d.fact 53 rfl)
theorem n_ValueError : mg "ValueError" = none := T.free _ (T.d.fact 54 rfl)
theorem n_super : mg "super" = none := T.free _ (T.d.fact 55 rfl)
theorem i_MOST_PLACES : ∃ t, mg "MOST_PLACES" = some (.int (64) t) := T.int _ _ (T.d.fact 56 rfl)
theorem i_STILL : ∃ t, mg "STILL" = some (.int (-1) t) := T.int _ _ (T.d.fact 57 rfl)
theorem c_Line : Cls K (He.ga K "Line") := He.cls_ok (T.d.fact 58 rfl)
theorem m_Line : Mk K (He.ga K "Line") (He.ma K (He.ga K "Line") "__init__") := He.mkr_ok (T.d.fact 59 rfl)
theorem c_Table : Cls K (He.ga K "Table") := He.cls_ok (T.d.fact 60 rfl)
theorem m_Table : Mk K (He.ga K "Table") (He.ma K (He.ga K "Table") "__init__") := He.mkr_ok (T.d.fact 61 rfl)
theorem c_Lesser : Cls K (He.ga K "Lesser") := He.cls_ok (T.d.fact 62 rfl)
theorem m_Lesser : Mk K (He.ga K "Lesser") (He.ma K (He.ga K "Lesser") "__init__") := He.mkr_ok (T.d.fact 63 rfl)
theorem c_Greater : Cls K (He.ga K "Greater") := He.cls_ok (T.d.fact 64 rfl)
theorem m_Greater : Mk K (He.ga K "Greater") (He.ma K (He.ga K "Greater") "__init__") := He.mkr_ok (T.d.fact 65 rfl)
theorem a_Line_slope : NoAttr K (He.ga K "Line") "slope" := He.noat_ok (T.d.fact 66 rfl)
theorem a_Line_extra : NoAttr K (He.ga K "Line") "extra" := He.noat_ok (T.d.fact 67 rfl)
theorem a_Table_prices : NoAttr K (He.ga K "Table") "prices" := He.noat_ok (T.d.fact 68 rfl)
theorem a_Table_slope : NoAttr K (He.ga K "Table") "slope" := He.noat_ok (T.d.fact 69 rfl)
theorem a_Lesser__one : NoAttr K (He.ga K "Lesser") "_one" := He.noat_ok (T.d.fact 70 rfl)
theorem a_Lesser__other : NoAttr K (He.ga K "Lesser") "_other" := He.noat_ok (T.d.fact 71 rfl)
theorem a_Greater__one : NoAttr K (He.ga K "Greater") "_one" := He.noat_ok (T.d.fact 72 rfl)
theorem a_Greater__other : NoAttr K (He.ga K "Greater") "_other" := He.noat_ok (T.d.fact 73 rfl)
theorem k_OutOfRange : PySem.W.keepIn K (.ref (He.ga K "OutOfRange")) = true := He.keep_ok (T.d.fact 74 rfl)
theorem x_call_Line : StX.CallO K (He.ga K "Line") (He.ma K (He.ga K "Line") "__call__") := callB_ok (T.x 0 rfl)
theorem x_and_Line : PySem.W.findIn K (.ref (He.ga K "Line")) "__and__" = some (some (.ref (He.ma K (He.ga K "Rule") "__and__"))) := He.eqO_ok (T.x 1 rfl)
theorem x_rand_Line : PySem.W.findIn K (.ref (He.ga K "Line")) "__rand__" = some none := He.eqO_ok (T.x 2 rfl)
theorem x_or_Line : PySem.W.findIn K (.ref (He.ga K "Line")) "__or__" = some (some (.ref (He.ma K (He.ga K "Rule") "__or__"))) := He.eqO_ok (T.x 3 rfl)
theorem x_ror_Line : PySem.W.findIn K (.ref (He.ga K "Line")) "__ror__" = some none := He.eqO_ok (T.x 4 rfl)
theorem x_first_Line : PySem.W.selfFirst K (He.ga K "Line") = true := id (T.x 5 rfl)
theorem x_sub_Table_Line : PySem.W.subIn K (.ref (He.ga K "Table")) (.ref (He.ga K "Line")) = some false := of_decide_eq_true (T.x 6 rfl)
theorem x_sub_Lesser_Line : PySem.W.subIn K (.ref (He.ga K "Lesser")) (.ref (He.ga K "Line")) = some false := of_decide_eq_true (T.x 7 rfl)
theorem x_sub_Greater_Line : PySem.W.subIn K (.ref (He.ga K "Greater")) (.ref (He.ga K "Line")) = some false := of_decide_eq_true (T.x 8 rfl)
theorem x_call_Table : StX.CallO K (He.ga K "Table") (He.ma K (He.ga K "Table") "__call__") := callB_ok (T.x 9 rfl)
theorem x_and_Table : PySem.W.findIn K (.ref (He.ga K "Table")) "__and__" = some (some (.ref (He.ma K (He.ga K "Rule") "__and__"))) := He.eqO_ok (T.x 10 rfl)
theorem x_rand_Table : PySem.W.findIn K (.ref (He.ga K "Table")) "__rand__" = some none := He.eqO_ok (T.x 11 rfl)
theorem x_or_Table : PySem.W.findIn K (.ref (He.ga K "Table")) "__or__" = some (some (.ref (He.ma K (He.ga K "Rule") "__or__"))) := He.eqO_ok (T.x 12 rfl)
theorem x_ror_Table : PySem.W.findIn K (.ref (He.ga K "Table")) "__ror__" = some none := He.eqO_ok (T.x 13 rfl)
theorem x_first_Table : PySem.W.selfFirst K (He.ga K "Table") = true := id (T.x 14 rfl)
theorem x_sub_Line_Table : PySem.W.subIn K (.ref (He.ga K "Line")) (.ref (He.ga K "Table")) = some false := of_decide_eq_true (T.x 15 rfl)
theorem x_sub_Lesser_Table : PySem.W.subIn K (.ref (He.ga K "Lesser")) (.ref (He.ga K "Table")) = some false := of_decide_eq_true (T.x 16 rfl)
theorem x_sub_Greater_Table : PySem.W.subIn K (.ref (He.ga K "Greater")) (.ref (He.ga K "Table")) = some false := of_decide_eq_true (T.x 17 rfl)
theorem x_call_Lesser : StX.CallO K (He.ga K "Lesser") (He.ma K (He.ga K "Lesser") "__call__") := callB_ok (T.x 18 rfl)
theorem x_and_Lesser : PySem.W.findIn K (.ref (He.ga K "Lesser")) "__and__" = some (some (.ref (He.ma K (He.ga K "Rule") "__and__"))) := He.eqO_ok (T.x 19 rfl)
theorem x_rand_Lesser : PySem.W.findIn K (.ref (He.ga K "Lesser")) "__rand__" = some none := He.eqO_ok (T.x 20 rfl)
theorem x_or_Lesser : PySem.W.findIn K (.ref (He.ga K "Lesser")) "__or__" = some (some (.ref (He.ma K (He.ga K "Rule") "__or__"))) := He.eqO_ok (T.x 21 rfl)
theorem x_ror_Lesser : PySem.W.findIn K (.ref (He.ga K "Lesser")) "__ror__" = some none := He.eqO_ok (T.x 22 rfl)
theorem x_first_Lesser : PySem.W.selfFirst K (He.ga K "Lesser") = true := id (T.x 23 rfl)
theorem x_sub_Line_Lesser : PySem.W.subIn K (.ref (He.ga K "Line")) (.ref (He.ga K "Lesser")) = some false := of_decide_eq_true (T.x 24 rfl)
theorem x_sub_Table_Lesser : PySem.W.subIn K (.ref (He.ga K "Table")) (.ref (He.ga K "Lesser")) = some false := of_decide_eq_true (T.x 25 rfl)
theorem x_sub_Greater_Lesser : PySem.W.subIn K (.ref (He.ga K "Greater")) (.ref (He.ga K "Lesser")) = some false := of_decide_eq_true (T.x 26 rfl)
theorem x_call_Greater : StX.CallO K (He.ga K "Greater") (He.ma K (He.ga K "Greater") "__call__") := callB_ok (T.x 27 rfl)
theorem x_and_Greater : PySem.W.findIn K (.ref (He.ga K "Greater")) "__and__" = some (some (.ref (He.ma K (He.ga K "Rule") "__and__"))) := He.eqO_ok (T.x 28 rfl)
theorem x_rand_Greater : PySem.W.findIn K (.ref (He.ga K "Greater")) "__rand__" = some none := He.eqO_ok (T.x 29 rfl)
theorem x_or_Greater : PySem.W.findIn K (.ref (He.ga K "Greater")) "__or__" = some (some (.ref (He.ma K (He.ga K "Rule") "__or__"))) := He.eqO_ok (T.x 30 rfl)
theorem x_ror_Greater : PySem.W.findIn K (.ref (He.ga K "Greater")) "__ror__" = some none := He.eqO_ok (T.x 31 rfl)
theorem x_first_Greater : PySem.W.selfFirst K (He.ga K "Greater") = true := id (T.x 32 rfl)
theorem x_sub_Line_Greater : PySem.W.subIn K (.ref (He.ga K "Line")) (.ref (He.ga K "Greater")) = some false := of_decide_eq_true (T.x 33 rfl)
theorem x_sub_Table_Greater : PySem.W.subIn K (.ref (He.ga K "Table")) (.ref (He.ga K "Greater")) = some false := of_decide_eq_true (T.x 34 rfl)
theorem x_sub_Lesser_Greater : PySem.W.subIn K (.ref (He.ga K "Lesser")) (.ref (He.ga K "Greater")) = some false := of_decide_eq_true (T.x 35 rfl)
theorem x_fn_and : PySem.W.isFn K (.ref (He.ma K (He.ga K "Rule") "__and__")) = true := id (T.x 36 rfl)
theorem x_fn_or : PySem.W.isFn K (.ref (He.ma K (He.ga K "Rule") "__or__")) = true := id (T.x 37 rfl)
theorem x_oex : OexB K (He.ga K "OutOfRange") := oexB_ok (T.x 38 rfl)
theorem x_xfC : XfC K (He.ga K "OutOfRange") := xfB_ok (T.x 39 rfl)
theorem x_nofound : PySem.W.findIn K (.ref (He.ga K "OutOfRange")) "found" = some none := He.eqO_ok (T.x 40 rfl)
theorem x_oinit : PySem.W.findIn K (.ref (He.ga K "OutOfRange")) "__init__" = some (some (.ref (He.ma K (He.ga K "OutOfRange") "__init__"))) := He.eqO_ok (T.x 41 rfl)
theorem x_oinitT : PySem.W.typeIn K (.ref (He.ma K (He.ga K "OutOfRange") "__init__")) = some (.type "function") := of_decide_eq_true (T.x 42 rfl)
theorem x_exm : PySem.W.exmOne K (.ref (He.ga K "OutOfRange")) (.ref (He.ga K "OutOfRange")) = some true := of_decide_eq_true (T.x 43 rfl)
theorem x_isRE : PySem.W.kitOne K (.ref (He.ga K "OutOfRange")) (.ref (He.ga K "ReachError")) = some true := of_decide_eq_true (T.x 44 rfl)
theorem x_isVE : PySem.W.kitOne K (.ref (He.ga K "OutOfRange")) (.type "ValueError") = some true := of_decide_eq_true (T.x 45 rfl)
theorem x_subVE : PySem.W.subIn K (.ref (He.ga K "OutOfRange")) (.type "ValueError") = some true := of_decide_eq_true (T.x 46 rfl)
theorem x_subStop : PySem.W.subIn K (.ref (He.ga K "OutOfRange")) (.type "StopIteration") = some false := of_decide_eq_true (T.x 47 rfl)
theorem x_mroO : PySem.W.mroIn K (He.ga K "OutOfRange") (.type "object") = some true := of_decide_eq_true (T.x 48 rfl)
theorem x_mroC : PySem.W.mroIn K (He.ga K "OutOfRange") (.ref (He.ga K "OutOfRange")) = some true := of_decide_eq_true (T.x 49 rfl)
theorem x_clsAt : PySem.W.findIn K (.ref (He.ga K "OutOfRange")) "__class__" = some (some (.builtin "object.__class__")) := He.eqO_ok (T.x 50 rfl)
theorem x_clsGet : PySem.W.specialIn K (.builtin "object.__class__") "__get__" = some (some (.builtin "getset_descriptor.__get__")) := of_decide_eq_true (T.x 51 rfl)
theorem x_clsTakes : PySem.W.takesIn K (.builtin "object.__class__") = some true := of_decide_eq_true (T.x 52 rfl)
theorem x_superIn : PySem.W.ks_superIn K (He.ga K "OutOfRange") (He.ga K "OutOfRange") "__init__" = some (some (.builtin "ValueError.__init__")) := He.eqO_ok (T.x 53 rfl)
theorem x_third : PySem.W.nsIn K cStatics "thirdparty.any" = some none := He.eqO_ok (T.x 54 rfl)
theorem x_superN : PySem.W.nsIn K mainGlobals "super" = some none := He.eqO_ok (T.x 55 rfl)
theorem x_clo : CloB K (He.ma K (He.ga K "OutOfRange") "__init__") (He.ga K "OutOfRange") := cloB_ok (T.x 56 rfl)
theorem F_need_range : ∃ fd, FunD K "need_range" "need_range" (defArgs s_need_range) (defBody s_need_range) (defScope s_need_range) [] [] (He.ga K "need_range") fd := T.d.def_ 0 rfl
theorem F_need_level : ∃ fd, FunD K "need_level" "need_level" (defArgs s_need_level) (defBody s_need_level) (defScope s_need_level) [.int 0] [] (He.ga K "need_level") fd := T.d.def_ 1 rfl
theorem F_reach_table : ∃ fd, FunD K "reach_table" "reach_table" (defArgs s_reach_table) (defBody s_reach_table) (defScope s_reach_table) [] [] (He.ga K "reach_table") fd := T.d.def_ 2 rfl
theorem F_phase_letter : ∃ fd, FunD K "phase_letter" "phase_letter" (defArgs s_phase_letter) (defBody s_phase_letter) (defScope s_phase_letter) [] [] (He.ga K "phase_letter") fd := T.d.def_ 3 rfl
theorem F_phase_letters : ∃ fd, FunD K "phase_letters" "phase_letters" (defArgs s_phase_letters) (defBody s_phase_letters) (defScope s_phase_letters) [] [] (He.ga K "phase_letters") fd := T.d.def_ 4 rfl
theorem F_phase_count : ∃ fd, FunD K "phase_count" "phase_count" (defArgs s_phase_count) (defBody s_phase_count) (defScope s_phase_count) [] [] (He.ga K "phase_count") fd := T.d.def_ 5 rfl
theorem F_letter_of : ∃ fd, FunD K "letter_of" "letter_of" (defArgs s_letter_of) (defBody s_letter_of) (defScope s_letter_of) [] [] (He.ga K "letter_of") fd := T.d.def_ 6 rfl
theorem F__need_late : ∃ fd, FunD K "_need_late" "_need_late" (defArgs s__need_late) (defBody s__need_late) (defScope s__need_late) [] [] (He.ga K "_need_late") fd := T.d.def_ 7 rfl
theorem F__ascending : ∃ fd, FunD K "_ascending" "_ascending" (defArgs s__ascending) (defBody s__ascending) (defScope s__ascending) [] [] (He.ga K "_ascending") fd := T.d.def_ 8 rfl
theorem F_Rule_and : ∃ fd, FunD K "__and__" "Rule.__and__" (defArgs s_Rule_and) (defBody s_Rule_and) (defScope s_Rule_and) [] [] (He.ma K (He.ga K "Rule") "__and__") fd := T.d.def_ 9 rfl
theorem F_Rule_or : ∃ fd, FunD K "__or__" "Rule.__or__" (defArgs s_Rule_or) (defBody s_Rule_or) (defScope s_Rule_or) [] [] (He.ma K (He.ga K "Rule") "__or__") fd := T.d.def_ 10 rfl
theorem F_Line_init : ∃ fd, FunD K "__init__" "Line.__init__" (defArgs s_Line_init) (defBody s_Line_init) (defScope s_Line_init) [] [] (He.ma K (He.ga K "Line") "__init__") fd := T.d.def_ 11 rfl
theorem F_Line_call : ∃ fd, FunD K "__call__" "Line.__call__" (defArgs s_Line_call) (defBody s_Line_call) (defScope s_Line_call) [] [] (He.ma K (He.ga K "Line") "__call__") fd := T.d.def_ 12 rfl
theorem F_Table_init : ∃ fd, FunD K "__init__" "Table.__init__" (defArgs s_Table_init) (defBody s_Table_init) (defScope s_Table_init) [] [("slope", .int 1)] (He.ma K (He.ga K "Table") "__init__") fd := T.d.def_ 13 rfl
theorem F_Table_call : ∃ fd, FunD K "__call__" "Table.__call__" (defArgs s_Table_call) (defBody s_Table_call) (defScope s_Table_call) [] [] (He.ma K (He.ga K "Table") "__call__") fd := T.d.def_ 14 rfl
theorem F_Lesser_init : ∃ fd, FunD K "__init__" "Lesser.__init__" (defArgs s_Lesser_init) (defBody s_Lesser_init) (defScope s_Lesser_init) [] [] (He.ma K (He.ga K "Lesser") "__init__") fd := T.d.def_ 15 rfl
theorem F_Lesser_call : ∃ fd, FunD K "__call__" "Lesser.__call__" (defArgs s_Lesser_call) (defBody s_Lesser_call) (defScope s_Lesser_call) [] [] (He.ma K (He.ga K "Lesser") "__call__") fd := T.d.def_ 16 rfl
theorem F_Greater_init : ∃ fd, FunD K "__init__" "Greater.__init__" (defArgs s_Greater_init) (defBody s_Greater_init) (defScope s_Greater_init) [] [] (He.ma K (He.ga K "Greater") "__init__") fd := T.d.def_ 17 rfl
theorem F_Greater_call : ∃ fd, FunD K "__call__" "Greater.__call__" (defArgs s_Greater_call) (defBody s_Greater_call) (defScope s_Greater_call) [] [] (He.ma K (He.ga K "Greater") "__call__") fd := T.d.def_ 18 rfl
theorem F__law_integer : ∃ fd, FunD K "_law_integer" "_law_integer" (defArgs s__law_integer) (defBody s__law_integer) (defScope s__law_integer) [] [] (He.ga K "_law_integer") fd := T.d.def_ 19 rfl
theorem F__law_is : ∃ fd, FunD K "_law_is" "_law_is" (defArgs s__law_is) (defBody s__law_is) (defScope s__law_is) [] [] (He.ga K "_law_is") fd := T.d.def_ 20 rfl
theorem F__law_box : ∃ fd, FunD K "_law_box" "_law_box" (defArgs s__law_box) (defBody s__law_box) (defScope s__law_box) [] [] (He.ga K "_law_box") fd := T.d.def_ 21 rfl
theorem F__law_mixed : ∃ fd, FunD K "_law_mixed" "_law_mixed" (defArgs s__law_mixed) (defBody s__law_mixed) (defScope s__law_mixed) [] [] (He.ga K "_law_mixed") fd := T.d.def_ 22 rfl
theorem F__law_draw : ∃ fd, FunD K "_law_draw" "_law_draw" (defArgs s__law_draw) (defBody s__law_draw) (defScope s__law_draw) [] [] (He.ga K "_law_draw") fd := T.d.def_ 23 rfl
theorem F__law_line : ∃ fd, FunD K "_law_line" "_law_line" (defArgs s__law_line) (defBody s__law_line) (defScope s__law_line) [] [] (He.ga K "_law_line") fd := T.d.def_ 24 rfl
theorem F__law_listed : ∃ fd, FunD K "_law_listed" "_law_listed" (defArgs s__law_listed) (defBody s__law_listed) (defScope s__law_listed) [] [] (He.ga K "_law_listed") fd := T.d.def_ 25 rfl
theorem F__law_simple : ∃ fd, FunD K "_law_simple" "_law_simple" (defArgs s__law_simple) (defBody s__law_simple) (defScope s__law_simple) [] [] (He.ga K "_law_simple") fd := T.d.def_ 26 rfl
theorem F__law_spec : ∃ fd, FunD K "_law_spec" "_law_spec" (defArgs s__law_spec) (defBody s__law_spec) (defScope s__law_spec) [] [] (He.ga K "_law_spec") fd := T.d.def_ 27 rfl
theorem F__law_built : ∃ fd, FunD K "_law_built" "_law_built" (defArgs s__law_built) (defBody s__law_built) (defScope s__law_built) [] [] (He.ga K "_law_built") fd := T.d.def_ 28 rfl
theorem F__law_price : ∃ fd, FunD K "_law_price" "_law_price" (defArgs s__law_price) (defBody s__law_price) (defScope s__law_price) [] [] (He.ga K "_law_price") fd := T.d.def_ 29 rfl
theorem F__law_levels : ∃ fd, FunD K "_law_levels" "_law_levels" (defArgs s__law_levels) (defBody s__law_levels) (defScope s__law_levels) [] [] (He.ga K "_law_levels") fd := T.d.def_ 30 rfl
theorem F__law_level : ∃ fd, FunD K "_law_level" "_law_level" (defArgs s__law_level) (defBody s__law_level) (defScope s__law_level) [] [] (He.ga K "_law_level") fd := T.d.def_ 31 rfl
theorem F__law_letter : ∃ fd, FunD K "_law_letter" "_law_letter" (defArgs s__law_letter) (defBody s__law_letter) (defScope s__law_letter) [] [] (He.ga K "_law_letter") fd := T.d.def_ 32 rfl
theorem F__law_beyond : ∃ fd, FunD K "_law_beyond" "_law_beyond" (defArgs s__law_beyond) (defBody s__law_beyond) (defScope s__law_beyond) [] [] (He.ga K "_law_beyond") fd := T.d.def_ 33 rfl
theorem F__law_spot : ∃ fd, FunD K "_law_spot" "_law_spot" (defArgs s__law_spot) (defBody s__law_spot) (defScope s__law_spot) [] [] (He.ga K "_law_spot") fd := T.d.def_ 34 rfl
theorem F__law_low : ∃ fd, FunD K "_law_low" "_law_low" (defArgs s__law_low) (defBody s__law_low) (defScope s__law_low) [] [] (He.ga K "_law_low") fd := T.d.def_ 35 rfl
theorem F__law_words : ∃ fd, FunD K "_law_words" "_law_words" (defArgs s__law_words) (defBody s__law_words) (defScope s__law_words) [] [] (He.ga K "_law_words") fd := T.d.def_ 36 rfl
theorem F__law_counts : ∃ fd, FunD K "_law_counts" "_law_counts" (defArgs s__law_counts) (defBody s__law_counts) (defScope s__law_counts) [] [] (He.ga K "_law_counts") fd := T.d.def_ 37 rfl
theorem F__law_words_right : ∃ fd, FunD K "_law_words_right" "_law_words_right" (defArgs s__law_words_right) (defBody s__law_words_right) (defScope s__law_words_right) [] [] (He.ga K "_law_words_right") fd := T.d.def_ 38 rfl
theorem F__law_first_letters_right : ∃ fd, FunD K "_law_first_letters_right" "_law_first_letters_right" (defArgs s__law_first_letters_right) (defBody s__law_first_letters_right) (defScope s__law_first_letters_right) [] [] (He.ga K "_law_first_letters_right") fd := T.d.def_ 39 rfl
theorem F__law_letters_right : ∃ fd, FunD K "_law_letters_right" "_law_letters_right" (defArgs s__law_letters_right) (defBody s__law_letters_right) (defScope s__law_letters_right) [] [] (He.ga K "_law_letters_right") fd := T.d.def_ 40 rfl
theorem F__law_counted_right : ∃ fd, FunD K "_law_counted_right" "_law_counted_right" (defArgs s__law_counted_right) (defBody s__law_counted_right) (defScope s__law_counted_right) [] [] (He.ga K "_law_counted_right") fd := T.d.def_ 41 rfl
theorem F__law_counts_right : ∃ fd, FunD K "_law_counts_right" "_law_counts_right" (defArgs s__law_counts_right) (defBody s__law_counts_right) (defScope s__law_counts_right) [] [] (He.ga K "_law_counts_right") fd := T.d.def_ 42 rfl
theorem F__law_sum_right : ∃ fd, FunD K "_law_sum_right" "_law_sum_right" (defArgs s__law_sum_right) (defBody s__law_sum_right) (defScope s__law_sum_right) [] [] (He.ga K "_law_sum_right") fd := T.d.def_ 43 rfl
theorem F__law_letter_refused : ∃ fd, FunD K "_law_letter_refused" "_law_letter_refused" (defArgs s__law_letter_refused) (defBody s__law_letter_refused) (defScope s__law_letter_refused) [] [] (He.ga K "_law_letter_refused") fd := T.d.def_ 44 rfl
theorem F__law_letters_refused : ∃ fd, FunD K "_law_letters_refused" "_law_letters_refused" (defArgs s__law_letters_refused) (defBody s__law_letters_refused) (defScope s__law_letters_refused) [] [] (He.ga K "_law_letters_refused") fd := T.d.def_ 45 rfl
theorem F__law_count_refused : ∃ fd, FunD K "_law_count_refused" "_law_count_refused" (defArgs s__law_count_refused) (defBody s__law_count_refused) (defScope s__law_count_refused) [] [] (He.ga K "_law_count_refused") fd := T.d.def_ 46 rfl
theorem F__law_refusals_right : ∃ fd, FunD K "_law_refusals_right" "_law_refusals_right" (defArgs s__law_refusals_right) (defBody s__law_refusals_right) (defScope s__law_refusals_right) [] [] (He.ga K "_law_refusals_right") fd := T.d.def_ 47 rfl
theorem F_law : ∃ fd, FunD K "law" "law" (defArgs s_law) (defBody s_law) (defScope s_law) [] [] (He.ga K "law") fd := T.d.def_ 48 rfl
end
end K12
set_option Elab.async false
set_option linter.all false
set_option maxRecDepth 100000
set_option maxHeartbeats 0
namespace K12
open PySem PySem.Spec PyProof.Rows L2
theorem run (w : World) : HandSHeadRun.RunEq R (PySem.W.view R.prog [55]) hk ob 20000 names w := by
  intro os
  kernel_rfl
end K12
set_option Elab.async false
set_option linter.all false
set_option maxRecDepth 100000
set_option maxHeartbeats 4000000
/-! A generator that sleeps and is never woken keeps its state. The trick: in a hidden copy of the state the code that a sleeping generator would go on with is one that can't run; whatever runs in the copy has woken none, so it runs in the state itself. -/
namespace K12G
open PySem PySem.Spec PyProof.Rows L2
open Sem (wp)
def deadK : Resume → Sem PySem.Fin := fun _ => .unsupported "asleep"
def dead : GenState → GenState
  | .suspended _ l c p fs cl => .suspended deadK l c p fs cl
  | x => x
theorem dead_seen (x : GenState) : (dead x).seen = x.seen := by cases x <;> rfl
theorem dead_bare (x : GenState) : (dead x).bare = x.bare := by cases x <;> rfl
def IsDead (y : GenState) : Prop := ∃ l c p fs cl, y = GenState.suspended deadK l c p fs cl
/-- no frame of a generator -/
def NG (fs : List Frame) : Prop := ∀ f ∈ fs, ∃ k h g l c p kp, f = .ret k h g l c p kp
theorem NG.nil : NG [] := fun _ h => by cases h
theorem NG.cons {f : Frame} {fs : List Frame} (h : NG (f :: fs)) : (∃ k h g l c p kp, f = .ret k h g l c p kp) ∧ NG fs := ⟨h f List.mem_cons_self, fun g hg => h g (List.mem_cons_of_mem _ hg)⟩
theorem NG.append {a b : List Frame} (h1 : NG a) (h2 : NG b) : NG (a ++ b) := fun f hf => (List.mem_append.mp hf).elim (h1 f) (h2 f)
theorem NG.split : ∀ {fs : List Frame}, NG fs → splitAtGen fs = none
  | [], _ => rfl
  | f :: fs, h => by
    obtain ⟨⟨k, hh, g, l, c, p, kp, rfl⟩, h2⟩ := h.cons
    show (splitAtGen fs).map _ = none
    rw [NG.split h2] <;> rfl
def ENG : End → Prop
  | .ret _ => True
  | .susp _ _ _ _ _ _ fs => NG fs
/-- each sleeping generator of the copy can't run, or sleeps without a generator's frame -/
def DD (s : Shared) : Prop := ∀ (i : Nat) k l c p fs cl, s.gens[i]? = some (GenState.suspended k l c p fs cl) → k = deadK ∨ NG fs
/-- s is a copy of t -/
structure Cp (s t : Shared) : Prop where
  heap : s.heap = t.heap
  drawn : s.drawn = t.drawn
  toks : s.toks = t.toks
  os : s.os = t.os
  size : s.gens.size = t.gens.size
  at_ : ∀ (i : Nat) (y : GenState), s.gens[i]? = some y → t.gens[i]? = some y ∨ ∃ x, t.gens[i]? = some x ∧ y = dead x ∧ IsDead y
/-- what sleeps in the copy and can't run is as it was -/
def Kp (s t s' t' : Shared) : Prop := ∀ (i : Nat) (y : GenState), s.gens[i]? = some y → IsDead y → s'.gens[i]? = some y ∧ t'.gens[i]? = t.gens[i]?
theorem Kp.refl (s t : Shared) : Kp s t s t := fun _ _ h _ => ⟨h, rfl⟩
theorem Kp.trans {s t s1 t1 s2 t2 : Shared} (a : Kp s t s1 t1) (b : Kp s1 t1 s2 t2) : Kp s t s2 t2 := fun i y h d => by
  obtain ⟨h1, h2⟩ := a i y h d
  obtain ⟨h3, h4⟩ := b i y h1 d
  exact ⟨h3, h4.trans h2⟩
theorem set_get (s : Shared) (g i : Nat) (x : GenState) (h : g ≠ i) : (s.setGen g x).gens[i]? = s.gens[i]? := by
  show (s.gens.setIfInBounds g x)[i]? = _
  rw [Array.getElem?_setIfInBounds_ne h]
theorem set_self (s : Shared) (g : Nat) (x : GenState) (h : g < s.gens.size) : (s.setGen g x).gens[g]? = some x := by
  show (s.gens.setIfInBounds g x)[g]? = _
  simp [h]
theorem lt_of {s : Shared} {g : Nat} {x : GenState} (h : s.gens[g]? = some x) : g < s.gens.size := (Array.getElem?_eq_some_iff.mp h).1
theorem Cp.set {s t : Shared} (c : Cp s t) (g : Nat) (x : GenState) : Cp (s.setGen g x) (t.setGen g x) := by
  refine ⟨c.heap, c.drawn, c.toks, c.os, ?_, fun i y h => ?_⟩
  · show (s.gens.setIfInBounds g x).size = (t.gens.setIfInBounds g x).size
    simp [c.size]
  · by_cases e : g = i
    · subst e
      have hl : g < (s.setGen g x).gens.size := lt_of h
      have hl' : g < s.gens.size := by
        have z : (s.setGen g x).gens.size = s.gens.size := by simp [Shared.setGen]
        omega
      rw [set_self s g x hl'] at h
      rw [set_self t g x (by rw [← c.size]; exact hl')]
      exact .inl h
    · rw [set_get _ _ _ _ e] at h
      rw [set_get _ _ _ _ e]
      exact c.at_ i y h
theorem DD.set {s : Shared} (d : DD s) (g : Nat) (x : GenState) (h : ∀ k l c p fs cl, x = GenState.suspended k l c p fs cl → NG fs) : DD (s.setGen g x) := fun i k l c p fs cl e => by
  by_cases q : g = i
  · subst q
    have hl : g < (s.setGen g x).gens.size := lt_of e
    have hl' : g < s.gens.size := by
      have z : (s.setGen g x).gens.size = s.gens.size := by simp [Shared.setGen]
      omega
    rw [set_self s g x hl'] at e
    exact .inr (h k l c p fs cl (Option.some.inj e))
  · rw [set_get _ _ _ _ q] at e
    exact d i k l c p fs cl e
theorem Kp.set {s t : Shared} {g : Nat} {x y : GenState} (h : s.gens[g]? = some y) (hy : ¬ IsDead y) : Kp s t (s.setGen g x) (t.setGen g x) := fun i z hz dz => by
  have ne : g ≠ i := fun e => by
    subst e
    rw [h] at hz
    cases hz
    exact hy dz
  rw [set_get _ _ _ _ ne, set_get _ _ _ _ ne]
  exact ⟨hz, rfl⟩
/-- the same step on both -/
theorem Cp.with {s t : Shared} (c : Cp s t) {h h' : Heap} {d d' : Drawn} {k k' : Nat} {o o' : OsState} (e1 : h = h') (e2 : d = d') (e3 : k = k') (e4 : o = o') : Cp { s with heap := h, drawn := d, toks := k, os := o } { t with heap := h', drawn := d', toks := k', os := o' } := by
  subst e1 e2 e3 e4
  exact ⟨rfl, rfl, rfl, rfl, c.size, c.at_⟩
theorem Cp.push {s t : Shared} (c : Cp s t) (x : GenState) : Cp { s with gens := s.gens.push x } { t with gens := t.gens.push x } := by
  refine ⟨c.heap, c.drawn, c.toks, c.os, ?_, fun i y h => ?_⟩
  · show (s.gens.push x).size = (t.gens.push x).size
    simp [c.size]
  · have h' : (s.gens.push x)[i]? = some y := h
    show (t.gens.push x)[i]? = some y ∨ ∃ z, (t.gens.push x)[i]? = some z ∧ _
    rw [Array.getElem?_push] at h' ⊢
    rw [← c.size]
    split at h'
    · rename_i e
      rw [if_pos e]
      exact .inl h'
    · rename_i e
      rw [if_neg e]
      exact c.at_ i y h'
theorem DD.push {s : Shared} (d : DD s) (c : Code) : DD { s with gens := s.gens.push (.fresh c) } := fun i k l c' p fs cl e => by
  have e' : (s.gens.push (.fresh c))[i]? = some (.suspended k l c' p fs cl) := e
  rw [Array.getElem?_push] at e'
  split at e'
  · cases e'
  · exact d i k l c' p fs cl e'
theorem Kp.push {s t : Shared} (c : Cp s t) (x : GenState) : Kp s t { s with gens := s.gens.push x } { t with gens := t.gens.push x } := fun i y h _ => by
  have hl := lt_of h
  show (s.gens.push x)[i]? = some y ∧ (t.gens.push x)[i]? = t.gens[i]?
  rw [Array.getElem?_push, Array.getElem?_push, if_neg (by omega), if_neg (by rw [← c.size]; omega)]
  exact ⟨h, rfl⟩
theorem no_run_aux {M : Model} {Γ : PySem.Ctx} {p : Pos} {t : Sem PySem.Fin} {fs : List Frame} {s s' : Shared} {e : End} (h : Runs M Γ p t fs s e s') : ∀ w : String, t ≠ .unsupported w := by
  induction h with
  | segRet _ _ ih _ => exact ih
  | segGen _ _ ih _ => exact ih
  | segSuspOut _ _ ih => exact ih
  | segSuspGen _ _ _ _ ih _ => exact ih
  | _ => intro w hw; cases hw
theorem no_run {M : Model} {Γ : PySem.Ctx} {p : Pos} {w : String} {s s' : Shared} {e : End} {fs : List Frame} : ¬ Runs M Γ p (.unsupported w) fs s e s' := fun h => no_run_aux h w rfl
theorem gens_with {s : Shared} {h : Heap} : ({ s with heap := h } : Shared).gens = s.gens := rfl
/-- THE FACT -/
theorem lifts {M : Model} {Γ : PySem.Ctx} {p : Pos} {t : Sem PySem.Fin} {fs : List Frame} {s s' : Shared} {e : End} (h : Runs M Γ p t fs s e s') :
    NG fs → DD s → ∀ u, Cp s u → ∃ u', Runs M Γ p t fs u e u' ∧ Cp s' u' ∧ DD s' ∧ ENG e ∧ Kp s u s' u' := by
  induction h with
  | done => intro _ d u c; exact ⟨u, .done, c, d, trivial, .refl _ _⟩
  | raise => intro _ d u c; exact ⟨u, .raise, c, d, trivial, .refl _ _⟩
  | again q _ ih => intro _ d u c; obtain ⟨u', r, z⟩ := ih .nil d u c; exact ⟨u', .again q r, z⟩
  | rule _ ih => intro _ d u c; obtain ⟨u', r, z⟩ := ih .nil d u c; exact ⟨u', .rule r, z⟩
  | «at» _ ih => intro _ d u c; obtain ⟨u', r, z⟩ := ih .nil d u c; exact ⟨u', .at r, z⟩
  | load ho _ ih => intro _ d u c; obtain ⟨u', r, z⟩ := ih .nil d u c; exact ⟨u', .load (by rw [← c.heap]; exact ho) r, z⟩
  | @update Γ p k s e s' a part f ho _ ih =>
    intro _ d u c
    obtain ⟨u', r, z⟩ := ih .nil d { u with heap := u.heap.update a f } (c.with (by rw [c.heap]) c.drawn c.toks c.os)
    exact ⟨u', .update (by rw [← c.heap]; exact ho) r, z⟩
  | loadIfAlive _ ih => intro _ d u c; obtain ⟨u', r, z⟩ := ih .nil d u c; exact ⟨u', .loadIfAlive (by rw [← c.heap]; exact r), z⟩
  | point _ ih => intro _ d u c; obtain ⟨u', r, z⟩ := ih .nil d u c; exact ⟨u', .point r, z⟩
  | @alloc Γ p k s e s' o _ ih =>
    intro _ d u c
    obtain ⟨u', r, z⟩ := ih .nil d { u with heap := u.heap.push o } (c.with (by rw [c.heap]) c.drawn c.toks c.os)
    exact ⟨u', .alloc (by rw [← c.heap]; rw [← c.heap] at r; exact r), z⟩
  | @fresh Γ p k s e s' _ ih =>
    intro _ d u c
    obtain ⟨u', r, z⟩ := ih .nil d { u with toks := u.toks + 1 } (c.with c.heap c.drawn (by rw [c.toks]) c.os)
    exact ⟨u', .fresh (by rw [← c.toks]; rw [← c.toks] at r; exact r), z⟩
  | ask _ ih => intro _ d u c; obtain ⟨u', r, z⟩ := ih .nil d u c; exact ⟨u', .ask r, z⟩
  | @choose n Γ p k s e s' src hn _ ih =>
    intro _ d u c
    obtain ⟨u', r, z⟩ := ih .nil d { u with drawn := u.drawn.bump src } (c.with c.heap (by rw [c.drawn]) c.toks c.os)
    exact ⟨u', .choose hn (by rw [← c.drawn]; rw [← c.drawn] at r; exact r), z⟩
  | @os Γ p k s e s' q l _ ih =>
    intro _ d u c
    obtain ⟨u', r, z⟩ := ih .nil d { u with os := (Os.step u.os q).1 } (c.with c.heap c.drawn c.toks (by rw [c.os]))
    exact ⟨u', .os (by rw [← c.os]; rw [← c.os] at r; exact r), z⟩
  | handled _ ih => intro _ d u c; obtain ⟨u', r, z⟩ := ih .nil d u c; exact ⟨u', .handled r, z⟩
  | genState hg _ ih =>
    intro _ d u c
    obtain ⟨u', r, z⟩ := ih .nil d u c
    rcases c.at_ _ _ hg with h1 | ⟨x, h1, ex, _⟩
    · exact ⟨u', .genState h1 r, z⟩
    · refine ⟨u', .genState h1 ?_, z⟩
      rw [ex, dead_seen] at r
      exact r
  | stack _ ih => intro _ d u c; obtain ⟨u', r, z⟩ := ih .nil d u c; exact ⟨u', .stack r, z⟩
  | thread _ ih => intro _ d u c; obtain ⟨u', r, z⟩ := ih .nil d u c; exact ⟨u', .thread r, z⟩
  | @newGen Γ p k s e s' cc _ ih =>
    intro _ d u c
    obtain ⟨u', r, c', d', g', k'⟩ := ih .nil (d.push cc) { u with gens := u.gens.push (.fresh cc) } (c.push _)
    exact ⟨u', .newGen (by rw [← c.size]; exact r), c', d', g', (Kp.push c _).trans k'⟩
  | call _ _ ih1 ih2 =>
    intro _ d u c
    obtain ⟨u1, r1, c1, d1, _, k1⟩ := ih1 .nil d u c
    obtain ⟨u2, r2, c2, d2, g2, k2⟩ := ih2 .nil d1 u1 c1
    exact ⟨u2, .call r1 r2, c2, d2, g2, k1.trans k2⟩
  | callSusp _ ih =>
    intro _ d u c
    obtain ⟨u1, r1, c1, d1, g1, k1⟩ := ih .nil d u c
    exact ⟨u1, .callSusp r1, c1, d1, NG.append g1 (fun f hf => by rw [List.mem_singleton.mp hf]; exact ⟨_, _, _, _, _, _, _, rfl⟩), k1⟩
  | yield => intro _ d u c; exact ⟨u, .yield, c, d, .nil, .refl _ _⟩
  | @resumeFresh Γ p g l k s cc e₁ s₁ e s' hg _ hq _ ih1 ih2 =>
    intro _ d u c
    have nd : ¬ IsDead (.fresh cc) := fun ⟨_, _, _, _, _, z⟩ => by cases z
    have hu : u.gens[g]? = some (.fresh cc) := by
      rcases c.at_ _ _ hg with h1 | ⟨x, _, _, hd⟩
      · exact h1
      · exact absurd hd nd
    obtain ⟨u1, r1, c1, d1, g1, k1⟩ := ih1 .nil (d.set g .running fun _ _ _ _ _ _ z => by cases z) (u.setGen g .running) (c.set g _)
    obtain ⟨u2, r2, c2, d2, g2, k2⟩ := ih2 .nil (d1.set g e₁.genState fun k l c p fs cl z => by
      cases e₁ with
      | ret _ => cases z
      | susp v g₀ l₀ k₀ c₀ p₀ fs₀ => cases z; exact g1) (u1.setGen g e₁.genState) (c1.set g _)
    refine ⟨u2, .resumeFresh hu r1 hq r2, c2, d2, g2, fun i y hy dy => ?_⟩
    have ne : g ≠ i := fun z => by
      subst z
      rw [hg] at hy
      cases hy
      exact nd dy
    obtain ⟨a1, a2⟩ := k1 i y (by rw [set_get _ _ _ _ ne]; exact hy) dy
    obtain ⟨b1, b2⟩ := k2 i y (by rw [set_get _ _ _ _ ne]; exact a1) dy
    refine ⟨b1, b2.trans ?_⟩
    rw [set_get _ _ _ _ ne, a2, set_get _ _ _ _ ne]
  | @resumeSuspended Γ p g r l k s k₀ l₀ c₀ p₀ fs cl e₁ s₁ e s' hg hr hq _ ih1 ih2 =>
    intro _ d u c
    have nk : k₀ ≠ deadK := fun z => by
      subst z
      exact no_run hr
    have nd : ¬ IsDead (.suspended k₀ l₀ c₀ p₀ fs cl) := fun ⟨_, _, _, _, _, z⟩ => by
      cases z
      exact nk rfl
    have nf : NG fs := (d g _ _ _ _ _ _ hg).resolve_left nk
    have hu : u.gens[g]? = some (.suspended k₀ l₀ c₀ p₀ fs cl) := by
      rcases c.at_ _ _ hg with h1 | ⟨x, _, _, hd⟩
      · exact h1
      · exact absurd hd nd
    obtain ⟨u1, r1, c1, d1, g1, k1⟩ := ih1 nf (d.set g .running fun _ _ _ _ _ _ z => by cases z) (u.setGen g .running) (c.set g _)
    obtain ⟨u2, r2, c2, d2, g2, k2⟩ := ih2 .nil (d1.set g e₁.genState fun k l c p fs cl z => by
      cases e₁ with
      | ret _ => cases z
      | susp v g₀ l₀ k₀ c₀ p₀ fs₀ => cases z; exact g1) (u1.setGen g e₁.genState) (c1.set g _)
    refine ⟨u2, .resumeSuspended hu r1 hq r2, c2, d2, g2, fun i y hy dy => ?_⟩
    have ne : g ≠ i := fun z => by
      subst z
      rw [hg] at hy
      cases hy
      exact nd dy
    obtain ⟨a1, a2⟩ := k1 i y (by rw [set_get _ _ _ _ ne]; exact hy) dy
    obtain ⟨b1, b2⟩ := k2 i y (by rw [set_get _ _ _ _ ne]; exact a1) dy
    refine ⟨b1, b2.trans ?_⟩
    rw [set_get _ _ _ _ ne, a2, set_get _ _ _ _ ne]
  | resumeJustStarted hg hv _ ih =>
    intro _ d u c
    obtain ⟨u', r, z⟩ := ih .nil d u c
    rcases c.at_ _ _ hg with h1 | ⟨x, _, _, _, _, _, _, _, hd⟩
    · exact ⟨u', .resumeJustStarted h1 hv r, z⟩
    · cases hd
  | resumeThrowFresh hg _ ih =>
    intro _ d u c
    have hu := (c.at_ _ _ hg).resolve_right (fun ⟨x, _, _, _, _, _, _, _, z⟩ => by cases z)
    obtain ⟨u1, r1, c1, d1, g1, k1⟩ := ih .nil (d.set _ .finished fun _ _ _ _ _ _ z => by cases z) _ (c.set _ _)
    exact ⟨u1, .resumeThrowFresh hu r1, c1, d1, g1, (Kp.set hg (fun ⟨_, _, _, _, _, z⟩ => by cases z)).trans k1⟩
  | resumeRunning hg _ ih =>
    intro _ d u c
    obtain ⟨u', r, z⟩ := ih .nil d u c
    rcases c.at_ _ _ hg with h1 | ⟨x, _, _, _, _, _, _, _, hd⟩
    · exact ⟨u', .resumeRunning h1 r, z⟩
    · cases hd
  | resumeFinished hg _ ih =>
    intro _ d u c
    obtain ⟨u', r, z⟩ := ih .nil d u c
    rcases c.at_ _ _ hg with h1 | ⟨x, _, _, _, _, _, _, _, hd⟩
    · exact ⟨u', .resumeFinished h1 r, z⟩
    · cases hd
  | segRet _ _ ih1 ih2 =>
    intro n d u c
    obtain ⟨u1, r1, c1, d1, _, k1⟩ := ih1 .nil d u c
    obtain ⟨u2, r2, c2, d2, g2, k2⟩ := ih2 n.cons.2 d1 u1 c1
    exact ⟨u2, .segRet r1 r2, c2, d2, g2, k1.trans k2⟩
  | segGen _ _ _ _ =>
    intro n
    obtain ⟨_, _, _, _, _, _, _, z⟩ := n.cons.1
    cases z
  | segSuspOut hs _ ih =>
    intro n d u c
    obtain ⟨u1, r1, c1, d1, g1, k1⟩ := ih .nil d u c
    exact ⟨u1, .segSuspOut hs r1, c1, d1, NG.append g1 n, k1⟩
  | segSuspGen hs _ _ _ _ _ =>
    intro n
    rw [n.split] at hs
    cases hs

/-- a copy in which nothing that sleeps can run -/
def copy (t : Shared) : Shared := { t with gens := t.gens.map dead }
theorem copy_get (t : Shared) (i : Nat) : (copy t).gens[i]? = (t.gens[i]?).map dead := by
  show (t.gens.map dead)[i]? = _
  simp
theorem dead_cases (x : GenState) : dead x = x ∨ IsDead (dead x) := by
  cases x with
  | suspended k l c p fs cl => exact .inr ⟨l, c, p, fs, cl, rfl⟩
  | _ => exact .inl rfl
theorem copy_cp (t : Shared) : Cp (copy t) t := by
  refine ⟨rfl, rfl, rfl, rfl, ?_, fun i y h => ?_⟩
  · show (t.gens.map dead).size = _
    simp
  · rw [copy_get] at h
    cases e : t.gens[i]? with
    | none => rw [e] at h; cases h
    | some x =>
      rw [e] at h
      have h' : dead x = y := Option.some.inj h
      subst h'
      rcases dead_cases x with q | q
      · rw [q]; exact .inl rfl
      · exact .inr ⟨x, rfl, rfl, q⟩
theorem copy_dd (t : Shared) : DD (copy t) := fun i k l c p fs cl h => by
  rw [copy_get] at h
  cases e : t.gens[i]? with
  | none => rw [e] at h; cases h
  | some x =>
    rw [e] at h
    have h' : dead x = _ := Option.some.inj h
    cases x with
    | suspended k' l' c' p' fs' cl' =>
      cases h'
      exact .inl rfl
    | fresh _ => cases h'
    | running => cases h'
    | finished => cases h'
theorem copy_bare {t : Shared} (h : AllBare t.gens) : AllBare (copy t).gens := fun y hy => by
  obtain ⟨x, hx, e⟩ := Array.mem_map.mp (show y ∈ t.gens.map dead from hy)
  rw [← e, dead_bare]
  exact h x hx
theorem Cp.bare {s t : Shared} (c : Cp s t) (h : AllBare s.gens) : AllBare t.gens := fun x hx => by
  obtain ⟨i, hi, e⟩ := Array.mem_iff_getElem.mp hx
  have hs : i < s.gens.size := by rw [c.size]; exact hi
  have es : s.gens[i]? = some s.gens[i] := Array.getElem?_eq_getElem hs
  have et : t.gens[i]? = some x := by rw [Array.getElem?_eq_getElem hi, e]
  have hm : s.gens[i] ∈ s.gens := Array.getElem_mem hs
  rcases c.at_ i _ es with q | ⟨z, q, ez, _⟩
  · rw [et] at q
    rw [Option.some.inj q]
    exact h _ hm
  · rw [et] at q
    have w := h _ hm
    rw [ez, dead_bare] at w
    rw [Option.some.inj q]
    exact w
open Classical in
theorem lifts_wakes {M : Model} {Γ : PySem.Ctx} {p : Pos} {g : Nat} {r : Resume} {l : List Value} {s s1 u : Shared} {res : GenResult} (h : Wakes M Γ p g r s res s1) (d : DD s) (c : Cp s u) :
    ∃ u1, Wakes M Γ p g r u res u1 ∧ Cp s1 u1 ∧ DD s1 ∧ Kp s u s1 u1 := by
  have hx : Runs M Γ p (.resume g r l fun x => if x = res then .pure (.done .next) else .unsupported "no") [] s (.ret (.ok .next)) s1 :=
    (Sem.runs_resume_iff M _).mpr ⟨res, s1, h, by rw [if_pos rfl]; exact .done⟩
  obtain ⟨u1, r1, c1, d1, _, k1⟩ := lifts hx .nil d u c
  obtain ⟨res', u2, w, r2⟩ := (Sem.runs_resume_iff M _).mp r1
  by_cases e : res' = res
  · subst e
    rw [if_pos rfl] at r2
    cases r2
    exact ⟨_, w, c1, d1, k1⟩
  · rw [if_neg e] at r2
    exact absurd r2 no_run
/-- the same of a tree -/
theorem lifts_wp {α : Type} (M : Model) (Γ : PySem.Ctx) (t : Sem α) : ∀ (Q : α → Pos → Shared → Prop) (E : Value → Pos → Shared → Prop) (p : Pos) (s u : Shared), Cp s u → DD s → wp M Γ t Q E p s →
    wp M Γ t (fun a p' u' => ∃ s', Cp s' u' ∧ DD s' ∧ Kp s u s' u' ∧ Q a p' s') (fun e p' u' => ∃ s', Cp s' u' ∧ DD s' ∧ Kp s u s' u' ∧ E e p' s') p u := by
  induction t with
  | pure a => intro Q E p s u c d h; exact ⟨s, c, d, .refl _ _, h⟩
  | raise e => intro Q E p s u c d h; exact ⟨s, c, d, .refl _ _, h⟩
  | unsupported _ => intro Q E p s u _ _ h; exact h
  | finish _ => intro Q E p s u _ _ h; exact h
  | rule _ k ih => intro Q E p s u c d h; exact ih () Q E p s u c d h
  | «at» p' k ih => intro Q E p s u c d h; exact ih () Q E p' s u c d h
  | load a _ k ih => intro Q E p s u c d h; obtain ⟨o, ho, h⟩ := h; exact ⟨o, by rw [← c.heap]; exact ho, ih o Q E p s u c d h⟩
  | update a _ f k ih =>
    intro Q E p s u c d h
    exact ⟨by rw [← c.heap]; exact h.1, ih () Q E p { s with heap := s.heap.update a f } { u with heap := u.heap.update a f } (c.with (by rw [c.heap]) c.drawn c.toks c.os) d h.2⟩
  | loadIfAlive a k ih =>
    intro Q E p s u c d h
    have z := ih _ Q E p s u c d h
    rw [c.heap] at z
    exact z
  | point _ k ih => intro Q E p s u c d h; exact ih () Q E p s u c d h
  | register _ _ => intro Q E p s u _ _ h; exact h
  | alloc o k ih =>
    intro Q E p s u c d h
    have z := ih _ Q E p { s with heap := s.heap.push o } { u with heap := u.heap.push o } (c.with (by rw [c.heap]) c.drawn c.toks c.os) d h
    rw [c.heap] at z
    exact z
  | fresh k ih =>
    intro Q E p s u c d h
    have z := ih _ Q E p { s with toks := s.toks + 1 } { u with toks := u.toks + 1 } (c.with c.heap c.drawn (by rw [c.toks]) c.os) d h
    rw [c.toks] at z
    exact z
  | ask k ih => intro Q E p s u c d h; exact ih _ Q E p s u c d h
  | choose src m k ih =>
    intro Q E p s u c d h
    have z := ih _ Q E p { s with drawn := s.drawn.bump src } { u with drawn := u.drawn.bump src } (c.with c.heap (by rw [c.drawn]) c.toks c.os) d h.2
    rw [c.drawn] at z
    exact ⟨h.1, z⟩
  | os q _ k ih =>
    intro Q E p s u c d h
    have z := ih _ Q E p { s with os := (Os.step s.os q).1 } { u with os := (Os.step u.os q).1 } (c.with c.heap c.drawn c.toks (by rw [c.os])) d h
    rw [c.os] at z
    exact z
  | call c0 hd _ _ k ih =>
    intro Q E p s u c d h
    obtain ⟨r, s1, hr, h⟩ := h
    obtain ⟨u1, r1, c1, d1, _, k1⟩ := lifts hr .nil d u c
    refine ⟨r, u1, r1, Sem.wp_mono M Γ _ (fun a p' u' z => ?_) (fun e p' u' z => ?_) p u1 (ih r Q E p s1 u1 c1 d1 h)⟩
    · obtain ⟨s', a1, a2, a3, a4⟩ := z
      exact ⟨s', a1, a2, k1.trans a3, a4⟩
    · obtain ⟨s', a1, a2, a3, a4⟩ := z
      exact ⟨s', a1, a2, k1.trans a3, a4⟩
  | handled own k ih => intro Q E p s u c d h; exact ih _ Q E p s u c d h
  | genState g k ih =>
    intro Q E p s u c d h
    obtain ⟨st, hs, h⟩ := h
    rcases c.at_ _ _ hs with h1 | ⟨x, h1, ex, _⟩
    · exact ⟨st, h1, ih _ Q E p s u c d h⟩
    · refine ⟨x, h1, ?_⟩
      rw [ex, dead_seen] at h
      exact ih _ Q E p s u c d h
  | newGen c0 k ih =>
    intro Q E p s u c d h
    have z := ih _ Q E p { s with gens := s.gens.push (.fresh c0) } { u with gens := u.gens.push (.fresh c0) } (c.push _) (d.push c0) h
    rw [c.size] at z
    refine Sem.wp_mono M Γ _ (fun a p' u' z => ?_) (fun e p' u' z => ?_) p _ z
    · obtain ⟨s', a1, a2, a3, a4⟩ := z
      exact ⟨s', a1, a2, (Kp.push c _).trans a3, a4⟩
    · obtain ⟨s', a1, a2, a3, a4⟩ := z
      exact ⟨s', a1, a2, (Kp.push c _).trans a3, a4⟩
  | resume g r l k ih =>
    intro Q E p s u c d h
    obtain ⟨res, s1, hw, h⟩ := h
    obtain ⟨u1, r1, c1, d1, k1⟩ := lifts_wakes (l := l) hw d c
    refine ⟨res, u1, r1, Sem.wp_mono M Γ _ (fun a p' u' z => ?_) (fun e p' u' z => ?_) p u1 (ih res Q E p s1 u1 c1 d1 h)⟩
    · obtain ⟨s', a1, a2, a3, a4⟩ := z
      exact ⟨s', a1, a2, k1.trans a3, a4⟩
    · obtain ⟨s', a1, a2, a3, a4⟩ := z
      exact ⟨s', a1, a2, k1.trans a3, a4⟩
  | yield _ _ _ _ => intro Q E p s u _ _ h; exact h
  | stack k ih => intro Q E p s u c d h; exact ih _ Q E p s u c d h
  | fork _ _ => intro Q E p s u _ _ h; exact h
  | thread k ih => intro Q E p s u c d h; exact ih _ Q E p s u c d h
  | await _ _ _ _ _ => intro Q E p s u _ _ h; exact h
end K12G
set_option Elab.async false
set_option linter.all false
set_option maxRecDepth 100000
set_option maxHeartbeats 4000000
/-! One stretch of a generator's run, from where it is woken to where it sleeps again or ends. What it sleeps as is told in full. -/
namespace K12G
open PySem PySem.Spec PyProof.Rows L2
open Sem (wp)
def Sg (M : Model) (A : Around) (c : Code) (t : Sem PySem.Fin) (fs : List Frame) (s : Shared) (Φ : End → Shared → Prop) : Prop :=
  ∀ (Γ : PySem.Ctx) (p : Pos), Γ.code = c → Γ.Woken A → ∃ e s', Runs M Γ p t fs s e s' ∧ Φ e s'
section
variable {M : Model} {A : Around} {c : Code} {fs : List Frame} {s : Shared} {Φ : End → Shared → Prop} {env : Env}
theorem sg_wrap {α : Type} {m : Sem α} {K : α → Sem PySem.Fin} {H : Value → Sem PySem.Fin} {gd lv}
    (h : wpAny M (A.over c fs) m (fun a s' => Sg M A c (K a) fs s' Φ) (fun x s' => Sg M A c (H x) fs s' Φ) s) : Sg M A c (m.wrap K H gd lv) fs s Φ := by
  rintro Γ p rfl hΓ
  exact runs_wrap_of_wp K H gd lv m (h (Γ.over fs) p (hΓ.over fs)) (fun a p' s' h' => h' Γ p' rfl hΓ) (fun x p' s' h' => h' Γ p' rfl hΓ)
theorem sg_bind {α : Type} {m : Sem α} {K : α → Sem PySem.Fin} (h : wpAny M (A.over c fs) m (fun a s' => Sg M A c (K a) fs s' Φ) (fun x s' => Sg M A c (.raise x) fs s' Φ) s) : Sg M A c (m >>= K) fs s Φ := by
  rw [Sem.bind_eq_wrap']; exact sg_wrap h
theorem sg_bind_wrap {α β : Type} {m : Sem α} {K : α → Sem β} {K' : β → Sem PySem.Fin} {H' : Value → Sem PySem.Fin} {gd lv}
    (h : wpAny M (A.over c fs) m (fun a s' => Sg M A c ((K a).wrap K' H' gd lv) fs s' Φ) (fun x s' => Sg M A c (H' x) fs s' Φ) s) : Sg M A c ((m >>= K).wrap K' H' gd lv) fs s Φ := by
  rw [Sem.bind_eq_wrap', Sem.wrap_wrap]; exact sg_wrap h
theorem sg_at {p' : Pos} {k : Unit → Sem PySem.Fin} (h : Sg M A c (k ()) fs s Φ) : Sg M A c (.at p' k) fs s Φ :=
  sg_wrap (m := standAt p') (K := k) (H := .raise) (gd := id) (lv := id) (wpAny_standAt h)
theorem sg_point {l : List Value} {k : Unit → Sem PySem.Fin} (h : Sg M A c (k ()) fs s Φ) : Sg M A c (.point l k) fs s Φ :=
  sg_wrap (m := point) (K := k) (H := .raise) (gd := id) (lv := fun _ => l) (wpAny_point h)
theorem sg_call {c' : Code} {h g l} {k : Result → Sem PySem.Fin} (hc : ∀ p, Sg M A c' (M.den c') (.ret k h g l c p [] :: fs) s Φ) : Sg M A c (.call c' h g l k) fs s Φ := by
  rintro Γ p rfl hΓ
  obtain ⟨e, s', hr, he⟩ := hc p (Γ.goto c') p rfl (hΓ.goto c')
  exact ⟨e, s', runs_call_seg hr, he⟩
theorem sg_leaf {k h g l c₁ p₁ kp} (r : Result) (hk : Sg M A c₁ (k r) fs s Φ) : Sg M A c (leafOf r) (.ret k h g l c₁ p₁ kp :: fs) s Φ := by
  rintro Γ p rfl hΓ
  obtain ⟨e, s', hr, he⟩ := hk (Γ.goto c₁) p₁ rfl (hΓ.goto c₁)
  exact ⟨e, s', Runs.pop r hr, he⟩
theorem sg_again {c' : Code} (hq : c'.quiet = true) (hc : Sg M A c' (M.den c') fs s Φ) : Sg M A c (.pure (.again c')) fs s Φ := by
  rintro Γ p rfl hΓ
  obtain ⟨e, s', hr, he⟩ := hc (Γ.goto c') p rfl (hΓ.goto c')
  exact ⟨e, s', Runs.head (c₁ := c') (fun _ _ x => .again hq x) hr, he⟩
theorem sg_end (r : Result) (h : Φ (.ret r) s) : Sg M A c (leafOf r) [] s Φ := by
  rintro Γ p rfl _
  exact ⟨.ret r, s, Runs.leaf r, h⟩
theorem sg_yield {v g l} {k : Resume → Sem PySem.Fin} (hfs : splitAtGen fs = none) (h : ∀ p, Φ (.susp v g l k c p fs) s) : Sg M A c (.yield v g l k) fs s Φ := by
  rintro Γ p rfl _
  exact ⟨_, s, Runs.yield' fs hfs, h p⟩
theorem sg_mono {t : Sem PySem.Fin} {Φ' : End → Shared → Prop} (h : Sg M A c t fs s Φ) (hm : ∀ e s', Φ e s' → Φ' e s') : Sg M A c t fs s Φ' := fun Γ p hc hΓ => by
  obtain ⟨e, s', hr, he⟩ := h Γ p hc hΓ
  exact ⟨e, s', hr, hm e s' he⟩
variable {K : Flow → Sem PySem.Fin} {H : Value → Sem PySem.Fin} {gd : Bool → Bool} {lv : List Value → List Value}
theorem sg_execs_cons {st : Stmt} {rest : List Stmt} (h : Sg M A c ((exec st env).wrap (fun f => match f with | .next => (execs rest env).wrap K H gd lv | f => K f) H gd lv) fs s Φ) :
    Sg M A c ((execs (st :: rest) env).wrap K H gd lv) fs s Φ := by rw [execs_cons_wrap]; exact h
/-- yield e, as a statement: asleep, it goes on behind the statement -/
theorem sg_Expr_Yield {e : Expr} {ypos pos : Pos} (hfs : splitAtGen fs = none) (hgd : gd false = false)
    (h : wpAny M (A.over c fs) (eval e env) (fun v s' => ∀ p l k, (∀ s'' Φ', Sg M A c (K .next) fs s'' Φ' → Sg M A c (k (.send .none)) fs s'' Φ') → Φ (.susp v false l k c p fs) s')
      (fun x s' => Sg M A c (H x) fs s' Φ) s) (hco : env.scope.isCoroutine = false := by rfl) (hi : interactive env = false := by rfl) :
    Sg M A c ((exec (.Expr (.Yield (some e) ypos) pos) env).wrap K H gd lv) fs s Φ := by
  rw [exec_Expr env _ pos hi rfl]
  show Sg M A c (.at pos fun _ => ((eval e env >>= fun v => (standAt ypos >>= fun _ => yieldOut env v)) >>= fun x =>
    dropValue (.Yield (some e) ypos) pos x).wrap K H gd lv) fs s Φ
  have hy : ∀ v, yieldOut env v = yieldValue v := fun v => by simp only [yieldOut, hco, Bool.false_eq_true, if_false]
  simp only [hy]
  refine sg_at ?_
  rw [Sem.bind_eq_wrap', Sem.bind_eq_wrap', Sem.wrap_wrap, Sem.wrap_wrap]
  refine sg_wrap (wpAny_mono h (fun v s' h' => ?_) fun _ _ x => x)
  refine sg_at ?_
  refine sg_yield hfs fun p => ?_
  have e : gd (id (id false)) = false := hgd
  show Φ (.susp v (gd (id (id false))) _ _ c p fs) s'
  rw [e]
  refine h' p _ _ fun s'' Φ' hx => ?_
  exact hx
end

section
variable {prog : Program} {w : World} {A : Around} {c : Code} {fs : List Frame} {s : Shared} {Φ : End → Shared → Prop} {env : Env}
theorem sg_func {body : List Stmt}
    (h : Sg (model prog w) A (.func body env) ((execs body env).wrap (fun f => .pure (.done (.ret (match f with | .ret v => v | _ => .none))))
      (fun e => (leaving env e).wrap (fun _ => .raise e) .raise id id) id id) fs s Φ) :
    Sg (model prog w) A (.func body env) ((model prog w).den (.func body env)) fs s Φ := by
  show Sg _ A _ (.point [] fun _ => ((execs body env).onRaise (leaving env)) >>= _) fs s Φ
  refine sg_point ?_
  rw [Sem.onRaise_eq_wrap, Sem.bind_eq_wrap', Sem.wrap_wrap]
  rw [Sem.wrap_congr (execs body env) _ _ (K' := fun f => .pure (.done (.ret (match f with | .ret v => v | _ => .none))))
    (H' := fun e => (leaving env e).wrap (fun _ => .raise e) .raise id id) (fun f => by cases f <;> rfl)
    (fun e => by rw [Sem.bind_eq_wrap, Sem.wrap_wrap]; rfl)]
  exact h
/-- what a loop's statement does behind its code -/
def backK (env : Env) (K : Flow → Sem PySem.Fin) (J : Value → Sem PySem.Fin) (gd : Bool → Bool) (lv : List Value → List Value) : Result → Sem PySem.Fin := fun r =>
  ((match r with | .ok f => (.pure f : Sem Flow) | .error e => .raise e).onRaise (cameBack env)).wrap K J gd lv
theorem backK_ok {env : Env} {K : Flow → Sem PySem.Fin} {J : Value → Sem PySem.Fin} {gd : Bool → Bool} {lv : List Value → List Value} (f : Flow) : backK env K J gd lv (.ok f) = K f := rfl
theorem sg_For {target iter : Expr} {body : List Stmt} {pos : Pos} {K : Flow → Sem PySem.Fin} {J : Value → Sem PySem.Fin} {gd : Bool → Bool} {lv : List Value → List Value}
    (h : wpAny (model prog w) (A.over c fs) (eval iter env) (fun x s1 => wpAny (model prog w) (A.over c fs) (pyIter x) (fun it s2 => ∀ p l,
        Sg (model prog w) A (.forLoop target it body [] env) ((model prog w).den (.forLoop target it body [] env)) (.ret (backK env K J gd lv) none (gd false) l c p [] :: fs) s2 Φ) (fun x s' => Sg (model prog w) A c (J x) fs s' Φ) s1)
      (fun x s' => Sg (model prog w) A c (J x) fs s' Φ) s) (hs : ∀ x, foldedSetIterable iter env x = pure x := by intro _; rfl) :
    Sg (model prog w) A c ((exec (.For target iter body [] pos) env).wrap K J gd lv) fs s Φ := by
  rw [exec_For]
  refine sg_bind_wrap (wpAny_standAt ?_)
  refine sg_bind_wrap (wpAny_mono h (fun x s1 h1 => ?_) fun _ _ z => z)
  rw [hs]
  refine sg_bind_wrap (wpAny_pure ?_)
  refine sg_bind_wrap (wpAny_standAt ?_)
  refine sg_bind_wrap (wpAny_holding (wpAny_mono h1 (fun it s2 h2 => ?_) fun _ _ z => z))
  exact sg_call fun p => h2 p _
/-- one turn of a for loop's code; no error comes -/
theorem sg_forLoop {target : Expr} {it : Value} {body : List Stmt}
    (h : wpAny (model prog w) (A.over (.forLoop target it body [] env) fs) (pyNext it) (fun r s1 => match r with
      | none => Sg (model prog w) A (.block [] env) ((model prog w).den (.block [] env)) fs s1 Φ
      | some v => wpAny (model prog w) (A.over (.forLoop target it body [] env) fs) (letOwnedTupleGo target it v) (fun _ s2 => wpAny (model prog w) (A.over (.forLoop target it body [] env) fs) (assign target env v) (fun _ s3 =>
          Sg (model prog w) A (.forLoop target it body [] env) ((execs body env).wrap (fun f => match f with
            | .next | .cont => .pure (.again (.forLoop target it body [] env))
            | .brk => .pure (.done .next)
            | .ret v => .pure (.done (.ret v))) (fun e => (do noteFrame e env; theTreesLotGoes e : Sem Unit).wrap (fun _ => .raise e) .raise id id) id id) fs s3 Φ) (fun _ _ => False) s2) (fun _ _ => False) s1)
      (fun _ _ => False) s) : Sg (model prog w) A (.forLoop target it body [] env) ((model prog w).den (.forLoop target it body [] env)) fs s Φ := by
  show Sg _ A _ ((forTurn target it body [] env).onRaise (fun x => do noteFrame x env; theTreesLotGoes x)) fs s Φ
  rw [Sem.onRaise_eq_wrap]
  unfold forTurn
  refine sg_bind_wrap (wpAny_standAt ?_)
  refine sg_bind_wrap (wpAny_onRaise (wpAny_mono h (fun r s1 h1 => ?_) fun _ _ z => z.elim))
  cases r with
  | none => exact sg_again rfl h1
  | some v =>
    refine sg_bind_wrap (wpAny_mono h1 (fun _ s2 h2 => ?_) fun _ _ z => z.elim)
    refine sg_bind_wrap (wpAny_mono h2 (fun _ s3 h3 => ?_) fun _ _ z => z.elim)
    rw [Sem.bind_eq_wrap', Sem.wrap_wrap]
    rw [Sem.wrap_congr (execs body env) _ _ (K' := fun f => match f with
            | .next | .cont => .pure (.again (.forLoop target it body [] env))
            | .brk => .pure (.done .next)
            | .ret v => .pure (.done (.ret v))) (H' := (fun e => (do noteFrame e env; theTreesLotGoes e : Sem Unit).wrap (fun _ => .raise e) .raise id id))
        (fun f => by cases f <;> rfl)
        (fun e => by first | exact Sem.bind_eq_wrap _ _ | (show (do noteFrame e env; theTreesLotGoes e : Sem Unit).bind (fun _ => .raise e) = _; rw [Sem.bind_eq_wrap]))]
    exact h3
theorem sg_block_nil {fs : List Frame} {s : Shared} (h : Sg (model prog w) A (.block [] env) (leafOf (.ok .next)) fs s Φ) : Sg (model prog w) A (.block [] env) ((model prog w).den (.block [] env)) fs s Φ := by
  show Sg _ A _ (((execs [] env).onRaise (fun x => do noteFrame x env; theTreesLotGoes x)) >>= fun f => pure (.done f)) fs s Φ
  exact h

/-- a generator is woken by next -/
theorem resume1 {M : Model} {E : Value → Shared → Prop} {g : Nat} {gs : GenState} {l : List Value} {α : Type} {k : GenResult → Sem α} {Q : α → Shared → Prop} (hg : s.gens[g]? = some gs)
    (hgo : (∃ c, gs = .fresh c ∧ Sg M A c (M.den c) [] (s.setGen g .running) Φ) ∨ (∃ k₀ l₀ c p fs cl, gs = GenState.suspended k₀ l₀ c p fs cl ∧ Sg M A c (k₀ (.send .none)) fs (s.setGen g .running) Φ))
    (hΦ : ∀ e s', Φ e s' → e.quiet = true ∧ wpAny M A (k e.result) Q E (s'.setGen g e.genState)) : wpAny M A (.resume g (.send .none) l k) Q E s := by
  intro Γ p hΓ
  rw [Sem.wp_resume]
  rcases hgo with ⟨c, rfl, h⟩ | ⟨k₀, l₀, c, p₀, fs, cl, rfl, h⟩
  · obtain ⟨e, s', hr, he⟩ := h (Γ.wake c p) p rfl (hΓ.wake c p)
    obtain ⟨q, z⟩ := hΦ e s' he
    exact ⟨_, _, by unfold Wakes; rw [hg]; exact ⟨e, s', hr, q, rfl, rfl⟩, z Γ p hΓ⟩
  · obtain ⟨e, s', hr, he⟩ := h (Γ.wake c p) p₀ rfl (hΓ.wake c p)
    obtain ⟨q, z⟩ := hΦ e s' he
    exact ⟨_, _, by unfold Wakes; rw [hg]; exact ⟨e, s', hr, q, rfl, rfl⟩, z Γ p hΓ⟩
/-- what next does with what comes -/
def Came (P : Program) (w : World) (A : Around) (a : Addr) (g : Nat) (Q : Option Value → Shared → Prop) (E : Value → Shared → Prop) : End → Shared → Prop := fun e s' => match e with
  | .susp v gd _ k c p fs => (gd || fs.any Frame.guarded) = false ∧ ∀ l, Q (some v) (s'.setGen g (.suspended k l c p fs false))
  | .ret (.ok f) => (f = .ret .none ∨ f = .next) ∧ ∀ h', (∀ b o, s'.heap.get? b = some o → h'.get? b = some o) → Q none { s'.setGen g .finished with heap := h' }
  | .ret (.error x) => s'.heap.IsGen a g ∧ NotStop (model P w) x s'.heap ∧ E x (s'.setGen g .finished)
theorem next1 {E : Value → Shared → Prop} {a : Addr} {g : Nat} {gs : GenState} {Q : Option Value → Shared → Prop} (hh : A.handled = none) (hl : s.heap.NoLimit) (hroom : A.depth < recursionLimit) (hg : s.heap.IsGen a g) (hgs : s.gens[g]? = some gs)
    (hgo : (∃ c, gs = .fresh c ∧ Sg (model prog w) A.in1 c ((model prog w).den c) [] (s.setGen g .running) (Came prog w A a g Q E)) ∨
      (∃ k₀ l₀ c p fs cl, gs = GenState.suspended k₀ l₀ c p fs cl ∧ Sg (model prog w) A.in1 c (k₀ (.send .none)) fs (s.setGen g .running) (Came prog w A a g Q E))) :
    wpAny (model prog w) A (pyNext (.ref a)) Q E s := by
  unfold pyNext
  refine wpAny_bind (wpAny_attempt (wpAny_callSpecial?_slot (name := Str.ofString "__next__") hg.typeIs slot_gen_next
    (wpAny_call_entry slot_gen_next hg.typeIs entry_gen_next ?_ (args_gen_next _))))
  show wpAny _ A.in1 (Builtin.Generator.genWake (.ref a) (.send .none)) _ _ s
  unfold Builtin.Generator.genWake
  refine wpAny_bind (wpAny_holding (wpAny_genNumber hg (wpAny_bind (wpAny_genState hgs ?_))))
  have main : ∀ (T : Sem PySem.Fin), T = T → True := fun _ _ => trivial
  rcases hgo with ⟨c, rfl, h⟩ | ⟨k₀, l₀, c, p, fs, cl, rfl, h⟩
  all_goals
    refine wpAny_bind (wpAny_roomToWake hl hroom ?_)
    show wpAny _ A.in1 (.resume g (.send .none) [] _) _ _ s
    refine resume1 hgs (by first | exact .inl ⟨_, rfl, h⟩ | exact .inr ⟨_, _, _, _, _, _, rfl, h⟩) fun e s₁ he => ?_
    cases e with
    | susp v gd l k c' p' fs' =>
      obtain ⟨hq, hv⟩ := he
      refine ⟨by show (!(gd || fs'.any Frame.guarded)) = true; rw [hq]; rfl, ?_⟩
      refine wpAny_pure ⟨v, rfl, wpAny_pure ?_⟩
      have z := hv l
      rw [← hq] at z
      exact z
    | ret r =>
      refine ⟨rfl, ?_⟩
      cases r with
      | ok f =>
        obtain ⟨hr, hp⟩ := he
        have hres : End.result (.ret (.ok f)) = .returned .none := by
          rcases hr with hr | hr <;> rw [hr] <;> rfl
        first | rw [hres] | simp only [hres]
        show wpAny _ A.in1 (newExc (.type "StopIteration") [] >>= _) _ _ _
        refine wpAny_bind ?_
        simp only [newExc, newTuple]
        refine wpAny_bind (wpAny_newObj_type ?_ (by size_fits))
        refine wpAny_bind (m := firstArgMember _ _) (wpAny_of_eq (a := Value.none) (by first | rfl | (simp only [firstArgMember]; rfl)) ?_)
        refine wpAny_newObj_type ?_ (by size_fits)
        simp only [raiseNew]
        refine wpAny_bind (wpAny_bind (wpAny_handled ?_))
        first | rw [show A.in1.handled = none from hh] | rw [hh]
        refine wpAny_throw ?_
        refine wpAny_bind (wpAny_isInstance (T := "StopIteration") (b := true) ⟨_, Heap.get?_push_size _ rfl, rfl⟩ isSubtype_stop ?_)
        exact wpAny_pure (hp _ fun b o hb => Heap.get?_push_of_some _ (Heap.get?_push_of_some _ hb))
      | error e =>
        obtain ⟨hg1, hns, hq⟩ := he
        obtain ⟨o, nm, qn, ho, hc, hd, hsl⟩ := hg1
        show wpAny _ A.in1 (Builtin.Generator.genLeft (.ref a) e) _ _ _
        unfold Builtin.Generator.genLeft Builtin.Generator.madeByALambda
        refine wpAny_bind (wpAny_bind (wpAny_load (o := o) ho (wpAny_pure ?_)))
        refine wpAny_bind (hns _ _ _ _ rfl ?_)
        rw [Bool.and_false, if_neg Bool.false_ne_true]
        unfold Builtin.Generator.genEscaped
        first
          | refine wpAny_bind (hns _ _ _ _ rfl ?_)
          | refine wpAny_bind (wpAny_pure (wpAny_bind (hns _ _ _ _ rfl ?_)))
        rw [if_pos (show (!false) = true from rfl)]
        first
          | refine wpAny_throw ?_
          | refine wpAny_bind (wpAny_throw ?_)
        refine wpAny_bind (hns _ _ _ _ rfl ?_)
        rw [if_neg Bool.false_ne_true]
        exact wpAny_throw hq
end
end K12G
set_option Elab.async false
set_option linter.all false
set_option maxRecDepth 100000
set_option maxHeartbeats 4000000
/-! OutOfRange(v): made, raised. -/
namespace K12
open PySem PySem.Spec PyProof.Rows PySem.Calls PySem.HandSPX
open PySem.W (Frag findIn clsIn kxs_mw kxs_ValueError)
/-- the program's file and top, for super() -/
def TopOk (P : Program) : Prop := (P.main.file : Str) = PySem.Challenge.pw_latereach_k12_whole_phase_words.main.file ∧ (P.main.scope.names.lookup ("super" : Str)).isSome = false
/-- what __init__ leaves of a fresh exception at x -/
structure OorEnd (h h' : Heap) (x C dx t1 : Addr) (v : Value) : Prop where
  keep : ∀ b o, b ≠ x → h.get? b = some o → h'.get? b = some o
  obj : h'.get? x = some { cls := .ref C, dict := some dx, data := .fields #[.ref t1, .none, .none, .none, .bool false, .none] }
  dbig : h.objs.size ≤ dx
  dne : dx ≠ x
  ns : h'.Ns1 dx (fun y => if y = "found" then some v else none)
/-- a made one -/
structure OorMade (h h' : Heap) (e C d : Addr) (v : Value) : Prop where
  keep : ∀ b o, h.get? b = some o → h'.get? b = some o
  new : h.objs.size ≤ e
  obj : ∃ t1 : Addr, h'.get? e = some ({ cls := .ref C, dict := some d, data := .fields #[.ref t1, .none, .none, .none, .bool false, .none] } : Obj)
  dbig : h.objs.size ≤ d
  dne : d ≠ e
  ns : h'.Ns1 d (fun y => if y = "found" then some v else none)
theorem ns_at {h h' : Heap} {L x : Addr} {m : Str → Option Value} (hn : h.Ns L m) (hL : L ≠ x) (k : ∀ b o, b ≠ x → h.get? b = some o → h'.get? b = some o) : h'.Ns L m := by
  obtain ⟨o, es, ep, ho, r⟩ := hn
  exact ⟨o, es, ep, k _ _ hL ho, r⟩
section
variable {prog : Program} {w : World} {A : Around} {E : Value → Shared → Prop} {R : Result → Shared → Prop} {s : Shared} {K : Frag} {mg : Str → Option Value}
theorem call_mw {h : Heap} {g : Array GenState} {d : Drawn} {t : Nat} {os : OsState} {nm q : Str} {C N : Addr} {bs bm : List Value} {hdct : Bool} {sn : List Str} {sub : List Value} {ab : Bool} {col : Option Bool} {dd : Option Addr} {k0 k1 k2 k3 k5 : Option Value} {u e t0 : Addr} {rest : List Value} {Q : Value → Shared → Prop}
    (hC : h.get? C = some (excClassObj nm q C N bs bm hdct sn sub ab col dd k0 k1 k2 k3 k5 "ValueError.__new__")) (he : h.get? e = some (excO C t0)) (hu : h.get? u = some (kxs_mw "ValueError.__init__" e)) (hrest : rest.length ≤ sizeLine)
    (hq : ∀ h' t1, (∀ b o, b ≠ e → h.get? b = some o → h'.get? b = some o) → h'.get? e = some (excO C t1) → Q .none ⟨h', g, d, t, os⟩) :
    wpAny (model prog w) A (call (.ref u) rest) Q E ⟨h, g, d, t, os⟩ := by
  refine wpAny_call (codeAny_of_tree ?_)
  show wpAny _ A.in1 (callAny (.ref u) ⟨rest, []⟩) _ _ _
  simp only [callAny]
  refine wpAny_bind (wpAny_load hu ?_)
  simp only [kxs_mw, show (Value.type "method-wrapper" == Value.type "method" || Value.type "method-wrapper" == Value.type "builtin_function_or_method" || Value.type "method-wrapper" == Value.type "method-wrapper") = true by decide, if_true]
  refine W.KFB.if_so (by decide) ?_
  refine wpAny_bind (PySem.ESX.check_bound F.excBase_ValueError hC he rfl ?_)
  refine wpAny_bind (wpAny_pure (wpAny_pure ?_))
  refine ⟨Code.quiet_builtin _ (by decide +kernel), codeAny_builtin F.excBase_ValueError.initEntry ?_⟩
  rw [Around.under_plainId F.excBase_ValueError.init.plain _]
  wp_walk
  refine hq _ h.objs.size (fun b o hb ho => ?_) ?_
  · rw [Heap.get?_update_other _ _ (Ne.symm hb)]
    exact Heap.get?_push_of_some _ ho
  · rw [Heap.get?_update_self _ (Heap.get?_push_of_some _ he) rfl]
    rfl
theorem callWith_mw {M : Model} {s : Shared} {pos : Pos} {u x : Addr} {i : String} {first : List Value} {env : Env} {e : Expr} {rest : List Expr} {Q : Value → Shared → Prop}
    (h : wpAny M A (spliced (backTo pos (starEach (e :: rest) env))) (fun vs s₁ => s₁.heap.get? u = some (kxs_mw i x) ∧ wpAny M A (call (.ref u) (first ++ vs)) Q E s₁) E s)
    (he : starEach (e :: rest) env = (false, eval e env) :: starEach rest env := by rfl) (hplain : (backTo pos (starEach rest env)).any (·.1) = false := by rfl) :
    wpAny M A (callWith pos (.ref u) first (backTo pos (starEach (e :: rest) env)) []) Q E s := by
  rw [he] at h ⊢
  refine PySem.W.kxs_callWith (i := i) (x := x) (by show (false || (backTo pos (starEach rest env)).any (·.1)) = false; rw [hplain]; rfl) ?_
  exact evalArgs_plain h
theorem oor_init (T : Ev K mg) (hP : TopOk prog) {x t0 : Addr} {v : Value} (X : K.In s.heap) (G : s.heap.Ns mainGlobals mg) (B : ∃ mb, s.heap.Ns builtinsNs mb ∧ mb "super" = bootBuiltins "super") (hlim : s.heap.NoLimit)
    (hx : s.heap.get? x = some (excO (He.ga K "OutOfRange") t0)) (hnx : K.lookup x = none) (hxG : x ≠ mainGlobals) (hxB : x ≠ builtinsNs) (hroom : A.depth < recursionLimit)
    (hq : ∀ h' tk dx t1, OorEnd s.heap h' x (He.ga K "OutOfRange") dx t1 v → R (.ok (.ret .none)) { s with heap := h', toks := tk }) :
    codeAny (model prog w) A (.call (.ref (He.ma K (He.ga K "OutOfRange") "__init__")) ⟨[.ref x, v], []⟩) R s := by
  obtain ⟨oc, od, fd, osl, xn, cc, cda, o1, o2, o3, o4, o5, o6, vs, file, tf, ho, hcl, hcd, hcell, hcode, hrec, hvs, hfile⟩ := x_clo T
  obtain ⟨nm, q, N, bs, bm, sn, sub, ab, col, dd, k0, k1, k2, k3, k5, hC, hbm⟩ := (x_oex T).cls
  have T' := T
  have hob : clObs K = clVal := T.cl
  unfold clObs at hob
  rw [ho] at hob
  have xC := x_oex T
  have hsub := x_mroC T
  have hsi := x_superIn T
  have hthird := x_third T
  have hbas := x_subVE T
  have hno := x_nofound T
  have hmgs := n_super T
  clear T
  generalize He.ma K (He.ga K "OutOfRange") "__init__" = fI at *
  generalize He.ga K "OutOfRange" = C at *
  have hcl0 : PySem.W.clsIn K C = some { name := nm, bases := bs, mro := .ref C :: bm, ns := N, qualname := q, hasDict := true, slotNames := sn, subclasses := sub, abstract := ab, collection := col, hasDel := false } := by unfold PySem.W.clsIn; rw [hC] <;> rfl
  obtain ⟨fnm, fq, fpar, fbody, fscope, fglob, fclo, fdef, fkw, fdoc, fpm, fann, fcode, fct, fblt⟩ := fd
  dsimp only at hcl hcd hob
  subst hcl hcd
  have hob' := Option.some.inj hob
  simp only [Prod.mk.injEq, List.map_cons, List.map_nil, List.cons.injEq, and_true] at hob'
  obtain ⟨e1, e2, e3, e4, e5, e6, e7, e8, e9, e10⟩ := hob'
  subst e1 e2 e3 e4 e5 e6 e7 e8 e9 e10
  clear hob
  have hxL : s.heap.objs.size ≠ x := Nat.ne_of_gt (Heap.lt_size hx)
  refine ks_codeAny_call_defAt (binds := [("self", .ref x), ("found", v)]) hroom (X _ _ ho) rfl hlim (PySem.W.codeRec_of X hrec) rfl (BindsTo.of_eq (by first | rfl | with_unfolding_all rfl)) (by show ∀ x ∈ (L2.defScope s_OutOfRange_init).names, x.2 ≠ .cell; decide +kernel) (fun y hy => by rcases List.mem_cons.mp hy with rfl | hy; exact (by decide +kernel : (L2.defScope s_OutOfRange_init).names.lookup ("self" : Str) = some .local); rcases List.mem_cons.mp hy with rfl | hy; exact (by decide +kernel : (L2.defScope s_OutOfRange_init).names.lookup ("found" : Str) = some .local); cases hy) (fun h₀ hns k0 => ?_) rfl rfl rfl
  have X0 : K.In h₀ := X.keeps k0
  have hx0 := k0 _ _ hx
  have hL0 : s.heap.objs.size < h₀.objs.size := hns.lt
  generalize hL : s.heap.objs.size = L at *
  -- super().__init__('number out of range')
  refine ks_wpAt_execs_cons (ks_wpAt_Expr_any (ks_wpAt_MethodCall ?_))
  obtain ⟨mb, hB, hBs⟩ := B
  have hCo := X0 _ _ hC
  refine ks_wpAt_super_base (f := fI) (cc := cda) rfl rfl (by decide) rfl (X0 _ _ ho) rfl rfl rfl (X0 _ _ hcode) rfl hvs (by rw [hP.1]; exact hfile) hP.2 ?_
  refine PySem.W.ks_loadName_global rfl rfl (loadGlobal_builtin (G.keeps k0) hmgs (hB.keeps k0) (hBs.trans (by decide +kernel)) ⟨rfl, ?_⟩)
  refine wpAny_loadName_free rfl rfl rfl ⟨_, X0 _ _ hcell, rfl⟩ ?_
  refine wpAny_loadName_local (v := .ref x) rfl rfl hns (by rfl) ?_
  refine ks_wpAny_isType_cls hCo rfl ⟨rfl, ?_⟩
  refine ks_wpAny_call_super hCo rfl hx0 rfl (fun c e => by cases e) (PySem.W.looks_mroIn X0 hsub) (fun h1 e1 k1 => ?_)
  have X1 : K.In h1 := X0.keeps k1
  have hx1 := k1 _ _ hx0
  have I1 : PySem.W.InstAt h1 x (excO C t0) C none := ⟨hx1, rfl, rfl, trivial⟩
  have hal : PySem.W.alongIn K "__init__" ((((.ref C :: bm : List Value)).dropWhile (· != .ref C)).drop 1) = some (some (.builtin "ValueError.__init__")) := by
    unfold PySem.W.ks_superIn at hsi
    rw [hcl0] at hsi
    exact hsi
  refine PySem.W.kxs_getMethod kxs_ValueError e1 (PySem.W.looks_opaque X1 hthird) (l₀ := .ref C :: bm) ((PySem.W.looks_clsIn X1 hcl0).andThen .now) rfl X1 hal (I1.type.andThen (PySem.W.looks_subIn X1 hbas)) (PySem.W.ks_ne X1 I1 hcl0) (by decide) ?_
  have k2 : ∀ b o, h1.get? b = some o → (h1.push (kxs_mw "ValueError.__init__" x)).get? b = some o := fun b o e => Heap.get?_push_of_some _ e
  have e2 : (h1.push (kxs_mw "ValueError.__init__" x)).get? h1.objs.size = some (kxs_mw "ValueError.__init__" x) := Heap.get?_push_size _ rfl
  have hx2 := k2 _ _ hx1
  have X2 := X1.keeps k2
  have k02 : ∀ b o, h₀.get? b = some o → (h1.push (kxs_mw "ValueError.__init__" x)).get? b = some o := fun b o e => k2 b o (k1 b o e)
  generalize (h1.push (kxs_mw "ValueError.__init__" x)) = h2 at *
  generalize h1.objs.size = u at *
  refine callWith_mw (i := "ValueError.__init__") (x := x) (spliced_cons (Constant_str (k := 0) (pos := ⟨0, 0, 0, 0⟩) (spliced_nil ⟨e2, ?_⟩)))
  refine call_mw (X2 _ _ hC) hx2 e2 (by rw [sizeLine_eq]; exact (by decide : 1 ≤ 16777216)) (fun h3 t1 k3 hx3 => ?_)
  -- self.found = found
  have hn3 := ns_at (hns.keeps k02) hxL k3
  have X3 : K.In h3 := fun a o e => k3 a o (fun z => by rw [z, hnx] at e; cases e) (X2 a o e)
  refine wpAt_of_wpAny (wpAny_execs_cons (plainObj_wpAny_Assign_Attribute ?_))
  refine wpAny_Name (wpAny_loadName_local (v := v) rfl rfl hn3 (by first | rfl | with_unfolding_all rfl) ?_) (by decide)
  refine wpAny_Name (wpAny_loadName_local (v := .ref x) rfl rfl hn3 (by first | rfl | with_unfolding_all rfl) ?_) (by decide)
  refine PySem.W.set_plain X3 (ox := excO C t1) (od := none) ⟨hx3, rfl, rfl, trivial⟩ xC.sa ?_
  refine exc_osa X3 hx3 hcl0 (show refsVE (.ref C :: bm) = true from hbm) rfl hno (fun h4 tk4 dx k4 dn dne hx4 hn4 => ?_)
  show wpAny _ _ (execs _ _) _ _ _
  have kAll : ∀ b o, b ≠ x → s.heap.get? b = some o → h4.get? b = some o := fun b o hb e => k4 b o hb (k3 b o hb (k02 b o (k0 b o e)))
  have hdx : L ≤ dx := by
    have z1 := hn3.lt
    exact Nat.le_of_lt (Nat.lt_of_lt_of_le z1 dn)
  exact wpAny_execs_nil (hq h4 tk4 dx t1 ⟨kAll, hx4, by rw [hL]; exact hdx, dne, hn4⟩)
theorem oor_made (T : Ev K mg) (hP : TopOk prog) {v : Value} (X : K.In s.heap) (G : s.heap.Ns mainGlobals mg) (B : ∃ mb, s.heap.Ns builtinsNs mb ∧ mb "super" = bootBuiltins "super") (hlim : s.heap.NoLimit) (hroom : A.depth + 1 < recursionLimit)
    (hq : ∀ h' tk e d, OorMade s.heap h' e (He.ga K "OutOfRange") d v → R (.ok (.ret (.ref e))) { s with heap := h', toks := tk }) :
    codeAny (model prog w) A (.call (.ref (He.ga K "OutOfRange")) ⟨[v], []⟩) R s := by
  obtain ⟨nm, q, N, bs, bm, sn, sub, ab, col, dd, k0, k1, k2, k3, k5, hC, hbm⟩ := (x_oex T).cls
  obtain ⟨hp, g, dr, tk, os⟩ := s
  have k : ∀ b o, hp.get? b = some o → ((hp.push (PySem.W.kdv_tup [v])).push (excO (He.ga K "OutOfRange") hp.objs.size)).get? b = some o := fun b o e => Heap.get?_push_of_some _ (Heap.get?_push_of_some _ e)
  have hget : ((hp.push (PySem.W.kdv_tup [v])).push (excO (He.ga K "OutOfRange") hp.objs.size)).get? (hp.objs.size + 1) = some (excO (He.ga K "OutOfRange") hp.objs.size) := by heap_get
  have big : ∀ {b : Addr} {o : Obj}, hp.get? b = some o → hp.objs.size + 1 ≠ b := fun {b o} e z => by
    have y := Heap.lt_size e
    rw [← z] at y
    exact absurd y (Nat.not_lt.mpr (Nat.le_succ _))
  have hnx : K.lookup (hp.objs.size + 1) = none := by
    cases e : K.lookup (hp.objs.size + 1) with
    | none => rfl
    | some o => exact absurd rfl (big (X _ _ e))
  have big2 : ∀ {L : Addr} {m : Str → Option Value}, hp.Ns L m → hp.objs.size + 1 ≠ L := fun {L m} hn => by
    obtain ⟨o, _, _, ho, _⟩ := hn
    exact big ho
  refine call_own F.excBase_ValueError (fun Y => refsVE_contains Y bm hbm) (X _ _ hC) (PySem.W.looks_findIn X (x_oinit T)) (fun self => PySem.W.bind_fn X self (x_oinitT T)) (by rw [sizeLine_eq]; exact (by decide : 1 ≤ 16777216)) ?_
  obtain ⟨mb, hB, hBs⟩ := B
  refine oor_init (s := ⟨(hp.push (PySem.W.kdv_tup [v])).push (excO (He.ga K "OutOfRange") hp.objs.size), g, dr, tk, os⟩) T hP (X.keeps k) (G.keeps k) ⟨mb, hB.keeps k, hBs⟩ (hlim.keeps k) hget hnx (big2 G) (big2 hB) hroom fun h' tk' dx t1 ⟨k', hx, dn, dne, hns⟩ => ?_
  have old : ∀ b o, hp.get? b = some o → h'.get? b = some o := fun b o e => k' b o (Ne.symm (big e)) (k b o e)
  have z : hp.objs.size + 1 + 1 ≤ dx := by
    have q := dn
    first
      | (simpa only [Heap.size_push] using q)
      | exact q
      | (rw [Heap.size_push, Heap.size_push] at q; exact q)
  exact ⟨rfl, hq h' tk' (hp.objs.size + 1) dx ⟨old, Nat.le_succ _, ⟨_, hx⟩, Nat.le_trans (Nat.le_trans (Nat.le_succ _) (Nat.le_succ _)) z, dne, hns⟩⟩
end
end K12
namespace L2
open PySem PySem.Spec PyProof.Rows K12
theorem relO_found {v : V} {v' : Value} (r : RelV v v') (f : Str) : RelO (List.lookup f [(("found" : Str), v)]) (if f = "found" then some v' else none) := by
  by_cases hw : f = "found"
  · subst hw
    rw [if_pos rfl]
    have q : List.lookup ("found" : Str) [(("found" : Str), v)] = some v := by simp [List.lookup]
    rw [q]
    exact r
  · rw [if_neg hw]
    have qw : (f == ("found" : Str)) = false := by simpa using hw
    have q2 : List.lookup f [(("found" : Str), v)] = none := by simp [List.lookup, qw]
    rw [q2]
    trivial
section
variable {X : Cx}
/-- OutOfRange(e) -/
def tMkOor (C : Addr) (ta : TA) : St → Hp → XK → Prop := fun σ H Q => ta σ H fun vs H1 => ∃ v, vs = [v] ∧ ∀ d, H1 d = none → Q (.ref C) (some d) (upd H1 d (.xd [(("found" : Str), v)]))
theorem pmk_oor {a : Expr} {ta : TA} {p pos : Pos} {k : Nat} (T : Ev X.K X.mg) (hP : TopOk X.prog) (hr : Room (k + 2) X.A) (ha : PA X [a] ta) (hg : Gl X "OutOfRange" := by rfl)
    (he : starEach (a :: []) X.env = (false, eval a X.env) :: starEach [] X.env := by rfl) (hpl : (backTo pos (starEach [] X.env)).any (·.1) = false := by rfl) :
    L2N.PMk X (.Call (.Name "OutOfRange" p) [a] [] pos) (tMkOor (He.ga X.K "OutOfRange") ta) := by
  intro pins s σ H Q I h
  have oc := x_oex T
  refine wpAny_Call_Name_kw (ld_glob I hg (g_OutOfRange T) ?_)
  refine PySem.W.callWith_K (h₀ := X.base) I.ok.mod.kin oc.kC (thn (ha.run pos pins s σ H _ I h) fun us s1 hh => ?_) he hpl
  obtain ⟨vs, H1, I1, r1, v, ev, q1⟩ := hh
  subst ev
  refine ⟨I1.kIn, ?_⟩
  cases r1 with
  | cons rv rn =>
    rename_i v' us'
    cases rn
    show wpAny _ _ (call (.ref (He.ga X.K "OutOfRange")) [v']) _ _ _
    have hlim := I1.nolimit
    have hglob := I1.mod.glob.keeps I1.bk
    obtain ⟨mb, hb1, hb2⟩ := I1.mod.blt
    have hblt : ∃ mb, s1.heap.Ns builtinsNs mb ∧ mb "super" = bootBuiltins "super" := ⟨mb, hb1.keeps I1.bk, hb2 "super" (by decide)⟩
    obtain ⟨hp, g, dr, tk, os⟩ := s1
    refine wpAny_call (oor_made T hP I1.kIn hglob hblt hlim (by have := hr.dp; omega) fun h' tk' e d M => ?_)
    show L2N.MkP X pins σ Q (.ref e) ⟨h', g, dr, tk', os⟩
    obtain ⟨t1, hoe⟩ := M.obj
    have hns := M.ns
    obtain ⟨G', g1, g2⟩ := restrict h' fun b => decide (b ≠ e)
    have gk : ∀ b, b ≠ e → G'.get? b = h'.get? b := fun b hb => g1 b (decide_eq_true hb)
    have ge : G'.get? e = none := g2 e (by simp)
    have old : ∀ b o, hp.get? b = some o → G'.get? b = some o := fun b o q => (gk b (Nat.ne_of_lt (Nat.lt_of_lt_of_le (Heap.lt_size q) M.new))).trans (M.keep b o q)
    have ob : ObjOk X.prog X.w (upd H1 d (.xd [(("found" : Str), v)])) G' d (.xd [(("found" : Str), v)]) :=
      ⟨_, hns.at (fun o q => (gk d M.dne).trans q), fun f => relO_found rv f⟩
    have J : Inv X pins σ (upd H1 d (.xd [(("found" : Str), v)])) ⟨G', g, dr, tk', os⟩ := I1.laid (t' := tk') old M.dbig ob
    refine ⟨e, _, _, ⟨G', g, dr, tk', os⟩, _, .ref (He.ga X.K "OutOfRange"), some d, rfl, J, fun b o q => ?_, ge, hoe, ⟨rfl, rfl, fun vs e => by cases e; rfl⟩, rfl, rfl, ?_, rfl, I1.bare, raises_own oc.exC oc.tyC, q1 d (I1.hok.fresh M.dbig)⟩
    · by_cases hb : b = e
      · have q' : G'.get? b = some o := q
        rw [hb, ge] at q'; cases q'
      · exact (gk b hb).symm.trans q
    · rw [upd_ne (Ne.symm M.dne)]
      exact I1.hok.fresh M.new
/-- raise OutOfRange(e) -/
def tRaiseOor (C : Addr) (W : WX) (ta : TA) : TS := fun _ σ H => tMkOor C ta σ H fun cls d H' => W cls d σ H'
theorem ps_raiseOor {a : Expr} {ta : TA} {W : WX} {p pos pos2 : Pos} {k : Nat} (hc : X.calm = true) (T : Ev X.K X.mg) (hP : TopOk X.prog) (hr : Room (k + 2) X.A) (tk : L2N.Takes X W) (ha : PA X [a] ta) (hg : Gl X "OutOfRange" := by rfl)
    (he : starEach (a :: []) X.env = (false, eval a X.env) :: starEach [] X.env := by rfl) (hpl : (backTo pos (starEach [] X.env)).any (·.1) = false := by rfl) :
    PS X (.Raise (some (.Call (.Name "OutOfRange" p) [a] [] pos)) none pos2) (tRaiseOor (He.ga X.K "OutOfRange") W ta) := L2N.ps_raise hc tk (pmk_oor T hP hr ha hg he hpl)
end
end L2
set_option Elab.async false
set_option linter.all false
set_option maxRecDepth 100000
set_option maxHeartbeats 4000000
/-! Rules: a def called by its positional promise, a rule (an own instance) called, one joined with another by & and |. -/
namespace L2
open PySem PySem.Spec PyProof.Rows
section
variable {X : Cx} {CX : CXT} {k : Nat} {f : Addr} {sp : Sp} {x : Str} {e : Expr} {es : List Expr} {t : TA} {p pos : Pos}
/-- f(e, ..) by a positional promise; what is wanted of an exception may lean on the slots -/
def tCallF (sp : Sp) (E : St → XK) (t : TA) : TE := fun σ H Q => t σ H fun vs H1 => sp vs H1 Q (E σ)
theorem run_fnE {pins : List (Addr × Obj)} {σ : St} {H : Hp} {s : Shared} {E : XK} {Q : VK} {us : List Value} {vs : List V} (F : FnR X.prog X.w X.K X.mg X.base CX k f sp) (hr : Room k X.A) (hx : PassesAt CX X σ E) (I : Inv X pins σ H s) (r : Vals vs us) (h : sp vs H Q E) :
    wpAny (model X.prog X.w) X.A (call (.ref f) us) (EP X pins σ Q) X.xe s := by
  refine wpAny_call (codeAny_mono (F X.A X.stack s H us vs Q E hr I.env0 r h) fun r s' hq => ?_)
  cases r with
  | error e => exact hx pins H s e s' I hq
  | ok fl =>
    cases fl with
    | ret u => exact I.after hq
    | next => exact False.elim hq
    | brk => exact False.elim hq
    | cont => exact False.elim hq
theorem pe_callF {E : St → XK} (F : FnR X.prog X.w X.K X.mg X.base CX k f sp) (hr : Room k X.A) (hg : Gl X x) (hm : X.mg x = some (.ref f)) (hk : PySem.W.keepIn X.K (.ref f) = true) (hx : ∀ σ, PassesAt CX X σ (E σ)) (ha : PA X (e :: es) t)
    (hdb : (x == ("__debug__" : Str)) = false := by decide) (he : starEach (e :: es) X.env = (false, eval e X.env) :: starEach es X.env := by rfl) (hpl : (backTo pos (starEach es X.env)).any (·.1) = false := by rfl) :
    PE X (.Call (.Name x p) (e :: es) [] pos) (tCallF sp E t) := by
  refine ⟨fun pins s σ H Q I h => ?_⟩
  refine wpAny_Call_Name_kw (ld_glob I hg hm ?_ hdb)
  refine PySem.W.callWith_K (h₀ := X.base) I.ok.mod.kin hk (thn (ha.run pos pins s σ H _ I h) fun us s1 ⟨vs, H1, I1, r, q⟩ => ⟨I1.kIn, ?_⟩) he hpl
  exact run_fnE F hr (hx σ) I1 r q
end
/-- no exception -/
def noX : St → XK := fun _ _ _ _ => False
theorem passN {X : Cx} (σ : St) : PassesAt CX0 X σ (noX σ) := fun _ _ _ _ _ _ c => False.elim c
end L2
namespace PySem.W
open PySem PySem.Calls PyProof.Rows
/-- x op b, b of another own class that has the same method and no reflected one -/
theorem binop_two {prog : Program} {w : World} {A : Around} {E : Value → Shared → Prop} {s : Shared} {K : Frag} {x C D f f2 : Addr} {ox : Obj} {od : Option Obj} {op : Operator} {b : Value} {Q : Value → Shared → Prop} (X : K.In s.heap) (I : InstAt s.heap x ox C od)
    (hb : Looks (model prog w) s.heap (typeOf b) (.ref D)) (hne : C ≠ D) (hc : selfFirst K C = true) (hd : selfFirst K D = true)
    (hs : findIn K (.ref C) (PySem.dunder op.info.2) = some (some (.ref f))) (hs2 : findIn K (.ref D) (PySem.dunder op.info.2) = some (some (.ref f2))) (hf : isFn K (.ref f) = true)
    (hr : findIn K (.ref C) (dunderR op.info.2) = some none) (hr2 : findIn K (.ref D) (dunderR op.info.2) = some none) (hsub : subIn K (.ref D) (.ref C) = some false)
    (h : wpAny (model prog w) A (call (.ref f) [.ref x, b]) (CmpBack Q) E s) : wpAny (model prog w) A (binaryOp op (.ref x) b) Q E s := by
  obtain ⟨cd, rest, hcd, hm⟩ := ksp_first hc
  obtain ⟨cd2, rest2, hcd2, hm2⟩ := ksp_first hd
  rcases hi : op.info with ⟨sym, nm'⟩
  rw [hi] at hs hr hs2 hr2
  dsimp only at hs hr hs2 hr2
  have one := ksp_try X I hs hf h
  obtain ⟨hh, g, d, tt, os⟩ := s
  have L1 : Looks (model prog w) hh (typeOf (.ref x)) (.ref C) := I.type
  have L3 : Looks (model prog w) hh (fillsNumberSlot (.ref C) nm') true := fills_K X hcd hm hs
  have L4 : Looks (model prog w) hh (fillsNumberSlot (.ref D) nm') true := fills_K X hcd2 hm2 hs2
  have L5 : Looks (model prog w) hh (isSubtype (.ref D) (.ref C)) false := looks_subIn X hsub
  have L6 : Looks (model prog w) hh (numberSlotInPython (.ref C) nm') true := ksp_inPy X hs hr (.inl rfl)
  have L7 : Looks (model prog w) hh (numberSlotInPython (.ref D) nm') true := ksp_inPy X hs2 hr2 (.inl rfl)
  have hne' : (Value.ref C == Value.ref D) = false := Bool.eq_false_iff.mpr fun q => hne (Value.ref.inj (beq_iff_eq.mp q))
  simp only [binaryOp, hi]
  refine wpAny_holding (wpAny_bind ?_)
  unfold binaryOp1
  refine wpAny_bind (L1.at (wpAny_bind (hb.at (wpAny_bind (L3.at ?_)))))
  simp only [hne', Bool.false_eq_true, if_false]
  ksp_lk
  refine wpAny_mono one (fun r s' hr' => ?_) fun _ _ e => e
  obtain ⟨v, rfl, hq⟩ := hr'
  ksp_lk
  exact hq
end PySem.W
namespace K12
open PySem PySem.Spec PyProof.Rows L2 K12M
open PySem.W (Frag)
/-! ### what stands in the heap -/
/-- a rule at a -/
def RuleAt (K : Frag) (H : Hp) : K12M.Spec → Addr → Prop
  | .line s e, a => ∃ dx fs, H a = some (.ins (He.ga K "Line") dx fs) ∧ fs.lookup ("slope" : Str) = some (.int s) ∧ fs.lookup ("extra" : Str) = some (.int e)
  | .table ps s, a => ∃ dx fs q, H a = some (.ins (He.ga K "Table") dx fs) ∧ fs.lookup ("prices" : Str) = some (.ref q) ∧ fs.lookup ("slope" : Str) = some (.int s) ∧ H q = some (.tup (ps.map V.int))
  | .both x y, a => ∃ dx fs p q, H a = some (.ins (He.ga K "Lesser") dx fs) ∧ fs.lookup ("_one" : Str) = some (.ref p) ∧ fs.lookup ("_other" : Str) = some (.ref q) ∧ RuleAt K H x p ∧ RuleAt K H y q
  | .each x y, a => ∃ dx fs p q, H a = some (.ins (He.ga K "Greater") dx fs) ∧ fs.lookup ("_one" : Str) = some (.ref p) ∧ fs.lookup ("_other" : Str) = some (.ref q) ∧ RuleAt K H x p ∧ RuleAt K H y q
/-- all but lists are kept -/
def Stil (H H' : Hp) : Prop := ∀ a o, H a = some o → (∀ xs, o ≠ .lst xs) → H' a = some o
theorem Stil.refl (H : Hp) : Stil H H := fun _ _ e _ => e
theorem Stil.trans {H1 H2 H3 : Hp} (a : Stil H1 H2) (b : Stil H2 H3) : Stil H1 H3 := fun x o e n => b x o (a x o e n) n
theorem stil_of {H H' : Hp} (h : Same H H') : Stil H H' := fun a o e _ => h a o e
theorem RuleAt.stil {K : Frag} {H H' : Hp} (k : Stil H H') : ∀ {s : K12M.Spec} {a : Addr}, RuleAt K H s a → RuleAt K H' s a
  | .line s e, a, h => by
    obtain ⟨dx, fs, h1, h2⟩ := h
    exact ⟨dx, fs, k _ _ h1 (fun _ z => by cases z), h2⟩
  | .table ps s, a, h => by
    obtain ⟨dx, fs, q, h1, h2, h3, h4⟩ := h
    exact ⟨dx, fs, q, k _ _ h1 (fun _ z => by cases z), h2, h3, k _ _ h4 (fun _ z => by cases z)⟩
  | .both x y, a, h => by
    obtain ⟨dx, fs, p, q, h1, h2, h3, h4, h5⟩ := h
    exact ⟨dx, fs, p, q, k _ _ h1 (fun _ z => by cases z), h2, h3, RuleAt.stil k h4, RuleAt.stil k h5⟩
  | .each x y, a, h => by
    obtain ⟨dx, fs, p, q, h1, h2, h3, h4, h5⟩ := h
    exact ⟨dx, fs, p, q, k _ _ h1 (fun _ z => by cases z), h2, h3, RuleAt.stil k h4, RuleAt.stil k h5⟩
theorem same_new {H : Hp} {p : Addr} {o : HO} (h : H p = none) : Same H (upd H p o) := fun b x e => by
  rw [upd_ne (ne_of_none e h)]
  exact e
def kind : K12M.Spec → Nat
  | .line _ _ => 0
  | .table _ _ => 1
  | .both _ _ => 2
  | .each _ _ => 3
def cOf (K : Frag) : Nat → Addr
  | 0 => He.ga K "Line"
  | 1 => He.ga K "Table"
  | 2 => He.ga K "Lesser"
  | _ => He.ga K "Greater"
theorem kind_lt (s : K12M.Spec) : kind s < 4 := by cases s <;> simp [kind]
theorem RuleAt.ins {K : Frag} {H : Hp} {s : K12M.Spec} {a : Addr} (h : RuleAt K H s a) : ∃ dx fs, H a = some (.ins (cOf K (kind s)) dx fs) := by
  cases s with
  | line s e => obtain ⟨dx, fs, h1, _⟩ := h; exact ⟨dx, fs, h1⟩
  | table ps s => obtain ⟨dx, fs, q, h1, _⟩ := h; exact ⟨dx, fs, h1⟩
  | both x y => obtain ⟨dx, fs, p, q, h1, _⟩ := h; exact ⟨dx, fs, h1⟩
  | each x y => obtain ⟨dx, fs, p, q, h1, _⟩ := h; exact ⟨dx, fs, h1⟩
section
variable {K : Frag} {mg : Str → Option Value} (T : Ev K mg)
include T
theorem callO_c (j : Nat) : StX.CallO K (cOf K j) (He.ma K (cOf K j) "__call__") := by
  match j with
  | 0 => exact x_call_Line T
  | 1 => exact x_call_Table T
  | 2 => exact x_call_Lesser T
  | _ + 3 => exact x_call_Greater T
theorem first_c (j : Nat) : PySem.W.selfFirst K (cOf K j) = true := by
  match j with
  | 0 => exact x_first_Line T
  | 1 => exact x_first_Table T
  | 2 => exact x_first_Lesser T
  | _ + 3 => exact x_first_Greater T
theorem and_c (j : Nat) : PySem.W.findIn K (.ref (cOf K j)) "__and__" = some (some (.ref (He.ma K (He.ga K "Rule") "__and__"))) ∧ PySem.W.findIn K (.ref (cOf K j)) "__rand__" = some none := by
  match j with
  | 0 => exact ⟨x_and_Line T, x_rand_Line T⟩
  | 1 => exact ⟨x_and_Table T, x_rand_Table T⟩
  | 2 => exact ⟨x_and_Lesser T, x_rand_Lesser T⟩
  | _ + 3 => exact ⟨x_and_Greater T, x_rand_Greater T⟩
theorem or_c (j : Nat) : PySem.W.findIn K (.ref (cOf K j)) "__or__" = some (some (.ref (He.ma K (He.ga K "Rule") "__or__"))) ∧ PySem.W.findIn K (.ref (cOf K j)) "__ror__" = some none := by
  match j with
  | 0 => exact ⟨x_or_Line T, x_ror_Line T⟩
  | 1 => exact ⟨x_or_Table T, x_ror_Table T⟩
  | 2 => exact ⟨x_or_Lesser T, x_ror_Lesser T⟩
  | _ + 3 => exact ⟨x_or_Greater T, x_ror_Greater T⟩
theorem sub_c {i j : Nat} (hi : i < 4) (hj : j < 4) (h : i ≠ j) : PySem.W.subIn K (.ref (cOf K j)) (.ref (cOf K i)) = some false := by
  match i, j, hi, hj, h with
  | 0, 0, _, _, h => exact absurd rfl h
  | 1, 1, _, _, h => exact absurd rfl h
  | 2, 2, _, _, h => exact absurd rfl h
  | 3, 3, _, _, h => exact absurd rfl h
  | 0, 1, _, _, _ => exact x_sub_Table_Line T
  | 0, 2, _, _, _ => exact x_sub_Lesser_Line T
  | 0, 3, _, _, _ => exact x_sub_Greater_Line T
  | 1, 0, _, _, _ => exact x_sub_Line_Table T
  | 1, 2, _, _, _ => exact x_sub_Lesser_Table T
  | 1, 3, _, _, _ => exact x_sub_Greater_Table T
  | 2, 0, _, _, _ => exact x_sub_Line_Lesser T
  | 2, 1, _, _, _ => exact x_sub_Table_Lesser T
  | 2, 3, _, _, _ => exact x_sub_Greater_Lesser T
  | 3, 0, _, _, _ => exact x_sub_Line_Greater T
  | 3, 1, _, _, _ => exact x_sub_Table_Greater T
  | 3, 2, _, _, _ => exact x_sub_Lesser_Greater T
end
/-- a rule's price, asked: by the kind j of the rule, of depth n at most -/
def spRule (K : Frag) (n j : Nat) : Sp := fun vs H Q _ => ∃ a d s, vs = [.ref a, .int d] ∧ kind s = j ∧ RuleAt K H s a ∧ s.Ok ∧ s.depth ≤ n ∧ 1 ≤ d ∧ Q (.int (s.price d)) H
/-- all rules of depth n at most answer -/
def RulesOk (P : Program) (w : World) (K : Frag) (mg : Str → Option Value) (base : Heap) (n k : Nat) : Prop := ∀ j, j < 4 → FnR P w K mg base CX0 k (He.ma K (cOf K j) "__call__") (spRule K n j)
section
variable {X : Cx} {n k : Nat} {fe e o : Expr} {tf te to : TE} {pos apos : Pos} {m : Str}
theorem run_rule (T : Ev X.K X.mg) (R : RulesOk X.prog X.w X.K X.mg X.base n k) (hr : Room k X.A) {pins : List (Addr × Obj)} {σ : L2.St} {H : Hp} {s : Shared} {Q : VK} {a : Addr} {u : Value} {d : Int} {sp : K12M.Spec} (I : Inv X pins σ H s)
    (h : RuleAt X.K H sp a) (ok : sp.Ok) (hn : sp.depth ≤ n) (hd : 1 ≤ d) (ru : RelV (.int d) u) (q : Q (.int (sp.price d)) H) : wpAny (model X.prog X.w) X.A (call (.ref a) [u]) (EP X pins σ Q) X.xe s := by
  obtain ⟨dx, fs, ha⟩ := h.ins
  exact StX.run_callO (E := fun _ _ _ => False) (callO_c T (kind sp)) (R (kind sp) (kind_lt sp)) hr pass0 I (.inr ⟨dx, fs, ha⟩) (.cons ru .nil) ⟨a, d, sp, rfl, rfl, h, ok, hn, hd, q⟩
/-- rule(d) -/
def tRule (K : Frag) (n : Nat) (tf te : TE) : TE := fun σ H Q => tf σ H fun y H1 => ∃ a, y = .ref a ∧ tCons te tNil σ H1 fun vs H2 => ∃ d sp, vs = [.int d] ∧ RuleAt K H2 sp a ∧ sp.Ok ∧ sp.depth ≤ n ∧ 1 ≤ d ∧ Q (.int (sp.price d)) H2
theorem rule_with (T : Ev X.K X.mg) (R : RulesOk X.prog X.w X.K X.mg X.base n k) (hr : Room k X.A) {pins : List (Addr × Obj)} {σ : L2.St} {H1 : Hp} {s1 : Shared} {Q : VK} {a : Addr} (I1 : Inv X pins σ H1 s1) (he : PE X e te)
    (q : tCons te tNil σ H1 fun vs H2 => ∃ d sp, vs = [.int d] ∧ RuleAt X.K H2 sp a ∧ sp.Ok ∧ sp.depth ≤ n ∧ 1 ≤ d ∧ Q (.int (sp.price d)) H2)
    (hs : starEach [e] X.env = (false, eval e X.env) :: starEach [] X.env) (hpl : (backTo pos (starEach [] X.env)).any (·.1) = false) :
    wpAny (model X.prog X.w) X.A (callWith pos (.ref a) [] (backTo pos (starEach [e] X.env)) []) (EP X pins σ Q) X.xe s1 := by
  refine StX.callO_with (thn ((pa_cons he pa_nil hs).run pos pins s1 σ H1 _ I1 q) fun us s2 ⟨vs, H2, I2, r, d, sp, ev, hq, ok, hn, hd, q2⟩ => ?_) hs hpl
  subst ev
  obtain ⟨dx, fs, ha⟩ := hq.ins
  obtain ⟨ox, od, J, hdat⟩ := StX.insC_at I2 (.inr ⟨dx, fs, ha⟩)
  refine ⟨⟨_, ox, od, J, hdat⟩, ?_⟩
  cases r with
  | cons ru rn =>
    cases rn
    exact run_rule T R hr I2 hq ok hn hd ru q2
theorem pe_rule (T : Ev X.K X.mg) (R : RulesOk X.prog X.w X.K X.mg X.base n k) (hr : Room k X.A) (hf : PE X fe tf) (he : PE X e te)
    (ht : eval (.Call fe [e] [] pos) X.env = (do callWith pos (← eval fe X.env) [] (backTo pos (starEach [e] X.env)) (backToKw pos (keywordEach [] X.env))) := by rfl)
    (hs : starEach [e] X.env = (false, eval e X.env) :: starEach [] X.env := by rfl) (hpl : (backTo pos (starEach [] X.env)).any (·.1) = false := by rfl) : PE X (.Call fe [e] [] pos) (tRule X.K n tf te) := by
  refine ⟨fun pins s σ H Q I h => ?_⟩
  refine Call_ (thn (hf.run pins s σ H _ I h) fun u s1 ⟨y, H1, I1, ry, a, ey, q⟩ => ?_) ht
  subst ey
  obtain rfl : u = Value.ref a := ry
  exact rule_with T R hr I1 he q hs hpl
/-- o.f(d), the field f a rule -/
def tFldRule (K : Frag) (n : Nat) (f : Str) (to te : TE) : TE := fun σ H Q => to σ H fun x H1 => ∃ b C dx fs a, x = .ref b ∧ H1 b = some (.ins C dx fs) ∧ Cls K C ∧ NoAttr K C f ∧ fs.lookup f = some (.ref a) ∧ tCons te tNil σ H1 fun vs H2 => ∃ d sp, vs = [.int d] ∧ RuleAt K H2 sp a ∧ sp.Ok ∧ sp.depth ≤ n ∧ 1 ≤ d ∧ Q (.int (sp.price d)) H2
theorem pe_fldrule {pl : Sem Bool} (T : Ev X.K X.mg) (R : RulesOk X.prog X.w X.K X.mg X.base n k) (hr : Room k X.A) (ho : PE X o to) (he : PE X e te)
    (hs : starEach [e] X.env = (false, eval e X.env) :: starEach [] X.env := by rfl) (hpl : (backTo pos (starEach [] X.env)).any (·.1) = false := by rfl)
    (ht : eval (.Call (.Attribute o m apos) [e] [] pos) X.env = (do
      let ov ← eval o X.env
      standAt apos.atName
      let (f, first) ← holding [ov] (getMethod ov m pl)
      callWith pos f first (backTo pos (starEach [e] X.env)) (backToKw pos (keywordEach [] X.env))) := by rfl) :
    PE X (.Call (.Attribute o m apos) [e] [] pos) (tFldRule X.K n m to te) := by
  refine ⟨fun pins s σ H Q I h => ?_⟩
  refine PySem.W.methodCall_KW (pl := pl) (thn (ho.run pins s σ H _ I h) fun u s1 ⟨x, H1, I1, rx, b, C, dx, fs, a, ex, eb, c, na, l, q⟩ => ?_) ht
  subst ex
  obtain rfl : u = Value.ref b := rx
  obtain ⟨mA, O, r, _, _, _⟩ := ins_get I1.hok eb
  obtain ⟨od, J, _⟩ := O.look
  refine PySem.W.method_usual (r := none) I1.kIn J (PySem.W.plainGet_of (c.get m)).1 (PySem.W.plainGet_of (c.get m)).2 na rfl (getattr_ok I1 eb c na l fun u2 s2 I2 r2 => ?_)
  obtain rfl : u2 = Value.ref a := r2
  exact rule_with T R hr I2 he q hs hpl
/-- a & b, a | b of two rules: the method is called -/
def rJoin (K : Frag) (sp : Sp) : R2 := fun x y H Q => ∃ a b s1 s2, x = .ref a ∧ y = .ref b ∧ RuleAt K H s1 a ∧ RuleAt K H s2 b ∧ sp [.ref a, .ref b] H (fun v H' => (∃ c, v = .ref c) ∧ Q v H') (fun _ _ _ => False)
theorem join_any {op : Operator} {f : Addr} {sp : Sp} (T : Ev X.K X.mg) (hr : Room k X.A) (F : FnR X.prog X.w X.K X.mg X.base CX0 k f sp) (hf : PySem.W.isFn X.K (.ref f) = true)
    (hm : ∀ j, PySem.W.findIn X.K (.ref (cOf X.K j)) (PySem.dunder op.info.2) = some (some (.ref f)) ∧ PySem.W.findIn X.K (.ref (cOf X.K j)) (PySem.dunderR op.info.2) = some none) :
    OpR X (binaryOp op) (rJoin X.K sp) := by
  intro pins s σ H x y v u Q I rx ry h
  obtain ⟨a, b, s1, s2, rfl, rfl, h1, h2, q⟩ := h
  obtain rfl : v = Value.ref a := rx
  obtain rfl : u = Value.ref b := ry
  obtain ⟨dx, fs, ha⟩ := h1.ins
  obtain ⟨dy, gs, hb⟩ := h2.ins
  obtain ⟨ox, od, J, hdat⟩ := StX.insC_at I (.inr ⟨dx, fs, ha⟩)
  obtain ⟨oy, oe, J2, hdat2⟩ := StX.insC_at I (.inr ⟨dy, gs, hb⟩)
  have go : wpAny (model X.prog X.w) X.A (call (.ref f) [.ref a, .ref b]) (PySem.W.CmpBack (EP X pins σ Q)) X.xe s := by
    refine thn (run_fnE (E := fun _ _ _ => False) (vs := [.ref a, .ref b]) F hr (fun _ _ _ _ _ _ c => False.elim c) I (.cons rfl (.cons rfl .nil)) q) fun v s' hv => ?_
    obtain ⟨x, H', I', rv, ⟨c, ec⟩, qv⟩ := hv
    subst ec
    obtain rfl : v = Value.ref c := rv
    exact ⟨.ref c, H', I', rfl, qv⟩
  by_cases e : kind s1 = kind s2
  · have eb : PySem.W.InstAt s.heap b oy (cOf X.K (kind s1)) oe := by rw [e]; exact J2
    obtain ⟨m, hfr⟩ := I.fr
    exact PySem.W.binop_K hfr I.ok.mod.kin J eb.type (first_c T _) (hm _).1 hf go
  · have ne : cOf X.K (kind s1) ≠ cOf X.K (kind s2) := fun z => by
      have y := sub_c T (kind_lt s1) (kind_lt s2) e
      rw [← z] at y
      obtain ⟨cd, rest, hcd, hm⟩ := PySem.W.ksp_first (first_c T (kind s1))
      have y3 : PySem.W.mroIn X.K (cOf X.K (kind s1)) (.ref (cOf X.K (kind s1))) = some false := y
      unfold PySem.W.mroIn at y3
      rw [hcd, Option.bind_some, hm] at y3
      simp at y3
    exact PySem.W.binop_two I.kIn J J2.type ne (first_c T _) (first_c T _) (hm _).1 (hm _).1 hf (hm _).2 (hm _).2 (sub_c T (kind_lt s1) (kind_lt s2) e) go
theorem op_both {sp : Sp} (T : Ev X.K X.mg) (hr : Room k X.A) (F : FnR X.prog X.w X.K X.mg X.base CX0 k (He.ma X.K (He.ga X.K "Rule") "__and__") sp) : OpR X (binaryOp .BitAnd) (rJoin X.K sp) := join_any T hr F (x_fn_and T) fun j => and_c T j
theorem op_each {sp : Sp} (T : Ev X.K X.mg) (hr : Room k X.A) (F : FnR X.prog X.w X.K X.mg X.base CX0 k (He.ma X.K (He.ga X.K "Rule") "__or__") sp) : OpR X (binaryOp .BitOr) (rJoin X.K sp) := join_any T hr F (x_fn_or T) fun j => or_c T j
end
end K12
set_option Elab.async false
set_option linter.all false
set_option maxRecDepth 100000
set_option maxHeartbeats 4000000
namespace K12
open PySem PySem.Spec PyProof.Rows L2 K12M
open PySem.W (Frag)
theorem fnR_of {P : Program} {w : World} {K : Frag} {mg : Str → Option Value} {base : Heap} {CX : CXT} {k : Nat} {f : Addr} {fd : FuncData} {ps : List Str} {sp : Sp} (F : FnOk P w K mg base CX k f fd ps sp) (hb : Binds K fd ps []) : FnR P w K mg base CX k f sp :=
  (F.raw hb .nil).imp fun vs H Q E h => by rw [List.append_nil]; exact h
theorem ifT {c : Bool} {A B : Prop} (hc : c = true) (h : A) : if c = true then A else B := by rw [if_pos hc]; exact h
theorem ifF {c : Bool} {A B : Prop} (hc : c = false) (h : B) : if c = true then A else B := by rw [hc, if_neg Bool.false_ne_true]; exact h
/-- the wish of an OutOfRange that bears v -/
def oor (K : Frag) (E : XK) (v : V) (H : Hp) : Prop := ∀ d, H d = none → E (.ref (He.ga K "OutOfRange")) (some d) (upd H d (.xd [(("found" : Str), v)]))
theorem kpd {K : Frag} {x q : Str} {pa : Arguments} {b : List Stmt} {sc : Scope} {dv : List V} {kw : List (Str × V)} {f : Addr} (h : ∃ fd, FunD K x q pa b sc dv kw f fd) : PySem.W.keepIn K (.ref f) = true := h.elim fun _ F => F.kp
section
variable {P : Program} {w : World} {K : Frag} {mg : Str → Option Value} {base : Heap}
def spRange (K : Frag) : Sp := fun vs H Q E => ∃ v l m, vs = [.int v, .int l, .int m] ∧ (l ≤ v → v ≤ m → Q .non H) ∧ (¬(l ≤ v ∧ v ≤ m) → oor K E (.int v) H)
theorem sc_need_range : FnScope ["value", "least", "most"] ["value", "least", "most"] (defScope s_need_range) := ⟨rfl, rfl, rfl, by decide +kernel, rfl, by decide +kernel, by decide +kernel⟩
theorem ok_need_range (T : Ev K mg) (hP : TopOk P) : FnR P w K mg base (L2N.CX P w) 4 (He.ga K "need_range") (spRange K) := by
  obtain ⟨fd, F⟩ := F_need_range T
  refine fnR_of (FunD.ok F sc_need_range (fun vs H Q E h => ?_) (fun cdv A outer s H vs Q E hr h => ?_)) (F.bindsN fun _ _ _ _ _ _ us hl => match us, hl with | [_, _, _], _ => rfl)
  · obtain ⟨v, l, m, rfl, _⟩ := h
    rfl
  · obtain ⟨v, l, m, rfl, h1, h2⟩ := h
    have hr2 : Room (1 + 2) _ := hr
    refine ⟨_, pss_cons (ps_if (PW.pt (pw_or (pt_val (pe_callB call_isi (by rfl) (n_isinstance T) (by decide +kernel) (pa_cons (pv 0) (pa_cons (pe_bltn (v := .ty "bool") (by rfl) (n_bool T) (by decide +kernel) rfl) pa_nil))))
        (pw_or1 (pt_not (pt_val (pe_callB call_isi (by rfl) (n_isinstance T) (by decide +kernel) (pa_cons (pv 0) (pa_cons (pe_bltn (v := .ty "int") (by rfl) (n_int T) (by decide +kernel) rfl) pa_nil))))))))
        (pss_one (ps_raiseOor rfl T hP hr2 (L2N.takes_of rfl rfl rfl rfl) (by exact (pa_cons (pv 0) pa_nil)))) pss_nil)
      (pss_one (ps_if (PW.pt (pw_or (pt_cmpR op_lt (pv 0) (pv 1) (nomark _)) (pw_or1 (pt_cmpR op_gt (pv 0) (pv 2) (nomark _)))))
        (pss_one (ps_raiseOor rfl T hP hr2 (L2N.takes_of rfl rfl rfl rfl) (by exact (pa_cons (pv 0) pa_nil)))) pss_nil)), ?_⟩
    refine ⟨_, rfl, .int v, .ty "bool", .type "int", .type "bool", false, rfl, .ty _, .base (.int _), kit_ty (by decide +kernel), _, rfl, ?_⟩
    refine ifF rfl ?_
    refine ⟨_, rfl, .int v, .ty "int", .type "int", .type "int", true, rfl, .ty _, .base (.int _), kit_ty (by decide +kernel), _, rfl, ?_⟩
    refine ifF rfl ?_
    refine ⟨_, rfl, _, rfl, _, _, rfl, rfl, _, rfl, ite2 (fun e => ?_) (fun e => ?_)⟩
    · exact ifT rfl ⟨_, rfl, _, rfl, h2 (fun z => by have := of_decide_eq_true e; omega)⟩
    · refine ⟨_, rfl, _, rfl, _, _, rfl, rfl, _, rfl, ite2 (fun e2 => ?_) (fun e2 => ?_)⟩
      · exact ⟨_, rfl, _, rfl, h2 (fun z => by have := of_decide_eq_true e2; omega)⟩
      · have e' := of_decide_eq_false (Bool.eq_false_iff.mpr e)
        have e2' := of_decide_eq_false (Bool.eq_false_iff.mpr e2)
        exact h1 (by omega) (by omega)
def spLevel (K : Frag) : Sp := fun vs H Q E => ∃ v l, vs = [.int v, .int l] ∧ (l ≤ v → v ≤ 64 → Q .non H) ∧ (¬(l ≤ v ∧ v ≤ 64) → oor K E (.int v) H)
theorem sc_need_level : FnScope ["value", "least"] ["value", "least"] (defScope s_need_level) := ⟨rfl, rfl, rfl, by decide +kernel, rfl, by decide +kernel, by decide +kernel⟩
theorem ok_need_level (T : Ev K mg) (hP : TopOk P) : FnR P w K mg base (L2N.CX P w) 5 (He.ga K "need_level") (spLevel K) := by
  obtain ⟨fd, F⟩ := F_need_level T
  obtain ⟨ds, hv, hb⟩ := F.binds1 (ps := ["value", "least"]) 2 1 (by decide) rfl (fun _ _ _ _ _ _ _ us its h1 h2 => match us, its, h1, h2 with | [_, _], [_], _, _ => ⟨_, rfl, rfl⟩)
  cases hv
  refine fnR_of (FunD.ok F sc_need_level (fun vs H Q E h => ?_) (fun cdv A outer s H vs Q E hr h => ?_)) hb
  · obtain ⟨v, l, rfl, _⟩ := h
    rfl
  · obtain ⟨v, l, rfl, h1, h2⟩ := h
    obtain ⟨t, hm⟩ := i_MOST_PLACES T
    refine ⟨_, pss_one (ps_expr (pe_callF (ok_need_range T hP) hr (by rfl) (g_need_range T) (kpd (F_need_range T)) (fun σ => L2N.passAt (L2N.takes_of rfl rfl rfl rfl) σ) (pa_cons (pv 0) (pa_cons (pv 1) (pa_cons (pe_glob (v := .int 64) rfl hm ⟨_, rfl⟩) pa_nil))))), ?_⟩
    exact ⟨_, rfl, _, rfl, v, l, 64, rfl, h1, h2⟩
def spLate : Sp := fun vs H Q _ => ∃ d, vs = [.int d] ∧ 1 ≤ d ∧ Q .non H
theorem sc__need_late : FnScope ["late"] ["late"] (defScope s__need_late) := ⟨rfl, rfl, rfl, by decide +kernel, rfl, by decide +kernel, by decide +kernel⟩
theorem ok__need_late (T : Ev K mg) : FnR P w K mg base CX0 1 (He.ga K "_need_late") spLate := by
  obtain ⟨fd, F⟩ := F__need_late T
  refine fnR_of (FunD.ok F sc__need_late (fun vs H Q E h => ?_) (fun cdv A outer s H vs Q E hr h => ?_)) (F.bindsN fun _ _ _ _ _ _ us hl => match us, hl with | [_], _ => rfl)
  · obtain ⟨v, rfl, _⟩ := h
    rfl
  · obtain ⟨d, rfl, h1, q⟩ := h
    refine ⟨_, pss_one (ps_if (PW.pt (pw_or (pt_val (pe_callB call_isi (by rfl) (n_isinstance T) (by decide +kernel) (pa_cons (pv 0) (pa_cons (pe_bltn (v := .ty "bool") (by rfl) (n_bool T) (by decide +kernel) rfl) pa_nil))))
        (pw_or (pt_not (pt_val (pe_callB call_isi (by rfl) (n_isinstance T) (by decide +kernel) (pa_cons (pv 0) (pa_cons (pe_bltn (v := .ty "int") (by rfl) (n_int T) (by decide +kernel) rfl) pa_nil)))))
        (pw_or1 (pt_cmpR op_lt (pv 0) pe_int (nomark _)))))) (pss_one ps_never) pss_nil), ?_⟩
    refine ⟨_, rfl, .int d, .ty "bool", .type "int", .type "bool", false, rfl, .ty _, .base (.int _), kit_ty (by decide +kernel), _, rfl, ?_⟩
    refine ifF rfl ?_
    refine ⟨_, rfl, .int d, .ty "int", .type "int", .type "int", true, rfl, .ty _, .base (.int _), kit_ty (by decide +kernel), _, rfl, ?_⟩
    refine ifF rfl ?_
    refine ⟨_, rfl, _, _, rfl, rfl, _, rfl, ?_⟩
    exact ifF (decide_eq_false (by omega)) q
theorem sc_Line_call : FnScope ["self", "late"] ["self", "late"] (defScope s_Line_call) := ⟨rfl, rfl, rfl, by decide +kernel, rfl, by decide +kernel, by decide +kernel⟩
theorem ok_Line_call (T : Ev K mg) (n : Nat) : FnR P w K mg base CX0 2 (He.ma K (He.ga K "Line") "__call__") (spRule K n 0) := by
  obtain ⟨fd, F⟩ := F_Line_call T
  refine fnR_of (FunD.ok F sc_Line_call (fun vs H Q E h => ?_) (fun cdv A outer s H vs Q E hr h => ?_)) (F.bindsN fun _ _ _ _ _ _ us hl => match us, hl with | [_, _], _ => rfl)
  · obtain ⟨a, d, sp, rfl, _⟩ := h
    rfl
  · obtain ⟨a, d, sp, rfl, hk, ha, ok, hn, hd, q⟩ := h
    refine ⟨_, pss_cons (ps_expr (pe_callF (ok__need_late T) hr (by rfl) (g__need_late T) (kpd (F__need_late T)) passN (pa_cons (pv 1) pa_nil)))
      (pss_one (ps_ret (pe_op op_add (pe_op op_mul (pe_fld (pv 0) rfl) (pv 1)) (pe_fld (pv 0) rfl)))), ?_⟩
    cases sp with
    | line sl ex =>
      obtain ⟨dx, fs, h1, h2, h3⟩ := ha
      obtain ⟨o1, o2, o3, o4⟩ := ok
      exact ⟨_, rfl, d, rfl, hd, _, rfl, _, _, _, _, _, rfl, h1, c_Line T, a_Line_slope T, h2, _, rfl, _, _, rfl, rfl, .inl ⟨by omega, by omega⟩, _, rfl, _, _, _, _, _, rfl, h1, c_Line T, a_Line_extra T, h3, _, _, rfl, rfl, q⟩
    | table ps sl => cases hk
    | both x y => cases hk
    | each x y => cases hk
theorem sc_Table_call : FnScope ["self", "late", "size"] ["self", "late"] (defScope s_Table_call) := ⟨rfl, rfl, rfl, by decide +kernel, rfl, by decide +kernel, by decide +kernel⟩
theorem ok_Table_call (T : Ev K mg) (n : Nat) : FnR P w K mg base CX0 2 (He.ma K (He.ga K "Table") "__call__") (spRule K n 1) := by
  obtain ⟨fd, F⟩ := F_Table_call T
  refine fnR_of (FunD.ok F sc_Table_call (fun vs H Q E h => ?_) (fun cdv A outer s H vs Q E hr h => ?_)) (F.bindsN fun _ _ _ _ _ _ us hl => match us, hl with | [_, _], _ => rfl)
  · obtain ⟨a, d, sp, rfl, _⟩ := h
    rfl
  · obtain ⟨a, d, sp, rfl, hk, ha, ok, hn, hd, q⟩ := h
    refine ⟨_, pss_cons (ps_expr (pe_callF (ok__need_late T) hr (by rfl) (g__need_late T) (kpd (F__need_late T)) passN (pa_cons (pv 1) pa_nil)))
      (pss_cons (ps_set (i := 2) sc_Table_call.nd rfl (.inl rfl) (pe_callB call_len_seq (by rfl) (n_len T) PySem.boot_len (pa_cons (pe_fld (pv 0) rfl) pa_nil)))
      (pss_cons (ps_if (pt_cmpR op_le (pv 1) (pv 2) (nomark _)) (pss_one (ps_ret (pe_ix ix_tup (pe_fld (pv 0) rfl) (pe_op op_sub (pv 1) pe_int) (fun _ _ => rfl)))) pss_nil)
      (pss_one (ps_ret (pe_op op_add (pe_ix ix_tup (pe_fld (pv 0) rfl) (pe_op op_sub (pv 2) pe_int) (fun _ _ => rfl)) (pe_op op_mul (pe_fld (pv 0) rfl) (pe_op op_sub (pv 1) (pv 2)))))))), ?_⟩
    cases sp with
    | table ps sl =>
      obtain ⟨dx, fs, t, h1, h2, h3, h4⟩ := ha
      obtain ⟨o1, o2, o3, o4, o5, o6, o7⟩ := ok
      have at_ : ∀ i : Nat, i < ps.length → (ps.map V.int)[i]? = some (.int (ps.getD i 0)) := fun i hi => by
        rw [List.getElem?_map, List.getElem?_eq_getElem hi, List.getD_eq_getElem?_getD, List.getElem?_eq_getElem hi]
        rfl
      have q' : Q (.int (if d ≤ (ps.length : Int) then ps.getD (d - 1).toNat 0 else ps.getD (ps.length - 1) 0 + sl * (d - ps.length))) H := q
      refine ⟨_, rfl, d, rfl, hd, _, rfl, _, _, _, _, _, rfl, h1, c_Table T, a_Table_prices T, h2, t, _, rfl, .inr (SqT.of h4), ?_⟩
      rw [List.length_map]
      refine ⟨_, rfl, _, rfl, _, _, rfl, rfl, _, rfl, ite2 (fun e => ?_) (fun e => ?_)⟩
      · have e' := of_decide_eq_true e
        rw [if_pos e'] at q'
        refine ⟨_, rfl, _, _, _, _, _, rfl, h1, c_Table T, a_Table_prices T, h2, _, rfl, _, _, rfl, rfl, t, _, _, _, rfl, rfl, SqT.of h4, ?_, q'⟩
        have z : d - 1 = (((d - 1).toNat : Nat) : Int) := by omega
        rw [z]
        exact atI_nat (at_ _ (by omega))
      · have e' := of_decide_eq_false (Bool.eq_false_iff.mpr e)
        rw [if_neg e'] at q'
        refine ⟨_, rfl, _, _, _, _, _, rfl, h1, c_Table T, a_Table_prices T, h2, _, rfl, _, _, rfl, rfl, t, _, _, .int (ps.getD (ps.length - 1) 0), rfl, rfl, SqT.of h4, ?_, ?_⟩
        · have z : (ps.length : Int) - 1 = ((ps.length - 1 : Nat) : Int) := by omega
          rw [z]
          exact atI_nat (at_ _ (by omega))
        · exact ⟨_, rfl, _, _, _, _, _, rfl, h1, c_Table T, a_Table_slope T, h3, _, rfl, _, rfl, _, _, rfl, rfl, _, _, rfl, rfl, .inl ⟨by omega, by omega⟩, _, _, rfl, rfl, q'⟩
    | line ps sl => cases hk
    | both x y => cases hk
    | each x y => cases hk
end
end K12
set_option Elab.async false
set_option linter.all false
set_option maxRecDepth 100000
set_option maxHeartbeats 4000000
/-! Lesser, Greater, the makers. -/
namespace K12
open PySem PySem.Spec PyProof.Rows L2 K12M
open PySem.W (Frag)
theorem put1 (f : Str) (y : V) : (putF f y []).length < 1000 := by
  have h := length_putF f y []
  simp at h
  omega
section
variable {P : Program} {w : World} {K : Frag} {mg : Str → Option Value} {base : Heap}
theorem sc_Lesser_call : FnScope ["self", "late"] ["self", "late"] (defScope s_Lesser_call) := ⟨rfl, rfl, rfl, by decide +kernel, rfl, by decide +kernel, by decide +kernel⟩
theorem ok_Lesser_call (T : Ev K mg) {n k : Nat} (R : RulesOk P w K mg base n k) : FnR P w K mg base CX0 (k + 1) (He.ma K (He.ga K "Lesser") "__call__") (spRule K (n + 1) 2) := by
  obtain ⟨fd, F⟩ := F_Lesser_call T
  refine fnR_of (FunD.ok F sc_Lesser_call (fun vs H Q E h => ?_) (fun cdv A outer s H vs Q E hr h => ?_)) (F.bindsN fun _ _ _ _ _ _ us hl => match us, hl with | [_, _], _ => rfl)
  · obtain ⟨a, d, sp, rfl, _⟩ := h
    rfl
  · obtain ⟨a, d, sp, rfl, hk, ha, ok, hn, hd, q⟩ := h
    refine ⟨_, pss_one (ps_ret (pe_callB (call_min2 rfl) (by rfl) (n_min T) (by decide +kernel) (pa_cons (pe_fldrule T R hr (pv 0) (pv 1)) (pa_cons (pe_fldrule T R hr (pv 0) (pv 1)) pa_nil)))), ?_⟩
    cases sp with
    | both x y =>
      obtain ⟨dx, fs, p1, p2, h1, h2, h3, h4, h5⟩ := ha
      have hn' : max x.depth y.depth + 1 ≤ n + 1 := hn
      refine ⟨_, rfl, a, _, dx, fs, p1, rfl, h1, c_Lesser T, a_Lesser__one T, h2, _, rfl, d, x, rfl, h4, ok.1, by omega, hd, _, rfl, a, _, dx, fs, p2, rfl, h1, c_Lesser T, a_Lesser__other T, h3, _, rfl, d, y, rfl, h5, ok.2, by omega, hd, _, _, rfl, ?_⟩
      have e : (if y.price d < x.price d then y.price d else x.price d) = (if x.price d < y.price d then x.price d else y.price d) := by split <;> split <;> omega
      rw [e]
      exact q
    | line ps sl => cases hk
    | table x y => cases hk
    | each x y => cases hk
theorem sc_Greater_call : FnScope ["self", "late"] ["self", "late"] (defScope s_Greater_call) := ⟨rfl, rfl, rfl, by decide +kernel, rfl, by decide +kernel, by decide +kernel⟩
theorem ok_Greater_call (T : Ev K mg) {n k : Nat} (R : RulesOk P w K mg base n k) : FnR P w K mg base CX0 (k + 1) (He.ma K (He.ga K "Greater") "__call__") (spRule K (n + 1) 3) := by
  obtain ⟨fd, F⟩ := F_Greater_call T
  refine fnR_of (FunD.ok F sc_Greater_call (fun vs H Q E h => ?_) (fun cdv A outer s H vs Q E hr h => ?_)) (F.bindsN fun _ _ _ _ _ _ us hl => match us, hl with | [_, _], _ => rfl)
  · obtain ⟨a, d, sp, rfl, _⟩ := h
    rfl
  · obtain ⟨a, d, sp, rfl, hk, ha, ok, hn, hd, q⟩ := h
    refine ⟨_, pss_one (ps_ret (pe_callB (call_max2 rfl) (by rfl) (n_max T) (by decide +kernel) (pa_cons (pe_fldrule T R hr (pv 0) (pv 1)) (pa_cons (pe_fldrule T R hr (pv 0) (pv 1)) pa_nil)))), ?_⟩
    cases sp with
    | each x y =>
      obtain ⟨dx, fs, p1, p2, h1, h2, h3, h4, h5⟩ := ha
      have hn' : max x.depth y.depth + 1 ≤ n + 1 := hn
      refine ⟨_, rfl, a, _, dx, fs, p1, rfl, h1, c_Greater T, a_Greater__one T, h2, _, rfl, d, x, rfl, h4, ok.1, by omega, hd, _, rfl, a, _, dx, fs, p2, rfl, h1, c_Greater T, a_Greater__other T, h3, _, rfl, d, y, rfl, h5, ok.2, by omega, hd, _, _, rfl, ?_⟩
      exact q
    | line ps sl => cases hk
    | table x y => cases hk
    | both x y => cases hk
theorem rules_ok (T : Ev K mg) : ∀ n, RulesOk P w K mg base n (n + 2)
  | 0, 0, _ => ok_Line_call T 0
  | 0, 1, _ => ok_Table_call T 0
  | 0, 2, _ => fun A outer s H us vs Q E hr e0 r hs => by
    obtain ⟨a, d, sp, rfl, hk, ha, ok, hn, _⟩ := hs
    cases sp with
    | both x y => exact absurd (show max x.depth y.depth + 1 ≤ 0 from hn) (by omega)
    | line _ _ => cases hk
    | table _ _ => cases hk
    | each _ _ => cases hk
  | 0, 3, _ => fun A outer s H us vs Q E hr e0 r hs => by
    obtain ⟨a, d, sp, rfl, hk, ha, ok, hn, _⟩ := hs
    cases sp with
    | each x y => exact absurd (show max x.depth y.depth + 1 ≤ 0 from hn) (by omega)
    | line _ _ => cases hk
    | table _ _ => cases hk
    | both _ _ => cases hk
  | n + 1, 0, _ => (ok_Line_call T (n + 1)).mono (by omega)
  | n + 1, 1, _ => (ok_Table_call T (n + 1)).mono (by omega)
  | n + 1, 2, _ => ok_Lesser_call T (rules_ok T n)
  | n + 1, 3, _ => ok_Greater_call T (rules_ok T n)
  | _, _ + 4, h => absurd h (by omega)
/-! ### the makers -/
def ButAt (x : Addr) (H H' : Hp) : Prop := ∀ b o, H b = some o → b ≠ x → H' b = some o
def spLineI (K : Frag) : Sp := fun vs H Q _ => ∃ x dx s e, vs = [.ref x, .int s, .int e] ∧ H x = some (.ins (He.ga K "Line") dx []) ∧ 1 ≤ s ∧ 1 ≤ s + e ∧ ∀ H', ButAt x H H' → RuleAt K H' (.line s e) x → Q .non H'
theorem sc_Line_init : FnScope ["self", "slope", "extra"] ["self", "slope", "extra"] (defScope s_Line_init) := ⟨rfl, rfl, rfl, by decide +kernel, rfl, by decide +kernel, by decide +kernel⟩
theorem ok_Line_init (T : Ev K mg) : FnR P w K mg base CX0 1 (He.ma K (He.ga K "Line") "__init__") (spLineI K) := by
  obtain ⟨fd, F⟩ := F_Line_init T
  refine fnR_of (FunD.ok F sc_Line_init (fun vs H Q E h => ?_) (fun cdv A outer s H vs Q E hr h => ?_)) (F.bindsN fun _ _ _ _ _ _ us hl => match us, hl with | [_, _, _], _ => rfl)
  · obtain ⟨x, dx, s, e, rfl, _⟩ := h
    rfl
  · obtain ⟨x, dx, sl, ex, rfl, hx, h1, h2, q⟩ := h
    refine ⟨_, pss_cons (ps_if (PW.pt (pw_or (pt_cmpR op_lt (pv 1) pe_int (nomark _)) (pw_or1 (pt_cmpR op_lt (pe_op op_add (pv 1) (pv 2)) pe_int (nomark _))))) (pss_one ps_never) pss_nil)
      (pss_cons (ps_fld (pv 0) (pv 1) rfl) (pss_one (ps_fld (pv 0) (pv 2) rfl))), ?_⟩
    refine ⟨_, rfl, _, _, rfl, rfl, _, rfl, ?_⟩
    refine ifF (decide_eq_false (by omega)) ?_
    refine ⟨_, rfl, _, rfl, _, _, rfl, rfl, _, _, rfl, rfl, _, rfl, ?_⟩
    refine ifF (decide_eq_false (by omega)) ?_
    refine ⟨_, rfl, _, rfl, x, _, dx, _, rfl, hx, c_Line T, a_Line_slope T, by decide, ?_⟩
    refine ⟨_, rfl, _, rfl, x, _, dx, _, rfl, upd_same, c_Line T, a_Line_extra T, put1 _ _, ?_⟩
    refine q _ (fun b o hb ne => ?_) ⟨dx, _, upd_same, ?_, ?_⟩
    · rw [upd_ne ne, upd_ne ne]
      exact hb
    · rw [lookup_putF, if_neg (by decide), lookup_putF, if_pos rfl]
    · rw [lookup_putF, if_pos rfl]
def spPairI (K : Frag) (C : Addr) : Sp := fun vs H Q _ => ∃ x dx p q, vs = [.ref x, .ref p, .ref q] ∧ H x = some (.ins C dx []) ∧ ∀ H' fs, ButAt x H H' → H' x = some (.ins C dx fs) → fs.lookup ("_one" : Str) = some (.ref p) → fs.lookup ("_other" : Str) = some (.ref q) → Q .non H'
theorem sc_Lesser_init : FnScope ["self", "one", "other"] ["self", "one", "other"] (defScope s_Lesser_init) := ⟨rfl, rfl, rfl, by decide +kernel, rfl, by decide +kernel, by decide +kernel⟩
theorem ok_Lesser_init (T : Ev K mg) : FnR P w K mg base CX0 1 (He.ma K (He.ga K "Lesser") "__init__") (spPairI K (He.ga K "Lesser")) := by
  obtain ⟨fd, F⟩ := F_Lesser_init T
  refine fnR_of (FunD.ok F sc_Lesser_init (fun vs H Q E h => ?_) (fun cdv A outer s H vs Q E hr h => ?_)) (F.bindsN fun _ _ _ _ _ _ us hl => match us, hl with | [_, _, _], _ => rfl)
  · obtain ⟨x, dx, s, e, rfl, _⟩ := h
    rfl
  · obtain ⟨x, dx, p1, p2, rfl, hx, q⟩ := h
    refine ⟨_, pss_cons (ps_fld (pv 0) (pv 1) rfl) (pss_one (ps_fld (pv 0) (pv 2) rfl)), ?_⟩
    refine ⟨_, rfl, _, rfl, x, _, dx, _, rfl, hx, c_Lesser T, a_Lesser__one T, by decide, ?_⟩
    refine ⟨_, rfl, _, rfl, x, _, dx, _, rfl, upd_same, c_Lesser T, a_Lesser__other T, put1 _ _, ?_⟩
    refine q _ _ (fun b o hb ne => ?_) upd_same ?_ ?_
    · rw [upd_ne ne, upd_ne ne]
      exact hb
    · rw [lookup_putF, if_neg (by decide), lookup_putF, if_pos rfl]
    · rw [lookup_putF, if_pos rfl]
theorem sc_Greater_init : FnScope ["self", "one", "other"] ["self", "one", "other"] (defScope s_Greater_init) := ⟨rfl, rfl, rfl, by decide +kernel, rfl, by decide +kernel, by decide +kernel⟩
theorem ok_Greater_init (T : Ev K mg) : FnR P w K mg base CX0 1 (He.ma K (He.ga K "Greater") "__init__") (spPairI K (He.ga K "Greater")) := by
  obtain ⟨fd, F⟩ := F_Greater_init T
  refine fnR_of (FunD.ok F sc_Greater_init (fun vs H Q E h => ?_) (fun cdv A outer s H vs Q E hr h => ?_)) (F.bindsN fun _ _ _ _ _ _ us hl => match us, hl with | [_, _, _], _ => rfl)
  · obtain ⟨x, dx, s, e, rfl, _⟩ := h
    rfl
  · obtain ⟨x, dx, p1, p2, rfl, hx, q⟩ := h
    refine ⟨_, pss_cons (ps_fld (pv 0) (pv 1) rfl) (pss_one (ps_fld (pv 0) (pv 2) rfl)), ?_⟩
    refine ⟨_, rfl, _, rfl, x, _, dx, _, rfl, hx, c_Greater T, a_Greater__one T, by decide, ?_⟩
    refine ⟨_, rfl, _, rfl, x, _, dx, _, rfl, upd_same, c_Greater T, a_Greater__other T, put1 _ _, ?_⟩
    refine q _ _ (fun b o hb ne => ?_) upd_same ?_ ?_
    · rw [upd_ne ne, upd_ne ne]
      exact hb
    · rw [lookup_putF, if_neg (by decide), lookup_putF, if_pos rfl]
    · rw [lookup_putF, if_pos rfl]
/-- a & b; a | b -/
def spBoth (K : Frag) : Sp := fun vs H Q _ => ∃ a b s1 s2, vs = [.ref a, .ref b] ∧ RuleAt K H s1 a ∧ RuleAt K H s2 b ∧ ∀ H' c, Same H H' → RuleAt K H' (.both s1 s2) c → Q (.ref c) H'
def spEach (K : Frag) : Sp := fun vs H Q _ => ∃ a b s1 s2, vs = [.ref a, .ref b] ∧ RuleAt K H s1 a ∧ RuleAt K H s2 b ∧ ∀ H' c, Same H H' → RuleAt K H' (.each s1 s2) c → Q (.ref c) H'
theorem sc_Rule_and : FnScope ["self", "other"] ["self", "other"] (defScope s_Rule_and) := ⟨rfl, rfl, rfl, by decide +kernel, rfl, by decide +kernel, by decide +kernel⟩
theorem ok_Rule_and (T : Ev K mg) : FnR P w K mg base CX0 3 (He.ma K (He.ga K "Rule") "__and__") (spBoth K) := by
  obtain ⟨fd, F⟩ := F_Rule_and T
  refine fnR_of (FunD.ok F sc_Rule_and (fun vs H Q E h => ?_) (fun cdv A outer s H vs Q E hr h => ?_)) (F.bindsN fun _ _ _ _ _ _ us hl => match us, hl with | [_, _], _ => rfl)
  · obtain ⟨a, b, s1, s2, rfl, _⟩ := h
    rfl
  · obtain ⟨a, b, s1, s2, rfl, h1, h2, q⟩ := h
    refine ⟨_, pss_one (ps_ret (StX.pe_makeR (E := fun _ _ _ => False) (m_Lesser T) (ok_Lesser_init T) hr (by rfl) (g_Lesser T) pass0 (pa_cons (pv 0) (pa_cons (pv 1) pa_nil)))), ?_⟩
    refine ⟨_, rfl, _, rfl, fun x dx nx nd ne => ⟨x, dx, a, b, rfl, upd_same, fun H' fs but hx f1 f2 => ⟨rfl, ?_⟩⟩⟩
    have sm : Same H H' := Same.made nx nd but
    exact q H' x sm ⟨dx, fs, a, b, hx, f1, f2, h1.stil (stil_of sm), h2.stil (stil_of sm)⟩
theorem sc_Rule_or : FnScope ["self", "other"] ["self", "other"] (defScope s_Rule_or) := ⟨rfl, rfl, rfl, by decide +kernel, rfl, by decide +kernel, by decide +kernel⟩
theorem ok_Rule_or (T : Ev K mg) : FnR P w K mg base CX0 3 (He.ma K (He.ga K "Rule") "__or__") (spEach K) := by
  obtain ⟨fd, F⟩ := F_Rule_or T
  refine fnR_of (FunD.ok F sc_Rule_or (fun vs H Q E h => ?_) (fun cdv A outer s H vs Q E hr h => ?_)) (F.bindsN fun _ _ _ _ _ _ us hl => match us, hl with | [_, _], _ => rfl)
  · obtain ⟨a, b, s1, s2, rfl, _⟩ := h
    rfl
  · obtain ⟨a, b, s1, s2, rfl, h1, h2, q⟩ := h
    refine ⟨_, pss_one (ps_ret (StX.pe_makeR (E := fun _ _ _ => False) (m_Greater T) (ok_Greater_init T) hr (by rfl) (g_Greater T) pass0 (pa_cons (pv 0) (pa_cons (pv 1) pa_nil)))), ?_⟩
    refine ⟨_, rfl, _, rfl, fun x dx nx nd ne => ⟨x, dx, a, b, rfl, upd_same, fun H' fs but hx f1 f2 => ⟨rfl, ?_⟩⟩⟩
    have sm : Same H H' := Same.made nx nd but
    exact q H' x sm ⟨dx, fs, a, b, hx, f1, f2, h1.stil (stil_of sm), h2.stil (stil_of sm)⟩
/-! ### Table -/
theorem get_ps {ps : List Int} {i : Nat} (hi : i < ps.length) : (ps.map V.int)[i]? = some (.int (ps.getD i 0)) := by
  rw [List.getElem?_map, List.getElem?_eq_getElem hi, List.getD_eq_getElem?_getD, List.getElem?_eq_getElem hi]
  rfl
def spAsc : Sp := fun vs H Q _ => ∃ t ps, vs = [.ref t] ∧ H t = some (.tup (ps.map V.int)) ∧ 1 ≤ ps.length ∧ ps.length ≤ 64 ∧ Asc ps ∧ 1 ≤ ps.getD 0 0 ∧ Q (.bl true) H
theorem sc__ascending : FnScope ["prices", "at"] ["prices"] (defScope s__ascending) := ⟨rfl, rfl, rfl, by decide +kernel, rfl, by decide +kernel, by decide +kernel⟩
theorem ok__ascending (T : Ev K mg) : FnR P w K mg base CX0 1 (He.ga K "_ascending") spAsc := by
  obtain ⟨fd, F⟩ := F__ascending T
  refine fnR_of (FunD.ok F sc__ascending (fun vs H Q E h => ?_) (fun cdv A outer s H vs Q E hr h => ?_)) (F.bindsN fun _ _ _ _ _ _ us hl => match us, hl with | [_], _ => rfl)
  · obtain ⟨t, ps, rfl, _⟩ := h
    rfl
  · obtain ⟨t, ps, rfl, ht, l1, l2, asc, p1, q⟩ := h
    refine ⟨_, pss_cons (ps_if (PW.pt (pw_or (pt_not (pt_truth (pv 0) (by intro _; rfl))) (pw_or1 (pt_cmpR op_lt (pe_ix ix_tup (pv 0) pe_int (fun _ _ => rfl)) pe_int (nomark _))))) (pss_one ps_never) pss_nil)
      (pss_cons (ps_for (passes_of rfl) rfl (pi_range2 (by rfl) (n_range T) (pa_cons pe_int (pa_cons (pe_callB call_len_seq (by rfl) (n_len T) PySem.boot_len (pa_cons (pv 0) pa_nil)) pa_nil))) (pg_name (i := 1) sc__ascending.nd rfl (.inl rfl))
        (pss_one (ps_if (pt_cmpR op_le (pe_ix ix_tup (pv 0) (pv 1) (fun _ _ => rfl)) (pe_ix ix_tup (pv 0) (pe_op op_sub (pv 1) pe_int) (fun _ _ => rfl)) (nomark _)) (pss_one ps_never) pss_nil)))
      (pss_one (ps_ret pe_bl))), ?_⟩
    refine ⟨_, rfl, true, .inr (.inl ⟨_, SqT.of ht, ?_⟩), ?_⟩
    · cases ps with
      | nil => simp at l1
      | cons a r => rfl
    refine ifF rfl ?_
    refine ⟨_, rfl, t, _, 0, _, rfl, rfl, SqT.of ht, atI_nat (j := 0) (get_ps (by omega)), _, _, rfl, rfl, _, rfl, ?_⟩
    refine ifF (decide_eq_false (by omega)) ?_
    refine ⟨_, rfl, t, _, rfl, .inr (SqT.of ht), 1, _, rfl, ⟨by decide, by decide, by rw [List.length_map]; omega, by rw [List.length_map]; omega⟩, ?_⟩
    refine for_range (lo := 1) (fun i σ H' => H' = H ∧ ∃ v, σ = [some (.ref t), v]) ⟨rfl, none, rfl⟩ ?_ ?_
    · rintro i σ H' hi ⟨rfl, v, rfl⟩
      rw [List.length_map] at hi
      have hi' : i + 1 < ps.length := by omega
      refine ⟨_, rfl, _, rfl, t, _, 1 + (i : Int), .int (ps.getD (i + 1) 0), rfl, rfl, SqT.of ht, ?_, _, rfl, _, rfl, _, _, rfl, rfl, t, _, 1 + (i : Int) - 1, .int (ps.getD i 0), rfl, rfl, SqT.of ht, ?_, _, _, rfl, rfl, _, rfl, ?_⟩
      · rw [show 1 + (i : Int) = ((i + 1 : Nat) : Int) by omega]
        exact atI_nat (get_ps hi')
      · rw [show 1 + (i : Int) - 1 = ((i : Nat) : Int) by omega]
        exact atI_nat (get_ps (by omega))
      · refine ifF (decide_eq_false ?_) ⟨rfl, _, rfl⟩
        have := asc i hi'
        omega
    · rintro σ H' ⟨rfl, v, rfl⟩
      exact q
def spTableI (K : Frag) : Sp := fun vs H Q _ => ∃ x dx p ps s, vs = [.ref x, .ref p, .int s] ∧ H x = some (.ins (He.ga K "Table") dx []) ∧ (H p = some (.tup (ps.map V.int)) ∨ H p = some (.lst (ps.map V.int))) ∧ 1 ≤ ps.length ∧ ps.length ≤ 64 ∧ Asc ps ∧ 1 ≤ ps.getD 0 0 ∧ 1 ≤ s ∧
  ∀ H', ButAt x H H' → RuleAt K H' (.table ps s) x → Q .non H'
theorem sc_Table_init : FnScope ["self", "prices", "slope", "row"] ["self", "prices", "slope"] (defScope s_Table_init) := ⟨rfl, rfl, rfl, by decide +kernel, rfl, by decide +kernel, by decide +kernel⟩
theorem ok_Table_init (T : Ev K mg) {fd : FuncData} (F : FunD K "__init__" "Table.__init__" (defArgs s_Table_init) (defBody s_Table_init) (defScope s_Table_init) [] [("slope", .int 1)] (He.ma K (He.ga K "Table") "__init__") fd) :
    FnOk P w K mg base CX0 2 (He.ma K (He.ga K "Table") "__init__") fd ["self", "prices", "slope"] (spTableI K) := by
  refine FunD.ok F sc_Table_init (fun vs H Q E h => ?_) (fun cdv A outer s H vs Q E hr h => ?_)
  · obtain ⟨x, dx, p, ps, s, rfl, _⟩ := h
    rfl
  · obtain ⟨x, dx, p, ps, sl, rfl, hx, hp, l1, l2, asc, p1, s1, q⟩ := h
    refine ⟨_, pss_cons (ps_set (i := 3) sc_Table_init.nd rfl (.inl rfl) (pe_callTy call_tuple_of (by rfl) (n_tuple T) (by decide +kernel) (pa_cons (pv 1) pa_nil)))
      (pss_cons (ps_if (pt_not (pt_val (pe_callF (ok__ascending T) hr (by rfl) (g__ascending T) (kpd (F__ascending T)) passN (pa_cons (pv 3) pa_nil)))) (pss_one ps_never) pss_nil)
      (pss_cons (ps_if (pt_cmpR op_lt (pv 2) pe_int (nomark _)) (pss_one ps_never) pss_nil)
      (pss_cons (ps_fld (pv 0) (pv 3) rfl) (pss_one (ps_fld (pv 0) (pv 2) rfl))))), ?_⟩
    have rest : ∀ (t : Addr) (H1 : Hp), Same H H1 → H1 t = some (.tup (ps.map V.int)) → ∃ (H2 : Hp), H2 = H1 := fun t H1 _ _ => ⟨H1, rfl⟩
    rcases hp with hp | hp
    · refine ⟨_, rfl, p, _, rfl, .inr ⟨SqT.of hp, ?_⟩⟩
      refine ⟨_, rfl, p, ps, rfl, hp, l1, l2, asc, p1, true, rfl, ?_⟩
      refine ifF rfl ?_
      refine ⟨_, rfl, _, _, rfl, rfl, _, rfl, ?_⟩
      refine ifF (decide_eq_false (by omega)) ?_
      refine ⟨_, rfl, _, rfl, x, _, dx, _, rfl, hx, c_Table T, a_Table_prices T, by decide, ?_⟩
      refine ⟨_, rfl, _, rfl, x, _, dx, _, rfl, upd_same, c_Table T, a_Table_slope T, put1 _ _, ?_⟩
      refine q _ (fun b o hb ne => ?_) ⟨dx, _, p, upd_same, ?_, ?_, ?_⟩
      · rw [upd_ne ne, upd_ne ne]
        exact hb
      · rw [lookup_putF, if_neg (by decide), lookup_putF, if_pos rfl]
      · rw [lookup_putF, if_pos rfl]
      · have ne : p ≠ x := ne_of hp hx (by intro z; cases z)
        rw [upd_ne ne, upd_ne ne]
        exact hp
    · refine ⟨_, rfl, p, _, rfl, .inl ⟨SqL.of hp, fun t nt => ?_⟩⟩
      have hx1 : (upd H t (.tup (ps.map V.int))) x = some (.ins (He.ga K "Table") dx []) := same_new nt _ _ hx
      have htx : t ≠ x := (ne_of_none hx nt).symm
      refine ⟨_, rfl, t, ps, rfl, upd_same, l1, l2, asc, p1, true, rfl, ?_⟩
      refine ifF rfl ?_
      refine ⟨_, rfl, _, _, rfl, rfl, _, rfl, ?_⟩
      refine ifF (decide_eq_false (by omega)) ?_
      refine ⟨_, rfl, _, rfl, x, _, dx, _, rfl, hx1, c_Table T, a_Table_prices T, by decide, ?_⟩
      refine ⟨_, rfl, _, rfl, x, _, dx, _, rfl, upd_same, c_Table T, a_Table_slope T, put1 _ _, ?_⟩
      refine q _ (fun b o hb ne => ?_) ⟨dx, _, t, upd_same, ?_, ?_, ?_⟩
      · rw [upd_ne ne, upd_ne ne]
        exact same_new nt _ _ hb
      · rw [lookup_putF, if_neg (by decide), lookup_putF, if_pos rfl]
      · rw [lookup_putF, if_pos rfl]
      · rw [upd_ne htx, upd_ne htx, upd_same]
/-- Table(prices): the slope's default -/
theorem ok_Table_initR (T : Ev K mg) : FnR P w K mg base CX0 2 (He.ma K (He.ga K "Table") "__init__") (fun vs H Q E => spTableI K (vs ++ [.int 1]) H Q E) := by
  obtain ⟨fd, F⟩ := F_Table_init T
  obtain ⟨ds, hv, hb⟩ := F.binds0 (ps := ["self", "prices", "slope"]) 2 (by decide) rfl (fun _ _ _ _ _ _ us ks h1 h2 => match us, ks, h1, h2 with | [_, _], [_], _, _ => ⟨_, _, _, _, _, _, rfl, rfl, rfl⟩)
  exact (ok_Table_init T F).raw hb hv
/-- Table(prices, slope=s) -/
theorem ok_Table_initK (T : Ev K mg) : ∃ fd, FnOk P w K mg base CX0 2 (He.ma K (He.ga K "Table") "__init__") fd ["self", "prices", "slope"] (spTableI K) ∧ KBn K fd ["self", "prices", "slope"] 2 ["slope"] (fun us ws => us ++ ws) (fun vs zs => vs ++ zs) := by
  obtain ⟨fd, F⟩ := F_Table_init T
  refine ⟨fd, ok_Table_init T F, ?_⟩
  obtain ⟨mv, hk⟩ := F.kbinds0 (ps := ["self", "prices", "slope"]) 2 ["slope"] [] (fun us _ ws => us ++ ws) (by decide) (fun _ h => by cases h) (fun r1 _ r3 => r1.append r3)
    (fun _ _ _ _ _ _ us mv ws h1 h2 h3 => match us, mv, ws, h1, h2, h3 with | [_, _], [], [_], _, _, _ => rfl)
  exact hk
end
end K12
set_option Elab.async false
set_option linter.all false
set_option maxRecDepth 100000
set_option maxHeartbeats 4000000
/-! reach_table, letter_of, phase_letter, phase_count. -/
namespace K12
open PySem PySem.Spec PyProof.Rows L2 K12M
open PySem.W (Frag)
theorem small_pow {x : Int} {k : Nat} (h0 : 0 ≤ x) (h : x ≤ (2 : Int) ^ (31 * k)) (hk : k ≤ 66) : x.natAbs < 2 ^ 2100 := by
  have e : ((2 : Int) ^ (31 * k)) = ((2 ^ (31 * k) : Nat) : Int) := by norm_cast
  rw [e] at h
  have h1 : x.natAbs ≤ 2 ^ (31 * k) := by omega
  have h2 : 2 ^ (31 * k) < 2 ^ 2100 := Nat.pow_lt_pow_right (by decide) (by omega)
  omega
/-- a row -/
def row3v (s : K12M.Spec) (i : Nat) : List V := [.int (reach s i), .int (len s i), .int (times s i)]
/-- the rows 0 .. n at a -/
def RowsAt (H : Hp) (a : Addr) (s : K12M.Spec) (n : Nat) : Prop := ∃ xs : List V, H a = some (.lst xs) ∧ xs.length = n + 1 ∧ ∀ i, i ≤ n → ∃ t, xs[i]? = some (.ref t) ∧ H t = some (.tup (row3v s i))
theorem RowsAt.keep {H H' : Hp} {a : Addr} {s : K12M.Spec} {n : Nat} (h : RowsAt H a s n) (k : Stil H H') (ka : ∀ xs, H a = some (.lst xs) → H' a = some (.lst xs)) : RowsAt H' a s n := by
  obtain ⟨xs, h1, h2, h3⟩ := h
  refine ⟨xs, ka _ h1, h2, fun i hi => ?_⟩
  obtain ⟨t, e, ht⟩ := h3 i hi
  exact ⟨t, e, k _ _ ht (fun _ z => by cases z)⟩
theorem RowsAt.same {H H' : Hp} {a : Addr} {s : K12M.Spec} {n : Nat} (h : RowsAt H a s n) (k : Same H H') : RowsAt H' a s n := h.keep (stil_of k) fun _ e => k _ _ e
section
variable {P : Program} {w : World} {K : Frag} {mg : Str → Option Value} {base : Heap}
/-! ### letter_of -/
def spLetter : Sp := fun vs H Q _ => ∃ a s n l ax, vs = [.ref a, .int ((l : Nat) : Int), .int ax] ∧ RowsAt H a s n ∧ s.Ok ∧ 1 ≤ l ∧ l ≤ n ∧ l ≤ 64 ∧ 1 ≤ ax ∧ ax ≤ len s l ∧ Q (.int (letter s l ax)) H
theorem sc_letter_of : FnScope ["table", "level", "at", "inner", "block"] ["table", "level", "at"] (defScope s_letter_of) := ⟨rfl, rfl, rfl, by decide +kernel, rfl, by decide +kernel, by decide +kernel⟩
theorem ok_letter_of (T : Ev K mg) : FnR P w K mg base CX0 1 (He.ga K "letter_of") spLetter := by
  obtain ⟨fd, F⟩ := F_letter_of T
  refine fnR_of (FunD.ok F sc_letter_of (fun vs H Q E h => ?_) (fun cdv A outer s H vs Q E hr h => ?_)) (F.bindsN fun _ _ _ _ _ _ us hl => match us, hl with | [_, _, _], _ => rfl)
  · obtain ⟨a, s, n, l, ax, rfl, _⟩ := h
    rfl
  · obtain ⟨a, sp, n, l0, a0, rfl, hR, ok, l1, ln, l64, a1, a2, q⟩ := h
    obtain ⟨t, hm⟩ := i_STILL T
    refine ⟨_, pss_cons (ps_while (passes_of rfl) (pt_cmpR op_lt (pv 2) (pe_ix ix_tup (pe_ix ix_list (pv 0) (pv 1) (fun _ _ => rfl)) pe_int (fun _ _ => rfl)) (nomark _))
        (pss_cons (ps_if (pt_cmpR op_eq (pv 1) pe_int (nomark _)) (pss_one (ps_ret (pe_glob (v := .int (-1)) rfl hm ⟨_, rfl⟩))) pss_nil)
        (pss_cons (ps_set (i := 3) sc_letter_of.nd rfl (.inl rfl) (pe_ix ix_tup (pe_ix ix_list (pv 0) (pe_op op_sub (pv 1) pe_int) (fun _ _ => rfl)) pe_int (fun _ _ => rfl)))
        (pss_cons (ps_set (i := 4) sc_letter_of.nd rfl (.inl rfl) (pe_op op_mulW (pe_ix ix_tup (pe_ix ix_list (pv 0) (pv 1) (fun _ _ => rfl)) pe_int (fun _ _ => rfl)) (pv 3)))
        (pss_one (ps_if (pt_cmpR op_le (pv 2) (pv 4) (nomark _))
          (pss_cons (ps_set (i := 2) sc_letter_of.nd rfl (.inl rfl) (pe_op op_add (pe_op op_mod (pe_op op_sub (pv 2) pe_int) (pv 3)) pe_int)) (pss_one (ps_set (i := 1) sc_letter_of.nd rfl (.inl rfl) (pe_op op_sub (pv 1) pe_int))))
          (pss_cons (ps_set (i := 2) sc_letter_of.nd rfl (.inl rfl) (pe_op op_sub (pv 2) (pv 4))) (pss_one (ps_set (i := 1) sc_letter_of.nd rfl (.inl rfl) (pe_op op_sub (pv 1) pe_int)))))))))) (pss_one (ps_ret (pv 1))), ?_⟩
    obtain ⟨xs, hx, hl, hrow⟩ := hR
    refine ⟨fun m σ H' => H' = H ∧ ∃ (lv : Nat) (ax : Int) (v3 v4 : Option V), m = lv ∧ σ = [some (.ref a), some (.int (lv : Int)), some (.int ax), v3, v4] ∧ 1 ≤ lv ∧ lv ≤ l0 ∧ 1 ≤ ax ∧ ax ≤ len sp lv ∧ letter sp lv ax = letter sp l0 a0, ⟨l0, rfl, l0, a0, none, none, rfl, rfl, l1, Nat.le_refl _, a1, a2, rfl⟩, ?_⟩
    rintro m σ H' ⟨rfl, lv, ax, v3, v4, rfl, rfl, h1, h2, h3, h4, h5⟩
    obtain ⟨tt, et, ht⟩ := hrow m (by omega)
    refine ⟨_, rfl, _, rfl, _, rfl, a, xs, _, _, rfl, rfl, SqL.of hx, atI_nat et, tt, _, 1, _, rfl, rfl, SqT.of ht, atI_nat (j := 1) rfl, _, _, rfl, rfl, _, rfl, ?_⟩
    refine ite2 (fun e => ?_) (fun e => ?_)
    · have e' := of_decide_eq_true e
      have m2 : 2 ≤ m := by
        rcases Nat.lt_or_ge m 2 with z | z
        · have z1 : m = 1 := by omega
          rw [z1] at e'
          have : len sp 1 = 1 := rfl
          omega
        · exact z
      refine ⟨fun σ' H'' => ∃ (lv : Nat), lv < m ∧ H'' = H' ∧ ∃ (ax : Int) (v3 v4 : Option V), σ' = [some (.ref a), some (.int (lv : Int)), some (.int ax), v3, v4] ∧ 1 ≤ lv ∧ lv ≤ l0 ∧ 1 ≤ ax ∧ ax ≤ len sp lv ∧ letter sp lv ax = letter sp l0 a0,
        fun σ' H'' hN => by
          obtain ⟨lv, hlt, e1, ax, v3, v4, e2, g1, g2, g3, g4, g5⟩ := hN
          exact ⟨lv, hlt, e1, lv, ax, v3, v4, rfl, e2, g1, g2, g3, g4, g5⟩, ?_⟩
      refine ⟨_, rfl, rfl, _, rfl, ite2 (fun e2 => ?_) (fun e2 => ?_)⟩
      · have e3 : (m : Int) = 2 := V.int.inj (of_decide_eq_true e2)
        have e4 : m = 2 := by omega
        subst e4
        rw [letter_two (by omega)] at h5
        show Q (.int (-1)) H'
        rw [h5]
        exact q
      · have e3 : ¬ m = 2 := fun z => e2 (by rw [z]; exact decide_eq_true rfl)
        obtain ⟨k, rfl⟩ : ∃ k, m = k + 3 := ⟨m - 3, by omega⟩
        obtain ⟨t1, et1, ht1⟩ := hrow (k + 1) (by omega)
        have c1 : (((k + 3 : Nat) : Int) - 2) = ((k + 1 : Nat) : Int) := by omega
        have c2 : (((k + 3 : Nat) : Int) - 1) = ((k + 2 : Nat) : Int) := by omega
        have l1' := len_pos ok (k := k + 1) (by omega)
        have tn := times_nn ok (k := k + 3)
        have bl := small_pow (k := k + 1) (by omega) (len_lt ok (k + 1)) (by omega)
        have bt := small_pow (k := k + 3) tn (times_lt ok (k + 3)) (by omega)
        refine ⟨_, rfl, _, rfl, _, _, rfl, rfl, a, xs, _, .ref t1, rfl, rfl, SqL.of hx, by rw [c1]; exact atI_nat et1, t1, _, 1, _, rfl, rfl, SqT.of ht1, atI_nat (j := 1) rfl, ?_⟩
        refine ⟨_, rfl, _, rfl, a, xs, _, _, rfl, rfl, SqL.of hx, atI_nat et, tt, _, 2, _, rfl, rfl, SqT.of ht, atI_nat (j := 2) rfl, _, rfl, _, _, rfl, rfl, wide_mul bt bl (by decide) (by decide) (by decide), ?_⟩
        refine ⟨_, rfl, _, rfl, _, _, rfl, rfl, _, rfl, ite2 (fun e4 => ?_) (fun e4 => ?_)⟩
        · have e5 := of_decide_eq_true e4
          refine ⟨_, rfl, _, _, rfl, rfl, _, rfl, _, _, rfl, rfl, by omega, _, _, rfl, rfl, ?_⟩
          refine ⟨_, rfl, _, _, rfl, rfl, k + 1, by omega, rfl, (ax - 1) % len sp (k + 1) + 1, some (.int (len sp (k + 1))), some (.int (times sp (k + 3) * len sp (k + 1))), by rw [← c1]; rfl, by omega, by omega, ?_, ?_, ?_⟩
          · have := Int.emod_nonneg (ax - 1) (show len sp (k + 1) ≠ 0 by omega)
            omega
          · have := Int.emod_lt_of_pos (ax - 1) (show 0 < len sp (k + 1) by omega)
            omega
          · rw [← letter_in (by omega) e5]
            exact h5
        · have e5 := of_decide_eq_false (Bool.eq_false_iff.mpr e4)
          have e6 := len3 sp k
          refine ⟨_, rfl, _, rfl, _, _, rfl, rfl, ?_⟩
          refine ⟨_, rfl, _, _, rfl, rfl, k + 2, by omega, rfl, ax - times sp (k + 3) * len sp (k + 1), some (.int (len sp (k + 1))), some (.int (times sp (k + 3) * len sp (k + 1))), by rw [← c2]; rfl, by omega, by omega, by omega, by omega, ?_⟩
          rw [← letter_out (by omega) e5]
          exact h5
    · have e' := of_decide_eq_false (Bool.eq_false_iff.mpr e)
      have e2 : ax = len sp m := by omega
      rw [e2, letter_end h1] at h5
      refine ⟨_, rfl, ?_⟩
      rw [h5]
      exact q
/-! ### reach_table -/
def rowsV (s : K12M.Spec) (H : Hp) (xs : List V) (n : Nat) : Prop := xs.length = n + 1 ∧ ∀ i, i ≤ n → ∃ t, xs[i]? = some (.ref t) ∧ H t = some (.tup (row3v s i))
theorem rowsV.same {s : K12M.Spec} {H H' : Hp} {xs : List V} {n : Nat} (h : rowsV s H xs n) (k : Stil H H') : rowsV s H' xs n := ⟨h.1, fun i hi => by
  obtain ⟨t, e, ht⟩ := h.2 i hi
  exact ⟨t, e, k _ _ ht (fun _ z => by cases z)⟩⟩
theorem rowsV.more {s : K12M.Spec} {H : Hp} {xs : List V} {n : Nat} {t : Addr} (h : rowsV s H xs n) (ht : H t = some (.tup (row3v s (n + 1)))) : rowsV s H (xs ++ [.ref t]) (n + 1) := by
  refine ⟨by rw [List.length_append, h.1]; rfl, fun i hi => ?_⟩
  by_cases c : i ≤ n
  · obtain ⟨u, e, hu⟩ := h.2 i c
    exact ⟨u, by rw [List.getElem?_append_left (by rw [h.1]; omega)]; exact e, hu⟩
  · have e : i = n + 1 := by omega
    subst e
    refine ⟨t, ?_, ht⟩
    rw [List.getElem?_append_right (by rw [h.1]; omega), h.1, Nat.sub_self]
    rfl
theorem atI_back {xs : List V} {j : Nat} {v : V} (hj : j + 1 ≤ xs.length) (h : xs[xs.length - (j + 1)]? = some v) : atI xs (-((j + 1 : Nat) : Int)) = some v := by
  unfold atI ixN
  rw [if_neg (by omega), if_pos (by omega)]
  have e : (xs.length : Int) + -((j + 1 : Nat) : Int) = ((xs.length - (j + 1) : Nat) : Int) := by omega
  first
    | (rw [e]; simpa using h)
    | (have e2 : (-((j + 1 : Nat) : Int) + (xs.length : Int)) = ((xs.length - (j + 1) : Nat) : Int) := by omega
       rw [e2]; simpa using h)
def spTable (K : Frag) : Sp := fun vs H Q _ => ∃ a s l, vs = [.ref a, .int ((l : Nat) : Int)] ∧ RuleAt K H s a ∧ s.Ok ∧ s.depth ≤ 3 ∧ 1 ≤ l ∧ l ≤ 64 ∧ ∀ H' p, Same H H' → H p = none → RowsAt H' p s l → Q (.ref p) H'
theorem sc_reach_table : FnScope ["rule", "level", "price", "rows", "inner_reach", "inner_length", "_", "outer_reach", "outer_length", "room", "times", "size"] ["rule", "level"] (defScope s_reach_table) := ⟨rfl, rfl, rfl, by decide +kernel, rfl, by decide +kernel, by decide +kernel⟩
theorem ok_reach_table (T : Ev K mg) : FnR P w K mg base CX0 6 (He.ga K "reach_table") (spTable K) := by
  obtain ⟨fd, F⟩ := F_reach_table T
  refine fnR_of (FunD.ok F sc_reach_table (fun vs H Q E h => ?_) (fun cdv A outer s H vs Q E hr h => ?_)) (F.bindsN fun _ _ _ _ _ _ us hl => match us, hl with | [_, _], _ => rfl)
  · obtain ⟨a, s, l, rfl, _⟩ := h
    rfl
  · obtain ⟨a, sp, l, rfl, hA, ok, hn, l1, l64, q⟩ := h
    have R := rules_ok (P := P) (w := w) (K := K) (mg := mg) (base := base) T 3
    have nd := sc_reach_table.nd
    refine ⟨_, pss_cons (ps_set (i := 2) nd rfl (.inl rfl) (pe_rule T R hr (pv 0) pe_int))
      (pss_cons (ps_set (i := 3) nd rfl (.inl rfl) (pe_lst (pa_cons (pe_tup (pa_cons pe_int (pa_cons pe_int (pa_cons pe_int pa_nil)))) (pa_cons (pe_tup (pa_cons pe_int (pa_cons pe_int (pa_cons pe_int pa_nil)))) (pa_cons (pe_tup (pa_cons (pe_op op_add pe_int (pv 2)) (pa_cons (pv 2) (pa_cons pe_int pa_nil)))) pa_nil)))))
      (pss_cons (ps_while (passes_of rfl) (pt_cmpR op_le (pe_callB call_len_seq (by rfl) (n_len T) PySem.boot_len (pa_cons (pv 3) pa_nil)) (pv 1) (nomark _))
        (pss_cons (ps_asg (pe_ix ix_list (pv 3) (pe_un un_neg pe_int) (fun _ _ => rfl)) (pg_tup (by rfl) (pgs_cons (pg_name (i := 4) nd rfl (.inl rfl)) (pgs_cons (pg_name (i := 5) nd rfl (.inl rfl)) (pgs_cons (pg_name (i := 6) nd rfl (.inl rfl)) pgs_nil)))))
        (pss_cons (ps_asg (pe_ix ix_list (pv 3) (pe_un un_neg pe_int) (fun _ _ => rfl)) (pg_tup (by rfl) (pgs_cons (pg_name (i := 7) nd rfl (.inl rfl)) (pgs_cons (pg_name (i := 8) nd rfl (.inl rfl)) (pgs_cons (pg_name (i := 6) nd rfl (.inl rfl)) pgs_nil)))))
        (pss_cons (ps_set (i := 9) nd rfl (.inl rfl) (pe_op op_sub (pe_op op_sub (pe_rule T R hr (pv 0) (pe_op op_add (pv 4) pe_int)) (pv 4)) (pv 8)))
        (pss_cons (ps_set (i := 10) nd rfl (.inl rfl) (pe_op op_fdivW (pv 9) (pv 5)))
        (pss_cons (ps_set (i := 11) nd rfl (.inl rfl) (pe_op op_add (pe_op op_mulW (pv 10) (pv 5)) (pv 8)))
        (pss_one (ps_expr (pe_bm PySem.F.plainAttrs_list PySem.F.slot_list_append PySem.F.type_list_append mt_append (pv 3) (pa_cons (pe_tup (pa_cons (pe_op op_add (pv 7) (pv 11)) (pa_cons (pv 11) (pa_cons (pv 10) pa_nil)))) pa_nil))))))))))
      (pss_one (ps_ret (pe_slice sl_list (pv 3) po_none (po_some (pe_op op_add (pv 1) pe_int))))))), ?_⟩
    have p1 := price_one ok
    refine ⟨_, rfl, a, rfl, 1, sp, rfl, hA, ok, hn, by decide, ?_⟩
    refine ⟨by show 3 ≤ sizeLine; rw [sizeLine_eq]; decide, fun t0 n0 => ⟨by show 3 ≤ sizeLine; rw [sizeLine_eq]; decide, fun t1 n1 => ?_⟩⟩
    refine ⟨_, rfl, _, _, rfl, rfl, _, rfl, by show 3 ≤ sizeLine; rw [sizeLine_eq]; decide, fun t2 n2 => ⟨by show 3 ≤ sizeLine; rw [sizeLine_eq]; decide, fun r nr => ?_⟩⟩
    have sm2 : Same H (upd (upd (upd H t0 (.tup (row3v sp 0))) t1 (.tup (row3v sp 1))) t2 (.tup (row3v sp 2))) := ((same_new n0).trans (same_new n1)).trans (same_new n2)
    have nrH : H r = none := sm2.free nr
    have d10 : t0 ≠ t1 := fun z => by rw [← z, upd_same] at n1; cases n1
    have d20 : t0 ≠ t2 := fun z => by rw [← z, upd_ne d10, upd_same] at n2; cases n2
    have d21 : t1 ≠ t2 := fun z => by rw [← z, upd_same] at n2; cases n2
    have r0 : (upd (upd (upd H t0 (.tup (row3v sp 0))) t1 (.tup (row3v sp 1))) t2 (.tup (row3v sp 2))) t0 = some (.tup (row3v sp 0)) := by rw [upd_ne d20, upd_ne d10, upd_same]
    have r1 : (upd (upd (upd H t0 (.tup (row3v sp 0))) t1 (.tup (row3v sp 1))) t2 (.tup (row3v sp 2))) t1 = some (.tup (row3v sp 1)) := by rw [upd_ne d21, upd_same]
    have r2 : (upd (upd (upd H t0 (.tup (row3v sp 0))) t1 (.tup (row3v sp 1))) t2 (.tup (row3v sp 2))) t2 = some (.tup (row3v sp 2)) := upd_same
    have smL := same_new (o := .lst [.ref t0, .ref t1, .ref t2]) nr
    refine ⟨fun m σ H' => ∃ (j : Nat) (xs : List V) (v4 v5 v6 v7 v8 v9 v10 v11 : Option V), m = l - j ∧ σ = [some (.ref a), some (.int (l : Int)), some (.int (sp.price 1)), some (.ref r), v4, v5, v6, v7, v8, v9, v10, v11] ∧ 2 ≤ j ∧ (j ≤ 2 ∨ j ≤ l) ∧ Same H H' ∧ H' r = some (.lst xs) ∧ rowsV sp H' xs j,
      ⟨l - 2, 2, [.ref t0, .ref t1, .ref t2], none, none, none, none, none, none, none, none, rfl, rfl, Nat.le_refl _, .inl (Nat.le_refl _), sm2.trans smL, upd_same, rfl, fun i hi => ?_⟩, ?_⟩
    · match i, hi with
      | 0, _ => exact ⟨t0, rfl, smL _ _ r0⟩
      | 1, _ => exact ⟨t1, rfl, smL _ _ r1⟩
      | 2, _ => exact ⟨t2, rfl, smL _ _ r2⟩
    rintro m σ H' ⟨j, xs, v4, v5, v6, v7, v8, v9, v10, v11, rfl, rfl, j2, jl, sm, hr', rw'⟩
    obtain ⟨k, rfl⟩ : ∃ k, j = k + 2 := ⟨j - 2, by omega⟩
    have hlen := rw'.1
    refine ⟨_, rfl, r, xs, rfl, .inl (SqL.of hr'), _, rfl, _, _, rfl, rfl, _, rfl, ite2 (fun e => ?_) (fun e => ?_)⟩
    · have e' := of_decide_eq_true e
      have kl : k + 3 ≤ l := by omega
      obtain ⟨ti, ei, hi⟩ := rw'.2 (k + 1) (by omega)
      obtain ⟨to, eo, ho⟩ := rw'.2 (k + 2) (by omega)
      refine ⟨fun σ' H'' => ∃ (xs' : List V) (v4 v5 v6 v7 v8 v9 v10 v11 : Option V), σ' = [some (.ref a), some (.int (l : Int)), some (.int (sp.price 1)), some (.ref r), v4, v5, v6, v7, v8, v9, v10, v11] ∧ Same H H'' ∧ H'' r = some (.lst xs') ∧ rowsV sp H'' xs' (k + 3),
        fun σ' H'' hN => by
          obtain ⟨xs', w4, w5, w6, w7, w8, w9, w10, w11, e1, e2, e3, e4⟩ := hN
          exact ⟨l - (k + 3), by omega, k + 3, xs', w4, w5, w6, w7, w8, w9, w10, w11, rfl, e1, by omega, .inr kl, e2, e3, e4⟩, ?_⟩
      obtain ⟨q1, q2, q3, q4, q5, q6, q7, q8⟩ := rowOk ok k
      have q0 := room_nn ok k
      have hAR : RuleAt K H' sp a := hA.stil (stil_of sm)
      have rp : 0 ≤ reach sp (k + 1) := reach_nn ok
      have pl := price_le ok (reach sp (k + 1) + 1) (by omega)
      have e3 := reach_lt ok (k + 1)
      have bl := small_pow (k := k + 1) (by omega) (len_lt ok (k + 1)) (by omega)
      have bt := small_pow (k := k + 3) (times_nn ok) (times_lt ok (k + 3)) (by omega)
      have et := times3 sp k
      refine ⟨_, rfl, 2, rfl, r, xs, _, .ref ti, rfl, rfl, SqL.of hr', atI_back (j := 1) (by omega) (by rw [hlen]; exact ei), ti, row3v sp (k + 1), rfl, SqT.of hi, rfl, _, _, rfl, _, _, rfl, _, _, rfl, rfl, ?_⟩
      refine ⟨_, rfl, 1, rfl, r, xs, _, .ref to, rfl, rfl, SqL.of hr', atI_back (j := 0) (by omega) (by rw [hlen]; exact eo), to, row3v sp (k + 2), rfl, SqT.of ho, rfl, _, _, rfl, _, _, rfl, _, _, rfl, rfl, ?_⟩
      refine ⟨_, rfl, a, rfl, _, rfl, _, _, rfl, rfl, reach sp (k + 1) + 1, sp, rfl, hAR, ok, hn, by omega, _, rfl, _, _, rfl, rfl, _, rfl, _, _, rfl, rfl, ?_⟩
      refine ⟨_, rfl, _, rfl, _, _, rfl, rfl, wide_div (by omega) bl (by decide) (by decide), ?_⟩
      refine ⟨_, rfl, _, rfl, times sp (k + 3), _, rfl, rfl, wide_mul bt bl (by decide) (by decide) (by decide), _, rfl, _, _, rfl, rfl, ?_⟩
      refine ⟨_, rfl, .inl ⟨rfl, _, SqL.of hr'⟩, _, rfl, _, rfl, _, _, rfl, rfl, _, rfl, _, rfl, by show 3 ≤ sizeLine; rw [sizeLine_eq]; decide, fun tn nn => ?_⟩
      have hnew : H' tn = none := nn
      have er : row3v sp (k + 3) = [.int (reach sp (k + 2) + (times sp (k + 3) * len sp (k + 1) + len sp (k + 2))), .int (times sp (k + 3) * len sp (k + 1) + len sp (k + 2)), .int (times sp (k + 3))] := rfl
      have smT := same_new (o := .tup (row3v sp (k + 3))) hnew
      have ntr : tn ≠ r := fun z => by rw [z, hr'] at hnew; cases hnew
      refine ⟨r, xs, _, rfl, rfl, smT _ _ hr', by rw [sizeLine_eq]; omega, ?_⟩
      refine ⟨xs ++ [.ref tn], _, _, _, _, _, _, _, _, rfl, fun b o hb => ?_, upd_same, ?_⟩
      · have hb' := smT _ _ (sm b o hb)
        have nbr : b ≠ r := ne_of_none hb nrH
        rw [upd_ne nbr]
        exact hb'
      · have st : Stil (upd H' tn (.tup (row3v sp (k + 3)))) (upd (upd H' tn (.tup (row3v sp (k + 3)))) r (.lst (xs ++ [.ref tn]))) := fun b o hb hl => by
          have nbr : b ≠ r := fun z => by
            rw [z, upd_ne (Ne.symm ntr), hr'] at hb
            cases hb
            exact hl _ rfl
          rw [upd_ne nbr]
          exact hb
        exact (rowsV.more (rw'.same (stil_of smT)) upd_same).same st
    · have e' := of_decide_eq_false (Bool.eq_false_iff.mpr e)
      refine ⟨_, rfl, _, rfl, _, _, rfl, rfl, _, rfl, r, xs, rfl, SqL.of hr', fun p np => ?_⟩
      have np' : H' p = none := np
      have smp := same_new (o := .lst (cutV xs none (some ((l : Int) + 1)))) np'
      have ec : cutV xs none (some ((l : Int) + 1)) = xs.take (l + 1) := by
        unfold cutV
        rw [HT.sIx_none, show (l : Int) + 1 = ((l + 1 : Nat) : Int) by omega, HT.sIx_nat, List.drop_zero, Nat.sub_zero, Nat.min_eq_left (by omega)]
      refine q _ p (sm.trans smp) (sm.free np') ⟨xs.take (l + 1), by rw [upd_same, ec], by rw [List.length_take]; omega, fun i hi => ?_⟩
      obtain ⟨t, et, ht⟩ := rw'.2 i (by omega)
      exact ⟨t, by rw [List.getElem?_take_of_lt (by omega)]; exact et, smp _ _ ht⟩
end
end K12
set_option Elab.async false
set_option linter.all false
set_option maxRecDepth 100000
set_option maxHeartbeats 4000000
/-! phase_letter, phase_count. -/
namespace K12
open PySem PySem.Spec PyProof.Rows L2 K12M
open PySem.W (Frag)
theorem cnt_a {s : K12M.Spec} {m : Int} {k : Nat} (hk : 1 ≤ k) (h : m = (k : Int)) : cnt s m k = 1 := by
  rw [h]
  exact cnt_self hk
theorem cnt_b {s : K12M.Spec} {m : Int} {k : Nat} (hk : 1 ≤ k) (h : m = (k : Int) - 1) : cnt s m k = 0 := by
  rw [h]
  exact cnt_pred hk
theorem cnt_c {s : K12M.Spec} {m : Int} {j : Nat} (h1 : m ≠ ((j + 3 : Nat) : Int)) (h2 : m ≠ ((j + 3 : Nat) : Int) - 1) : cnt s m (j + 3) = times s (j + 3) * cnt s m (j + 1) + cnt s m (j + 2) := by
  rw [cnt3]
  exact cs_in h1 h2 (by omega)
theorem cnt_d {s : K12M.Spec} {m : Int} {k : Nat} (hk : 1 ≤ k) (h1 : m ≠ (k : Int)) (h2 : m ≠ (k : Int) - 1) (h3 : k < 3) : cnt s m k = if m = -1 then len s k - 1 else 0 := by
  match k, hk with
  | 1, _ => exact cs_low h1 h2 h3
  | k + 2, _ =>
    rw [cnt2]
    exact cs_low h1 h2 h3
theorem cnt_le {s : K12M.Spec} (ok : s.Ok) {m : Int} {k : Nat} (hk : 1 ≤ k) : cnt s m k ≤ len s k := by
  rw [← cnt_words ok m hk, ← words_length ok k]
  have h : (words s k).count m ≤ (words s k).length := List.count_le_length
  omega
def cntV (s : K12M.Spec) (m : Int) (n : Nat) : List V := (List.range n).map fun j => V.int (cnt s m j)
theorem cntV_get {s : K12M.Spec} {m : Int} {n j : Nat} (h : j < n) : (cntV s m n)[j]? = some (.int (cnt s m j)) := by
  unfold cntV
  rw [List.getElem?_map, List.getElem?_range h]
  rfl
theorem cntV_more {s : K12M.Spec} {m : Int} {n : Nat} : cntV s m n ++ [.int (cnt s m n)] = cntV s m (n + 1) := by
  unfold cntV
  rw [List.range_succ, List.map_append]
  rfl
theorem cntV_len {s : K12M.Spec} {m : Int} {n : Nat} : (cntV s m n).length = n := by
  unfold cntV
  rw [List.length_map, List.length_range]
section
variable {P : Program} {w : World} {K : Frag} {mg : Str → Option Value} {base : Heap}
def spPhase (K : Frag) : Sp := fun vs H Q E => ∃ (a : Addr) (s : K12M.Spec) (l ax : Int), vs = [.ref a, .int l, .int ax] ∧ RuleAt K H s a ∧ s.Ok ∧ s.depth ≤ 3 ∧ (¬(1 ≤ l ∧ l ≤ 64) → oor K E (.int l) H) ∧
  (∀ n : Nat, l = (n : Int) → 1 ≤ n → n ≤ 64 → ∀ H', Same H H' → (¬(1 ≤ ax ∧ ax ≤ len s n) → oor K E (.int ax) H') ∧ (1 ≤ ax → ax ≤ len s n → Q (.int (letter s n ax)) H'))
theorem sc_phase_letter : FnScope ["rule", "level", "at", "table"] ["rule", "level", "at"] (defScope s_phase_letter) := ⟨rfl, rfl, rfl, by decide +kernel, rfl, by decide +kernel, by decide +kernel⟩
theorem ok_phase_letter (T : Ev K mg) (hP : TopOk P) : FnR P w K mg base (L2N.CX P w) 7 (He.ga K "phase_letter") (spPhase K) := by
  obtain ⟨fd, F⟩ := F_phase_letter T
  refine fnR_of (FunD.ok F sc_phase_letter (fun vs H Q E h => ?_) (fun cdv A outer s H vs Q E hr h => ?_)) (F.bindsN fun _ _ _ _ _ _ us hl => match us, hl with | [_, _, _], _ => rfl)
  · obtain ⟨a, s, l, ax, rfl, _⟩ := h
    rfl
  · obtain ⟨a, sp, l, ax, rfl, hA, ok, hn, q1, q2⟩ := h
    have nd := sc_phase_letter.nd
    refine ⟨_, pss_cons (ps_expr (pe_callF (ok_need_level T hP) (hr.mono (by decide)) (by rfl) (g_need_level T) (kpd (F_need_level T)) (fun σ => L2N.passAt (L2N.takes_of rfl rfl rfl rfl) σ) (pa_cons (pv 1) (pa_cons pe_int pa_nil))))
      (pss_cons (ps_set (i := 3) nd rfl (.inl rfl) (pe_callF (ok_reach_table T) hr (by rfl) (g_reach_table T) (kpd (F_reach_table T)) passN (pa_cons (pv 0) (pa_cons (pv 1) pa_nil))))
      (pss_cons (ps_expr (pe_callF (ok_need_range T hP) (hr.mono (by decide)) (by rfl) (g_need_range T) (kpd (F_need_range T)) (fun σ => L2N.passAt (L2N.takes_of rfl rfl rfl rfl) σ) (pa_cons (pv 2) (pa_cons pe_int (pa_cons (pe_ix ix_tup (pe_ix ix_list (pv 3) (pv 1) (fun _ _ => rfl)) pe_int (fun _ _ => rfl)) pa_nil)))))
      (pss_one (ps_ret (pe_callF (ok_letter_of T) (hr.mono (by decide)) (by rfl) (g_letter_of T) (kpd (F_letter_of T)) passN (pa_cons (pv 3) (pa_cons (pv 1) (pa_cons (pv 2) pa_nil)))))))), ?_⟩
    refine ⟨_, rfl, l, 1, rfl, fun h1 h2 => ?_, q1⟩
    obtain ⟨n, rfl⟩ : ∃ n : Nat, l = (n : Int) := ⟨l.toNat, by omega⟩
    refine ⟨_, rfl, _, rfl, a, sp, n, rfl, hA, ok, hn, by omega, by omega, fun H' p sm np hR => ?_⟩
    obtain ⟨k1, k2⟩ := q2 n rfl (by omega) (by omega) H' sm
    obtain ⟨xs, hx, hl, hrow⟩ := id hR
    obtain ⟨tt, et, ht⟩ := hrow n (Nat.le_refl _)
    refine ⟨_, rfl, _, rfl, _, rfl, p, xs, _, _, rfl, rfl, SqL.of hx, atI_nat et, tt, _, 1, _, rfl, rfl, SqT.of ht, atI_nat (j := 1) rfl, ax, 1, len sp n, rfl, fun h3 h4 => ?_, k1⟩
    exact ⟨_, rfl, _, rfl, _, rfl, p, sp, n, n, ax, rfl, hR, ok, by omega, Nat.le_refl _, by omega, h3, h4, k2 h3 h4⟩
def spCount (K : Frag) : Sp := fun vs H Q E => ∃ (a : Addr) (s : K12M.Spec) (l m : Int), vs = [.ref a, .int l, .int m] ∧ RuleAt K H s a ∧ s.Ok ∧ s.depth ≤ 3 ∧ (¬(1 ≤ l ∧ l ≤ 64) → oor K E (.int l) H) ∧
  (∀ n : Nat, l = (n : Int) → 1 ≤ n → n ≤ 64 → ∀ H', Same H H' → Q (.int (cnt s m n)) H')
theorem sc_phase_count : FnScope ["rule", "level", "move", "table", "counts", "k"] ["rule", "level", "move"] (defScope s_phase_count) := ⟨rfl, rfl, rfl, by decide +kernel, rfl, by decide +kernel, by decide +kernel⟩
theorem ok_phase_count (T : Ev K mg) (hP : TopOk P) : FnR P w K mg base (L2N.CX P w) 7 (He.ga K "phase_count") (spCount K) := by
  obtain ⟨fd, F⟩ := F_phase_count T
  refine fnR_of (FunD.ok F sc_phase_count (fun vs H Q E h => ?_) (fun cdv A outer s H vs Q E hr h => ?_)) (F.bindsN fun _ _ _ _ _ _ us hl => match us, hl with | [_, _, _], _ => rfl)
  · obtain ⟨a, s, l, ax, rfl, _⟩ := h
    rfl
  · obtain ⟨a, sp, l, mv, rfl, hA, ok, hn, q1, q2⟩ := h
    have nd := sc_phase_count.nd
    obtain ⟨tS, hS⟩ := i_STILL T
    refine ⟨_, pss_cons (ps_expr (pe_callF (ok_need_level T hP) (hr.mono (by decide)) (by rfl) (g_need_level T) (kpd (F_need_level T)) (fun σ => L2N.passAt (L2N.takes_of rfl rfl rfl rfl) σ) (pa_cons (pv 1) (pa_cons pe_int pa_nil))))
      (pss_cons (ps_set (i := 3) nd rfl (.inl rfl) (pe_callF (ok_reach_table T) hr (by rfl) (g_reach_table T) (kpd (F_reach_table T)) passN (pa_cons (pv 0) (pa_cons (pv 1) pa_nil))))
      (pss_cons (ps_set (i := 4) nd rfl (.inl rfl) (pe_lst (pa_cons pe_int pa_nil)))
      (pss_cons (ps_for (passes_of rfl) rfl (pi_range2 (by rfl) (n_range T) (pa_cons pe_int (pa_cons (pe_op op_add (pv 1) pe_int) pa_nil))) (pg_name (i := 5) nd rfl (.inl rfl))
        (pss_one (ps_if (pt_cmpR op_eq (pv 2) (pv 5) (nomark _)) (pss_one (ps_expr (pe_bm PySem.F.plainAttrs_list PySem.F.slot_list_append PySem.F.type_list_append mt_append (pv 4) (pa_cons pe_int pa_nil))))
          (pss_one (ps_if (pt_cmpR op_eq (pv 2) (pe_op op_sub (pv 5) pe_int) (nomark _)) (pss_one (ps_expr (pe_bm PySem.F.plainAttrs_list PySem.F.slot_list_append PySem.F.type_list_append mt_append (pv 4) (pa_cons pe_int pa_nil))))
          (pss_one (ps_if (pt_cmpR op_ge (pv 5) pe_int (nomark _)) (pss_one (ps_expr (pe_bm PySem.F.plainAttrs_list PySem.F.slot_list_append PySem.F.type_list_append mt_append (pv 4)
              (pa_cons (pe_op op_add (pe_op op_mulW (pe_ix ix_tup (pe_ix ix_list (pv 3) (pv 5) (fun _ _ => rfl)) pe_int (fun _ _ => rfl)) (pe_ix ix_list (pv 4) (pe_op op_sub (pv 5) pe_int) (fun _ _ => rfl))) (pe_ix ix_list (pv 4) (pe_op op_sub (pv 5) pe_int) (fun _ _ => rfl))) pa_nil))))
          (pss_one (ps_if (pt_cmpR op_eq (pv 2) (pe_glob (v := .int (-1)) rfl hS ⟨_, rfl⟩) (nomark _)) (pss_one (ps_expr (pe_bm PySem.F.plainAttrs_list PySem.F.slot_list_append PySem.F.type_list_append mt_append (pv 4)
              (pa_cons (pe_op op_sub (pe_ix ix_tup (pe_ix ix_list (pv 3) (pv 5) (fun _ _ => rfl)) pe_int (fun _ _ => rfl)) pe_int) pa_nil))))
            (pss_one (ps_expr (pe_bm PySem.F.plainAttrs_list PySem.F.slot_list_append PySem.F.type_list_append mt_append (pv 4) (pa_cons pe_int pa_nil)))))))))))))
      (pss_one (ps_ret (pe_ix ix_list (pv 4) (pv 1) (fun _ _ => rfl))))))), ?_⟩
    refine ⟨_, rfl, l, 1, rfl, fun h1 h2 => ?_, q1⟩
    obtain ⟨n, rfl⟩ : ∃ n : Nat, l = (n : Int) := ⟨l.toNat, by omega⟩
    refine ⟨_, rfl, _, rfl, a, sp, n, rfl, hA, ok, hn, by omega, by omega, fun H' p sm np hR => ?_⟩
    refine ⟨by show 1 ≤ sizeLine; rw [sizeLine_eq]; decide, fun c nc => ?_⟩
    have ncH : H c = none := sm.free nc
    have smc := same_new (o := .lst [.int 0]) nc
    refine ⟨_, rfl, _, _, rfl, rfl, 1, _, rfl, ⟨by decide, by decide, by omega, by omega⟩, ?_⟩
    refine for_range (lo := 1) (fun i σ H'' => ∃ v, σ = [some (.ref a), some (.int (n : Int)), some (.int mv), some (.ref p), some (.ref c), v] ∧ Same H H'' ∧ RowsAt H'' p sp n ∧ H'' c = some (.lst (cntV sp mv (i + 1)))) ⟨none, rfl, sm.trans smc, hR.same smc, upd_same⟩ ?_ ?_
    · rintro i σ H'' hi ⟨v, rfl, s1, R1, hc⟩
      have hin : i + 1 ≤ n := by omega
      have hk : 1 + (i : Int) = ((i + 1 : Nat) : Int) := by omega
      have big : (cntV sp mv (i + 1)).length < sizeLine := by rw [cntV_len, sizeLine_eq]; omega
      have fin : ∀ x : Int, x = cnt sp mv (i + 1) → ∃ v, [some (V.ref a), some (.int (n : Int)), some (.int mv), some (.ref p), some (.ref c), some (.int (1 + (i : Int)))] = [some (V.ref a), some (.int (n : Int)), some (.int mv), some (.ref p), some (.ref c), v] ∧ Same H (upd H'' c (.lst (cntV sp mv (i + 1) ++ [.int x]))) ∧ RowsAt (upd H'' c (.lst (cntV sp mv (i + 1) ++ [.int x]))) p sp n ∧
          (upd H'' c (.lst (cntV sp mv (i + 1) ++ [.int x]))) c = some (.lst (cntV sp mv (i + 1 + 1))) := fun x ex => by
        refine ⟨_, rfl, fun b o hb => ?_, ?_, ?_⟩
        · rw [upd_ne (ne_of_none hb ncH)]
          exact s1 b o hb
        · refine R1.keep (fun b o hb hl => ?_) fun xs hb => ?_
          · have : b ≠ c := fun z => by rw [z, hc] at hb; cases hb; exact hl _ rfl
            rw [upd_ne this]
            exact hb
          · have npc : p ≠ c := by
              obtain ⟨ys, hy, _⟩ := hR
              exact ne_of_none hy nc
            rw [upd_ne npc]
            exact hb
        · rw [upd_same, ex, cntV_more]
      obtain ⟨xs, hx, hl, hrow⟩ := id R1
      obtain ⟨tk, ek, hk2⟩ := hrow (i + 1) hin
      refine ⟨_, rfl, _, rfl, rfl, _, rfl, ite2 (fun e => ?_) (fun e => ?_)⟩
      · have e' : mv = 1 + (i : Int) := V.int.inj (of_decide_eq_true e)
        exact ⟨_, rfl, .inl ⟨rfl, _, SqL.of hc⟩, c, _, _, rfl, rfl, hc, big, fin 1 (cnt_a (by omega) (by omega)).symm⟩
      have n1 : mv ≠ ((i + 1 : Nat) : Int) := fun z => e (by rw [z, ← hk]; exact decide_eq_true rfl)
      refine ⟨_, rfl, _, rfl, _, _, rfl, rfl, rfl, _, rfl, ite2 (fun e2 => ?_) (fun e2 => ?_)⟩
      · have e' : mv = 1 + (i : Int) - 1 := V.int.inj (of_decide_eq_true e2)
        exact ⟨_, rfl, .inl ⟨rfl, _, SqL.of hc⟩, c, _, _, rfl, rfl, hc, big, fin 0 (cnt_b (by omega) (by omega)).symm⟩
      have n2 : mv ≠ ((i + 1 : Nat) : Int) - 1 := fun z => e2 (by rw [z, ← hk]; exact decide_eq_true rfl)
      refine ⟨_, rfl, _, _, rfl, rfl, _, rfl, ite2 (fun e3 => ?_) (fun e3 => ?_)⟩
      · have e' := of_decide_eq_true e3
        obtain ⟨j, rfl⟩ : ∃ j, i = j + 2 := ⟨i - 2, by omega⟩
        have bt := small_pow (k := j + 3) (times_nn ok) (times_lt ok (j + 3)) (by omega)
        have c0 : 0 ≤ cnt sp mv (j + 1) := cnt_nn ok
        have bc := small_pow (k := j + 1) c0 (Int.le_trans (cnt_le ok (by omega)) (len_lt ok (j + 1))) (by omega)
        refine ⟨_, rfl, .inl ⟨rfl, _, SqL.of hc⟩, _, rfl, _, rfl, p, xs, _, .ref tk, rfl, rfl, SqL.of hx, by rw [hk]; exact atI_nat ek, tk, _, 2, _, rfl, rfl, SqT.of hk2, atI_nat (j := 2) rfl, ?_⟩
        refine ⟨_, rfl, _, rfl, _, _, rfl, rfl, c, _, _, .int (cnt sp mv (j + 1)), rfl, rfl, SqL.of hc, ?_, times sp (j + 3), cnt sp mv (j + 1), rfl, rfl, wide_mul bt bc (by decide) (by decide) (by decide), ?_⟩
        · rw [show 1 + ((j + 2 : Nat) : Int) - 2 = ((j + 1 : Nat) : Int) by omega]
          exact atI_nat (cntV_get (by omega))
        refine ⟨_, rfl, _, rfl, _, _, rfl, rfl, c, _, _, .int (cnt sp mv (j + 2)), rfl, rfl, SqL.of hc, ?_, _, _, rfl, rfl, ?_⟩
        · rw [show 1 + ((j + 2 : Nat) : Int) - 1 = ((j + 2 : Nat) : Int) by omega]
          exact atI_nat (cntV_get (by omega))
        exact ⟨c, _, _, rfl, rfl, hc, big, fin _ (cnt_c n1 n2).symm⟩
      have e3' := of_decide_eq_false (Bool.eq_false_iff.mpr e3)
      have hd := cnt_d (s := sp) (m := mv) (k := i + 1) (by omega) n1 n2 (by omega)
      refine ⟨_, rfl, rfl, _, rfl, ite2 (fun e4 => ?_) (fun e4 => ?_)⟩
      · have e' : mv = -1 := V.int.inj (of_decide_eq_true e4)
        rw [if_pos e'] at hd
        refine ⟨_, rfl, .inl ⟨rfl, _, SqL.of hc⟩, _, rfl, _, rfl, p, xs, _, .ref tk, rfl, rfl, SqL.of hx, by rw [hk]; exact atI_nat ek, tk, _, 1, _, rfl, rfl, SqT.of hk2, atI_nat (j := 1) rfl, _, _, rfl, rfl, ?_⟩
        exact ⟨c, _, _, rfl, rfl, hc, big, fin _ hd.symm⟩
      · have e' : mv ≠ -1 := fun z => e4 (by rw [z]; exact decide_eq_true rfl)
        rw [if_neg e'] at hd
        exact ⟨_, rfl, .inl ⟨rfl, _, SqL.of hc⟩, c, _, _, rfl, rfl, hc, big, fin _ hd.symm⟩
    · rintro σ H'' ⟨v, rfl, s1, R1, hc⟩
      have e : ((n : Int) + 1 - 1).toNat + 1 = n + 1 := by omega
      rw [e] at hc
      exact ⟨_, rfl, _, rfl, c, _, _, _, rfl, rfl, SqL.of hc, atI_nat (cntV_get (Nat.lt_succ_self n)), q2 n rfl (by omega) (by omega) _ s1⟩
end
end K12
set_option Elab.async false
set_option linter.all false
set_option maxRecDepth 100000
set_option maxHeartbeats 4000000
/-! One turn of phase_letters' own loop. -/
namespace K12G
open PySem PySem.Spec PyProof.Rows L2
theorem lifts_any {α : Type} {M : Model} {A : Around} {t : Sem α} {Q : α → Shared → Prop} {E : Value → Shared → Prop} {s u : Shared} (c : Cp s u) (d : DD s) (h : wpAny M A t Q E s) :
    wpAny M A t (fun a u' => ∃ s', Cp s' u' ∧ DD s' ∧ Kp s u s' u' ∧ Q a s') (fun e u' => ∃ s', Cp s' u' ∧ DD s' ∧ Kp s u s' u' ∧ E e s') u :=
  fun Γ p hΓ => lifts_wp M Γ t (fun a _ s' => Q a s') (fun e _ s' => E e s') p s u c d (h Γ p hΓ)
/-- a range's iterator over 1 .. n, i gone -/
def RIter (h : Heap) (it : Addr) (i n : Nat) : Prop := IsRangeIter h it (1 + (i : Nat) * 1) ((n : Int) - (i : Nat)) 1 ∨ IsLongIter h it (1 + (i : Nat) * 1) ((n : Int) - (i : Nat)) 1
theorem RIter.keep {h h' : Heap} {it : Addr} {i n : Nat} (x : RIter h it i n) (k : ∀ o, h.get? it = some o → h'.get? it = some o) : RIter h' it i n := x.elim (fun z => .inl (k _ z)) fun z => .inr (k _ z)
theorem RIter.obj {h : Heap} {it : Addr} {i n : Nat} (x : RIter h it i n) : ∃ o, h.get? it = some o ∧ ∀ v, o.data ≠ .cell v := by
  rcases x with x | x
  · exact ⟨_, x, fun v z => by have z' : Data.fields _ = Data.cell v := z; cases z'⟩
  · exact ⟨_, x, fun v z => by have z' : Data.fields _ = Data.cell v := z; cases z'⟩
section
variable {P : Program} {w : World} {A : Around} {E : Value → Shared → Prop} {s : Shared} {it : Addr} {i n : Nat}
theorem riter_item {Q : Option Value → Shared → Prop} (hh : A.handled = none) (hi : i < n) (st : RIter s.heap it i n)
    (hQ : ∀ t h' tk, RIter h' it (i + 1) n → (∀ b o, b ≠ it → s.heap.get? b = some o → h'.get? b = some o) → Q (some (.int (1 + (i : Int)) t)) { s with heap := h', toks := tk }) : wpAny (model P w) A (pyNext (.ref it)) Q E s := by
  rcases st with st | st
  · refine (Walks.range (prog := P) (w := w) hh it 1 1 n).item i s _ _ hi st fun v h' tk hv st' kk => ?_
    obtain ⟨t, rfl⟩ := hv
    have z := hQ t h' tk (.inl st') (fun b o hb e => kk b o (by simpa using hb) e)
    rw [Int.mul_one]
    exact z
  · refine (Walks.longrange (prog := P) (w := w) hh it 1 1 n).item i s _ _ hi st fun v h' tk hv st' kk => ?_
    obtain ⟨t, rfl⟩ := hv
    have z := hQ t h' tk (.inr st') (fun b o hb e => kk b o (by simpa using hb) e)
    rw [Int.mul_one]
    exact z
theorem riter_done {Q : Option Value → Shared → Prop} (hh : A.handled = none) (st : RIter s.heap it n n)
    (hQ : ∀ h' tk, (∀ b o, b ≠ it → s.heap.get? b = some o → h'.get? b = some o) → Q none { s with heap := h', toks := tk }) : wpAny (model P w) A (pyNext (.ref it)) Q E s := by
  rcases st with st | st
  · exact (Walks.range (prog := P) (w := w) hh it 1 1 n).done s _ _ st fun h' tk kk => hQ h' tk fun b o hb e => kk b o (by simpa using hb) e
  · exact (Walks.longrange (prog := P) (w := w) hh it 1 1 n).done s _ _ st fun h' tk kk => hQ h' tk fun b o hb e => kk b o (by simpa using hb) e
/-- iter(range(1, m)) -/
theorem riter_new {Q : Value → Shared → Prop} {r : Addr} {m : Int} {t u v : Tok} (hm : 1 ≤ m) (hr : IsRange s.heap r 1 m 1 t u v)
    (hQ : ∀ h', RIter h' s.heap.objs.size 0 (m - 1).toNat → (∀ b o, s.heap.get? b = some o → h'.get? b = some o) → Q (.ref s.heap.objs.size) { s with heap := h' }) : wpAny (model P w) A (pyIter (.ref r)) Q E s := by
  have e1 : (1 : Int) + ((0 : Nat) : Int) * 1 = 1 := by simp
  have e2 : (((m - 1).toNat : Nat) : Int) - ((0 : Nat) : Int) = Builtin.Range.rangeSize 1 m 1 := by rw [rangeSize_one]; split <;> omega
  cases hs : Builtin.Range.small 1 m 1 with
  | true =>
    refine wpAny_pyIter_range hr hs (hQ _ (.inl ?_) fun b o e => Heap.get?_push_of_some _ e)
    rw [e1, e2]
    exact Heap.get?_push_size _ rfl
  | false =>
    refine wpAny_pyIter_longrange hr hs (hQ _ (.inr ?_) fun b o e => Heap.get?_push_of_some _ e)
    rw [e1, e2]
    exact Heap.get?_push_size _ rfl
end
theorem funFrames_of {h h' base : Heap} : ∀ {l : List Env}, (∀ b ∈ frs l, ∀ o, h.get? b = some o → ∃ sl, h'.get? b = some { o with slots := sl }) → h.FunFrames base l → h'.FunFrames base l
  | [], _, _ => trivial
  | env :: r, k, hl => by
    obtain ⟨hk, ⟨L, o, hf, hn, ho, hd⟩, hr⟩ := hl
    obtain ⟨sl, e⟩ := k L (by unfold frs; rw [List.filterMap_cons, hf]; exact List.mem_cons_self) o ho
    exact ⟨hk, ⟨L, _, hf, hn, e, hd⟩, funFrames_of (fun b hb => k b (by unfold frs; rw [List.filterMap_cons, hf]; exact List.mem_cons_of_mem _ hb)) hr⟩
/-- what a turn leaves of the heap: all untracked but L and it (the frames of outer up to slots) -/
theorem un_two {outer : List Env} {env : Env} {L it : Addr} {H : Hp} {h1 h2 h3 : Heap} (hf : env.frame = some L) (HL : H L = none) (Hit : H it = none) (k1 : ∀ b o, b ≠ it → b ≠ L → h1.get? b = some o → h2.get? b = some o)
    (u : Un (frs (env :: outer)) [] H H h2 h3) : Un (frs outer) [L, it] H H h1 h3 := by
  have fr : frs (env :: outer) = L :: frs outer := by unfold frs; rw [List.filterMap_cons, hf]
  rw [fr] at u
  have nx : ∀ {b : Addr}, b ∉ [L, it] → b ≠ L ∧ b ≠ it := fun {b} hb => ⟨fun z => hb (by simp [z]), fun z => hb (by simp [z])⟩
  exact {
    keep := fun b o e n hb hx => u.keep b o (k1 b o (nx hx).2 (nx hx).1 e) n (fun z => (List.mem_cons.mp z).elim (nx hx).1 hb) (by simp)
    slot := fun b o e n hb hx => u.any (k1 b o (nx hx).2 (nx hx).1 e) n (by simp)
    free := fun b o e n hx => n
    there := fun b o e hx => u.there b o (k1 b o (nx hx).2 (nx hx).1 e) (by simp)
    tups := fun _ _ e => e
    frzs := fun _ _ _ e => e
    tbls := fun b ps e => ⟨#[], by rw [e]; simp⟩ }
end K12G
namespace K12
open PySem PySem.Spec PyProof.Rows L2 K12M K12G
open PySem.W (Frag)
abbrev gEnv (L f : Addr) (cd : Value) : Env := envOfC "phase_letters" (defScope s_phase_letters) L f cd
abbrev gBody (q2 q3 q4 q5 q6 q7 q8 : Pos) : List Stmt := [.Expr (.Yield (some (.Call (.Name "letter_of" q2) [.Name "table" q3, .Name "level" q4, .Name "at" q5] [] q6)) q7) q8]
abbrev gCode (q1 q2 q3 q4 q5 q6 q7 q8 : Pos) (it L f : Addr) (cd : Value) : Code := .forLoop (.Name "at" q1) (.ref it) (gBody q2 q3 q4 q5 q6 q7 q8) [] (gEnv L f cd)
/-- the generator's locals, once its table is made -/
def GNs (h : Heap) (L Tb : Addr) (n : Nat) : Prop := ∃ m, h.Ns L m ∧ m "table" = some (.ref Tb) ∧ ∃ t, m "level" = some (.int (n : Int) t)
theorem GNs.at {h h' : Heap} {L Tb : Addr} {n : Nat} (x : GNs h L Tb n) (k : ∀ o, h.get? L = some o → ∃ sl, h'.get? L = some { o with slots := sl }) : GNs h' L Tb n := by
  obtain ⟨m, ⟨o, es, ep, ho, r⟩, h1, h2⟩ := x
  obtain ⟨sl, e⟩ := k o ho
  exact ⟨m, ⟨_, es, ep, e, r⟩, h1, h2⟩
section
variable {P : Program} {w : World} {K : Frag} {mg : Str → Option Value} {base : Heap}
theorem gen_turn (T : Ev K mg) {A : Around} {outer : List Env} {s : Shared} {H : Hp} {L it Tb f : Addr} {cd : Value} {sp : K12M.Spec} {n i : Nat} {q1 q2 q3 q4 q5 q6 q7 q8 : Pos} {fs0 : List Frame} {Φ : End → Shared → Prop}
    (hov : A.over (gCode q1 q2 q3 q4 q5 q6 q7 q8 it L f cd) fs0 = A.deeper (gEnv L f cd)) (e0 : Env0 P w K mg base (A.deeper (gEnv L f cd)) (gEnv L f cd :: outer) s H) (hr : Room 1 (A.deeper (gEnv L f cd)))
    (hns : GNs s.heap L Tb n) (hR : RowsAt H Tb sp n) (ok : sp.Ok) (n1 : 1 ≤ n) (n64 : n ≤ 64) (hit : RIter s.heap it i (len sp n).toNat) (HL : H L = none) (Hit : H it = none) (ne : L ≠ it) (itf : it ∉ frs outer) (Lf : L ∉ frs outer) (bit : base.get? it = none) (bL : base.objs.size ≤ L) (hile : (i : Int) ≤ len sp n) (hsplit : splitAtGen fs0 = none)
    (go : (i : Int) < len sp n → ∀ v s'', s''.os = s.os → AllBare s''.gens → Un (frs outer) [L, it] H H s.heap s''.heap → HOk P w H s''.heap → GNs s''.heap L Tb n → RIter s''.heap it (i + 1) (len sp n).toNat → RelV (.int (letter sp n (i + 1))) v →
      ∀ p l k, (∀ s3 Φ', Sg (model P w) A (gCode q1 q2 q3 q4 q5 q6 q7 q8 it L f cd) ((model P w).den (gCode q1 q2 q3 q4 q5 q6 q7 q8 it L f cd)) fs0 s3 Φ' → Sg (model P w) A (gCode q1 q2 q3 q4 q5 q6 q7 q8 it L f cd) (k (.send .none)) fs0 s3 Φ') →
        Φ (.susp v false l k (gCode q1 q2 q3 q4 q5 q6 q7 q8 it L f cd) p fs0) s'')
    (stop : (i : Int) = len sp n → ∀ s'', s''.os = s.os → AllBare s''.gens → Un (frs outer) [L, it] H H s.heap s''.heap → HOk P w H s''.heap → Sg (model P w) A (.block [] (gEnv L f cd)) (leafOf (.ok .next)) fs0 s'' Φ) :
    Sg (model P w) A (gCode q1 q2 q3 q4 q5 q6 q7 q8 it L f cd) ((model P w).den (gCode q1 q2 q3 q4 q5 q6 q7 q8 it L f cd)) fs0 s Φ := by
  have lp := len_pos ok n1
  have hfr : (gEnv L f cd).frame = some L := rfl
  have baseL : base.get? L = none := (e0.funs.mem (b := L) (by rw [List.filterMap_cons, hfr]; exact List.mem_cons_self)).1
  refine sg_forLoop ?_
  rw [hov]
  have hh : (A.deeper (gEnv L f cd)).handled = none := hr.hd
  by_cases hi : (i : Int) < len sp n
  · refine riter_item (P := P) (w := w) hh (i := i) (n := (len sp n).toNat) (by omega) hit fun t h1 tk1 it1 k1 => ?_
    show wpAny _ _ (letOwnedTupleGo (.Name "at" q1) (.ref it) _) _ _ _
    have hgo : ∀ {Q : Unit → Shared → Prop} {E : Value → Shared → Prop} {s' : Shared}, RIter s'.heap it (i + 1) (len sp n).toNat → Q () s' → wpAny (model P w) (A.deeper (gEnv L f cd)) (letOwnedTupleGo (.Name "at" q1) (.ref it) (.int (1 + (i : Int)) t)) Q E s' := fun {Q E s'} st q => by
      rcases st with st | st
      · exact go_of (n := "range_iterator") st rfl rfl (by decide) q
      · exact go_of (n := "longrange_iterator") st rfl rfl (by decide) q
    refine hgo it1 ?_
    obtain ⟨m, hn, mT, tl, ml⟩ := hns
    obtain ⟨oL, esL, epL, hoL, rL⟩ := id hn
    have hn1 : h1.Ns L m := ⟨oL, esL, epL, k1 L oL ne hoL, rL⟩
    refine wpAny_assign_Name (wpAny_storeName_local (env := gEnv L f cd) rfl hn1 fun h2 hn2 sb2 => ?_)
    have k2 : ∀ b o, b ≠ L → h1.get? b = some o → h2.get? b = some o := fun b o hb e => (sb2.2 b hb).trans e
    have k12 : ∀ b o, b ≠ it → b ≠ L → s.heap.get? b = some o → h2.get? b = some o := fun b o h1' h2' e => k2 b o h2' (k1 b o h1' e)
    have hok2 : HOk P w H h2 := fun b o e => (e0.hok b o e).stay (fun c u hc q => k12 c u (fun z => by
        rcases hc with hc | hc
        · rw [← hc, z, Hit] at e; cases e
        · rw [z, Hit] at hc; cases hc) (fun z => by
        rcases hc with hc | hc
        · rw [← hc, z, HL] at e; cases e
        · rw [z, HL] at hc; cases hc) q) (fun _ q => q) fun _ _ q => q
    have e02 : Env0 P w K mg base (A.deeper (gEnv L f cd)) (gEnv L f cd :: outer) { s with heap := h2, toks := tk1 + 1 } H := by
      refine ⟨e0.frames, e0.mod, fun b o e => ⟨k12 b o (fun z => ?_) (fun z => ?_) (e0.bs b o e).1, (e0.bs b o e).2⟩, Nat.le_of_lt (Nat.lt_of_le_of_lt bL hn2.lt), ?_, e0.frf, hok2, e0.bare⟩
      · rw [z, bit] at e; cases e
      · rw [z, baseL] at e; cases e
      · have hr0 : s.heap.FunFrames base outer := e0.funs.2.2
        exact Heap.FunFrames.cons e0.funs.1 hfr hn2 baseL (funFrames_of (fun b hb o e => ⟨o.slots, k12 b o (fun z => itf (z ▸ hb)) (fun z => Lf (z ▸ hb)) e⟩) hr0)
    have glob2 : h2.Ns mainGlobals mg := e0.mod.glob.keeps fun b o e => (e02.bs b o e).1
    refine sg_execs_cons (sg_Expr_Yield hsplit rfl ?_ rfl rfl)
    rw [hov]
    refine wpAny_Call_Name_kw (Calls.Name_function_global rfl (by rfl) (Calls.loadGlobal_global (env := gEnv L f cd) (s := { s with heap := h2, toks := tk1 + 1 }) glob2 (g_letter_of T) ?_) (by decide))
    refine PySem.W.callWith_K (h₀ := base) e0.mod.kin (kpd (F_letter_of T)) ?_ rfl rfl
    refine Calls.spliced_cons (wpAny_Name (wpAny_loadName_local (env := gEnv L f cd) (v := .ref Tb) rfl (by rfl) hn2 (by rw [if_neg (by decide)]; exact mT) ?_) (by decide))
    refine Calls.spliced_cons (wpAny_Name (wpAny_loadName_local (env := gEnv L f cd) (v := .int (n : Int) tl) rfl (by rfl) hn2 (by rw [if_neg (by decide)]; exact ml) ?_) (by decide))
    refine Calls.spliced_cons (wpAny_Name (wpAny_loadName_local (env := gEnv L f cd) (v := .int (1 + (i : Int)) t) rfl (by rfl) hn2 (by rw [if_pos rfl]) ?_) (by decide))
    refine Calls.spliced_nil ⟨e0.mod.kin.keeps fun b o e => (e02.bs b o e).1, ?_⟩
    refine wpAny_call (codeAny_mono (ok_letter_of (P := P) (w := w) (base := base) T (A.deeper (gEnv L f cd)) (gEnv L f cd :: outer) { s with heap := h2, toks := tk1 + 1 } H [.ref Tb, .int (n : Int) tl, .int (1 + (i : Int)) t] [.ref Tb, .int (n : Int), .int (1 + (i : Int))]
      (fun v H' => v = .int (letter sp n (1 + (i : Int))) ∧ H' = H) (fun _ _ _ => False) hr e02 (.cons rfl (.cons ⟨_, rfl⟩ (.cons ⟨_, rfl⟩ .nil))) ⟨Tb, sp, n, n, 1 + (i : Int), rfl, hR, ok, n1, Nat.le_refl _, n64, by omega, by omega, rfl, rfl⟩) fun r s3 hq => ?_)
    cases r with
    | error e => exact False.elim hq
    | ok fl =>
      cases fl with
      | next => exact False.elim hq
      | brk => exact False.elim hq
      | cont => exact False.elim hq
      | ret u =>
        obtain ⟨v, H3, os3, bare3, un3, hok3, rv, rfl, rfl⟩ := hq
        intro p l k hk
        refine go hi u s3 os3 bare3 (un_two hfr HL Hit k12 un3) hok3 ?_ ?_ ?_ p l k fun s4 Φ' h4 => hk s4 Φ' (sg_again rfl h4)
        · have g2 : GNs h2 L Tb n := ⟨_, hn2, by rw [if_neg (by decide)]; exact mT, tl, by rw [if_neg (by decide)]; exact ml⟩
          exact g2.at fun o e => un3.any e HL (by simp)
        · refine (it1.keep (h' := h2) fun o e => k2 it o (Ne.symm ne) e).keep fun o e => un3.keep it o e Hit (fun z => ?_) (by simp)
          have fr : frs (gEnv L f cd :: outer) = L :: frs outer := by unfold frs; rw [List.filterMap_cons, hfr]
          rw [fr] at z
          exact (List.mem_cons.mp z).elim (Ne.symm ne) itf
        · rw [show (i : Int) + 1 = 1 + (i : Int) by omega]
          exact rv
  · have hie : (i : Int) = len sp n := by omega
    · have ei : i = (len sp n).toNat := by omega
      rw [ei] at hit
      refine riter_done (P := P) (w := w) hh hit fun h1 tk1 k1 => ?_
      show Sg _ _ _ _ _ _ _
      refine stop hie _ rfl e0.bare (un_two (h2 := h1) hfr HL Hit (fun b o h1' _ e => k1 b o h1' e) Un.refl) ?_
      exact fun b o e => (e0.hok b o e).stay (fun c u hc q => k1 c u (fun z => by
        rcases hc with hc | hc
        · rw [← hc, z, Hit] at e; cases e
        · rw [z, Hit] at hc; cases hc) q) (fun _ q => q) fun _ _ q => q
end
end K12
set_option Elab.async false
set_option linter.all false
set_option maxRecDepth 100000
set_option maxHeartbeats 4000000
/-! phase_letters called; its first wake. -/
namespace K12
open PySem PySem.Spec PyProof.Rows L2 K12M K12G
open PySem.W (Frag)
/-- an exception leaves a generator's frame; what is pinned stays (the other kind of flying exception) -/
theorem leaveN {X : Cx} {W : WX} {E : XK} {s' : Shared} (hs : X.stack = X.env :: X.outer) (hf : X.env.frame = some X.env.locals) (hex : X.ex = []) {E₁ : Value → Shared → Prop} (hW : ∀ cls d σ H, W cls d σ H → E cls d H) {u : Value} (x : L2N.XE X W u s') :
    wpAny (model X.prog X.w) X.A (leaving X.env u) (fun _ s'' => L2N.CX X.prog X.w X.outer X.H_0 X.s_0 E u s'' ∧ ∀ p ∈ X.pn, s''.heap.get? p.1 = some p.2) E₁ s' := by
  obtain ⟨a, B, sI, pins, σ, H, cls, d, rfl, I, nb, up, sky, na, os, ag, w⟩ := x
  have hfr : X.A.frames = some (X.env :: X.outer) := by rw [I.ok.frames, hs]
  have nst : ∀ b o, X.s_0.heap.get? b = some o → b ∉ X.fs → b ∉ frs X.stack := fun b o e hb hm => by
    rcases List.mem_cons.mp (I.stkSub b hm) with z | z
    · have h1 := Heap.lt_size e
      have h2 := I.ok.above
      rw [z] at h1
      exact absurd (Nat.lt_of_lt_of_le h1 h2) (Nat.lt_irrefl _)
    · exact hb z
  have hex' : ∀ b, b ∉ X.ex := fun b hb => by rw [hex] at hb; cases hb
  have hokB := I.inGround nb
  have pinB : ∀ p ∈ X.pn, B.get? p.1 = some p.2 := fun p hp => by
    obtain ⟨h1, _, h3, h4, _⟩ := I.pin p (List.mem_append_left _ hp)
    refine nb p.1 p.2 h1 fun hm => ?_
    rcases List.mem_cons.mp (I.stkSub p.1 hm) with z | z
    · exact h3 z
    · exact h4 z
  have fin : ∀ h', HandSPX.FlyingZ B X.outer a (L2N.Zn cls d) h' → s'.heap.UpToSlots h' → (L2N.CX X.prog X.w X.outer X.H_0 X.s_0 E (.ref a) { s' with heap := h' } ∧ ∀ p ∈ X.pn, ({ s' with heap := h' } : Shared).heap.get? p.1 = some p.2) := fun h' fl up' => by
    refine ⟨⟨a, B, H, cls, d, rfl, fl, hokB, ⟨fun b o e n hb => nb b o (I.base.keep b o e n hb (hex' b)) (nst b o e hb), fun b o e hb => ?_, fun b o e n => I.base.free b o e n (hex' b), fun b o e hb => ?_, I.base.tups, I.base.frzs, I.base.tbls⟩,
      na, os.trans I.os, ag, hW _ _ _ _ w⟩, fun p hp => fl.1 p.1 p.2 (pinB p hp)⟩
    · obtain ⟨_, o₀, e₀, hnf⟩ := I.ok.funs.mem hb
      rw [e] at e₀; cases e₀
      obtain ⟨sl, e1⟩ := I.base.slot b o e (I.ok.frf b hb) hb (hex' b)
      obtain ⟨sl2, e2⟩ := up b _ e1 hnf
      obtain ⟨sl3, e3⟩ := up' b _ e2 hnf
      exact ⟨sl3, e3⟩
    · obtain ⟨o', e1⟩ := I.base.there b o e (hex' b)
      exact ⟨o', nb b o' e1 (nst b o e hb)⟩
  rw [hs] at sky
  rcases sky with ⟨hB, hn, hl, oe, vs, he, hz, hd, h1⟩ | fl | hd
  · exact PXN.leaving_firstZ L2N.Zn.steady hfr hl hf he hB hn hd h1 hz fin
  · exact PXN.leaves_onZ L2N.Zn.steady hfr hf fl fin
  · exact HandSPX.leaves_heldZ hf hd fin
abbrev gN : List Str := ["rule", "level", "table", "at"]
theorem gS : GScope gN ["rule", "level"] (defScope s_phase_letters) := ⟨rfl, rfl, rfl, by decide +kernel, rfl, by decide +kernel, by decide +kernel⟩
section
variable {P : Program} {w : World} {K : Frag} {mg : Str → Option Value} {base : Heap}
/-- the context of the body: an OutOfRange may leave it -/
def gX (P : Program) (w : World) (K : Frag) (mg : Str → Option Value) (base : Heap) (f : Addr) (cd : Value) (A : Around) (outer : List Env) (s : Shared) (H : Hp) (E : XK) (p : Addr × Obj) : Cx :=
  (gcxOf P w K mg base gN "phase_letters" (defScope s_phase_letters) f cd A outer s H E [p]).wish
    fun e s' => wpAny (model P w) (A.deeper (gEnv s.heap.objs.size f cd)) (leaving (gEnv s.heap.objs.size f cd) e) (fun _ s'' => L2N.CX P w outer H s E e s'' ∧ ∀ q ∈ [p], s''.heap.get? q.1 = some q.2) (fun _ _ => False) s'
theorem takes_gX {f : Addr} {cd : Value} {A : Around} {outer : List Env} {s : Shared} {H : Hp} {E : XK} {p : Addr × Obj} : L2N.Takes (gX P w K mg base f cd A outer s H E p) (fun cls d _ H' => E cls d H') := fun u s' x =>
  leaveN (X := gX P w K mg base f cd A outer s H E p) (W := fun cls d _ H' => E cls d H') (E := E) rfl rfl rfl (fun _ _ _ _ h => h) x
/-- a call: a generator that has not begun, at a, its number g, its frame at L -/
structure Born (P : Program) (w : World) (K : Frag) (mg : Str → Option Value) (base : Heap) (f : Addr) (outer : List Env) (s : Shared) (H : Hp) (vs : List V) (cd : Value) (a : Addr) (go : Obj) (s' : Shared) : Prop where
  obj : s'.heap.get? a = some go
  isg : ∀ h : Heap, h.get? a = some go → h.IsGen a s.gens.size
  cls : go.cls = .type "generator"
  dat : ∃ vs : Array Value, go.data = .fields vs
  gens : s'.gens = s.gens.push (.fresh (.func (defBody s_phase_letters) (gEnv s.heap.objs.size f cd)))
  os : s'.os = s.os
  kept : ∀ b o, s.heap.get? b = some o → s'.heap.get? b = some o
  big : s.heap.objs.size < a
  inv : ∀ (Aw : Around) (E : XK) (s2 : Shared), Aw.handled = none → Aw.frames = some outer → s2.os = s.os → AllBare s2.gens → (∀ b o, s'.heap.get? b = some o → s2.heap.get? b = some o) → Inv (gX P w K mg base f cd Aw outer s H E (a, go)) [] (start gN vs) H s2
theorem born (T : Ev K mg) {A : Around} {outer : List Env} {s : Shared} {H : Hp} {us : List Value} {vs : List V} (hd : A.depth < recursionLimit) (e0 : Env0 P w K mg base A outer s H) (r : Vals vs us) (hl : vs.length = 2) :
    codeAny (model P w) A (.call (.ref (He.ga K "phase_letters")) ⟨us, []⟩) (fun res s' => ∃ cd a go, res = .ok (.ret (.ref a)) ∧ Born P w K mg base (He.ga K "phase_letters") outer s H vs cd a go s') s := by
  obtain ⟨fd, F⟩ := F_phase_letters T
  have hb : Binds K fd ["rule", "level"] [] := F.bindsN fun _ _ _ _ _ _ us hl => match us, hl with | [_, _], _ => rfl
  generalize He.ga K "phase_letters" = f at *
  obtain ⟨oc, od, dV, kV, doc, pm, an, cdv, ct, osl, rfl, lk, hcd, _, _⟩ := F.ex
  have KX : K.In s.heap := e0.mod.kin.keeps fun b o e => (e0.bs b o e).1
  have lim : s.heap.NoLimit := e0.mod.nolimit.keeps fun b o e => (e0.bs b o e).1
  have hkind : ∀ y ∈ (["rule", "level"] : List Str).zip us, (defScope s_phase_letters).names.lookup y.1 = some .local ∨ ((defScope s_phase_letters).names.lookup y.1 = some .cell ∧ ((cellsFrom (s.heap.objs.size + 1) (defScope s_phase_letters).names []).lookup y.1).isSome = true) := fun ⟨n, v⟩ hy => by
    rcases gS.par n (List.of_mem_zip hy).1 with q | q
    · exact .inl q
    · exact .inr ⟨q, PySem.W.cellsFrom_some _ _ _ (.inl q)⟩
  have hbt := hb s us KX (by rw [List.append_nil, ← r.length, hl]; rfl)
  rw [List.append_nil] at hbt
  refine codeAny_call_generator hd (KX _ _ lk) rfl gS.co gS.gen rfl (PySem.W.codeRec_of KX hcd) (hbt _ _ _ _ ?_)
  refine wpAny_newFunctionEnv_cells gS.kind hkind fun env he s1 x => ?_
  subst he
  have lim1 : s1.heap.NoLimit := lim.keeps x.toInCall.keep
  refine ⟨lim1, ?_⟩
  obtain ⟨h1, tk, es1, hk1⟩ := x.done
  have os1 : s1.os = s.os := by rw [es1]
  have gen1 : s1.gens = s.gens := by rw [es1]
  have lt1 : s.heap.objs.size < s1.heap.objs.size := x.toInCall.ns.lt
  have kp1 : ∀ b o, s.heap.get? b = some o → s1.heap.get? b = some o := x.toInCall.keep
  have main : ∀ (go : Obj) (nm qn : Value) (tk2 : Nat), go.cls = .type "generator" → go.data = .fields #[.int s1.gens.size 0, nm, qn] → go.slots = #[] → (∀ h : Heap, (h.push go).get? h.objs.size = some go) →
      Born P w K mg base f outer s H vs cdv s1.heap.objs.size go { s1 with gens := s1.gens.push (.fresh (.func (defBody s_phase_letters) (gEnv s.heap.objs.size f cdv))), toks := tk2, heap := s1.heap.push go } := by
    intro go nm qn tk2 hgc hgd0 hgs hgp
    refine ⟨hgp _, fun h e => ⟨go, nm, qn, e, hgc, by rw [hgd0, gen1], hgs⟩, hgc, ⟨_, hgd0⟩, by rw [gen1], os1, fun b o e => Heap.get?_push_of_some _ (kp1 b o e), lt1, fun Aw E s2 hh hfr hos hba hk2 => ?_⟩
    have e0w : Env0 P w K mg base Aw outer s H := ⟨hfr, e0.mod, e0.bs, e0.bsz, e0.funs, e0.frf, e0.hok, e0.bare⟩
    have I1 : Inv (gcxOf P w K mg base gN "phase_letters" (defScope s_phase_letters) f cdv Aw outer s H E []) [] (start gN vs) H s1 := inv_startG gS hh e0w hl r x
    have kp2 : ∀ b o, s1.heap.get? b = some o → s2.heap.get? b = some o := fun b o e => hk2 b o (Heap.get?_push_of_some _ e)
    have I2 : Inv (gcxOf P w K mg base gN "phase_letters" (defScope s_phase_letters) f cdv Aw outer s H E []) [] (start gN vs) H s2 :=
      I1.call' (ch := []) (hos.trans os1.symm) (Un.kept kp2) (I1.hok.kept kp2) hba fun b z => by simp at z
    refine (Inv.pinnedG I2 fun p hp => ?_).wish _
    rcases List.mem_append.mp hp with z | z
    · rw [List.mem_singleton.mp z]
      exact ⟨hk2 _ _ (hgp _), I1.hok.fresh (Nat.le_refl _), Nat.ne_of_gt lt1, I1.nofs (Nat.le_refl _), fun v q => by rw [hgd0] at q; cases q⟩
    · simp at z
  exact ⟨_, _, _, rfl, main _ _ _ _ rfl rfl rfl fun h => Heap.get?_push_size _ rfl⟩
end
end K12
namespace K12
open PySem PySem.Spec PyProof.Rows L2 K12M K12G GenW
open PySem.W (Frag)
def gS0 : Stmt := (defBody s_phase_letters).getD 0 (.Pass ⟨0, 0, 0, 0⟩)
def gS1 : Stmt := (defBody s_phase_letters).getD 1 (.Pass ⟨0, 0, 0, 0⟩)
def gS2 : Stmt := (defBody s_phase_letters).getD 2 (.Pass ⟨0, 0, 0, 0⟩)
def cI : Expr := match gS2 with
  | .For _ i _ _ _ => i
  | _ => .Name "x" ⟨0, 0, 0, 0⟩
abbrev cB : List Stmt := gBody ⟨49, 14, 49, 23⟩ ⟨49, 24, 49, 29⟩ ⟨49, 31, 49, 36⟩ ⟨49, 38, 49, 40⟩ ⟨49, 14, 49, 41⟩ ⟨49, 8, 49, 41⟩ ⟨49, 8, 49, 41⟩
abbrev cT : Expr := .Name "at" ⟨48, 8, 48, 10⟩
theorem gBody_is : defBody s_phase_letters = [gS0, gS1, .For cT cI cB [] ⟨48, 4, 49, 41⟩] := rfl
abbrev cCode (it L f : Addr) (cd : Value) : Code := .forLoop cT (.ref it) cB [] (gEnv L f cd)
/-- the frames below the generator's own loop -/
structure Fs0 (P : Program) (w : World) (A : Around) (it L f : Addr) (cd : Value) (fs0 : List Frame) : Prop where
  over : A.over (cCode it L f cd) fs0 = A.deeper (gEnv L f cd)
  split : splitAtGen fs0 = none
  noguard : fs0.any Frame.guarded = false
  fin : ∀ (s : Shared) (Φ : End → Shared → Prop), Φ (.ret (.ok (.ret .none))) s → Sg (model P w) A (.block [] (gEnv L f cd)) (leafOf (.ok .next)) fs0 s Φ
/-- behind the first item -/
structure First (P : Program) (w : World) (A : Around) (outer : List Env) (sc : Shared) (H H3 : Hp) (a : Addr) (go : Obj) (f : Addr) (cd : Value) (sp : K12M.Spec) (n : Nat) (Tb it : Addr) (fs0 : List Frame) (v : Value) (s : Shared) : Prop where
  same : Same H H3
  rows : RowsAt H3 Tb sp n
  os : s.os = sc.os
  bare : AllBare s.gens
  un : Un (frs outer) [sc.heap.objs.size, it] H H3 sc.heap s.heap
  hok : HOk P w H3 s.heap
  ns : GNs s.heap sc.heap.objs.size Tb n
  iter : RIter s.heap it 1 (len sp n).toNat
  rv : RelV (.int (letter sp n 1)) v
  obj : s.heap.get? a = some go
  ha : H3 a = none
  hL : H3 sc.heap.objs.size = none
  hi : H3 it = none
  big : sc.heap.objs.size ≤ it
  ne1 : sc.heap.objs.size ≠ it
  ne2 : a ≠ it
  ne3 : a ≠ sc.heap.objs.size
  fs : Fs0 P w A it sc.heap.objs.size f cd fs0
theorem local_at {X : Cx} {pins : List (Addr × Obj)} {σ : L2.St} {H : Hp} {s : Shared} {i : Nat} {x : Str} {v : V} (I : Inv X pins σ H s) {m : Str → Option Value} (hl : ∀ (i : Nat) (x : Str) (v : V), X.N[i]? = some x → σ[i]? = some (some v) → Vis X.env.scope x → ∃ u, RelV v u ∧ Look X.env s.heap m x u)
    (h1 : X.N[i]? = some x) (h2 : σ[i]? = some (some v)) (hk : X.env.kindOf x = some .local) (hv : Vis X.env.scope x) : ∃ u, RelV v u ∧ m x = some u := by
  obtain ⟨u, r, l⟩ := hl i x v h1 h2 hv
  refine ⟨u, r, ?_⟩
  rcases l with ⟨_, e⟩ | ⟨z, _⟩
  · exact e
  · rw [hk] at z
    rcases z with z | z <;> cases z
section
variable {P : Program} {w : World} {K : Frag} {mg : Str → Option Value} {base : Heap}
theorem gen_first (T : Ev K mg) (hP : TopOk P) {Aw : Around} {outer : List Env} {sc s2 : Shared} {H : Hp} {E : XK} {f a : Addr} {cd : Value} {go : Obj} {ra : Addr} {l : Int} {sp : K12M.Spec} {Φ : End → Shared → Prop}
    (I : Inv (gX P w K mg base f cd Aw outer sc H E (a, go)) [] (start gN [.ref ra, .int l]) H s2) (hr : Room 7 (Aw.deeper (gEnv sc.heap.objs.size f cd))) (hA : RuleAt K H sp ra) (ok : sp.Ok) (hn : sp.depth ≤ 3)
    (bad : ¬(1 ≤ l ∧ l ≤ 64) → oor K E (.int l) H) (hbad : ∀ e s'', L2N.CX P w outer H sc E e s'' → s''.heap.get? a = some go → Φ (.ret (.error e)) s'')
    (good : ∀ n : Nat, l = (n : Int) → 1 ≤ n → n ≤ 64 → ∀ (H3 : Hp) (Tb it : Addr) (fs0 : List Frame) (v : Value) (s'' : Shared), First P w Aw outer sc H H3 a go f cd sp n Tb it fs0 v s'' → ∀ p l' k,
      (∀ s3 Φ', Sg (model P w) Aw (cCode it sc.heap.objs.size f cd) ((model P w).den (cCode it sc.heap.objs.size f cd)) fs0 s3 Φ' → Sg (model P w) Aw (cCode it sc.heap.objs.size f cd) (k (.send .none)) fs0 s3 Φ') →
      Φ (.susp v false l' k (cCode it sc.heap.objs.size f cd) p fs0) s'') :
    Sg (model P w) Aw (.func (defBody s_phase_letters) (gEnv sc.heap.objs.size f cd)) ((model P w).den (.func (defBody s_phase_letters) (gEnv sc.heap.objs.size f cd))) [] s2 Φ := by
  have hErr : ∀ e s', (gX P w K mg base f cd Aw outer sc H E (a, go)).xe e s' → Sg (model P w) Aw (.func (defBody s_phase_letters) (gEnv sc.heap.objs.size f cd)) ((leaving (gEnv sc.heap.objs.size f cd) e).wrap (fun _ => .raise e) .raise id id) [] s' Φ := fun e s' he => by
    refine sg_wrap ?_
    rw [over_func]
    exact wpAny_mono (show wpAny (model P w) (Aw.deeper (gEnv sc.heap.objs.size f cd)) (leaving (gEnv sc.heap.objs.size f cd) e) (fun _ s'' => L2N.CX P w outer H sc E e s'' ∧ ∀ q ∈ [(a, go)], s''.heap.get? q.1 = some q.2) (fun _ _ => False) s' from he)
      (fun _ s'' q => sg_end (.error e) (hbad e s'' q.1 (q.2 (a, go) (List.mem_singleton.mpr rfl)))) fun _ _ z => z.elim
  refine sg_func ?_
  generalize hc : (Code.func (defBody s_phase_letters) (gEnv sc.heap.objs.size f cd)) = cc at *
  have hov : Aw.over cc [] = Aw.deeper (gEnv sc.heap.objs.size f cd) := by rw [← hc]; exact over_func
  rw [gBody_is]
  have nd : (gN : List Str).Nodup := gS.nd
  have runS : ∀ {st : Stmt} {K' : Flow → Sem PySem.Fin} {σ : L2.St} {H1 : Hp} {s1 : Shared} (Dn : L2.St → Hp → Prop), Inv (gX P w K mg base f cd Aw outer sc H E (a, go)) [] σ H1 s1 → (∃ t, PS (gX P w K mg base f cd Aw outer sc H E (a, go)) st t ∧ t { nx := Dn, rt := fun _ _ => False } σ H1) →
      (∀ σ' H' s', Inv (gX P w K mg base f cd Aw outer sc H E (a, go)) [] σ' H' s' → Dn σ' H' → Sg (model P w) Aw cc (K' .next) [] s' Φ) →
      Sg (model P w) Aw cc ((exec st (gEnv sc.heap.objs.size f cd)).wrap K' (fun e => (leaving (gEnv sc.heap.objs.size f cd) e).wrap (fun _ => .raise e) .raise id id) id id) [] s1 Φ := by
    intro st K' σ H1 s1 Dn I1 ht hk
    obtain ⟨t, ht, hr1⟩ := ht
    refine sg_wrap ?_
    rw [hov]
    refine wpAny_mono (ht.run [] s1 σ H1 _ I1 hr1) (fun fl s' hs => ?_) hErr
    cases fl with
    | next => obtain ⟨σ', H', I', q⟩ := hs; exact hk σ' H' s' I' q
    | brk => obtain ⟨_, _, _, q⟩ := hs; exact False.elim q
    | cont => obtain ⟨_, _, _, q⟩ := hs; exact False.elim q
    | ret u => obtain ⟨_, _, _, _, _, q⟩ := hs; exact False.elim q
  -- need_level(level, 1)
  refine sg_execs_cons (runS (fun σ' H' => σ' = start gN [.ref ra, .int l] ∧ H' = H ∧ 1 ≤ l ∧ l ≤ 64) I ⟨_, ps_expr (pe_callF (ok_need_level (P := P) (w := w) (base := base) T hP) (hr.mono (by decide)) (by rfl) (g_need_level T) (kpd (F_need_level T)) (fun σ => L2N.passAt takes_gX σ) (pa_cons (pv 1) (pa_cons pe_int pa_nil))), ?_⟩ ?_)
  · exact ⟨_, rfl, l, 1, rfl, fun h1 h2 => ⟨rfl, rfl, h1, h2⟩, bad⟩
  rintro σ' H' s3 I3 ⟨rfl, rfl, l1, l64⟩
  obtain ⟨n, rfl⟩ : ∃ n : Nat, l = (n : Int) := ⟨l.toNat, by omega⟩
  -- table = reach_table(rule, level)
  refine sg_execs_cons (runS (fun σ' H3 => ∃ Tb, σ' = [some (.ref ra), some (.int (n : Int)), some (.ref Tb), none] ∧ Same H' H3 ∧ RowsAt H3 Tb sp n) I3 ⟨_, ps_set (i := 2) nd rfl (.inl rfl) (pe_callF (ok_reach_table (P := P) (w := w) (base := base) T) (hr.mono (by decide)) (by rfl) (g_reach_table T) (kpd (F_reach_table T)) passN (pa_cons (pv 0) (pa_cons (pv 1) pa_nil))), ?_⟩ ?_)
  · exact ⟨_, rfl, _, rfl, ra, sp, n, rfl, hA, ok, hn, by omega, by omega, fun H3 p sm np hR => ⟨p, rfl, sm, hR⟩⟩
  rintro σ' H3 s4 I4 ⟨Tb, rfl, sm, hR⟩
  -- for at in range(1, table[level][1] + 1)
  refine sg_execs_cons (sg_For ?_)
  rw [hov]
  have lp := len_pos ok (k := n) (by omega)
  obtain ⟨xs, hx, hl, hrow⟩ := id hR
  obtain ⟨tt, et, ht⟩ := hrow n (Nat.le_refl _)
  obtain ⟨tA, hA2, rA⟩ : ∃ t, PA (gX P w K mg base f cd Aw outer sc H' E (a, go)) [.Constant (.int 1) 0 ⟨48, 20, 48, 21⟩, .BinOp (.Subscript (.Subscript (.Name "table" ⟨48, 23, 48, 28⟩) (.Name "level" ⟨48, 29, 48, 34⟩) ⟨48, 23, 48, 35⟩) (.Constant (.int 1) 0 ⟨48, 36, 48, 37⟩) ⟨48, 23, 48, 38⟩) .Add (.Constant (.int 1) 0 ⟨48, 41, 48, 42⟩) ⟨48, 23, 48, 42⟩] t ∧
      t [some (.ref ra), some (.int (n : Int)), some (.ref Tb), none] H3 (fun vs H4 => vs = [.int 1, .int (len sp n + 1)] ∧ H4 = H3) :=
    ⟨_, pa_cons pe_int (pa_cons (pe_op op_add (pe_ix ix_tup (pe_ix ix_list (pv 2) (pv 1) (fun _ _ => rfl)) pe_int (fun _ _ => rfl)) pe_int) pa_nil), ⟨_, rfl, _, rfl, Tb, xs, _, _, rfl, rfl, SqL.of hx, atI_nat et, tt, _, 1, _, rfl, rfl, SqT.of ht, atI_nat (j := 1) rfl, _, _, rfl, rfl, rfl, rfl⟩⟩
  show wpAny (model P w) (Aw.deeper (gEnv sc.heap.objs.size f cd)) (eval (.Call (.Name "range" ⟨48, 14, 48, 19⟩) [.Constant (.int 1) 0 ⟨48, 20, 48, 21⟩, .BinOp (.Subscript (.Subscript (.Name "table" ⟨48, 23, 48, 28⟩) (.Name "level" ⟨48, 29, 48, 34⟩) ⟨48, 23, 48, 35⟩) (.Constant (.int 1) 0 ⟨48, 36, 48, 37⟩) ⟨48, 23, 48, 38⟩) .Add (.Constant (.int 1) 0 ⟨48, 41, 48, 42⟩) ⟨48, 23, 48, 42⟩] [] ⟨48, 14, 48, 43⟩) (gEnv sc.heap.objs.size f cd)) _ _ _
  refine Call_ (ld_blt (X := gX P w K mg base f cd Aw outer sc H' E (a, go)) I4 (by rfl) (n_range T) boot_range (PyProof.Rows.callWith_type1 (wpAny_mono (hA2.run _ [] s4 _ H3 _ I4 rA) (fun us s5 hq => ?_) hErr) rfl rfl))
  obtain ⟨vs, H4, I5, rv, rfl, rfl⟩ := hq
  cases rv with
  | cons r1 rr =>
    cases rr with
    | cons r2 rr =>
      cases rr
      obtain ⟨t1, rfl⟩ := r1
      obtain ⟨t2, rfl⟩ := r2
      refine call_range_2 ?_
      refine riter_new (m := len sp n + 1) (by omega) (IsRange.new ..) fun h' it0 k0 => ?_
      intro p0 l0
      have kA : ∀ b o, s5.heap.get? b = some o → h'.get? b = some o := fun b o e => k0 b o (Heap.get?_push_of_some _ e)
      have itbig : s5.heap.objs.size < (s5.heap.push ({ cls := .type "range", data := .fields #[.int 1 t1, .int (len sp n + 1) t2, .int 1 s5.toks] } : Obj)).objs.size := by rw [Heap.size_push]; exact Nat.lt_succ_self _
      have I6 : Inv (gX P w K mg base f cd Aw outer sc H' E (a, go)) [] [some (.ref ra), some (.int (n : Int)), some (.ref Tb), none] H4 { s5 with heap := h', toks := s5.toks + 1 } := I5.kept (t' := s5.toks + 1) kA
      generalize hit : (s5.heap.push ({ cls := .type "range", data := .fields #[.int 1 t1, .int (len sp n + 1) t2, .int 1 s5.toks] } : Obj)).objs.size = it at *
      have en : (len sp n + 1 - 1).toNat = (len sp n).toNat := by omega
      rw [en] at it0
      have hLs : sc.heap.objs.size < s5.heap.objs.size := I5.lt
      have HL : H4 sc.heap.objs.size = none := I6.free
      have Hit : H4 it = none := I5.hok.fresh (Nat.le_of_lt itbig)
      have neLi : sc.heap.objs.size ≠ it := Nat.ne_of_lt (Nat.lt_trans hLs itbig)
      have itf : it ∉ frs outer := I5.nofs (Nat.le_of_lt itbig)
      have hfunc : ∀ b ∈ frs outer, b < sc.heap.objs.size := fun b hb => by
        obtain ⟨_, o, ho, _⟩ := I5.ok.funs.mem hb
        exact Heap.lt_size ho
      have Lf : sc.heap.objs.size ∉ frs outer := fun hb => absurd (hfunc _ hb) (Nat.lt_irrefl _)
      have bsz : base.objs.size ≤ sc.heap.objs.size := I5.ok.bsz
      have bit : base.get? it = none := Heap.get?_none_of_le (Nat.le_trans bsz (Nat.le_of_lt (Nat.lt_trans hLs itbig)))
      obtain ⟨gp1, gp2, gp3, gp4, gp5⟩ := I5.pin (a, go) (List.mem_append_left _ (List.mem_singleton.mpr rfl))
      have nea : a ≠ it := fun z => by
        have z1 := Heap.lt_size gp1
        rw [show (a, go).1 = it from z] at z1
        exact absurd (Nat.lt_trans z1 itbig) (Nat.lt_irrefl _)
      have hns : GNs h' sc.heap.objs.size Tb n := by
        obtain ⟨m, hm, hl2⟩ := I6.loc
        obtain ⟨u1, ru1, e1⟩ := local_at (i := 2) (x := "table") (v := .ref Tb) I6 hl2 rfl rfl rfl (.inl rfl)
        obtain ⟨u2, ru2, e2⟩ := local_at (i := 1) (x := "level") (v := .int (n : Int)) I6 hl2 rfl rfl rfl (.inl rfl)
        obtain rfl : u1 = Value.ref Tb := ru1
        obtain ⟨t, rfl⟩ := ru2
        exact ⟨m, hm, e1, t, e2⟩
      refine gen_turn (P := P) (w := w) (K := K) (mg := mg) (base := base) T (i := 0) (H := H4) (outer := outer) (sp := sp) (n := n) ((over_loop rfl rfl).trans hov) I6.env0 (hr.mono (by decide)) hns hR ok (by omega) (by omega) it0 HL Hit neLi itf Lf bit bsz (by omega) rfl ?_ ?_
      · intro _ v s6 os6 bare6 un6 hok6 ns6 iter6 rv6 p1 l1' k1 hk1
        have un0 : Un (frs outer) [] H' H4 sc.heap h' := I6.base
        refine good n rfl (by omega) (by omega) H4 Tb it _ v s6 ⟨sm, hR, os6.trans I6.os, bare6, (un0.mono (fun _ h => h) (fun _ h => by cases h)).trans un6, hok6, ns6, iter6, rv6, ?_, gp2, HL, Hit, Nat.le_of_lt (Nat.lt_trans hLs itbig), neLi, nea, gp3, ⟨(over_loop rfl rfl).trans hov, rfl, rfl, fun s7 Φ' h7 => ?_⟩⟩ p1 l1' k1 hk1
        · refine un6.keep a go (kA _ _ gp1) gp2 gp4 fun z => ?_
          rcases List.mem_cons.mp z with z | z
          · exact gp3 z
          · exact nea (List.mem_singleton.mp z)
        · refine sg_leaf (.ok .next) ?_
          show Sg (model P w) Aw cc (leafOf (.ok (.ret .none))) [] s7 Φ'
          exact sg_end _ h7
      · intro hz
        exact absurd hz (by simp; omega)
end
end K12
set_option Elab.async false
set_option linter.all false
set_option maxRecDepth 100000
set_option maxHeartbeats 4000000
/-! for x in phase_letters(rule, level): .. -/
namespace K12
open PySem PySem.Spec PyProof.Rows L2 K12M K12G GenW
open PySem.W (Frag)
theorem Inv.cp {X : Cx} {pins : List (Addr × Obj)} {σ : L2.St} {H : Hp} {s u : Shared} (I : Inv X pins σ H s) (c : Cp s u) : Inv X pins σ H u := by
  have e := c.heap
  refine ⟨I.ok, c.os.symm.trans I.os, c.bare I.bare, ?_, ?_, ?_, I.free, I.freeC, ?_, ?_, I.len⟩
  · rw [← e]; exact I.base
  · rw [← e]; exact I.loc
  · rw [← e]; exact I.cell
  · rw [← e]; exact I.pin
  · rw [← e]; exact I.hok
theorem Inv.copy {X : Cx} {pins : List (Addr × Obj)} {σ : L2.St} {H : Hp} {s : Shared} (I : Inv X pins σ H s) : Inv X pins σ H (copy s) :=
  ⟨I.ok, I.os, copy_bare I.bare, I.base, I.loc, I.cell, I.free, I.freeC, I.pin, I.hok, I.len⟩
theorem SP.cp {X : Cx} {pins : List (Addr × Obj)} {D : Ends} {f : Flow} {s u : Shared} (h : SP X pins D f s) (c : Cp s u) : SP X pins D f u := by
  cases f with
  | next => obtain ⟨σ', H', I, q⟩ := h; exact ⟨σ', H', Inv.cp I c, q⟩
  | brk => obtain ⟨σ', H', I, q⟩ := h; exact ⟨σ', H', Inv.cp I c, q⟩
  | cont => obtain ⟨σ', H', I, q⟩ := h; exact ⟨σ', H', Inv.cp I c, q⟩
  | ret u => obtain ⟨v, σ', H', I, r, q⟩ := h; exact ⟨v, σ', H', Inv.cp I c, r, q⟩
/-- the target and the body run; the generator at g, asleep, keeps its state -/
theorem body_run {X : Cx} {tg : Expr} {body : List Stmt} {g : TG} {tb : TS} (hg : PG X.nox tg g) (hb : PSs X.nox body tb) {pins : List (Addr × Obj)} {σ : L2.St} {H : Hp} {s : Shared} {D : Ends} {v : V} {u : Value} {i : Nat} {k : Resume → Sem PySem.Fin} {l : List Value} {c : Code} {p : Pos} {fs : List Frame} {cl : Bool}
    (I : Inv X pins σ H s) (r : RelV v u) (hs : s.gens[i]? = some (.suspended k l c p fs cl)) (h : g v σ H fun σ2 H2 => tb D σ2 H2) :
    wpAny (model X.prog X.w) X.A (assign tg X.env u) (fun _ s6 => wpAny (model X.prog X.w) X.A (execs body X.env) (fun f s7 => SP X pins D f s7 ∧ s7.gens[i]? = some (.suspended k l c p fs cl)) (fun _ _ => False) s6) (fun _ _ => False) s := by
  have h1 := hg.run pins (copy s) σ H v u _ ((Inv.copy I).wish _) r h
  have hd : (copy s).gens[i]? = some (.suspended deadK l c p fs cl) := by rw [copy_get, hs]; rfl
  have isd : IsDead (.suspended deadK l c p fs cl) := ⟨_, _, _, _, _, rfl⟩
  refine wpAny_mono (lifts_any (copy_cp s) (copy_dd s) h1) (fun _ u6 h6 => ?_) (fun _ _ z => ?_)
  · obtain ⟨s6, c6, d6, k6, σ6, H6, I6, q6⟩ := h6
    obtain ⟨e6, g6⟩ := k6 i _ hd isd
    refine wpAny_mono (lifts_any c6 d6 (hb.run pins s6 σ6 H6 D I6 q6)) (fun f u7 h7 => ?_) (fun _ _ z => ?_)
    · obtain ⟨s7, c7, d7, k7, q7⟩ := h7
      obtain ⟨e7, g7⟩ := k7 i _ e6 isd
      exact ⟨(SP.cp q7 c7).unwish, g7.trans (g6.trans hs)⟩
    · obtain ⟨_, _, _, _, q⟩ := z
      exact q
  · obtain ⟨_, _, _, _, q⟩ := z
    exact q
/-- what the loop's reader keeps: behind i turns, with the measure m -/
def GTurn (D : Ends) (g : TG) (tb : TS) (sp : K12M.Spec) (n : Nat) (Tb : Addr) (W : Nat → Nat → L2.St → Hp → Prop) : Prop :=
  ∀ i m σ H, W i m σ H → RowsAt H Tb sp n ∧ (((i : Int) = len sp n ∧ D.nx σ H) ∨ ((i : Int) < len sp n ∧ ∃ N : L2.St → Hp → Prop, (∀ σ' H', N σ' H' → ∃ m', m' < m ∧ W (i + 1) m' σ' H') ∧
    g (.int (letter sp n ((i : Int) + 1))) σ H fun σ2 H2 => tb { D with nx := N, ct := N, bk := D.nx } σ2 H2))
def tForG (K : Frag) (Wx : WX) (t1 t2 : TE) (g : TG) (tb : TS) : TS := fun D σ H => tCons t1 (tCons t2 tNil) σ H fun vs H2 => ∃ (ra : Addr) (l : Int) (sp : K12M.Spec), vs = [.ref ra, .int l] ∧ RuleAt K H2 sp ra ∧ sp.Ok ∧ sp.depth ≤ 3 ∧
  (¬(1 ≤ l ∧ l ≤ 64) → oor K (fun cls d H' => Wx cls d σ H') (.int l) H2) ∧
  (∀ n : Nat, l = (n : Int) → 1 ≤ n → n ≤ 64 → ∃ M : Nat, ∀ H3 Tb, Same H2 H3 → RowsAt H3 Tb sp n → ∃ W, GTurn D g tb sp n Tb W ∧ W 0 M σ H3)
/-- such an exception is no StopIteration -/
theorem notStopN {P : Program} {w : World} {K : Frag} {outer : List Env} {H : Hp} {s s' : Shared} {E : XK} {e : Value} (hE : ∀ cls d H, E cls d H → PySem.W.subIn K cls (.type "StopIteration") = some false) (kin : K.In s'.heap) (c : L2N.CX P w outer H s E e s') : NotStop (model P w) e s'.heap := by
  obtain ⟨a, B, H', cls, d, rfl, fl, _, _, _, _, _, hW⟩ := c
  obtain ⟨oe, vs, he, hz, hd⟩ := fl.there
  have L := PySem.W.looks_subIn (M := model P w) kin (hE cls d H' hW)
  intro A Q E' s2 hs hq
  simp only [isInstance]
  refine wpAny_bind (wpAny_typeOf_ref (o := oe) (by rw [hs]; exact he) ?_)
  rw [hz.1]
  exact L A Q E' s2 (fun b o z => by rw [hs]; exact z) hq
/-- asleep behind i items -/
structure Late (X : Cx) (pins : List (Addr × Obj)) (a : Addr) (go : Obj) (gn : Nat) (L : Addr) (f : Addr) (cd : Value) (sp : K12M.Spec) (n : Nat) (Tb it : Addr) (i : Nat) (σ : L2.St) (H : Hp) (s : Shared) : Prop where
  inv : Inv X pins σ H s
  obj : s.heap.get? a = some go
  slp : ∃ fs0 k l p, Fs0 X.prog X.w X.A.in1 it L f cd fs0 ∧ s.gens[gn]? = some (.suspended k l (cCode it L f cd) p fs0 false) ∧
    ∀ s3 Φ', Sg (model X.prog X.w) X.A.in1 (cCode it L f cd) ((model X.prog X.w).den (cCode it L f cd)) fs0 s3 Φ' → Sg (model X.prog X.w) X.A.in1 (cCode it L f cd) (k (.send .none)) fs0 s3 Φ'
  ns : GNs s.heap L Tb n
  iter : RIter s.heap it i (len sp n).toNat
  fp : ∀ b ∈ [a, L, it], FpOk X pins H b ∧ X.s_0.heap.objs.size ≤ b
  ne1 : L ≠ it
  ne2 : a ≠ it
  ne3 : a ≠ L
section
variable {X : Cx} {pins : List (Addr × Obj)} {a L f Tb it : Addr} {go : Obj} {gn n i : Nat} {cd : Value} {sp : K12M.Spec} {σ : L2.St} {H : Hp} {s : Shared} {tg : Expr} {body : List Stmt} {g : TG} {tb : TS} {D : Ends} {u : Value}
theorem item_step (hg : PG X.nox tg g) (hb : PSs X.nox body tb) (Z : Late X pins a go gn L f cd sp n Tb it (i + 1) σ H s) (hgo : go.cls = .type "generator" ∧ ∃ vs, go.data = .fields vs) (ru : RelV (.int (letter sp n ((i : Int) + 1))) u) {N : L2.St → Hp → Prop}
    (step : g (.int (letter sp n ((i : Int) + 1))) σ H fun σ2 H2 => tb { D with nx := N, ct := N, bk := D.nx } σ2 H2) :
    wpAny (model X.prog X.w) X.A (letOwnedTupleGo tg (.ref a) u) (fun _ s5 => wpAny (model X.prog X.w) X.A (assign tg X.env u) (fun _ s6 => wpAny (model X.prog X.w) X.A (execs body X.env) (fun fl s7 => match fl with
      | .next | .cont => ∃ σ7 H7, Late X pins a go gn L f cd sp n Tb it (i + 1) σ7 H7 s7 ∧ N σ7 H7
      | .brk => ∃ σ7 H7, Inv X pins σ7 H7 s7 ∧ D.nx σ7 H7
      | .ret u' => ∃ v7 σ7 H7, Inv X pins σ7 H7 s7 ∧ RelV v7 u' ∧ D.rt v7 H7) (fun _ _ => False) s6) (fun _ _ => False) s5) (fun _ _ => False) s := by
  obtain ⟨gc, vs, gd⟩ := hgo
  obtain ⟨fs0, k, l, p, hf0, hgs, hcont⟩ := Z.slp
  refine go_of (n := "generator") Z.obj gc gd (by decide) ?_
  have objs : ∀ b ∈ [a, L, it], ∃ o, s.heap.get? b = some o ∧ ∀ v, o.data ≠ .cell v := fun b hb => by
    rcases List.mem_cons.mp hb with rfl | hb
    · exact ⟨go, Z.obj, fun v z => by rw [gd] at z; cases z⟩
    rcases List.mem_cons.mp hb with rfl | hb
    · obtain ⟨m, ⟨o, es, ep, ho, hd, _⟩, _⟩ := Z.ns
      exact ⟨o, ho, fun v z => by rw [hd] at z; cases z⟩
    · rw [List.mem_singleton.mp hb]
      exact Z.iter.obj
  have I' := Z.inv.pinned (fp := [a, L, it]) (fun b hb => (Z.fp b hb).1) objs
  refine wpAny_mono (body_run hg hb I' ru hgs step) (fun _ s6 h6 => wpAny_mono h6 (fun fl s7 h7 => ?_) fun _ _ z => z) fun _ _ z => z
  obtain ⟨hs7, hg7⟩ := h7
  have kp : ∀ {σ7 : L2.St} {H7 : Hp}, Inv X (pins ++ pinsAt [a, L, it] s.heap) σ7 H7 s7 → ∀ b ∈ [a, L, it], ∀ o, s.heap.get? b = some o → s7.heap.get? b = some o ∧ H7 b = none := fun {σ7 H7} I7 b hb o e =>
    let z := I7.pin (b, o) (List.mem_append_right _ (List.mem_append_right _ (mem_pinsAt hb e)))
    ⟨z.1, z.2.1⟩
  have again : ∀ {σ7 : L2.St} {H7 : Hp}, Inv X (pins ++ pinsAt [a, L, it] s.heap) σ7 H7 s7 → Late X pins a go gn L f cd sp n Tb it (i + 1) σ7 H7 s7 := fun {σ7 H7} I7 => by
    refine ⟨I7.unpinned, (kp I7 a (by simp) go Z.obj).1, ⟨fs0, k, l, p, hf0, hg7, hcont⟩, Z.ns.at fun o e => ⟨o.slots, (kp I7 L (by simp) o e).1⟩, Z.iter.keep fun o e => (kp I7 it (by simp) o e).1, fun b hb => ?_, Z.ne1, Z.ne2, Z.ne3⟩
    obtain ⟨o, e, _⟩ := objs b hb
    exact ⟨⟨(kp I7 b hb o e).2, (Z.fp b hb).1.2⟩, (Z.fp b hb).2⟩
  cases fl with
  | next => obtain ⟨σ7, H7, I7, q7⟩ := hs7; exact ⟨σ7, H7, again I7, q7⟩
  | cont => obtain ⟨σ7, H7, I7, q7⟩ := hs7; exact ⟨σ7, H7, again I7, q7⟩
  | brk => obtain ⟨σ7, H7, I7, q7⟩ := hs7; exact ⟨σ7, H7, I7.unpinned, q7⟩
  | ret u' => obtain ⟨v7, σ7, H7, I7, r7, q7⟩ := hs7; exact ⟨v7, σ7, H7, I7.unpinned, r7, q7⟩
/-- next, behind i items -/
theorem late_next (T : Ev X.K X.mg) (hc : X.calm = true) (hr : Room 3 X.A) (Z : Late X pins a go gn L f cd sp n Tb it i σ H s) (isg : ∀ h : Heap, h.get? a = some go → h.IsGen a gn) (hR : RowsAt H Tb sp n) (ok : sp.Ok) (n1 : 1 ≤ n) (n64 : n ≤ 64) (hi : (i : Int) ≤ len sp n) {Q : Option Value → Shared → Prop} {E : Value → Shared → Prop}
    (hgo : (i : Int) < len sp n → ∀ v s', RelV (.int (letter sp n ((i : Int) + 1))) v → Late X pins a go gn L f cd sp n Tb it (i + 1) σ H s' → Q (some v) s')
    (hstop : (i : Int) = len sp n → ∀ s', Inv X pins σ H s' → Q none s') : wpAny (model X.prog X.w) X.A (pyNext (.ref a)) Q E s := by
  obtain ⟨fs0, k, l, p, hf0, hgs, hcont⟩ := Z.slp
  have I := Z.inv
  have hh : X.A.handled = none := I.ok.hd hc
  have hgl : gn < s.gens.size := lt_of hgs
  have fpa := Z.fp a (by simp)
  have fpL := Z.fp L (by simp)
  have fpi := Z.fp it (by simp)
  have bsz : X.base.objs.size ≤ L := Nat.le_trans I.ok.bsz fpL.2
  have nstk : ∀ b, FpOk X pins H b → b ∉ frs X.stack := fun b hb hm => (List.mem_cons.mp (I.stkSub b hm)).elim hb.2.1 hb.2.2.1
  have baseNo : ∀ b, X.s_0.heap.objs.size ≤ b → X.base.get? b = none := fun b hb => Heap.get?_none_of_le (Nat.le_trans I.ok.bsz hb)
  refine wpAny_gsz (n := gn + 1) hgl (next1 (E := fun e s' => gn + 1 ≤ s'.gens.size → E e s') hh I.nolimit (by have := hr.dp; omega) (isg _ Z.obj) hgs (.inr ⟨k, l, _, p, fs0, false, rfl, hcont _ _ ?_⟩))
  obtain ⟨m, hm, _, _⟩ := id Z.ns
  have e0 : Env0 X.prog X.w X.K X.mg X.base (X.A.in1.deeper (gEnv L f cd)) (gEnv L f cd :: X.stack) (s.setGen gn .running) H := by
    refine ⟨Around.frames_deeper I.ok.frames, I.ok.mod, I.bs, Nat.le_trans I.ok.bsz I.sz, ?_, fun b hb => ?_, I.hok, allBare_setGen I.bare rfl⟩
    · exact Heap.FunFrames.cons (by show (defScope s_phase_letters).kind ≠ .module; rw [gS.kind]; decide) rfl hm (baseNo L fpL.2) I.stack
    · have fr : frs (gEnv L f cd :: X.stack) = L :: frs X.stack := by unfold frs; rw [List.filterMap_cons, show (gEnv L f cd).frame = some L from rfl]
      rw [fr] at hb
      rcases List.mem_cons.mp hb with rfl | hb
      · exact fpL.1.1
      · exact I.stkFree b hb
  have invOf : ∀ (s' : Shared), s'.os = s.os → AllBare s'.gens → Un (frs X.stack) [L, it] H H s.heap s'.heap → HOk X.prog X.w H s'.heap → Inv X pins σ H s' := fun s' os bare un hok =>
    I.call' (ch := [L, it]) os un hok bare fun b hb => by
      rcases List.mem_cons.mp hb with rfl | hb
      · exact ⟨fpL.1.2.2.2.1, fpL.1.2.1, fpL.1.2.2.2.2.1, fpL.1.2.2.2.2.2⟩
      · rw [List.mem_singleton.mp hb]
        exact ⟨fpi.1.2.2.2.1, fpi.1.2.1, fpi.1.2.2.2.2.1, fpi.1.2.2.2.2.2⟩
  refine gen_turn (P := X.prog) (w := X.w) (K := X.K) (mg := X.mg) (base := X.base) T (i := i) (H := H) (outer := X.stack) (sp := sp) (n := n) hf0.over e0 ?_ Z.ns hR ok n1 n64 Z.iter fpL.1.1 fpi.1.1 Z.ne1 (nstk it fpi.1) (nstk L fpL.1) (baseNo it fpi.2) bsz hi hf0.split ?_ ?_
  · have h2 : Room 2 X.A.in1 := hr.in1
    exact h2.deeper _
  · intro hlt v s' os bare un hok ns iter rv p' l' k' hk'
    refine ⟨hf0.noguard, fun l2 hsz => hgo hlt v _ rv ⟨?_, ?_, ⟨fs0, k', l2, p', hf0, ?_, hk'⟩, ns, iter, Z.fp, Z.ne1, Z.ne2, Z.ne3⟩⟩
    · exact invOf _ os (allBare_setGen bare rfl) un hok
    · refine un.keep a go Z.obj fpa.1.1 (nstk a fpa.1) fun z => ?_
      rcases List.mem_cons.mp z with z | z
      · exact Z.ne3 z
      · exact Z.ne2 (List.mem_singleton.mp z)
    · refine setGen_at ?_
      have q : (s'.setGen gn (.suspended k' l2 (cCode it L f cd) p' fs0 false)).gens.size = s'.gens.size := setGen_size _ _ _
      have hsz' : gn + 1 ≤ (s'.setGen gn (.suspended k' l2 (cCode it L f cd) p' fs0 false)).gens.size := hsz
      omega
  · intro heq s' os bare un hok
    refine hf0.fin s' _ ⟨.inl rfl, fun h' kp _ => hstop heq _ ?_⟩
    exact invOf _ os (allBare_setGen bare rfl) (un.trans (Un.kept kp)) (hok.kept kp)
/-- THE RULE -/
theorem ps_forG {Wx : WX} {e1 e2 : Expr} {t1 t2 : TE} {pp pos pos' : Pos} (hc : X.calm = true) (hp : PassesOwn (model X.prog X.w) X.A X.env X.xe) (T : Ev X.K X.mg) (hP : TopOk X.prog) (hr : Room 9 X.A) (tk : L2N.Takes X Wx) (h1 : PE X e1 t1) (h2 : PE X e2 t2) (hg : PG X.nox tg g) (hb : PSs X.nox body tb)
    (hgl : Gl X "phase_letters" := by rfl) (he : starEach [e1, e2] X.env = (false, eval e1 X.env) :: starEach [e2] X.env := by rfl) (he2 : starEach [e2] X.env = (false, eval e2 X.env) :: starEach [] X.env := by rfl) (hpl : (backTo pos (starEach [e2] X.env)).any (·.1) = false := by rfl)
    (hs : ∀ x, foldedSetIterable (.Call (.Name "phase_letters" pp) [e1, e2] [] pos) X.env x = pure x := by intro _; rfl) :
    PS X (.For tg (.Call (.Name "phase_letters" pp) [e1, e2] [] pos) body [] pos') (tForG X.K Wx t1 t2 g tb) := by
  refine ⟨fun pins s σ H D I h => ?_⟩
  refine wpAny_For ?_ hs
  refine wpAny_Call_Name_kw (ld_glob I hgl (g_phase_letters T) ?_)
  refine PySem.W.callWith_K (h₀ := X.base) I.ok.mod.kin (kpd (F_phase_letters T)) (thn ((pa_cons h1 (pa_cons h2 pa_nil he2) he).run pos pins s σ H _ I h) fun us sc hq => ?_) he hpl
  obtain ⟨vs, H2, I1, rv, ra, l, sp, rfl, hA, ok, hn, bad, good⟩ := hq
  refine ⟨I1.kIn, ?_⟩
  refine wpAny_call (codeAny_mono (born T (by have := hr.dp; omega) I1.env0 rv rfl) fun res s2 hB => ?_)
  obtain ⟨cd, a, go, rfl, B⟩ := hB
  have hh : X.A.handled = none := I1.ok.hd hc
  have Z : sc.heap.objs.size < a := B.big
  refine wpAny_pyIter_gen (B.isg _ B.obj) ?_
  have bare2 : AllBare s2.gens := by rw [B.gens]; exact AllBare.push I1.bare rfl
  have nolim2 : s2.heap.NoLimit := I1.nolimit.keeps B.kept
  have g2 : s2.gens[sc.gens.size]? = some (.fresh (.func (defBody s_phase_letters) (gEnv sc.heap.objs.size (He.ga X.K "phase_letters") cd))) := by rw [B.gens]; exact Array.getElem?_push_size ..
  -- the measure ahead of the first turn
  obtain ⟨M, hM⟩ : ∃ M : Nat, ∀ n : Nat, l = (n : Int) → 1 ≤ n → n ≤ 64 → ∀ H3 Tb, Same H2 H3 → RowsAt H3 Tb sp n → ∃ W, GTurn D g tb sp n Tb W ∧ W 0 M σ H3 := by
    by_cases hl : 1 ≤ l ∧ l ≤ 64
    · obtain ⟨M, hM⟩ := good l.toNat (by omega) (by omega) (by omega)
      refine ⟨M, fun n en n1 n64 => ?_⟩
      have e : n = l.toNat := by omega
      rw [e]
      exact hM
    · exact ⟨0, fun n en n1 n64 => absurd (by omega) hl⟩
  have fpNew : ∀ {H' : Hp} {b : Addr}, sc.heap.objs.size ≤ b → H' b = none → FpOk X pins H' b := fun {H' b} hb hn => I1.fpOk hb hn
  refine codeAny_forLoop_any (fun m s' => (m = M ∧ s' = s2) ∨ ∃ (n : Nat) (Tb it : Addr) (i : Nat) (σ' : L2.St) (H' : Hp) (W : Nat → Nat → L2.St → Hp → Prop), 1 ≤ n ∧ n ≤ 64 ∧ GTurn D g tb sp n Tb W ∧ W i m σ' H' ∧ Late X pins a go sc.gens.size sc.heap.objs.size (He.ga X.K "phase_letters") cd sp n Tb it i σ' H' s') ?_ M (.inl ⟨rfl, rfl⟩)
  have fin : ∀ {n : Nat} {Tb it : Addr} {i m : Nat} {σ' : L2.St} {H' : Hp} {W : Nat → Nat → L2.St → Hp → Prop} {v : Value} {s3 : Shared} {N : L2.St → Hp → Prop}, 1 ≤ n → n ≤ 64 → GTurn D g tb sp n Tb W → (∀ σ'' H'', N σ'' H'' → ∃ m', m' < m ∧ W (i + 1) m' σ'' H'') →
      (g (.int (letter sp n ((i : Int) + 1))) σ' H' fun σ2 H2 => tb { D with nx := N, ct := N, bk := D.nx } σ2 H2) → RelV (.int (letter sp n ((i : Int) + 1))) v → Late X pins a go sc.gens.size sc.heap.objs.size (He.ga X.K "phase_letters") cd sp n Tb it (i + 1) σ' H' s3 →
      wpAny (model X.prog X.w) X.A (letOwnedTupleGo tg (.ref a) v) (fun _ s5 => wpAny (model X.prog X.w) X.A (assign tg X.env v) (fun _ s6 => wpAny (model X.prog X.w) X.A (execs body X.env) (fun fl s7 => match fl with
        | .next | .cont => ∃ m', m' < m ∧ ((m' = M ∧ s7 = s2) ∨ ∃ (n : Nat) (Tb it : Addr) (i : Nat) (σ' : L2.St) (H' : Hp) (W : Nat → Nat → L2.St → Hp → Prop), 1 ≤ n ∧ n ≤ 64 ∧ GTurn D g tb sp n Tb W ∧ W i m' σ' H' ∧ Late X pins a go sc.gens.size sc.heap.objs.size (He.ga X.K "phase_letters") cd sp n Tb it i σ' H' s7)
        | .brk => SP X pins D .next s7
        | .ret u' => SP X pins D (.ret u') s7) (fun _ _ => False) s6) (fun _ _ => False) s5) (fun _ _ => False) s3 := fun {n Tb it i m σ' H' W v s3 N} n1 n64 hW hN step rv' hL => by
    refine wpAny_mono (item_step hg hb hL ⟨B.cls, B.dat⟩ rv' step) (fun _ s5 h5 => wpAny_mono h5 (fun _ s6 h6 => wpAny_mono h6 (fun fl s7 h7 => ?_) fun _ _ z => z) fun _ _ z => z) fun _ _ z => z
    cases fl with
    | next => obtain ⟨σ7, H7, L7, q7⟩ := h7; obtain ⟨m', hlt, hw⟩ := hN _ _ q7; exact ⟨m', hlt, .inr ⟨n, Tb, it, i + 1, σ7, H7, W, n1, n64, hW, hw, L7⟩⟩
    | cont => obtain ⟨σ7, H7, L7, q7⟩ := h7; obtain ⟨m', hlt, hw⟩ := hN _ _ q7; exact ⟨m', hlt, .inr ⟨n, Tb, it, i + 1, σ7, H7, W, n1, n64, hW, hw, L7⟩⟩
    | brk => exact h7
    | ret u' => exact h7
  have lift3 : ∀ {α β γ : Type} {A : Around} {x : Sem α} {y : Sem β} {z : Sem γ} {Q : γ → Shared → Prop} {E E' : Value → Shared → Prop} {s3 : Shared}, wpAny (model X.prog X.w) A x (fun _ s5 => wpAny (model X.prog X.w) A y (fun _ s6 => wpAny (model X.prog X.w) A z Q (fun _ _ => False) s6) (fun _ _ => False) s5) (fun _ _ => False) s3 →
      wpAny (model X.prog X.w) A x (fun _ s5 => wpAny (model X.prog X.w) A y (fun _ s6 => wpAny (model X.prog X.w) A z Q E s6) E s5) E s3 := fun {α β γ A x y z Q E E' s3} h => wpAny_mono h (fun _ _ h => wpAny_mono h (fun _ _ h => wpAny_mono h (fun _ _ h => h) fun _ _ z => z.elim) fun _ _ z => z.elim) fun _ _ z => z.elim
  rintro m s3 (⟨rfl, rfl⟩ | ⟨n, Tb, it, i, σ', H', W, n1, n64, hW, hw, hL⟩)
  · -- the first turn
    refine wpAny_passesOwn hp (wpAny_gsz (n := sc.gens.size + 1) (lt_of g2) (next1 (E := fun e s' => sc.gens.size + 1 ≤ s'.gens.size → X.xe e s') hh nolim2 (by have := hr.dp; omega) (B.isg _ B.obj) g2 (.inl ⟨_, rfl, ?_⟩)))
    have hr7 : Room 7 (X.A.in1.deeper (gEnv sc.heap.objs.size (He.ga X.K "phase_letters") cd)) := by
      have h8 : Room 8 X.A.in1 := hr.in1
      exact h8.deeper _
    refine gen_first (P := X.prog) (w := X.w) (K := X.K) (mg := X.mg) (base := X.base) T hP (E := fun cls d H' => Wx cls d σ H' ∧ cls = .ref (He.ga X.K "OutOfRange"))
      (B.inv X.A.in1 _ (s3.setGen sc.gens.size .running) hh I1.ok.frames B.os (allBare_setGen bare2 rfl) (fun b o e => e)) hr7 hA ok hn (fun hb d hd => ⟨bad hb d hd, rfl⟩) (fun e s'' cx hobj => ?_) fun n en n1 n64 H3 Tb it fs0 v s'' Fi p l' k hk => ?_
    · obtain ⟨a', B', H', cls, d, rfl, fl, hok, ub, na, os, ag, hE⟩ := cx
      have kin : X.K.In s''.heap := I1.ok.mod.kin.keeps fun b o e => by
        obtain ⟨q1, q2⟩ := I1.bs b o e
        refine fl.1 b o (ub.keep b o q1 q2 fun hm => ?_)
        rcases List.mem_cons.mp (I1.stkSub b hm) with z | z
        · have := Heap.get?_none_of_le (h := X.base) (Nat.le_trans I1.ok.bsz I1.ok.above)
          rw [z, this] at e
          cases e
        · exact I1.ok.nofr e z
      refine ⟨B.isg _ hobj, notStopN (E := fun cls d H' => Wx cls d σ H' ∧ cls = .ref (He.ga X.K "OutOfRange")) (fun cls d H h => by rw [h.2]; exact x_subStop T) kin ⟨a', B', H', cls, d, rfl, fl, hok, ub, na, os, ag, hE⟩, fun _ => tk _ _ (L2N.XE.of_call (W := Wx) (E := fun cls d H' => Wx cls d σ H' ∧ cls = .ref (He.ga X.K "OutOfRange")) (s' := s''.setGen sc.gens.size .finished) I1 (fun cls d H' h => h.1) ⟨a', B', H', cls, d, rfl, fl, hok, ub, na, os, allBare_setGen ag rfl, hE⟩)⟩
    · refine ⟨Fi.fs.noguard, fun l2 hsz => ?_⟩
      obtain ⟨W, hW, w0⟩ := hM n en n1 n64 H3 Tb Fi.same Fi.rows
      obtain ⟨_, htn⟩ := hW 0 m σ H3 w0
      rcases htn with ⟨z, _⟩ | ⟨_, N, hN, step⟩
      · have := len_pos ok n1
        omega
      have rv1 : RelV (.int (letter sp n (((0 : Nat) : Int) + 1))) v := by
        rw [show ((0 : Nat) : Int) + 1 = 1 by omega]
        exact Fi.rv
      refine lift3 (E' := fun _ _ => False) (fin (i := 0) (it := it) n1 n64 hW hN step rv1 ⟨?_, Fi.obj, ⟨fs0, k, l2, p, Fi.fs, ?_, hk⟩, Fi.ns, Fi.iter, fun b hb => ?_, Fi.ne1, Fi.ne2, Fi.ne3⟩)
      · have fpL : FpOk X pins H3 sc.heap.objs.size := fpNew (Nat.le_refl _) Fi.hL
        have fpi : FpOk X pins H3 it := fpNew Fi.big Fi.hi
        refine I1.call' (ch := [sc.heap.objs.size, it]) Fi.os Fi.un Fi.hok (allBare_setGen Fi.bare rfl) fun b hb => ?_
        rcases List.mem_cons.mp hb with rfl | hb
        · exact ⟨fpL.2.2.2.1, fpL.2.1, fpL.2.2.2.2.1, fpL.2.2.2.2.2⟩
        · rw [List.mem_singleton.mp hb]
          exact ⟨fpi.2.2.2.1, fpi.2.1, fpi.2.2.2.2.1, fpi.2.2.2.2.2⟩
      · refine setGen_at ?_
        have q : (s''.setGen sc.gens.size (.suspended k l2 (cCode it sc.heap.objs.size (He.ga X.K "phase_letters") cd) p fs0 false)).gens.size = s''.gens.size := setGen_size _ _ _
        have hsz' : sc.gens.size + 1 ≤ (s''.setGen sc.gens.size (.suspended k l2 (cCode it sc.heap.objs.size (He.ga X.K "phase_letters") cd) p fs0 false)).gens.size := hsz
        omega
      · rcases List.mem_cons.mp hb with rfl | hb
        · exact ⟨fpNew (Nat.le_of_lt Z) Fi.ha, Nat.le_trans I1.sz (Nat.le_of_lt Z)⟩
        rcases List.mem_cons.mp hb with rfl | hb
        · exact ⟨fpNew (Nat.le_refl _) Fi.hL, I1.sz⟩
        · rw [List.mem_singleton.mp hb]
          exact ⟨fpNew Fi.big Fi.hi, Nat.le_trans I1.sz Fi.big⟩
  · -- a later turn
    obtain ⟨hR, htn⟩ := hW i m σ' H' hw
    have hile : (i : Int) ≤ len sp n := by
      rcases htn with ⟨z, _⟩ | ⟨z, _⟩ <;> omega
    refine wpAny_passesOwn hp (late_next T hc (hr.mono (by decide)) hL B.isg hR ok n1 n64 hile (fun hlt v s4 rv4 L4 => ?_) fun heq s4 I4 => ?_)
    · rcases htn with ⟨z, _⟩ | ⟨_, N, hN, step⟩
      · omega
      · exact lift3 (E' := fun _ _ => False) (fin n1 n64 hW hN step rv4 L4)
    · rcases htn with ⟨_, q⟩ | ⟨z, _⟩
      · exact wpAny_execs_nil ⟨σ', H', I4, q⟩
      · omega
end
end K12
set_option Elab.async false
set_option linter.all false
set_option maxRecDepth 100000
set_option maxHeartbeats 4000000
/-! The law's own small defs: integer, is, box, mixed, draw. -/
namespace K12
open PySem PySem.Spec PyProof.Rows L2 K12M
open PySem.W (Frag)
/-! ### lists of ints as data -/
theorem ints_lay : ∀ ns : List Int, PyData.canLayAll0 (ns.map PyData.int) = true
  | [] => by simp [PyData.canLayAll0]
  | z :: zs => by simp [PyData.canLayAll0, PyData.canLay0, ints_lay zs]
theorem ints_depth : ∀ ns : List Int, PyData.depthAll (ns.map PyData.int) ≤ 1
  | [] => by simp [PyData.depthAll]
  | z :: zs => by
    have h1 := ints_depth zs
    simp only [List.map_cons, PyData.depthAll, PyData.depth]
    omega
theorem ints_shaped (ns : List Int) : SeqAt.shaped (.list (ns.map PyData.int)) = true := by
  have h1 := ints_depth ns
  have h2 : PyData.depth (.list (ns.map PyData.int)) ≤ 64 := by
    simp only [PyData.depth]
    omega
  show (PyData.canLay0 (.list (ns.map PyData.int)) && decide (PyData.depth (.list (ns.map PyData.int)) ≤ 64)) = true
  rw [Bool.and_eq_true]
  exact ⟨by simp only [PyData.canLay0]; exact ints_lay ns, decide_eq_true h2⟩
theorem ints_dp {K : Frag} {H : Hp} : ∀ ns : List Int, DpAll K H (ns.map V.int) (ns.map PyData.int)
  | [] => .nil
  | z :: zs => .cons (.int z) (ints_dp zs)
theorem ints_eqv_nil : ∀ ns : List Int, PyData.eqv (.list (ns.map PyData.int)) (.list (([] : List Int).map PyData.int)) = ns.isEmpty
  | [] => by simp [PyData.eqv, PyData.eqvAll]
  | z :: zs => by simp [PyData.eqv, PyData.eqvAll]
/-! ### the box -/
structure Box (H : Hp) (b g : Addr) : Prop where
  ex : ∃ (c f t : Int) (ns : List Int), H b = some (.lst [.int c, .ref g, .int f, .int t]) ∧ 0 ≤ c ∧ H g = some (.lst (ns.map V.int)) ∧ ∀ x ∈ ns, 0 < x
  ne : b ≠ g
/-- all but the box is kept -/
def Kept (b g : Addr) (H H' : Hp) : Prop := ∀ a o, H a = some o → a ≠ b → a ≠ g → H' a = some o
theorem Kept.refl {b g : Addr} {H : Hp} : Kept b g H H := fun _ _ e _ _ => e
theorem Kept.trans {b g : Addr} {H1 H2 H3 : Hp} (x : Kept b g H1 H2) (y : Kept b g H2 H3) : Kept b g H1 H3 := fun a o e n1 n2 => y a o (x a o e n1 n2) n1 n2
theorem kept_of {b g : Addr} {H H' : Hp} (h : Same H H') : Kept b g H H' := fun a o e _ _ => h a o e
theorem Kept.stil {b g : Addr} {H H' : Hp} (k : Kept b g H H') (B : Box H b g) : Stil H H' := fun a o e hl => by
  obtain ⟨c, f, t, ns, h1, _, h2, _⟩ := B.ex
  refine k a o e (fun z => ?_) fun z => ?_
  · rw [z, h1] at e; cases e; exact hl _ rfl
  · rw [z, h2] at e; cases e; exact hl _ rfl
theorem Box.same {b g : Addr} {H H' : Hp} (B : Box H b g) (k : Same H H') : Box H' b g := by
  obtain ⟨⟨c, f, t, ns, h1, h2, h3, h4⟩, ne⟩ := B
  exact ⟨⟨c, f, t, ns, k _ _ h1, h2, k _ _ h3, h4⟩, ne⟩
/-- a list that stands beside the box is kept -/
theorem Kept.lst {b g a : Addr} {H H' : Hp} {xs : List V} (k : Kept b g H H') (h : H a = some (.lst xs)) (n1 : a ≠ b) (n2 : a ≠ g) : H' a = some (.lst xs) := k a _ h n1 n2
section
variable {P : Program} {w : World} {K : Frag} {mg : Str → Option Value} {base : Heap}
/-! ### _law_integer, _law_is -/
def spInt : Sp := fun vs H Q _ => ∃ x : Int, vs = [.int x] ∧ Q (.bl true) H
theorem sc__law_integer : FnScope ["_law_told"] ["_law_told"] (defScope s__law_integer) := ⟨rfl, rfl, rfl, by decide +kernel, rfl, by decide +kernel, by decide +kernel⟩
theorem ok__law_integer (T : Ev K mg) : FnR P w K mg base CX0 1 (He.ga K "_law_integer") spInt := by
  obtain ⟨fd, F⟩ := F__law_integer T
  refine fnR_of (FunD.ok F sc__law_integer (fun vs H Q E h => ?_) (fun cdv A outer s H vs Q E hr h => ?_)) (F.bindsN fun _ _ _ _ _ _ us hl => match us, hl with | [_], _ => rfl)
  · obtain ⟨x, rfl, _⟩ := h
    rfl
  · obtain ⟨x, rfl, q⟩ := h
    refine ⟨_, pss_one (ps_ret (pe_and (pe_callB call_isi (by rfl) (n_isinstance T) (by decide +kernel) (pa_cons (pv 0) (pa_cons (pe_bltn (v := .ty "int") (by rfl) (n_int T) (by decide +kernel) rfl) pa_nil)))
      (pe_one (pe_not (pe_callB call_isi (by rfl) (n_isinstance T) (by decide +kernel) (pa_cons (pv 0) (pa_cons (pe_bltn (v := .ty "bool") (by rfl) (n_bool T) (by decide +kernel) rfl) pa_nil))))))), ?_⟩
    refine ⟨_, rfl, .int x, .ty "int", .type "int", .type "int", true, rfl, .ty _, .base (.int _), kit_ty (by decide +kernel), _, rfl, ?_⟩
    refine ifT rfl ⟨_, rfl, .int x, .ty "bool", .type "int", .type "bool", false, rfl, .ty _, .base (.int _), kit_ty (by decide +kernel), _, rfl, q⟩
theorem okH__law_integer (T : Ev K mg) : ∃ fd, L2H.FnH P w K mg base CX0 1 (He.ga K "_law_integer") fd ["_law_told"] spInt ∧ Binds K fd ["_law_told"] [] := by
  obtain ⟨fd, F⟩ := F__law_integer T
  refine ⟨fd, ?_, F.bindsN fun _ _ _ _ _ _ us hl => match us, hl with | [_], _ => rfl⟩
  obtain ⟨oc, od, dV, kV, doc, pm, an, cdv, ct, osl, rfl, lk, hcd, _, _⟩ := F.ex
  refine L2H.fn_ofH lk hcd sc__law_integer (fun vs H Q E h => ?_) (fun A outer s H vs Q E p hot hr h => ?_)
  · obtain ⟨x, rfl, _⟩ := h
    rfl
  · obtain ⟨x, rfl, q⟩ := h
    refine ⟨_, pss_one (ps_ret (pe_and (pe_callB call_isi (by rfl) (n_isinstance T) (by decide +kernel) (pa_cons (pv 0) (pa_cons (pe_bltn (v := .ty "int") (by rfl) (n_int T) (by decide +kernel) rfl) pa_nil)))
      (pe_one (pe_not (pe_callB call_isi (by rfl) (n_isinstance T) (by decide +kernel) (pa_cons (pv 0) (pa_cons (pe_bltn (v := .ty "bool") (by rfl) (n_bool T) (by decide +kernel) rfl) pa_nil))))))), ?_⟩
    refine ⟨_, rfl, .int x, .ty "int", .type "int", .type "int", true, rfl, .ty _, .base (.int _), kit_ty (by decide +kernel), _, rfl, ?_⟩
    refine ifT rfl ⟨_, rfl, .int x, .ty "bool", .type "int", .type "bool", false, rfl, .ty _, .base (.int _), kit_ty (by decide +kernel), _, rfl, q⟩
/-- two equal ints -/
def spIs : Sp := fun vs H Q _ => ∃ x : Int, vs = [.int x, .int x] ∧ Q (.bl true) H
theorem sc__law_is : FnScope ["_law_told", "_law_due"] ["_law_told", "_law_due"] (defScope s__law_is) := ⟨rfl, rfl, rfl, by decide +kernel, rfl, by decide +kernel, by decide +kernel⟩
theorem ok__law_is (T : Ev K mg) : FnR P w K mg base CX0 2 (He.ga K "_law_is") spIs := by
  obtain ⟨fd, F⟩ := F__law_is T
  refine fnR_of (FunD.ok F sc__law_is (fun vs H Q E h => ?_) (fun cdv A outer s H vs Q E hr h => ?_)) (F.bindsN fun _ _ _ _ _ _ us hl => match us, hl with | [_, _], _ => rfl)
  · obtain ⟨x, rfl, _⟩ := h
    rfl
  · obtain ⟨x, rfl, q⟩ := h
    refine ⟨_, pss_one (ps_ret (pe_and (pe_callF (ok__law_integer T) hr (by rfl) (g__law_integer T) (kpd (F__law_integer T)) passN (pa_cons (pv 0) pa_nil)) (pe_one (pe_cmpR op_eq (pv 0) (pv 1) (nomark _))))), ?_⟩
    refine ⟨_, rfl, x, rfl, _, rfl, ifT rfl ⟨_, rfl, _, rfl, rfl, ?_⟩⟩
    rw [decide_eq_true rfl]
    exact q
theorem okH__law_is (T : Ev K mg) : ∃ fd, L2H.FnH P w K mg base CX0 2 (He.ga K "_law_is") fd ["_law_told", "_law_due"] spIs ∧ Binds K fd ["_law_told", "_law_due"] [] := by
  obtain ⟨fd, F⟩ := F__law_is T
  refine ⟨fd, ?_, F.bindsN fun _ _ _ _ _ _ us hl => match us, hl with | [_, _], _ => rfl⟩
  obtain ⟨oc, od, dV, kV, doc, pm, an, cdv, ct, osl, rfl, lk, hcd, _, _⟩ := F.ex
  obtain ⟨fd1, F1, b1⟩ := okH__law_integer (P := P) (w := w) (base := base) T
  refine L2H.fn_ofH lk hcd sc__law_is (fun vs H Q E h => ?_) (fun A outer s H vs Q E p hot hr h => ?_)
  · obtain ⟨x, rfl, _⟩ := h
    rfl
  · obtain ⟨x, rfl, q⟩ := h
    refine ⟨_, pss_one (ps_ret (pe_and (L2H.pe_callH F1 hr ⟨p, hot, List.mem_singleton.mpr rfl⟩ (by rfl) (g__law_integer T) (kpd (F__law_integer T)) b1 passN (pa_cons (pv 0) pa_nil)) (pe_one (pe_cmpR op_eq (pv 0) (pv 1) (nomark _))))), ?_⟩
    refine ⟨_, rfl, x, rfl, _, rfl, ifT rfl ⟨_, rfl, _, rfl, rfl, ?_⟩⟩
    rw [decide_eq_true rfl]
    exact q
/-! ### _law_mixed, _law_draw -/
def spMixed : Sp := fun vs H Q _ => ∃ a b : Int, vs = [.int a, .int b] ∧ ∀ r : Int, Q (.int r) H
theorem sc__law_mixed : FnScope ["_law_seed", "_law_turn", "_law_first", "_law_second"] ["_law_seed", "_law_turn"] (defScope s__law_mixed) := ⟨rfl, rfl, rfl, by decide +kernel, rfl, by decide +kernel, by decide +kernel⟩
theorem ok__law_mixed (T : Ev K mg) : FnR P w K mg base CX0 1 (He.ga K "_law_mixed") spMixed := by
  obtain ⟨fd, F⟩ := F__law_mixed T
  refine fnR_of (FunD.ok F sc__law_mixed (fun vs H Q E h => ?_) (fun cdv A outer s H vs Q E hr h => ?_)) (F.bindsN fun _ _ _ _ _ _ us hl => match us, hl with | [_, _], _ => rfl)
  · obtain ⟨a, b, rfl, _⟩ := h
    rfl
  · obtain ⟨a, b, rfl, q⟩ := h
    have nd := sc__law_mixed.nd
    refine ⟨_, pss_cons (ps_set (i := 2) nd rfl (.inl rfl) (pe_op op_mod (pe_callTy call_int1 (by rfl) (n_int T) (by decide +kernel) (pa_cons (pe_op op_add (pe_op op_add (pe_op op_mul (pv 0) pe_int) (pe_op op_mul (pv 1) pe_int)) pe_int) pa_nil)) pe_int))
      (pss_cons (ps_set (i := 3) nd rfl (.inl rfl) (pe_op op_mod (pe_callTy call_int1 (by rfl) (n_int T) (by decide +kernel) (pa_cons (pe_op op_add (pe_op op_mul (pv 2) (pe_op op_add (pe_op op_add (pe_op op_fdiv (pv 2) pe_int) (pv 1)) pe_int)) (pe_op op_fdiv (pv 0) pe_int)) pa_nil)) pe_int))
      (pss_one (ps_ret (pe_op op_mod (pe_callTy call_int1 (by rfl) (n_int T) (by decide +kernel) (pa_cons (pe_op op_add (pe_op op_mul (pv 3) (pe_op op_add (pe_op op_fdiv (pv 3) pe_int) pe_int)) (pv 2)) pa_nil)) pe_int)))), ?_⟩
    refine ⟨_, rfl, _, _, rfl, rfl, .inr ⟨by decide, by decide⟩, _, rfl, _, _, rfl, rfl, .inr ⟨by decide, by decide⟩, _, _, rfl, rfl, _, _, rfl, rfl, .inl ⟨_, rfl, _, _, rfl, rfl, by show (0 : Int) < 2147483647; decide, ?_⟩⟩
    have f1 := Int.emod_nonneg (a * 69621 + b * 40692 + 1299721) (show (2147483647 : Int) ≠ 0 by decide)
    have f2 := Int.emod_lt_of_pos (a * 69621 + b * 40692 + 1299721) (show (0 : Int) < 2147483647 by decide)
    refine ⟨_, rfl, _, rfl, _, _, rfl, rfl, ⟨by decide, by decide⟩, _, rfl, _, _, rfl, rfl, _, _, rfl, rfl, _, _, rfl, rfl, .inl ⟨Int.lt_of_lt_of_le (by decide) f1, Int.lt_trans f2 (by decide)⟩, _, rfl, _, _, rfl, rfl, ⟨by decide, by decide⟩, _, _, rfl, rfl, .inl ⟨_, rfl, _, _, rfl, rfl, by show (0 : Int) < 2147483629; decide, ?_⟩⟩
    have bnd : ∀ z : Int, -(2 ^ 64) < z % 2147483629 ∧ z % 2147483629 < 2 ^ 64 := fun z => ⟨Int.lt_of_lt_of_le (by decide) (Int.emod_nonneg z (by decide)), Int.lt_trans (Int.emod_lt_of_pos z (by decide)) (by decide)⟩
    refine ⟨_, rfl, _, rfl, _, _, rfl, rfl, ⟨by decide, by decide⟩, _, _, rfl, rfl, _, _, rfl, rfl, .inl (bnd _), _, rfl, _, _, rfl, rfl, .inl ⟨_, rfl, _, _, rfl, rfl, by show (0 : Int) < 2147483587; decide, ?_⟩⟩
    exact q _
theorem seq0 {n : Nat} (h : 0 < n) : seqIndex? 0 n = some 0 := (ixN_seq (n := n) (i := 0) (j := 0) (by unfold ixN; rw [if_pos (by decide), if_pos (by omega)]; rfl)).1
/-- a draw below many -/
def spDraw : Sp := fun vs H Q _ => ∃ (b g : Addr) (many : Int), vs = [.ref b, .int many] ∧ Box H b g ∧ 0 < many ∧ many.natAbs < 2 ^ 9000 ∧ ∀ H' r, Kept b g H H' → Box H' b g → 0 ≤ r → r < many → Q (.int r) H'
abbrev nDraw : List Str := ["_law_box_here", "_law_many", "_law_digit", "_law_total", "_law_span", "_law_turn"]
theorem sc__law_draw : FnScope nDraw ["_law_box_here", "_law_many"] (defScope s__law_draw) := ⟨rfl, rfl, rfl, by decide +kernel, rfl, by decide +kernel, by decide +kernel⟩
theorem ok__law_draw (T : Ev K mg) : FnR P w K mg base CX0 2 (He.ga K "_law_draw") spDraw := by
  obtain ⟨fd, F⟩ := F__law_draw T
  refine fnR_of (FunD.ok F sc__law_draw (fun vs H Q E h => ?_) (fun cdv A outer s H vs Q E hr h => ?_)) (F.bindsN fun _ _ _ _ _ _ us hl => match us, hl with | [_, _], _ => rfl)
  · obtain ⟨b, g, many, rfl, _⟩ := h
    rfl
  · obtain ⟨b, g, many, rfl, B, m0, m9, q⟩ := h
    have nd := sc__law_draw.nd
    obtain ⟨t2, h2, r2⟩ : ∃ t, PSs (cxOf CX0 P w K mg base nDraw "_law_draw" (defScope s__law_draw) (He.ga K "_law_draw") cdv A outer s H E) (defBody s__law_draw).tail t ∧ ∀ H1, Kept b g H H1 → Box H1 b g → t { nx := fun _ H' => Q .non H', rt := Q } (start nDraw [.ref b, .int many]) H1 := by
      refine ⟨_, pss_cons (ps_if (pt_cmpR op_gt (pe_ix ix_list (pv 0) pe_int (fun _ _ => rfl)) pe_int (nomark _))
          (pss_cons (ps_set (i := 2) nd rfl (.inl rfl) (pe_op op_mod (pe_callTy call_int1 (by rfl) (n_int T) (by decide +kernel) (pa_cons (pe_ix ix_list (pv 0) pe_int (fun _ _ => rfl)) pa_nil)) (pv 1)))
          (pss_cons (ps_asg (pe_op op_fdivW (pe_ix ix_list (pv 0) pe_int (fun _ _ => rfl)) (pv 1)) (pg_sub (pv 0) pe_int set_list)) (pss_one (ps_ret (pv 2))))) pss_nil)
        (pss_cons (ps_set (i := 3) nd rfl (.inl rfl) pe_int) (pss_cons (ps_set (i := 4) nd rfl (.inl rfl) pe_int)
        (pss_cons (ps_for (passes_of rfl) rfl (pi_range1 (by rfl) (n_range T) (pa_cons pe_int pa_nil)) (pg_name (i := 5) nd rfl (.inl rfl))
          (pss_one (ps_if (pt_cmpR op_lt (pv 4) (pv 1) (nomark _))
            (pss_cons (ps_asg (pe_op op_add (pe_ix ix_list (pv 0) pe_int (fun _ _ => rfl)) pe_int) (pg_sub (pv 0) pe_int set_list))
            (pss_cons (ps_set (i := 3) nd rfl (.inl rfl) (pe_op op_add (pe_op op_mul (pv 3) pe_int) (pe_callF (ok__law_mixed T) hr (by rfl) (g__law_mixed T) (kpd (F__law_mixed T)) passN (pa_cons (pe_ix ix_list (pv 0) pe_int (fun _ _ => rfl)) (pa_cons (pe_ix ix_list (pv 0) pe_int (fun _ _ => rfl)) pa_nil)))))
            (pss_one (ps_set (i := 4) nd rfl (.inl rfl) (pe_op op_mul (pv 4) pe_int))))) pss_nil)))
        (pss_one (ps_ret (pe_op op_mod (pe_callTy call_int1 (by rfl) (n_int T) (by decide +kernel) (pa_cons (pv 3) pa_nil)) (pv 1))))))), fun H1 k1 B1 => ?_⟩
      obtain ⟨⟨c, f, t, ns, hb, hc, hg, hpos⟩, ne⟩ := B1
      refine ⟨_, rfl, b, _, _, _, rfl, rfl, SqL.of hb, atI_nat (j := 0) rfl, _, _, rfl, rfl, _, rfl, ite2 (fun e => ?_) (fun e => ?_)⟩
      · refine ⟨_, rfl, b, _, _, _, rfl, rfl, SqL.of hb, atI_nat (j := 0) rfl, .inl ⟨_, rfl, _, rfl, _, _, rfl, rfl, m0, ?_⟩⟩
        refine ⟨_, rfl, b, _, _, _, rfl, rfl, SqL.of hb, atI_nat (j := 0) rfl, _, rfl, _, _, rfl, rfl, wide_div m0 m9 (by decide) (by decide), ?_⟩
        refine ⟨_, rfl, b, _, 0, 0, rfl, rfl, hb, rfl, _, rfl, ?_⟩
        refine q _ _ (fun a o ho n1 n2 => ?_) ⟨⟨_, f, t, ns, upd_same, Int.ediv_nonneg hc (by omega), ?_, hpos⟩, ne⟩ (Int.emod_nonneg _ (by omega)) (Int.emod_lt_of_pos _ m0)
        · rw [upd_ne n1]
          exact k1 a o ho n1 n2
        · rw [upd_ne (Ne.symm ne)]
          exact hg
      · refine ⟨30, rfl, by decide, by decide, for_range (lo := 0) (n := 30) (fun i σ H' => ∃ (v2 v5 : Option V) (tot sp : Int), σ = [some (.ref b), some (.int many), v2, some (.int tot), some (.int sp), v5] ∧ Kept b g H H' ∧ Box H' b g) ⟨none, none, 0, 1, rfl, k1, ⟨⟨c, f, t, ns, hb, hc, hg, hpos⟩, ne⟩⟩ ?_ ?_⟩
        · rintro i σ H' hi ⟨v2, v5, tot, sp, rfl, k2, ⟨⟨c, f, t, ns, hb, hc, hg, hpos⟩, ne⟩⟩
          refine ⟨_, rfl, _, rfl, _, _, rfl, rfl, _, rfl, ite2 (fun e => ?_) (fun e => ?_)⟩
          · refine ⟨_, rfl, b, _, _, _, rfl, rfl, SqL.of hb, atI_nat (j := 3) rfl, _, _, rfl, rfl, ?_⟩
            refine ⟨_, rfl, b, _, 3, 3, rfl, rfl, hb, rfl, ?_⟩
            have hb2 : (upd H' b (.lst ([V.int c, .ref g, .int f, .int t].set 3 (.int (t + 1))))) b = some (.lst [.int c, .ref g, .int f, .int (t + 1)]) := upd_same
            refine ⟨_, rfl, _, _, rfl, rfl, .inr ⟨by decide, by decide⟩, _, rfl, b, _, _, _, rfl, rfl, SqL.of hb2, atI_nat (j := 2) rfl, _, rfl, b, _, _, _, rfl, rfl, SqL.of hb2, atI_nat (j := 3) rfl, f, t + 1, rfl, fun r => ?_⟩
            refine ⟨_, _, rfl, rfl, _, rfl, _, _, rfl, rfl, .inr ⟨by decide, by decide⟩, v2, _, _, _, rfl, fun a o ho n1 n2 => ?_, ⟨⟨c, f, t + 1, ns, hb2, hc, ?_, hpos⟩, ne⟩⟩
            · rw [upd_ne n1]
              exact k2 a o ho n1 n2
            · rw [upd_ne (Ne.symm ne)]
              exact hg
          · exact ⟨v2, _, tot, sp, rfl, k2, ⟨⟨c, f, t, ns, hb, hc, hg, hpos⟩, ne⟩⟩
        · rintro σ H' ⟨v2, v5, tot, sp, rfl, k2, B2⟩
          exact ⟨_, rfl, .inl ⟨_, rfl, _, rfl, _, _, rfl, rfl, m0, q _ _ k2 B2 (Int.emod_nonneg _ (by omega)) (Int.emod_lt_of_pos _ m0)⟩⟩
    refine ⟨_, pss_cons (ps_if (PW.pt (pw_and (pt_cmpR op_eq (pe_ix ix_list (pv 0) pe_int (fun _ _ => rfl)) pe_int (nomark _)) (pw_and1 (pt_cmpR (op_neD hr.units) (pe_ix ix_list (pv 0) pe_int (fun _ _ => rfl)) (pe_lst pa_nil) (nomark _)))))
        (pss_one (ps_asg (pe_bm PySem.F.plainAttrs_list PySem.F.slot_list_pop PySem.F.type_list_pop mt_popAt (pe_ix ix_list (pv 0) pe_int (fun _ _ => rfl)) (pa_cons pe_int pa_nil)) (pg_sub (pv 0) pe_int set_list))) pss_nil) h2, ?_⟩
    obtain ⟨⟨c, f, t, ns, hb, hc, hg, hpos⟩, ne⟩ := id B
    refine ⟨_, rfl, b, _, _, _, rfl, rfl, SqL.of hb, atI_nat (j := 0) rfl, rfl, _, rfl, ite2 (fun e => ?_) (fun e => ?_)⟩
    · refine ⟨_, rfl, b, _, _, _, rfl, rfl, SqL.of hb, atI_nat (j := 1) rfl, Nat.zero_le _, fun p hp => ?_⟩
      have sm := same_new (o := .lst []) hp
      refine ⟨_, _, .lst (SqL.of (sm _ _ hg)) (ints_dp ns), .lst (SqL.of upd_same) (ints_dp []), ints_shaped ns, ints_shaped [], _, rfl, ?_⟩
      rw [ints_eqv_nil]
      cases ns with
      | nil => exact ifF rfl (r2 _ (kept_of sm) (B.same sm))
      | cons x r =>
        refine ifT rfl ?_
        have hb1 := sm _ _ hb
        have hg1 := sm _ _ hg
        refine ⟨_, rfl, b, _, _, _, rfl, rfl, SqL.of hb1, atI_nat (j := 1) rfl, .inl ⟨rfl, _, SqL.of hg1⟩, g, _, 0, 0, .int x, rfl, rfl, hg1, by decide, by decide, seq0 (by rw [List.length_map]; exact Nat.succ_pos _), rfl, ?_⟩
        have hb2 : (upd (upd H p (.lst [])) g (.lst ((((x :: r).map V.int)).eraseIdx 0))) b = some (.lst [.int c, .ref g, .int f, .int t]) := by
          rw [upd_ne ne]
          exact hb1
        refine ⟨_, rfl, b, _, 0, 0, rfl, rfl, hb2, rfl, ?_⟩
        refine r2 _ (fun a o ho n1 n2 => ?_) ⟨⟨x, f, t, r, upd_same, Int.le_of_lt (hpos x (List.mem_cons_self)), ?_, fun y hy => hpos y (List.mem_cons_of_mem _ hy)⟩, ne⟩
        · rw [upd_ne n1, upd_ne n2]
          exact sm a o ho
        · rw [upd_ne (Ne.symm ne), upd_same]
          rfl
    · exact r2 _ Kept.refl B
end
end K12
set_option Elab.async false
set_option linter.all false
set_option maxRecDepth 100000
set_option maxHeartbeats 4000000
/-! The drawn specs. -/
namespace K12
open PySem PySem.Spec PyProof.Rows L2 K12M
open PySem.W (Frag)
theorem lt9 {x : Int} (k : Nat) (h : x.natAbs < 2 ^ k) (hk : k ≤ 9000) : x.natAbs < 2 ^ 9000 := Nat.lt_of_lt_of_le h (Nat.pow_le_pow_right (by decide) hk)
theorem lt9s {x : Int} (h0 : 0 ≤ x) (h : x ≤ 1000000000000) : x.natAbs < 2 ^ 9000 := lt9 64 (by omega) (by decide)
/-- a spec at t -/
def SpecAt (H : Hp) : K12M.Spec → Addr → Prop
  | .line s e, t => H t = some (.tup [.str "line", .int s, .int e])
  | .table ps s, t => ∃ q, H t = some (.tup [.str "table", .ref q, .int s]) ∧ H q = some (.tup (ps.map V.int))
  | .both x y, t => ∃ p q, H t = some (.tup [.str "and", .ref p, .ref q]) ∧ SpecAt H x p ∧ SpecAt H y q
  | .each x y, t => ∃ p q, H t = some (.tup [.str "or", .ref p, .ref q]) ∧ SpecAt H x p ∧ SpecAt H y q
theorem SpecAt.stil {H H' : Hp} (k : Stil H H') : ∀ {s : K12M.Spec} {a : Addr}, SpecAt H s a → SpecAt H' s a
  | .line s e, a, h => k _ _ h (fun _ z => by cases z)
  | .table ps s, a, h => by
    obtain ⟨q, h1, h2⟩ := h
    exact ⟨q, k _ _ h1 (fun _ z => by cases z), k _ _ h2 (fun _ z => by cases z)⟩
  | .both x y, a, h => by
    obtain ⟨p, q, h1, h2, h3⟩ := h
    exact ⟨p, q, k _ _ h1 (fun _ z => by cases z), SpecAt.stil k h2, SpecAt.stil k h3⟩
  | .each x y, a, h => by
    obtain ⟨p, q, h1, h2, h3⟩ := h
    exact ⟨p, q, k _ _ h1 (fun _ z => by cases z), SpecAt.stil k h2, SpecAt.stil k h3⟩
section
variable {P : Program} {w : World} {K : Frag} {mg : Str → Option Value} {base : Heap}
/-- a drawn spec of depth n at most -/
def spGen (n : Nat) : Sp := fun vs H Q _ => ∃ b g, vs = [.ref b] ∧ Box H b g ∧ ∀ H' t s, Kept b g H H' → Box H' b g → SpecAt H' s t → s.Ok → s.depth ≤ n → Q (.ref t) H'
theorem sc__law_line : FnScope ["_law_box_here", "_law_steep"] ["_law_box_here"] (defScope s__law_line) := ⟨rfl, rfl, rfl, by decide +kernel, rfl, by decide +kernel, by decide +kernel⟩
theorem ok__law_line (T : Ev K mg) : FnR P w K mg base CX0 3 (He.ga K "_law_line") (spGen 0) := by
  obtain ⟨fd, F⟩ := F__law_line T
  refine fnR_of (FunD.ok F sc__law_line (fun vs H Q E h => ?_) (fun cdv A outer s H vs Q E hr h => ?_)) (F.bindsN fun _ _ _ _ _ _ us hl => match us, hl with | [_], _ => rfl)
  · obtain ⟨b, g, rfl, _⟩ := h
    rfl
  · obtain ⟨b, g, rfl, B, q⟩ := h
    have nd := sc__law_line.nd
    have dr := ok__law_draw (P := P) (w := w) (K := K) (mg := mg) (base := base) T
    have gd := g__law_draw T
    have kd := kpd (F__law_draw T)
    refine ⟨_, pss_cons (ps_if (pt_cmpR op_eq (pe_callF dr hr (by rfl) gd kd passN (pa_cons (pv 0) (pa_cons pe_int pa_nil))) pe_int (nomark _))
        (pss_cons (ps_set (i := 1) nd rfl (.inl rfl) (pe_op op_add pe_int (pe_callF dr hr (by rfl) gd kd passN (pa_cons (pv 0) (pa_cons (pe_op op_pow pe_int pe_int) pa_nil)))))
          (pss_one (ps_ret (pe_tup (pa_cons pe_str (pa_cons (pv 1) (pa_cons (pe_op op_sub (pe_op op_add (pe_callF dr hr (by rfl) gd kd passN (pa_cons (pv 0) (pa_cons (pe_op op_add (pe_op op_pow pe_int pe_int) (pv 1)) pa_nil))) pe_int) (pv 1)) pa_nil))))))) pss_nil)
      (pss_cons (ps_set (i := 1) nd rfl (.inl rfl) (pe_op op_add pe_int (pe_callF dr hr (by rfl) gd kd passN (pa_cons (pv 0) (pa_cons pe_int pa_nil)))))
        (pss_one (ps_ret (pe_tup (pa_cons pe_str (pa_cons (pv 1) (pa_cons (pe_op op_sub (pe_op op_add (pe_callF dr hr (by rfl) gd kd passN (pa_cons (pv 0) (pa_cons (pe_op op_add (pv 1) pe_int) pa_nil))) pe_int) (pv 1)) pa_nil))))))), ?_⟩
    refine ⟨_, rfl, b, g, 12, rfl, B, by decide, lt9s (by decide) (by decide), fun H1 r k1 B1 r0 r1 => ?_⟩
    refine ⟨rfl, _, rfl, ite2 (fun e => ?_) (fun e => ?_)⟩
    · refine ⟨_, rfl, _, _, rfl, rfl, ⟨by decide, by decide, by decide⟩, b, g, 1000000, rfl, B1, by decide, lt9s (by decide) (by decide), fun H2 x k2 B2 x0 x1 => ?_⟩
      refine ⟨_, _, rfl, rfl, _, rfl, _, rfl, _, _, rfl, rfl, ⟨by decide, by decide, by decide⟩, _, rfl, 1000000, 1 + x, rfl, rfl, b, g, _, rfl, B2, by show 0 < 1000000 + (1 + x); omega, lt9s (by show 0 ≤ 1000000 + (1 + x); omega) (by show 1000000 + (1 + x) ≤ _; omega), fun H3 y k3 B3 y0 y1 => ?_⟩
      have y1' : y < 1000000 + (1 + x) := y1
      refine ⟨_, _, rfl, rfl, _, rfl, _, _, rfl, rfl, by show 3 ≤ sizeLine; rw [sizeLine_eq]; decide, fun t nt => ?_⟩
      have sm := same_new (o := .tup [.str "line", .int (1 + x), .int (y + 1 - (1 + x))]) nt
      exact q _ t (.line (1 + x) (y + 1 - (1 + x))) (((k1.trans k2).trans k3).trans (kept_of sm)) (B3.same sm) upd_same ⟨by omega, by omega, by omega, by omega⟩ (Nat.le_refl _)
    · refine ⟨_, rfl, b, g, 4, rfl, B1, by decide, lt9s (by decide) (by decide), fun H2 x k2 B2 x0 x1 => ?_⟩
      refine ⟨_, _, rfl, rfl, _, rfl, _, rfl, _, rfl, 1 + x, 3, rfl, rfl, b, g, _, rfl, B2, by show 0 < 1 + x + 3; omega, lt9s (by show 0 ≤ 1 + x + 3; omega) (by show 1 + x + 3 ≤ _; omega), fun H3 y k3 B3 y0 y1 => ?_⟩
      have y1' : y < 1 + x + 3 := y1
      refine ⟨_, _, rfl, rfl, _, rfl, _, _, rfl, rfl, by show 3 ≤ sizeLine; rw [sizeLine_eq]; decide, fun t nt => ?_⟩
      have sm := same_new (o := .tup [.str "line", .int (1 + x), .int (y + 1 - (1 + x))]) nt
      exact q _ t (.line (1 + x) (y + 1 - (1 + x))) (((k1.trans k2).trans k3).trans (kept_of sm)) (B3.same sm) upd_same ⟨by omega, by omega, by omega, by omega⟩ (Nat.le_refl _)
/-! ### tables -/
structure Gd (ps : List Int) (i : Nat) (last : Int) : Prop where
  len : ps.length = i
  asc : Asc ps
  lo : ∀ j, j < i → 1 ≤ ps.getD j 0
  hi : ∀ j, j < i → ps.getD j 0 ≤ last
  top : last ≤ 10000000 * (i : Int)
  nn : 0 ≤ last
  last_ : 0 < i → ps.getD (i - 1) 0 = last
theorem getD_in {ps : List Int} {x : Int} {j : Nat} (h : j < ps.length) : (ps ++ [x]).getD j 0 = ps.getD j 0 := by
  rw [List.getD_eq_getElem?_getD, List.getD_eq_getElem?_getD, List.getElem?_append_left h]
theorem getD_at {ps : List Int} {x : Int} : (ps ++ [x]).getD ps.length 0 = x := by
  rw [List.getD_eq_getElem?_getD, List.getElem?_append_right (Nat.le_refl _), Nat.sub_self]
  rfl
theorem Gd.more {ps : List Int} {i : Nat} {last r : Int} (h : Gd ps i last) (r0 : 0 ≤ r) (r1 : r < 10000000) : Gd (ps ++ [last + 1 + r]) (i + 1) (last + 1 + r) := by
  obtain ⟨rfl, asc, lo, hi, top, nn, la⟩ := h
  refine ⟨by rw [List.length_append]; rfl, fun j hj => ?_, fun j hj => ?_, fun j hj => ?_, by omega, by omega, fun _ => ?_⟩
  · rw [List.length_append, List.length_singleton] at hj
    by_cases c : j + 1 < ps.length
    · rw [getD_in (by omega), getD_in c]
      exact asc j c
    · have e : j + 1 = ps.length := by omega
      rw [getD_in (by omega), e, getD_at]
      have := la (by omega)
      rw [show ps.length - 1 = j by omega] at this
      omega
  · by_cases c : j < ps.length
    · rw [getD_in c]; exact lo j c
    · rw [show j = ps.length by omega, getD_at]; omega
  · by_cases c : j < ps.length
    · rw [getD_in c]
      have := hi j c
      omega
    · rw [show j = ps.length by omega, getD_at]
      omega
  · show (ps ++ [last + 1 + r]).getD (ps.length + 1 - 1) 0 = _
    rw [Nat.add_sub_cancel, getD_at]
abbrev nListed : List Str := ["_law_box_here", "_law_jump", "_law_count", "_law_prices", "_law_last", "_law_k"]
theorem sc__law_listed : FnScope nListed ["_law_box_here"] (defScope s__law_listed) := ⟨rfl, rfl, rfl, by decide +kernel, rfl, by decide +kernel, by decide +kernel⟩
theorem ok__law_listed (T : Ev K mg) : FnR P w K mg base CX0 3 (He.ga K "_law_listed") (spGen 0) := by
  obtain ⟨fd, F⟩ := F__law_listed T
  refine fnR_of (FunD.ok F sc__law_listed (fun vs H Q E h => ?_) (fun cdv A outer s H vs Q E hr h => ?_)) (F.bindsN fun _ _ _ _ _ _ us hl => match us, hl with | [_], _ => rfl)
  · obtain ⟨b, g, rfl, _⟩ := h
    rfl
  · obtain ⟨b, g, rfl, B, q⟩ := h
    have nd := sc__law_listed.nd
    have dr := ok__law_draw (P := P) (w := w) (K := K) (mg := mg) (base := base) T
    have gd := g__law_draw T
    have kd := kpd (F__law_draw T)
    obtain ⟨t5, h5, r5⟩ : ∃ t, PSs (cxOf CX0 P w K mg base nListed "_law_listed" (defScope s__law_listed) (He.ga K "_law_listed") cdv A outer s H E) ((defBody s__law_listed).drop 4) t ∧ ∀ H1 (jump : Int) (count : Nat), Kept b g H H1 → Box H1 b g → (jump = 4 ∨ jump = 10000000) → 1 ≤ count → count ≤ 64 →
        t { nx := fun _ H' => Q .non H', rt := Q } [some (.ref b), some (.int jump), some (.int (count : Int)), none, none, none] H1 := by
      refine ⟨_, pss_cons (ps_set (i := 3) nd rfl (.inl rfl) (pe_lst pa_nil)) (pss_cons (ps_set (i := 4) nd rfl (.inl rfl) pe_int)
        (pss_cons (ps_for (passes_of rfl) rfl (pi_range1 (by rfl) (n_range T) (pa_cons (pv 2) pa_nil)) (pg_name (i := 5) nd rfl (.inl rfl))
          (pss_cons (ps_set (i := 4) nd rfl (.inl rfl) (pe_op op_add (pe_op op_add (pv 4) pe_int) (pe_callF dr hr (by rfl) gd kd passN (pa_cons (pv 0) (pa_cons (pv 1) pa_nil)))))
            (pss_one (ps_expr (pe_bm PySem.F.plainAttrs_list PySem.F.slot_list_append PySem.F.type_list_append mt_append (pv 3) (pa_cons (pv 4) pa_nil))))))
        (pss_cons (ps_if (pt_cmpR op_eq (pv 1) pe_int (nomark _)) (pss_one (ps_ret (pe_tup (pa_cons pe_str (pa_cons (pe_callTy call_tuple_of (by rfl) (n_tuple T) (by decide +kernel) (pa_cons (pv 3) pa_nil)) (pa_cons (pe_op op_add pe_int (pe_callF dr hr (by rfl) gd kd passN (pa_cons (pv 0) (pa_cons pe_int pa_nil)))) pa_nil)))))) pss_nil)
        (pss_one (ps_ret (pe_tup (pa_cons pe_str (pa_cons (pe_callTy call_tuple_of (by rfl) (n_tuple T) (by decide +kernel) (pa_cons (pv 3) pa_nil)) (pa_cons (pe_op op_add pe_int (pe_callF dr hr (by rfl) gd kd passN (pa_cons (pv 0) (pa_cons (pe_op op_pow pe_int pe_int) pa_nil)))) pa_nil))))))))), fun H1 jump count k1 B1 hj c1 c2 => ?_⟩
      refine ⟨Nat.zero_le _, fun p np => ?_⟩
      have smp := same_new (o := .lst []) np
      obtain ⟨⟨_, _, _, _, hb1, _, hg1, _⟩, _⟩ := id B1
      have npb : p ≠ b := (ne_of_none hb1 np).symm
      have npg : p ≠ g := (ne_of_none hg1 np).symm
      have npH : H p = none := by
        cases e : H p with
        | none => rfl
        | some o => rw [k1 p o e npb npg] at np; cases np
      refine ⟨_, rfl, _, rfl, by omega, by omega, ?_⟩
      refine for_range (lo := 0) (fun i σ H' => ∃ (ps : List Int) (last : Int) (v : Option V), σ = [some (.ref b), some (.int jump), some (.int (count : Int)), some (.ref p), some (.int last), v] ∧ Kept b g H H' ∧ Box H' b g ∧ H' p = some (.lst (ps.map V.int)) ∧ Gd ps i last)
        ⟨[], 0, none, rfl, k1.trans (kept_of smp), B1.same smp, upd_same, ⟨rfl, fun j hj => by simp at hj, fun j hj => by omega, fun j hj => by omega, by decide, by decide, fun h => by omega⟩⟩ ?_ ?_
      · rintro i σ H' hi ⟨ps, last, v, rfl, k2, B2, hp, G⟩
        have j0 : 0 < jump := by rcases hj with rfl | rfl <;> decide
        have j9 : jump ≤ 10000000 := by rcases hj with rfl | rfl <;> decide
        refine ⟨_, rfl, _, _, rfl, rfl, _, rfl, _, rfl, b, g, jump, rfl, B2, j0, lt9s (by omega) (by omega), fun H3 x k3 B3 x0 x1 => ?_⟩
        have hp3 := k3 p _ hp npb npg
        refine ⟨_, _, rfl, rfl, _, rfl, .inl ⟨rfl, _, SqL.of hp3⟩, _, rfl, p, _, _, rfl, rfl, hp3, ?_, ps ++ [last + 1 + x], last + 1 + x, _, rfl, fun a o ho n1 n2 => ?_, ?_, ?_, G.more x0 (by omega)⟩
        · rw [List.length_map, G.len, sizeLine_eq]
          omega
        · rw [upd_ne (ne_of_none ho npH)]
          exact k3 a o (k2 a o ho n1 n2) n1 n2
        · obtain ⟨⟨c, f, t, ns, a1, a2, a3, a4⟩, ne⟩ := B3
          exact ⟨⟨c, f, t, ns, by rw [upd_ne (Ne.symm npb)]; exact a1, a2, by rw [upd_ne (Ne.symm npg)]; exact a3, a4⟩, ne⟩
        · rw [upd_same, List.map_append]
          rfl
      · rintro σ H' ⟨ps, last, v, rfl, k2, B2, hp, G⟩
        have hlen : ps.length = count := by
          have := G.len
          omega
        have fin : ∀ (H3 : Hp) (tp : Addr) (sl : Int), Kept b g H H3 → Box H3 b g → H3 tp = some (.tup (ps.map V.int)) → 1 ≤ sl → sl ≤ 1000000 → ∀ t, H3 t = none → Q (.ref t) (upd H3 t (.tup [.str "table", .ref tp, .int sl])) := fun H3 tp sl k3 B3 htp s1 s2 t nt => by
          have sm := same_new (o := .tup [.str "table", .ref tp, .int sl]) nt
          refine q _ t (.table ps sl) (k3.trans (kept_of sm)) (B3.same sm) ⟨tp, upd_same, sm _ _ htp⟩ ⟨by omega, by omega, G.asc, G.lo 0 (by omega), fun j hj => ?_, s1, s2⟩ (Nat.le_refl _)
          have h1 := G.hi j (by omega)
          have h2 := G.top
          omega
        refine ⟨_, rfl, rfl, _, rfl, ite2 (fun e => ?_) (fun e => ?_)⟩
        · refine ⟨_, rfl, p, _, rfl, .inl ⟨SqL.of hp, fun tp ntp => ?_⟩⟩
          have smt := same_new (o := .tup (ps.map V.int)) ntp
          refine ⟨_, rfl, b, g, 4, rfl, B2.same smt, by decide, lt9s (by decide) (by decide), fun H3 x k3 B3 x0 x1 => ?_⟩
          exact ⟨_, _, rfl, rfl, by show 3 ≤ sizeLine; rw [sizeLine_eq]; decide, fun t nt => fin H3 tp (1 + x) ((k2.trans (kept_of smt)).trans k3) B3 (k3.stil (B2.same smt) _ _ upd_same (fun _ z => by cases z)) (by omega) (by omega) t nt⟩
        · refine ⟨_, rfl, p, _, rfl, .inl ⟨SqL.of hp, fun tp ntp => ?_⟩⟩
          have smt := same_new (o := .tup (ps.map V.int)) ntp
          refine ⟨_, rfl, _, _, rfl, rfl, ⟨by decide, by decide, by decide⟩, b, g, 1000000, rfl, B2.same smt, by decide, lt9s (by decide) (by decide), fun H3 x k3 B3 x0 x1 => ?_⟩
          exact ⟨_, _, rfl, rfl, by show 3 ≤ sizeLine; rw [sizeLine_eq]; decide, fun t nt => fin H3 tp (1 + x) ((k2.trans (kept_of smt)).trans k3) B3 (k3.stil (B2.same smt) _ _ upd_same (fun _ z => by cases z)) (by omega) (by omega) t nt⟩
    obtain ⟨t3, h3, r3⟩ : ∃ t, PSs (cxOf CX0 P w K mg base nListed "_law_listed" (defScope s__law_listed) (He.ga K "_law_listed") cdv A outer s H E) ((defBody s__law_listed).drop 2) t ∧ ∀ H1 (jump : Int), Kept b g H H1 → Box H1 b g → (jump = 4 ∨ jump = 10000000) →
        t { nx := fun _ H' => Q .non H', rt := Q } [some (.ref b), some (.int jump), none, none, none, none] H1 := by
      refine ⟨_, pss_cons (ps_set (i := 2) nd rfl (.inl rfl) (pe_op op_add pe_int (pe_callF dr hr (by rfl) gd kd passN (pa_cons (pv 0) (pa_cons pe_int pa_nil)))))
        (pss_cons (ps_if (pt_cmpR op_eq (pe_callF dr hr (by rfl) gd kd passN (pa_cons (pv 0) (pa_cons pe_int pa_nil))) pe_int (nomark _)) (pss_one (ps_set (i := 2) nd rfl (.inl rfl) (pe_op op_add pe_int (pe_callF dr hr (by rfl) gd kd passN (pa_cons (pv 0) (pa_cons pe_int pa_nil)))))) pss_nil) h5), fun H1 jump k1 B1 hj => ?_⟩
      refine ⟨_, rfl, b, g, 8, rfl, B1, by decide, lt9s (by decide) (by decide), fun H2 x k2 B2 x0 x1 => ?_⟩
      obtain ⟨c, hc⟩ : ∃ c : Nat, 1 + x = (c : Int) := ⟨(1 + x).toNat, by omega⟩
      refine ⟨_, _, rfl, rfl, _, rfl, b, g, 16, rfl, B2, by decide, lt9s (by decide) (by decide), fun H3 y k3 B3 y0 y1 => ?_⟩
      refine ⟨rfl, _, rfl, ite2 (fun e => ?_) (fun e => ?_)⟩
      · refine ⟨_, rfl, b, g, 64, rfl, B3, by decide, lt9s (by decide) (by decide), fun H4 z k4 B4 z0 z1 => ?_⟩
        obtain ⟨c2, hc2⟩ : ∃ c : Nat, 1 + z = (c : Int) := ⟨(1 + z).toNat, by omega⟩
        refine ⟨_, _, rfl, rfl, ?_⟩
        show t5 _ [some (.ref b), some (.int jump), some (.int (1 + z)), none, none, none] H4
        rw [hc2]
        exact r5 H4 jump c2 (((k1.trans k2).trans k3).trans k4) B4 hj (by omega) (by omega)
      · show t5 _ [some (.ref b), some (.int jump), some (.int (1 + x)), none, none, none] H3
        rw [hc]
        exact r5 H3 jump c ((k1.trans k2).trans k3) B3 hj (by omega) (by omega)
    refine ⟨_, pss_cons (ps_set (i := 1) nd rfl (.inl rfl) pe_int) (pss_cons (ps_if (pt_cmpR op_eq (pe_callF dr hr (by rfl) gd kd passN (pa_cons (pv 0) (pa_cons pe_int pa_nil))) pe_int (nomark _)) (pss_one (ps_set (i := 1) nd rfl (.inl rfl) (pe_op op_pow pe_int pe_int))) pss_nil) h3), ?_⟩
    refine ⟨_, rfl, b, g, 12, rfl, B, by decide, lt9s (by decide) (by decide), fun H1 r k1 B1 r0 r1 => ?_⟩
    refine ⟨rfl, _, rfl, ite2 (fun e => ?_) (fun e => ?_)⟩
    · exact ⟨_, _, rfl, rfl, ⟨by decide, by decide, by decide⟩, r3 H1 10000000 k1 B1 (.inr rfl)⟩
    · exact r3 H1 4 k1 B1 (.inl rfl)
theorem sc__law_simple : FnScope ["_law_box_here"] ["_law_box_here"] (defScope s__law_simple) := ⟨rfl, rfl, rfl, by decide +kernel, rfl, by decide +kernel, by decide +kernel⟩
theorem ok__law_simple (T : Ev K mg) : FnR P w K mg base CX0 4 (He.ga K "_law_simple") (spGen 0) := by
  obtain ⟨fd, F⟩ := F__law_simple T
  refine fnR_of (FunD.ok F sc__law_simple (fun vs H Q E h => ?_) (fun cdv A outer s H vs Q E hr h => ?_)) (F.bindsN fun _ _ _ _ _ _ us hl => match us, hl with | [_], _ => rfl)
  · obtain ⟨b, g, rfl, _⟩ := h
    rfl
  · obtain ⟨b, g, rfl, B, q⟩ := h
    refine ⟨_, pss_cons (ps_if (pt_cmpR op_eq (pe_callF (ok__law_draw T) (hr.mono (by decide)) (by rfl) (g__law_draw T) (kpd (F__law_draw T)) passN (pa_cons (pv 0) (pa_cons pe_int pa_nil))) pe_int (nomark _)) (pss_one (ps_ret (pe_callF (ok__law_line T) hr (by rfl) (g__law_line T) (kpd (F__law_line T)) passN (pa_cons (pv 0) pa_nil)))) pss_nil)
      (pss_one (ps_ret (pe_callF (ok__law_listed T) hr (by rfl) (g__law_listed T) (kpd (F__law_listed T)) passN (pa_cons (pv 0) pa_nil)))), ?_⟩
    refine ⟨_, rfl, b, g, 2, rfl, B, by decide, lt9s (by decide) (by decide), fun H1 r k1 B1 r0 r1 => ?_⟩
    refine ⟨rfl, _, rfl, ite2 (fun e => ?_) (fun e => ?_)⟩
    · exact ⟨_, rfl, b, g, rfl, B1, fun H2 t s k2 B2 hs ok hn => q H2 t s (k1.trans k2) B2 hs ok hn⟩
    · exact ⟨_, rfl, b, g, rfl, B1, fun H2 t s k2 B2 hs ok hn => q H2 t s (k1.trans k2) B2 hs ok hn⟩
end
end K12
set_option Elab.async false
set_option linter.all false
set_option maxRecDepth 100000
set_option maxHeartbeats 4000000
/-! _law_spec, _law_built, _law_price. -/
namespace K12
open PySem PySem.Spec PyProof.Rows L2 K12M
open PySem.W (Frag)
section
variable {P : Program} {w : World} {K : Frag} {mg : Str → Option Value} {base : Heap}
abbrev nSpec : List Str := ["_law_box_here", "_law_joins", "_law_spec_here", "_law_k", "_law_word", "_law_other"]
theorem sc__law_spec : FnScope nSpec ["_law_box_here"] (defScope s__law_spec) := ⟨rfl, rfl, rfl, by decide +kernel, rfl, by decide +kernel, by decide +kernel⟩
theorem joins_at {k : Nat} (h : k < 8) : ∃ j : Nat, j ≤ 3 ∧ ([.int 0, .int 0, .int 0, .int 0, .int 0, .int 1, .int 1, .int 3] : List V)[k]? = some (.int (j : Int)) := by
  match k, h with
  | 0, _ => exact ⟨0, by decide, rfl⟩
  | 1, _ => exact ⟨0, by decide, rfl⟩
  | 2, _ => exact ⟨0, by decide, rfl⟩
  | 3, _ => exact ⟨0, by decide, rfl⟩
  | 4, _ => exact ⟨0, by decide, rfl⟩
  | 5, _ => exact ⟨1, by decide, rfl⟩
  | 6, _ => exact ⟨1, by decide, rfl⟩
  | 7, _ => exact ⟨3, by decide, rfl⟩
theorem join_at {H : Hp} {t p q : Addr} {x y : K12M.Spec} {k : Nat} {wd : V} (hk : ([.str "and", .str "or"] : List V)[k]? = some wd) (h : H t = some (.tup [wd, .ref p, .ref q])) (hx : SpecAt H x p) (hy : SpecAt H y q) (okx : x.Ok) (oky : y.Ok) {n : Nat} (nx : x.depth ≤ n) (ny : y.depth ≤ n) :
    ∃ s : K12M.Spec, SpecAt H s t ∧ s.Ok ∧ s.depth ≤ n + 1 := by
  match k, hk with
  | 0, e =>
    cases (Option.some.inj e)
    exact ⟨.both x y, ⟨p, q, h, hx, hy⟩, ⟨okx, oky⟩, by show max x.depth y.depth + 1 ≤ n + 1; omega⟩
  | 1, e =>
    cases (Option.some.inj e)
    exact ⟨.each x y, ⟨p, q, h, hx, hy⟩, ⟨okx, oky⟩, by show max x.depth y.depth + 1 ≤ n + 1; omega⟩
theorem ok__law_spec (T : Ev K mg) : FnR P w K mg base CX0 5 (He.ga K "_law_spec") (spGen 3) := by
  obtain ⟨fd, F⟩ := F__law_spec T
  refine fnR_of (FunD.ok F sc__law_spec (fun vs H Q E h => ?_) (fun cdv A outer s H vs Q E hr h => ?_)) (F.bindsN fun _ _ _ _ _ _ us hl => match us, hl with | [_], _ => rfl)
  · obtain ⟨b, g, rfl, _⟩ := h
    rfl
  · obtain ⟨b, g, rfl, B, q⟩ := h
    have nd := sc__law_spec.nd
    have dr := ok__law_draw (P := P) (w := w) (K := K) (mg := mg) (base := base) T
    have gd := g__law_draw T
    have kd := kpd (F__law_draw T)
    have hr2 := hr.mono (show 2 ≤ 4 by decide)
    have z8 : 8 ≤ sizeLine := by rw [sizeLine_eq]; decide
    refine ⟨_, pss_cons (ps_set (i := 1) nd rfl (.inl rfl) (pe_ix ix_list (pe_lst (pa_cons pe_int (pa_cons pe_int (pa_cons pe_int (pa_cons pe_int (pa_cons pe_int (pa_cons pe_int (pa_cons pe_int (pa_cons pe_int pa_nil))))))))) (pe_callF dr hr2 (by rfl) gd kd passN (pa_cons (pv 0) (pa_cons pe_int pa_nil))) (fun _ _ => rfl)))
      (pss_cons (ps_set (i := 2) nd rfl (.inl rfl) (pe_callF (ok__law_simple T) hr (by rfl) (g__law_simple T) (kpd (F__law_simple T)) passN (pa_cons (pv 0) pa_nil)))
      (pss_cons (ps_for (passes_of rfl) rfl (pi_range1 (by rfl) (n_range T) (pa_cons (pv 1) pa_nil)) (pg_name (i := 3) nd rfl (.inl rfl))
        (pss_cons (ps_set (i := 4) nd rfl (.inl rfl) (pe_ix ix_list (pe_lst (pa_cons pe_str (pa_cons pe_str pa_nil))) (pe_callF dr hr2 (by rfl) gd kd passN (pa_cons (pv 0) (pa_cons pe_int pa_nil))) (fun _ _ => rfl)))
        (pss_cons (ps_set (i := 5) nd rfl (.inl rfl) (pe_callF (ok__law_simple T) hr (by rfl) (g__law_simple T) (kpd (F__law_simple T)) passN (pa_cons (pv 0) pa_nil)))
        (pss_one (ps_if (pt_cmpR op_eq (pe_callF dr hr2 (by rfl) gd kd passN (pa_cons (pv 0) (pa_cons pe_int pa_nil))) pe_int (nomark _))
          (pss_one (ps_set (i := 2) nd rfl (.inl rfl) (pe_tup (pa_cons (pv 4) (pa_cons (pv 2) (pa_cons (pv 5) pa_nil))))))
          (pss_one (ps_set (i := 2) nd rfl (.inl rfl) (pe_tup (pa_cons (pv 4) (pa_cons (pv 5) (pa_cons (pv 2) pa_nil)))))))))))
      (pss_one (ps_ret (pv 2))))), ?_⟩
    obtain ⟨⟨_, _, _, _, hb0, _, hg0, _⟩, _⟩ := id B
    refine ⟨z8, fun p np => ?_⟩
    have smp := same_new (o := .lst [.int 0, .int 0, .int 0, .int 0, .int 0, .int 1, .int 1, .int 3]) np
    have npb : p ≠ b := (ne_of_none hb0 np).symm
    have npg : p ≠ g := (ne_of_none hg0 np).symm
    refine ⟨_, rfl, b, g, 8, rfl, B.same smp, by decide, lt9s (by decide) (by decide), fun H1 r k1 B1 r0 r1 => ?_⟩
    have hp1 := k1 p _ upd_same npb npg
    obtain ⟨k, rfl⟩ : ∃ k : Nat, r = (k : Int) := ⟨r.toNat, by omega⟩
    obtain ⟨j, j3, ej⟩ := joins_at (k := k) (by omega)
    refine ⟨p, _, _, _, rfl, rfl, SqL.of hp1, atI_nat ej, ?_⟩
    refine ⟨_, rfl, b, g, rfl, B1, fun H2 t s k2 B2 hs ok hn => ?_⟩
    have kk := ((kept_of (b := b) (g := g) smp).trans k1).trans k2
    refine ⟨_, rfl, _, rfl, by omega, by omega, ?_⟩
    refine for_range (lo := 0) (fun i σ H' => ∃ (t : Addr) (s : K12M.Spec) (v3 v4 v5 : Option V), σ = [some (.ref b), some (.int (j : Int)), some (.ref t), v3, v4, v5] ∧ Kept b g H H' ∧ Box H' b g ∧ SpecAt H' s t ∧ s.Ok ∧ s.depth ≤ i) ⟨t, s, none, none, none, rfl, kk, B2, hs, ok, hn⟩ ?_ ?_
    · rintro i σ H' hi ⟨t, s, v3, v4, v5, rfl, k3, B3, hs, ok, hn⟩
      obtain ⟨⟨_, _, _, _, hb0, _, hg0, _⟩, _⟩ := id B3
      refine ⟨by show 2 ≤ sizeLine; rw [sizeLine_eq]; decide, fun p np => ?_⟩
      have smp := same_new (o := .lst [.str "and", .str "or"]) np
      have npb : p ≠ b := (ne_of_none hb0 np).symm
      have npg : p ≠ g := (ne_of_none hg0 np).symm
      refine ⟨_, rfl, b, g, 2, rfl, B3.same smp, by decide, lt9s (by decide) (by decide), fun H4 r k4 B4 r0 r1 => ?_⟩
      have hp4 := k4 p _ upd_same npb npg
      obtain ⟨c, rfl⟩ : ∃ c : Nat, r = (c : Int) := ⟨r.toNat, by omega⟩
      obtain ⟨wd, ew⟩ : ∃ wd, ([.str "and", .str "or"] : List V)[c]? = some wd := ⟨_, List.getElem?_eq_getElem (by show c < 2; omega)⟩
      refine ⟨p, _, _, wd, rfl, rfl, SqL.of hp4, atI_nat ew, ?_⟩
      refine ⟨_, rfl, b, g, rfl, B4, fun H5 t5 s5 k5 B5 hs5 ok5 hn5 => ?_⟩
      refine ⟨_, rfl, b, g, 2, rfl, B5, by decide, lt9s (by decide) (by decide), fun H6 x k6 B6 x0 x1 => ?_⟩
      have hs6 : SpecAt H6 s t := (((hs.stil (stil_of smp)).stil (k4.stil (B3.same smp))).stil (k5.stil B4)).stil (k6.stil B5)
      have hs56 : SpecAt H6 s5 t5 := hs5.stil (k6.stil B5)
      have k36 : Kept b g H H6 := (((k3.trans (kept_of smp)).trans k4).trans k5).trans k6
      refine ⟨rfl, _, rfl, ite2 (fun e => ?_) (fun e => ?_)⟩
      · refine ⟨_, rfl, _, rfl, _, rfl, by show 3 ≤ sizeLine; rw [sizeLine_eq]; decide, fun tn ntn => ?_⟩
        have smt := same_new (o := .tup [wd, .ref t, .ref t5]) ntn
        obtain ⟨sn, a1, a2, a3⟩ := join_at (n := i) ew upd_same (hs6.stil (stil_of smt)) (hs56.stil (stil_of smt)) ok ok5 hn (by omega)
        exact ⟨tn, sn, _, _, _, rfl, k36.trans (kept_of smt), B6.same smt, a1, a2, a3⟩
      · refine ⟨_, rfl, _, rfl, _, rfl, by show 3 ≤ sizeLine; rw [sizeLine_eq]; decide, fun tn ntn => ?_⟩
        have smt := same_new (o := .tup [wd, .ref t5, .ref t]) ntn
        obtain ⟨sn, a1, a2, a3⟩ := join_at (n := i) ew upd_same (hs56.stil (stil_of smt)) (hs6.stil (stil_of smt)) ok5 ok (by omega) hn
        exact ⟨tn, sn, _, _, _, rfl, k36.trans (kept_of smt), B6.same smt, a1, a2, a3⟩
    · rintro σ H' ⟨t, s, v3, v4, v5, rfl, k3, B3, hs, ok, hn⟩
      exact ⟨_, rfl, q _ t s k3 B3 hs ok (by omega)⟩
/-! ### _law_price -/
def spPrice (n : Nat) : Sp := fun vs H Q _ => ∃ t d s, vs = [.ref t, .int d] ∧ SpecAt H s t ∧ s.Ok ∧ s.depth < n ∧ 1 ≤ d ∧ Q (.int (s.price d)) H
abbrev nPrice : List Str := ["_law_spec_here", "_law_late", "_law_prices", "_law_one", "_law_other"]
theorem sc__law_price : FnScope nPrice ["_law_spec_here", "_law_late"] (defScope s__law_price) := ⟨rfl, rfl, rfl, by decide +kernel, rfl, by decide +kernel, by decide +kernel⟩
theorem ok__law_price (T : Ev K mg) : ∀ n, FnR P w K mg base CX0 (n + 1) (He.ga K "_law_price") (spPrice n)
  | 0 => fun A outer s H us vs Q E hr e0 r hs => by
    obtain ⟨t, d, s, _, _, _, hn, _⟩ := hs
    omega
  | n + 1 => by
    have rec_ := ok__law_price T n
    obtain ⟨fd, F⟩ := F__law_price T
    refine fnR_of (FunD.ok F sc__law_price (fun vs H Q E h => ?_) (fun cdv A outer s H vs Q E hr h => ?_)) (F.bindsN fun _ _ _ _ _ _ us hl => match us, hl with | [_, _], _ => rfl)
    · obtain ⟨t, d, s, rfl, _⟩ := h
      rfl
    · obtain ⟨t, d, sp, rfl, hs, ok, hn, hd, q⟩ := h
      have nd := sc__law_price.nd
      have gp := g__law_price T
      have kp := kpd (F__law_price T)
      refine ⟨_, pss_cons (ps_if (pt_cmpR op_eq (pe_ix ix_tup (pv 0) pe_int (fun _ _ => rfl)) pe_str (nomark _)) (pss_one (ps_ret (pe_op op_add (pe_op op_mul (pe_ix ix_tup (pv 0) pe_int (fun _ _ => rfl)) (pv 1)) (pe_ix ix_tup (pv 0) pe_int (fun _ _ => rfl))))) pss_nil)
        (pss_cons (ps_if (pt_cmpR op_eq (pe_ix ix_tup (pv 0) pe_int (fun _ _ => rfl)) pe_str (nomark _))
          (pss_cons (ps_set (i := 2) nd rfl (.inl rfl) (pe_ix ix_tup (pv 0) pe_int (fun _ _ => rfl)))
          (pss_cons (ps_if (pt_cmpR op_le (pv 1) (pe_callB call_len_seq (by rfl) (n_len T) PySem.boot_len (pa_cons (pv 2) pa_nil)) (nomark _)) (pss_one (ps_ret (pe_ix ix_tup (pv 2) (pe_op op_sub (pv 1) pe_int) (fun _ _ => rfl)))) pss_nil)
          (pss_one (ps_ret (pe_op op_add (pe_ix ix_tup (pv 2) (pe_un un_neg pe_int) (fun _ _ => rfl)) (pe_op op_mul (pe_ix ix_tup (pv 0) pe_int (fun _ _ => rfl)) (pe_op op_sub (pv 1) (pe_callB call_len_seq (by rfl) (n_len T) PySem.boot_len (pa_cons (pv 2) pa_nil))))))))) pss_nil)
        (pss_cons (ps_set (i := 3) nd rfl (.inl rfl) (pe_callF rec_ hr (by rfl) gp kp passN (pa_cons (pe_ix ix_tup (pv 0) pe_int (fun _ _ => rfl)) (pa_cons (pv 1) pa_nil))))
        (pss_cons (ps_set (i := 4) nd rfl (.inl rfl) (pe_callF rec_ hr (by rfl) gp kp passN (pa_cons (pe_ix ix_tup (pv 0) pe_int (fun _ _ => rfl)) (pa_cons (pv 1) pa_nil))))
        (pss_cons (ps_if (pt_cmpR op_eq (pe_ix ix_tup (pv 0) pe_int (fun _ _ => rfl)) pe_str (nomark _)) (pss_one (ps_ret (pe_ifExp (pt_cmpR op_lt (pv 3) (pv 4) (nomark _)) (pv 3) (pv 4)))) pss_nil)
        (pss_one (ps_ret (pe_ifExp (pt_cmpR op_lt (pv 3) (pv 4) (nomark _)) (pv 4) (pv 3)))))))), ?_⟩
      cases sp with
      | line sl ex =>
        have hs' : H t = some (.tup [.str "line", .int sl, .int ex]) := hs
        obtain ⟨o1, o2, o3, o4⟩ := ok
        refine ⟨_, rfl, t, _, 0, _, rfl, rfl, SqT.of hs', atI_nat (j := 0) rfl, rfl, _, rfl, ifT (by decide +kernel) ?_⟩
        exact ⟨_, rfl, t, _, 1, _, rfl, rfl, SqT.of hs', atI_nat (j := 1) rfl, _, rfl, _, _, rfl, rfl, .inl ⟨by omega, by omega⟩, _, rfl, t, _, 2, _, rfl, rfl, SqT.of hs', atI_nat (j := 2) rfl, _, _, rfl, rfl, q⟩
      | table ps sl =>
        obtain ⟨p, hs', hp⟩ := hs
        obtain ⟨o1, o2, o3, o4, o5, o6, o7⟩ := ok
        have q' : Q (.int (if d ≤ (ps.length : Int) then ps.getD (d - 1).toNat 0 else ps.getD (ps.length - 1) 0 + sl * (d - ps.length))) H := q
        refine ⟨_, rfl, t, _, 0, _, rfl, rfl, SqT.of hs', atI_nat (j := 0) rfl, rfl, _, rfl, ifF (by decide +kernel) ?_⟩
        refine ⟨_, rfl, t, _, 0, _, rfl, rfl, SqT.of hs', atI_nat (j := 0) rfl, rfl, _, rfl, ifT (by decide +kernel) ?_⟩
        refine ⟨_, rfl, t, _, 1, _, rfl, rfl, SqT.of hs', atI_nat (j := 1) rfl, ?_⟩
        refine ⟨_, rfl, _, rfl, p, _, rfl, .inr (SqT.of hp), ?_⟩
        rw [List.length_map]
        refine ⟨_, _, rfl, rfl, _, rfl, ite2 (fun e => ?_) (fun e => ?_)⟩
        · have e' := of_decide_eq_true e
          rw [if_pos e'] at q'
          refine ⟨_, rfl, _, rfl, _, _, rfl, rfl, p, _, _, _, rfl, rfl, SqT.of hp, ?_, q'⟩
          rw [show d - 1 = (((d - 1).toNat : Nat) : Int) by omega]
          exact atI_nat (get_ps (by omega))
        · have e' := of_decide_eq_false (Bool.eq_false_iff.mpr e)
          rw [if_neg e'] at q'
          refine ⟨_, rfl, 1, rfl, p, _, _, .int (ps.getD (ps.length - 1) 0), rfl, rfl, SqT.of hp, atI_back (j := 0) (by rw [List.length_map]; omega) (by rw [List.length_map]; exact get_ps (by omega)), ?_⟩
          refine ⟨_, rfl, t, _, 2, _, rfl, rfl, SqT.of hs', atI_nat (j := 2) rfl, _, rfl, _, rfl, p, _, rfl, .inr (SqT.of hp), _, _, rfl, rfl, _, _, rfl, rfl, .inl ⟨by omega, by omega⟩, _, _, rfl, rfl, ?_⟩
          show Q (.int (ps.getD (ps.length - 1) 0 + sl * (d - ((ps.map V.int).length : Int)))) H
          rw [List.length_map]
          exact q'
      | both x y =>
        obtain ⟨p, p2, hs', hx, hy⟩ := hs
        have hn' : max x.depth y.depth + 1 < n + 1 := hn
        refine ⟨_, rfl, t, _, 0, _, rfl, rfl, SqT.of hs', atI_nat (j := 0) rfl, rfl, _, rfl, ifF (by decide +kernel) ?_⟩
        refine ⟨_, rfl, t, _, 0, _, rfl, rfl, SqT.of hs', atI_nat (j := 0) rfl, rfl, _, rfl, ifF (by decide +kernel) ?_⟩
        refine ⟨_, rfl, t, _, 1, _, rfl, rfl, SqT.of hs', atI_nat (j := 1) rfl, _, rfl, p, d, x, rfl, hx, ok.1, by omega, hd, ?_⟩
        refine ⟨_, rfl, t, _, 2, _, rfl, rfl, SqT.of hs', atI_nat (j := 2) rfl, _, rfl, p2, d, y, rfl, hy, ok.2, by omega, hd, ?_⟩
        refine ⟨_, rfl, t, _, 0, _, rfl, rfl, SqT.of hs', atI_nat (j := 0) rfl, rfl, _, rfl, ifT (by decide +kernel) ?_⟩
        have q' : Q (.int (if x.price d < y.price d then x.price d else y.price d)) H := q
        refine ⟨_, rfl, _, rfl, _, _, rfl, rfl, _, rfl, ite2 (fun e => ?_) (fun e => ?_)⟩
        · rw [if_pos (of_decide_eq_true e)] at q'
          exact ⟨_, rfl, q'⟩
        · rw [if_neg (of_decide_eq_false (Bool.eq_false_iff.mpr e))] at q'
          exact ⟨_, rfl, q'⟩
      | each x y =>
        obtain ⟨p, p2, hs', hx, hy⟩ := hs
        have hn' : max x.depth y.depth + 1 < n + 1 := hn
        refine ⟨_, rfl, t, _, 0, _, rfl, rfl, SqT.of hs', atI_nat (j := 0) rfl, rfl, _, rfl, ifF (by decide +kernel) ?_⟩
        refine ⟨_, rfl, t, _, 0, _, rfl, rfl, SqT.of hs', atI_nat (j := 0) rfl, rfl, _, rfl, ifF (by decide +kernel) ?_⟩
        refine ⟨_, rfl, t, _, 1, _, rfl, rfl, SqT.of hs', atI_nat (j := 1) rfl, _, rfl, p, d, x, rfl, hx, ok.1, by omega, hd, ?_⟩
        refine ⟨_, rfl, t, _, 2, _, rfl, rfl, SqT.of hs', atI_nat (j := 2) rfl, _, rfl, p2, d, y, rfl, hy, ok.2, by omega, hd, ?_⟩
        refine ⟨_, rfl, t, _, 0, _, rfl, rfl, SqT.of hs', atI_nat (j := 0) rfl, rfl, _, rfl, ifF (by decide +kernel) ?_⟩
        have q' : Q (.int (if x.price d < y.price d then y.price d else x.price d)) H := q
        refine ⟨_, rfl, _, rfl, _, _, rfl, rfl, _, rfl, ite2 (fun e => ?_) (fun e => ?_)⟩
        · rw [if_pos (of_decide_eq_true e)] at q'
          exact ⟨_, rfl, q'⟩
        · rw [if_neg (of_decide_eq_false (Bool.eq_false_iff.mpr e))] at q'
          exact ⟨_, rfl, q'⟩
end
end K12
set_option Elab.async false
set_option linter.all false
set_option maxRecDepth 100000
set_option maxHeartbeats 4000000
/-! _law_built, _law_box, _law_levels, _law_level. -/
namespace K12
open PySem PySem.Spec PyProof.Rows L2 K12M
open PySem.W (Frag)
section
variable {P : Program} {w : World} {K : Frag} {mg : Str → Option Value} {base : Heap}
def spBuilt (K : Frag) (n : Nat) : Sp := fun vs H Q _ => ∃ t s, vs = [.ref t] ∧ SpecAt H s t ∧ s.Ok ∧ s.depth < n ∧ ∀ H' a, Same H H' → RuleAt K H' s a → Q (.ref a) H'
abbrev nBuilt : List Str := ["_law_spec_here", "_law_one", "_law_other"]
theorem sc__law_built : FnScope nBuilt ["_law_spec_here"] (defScope s__law_built) := ⟨rfl, rfl, rfl, by decide +kernel, rfl, by decide +kernel, by decide +kernel⟩
theorem ok__law_built (T : Ev K mg) : ∀ n, FnR P w K mg base CX0 (n + 4) (He.ga K "_law_built") (spBuilt K n)
  | 0 => fun A outer s H us vs Q E hr e0 r hs => by
    obtain ⟨t, s, _, _, _, hn, _⟩ := hs
    omega
  | n + 1 => by
    have rec_ := ok__law_built T n
    obtain ⟨fd, F⟩ := F__law_built T
    refine fnR_of (FunD.ok F sc__law_built (fun vs H Q E h => ?_) (fun cdv A outer s H vs Q E hr h => ?_)) (F.bindsN fun _ _ _ _ _ _ us hl => match us, hl with | [_], _ => rfl)
    · obtain ⟨t, s, rfl, _⟩ := h
      rfl
    · obtain ⟨t, sp, rfl, hs, ok, hn, q⟩ := h
      have nd := sc__law_built.nd
      have gp := g__law_built T
      have kp := kpd (F__law_built T)
      have r2 := hr.mono (show 2 ≤ n + 4 by omega)
      have r3 := hr.mono (show 3 ≤ n + 4 by omega)
      obtain ⟨fdK, FK, bK⟩ := ok_Table_initK (P := P) (w := w) (base := base) T
      refine ⟨_, pss_cons (ps_if (pt_cmpR op_eq (pe_ix ix_tup (pv 0) pe_int (fun _ _ => rfl)) pe_str (nomark _)) (pss_one (ps_ret (StX.pe_makeR (E := fun _ _ _ => False) (m_Line T) (ok_Line_init T) r2 (by rfl) (g_Line T) pass0 (pa_cons (pe_ix ix_tup (pv 0) pe_int (fun _ _ => rfl)) (pa_cons (pe_ix ix_tup (pv 0) pe_int (fun _ _ => rfl)) pa_nil))))) pss_nil)
        (pss_cons (ps_if (PW.pt (pw_and (pt_cmpR op_eq (pe_ix ix_tup (pv 0) pe_int (fun _ _ => rfl)) pe_str (nomark _)) (pw_and1 (pt_cmpR op_eq (pe_ix ix_tup (pv 0) pe_int (fun _ _ => rfl)) pe_int (nomark _))))) (pss_one (ps_ret (StX.pe_makeR (E := fun _ _ _ => False) (m_Table T) (ok_Table_initR T) r3 (by rfl) (g_Table T) pass0 (pa_cons (pe_ix ix_tup (pv 0) pe_int (fun _ _ => rfl)) pa_nil)))) pss_nil)
        (pss_cons (ps_if (pt_cmpR op_eq (pe_ix ix_tup (pv 0) pe_int (fun _ _ => rfl)) pe_str (nomark _)) (pss_one (ps_ret (pe_makeK (n := 1) (E := fun _ _ _ => False) (m_Table T) FK r3 (by rfl) (g_Table T) bK pass0 (pa_cons (pe_callTy call_list_of (by rfl) (n_list T) (by decide +kernel) (pa_cons (pe_ix ix_tup (pv 0) pe_int (fun _ _ => rfl)) pa_nil)) pa_nil) (pk_cons (pe_ix ix_tup (pv 0) pe_int (fun _ _ => rfl)) pk_nil)))) pss_nil)
        (pss_cons (ps_set (i := 1) nd rfl (.inl rfl) (pe_callF rec_ hr (by rfl) gp kp passN (pa_cons (pe_ix ix_tup (pv 0) pe_int (fun _ _ => rfl)) pa_nil)))
        (pss_cons (ps_set (i := 2) nd rfl (.inl rfl) (pe_callF rec_ hr (by rfl) gp kp passN (pa_cons (pe_ix ix_tup (pv 0) pe_int (fun _ _ => rfl)) pa_nil)))
        (pss_cons (ps_if (pt_cmpR op_eq (pe_ix ix_tup (pv 0) pe_int (fun _ _ => rfl)) pe_str (nomark _)) (pss_one (ps_ret (pe_op (op_both T r3 (ok_Rule_and T)) (pv 1) (pv 2)))) pss_nil)
        (pss_one (ps_ret (pe_op (op_each T r3 (ok_Rule_or T)) (pv 1) (pv 2))))))))), ?_⟩
      cases sp with
      | line sl ex =>
        have hs' : H t = some (.tup [.str "line", .int sl, .int ex]) := hs
        obtain ⟨o1, o2, o3, o4⟩ := ok
        refine ⟨_, rfl, t, _, 0, _, rfl, rfl, SqT.of hs', atI_nat (j := 0) rfl, rfl, _, rfl, ifT (by decide +kernel) ?_⟩
        exact ⟨_, rfl, t, _, 1, _, rfl, rfl, SqT.of hs', atI_nat (j := 1) rfl, _, rfl, t, _, 2, _, rfl, rfl, SqT.of hs', atI_nat (j := 2) rfl, fun x dx nx nd' ne => ⟨x, dx, sl, ex, rfl, upd_same, o1, o3, fun H' but hA => ⟨rfl, q H' x (Same.made nx nd' but) hA⟩⟩⟩
      | table ps sl =>
        obtain ⟨p, hs', hp⟩ := hs
        obtain ⟨o1, o2, o3, o4, o5, o6, o7⟩ := ok
        refine ⟨_, rfl, t, _, 0, _, rfl, rfl, SqT.of hs', atI_nat (j := 0) rfl, rfl, _, rfl, ifF (by decide +kernel) ?_⟩
        refine ⟨_, rfl, t, _, 0, _, rfl, rfl, SqT.of hs', atI_nat (j := 0) rfl, rfl, _, rfl, ifT (by decide +kernel) ?_⟩
        refine ⟨_, rfl, t, _, 2, _, rfl, rfl, SqT.of hs', atI_nat (j := 2) rfl, rfl, _, rfl, ite2 (fun e => ?_) (fun e => ?_)⟩
        · have e1 : sl = 1 := V.int.inj (of_decide_eq_true e)
          refine ⟨_, rfl, t, _, 1, _, rfl, rfl, SqT.of hs', atI_nat (j := 1) rfl, fun x dx nx nd' ne => ⟨x, dx, p, ps, 1, rfl, upd_same, .inl ?_, o1, o2, o3, o4, by decide, fun H' but hA => ⟨rfl, q H' x (Same.made nx nd' but) (by rw [e1]; exact hA)⟩⟩⟩
          have npx : p ≠ x := ne_of_none hp nx
          have npd : p ≠ dx := ne_of_none hp nd'
          rw [upd_ne npx, upd_ne npd]
          exact hp
        · refine ⟨_, rfl, t, _, 0, _, rfl, rfl, SqT.of hs', atI_nat (j := 0) rfl, rfl, _, rfl, ifT (by decide +kernel) ?_⟩
          refine ⟨_, rfl, t, _, 1, _, rfl, rfl, SqT.of hs', atI_nat (j := 1) rfl, p, _, rfl, .inr (SqT.of hp), fun l nl => ?_⟩
          have sml := same_new (o := .lst (ps.map V.int)) nl
          refine ⟨_, rfl, t, _, 2, _, rfl, rfl, SqT.of (sml _ _ hs'), atI_nat (j := 2) rfl, rfl, rfl, fun x dx nx nd' ne => ⟨x, dx, l, ps, sl, rfl, upd_same, .inr ?_, o1, o2, o3, o4, o6, fun H' but hA => ⟨rfl, q H' x (sml.trans (Same.made nx nd' but)) hA⟩⟩⟩
          have hl1 : (upd H l (.lst (ps.map V.int))) l = some (.lst (ps.map V.int)) := upd_same
          have npx : l ≠ x := ne_of_none hl1 nx
          have npd : l ≠ dx := ne_of_none hl1 nd'
          rw [upd_ne npx, upd_ne npd]
          exact hl1
      | both x y =>
        obtain ⟨p, p2, hs', hx, hy⟩ := hs
        have hn' : max x.depth y.depth + 1 < n + 1 := hn
        refine ⟨_, rfl, t, _, 0, _, rfl, rfl, SqT.of hs', atI_nat (j := 0) rfl, rfl, _, rfl, ifF (by decide +kernel) ?_⟩
        refine ⟨_, rfl, t, _, 0, _, rfl, rfl, SqT.of hs', atI_nat (j := 0) rfl, rfl, _, rfl, ifF (by decide +kernel) ?_⟩
        refine ⟨_, rfl, t, _, 0, _, rfl, rfl, SqT.of hs', atI_nat (j := 0) rfl, rfl, _, rfl, ifF (by decide +kernel) ?_⟩
        refine ⟨_, rfl, t, _, 1, _, rfl, rfl, SqT.of hs', atI_nat (j := 1) rfl, p, x, rfl, hx, ok.1, by omega, fun H1 a1 s1 hA1 => ?_⟩
        refine ⟨_, rfl, t, _, 2, _, rfl, rfl, SqT.of (s1 _ _ hs'), atI_nat (j := 2) rfl, p2, y, rfl, hy.stil (stil_of s1), ok.2, by omega, fun H2 a2 s2 hA2 => ?_⟩
        refine ⟨_, rfl, t, _, 0, _, rfl, rfl, SqT.of (s2 _ _ (s1 _ _ hs')), atI_nat (j := 0) rfl, rfl, _, rfl, ifT (by decide +kernel) ?_⟩
        refine ⟨_, rfl, _, rfl, a1, a2, x, y, rfl, rfl, hA1.stil (stil_of s2), hA2, a1, a2, x, y, rfl, hA1.stil (stil_of s2), hA2, fun H3 c s3 hc => ⟨⟨c, rfl⟩, q H3 c ((s1.trans s2).trans s3) hc⟩⟩
      | each x y =>
        obtain ⟨p, p2, hs', hx, hy⟩ := hs
        have hn' : max x.depth y.depth + 1 < n + 1 := hn
        refine ⟨_, rfl, t, _, 0, _, rfl, rfl, SqT.of hs', atI_nat (j := 0) rfl, rfl, _, rfl, ifF (by decide +kernel) ?_⟩
        refine ⟨_, rfl, t, _, 0, _, rfl, rfl, SqT.of hs', atI_nat (j := 0) rfl, rfl, _, rfl, ifF (by decide +kernel) ?_⟩
        refine ⟨_, rfl, t, _, 0, _, rfl, rfl, SqT.of hs', atI_nat (j := 0) rfl, rfl, _, rfl, ifF (by decide +kernel) ?_⟩
        refine ⟨_, rfl, t, _, 1, _, rfl, rfl, SqT.of hs', atI_nat (j := 1) rfl, p, x, rfl, hx, ok.1, by omega, fun H1 a1 s1 hA1 => ?_⟩
        refine ⟨_, rfl, t, _, 2, _, rfl, rfl, SqT.of (s1 _ _ hs'), atI_nat (j := 2) rfl, p2, y, rfl, hy.stil (stil_of s1), ok.2, by omega, fun H2 a2 s2 hA2 => ?_⟩
        refine ⟨_, rfl, t, _, 0, _, rfl, rfl, SqT.of (s2 _ _ (s1 _ _ hs')), atI_nat (j := 0) rfl, rfl, _, rfl, ifF (by decide +kernel) ?_⟩
        refine ⟨_, rfl, _, rfl, a1, a2, x, y, rfl, rfl, hA1.stil (stil_of s2), hA2, a1, a2, x, y, rfl, hA1.stil (stil_of s2), hA2, fun H3 c s3 hc => ⟨⟨c, rfl⟩, q H3 c ((s1.trans s2).trans s3) hc⟩⟩
/-! ### _law_box -/
def spBox (K : Frag) : Sp := fun vs H Q _ => ∃ (a : Addr) (ns : List Int), vs = [.ref a] ∧ SqL K H a (ns.map V.int) ∧ ∀ H' b g, Same H H' → Box H' b g → Q (.ref b) H'
abbrev nBox : List Str := ["_law_script", "_law_great", "_law_fold", "_law_cell", "_law_size"]
theorem sc__law_box : FnScope nBox ["_law_script"] (defScope s__law_box) := ⟨rfl, rfl, rfl, by decide +kernel, rfl, by decide +kernel, by decide +kernel⟩
theorem ok__law_box (T : Ev K mg) : FnR P w K mg base CX0 1 (He.ga K "_law_box") (spBox K) := by
  obtain ⟨fd, F⟩ := F__law_box T
  refine fnR_of (FunD.ok F sc__law_box (fun vs H Q E h => ?_) (fun cdv A outer s H vs Q E hr h => ?_)) (F.bindsN fun _ _ _ _ _ _ us hl => match us, hl with | [_], _ => rfl)
  · obtain ⟨a, ns, rfl, _⟩ := h
    rfl
  · obtain ⟨a, ns, rfl, hS, q⟩ := h
    have nd := sc__law_box.nd
    refine ⟨_, pss_cons (ps_set (i := 1) nd rfl (.inl rfl) (pe_lst pa_nil)) (pss_cons (ps_set (i := 2) nd rfl (.inl rfl) pe_int)
      (pss_cons (ps_for (passes_of rfl) rfl (pi_list (pe_slice sl_list (pv 0) po_none (po_some pe_int))) (pg_name (i := 3) nd rfl (.inl rfl))
        (pss_cons (ps_set (i := 4) nd rfl (.inl rfl) (pe_ifExp (pt_cmpR op_ge (pv 3) pe_int (nomark _)) (pv 3) (pe_un un_neg (pv 3))))
        (pss_cons (ps_if (pt_cmpR op_ge (pv 4) (pe_op op_pow pe_int pe_int) (nomark _)) (pss_one (ps_expr (pe_bm PySem.F.plainAttrs_list PySem.F.slot_list_append PySem.F.type_list_append mt_append (pv 1) (pa_cons (pv 4) pa_nil)))) pss_nil)
        (pss_one (ps_set (i := 2) nd rfl (.inl rfl) (pe_op op_mod (pe_callTy call_int1 (by rfl) (n_int T) (by decide +kernel) (pa_cons (pe_op op_add (pe_op op_add (pe_op op_mul (pv 2) pe_int) (pv 3)) pe_int) pa_nil)) pe_int))))))
      (pss_one (ps_ret (pe_lst (pa_cons pe_int (pa_cons (pv 1) (pa_cons (pv 2) (pa_cons pe_int pa_nil))))))))), ?_⟩
    refine ⟨Nat.zero_le _, fun gr ngr => ?_⟩
    have smg := same_new (o := .lst []) ngr
    refine ⟨_, rfl, _, rfl, a, _, rfl, smg.seq hS, fun p np => ?_⟩
    have smp := same_new (o := .lst (cutV (ns.map V.int) none (some 63))) np
    have npg : gr ≠ p := fun z => by rw [← z, upd_same] at np; cases np
    have cut63 : (cutV (ns.map V.int) none (some 63)).length ≤ 63 := by
      unfold cutV
      rw [HT.sIx_none, show (63 : Int) = ((63 : Nat) : Int) from rfl, HT.sIx_nat, List.length_take]
      omega
    have cutI : ∀ i x, (cutV (ns.map V.int) none (some 63))[i]? = some x → ∃ z : Int, x = V.int z := fun i x hx => by
      have h1 : x ∈ cutV (ns.map V.int) none (some 63) := List.mem_of_getElem? hx
      unfold cutV at h1
      obtain ⟨z, _, e⟩ := List.mem_map.mp (List.mem_of_mem_drop (List.mem_of_mem_take h1))
      exact ⟨z, e.symm⟩
    have ngH : H gr = none := ngr
    refine ⟨p, rfl, ⟨_, SqL.of upd_same⟩, for_list (K := K) (a := p) (xs := cutV (ns.map V.int) none (some 63)) (fun i σ H' => ∃ (gs : List Int) (fo : Int) (v3 v4 : Option V), σ = [some (.ref a), some (.ref gr), some (.int fo), v3, v4] ∧ gs.length ≤ i ∧ (∀ x ∈ gs, 0 < x) ∧ H' gr = some (.lst (gs.map V.int)) ∧ H' p = some (.lst (cutV (ns.map V.int) none (some 63))) ∧ Same H H')
      ⟨[], 21, none, none, rfl, Nat.le_refl _, fun x hx => (by cases hx), smp _ _ upd_same, upd_same, smg.trans smp⟩ (fun i σ H' _ ⟨_, _, _, _, _, _, _, _, hp, _⟩ => SqL.of hp) ?_ ?_⟩
    · rintro i x σ H' hx ⟨gs, fo, v3, v4, rfl, hl, hpos, hg, hp, sm⟩
      obtain ⟨z, rfl⟩ := cutI i x hx
      have hi : i < 63 := by
        have := (List.getElem?_eq_some_iff.mp hx).1
        omega
      have fin : ∀ (H2 : Hp) (gs2 : List Int) (sz : Int), gs2.length ≤ i + 1 → (∀ x ∈ gs2, 0 < x) → H2 gr = some (.lst (gs2.map V.int)) → H2 p = some (.lst (cutV (ns.map V.int) none (some 63))) → Same H H2 → ∀ fo2 : Int, ∃ (gs : List Int) (fo : Int) (v3 v4 : Option V), ([some (V.ref a), some (.ref gr), some (.int fo2), some (.int z), some (.int sz)] : List (Option V)) = [some (.ref a), some (.ref gr), some (.int fo), v3, v4] ∧ gs.length ≤ i + 1 ∧ (∀ x ∈ gs, 0 < x) ∧ H2 gr = some (.lst (gs.map V.int)) ∧ H2 p = some (.lst (cutV (ns.map V.int) none (some 63))) ∧ Same H H2 :=
        fun H2 gs2 sz h1 h2 h3 h4 h5 fo2 => ⟨gs2, fo2, _, _, rfl, h1, h2, h3, h4, h5⟩
      have more : ∀ sz : Int, 0 < sz → Same H (upd H' gr (.lst (gs.map V.int ++ [V.int sz]))) ∧ (upd H' gr (.lst (gs.map V.int ++ [V.int sz]))) gr = some (.lst ((gs ++ [sz]).map V.int)) ∧ (upd H' gr (.lst (gs.map V.int ++ [V.int sz]))) p = some (.lst (cutV (ns.map V.int) none (some 63))) ∧ (gs ++ [sz]).length ≤ i + 1 ∧ ∀ x ∈ gs ++ [sz], 0 < x := fun sz h0 => by
        refine ⟨fun b o hb => ?_, by rw [upd_same, List.map_append]; rfl, by rw [upd_ne (Ne.symm npg)]; exact hp, by rw [List.length_append, List.length_singleton]; omega, fun x hx => ?_⟩
        · rw [upd_ne (ne_of_none hb ngH)]
          exact sm b o hb
        · rcases List.mem_append.mp hx with h | h
          · exact hpos x h
          · rw [List.mem_singleton.mp h]; exact h0
      have big : (gs.map V.int).length < sizeLine := by rw [List.length_map, sizeLine_eq]; omega
      refine ⟨_, rfl, _, _, rfl, rfl, _, rfl, ite2 (fun e => ?_) (fun e => ?_)⟩
      · refine ⟨_, rfl, _, rfl, _, _, rfl, rfl, ⟨by decide, by decide, by decide⟩, z, 1000000000000000000, rfl, rfl, _, rfl, ite2 (fun e2 => ?_) (fun e2 => ?_)⟩
        · have e2' : (1000000000000000000 : Int) ≤ z := of_decide_eq_true e2
          obtain ⟨m1, m2, m3, m4, m5⟩ := more z (by omega)
          exact ⟨_, rfl, .inl ⟨rfl, _, SqL.of hg⟩, _, rfl, gr, _, _, rfl, rfl, hg, big, _, rfl, _, _, rfl, rfl, .inr ⟨by decide, by decide⟩, _, rfl, _, _, rfl, rfl, _, _, rfl, rfl, .inl ⟨_, rfl, _, _, rfl, rfl, by show (0 : Int) < 2305843009213693951; decide, fin _ _ _ m4 m5 m2 m3 m1 _⟩⟩
        · exact ⟨_, rfl, _, _, rfl, rfl, .inr ⟨by decide, by decide⟩, _, rfl, _, _, rfl, rfl, _, _, rfl, rfl, .inl ⟨_, rfl, _, _, rfl, rfl, by show (0 : Int) < 2305843009213693951; decide, fin _ _ _ (Nat.le_succ_of_le hl) hpos hg hp sm _⟩⟩
      · refine ⟨_, rfl, z, rfl, _, rfl, _, _, rfl, rfl, ⟨by decide, by decide, by decide⟩, -z, 1000000000000000000, rfl, rfl, _, rfl, ite2 (fun e2 => ?_) (fun e2 => ?_)⟩
        · have e2' : (1000000000000000000 : Int) ≤ -z := of_decide_eq_true e2
          obtain ⟨m1, m2, m3, m4, m5⟩ := more (-z) (by omega)
          exact ⟨_, rfl, .inl ⟨rfl, _, SqL.of hg⟩, _, rfl, gr, _, _, rfl, rfl, hg, big, _, rfl, _, _, rfl, rfl, .inr ⟨by decide, by decide⟩, _, rfl, _, _, rfl, rfl, _, _, rfl, rfl, .inl ⟨_, rfl, _, _, rfl, rfl, by show (0 : Int) < 2305843009213693951; decide, fin _ _ _ m4 m5 m2 m3 m1 _⟩⟩
        · exact ⟨_, rfl, _, _, rfl, rfl, .inr ⟨by decide, by decide⟩, _, rfl, _, _, rfl, rfl, _, _, rfl, rfl, .inl ⟨_, rfl, _, _, rfl, rfl, by show (0 : Int) < 2305843009213693951; decide, fin _ _ _ (Nat.le_succ_of_le hl) hpos hg hp sm _⟩⟩
    · rintro σ H' ⟨gs, fo, v3, v4, rfl, hl, hpos, hg, hp, sm⟩
      refine ⟨_, rfl, _, rfl, by show 4 ≤ sizeLine; rw [sizeLine_eq]; decide, fun b nb => ?_⟩
      have smb := same_new (o := .lst [.int 0, .ref gr, .int fo, .int 0]) nb
      have nbg : b ≠ gr := (ne_of_none hg nb).symm
      exact q _ b gr (sm.trans smb) ⟨⟨0, fo, 0, gs, upd_same, by decide, smb _ _ hg, hpos⟩, nbg⟩
end
end K12
set_option Elab.async false
set_option linter.all false
set_option maxRecDepth 100000
set_option maxHeartbeats 4000000
/-! _law_levels, _law_level, _law_letter, _law_beyond, _law_spot, _law_low. -/
namespace K12
open PySem PySem.Spec PyProof.Rows L2 K12M
open PySem.W (Frag)
section
variable {P : Program} {w : World} {K : Frag} {mg : Str → Option Value} {base : Heap}
/-! ### _law_levels -/
def spLevels : Sp := fun vs H Q _ => ∃ (t : Addr) (s : K12M.Spec) (n : Nat), vs = [.ref t, .int (n : Int)] ∧ SpecAt H s t ∧ s.Ok ∧ s.depth ≤ 3 ∧ n ≤ 64 ∧ ∀ H' p, Same H H' → H p = none → RowsAt H' p s (max 2 n) → Q (.ref p) H'
abbrev nLevels : List Str := ["_law_spec_here", "_law_most", "_law_first", "_law_table", "_law_k", "_law_near", "_law_far", "_law_times", "_law_length"]
theorem sc__law_levels : FnScope nLevels ["_law_spec_here", "_law_most"] (defScope s__law_levels) := ⟨rfl, rfl, rfl, by decide +kernel, rfl, by decide +kernel, by decide +kernel⟩
theorem ok__law_levels (T : Ev K mg) : FnR P w K mg base CX0 6 (He.ga K "_law_levels") spLevels := by
  obtain ⟨fd, F⟩ := F__law_levels T
  refine fnR_of (FunD.ok F sc__law_levels (fun vs H Q E h => ?_) (fun cdv A outer s H vs Q E hr h => ?_)) (F.bindsN fun _ _ _ _ _ _ us hl => match us, hl with | [_, _], _ => rfl)
  · obtain ⟨t, s, n, rfl, _⟩ := h
    rfl
  · obtain ⟨t, sp, n, rfl, hs, ok, hd, n64, q⟩ := h
    have nd := sc__law_levels.nd
    have pr := ok__law_price (P := P) (w := w) (K := K) (mg := mg) (base := base) T 4
    have gp := g__law_price T
    have kp := kpd (F__law_price T)
    have p1 := price_one ok
    refine ⟨_, pss_cons (ps_set (i := 2) nd rfl (.inl rfl) (pe_callF pr hr (by rfl) gp kp passN (pa_cons (pv 0) (pa_cons pe_int pa_nil))))
      (pss_cons (ps_set (i := 3) nd rfl (.inl rfl) (pe_lst (pa_cons (pe_tup (pa_cons pe_int (pa_cons pe_int (pa_cons pe_int pa_nil)))) (pa_cons (pe_tup (pa_cons pe_int (pa_cons pe_int (pa_cons pe_int pa_nil)))) (pa_cons (pe_tup (pa_cons (pe_op op_add pe_int (pv 2)) (pa_cons (pv 2) (pa_cons pe_int pa_nil)))) pa_nil)))))
      (pss_cons (ps_for (passes_of rfl) rfl (pi_range2 (by rfl) (n_range T) (pa_cons pe_int (pa_cons (pe_op op_add (pv 1) pe_int) pa_nil))) (pg_name (i := 4) nd rfl (.inl rfl))
        (pss_cons (ps_set (i := 5) nd rfl (.inl rfl) (pe_ix ix_list (pv 3) (pe_op op_sub (pv 4) pe_int) (fun _ _ => rfl)))
        (pss_cons (ps_set (i := 6) nd rfl (.inl rfl) (pe_ix ix_list (pv 3) (pe_op op_sub (pv 4) pe_int) (fun _ _ => rfl)))
        (pss_cons (ps_set (i := 7) nd rfl (.inl rfl) (pe_op op_fdivW (pe_op op_sub (pe_op op_sub (pe_callF pr hr (by rfl) gp kp passN (pa_cons (pv 0) (pa_cons (pe_op op_add (pe_ix ix_tup (pv 6) pe_int (fun _ _ => rfl)) pe_int) pa_nil))) (pe_ix ix_tup (pv 6) pe_int (fun _ _ => rfl))) (pe_ix ix_tup (pv 5) pe_int (fun _ _ => rfl))) (pe_ix ix_tup (pv 6) pe_int (fun _ _ => rfl))))
        (pss_cons (ps_set (i := 8) nd rfl (.inl rfl) (pe_op op_add (pe_op op_mulW (pv 7) (pe_ix ix_tup (pv 6) pe_int (fun _ _ => rfl))) (pe_ix ix_tup (pv 5) pe_int (fun _ _ => rfl))))
        (pss_one (ps_expr (pe_bm PySem.F.plainAttrs_list PySem.F.slot_list_append PySem.F.type_list_append mt_append (pv 3) (pa_cons (pe_tup (pa_cons (pe_op op_add (pe_ix ix_tup (pv 5) pe_int (fun _ _ => rfl)) (pv 8)) (pa_cons (pv 8) (pa_cons (pv 7) pa_nil)))) pa_nil)))))))))
      (pss_one (ps_ret (pv 3))))), ?_⟩
    have z3 : 3 ≤ sizeLine := by rw [sizeLine_eq]; decide
    refine ⟨_, rfl, t, 1, sp, rfl, hs, ok, by omega, by decide, ?_⟩
    refine ⟨z3, fun t0 n0 => ⟨z3, fun t1 n1 => ?_⟩⟩
    refine ⟨_, rfl, _, _, rfl, rfl, _, rfl, z3, fun t2 n2 => ⟨z3, fun r nr => ?_⟩⟩
    have sm2 : Same H (upd (upd (upd H t0 (.tup (row3v sp 0))) t1 (.tup (row3v sp 1))) t2 (.tup (row3v sp 2))) := ((same_new n0).trans (same_new n1)).trans (same_new n2)
    have nrH : H r = none := sm2.free nr
    have d10 : t0 ≠ t1 := fun z => by rw [← z, upd_same] at n1; cases n1
    have d20 : t0 ≠ t2 := fun z => by rw [← z, upd_ne d10, upd_same] at n2; cases n2
    have d21 : t1 ≠ t2 := fun z => by rw [← z, upd_same] at n2; cases n2
    have r0 : (upd (upd (upd H t0 (.tup (row3v sp 0))) t1 (.tup (row3v sp 1))) t2 (.tup (row3v sp 2))) t0 = some (.tup (row3v sp 0)) := by rw [upd_ne d20, upd_ne d10, upd_same]
    have r1 : (upd (upd (upd H t0 (.tup (row3v sp 0))) t1 (.tup (row3v sp 1))) t2 (.tup (row3v sp 2))) t1 = some (.tup (row3v sp 1)) := by rw [upd_ne d21, upd_same]
    have r2 : (upd (upd (upd H t0 (.tup (row3v sp 0))) t1 (.tup (row3v sp 1))) t2 (.tup (row3v sp 2))) t2 = some (.tup (row3v sp 2)) := upd_same
    have smL := same_new (o := .lst [.ref t0, .ref t1, .ref t2]) nr
    refine ⟨_, rfl, _, _, rfl, rfl, 3, _, rfl, ⟨by decide, by decide, by omega, by omega⟩, ?_⟩
    refine for_range (lo := 3) (fun i σ H' => ∃ (xs : List V) (v4 v5 v6 v7 v8 : Option V), σ = [some (.ref t), some (.int (n : Int)), some (.int (sp.price 1)), some (.ref r), v4, v5, v6, v7, v8] ∧ Same H H' ∧ H' r = some (.lst xs) ∧ rowsV sp H' xs (i + 2))
      ⟨[.ref t0, .ref t1, .ref t2], none, none, none, none, none, rfl, sm2.trans smL, upd_same, rfl, fun i hi => ?_⟩ ?_ ?_
    · match i, hi with
      | 0, _ => exact ⟨t0, rfl, smL _ _ r0⟩
      | 1, _ => exact ⟨t1, rfl, smL _ _ r1⟩
      | 2, _ => exact ⟨t2, rfl, smL _ _ r2⟩
    · rintro k σ H' hk ⟨xs, v4, v5, v6, v7, v8, rfl, sm, hr', rw'⟩
      have hlen := rw'.1
      obtain ⟨ti, ei, hi⟩ := rw'.2 (k + 1) (by omega)
      obtain ⟨to, eo, ho⟩ := rw'.2 (k + 2) (by omega)
      obtain ⟨q1, q2, q3, q4, q5, q6, q7, q8⟩ := rowOk ok k
      have q0 := room_nn ok k
      have rp : 0 ≤ reach sp (k + 1) := reach_nn ok
      have bl := small_pow (k := k + 1) (by omega) (len_lt ok (k + 1)) (by omega)
      have bt := small_pow (k := k + 3) (times_nn ok) (times_lt ok (k + 3)) (by omega)
      have hs' := hs.stil (stil_of sm)
      refine ⟨_, rfl, _, rfl, _, _, rfl, rfl, r, xs, _, .ref to, rfl, rfl, SqL.of hr', by rw [show 3 + (k : Int) - 1 = ((k + 2 : Nat) : Int) by omega]; exact atI_nat eo, ?_⟩
      refine ⟨_, rfl, _, rfl, _, _, rfl, rfl, r, xs, _, .ref ti, rfl, rfl, SqL.of hr', by rw [show 3 + (k : Int) - 2 = ((k + 1 : Nat) : Int) by omega]; exact atI_nat ei, ?_⟩
      refine ⟨_, rfl, _, rfl, ti, _, 0, _, rfl, rfl, SqT.of hi, atI_nat (j := 0) rfl, _, _, rfl, rfl, t, reach sp (k + 1) + 1, sp, rfl, hs', ok, by omega, by omega, ?_⟩
      refine ⟨_, rfl, ti, _, 0, _, rfl, rfl, SqT.of hi, atI_nat (j := 0) rfl, _, _, rfl, rfl, _, rfl, to, _, 1, _, rfl, rfl, SqT.of ho, atI_nat (j := 1) rfl, _, _, rfl, rfl, _, rfl, ti, _, 1, _, rfl, rfl, SqT.of hi, atI_nat (j := 1) rfl, _, _, rfl, rfl, wide_div (by omega) bl (by decide) (by decide), ?_⟩
      refine ⟨_, rfl, _, rfl, ti, _, 1, _, rfl, rfl, SqT.of hi, atI_nat (j := 1) rfl, times sp (k + 3), _, rfl, rfl, wide_mul bt bl (by decide) (by decide) (by decide), _, rfl, to, _, 1, _, rfl, rfl, SqT.of ho, atI_nat (j := 1) rfl, _, _, rfl, rfl, ?_⟩
      refine ⟨_, rfl, .inl ⟨rfl, _, SqL.of hr'⟩, _, rfl, to, _, 0, _, rfl, rfl, SqT.of ho, atI_nat (j := 0) rfl, _, rfl, _, _, rfl, rfl, _, rfl, _, rfl, z3, fun tn nn => ?_⟩
      have hnew : H' tn = none := nn
      have smT := same_new (o := .tup (row3v sp (k + 3))) hnew
      have ntr : tn ≠ r := fun z => by rw [z, hr'] at hnew; cases hnew
      refine ⟨r, xs, _, rfl, rfl, smT _ _ hr', by rw [sizeLine_eq]; omega, ?_⟩
      refine ⟨xs ++ [.ref tn], _, _, _, _, _, rfl, fun b o hb => ?_, upd_same, ?_⟩
      · have hb' := smT _ _ (sm b o hb)
        rw [upd_ne (ne_of_none hb nrH)]
        exact hb'
      · have st : Stil (upd H' tn (.tup (row3v sp (k + 3)))) (upd (upd H' tn (.tup (row3v sp (k + 3)))) r (.lst (xs ++ [.ref tn]))) := fun b o hb hl => by
          have nbr : b ≠ r := fun z => by
            rw [z, upd_ne (Ne.symm ntr), hr'] at hb
            cases hb
            exact hl _ rfl
          rw [upd_ne nbr]
          exact hb
        exact (rowsV.more (rw'.same (stil_of smT)) upd_same).same st
    · rintro σ H' ⟨xs, v4, v5, v6, v7, v8, rfl, sm, hr', rw'⟩
      have e : ((n : Int) + 1 - 3).toNat + 2 = max 2 n := by omega
      rw [e] at rw'
      exact ⟨_, rfl, q _ r sm nrH ⟨xs, hr', rw'.1, rw'.2⟩⟩
/-! ### _law_level -/
def spLv : Sp := fun vs H Q _ => ∃ b g, vs = [.ref b] ∧ Box H b g ∧ ∀ H' (l : Nat), Kept b g H H' → Box H' b g → 1 ≤ l → l ≤ 64 → Q (.int (l : Int)) H'
theorem sc__law_level : FnScope ["_law_box_here"] ["_law_box_here"] (defScope s__law_level) := ⟨rfl, rfl, rfl, by decide +kernel, rfl, by decide +kernel, by decide +kernel⟩
theorem ok__law_level (T : Ev K mg) : FnR P w K mg base CX0 3 (He.ga K "_law_level") spLv := by
  obtain ⟨fd, F⟩ := F__law_level T
  refine fnR_of (FunD.ok F sc__law_level (fun vs H Q E h => ?_) (fun cdv A outer s H vs Q E hr h => ?_)) (F.bindsN fun _ _ _ _ _ _ us hl => match us, hl with | [_], _ => rfl)
  · obtain ⟨b, g, rfl, _⟩ := h
    rfl
  · obtain ⟨b, g, rfl, B, q⟩ := h
    have dr := ok__law_draw (P := P) (w := w) (K := K) (mg := mg) (base := base) T
    have gd := g__law_draw T
    have kd := kpd (F__law_draw T)
    refine ⟨_, pss_cons (ps_if (pt_cmpR op_eq (pe_callF dr hr (by rfl) gd kd passN (pa_cons (pv 0) (pa_cons pe_int pa_nil))) pe_int (nomark _)) (pss_one (ps_ret (pe_op op_add pe_int (pe_callF dr hr (by rfl) gd kd passN (pa_cons (pv 0) (pa_cons pe_int pa_nil)))))) pss_nil)
      (pss_one (ps_ret (pe_op op_add pe_int (pe_callF dr hr (by rfl) gd kd passN (pa_cons (pv 0) (pa_cons pe_int pa_nil)))))), ?_⟩
    have fin : ∀ {H2 : Hp} {x : Int}, Kept b g H H2 → Box H2 b g → 0 ≤ x → x < 64 → Q (.int (1 + x)) H2 := fun {H2 x} k B x0 x1 => by
      have := q H2 (1 + x).toNat k B (by omega) (by omega)
      rw [show (((1 + x).toNat : Nat) : Int) = 1 + x by omega] at this
      exact this
    refine ⟨_, rfl, b, g, 6, rfl, B, by decide, lt9s (by decide) (by decide), fun H1 r k1 B1 r0 r1 => ?_⟩
    refine ⟨rfl, _, rfl, ite2 (fun e => ?_) (fun e => ?_)⟩
    · exact ⟨_, rfl, b, g, 64, rfl, B1, by decide, lt9s (by decide) (by decide), fun H2 x k2 B2 x0 x1 => ⟨_, _, rfl, rfl, fin (k1.trans k2) B2 x0 x1⟩⟩
    · exact ⟨_, rfl, b, g, 8, rfl, B1, by decide, lt9s (by decide) (by decide), fun H2 x k2 B2 x0 x1 => ⟨_, _, rfl, rfl, fin (k1.trans k2) B2 x0 (by omega)⟩⟩
/-! ### _law_letter -/
abbrev nLetter : List Str := ["_law_table", "_law_level_here", "_law_at", "_law_turn", "_law_step", "_law_inner"]
theorem sc__law_letter : FnScope nLetter ["_law_table", "_law_level_here", "_law_at"] (defScope s__law_letter) := ⟨rfl, rfl, rfl, by decide +kernel, rfl, by decide +kernel, by decide +kernel⟩
theorem ok__law_letter (T : Ev K mg) : FnR P w K mg base CX0 1 (He.ga K "_law_letter") spLetter := by
  obtain ⟨fd, F⟩ := F__law_letter T
  refine fnR_of (FunD.ok F sc__law_letter (fun vs H Q E h => ?_) (fun cdv A outer s H vs Q E hr h => ?_)) (F.bindsN fun _ _ _ _ _ _ us hl => match us, hl with | [_, _, _], _ => rfl)
  · obtain ⟨a, s, n, l, ax, rfl, _⟩ := h
    rfl
  · obtain ⟨a, sp, n, l0, a0, rfl, hR, ok, l1, ln, l64, a1, a2, q⟩ := h
    have nd := sc__law_letter.nd
    refine ⟨_, pss_cons (ps_for (passes_of rfl) rfl (pi_range1 (by rfl) (n_range T) (pa_cons pe_int pa_nil)) (pg_name (i := 3) nd rfl (.inl rfl))
        (pss_cons (ps_if (pt_cmpR op_eq (pv 2) (pe_ix ix_tup (pe_ix ix_list (pv 0) (pv 1) (fun _ _ => rfl)) pe_int (fun _ _ => rfl)) (nomark _)) (pss_one (ps_ret (pv 1))) pss_nil)
        (pss_cons (ps_if (pt_cmpR op_eq (pv 1) pe_int (nomark _)) (pss_one (ps_ret (pe_un un_neg pe_int))) pss_nil)
        (pss_cons (ps_set (i := 4) nd rfl (.inl rfl) (pe_ix ix_tup (pe_ix ix_list (pv 0) (pe_op op_sub (pv 1) pe_int) (fun _ _ => rfl)) pe_int (fun _ _ => rfl)))
        (pss_cons (ps_set (i := 5) nd rfl (.inl rfl) (pe_op op_mulW (pe_ix ix_tup (pe_ix ix_list (pv 0) (pv 1) (fun _ _ => rfl)) pe_int (fun _ _ => rfl)) (pv 4)))
        (pss_one (ps_if (pt_cmpR op_le (pv 2) (pv 5) (nomark _))
          (pss_cons (ps_set (i := 1) nd rfl (.inl rfl) (pe_op op_sub (pv 1) pe_int)) (pss_one (ps_set (i := 2) nd rfl (.inl rfl) (pe_op op_add (pe_op op_mod (pe_callTy call_int1 (by rfl) (n_int T) (by decide +kernel) (pa_cons (pe_op op_sub (pv 2) pe_int) pa_nil)) (pv 4)) pe_int))))
          (pss_cons (ps_set (i := 1) nd rfl (.inl rfl) (pe_op op_sub (pv 1) pe_int)) (pss_one (ps_set (i := 2) nd rfl (.inl rfl) (pe_op op_sub (pv 2) (pv 5))))))))))))
      (pss_one (ps_ret pe_int)), ?_⟩
    obtain ⟨xs, hx, hl, hrow⟩ := hR
    refine ⟨64, rfl, by decide, by decide, for_range (lo := 0) (n := 64) (fun i σ H' => H' = H ∧ ∃ (lv : Nat) (ax : Int) (v3 v4 v5 : Option V), σ = [some (.ref a), some (.int (lv : Int)), some (.int ax), v3, v4, v5] ∧ 1 ≤ lv ∧ lv + i ≤ l0 ∧ 1 ≤ ax ∧ ax ≤ len sp lv ∧ letter sp lv ax = letter sp l0 a0) ⟨rfl, l0, a0, none, none, none, rfl, l1, Nat.le_refl _, a1, a2, rfl⟩ ?_ ?_⟩
    · rintro i σ H' hi ⟨rfl, m, ax, v3, v4, v5, rfl, h1, h2, h3, h4, h5⟩
      obtain ⟨tt, et, ht⟩ := hrow m (by omega)
      refine ⟨_, rfl, _, rfl, _, rfl, a, xs, _, _, rfl, rfl, SqL.of hx, atI_nat et, tt, _, 1, _, rfl, rfl, SqT.of ht, atI_nat (j := 1) rfl, rfl, _, rfl, ite2 (fun e => ?_) (fun e => ?_)⟩
      · have e2 : ax = len sp m := V.int.inj (of_decide_eq_true e)
        rw [e2, letter_end h1] at h5
        refine ⟨_, rfl, ?_⟩
        rw [h5]
        exact q
      · have e' : ax ≠ len sp m := fun z => e (by rw [z]; exact decide_eq_true rfl)
        have m2 : 2 ≤ m := by
          rcases Nat.lt_or_ge m 2 with z | z
          · have z1 : m = 1 := by omega
            rw [z1] at e' h4
            have : len sp 1 = 1 := rfl
            omega
          · exact z
        refine ⟨_, rfl, rfl, _, rfl, ite2 (fun e2 => ?_) (fun e2 => ?_)⟩
        · have e3 : (m : Int) = 2 := V.int.inj (of_decide_eq_true e2)
          have e4 : m = 2 := by omega
          subst e4
          rw [letter_two e'] at h5
          refine ⟨1, rfl, ?_⟩
          show Q (.int (-1)) H'
          rw [h5]
          exact q
        · have e3 : ¬ m = 2 := fun z => e2 (by rw [z]; exact decide_eq_true rfl)
          obtain ⟨k, rfl⟩ : ∃ k, m = k + 3 := ⟨m - 3, by omega⟩
          obtain ⟨t1, et1, ht1⟩ := hrow (k + 1) (by omega)
          have c1 : (((k + 3 : Nat) : Int) - 2) = ((k + 1 : Nat) : Int) := by omega
          have c2 : (((k + 3 : Nat) : Int) - 1) = ((k + 2 : Nat) : Int) := by omega
          have l1' := len_pos ok (k := k + 1) (by omega)
          have tn := times_nn ok (k := k + 3)
          have bl := small_pow (k := k + 1) (by omega) (len_lt ok (k + 1)) (by omega)
          have bt := small_pow (k := k + 3) tn (times_lt ok (k + 3)) (by omega)
          refine ⟨_, rfl, _, rfl, _, _, rfl, rfl, a, xs, _, .ref t1, rfl, rfl, SqL.of hx, by rw [c1]; exact atI_nat et1, t1, _, 1, _, rfl, rfl, SqT.of ht1, atI_nat (j := 1) rfl, ?_⟩
          refine ⟨_, rfl, _, rfl, a, xs, _, _, rfl, rfl, SqL.of hx, atI_nat et, tt, _, 2, _, rfl, rfl, SqT.of ht, atI_nat (j := 2) rfl, _, rfl, _, _, rfl, rfl, wide_mul bt bl (by decide) (by decide) (by decide), ?_⟩
          refine ⟨_, rfl, _, rfl, _, _, rfl, rfl, _, rfl, ite2 (fun e4 => ?_) (fun e4 => ?_)⟩
          · have e5 := of_decide_eq_true e4
            refine ⟨_, rfl, _, _, rfl, rfl, _, rfl, _, _, rfl, rfl, .inl ⟨_, rfl, _, rfl, _, _, rfl, rfl, by omega, _, _, rfl, rfl, ?_⟩⟩
            refine ⟨rfl, k + 1, (ax - 1) % len sp (k + 1) + 1, some (.int (0 + (i : Int))), some (.int (len sp (k + 1))), some (.int (times sp (k + 3) * len sp (k + 1))), by rw [← c1]; rfl, by omega, by omega, ?_, ?_, ?_⟩
            · have := Int.emod_nonneg (ax - 1) (show len sp (k + 1) ≠ 0 by omega)
              omega
            · have := Int.emod_lt_of_pos (ax - 1) (show 0 < len sp (k + 1) by omega)
              omega
            · rw [← letter_in e' e5]
              exact h5
          · have e5 := of_decide_eq_false (Bool.eq_false_iff.mpr e4)
            have e6 := len3 sp k
            refine ⟨_, rfl, _, _, rfl, rfl, _, rfl, _, rfl, _, _, rfl, rfl, ?_⟩
            refine ⟨rfl, k + 2, ax - times sp (k + 3) * len sp (k + 1), some (.int (0 + (i : Int))), some (.int (len sp (k + 1))), some (.int (times sp (k + 3) * len sp (k + 1))), by rw [← c2]; rfl, by omega, by omega, by omega, by omega, ?_⟩
            rw [← letter_out e' e5]
            exact h5
    · rintro σ H' ⟨rfl, m, ax, v3, v4, v5, rfl, h1, h2, _⟩
      omega
end
end K12
set_option Elab.async false
set_option linter.all false
set_option maxRecDepth 100000
set_option maxHeartbeats 4000000
/-! _law_beyond, _law_spot, _law_low. -/
namespace K12
open PySem PySem.Spec PyProof.Rows L2 K12M
open PySem.W (Frag)
section
variable {P : Program} {w : World} {K : Frag} {mg : Str → Option Value} {base : Heap}
def spBeyond : Sp := fun vs H Q _ => ∃ (b g : Addr) (lo hi : Int), vs = [.ref b, .int lo, .int hi] ∧ lo ≤ hi + 1 ∧ Box H b g ∧ ∀ H' x, Kept b g H H' → Box H' b g → (x < lo ∨ hi < x) → Q (.int x) H'
theorem sc__law_beyond : FnScope ["_law_box_here", "_law_least", "_law_most", "_law_far"] ["_law_box_here", "_law_least", "_law_most"] (defScope s__law_beyond) := ⟨rfl, rfl, rfl, by decide +kernel, rfl, by decide +kernel, by decide +kernel⟩
theorem ok__law_beyond (T : Ev K mg) : FnR P w K mg base CX0 3 (He.ga K "_law_beyond") spBeyond := by
  obtain ⟨fd, F⟩ := F__law_beyond T
  refine fnR_of (FunD.ok F sc__law_beyond (fun vs H Q E h => ?_) (fun cdv A outer s H vs Q E hr h => ?_)) (F.bindsN fun _ _ _ _ _ _ us hl => match us, hl with | [_, _, _], _ => rfl)
  · obtain ⟨b, g, lo, hi, rfl, _⟩ := h
    rfl
  · obtain ⟨b, g, lo, hi, rfl, hlh, B, q⟩ := h
    have nd := sc__law_beyond.nd
    have dr := ok__law_draw (P := P) (w := w) (K := K) (mg := mg) (base := base) T
    have gd := g__law_draw T
    have kd := kpd (F__law_draw T)
    obtain ⟨t2, h2, r2⟩ : ∃ t, PSs (cxOf CX0 P w K mg base ["_law_box_here", "_law_least", "_law_most", "_law_far"] "_law_beyond" (defScope s__law_beyond) (He.ga K "_law_beyond") cdv A outer s H E) ((defBody s__law_beyond).drop 2) t ∧ ∀ H1 (far : Int), Kept b g H H1 → Box H1 b g → 0 ≤ far →
        t { nx := fun _ H' => Q .non H', rt := Q } [some (.ref b), some (.int lo), some (.int hi), some (.int far)] H1 := by
      refine ⟨_, pss_cons (ps_if (pt_cmpR op_eq (pe_callF dr hr (by rfl) gd kd passN (pa_cons (pv 0) (pa_cons pe_int pa_nil))) pe_int (nomark _)) (pss_one (ps_ret (pe_op op_sub (pe_op op_sub (pv 1) pe_int) (pv 3)))) pss_nil)
        (pss_one (ps_ret (pe_op op_add (pe_op op_add (pv 2) pe_int) (pv 3)))), fun H1 far k1 B1 f0 => ?_⟩
      refine ⟨_, rfl, b, g, 2, rfl, B1, by decide, lt9s (by decide) (by decide), fun H2 r k2 B2 r0 r1 => ?_⟩
      refine ⟨rfl, _, rfl, ite2 (fun e => ?_) (fun e => ?_)⟩
      · exact ⟨_, rfl, _, _, rfl, rfl, _, rfl, _, _, rfl, rfl, q H2 _ (k1.trans k2) B2 (.inl (by omega))⟩
      · exact ⟨_, rfl, _, _, rfl, rfl, _, rfl, _, _, rfl, rfl, q H2 _ (k1.trans k2) B2 (.inr (by omega))⟩
    refine ⟨_, pss_cons (ps_set (i := 3) nd rfl (.inl rfl) pe_int) (pss_cons (ps_if (pt_cmpR op_eq (pe_callF dr hr (by rfl) gd kd passN (pa_cons (pv 0) (pa_cons pe_int pa_nil))) pe_int (nomark _)) (pss_one (ps_set (i := 3) nd rfl (.inl rfl) (pe_callF dr hr (by rfl) gd kd passN (pa_cons (pv 0) (pa_cons (pe_op op_pow pe_int pe_int) pa_nil))))) pss_nil) h2), ?_⟩
    refine ⟨_, rfl, b, g, 2, rfl, B, by decide, lt9s (by decide) (by decide), fun H1 r k1 B1 r0 r1 => ?_⟩
    refine ⟨rfl, _, rfl, ite2 (fun e => ?_) (fun e => ?_)⟩
    · refine ⟨_, rfl, _, _, rfl, rfl, ⟨by decide, by decide, by decide⟩, b, g, 1000000000000000000000000000000, rfl, B1, by decide, lt9 128 (by decide) (by decide), fun H2 x k2 B2 x0 x1 => ?_⟩
      exact r2 H2 x (k1.trans k2) B2 x0
    · exact r2 H1 0 k1 B1 (by decide)
/-! ### _law_low -/
def spLow : Sp := fun vs H Q _ => ∃ (a : Addr) (s : K12M.Spec) (n l : Nat), vs = [.ref a, .int (l : Int), .int 300] ∧ RowsAt H a s n ∧ s.Ok ∧ 1 ≤ l ∧ l ≤ n ∧ l ≤ 64 ∧ ∀ k : Nat, 1 ≤ k → k ≤ l → len s k ≤ 300 → Q (.int (k : Int)) H
theorem sc__law_low : FnScope ["_law_table", "_law_level_here", "_law_most", "_law_low_here", "_law_turn"] ["_law_table", "_law_level_here", "_law_most"] (defScope s__law_low) := ⟨rfl, rfl, rfl, by decide +kernel, rfl, by decide +kernel, by decide +kernel⟩
theorem ok__law_low (T : Ev K mg) : FnR P w K mg base CX0 1 (He.ga K "_law_low") spLow := by
  obtain ⟨fd, F⟩ := F__law_low T
  refine fnR_of (FunD.ok F sc__law_low (fun vs H Q E h => ?_) (fun cdv A outer s H vs Q E hr h => ?_)) (F.bindsN fun _ _ _ _ _ _ us hl => match us, hl with | [_, _, _], _ => rfl)
  · obtain ⟨a, s, n, l, rfl, _⟩ := h
    rfl
  · obtain ⟨a, sp, n, l0, rfl, hR, ok, l1, ln, l64, q⟩ := h
    have nd := sc__law_low.nd
    refine ⟨_, pss_cons (ps_set (i := 3) nd rfl (.inl rfl) (pv 1)) (pss_cons (ps_for (passes_of rfl) rfl (pi_range1 (by rfl) (n_range T) (pa_cons pe_int pa_nil)) (pg_name (i := 4) nd rfl (.inl rfl))
        (pss_one (ps_if (PW.pt (pw_and (pt_cmpR op_gt (pv 3) pe_int (nomark _)) (pw_and1 (pt_cmpR op_gt (pe_ix ix_tup (pe_ix ix_list (pv 0) (pv 3) (fun _ _ => rfl)) pe_int (fun _ _ => rfl)) (pv 2) (nomark _))))) (pss_one (ps_set (i := 3) nd rfl (.inl rfl) (pe_op op_sub (pv 3) pe_int))) pss_nil)))
      (pss_one (ps_ret (pv 3)))), ?_⟩
    obtain ⟨xs, hx, hl, hrow⟩ := hR
    have one : len sp 1 = 1 := rfl
    refine ⟨_, rfl, 64, rfl, by decide, by decide, for_range (lo := 0) (n := 64) (fun i σ H' => H' = H ∧ ∃ (k : Nat) (v : Option V), σ = [some (.ref a), some (.int (l0 : Int)), some (.int 300), some (.int (k : Int)), v] ∧ 1 ≤ k ∧ k ≤ l0 ∧ (len sp k ≤ 300 ∨ k + i ≤ l0)) ⟨rfl, l0, none, rfl, l1, Nat.le_refl _, .inr (Nat.le_refl _)⟩ ?_ ?_⟩
    · rintro i σ H' hi ⟨rfl, k, v, rfl, k1, kl, hd⟩
      obtain ⟨tt, et, ht⟩ := hrow k (by omega)
      refine ⟨_, rfl, _, _, rfl, rfl, _, rfl, ite2 (fun e => ?_) (fun e => ?_)⟩
      · have e' := of_decide_eq_true e
        refine ⟨_, rfl, _, rfl, a, xs, _, _, rfl, rfl, SqL.of hx, atI_nat et, tt, _, 1, _, rfl, rfl, SqT.of ht, atI_nat (j := 1) rfl, _, rfl, _, _, rfl, rfl, _, rfl, ite2 (fun e2 => ?_) (fun e2 => ?_)⟩
        · have e2' := of_decide_eq_true e2
          refine ⟨_, rfl, _, _, rfl, rfl, rfl, k - 1, some (.int (0 + (i : Int))), ?_, by omega, by omega, ?_⟩
          · have e3 : ((k - 1 : Nat) : Int) = (k : Int) - 1 := by omega
            rw [e3]
            rfl
          · rcases hd with hd | hd
            · omega
            · exact .inr (by omega)
        · have e2' := of_decide_eq_false (Bool.eq_false_iff.mpr e2)
          exact ⟨rfl, k, _, rfl, k1, kl, .inl (by omega)⟩
      · have e' := of_decide_eq_false (Bool.eq_false_iff.mpr e)
        have e3 : k = 1 := by omega
        subst e3
        exact ⟨rfl, 1, _, rfl, k1, kl, .inl (by omega)⟩
    · rintro σ H' ⟨rfl, k, v, rfl, k1, kl, hd⟩
      exact ⟨_, rfl, q k k1 kl (by omega)⟩
/-! ### _law_spot -/
def spSpot : Sp := fun vs H Q _ => ∃ (b g a : Addr) (s : K12M.Spec) (n l : Nat), vs = [.ref b, .ref a, .int (l : Int)] ∧ Box H b g ∧ a ≠ b ∧ a ≠ g ∧ RowsAt H a s n ∧ s.Ok ∧ 1 ≤ l ∧ l ≤ n ∧ l ≤ 64 ∧ ∀ H' x, Kept b g H H' → Box H' b g → 1 ≤ x → x ≤ len s l → Q (.int x) H'
abbrev nSpot : List Str := ["_law_box_here", "_law_table", "_law_level_here", "_law_length", "_law_way", "_law_spot_here"]
theorem sc__law_spot : FnScope nSpot ["_law_box_here", "_law_table", "_law_level_here"] (defScope s__law_spot) := ⟨rfl, rfl, rfl, by decide +kernel, rfl, by decide +kernel, by decide +kernel⟩
theorem pow9 {x : Int} {k : Nat} (h0 : 0 ≤ x) (h : x ≤ (2 : Int) ^ (31 * k)) (hk : k ≤ 66) : x.natAbs < 2 ^ 9000 := lt9 2100 (small_pow h0 h hk) (by decide)
theorem RowsAt.kept {H H' : Hp} {a b g : Addr} {s : K12M.Spec} {n : Nat} (h : RowsAt H a s n) (k : Kept b g H H') (B : Box H b g) (n1 : a ≠ b) (n2 : a ≠ g) : RowsAt H' a s n := h.keep (k.stil B) fun _ e => k a _ e n1 n2
theorem ok__law_spot (T : Ev K mg) : FnR P w K mg base CX0 3 (He.ga K "_law_spot") spSpot := by
  obtain ⟨fd, F⟩ := F__law_spot T
  refine fnR_of (FunD.ok F sc__law_spot (fun vs H Q E h => ?_) (fun cdv A outer s H vs Q E hr h => ?_)) (F.bindsN fun _ _ _ _ _ _ us hl => match us, hl with | [_, _, _], _ => rfl)
  · obtain ⟨b, g, a, s, n, l, rfl, _⟩ := h
    rfl
  · obtain ⟨b, g, a, sp, n, l, rfl, B, nab, nag, hR, ok, l1, ln, l64, q⟩ := h
    have nd := sc__law_spot.nd
    have dr := ok__law_draw (P := P) (w := w) (K := K) (mg := mg) (base := base) T
    have gd := g__law_draw T
    have kd := kpd (F__law_draw T)
    have lp := len_pos ok l1
    have ll := len_lt ok l
    -- the last: the spot is cut to its bounds
    obtain ⟨t7, h7, r7⟩ : ∃ t, PSs (cxOf CX0 P w K mg base nSpot "_law_spot" (defScope s__law_spot) (He.ga K "_law_spot") cdv A outer s H E) ((defBody s__law_spot).drop 6) t ∧ ∀ H1 (way x : Int), Kept b g H H1 → Box H1 b g →
        t { nx := fun _ H' => Q .non H', rt := Q } [some (.ref b), some (.ref a), some (.int (l : Int)), some (.int (len sp l)), some (.int way), some (.int x)] H1 := by
      refine ⟨_, pss_cons (ps_if (pt_cmpR op_lt (pv 5) pe_int (nomark _)) (pss_one (ps_ret pe_int)) pss_nil) (pss_cons (ps_if (pt_cmpR op_gt (pv 5) (pv 3) (nomark _)) (pss_one (ps_ret (pv 3))) pss_nil) (pss_one (ps_ret (pv 5)))), fun H1 way x k1 B1 => ?_⟩
      refine ⟨_, rfl, _, _, rfl, rfl, _, rfl, ite2 (fun e => ?_) (fun e => ?_)⟩
      · exact q H1 1 k1 B1 (by decide) lp
      · have e' := of_decide_eq_false (Bool.eq_false_iff.mpr e)
        refine ⟨_, rfl, _, rfl, _, _, rfl, rfl, _, rfl, ite2 (fun e2 => ?_) (fun e2 => ?_)⟩
        · exact ⟨_, rfl, q H1 _ k1 B1 lp (Int.le_refl _)⟩
        · have e2' := of_decide_eq_false (Bool.eq_false_iff.mpr e2)
          exact ⟨_, rfl, q H1 x k1 B1 (by omega) (by omega)⟩
    -- way 2
    obtain ⟨t6, h6, r6⟩ : ∃ t, PSs (cxOf CX0 P w K mg base nSpot "_law_spot" (defScope s__law_spot) (He.ga K "_law_spot") cdv A outer s H E) ((defBody s__law_spot).drop 5) t ∧ ∀ H1 (way x : Int), Kept b g H H1 → Box H1 b g →
        t { nx := fun _ H' => Q .non H', rt := Q } [some (.ref b), some (.ref a), some (.int (l : Int)), some (.int (len sp l)), some (.int way), some (.int x)] H1 := by
      refine ⟨_, pss_cons (ps_if (PW.pt (pw_and (pt_cmpR op_gt (pv 2) pe_int (nomark _)) (pw_and1 (pt_cmpR op_eq (pv 4) pe_int (nomark _)))))
        (pss_one (ps_set (i := 5) nd rfl (.inl rfl) (pe_op op_sub (pe_op op_add (pe_op op_mulW (pe_ix ix_tup (pe_ix ix_list (pv 1) (pe_op op_sub (pv 2) pe_int) (fun _ _ => rfl)) pe_int (fun _ _ => rfl)) (pe_callF dr hr (by rfl) gd kd passN (pa_cons (pv 0) (pa_cons (pe_op op_add (pe_ix ix_tup (pe_ix ix_list (pv 1) (pv 2) (fun _ _ => rfl)) pe_int (fun _ _ => rfl)) pe_int) pa_nil)))) (pe_callF dr hr (by rfl) gd kd passN (pa_cons (pv 0) (pa_cons pe_int pa_nil)))) pe_int))) pss_nil) h7, fun H1 way x k1 B1 => ?_⟩
      refine ⟨_, rfl, _, _, rfl, rfl, _, rfl, ite2 (fun e => ?_) (fun e => ?_)⟩
      · have e' := of_decide_eq_true e
        refine ⟨_, rfl, rfl, _, rfl, ite2 (fun e2 => ?_) (fun e2 => r7 H1 way x k1 B1)⟩
        obtain ⟨k, rfl⟩ : ∃ k, l = k + 3 := ⟨l - 3, by omega⟩
        have hR1 := hR.kept k1 B nab nag
        obtain ⟨xs, hx, hl, hrow⟩ := id hR1
        obtain ⟨t1, e1, ht1⟩ := hrow (k + 1) (by omega)
        obtain ⟨t2, e22, ht2⟩ := hrow (k + 3) (by omega)
        have tn := times_nn ok (k := k + 3)
        have l1' := len_pos ok (k := k + 1) (by omega)
        have bl := small_pow (k := k + 1) (by omega) (len_lt ok (k + 1)) (by omega)
        have bt := small_pow (k := k + 3) tn (times_lt ok (k + 3)) (by omega)
        have two : (2 : Nat) ^ 2101 = 2 ^ 2100 * 2 := Nat.pow_succ ..
        have bt2 : (times sp (k + 3) + 2).natAbs < 2 ^ 2101 := by
          have h0 : 2 ≤ 2 ^ 2100 := Nat.le_trans (by decide) (Nat.pow_le_pow_right (n := 2) (by decide) (show 1 ≤ 2100 by decide))
          rw [two]
          omega
        refine ⟨_, rfl, _, rfl, _, _, rfl, rfl, a, xs, _, .ref t1, rfl, rfl, SqL.of hx, by rw [show (((k + 3 : Nat) : Int) - 2) = ((k + 1 : Nat) : Int) by omega]; exact atI_nat e1, t1, _, 1, _, rfl, rfl, SqT.of ht1, atI_nat (j := 1) rfl, ?_⟩
        refine ⟨_, rfl, _, rfl, _, rfl, a, xs, _, .ref t2, rfl, rfl, SqL.of hx, atI_nat e22, t2, _, 2, _, rfl, rfl, SqT.of ht2, atI_nat (j := 2) rfl, times sp (k + 3), 2, rfl, rfl, b, g, _, rfl, B1, by show 0 < times sp (k + 3) + 2; omega, lt9 2101 bt2 (by decide), fun H2 r k2 B2 r0 r1 => ?_⟩
        have r1' : r < times sp (k + 3) + 2 := r1
        have br : r.natAbs < 2 ^ 2101 := by omega
        refine ⟨_, _, rfl, rfl, wide_mul bl br (by decide) (by decide) (by decide), _, rfl, b, g, 3, rfl, B2, by decide, lt9s (by decide) (by decide), fun H3 y k3 B3 y0 y1 => ?_⟩
        exact ⟨_, _, rfl, rfl, _, _, rfl, rfl, r7 H3 way _ ((k1.trans k2).trans k3) B3⟩
      · exact r7 H1 way x k1 B1
    -- way 1
    obtain ⟨t5, h5, r5⟩ : ∃ t, PSs (cxOf CX0 P w K mg base nSpot "_law_spot" (defScope s__law_spot) (He.ga K "_law_spot") cdv A outer s H E) ((defBody s__law_spot).drop 4) t ∧ ∀ H1 (way x : Int), Kept b g H H1 → Box H1 b g →
        t { nx := fun _ H' => Q .non H', rt := Q } [some (.ref b), some (.ref a), some (.int (l : Int)), some (.int (len sp l)), some (.int way), some (.int x)] H1 := by
      refine ⟨_, pss_cons (ps_if (PW.pt (pw_and (pt_cmpR op_gt (pv 2) pe_int (nomark _)) (pw_and1 (pt_cmpR op_eq (pv 4) pe_int (nomark _)))))
        (pss_one (ps_set (i := 5) nd rfl (.inl rfl) (pe_op op_sub (pe_op op_add (pe_op op_mulW (pe_ix ix_tup (pe_ix ix_list (pv 1) (pv 2) (fun _ _ => rfl)) pe_int (fun _ _ => rfl)) (pe_ix ix_tup (pe_ix ix_list (pv 1) (pe_op op_sub (pv 2) pe_int) (fun _ _ => rfl)) pe_int (fun _ _ => rfl))) (pe_callF dr hr (by rfl) gd kd passN (pa_cons (pv 0) (pa_cons pe_int pa_nil)))) pe_int))) pss_nil) h6, fun H1 way x k1 B1 => ?_⟩
      refine ⟨_, rfl, _, _, rfl, rfl, _, rfl, ite2 (fun e => ?_) (fun e => ?_)⟩
      · have e' := of_decide_eq_true e
        refine ⟨_, rfl, rfl, _, rfl, ite2 (fun e2 => ?_) (fun e2 => r6 H1 way x k1 B1)⟩
        obtain ⟨k, rfl⟩ : ∃ k, l = k + 3 := ⟨l - 3, by omega⟩
        have hR1 := hR.kept k1 B nab nag
        obtain ⟨xs, hx, hl, hrow⟩ := id hR1
        obtain ⟨t1, e1, ht1⟩ := hrow (k + 1) (by omega)
        obtain ⟨t2, e22, ht2⟩ := hrow (k + 3) (by omega)
        have tn := times_nn ok (k := k + 3)
        have l1' := len_pos ok (k := k + 1) (by omega)
        have bl := small_pow (k := k + 1) (by omega) (len_lt ok (k + 1)) (by omega)
        have bt := small_pow (k := k + 3) tn (times_lt ok (k + 3)) (by omega)
        refine ⟨_, rfl, _, rfl, a, xs, _, .ref t2, rfl, rfl, SqL.of hx, atI_nat e22, t2, _, 2, _, rfl, rfl, SqT.of ht2, atI_nat (j := 2) rfl, ?_⟩
        refine ⟨_, rfl, _, rfl, _, _, rfl, rfl, a, xs, _, .ref t1, rfl, rfl, SqL.of hx, by rw [show (((k + 3 : Nat) : Int) - 2) = ((k + 1 : Nat) : Int) by omega]; exact atI_nat e1, t1, _, 1, _, rfl, rfl, SqT.of ht1, atI_nat (j := 1) rfl, times sp (k + 3), len sp (k + 1), rfl, rfl, wide_mul bt bl (by decide) (by decide) (by decide), ?_⟩
        refine ⟨_, rfl, b, g, 3, rfl, B1, by decide, lt9s (by decide) (by decide), fun H3 y k3 B3 y0 y1 => ?_⟩
        exact ⟨_, _, rfl, rfl, _, _, rfl, rfl, r6 H3 way _ (k1.trans k3) B3⟩
      · exact r6 H1 way x k1 B1
    refine ⟨_, pss_cons (ps_set (i := 3) nd rfl (.inl rfl) (pe_ix ix_tup (pe_ix ix_list (pv 1) (pv 2) (fun _ _ => rfl)) pe_int (fun _ _ => rfl)))
      (pss_cons (ps_set (i := 4) nd rfl (.inl rfl) (pe_callF dr hr (by rfl) gd kd passN (pa_cons (pv 0) (pa_cons pe_int pa_nil))))
      (pss_cons (ps_set (i := 5) nd rfl (.inl rfl) (pe_op op_add pe_int (pe_callF dr hr (by rfl) gd kd passN (pa_cons (pv 0) (pa_cons (pv 3) pa_nil)))))
      (pss_cons (ps_if (pt_cmpR op_eq (pv 4) pe_int (nomark _)) (pss_one (ps_set (i := 5) nd rfl (.inl rfl) (pe_op op_sub (pv 3) (pe_callF dr hr (by rfl) gd kd passN (pa_cons (pv 0) (pa_cons pe_int pa_nil)))))) pss_nil) h5))), ?_⟩
    obtain ⟨xs, hx, hl, hrow⟩ := id hR
    obtain ⟨tt, et, ht⟩ := hrow l ln
    refine ⟨_, rfl, _, rfl, a, xs, _, _, rfl, rfl, SqL.of hx, atI_nat et, tt, _, 1, _, rfl, rfl, SqT.of ht, atI_nat (j := 1) rfl, ?_⟩
    refine ⟨_, rfl, b, g, 6, rfl, B, by decide, lt9s (by decide) (by decide), fun H1 way k1 B1 w0 w1 => ?_⟩
    refine ⟨_, rfl, _, rfl, b, g, len sp l, rfl, B1, by omega, pow9 (by omega) ll (by omega), fun H2 x k2 B2 x0 x1 => ?_⟩
    refine ⟨_, _, rfl, rfl, _, rfl, rfl, _, rfl, ite2 (fun e => ?_) (fun e => r5 H2 way _ (k1.trans k2) B2)⟩
    refine ⟨_, rfl, _, rfl, b, g, 3, rfl, B2, by decide, lt9s (by decide) (by decide), fun H3 y k3 B3 y0 y1 => ⟨_, _, rfl, rfl, r5 H3 way _ ((k1.trans k2).trans k3) B3⟩⟩
end
end K12
set_option Elab.async false
set_option linter.all false
set_option maxRecDepth 100000
set_option maxHeartbeats 4000000
/-! _law_words. -/
namespace K12
open PySem PySem.Spec PyProof.Rows L2 K12M
open PySem.W (Frag)
theorem reps_flat (w : List Int) : ∀ n : Nat, (List.replicate n (w.map V.int)).flatten = (reps w n).map V.int
  | 0 => rfl
  | n + 1 => by
    rw [List.replicate_succ, List.flatten_cons, reps_flat w n, reps, List.map_append]
theorem cut_last (xs : List V) : cutV xs none (some (-1)) = xs.dropLast := by
  unfold cutV
  have e : HT.sIx xs.length xs.length (some (-1)) = xs.length - 1 := by
    unfold HT.sIx
    simp
    omega
  rw [show HT.sIx xs.length 0 none = 0 from rfl, e, List.drop_zero, Nat.sub_zero, List.dropLast_eq_take]
def phV (s : K12M.Spec) (H0 H : Hp) (xs : List V) (n : Nat) : Prop := xs.length = n + 1 ∧ ∀ j, j ≤ n → ∃ t, xs[j]? = some (.ref t) ∧ H0 t = none ∧ H t = some (.lst ((words s j).map V.int))
theorem ints_ne {H : Hp} {t r : Addr} {ws : List Int} {xs : List V} {t0 : Addr} (ht : H t = some (.lst (ws.map V.int))) (hr : H r = some (.lst xs)) (h0 : xs[0]? = some (.ref t0)) : t ≠ r := fun z => by
  rw [z, hr] at ht
  cases ht
  rw [List.getElem?_map] at h0
  cases e : ws[0]? with
  | none => rw [e] at h0; cases h0
  | some v => rw [e] at h0; cases h0
section
variable {P : Program} {w : World} {K : Frag} {mg : Str → Option Value} {base : Heap}
def spWords : Sp := fun vs H Q _ => ∃ (a : Addr) (s : K12M.Spec) (n l : Nat), vs = [.ref a, .int (l : Int)] ∧ RowsAt H a s n ∧ s.Ok ∧ 2 ≤ n ∧ 1 ≤ l ∧ l ≤ n ∧ l ≤ 64 ∧ len s l ≤ 300 ∧ ∀ H' p, Same H H' → H p = none → H' p = some (.lst ((words s l).map V.int)) → Q (.ref p) H'
abbrev nWords : List Str := ["_law_table", "_law_level_here", "_law_phases", "_law_k"]
theorem sc__law_words : FnScope nWords ["_law_table", "_law_level_here"] (defScope s__law_words) := ⟨rfl, rfl, rfl, by decide +kernel, rfl, by decide +kernel, by decide +kernel⟩
theorem ok__law_words (T : Ev K mg) : FnR P w K mg base CX0 1 (He.ga K "_law_words") spWords := by
  obtain ⟨fd, F⟩ := F__law_words T
  refine fnR_of (FunD.ok F sc__law_words (fun vs H Q E h => ?_) (fun cdv A outer s H vs Q E hr h => ?_)) (F.bindsN fun _ _ _ _ _ _ us hl => match us, hl with | [_, _], _ => rfl)
  · obtain ⟨a, s, n, l, rfl, _⟩ := h
    rfl
  · obtain ⟨a, sp, n, l, rfl, hR, ok, n2, l1, ln, l64, l300, q⟩ := h
    have nd := sc__law_words.nd
    refine ⟨_, pss_cons (ps_if (pt_cmpR op_eq (pv 1) pe_int (nomark _)) (pss_one (ps_ret (pe_lst (pa_cons pe_int pa_nil)))) pss_nil)
      (pss_cons (ps_set (i := 2) nd rfl (.inl rfl) (pe_lst (pa_cons (pe_lst pa_nil) (pa_cons (pe_lst (pa_cons pe_int pa_nil)) (pa_cons (pe_op op_cat (pe_op op_rep (pe_lst (pa_cons (pe_un un_neg pe_int) pa_nil)) (pe_op op_sub (pe_ix ix_tup (pe_ix ix_list (pv 0) pe_int (fun _ _ => rfl)) pe_int (fun _ _ => rfl)) pe_int)) (pe_lst (pa_cons pe_int pa_nil))) pa_nil)))))
      (pss_cons (ps_for (passes_of rfl) rfl (pi_range2 (by rfl) (n_range T) (pa_cons pe_int (pa_cons (pe_op op_add (pv 1) pe_int) pa_nil))) (pg_name (i := 3) nd rfl (.inl rfl))
        (pss_one (ps_expr (pe_bm PySem.F.plainAttrs_list PySem.F.slot_list_append PySem.F.type_list_append mt_append (pv 2) (pa_cons
          (pe_op op_cat (pe_op op_cat (pe_op op_rep (pe_ix ix_list (pv 2) (pe_op op_sub (pv 3) pe_int) (fun _ _ => rfl)) (pe_ix ix_tup (pe_ix ix_list (pv 0) (pv 3) (fun _ _ => rfl)) pe_int (fun _ _ => rfl)))
            (pe_slice sl_list (pe_ix ix_list (pv 2) (pe_op op_sub (pv 3) pe_int) (fun _ _ => rfl)) po_none (po_some (pe_un un_neg pe_int)))) (pe_lst (pa_cons (pv 3) pa_nil))) pa_nil)))))
      (pss_one (ps_ret (pe_ix ix_list (pv 2) (pv 1) (fun _ _ => rfl)))))), ?_⟩
    have zs : ∀ k, k ≤ 1000 → k ≤ sizeLine := fun k hk => by rw [sizeLine_eq]; omega
    refine ⟨_, rfl, rfl, _, rfl, ite2 (fun e => ?_) (fun e => ?_)⟩
    · have e1 : (l : Int) = 1 := V.int.inj (of_decide_eq_true e)
      have e2 : l = 1 := by omega
      subst e2
      exact ⟨by show 1 ≤ sizeLine; rw [sizeLine_eq]; decide, fun p np => q _ p (same_new np) np upd_same⟩
    · have e1 : l ≠ 1 := fun z => e (by rw [z]; exact decide_eq_true rfl)
      obtain ⟨ys, hy, hyl, hrow⟩ := id hR
      obtain ⟨tt2, et2, ht2⟩ := hrow 2 n2
      have m2 : len sp 2 ≤ 300 := Int.le_trans (len_mono ok (j := 2) (k := l) (by omega) (by omega)) l300
      have p2 := len_pos ok (k := 2) (by omega)
      refine ⟨zs _ (by decide), fun p0 n0 => ?_⟩
      have s0 := same_new (o := .lst []) n0
      refine ⟨by show 1 ≤ sizeLine; rw [sizeLine_eq]; decide, fun p1 n1 => ?_⟩
      have s1 := same_new (o := .lst [.int 1]) n1
      refine ⟨1, rfl, zs _ (by decide), fun pm nm => ?_⟩
      have s2 := same_new (o := .lst [.int (-1)]) nm
      have s02 := (s0.trans s1).trans s2
      refine ⟨_, rfl, a, ys, _, .ref tt2, rfl, rfl, SqL.of (s02 _ _ hy), atI_nat (j := 2) et2, tt2, _, 1, _, rfl, rfl, SqT.of (s02 _ _ ht2), atI_nat (j := 1) rfl, len sp 2, 1, rfl, rfl, ?_⟩
      refine ⟨pm, len sp 2 - 1, _, rfl, rfl, upd_same, by omega, by omega, zs _ (by simp; omega), fun pr nr => ?_⟩
      have s3 := same_new (o := .lst (List.replicate (len sp 2 - 1).toNat [V.int (-1)]).flatten) nr
      refine ⟨zs _ (by decide), fun p2' n2' => ?_⟩
      have s4 := same_new (o := .lst [.int 2]) n2'
      refine ⟨pr, p2', _, _, rfl, rfl, s4 _ _ upd_same, upd_same, zs _ (by simp; omega), fun pc nc => ?_⟩
      have ew : (List.replicate (len sp 2 - 1).toNat [V.int (-1)]).flatten ++ [.int 2] = (words sp 2).map V.int := by
        have e3 : ∀ k : Nat, (List.replicate k [V.int (-1)]).flatten = (List.replicate k (-1 : Int)).map V.int := fun k => by
          induction k with
          | zero => rfl
          | succ k ih => rw [List.replicate_succ, List.flatten_cons, ih]; rfl
        rw [e3]
        show _ = (List.replicate (len sp 2 - 1).toNat (-1 : Int) ++ [2]).map V.int
        rw [List.map_append]
        rfl
      rw [ew]
      have s5 := same_new (o := .lst ((words sp 2).map V.int)) nc
      refine ⟨by show 3 ≤ sizeLine; rw [sizeLine_eq]; decide, fun r nr' => ?_⟩
      have s6 := same_new (o := .lst [.ref p0, .ref p1, .ref pc]) nr'
      have sAll := ((s02.trans s3).trans s4).trans (s5.trans s6)
      have h0' := s6 _ _ (s5 _ _ (s4 _ _ (s3 _ _ (s2 _ _ (s1 _ _ (upd_same (H := H) (a := p0) (o := .lst [])))))))
      have h1' := s6 _ _ (s5 _ _ (s4 _ _ (s3 _ _ (s2 _ _ (upd_same (H := upd H p0 (.lst [])) (a := p1) (o := .lst [.int 1]))))))
      have h2' := s6 _ _ (upd_same (a := pc) (o := .lst ((words sp 2).map V.int)) (H := _))
      have nrH : H r = none := (((s02.trans s3).trans s4).trans s5).free nr'
      refine ⟨_, rfl, _, _, rfl, rfl, 3, _, rfl, ⟨by decide, by decide, by omega, by omega⟩, ?_⟩
      refine for_range (lo := 3) (fun i σ H' => ∃ (xs : List V) (v : Option V), σ = [some (.ref a), some (.int (l : Int)), some (.ref r), v] ∧ Same H H' ∧ H' r = some (.lst xs) ∧ phV sp H H' xs (i + 2))
        ⟨[.ref p0, .ref p1, .ref pc], none, rfl, sAll, upd_same, rfl, fun j hj => ?_⟩ ?_ ?_
      · match j, hj with
        | 0, _ => exact ⟨p0, rfl, n0, h0'⟩
        | 1, _ => exact ⟨p1, rfl, s0.free n1, h1'⟩
        | 2, _ => exact ⟨pc, rfl, ((s02.trans s3).trans s4).free nc, h2'⟩
      · rintro i σ H' hi ⟨xs, v, rfl, sm, hr', hxl, hph⟩
        have il : i + 3 ≤ l := by omega
        obtain ⟨t0, e0, _, _⟩ := hph 0 (by omega)
        obtain ⟨t1, e1', _, h1⟩ := hph (i + 1) (by omega)
        obtain ⟨t2, e2', _, h2⟩ := hph (i + 2) (by omega)
        obtain ⟨tk, ek, hk⟩ := hrow (i + 3) (by omega)
        have w1 := words_length ok (i + 1)
        have w2 := words_length ok (i + 2)
        have w3 := words_length ok (i + 3)
        have m3 : len sp (i + 3) ≤ 300 := Int.le_trans (len_mono ok (j := i + 3) (k := l) (by omega) il) l300
        have lp1 := len_pos ok (k := i + 1) (by omega)
        have lp2 := len_pos ok (k := i + 2) (by omega)
        have tn := times_nn ok (k := i + 3)
        have e3 := len3 sp i
        have tl : times sp (i + 3) * 1 ≤ times sp (i + 3) * len sp (i + 1) := Int.mul_le_mul_of_nonneg_left lp1 tn
        have k1 : 3 + (i : Int) - 2 = ((i + 1 : Nat) : Int) := by omega
        have k2 : 3 + (i : Int) - 1 = ((i + 2 : Nat) : Int) := by omega
        have k0 : 3 + (i : Int) = ((i + 3 : Nat) : Int) := by omega
        have mulN : ((((words sp (i + 1)).length * (times sp (i + 3)).toNat : Nat)) : Int) = len sp (i + 1) * times sp (i + 3) := by rw [Int.natCast_mul, w1, Int.toNat_of_nonneg tn]
        have comm : len sp (i + 1) * times sp (i + 3) = times sp (i + 3) * len sp (i + 1) := Int.mul_comm _ _
        refine ⟨_, rfl, .inl ⟨rfl, _, SqL.of hr'⟩, ?_⟩
        refine ⟨_, rfl, _, rfl, _, _, rfl, rfl, r, xs, _, .ref t1, rfl, rfl, SqL.of hr', by rw [k1]; exact atI_nat e1', ?_⟩
        refine ⟨_, rfl, _, rfl, a, ys, _, .ref tk, rfl, rfl, SqL.of (sm _ _ hy), by rw [k0]; exact atI_nat ek, tk, _, 2, _, rfl, rfl, SqT.of (sm _ _ hk), atI_nat (j := 2) rfl, ?_⟩
        refine ⟨t1, times sp (i + 3), _, rfl, rfl, h1, by omega, by omega, zs _ (by rw [List.length_map]; omega), fun q1 nq1 => ?_⟩
        rw [reps_flat]
        have z1 := same_new (o := .lst ((reps (words sp (i + 1)) (times sp (i + 3)).toNat).map V.int)) nq1
        refine ⟨_, rfl, _, rfl, _, _, rfl, rfl, r, xs, _, .ref t2, rfl, rfl, SqL.of (z1 _ _ hr'), by rw [k2]; exact atI_nat e2', 1, rfl, -1, rfl, t2, _, rfl, SqL.of (z1 _ _ h2), fun q2 nq2 => ?_⟩
        rw [cut_last]
        have z2 := same_new (o := .lst ((words sp (i + 2)).map V.int).dropLast) nq2
        have lr : (reps (words sp (i + 1)) (times sp (i + 3)).toNat).length = (times sp (i + 3)).toNat * (words sp (i + 1)).length := reps_length _ _
        have lrI : (((times sp (i + 3)).toNat * (words sp (i + 1)).length : Nat) : Int) = times sp (i + 3) * len sp (i + 1) := by rw [Int.natCast_mul, w1, Int.toNat_of_nonneg tn]
        refine ⟨q1, q2, _, _, rfl, rfl, z2 _ _ upd_same, upd_same, zs _ (by rw [List.length_map, List.length_dropLast, List.length_map, lr]; omega), fun q3 nq3 => ?_⟩
        have z3 := same_new (o := .lst ((reps (words sp (i + 1)) (times sp (i + 3)).toNat).map V.int ++ ((words sp (i + 2)).map V.int).dropLast)) nq3
        refine ⟨_, rfl, by show 1 ≤ sizeLine; rw [sizeLine_eq]; decide, fun q4 nq4 => ?_⟩
        have z4 := same_new (o := .lst [.int (3 + (i : Int))]) nq4
        refine ⟨q3, q4, _, _, rfl, rfl, z4 _ _ upd_same, upd_same, zs _ (by rw [List.length_append, List.length_map, List.length_dropLast, List.length_map, lr]; simp; omega), fun q5 nq5 => ?_⟩
        have ew : (reps (words sp (i + 1)) (times sp (i + 3)).toNat).map V.int ++ ((words sp (i + 2)).map V.int).dropLast ++ [.int (3 + (i : Int))] = (words sp (i + 3)).map V.int := by
          rw [words3, List.map_append, List.map_append, List.map_dropLast, k0]
          rfl
        rw [ew]
        have z5 := same_new (o := .lst ((words sp (i + 3)).map V.int)) nq5
        have zz := (z1.trans z2).trans ((z3.trans z4).trans z5)
        have hrz := zz _ _ hr'
        have zz4 := (z1.trans z2).trans (z3.trans z4)
        refine ⟨r, xs, _, rfl, rfl, hrz, by rw [hxl, sizeLine_eq]; omega, ?_⟩
        have n5r : q5 ≠ r := fun z => by
          rw [z] at nq5
          have := z4 _ _ (z3 _ _ (z2 _ _ (z1 _ _ hr')))
          rw [nq5] at this
          cases this
        refine ⟨xs ++ [.ref q5], _, rfl, fun b o hb => ?_, upd_same, by rw [List.length_append, hxl]; rfl, fun j hj => ?_⟩
        · rw [upd_ne (ne_of_none hb nrH)]
          exact zz _ _ (sm b o hb)
        · by_cases c : j ≤ i + 2
          · obtain ⟨t, et, t0, ht⟩ := hph j c
            refine ⟨t, by rw [List.getElem?_append_left (by rw [hxl]; omega)]; exact et, t0, ?_⟩
            rw [upd_ne (ints_ne ht hr' e0)]
            exact zz _ _ ht
          · have ej : j = i + 3 := by omega
            subst ej
            refine ⟨q5, by rw [List.getElem?_append_right (by rw [hxl]; omega), hxl, Nat.sub_self]; rfl, sm.free (zz4.free nq5), ?_⟩
            rw [upd_ne n5r]
            exact upd_same
      · rintro σ H' ⟨xs, v, rfl, sm, hr', hxl, hph⟩
        have e3 : ((l : Int) + 1 - 3).toNat + 2 = l := by omega
        rw [e3] at hxl hph
        obtain ⟨t, et, t0, ht⟩ := hph l (Nat.le_refl _)
        refine ⟨_, rfl, _, rfl, r, xs, _, .ref t, rfl, rfl, SqL.of hr', atI_nat et, ?_⟩
        exact q H' t sm t0 ht
end
end K12
set_option Elab.async false
set_option linter.all false
set_option maxRecDepth 100000
set_option maxHeartbeats 4000000
/-! _law_counts. -/
namespace K12
open PySem PySem.Spec PyProof.Rows L2 K12M
open PySem.W (Frag)
def lrowV (s : K12M.Spec) (k n : Nat) : List V := (List.range n).map fun j => V.int (lrow s k j)
theorem lrowV_len {s : K12M.Spec} {k n : Nat} : (lrowV s k n).length = n := by
  unfold lrowV
  rw [List.length_map, List.length_range]
theorem lrowV_get {s : K12M.Spec} {k n j : Nat} (h : j < n) : (lrowV s k n)[j]? = some (.int (lrow s k j)) := by
  unfold lrowV
  rw [List.getElem?_map, List.getElem?_range h]
  rfl
theorem map_eq {xs : List V} {n : Nat} {f : Nat → Int} (hl : xs.length = n) (h : ∀ j, j < n → xs[j]? = some (.int (f j))) : xs = (List.range n).map fun j => V.int (f j) := by
  refine List.ext_getElem? fun j => ?_
  by_cases c : j < n
  · rw [h j c, List.getElem?_map, List.getElem?_range c]
    rfl
  · rw [List.getElem?_eq_none (by omega), List.getElem?_eq_none (by rw [List.length_map, List.length_range]; omega)]
theorem zeros : ∀ k : Nat, (List.replicate k [V.int 0]).flatten = List.replicate k (V.int 0)
  | 0 => rfl
  | k + 1 => by rw [List.replicate_succ, List.flatten_cons, zeros k]; rfl
theorem lrow_0 {s : K12M.Spec} {l : Nat} : List.replicate (l + 2) (V.int 0) = lrowV s 0 (l + 2) := by
  refine map_eq (by rw [List.length_replicate]) fun j hj => ?_
  rw [List.getElem?_replicate, if_pos hj]
  rfl
theorem lrow_1 {s : K12M.Spec} {l : Nat} (h : 1 ≤ l) : [V.int 0, .int 0, .int 1] ++ List.replicate (l - 1) (V.int 0) = lrowV s 1 (l + 2) := by
  refine map_eq (by rw [List.length_append, List.length_replicate]; show 3 + (l - 1) = _; omega) fun j hj => ?_
  match j, hj with
  | 0, _ => rfl
  | 1, _ => rfl
  | 2, _ => rfl
  | j + 3, hj =>
    rw [List.getElem?_append_right (by show 3 ≤ _; omega), List.getElem?_replicate, if_pos (by show j + 3 - 3 < _; omega)]
    show _ = some (V.int (if j + 3 = 2 then 1 else 0))
    rw [if_neg (by omega)]
theorem lrow_2 {s : K12M.Spec} {l : Nat} (h : 2 ≤ l) : [V.int (len s 2 - 1), .int 0, .int 0, .int 1] ++ List.replicate (l - 2) (V.int 0) = lrowV s 2 (l + 2) := by
  refine map_eq (by rw [List.length_append, List.length_replicate]; show 4 + (l - 2) = _; omega) fun j hj => ?_
  match j, hj with
  | 0, _ => rfl
  | 1, _ => rfl
  | 2, _ => rfl
  | 3, _ => rfl
  | j + 4, hj =>
    rw [List.getElem?_append_right (by show 4 ≤ _; omega), List.getElem?_replicate, if_pos (by show j + 4 - 4 < _; omega)]
    show _ = some (V.int (if j + 4 = 0 then len s 2 - 1 else if j + 4 = 3 then 1 else 0))
    rw [if_neg (by omega), if_neg (by omega)]
def preV (s : K12M.Spec) (k n : Nat) : List V := (List.range n).map fun j => V.int (times s (k + 3) * lrow s (k + 1) j + lrow s (k + 2) j)
theorem preV_len {s : K12M.Spec} {k n : Nat} : (preV s k n).length = n := by
  unfold preV
  rw [List.length_map, List.length_range]
theorem preV_get {s : K12M.Spec} {k n j : Nat} (h : j < n) : (preV s k n)[j]? = some (.int (times s (k + 3) * lrow s (k + 1) j + lrow s (k + 2) j)) := by
  unfold preV
  rw [List.getElem?_map, List.getElem?_range h]
  rfl
theorem preV_more {s : K12M.Spec} {k n : Nat} : preV s k n ++ [.int (times s (k + 3) * lrow s (k + 1) n + lrow s (k + 2) n)] = preV s k (n + 1) := by
  unfold preV
  rw [List.range_succ, List.map_append]
  rfl
theorem lrow_3 {s : K12M.Spec} {k n : Nat} (h : k + 4 < n) :
    ((preV s k n).set (k + 3) (.int (times s (k + 3) * lrow s (k + 1) (k + 3) + lrow s (k + 2) (k + 3) - 1))).set (k + 4) (.int (times s (k + 3) * lrow s (k + 1) (k + 4) + lrow s (k + 2) (k + 4) + 1)) = lrowV s (k + 3) n := by
  refine map_eq (by rw [List.length_set, List.length_set, preV_len]) fun j hj => ?_
  rw [lrow3]
  by_cases c : j = k + 4
  · subst c
    rw [List.getElem?_set_self (by rw [List.length_set, preV_len]; exact h), if_neg (by omega), if_pos rfl, Int.sub_zero]
  · rw [List.getElem?_set_ne (Ne.symm c), if_neg c]
    by_cases c2 : j = k + 3
    · subst c2
      rw [List.getElem?_set_self (by rw [preV_len]; omega), if_pos rfl, Int.add_zero]
    · rw [List.getElem?_set_ne (Ne.symm c2), if_neg c2, preV_get hj, Int.sub_zero, Int.add_zero]
theorem lrow_bound {s : K12M.Spec} (ok : s.Ok) {k j : Nat} (hk : 1 ≤ k) : 0 ≤ lrow s k j ∧ lrow s k j ≤ len s k := by
  rw [lrow_cnt s j hk]
  exact ⟨cnt_nn ok, cnt_le ok hk⟩
/-- the lists of counts 0 .. n -/
def lrV (s : K12M.Spec) (m : Nat) (H0 H : Hp) (xs : List V) (n : Nat) : Prop := xs.length = n + 1 ∧ ∀ j, j ≤ n → ∃ t, xs[j]? = some (.ref t) ∧ H0 t = none ∧ H t = some (.lst (lrowV s j m))
theorem ifB {p q : Prop} (h : p) : if true = true then p else q := by
  rw [if_pos rfl]
  exact h
theorem ix_n {n j : Nat} (hj : j < n) : ixN n (j : Int) = some j := by
  unfold ixN
  rw [if_pos (by omega), if_pos (by omega)]
  rfl
section
variable {P : Program} {w : World} {K : Frag} {mg : Str → Option Value} {base : Heap}
def spCounts : Sp := fun vs H Q _ => ∃ (a : Addr) (s : K12M.Spec) (n l : Nat), vs = [.ref a, .int (l : Int)] ∧ RowsAt H a s n ∧ s.Ok ∧ 2 ≤ n ∧ 1 ≤ l ∧ l ≤ n ∧ l ≤ 64 ∧ ∀ H' p, Same H H' → H p = none → H' p = some (.lst (lrowV s l (l + 2))) → Q (.ref p) H'
abbrev nCounts : List Str := ["_law_table", "_law_level_here", "_law_rows", "_law_k", "_law_row", "_law_j"]
theorem sc__law_counts : FnScope nCounts ["_law_table", "_law_level_here"] (defScope s__law_counts) := ⟨rfl, rfl, rfl, by decide +kernel, rfl, by decide +kernel, by decide +kernel⟩
theorem ok__law_counts (T : Ev K mg) : FnR P w K mg base CX0 1 (He.ga K "_law_counts") spCounts := by
  obtain ⟨fd, F⟩ := F__law_counts T
  refine fnR_of (FunD.ok F sc__law_counts (fun vs H Q E h => ?_) (fun cdv A outer s H vs Q E hr h => ?_)) (F.bindsN fun _ _ _ _ _ _ us hl => match us, hl with | [_, _], _ => rfl)
  · obtain ⟨a, s, n, l, rfl, _⟩ := h
    rfl
  · obtain ⟨a, sp, n, l, rfl, hR, ok, n2, l1, ln, l64, q⟩ := h
    have nd := sc__law_counts.nd
    have zs : ∀ k, k ≤ 1000 → k ≤ sizeLine := fun k hk => by rw [sizeLine_eq]; omega
    obtain ⟨t3, h3, r3⟩ : ∃ t, PSs (cxOf CX0 P w K mg base nCounts "_law_counts" (defScope s__law_counts) (He.ga K "_law_counts") cdv A outer s H E) ((defBody s__law_counts).drop 2) t ∧
        ∀ H1 r xs, Same H H1 → H r = none → H1 r = some (.lst xs) → lrV sp (l + 2) H H1 xs (min l 2) → t { nx := fun _ H' => Q .non H', rt := Q } [some (.ref a), some (.int (l : Int)), some (.ref r), none, none, none] H1 := by
      refine ⟨_, pss_cons (ps_for (passes_of rfl) rfl (pi_range2 (by rfl) (n_range T) (pa_cons pe_int (pa_cons (pe_op op_add (pv 1) pe_int) pa_nil))) (pg_name (i := 3) nd rfl (.inr rfl))
          (pss_cons (ps_setLc (i := 4) (own := [("_law_j", 5)]) (g := gName 5) rfl nd rfl rfl (sw_true rfl rfl rfl (by decide +kernel)) (pi_range1 (by rfl) (n_range T) (pa_cons (pe_op op_add (pv 1) pe_int) pa_nil)) (blkOk_by (N := nCounts) (sc := defScope s__law_counts) (by decide +kernel)) (fun _ _ _ _ _ => pg_name nd rfl (.inl rfl)) (fun _ _ _ _ _ => pts_nil)
              (fun _ _ _ _ _ => pe_op op_add (pe_op op_mulW (pe_ix (r := rIxT K) ix_tup (pe_ix (r := rIxL K) ix_list (pv 0) (pv 3) (fun _ _ => rfl)) pe_int (fun _ _ => rfl)) (pe_ix (r := rIxL K) ix_list (pe_ix (r := rIxL K) ix_list (pv 2) (pe_op op_sub (pv 3) pe_int) (fun _ _ => rfl)) (pv 5) (fun _ _ => rfl))) (pe_ix (r := rIxL K) ix_list (pe_ix (r := rIxL K) ix_list (pv 2) (pe_op op_sub (pv 3) pe_int) (fun _ _ => rfl)) (pv 5) (fun _ _ => rfl))))
          (pss_cons (ps_asg (pe_op op_sub (pe_ix ix_list (pv 4) (pv 3) (fun _ _ => rfl)) pe_int) (pg_sub (pv 4) (pv 3) set_list))
          (pss_cons (ps_asg (pe_op op_add (pe_ix ix_list (pv 4) (pe_op op_add (pv 3) pe_int) (fun _ _ => rfl)) pe_int) (pg_sub (pv 4) (pe_op op_add (pv 3) pe_int) set_list))
          (pss_one (ps_expr (pe_bm PySem.F.plainAttrs_list PySem.F.slot_list_append PySem.F.type_list_append mt_append (pv 2) (pa_cons (pv 4) pa_nil))))))))
        (pss_one (ps_ret (pe_ix ix_list (pv 2) (pv 1) (fun _ _ => rfl)))), fun H1 r xs sm nr hr' hL => ?_⟩
      obtain ⟨ys, hy, hyl, hrow⟩ := id hR
      refine ⟨_, rfl, _, _, rfl, rfl, 3, _, rfl, ⟨by decide, by decide, by omega, by omega⟩, ?_⟩
      refine for_range (lo := 3) (fun i σ H' => ∃ (xs : List V) (v3 v4 : Option V), σ = [some (.ref a), some (.int (l : Int)), some (.ref r), v3, v4, none] ∧ Same H H' ∧ H' r = some (.lst xs) ∧ lrV sp (l + 2) H H' xs (min l 2 + i)) ⟨xs, none, none, rfl, sm, hr', hL⟩ ?_ ?_
      · rintro i σ H' hi ⟨xs, v3, v4, rfl, sm, hr', hxl, hph⟩
        have il : i + 3 ≤ l := by omega
        have em : min l 2 + i = i + 2 := by omega
        have em' : min l 2 + (i + 1) = i + 3 := by omega
        rw [em] at hxl hph
        obtain ⟨t1, e1, _, h1⟩ := hph (i + 1) (by omega)
        obtain ⟨t2, e2, _, h2⟩ := hph (i + 2) (by omega)
        obtain ⟨tk, ek, hk⟩ := hrow (i + 3) (by omega)
        have k1 : 3 + (i : Int) - 2 = ((i + 1 : Nat) : Int) := by omega
        have k2 : 3 + (i : Int) - 1 = ((i + 2 : Nat) : Int) := by omega
        have k0 : 3 + (i : Int) = ((i + 3 : Nat) : Int) := by omega
        have k4 : 3 + (i : Int) + 1 = ((i + 4 : Nat) : Int) := by omega
        have bt := small_pow (k := i + 3) (times_nn ok) (times_lt ok (i + 3)) (by omega)
        have eL : ((l : Int) + 2).toNat = l + 2 := by omega
        refine ⟨_, rfl, _, _, rfl, rfl, _, rfl, by omega, by omega, fun D nD => ?_⟩
        refine lc_range (lo := 0) (n := ((l : Int) + 2).toNat) (fun j H2 => Same H' H2 ∧ H2 D = some (.lst (preV sp i j))) ⟨same_new nD, upd_same⟩ ?_ ?_
        · rintro j H2 hj ⟨s2, hD⟩
          refine ⟨rfl, ifB (q := Same H' H2 ∧ H2 D = some (.lst (preV sp i (j + 1)))) ?_⟩
          have kj : 0 + (j : Int) = ((j : Nat) : Int) := by omega
          have b1 := lrow_bound ok (k := i + 1) (j := j) (by omega)
          have bl := small_pow (k := i + 1) b1.1 (Int.le_trans b1.2 (len_lt ok (i + 1))) (by omega)
          refine ⟨_, rfl, _, rfl, a, ys, _, .ref tk, rfl, rfl, SqL.of (s2 _ _ (sm _ _ hy)), by rw [k0]; exact atI_nat ek, tk, _, 2, _, rfl, rfl, SqT.of (s2 _ _ (sm _ _ hk)), atI_nat (j := 2) rfl, ?_⟩
          refine ⟨_, rfl, _, rfl, _, _, rfl, rfl, r, xs, _, .ref t1, rfl, rfl, SqL.of (s2 _ _ hr'), by rw [k1]; exact atI_nat e1, ?_⟩
          refine ⟨_, rfl, t1, _, _, .int (lrow sp (i + 1) j), rfl, rfl, SqL.of (s2 _ _ h1), by rw [kj]; exact atI_nat (lrowV_get (by omega)), ?_⟩
          refine ⟨times sp (i + 3), _, rfl, rfl, wide_mul bt bl (by decide) (by decide) (by decide), ?_⟩
          refine ⟨_, rfl, _, rfl, _, _, rfl, rfl, r, xs, _, .ref t2, rfl, rfl, SqL.of (s2 _ _ hr'), by rw [k2]; exact atI_nat e2, ?_⟩
          refine ⟨_, rfl, t2, _, _, .int (lrow sp (i + 2) j), rfl, rfl, SqL.of (s2 _ _ h2), by rw [kj]; exact atI_nat (lrowV_get (by omega)), ?_⟩
          refine ⟨_, _, rfl, rfl, _, hD, by rw [preV_len, sizeLine_eq]; omega, fun b o hb => ?_, ?_⟩
          · rw [upd_ne (ne_of_none hb nD)]
            exact s2 b o hb
          · rw [upd_same, preV_more]
        · rintro H2 ⟨s2, hD⟩
          rw [eL] at hD
          refine ⟨_, rfl, _, rfl, D, _, _, .int (times sp (i + 3) * lrow sp (i + 1) (i + 3) + lrow sp (i + 2) (i + 3)), rfl, rfl, SqL.of hD, by rw [k0]; exact atI_nat (preV_get (by omega)), _, _, rfl, rfl, ?_⟩
          refine ⟨_, rfl, _, rfl, D, _, _, i + 3, rfl, rfl, hD, by rw [k0]; exact ix_n (by rw [preV_len]; omega), ?_⟩
          refine ⟨_, rfl, _, rfl, _, _, rfl, rfl, D, _, _, .int (times sp (i + 3) * lrow sp (i + 1) (i + 4) + lrow sp (i + 2) (i + 4)), rfl, rfl, SqL.of upd_same, by rw [k4]; exact atI_nat (by rw [List.getElem?_set_ne (by omega)]; exact preV_get (by omega)), _, _, rfl, rfl, ?_⟩
          refine ⟨_, rfl, _, rfl, _, _, rfl, rfl, D, _, _, i + 4, rfl, rfl, upd_same, by rw [k4]; exact ix_n (by rw [List.length_set, preV_len]; omega), ?_⟩
          rw [lrow_3 (by omega)]
          have nDr : r ≠ D := ne_of_none hr' nD
          have hr2 : (upd (upd H2 D (.lst ((preV sp i (l + 2)).set (i + 3) (.int (times sp (i + 3) * lrow sp (i + 1) (i + 3) + lrow sp (i + 2) (i + 3) - 1))))) D (.lst (lrowV sp (i + 3) (l + 2)))) r = some (.lst xs) := by
            rw [upd_ne nDr, upd_ne nDr]
            exact s2 _ _ hr'
          refine ⟨_, rfl, .inl ⟨rfl, _, SqL.of hr2⟩, _, rfl, r, xs, _, rfl, rfl, hr2, by rw [hxl, sizeLine_eq]; omega, ?_⟩
          refine ⟨xs ++ [.ref D], _, _, rfl, fun b o hb => ?_, upd_same, by rw [List.length_append, hxl]; show i + 2 + 1 + 1 = _; omega, fun j hj => ?_⟩
          · rw [upd_ne (ne_of_none hb nr), upd_ne (ne_of_none (sm _ _ hb) nD), upd_ne (ne_of_none (sm _ _ hb) nD)]
            exact s2 _ _ (sm _ _ hb)
          · by_cases c : j ≤ i + 2
            · obtain ⟨t, et, t0, ht⟩ := hph j c
              refine ⟨t, by rw [List.getElem?_append_left (by rw [hxl]; omega)]; exact et, t0, ?_⟩
              have ntr : t ≠ r := fun z => by
                rw [z, hr'] at ht
                have ht := HO.lst.inj (Option.some.inj ht)
                rw [ht, lrowV_get (show j < l + 2 by omega)] at et
                cases et
              rw [upd_ne ntr, upd_ne (ne_of_none ht nD), upd_ne (ne_of_none ht nD)]
              exact s2 _ _ ht
            · have ej : j = i + 3 := by omega
              subst ej
              refine ⟨D, by rw [List.getElem?_append_right (by rw [hxl]; omega), hxl, Nat.sub_self]; rfl, sm.free nD, ?_⟩
              rw [upd_ne (Ne.symm nDr), upd_same]
      · rintro σ H' ⟨xs, v3, v4, rfl, sm, hr', hxl, hph⟩
        have e3 : min l 2 + ((l : Int) + 1 - 3).toNat = l := by omega
        rw [e3] at hxl hph
        obtain ⟨t, et, t0, ht⟩ := hph l (Nat.le_refl _)
        exact ⟨_, rfl, _, rfl, r, xs, _, .ref t, rfl, rfl, SqL.of hr', atI_nat et, q H' t sm t0 ht⟩
    refine ⟨_, pss_cons (ps_set (i := 2) nd rfl (.inr rfl) (pe_lst (pa_cons (pe_op op_rep (pe_lst (pa_cons pe_int pa_nil)) (pe_op op_add (pv 1) pe_int)) (pa_cons (pe_op op_cat (pe_lst (pa_cons pe_int (pa_cons pe_int (pa_cons pe_int pa_nil)))) (pe_op op_rep (pe_lst (pa_cons pe_int pa_nil)) (pe_op op_sub (pv 1) pe_int))) pa_nil))))
      (pss_cons (ps_if (pt_cmpR op_gt (pv 1) pe_int (nomark _)) (pss_one (ps_expr (pe_bm PySem.F.plainAttrs_list PySem.F.slot_list_append PySem.F.type_list_append mt_append (pv 2) (pa_cons
        (pe_op op_cat (pe_lst (pa_cons (pe_op op_sub (pe_ix ix_tup (pe_ix ix_list (pv 0) pe_int (fun _ _ => rfl)) pe_int (fun _ _ => rfl)) pe_int) (pa_cons pe_int (pa_cons pe_int (pa_cons pe_int pa_nil))))) (pe_op op_rep (pe_lst (pa_cons pe_int pa_nil)) (pe_op op_sub (pv 1) pe_int))) pa_nil)))) pss_nil) h3), ?_⟩
    have sz1 : ∀ x : V, [x].length ≤ sizeLine := fun x => by show 1 ≤ _; rw [sizeLine_eq]; decide
    refine ⟨sz1 _, fun p0 n0 => ?_⟩
    have s0 := same_new (o := .lst [.int 0]) n0
    refine ⟨_, rfl, _, _, rfl, rfl, p0, (l : Int) + 2, _, rfl, rfl, upd_same, by omega, by omega, zs _ (by show 1 * _ ≤ _; omega), fun p1 n1 => ?_⟩
    rw [zeros, show ((l : Int) + 2).toNat = l + 2 by omega, lrow_0]
    have s1 := same_new (o := .lst (lrowV sp 0 (l + 2))) n1
    refine ⟨by show 3 ≤ _; rw [sizeLine_eq]; decide, fun p2 m2 => ?_⟩
    have s2 := same_new (o := .lst [.int 0, .int 0, .int 1]) m2
    refine ⟨sz1 _, fun p3 n3 => ?_⟩
    have s3 := same_new (o := .lst [.int 0]) n3
    refine ⟨_, rfl, _, _, rfl, rfl, p3, (l : Int) - 1, _, rfl, rfl, upd_same, by omega, by omega, zs _ (by show 1 * _ ≤ _; omega), fun p4 n4 => ?_⟩
    rw [zeros, show ((l : Int) - 1).toNat = l - 1 by omega]
    have s4 := same_new (o := .lst (List.replicate (l - 1) (V.int 0))) n4
    refine ⟨p2, p4, _, _, rfl, rfl, s4 _ _ (s3 _ _ upd_same), upd_same, zs _ (by rw [List.length_replicate]; show 3 + _ ≤ _; omega), fun p5 n5 => ?_⟩
    rw [lrow_1 l1]
    have s5 := same_new (o := .lst (lrowV sp 1 (l + 2))) n5
    refine ⟨by show 2 ≤ _; rw [sizeLine_eq]; decide, fun r nr => ?_⟩
    have s6 := same_new (o := .lst [.ref p1, .ref p5]) nr
    have t0 := same_new (o := .lst [.int 0]) n0
    have sA := (((t0.trans s1).trans s2).trans s3).trans s4
    have sB := sA.trans s5
    have sAll := sB.trans s6
    have nrH : H r = none := sB.free nr
    have f1 : H p1 = none := t0.free n1
    have f5 : H p5 = none := sA.free n5
    have h1a := s5 _ _ (s4 _ _ (s3 _ _ (s2 _ _ (upd_same (a := p1) (o := .lst (lrowV sp 0 (l + 2))) (H := _)))))
    have n1r := ne_of_none h1a nr
    have h1 := s6 _ _ h1a
    have n5r : p5 ≠ r := ne_of_none (upd_same (a := p5) (o := .lst (lrowV sp 1 (l + 2))) (H := _)) nr
    have h5 := s6 _ _ (upd_same (a := p5) (o := .lst (lrowV sp 1 (l + 2))) (H := _))
    refine ⟨_, rfl, _, _, rfl, rfl, _, rfl, ite2 (fun e => ?_) (fun e => ?_)⟩
    · have e2 := of_decide_eq_true e
      have l2 : 2 ≤ l := by omega
      obtain ⟨ys, hy, hyl, hrow⟩ := id hR
      obtain ⟨tt2, et2, ht2⟩ := hrow 2 n2
      refine ⟨_, rfl, .inl ⟨rfl, _, SqL.of upd_same⟩, ?_⟩
      refine ⟨_, rfl, a, ys, _, .ref tt2, rfl, rfl, SqL.of (sAll _ _ hy), atI_nat (j := 2) et2, tt2, _, 1, _, rfl, rfl, SqT.of (sAll _ _ ht2), atI_nat (j := 1) rfl, len sp 2, 1, rfl, rfl, ?_⟩
      refine ⟨by show 4 ≤ _; rw [sizeLine_eq]; decide, fun q2 m2 => ?_⟩
      have z2 := same_new (o := .lst [.int (len sp 2 - 1), .int 0, .int 0, .int 1]) m2
      refine ⟨sz1 _, fun q3 m3 => ?_⟩
      have z3 := same_new (o := .lst [.int 0]) m3
      refine ⟨_, rfl, _, _, rfl, rfl, q3, (l : Int) - 2, _, rfl, rfl, upd_same, by omega, by omega, zs _ (by show 1 * _ ≤ _; omega), fun q4 m4 => ?_⟩
      rw [zeros, show ((l : Int) - 2).toNat = l - 2 by omega]
      have z4 := same_new (o := .lst (List.replicate (l - 2) (V.int 0))) m4
      refine ⟨q2, q4, _, _, rfl, rfl, z4 _ _ (z3 _ _ upd_same), upd_same, zs _ (by rw [List.length_replicate]; show 4 + _ ≤ _; omega), fun q5 m5 => ?_⟩
      rw [lrow_2 l2]
      have z5 := same_new (o := .lst (lrowV sp 2 (l + 2))) m5
      have zA := (z2.trans z3).trans z4
      have zz := zA.trans z5
      have hr5 := zz _ _ (upd_same (a := r) (o := .lst [.ref p1, .ref p5]) (H := _))
      have nqr : q5 ≠ r := Ne.symm (ne_of_none (zA _ _ (upd_same (a := r) (o := .lst [.ref p1, .ref p5]) (H := _))) m5)
      have f2 : H q5 = none := sAll.free (zA.free m5)
      refine ⟨r, [.ref p1, .ref p5], _, rfl, rfl, hr5, by show 2 < _; rw [sizeLine_eq]; decide, ?_⟩
      have em : min l 2 = 2 := by omega
      refine r3 _ r [.ref p1, .ref p5, .ref q5] (fun b o hb => ?_) nrH upd_same ?_
      · rw [upd_ne (ne_of_none hb nrH)]
        exact zz _ _ (sAll b o hb)
      · rw [em]
        refine ⟨rfl, fun j hj => ?_⟩
        match j, hj with
        | 0, _ => exact ⟨p1, rfl, f1, by rw [upd_ne n1r]; exact zz _ _ h1⟩
        | 1, _ => exact ⟨p5, rfl, f5, by rw [upd_ne n5r]; exact zz _ _ h5⟩
        | 2, _ => exact ⟨q5, rfl, f2, by rw [upd_ne nqr]; exact upd_same⟩
    · have e2 : l = 1 := by
        by_cases c : l = 1
        · exact c
        · exact absurd (decide_eq_true (show (l : Int) > 1 by omega)) e
      subst e2
      refine r3 _ r [.ref p1, .ref p5] sAll nrH upd_same ?_
      refine ⟨rfl, fun j hj => ?_⟩
      match j, hj with
      | 0, _ => exact ⟨p1, rfl, f1, h1⟩
      | 1, _ => exact ⟨p5, rfl, f5, h5⟩
end
end K12
set_option Elab.async false
set_option linter.all false
set_option maxRecDepth 100000
set_option maxHeartbeats 4000000
/-! _law_words_right, _law_first_letters_right. -/
namespace K12
open PySem PySem.Spec PyProof.Rows L2 K12M
open PySem.W (Frag)
theorem len_row {s : K12M.Spec} {i : Nat} : row3v s i = [.int (reach s i), .int (len s i), .int (times s i)] := rfl
theorem words_take {s : K12M.Spec} (ok : s.Ok) {l i : Nat} (h : (i : Int) < len s l) : ((words s l).map V.int).take i ++ [.int (letter s l ((i : Int) + 1))] = ((words s l).map V.int).take (i + 1) := by
  have g := words_get ok l i h
  have g2 : ((words s l).map V.int)[i]? = some (.int (letter s l ((i : Int) + 1))) := by rw [List.getElem?_map, g]; rfl
  rw [List.take_add_one, g2]
  rfl
section
variable {P : Program} {w : World} {K : Frag} {mg : Str → Option Value} {base : Heap}
def spWR (K : Frag) : Sp := fun vs H Q _ => ∃ (ra d : Addr) (s : K12M.Spec) (l : Nat), vs = [.ref ra, .int (l : Int), .ref d] ∧ RuleAt K H s ra ∧ s.Ok ∧ s.depth ≤ 3 ∧ 1 ≤ l ∧ l ≤ 64 ∧ len s l ≤ 300 ∧ H d = some (.lst ((words s l).map V.int)) ∧ ∀ H', Same H H' → Q (.bl true) H'
abbrev nWR : List Str := ["_law_rule", "_law_level_here", "_law_due", "_law_told", "_law_letter_here", "_law_k"]
theorem sc__law_words_right : FnScope nWR ["_law_rule", "_law_level_here", "_law_due"] (defScope s__law_words_right) := ⟨rfl, rfl, rfl, by decide +kernel, rfl, by decide +kernel, by decide +kernel⟩
theorem ok__law_words_right (T : Ev K mg) (hP : TopOk P) : FnR P w K mg base (L2N.CX P w) 10 (He.ga K "_law_words_right") (spWR K) := by
  obtain ⟨fd, F⟩ := F__law_words_right T
  refine fnR_of (FunD.ok F sc__law_words_right (fun vs H Q E h => ?_) (fun cdv A outer s H vs Q E hr h => ?_)) (F.bindsN fun _ _ _ _ _ _ us hl => match us, hl with | [_, _, _], _ => rfl)
  · obtain ⟨ra, d, s, l, rfl, _⟩ := h
    rfl
  · obtain ⟨ra, d, sp, l, rfl, hA, ok, hn, l1, l64, l300, hd, q⟩ := h
    have nd := sc__law_words_right.nd
    obtain ⟨t2, h2, r2⟩ : ∃ t, PSs (cxOf (L2N.CX P w) P w K mg base nWR "_law_words_right" (defScope s__law_words_right) (He.ga K "_law_words_right") cdv A outer s H E) ((defBody s__law_words_right).drop 2) t ∧
        ∀ H1 t' v, Same H H1 → H1 t' = some (.lst ((words sp l).map V.int)) → t { nx := fun _ H' => Q .non H', rt := Q } [some (.ref ra), some (.int (l : Int)), some (.ref d), some (.ref t'), v, none] H1 := by
      refine ⟨_, pss_cons (ps_if (pt_cmpR op_ne (pe_callB call_len_seq (by rfl) (n_len T) PySem.boot_len (pa_cons (pv 3) pa_nil)) (pe_callB call_len_seq (by rfl) (n_len T) PySem.boot_len (pa_cons (pv 2) pa_nil)) (nomark _)) (pss_one (ps_ret pe_bl)) pss_nil)
        (pss_cons (ps_for (passes_of rfl) rfl (pi_range1 (by rfl) (n_range T) (pa_cons (pe_callB call_len_seq (by rfl) (n_len T) PySem.boot_len (pa_cons (pv 2) pa_nil)) pa_nil)) (pg_name (i := 5) nd rfl (.inl rfl))
          (pss_one (ps_if (pt_not (pt_val (pe_callF (ok__law_is T) (hr.mono (by decide)) (by rfl) (g__law_is T) (kpd (F__law_is T)) passN (pa_cons (pe_ix ix_list (pv 3) (pv 5) (fun _ _ => rfl)) (pa_cons (pe_ix ix_list (pv 2) (pv 5) (fun _ _ => rfl)) pa_nil))))) (pss_one (ps_ret pe_bl)) pss_nil)))
        (pss_one (ps_ret pe_bl))), fun H1 t' v sm ht => ?_⟩
      refine ⟨_, rfl, t', _, rfl, .inl (SqL.of ht), _, rfl, d, _, rfl, .inl (SqL.of (sm _ _ hd)), rfl, _, rfl, ite2 (fun e => by rw [decide_eq_true rfl] at e; cases e) fun e => ?_⟩
      have wl := words_length ok l
      refine ⟨_, rfl, d, _, rfl, .inl (SqL.of (sm _ _ hd)), _, rfl, by omega, by rw [List.length_map]; omega, ?_⟩
      refine for_range (lo := 0) (fun i σ H' => ∃ v v5 : Option V, σ = [some (.ref ra), some (.int (l : Int)), some (.ref d), some (.ref t'), v, v5] ∧ Same H H' ∧ H' t' = some (.lst ((words sp l).map V.int))) ⟨v, none, rfl, sm, ht⟩ ?_ ?_
      · rintro i σ H' hi ⟨v, v5, rfl, sm, ht⟩
        have hi2 : i < ((words sp l).map V.int).length := by omega
        have e1 : 0 + (i : Int) = ((i : Nat) : Int) := by omega
        have g := words_get ok l i (by rw [List.length_map] at hi2; omega)
        have g2 : ((words sp l).map V.int)[i]? = some (.int (letter sp l ((i : Int) + 1))) := by rw [List.getElem?_map, g]; rfl
        refine ⟨_, rfl, _, rfl, t', _, _, _, rfl, rfl, SqL.of ht, by rw [e1]; exact atI_nat g2, _, rfl, _, rfl, d, _, _, _, rfl, rfl, SqL.of (sm _ _ hd), by rw [e1]; exact atI_nat g2, _, rfl, true, rfl, ?_⟩
        exact ifF rfl ⟨v, _, rfl, sm, ht⟩
      · rintro σ H' ⟨v, v5, rfl, sm, ht⟩
        exact q H' sm
    refine ⟨_, pss_cons (ps_set (i := 3) nd rfl (.inl rfl) (pe_lst pa_nil))
      (pss_cons (ps_forG rfl (passes_of rfl) T hP hr (L2N.takes_of rfl rfl rfl rfl) (pv 0) (pv 1) (pg_name (i := 4) nd rfl (.inl rfl))
        (pss_cons (ps_expr (pe_bm PySem.F.plainAttrs_list PySem.F.slot_list_append PySem.F.type_list_append mt_append (pv 3) (pa_cons (pv 4) pa_nil)))
        (pss_one (ps_if (pt_cmpR op_gt (pe_callB call_len_seq (by rfl) (n_len T) PySem.boot_len (pa_cons (pv 3) pa_nil)) (pe_callB call_len_seq (by rfl) (n_len T) PySem.boot_len (pa_cons (pv 2) pa_nil)) (nomark _)) (pss_one (ps_ret pe_bl)) pss_nil)))) h2), ?_⟩
    refine ⟨Nat.zero_le _, fun t nt => ?_⟩
    have st := same_new (o := .lst []) nt
    refine ⟨_, rfl, _, rfl, ra, (l : Int), sp, rfl, hA.stil (stil_of st), ok, hn, fun z => absurd ⟨by omega, by omega⟩ z, fun n en n1 n64 => ?_⟩
    have en : n = l := by omega
    subst en
    refine ⟨(len sp n).toNat, fun H3 Tb s3 hR => ?_⟩
    have nTb : Tb ≠ t := fun z => by
      obtain ⟨xs, h1, h2, _⟩ := hR
      rw [z, s3 _ _ upd_same] at h1
      cases h1
      cases h2
    refine ⟨fun i m σ H' => m = (len sp n).toNat - i ∧ (i : Int) ≤ len sp n ∧ RowsAt H' Tb sp n ∧ Same H H' ∧ H' t = some (.lst (((words sp n).map V.int).take i)) ∧ ∃ v, σ = [some (.ref ra), some (.int (n : Int)), some (.ref d), some (.ref t), v, none], ?_, ?_⟩
    · rintro i m σ H' ⟨rfl, hi, hR', sm, ht, v, rfl⟩
      refine ⟨hR', ?_⟩
      have wl := words_length ok n
      by_cases c : (i : Int) = len sp n
      · refine .inl ⟨c, r2 H' t v sm ?_⟩
        rw [ht, List.take_of_length_le (by rw [List.length_map]; omega)]
      · refine .inr ⟨by omega, _, fun σ' H'' h => ⟨(len sp n).toNat - (i + 1), by omega, h⟩, ?_⟩
        have li : (((words sp n).map V.int).take i).length = i := by rw [List.length_take, List.length_map]; omega
        refine ⟨_, rfl, .inl ⟨rfl, _, SqL.of ht⟩, _, rfl, t, _, _, rfl, rfl, ht, by rw [li, sizeLine_eq]; omega, ?_⟩
        rw [words_take ok (by omega)]
        have hd' := sm _ _ hd
        have ndt : d ≠ t := ne_of_none hd nt
        have li2 : (((words sp n).map V.int).take (i + 1)).length = i + 1 := by rw [List.length_take, List.length_map]; omega
        have kp : ∀ b o, H b = some o → upd H' t (.lst (((words sp n).map V.int).take (i + 1))) b = some o := fun b o hb => by
          rw [upd_ne (ne_of_none hb nt)]
          exact sm b o hb
        refine ⟨_, rfl, t, _, rfl, .inl (SqL.of upd_same), _, rfl, d, _, rfl, .inl (SqL.of (kp _ _ hd)), _, _, rfl, rfl, _, rfl, ite2 (fun e => ?_) fun e => ?_⟩
        · have e1 := of_decide_eq_true e
          rw [li2, List.length_map] at e1
          omega
        · refine ⟨rfl, by omega, ?_, kp, upd_same, _, rfl⟩
          refine hR'.keep (fun a o ho hl => ?_) fun xs hx => ?_
          · rw [upd_ne (fun z => by rw [z, ht] at ho; cases ho; exact hl _ rfl)]
            exact ho
          · rw [upd_ne nTb]
            exact hx
    · exact ⟨by omega, by have := len_pos ok (k := n) n1; omega, hR, fun b o hb => s3 _ _ (st b o hb), s3 _ _ upd_same, _, rfl⟩
end
end K12
set_option Elab.async false
set_option linter.all false
set_option maxRecDepth 100000
set_option maxHeartbeats 4000000
/-! _law_first_letters_right, _law_counted_right, _law_sum_right. -/
namespace K12
open PySem PySem.Spec PyProof.Rows L2 K12M
open PySem.W (Frag)
section
variable {P : Program} {w : World} {K : Frag} {mg : Str → Option Value} {base : Heap}
def spFL (K : Frag) : Sp := fun vs H Q _ => ∃ (ra a : Addr) (s : K12M.Spec) (n l : Nat), vs = [.ref ra, .ref a, .int (l : Int)] ∧ RuleAt K H s ra ∧ s.Ok ∧ s.depth ≤ 3 ∧ RowsAt H a s n ∧ l ≤ n ∧ 1 ≤ l ∧ l ≤ 64 ∧ ∀ H', Same H H' → Q (.bl true) H'
abbrev nFL : List Str := ["_law_rule", "_law_table", "_law_level_here", "_law_count", "_law_letter_here"]
theorem sc__law_first_letters_right : FnScope nFL ["_law_rule", "_law_table", "_law_level_here"] (defScope s__law_first_letters_right) := ⟨rfl, rfl, rfl, by decide +kernel, rfl, by decide +kernel, by decide +kernel⟩
theorem ok__law_first_letters_right (T : Ev K mg) (hP : TopOk P) : FnR P w K mg base (L2N.CX P w) 10 (He.ga K "_law_first_letters_right") (spFL K) := by
  obtain ⟨fd, F⟩ := F__law_first_letters_right T
  refine fnR_of (FunD.ok F sc__law_first_letters_right (fun vs H Q E h => ?_) (fun cdv A outer s H vs Q E hr h => ?_)) (F.bindsN fun _ _ _ _ _ _ us hl => match us, hl with | [_, _, _], _ => rfl)
  · obtain ⟨ra, a, s, n, l, rfl, _⟩ := h
    rfl
  · obtain ⟨ra, a, sp, nn, l, rfl, hA, ok, hn, hR, ln, l1, l64, q⟩ := h
    have nd := sc__law_first_letters_right.nd
    refine ⟨_, pss_cons (ps_set (i := 3) nd rfl (.inl rfl) pe_int)
      (pss_cons (ps_forG rfl (passes_of rfl) T hP hr (L2N.takes_of rfl rfl rfl rfl) (pv 0) (pv 2) (pg_name (i := 4) nd rfl (.inl rfl))
        (pss_cons (ps_set (i := 3) nd rfl (.inl rfl) (pe_op op_add (pv 3) pe_int))
        (pss_cons (ps_if (PW.pt (pw_or (pt_cmpR op_gt (pv 3) (pe_ix ix_tup (pe_ix ix_list (pv 1) (pv 2) (fun _ _ => rfl)) pe_int (fun _ _ => rfl)) (nomark _))
            (pw_or1 (pt_not (pt_val (pe_callF (ok__law_is T) (hr.mono (by decide)) (by rfl) (g__law_is T) (kpd (F__law_is T)) passN (pa_cons (pv 4) (pa_cons
              (pe_callF (ok__law_letter T) (hr.mono (by decide)) (by rfl) (g__law_letter T) (kpd (F__law_letter T)) passN (pa_cons (pv 1) (pa_cons (pv 2) (pa_cons (pv 3) pa_nil)))) pa_nil))))))))
            (pss_one (ps_ret pe_bl)) pss_nil)
        (pss_one (ps_if (pt_cmpR op_eq (pv 3) pe_int (nomark _)) (pss_one (ps_ret pe_bl)) pss_nil)))))
      (pss_one (ps_ret (pe_cmpR op_eq (pv 3) (pe_ix ix_tup (pe_ix ix_list (pv 1) (pv 2) (fun _ _ => rfl)) pe_int (fun _ _ => rfl)) (nomark _))))), ?_⟩
    refine ⟨_, rfl, _, rfl, ra, (l : Int), sp, rfl, hA, ok, hn, fun z => absurd ⟨by omega, by omega⟩ z, fun n en n1 n64 => ?_⟩
    have en : n = l := by omega
    subst en
    refine ⟨5, fun H3 Tb s3 hR3 => ?_⟩
    refine ⟨fun i m σ H' => m = 5 - i ∧ i ≤ 4 ∧ (i : Int) ≤ len sp n ∧ RowsAt H' Tb sp n ∧ Same H H' ∧ ∃ v, σ = [some (.ref ra), some (.ref a), some (.int (n : Int)), some (.int (i : Int)), v], ?_, ?_⟩
    · rintro i m σ H' ⟨rfl, i4, hi, hR', sm, v, rfl⟩
      refine ⟨hR', ?_⟩
      obtain ⟨ys, hy, hyl, hrow⟩ := hR.same sm
      obtain ⟨tk, ek, hk⟩ := hrow n ln
      by_cases c : (i : Int) = len sp n
      · refine .inl ⟨c, ?_⟩
        refine ⟨_, rfl, _, rfl, _, rfl, a, ys, _, .ref tk, rfl, rfl, SqL.of hy, atI_nat ek, tk, _, 1, _, rfl, rfl, SqT.of hk, atI_nat (j := 1) rfl, rfl, ?_⟩
        rw [c, decide_eq_true rfl]
        exact q H' sm
      · refine .inr ⟨by omega, _, fun σ' H'' h => ⟨5 - (i + 1), by omega, h⟩, ?_⟩
        refine ⟨_, rfl, _, _, rfl, rfl, ?_⟩
        refine ⟨_, rfl, _, rfl, _, rfl, a, ys, _, .ref tk, rfl, rfl, SqL.of hy, atI_nat ek, tk, _, 1, _, rfl, rfl, SqT.of hk, atI_nat (j := 1) rfl, _, _, rfl, rfl, _, rfl, ?_⟩
        refine ifF (decide_eq_false (by omega)) ?_
        refine ⟨_, rfl, _, rfl, _, rfl, _, rfl, a, sp, nn, n, (i : Int) + 1, rfl, hR.same sm, ok, l1, ln, l64, by omega, by omega, _, rfl, true, rfl, ?_⟩
        refine ifF rfl ?_
        refine ⟨_, rfl, rfl, _, rfl, ite2 (fun e => q H' sm) (fun e => ?_)⟩
        have e1 : (i : Int) + 1 ≠ 5 := fun z => e (decide_eq_true (congrArg V.int z))
        exact ⟨rfl, by omega, by omega, hR', sm, _, rfl⟩
    · exact ⟨rfl, by omega, by have := len_pos ok (k := n) n1; omega, hR3, s3, _, rfl⟩
/-! ### _law_counted_right -/
def spCR (K : Frag) : Sp := fun vs H Q _ => ∃ (ra d : Addr) (s : K12M.Spec) (l : Nat), vs = [.ref ra, .int (l : Int), .ref d] ∧ RuleAt K H s ra ∧ s.Ok ∧ s.depth ≤ 3 ∧ 1 ≤ l ∧ l ≤ 64 ∧ len s l ≤ 300 ∧ H d = some (.lst ((words s l).map V.int)) ∧ ∀ H', Same H H' → Q (.bl true) H'
abbrev nCR : List Str := ["_law_rule", "_law_level_here", "_law_words_here", "_law_chosen"]
theorem sc__law_counted_right : FnScope nCR ["_law_rule", "_law_level_here", "_law_words_here"] (defScope s__law_counted_right) := ⟨rfl, rfl, rfl, by decide +kernel, rfl, by decide +kernel, by decide +kernel⟩
theorem ok__law_counted_right (T : Ev K mg) (hP : TopOk P) : FnR P w K mg base (L2N.CX P w) 8 (He.ga K "_law_counted_right") (spCR K) := by
  obtain ⟨fd, F⟩ := F__law_counted_right T
  refine fnR_of (FunD.ok F sc__law_counted_right (fun vs H Q E h => ?_) (fun cdv A outer s H vs Q E hr h => ?_)) (F.bindsN fun _ _ _ _ _ _ us hl => match us, hl with | [_, _, _], _ => rfl)
  · obtain ⟨ra, d, s, l, rfl, _⟩ := h
    rfl
  · obtain ⟨ra, d, sp, l, rfl, hA, ok, hn, l1, l64, l300, hd, q⟩ := h
    have nd := sc__law_counted_right.nd
    refine ⟨_, pss_cons (ps_for (passes_of rfl) rfl (pi_range2 (by rfl) (n_range T) (pa_cons (pe_un un_neg pe_int) (pa_cons (pe_op op_add (pv 1) pe_int) pa_nil))) (pg_name (i := 3) nd rfl (.inl rfl))
        (pss_one (ps_if (pt_not (pt_val (pe_callF (ok__law_is T) (hr.mono (by decide)) (by rfl) (g__law_is T) (kpd (F__law_is T)) passN (pa_cons
          (pe_callF (ok_phase_count T hP) hr (by rfl) (g_phase_count T) (kpd (F_phase_count T)) (fun σ => L2N.passAt (L2N.takes_of rfl rfl rfl rfl) σ) (pa_cons (pv 0) (pa_cons (pv 1) (pa_cons (pv 3) pa_nil))))
          (pa_cons (pe_bm PySem.F.plainAttrs_list PySem.F.slot_list_count PySem.F.type_list_count mt_lcount (pv 2) (pa_cons (pv 3) pa_nil)) pa_nil))))) (pss_one (ps_ret pe_bl)) pss_nil)))
      (pss_one (ps_ret pe_bl)), ?_⟩
    refine ⟨1, rfl, _, rfl, _, _, rfl, rfl, -1, _, rfl, ⟨by decide, by decide, by omega, by omega⟩, ?_⟩
    refine for_range (lo := -1) (fun i σ H' => ∃ v, σ = [some (.ref ra), some (.int (l : Int)), some (.ref d), v] ∧ Same H H') ⟨none, rfl, fun _ _ e => e⟩ ?_ ?_
    · rintro i σ H' hi ⟨v, rfl, sm⟩
      refine ⟨_, rfl, _, rfl, _, rfl, ra, sp, (l : Int), _, rfl, hA.stil (stil_of sm), ok, hn, fun z => absurd ⟨by omega, by omega⟩ z, fun n en n1 n64 H2 s2 => ?_⟩
      have en : n = l := by omega
      subst en
      have sm2 := sm.trans s2
      refine ⟨_, rfl, .inl ⟨rfl, _, SqL.of (sm2 _ _ hd)⟩, _, rfl, d, words sp n, _, rfl, rfl, SqL.of (sm2 _ _ hd), ?_⟩
      refine ⟨_, by rw [cnt_words ok _ n1], true, rfl, ifF rfl ⟨_, rfl, sm2⟩⟩
    · rintro σ H' ⟨v, rfl, sm⟩
      exact q H' sm
/-! ### _law_sum_right -/
def spSR (K : Frag) : Sp := fun vs H Q _ => ∃ (ra : Addr) (s : K12M.Spec) (l : Nat), vs = [.ref ra, .int (l : Int), .int (len s l)] ∧ RuleAt K H s ra ∧ s.Ok ∧ s.depth ≤ 3 ∧ 1 ≤ l ∧ l ≤ 64 ∧ ∀ H', Same H H' → Q (.bl true) H'
abbrev nSR : List Str := ["_law_rule", "_law_level_here", "_law_length", "_law_total", "_law_chosen", "_law_told"]
theorem sc__law_sum_right : FnScope nSR ["_law_rule", "_law_level_here", "_law_length"] (defScope s__law_sum_right) := ⟨rfl, rfl, rfl, by decide +kernel, rfl, by decide +kernel, by decide +kernel⟩
theorem ok__law_sum_right (T : Ev K mg) (hP : TopOk P) : FnR P w K mg base (L2N.CX P w) 8 (He.ga K "_law_sum_right") (spSR K) := by
  obtain ⟨fd, F⟩ := F__law_sum_right T
  refine fnR_of (FunD.ok F sc__law_sum_right (fun vs H Q E h => ?_) (fun cdv A outer s H vs Q E hr h => ?_)) (F.bindsN fun _ _ _ _ _ _ us hl => match us, hl with | [_, _, _], _ => rfl)
  · obtain ⟨ra, s, l, rfl, _⟩ := h
    rfl
  · obtain ⟨ra, sp, l, rfl, hA, ok, hn, l1, l64, q⟩ := h
    have nd := sc__law_sum_right.nd
    refine ⟨_, pss_cons (ps_set (i := 3) nd rfl (.inl rfl) pe_int) (pss_cons (ps_for (passes_of rfl) rfl (pi_range2 (by rfl) (n_range T) (pa_cons (pe_un un_neg pe_int) (pa_cons (pe_op op_add (pv 1) pe_int) pa_nil))) (pg_name (i := 4) nd rfl (.inl rfl))
        (pss_cons (ps_set (i := 5) nd rfl (.inl rfl) (pe_callF (ok_phase_count T hP) hr (by rfl) (g_phase_count T) (kpd (F_phase_count T)) (fun σ => L2N.passAt (L2N.takes_of rfl rfl rfl rfl) σ) (pa_cons (pv 0) (pa_cons (pv 1) (pa_cons (pv 4) pa_nil)))))
        (pss_cons (ps_if (PW.pt (pw_or (pt_not (pt_val (pe_callF (ok__law_integer T) (hr.mono (by decide)) (by rfl) (g__law_integer T) (kpd (F__law_integer T)) passN (pa_cons (pv 5) pa_nil)))) (pw_or1 (pt_cmpR op_lt (pv 5) pe_int (nomark _))))) (pss_one (ps_ret pe_bl)) pss_nil)
        (pss_one (ps_set (i := 3) nd rfl (.inl rfl) (pe_op op_add (pv 3) (pv 5)))))))
      (pss_one (ps_ret (pe_cmpR op_eq (pv 3) (pv 2) (nomark _))))), ?_⟩
    refine ⟨1, rfl, _, rfl, _, _, rfl, rfl, -1, _, rfl, ⟨by decide, by decide, by omega, by omega⟩, ?_⟩
    refine for_range (lo := -1) (fun i σ H' => ∃ v4 v5, σ = [some (.ref ra), some (.int (l : Int)), some (.int (len sp l)), some (.int (sumN (fun j => cnt sp ((j : Int) - 1) l) i)), v4, v5] ∧ Same H H') ⟨none, none, rfl, fun _ _ e => e⟩ ?_ ?_
    · rintro i σ H' hi ⟨v4, v5, rfl, sm⟩
      refine ⟨_, rfl, _, rfl, _, rfl, ra, sp, (l : Int), _, rfl, hA.stil (stil_of sm), ok, hn, fun z => absurd ⟨by omega, by omega⟩ z, fun n en n1 n64 H2 s2 => ?_⟩
      have en : n = l := by omega
      subst en
      refine ⟨_, rfl, _, rfl, true, rfl, ?_⟩
      have c0 : 0 ≤ cnt sp (-1 + (i : Int)) n := cnt_nn ok
      refine ifF rfl ⟨_, rfl, _, _, rfl, rfl, _, rfl, ifF (decide_eq_false (by omega)) ?_⟩
      have e1 : -1 + (i : Int) = (i : Int) - 1 := by omega
      refine ⟨_, rfl, _, rfl, _, _, rfl, rfl, some (.int (-1 + (i : Int))), some (.int (cnt sp (-1 + (i : Int)) n)), ?_, sm.trans s2⟩
      rw [e1]
      rfl
    · rintro σ H' ⟨v4, v5, rfl, sm⟩
      refine ⟨_, rfl, _, rfl, rfl, ?_⟩
      have e2 : ((l : Int) + 1 - -1).toNat = l + 2 := by omega
      rw [e2, cnt_sum sp l1, decide_eq_true rfl]
      exact q H' sm
end
end K12
set_option Elab.async false
set_option linter.all false
set_option maxRecDepth 100000
set_option maxHeartbeats 4000000
/-! _law_letters_right, _law_counts_right. -/
namespace K12
open PySem PySem.Spec PyProof.Rows L2 K12M
open PySem.W (Frag)
theorem Box.bn {H : Hp} {b g p : Addr} (B : Box H b g) (h : H p = none) : p ≠ b ∧ p ≠ g := by
  obtain ⟨⟨c, f, t, ns, h1, _, h2, _⟩, _⟩ := B
  exact ⟨fun z => (by rw [z, h1] at h; cases h), fun z => (by rw [z, h2] at h; cases h)⟩
theorem RuleAt.kept {K : Frag} {H H' : Hp} {a b g : Addr} {s : K12M.Spec} (h : RuleAt K H s a) (k : Kept b g H H') (B : Box H b g) : RuleAt K H' s a := h.stil (k.stil B)
section
variable {P : Program} {w : World} {K : Frag} {mg : Str → Option Value} {base : Heap}
def spLR (K : Frag) : Sp := fun vs H Q _ => ∃ (b g ra a : Addr) (s : K12M.Spec) (n l : Nat), vs = [.ref b, .ref ra, .ref a, .int (l : Int)] ∧ Box H b g ∧ a ≠ b ∧ a ≠ g ∧ RuleAt K H s ra ∧ s.Ok ∧ s.depth ≤ 3 ∧ RowsAt H a s n ∧ 2 ≤ n ∧ l ≤ n ∧ 1 ≤ l ∧ l ≤ 64 ∧ ∀ H', Kept b g H H' → Box H' b g → Q (.bl true) H'
abbrev nLR : List Str := ["_law_box_here", "_law_rule", "_law_table", "_law_level_here", "_law_spots", "_law_turn", "_law_spot_here"]
theorem sc__law_letters_right : FnScope nLR ["_law_box_here", "_law_rule", "_law_table", "_law_level_here"] (defScope s__law_letters_right) := ⟨rfl, rfl, rfl, by decide +kernel, rfl, by decide +kernel, by decide +kernel⟩
theorem ok__law_letters_right (T : Ev K mg) (hP : TopOk P) : FnR P w K mg base (L2N.CX P w) 8 (He.ga K "_law_letters_right") (spLR K) := by
  obtain ⟨fd, F⟩ := F__law_letters_right T
  refine fnR_of (FunD.ok F sc__law_letters_right (fun vs H Q E h => ?_) (fun cdv A outer s H vs Q E hr h => ?_)) (F.bindsN fun _ _ _ _ _ _ us hl => match us, hl with | [_, _, _, _], _ => rfl)
  · obtain ⟨b, g, ra, a, s, n, l, rfl, _⟩ := h
    rfl
  · obtain ⟨b, g, ra, a, sp, n, l, rfl, B, nab, nag, hA, ok, hn, hR, n2, ln, l1, l64, q⟩ := h
    have nd := sc__law_letters_right.nd
    obtain ⟨t2, h2, r2⟩ : ∃ t, PSs (cxOf (L2N.CX P w) P w K mg base nLR "_law_letters_right" (defScope s__law_letters_right) (He.ga K "_law_letters_right") cdv A outer s H E) ((defBody s__law_letters_right).drop 2) t ∧
        ∀ H1 p v5, ∀ xs : List Int, Kept b g H H1 → Box H1 b g → H1 p = some (.lst (xs.map V.int)) → (∀ x ∈ xs, 1 ≤ x ∧ x ≤ len sp l) → p ≠ b → p ≠ g → t { nx := fun _ H' => Q .non H', rt := Q } [some (.ref b), some (.ref ra), some (.ref a), some (.int (l : Int)), some (.ref p), v5, none] H1 := by
      refine ⟨_, pss_cons (ps_for (passes_of rfl) rfl (pi_list (pv 4)) (pg_name (i := 6) nd rfl (.inl rfl))
          (pss_one (ps_if (pt_not (pt_val (pe_callF (ok__law_is T) (hr.mono (by decide)) (by rfl) (g__law_is T) (kpd (F__law_is T)) passN (pa_cons
            (pe_callF (ok_phase_letter T hP) hr (by rfl) (g_phase_letter T) (kpd (F_phase_letter T)) (fun σ => L2N.passAt (L2N.takes_of rfl rfl rfl rfl) σ) (pa_cons (pv 1) (pa_cons (pv 3) (pa_cons (pv 6) pa_nil))))
            (pa_cons (pe_callF (ok__law_letter T) (hr.mono (by decide)) (by rfl) (g__law_letter T) (kpd (F__law_letter T)) passN (pa_cons (pv 2) (pa_cons (pv 3) (pa_cons (pv 6) pa_nil)))) pa_nil))))) (pss_one (ps_ret pe_bl)) pss_nil)))
        (pss_one (ps_ret pe_bl)), fun H1 p v5 xs k1 B1 hp hx npb npg => ?_⟩
      refine ⟨_, rfl, p, rfl, ⟨_, SqL.of hp⟩, for_list (K := K) (a := p) (xs := xs.map V.int) (fun i σ H' => ∃ v6, σ = [some (.ref b), some (.ref ra), some (.ref a), some (.int (l : Int)), some (.ref p), v5, v6] ∧ Kept b g H H' ∧ Box H' b g ∧ H' p = some (.lst (xs.map V.int))) ⟨none, rfl, k1, B1, hp⟩ (fun i σ H' _ ⟨_, _, _, _, hp⟩ => SqL.of hp) ?_ ?_⟩
      · rintro i x σ H' ex ⟨v6, rfl, k2, B2, hp2⟩
        obtain ⟨z, hz, rfl⟩ := List.mem_map.mp (List.mem_of_getElem? ex)
        obtain ⟨z1, z2⟩ := hx z hz
        refine ⟨_, rfl, _, rfl, _, rfl, ra, sp, (l : Int), z, rfl, hA.kept k2 B, ok, hn, fun c => absurd ⟨by omega, by omega⟩ c, fun m em m1 m64 H3 s3 => ?_⟩
        have em : m = l := by omega
        subst em
        refine ⟨fun c => absurd ⟨z1, z2⟩ c, fun _ _ => ?_⟩
        have k3 := k2.trans (kept_of s3)
        refine ⟨_, rfl, _, rfl, _, rfl, a, sp, n, m, z, rfl, hR.kept k3 B nab nag, ok, l1, ln, l64, z1, z2, ?_⟩
        exact ⟨_, rfl, true, rfl, ifF rfl ⟨_, rfl, k3, B2.same s3, s3 _ _ hp2⟩⟩
      · rintro σ H' ⟨v6, rfl, k2, B2, hp2⟩
        exact q H' k2 B2
    refine ⟨_, pss_cons (ps_set (i := 4) nd rfl (.inl rfl) (pe_lst (pa_cons pe_int (pa_cons (pe_ix ix_tup (pe_ix ix_list (pv 2) (pv 3) (fun _ _ => rfl)) pe_int (fun _ _ => rfl)) pa_nil))))
      (pss_cons (ps_for (passes_of rfl) rfl (pi_range1 (by rfl) (n_range T) (pa_cons pe_int pa_nil)) (pg_name (i := 5) nd rfl (.inl rfl))
        (pss_one (ps_expr (pe_bm PySem.F.plainAttrs_list PySem.F.slot_list_append PySem.F.type_list_append mt_append (pv 4) (pa_cons (pe_callF (ok__law_spot T) (hr.mono (by decide)) (by rfl) (g__law_spot T) (kpd (F__law_spot T)) passN (pa_cons (pv 0) (pa_cons (pv 2) (pa_cons (pv 3) pa_nil)))) pa_nil))))) h2), ?_⟩
    obtain ⟨ys, hy, hyl, hrow⟩ := id hR
    obtain ⟨tk, ek, hk⟩ := hrow l ln
    refine ⟨_, rfl, _, rfl, a, ys, _, .ref tk, rfl, rfl, SqL.of hy, atI_nat ek, tk, _, 1, _, rfl, rfl, SqT.of hk, atI_nat (j := 1) rfl, by show 2 ≤ _; rw [sizeLine_eq]; decide, fun p np => ?_⟩
    have s1 := same_new (o := .lst [.int 1, .int (len sp l)]) np
    obtain ⟨npb, npg⟩ := B.bn np
    have lp := len_pos ok (k := l) l1
    refine ⟨4, rfl, by decide, by decide, for_range (lo := 0) (n := 4) (fun i σ H' => ∃ (v5 : Option V) (xs : List Int), σ = [some (.ref b), some (.ref ra), some (.ref a), some (.int (l : Int)), some (.ref p), v5, none] ∧ Kept b g H H' ∧ Box H' b g ∧ H' p = some (.lst (xs.map V.int)) ∧ (∀ x ∈ xs, 1 ≤ x ∧ x ≤ len sp l) ∧ xs.length = 2 + i)
      ⟨none, [1, len sp l], rfl, kept_of s1, B.same s1, upd_same, fun x hx => ?_, rfl⟩ ?_ ?_⟩
    · rcases List.mem_cons.mp hx with h | h
      · rw [h]; exact ⟨Int.le_refl _, lp⟩
      · rw [List.mem_singleton.mp h]; exact ⟨lp, Int.le_refl _⟩
    · rintro i σ H' hi ⟨v5, xs, rfl, k2, B2, hp2, hx, hl⟩
      refine ⟨_, rfl, .inl ⟨rfl, _, SqL.of hp2⟩, _, rfl, _, rfl, _, rfl, b, g, a, sp, n, l, rfl, B2, nab, nag, hR.kept k2 B nab nag, ok, l1, ln, l64, fun H3 x k3 B3 x1 x2 => ?_⟩
      have hp3 := k3.lst hp2 npb npg
      have kk := k2.trans k3
      refine ⟨p, _, _, rfl, rfl, hp3, by rw [List.length_map, hl, sizeLine_eq]; omega, _, xs ++ [x], rfl, fun c o hc n1 n2 => ?_, ?_, ?_, fun y hy => ?_, by rw [List.length_append, hl]; rfl⟩
      · rw [upd_ne (ne_of_none hc np)]
        exact kk c o hc n1 n2
      · obtain ⟨⟨c, f, t, ns, h1, h2, h3, h4⟩, ne⟩ := B3
        exact ⟨⟨c, f, t, ns, by rw [upd_ne (Ne.symm npb)]; exact h1, h2, by rw [upd_ne (Ne.symm npg)]; exact h3, h4⟩, ne⟩
      · rw [upd_same, List.map_append]; rfl
      · rcases List.mem_append.mp hy with h | h
        · exact hx y h
        · rw [List.mem_singleton.mp h]; exact ⟨x1, x2⟩
    · rintro σ H' ⟨v5, xs, rfl, k2, B2, hp2, hx, hl⟩
      exact r2 H' p v5 xs k2 B2 hp2 hx npb npg
/-! ### _law_counts_right -/
abbrev nCtR : List Str := ["_law_box_here", "_law_rule", "_law_table", "_law_level_here", "_law_due", "_law_strange", "_law_chosen"]
theorem sc__law_counts_right : FnScope nCtR ["_law_box_here", "_law_rule", "_law_table", "_law_level_here"] (defScope s__law_counts_right) := ⟨rfl, rfl, rfl, by decide +kernel, rfl, by decide +kernel, by decide +kernel⟩
theorem ok__law_counts_right (T : Ev K mg) (hP : TopOk P) : FnR P w K mg base (L2N.CX P w) 9 (He.ga K "_law_counts_right") (spLR K) := by
  obtain ⟨fd, F⟩ := F__law_counts_right T
  refine fnR_of (FunD.ok F sc__law_counts_right (fun vs H Q E h => ?_) (fun cdv A outer s H vs Q E hr h => ?_)) (F.bindsN fun _ _ _ _ _ _ us hl => match us, hl with | [_, _, _, _], _ => rfl)
  · obtain ⟨b, g, ra, a, s, n, l, rfl, _⟩ := h
    rfl
  · obtain ⟨b, g, ra, a, sp, n, l, rfl, B, nab, nag, hA, ok, hn, hR, n2, ln, l1, l64, q⟩ := h
    have nd := sc__law_counts_right.nd
    have fi := ok__law_is (P := P) (w := w) (base := base) T
    have fc := ok_phase_count (P := P) (w := w) (base := base) T hP
    have r7 := hr.mono (j := 7) (by decide)
    have r2' := hr.mono (j := 2) (by decide)
    obtain ⟨t3, h3, r3⟩ : ∃ t, PSs (cxOf (L2N.CX P w) P w K mg base nCtR "_law_counts_right" (defScope s__law_counts_right) (He.ga K "_law_counts_right") cdv A outer s H E) ((defBody s__law_counts_right).drop 4) t ∧
        ∀ H1 v4 v5 v6, Kept b g H H1 → Box H1 b g → t { nx := fun _ H' => Q .non H', rt := Q } [some (.ref b), some (.ref ra), some (.ref a), some (.int (l : Int)), v4, v5, v6] H1 := by
      refine ⟨_, pss_cons (ps_if (pt_not (pt_val (pe_callF fi r2' (by rfl) (g__law_is T) (kpd (F__law_is T)) passN (pa_cons
            (pe_callF fc r7 (by rfl) (g_phase_count T) (kpd (F_phase_count T)) (fun σ => L2N.passAt (L2N.takes_of rfl rfl rfl rfl) σ) (pa_cons (pv 1) (pa_cons (pv 3) (pa_cons (pv 3) pa_nil)))) (pa_cons pe_int pa_nil))))) (pss_one (ps_ret pe_bl)) pss_nil)
        (pss_cons (ps_if (pt_not (pt_val (pe_callF fi r2' (by rfl) (g__law_is T) (kpd (F__law_is T)) passN (pa_cons
            (pe_callF fc r7 (by rfl) (g_phase_count T) (kpd (F_phase_count T)) (fun σ => L2N.passAt (L2N.takes_of rfl rfl rfl rfl) σ) (pa_cons (pv 1) (pa_cons (pv 3) (pa_cons (pe_op op_sub (pv 3) pe_int) pa_nil)))) (pa_cons pe_int pa_nil))))) (pss_one (ps_ret pe_bl)) pss_nil)
        (pss_one (ps_ret (pe_or (pe_cmpR op_gt (pv 3) pe_int (nomark _)) (pe_one (pe_callF (ok__law_sum_right T hP) hr (by rfl) (g__law_sum_right T) (kpd (F__law_sum_right T)) (fun σ => L2N.passAt (L2N.takes_of rfl rfl rfl rfl) σ)
          (pa_cons (pv 1) (pa_cons (pv 3) (pa_cons (pe_ix ix_tup (pe_ix ix_list (pv 2) (pv 3) (fun _ _ => rfl)) pe_int (fun _ _ => rfl)) pa_nil))))))))), fun H1 v4 v5 v6 k1 B1 => ?_⟩
      refine ⟨_, rfl, _, rfl, _, rfl, ra, sp, (l : Int), _, rfl, hA.kept k1 B, ok, hn, fun c => absurd ⟨by omega, by omega⟩ c, fun m em m1 m64 H2 s2 => ?_⟩
      have em : m = l := by omega
      subst em
      refine ⟨1, by rw [cnt_self m1], true, rfl, ifF rfl ?_⟩
      have k2 := k1.trans (kept_of s2)
      refine ⟨_, rfl, _, rfl, _, rfl, _, _, rfl, rfl, ra, sp, (m : Int), _, rfl, hA.kept k2 B, ok, hn, fun c => absurd ⟨by omega, by omega⟩ c, fun m' em' _ _ H3 s3 => ?_⟩
      have em' : m' = m := by omega
      subst em'
      refine ⟨0, by rw [cnt_pred m1], true, rfl, ifF rfl ?_⟩
      have k3 := k2.trans (kept_of s3)
      have B3 := (B1.same s2).same s3
      refine ⟨_, rfl, _, _, rfl, rfl, _, rfl, ite2 (fun e => q H3 k3 B3) (fun e => ?_)⟩
      obtain ⟨ys, hy, hyl, hrow⟩ := hR.kept k3 B nab nag
      obtain ⟨tk, ek, hk⟩ := hrow m' ln
      refine ⟨_, rfl, _, rfl, _, rfl, _, rfl, a, ys, _, .ref tk, rfl, rfl, SqL.of hy, atI_nat ek, tk, _, 1, _, rfl, rfl, SqT.of hk, atI_nat (j := 1) rfl, ?_⟩
      exact ⟨ra, sp, m', rfl, hA.kept k3 B, ok, hn, l1, l64, fun H4 s4 => q H4 (k3.trans (kept_of s4)) (B3.same s4)⟩
    refine ⟨_, pss_cons (ps_set (i := 4) nd rfl (.inl rfl) (pe_callF (ok__law_counts T) (hr.mono (by decide)) (by rfl) (g__law_counts T) (kpd (F__law_counts T)) passN (pa_cons (pv 2) (pa_cons (pv 3) pa_nil))))
      (pss_cons (ps_set (i := 5) nd rfl (.inl rfl) (pe_callF (ok__law_beyond T) (hr.mono (by decide)) (by rfl) (g__law_beyond T) (kpd (F__law_beyond T)) passN (pa_cons (pv 0) (pa_cons (pe_un un_neg pe_int) (pa_cons (pv 3) pa_nil)))))
      (pss_cons (ps_if (pt_not (pt_val (pe_callF fi r2' (by rfl) (g__law_is T) (kpd (F__law_is T)) passN (pa_cons
            (pe_callF fc r7 (by rfl) (g_phase_count T) (kpd (F_phase_count T)) (fun σ => L2N.passAt (L2N.takes_of rfl rfl rfl rfl) σ) (pa_cons (pv 1) (pa_cons (pv 3) (pa_cons (pv 5) pa_nil)))) (pa_cons pe_int pa_nil))))) (pss_one (ps_ret pe_bl)) pss_nil)
      (pss_cons (ps_for (passes_of rfl) rfl (pi_list (pe_lst (pa_cons (pe_un un_neg pe_int) (pa_cons pe_int (pa_cons pe_int (pa_cons (pe_op op_add pe_int (pe_callF (ok__law_draw T) r2' (by rfl) (g__law_draw T) (kpd (F__law_draw T)) passN (pa_cons (pv 0) (pa_cons (pv 3) pa_nil)))) pa_nil)))))) (pg_name (i := 6) nd rfl (.inl rfl))
        (pss_one (ps_if (pt_not (pt_val (pe_callF fi r2' (by rfl) (g__law_is T) (kpd (F__law_is T)) passN (pa_cons
            (pe_callF fc r7 (by rfl) (g_phase_count T) (kpd (F_phase_count T)) (fun σ => L2N.passAt (L2N.takes_of rfl rfl rfl rfl) σ) (pa_cons (pv 1) (pa_cons (pv 3) (pa_cons (pv 6) pa_nil)))) (pa_cons (pe_ix ix_list (pv 4) (pe_op op_add (pv 6) pe_int) (fun _ _ => rfl)) pa_nil))))) (pss_one (ps_ret pe_bl)) pss_nil))) h3))), ?_⟩
    refine ⟨_, rfl, _, rfl, a, sp, n, l, rfl, hR, ok, n2, l1, ln, l64, fun H1 p s1 np hp => ?_⟩
    obtain ⟨npb, npg⟩ := B.bn np
    have B1 := B.same s1
    refine ⟨_, rfl, 1, rfl, _, rfl, b, g, -1, (l : Int), rfl, by omega, B1, fun H2 x k2' B2 hx => ?_⟩
    have k2 := (kept_of s1 (b := b) (g := g)).trans k2'
    have hp2 := k2'.lst hp npb npg
    refine ⟨_, rfl, _, rfl, _, rfl, ra, sp, (l : Int), x, rfl, hA.kept k2 B, ok, hn, fun c => absurd ⟨by omega, by omega⟩ c, fun m em m1 m64 H3 s3 => ?_⟩
    have em : m = l := by omega
    subst em
    refine ⟨0, by rw [cnt_far hx], true, rfl, ifF rfl ?_⟩
    have k3 := k2.trans (kept_of s3)
    have B3 := B2.same s3
    have hp3 := s3 _ _ hp2
    refine ⟨1, rfl, _, rfl, _, rfl, b, g, (m : Int), rfl, B3, by omega, lt9s (by omega) (by omega), fun H4 r k4' B4 r0 r1 => ?_⟩
    have k4 := k3.trans k4'
    have hp4 := k4'.lst hp3 npb npg
    refine ⟨_, _, rfl, rfl, by show 4 ≤ _; rw [sizeLine_eq]; decide, fun pl npl => ?_⟩
    have s5 := same_new (o := .lst [.int (-1), .int 0, .int 1, .int (1 + r)]) npl
    refine ⟨pl, rfl, ⟨_, SqL.of upd_same⟩, for_list (K := K) (a := pl) (xs := [.int (-1), .int 0, .int 1, .int (1 + r)]) (fun i σ H' => ∃ v6, σ = [some (.ref b), some (.ref ra), some (.ref a), some (.int (m : Int)), some (.ref p), some (.int x), v6] ∧ Kept b g H H' ∧ Box H' b g ∧ H' pl = some (.lst [.int (-1), .int 0, .int 1, .int (1 + r)]) ∧ H' p = some (.lst (lrowV sp m (m + 2))))
      ⟨none, rfl, k4.trans (kept_of s5), B4.same s5, upd_same, s5 _ _ hp4⟩ (fun i σ H' _ ⟨_, _, _, _, hl, _⟩ => SqL.of hl) ?_ ?_⟩
    · rintro i y σ H' ey ⟨v6, rfl, k5, B5, hl5, hp5⟩
      obtain ⟨z, rfl, z0, z1⟩ : ∃ z : Int, y = .int z ∧ -1 ≤ z ∧ z ≤ (m : Int) := by
        match i, ey with
        | 0, ey => cases ey; exact ⟨_, rfl, by omega, by omega⟩
        | 1, ey => cases ey; exact ⟨_, rfl, by omega, by omega⟩
        | 2, ey => cases ey; exact ⟨_, rfl, by omega, by omega⟩
        | 3, ey => cases ey; exact ⟨_, rfl, by omega, by omega⟩
        | i + 4, ey => cases ey
      refine ⟨_, rfl, _, rfl, _, rfl, ra, sp, (m : Int), z, rfl, hA.kept k5 B, ok, hn, fun c => absurd ⟨by omega, by omega⟩ c, fun m' em' _ _ H6 s6 => ?_⟩
      have em' : m' = m := by omega
      subst em'
      have e1 : z + 1 = (((z + 1).toNat : Nat) : Int) := by omega
      have g1 := lrowV_get (s := sp) (k := m') (n := m' + 2) (j := (z + 1).toNat) (by omega)
      have e2 : lrow sp m' (z + 1).toNat = cnt sp z m' := by
        rw [lrow_cnt sp _ m1]
        congr 1
        omega
      rw [e2] at g1
      refine ⟨_, rfl, _, rfl, _, _, rfl, rfl, p, _, _, _, rfl, rfl, SqL.of (s6 _ _ hp5), by rw [e1]; exact atI_nat g1, ?_⟩
      exact ⟨_, rfl, true, rfl, ifF rfl ⟨_, rfl, k5.trans (kept_of s6), B5.same s6, s6 _ _ hl5, s6 _ _ hp5⟩⟩
    · rintro σ H' ⟨v6, rfl, k5, B5, hl5, hp5⟩
      exact r3 H' _ _ _ k5 B5
end
end K12
set_option Elab.async false
set_option linter.all false
set_option maxRecDepth 100000
set_option maxHeartbeats 4000000
/-! _law_letter_refused, _law_letters_refused, _law_count_refused. -/
namespace PySem.W
open PySem PySem.Spec PySem.Calls PyProof.Rows
section
variable {K : Frag} {x t : Value} {H : Heap → Prop}
/-- isinstance's answer yes: no look at __class__ -/
theorem kit_yes {c : Value} (ty : ∀ (M : Model) (h : Heap), H h → Looks M h (typeOf x) t) (e : kitOne K t c = some true) : Answers (fun s => K.In s.heap ∧ H s.heap) x c true := by
  intro dep tk prog w A R s hs
  obtain ⟨h0, g, d, tt, os⟩ := s
  obtain ⟨⟨X, p⟩, hq⟩ := hs
  have LT := ty (model prog w) h0 p
  unfold kitOne at e
  unfold Builtin.«isinstance.nested»
  refine wpAny_bind (LT.at ?_)
  by_cases q : (t == c) = true
  · rw [if_pos q] at e
    rw [if_pos q]
    first
      | ((repeat lk); exact hq tt)
      | exact wpAny_bind (wpAny_rule (hq tt))
      | exact wpAny_bind (wpAny_rule (wpAny_pure (hq tt)))
  · rw [if_neg q] at e
    rw [if_neg q]
    obtain ⟨hty, his, hsub⟩ := kit_cls (M := model prog w) X e
    have LI : Looks (model prog w) h0 (isInstance x c) true := LT.andThen hsub
    refine wpAny_bind (hty.at ?_)
    rw [if_pos (by decide)]
    k_delta "plainIsInstance"
    refine wpAny_bind (wpAny_bind (his.at ?_))
    simp only [Bool.not_true, Bool.false_eq_true, if_false]
    refine wpAny_bind (LI.at ?_)
    first
      | exact wpAny_pure (wpAny_pure (hq tt))
      | (simp only [if_true]; first | exact wpAny_pure (wpAny_pure (hq tt)) | exact wpAny_pure (hq tt) | exact wpAny_bind (wpAny_pure (wpAny_pure (hq tt))))
theorem kia_yes {prog : Program} {w : World} {A : Around} {E : Value → Shared → Prop} {s : Shared} {Q : Value → Shared → Prop} {c : Value} (ty : ∀ (M : Model) (h : Heap), H h → Looks M h (typeOf x) t) (X : K.In s.heap) (p : H s.heap) (e : kitOne K t c = some true) (hx : x ≠ .builtin "__main__.__loader__#opaque") (h : ∀ tk, Q (.bool true) { s with toks := tk }) :
    wpAny (model prog w) A (call (.builtin "isinstance") [x, c]) Q E s :=
  call_isinstance (S := fun _ R s => (K.In s.heap ∧ H s.heap) ∧ ∀ tk, R (.ok (.ret (.bool true))) { s with toks := tk })
    (fun prog w A R s hs => isinstance_outer (kit_yes ty e 0 _ prog w A R s hs) hx) ⟨⟨X, p⟩, h⟩
end
end PySem.W
namespace L2
open PySem PySem.Spec PyProof.Rows
/-- isinstance of the caught exception, the answer yes -/
def rIsiX (K : PySem.W.Frag) (a : Addr) (cls : Value) : List V → Hp → VK → Prop := fun xs H Q => ∃ (c : V) (u : Value), xs = [.ref a, c] ∧ ClsV c u ∧ PySem.W.kitOne K cls u = some true ∧ Q (.bl true) H
theorem call_isiX {X : Cx} {a : Addr} {oe : Obj} {cls : Value} {d : Option Addr} {pn : List (Addr × Obj)} (hz : L2N.Zn cls d oe) : CallR (X.suite a ((a, oe) :: pn)) (.builtin "isinstance") (rIsiX X.K a cls) := by
  intro pins s σ H xs us Q I r h
  obtain ⟨c, u, rfl, k, e, q⟩ := h
  obtain ⟨u1, u2, rfl, r1, r2⟩ := vals2 r
  have e2 := k.eq r2
  subst e2
  cases (show u1 = Value.ref a from r1)
  obtain ⟨ha, _⟩ := I.pin (a, oe) (List.mem_append_left _ List.mem_cons_self)
  refine PySem.W.kia_yes (H := fun h => h.get? a = some oe) (fun M h he => fun A Q E s k q => wpAny_typeOf_ref (k _ _ he) (by rw [hz.1]; exact q)) I.kIn ha e (fun z => nomatch z) fun tk => ⟨.bl true, H, I.tok tk, rfl, q⟩
end L2
namespace K12
open PySem PySem.Spec PyProof.Rows L2 K12M
open PySem.W (Frag)
section
variable {P : Program} {w : World} {K : Frag} {mg : Str → Option Value} {base : Heap}
theorem hotC {X : Cx} {a : Addr} {oe : Obj} {cls : Value} {d : Option Addr} {pn : List (Addr × Obj)} (hz : L2N.Zn cls d oe) (hf : ∃ vs, oe.data = .fields vs) (hA : (X.suite a ((a, oe) :: pn)).A.handled = some (.ref a) := by rfl) : L2H.HotC (X.suite a ((a, oe) :: pn)) := by
  obtain ⟨vs, hd⟩ := hf
  exact ⟨(a, oe), ⟨hA, vs, hd, hz.2.2 vs hd⟩, List.mem_cons_self⟩
/-- the suite: _law_is(e.found, due) and isinstance(e, ReachError) and isinstance(e, ValueError) -/
def tSuite (K : Frag) (i j : Nat) : Addr → Value → Option Addr → TS := fun a cls d => tRet (tAndV (tCallS spIs noX (tCons (tXf a cls d (He.ga K "OutOfRange") "found" (tVar i)) (tCons (tVar j) tNil)))
  (tAndV (tCB (rIsiX K a cls) (tCons (tVar i) (tCons (tC (.ref (He.ga K "ReachError"))) tNil))) (tCB (rIsiX K a cls) (tCons (tVar i) (tCons (tC (.ty "ValueError")) tNil)))))
theorem suite_read (T : Ev K mg) {i j : Nat} {a d : Addr} {x : Int} {D : Ends} {σ : L2.St} {H : Hp} (hi : σ[i]? = some (some (.ref a))) (hj : σ[j]? = some (some (.int x))) (q : D.rt (.bl true) (upd H d (.xd [(("found" : Str), .int x)]))) :
    tSuite K i j a (.ref (He.ga K "OutOfRange")) (some d) D σ (upd H d (.xd [(("found" : Str), .int x)])) := by
  refine ⟨_, hi, rfl, rfl, d, _, _, rfl, upd_same, rfl, _, hj, x, rfl, _, rfl, ifT rfl ?_⟩
  refine ⟨_, hi, _, _, rfl, .own _, x_isRE T, _, rfl, ifT rfl ?_⟩
  exact ⟨_, hi, _, _, rfl, .ty _, x_isVE T, q⟩
theorem suite_caught (T : Ev K mg) {i j : Nat} {x : Int} {D : Ends} {σ : L2.St} {H : Hp} {W : WX} (hl : i < σ.length) (hij : i ≠ j) (hj : σ[j]? = some (some (.int x))) (q : ∀ H', Same H H' → D.rt (.bl true) H') :
    oor K (WE (wAs K (.ref (He.ga K "OutOfRange")) i (tSuite K i j) W D) σ) (.int x) H := fun d nd =>
  ⟨true, x_exm T, fun _ a na => suite_read T (List.getElem?_set_self hl) (by rw [List.getElem?_set_ne hij]; exact hj) (q _ (same_new nd)), fun z => Bool.noConfusion z⟩
theorem roomS {k : Nat} {A : Around} {v : Option Value} (r : Room k A) : L2H.RoomH k (A.mark v) := ⟨r.dp, r.un⟩
def spLtR (K : Frag) : Sp := fun vs H Q _ => ∃ (ra : Addr) (s : K12M.Spec) (l ax x : Int), vs = [.ref ra, .int l, .int ax, .int x] ∧ RuleAt K H s ra ∧ s.Ok ∧ s.depth ≤ 3 ∧
  ((¬(1 ≤ l ∧ l ≤ 64) ∧ x = l) ∨ (∃ n : Nat, l = (n : Int) ∧ 1 ≤ n ∧ n ≤ 64 ∧ ¬(1 ≤ ax ∧ ax ≤ len s n) ∧ x = ax)) ∧ ∀ H', Same H H' → Q (.bl true) H'
abbrev nLtR : List Str := ["_law_rule", "_law_level_here", "_law_at", "_law_due", "e"]
theorem sc__law_letter_refused : FnScope nLtR ["_law_rule", "_law_level_here", "_law_at", "_law_due"] (defScope s__law_letter_refused) := ⟨rfl, rfl, rfl, by decide +kernel, rfl, by decide +kernel, by decide +kernel⟩
theorem ok__law_letter_refused (T : Ev K mg) (hP : TopOk P) : FnR P w K mg base (L2N.CX P w) 8 (He.ga K "_law_letter_refused") (spLtR K) := by
  obtain ⟨fd, F⟩ := F__law_letter_refused T
  refine fnR_of (FunD.ok F sc__law_letter_refused (fun vs H Q E h => ?_) (fun cdv A outer s H vs Q E hr h => ?_)) (F.bindsN fun _ _ _ _ _ _ us hl => match us, hl with | [_, _, _, _], _ => rfl)
  · obtain ⟨ra, s, l, ax, x, rfl, _⟩ := h
    rfl
  · obtain ⟨ra, sp, l, ax, x, rfl, hA, ok, hn, hx, q⟩ := h
    have nd := sc__law_letter_refused.nd
    obtain ⟨fdi, FI, bI⟩ := okH__law_is (P := P) (w := w) (base := base) T
    refine ⟨_, pss_cons (L2N.ps_try_as (i := 4) (ts := tSuite K 4 3) rfl rfl nd rfl rfl ⟨rfl, by decide, .inl (g_OutOfRange T)⟩ (L2N.takes_of rfl rfl rfl rfl)
        (fun W pn xe tk _ => pss_one (ps_expr (pe_callF (ok_phase_letter T hP) hr (by rfl) (g_phase_letter T) (kpd (F_phase_letter T)) (fun σ => L2N.passAt tk σ) (pa_cons (pv 0) (pa_cons (pv 1) (pa_cons (pv 2) pa_nil))))))
        (fun a oe cls d pn hz hf => pss_one (ps_ret (pe_and (L2H.pe_callH FI (roomS (hr.mono (j := 2) (by decide))) (hotC hz hf) (by rfl) (g__law_is T) (kpd (F__law_is T)) bI passN (pa_cons (pe_xf (x_xfC T) (x_nofound T) hz.zc hf (pv 4)) (pa_cons (pv 3) pa_nil)))
          (pe_and (pe_callB (call_isiX hz) (by rfl) (n_isinstance T) (by decide +kernel) (pa_cons (pv 4) (pa_cons (pe_glob (v := .ref (He.ga K "ReachError")) (by rfl) (g_ReachError T) rfl) pa_nil)))
            (pe_one (pe_callB (call_isiX hz) (by rfl) (n_isinstance T) (by decide +kernel) (pa_cons (pv 4) (pa_cons (pe_bltn (v := .ty "ValueError") (by rfl) (n_ValueError T) (by decide +kernel) rfl) pa_nil)))))))))
      (pss_one (ps_ret pe_bl)), ?_⟩
    refine ⟨_, rfl, _, rfl, _, rfl, ra, sp, l, ax, rfl, hA, ok, hn, fun c => ?_, fun n en n1 n64 H1 s1 => ⟨fun c => ?_, fun c1 c2 => ?_⟩⟩
    · have e : x = l := by
        rcases hx with ⟨_, e⟩ | ⟨n, en, n1, n64, _⟩
        · exact e
        · exact absurd ⟨by omega, by omega⟩ c
      rw [← e]
      exact suite_caught T (show 4 < 5 by decide) (by decide) rfl q
    · have e : x = ax := by
        rcases hx with ⟨c2, e⟩ | ⟨m, em, m1, m64, _, e⟩
        · exact absurd ⟨by omega, by omega⟩ c2
        · exact e
      rw [← e]
      exact suite_caught T (show 4 < 5 by decide) (by decide) rfl fun H2 s2 => q H2 (s1.trans s2)
    · rcases hx with ⟨c3, e⟩ | ⟨m, em, m1, m64, c3, e⟩
      · exact absurd ⟨by omega, by omega⟩ c3
      · have e2 : m = n := by omega
        rw [e2] at c3
        exact absurd ⟨c1, c2⟩ c3
/-! ### _law_letters_refused -/
def spLsR (K : Frag) : Sp := fun vs H Q _ => ∃ (ra : Addr) (s : K12M.Spec) (l : Int), vs = [.ref ra, .int l] ∧ RuleAt K H s ra ∧ s.Ok ∧ s.depth ≤ 3 ∧ ¬(1 ≤ l ∧ l ≤ 64) ∧ ∀ H', Same H H' → Q (.bl true) H'
abbrev nLsR : List Str := ["_law_rule", "_law_level_here", "_law_letter_here", "e"]
theorem sc__law_letters_refused : FnScope nLsR ["_law_rule", "_law_level_here"] (defScope s__law_letters_refused) := ⟨rfl, rfl, rfl, by decide +kernel, rfl, by decide +kernel, by decide +kernel⟩
theorem ok__law_letters_refused (T : Ev K mg) (hP : TopOk P) : FnR P w K mg base (L2N.CX P w) 10 (He.ga K "_law_letters_refused") (spLsR K) := by
  obtain ⟨fd, F⟩ := F__law_letters_refused T
  refine fnR_of (FunD.ok F sc__law_letters_refused (fun vs H Q E h => ?_) (fun cdv A outer s H vs Q E hr h => ?_)) (F.bindsN fun _ _ _ _ _ _ us hl => match us, hl with | [_, _], _ => rfl)
  · obtain ⟨ra, s, l, rfl, _⟩ := h
    rfl
  · obtain ⟨ra, sp, l, rfl, hA, ok, hn, hx, q⟩ := h
    have nd := sc__law_letters_refused.nd
    obtain ⟨fdi, FI, bI⟩ := okH__law_is (P := P) (w := w) (base := base) T
    refine ⟨_, pss_cons (L2N.ps_try_as (i := 3) (ts := tSuite K 3 1) (tb := fun W => tForG K W (tVar 0) (tVar 1) (gName 2) (tRet (tC (.bl false)))) rfl rfl nd rfl rfl ⟨rfl, by decide, .inl (g_OutOfRange T)⟩ (L2N.takes_of rfl rfl rfl rfl)
        (fun W pn xe tk hp => pss_one (ps_forG rfl hp T hP hr tk (pv 0) (pv 1) (pg_name (i := 2) nd rfl (.inl rfl)) (pss_one (ps_ret pe_bl))))
        (fun a oe cls d pn hz hf => pss_one (ps_ret (pe_and (L2H.pe_callH FI (roomS (hr.mono (j := 2) (by decide))) (hotC hz hf) (by rfl) (g__law_is T) (kpd (F__law_is T)) bI passN (pa_cons (pe_xf (x_xfC T) (x_nofound T) hz.zc hf (pv 3)) (pa_cons (pv 1) pa_nil)))
          (pe_and (pe_callB (call_isiX hz) (by rfl) (n_isinstance T) (by decide +kernel) (pa_cons (pv 3) (pa_cons (pe_glob (v := .ref (He.ga K "ReachError")) (by rfl) (g_ReachError T) rfl) pa_nil)))
            (pe_one (pe_callB (call_isiX hz) (by rfl) (n_isinstance T) (by decide +kernel) (pa_cons (pv 3) (pa_cons (pe_bltn (v := .ty "ValueError") (by rfl) (n_ValueError T) (by decide +kernel) rfl) pa_nil)))))))))
      (pss_one (ps_ret pe_bl)), ?_⟩
    refine ⟨_, rfl, _, rfl, ra, l, sp, rfl, hA, ok, hn, fun c => ?_, fun n en n1 n64 => absurd ⟨by omega, by omega⟩ hx⟩
    exact suite_caught T (show 3 < 4 by decide) (by decide) rfl q
/-! ### _law_count_refused -/
def spCtRf (K : Frag) : Sp := fun vs H Q _ => ∃ (ra : Addr) (s : K12M.Spec) (l m : Int), vs = [.ref ra, .int l, .int m] ∧ RuleAt K H s ra ∧ s.Ok ∧ s.depth ≤ 3 ∧ ¬(1 ≤ l ∧ l ≤ 64) ∧ ∀ H', Same H H' → Q (.bl true) H'
abbrev nCtRf : List Str := ["_law_rule", "_law_level_here", "_law_chosen", "e"]
theorem sc__law_count_refused : FnScope nCtRf ["_law_rule", "_law_level_here", "_law_chosen"] (defScope s__law_count_refused) := ⟨rfl, rfl, rfl, by decide +kernel, rfl, by decide +kernel, by decide +kernel⟩
theorem ok__law_count_refused (T : Ev K mg) (hP : TopOk P) : FnR P w K mg base (L2N.CX P w) 8 (He.ga K "_law_count_refused") (spCtRf K) := by
  obtain ⟨fd, F⟩ := F__law_count_refused T
  refine fnR_of (FunD.ok F sc__law_count_refused (fun vs H Q E h => ?_) (fun cdv A outer s H vs Q E hr h => ?_)) (F.bindsN fun _ _ _ _ _ _ us hl => match us, hl with | [_, _, _], _ => rfl)
  · obtain ⟨ra, s, l, m, rfl, _⟩ := h
    rfl
  · obtain ⟨ra, sp, l, m, rfl, hA, ok, hn, hx, q⟩ := h
    have nd := sc__law_count_refused.nd
    obtain ⟨fdi, FI, bI⟩ := okH__law_is (P := P) (w := w) (base := base) T
    refine ⟨_, pss_cons (L2N.ps_try_as (i := 3) (ts := tSuite K 3 1) rfl rfl nd rfl rfl ⟨rfl, by decide, .inl (g_OutOfRange T)⟩ (L2N.takes_of rfl rfl rfl rfl)
        (fun W pn xe tk _ => pss_one (ps_expr (pe_callF (ok_phase_count T hP) hr (by rfl) (g_phase_count T) (kpd (F_phase_count T)) (fun σ => L2N.passAt tk σ) (pa_cons (pv 0) (pa_cons (pv 1) (pa_cons (pv 2) pa_nil))))))
        (fun a oe cls d pn hz hf => pss_one (ps_ret (pe_and (L2H.pe_callH FI (roomS (hr.mono (j := 2) (by decide))) (hotC hz hf) (by rfl) (g__law_is T) (kpd (F__law_is T)) bI passN (pa_cons (pe_xf (x_xfC T) (x_nofound T) hz.zc hf (pv 3)) (pa_cons (pv 1) pa_nil)))
          (pe_and (pe_callB (call_isiX hz) (by rfl) (n_isinstance T) (by decide +kernel) (pa_cons (pv 3) (pa_cons (pe_glob (v := .ref (He.ga K "ReachError")) (by rfl) (g_ReachError T) rfl) pa_nil)))
            (pe_one (pe_callB (call_isiX hz) (by rfl) (n_isinstance T) (by decide +kernel) (pa_cons (pv 3) (pa_cons (pe_bltn (v := .ty "ValueError") (by rfl) (n_ValueError T) (by decide +kernel) rfl) pa_nil)))))))))
      (pss_one (ps_ret pe_bl)), ?_⟩
    refine ⟨_, rfl, _, rfl, _, rfl, ra, sp, l, m, rfl, hA, ok, hn, fun c => ?_, fun n en n1 n64 => absurd ⟨by omega, by omega⟩ hx⟩
    exact suite_caught T (show 3 < 4 by decide) (by decide) rfl q
end
end K12
set_option Elab.async false
set_option linter.all false
set_option maxRecDepth 100000
set_option maxHeartbeats 4000000
/-! _law_refusals_right, law. -/
namespace K12
open PySem PySem.Spec PyProof.Rows L2 K12M
open PySem.W (Frag)
section
variable {P : Program} {w : World} {K : Frag} {mg : Str → Option Value} {base : Heap}
def spRf (K : Frag) : Sp := fun vs H Q _ => ∃ (b g ra : Addr) (s : K12M.Spec) (l : Nat), vs = [.ref b, .ref ra, .int (l : Int), .int (len s l)] ∧ Box H b g ∧ RuleAt K H s ra ∧ s.Ok ∧ s.depth ≤ 3 ∧ 1 ≤ l ∧ l ≤ 64 ∧ ∀ H', Kept b g H H' → Box H' b g → Q (.bl true) H'
abbrev nRf : List Str := ["_law_box_here", "_law_rule", "_law_level_here", "_law_length", "_law_bad_level", "_law_bad_at"]
theorem sc__law_refusals_right : FnScope nRf ["_law_box_here", "_law_rule", "_law_level_here", "_law_length"] (defScope s__law_refusals_right) := ⟨rfl, rfl, rfl, by decide +kernel, rfl, by decide +kernel, by decide +kernel⟩
theorem ok__law_refusals_right (T : Ev K mg) (hP : TopOk P) : FnR P w K mg base (L2N.CX P w) 11 (He.ga K "_law_refusals_right") (spRf K) := by
  obtain ⟨fd, F⟩ := F__law_refusals_right T
  refine fnR_of (FunD.ok F sc__law_refusals_right (fun vs H Q E h => ?_) (fun cdv A outer s H vs Q E hr h => ?_)) (F.bindsN fun _ _ _ _ _ _ us hl => match us, hl with | [_, _, _, _], _ => rfl)
  · obtain ⟨b, g, ra, s, l, rfl, _⟩ := h
    rfl
  · obtain ⟨b, g, ra, sp, l, rfl, B, hA, ok, hn, l1, l64, q⟩ := h
    have nd := sc__law_refusals_right.nd
    have fl := ok__law_letter_refused (P := P) (w := w) (base := base) T hP
    have fc := ok__law_count_refused (P := P) (w := w) (base := base) T hP
    have fb := ok__law_beyond (P := P) (w := w) (base := base) T
    have r8 := hr.mono (j := 8) (by decide)
    have r3 := hr.mono (j := 3) (by decide)
    refine ⟨_, pss_cons (ps_set (i := 4) nd rfl (.inl rfl) (pe_callF fb r3 (by rfl) (g__law_beyond T) (kpd (F__law_beyond T)) passN (pa_cons (pv 0) (pa_cons pe_int (pa_cons pe_int pa_nil)))))
      (pss_cons (ps_set (i := 5) nd rfl (.inl rfl) (pe_callF fb r3 (by rfl) (g__law_beyond T) (kpd (F__law_beyond T)) passN (pa_cons (pv 0) (pa_cons pe_int (pa_cons (pv 3) pa_nil)))))
      (pss_cons (ps_if (pt_not (pt_val (pe_callF fl r8 (by rfl) (g__law_letter_refused T) (kpd (F__law_letter_refused T)) (fun σ => L2N.passAt (L2N.takes_of rfl rfl rfl rfl) σ) (pa_cons (pv 1) (pa_cons (pv 4) (pa_cons pe_int (pa_cons (pv 4) pa_nil))))))) (pss_one (ps_ret pe_bl)) pss_nil)
      (pss_cons (ps_if (pt_not (pt_val (pe_callF fl r8 (by rfl) (g__law_letter_refused T) (kpd (F__law_letter_refused T)) (fun σ => L2N.passAt (L2N.takes_of rfl rfl rfl rfl) σ) (pa_cons (pv 1) (pa_cons (pv 4) (pa_cons pe_int (pa_cons (pv 4) pa_nil))))))) (pss_one (ps_ret pe_bl)) pss_nil)
      (pss_cons (ps_if (pt_not (pt_val (pe_callF fl r8 (by rfl) (g__law_letter_refused T) (kpd (F__law_letter_refused T)) (fun σ => L2N.passAt (L2N.takes_of rfl rfl rfl rfl) σ) (pa_cons (pv 1) (pa_cons (pv 2) (pa_cons (pv 5) (pa_cons (pv 5) pa_nil))))))) (pss_one (ps_ret pe_bl)) pss_nil)
      (pss_cons (ps_if (pt_not (pt_val (pe_callF fl r8 (by rfl) (g__law_letter_refused T) (kpd (F__law_letter_refused T)) (fun σ => L2N.passAt (L2N.takes_of rfl rfl rfl rfl) σ) (pa_cons (pv 1) (pa_cons (pv 2) (pa_cons pe_int (pa_cons pe_int pa_nil))))))) (pss_one (ps_ret pe_bl)) pss_nil)
      (pss_cons (ps_if (pt_not (pt_val (pe_callF fl r8 (by rfl) (g__law_letter_refused T) (kpd (F__law_letter_refused T)) (fun σ => L2N.passAt (L2N.takes_of rfl rfl rfl rfl) σ) (pa_cons (pv 1) (pa_cons (pv 2) (pa_cons (pe_op op_add (pv 3) pe_int) (pa_cons (pe_op op_add (pv 3) pe_int) pa_nil))))))) (pss_one (ps_ret pe_bl)) pss_nil)
      (pss_cons (ps_if (pt_not (pt_val (pe_callF (ok__law_letters_refused T hP) hr (by rfl) (g__law_letters_refused T) (kpd (F__law_letters_refused T)) (fun σ => L2N.passAt (L2N.takes_of rfl rfl rfl rfl) σ) (pa_cons (pv 1) (pa_cons (pv 4) pa_nil))))) (pss_one (ps_ret pe_bl)) pss_nil)
      (pss_one (ps_ret (pe_and (pe_callF fc r8 (by rfl) (g__law_count_refused T) (kpd (F__law_count_refused T)) (fun σ => L2N.passAt (L2N.takes_of rfl rfl rfl rfl) σ) (pa_cons (pv 1) (pa_cons (pv 4) (pa_cons pe_int pa_nil))))
        (pe_one (pe_callF fc r8 (by rfl) (g__law_count_refused T) (kpd (F__law_count_refused T)) (fun σ => L2N.passAt (L2N.takes_of rfl rfl rfl rfl) σ) (pa_cons (pv 1) (pa_cons (pv 4) (pa_cons (pv 4) pa_nil))))))))))))))), ?_⟩
    have lp := len_pos ok (k := l) l1
    refine ⟨_, rfl, b, g, 1, 64, rfl, by decide, B, fun H1 x k1 B1 hx => ?_⟩
    refine ⟨_, rfl, _, rfl, b, g, 1, len sp l, rfl, by omega, B1, fun H2 y k2' B2 hy => ?_⟩
    have k2 := k1.trans k2'
    have hx2 : ¬(1 ≤ x ∧ x ≤ 64) := by omega
    have hy2 : ¬(1 ≤ y ∧ y ≤ len sp l) := by omega
    refine ⟨_, rfl, _, rfl, _, rfl, ra, sp, x, 1, x, rfl, hA.kept k2 B, ok, hn, .inl ⟨hx2, rfl⟩, fun H3 s3 => ⟨true, rfl, ifF rfl ?_⟩⟩
    have k3 := k2.trans (kept_of s3)
    have B3 := B2.same s3
    refine ⟨_, rfl, _, rfl, _, rfl, ra, sp, x, 0, x, rfl, hA.kept k3 B, ok, hn, .inl ⟨hx2, rfl⟩, fun H4 s4 => ⟨true, rfl, ifF rfl ?_⟩⟩
    have k4 := k3.trans (kept_of s4)
    have B4 := B3.same s4
    refine ⟨_, rfl, _, rfl, _, rfl, _, rfl, ra, sp, (l : Int), y, y, rfl, hA.kept k4 B, ok, hn, .inr ⟨l, rfl, l1, l64, hy2, rfl⟩, fun H5 s5 => ⟨true, rfl, ifF rfl ?_⟩⟩
    have k5 := k4.trans (kept_of s5)
    have B5 := B4.same s5
    refine ⟨_, rfl, _, rfl, ra, sp, (l : Int), 0, 0, rfl, hA.kept k5 B, ok, hn, .inr ⟨l, rfl, l1, l64, fun z => by omega, rfl⟩, fun H6 s6 => ⟨true, rfl, ifF rfl ?_⟩⟩
    have k6 := k5.trans (kept_of s6)
    have B6 := B5.same s6
    refine ⟨_, rfl, _, rfl, _, rfl, _, _, rfl, rfl, _, rfl, _, _, rfl, rfl, ra, sp, (l : Int), len sp l + 1, len sp l + 1, rfl, hA.kept k6 B, ok, hn, .inr ⟨l, rfl, l1, l64, fun z => by omega, rfl⟩, fun H7 s7 => ⟨true, rfl, ifF rfl ?_⟩⟩
    have k7 := k6.trans (kept_of s7)
    have B7 := B6.same s7
    refine ⟨_, rfl, _, rfl, ra, sp, x, rfl, hA.kept k7 B, ok, hn, hx2, fun H8 s8 => ⟨true, rfl, ifF rfl ?_⟩⟩
    have k8 := k7.trans (kept_of s8)
    have B8 := B7.same s8
    refine ⟨_, rfl, _, rfl, ra, sp, x, 1, rfl, hA.kept k8 B, ok, hn, hx2, fun H9 s9 => ⟨true, rfl, ifT rfl ?_⟩⟩
    have k9 := k8.trans (kept_of s9)
    have B9 := B8.same s9
    exact ⟨_, rfl, _, rfl, _, rfl, ra, sp, x, x, rfl, hA.kept k9 B, ok, hn, hx2, fun H10 s10 => q H10 (k9.trans (kept_of s10)) (B9.same s10)⟩
/-! ### law -/
def spLaw (K : Frag) : Sp := fun vs H Q _ => ∃ (a : Addr) (ns : List Int), vs = [.ref a] ∧ SqL K H a (ns.map V.int) ∧ ∀ H', Q (.bl true) H'
abbrev nLaw : List Str := ["_law_script", "_law_box_here", "_law_spec_here", "_law_other", "_law_level_here", "_law_table", "_law_low_here", "_law_words_here", "_law_rule", "_law_second"]
theorem sc_law : FnScope nLaw ["_law_script"] (defScope s_law) := ⟨rfl, rfl, rfl, by decide +kernel, rfl, by decide +kernel, by decide +kernel⟩
theorem ok_law (T : Ev K mg) (hP : TopOk P) {fd : FuncData} (F : FunD K "law" "law" (defArgs s_law) (defBody s_law) (defScope s_law) [] [] (He.ga K "law") fd) : FnOk P w K mg base (L2N.CX P w) 12 (He.ga K "law") fd ["_law_script"] (spLaw K) := by
  refine FunD.ok F sc_law (fun vs H Q E h => ?_) (fun cdv A outer s H vs Q E hr h => ?_)
  · obtain ⟨a, ns, rfl, _⟩ := h
    rfl
  · obtain ⟨sa, ns, rfl, hS, q⟩ := h
    have nd := sc_law.nd
    have fwr := ok__law_words_right (P := P) (w := w) (base := base) T hP
    have flr := ok__law_letters_right (P := P) (w := w) (base := base) T hP
    have flv := ok__law_levels (P := P) (w := w) (base := base) T
    have fcr := ok__law_counted_right (P := P) (w := w) (base := base) T hP
    have fct := ok__law_counts_right (P := P) (w := w) (base := base) T hP
    have ffl := ok__law_first_letters_right (P := P) (w := w) (base := base) T hP
    have frf := ok__law_refusals_right (P := P) (w := w) (base := base) T hP
    have fbox := ok__law_box (P := P) (w := w) (base := base) T
    have fsp := ok__law_spec (P := P) (w := w) (base := base) T
    have fll := ok__law_level (P := P) (w := w) (base := base) T
    have flow := ok__law_low (P := P) (w := w) (base := base) T
    have fwo := ok__law_words (P := P) (w := w) (base := base) T
    have fbu := ok__law_built (P := P) (w := w) (base := base) T 4
    have r1 := hr.mono (j := 1) (by decide)
    have r3 := hr.mono (j := 3) (by decide)
    have r5 := hr.mono (j := 5) (by decide)
    have r6 := hr.mono (j := 6) (by decide)
    have r8 := hr.mono (j := 8) (by decide)
    have r9 := hr.mono (j := 9) (by decide)
    have r10 := hr.mono (j := 10) (by decide)
    obtain ⟨t9, h9, q9⟩ : ∃ t, PSs (cxOf (L2N.CX P w) P w K mg base nLaw "law" (defScope s_law) (He.ga K "law") cdv A outer s H E) ((defBody s_law).drop 9) t ∧
        ∀ (H1 : Hp) (v0 v2 : Option V) (b g tb t2 pw ra rb : Addr) (s1 s2 : K12M.Spec) (n l k : Nat), Box H1 b g → tb ≠ b → tb ≠ g → pw ≠ b → pw ≠ g → RowsAt H1 tb s1 n → 2 ≤ n → l ≤ n → 1 ≤ l → l ≤ 64 → 1 ≤ k → k ≤ l → len s1 k ≤ 300 → H1 pw = some (.lst ((words s1 k).map V.int)) →
          RuleAt K H1 s1 ra → s1.Ok → s1.depth ≤ 3 → RuleAt K H1 s2 rb → SpecAt H1 s2 t2 → s2.Ok → s2.depth ≤ 3 →
          t { nx := fun _ H' => Q .non H', rt := Q } [v0, some (.ref b), v2, some (.ref t2), some (.int (l : Int)), some (.ref tb), some (.int (k : Int)), some (.ref pw), some (.ref ra), some (.ref rb)] H1 := by
      refine ⟨_, pss_cons (ps_if (pt_not (pt_val (pe_callF fwr r10 (by rfl) (g__law_words_right T) (kpd (F__law_words_right T)) (fun σ => L2N.passAt (L2N.takes_of rfl rfl rfl rfl) σ) (pa_cons (pv 8) (pa_cons (pv 6) (pa_cons (pv 7) pa_nil)))))) (pss_one (ps_ret pe_bl)) pss_nil)
      (pss_cons (ps_if (PW.pt (pw_or (pt_not (pt_val (pe_callF flr r8 (by rfl) (g__law_letters_right T) (kpd (F__law_letters_right T)) (fun σ => L2N.passAt (L2N.takes_of rfl rfl rfl rfl) σ) (pa_cons (pv 1) (pa_cons (pv 8) (pa_cons (pv 5) (pa_cons (pv 6) pa_nil))))))) (pw_or1 (pt_not (pt_val (pe_callF flr r8 (by rfl) (g__law_letters_right T) (kpd (F__law_letters_right T)) (fun σ => L2N.passAt (L2N.takes_of rfl rfl rfl rfl) σ) (pa_cons (pv 1) (pa_cons (pv 8) (pa_cons (pv 5) (pa_cons (pv 4) pa_nil)))))))))) (pss_one (ps_ret pe_bl)) pss_nil)
      (pss_cons (ps_if (pt_not (pt_val (pe_callF flr r8 (by rfl) (g__law_letters_right T) (kpd (F__law_letters_right T)) (fun σ => L2N.passAt (L2N.takes_of rfl rfl rfl rfl) σ) (pa_cons (pv 1) (pa_cons (pv 9) (pa_cons (pe_callF flv r6 (by rfl) (g__law_levels T) (kpd (F__law_levels T)) passN (pa_cons (pv 3) (pa_cons (pv 4) pa_nil))) (pa_cons (pv 4) pa_nil))))))) (pss_one (ps_ret pe_bl)) pss_nil)
      (pss_cons (ps_if (pt_not (pt_val (pe_callF flr r8 (by rfl) (g__law_letters_right T) (kpd (F__law_letters_right T)) (fun σ => L2N.passAt (L2N.takes_of rfl rfl rfl rfl) σ) (pa_cons (pv 1) (pa_cons (pv 8) (pa_cons (pv 5) (pa_cons (pv 4) pa_nil))))))) (pss_one (ps_ret pe_bl)) pss_nil)
      (pss_cons (ps_if (PW.pt (pw_or (pt_not (pt_val (pe_callF fcr r8 (by rfl) (g__law_counted_right T) (kpd (F__law_counted_right T)) (fun σ => L2N.passAt (L2N.takes_of rfl rfl rfl rfl) σ) (pa_cons (pv 8) (pa_cons (pv 6) (pa_cons (pv 7) pa_nil)))))) (pw_or1 (pt_not (pt_val (pe_callF fct r9 (by rfl) (g__law_counts_right T) (kpd (F__law_counts_right T)) (fun σ => L2N.passAt (L2N.takes_of rfl rfl rfl rfl) σ) (pa_cons (pv 1) (pa_cons (pv 8) (pa_cons (pv 5) (pa_cons (pv 4) pa_nil)))))))))) (pss_one (ps_ret pe_bl)) pss_nil)
      (pss_cons (ps_if (pt_not (pt_val (pe_callF ffl r10 (by rfl) (g__law_first_letters_right T) (kpd (F__law_first_letters_right T)) (fun σ => L2N.passAt (L2N.takes_of rfl rfl rfl rfl) σ) (pa_cons (pv 8) (pa_cons (pv 5) (pa_cons (pv 4) pa_nil)))))) (pss_one (ps_ret pe_bl)) pss_nil)
      (pss_cons (ps_if (pt_not (pt_val (pe_callF frf hr (by rfl) (g__law_refusals_right T) (kpd (F__law_refusals_right T)) (fun σ => L2N.passAt (L2N.takes_of rfl rfl rfl rfl) σ) (pa_cons (pv 1) (pa_cons (pv 8) (pa_cons (pv 4) (pa_cons (pe_ix ix_tup (pe_ix ix_list (pv 5) (pv 4) (fun _ _ => rfl)) pe_int (fun _ _ => rfl)) pa_nil))))))) (pss_one (ps_ret pe_bl)) pss_nil)
      (pss_one (ps_ret (pe_callF fwr r10 (by rfl) (g__law_words_right T) (kpd (F__law_words_right T)) (fun σ => L2N.passAt (L2N.takes_of rfl rfl rfl rfl) σ) (pa_cons (pv 8) (pa_cons (pv 6) (pa_cons (pv 7) pa_nil)))))))))))), ?_⟩
      intro H1 v0 v2 b g tb t2 pw ra rb s1 s2 n l k B ntb ntg npb npg hR n2 ln l1 l64 k1 kl k300 hw hA ok1 d1 hB hS2 ok2 d2
      refine ⟨_, rfl, _, rfl, _, rfl, ra, pw, s1, k, rfl, hA, ok1, d1, k1, by omega, k300, hw, fun H2 m2 => ⟨true, rfl, ifF rfl ?_⟩⟩
      have K2 : Kept b g H1 H2 := kept_of m2
      have B2 := B.same m2
      refine ⟨_, rfl, _, rfl, _, rfl, _, rfl, b, g, ra, tb, s1, n, k, rfl, B2, ntb, ntg, hA.kept K2 B, ok1, d1, hR.kept K2 B ntb ntg, n2, by omega, k1, by omega, fun H3 m3 B3 => ⟨true, rfl, ifF rfl ?_⟩⟩
      have K3 := K2.trans m3
      refine ⟨_, rfl, _, rfl, _, rfl, _, rfl, b, g, ra, tb, s1, n, l, rfl, B3, ntb, ntg, hA.kept K3 B, ok1, d1, hR.kept K3 B ntb ntg, n2, ln, l1, l64, fun H4 m4 B4 => ⟨true, rfl, ifF rfl ?_⟩⟩
      have K4 := K3.trans m4
      refine ⟨_, rfl, _, rfl, _, rfl, _, rfl, t2, s2, l, rfl, hS2.stil (K4.stil B), ok2, d2, l64, fun H5 p2 m5 np2 hR2 => ?_⟩
      have K5 := K4.trans (kept_of m5)
      have B5 := B4.same m5
      obtain ⟨n2b, n2g⟩ := B4.bn np2
      refine ⟨_, rfl, b, g, rb, p2, s2, max 2 l, l, rfl, B5, n2b, n2g, hB.kept K5 B, ok2, d2, hR2, by omega, by omega, l1, l64, fun H6 m6 B6 => ⟨true, rfl, ifF rfl ?_⟩⟩
      have K6 := K5.trans m6
      refine ⟨_, rfl, _, rfl, _, rfl, _, rfl, b, g, ra, tb, s1, n, l, rfl, B6, ntb, ntg, hA.kept K6 B, ok1, d1, hR.kept K6 B ntb ntg, n2, ln, l1, l64, fun H7 m7 B7 => ⟨true, rfl, ifF rfl ?_⟩⟩
      have K7 := K6.trans m7
      refine ⟨_, rfl, _, rfl, _, rfl, ra, pw, s1, k, rfl, hA.kept K7 B, ok1, d1, k1, by omega, k300, K7.lst hw npb npg, fun H8 m8 => ⟨true, rfl, ifF rfl ?_⟩⟩
      have K8 := K7.trans (kept_of m8)
      have B8 := B7.same m8
      refine ⟨_, rfl, _, rfl, _, rfl, _, rfl, b, g, ra, tb, s1, n, l, rfl, B8, ntb, ntg, hA.kept K8 B, ok1, d1, hR.kept K8 B ntb ntg, n2, ln, l1, l64, fun H9 m9 B9 => ⟨true, rfl, ifF rfl ?_⟩⟩
      have K9 := K8.trans m9
      refine ⟨_, rfl, _, rfl, _, rfl, ra, tb, s1, n, l, rfl, hA.kept K9 B, ok1, d1, hR.kept K9 B ntb ntg, ln, l1, l64, fun H10 m10 => ⟨true, rfl, ifF rfl ?_⟩⟩
      have K10 := K9.trans (kept_of m10)
      have B10 := B9.same m10
      obtain ⟨ys, hy, hyl, hrow⟩ := hR.kept K10 B ntb ntg
      obtain ⟨tk, ek, hk⟩ := hrow l ln
      refine ⟨_, rfl, _, rfl, _, rfl, _, rfl, _, rfl, tb, ys, _, .ref tk, rfl, rfl, SqL.of hy, atI_nat ek, tk, _, 1, _, rfl, rfl, SqT.of hk, atI_nat (j := 1) rfl, ?_⟩
      refine ⟨b, g, ra, s1, l, rfl, B10, hA.kept K10 B, ok1, d1, l1, l64, fun H11 m11 B11 => ⟨true, rfl, ifF rfl ?_⟩⟩
      have K11 := K10.trans m11
      exact ⟨_, rfl, _, rfl, _, rfl, ra, pw, s1, k, rfl, hA.kept K11 B, ok1, d1, k1, by omega, k300, K11.lst hw npb npg, fun H12 _ => q H12⟩
    refine ⟨_, pss_cons (ps_set (i := 1) nd rfl (.inl rfl) (pe_callF fbox r1 (by rfl) (g__law_box T) (kpd (F__law_box T)) passN (pa_cons (pv 0) pa_nil)))
      (pss_cons (ps_set (i := 2) nd rfl (.inl rfl) (pe_callF fsp r5 (by rfl) (g__law_spec T) (kpd (F__law_spec T)) passN (pa_cons (pv 1) pa_nil)))
      (pss_cons (ps_set (i := 3) nd rfl (.inl rfl) (pe_callF fsp r5 (by rfl) (g__law_spec T) (kpd (F__law_spec T)) passN (pa_cons (pv 1) pa_nil)))
      (pss_cons (ps_set (i := 4) nd rfl (.inl rfl) (pe_callF fll r3 (by rfl) (g__law_level T) (kpd (F__law_level T)) passN (pa_cons (pv 1) pa_nil)))
      (pss_cons (ps_set (i := 5) nd rfl (.inl rfl) (pe_callF flv r6 (by rfl) (g__law_levels T) (kpd (F__law_levels T)) passN (pa_cons (pv 2) (pa_cons (pv 4) pa_nil))))
      (pss_cons (ps_set (i := 6) nd rfl (.inl rfl) (pe_callF flow r1 (by rfl) (g__law_low T) (kpd (F__law_low T)) passN (pa_cons (pv 5) (pa_cons (pv 4) (pa_cons pe_int pa_nil)))))
      (pss_cons (ps_set (i := 7) nd rfl (.inl rfl) (pe_callF fwo r1 (by rfl) (g__law_words T) (kpd (F__law_words T)) passN (pa_cons (pv 5) (pa_cons (pv 6) pa_nil))))
      (pss_cons (ps_set (i := 8) nd rfl (.inl rfl) (pe_callF fbu r8 (by rfl) (g__law_built T) (kpd (F__law_built T)) passN (pa_cons (pv 2) pa_nil)))
      (pss_cons (ps_set (i := 9) nd rfl (.inl rfl) (pe_callF fbu r8 (by rfl) (g__law_built T) (kpd (F__law_built T)) passN (pa_cons (pv 3) pa_nil)))
      h9)))))))), ?_⟩
    refine ⟨_, rfl, sa, ns, rfl, hS, fun H1 b g m1 B1 => ?_⟩
    refine ⟨_, rfl, b, g, rfl, B1, fun H2 t s1 m2 B2 hs ok1 d1 => ?_⟩
    refine ⟨_, rfl, b, g, rfl, B2, fun H3 t2 s2 m3 B3 hs2 ok2 d2 => ?_⟩
    refine ⟨_, rfl, b, g, rfl, B3, fun H4 l m4 B4 l1 l64 => ?_⟩
    have hs4 : SpecAt H4 s1 t := (hs.stil (m3.stil B2)).stil (m4.stil B3)
    have hs24 : SpecAt H4 s2 t2 := hs2.stil (m4.stil B3)
    refine ⟨_, rfl, _, rfl, t, s1, l, rfl, hs4, ok1, d1, l64, fun H5 tb m5 ntb hR => ?_⟩
    obtain ⟨nb, ng⟩ := B4.bn ntb
    have B5 := B4.same m5
    refine ⟨_, rfl, _, rfl, tb, s1, max 2 l, l, rfl, hR, ok1, l1, by omega, l64, fun k k1 kl k300 => ?_⟩
    refine ⟨_, rfl, _, rfl, tb, s1, max 2 l, k, rfl, hR, ok1, by omega, k1, by omega, by omega, k300, fun H6 pw m6 npw hw => ?_⟩
    obtain ⟨npb, npg⟩ := B5.bn npw
    have B6 := B5.same m6
    have s46 := m5.trans m6
    refine ⟨_, rfl, t, s1, rfl, hs4.stil (stil_of s46), ok1, by omega, fun H7 ra m7 hA => ?_⟩
    refine ⟨_, rfl, t2, s2, rfl, hs24.stil (stil_of (s46.trans m7)), ok2, by omega, fun H8 rb m8 hB => ?_⟩
    have m68 := m7.trans m8
    exact q9 H8 _ _ b g tb t2 pw ra rb s1 s2 (max 2 l) l k (B6.same m68) nb ng npb npg (hR.same (m6.trans m68)) (by omega) (by omega) l1 l64 k1 kl k300 (m68 _ _ hw) (hA.stil (stil_of m8)) ok1 d1 hB (hs24.stil (stil_of (s46.trans m68))) ok2 d2
end
end K12
set_option Elab.async false
set_option linter.all false
set_option maxRecDepth 100000
set_option maxHeartbeats 0
/-! The end: the head runs, the law walks. -/
namespace K12
open PySem PySem.Spec PyProof.Rows L2
theorem topOk : TopOk PySem.Challenge.rw_latereach_k12_whole_phase_words.prog := ⟨rfl, by decide +kernel⟩
theorem topOkR : TopOk R.prog := topOk
theorem noCX {P : Program} {w : World} {H : Hp} {s : Shared} {e : Value} {s' : Shared} (c : L2N.CX P w [] H s (fun _ _ _ => False) e s') : False := by
  obtain ⟨a, B, H', cls, d, _, _, _, _, _, _, _, hW⟩ := c
  exact hW
end K12
open PySem PySem.W PySem.Calls PyProof.Rows
theorem PySem.Challenge.cw_latereach_k12_whole_phase_words_holds : PySem.Challenge.rw_latereach_k12_whole_phase_words.Holds := by
  w_on; o_law
  refine HandSHeadRun.head_any (r := OpenLaw.row PySem.Challenge.rw_latereach_k12_whole_phase_words) (q := view (OpenLaw.row PySem.Challenge.rw_latereach_k12_whole_phase_words).prog [55]) (H := K12.hk) (ob := K12.ob) (M := 20000) (loose := K12.names) (d := HandSHeadRun.topDef (OpenLaw.row PySem.Challenge.rw_latereach_k12_whole_phase_words).prog 55) (kwd := []) K12.ob_eq
    (by kernel_rfl) (fun s => by kernel_rfl) K12.run (by kernel_rfl) (by kernel_rfl) (by kernel_rfl) (by rfl) (by first | assumption | decide +kernel) (by decide +kernel) ⟨rfl, rfl, rfl, rfl, rfl, by decide +kernel⟩ ?hw ?hc
  case hw => w_witness2
  case hc =>
    refine Att.attach_call (l := PySem.Challenge.rw_latereach_k12_whole_phase_words) (n := 63) rfl (by kernel_rfl) fun w s₀ s₁ mg mb fa o pm cd doc a vs ns G Y ho hd hcd hmg0 hobj hints hlen hg => ?_
    obtain ⟨K, KX, c⟩ := Y
    have hmg : mg ("law" : PySem.Str) = some (.ref fa) := by
      have e : (HandSHeadRun.topDef (OpenLaw.row PySem.Challenge.rw_latereach_k12_whole_phase_words).prog 55).name = ("law" : PySem.Str) := by kernel_rfl
      rw [← e]
      exact hmg0
    have T := K12.ev_of KX G.T.g c
    obtain ⟨fd, F⟩ := K12.F_law T
    have e2 := hmg.symm.trans (K12.g_law T)
    cases e2
    have hb := L2.FunD.bindsA (ps := ["_law_script"]) F fun _ _ _ _ _ _ us hl => match us, hl with | [_], _ => rfl
    exact L2.law_call (CX := L2N.CX PySem.Challenge.rw_latereach_k12_whole_phase_words.prog w) (k := 12) KX G.T.g G.T.b G.T.builtins G.T.nolimit hg hobj hints (Nat.le_trans hlen (by decide)) ⟨rfl, by decide, by decide⟩
      (fun base _ _ => K12.ok_law T K12.topOk F) (fun s u => hb s [u] rfl) (fun H _ hS => ⟨a, ns, rfl, hS, fun _ => rfl⟩) fun H e s' => K12.noCX
