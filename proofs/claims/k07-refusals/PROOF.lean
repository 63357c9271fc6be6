import PyProof.Rows.All
import Wide.All
import OpenK.AllK
import Wide.FinOn
import HandS.ForMost
import HandS.ForExc
import HandS.Evl
import HandS.Wide
import HandS.WideBits
import HandS.IsInst
import HandS.ClsMeth
import HandS.Defaults
import HandS.EndBits
import HandS.More
import HandS.Rev
import HandS.RevTup
import HandS.ExcCtx
import HandS.HotCalls
import HandS.ExcIs
import PySem.Challenge.RW_marksteps_k07_refusals
set_option Elab.async false
set_option linter.all false
set_option maxRecDepth 100000
set_option maxHeartbeats 4000000
namespace Mk
/-! ### turning lists: rows by places -/
/-- the row at a place -/
def trow (s : Int) : Nat → Int → List Int
  | 0, _ => []
  | n + 1, p => (p % s - p / s % s) % s :: trow s n (p / s)
/-- the place of a row -/
def tplace (s : Int) : List Int → Int
  | [] => 0
  | m :: r => tplace s r * s + (tplace s r % s + m) % s
/-- where the next row differs -/
def tspot (s : Int) : Nat → Int → Nat
  | 0, _ => 0
  | 1, _ => 0
  | n + 2, p => if p % s = s - 1 then tspot s (n + 1) (p / s) + 1 else 0
def Marks (s : Int) (l : List Int) : Prop := ∀ m ∈ l, 0 ≤ m ∧ m < s

theorem trow_len (s : Int) : ∀ (n : Nat) (p : Int), (trow s n p).length = n
  | 0, _ => rfl
  | n + 1, p => by
    show (trow s n (p / s)).length + 1 = n + 1
    rw [trow_len s n]
theorem trow_marks {s : Int} (hs : 0 < s) : ∀ (n : Nat) (p : Int), Marks s (trow s n p)
  | 0, _, m, h => by cases h
  | n + 1, p, m, h => by
    rcases List.mem_cons.mp h with h | h
    · subst h
      exact ⟨Int.emod_nonneg _ (by omega), Int.emod_lt_of_pos _ hs⟩
    · exact trow_marks hs n _ m h

theorem pow_succ' (s : Int) (n : Nat) : s ^ (n + 1) = s ^ n * s := Int.pow_succ s n
theorem pow_pos' {s : Int} (hs : 0 < s) (n : Nat) : 0 < s ^ n := Int.pow_pos hs
theorem div_lt_pow {s p : Int} {n : Nat} (hs : 0 < s) (h : p < s ^ (n + 1)) : p / s < s ^ n := by
  rw [Int.pow_succ] at h
  exact Int.ediv_lt_of_lt_mul hs h
theorem div_nonneg' {s p : Int} (hs : 0 < s) (h : 0 ≤ p) : 0 ≤ p / s := Int.ediv_nonneg h (Int.le_of_lt hs)
theorem div_parts (p s : Int) : p / s * s + p % s = p := by
  have h := Int.ediv_mul_add_emod p s
  omega
theorem add_mod_left (a b s : Int) : (a % s + b) % s = (a + b) % s := Int.emod_add_emod a s b
theorem add_mod_right (a b s : Int) : (a + b % s) % s = (a + b) % s := Int.add_emod_emod a b s
theorem tplace_trow {s : Int} (hs : 0 < s) : ∀ (n : Nat) (p : Int), 0 ≤ p → p < s ^ n → tplace s (trow s n p) = p
  | 0, p, h0, h1 => by
    have : (s ^ 0 : Int) = 1 := Int.pow_zero s
    show (0 : Int) = p
    omega
  | n + 1, p, h0, h1 => by
    have ih := tplace_trow hs n (p / s) (div_nonneg' hs h0) (div_lt_pow hs h1)
    show tplace s (trow s n (p / s)) * s + (tplace s (trow s n (p / s)) % s + (p % s - p / s % s) % s) % s = p
    rw [ih, add_mod_right]
    have e : p / s % s + (p % s - p / s % s) = p % s := by omega
    rw [e, Int.emod_emod_of_dvd _ (Int.dvd_refl s)]
    exact div_parts p s
theorem mul_add_div {q r s : Int} (hs : 0 < s) (h0 : 0 ≤ r) (h1 : r < s) : (q * s + r) / s = q := by
  rw [Int.add_comm, Int.add_mul_ediv_right _ _ (by omega), Int.ediv_eq_zero_of_lt h0 h1]
  omega
theorem mul_add_mod {q r s : Int} (hs : 0 < s) (h0 : 0 ≤ r) (h1 : r < s) : (q * s + r) % s = r := by
  rw [Int.add_comm, Int.add_mul_emod_self_right, Int.emod_eq_of_lt h0 h1]
theorem trow_tplace {s : Int} (hs : 0 < s) : ∀ (l : List Int), Marks s l → trow s l.length (tplace s l) = l
  | [], _ => rfl
  | m :: r, h => by
    have ih := trow_tplace hs r fun x hx => h x (List.mem_cons_of_mem _ hx)
    obtain ⟨m0, m1⟩ := h m List.mem_cons_self
    show ((tplace s r * s + (tplace s r % s + m) % s) % s - (tplace s r * s + (tplace s r % s + m) % s) / s % s) % s :: trow s r.length ((tplace s r * s + (tplace s r % s + m) % s) / s) = m :: r
    have a0 := Int.emod_nonneg (tplace s r % s + m) (show s ≠ 0 by omega)
    have a1 := Int.emod_lt_of_pos (tplace s r % s + m) hs
    rw [mul_add_div hs a0 a1, mul_add_mod hs a0 a1, ih]
    have e : ((tplace s r % s + m) % s - tplace s r % s) % s = m := by
      rw [show (tplace s r % s + m) % s - tplace s r % s = (tplace s r % s + m) % s + -(tplace s r % s) by omega, add_mod_left]
      rw [show tplace s r % s + m + -(tplace s r % s) = m by omega]
      exact Int.emod_eq_of_lt m0 m1
    rw [e]
theorem tplace_nonneg {s : Int} (hs : 0 < s) : ∀ (l : List Int), 0 ≤ tplace s l
  | [] => Int.le_refl 0
  | m :: r => by
    have a0 := Int.emod_nonneg (tplace s r % s + m) (show s ≠ 0 by omega)
    have := Int.mul_nonneg (tplace_nonneg hs r) (Int.le_of_lt hs)
    show 0 ≤ tplace s r * s + (tplace s r % s + m) % s
    omega
theorem tplace_lt {s : Int} (hs : 0 < s) : ∀ (l : List Int), tplace s l < s ^ l.length
  | [] => by
    show (0 : Int) < s ^ 0
    exact Int.pow_pos hs
  | m :: r => by
    have a1 := Int.emod_lt_of_pos (tplace s r % s + m) hs
    have ih := tplace_lt hs r
    show tplace s r * s + (tplace s r % s + m) % s < s ^ (r.length + 1)
    rw [Int.pow_succ]
    have h : (tplace s r + 1) * s ≤ s ^ r.length * s := Int.mul_le_mul_of_nonneg_right (by omega) (by omega)
    rw [Int.add_mul] at h
    omega
theorem tplace_inj {s : Int} (hs : 0 < s) {l l' : List Int} (h : Marks s l) (h' : Marks s l') (e : l.length = l'.length) (q : tplace s l = tplace s l') : l = l' := by
  rw [← trow_tplace hs l h, ← trow_tplace hs l' h', e, q]
theorem trow_inj {s : Int} (hs : 0 < s) {n : Nat} {p q : Int} (p0 : 0 ≤ p) (p1 : p < s ^ n) (q0 : 0 ≤ q) (q1 : q < s ^ n) (e : trow s n p = trow s n q) : p = q := by
  rw [← tplace_trow hs n p p0 p1, ← tplace_trow hs n q q0 q1, e]
/-! the figures -/
theorem trow_get {s : Int} (hs : 0 < s) : ∀ (n : Nat) (p : Int) (k : Nat), k < n → (trow s n p)[k]? = some ((p / s ^ k % s - p / s ^ (k + 1) % s) % s)
  | n + 1, p, 0, _ => by
    show some _ = _
    rw [Int.pow_zero, Int.ediv_one, show s ^ (0 + 1) = s from by rw [Int.pow_succ, Int.pow_zero, Int.one_mul]]
  | n + 1, p, k + 1, h => by
    show (trow s n (p / s))[k]? = _
    rw [trow_get hs n (p / s) k (by omega)]
    rw [Int.ediv_ediv_of_nonneg (Int.le_of_lt hs), Int.ediv_ediv_of_nonneg (Int.le_of_lt hs)]
    rw [show s * s ^ k = s ^ (k + 1) from by rw [Int.pow_succ, Int.mul_comm], show s * s ^ (k + 1) = s ^ (k + 1 + 1) from by rw [Int.pow_succ s (k + 1), Int.mul_comm]]
/-! the next row -/
theorem tspot_lt (s : Int) : ∀ (n : Nat) (p : Int), 0 < n → tspot s n p < n
  | 1, _, _ => Nat.one_pos
  | n + 2, p, _ => by
    unfold tspot
    split
    · have := tspot_lt s (n + 1) (p / s) (Nat.succ_pos n)
      omega
    · omega
theorem mul_mod_mul {a b s : Int} (hs : 0 < s) : a * s % (b * s) = a % b * s := by
  rw [Int.mul_comm a s, Int.mul_comm b s, Int.mul_emod_mul_of_pos _ _ hs, Int.mul_comm]
theorem next_div {s p : Int} {n : Nat} (hs : 1 < s) (h0 : 0 ≤ p) (h1 : p < s ^ (n + 1)) (hm : p % s = s - 1) : (p + 1) % s ^ (n + 1) / s = (p / s + 1) % s ^ n ∧ (p + 1) % s ^ (n + 1) % s = 0 := by
  have hp := div_parts p s
  have e1 : p + 1 = (p / s + 1) * s := by
    rw [Int.add_mul]
    omega
  rw [e1, Int.pow_succ, mul_mod_mul (by omega)]
  exact ⟨Int.mul_ediv_cancel _ (by omega), Int.mul_emod_left _ _⟩
theorem trow_next {s : Int} (hs : 1 < s) : ∀ (n : Nat) (p : Int), 0 < n → 0 ≤ p → p < s ^ n →
    trow s n ((p + 1) % s ^ n) = (trow s n p).modify (tspot s n p) fun m => (m + 1) % s
  | 1, p, _, h0, h1 => by
    rw [show s ^ 1 = s by rw [Int.pow_succ, Int.pow_zero, Int.one_mul]] at *
    have z : ∀ q : Int, 0 ≤ q → q < s → trow s 1 q = [q] := fun q q0 q1 => by
      show [(q % s - q / s % s) % s] = [q]
      rw [Int.ediv_eq_zero_of_lt q0 q1, Int.zero_emod, Int.emod_eq_of_lt q0 q1, Int.sub_zero, Int.emod_eq_of_lt q0 q1]
    rw [z p h0 h1, z _ (Int.emod_nonneg _ (by omega)) (Int.emod_lt_of_pos _ (by omega))]
    rfl
  | n + 2, p, _, h0, h1 => by
    have hp := div_parts p s
    have m0 := Int.emod_nonneg p (show s ≠ 0 by omega)
    have m1 := Int.emod_lt_of_pos p (show 0 < s by omega)
    by_cases hm : p % s = s - 1
    · obtain ⟨e1, e2⟩ := next_div (n := n + 1) hs h0 h1 hm
      have ih := trow_next hs (n + 1) (p / s) (Nat.succ_pos n) (div_nonneg' (by omega) h0) (div_lt_pow (by omega) h1)
      have es : tspot s (n + 2) p = tspot s (n + 1) (p / s) + 1 := if_pos hm
      rw [es]
      show ((p + 1) % s ^ (n + 1 + 1) % s - (p + 1) % s ^ (n + 1 + 1) / s % s) % s :: trow s (n + 1) ((p + 1) % s ^ (n + 1 + 1) / s) = (p % s - p / s % s) % s :: (trow s (n + 1) (p / s)).modify (tspot s (n + 1) (p / s)) fun m => (m + 1) % s
      rw [e1, e2, ih, hm]
      congr 1
      rw [Int.emod_emod_of_dvd _ ⟨s ^ n, by rw [Int.pow_succ, Int.mul_comm]⟩]
      rw [show (0 : Int) - (p / s + 1) % s = 0 + -((p / s + 1) % s) by omega]
      have k1 : (s - 1 - p / s % s) % s = (s - 1 - p / s) % s := by
        rw [Int.sub_emod, Int.emod_emod_of_dvd _ (Int.dvd_refl s), ← Int.sub_emod]
      have k2 : (0 + -((p / s + 1) % s)) % s = (-(p / s + 1)) % s := by
        rw [show (0 : Int) + -((p / s + 1) % s) = 0 - (p / s + 1) % s by omega, Int.sub_emod, Int.emod_emod_of_dvd _ (Int.dvd_refl s), ← Int.sub_emod]
        congr 1
        omega
      rw [k1, k2, show s - 1 - p / s = -(p / s + 1) + s by omega, Int.add_emod_right]
    · have es : tspot s (n + 2) p = 0 := if_neg hm
      have d1 : (p + 1) / s = p / s := by
        conv => lhs; rw [show p + 1 = p / s * s + (p % s + 1) by omega]
        exact mul_add_div (by omega) (by omega) (by omega)
      have d2 : (p + 1) % s = p % s + 1 := by
        conv => lhs; rw [show p + 1 = p / s * s + (p % s + 1) by omega]
        exact mul_add_mod (by omega) (by omega) (by omega)
      have lt : p + 1 < s ^ (n + 1 + 1) := by
        have q := div_lt_pow (n := n + 1) (show 0 < s by omega) h1
        have t : (p / s + 1) * s ≤ s ^ (n + 1) * s := Int.mul_le_mul_of_nonneg_right (by omega) (by omega)
        have t2 : (p / s + 1) * s = p / s * s + s := by rw [Int.add_mul, Int.one_mul]
        rw [Int.pow_succ s (n + 1)]
        omega
      rw [es, Int.emod_eq_of_lt (by omega) lt]
      show ((p + 1) % s - (p + 1) / s % s) % s :: trow s (n + 1) ((p + 1) / s) = ((p % s - p / s % s) % s + 1) % s :: trow s (n + 1) (p / s)
      rw [d1, d2, add_mod_left]
      congr 2
      omega
end Mk
namespace Mk
/-! ### choosing lists -/
/-- how many rows -/
def bin : Nat → Nat → Nat
  | _, 0 => 1
  | 0, _ + 1 => 0
  | n + 1, k + 1 => bin n k + bin n (k + 1)
theorem bin_zero (n : Nat) : bin n 0 = 1 := by cases n <;> rfl
theorem bin_over : ∀ (n k : Nat), n < k → bin n k = 0
  | 0, k + 1, _ => rfl
  | n + 1, k + 1, h => by
    show bin n k + bin n (k + 1) = 0
    rw [bin_over n k (by omega), bin_over n (k + 1) (by omega)]
theorem bin_self : ∀ n : Nat, bin n n = 1
  | 0 => rfl
  | n + 1 => by
    show bin n n + bin n (n + 1) = 1
    rw [bin_self n, bin_over n (n + 1) (by omega)]
theorem bin_pos : ∀ (n k : Nat), k ≤ n → 0 < bin n k
  | n, 0, _ => by rw [bin_zero]; omega
  | n + 1, k + 1, h => by
    have := bin_pos n k (by omega)
    show 0 < bin n k + bin n (k + 1)
    omega
theorem bin_succ (n k : Nat) : bin (n + 1) (k + 1) = bin n k + bin n (k + 1) := rfl
/-- (k + 1) * bin n (k + 1) = (n - k) * bin n k, over the ints -/
theorem bin_up : ∀ (n k : Nat), (bin n (k + 1) : Int) * ((k : Int) + 1) = (bin n k : Int) * ((n : Int) - (k : Int))
  | 0, 0 => rfl
  | 0, k + 1 => by
    show ((0 : Nat) : Int) * _ = ((0 : Nat) : Int) * _
    omega
  | n + 1, 0 => by
    have ih := bin_up n 0
    rw [bin_succ, bin_zero, bin_zero] at *
    simp only [Int.natCast_add, Int.natCast_one, Int.natCast_zero] at *
    omega
  | n + 1, k + 1 => by
    have i1 := bin_up n k
    have i2 := bin_up n (k + 1)
    rw [bin_succ n (k + 1), bin_succ n k]
    simp only [Int.natCast_add, Int.natCast_one] at *
    generalize (bin n k : Int) = a at *
    generalize (bin n (k + 1) : Int) = b at *
    generalize (bin n (k + 1 + 1) : Int) = c at *
    generalize (n : Int) = m at *
    generalize (k : Int) = j at *
    -- b (j+1) = a (m-j); c (j+2) = b (m-j-1); goal (b + c) (j+2) = (a+b)(m+1-j-1)
    have e1 : (b + c) * (j + 1 + 1) = b * (j + 1) + b + c * (j + 1 + 1) := by
      rw [Int.add_mul b c, Int.mul_add b (j + 1) 1, Int.mul_one]
    have e2 : (a + b) * (m + 1 - (j + 1)) = a * (m - j) + b * (m - (j + 1)) + b := by
      rw [show m + 1 - (j + 1) = m - j by omega, Int.add_mul, show m - j = m - (j + 1) + 1 by omega, Int.mul_add b, Int.mul_one]
      omega
    omega
/-- n-th times: bin (n + 1) k * (n + 1 - k) = bin n k * (n + 1) -/
theorem bin_down (n k : Nat) : (bin (n + 1) k : Int) * ((n : Int) + 1 - (k : Int)) = (bin n k : Int) * ((n : Int) + 1) := by
  cases k with
  | zero =>
    rw [bin_zero, bin_zero]
    simp only [Int.natCast_zero]
    omega
  | succ k =>
    have i1 := bin_up n k
    rw [bin_succ]
    simp only [Int.natCast_add, Int.natCast_one] at *
    generalize (bin n k : Int) = a at *
    generalize (bin n (k + 1) : Int) = b at *
    generalize (n : Int) = m at *
    generalize (k : Int) = j at *
    have e1 : (a + b) * (m + 1 - (j + 1)) = a * (m - j) + b * (m - j) := by
      rw [show m + 1 - (j + 1) = m - j by omega, Int.add_mul]
    have e2 : b * (m + 1) = b * (m - j) + b * (j + 1) := by
      rw [← Int.mul_add]
      congr 1
      omega
    omega
/-- bin (n + 1) (k + 1) * (k + 1) = bin n k * (n + 1) -/
theorem bin_diag (n k : Nat) : (bin (n + 1) (k + 1) : Int) * ((k : Int) + 1) = (bin n k : Int) * ((n : Int) + 1) := by
  have i1 := bin_up n k
  rw [bin_succ]
  simp only [Int.natCast_add, Int.natCast_one] at *
  generalize (bin n k : Int) = a at *
  generalize (bin n (k + 1) : Int) = b at *
  generalize (n : Int) = m at *
  generalize (k : Int) = j at *
  have e1 : (a + b) * (j + 1) = a * (j + 1) + b * (j + 1) := Int.add_mul _ _ _
  have e2 : a * (m + 1) = a * (m - j) + a * (j + 1) := by
    rw [← Int.mul_add]
    congr 1
    omega
  omega
theorem bin_symm : ∀ (n k : Nat), k ≤ n → bin n (n - k) = bin n k
  | 0, 0, _ => rfl
  | n + 1, 0, _ => by
    rw [Nat.sub_zero, bin_self, bin_zero]
  | n + 1, k + 1, h => by
    have e : n + 1 - (k + 1) = n - k := by omega
    rw [e]
    by_cases hk : n - k = 0
    · have : k = n := by omega
      subst this
      rw [hk, bin_zero, bin_self]
    · obtain ⟨j, hj⟩ : ∃ j, n - k = j + 1 := ⟨n - k - 1, by omega⟩
      rw [hj, bin_succ, bin_succ]
      have a := bin_symm n k (by omega)
      have b := bin_symm n (k + 1) (by omega)
      rw [hj] at a
      rw [show n - (k + 1) = j by omega] at b
      omega
theorem bin_le_pow : ∀ (n k : Nat), bin n k ≤ 2 ^ n
  | n, 0 => by rw [bin_zero]; exact Nat.one_le_two_pow
  | 0, k + 1 => Nat.zero_le _
  | n + 1, k + 1 => by
    have a := bin_le_pow n k
    have b := bin_le_pow n (k + 1)
    rw [bin_succ, Nat.pow_succ]
    omega
/-- exact divisions -/
theorem div_exact {a b c : Int} (hb : 0 < b) (h : c * b = a) : a / b = c := by
  rw [← h]
  exact Int.mul_ediv_cancel _ (by omega)
theorem bin_up_div (n k : Nat) : (bin n k : Int) * ((n : Int) - (k : Int)) / ((k : Int) + 1) = (bin n (k + 1) : Int) := div_exact (by omega) (bin_up n k)
theorem bin_down_div (n k : Nat) : (bin (n + 1) k : Int) * ((n : Int) + 1 - (k : Int)) / ((n : Int) + 1) = (bin n k : Int) := by
  rw [bin_down]
  exact Int.mul_ediv_cancel _ (by omega)
theorem bin_zero_div (n k : Nat) (h : k ≤ n) : (bin n k : Int) * ((n : Int) + 1) / ((n : Int) + 1 - (k : Int)) = (bin (n + 1) k : Int) := div_exact (by omega) (bin_down n k)
theorem bin_one_div (n k : Nat) : (bin n k : Int) * ((n : Int) + 1) / ((k : Int) + 1) = (bin (n + 1) (k + 1) : Int) := div_exact (by omega) (bin_diag n k)

/-! ### rows of ones -/
/-- a row is told from its last spot on: crev n k p is the row at the place p, backwards -/
def crev : Nat → Nat → Int → List Int
  | 0, _, _ => []
  | n + 1, k, p => if p < (bin n k : Int) then 0 :: crev n k p else 1 :: crev n (k - 1) ((bin (n + 1) k : Int) - 1 - p)
/-- the place of a row told backwards, and its ones -/
def ones : List Int → Nat
  | [] => 0
  | m :: r => if m = 1 then ones r + 1 else ones r
def cpl : List Int → Int
  | [] => 0
  | m :: r => if m = 1 then (bin (r.length + 1) (ones r + 1) : Int) - 1 - cpl r else cpl r
theorem ones_cons (m : Int) (r : List Int) : ones (m :: r) = if m = 1 then ones r + 1 else ones r := rfl
theorem cpl_cons (m : Int) (r : List Int) : cpl (m :: r) = if m = 1 then (bin (r.length + 1) (ones r + 1) : Int) - 1 - cpl r else cpl r := rfl
def Bits (l : List Int) : Prop := ∀ m ∈ l, m = 0 ∨ m = 1
def crow (n k : Nat) (p : Int) : List Int := (crev n k p).reverse
def cplace (l : List Int) : Int := cpl l.reverse
theorem crev_len : ∀ (n k : Nat) (p : Int), (crev n k p).length = n
  | 0, _, _ => rfl
  | n + 1, k, p => by
    unfold crev
    split
    · exact congrArg (· + 1) (crev_len n k p)
    · exact congrArg (· + 1) (crev_len n (k - 1) _)
theorem crev_bits : ∀ (n k : Nat) (p : Int), Bits (crev n k p)
  | 0, _, _, _, h => by cases h
  | n + 1, k, p, m, h => by
    unfold crev at h
    split at h
    · rcases List.mem_cons.mp h with h | h
      · exact .inl h
      · exact crev_bits n k p m h
    · rcases List.mem_cons.mp h with h | h
      · exact .inr h
      · exact crev_bits n (k - 1) _ m h
theorem ones_le : ∀ l : List Int, ones l ≤ l.length
  | [] => Nat.le_refl _
  | m :: r => by
    have := ones_le r
    unfold ones
    rw [List.length_cons]
    split <;> omega
/-- what a turn of row_at needs -/
theorem crev_low {n k : Nat} {p : Int} (h : p < (bin n k : Int)) : crev (n + 1) k p = 0 :: crev n k p := if_pos h
theorem crev_high {n k : Nat} {p : Int} (h : ¬ p < (bin n k : Int)) : crev (n + 1) k p = 1 :: crev n (k - 1) ((bin (n + 1) k : Int) - 1 - p) := if_neg h
theorem high_one {n k : Nat} {p : Int} (h : ¬ p < (bin n k : Int)) (h1 : p < (bin (n + 1) k : Int)) : ∃ j, k = j + 1 := by
  cases k with
  | zero =>
    rw [bin_zero] at *
    omega
  | succ j => exact ⟨j, rfl⟩
theorem crev_ones : ∀ (n k : Nat) (p : Int), 0 ≤ p → p < (bin n k : Int) → ones (crev n k p) = k
  | 0, k, p, h0, h1 => by
    cases k with
    | zero => rfl
    | succ k =>
      have : (bin 0 (k + 1) : Int) = 0 := rfl
      omega
  | n + 1, k, p, h0, h1 => by
    by_cases h : p < (bin n k : Int)
    · rw [crev_low h]
      exact crev_ones n k p h0 h
    · obtain ⟨j, rfl⟩ := high_one h h1
      rw [crev_high h]
      have e := bin_succ n j
      show ones (crev n j _) + 1 = j + 1
      rw [crev_ones n j _ (by omega) (by omega)]
theorem cpl_nonneg_lt : ∀ l : List Int, 0 ≤ cpl l ∧ cpl l < (bin l.length (ones l) : Int)
  | [] => ⟨Int.le_refl 0, by decide⟩
  | m :: r => by
    obtain ⟨a, b⟩ := cpl_nonneg_lt r
    have e := bin_succ r.length (ones r)
    rw [cpl_cons, ones_cons, List.length_cons]
    split
    · omega
    · have : bin r.length (ones r) ≤ bin (r.length + 1) (ones r) := by
        cases ones r with
        | zero => rw [bin_zero, bin_zero]; omega
        | succ j => rw [bin_succ]; omega
      omega
theorem cpl_crev : ∀ (n k : Nat) (p : Int), 0 ≤ p → p < (bin n k : Int) → cpl (crev n k p) = p
  | 0, k, p, h0, h1 => by
    show (0 : Int) = p
    cases k with
    | zero =>
      have : (bin 0 0 : Int) = 1 := rfl
      omega
    | succ k =>
      have : (bin 0 (k + 1) : Int) = 0 := rfl
      omega
  | n + 1, k, p, h0, h1 => by
    by_cases h : p < (bin n k : Int)
    · rw [crev_low h]
      exact cpl_crev n k p h0 h
    · obtain ⟨j, rfl⟩ := high_one h h1
      rw [crev_high h]
      have e := bin_succ n j
      have b0 : (0 : Int) ≤ (bin (n + 1) (j + 1) : Int) - 1 - p := by omega
      have b1 : (bin (n + 1) (j + 1) : Int) - 1 - p < (bin n j : Int) := by omega
      show (bin ((crev n j _).length + 1) (ones (crev n j _) + 1) : Int) - 1 - cpl (crev n j _) = p
      rw [crev_len, crev_ones n j _ b0 b1, cpl_crev n j _ b0 b1]
      omega
theorem crev_cpl : ∀ (l : List Int), Bits l → crev l.length (ones l) (cpl l) = l
  | [], _ => rfl
  | m :: r, h => by
    have hr : Bits r := fun x hx => h x (List.mem_cons_of_mem _ hx)
    have ih := crev_cpl r hr
    obtain ⟨a, b⟩ := cpl_nonneg_lt r
    have e := bin_succ r.length (ones r)
    rcases h m List.mem_cons_self with rfl | rfl
    · show crev (r.length + 1) (ones r) (cpl r) = 0 :: r
      rw [crev_low b, ih]
    · show crev (r.length + 1) (ones r + 1) ((bin (r.length + 1) (ones r + 1) : Int) - 1 - cpl r) = 1 :: r
      have hn : ¬ (bin (r.length + 1) (ones r + 1) : Int) - 1 - cpl r < (bin r.length (ones r + 1) : Int) := by omega
      rw [crev_high hn, show ones r + 1 - 1 = ones r from rfl]
      rw [show (bin (r.length + 1) (ones r + 1) : Int) - 1 - ((bin (r.length + 1) (ones r + 1) : Int) - 1 - cpl r) = cpl r by omega, ih]
/-! forwards -/
theorem ones_append : ∀ (l r : List Int), ones (l ++ r) = ones l + ones r
  | [], r => by simp [ones]
  | m :: l, r => by
    have ih := ones_append l r
    rw [List.cons_append, ones_cons, ones_cons, ih]
    split <;> omega
theorem ones_reverse : ∀ l : List Int, ones l.reverse = ones l
  | [] => rfl
  | m :: r => by
    rw [List.reverse_cons, ones_append, ones_reverse r]
    show _ + (if m = 1 then 0 + 1 else 0) = if m = 1 then ones r + 1 else ones r
    split <;> omega
theorem bits_reverse {l : List Int} (h : Bits l) : Bits l.reverse := fun m hm => h m (List.mem_reverse.mp hm)
theorem crow_len (n k : Nat) (p : Int) : (crow n k p).length = n := by
  unfold crow
  rw [List.length_reverse, crev_len]
theorem crow_bits (n k : Nat) (p : Int) : Bits (crow n k p) := bits_reverse (crev_bits n k p)
theorem crow_ones {n k : Nat} {p : Int} (h0 : 0 ≤ p) (h1 : p < (bin n k : Int)) : ones (crow n k p) = k := by
  unfold crow
  rw [ones_reverse, crev_ones n k p h0 h1]
theorem cplace_crow {n k : Nat} {p : Int} (h0 : 0 ≤ p) (h1 : p < (bin n k : Int)) : cplace (crow n k p) = p := by
  unfold cplace crow
  rw [List.reverse_reverse, cpl_crev n k p h0 h1]
theorem crow_cplace {l : List Int} (h : Bits l) : crow l.length (ones l) (cplace l) = l := by
  have e := crev_cpl l.reverse (bits_reverse h)
  rw [List.length_reverse, ones_reverse] at e
  unfold crow cplace
  rw [e, List.reverse_reverse]
theorem cplace_nonneg (l : List Int) : 0 ≤ cplace l := (cpl_nonneg_lt l.reverse).1
theorem cplace_lt (l : List Int) : cplace l < (bin l.length (ones l) : Int) := by
  have h := (cpl_nonneg_lt l.reverse).2
  rw [List.length_reverse, ones_reverse] at h
  exact h
theorem cplace_inj {l l' : List Int} (h : Bits l) (h' : Bits l') (e : l.length = l'.length) (o : ones l = ones l') (q : cplace l = cplace l') : l = l' := by
  rw [← crow_cplace h, ← crow_cplace h', e, o, q]
/-- one more spot behind -/
theorem cplace_zero (l : List Int) : cplace (l ++ [0]) = cplace l := by
  unfold cplace
  rw [List.reverse_append]
  rfl
theorem cplace_one (l : List Int) : cplace (l ++ [1]) = (bin (l.length + 1) (ones l + 1) : Int) - 1 - cplace l := by
  unfold cplace
  rw [List.reverse_append]
  show (bin (l.reverse.length + 1) (ones l.reverse + 1) : Int) - 1 - cpl l.reverse = _
  rw [List.length_reverse, ones_reverse]
/-- ones and sums -/
theorem bits_sum : ∀ {l : List Int}, Bits l → l.sum = (ones l : Int)
  | [], _ => rfl
  | m :: r, h => by
    have ih := bits_sum (l := r) fun x hx => h x (List.mem_cons_of_mem _ hx)
    rw [List.sum_cons, ih]
    rcases h m List.mem_cons_self with rfl | rfl
    · show (0 : Int) + ones r = (ones r : Int)
      omega
    · show (1 : Int) + ones r = ((ones r + 1 : Nat) : Int)
      omega
/-! ### spots that differ -/
theorem filter_one : ∀ (n j : Nat) (p : Nat → Bool), j < n → (∀ k, k < n → (p k = true ↔ k = j)) → (List.range n).filter p = [j]
  | n + 1, j, p, hj, h => by
    rw [List.range_succ, List.filter_append]
    by_cases e : j = n
    · subst e
      have h1 : (List.range j).filter p = [] := by
        rw [List.filter_eq_nil_iff]
        intro k hk
        have hk' := List.mem_range.mp hk
        rw [h k (by omega)]
        omega
      have h2 : p j = true := (h j (by omega)).mpr rfl
      rw [h1, List.filter_cons, if_pos h2]
      rfl
    · have h1 := filter_one n j p (by omega) fun k hk => h k (by omega)
      have h2 : ¬ p n = true := fun z => e ((h n (by omega)).mp z).symm
      rw [h1, List.filter_cons, if_neg h2]
      rfl
theorem modify_set {f : Int → Int} : ∀ {xs : List Int} {j : Nat}, j < xs.length → xs.modify j f = xs.set j (f (xs.getD j 0))
  | x :: r, 0, _ => rfl
  | x :: r, j + 1, h => by
    have ih := modify_set (f := f) (xs := r) (j := j) (by simpa using h)
    show x :: r.modify j f = x :: r.set j (f (r.getD j 0))
    rw [ih]
theorem pow_one_zero {s : Int} (hs : 2 ≤ s) {n : Nat} (h : s ^ n = 1) : n = 0 := by
  cases n with
  | zero => rfl
  | succ n =>
    have h1 : 0 < s ^ n := Int.pow_pos (by omega)
    rw [Int.pow_succ] at h
    have h2 : 1 * 2 ≤ s ^ n * s := Int.mul_le_mul (by omega) hs (by omega) (by omega)
    omega
theorem prev_place {p m : Int} (h0 : 0 ≤ p) (h1 : p < m) : ((p + 1) % m + -1) % m = p := by
  rw [Int.emod_add_emod, show p + 1 + -1 = p by omega, Int.emod_eq_of_lt h0 h1]
theorem mark_ne {s m : Int} (hs : 2 ≤ s) (h0 : 0 ≤ m) (h1 : m < s) : (m + 1) % s ≠ m := by
  by_cases h : m + 1 = s
  · rw [h, Int.emod_self]
    omega
  · rw [Int.emod_eq_of_lt (by omega) (by omega)]
    omega
/-! ### bits -/
theorem Bits.set {xs : List Int} (h : Bits xs) (j : Nat) {m : Int} (hm : m = 0 ∨ m = 1) : Bits (xs.set j m) := fun x hx => by
  rcases List.mem_or_eq_of_mem_set hx with hx | rfl
  · exact h x hx
  · exact hm
theorem Bits.append {xs ys : List Int} (h : Bits xs) (h2 : Bits ys) : Bits (xs ++ ys) := fun x hx => by
  rcases List.mem_append.mp hx with hx | hx
  · exact h x hx
  · exact h2 x hx
theorem Bits.one {m : Int} (h : m = 0 ∨ m = 1) : Bits [m] := fun x hx => by
  rw [List.mem_singleton.mp hx]
  exact h
theorem Bits.rep {m : Int} (n : Nat) (h : m = 0 ∨ m = 1) : Bits (List.replicate n m) := fun x hx => by
  rw [(List.mem_replicate.mp hx).2]
  exact h
theorem bits_marks {l : List Int} (h : Bits l) : Marks 2 l := fun m hm => by
  rcases h m hm with h | h <;> omega
theorem marks_bits {l : List Int} (h : Marks 2 l) : Bits l := fun m hm => by
  have := h m hm
  omega
theorem mod_two (x : Int) : x % 2 = 0 ∨ x % 2 = 1 := by omega
/-! ### the next row of a choosing list -/
/-- one swap leads from the one to the other -/
inductive Swp : List Int → List Int → Prop
  | down (A B C : List Int) : Swp (A ++ 1 :: (B ++ 0 :: C)) (A ++ 0 :: (B ++ 1 :: C))
  | up (A B C : List Int) : Swp (A ++ 0 :: (B ++ 1 :: C)) (A ++ 1 :: (B ++ 0 :: C))
theorem Swp.symm {l r : List Int} (h : Swp l r) : Swp r l := by
  cases h with
  | down A B C => exact .up A B C
  | up A B C => exact .down A B C
theorem Swp.snoc {l r : List Int} (h : Swp l r) (m : Int) : Swp (l ++ [m]) (r ++ [m]) := by
  cases h with
  | down A B C =>
    have e := Swp.down A B (C ++ [m])
    simpa using e
  | up A B C =>
    have e := Swp.up A B (C ++ [m])
    simpa using e
theorem crow_low {n k : Nat} {p : Int} (h : p < (bin n k : Int)) : crow (n + 1) k p = crow n k p ++ [0] := by
  unfold crow
  rw [crev_low h, List.reverse_cons]
theorem crow_high {n k : Nat} {p : Int} (h : ¬ p < (bin n k : Int)) : crow (n + 1) k p = crow n (k - 1) ((bin (n + 1) k : Int) - 1 - p) ++ [1] := by
  unfold crow
  rw [crev_high h, List.reverse_cons]
theorem crow_first : ∀ (n k : Nat), k ≤ n → crow n k 0 = List.replicate k 1 ++ List.replicate (n - k) 0
  | 0, 0, _ => rfl
  | n + 1, k, h => by
    by_cases hk : k ≤ n
    · have hp := bin_pos n k hk
      rw [crow_low (by omega), crow_first n k hk, List.append_assoc, show n + 1 - k = (n - k) + 1 by omega, List.replicate_succ']
    · obtain rfl : k = n + 1 := by omega
      have h0 := bin_over n (n + 1) (by omega)
      have h1 := bin_self (n + 1)
      rw [crow_high (by omega), h1, show ((1 : Nat) : Int) - 1 - 0 = 0 by omega, show n + 1 - 1 = n from rfl, crow_first n n (Nat.le_refl _), Nat.sub_self, Nat.sub_self]
      simp [List.replicate_succ']
theorem crow_last {m j : Nat} (h : j ≤ m) : crow (m + 1) (j + 1) ((bin (m + 1) (j + 1) : Int) - 1) = List.replicate j 1 ++ (List.replicate (m - j) 0 ++ [1]) := by
  have hb := bin_succ m j
  have hp := bin_pos m j h
  rw [crow_high (by omega), show (bin (m + 1) (j + 1) : Int) - 1 - ((bin (m + 1) (j + 1) : Int) - 1) = 0 by omega, show j + 1 - 1 = j from rfl, crow_first m j h, List.append_assoc]
theorem crow_step : ∀ (n k : Nat) (p : Int), 0 ≤ p → p + 1 < (bin n k : Int) → Swp (crow n k p) (crow n k (p + 1))
  | 0, k, p, h0, h1 => by
    cases k with
    | zero =>
      have : (bin 0 0 : Int) = 1 := rfl
      omega
    | succ k =>
      have : (bin 0 (k + 1) : Int) = 0 := rfl
      omega
  | n + 1, k, p, h0, h1 => by
    by_cases ha : p + 1 < (bin n k : Int)
    · rw [crow_low ha, crow_low (show p < (bin n k : Int) by omega)]
      exact (crow_step n k p h0 ha).snoc 0
    · obtain ⟨j, rfl⟩ := high_one ha h1
      have hb := bin_succ n j
      by_cases hc : p < (bin n (j + 1) : Int)
      · -- from the first part to the second
        have hp : p = (bin n (j + 1) : Int) - 1 := by omega
        have hjn : j + 1 ≤ n := by
          rcases Nat.lt_or_ge n (j + 1) with h | h
          · have := bin_over n (j + 1) h
            omega
          · exact h
        obtain ⟨m, rfl⟩ : ∃ m, n = m + 1 := ⟨n - 1, by omega⟩
        rw [crow_low hc, crow_high ha, hp, crow_last (by omega), show j + 1 - 1 = j from rfl]
        rw [show (bin (m + 1 + 1) (j + 1) : Int) - 1 - ((bin (m + 1) (j + 1) : Int) - 1 + 1) = (bin (m + 1) j : Int) - 1 by omega]
        cases j with
        | zero =>
          have e1 : (bin (m + 1) 0 : Int) - 1 = 0 := by rw [bin_zero]; rfl
          rw [e1, crow_first (m + 1) 0 (Nat.zero_le _)]
          have e := Swp.down (List.replicate m 0) [] []
          have e2 : List.replicate (m + 1 - 0) (0 : Int) = List.replicate m 0 ++ [0] := by rw [Nat.sub_zero, List.replicate_succ']
          rw [e2]
          simpa using e
        | succ i =>
          rw [crow_last (by omega)]
          have e := Swp.down (List.replicate i 1) (List.replicate (m - (i + 1)) 0 ++ [1]) []
          have e2 : List.replicate (m - i) (0 : Int) = 0 :: List.replicate (m - (i + 1)) 0 := by
            rw [show m - i = (m - (i + 1)) + 1 by omega, List.replicate_succ]
          rw [e2, List.replicate_succ']
          simpa using e
      · rw [crow_high ha, crow_high hc, show j + 1 - 1 = j from rfl]
        have ih := crow_step n j ((bin (n + 1) (j + 1) : Int) - 1 - (p + 1)) (by omega) (by omega)
        rw [show (bin (n + 1) (j + 1) : Int) - 1 - (p + 1) + 1 = (bin (n + 1) (j + 1) : Int) - 1 - p by omega] at ih
        exact ih.symm.snoc 1
theorem crow_wrap {n k : Nat} (h : 1 < bin n k) : Swp (crow n k ((bin n k : Int) - 1)) (crow n k 0) := by
  have hk : k ≤ n := by
    rcases Nat.lt_or_ge n k with h' | h'
    · have := bin_over n k h'
      omega
    · exact h'
  have hk0 : k ≠ 0 := fun z => by
    rw [z, bin_zero] at h
    omega
  have hkn : k ≠ n := fun z => by
    rw [z, bin_self] at h
    omega
  obtain ⟨j, rfl⟩ : ∃ j, k = j + 1 := ⟨k - 1, by omega⟩
  obtain ⟨m, rfl⟩ : ∃ m, n = m + 1 := ⟨n - 1, by omega⟩
  rw [crow_last (by omega), crow_first _ _ hk]
  have e := Swp.up (List.replicate j 1) (List.replicate (m - (j + 1)) 0) []
  have e2 : List.replicate (m - j) (0 : Int) = 0 :: List.replicate (m - (j + 1)) 0 := by
    rw [show m - j = (m - (j + 1)) + 1 by omega, List.replicate_succ]
  have e3 : List.replicate (m + 1 - (j + 1)) (0 : Int) = List.replicate (m - (j + 1)) 0 ++ [0] := by
    rw [show m + 1 - (j + 1) = (m - (j + 1)) + 1 by omega, List.replicate_succ']
  rw [e2, e3, List.replicate_succ']
  simpa using e
theorem crow_next {n k : Nat} {p : Int} (h : 1 < bin n k) (h0 : 0 ≤ p) (h1 : p < (bin n k : Int)) : Swp (crow n k p) (crow n k ((p + 1) % (bin n k : Int))) := by
  by_cases hp : p + 1 < (bin n k : Int)
  · rw [Int.emod_eq_of_lt (by omega) hp]
    exact crow_step n k p h0 hp
  · have e : p = (bin n k : Int) - 1 := by omega
    have e2 : p + 1 = (bin n k : Int) := by omega
    rw [e2, Int.emod_self, e]
    exact crow_wrap h
/-- the two spots -/
def swapped (l : List Int) (i j : Nat) : List Int := (l.set i 0).set j 1
structure SwpAt (l r : List Int) (i j : Nat) : Prop where
  i1 : l[i]? = some 1
  j0 : l[j]? = some 0
  eq : r = swapped l i j
theorem SwpAt.ne {l r : List Int} {i j : Nat} (h : SwpAt l r i j) : i ≠ j := fun z => by
  have a := h.i1
  rw [z, h.j0] at a
  cases a
theorem Swp.at {l r : List Int} (h : Swp l r) : ∃ i j, SwpAt l r i j := by
  cases h with
  | down A B C =>
    refine ⟨A.length, A.length + 1 + B.length, ?_, ?_, ?_⟩
    · simp
    · rw [List.getElem?_append_right (by omega), show A.length + 1 + B.length - A.length = B.length + 1 by omega, List.getElem?_cons_succ, List.getElem?_append_right (Nat.le_refl _), Nat.sub_self]
      rfl
    · unfold swapped
      rw [List.set_append_right _ _ (Nat.le_refl _), Nat.sub_self, List.set_cons_zero, List.set_append_right _ _ (by omega), show A.length + 1 + B.length - A.length = B.length + 1 by omega, List.set_cons_succ, List.set_append_right _ _ (Nat.le_refl _), Nat.sub_self, List.set_cons_zero]
  | up A B C =>
    refine ⟨A.length + 1 + B.length, A.length, ?_, ?_, ?_⟩
    · rw [List.getElem?_append_right (by omega), show A.length + 1 + B.length - A.length = B.length + 1 by omega, List.getElem?_cons_succ, List.getElem?_append_right (Nat.le_refl _), Nat.sub_self]
      rfl
    · simp
    · unfold swapped
      rw [List.set_append_right _ _ (show A.length ≤ A.length + 1 + B.length by omega), show A.length + 1 + B.length - A.length = B.length + 1 by omega, List.set_cons_succ, List.set_append_right _ _ (Nat.le_refl _), Nat.sub_self, List.set_cons_zero, List.set_append_right _ _ (Nat.le_refl _), Nat.sub_self, List.set_cons_zero]
theorem swapped_len (l : List Int) (i j : Nat) : (swapped l i j).length = l.length := by simp [swapped]
theorem SwpAt.lt {l r : List Int} {i j : Nat} (h : SwpAt l r i j) : i < l.length ∧ j < l.length := ⟨(List.getElem?_eq_some_iff.mp h.i1).1, (List.getElem?_eq_some_iff.mp h.j0).1⟩
/-- mark by mark -/
theorem SwpAt.get {l r : List Int} {i j : Nat} (h : SwpAt l r i j) {k : Nat} (hk : k < l.length) : r.getD k 0 = if k = j then 1 else if k = i then 0 else l.getD k 0 := by
  rw [h.eq, swapped]
  obtain ⟨hi, hj⟩ := h.lt
  rw [List.getD_eq_getElem?_getD, List.getElem?_set, List.getElem?_set]
  by_cases h1 : j = k
  · subst h1
    simp [hj]
  · have h1' : ¬ k = j := fun z => h1 z.symm
    by_cases h2 : i = k
    · subst h2
      simp [h1, h1', hi]
    · have h2' : ¬ k = i := fun z => h2 z.symm
      simp [h1, h2, h1', h2']
theorem SwpAt.own {l r : List Int} {i j : Nat} (h : SwpAt l r i j) : l.getD i 0 = 1 ∧ l.getD j 0 = 0 := by
  rw [List.getD_eq_getElem?_getD, List.getD_eq_getElem?_getD, h.i1, h.j0]
  exact ⟨rfl, rfl⟩
theorem SwpAt.gone {l r : List Int} {i j : Nat} (h : SwpAt l r i j) {k : Nat} (hk : k < l.length) : r.getD k 0 < l.getD k 0 ↔ k = i := by
  obtain ⟨a, b⟩ := h.own
  have hne := h.ne
  rw [h.get hk]
  by_cases h1 : k = j
  · subst h1
    rw [if_pos rfl, b]
    omega
  · rw [if_neg h1]
    by_cases h2 : k = i
    · subst h2
      rw [if_pos rfl, a]
      omega
    · rw [if_neg h2]
      omega
theorem SwpAt.made {l r : List Int} {i j : Nat} (h : SwpAt l r i j) {k : Nat} (hk : k < l.length) : l.getD k 0 < r.getD k 0 ↔ k = j := by
  obtain ⟨a, b⟩ := h.own
  have hne := h.ne
  rw [h.get hk]
  by_cases h1 : k = j
  · subst h1
    rw [if_pos rfl, b]
    omega
  · rw [if_neg h1]
    by_cases h2 : k = i
    · subst h2
      rw [if_pos rfl, a]
      omega
    · rw [if_neg h2]
      omega
theorem swap_sum : ∀ {l : List Int} {j : Nat} {x y : Int}, l[j]? = some x → (l.set j y).sum = l.sum - x + y
  | [], j, x, y, h => by simp at h
  | a :: r, 0, x, y, h => by
    have e : a = x := Option.some.inj h
    subst e
    rw [List.set_cons_zero, List.sum_cons, List.sum_cons]
    omega
  | a :: r, j + 1, x, y, h => by
    have ih := swap_sum (l := r) (j := j) (x := x) (y := y) h
    rw [List.set_cons_succ, List.sum_cons, List.sum_cons, ih]
    omega
/-- a swap keeps the ones, and is undone -/
theorem SwpAt.bits {l r : List Int} {i j : Nat} (h : SwpAt l r i j) (hB : Bits l) : Bits r := by
  rw [h.eq]
  exact (hB.set i (.inl rfl)).set j (.inr rfl)
theorem SwpAt.ones {l r : List Int} {i j : Nat} (h : SwpAt l r i j) (hB : Bits l) : ones r = Mk.ones l := by
  have h1 := bits_sum hB
  have h2 := bits_sum (h.bits hB)
  have hj : (l.set i 0)[j]? = some 0 := by
    rw [List.getElem?_set_ne h.ne]
    exact h.j0
  rw [h.eq] at h2 ⊢
  unfold swapped at h2 ⊢
  rw [swap_sum hj, swap_sum h.i1] at h2
  omega
theorem SwpAt.back {l r : List Int} {i j : Nat} (h : SwpAt l r i j) : SwpAt r l j i := by
  obtain ⟨hi, hj⟩ := h.lt
  have hne := h.ne
  refine ⟨?_, ?_, ?_⟩
  · rw [h.eq, swapped, List.getElem?_set_self (by simpa using hj)]
  · rw [h.eq, swapped, List.getElem?_set_ne hne.symm, List.getElem?_set_self hi]
  · apply List.ext_getElem?
    intro k
    rw [h.eq]
    unfold swapped
    rw [List.getElem?_set, List.getElem?_set, List.getElem?_set, List.getElem?_set]
    have a := h.i1
    have b := h.j0
    by_cases h1 : i = k
    · subst h1
      have a' := (List.getElem?_eq_some_iff.mp a).2
      simp [hi, a, a']
    · by_cases h2 : j = k
      · subst h2
        have b' := (List.getElem?_eq_some_iff.mp b).2
        simp [h1, hj, b, b']
      · simp [h1, h2]
end Mk
/-! ### the spots of a mark -/
namespace Mk
theorem spots_len (p : Int → Bool) : ∀ l : List Int, ((List.range l.length).filter fun k => p (l.getD k 0)).length = l.countP p
  | [] => rfl
  | x :: r => by
    have ih := spots_len p r
    rw [List.length_cons, List.range_succ_eq_map, List.filter_cons, List.countP_cons]
    have e : ((List.range r.length).map Nat.succ).filter (fun k => p ((x :: r).getD k 0)) = ((List.range r.length).filter (fun k => p (r.getD k 0))).map Nat.succ := by
      rw [List.filter_map]
      rfl
    rw [e]
    have h0 : (x :: r).getD 0 0 = x := rfl
    rw [h0]
    cases hp : p x
    · simpa using ih
    · simpa using ih
theorem ones_count : ∀ l : List Int, l.countP (fun m => decide (m = 1)) = ones l
  | [] => rfl
  | x :: r => by
    have ih := ones_count r
    rw [List.countP_cons, ih, ones_cons]
    by_cases h : x = 1 <;> simp [h]
theorem zeros_count : ∀ {l : List Int}, Bits l → l.countP (fun m => decide (m = 0)) + ones l = l.length
  | [], _ => rfl
  | x :: r, hB => by
    have ih := zeros_count (l := r) fun m hm => hB m (List.mem_cons_of_mem _ hm)
    rw [List.countP_cons, ones_cons, List.length_cons]
    rcases hB x (List.mem_cons_self ..) with h | h <;> subst h <;> simp <;> omega
theorem spot_of {l : List Int} {c : Int} {i : Nat} (hi : i < l.countP fun m => decide (m = c)) : ∃ s, l[s]? = some c ∧ ((List.range l.length).filter fun k => decide (l.getD k 0 = c))[i]? = some s := by
  have h := spots_len (fun m => decide (m = c)) l
  rw [← h] at hi
  refine ⟨_, ?_, List.getElem?_eq_getElem hi⟩
  have hm := List.getElem_mem hi
  obtain ⟨h1, h2⟩ := List.mem_filter.mp hm
  have h3 := List.mem_range.mp h1
  have h4 := of_decide_eq_true h2
  rw [List.getD_eq_getElem?_getD, List.getElem?_eq_getElem h3] at h4
  rw [List.getElem?_eq_getElem h3]
  exact congrArg some h4
end Mk
/-! ### what is left of the turning list of two signs -/
namespace Mk
theorem two_snoc_zero : ∀ r : List Int, tplace 2 (r ++ [0]) = tplace 2 r
  | [] => rfl
  | m :: r => by
    have ih := two_snoc_zero r
    show tplace 2 (r ++ [0]) * 2 + (tplace 2 (r ++ [0]) % 2 + m) % 2 = tplace 2 r * 2 + (tplace 2 r % 2 + m) % 2
    rw [ih]
theorem two_snoc_one : ∀ r : List Int, Bits r → tplace 2 (r ++ [1]) = 2 ^ (r.length + 1) - 1 - tplace 2 r
  | [], _ => rfl
  | m :: r, hB => by
    have ih := two_snoc_one r fun x hx => hB x (List.mem_cons_of_mem _ hx)
    have hm := hB m (List.mem_cons_self ..)
    show tplace 2 (r ++ [1]) * 2 + (tplace 2 (r ++ [1]) % 2 + m) % 2 = 2 ^ (r.length + 1 + 1) - 1 - (tplace 2 r * 2 + (tplace 2 r % 2 + m) % 2)
    rw [ih, Int.pow_succ 2 (r.length + 1), Int.pow_succ 2 r.length]
    generalize (2 : Int) ^ r.length = P
    generalize tplace 2 r = t
    omega
/-- the rows with as many ones stand in the one list as in the other -/
theorem two_order : ∀ (n : Nat) (l l' : List Int), l.length = n → l'.length = n → Bits l → Bits l' → ones l = ones l' → (cplace l < cplace l' ↔ tplace 2 l < tplace 2 l')
  | 0, l, l', h, h', _, _, _ => by
    rw [List.eq_nil_of_length_eq_zero h, List.eq_nil_of_length_eq_zero h']
    constructor <;> intro z <;> exact absurd z (Int.lt_irrefl _)
  | n + 1, l, l', h, h', hB, hB', ho => by
    have hl : l ≠ [] := fun z => by rw [z] at h; cases h
    have hl' : l' ≠ [] := fun z => by rw [z] at h'; cases h'
    obtain ⟨r, a, rfl⟩ : ∃ r a, l = r ++ [a] := ⟨l.dropLast, l.getLast hl, (List.dropLast_concat_getLast hl).symm⟩
    obtain ⟨r', a', rfl⟩ : ∃ r a, l' = r ++ [a] := ⟨l'.dropLast, l'.getLast hl', (List.dropLast_concat_getLast hl').symm⟩
    have hr : r.length = n := by simpa using h
    have hr' : r'.length = n := by simpa using h'
    have bR : Bits r := fun x hx => hB x (List.mem_append_left _ hx)
    have bR' : Bits r' := fun x hx => hB' x (List.mem_append_left _ hx)
    have ha := hB a (by simp)
    have ha' := hB' a' (by simp)
    rw [ones_append, ones_append] at ho
    have c0 := cplace_nonneg r
    have c1 := cplace_lt r
    have c0' := cplace_nonneg r'
    have c1' := cplace_lt r'
    have t0 := tplace_nonneg (s := 2) (by decide) r
    have t1 := tplace_lt (s := 2) (by decide) r
    have t0' := tplace_nonneg (s := 2) (by decide) r'
    have t1' := tplace_lt (s := 2) (by decide) r'
    have e1 : ones [1] = 1 := rfl
    have e0 : ones [0] = 0 := rfl
    rw [hr] at c1 t1
    rw [hr'] at c1' t1'
    have hp : (2 : Int) ^ (n + 1) = 2 ^ n * 2 := Int.pow_succ 2 n
    rcases ha with rfl | rfl <;> rcases ha' with rfl | rfl
    · rw [cplace_zero, cplace_zero, two_snoc_zero, two_snoc_zero]
      exact two_order n r r' hr hr' bR bR' (by omega)
    · rw [cplace_zero, cplace_one, two_snoc_zero, two_snoc_one r' bR', hr', hp]
      have hb := bin_succ n (ones r')
      have ho2 : ones r = ones r' + 1 := by omega
      rw [ho2] at c1
      constructor <;> intro _ <;> omega
    · rw [cplace_zero, cplace_one, two_snoc_zero, two_snoc_one r bR, hr, hp]
      have hb := bin_succ n (ones r)
      have ho2 : ones r' = ones r + 1 := by omega
      rw [ho2] at c1'
      constructor <;> intro _ <;> omega
    · have hO : ones r = ones r' := by omega
      have ih := two_order n r' r hr' hr bR' bR hO.symm
      rw [cplace_one, cplace_one, two_snoc_one r bR, two_snoc_one r' bR', hr, hr', hO]
      constructor
      · intro z
        have := ih.mp (by omega)
        omega
      · intro z
        have := ih.mpr (by omega)
        omega
/-- how many of the first places hold a row with k ones -/
def cnt (n k : Nat) : Nat → Nat
  | 0 => 0
  | q + 1 => if ones (trow 2 n (q : Int)) = k then cnt n k q + 1 else cnt n k q
theorem cnt_same (n k a : Nat) : ∀ b : Nat, a ≤ b → (∀ x, a ≤ x → x < b → ones (trow 2 n (x : Int)) ≠ k) → cnt n k b = cnt n k a
  | 0, h, _ => by
    obtain rfl : a = 0 := by omega
    rfl
  | b + 1, h, hn => by
    by_cases e : a = b + 1
    · rw [e]
    · have ih := cnt_same n k a b (by omega) fun x h1 h2 => hn x h1 (by omega)
      show (if ones (trow 2 n (b : Int)) = k then cnt n k b + 1 else cnt n k b) = _
      rw [if_neg (hn b (by omega) (by omega)), ih]
/-- a row of bits at its place -/
theorem two_row {n : Nat} {q : Nat} (hq : (q : Int) < 2 ^ n) : (trow 2 n (q : Int)).length = n ∧ Bits (trow 2 n (q : Int)) ∧ tplace 2 (trow 2 n (q : Int)) = q :=
  ⟨trow_len 2 n q, marks_bits (trow_marks (by decide) n q), tplace_trow (by decide) n q (by omega) hq⟩
theorem cnt_place (n k : Nat) : ∀ (q : Nat), (q : Int) < 2 ^ n → ones (trow 2 n (q : Int)) = k → (cnt n k q : Int) = cplace (trow 2 n (q : Int)) := by
  intro q
  induction q using Nat.strongRecOn with
  | ind q ih =>
    intro hq hk
    obtain ⟨ql, qB, qt⟩ := two_row hq
    have c0 := cplace_nonneg (trow 2 n (q : Int))
    have c1 := cplace_lt (trow 2 n (q : Int))
    rw [ql, hk] at c1
    obtain ⟨c, hc⟩ : ∃ c : Nat, cplace (trow 2 n (q : Int)) = c := ⟨(cplace (trow 2 n (q : Int))).toNat, by omega⟩
    cases c with
    | zero =>
      have h := cnt_same n k 0 q (Nat.zero_le _) fun x _ hx hxk => by
        obtain ⟨xl, xB, xt⟩ := two_row (n := n) (q := x) (by omega)
        have := (two_order n _ _ xl ql xB qB (by rw [hxk, hk])).mpr (by rw [xt, qt]; omega)
        have := cplace_nonneg (trow 2 n (x : Int))
        omega
      rw [h, hc]
      rfl
    | succ c =>
      have y0 : (0 : Int) ≤ c := by omega
      have y1 : (c : Int) < (bin n k : Int) := by omega
      have yl := crow_len n k c
      have yB := crow_bits n k c
      have yo := crow_ones y0 y1
      have yc := cplace_crow y0 y1
      have u0 := tplace_nonneg (s := 2) (by decide) (crow n k c)
      have u1 := tplace_lt (s := 2) (by decide) (crow n k c)
      rw [yl] at u1
      obtain ⟨q', hq'⟩ : ∃ q' : Nat, tplace 2 (crow n k c) = q' := ⟨(tplace 2 (crow n k c)).toNat, by omega⟩
      have back : trow 2 n (q' : Int) = crow n k c := by
        have h := trow_tplace (s := 2) (by decide) (crow n k c) (bits_marks yB)
        rw [yl, hq'] at h
        exact h
      have hlt : q' < q := by
        have := (two_order n _ _ yl ql yB qB (by rw [yo, hk])).mp (by omega)
        rw [hq', qt] at this
        omega
      have h1 := ih q' hlt (by omega) (by rw [back, yo])
      have h2 := cnt_same n k (q' + 1) q hlt fun x h1 h2 hxk => by
        obtain ⟨xl, xB, xt⟩ := two_row (n := n) (q := x) (by omega)
        have a1 := (two_order n _ _ yl xl yB xB (by rw [yo, hxk])).mpr (by rw [hq', xt]; omega)
        have a2 := (two_order n _ _ xl ql xB qB (by rw [hxk, hk])).mpr (by rw [xt, qt]; omega)
        omega
      have h3 : cnt n k (q' + 1) = cnt n k q' + 1 := if_pos (by rw [back, yo])
      rw [back, yc] at h1
      rw [h2, h3, hc]
      omega
end Mk
namespace Mk
/-- no row with as many ones between a row and the next one, nor behind the last -/
theorem left_between {n k : Nat} {xs : List Int} {hi : Int} (hl : xs.length = n) (hB : Bits xs) (hO : ones xs = k) (hh : hi = if cplace xs = (bin n k : Int) - 1 then 2 ^ n else tplace 2 (crow n k ((cplace xs + 1) % (bin n k : Int)))) :
    tplace 2 xs < hi ∧ hi ≤ 2 ^ n ∧ ∀ q : Nat, tplace 2 xs < q → (q : Int) < hi → ones (trow 2 n (q : Int)) ≠ k := by
  have c0 := cplace_nonneg xs
  have c1 := cplace_lt xs
  have t1 := tplace_lt (s := 2) (by decide) xs
  rw [hl, hO] at c1
  rw [hl] at t1
  by_cases h : cplace xs = (bin n k : Int) - 1
  · rw [if_pos h] at hh
    subst hh
    refine ⟨t1, Int.le_refl _, fun q q0 q1 hk => ?_⟩
    obtain ⟨ql, qB, qt⟩ := two_row q1
    have := (two_order n _ _ hl ql hB qB (by rw [hk, hO])).mpr (by rw [qt]; exact q0)
    have := cplace_lt (trow 2 n (q : Int))
    rw [ql, hk] at this
    omega
  · rw [if_neg h, Int.emod_eq_of_lt (by omega) (by omega)] at hh
    have y0 : 0 ≤ cplace xs + 1 := by omega
    have y1 : cplace xs + 1 < (bin n k : Int) := by omega
    have yl := crow_len n k (cplace xs + 1)
    have yB := crow_bits n k (cplace xs + 1)
    have yo := crow_ones y0 y1
    have yc := cplace_crow y0 y1
    have u1 := tplace_lt (s := 2) (by decide) (crow n k (cplace xs + 1))
    rw [yl] at u1
    generalize crow n k (cplace xs + 1) = ys at *
    refine ⟨?_, by omega, fun q q0 q1 hk => ?_⟩
    · rw [hh]
      exact (two_order n _ _ hl yl hB yB (by rw [yo, hO])).mp (by omega)
    · obtain ⟨ql, qB, qt⟩ := two_row (n := n) (q := q) (by omega)
      have a1 := (two_order n _ _ hl ql hB qB (by rw [hk, hO])).mpr (by rw [qt]; exact q0)
      have a2 := (two_order n _ _ ql yl qB yB (by rw [yo, hk])).mpr (by omega)
      omega
/-- .. nor ahead of the first -/
theorem left_first {n k : Nat} (h : k ≤ n) : 0 ≤ tplace 2 (crow n k 0) ∧ tplace 2 (crow n k 0) < 2 ^ n ∧ ∀ q : Nat, (q : Int) < tplace 2 (crow n k 0) → ones (trow 2 n (q : Int)) ≠ k := by
  have hp := bin_pos n k h
  have yl := crow_len n k 0
  have yB := crow_bits n k 0
  have yo := crow_ones (n := n) (k := k) (p := 0) (by omega) (by omega)
  have yc := cplace_crow (n := n) (k := k) (p := 0) (by omega) (by omega)
  have u0 := tplace_nonneg (s := 2) (by decide) (crow n k 0)
  have u1 := tplace_lt (s := 2) (by decide) (crow n k 0)
  rw [yl] at u1
  refine ⟨u0, u1, fun q q1 hk => ?_⟩
  obtain ⟨ql, qB, qt⟩ := two_row (n := n) (q := q) (by omega)
  have a2 := (two_order n _ _ ql yl qB yB (by rw [yo, hk])).mpr (by omega)
  have := cplace_nonneg (trow 2 n (q : Int))
  omega
theorem left_count {n k : Nat} {xs : List Int} (hl : xs.length = n) (hB : Bits xs) (hO : ones xs = k) : (cnt n k (tplace 2 xs).toNat : Int) = cplace xs := by
  have t0 := tplace_nonneg (s := 2) (by decide) xs
  have t1 := tplace_lt (s := 2) (by decide) xs
  rw [hl] at t1
  have h := trow_tplace (s := 2) (by decide) xs (bits_marks hB)
  rw [hl] at h
  have e : ((tplace 2 xs).toNat : Int) = tplace 2 xs := Int.toNat_of_nonneg t0
  have := cnt_place n k (tplace 2 xs).toNat (by omega) (by rw [e, h, hO])
  rw [this, e, h]
/-- the marks of two spots exchanged -/
theorem swap_two {ys : List Int} {i j : Nat} (hi : i < ys.length) (hj : j < ys.length) (hB : Bits ys) : Bits ((ys.set i ys[j]).set j ys[i]) ∧ ones ((ys.set i ys[j]).set j ys[i]) = ones ys := by
  have hB2 : Bits ((ys.set i ys[j]).set j ys[i]) := (hB.set i (hB _ (List.getElem_mem hj))).set j (hB _ (List.getElem_mem hi))
  refine ⟨hB2, ?_⟩
  have h1 := bits_sum hB
  have h2 := bits_sum hB2
  have e : (ys.set i ys[j])[j]? = some ys[j] := by
    by_cases h : i = j
    · subst h
      rw [List.getElem?_set_self hi]
    · rw [List.getElem?_set_ne h, List.getElem?_eq_getElem hj]
  rw [swap_sum e, swap_sum (List.getElem?_eq_getElem hi)] at h2
  omega
end Mk
/-! ### both kinds of list under one hat -/
namespace Mk
inductive Kd where
  | T (s : Int) (n : Nat) | C (n k : Nat)
namespace Kd
def len : Kd → Nat
  | .T _ n => n
  | .C n _ => n
/-- the signs -/
def sg : Kd → Int
  | .T s _ => s
  | .C _ _ => 2
def sz : Kd → Int
  | .T s n => s ^ n
  | .C n k => (bin n k : Int)
def at_ : Kd → Int → List Int
  | .T s n, p => trow s n p
  | .C n k, p => crow n k p
def pl : Kd → List Int → Int
  | .T s _, xs => tplace s xs
  | .C _ _, xs => cplace xs
def row : Kd → List Int → Prop
  | .T s n, xs => xs.length = n ∧ Marks s xs
  | .C n k, xs => xs.length = n ∧ Bits xs ∧ ones xs = k
def ok : Kd → Prop
  | .T s n => 2 ≤ s ∧ s ≤ 1000000000000 ∧ n ≤ 200
  | .C n k => k ≤ n ∧ n ≤ 200
def first : Kd → List Int
  | .T _ n => List.replicate n 0
  | .C n k => List.replicate k 1 ++ List.replicate (n - k) 0
theorem len_le {d : Kd} (h : d.ok) : d.len ≤ 200 := by
  cases d with
  | T s n => exact h.2.2
  | C n k => exact h.2
theorem sg_pos {d : Kd} (h : d.ok) : 2 ≤ d.sg ∧ d.sg ≤ 1000000000000 := by
  cases d with
  | T s n => exact ⟨h.1, h.2.1⟩
  | C n k => exact ⟨by show (2 : Int) ≤ 2; decide, by show (2 : Int) ≤ 1000000000000; decide⟩
theorem sz_pos {d : Kd} (h : d.ok) : 0 < d.sz := by
  cases d with
  | T s n => exact Int.pow_pos (by have := h.1; omega)
  | C n k =>
    have := bin_pos n k h.1
    show 0 < (bin n k : Int)
    omega
theorem at_row {d : Kd} (h : d.ok) {p : Int} (p0 : 0 ≤ p) (p1 : p < d.sz) : d.row (d.at_ p) := by
  cases d with
  | T s n => exact ⟨trow_len s n p, trow_marks (by have := h.1; omega) n p⟩
  | C n k => exact ⟨crow_len n k p, crow_bits n k p, crow_ones p0 p1⟩
theorem pl_at {d : Kd} (h : d.ok) {p : Int} (p0 : 0 ≤ p) (p1 : p < d.sz) : d.pl (d.at_ p) = p := by
  cases d with
  | T s n => exact tplace_trow (by have := h.1; omega) n p p0 p1
  | C n k => exact cplace_crow p0 p1
theorem at_pl {d : Kd} (h : d.ok) {xs : List Int} (hr : d.row xs) : d.at_ (d.pl xs) = xs := by
  cases d with
  | T s n =>
    have := trow_tplace (s := s) (by have := h.1; omega) xs hr.2
    rw [hr.1] at this
    exact this
  | C n k =>
    have := crow_cplace hr.2.1
    rw [hr.1, hr.2.2] at this
    exact this
theorem pl_rng {d : Kd} (h : d.ok) {xs : List Int} (hr : d.row xs) : 0 ≤ d.pl xs ∧ d.pl xs < d.sz := by
  cases d with
  | T s n =>
    have h0 : 0 < s := by have := h.1; omega
    have := tplace_lt h0 xs
    rw [hr.1] at this
    exact ⟨tplace_nonneg h0 xs, this⟩
  | C n k =>
    have := cplace_lt xs
    rw [hr.1, hr.2.2] at this
    exact ⟨cplace_nonneg xs, this⟩
theorem row_len {d : Kd} {xs : List Int} (hr : d.row xs) : xs.length = d.len := by
  cases d with
  | T s n => exact hr.1
  | C n k => exact hr.1
theorem row_mark {d : Kd} {xs : List Int} (hr : d.row xs) : Marks d.sg xs := by
  cases d with
  | T s n => exact hr.2
  | C n k => exact bits_marks hr.2.1
theorem pl_inj {d : Kd} (h : d.ok) {xs ys : List Int} (hx : d.row xs) (hy : d.row ys) (e : d.pl xs = d.pl ys) : xs = ys := by rw [← at_pl h hx, ← at_pl h hy, e]
theorem trow_zero (s : Int) : ∀ n : Nat, trow s n 0 = List.replicate n 0
  | 0 => rfl
  | n + 1 => by
    show ((0 : Int) % s - 0 / s % s) % s :: trow s n (0 / s) = _
    rw [Int.zero_ediv, trow_zero s n, List.replicate_succ, Int.zero_emod, Int.sub_zero, Int.zero_emod]
theorem first_at {d : Kd} (h : d.ok) : d.at_ 0 = d.first := by
  cases d with
  | T s n => exact trow_zero s n
  | C n k => exact crow_first n k h.1
theorem first_row {d : Kd} (h : d.ok) : d.row d.first := first_at h ▸ at_row h (Int.le_refl 0) (sz_pos h)
theorem first_pl {d : Kd} (h : d.ok) : d.pl d.first = 0 := by
  have := pl_at h (Int.le_refl 0) (sz_pos h)
  rwa [first_at h] at this
/-- the row so many steps on -/
def on (d : Kd) (xs : List Int) (t : Int) : List Int := d.at_ ((d.pl xs + t) % d.sz)
theorem on_rng {d : Kd} (h : d.ok) (xs : List Int) (t : Int) : 0 ≤ (d.pl xs + t) % d.sz ∧ (d.pl xs + t) % d.sz < d.sz := ⟨Int.emod_nonneg _ (by have := sz_pos h; omega), Int.emod_lt_of_pos _ (sz_pos h)⟩
theorem on_row {d : Kd} (h : d.ok) (xs : List Int) (t : Int) : d.row (d.on xs t) := at_row h (on_rng h xs t).1 (on_rng h xs t).2
theorem on_pl {d : Kd} (h : d.ok) (xs : List Int) (t : Int) : d.pl (d.on xs t) = (d.pl xs + t) % d.sz := pl_at h (on_rng h xs t).1 (on_rng h xs t).2
theorem on_on {d : Kd} (h : d.ok) {xs : List Int} (t u : Int) : d.on (d.on xs t) u = d.on xs (t + u) := by
  show d.at_ ((d.pl (d.on xs t) + u) % d.sz) = d.at_ ((d.pl xs + (t + u)) % d.sz)
  rw [on_pl h, Int.emod_add_emod, Int.add_assoc]
theorem on_zero {d : Kd} (h : d.ok) {xs : List Int} (hr : d.row xs) : d.on xs 0 = xs := by
  obtain ⟨a, b⟩ := pl_rng h hr
  show d.at_ ((d.pl xs + 0) % d.sz) = xs
  rw [Int.add_zero, Int.emod_eq_of_lt a b, at_pl h hr]
end Kd
end Mk

namespace Mk
open PySem L2 Evl
/-! ### evaluation: what Evl lacks -/
section
variable {K : PySem.W.Frag} {σ : L2.St} {H H0 H' : Hp} {ta tb tc te tx : TE} {t u : TT} {x y z v : V} {r r' : R2} {a C dx : Addr} {fs : List (Str × V)} {f m : Str}
theorem ev_fld (h : Ev ta σ H (.ref a)) (ho : H a = some (.ins C dx fs)) (hc : Cls K C) (hn : NoAttr K C f) (hl : fs.lookup f = some v) : Ev (tFld K ta f) σ H v := fun H1 e Q q =>
  h H1 e _ fun H2 e2 => ⟨a, C, dx, fs, v, rfl, e2 _ _ (e _ _ ho), hc, hn, hl, q H2 e2⟩
/-- a promise's answers that are one value | a new list | a new tuple | a new instance -/
theorem ev_meth {sp : Sp} {dvs vs : List V} {E : XK} {tg : TA} (h : Ev ta σ H (.ref a)) (ho : H a = some (.ins C dx fs)) (hl : fs.lookup m = none) (ha : EvA tg σ H vs) (hs : ∀ H1, Ex H H1 → ∀ Q : VK, RetV z H1 Q → sp (.ref a :: (vs ++ dvs)) H1 Q E) :
    Ev (tMeth C m sp dvs E ta tg) σ H z := fun H1 e Q q =>
  h H1 e _ fun H2 e2 => ⟨a, dx, fs, rfl, e2 _ _ (e _ _ ho), hl, ha H2 (e.trans e2) _ fun H3 e3 => hs H3 ((e.trans e2).trans e3) Q fun H4 e4 => q H4 ((e2.trans e3).trans e4)⟩
theorem el_meth {sp : Sp} {dvs vs xs : List V} {E : XK} {tg : TA} (h : Ev ta σ H (.ref a)) (ho : H a = some (.ins C dx fs)) (hl : fs.lookup m = none) (ha : EvA tg σ H vs) (hs : ∀ H1, Ex H H1 → ∀ Q : VK, RetL xs H1 Q → sp (.ref a :: (vs ++ dvs)) H1 Q E) :
    EvL (tMeth C m sp dvs E ta tg) σ H xs := fun H1 e Q q =>
  h H1 e _ fun H2 e2 => ⟨a, dx, fs, rfl, e2 _ _ (e _ _ ho), hl, ha H2 (e.trans e2) _ fun H3 e3 => hs H3 ((e.trans e2).trans e3) Q fun p H4 hp e4 h4 => q p H4 (fresh_back (e2.trans e3) hp) ((e2.trans e3).trans e4) h4⟩
theorem eu_meth {sp : Sp} {dvs vs xs : List V} {E : XK} {tg : TA} (h : Ev ta σ H (.ref a)) (ho : H a = some (.ins C dx fs)) (hl : fs.lookup m = none) (ha : EvA tg σ H vs) (hs : ∀ H1, Ex H H1 → ∀ Q : VK, (∀ p H2, H1 p = none → Ex H1 H2 → H2 p = some (.tup xs) → Q (.ref p) H2) → sp (.ref a :: (vs ++ dvs)) H1 Q E) :
    EvU (tMeth C m sp dvs E ta tg) σ H xs := fun H1 e Q q =>
  h H1 e _ fun H2 e2 => ⟨a, dx, fs, rfl, e2 _ _ (e _ _ ho), hl, ha H2 (e.trans e2) _ fun H3 e3 => hs H3 ((e.trans e2).trans e3) Q fun p H4 hp e4 h4 => q p H4 (fresh_back (e2.trans e3) hp) ((e2.trans e3).trans e4) h4⟩
theorem ev_methN {sp : Sp} {xs : List V} {E : XK} (h : Ev ta σ H (.ref a)) (ho : H a = some (.ins C dx fs)) (hl : fs.lookup m = none) (hL : EvL te σ H xs) (hs : ∀ p H1, Ex H H1 → H1 p = some (.lst xs) → ∀ Q : VK, RetV z H1 Q → sp [.ref a, .ref p] H1 Q E) :
    Ev (tMeth C m sp [] E ta (tCons te tNil)) σ H z := fun H1 e Q q =>
  h H1 e _ fun H2 e2 => ⟨a, dx, fs, rfl, e2 _ _ (e _ _ ho), hl, hL H2 (e.trans e2) _ fun p H3 hp e3 h3 => hs p H3 ((e.trans e2).trans e3) h3 Q fun H4 e4 => q H4 ((e2.trans e3).trans e4)⟩
theorem el_methN {sp : Sp} {xs ys : List V} {E : XK} (h : Ev ta σ H (.ref a)) (ho : H a = some (.ins C dx fs)) (hl : fs.lookup m = none) (hL : EvL te σ H xs) (hs : ∀ p H1, Ex H H1 → H1 p = some (.lst xs) → ∀ Q : VK, RetL ys H1 Q → sp [.ref a, .ref p] H1 Q E) :
    EvL (tMeth C m sp [] E ta (tCons te tNil)) σ H ys := fun H1 e Q q =>
  h H1 e _ fun H2 e2 => ⟨a, dx, fs, rfl, e2 _ _ (e _ _ ho), hl, hL H2 (e.trans e2) _ fun p H3 hp e3 h3 => hs p H3 ((e.trans e2).trans e3) h3 Q fun p' H4 hp' e4 h4 => q p' H4 (fresh_back (e2.trans e3) hp') ((e2.trans e3).trans e4) h4⟩
/-- .. the defaults fill up -/
theorem el_methNd {sp : Sp} {dvs xs ys : List V} {E : XK} (h : Ev ta σ H (.ref a)) (ho : H a = some (.ins C dx fs)) (hl : fs.lookup m = none) (hL : EvL te σ H xs) (hs : ∀ p H1, Ex H H1 → H1 p = some (.lst xs) → ∀ Q : VK, RetL ys H1 Q → sp (.ref a :: ([.ref p] ++ dvs)) H1 Q E) :
    EvL (tMeth C m sp dvs E ta (tCons te tNil)) σ H ys := fun H1 e Q q =>
  h H1 e _ fun H2 e2 => ⟨a, dx, fs, rfl, e2 _ _ (e _ _ ho), hl, hL H2 (e.trans e2) _ fun p H3 hp e3 h3 => hs p H3 ((e.trans e2).trans e3) h3 Q fun p' H4 hp' e4 h4 => q p' H4 (fresh_back (e2.trans e3) hp') ((e2.trans e3).trans e4) h4⟩
/-- .. a new list and a value -/
theorem el_methN2 {sp : Sp} {xs ys : List V} {E : XK} (h : Ev ta σ H (.ref a)) (ho : H a = some (.ins C dx fs)) (hl : fs.lookup m = none) (hL : EvL te σ H xs) (hb : ∀ H1, Ex H H1 → Ev tb σ H1 y) (hs : ∀ p H1, Ex H H1 → H1 p = some (.lst xs) → ∀ Q : VK, RetL ys H1 Q → sp [.ref a, .ref p, y] H1 Q E) :
    EvL (tMeth C m sp [] E ta (tCons te (tCons tb tNil))) σ H ys := fun H1 e Q q =>
  h H1 e _ fun H2 e2 => ⟨a, dx, fs, rfl, e2 _ _ (e _ _ ho), hl, hL H2 (e.trans e2) _ fun p H3 hp e3 h3 => hb H3 ((e.trans e2).trans e3) H3 (Ex.refl H3) _ fun H4 e4 => hs p H4 (((e.trans e2).trans e3).trans e4) (e4 _ _ h3) Q fun p' H5 hp' e5 h5 => q p' H5 (fresh_back ((e2.trans e3).trans e4) hp') (((e2.trans e3).trans e4).trans e5) h5⟩
/-- .. two new lists -/
theorem ev_methNN {sp : Sp} {xs ys : List V} {E : XK} (h : Ev ta σ H (.ref a)) (ho : H a = some (.ins C dx fs)) (hl : fs.lookup m = none) (hL : EvL te σ H xs) (hb : EvL tb σ H ys) (hs : ∀ p u H1, Ex H H1 → H1 p = some (.lst xs) → H1 u = some (.lst ys) → ∀ Q : VK, RetV z H1 Q → sp [.ref a, .ref p, .ref u] H1 Q E) :
    Ev (tMeth C m sp [] E ta (tCons te (tCons tb tNil))) σ H z := fun H1 e Q q =>
  h H1 e _ fun H2 e2 => ⟨a, dx, fs, rfl, e2 _ _ (e _ _ ho), hl, hL H2 (e.trans e2) _ fun p H3 hp e3 h3 => hb H3 ((e.trans e2).trans e3) _ fun u H4 hu e4 h4 => hs p u H4 (((e.trans e2).trans e3).trans e4) (e4 _ _ h3) h4 Q fun H5 e5 => q H5 (((e2.trans e3).trans e4).trans e5)⟩
theorem ev_callF {sp : Sp} {dvs vs : List V} {E : XK} {tg : TA} (ha : EvA tg σ H vs) (hs : ∀ H1, Ex H H1 → ∀ Q : VK, RetV z H1 Q → sp (vs ++ dvs) H1 Q E) : Ev (tCall sp dvs E tg) σ H z := fun H1 e Q q =>
  ha H1 e _ fun H2 e2 => hs H2 (e.trans e2) Q fun H3 e3 => q H3 (e2.trans e3)
theorem el_callF {sp : Sp} {dvs vs xs : List V} {E : XK} {tg : TA} (ha : EvA tg σ H vs) (hs : ∀ H1, Ex H H1 → ∀ Q : VK, RetL xs H1 Q → sp (vs ++ dvs) H1 Q E) : EvL (tCall sp dvs E tg) σ H xs := fun H1 e Q q =>
  ha H1 e _ fun H2 e2 => hs H2 (e.trans e2) Q fun p H3 hp e3 h3 => q p H3 (fresh_back e2 hp) (e2.trans e3) h3
/-- a new instance -/
def EvO (te : TE) (σ : L2.St) (H : Hp) (C : Addr) (fs : List (Str × V)) : Prop := ∀ H1, Ex H H1 → ∀ Q : VK, (∀ p dx H2, H1 p = none → Ex H1 H2 → H2 p = some (.ins C dx fs) → Q (.ref p) H2) → te σ H1 Q
/-- what __init__ promises -/
def RetO (C x dx : Addr) (fs : List (Str × V)) (H : Hp) (Q : VK) : Prop := ∀ H2, (∀ b o, H b = some o → b ≠ x → H2 b = some o) → H2 x = some (.ins C dx fs) → Q .non H2
theorem eo_make {sp : Sp} {dvs vs : List V} {E : XK} {tg : TA} (ha : EvA tg σ H vs) (hs : ∀ H1, Ex H H1 → ∀ x dx, H1 x = some (.ins C dx []) → ∀ Q : VK, RetO C x dx fs H1 Q → sp (.ref x :: (vs ++ dvs)) H1 Q E) :
    EvO (tMake C sp dvs E tg) σ H C fs := fun H1 e Q q => ha H1 e _ fun H2 e2 => fun x dx nx ndx nex => by
  have s0 : Ex H2 (upd (upd H2 dx (.own x)) x (.ins C dx [])) := fun b o eb => by
    rw [upd_ne (ne_of_none eb nx), upd_ne (ne_of_none eb ndx)]
    exact eb
  refine hs _ ((e.trans e2).trans s0) x dx upd_same _ fun H3 k h3 => ⟨rfl, ?_⟩
  exact q x dx H3 (fresh_back e2 nx) (e2.trans fun b o eb => k b o (s0 b o eb) (ne_of_none eb nx)) h3
/-- an expression has some value of which P holds -/
def EvS (te : TE) (σ : L2.St) (H : Hp) (P : V → Prop) : Prop := ∀ H1, Ex H H1 → ∀ Q : VK, (∀ v, P v → ∀ H2, Ex H1 H2 → Q v H2) → te σ H1 Q
def RetS (P : V → Prop) (H : Hp) (Q : VK) : Prop := ∀ v, P v → ∀ H2, Ex H H2 → Q v H2
theorem es_callF {sp : Sp} {dvs vs : List V} {E : XK} {tg : TA} {P : V → Prop} (ha : EvA tg σ H vs) (hs : ∀ H1, Ex H H1 → ∀ Q : VK, RetS P H1 Q → sp (vs ++ dvs) H1 Q E) : EvS (tCall sp dvs E tg) σ H P := fun H1 e Q q =>
  ha H1 e _ fun H2 e2 => hs H2 (e.trans e2) Q fun v hv H3 e3 => q v hv H3 (e2.trans e3)
/-- .. the first argument a new list -/
theorem es_callL1 {sp : Sp} {E : XK} {ta tb : TE} {xs : List V} {y : V} {P : V → Prop} (h : EvL ta σ H xs) (hb : ∀ H1, Ex H H1 → Ev tb σ H1 y) (hs : ∀ p H1, Ex H H1 → H1 p = some (.lst xs) → ∀ Q : VK, RetS P H1 Q → sp [.ref p, y] H1 Q E) :
    EvS (tCall sp [] E (tCons ta (tCons tb tNil))) σ H P := fun H1 e Q q =>
  h H1 e _ fun p H2 _ e2 hp => hb H2 (e.trans e2) H2 (Ex.refl H2) _ fun H3 e3 => hs p H3 ((e.trans e2).trans e3) (e3 _ _ hp) Q fun v hv H4 e4 => q v hv H4 ((e2.trans e3).trans e4)
/-- some new list of ints of which P holds -/
def EvLS (te : TE) (σ : L2.St) (H : Hp) (P : List Int → Prop) : Prop := ∀ H1, Ex H H1 → ∀ Q : VK, (∀ xs, P xs → RetL (xs.map V.int) H1 Q) → te σ H1 Q
theorem els_callF {sp : Sp} {dvs vs : List V} {E : XK} {tg : TA} {P : List Int → Prop} (ha : EvA tg σ H vs) (hs : ∀ H1, Ex H H1 → ∀ Q : VK, (∀ xs, P xs → RetL (xs.map V.int) H1 Q) → sp (vs ++ dvs) H1 Q E) : EvLS (tCall sp dvs E tg) σ H P := fun H1 e Q q =>
  ha H1 e _ fun H2 e2 => hs H2 (e.trans e2) Q fun xs hx p H3 hp e3 h3 => q xs hx p H3 (fresh_back e2 hp) (e2.trans e3) h3
theorem Ev.some {P : V → Prop} (h : Ev te σ H v) (hv : P v) : EvS te σ H P := fun H1 e Q q => h H1 e Q fun H2 e2 => q v hv H2 e2
/-- x, y = divmod(a, b) -/
theorem eu_divmod {tg : TA} {i j : Int} (ha : EvA tg σ H [.int i, .int j]) (hc : CDivP i j) :
    EvU (tCB (fun xs H Q => ∃ i j, xs = [.int i, .int j] ∧ CDivP i j ∧ ∀ p, H p = none → Q (.ref p) (upd H p (.tup [.int (i / j), .int (i % j)]))) tg) σ H [.int (i / j), .int (i % j)] := fun H1 e Q q =>
  ha H1 e _ fun H2 e2 => ⟨i, j, rfl, hc, fun p hp => q p _ (fresh_back e2 hp) (e2.trans (Ex.new hp)) upd_same⟩
theorem ev_chain {p q : Bool} (ha : Ev ta σ H x) (hb : Ev tb σ H y) (hr : RV r x y H (.bl p)) (hc : p = true → Ev tc σ H z) (hr' : p = true → RV r' y z H (.bl q)) : Ev (tChain r r' ta tb tc) σ H (.bl (p && q)) := fun H1 e Q k =>
  ha H1 e _ fun H2 e2 => hb H2 (e.trans e2) _ fun H3 e3 => hr H3 ((e.trans e2).trans e3) _ fun H4 e4 => ⟨p, rfl, by
    cases p with
    | true =>
      show tc σ H4 _
      exact hc rfl H4 (((e.trans e2).trans e3).trans e4) _ fun H5 e5 => hr' rfl H5 ((((e.trans e2).trans e3).trans e4).trans e5) Q fun H6 e6 => k H6 ((((e2.trans e3).trans e4).trans e5).trans e6)
    | false =>
      show Q (.bl false) H4
      exact k H4 ((e2.trans e3).trans e4)⟩
/-- isinstance with a built-in class -/
theorem rc_isi {tn : String} {tv : Value} {b : Bool} (ty : ∀ H1, Ex H H1 → TyX K H1 x tv) (hb : PySem.W.kitOne K tv (.type tn) = some b) : RC (rIsi K) [x, .ty tn] H (.bl b) := fun H1 e Q q =>
  ⟨x, .ty tn, tv, .type tn, b, rfl, .ty _, ty H1 e, hb, q H1 (Ex.refl H1)⟩
theorem ex_ty {t : Value} (e : Ex H H') (h : TyOf K H x t) : TyOf K H' x t := by
  cases h with
  | non => exact .non
  | bl b => exact .bl b
  | int i => exact .int i
  | str s => exact .str s
  | flt s => exact .flt s
  | lst h => exact .lst (e _ _ h)
  | frz h => exact .frz (e _ _ h)
  | tup h => exact .tup (e _ _ h)
  | dK h => exact .dK (e _ _ h)
  | dT h => exact .dT (e _ _ h)
  | ins h a b c d f => exact .ins (e _ _ h) a b c d f
theorem ev_isi {tn : String} {tv : Value} {b : Bool} {tg : TA} (ha : EvA tg σ H [x, .ty tn]) (ty : TyOf K H x tv) (hb : PySem.W.kitOne K tv (.type tn) = some b) : Ev (tCB (rIsi K) tg) σ H (.bl b) :=
  ev_cb ha (rc_isi (fun H1 e => .base (ex_ty e ty)) hb)
/-- a built-in's call by values -/
theorem ev_cbv {rr : List V → Hp → VK → Prop} {tg : TA} {vs : List V} (ha : EvA tg σ H vs) (hr : ∀ H1, Ex H H1 → ∀ Q : VK, Q z H1 → rr vs H1 Q) : Ev (tCB rr tg) σ H z :=
  ev_cb ha fun H1 e Q q => hr H1 e Q (q H1 (Ex.refl H1))
theorem ev_un0 {g : Int → V} {i : Int} (h : Ev ta σ H (.int i)) : Ev (tUn (rU g) ta) σ H (g i) := ev_un h fun H1 _ _ q => ⟨i, rfl, q H1 (Ex.refl H1)⟩
theorem rv_eqI {i j : Int} : RV rEq (.int i) (.int j) H (.bl (decide (i = j))) := fun H1 _ _ q => ⟨rfl, by
  have e : decide (V.int i = V.int j) = decide (i = j) := by
    by_cases h : i = j
    · rw [decide_eq_true h, decide_eq_true (congrArg V.int h)]
    · rw [decide_eq_false h, decide_eq_false fun z => h (V.int.inj z)]
  rw [e]
  exact q H1 (Ex.refl H1)⟩
theorem rv_neI {i j : Int} : RV rNe (.int i) (.int j) H (.bl (!decide (i = j))) := fun H1 _ _ q => ⟨rfl, by
  have e : decide (V.int i = V.int j) = decide (i = j) := by
    by_cases h : i = j
    · rw [decide_eq_true h, decide_eq_true (congrArg V.int h)]
    · rw [decide_eq_false h, decide_eq_false fun z => h (V.int.inj z)]
  rw [e]
  exact q H1 (Ex.refl H1)⟩
theorem rv_isN : RV (fun x y H Q => y = .non ∧ Q (.bl (decide (x = .non))) H) x .non H (.bl (decide (x = .non))) := fun H1 _ _ q => ⟨rfl, q H1 (Ex.refl H1)⟩
theorem rv_notN : RV (fun x y H Q => y = .non ∧ Q (.bl (!decide (x = .non))) H) x .non H (.bl (!decide (x = .non))) := fun H1 _ _ q => ⟨rfl, q H1 (Ex.refl H1)⟩
theorem et_cmp {b : Bool} (h : Ev te σ H (.bl b)) : EvT (tTest te) σ H b := et_test h

/-! ### statements, told over an elder heap H0 -/
variable {D : Ends} {tu tw tz : TS} {g : TG}
theorem b_asg {i : Nat} (e : Ex H0 H) (h : Ev te σ H0 v) (k : ∀ H1, Ex H0 H1 → tz D (σ.set i (some v)) H1) : tSeq (tAsg te (gName i)) tz D σ H := q_asg (h.mono e) fun H1 e1 => k H1 (e.trans e1)
theorem b_asgL {i : Nat} {xs : List V} (e : Ex H0 H) (h : EvL te σ H0 xs) (k : ∀ p H1, H0 p = none → Ex H0 H1 → H1 p = some (.lst xs) → tz D (σ.set i (some (.ref p))) H1) : tSeq (tAsg te (gName i)) tz D σ H :=
  q_asgL (h.mono e) fun p H1 hp e1 h1 => k p H1 (fresh_back e hp) (e.trans e1) h1
theorem b_asgU {i : Nat} {xs : List V} (e : Ex H0 H) (h : EvU te σ H0 xs) (k : ∀ p H1, H0 p = none → Ex H0 H1 → H1 p = some (.tup xs) → tz D (σ.set i (some (.ref p))) H1) : tSeq (tAsg te (gName i)) tz D σ H :=
  q_asgU (fun H1 e1 => h H1 (e.trans e1)) fun p H1 hp e1 h1 => k p H1 (fresh_back e hp) (e.trans e1) h1
theorem b_asgO {i : Nat} (e : Ex H0 H) (h : EvO te σ H0 C fs) (k : ∀ p dx H1, H0 p = none → Ex H0 H1 → H1 p = some (.ins C dx fs) → tz D (σ.set i (some (.ref p))) H1) : tSeq (tAsg te (gName i)) tz D σ H :=
  h H e _ fun p dx H1 hp e1 h1 => k p dx H1 (fresh_back e hp) (e.trans e1) h1
theorem b_asgS {i : Nat} {P : V → Prop} (e : Ex H0 H) (h : EvS te σ H0 P) (k : ∀ v, P v → ∀ H1, Ex H0 H1 → tz D (σ.set i (some v)) H1) : tSeq (tAsg te (gName i)) tz D σ H :=
  h H e _ fun v hv H1 e1 => k v hv H1 (e.trans e1)
/-- x, y = a new tuple of two -/
theorem b_asg2 {i j : Nat} {x y : V} (e : Ex H0 H) (h : EvU te σ H0 [x, y]) (k : ∀ H1, Ex H0 H1 → tz D ((σ.set i (some x)).set j (some y)) H1) : tSeq (tAsg te (gTup K 2 (gCons (gName i) (gCons (gName j) gNil)))) tz D σ H :=
  h H e _ fun p H1 hp e1 h1 => ⟨p, [x, y], rfl, st_of h1, rfl, x, [y], rfl, y, [], rfl, rfl, k H1 (e.trans e1)⟩
theorem b_asgLS {i : Nat} {P : List Int → Prop} (e : Ex H0 H) (h : EvLS te σ H0 P) (k : ∀ xs, P xs → ∀ p H1, H0 p = none → Ex H0 H1 → H1 p = some (.lst (xs.map V.int)) → tz D (σ.set i (some (.ref p))) H1) : tSeq (tAsg te (gName i)) tz D σ H :=
  h H e _ fun xs hx p H1 hp e1 h1 => k xs hx p H1 (fresh_back e hp) (e.trans e1) h1
theorem b_drop (e : Ex H0 H) (h : Ev te σ H0 v) (k : ∀ H1, Ex H0 H1 → tz D σ H1) : tSeq (tDrop te) tz D σ H := q_drop (h.mono e) fun H1 e1 => k H1 (e.trans e1)
theorem b_dropCall {sp : Sp} {dvs vs : List V} {E : XK} {tg : TA} (e : Ex H0 H) (ha : EvA tg σ H0 vs) (hs : ∀ H1, Ex H0 H1 → sp (vs ++ dvs) H1 (fun _ H2 => tz D σ H2) E) : tSeq (tDrop (tCall sp dvs E tg)) tz D σ H :=
  ha H e _ fun H1 e1 => hs H1 (e.trans e1)
theorem b_if {b : Bool} (e : Ex H0 H) (h : EvT t σ H0 b) (h1 : b = true → ∀ H1, Ex H0 H1 → tu { D with nx := tz D } σ H1) (h2 : b = false → ∀ H1, Ex H0 H1 → tw { D with nx := tz D } σ H1) : tSeq (tIfS t tu tw) tz D σ H :=
  q_if (h.mono e) (fun q H1 e1 => h1 q H1 (e.trans e1)) fun q H1 e1 => h2 q H1 (e.trans e1)
/-- an if whose body ends the def or falls through -/
theorem b_when {b : Bool} (e : Ex H0 H) (h : EvT t σ H0 b) (h1 : b = true → ∀ H1, Ex H0 H1 → tu { D with nx := tz D } σ H1) (h2 : b = false → ∀ H1, Ex H0 H1 → tz D σ H1) : tSeq (tIfS t tu tNext) tz D σ H :=
  q_when (h.mono e) (fun q H1 e1 => h1 q H1 (e.trans e1)) fun q H1 e1 => h2 q H1 (e.trans e1)
/-- a guard that does not hold -/
theorem b_skip {b : Bool} (e : Ex H0 H) (h : EvT t σ H0 b) (k : ∀ H1, Ex H0 H1 → tz D σ H1) (hb : b = false := by rfl) : tSeq (tIfS t tu tNext) tz D σ H := b_when e h (fun q => by rw [hb] at q; cases q) fun _ => k
theorem b_ret (e : Ex H0 H) (h : Ev te σ H0 v) (k : ∀ H1, Ex H0 H1 → D.rt v H1) : tRet te D σ H := s_ret (h.mono e) fun H1 e1 => k H1 (e.trans e1)
theorem b_retL {xs : List V} (e : Ex H0 H) (h : EvL te σ H0 xs) (k : ∀ p H1, H0 p = none → Ex H0 H1 → H1 p = some (.lst xs) → D.rt (.ref p) H1) : tRet te D σ H :=
  s_retL (h.mono e) fun p H1 hp e1 h1 => k p H1 (fresh_back e hp) (e.trans e1) h1
theorem b_retU {xs : List V} (e : Ex H0 H) (h : EvU te σ H0 xs) (k : ∀ p H1, H0 p = none → Ex H0 H1 → H1 p = some (.tup xs) → D.rt (.ref p) H1) : tRet te D σ H :=
  s_retU (fun H1 e1 => h H1 (e.trans e1)) fun p H1 hp e1 h1 => k p H1 (fresh_back e hp) (e.trans e1) h1
/-- if c: x = e, told by the value x has behind it -/
theorem b_ifAsg {b : Bool} {i : Nat} (e : Ex H0 H) (h : EvT t σ H0 b) (h1 : b = true → Ev te σ H0 v) (h2 : b = false → σ.set i (some v) = σ) (k : ∀ H1, Ex H0 H1 → tz D (σ.set i (some v)) H1) : tSeq (tIfS t (tAsg te (gName i)) tNext) tz D σ H :=
  q_ifAsg (h.mono e) (fun q => (h1 q).mono e) h2 fun H1 e1 => k H1 (e.trans e1)
theorem l_ifAsg {b : Bool} {i : Nat} (e : Ex H0 H) (h : EvT t σ H0 b) (h1 : b = true → Ev te σ H0 v) (h2 : b = false → σ.set i (some v) = σ) (k : ∀ H1, Ex H0 H1 → D.nx (σ.set i (some v)) H1) : tIfS t (tAsg te (gName i)) tNext D σ H :=
  s_ifAsg (h.mono e) (fun q => (h1 q).mono e) h2 fun H1 e1 => k H1 (e.trans e1)
theorem l_asg {i : Nat} (e : Ex H0 H) (h : Ev te σ H0 v) (k : ∀ H1, Ex H0 H1 → D.nx (σ.set i (some v)) H1) : tAsg te (gName i) D σ H := s_asg (h.mono e) fun H1 e1 => k H1 (e.trans e1)
/-- the last of a branch -/
theorem e_asg {i : Nat} {f b c : L2.St → Hp → Prop} {r' : VK} (e : Ex H0 H) (h : Ev te σ H0 v) (k : ∀ H1, Ex H0 H1 → f (σ.set i (some v)) H1) : tAsg te (gName i) ⟨f, r', b, c⟩ σ H := s_asg (h.mono e) fun H1 e1 => k H1 (e.trans e1)
theorem e_drop {f b c : L2.St → Hp → Prop} {r' : VK} (e : Ex H0 H) (h : Ev te σ H0 v) (k : ∀ H1, Ex H0 H1 → f σ H1) : tDrop te ⟨f, r', b, c⟩ σ H := s_drop (h.mono e) fun H1 e1 => k H1 (e.trans e1)
theorem e_next {f b c : L2.St → Hp → Prop} {r' : VK} (k : f σ H) : tNext ⟨f, r', b, c⟩ σ H := k
theorem e_when {b : Bool} {f b' c : L2.St → Hp → Prop} {r' : VK} (e : Ex H0 H) (h : EvT t σ H0 b) (h1 : b = true → ∀ H1, Ex H0 H1 → tu ⟨f, r', b', c⟩ σ H1) (h2 : b = false → ∀ H1, Ex H0 H1 → f σ H1) : tIfS t tu tNext ⟨f, r', b', c⟩ σ H :=
  s_when (h.mono e) (fun q H1 e1 => h1 q H1 (e.trans e1)) fun q H1 e1 => h2 q H1 (e.trans e1)
theorem l_when {b : Bool} (e : Ex H0 H) (h : EvT t σ H0 b) (h1 : b = true → ∀ H1, Ex H0 H1 → tu D σ H1) (h2 : b = false → ∀ H1, Ex H0 H1 → D.nx σ H1) : tIfS t tu tNext D σ H :=
  s_when (h.mono e) (fun q H1 e1 => h1 q H1 (e.trans e1)) fun q H1 e1 => h2 q H1 (e.trans e1)
theorem l_if {b : Bool} (e : Ex H0 H) (h : EvT t σ H0 b) (h1 : b = true → ∀ H1, Ex H0 H1 → tu D σ H1) (h2 : b = false → ∀ H1, Ex H0 H1 → tw D σ H1) : tIfS t tu tw D σ H :=
  s_if (h.mono e) (fun q H1 e1 => h1 q H1 (e.trans e1)) fun q H1 e1 => h2 q H1 (e.trans e1)
theorem b_forR1 {tg : TA} {j : Nat} {n : Int} (e : Ex H0 H) (h : EvA tg σ H0 [.int n]) (hn : n ≤ 100000) (hm : -100000 ≤ n) (Pv : Nat → L2.St → Hp → Prop) (h0 : ∀ H1, Ex H0 H1 → Pv 0 σ H1)
    (hs : ∀ (i : Nat) σ' H', (i : Int) < n → Pv i σ' H' → tu { D with nx := Pv (i + 1), ct := Pv (i + 1), bk := tz D } (σ'.set j (some (.int (i : Int)))) H') (hd : ∀ σ' H', Pv n.toNat σ' H' → tz D σ' H') : tSeq (tFor (iRng1 tg) (gName j) tu) tz D σ H :=
  (h.mono e) H (Ex.refl H) _ fun H1 e1 => ⟨n, rfl, by omega, by omega, for_range (lo := 0) (n := n.toNat) Pv (h0 H1 (e.trans e1)) (fun i σ' H' hi p => by
    have e0 : (0 : Int) + (i : Int) = (i : Int) := Int.zero_add _
    show tu _ (σ'.set j (some (.int ((0 : Int) + (i : Int))))) H'
    rw [e0]
    exact hs i σ' H' (by omega) p) hd⟩
theorem b_forLn {l : Addr} {xs : List V} {tl : TE} {j : Nat} (e : Ex H0 H) (h : Ev tl σ H0 (.ref l)) (hx : SqL K H0 l xs) (Pv : Nat → L2.St → Hp → Prop) (h0 : ∀ H1, Ex H0 H1 → Pv 0 σ H1) (hl : ∀ i σ' H', i ≤ xs.length → Pv i σ' H' → SqL K H' l xs)
    (hs : ∀ i x σ' H', xs[i]? = some x → Pv i σ' H' → tu { D with nx := Pv (i + 1), ct := Pv (i + 1), bk := tz D } (σ'.set j (some x)) H') (hd : ∀ σ' H', Pv xs.length σ' H' → tz D σ' H') : tSeq (tFor (iList K tl) (gName j) tu) tz D σ H :=
  q_forLn (h.mono e) (ex_l e hx) Pv (fun H1 e1 => h0 H1 (e.trans e1)) hl hs hd
end
/-! ### sizes -/
theorem cmul_r {i j : Int} (h0 : -1000000000000000 ≤ j) (h1 : j ≤ 1000000000000000) : CMul i j := .inr ⟨by omega, by omega⟩
theorem cmul_l {i j : Int} (h0 : -1000000000000000 ≤ i) (h1 : i ≤ 1000000000000000) : CMul i j := .inl ⟨by omega, by omega⟩
theorem cdiv_small {i j : Int} (h0 : 0 < j) (h1 : j ≤ 1000000000000000) : CDivW i j := wide_div (b := 64) h0 (by omega) (by decide) (by decide)
theorem mod_range (a : Int) {b : Int} (h : 0 < b) : 0 ≤ a % b ∧ a % b < b := ⟨Int.emod_nonneg a (by omega), Int.emod_lt_of_pos a h⟩
theorem cdivp_small {i j : Int} (h0 : 0 < j) (h1 : j ≤ 1000000000000000) : CDivP i j := by
  refine ⟨h0, ?_⟩
  have hn : j.natAbs ≠ 0 := by omega
  have hl : j.natAbs.log2 < 64 := (Nat.log2_lt hn).mpr (by omega)
  unfold Builtin.divisionGoesByPylong
  have e : ¬ (if j == 0 then 0 else j.natAbs.log2 / 30 + 1) > 300 := by
    split
    · omega
    · omega
  simp only [e, decide_false, Bool.false_and]
theorem rv_pow {i j n : Int} {H : Hp} (hc : CPow i j) (e : i ^ j.toNat = n) : RV (rI CPow fun i j => .int (i ^ j.toNat)) (.int i) (.int j) H (.int n) := by
  have h := rv_I (C := CPow) (g := fun i j => V.int (i ^ j.toNat)) (H := H) hc
  rw [e] at h
  exact h
theorem rv_p12 {H : Hp} : RV (rI CPow fun i j => .int (i ^ j.toNat)) (.int 10) (.int 12) H (.int 1000000000000) := rv_pow ⟨by decide, by decide, by decide⟩ (by decide +kernel)
theorem rv_p30 {H : Hp} : RV (rI CPow fun i j => .int (i ^ j.toNat)) (.int 10) (.int 30) H (.int (10 ^ 30)) := rv_pow ⟨by decide, by decide, by decide⟩ (by decide +kernel)
theorem rv_p60 {H : Hp} : RV (rI CPow fun i j => .int (i ^ j.toNat)) (.int 10) (.int 60) H (.int (10 ^ 60)) := rv_pow ⟨by decide, by decide, by decide⟩ (by decide +kernel)
def c7 : Int := 982451653 ^ 7
def c5 : Int := 982451653 ^ 5
theorem rv_c7 {H : Hp} : RV (rI CPow fun i j => .int (i ^ j.toNat)) (.int 982451653) (.int 7) H (.int c7) := rv_pow ⟨by decide, by decide, by decide⟩ (by decide +kernel)
theorem rv_c5 {H : Hp} : RV (rI CPow fun i j => .int (i ^ j.toNat)) (.int 982451653) (.int 5) H (.int c5) := rv_pow ⟨by decide, by decide, by decide⟩ (by decide +kernel)
theorem c7_lt : c7.natAbs < 2 ^ 210 := by decide +kernel
theorem c5_lt : c5.natAbs < 2 ^ 150 := by decide +kernel
/-- a product of great ints -/
theorem rv_mulX {i j : Int} {a b : Nat} {H : Hp} (ha : i.natAbs < 2 ^ a) (hb : j.natAbs < 2 ^ b) (h : a + b ≤ 134217728) : RV (rI CMulX fun i j => .int (i * j)) (.int i) (.int j) H (.int (i * j)) := rv_I (mulx_ok ha hb h)
theorem pow_bits {s : Int} (h0 : 0 ≤ s) (h1 : s ≤ 1000000000000) : ∀ n : Nat, (s ^ n).natAbs < 2 ^ (40 * n + 1)
  | 0 => by
    rw [Int.pow_zero]
    decide
  | n + 1 => by
    have ih := pow_bits h0 h1 n
    rw [Int.pow_succ, Int.natAbs_mul]
    have h2 : s.natAbs ≤ 2 ^ 40 := by
      have e : (2 : Nat) ^ 40 = 1099511627776 := by decide
      omega
    have e : (2 : Nat) ^ (40 * (n + 1) + 1) = 2 ^ (40 * n + 1) * 2 ^ 40 := by
      rw [← Nat.pow_add]
      congr 1
    rw [e]
    exact Nat.lt_of_le_of_lt (Nat.mul_le_mul_left _ h2) (Nat.mul_lt_mul_of_pos_right ih (Nat.two_pow_pos 40))
/-- a number that has at most 8001 bits -/
def Fits (z : Int) : Prop := z.natAbs < 2 ^ 8001
theorem pow_fits {s : Int} {n : Nat} (h0 : 0 ≤ s) (h1 : s ≤ 1000000000000) (hn : n ≤ 200) : Fits (s ^ n) :=
  Nat.lt_of_lt_of_le (pow_bits h0 h1 n) (Nat.pow_le_pow_right (by decide) (by omega))
theorem Fits.le {a b : Int} (h : Fits b) (h0 : 0 ≤ a) (h1 : a ≤ b) : Fits a := Nat.lt_of_le_of_lt (by clear h; omega) h
theorem Fits.div {a b : Int} (h : Fits a) (h0 : 0 ≤ a) (h1 : 0 < b) : Fits (a / b) := h.le (Int.ediv_nonneg h0 (Int.le_of_lt h1)) (Int.ediv_le_self b h0)
theorem rv_mulF {i j : Int} {H : Hp} (ha : Fits i) (hb : Fits j) : RV (rI CMulX fun i j => .int (i * j)) (.int i) (.int j) H (.int (i * j)) := rv_mulX ha hb (by decide)
theorem rv_mulC7 {i : Int} {H : Hp} (ha : Fits i) : RV (rI CMulX fun i j => .int (i * j)) (.int i) (.int c7) H (.int (i * c7)) := rv_mulX ha c7_lt (by decide)
theorem rv_divF {i j : Int} {H : Hp} (h : 0 < j) (hb : Fits j) : RV (rI CDivW fun i j => .int (i / j)) (.int i) (.int j) H (.int (i / j)) := rv_I (wide_div h hb (by decide) (by decide))
theorem mod_nat (c : Int) (n : Nat) : ∃ j : Nat, c % ((n : Int) + 1) = (j : Int) ∧ j ≤ n := by
  have a0 := Int.emod_nonneg c (show (n : Int) + 1 ≠ 0 by omega)
  have a1 := Int.emod_lt_of_pos c (show (0 : Int) < (n : Int) + 1 by omega)
  exact ⟨(c % ((n : Int) + 1)).toNat, by omega, by omega⟩
/-! ### fields -/
theorem len_putF (f : Str) (v : V) : ∀ fs : List (Str × V), (putF f v fs).length ≤ fs.length + 1
  | [] => Nat.le_refl _
  | (g, x) :: r => by
    have ih := len_putF f v r
    unfold putF
    split
    · exact Nat.le_succ _
    · exact Nat.succ_le_succ ih
/-- the fields of a Listing, of a turning list -/
def lF (n z : Int) : List (Str × V) := putF "size" (.int z) (putF "length" (.int n) [])
def tF (s n : Int) (z : Int) : List (Str × V) := putF "signs" (.int s) (lF n z)
def cF (n k : Int) (z : Int) : List (Str × V) := putF "ones" (.int k) (lF n z)
theorem lF_len (n z : Int) : (lF n z).length ≤ 2 := Nat.le_trans (len_putF _ _ _) (Nat.succ_le_succ (len_putF _ _ _))
theorem lF_length (n z : Int) : (lF n z).lookup ("length" : Str) = some (V.int n) := by
  unfold lF
  rw [lookup_putF, if_neg (by decide +kernel), lookup_putF, if_pos rfl]
theorem lF_size (n z : Int) : (lF n z).lookup ("size" : Str) = some (V.int z) := by
  unfold lF
  rw [lookup_putF, if_pos rfl]
theorem lF_no (n z : Int) {m : Str} (h1 : ¬ m = "size") (h2 : ¬ m = "length") : (lF n z).lookup m = none := by
  unfold lF
  rw [lookup_putF, if_neg h1, lookup_putF, if_neg h2]
  rfl
theorem tF_length (s n z : Int) : (tF s n z).lookup ("length" : Str) = some (V.int n) := by
  unfold tF
  rw [lookup_putF, if_neg (by decide +kernel), lF_length]
theorem tF_size (s n z : Int) : (tF s n z).lookup ("size" : Str) = some (V.int z) := by
  unfold tF
  rw [lookup_putF, if_neg (by decide +kernel), lF_size]
theorem tF_signs (s n z : Int) : (tF s n z).lookup ("signs" : Str) = some (V.int s) := by
  unfold tF
  rw [lookup_putF, if_pos rfl]
theorem tF_no (s n z : Int) {m : Str} (h1 : ¬ m = "size") (h2 : ¬ m = "length") (h3 : ¬ m = "signs") : (tF s n z).lookup m = none := by
  unfold tF
  rw [lookup_putF, if_neg h3, lF_no _ _ h1 h2]
theorem cF_length (n k z : Int) : (cF n k z).lookup ("length" : Str) = some (V.int n) := by
  unfold cF
  rw [lookup_putF, if_neg (by decide +kernel), lF_length]
theorem cF_size (n k z : Int) : (cF n k z).lookup ("size" : Str) = some (V.int z) := by
  unfold cF
  rw [lookup_putF, if_neg (by decide +kernel), lF_size]
theorem cF_ones (n k z : Int) : (cF n k z).lookup ("ones" : Str) = some (V.int k) := by
  unfold cF
  rw [lookup_putF, if_pos rfl]
theorem cF_no (n k z : Int) {m : Str} (h1 : ¬ m = "size") (h2 : ¬ m = "length") (h3 : ¬ m = "ones") : (cF n k z).lookup m = none := by
  unfold cF
  rw [lookup_putF, if_neg h3, lF_no _ _ h1 h2]
theorem cF_m (n k z : Int) {m : Str} (h1 : ¬ m = "size" := by decide +kernel) (h2 : ¬ m = "length" := by decide +kernel) (h3 : ¬ m = "ones" := by decide +kernel) : (cF n k z).lookup m = none := cF_no _ _ _ h1 h2 h3
theorem tF_m (s n z : Int) {m : Str} (h1 : ¬ m = "size" := by decide +kernel) (h2 : ¬ m = "length" := by decide +kernel) (h3 : ¬ m = "signs" := by decide +kernel) : (tF s n z).lookup m = none := tF_no _ _ _ h1 h2 h3
/-! ### the law's promise: of a list of at most 63 ints, True -/
def spLawK (K : PySem.W.Frag) : Sp := fun vs H Q _ => ∃ (a : Addr) (ns : List Int), vs = [.ref a] ∧ SqL K H a (ns.map V.int) ∧ ns.length ≤ 63 ∧ (∀ z ∈ ns, Builtin.Int.intBits z ≤ 1048576) ∧ ∀ H', Q (.bl true) H'
/-- a cell of the script -/
def cell (ns : List Int) (k : Int) : Int := ns.getD k.toNat 0
/-! ### a plain def read off a class: C.m(..) -/
section
variable {X : Cx} {CX : CXT} {k : Nat} {f C : Addr} {mc : Value} {fd : FuncData} {ps : List Str} {sp : Sp} {dvs : List V} {ds : List Value} {E : XK} {x m : Str} {np apos pos : Pos} {e : Expr} {es : List Expr} {t : TA} {pl : Sem Bool}
theorem pe_clsfn (r : ClX.CRead X.K C mc) (at_ : PySem.W.findCls X.K (.ref C) mc m = some (.val (.ref f))) (kp : PySem.W.keepIn X.K (.ref f) = true) (F : FnOk X.prog X.w X.K X.mg X.base CX k f fd ps sp) (hr : Room k X.A) (hg : Gl X x) (hm : X.mg x = some (.ref C))
    (hb : Binds X.K fd ps ds) (hd : Vals dvs ds) (hx : Passes CX X E) (ha : PA X (e :: es) t) (hdb : (x == ("__debug__" : Str)) = false := by decide)
    (he : starEach (e :: es) X.env = (false, eval e X.env) :: starEach es X.env := by rfl) (hpl : (backTo pos (starEach es X.env)).any (·.1) = false := by rfl)
    (ht : eval (.Call (.Attribute (.Name x np) m apos) (e :: es) [] pos) X.env = (do
      let ov ← eval (.Name x np) X.env
      standAt apos.atName
      let (f, first) ← holding [ov] (getMethod ov m pl)
      callWith pos f first (backTo pos (starEach (e :: es) X.env)) (backToKw pos (keywordEach [] X.env))) := by rfl) :
    PE X (.Call (.Attribute (.Name x np) m apos) (e :: es) [] pos) (tCall sp dvs E t) := by
  refine ⟨fun pins s σ H Q I h => ?_⟩
  refine PySem.W.methodCall_KW (pl := pl) (ld_glob I hg hm ?_ hdb) ht
  refine PySem.W.method_cls I.kIn r.ga (PySem.W.cls_value I.kIn r.rd at_ rfl ?_)
  have I2 : Inv X pins σ H { s with toks := s.toks + 1 } := I.tok _
  refine PySem.W.callWith_K (h₀ := X.base) (first := []) I.ok.mod.kin kp (thn (ha.run pos pins { s with toks := s.toks + 1 } σ H _ I2 h) fun us s1 ⟨vs, H1, I1, rv, q⟩ => ⟨I1.kIn, ?_⟩) he hpl
  exact run_fn F hr hb hd hx I1 rv q
end
end Mk
/-! ### list(reversed(xs)) -/
namespace Mk
open PySem PySem.Spec PyProof.Rows L2 RT
section
variable {prog : Program} {w : World} {A : Around} {E : Value → Shared → Prop} {s : Shared}
theorem call_list_rev {it l : Addr} {items : Array Value} {Q : Value → Shared → Prop} (hh : A.handled = none) (hit : s.heap.IsRevIter it l ((items.size : Int) - 1)) (hl : s.heap.IsList l items) (hne : l ≠ it) (hn : items.size ≤ sizeLine)
    (hQ : ∀ (h' : Heap) (tk : Nat) (acc' : Array Value) (c' : Nat), (∀ b o, b ≠ it → s.heap.get? b = some o → h'.get? b = some o) → h'.get? s.heap.objs.size = some { cls := .type "list", dict := none, data := .seq acc' c', slots := #[] } →
      ItemsOf (fun i v => items[items.size - 1 - i]? = some v) acc' items.size → Q (.ref s.heap.objs.size) { s with heap := h', toks := tk }) :
    wpAny (model prog w) A (call (.type "list") [.ref it]) Q E s := by
  refine callType_codes (Q₁ := fun obj s₁ => obj = .ref s.heap.objs.size ∧ s₁ = { s with heap := s.heap.push { cls := .type "list", data := .seq #[] } }) PySem.F.called_list (PySem.F.typeCall_list_1 _) PySem.F.entry_list_init
    (code_list_new _ ⟨rfl, rfl⟩) fun obj s₁ h₁ => ?_
  obtain ⟨rfl, rfl⟩ := h₁
  have hS : (s.heap.push { cls := .type "list", data := .seq #[] }).get? s.heap.objs.size = some { cls := .type "list", data := .seq #[] } := Heap.get?_push_size _ rfl
  refine ⟨⟨_, hS, rfl⟩, PySem.F.args_list_init_2 _ _, ?_⟩
  obtain ⟨oi, hoi, _⟩ := id hit
  have hSi : s.heap.objs.size ≠ it := Nat.ne_of_gt (Heap.lt_size hoi)
  obtain ⟨ol, hol, _⟩ := id hl
  have hSl : s.heap.objs.size ≠ l := Nat.ne_of_gt (Heap.lt_size hol)
  show wpAny _ A.in1.in1 (do let old ← Builtin.List.listItems (.ref s.heap.objs.size); Builtin.List.listUpdate (.ref s.heap.objs.size) (fun _ => #[]); letGo old.toList.reverse; Builtin.List.listExtendWith (.ref s.heap.objs.size) (.ref it) .none) _ _ _
  refine wpAny_bind ?_
  unfold Builtin.List.listItems
  refine wpAny_bind (wpAny_seqItems hS rfl (wpAny_pure ?_))
  show wpAny _ A.in1.in1 (updateSeq s.heap.objs.size (fun _ => #[]) >>= fun _ => letGo (#[] : Array Value).toList.reverse >>= fun _ => Builtin.List.listExtendWith (.ref s.heap.objs.size) (.ref it) .none) _ _ _
  refine wpAny_bind (wpAny_updateSeq hS rfl ?_)
  have hS₂ := Heap.get?_update_self (Obj.mapSeq (fun _ => (#[] : Array Value))) hS rfl
  have oth : ∀ b o, b ≠ s.heap.objs.size → s.heap.get? b = some o → ((s.heap.push { cls := .type "list", data := .seq #[] }).update s.heap.objs.size (Obj.mapSeq (fun _ => (#[] : Array Value)))).get? b = some o :=
    fun b o hb e => (Heap.get?_update_other _ _ (Ne.symm hb)).trans (Heap.get?_push_of_some _ e)
  refine wpAny_bind (wpAny_letGo ?_)
  generalize hG : (s.heap.push { cls := .type "list", data := .seq #[] }).update s.heap.objs.size (Obj.mapSeq (fun _ => (#[] : Array Value))) = G at hS₂ oth
  have hit1 : G.IsRevIter it l ((items.size : Int) - 1) := hit.at fun o e => oth it o hSi.symm e
  have hl1 : G.IsList l items := hl.at fun o e => oth l o hSl.symm e
  have hT : ({ s with heap := G } : Shared).TypeIs (.ref it) "list_reverseiterator" := Heap.IsRevIter.typeIs (s := { s with heap := G }) hit1
  have h1 : Builtin.List.listSameRef (.ref s.heap.objs.size) (.ref it) = false := by simp [Builtin.List.listSameRef, hSi]
  have hSf : s.heap.objs.size ∉ [it, l] := by simp only [List.mem_cons, List.not_mem_nil, or_false, not_or]; exact ⟨hSi, hSl⟩
  have W := Walks.listRev (prog := prog) (w := w) (A := A.in1.in1) hh it l hne items
  unfold Builtin.List.listExtendWith
  refine wpAny_bind (wpAny_typeOf hT ?_)
  rw [if_neg (by rw [h1]; decide)]
  refine wpAny_bind (wpAny_pyIter_revIter (s := { s with heap := G }) hit1 ?_)
  refine wpAny_bind (wpAny_holding ?_)
  unfold Builtin.List.listLengthHint
  refine wpAny_bind (wpAny_specialOf hT nolen_lri ?_)
  show wpAny _ A.in1.in1 (specialOf (Value.ref it) (Str.ofString "__length_hint__") >>= _) _ _ _
  refine wpAny_bind (wpAny_specialOf hT hint_lri ?_)
  generalize hid : ("list_reverseiterator.__length_hint__" : String) = id0
  wp_delta
  rw [show splitId id0 = some ("list_reverseiterator", "__length_hint__") from by subst hid; decide +kernel]
  subst hid
  refine wpAny_bind (wpAny_isInstance (b := true) hT (by rw [isSubtype_type]; kernel_rfl) ?_)
  refine wpAny_pure ?_
  rw [if_neg (by decide)]
  have e0 : ((items.size : Nat) : Int) - 1 - ((0 : Nat) : Int) = (items.size : Int) - 1 := by omega
  refine wpAny_pure ⟨plainId_quiet F.plain_extend_loop _, codeAny_extend_loopS W.toS hn _ hSf _ items.size 0 _ _ _ rfl (Nat.zero_le _) ⟨Nat.zero_le _, by rw [e0]; exact hit1, hl1⟩ hS₂ (ItemsOf.nil _) fun s' acc' c' hm hS' hacc => ?_⟩
  rw [Moved.eq_with hm]
  refine ⟨rfl, hQ s'.heap s'.toks acc' c' (fun b o hb e => ?_) hS' hacc⟩
  have hb2 : b ≠ s.heap.objs.size := Nat.ne_of_lt (Heap.lt_size e)
  refine hm.heap b o (fun hmem => ?_) (oth b o hb2 e)
  rcases List.mem_cons.mp hmem with e' | hmem
  · exact hb2 e'
  · exact hb (List.mem_singleton.mp hmem)
end
section
variable {X : Cx}
/-- list(reversed(x)), x a list: a new list -/
def tLstRev (K : PySem.W.Frag) (te : TE) : TE := fun σ H Q => te σ H fun v H1 => ∃ (a : Addr) (xs : List V), v = .ref a ∧ SqL K H1 a xs ∧ ∀ q, H1 q = none → Q (.ref q) (upd H1 q (.lst xs.reverse))
theorem pe_lstRev {e : Expr} {te : TE} {p p2 pos pos2 : Pos} (hc : X.calm = true) (hg : Gl X "list") (hm : X.mg "list" = none) (hg2 : Gl X "reversed") (hm2 : X.mg "reversed" = none) (he : PE X e te)
    (hs : starEach [e] X.env = (false, eval e X.env) :: starEach [] X.env := by rfl)
    (hs2 : starEach [.Call (.Name "reversed" p2) [e] [] pos2] X.env = (false, eval (.Call (.Name "reversed" p2) [e] [] pos2) X.env) :: starEach [] X.env := by rfl) :
    PE X (.Call (.Name "list" p) [.Call (.Name "reversed" p2) [e] [] pos2] [] pos) (tLstRev X.K te) := by
  refine ⟨fun pins s σ H Q I h => ?_⟩
  refine Call_ (ld_blt I hg hm boot_list (PyProof.Rows.callWith_type1 (args_cons (Call_ (ld_blt I hg2 hm2 PyProof.Rows.boot_reversed (PyProof.Rows.callWith_type1 (args_cons (thn (he.run pins s σ H _ I h) fun u s1 ⟨v, H1, I1, r1, q1⟩ => args_nil ?_) hs) hs rfl))) hs2) hs2 rfl))
  obtain ⟨a, xs, ev, hq, q⟩ := q1
  subst ev
  obtain rfl : u = Value.ref a := r1
  obtain ⟨its, rv, p', hz⟩ := I1.list hq
  refine call_reversed_list p'.isList (args_nil ?_)
  have k0 : ∀ b o, s1.heap.get? b = some o → (s1.heap.push (revObj a ((its.toArray.size : Int) - 1))).get? b = some o := fun b o e => Heap.get?_push_of_some _ e
  have I2 : Inv X pins σ H1 { s1 with heap := s1.heap.push (revObj a ((its.toArray.size : Int) - 1)) } := I1.kept (t' := s1.toks) k0
  have hfr := I1.hok.fresh (Nat.le_refl s1.heap.objs.size)
  obtain ⟨f0, f1, f2, f3, f4, f5⟩ := I1.fpOk (H' := H1) (b := s1.heap.objs.size) (Nat.le_refl _) hfr
  have hl := p'.isList
  obtain ⟨ol, hol, _⟩ := id hl
  have hn : its.toArray.size ≤ sizeLine := by rw [List.size_toArray, ← rv.length]; exact hz
  refine call_list_rev (s := { s1 with heap := s1.heap.push (revObj a ((its.toArray.size : Int) - 1)) }) (I1.ok.hd hc) ⟨_, Heap.get?_push_size _ rfl, rfl, rfl⟩ (hl.push _) (Nat.ne_of_lt (Heap.lt_size hol)) hn fun h' tk acc c' hk hS hi => ?_
  refine ⟨.ref (s1.heap.push (revObj a ((its.toArray.size : Int) - 1))).objs.size, upd H1 (s1.heap.push (revObj a ((its.toArray.size : Int) - 1))).objs.size (.lst xs.reverse),
    I2.turnedNew (t' := tk) (ch := [s1.heap.objs.size]) (T := (s1.heap.push (revObj a ((its.toArray.size : Int) - 1))).objs.size) (ob := .lst xs.reverse) (fun b o hb e => hk b o (fun z => hb (by simp [z])) e) (fun b hb => ?_) (Nat.le_refl _) ?_, rfl, q _ (I2.hok.fresh (Nat.le_refl _))⟩
  · rw [List.mem_singleton.mp hb]
    exact I1.fpOk (Nat.le_refl _) hfr
  · refine ⟨by rw [List.length_reverse]; exact hz, acc.toList, c', vals_rev rv hi, ?_⟩
    rw [Array.toArray_toList]
    exact hS
end
end Mk
namespace Mk
open PySem L2 Evl
/-! ### rules whose reading names the written part: by a letter -/
section
variable {X : Cx} {K : PySem.W.Frag}
theorem pe_fldK {e : Expr} {f : Str} {ta : TE} {pos : Pos} (he : PE X e ta) (hb : attributeBase e f X.env (eval e X.env) = eval e X.env) (hK : X.K = K := by rfl) : PE X (.Attribute e f pos) (tFld K ta f) := by
  subst hK
  exact pe_fld he hb
theorem ix_listK (hK : X.K = K := by rfl) : IxR X (rIxL K) := by
  subst hK
  exact ix_list
theorem ix_tupK (hK : X.K = K := by rfl) : IxR X (rIxT K) := by
  subst hK
  exact ix_tup
theorem call_lenK (hK : X.K = K := by rfl) : CallR X (.builtin "len") (rLenS K) := by
  subst hK
  exact call_len_seq
end
/-! ### lists of ints -/
section
variable {K : PySem.W.Frag} {σ : L2.St} {H H0 H' : Hp} {ta tb tc te tx tl : TE} {t u : TT} {x y z v : V} {a b : Addr} {xs ys : List Int} {D : Ends} {tu tw tz : TS}
theorem int_item {ns : List Int} {i : Nat} {x : V} (h : (ns.map V.int)[i]? = some x) : ∃ (c : Int) (hi : i < ns.length), x = V.int c ∧ ns[i] = c := by
  rw [List.getElem?_map] at h
  cases e : ns[i]? with
  | none => rw [e] at h; cases h
  | some c =>
    rw [e] at h
    obtain ⟨hi, e2⟩ := List.getElem?_eq_some_iff.mp e
    exact ⟨c, hi, (Option.some.inj h).symm, e2⟩
theorem int_at {ns : List Int} {i : Nat} (hi : i < ns.length) : (ns.map V.int)[i]? = some (V.int ns[i]) := by
  rw [List.getElem?_map, List.getElem?_eq_getElem hi]
  rfl
theorem dp_all : ∀ xs : List Int, DpAll K H (xs.map V.int) (xs.map PyData.int)
  | [] => .nil
  | x :: r => .cons (.int x) (dp_all r)
theorem dp_ints (h : SqL K H a (xs.map V.int)) : Dp K H (.ref a) (.list (xs.map PyData.int)) := .lst h (dp_all xs)
theorem lay_ints : ∀ xs : List Int, PyData.canLayAll0 (xs.map PyData.int) = true
  | [] => rfl
  | x :: r => by
    show (PyData.canLay0 (PyData.int x) && PyData.canLayAll0 (r.map PyData.int)) = true
    rw [lay_ints r]
    rfl
theorem depth_ints : ∀ xs : List Int, PyData.depthAll (xs.map PyData.int) ≤ 1
  | [] => by decide
  | x :: r => by
    show max (PyData.depth (PyData.int x)) (PyData.depthAll (r.map PyData.int)) ≤ 1
    have := depth_ints r
    have e : PyData.depth (PyData.int x) ≤ 1 := by
      first | (show (0 : Nat) ≤ 1; decide) | (show (1 : Nat) ≤ 1; decide) | (simp [PyData.depth])
    omega
theorem shaped_ints (xs : List Int) : SeqAt.shaped (.list (xs.map PyData.int)) = true := by
  unfold SeqAt.shaped
  have h1 : PyData.canLay0 (.list (xs.map PyData.int)) = true := lay_ints xs
  have h2 : PyData.depth (.list (xs.map PyData.int)) ≤ 64 := by
    have e : PyData.depth (.list (xs.map PyData.int)) = 1 + PyData.depthAll (xs.map PyData.int) := by simp [PyData.depth, Nat.add_comm]
    have := depth_ints xs
    omega
  rw [h1, decide_eq_true h2]
  rfl
theorem eqv_ints : ∀ xs ys : List Int, PyData.eqvAll (xs.map PyData.int) (ys.map PyData.int) = decide (xs = ys)
  | [], [] => rfl
  | [], _ :: _ => rfl
  | _ :: _, [] => rfl
  | x :: r, y :: q => by
    show (PyData.eqv (.int x) (.int y) && PyData.eqvAll (r.map PyData.int) (q.map PyData.int)) = decide (x :: r = y :: q)
    rw [eqv_ints r q]
    have e : PyData.eqv (.int x) (.int y) = (x == y) := by simp [PyData.eqv]
    rw [e]
    by_cases h : x = y
    · subst h
      by_cases h2 : r = q
      · subst h2
        simp
      · simp [h2]
    · simp [h]
theorem rv_eqL (h1 : SqL K H a (xs.map V.int)) (h2 : SqL K H b (ys.map V.int)) : RV (rEqD K) (.ref a) (.ref b) H (.bl (decide (xs = ys))) := fun H1 e Q q =>
  ⟨_, _, dp_ints (ex_l e h1), dp_ints (ex_l e h2), shaped_ints _, shaped_ints _, by
    show Q (.bl (PyData.eqvAll (xs.map PyData.int) (ys.map PyData.int))) H1
    rw [eqv_ints]
    exact q H1 (Ex.refl H1)⟩
theorem rv_neL (h1 : SqL K H a (xs.map V.int)) (h2 : SqL K H b (ys.map V.int)) : RV (rNeD K) (.ref a) (.ref b) H (.bl (!decide (xs = ys))) := fun H1 e Q q =>
  ⟨_, _, dp_ints (ex_l e h1), dp_ints (ex_l e h2), shaped_ints _, shaped_ints _, by
    show Q (.bl (!PyData.eqvAll (xs.map PyData.int) (ys.map PyData.int))) H1
    rw [eqv_ints]
    exact q H1 (Ex.refl H1)⟩
/-- [e for x in xs] -/
theorem el_mapL {l : Addr} {vs : List V} {j : Nat} {ws : List Nat} (g : V → V) (h : Ev tl σ H (.ref l)) (hx : SqL K H l vs) (hz : vs.length ≤ 40000) (hw : ∀ x, wipe ((wipe σ ws).set j (some x)) ws = wipe σ ws)
    (he : ∀ x H1, Ex H H1 → x ∈ vs → Ev te ((wipe σ ws).set j (some x)) H1 (g x)) : EvL (tLc (iList K tl) (gName j) tYes te ws) σ H (vs.map g) := by
  have h0 := el_lcL (K := K) (t := tYes) (te := te) (fun _ => true) (fun i => match vs[i]? with | some x => g x | none => .non) h hx hz hw (fun i x H1 e hi => fun H2 _ Q q => q H2 (Ex.refl H2)) (fun i x H1 e hi _ => by
    rw [hi]
    exact he x H1 e (List.mem_of_getElem? hi))
  have e : given vs.length (fun _ => true) (fun i => match vs[i]? with | some x => g x | none => .non) = vs.map g := by
    unfold given
    rw [List.filter_eq_self.mpr (fun _ _ => rfl)]
    apply List.ext_getElem?
    intro i
    rw [List.getElem?_map, List.getElem?_map]
    by_cases hi : i < vs.length
    · rw [List.getElem?_range hi, List.getElem?_eq_getElem hi]
      simp [hi]
    · rw [List.getElem?_eq_none (by simpa using hi), List.getElem?_eq_none (by simpa using hi)]
      rfl
  rw [e] at h0
  exact h0
/-- all([..]) -/
theorem ev_allL {bs : List Bool} (h : EvL te σ H (bs.map V.bl)) : Ev (tCB (rAll K) (tCons te tNil)) σ H (.bl (bs.all id)) := fun H1 e Q q =>
  h H1 e _ fun p H2 _ e2 hp => ⟨p, bs, rfl, sq_of hp, q H2 e2⟩
theorem ev_allI {l : Addr} {ns : List Int} {j : Nat} {ws : List Nat} (p : Int → Bool) (h : Ev tl σ H (.ref l)) (hx : SqL K H l (ns.map V.int)) (hz : ns.length ≤ 40000) (hw : ∀ x, wipe ((wipe σ ws).set j (some x)) ws = wipe σ ws)
    (he : ∀ m H1, Ex H H1 → m ∈ ns → Ev te ((wipe σ ws).set j (some (.int m))) H1 (.bl (p m))) : Ev (tCB (rAll K) (tCons (tLc (iList K tl) (gName j) tYes te ws) tNil)) σ H (.bl (ns.all p)) := by
  have h0 := el_mapL (K := K) (te := te) (fun x => match x with | .int m => V.bl (p m) | _ => .non) h hx (by rw [List.length_map]; exact hz) hw (fun x H1 e hm => by
    obtain ⟨m, hm2, rfl⟩ := List.mem_map.mp hm
    exact he m H1 e hm2)
  have e : (ns.map V.int).map (fun x => match x with | .int m => V.bl (p m) | _ => .non) = (ns.map p).map V.bl := by
    rw [List.map_map, List.map_map]
    rfl
  rw [e] at h0
  have h1 := ev_allL (K := K) h0
  have e2 : (ns.map p).all id = ns.all p := by rw [List.all_map]; rfl
  rw [e2] at h1
  exact h1
/-- [x] * n -/
theorem el_rep {vs : List V} {n : Int} (h : EvL ta σ H vs) (hb : ∀ H1, Ex H H1 → Ev tb σ H1 (.int n)) (h0 : 0 ≤ n) (h1 : n ≤ 1000) (hl : vs.length ≤ 1) : EvL (tOp rRep ta tb) σ H (List.replicate n.toNat vs).flatten := fun H1 e Q q =>
  h H1 e _ fun p H2 hp e2 hv => hb H2 (e.trans e2) H2 (Ex.refl H2) _ fun H3 e3 => ⟨p, n, vs, rfl, rfl, e3 _ _ hv, by omega, by omega, by
    have : vs.length * n.toNat ≤ 1 * 1000 := Nat.mul_le_mul hl (by omega)
    exact Nat.le_trans this (by decide), fun p' hp' => q p' _ (fresh_back (e2.trans e3) hp') ((e2.trans e3).trans (Ex.new hp')) upd_same⟩
/-- xs + ys -/
theorem el_cat {vs ws : List V} (h : EvL ta σ H vs) (hb : EvL tb σ H ws) (hl : vs.length + ws.length ≤ 100000) : EvL (tOp rCat ta tb) σ H (vs ++ ws) := fun H1 e Q q =>
  h H1 e _ fun p H2 hp e2 hv => hb H2 (e.trans e2) _ fun p2 H3 hp2 e3 hw => ⟨p, p2, vs, ws, rfl, rfl, e3 _ _ hv, hw, sz_of (by omega), fun p' hp' => q p' _ (fresh_back (e2.trans e3) hp') ((e2.trans e3).trans (Ex.new hp')) upd_same⟩
theorem flat_one (n : Nat) (v : V) : (List.replicate n [v]).flatten = List.replicate n v := by
  induction n with
  | zero => rfl
  | succ n ih => rw [List.replicate_succ, List.flatten_cons, ih]; rfl
/-- list(reversed(xs)) -/
theorem el_lstRev {vs : List V} (h : Ev te σ H (.ref a)) (hx : SqL K H a vs) : EvL (tLstRev K te) σ H vs.reverse := fun H1 e Q q =>
  h H1 e _ fun H2 e2 => ⟨a, vs, rfl, ex_l (e.trans e2) hx, fun p hp => q p _ (fresh_back e2 hp) (e2.trans (Ex.new hp)) upd_same⟩
theorem cut_ints (ns : List Int) (lo hi : Option Int) : ∃ ms : List Int, cutV (ns.map V.int) lo hi = ms.map V.int := by
  unfold cutV
  rw [← List.map_drop, ← List.map_take]
  exact ⟨_, rfl⟩
theorem b_forNLn {vs : List V} {j : Nat} (e : Ex H0 H) (h : EvL tl σ H0 vs) (Pv : Addr → Nat → L2.St → Hp → Prop) (h0 : ∀ p H1, H p = none → Ex H H1 → H1 p = some (.lst vs) → Pv p 0 σ H1) (hl : ∀ p i σ' H', i ≤ vs.length → Pv p i σ' H' → SqL K H' p vs)
    (hs : ∀ p i x σ' H', vs[i]? = some x → Pv p i σ' H' → tu { D with nx := Pv p (i + 1), ct := Pv p (i + 1), bk := tz D } (σ'.set j (some x)) H') (hd : ∀ p σ' H', Pv p vs.length σ' H' → tz D σ' H') : tSeq (tFor (iList K tl) (gName j) tu) tz D σ H :=
  q_forNLn (h.mono e) Pv h0 hl hs hd
theorem b_forRev {tg : TA} {l : Addr} {vs : List V} {j : Nat} (e : Ex H0 H) (h : EvA tg σ H0 [.ref l]) (hx : SqL K H0 l vs) (Pv : Nat → L2.St → Hp → Prop) (h0 : ∀ H1, Ex H0 H1 → Pv 0 σ H1) (hq : ∀ i σ' H', Pv i σ' H' → SqL K H' l vs)
    (hs : ∀ (i : Nat) x σ' H', i < vs.length → vs[vs.length - 1 - i]? = some x → Pv i σ' H' → tu { D with nx := Pv (i + 1), ct := Pv (i + 1), bk := tz D } (σ'.set j (some x)) H') (hd : ∀ σ' H', Pv vs.length σ' H' → tz D σ' H') : tSeq (tFor (iRev K tg) (gName j) tu) tz D σ H :=
  h H e _ fun H1 e1 => ⟨l, vs, rfl, ex_l (e.trans e1) hx, RT.for_Itv Pv (h0 H1 (e.trans e1)) hq hs hd⟩
end
/-! ### what raises as is wished -/
section
variable {K : PySem.W.Frag} {σ : L2.St} {H H0 H' : Hp} {ta tb tc te tx tl : TE} {t u : TT} {x y z v : V} {a b C dx : Addr} {fs : List (Str × V)} {m : Str} {D : Ends} {tu tw tz : TS} {r : R2} {tg tr : TA}
/-- refused -/
def RetX (c : Addr) (H : Hp) (E : XK) : Prop := ∀ H2, Ex H H2 → E (.ref c) none H2
def EvR (te : TE) (σ : L2.St) (H : Hp) : Prop := ∀ H1, Ex H H1 → ∀ Q : VK, te σ H1 Q
def EvRA (ta : TA) (σ : L2.St) (H : Hp) : Prop := ∀ H1, Ex H H1 → ∀ Q : List V → Hp → Prop, ta σ H1 Q
theorem er_op1 (h : EvR ta σ H) : EvR (tOp r ta tb) σ H := fun H1 e _ => h H1 e _
theorem er_op2 (ha : Ev ta σ H x) (h : EvR tb σ H) : EvR (tOp r ta tb) σ H := fun H1 e _ => ha H1 e _ fun H2 e2 => h H2 (e.trans e2) _
theorem er_cons1 (h : EvR ta σ H) : EvRA (tCons ta tr) σ H := fun H1 e _ => h H1 e _
theorem er_cons2 (ha : Ev ta σ H x) (h : EvRA tr σ H) : EvRA (tCons ta tr) σ H := fun H1 e _ => ha H1 e _ fun H2 e2 => h H2 (e.trans e2) _
theorem er_methA {sp : Sp} {dvs : List V} {E : XK} (h : Ev ta σ H (.ref a)) (ho : H a = some (.ins C dx fs)) (hl : fs.lookup m = none) (ha : EvRA tg σ H) : EvR (tMeth C m sp dvs E ta tg) σ H := fun H1 e _ =>
  h H1 e _ fun H2 e2 => ⟨a, dx, fs, rfl, e2 _ _ (e _ _ ho), hl, ha H2 (e.trans e2) _⟩
theorem er_meth {sp : Sp} {dvs vs : List V} {E : XK} (h : Ev ta σ H (.ref a)) (ho : H a = some (.ins C dx fs)) (hl : fs.lookup m = none) (ha : EvA tg σ H vs) (hs : ∀ H1, Ex H H1 → ∀ Q : VK, sp (.ref a :: (vs ++ dvs)) H1 Q E) : EvR (tMeth C m sp dvs E ta tg) σ H := fun H1 e Q =>
  h H1 e _ fun H2 e2 => ⟨a, dx, fs, rfl, e2 _ _ (e _ _ ho), hl, ha H2 (e.trans e2) _ fun H3 e3 => hs H3 ((e.trans e2).trans e3) Q⟩
theorem b_retR (e : Ex H0 H) (h : EvR te σ H0) : tRet te D σ H := h H e _
/-- return o.m(..), as the promise goes on -/
theorem b_retMeth {sp : Sp} {dvs vs : List V} {E : XK} (e : Ex H0 H) (h : Ev ta σ H0 (.ref a)) (ho : H0 a = some (.ins C dx fs)) (hl : fs.lookup m = none) (ha : EvA tg σ H0 vs) (hs : ∀ H1, Ex H0 H1 → sp (.ref a :: (vs ++ dvs)) H1 D.rt E) : tRet (tMeth C m sp dvs E ta tg) D σ H :=
  h H e _ fun H2 e2 => ⟨a, dx, fs, rfl, (e.trans e2) _ _ ho, hl, ha H2 (e.trans e2) _ fun H3 e3 => hs H3 ((e.trans e2).trans e3)⟩
theorem b_asgR {i : Nat} (e : Ex H0 H) (h : EvR te σ H0) : tSeq (tAsg te (gName i)) tz D σ H := h H e _
theorem RetX.mono {c : Addr} {E : XK} {H H' : Hp} (h : RetX c H E) (e : Ex H H') : RetX c H' E := fun H2 e2 => h H2 (e.trans e2)
/-- x = [a new list, a new list] -/
theorem b_asgLL {i : Nat} {xs ys : List V} (e : Ex H0 H) (h1 : EvL ta σ H0 xs) (h2 : EvL tb σ H0 ys) (k : ∀ p a b H1, H0 p = none → Ex H0 H1 → H1 p = some (.lst [.ref a, .ref b]) → H1 a = some (.lst xs) → H1 b = some (.lst ys) → tz D (σ.set i (some (.ref p))) H1) :
    tSeq (tAsg (tLst (tCons ta (tCons tb tNil))) (gName i)) tz D σ H :=
  h1 H e _ fun a H1 ha e1 h1 => h2 H1 (e.trans e1) _ fun b H2 hb e2 h2 => ⟨by show 2 ≤ sizeLine; decide, fun p hp => k p a b _ (fresh_back ((e.trans e1).trans e2) hp) (((e.trans e1).trans e2).trans (Ex.new hp)) upd_same (by rw [upd_ne (ne_of_none (e2 _ _ h1) hp)]; exact e2 _ _ h1) (by rw [upd_ne (ne_of_none h2 hp)]; exact h2)⟩
/-- a new tuple handed back -/
def RetU (xs : List V) (H : Hp) (Q : VK) : Prop := ∀ p H2, H p = none → Ex H H2 → H2 p = some (.tup xs) → Q (.ref p) H2
theorem eu_callF {sp : Sp} {dvs vs xs : List V} {E : XK} (ha : EvA tg σ H vs) (hs : ∀ H1, Ex H H1 → ∀ Q : VK, RetU xs H1 Q → sp (vs ++ dvs) H1 Q E) : EvU (tCall sp dvs E tg) σ H xs := fun H1 e Q q =>
  ha H1 e _ fun H2 e2 => hs H2 (e.trans e2) Q fun p H3 hp e3 h3 => q p H3 (fresh_back e2 hp) (e2.trans e3) h3
theorem ev_lenT {p : Addr} {xs : List V} (ha : Ev ta σ H (.ref p)) (h : SqT K H p xs) : Ev (tCB (rLenS K) (tCons ta tNil)) σ H (.int (xs.length : Int)) := fun H1 e Q q =>
  ha H1 e _ fun H2 e2 => ⟨p, xs, rfl, Or.inr (ex_t (e.trans e2) h), q H2 e2⟩
theorem b_aug {i : Nat} {f : Int → Int → Int} {a b : Int} (e : Ex H0 H) (hx : σ[i]? = some (some (.int a))) (h : Ev te σ H0 (.int b)) (k : ∀ H1, Ex H0 H1 → tz D (σ.set i (some (.int (f a b)))) H1) : tSeq (tAug i te (ipI f)) tz D σ H := q_aug hx (h.mono e) fun H1 e1 => k H1 (e.trans e1)
theorem l_aug {i : Nat} {f : Int → Int → Int} {a b : Int} (e : Ex H0 H) (hx : σ[i]? = some (some (.int a))) (h : Ev te σ H0 (.int b)) (k : ∀ H1, Ex H0 H1 → D.nx (σ.set i (some (.int (f a b)))) H1) : tAug i te (ipI f) D σ H := s_aug hx (h.mono e) fun H1 e1 => k H1 (e.trans e1)
/-- a change: none, a turn, a swap -/
inductive Ch where
  | non | turn (j : Int) | swap (i j : Int)
/-- .. as a value -/
def ChAt (K : PySem.W.Frag) (H : Hp) (v : V) : Ch → Prop
  | .non => v = .non
  | .turn j => ∃ t, v = .ref t ∧ SqT K H t [.str "turn", .int j]
  | .swap i j => ∃ t, v = .ref t ∧ SqT K H t [.str "swap", .int i, .int j]
theorem ChAt.mono {c : Ch} (h : ChAt K H v c) (e : Ex H H') : ChAt K H' v c := by
  cases c with
  | non => exact h
  | turn j => obtain ⟨t, rfl, h⟩ := h; exact ⟨t, rfl, ex_t e h⟩
  | swap i j => obtain ⟨t, rfl, h⟩ := h; exact ⟨t, rfl, ex_t e h⟩
theorem rv_isNb {b : Bool} (h : decide (x = .non) = b) : RV (fun x y H Q => y = .non ∧ Q (.bl (decide (x = .non))) H) x .non H (.bl b) := by
  subst h
  exact rv_isN
theorem rv_notNb {b : Bool} (h : (!decide (x = .non)) = b) : RV (fun x y H Q => y = .non ∧ Q (.bl (!decide (x = .non))) H) x .non H (.bl b) := by
  subst h
  exact rv_notN
theorem rv_neS {x y : Str} {b : Bool} (h : (!decide (V.str x = V.str y)) = b) : RV rNe (.str x) (.str y) H (.bl b) := by
  subst h
  exact rv_ne rfl
end
/-! ### loops: range(n, 0, -1), enumerate -/
section
variable {K : PySem.W.Frag} {σ : L2.St} {H H0 H' : Hp} {D : Ends} {tu tz : TS} {tg : TA}
theorem b_forDown {j : Nat} {n : Nat} (e : Ex H0 H) (h : EvA tg σ H0 [.int n, .int 0, .int (-1)]) (hn : n ≤ 100000) (Pv : Nat → L2.St → Hp → Prop) (h0 : ∀ H1, Ex H0 H1 → Pv 0 σ H1)
    (hs : ∀ (i : Nat) σ' H', i < n → Pv i σ' H' → tu { D with nx := Pv (i + 1), ct := Pv (i + 1), bk := tz D } (σ'.set j (some (.int ((n : Int) - i)))) H') (hd : ∀ σ' H', Pv n σ' H' → tz D σ' H') : tSeq (tFor (iRng3 tg) (gName j) tu) tz D σ H :=
  h H e _ fun H1 e1 => ⟨n, 0, -1, n, rfl, by
    have h := RgC.neg (i := (n : Int)) (j := 0) (by omega) (by omega) (by omega) (by omega)
    rw [Int.sub_zero, Int.toNat_natCast] at h
    exact h, for_rangeC (lo := (n : Int)) (c := -1) (n := n) Pv (h0 H1 (e.trans e1)) (fun i σ' H' hi p => by
      have e0 : (n : Int) + (i : Int) * -1 = (n : Int) - i := by omega
      show tu _ (σ'.set j (some (.int ((n : Int) + (i : Int) * -1)))) H'
      rw [e0]
      exact hs i σ' H' hi p) hd⟩
theorem b_forEnum {l : Addr} {vs : List V} {j k : Nat} (e : Ex H0 H) (h : EvA tg σ H0 [.ref l]) (hx : SqL K H0 l vs) (Pv : Nat → L2.St → Hp → Prop) (h0 : ∀ H1, Ex H0 H1 → Pv 0 σ H1) (hl : ∀ i σ' H', Pv i σ' H' → SqL K H' l vs)
    (hs : ∀ (i : Nat) x σ' H' H1, vs[i]? = some x → Pv i σ' H' → Ex H' H1 → tu { D with nx := Pv (i + 1), ct := Pv (i + 1), bk := tz D } ((σ'.set j (some (.int i))).set k (some x)) H1) (hd : ∀ σ' H', Pv vs.length σ' H' → tz D σ' H') :
    tSeq (tFor (iEnum K tg) (gTup K 2 (gCons (gName j) (gCons (gName k) gNil))) tu) tz D σ H :=
  h H e _ fun H1 e1 => ⟨l, vs, rfl, ex_l (e.trans e1) hx, fun i m σ H => m = vs.length - i ∧ i ≤ vs.length ∧ Pv i σ H, ⟨vs.length, rfl, Nat.zero_le _, h0 H1 (e.trans e1)⟩, by
    rintro i m σ' H' ⟨rfl, hi, p⟩
    by_cases hlt : i < vs.length
    · refine .inr ⟨⟨vs, vs[i], hl i σ' H' p, List.getElem?_eq_getElem hlt⟩, Pv (i + 1), fun σ2 H2 p' => ⟨vs.length - (i + 1), by omega, rfl, hlt, p'⟩, ?_⟩
      rintro v H2 ⟨t, x, rfl, nt, rfl, hx'⟩
      refine ⟨t, [.int i, x], rfl, st_of upd_same, rfl, .int i, [x], rfl, x, [], rfl, rfl, ?_⟩
      exact hs i x σ' H' _ (hx' vs (hl i σ' H' p)) p (Ex.new nt)
    · have e : i = vs.length := by omega
      subst e
      exact .inl ⟨⟨vs, hl _ σ' H' p, Nat.le_refl _⟩, hd σ' H' p⟩⟩
/-- sum of ints -/
theorem ev_sum {ta : TE} {l : Addr} {ns : List Int} (h : Ev ta σ H (.ref l)) (hx : SqL K H l (ns.map V.int)) : Ev (tCB (rSum K) (tCons ta tNil)) σ H (.int ns.sum) := fun H1 e Q q =>
  h H1 e _ fun H2 e2 => ⟨l, ns, rfl, ex_l (e.trans e2) hx, q H2 e2⟩
end
end Mk

/-! ### both kinds of list: changes; pairs; lists of rows -/
namespace Mk
open PySem L2 Evl
/-- the ones as a value -/
def onV : Kd → V
  | .T _ _ => .non
  | .C _ k => .int (k : Int)
/-- the change c, done with d, leads from the one row to the other -/
def Mv : Kd → Int → Ch → List Int → List Int → Prop
  | _, _, .non, xs, ys => ys = xs
  | .T s _, d, .turn j, xs, ys => ∃ j' : Nat, j = j' ∧ j' < xs.length ∧ ys = xs.set j' ((xs.getD j' 0 + d) % s)
  | .C _ _, d, .swap i j, xs, ys => ∃ i' j' : Nat, i = i' ∧ j = j' ∧ if d < 0 then SwpAt xs ys j' i' else SwpAt xs ys i' j'
  | _, _, _, _, _ => False
theorem Mv.back {d : Kd} {c : Ch} {xs ys : List Int} (hk : d.ok) (hr : d.row xs) (h : Mv d 1 c xs ys) : Mv d (-1) c ys xs := by
  cases d with
  | T s n =>
    cases c with
    | non => exact h.symm
    | turn j =>
      obtain ⟨j', rfl, hj, rfl⟩ := h
      refine ⟨j', rfl, by rw [List.length_set]; exact hj, ?_⟩
      obtain ⟨m0, m1⟩ := hr.2 xs[j'] (List.getElem_mem hj)
      have h1 : (xs.set j' ((xs.getD j' 0 + 1) % s)).getD j' 0 = (xs[j'] + 1) % s := by simp [hj]
      have h2 : ((xs[j'] + 1) % s + -1) % s = xs[j'] := by
        rw [Int.emod_add_emod, show xs[j'] + 1 + -1 = xs[j'] by omega, Int.emod_eq_of_lt m0 m1]
      rw [h1, h2, List.set_set, List.set_getElem_self]
    | swap i j => exact absurd h id
  | C n k =>
    cases c with
    | non => exact h.symm
    | turn j => exact absurd h id
    | swap i j =>
      obtain ⟨i', j', rfl, rfl, h⟩ := h
      rw [if_neg (by decide)] at h
      exact ⟨i', j', rfl, rfl, by rw [if_pos (by decide)]; exact h.back⟩
section
variable {K : PySem.W.Frag} {σ : L2.St} {H H0 H' : Hp} {ta tb te : TE} {t : TT} {D : Ends} {tz : TS}
/-- a change as a value, its tuple not frozen -/
def ChT (H : Hp) (v : V) : Ch → Prop
  | .non => v = .non
  | .turn j => ∃ t, v = .ref t ∧ H t = some (.tup [.str "turn", .int j])
  | .swap i j => ∃ t, v = .ref t ∧ H t = some (.tup [.str "swap", .int i, .int j])
theorem ChT.mono {v : V} {c : Ch} (h : ChT H v c) (e : Ex H H') : ChT H' v c := by
  cases c with
  | non => exact h
  | turn j => obtain ⟨t, rfl, h⟩ := h; exact ⟨t, rfl, e _ _ h⟩
  | swap i j => obtain ⟨t, rfl, h⟩ := h; exact ⟨t, rfl, e _ _ h⟩
/-- a value that is a change of which P holds -/
def EvCh (te : TE) (σ : L2.St) (H : Hp) (P : Ch → Prop) : Prop := ∀ H1, Ex H H1 → ∀ Q : VK, (∀ c, P c → ∀ v H2, Ex H1 H2 → ChT H2 v c → Q v H2) → te σ H1 Q
theorem ech_non {P : Ch → Prop} (h : Ev te σ H .non) (hp : P .non) : EvCh te σ H P := fun H1 e Q q => h H1 e Q fun H2 e2 => q .non hp .non H2 e2 rfl
theorem ech_turn {P : Ch → Prop} {j : Int} (h : EvU te σ H [.str "turn", .int j]) (hp : P (.turn j)) : EvCh te σ H P := fun H1 e Q q => h H1 e Q fun p H2 _ e2 h2 => q (.turn j) hp _ H2 e2 ⟨p, rfl, h2⟩
theorem ech_swap {P : Ch → Prop} {i j : Int} (h : EvU te σ H [.str "swap", .int i, .int j]) (hp : P (.swap i j)) : EvCh te σ H P := fun H1 e Q q => h H1 e Q fun p H2 _ e2 h2 => q (.swap i j) hp _ H2 e2 ⟨p, rfl, h2⟩
/-- a new list and an int, in a new tuple -/
def RetP (xs : List V) (z : Int) (H : Hp) (Q : VK) : Prop := ∀ p l H2, H l = none → Ex H H2 → H2 p = some (.tup [.ref l, .int z]) → H2 l = some (.lst xs) → Q (.ref p) H2
def EvP (te : TE) (σ : L2.St) (H : Hp) (xs : List V) (z : Int) : Prop := ∀ H1, Ex H H1 → ∀ Q : VK, RetP xs z H1 Q → te σ H1 Q
theorem ep_tup {xs : List V} {z : Int} (h : EvL ta σ H xs) (hb : ∀ H1, Ex H H1 → Ev tb σ H1 (.int z)) : EvP (tTup (tCons ta (tCons tb tNil))) σ H xs z := fun H1 e Q q =>
  h H1 e _ fun l H2 hl e2 h2 => hb H2 (e.trans e2) H2 (Ex.refl H2) _ fun H3 e3 => ⟨by show 2 ≤ sizeLine; decide, fun p hp => q p l _ hl ((e2.trans e3).trans (Ex.new hp)) upd_same (by rw [upd_ne (ne_of_none (e3 _ _ h2) hp)]; exact e3 _ _ h2)⟩
theorem b_retP {xs : List V} {z : Int} (e : Ex H0 H) (h : EvP te σ H0 xs z) (k : RetP xs z H0 D.rt) : tRet te D σ H := h H e _ fun p l H2 hl e2 h1 h2 => k p l H2 (fresh_back e hl) (e.trans e2) h1 h2
/-- a pair of a list that is held and an int -/
theorem b_retQ {xs : List V} {z : Int} {l : Addr} (e : Ex H0 H) (nl : H0 l = none) (hl : H l = some (.lst xs)) (ha : Ev ta σ H (.ref l)) (hb : Ev tb σ H (.int z)) (k : RetP xs z H0 D.rt) : tRet (tTup (tCons ta (tCons tb tNil))) D σ H :=
  ha H (Ex.refl H) _ fun H2 e2 => hb H2 e2 _ fun H3 e3 => ⟨by show 2 ≤ sizeLine; decide, fun p hp => k p l _ nl (((e.trans e2).trans e3).trans (Ex.new hp)) upd_same (by rw [upd_ne (ne_of_none ((e2.trans e3) _ _ hl) hp)]; exact (e2.trans e3) _ _ hl)⟩
/-- x, y = such a pair -/
theorem b_asgP {i j : Nat} {xs : List V} {z : Int} (e : Ex H0 H) (h : EvP te σ H0 xs z) (k : ∀ l H1, H0 l = none → Ex H0 H1 → H1 l = some (.lst xs) → tz D ((σ.set i (some (.ref l))).set j (some (.int z))) H1) : tSeq (tAsg te (gTup K 2 (gCons (gName i) (gCons (gName j) gNil)))) tz D σ H :=
  h H e _ fun p l H1 hl e1 h1 h2 => ⟨p, [.ref l, .int z], rfl, st_of h1, rfl, .ref l, [.int z], rfl, .int z, [], rfl, rfl, k l H1 (fresh_back e hl) (e.trans e1) h2⟩
/-- isinstance with an own class -/
theorem ev_isiO {tg : TA} {C : Addr} {x : V} {tv : Value} {b : Bool} (ha : EvA tg σ H [x, .ref C]) (ty : TyOf K H x tv) (hb : PySem.W.kitOne K tv (.ref C) = some b) : Ev (tCB (rIsi K) tg) σ H (.bl b) :=
  ev_cb ha fun H1 e Q q => ⟨x, .ref C, tv, .ref C, b, rfl, .own _, .base (ex_ty e ty), hb, q H1 (Ex.refl H1)⟩
/-- [e for j in range(1, n) if t] -/
theorem el_lcR2 {ta : TA} {j : Nat} {vs : List Nat} {n : Int} (f : Nat → Bool) (v : Nat → V) (h : EvA ta σ H [.int 1, .int n]) (hn : 0 ≤ n ∧ n ≤ 40000) (hw : ∀ x, wipe ((wipe σ vs).set j (some x)) vs = wipe σ vs)
    (ht : ∀ (i : Nat) H1, Ex H H1 → (i : Int) < n - 1 → EvT t ((wipe σ vs).set j (some (.int ((1 : Int) + i)))) H1 (f i)) (he : ∀ (i : Nat) H1, Ex H H1 → (i : Int) < n - 1 → f i = true → Ev te ((wipe σ vs).set j (some (.int ((1 : Int) + i)))) H1 (v i)) :
    EvL (tLc (iRng2 ta) (gName j) t te vs) σ H (given (n - 1).toNat f v) := fun H0 e Q q => h H0 e _ fun H1 e1 => ⟨1, n, rfl, ⟨by omega, by omega, by omega, by omega⟩, fun Dl hD =>
  lc_range (lo := 1) (n := (n - 1).toNat) (Cw H1 f v Dl) ⟨hD, Ex.new hD, upd_same⟩ (fun i H' hi p => by
    show wipe ((wipe σ vs).set j (some (.int ((1 : Int) + (i : Int))))) vs = wipe σ vs ∧ t ((wipe σ vs).set j (some (.int ((1 : Int) + (i : Int))))) H' fun b H3 => if b = true then te ((wipe σ vs).set j (some (.int ((1 : Int) + (i : Int))))) H3 fun y H4 => ∃ acc, H4 Dl = some (.lst acc) ∧ acc.length < sizeLine ∧ Cw H1 f v Dl (i + 1) (upd H4 Dl (.lst (acc ++ [y]))) else Cw H1 f v Dl (i + 1) H3
    exact ⟨hw _, cw_turn p (by omega) (ht i H1 (e.trans e1) (by omega)) (fun hf => he i H1 (e.trans e1) (by omega) hf)⟩) (fun H' p => q Dl H' (fresh_back e1 p.1) (e1.trans p.2.1) p.2.2)⟩
/-! lists of rows -/
def RowsAt (H : Hp) (A : List Addr) : List V → List (List Int) → Prop
  | [], [] => True
  | v :: vs, xs :: xss => (∃ l, v = .ref l ∧ H l = some (.lst (xs.map V.int)) ∧ l ∉ A) ∧ RowsAt H A vs xss
  | _, _ => False
theorem RowsAt.mono {A : List Addr} (hm : ∀ l o, l ∉ A → H l = some o → H' l = some o) : ∀ {vs : List V} {xss : List (List Int)}, RowsAt H A vs xss → RowsAt H' A vs xss
  | [], [], _ => trivial
  | v :: vs, xs :: xss, ⟨⟨l, hv, hl, hn⟩, r⟩ => ⟨⟨l, hv, hm _ _ hn hl, hn⟩, RowsAt.mono hm r⟩
theorem RowsAt.snoc {A : List Addr} {l : Addr} {xs : List Int} (hl : H l = some (.lst (xs.map V.int))) (hn : l ∉ A) : ∀ {vs : List V} {xss : List (List Int)}, RowsAt H A vs xss → RowsAt H A (vs ++ [.ref l]) (xss ++ [xs])
  | [], [], _ => ⟨⟨l, rfl, hl, hn⟩, trivial⟩
  | v :: vs, ys :: xss, ⟨h, r⟩ => ⟨h, RowsAt.snoc hl hn r⟩
theorem RowsAt.len {A : List Addr} : ∀ {vs : List V} {xss : List (List Int)}, RowsAt H A vs xss → vs.length = xss.length
  | [], [], _ => rfl
  | v :: vs, xs :: xss, ⟨_, r⟩ => congrArg (· + 1) r.len
theorem RowsAt.get {A : List Addr} {xs : List Int} : ∀ {vs : List V} {xss : List (List Int)} {i : Nat}, RowsAt H A vs xss → xss[i]? = some xs → ∃ l, vs[i]? = some (.ref l) ∧ H l = some (.lst (xs.map V.int))
  | v :: vs, ys :: xss, 0, ⟨⟨l, hv, hl, _⟩, _⟩, h => by
    cases h
    exact ⟨l, by rw [hv]; rfl, hl⟩
  | v :: vs, ys :: xss, i + 1, ⟨_, r⟩, h => RowsAt.get (vs := vs) (xss := xss) (i := i) r (by simpa using h)
  | [], [], i, _, h => by cases h
def rowsD (xss : List (List Int)) : List PyData := xss.map fun xs => .list (xs.map PyData.int)
theorem RowsAt.dp {A : List Addr} : ∀ {vs : List V} {xss : List (List Int)}, RowsAt H A vs xss → DpAll K H vs (rowsD xss)
  | [], [], _ => .nil
  | v :: vs, xs :: xss, ⟨⟨l, hv, hl, _⟩, r⟩ => by
    subst hv
    exact .cons (dp_ints (sq_of hl)) r.dp
theorem lay_rows : ∀ xss : List (List Int), PyData.canLayAll0 (rowsD xss) = true
  | [] => rfl
  | xs :: r => by
    show (PyData.canLay0 (PyData.list (xs.map PyData.int)) && PyData.canLayAll0 (rowsD r)) = true
    rw [lay_rows r]
    have : PyData.canLay0 (PyData.list (xs.map PyData.int)) = true := lay_ints xs
    rw [this]
    rfl
theorem depth_rows : ∀ xss : List (List Int), PyData.depthAll (rowsD xss) ≤ 3
  | [] => by decide
  | xs :: r => by
    show max (PyData.depth (PyData.list (xs.map PyData.int))) (PyData.depthAll (rowsD r)) ≤ 3
    have := depth_rows r
    have e : PyData.depth (.list (xs.map PyData.int)) = 1 + PyData.depthAll (xs.map PyData.int) := by simp [PyData.depth, Nat.add_comm]
    have := depth_ints xs
    omega
theorem shaped_rows (xss : List (List Int)) : SeqAt.shaped (.list (rowsD xss)) = true := by
  unfold SeqAt.shaped
  have h1 : PyData.canLay0 (.list (rowsD xss)) = true := lay_rows xss
  have h2 : PyData.depth (.list (rowsD xss)) ≤ 64 := by
    have e : PyData.depth (.list (rowsD xss)) = 1 + PyData.depthAll (rowsD xss) := by simp [PyData.depth, Nat.add_comm]
    have := depth_rows xss
    omega
  rw [h1, decide_eq_true h2]
  rfl
theorem rv_neRows {a b : Addr} {A : List Addr} {vs ws : List V} {xss : List (List Int)} (h1 : SqL K H a vs) (h2 : SqL K H b ws) (r1 : RowsAt H A vs xss) (r2 : RowsAt H A ws xss) (hA : True) : ∀ Q : VK, Q (.bl false) H → rNeD K (.ref a) (.ref b) H Q := fun Q q =>
  ⟨_, _, .lst h1 r1.dp, .lst h2 r2.dp, shaped_rows _, shaped_rows _, by
    rw [SeqAt.eqv_refl _ (SeqAt.canLay_of_shaped (shaped_rows xss))]
    exact q⟩
theorem rv_eqRows {a b : Addr} {A : List Addr} {vs ws : List V} {xss : List (List Int)} (h1 : SqL K H a vs) (h2 : SqL K H b ws) (r1 : RowsAt H A vs xss) (r2 : RowsAt H A ws xss) : ∀ Q : VK, Q (.bl true) H → rEqD K (.ref a) (.ref b) H Q := fun Q q =>
  ⟨_, _, .lst h1 r1.dp, .lst h2 r2.dp, shaped_rows _, shaped_rows _, by
    rw [SeqAt.eqv_refl _ (SeqAt.canLay_of_shaped (shaped_rows xss))]
    exact q⟩
end
end Mk
namespace Mk
/-- a number of the script: of at most a million bits -/
def Few (z : Int) : Prop := z.natAbs < 2 ^ 1048576
theorem few_of {z : Int} (h : PySem.Builtin.Int.intBits z ≤ 1048576) : Few z := by
  unfold PySem.Builtin.Int.intBits at h
  split at h
  · next hz =>
    have e : z = 0 := by simpa using hz
    subst e
    exact Nat.two_pow_pos 1048576
  · next hz =>
    have hn : z.natAbs ≠ 0 := fun e => hz (by simpa using Int.natAbs_eq_zero.mp e)
    exact (Nat.log2_lt hn).mp h
theorem few_zero : Few 0 := Nat.two_pow_pos 1048576
theorem div6_le (c : Int) : (c / 6).natAbs ≤ c.natAbs := by omega
theorem div6_bits {c : Int} (h : Few c) : (c / 6).natAbs < 2 ^ 1048576 := Nat.lt_of_le_of_lt (div6_le c) h
end Mk
namespace Mk
open PySem L2 Evl
section
variable {K : PySem.W.Frag} {σ : L2.St} {H H0 : Hp} {te : TE} {D : Ends} {tz : TS}
/-- some such pair of which P holds -/
def EvPS (te : TE) (σ : L2.St) (H : Hp) (P : List Int → Int → Prop) : Prop := ∀ H1, Ex H H1 → ∀ Q : VK, (∀ ys z, P ys z → RetP (ys.map V.int) z H1 Q) → te σ H1 Q
theorem b_asgPS {i j : Nat} {P : List Int → Int → Prop} (e : Ex H0 H) (h : EvPS te σ H0 P) (k : ∀ ys z, P ys z → ∀ l H1, H0 l = none → Ex H0 H1 → H1 l = some (.lst (ys.map V.int)) → tz D ((σ.set i (some (.ref l))).set j (some (.int z))) H1) : tSeq (tAsg te (gTup K 2 (gCons (gName i) (gCons (gName j) gNil)))) tz D σ H :=
  h H e _ fun ys z hp p l H1 hl e1 h1 h2 => ⟨p, [.ref l, .int z], rfl, st_of h1, rfl, .ref l, [.int z], rfl, .int z, [], rfl, rfl, k ys z hp l H1 (fresh_back e hl) (e.trans e1) h2⟩
end
end Mk
namespace Mk
open PySem PySem.W PySem.Spec PySem.Calls PyProof.Rows
/-- isinstance with an own class, from the class's facts -/
theorem kit_own {K : Frag} {t : Value} {C : Addr} (h1 : hasDictIn K C = true) (h2 : typeIn K (.ref C) = some (.type "type")) (h3 : subIn K t (.ref C) = some true) : kitOne K t (.ref C) = some true := by
  unfold kitOne
  split
  · rfl
  · obtain ⟨cd, hc, _⟩ := any_some h1
    have e2 : ((clsIn K C).isSome && typeIn K (.ref C) == some (.type "type")) = true := by rw [hc, h2] <;> rfl
    show (if ((clsIn K C).isSome && typeIn K (.ref C) == some (.type "type")) = true then subIn K t (.ref C) else none) = some true
    rw [if_pos e2]
    exact h3
end Mk

namespace Mk
open PySem PySem.Spec PyProof.Rows L2 L2H
/-! ### a def that is handed the exception which its caller's except suite holds -/
structure FnE (P : Program) (w : World) (K : PySem.W.Frag) (mg : Str → Option Value) (base : Heap) (k : Nat) (f : Addr) (fd : FuncData) (ps : List Str) (sp : Addr → Hp → VK → Prop) : Prop where
  len : ps.length = 1
  run : ∀ (A : Around) (outer : List Env) (s : Shared) (H : Hp) (args : Args) (Q : VK) (p : Addr × Obj) (D : Addr), RoomH k A → Hot1 A p → PinOk outer H s p → Zc (.ref D) none p.2 → Env0 P w K mg base A outer s H → BindsTo s fd args (ps.zip [.ref p.1]) → sp D H Q →
    codeAny (model P w) A (.call (.ref f) args) (CR CX0 outer P w H s Q (fun _ _ _ => False)) s
theorem fnE_of {P : Program} {w : World} {K : PySem.W.Frag} {mg : Str → Option Value} {base : Heap} {k : Nat} {f : Addr} {name qual : Str} {params : Arguments} {body : List Stmt} {scope : Scope} {dV kV doc pm cdv ct oc : Value} {an od : Option Addr}
    {osl : Array (Option Value)} {N ps : List Str} {sp : Addr → Hp → VK → Prop} (lk : K.lookup f = some ⟨oc, od, .func (PySem.W.fnOf name qual params body scope dV kV doc pm an cdv ct), osl⟩) (hcd : PySem.W.codeIn K cdv qual = true) (S : FnScope N ps scope)
    (len : ps.length = 1)
    (hbody : ∀ (A : Around) (outer : List Env) (s : Shared) (H : Hp) (Q : VK) (p : Addr × Obj) (D : Addr), Hot1 A p → RoomH k (A.deeper (envOfC qual scope s.heap.objs.size f cdv)) → Zc (.ref D) none p.2 → sp D H Q →
      ∃ t, PSs (cxH CX0 P w K mg base N qual scope f cdv A outer s H (fun _ _ _ => False) p) body t ∧ t { nx := fun _ H' => Q .non H', rt := Q } (L2.start N [.ref p.1]) H) :
    FnE P w K mg base (k + 1) f (PySem.W.fnOf name qual params body scope dV kV doc pm an cdv ct) ps sp := by
  refine ⟨len, fun A outer s H args Q p D hr hot hpin hz e0 hb hsp => ?_⟩
  have KX : K.In s.heap := e0.mod.kin.keeps fun b o e => (e0.bs b o e).1
  have lim : s.heap.NoLimit := e0.mod.nolimit.keeps fun b o e => (e0.bs b o e).1
  have hkind : ∀ y ∈ ps.zip [Value.ref p.1], scope.names.lookup y.1 = some .local ∨ (scope.names.lookup y.1 = some .cell ∧ ((cellsFrom (s.heap.objs.size + 1) scope.names []).lookup y.1).isSome = true) := fun ⟨n, v⟩ hy => by
    rcases S.par n (List.of_mem_zip hy).1 with q | q
    · exact .inl q
    · exact .inr ⟨q, PySem.W.cellsFrom_some _ _ _ (.inl q)⟩
  refine codeAny_call_function hr.depth (KX _ _ lk) rfl S.co S.gen rfl (PySem.W.codeRec_of KX hcd) (hb _ _ _ _ ?_)
  refine wpAny_newFunctionEnv_cells S.kind hkind fun env he s1 x => ?_
  subst he
  refine ⟨lim.keeps x.toInCall.keep, codeAny_func ?_⟩
  obtain ⟨t, ht, hq⟩ := hbody A outer s H Q p D hot (hr.deeper _) hz hsp
  have I : Inv (cxH CX0 P w K mg base N qual scope f cdv A outer s H (fun _ _ _ => False) p) [] (L2.start N [.ref p.1]) H s1 := inv_startH S hpin e0 (by rw [len]; rfl) (.cons rfl .nil) x
  refine wpAny_mono (ht.run [] s1 (L2.start N [.ref p.1]) H _ I hq) (fun fl s' hs => ?_) fun e s' hs => hs
  have fin : ∀ {σ' : L2.St} {H' : Hp} {v : V} {u : Value}, Inv (cxH CX0 P w K mg base N qual scope f cdv A outer s H (fun _ _ _ => False) p) [] σ' H' s' → RelV v u → Q v H' → CE outer P w H s Q u s' :=
    fun {σ' H' v u} J rv q => ⟨v, H', J.os, J.bare, J.base, J.hok, rv, q⟩
  cases fl with
  | ret u =>
    obtain ⟨v, σ', H', J, rv, q⟩ := hs
    exact fin J rv q
  | next =>
    obtain ⟨σ', H', J, q⟩ := hs
    exact fin (v := V.non) (u := Value.none) J rfl q
  | brk =>
    obtain ⟨_, _, _, q⟩ := hs
    exact False.elim q
  | cont =>
    obtain ⟨_, _, _, q⟩ := hs
    exact False.elim q
theorem fun_okE {P : Program} {w : World} {K : PySem.W.Frag} {mg : Str → Option Value} {base : Heap} {x qual : Str} {st : Stmt} {f : Addr} {fd : FuncData} {N ps : List Str} {k : Nat} {sp : Addr → Hp → VK → Prop} (F : Fun K x qual st f fd) (S : FnScope N ps (defScope st)) (len : ps.length = 1)
    (hbody : ∀ (cdv : Value) (A : Around) (outer : List Env) (s : Shared) (H : Hp) (Q : VK) (p : Addr × Obj) (D : Addr), Hot1 A p → RoomH k (A.deeper (envOfC qual (defScope st) s.heap.objs.size f cdv)) → Zc (.ref D) none p.2 → sp D H Q →
      ∃ t, PSs (cxH CX0 P w K mg base N qual (defScope st) f cdv A outer s H (fun _ _ _ => False) p) (defBody st) t ∧ t { nx := fun _ H' => Q .non H', rt := Q } (L2.start N [.ref p.1]) H) : FnE P w K mg base (k + 1) f fd ps sp := by
  obtain ⟨oc, od, kV, doc, pm, an, cdv, ct, osl, rfl, lk, hcd⟩ := F.ex
  exact fnE_of lk hcd S len fun A outer s H Q p D h1 h2 h3 h4 => hbody cdv A outer s H Q p D h1 h2 h3 h4
/-- f(e) in an except suite, e the exception, in slot i -/
def tWhich (i : Nat) (a D : Addr) (sp : Addr → Hp → VK → Prop) : TE := fun σ H Q => σ[i]? = some (some (.ref a)) ∧ sp D H Q
theorem pe_callE {X : Cx} {k : Nat} {f a D : Addr} {fd : FuncData} {ps : List Str} {sp : Addr → Hp → VK → Prop} {oe : Obj} {x : Str} {q pos : Pos} {e : Expr} {i : Nat} (F : FnE X.prog X.w X.K X.mg X.base k f fd ps sp) (hr : RoomH k X.A) (hot : Hot1 X.A (a, oe)) (hp : (a, oe) ∈ X.pn) (hz : Zc (.ref D) none oe) (hg : Gl X x) (hm : X.mg x = some (.ref f)) (hk : PySem.W.keepIn X.K (.ref f) = true) (hb : Binds X.K fd ps [])
    (ha : PE X e (tVar i)) (hdb : (x == ("__debug__" : Str)) = false := by decide) (he : starEach [e] X.env = [(false, eval e X.env)] := by rfl) (hpl : (backTo pos (starEach [] X.env)).any (·.1) = false := by rfl) :
    PE X (.Call (.Name x q) [e] [] pos) (tWhich i a D sp) := by
  refine ⟨fun pins s σ H Q I ⟨h1, h2⟩ => ?_⟩
  refine wpAny_Call_Name_kw (ld_glob I hg hm ?_ hdb)
  have hA : PA X [e] (tCons (tVar i) tNil) := pa_cons ha pa_nil he
  refine PySem.W.callWith_K (h₀ := X.base) I.ok.mod.kin hk (thn (hA.run pos pins s σ H (fun vs H1 => vs = [.ref a] ∧ sp D H1 Q) I ⟨.ref a, h1, rfl, h2⟩) fun us s1 ⟨vs, H1, I1, r, ev, q2⟩ => ⟨I1.kIn, ?_⟩) he hpl
  subst ev
  cases r with
  | cons r1 r2 =>
    cases r2
    have e1 := r1
    cases e1
    have b := hb s1 [Value.ref a] I1.kIn (by rw [List.append_nil, F.len]; rfl)
    rw [List.append_nil] at b
    have P1 := I1.pin (a, oe) (List.mem_append_left _ hp)
    have hpin : PinOk X.stack H1 s1 (a, oe) := ⟨P1.1, P1.2.1, fun hm => (List.mem_cons.mp (I1.stkSub a hm)).elim P1.2.2.1 P1.2.2.2.1, P1.2.2.2.2⟩
    refine wpAny_call (codeAny_mono (F.run X.A X.stack s1 H1 ⟨[Value.ref a], []⟩ Q (a, oe) D hr hot hpin hz I1.env0 b q2) fun r s' hq => ?_)
    cases r with
    | error e => exact (show False from hq).elim
    | ok fl =>
      cases fl with
      | ret u => exact I1.after hq
      | next => exact False.elim hq
      | brk => exact False.elim hq
      | cont => exact False.elim hq
/-- isinstance(e, c), e an exception that the context bears -/
theorem call_isH {X : Cx} {a D : Addr} {oe : Obj} (C : ExcC X.K D) (hz : Zc (.ref D) none oe) (hf : ∃ vs, oe.data = .fields vs) (hp : (a, oe) ∈ X.pn) : CallR X (.builtin "isinstance") (rIsE X.K D a) := by
  intro pins s σ H xs us Q I r h
  obtain ⟨c, cv, b, rfl, hcv, e, q⟩ := h
  cases r with
  | cons rx rr =>
    cases rr with
    | cons rt rr =>
      cases rr
      cases rx
      have ec := hcv _ rt
      subst ec
      obtain ⟨hget, _⟩ := I.pin (a, oe) (List.mem_append.mpr (.inl hp))
      obtain ⟨vs, hv⟩ := hf
      have J : PySem.W.InstAt s.heap a oe D none := by
        obtain ⟨oc, od, oda, osl⟩ := oe
        obtain ⟨h1, h2⟩ := hz
        dsimp only at h1 h2 hv
        subst h1 h2 hv
        exact ⟨hget, rfl, rfl, trivial⟩
      exact PySem.W.kia_one (PySem.W.handS_kitx_exc C.hg C.hk C.hs C.hd C.ha C.hn C.ht C.hm) I.kIn J e (fun z => nomatch z) fun tk => ⟨.bl b, H, I.kept (t' := tk) fun _ _ z => z, rfl, q⟩
/-! ### a list comprehension where an exception is handled -/
/-- the block's context, the handled exception borne -/
abbrev blkH (X : Cx) (s : Shared) (H : Hp) (scope : Scope) (cenv : Env) (fp : List Addr) (p : Addr × Obj) : Cx := (X.blk s H scope cenv fp).tr [p] (fun _ _ => False)
theorem lc_coreH {X : Cx} {pins : List (Addr × Obj)} {s : Shared} {σ : L2.St} {H : Hp} {Q : VK} {elt tg iter : Expr} {ifs : List Expr} {scope : Scope} {own : List (Str × Nat)} {pos pos' : Pos} {wi : TI} {g : TG} {tt : TT} {te : TE} {use : Option (Value → Sem Unit)} {Qf : Value → Shared → Prop} {p : Addr × Obj}
    (hot : Hot1 X.A p) (hp : p ∈ X.pn) (hN : X.N.Nodup) (I : Inv X pins σ H s) (hi : PIH X tg iter wi) (ok : BlkOk X.N X.env.scope scope own)
    (hg : ∀ (s : Shared) (H : Hp) (C : Addr) (cl : List (Str × Addr)) (fp : List Addr), PG (blkH X s H scope (compEnvC scope cl C X.env) fp p) tg g) (ht : ∀ (s : Shared) (H : Hp) (C : Addr) (cl : List (Str × Addr)) (fp : List Addr), PTs (blkH X s H scope (compEnvC scope cl C X.env) fp p) ifs tt)
    (he : ∀ (s : Shared) (H : Hp) (C : Addr) (cl : List (Str × Addr)) (fp : List Addr), PE (blkH X s H scope (compEnvC scope cl C X.env) fp p) elt te) (hs : ∀ x, foldedSetIterable iter X.env x = pure x)
    (h : tLc wi g tt te (own.map (·.2)) σ H Q)
    (hRR : ∀ D C s' m H', Inv X pins σ H' s' → Q (.ref D) H' → s'.heap.Ns C m → FpOk X pins H' C → compPost (model X.prog X.w) X.A X.xe use Qf (.ref D) C (.ok .next) s') :
    wpAny (model X.prog X.w) X.A (comprehension (.ListComp elt [⟨tg, iter, ifs, 0⟩] scope pos) scope X.env pos' (newList []) false (eval iter X.env) use) Qf X.xe s := by
  have hfree : ∀ y ∈ scope.names, y.2 = .free → ∃ c, X.env.cells.lookup y.1 = some c := fun y hy e => by
    rcases ok.free y hy e with k | k
    · exact I.ok.has _ (.inl k)
    · exact I.ok.has _ (.inr k)
  refine wpAny_comprehension_free (use := use) rfl hs (closure_ok hfree) ok.kind (fun y hy e => by rw [ok.uniq y hy, e])
    (thn (hi.run pins s σ H _ I h) fun xv s1 hx => thn hx fun itv s2 h2 => ?_)
  obtain ⟨it, fp, tn, J, H2, e, I2, T, st2, f2, q⟩ := h2
  subst e
  refine wpAny_newObj_type (newEnv_comp ?_) (by show 0 ≤ sizeLine; decide)
  generalize hD : s2.heap.objs.size = D
  have hDn : H2 D = none := I2.hok.fresh (Nat.le_of_eq hD)
  obtain ⟨W, ⟨m0, w0⟩, turn⟩ := q D hDn
  generalize hs3 : ({ s2 with heap := s2.heap.push { cls := .type "list", data := .seq ([] : List Value).toArray } } : Shared) = s3
  have I3 : Inv X pins σ (upd H2 D (.lst [])) s3 := by
    rw [← hs3]
    refine I2.laid (t' := s2.toks) (fun b o e => Heap.get?_push_of_some _ e) (Nat.le_of_eq hD) ⟨Nat.zero_le _, [], 0, .nil, ?_⟩
    rw [← hD]
    exact Heap.get?_push_size _ rfl
  have h3 : s3.heap = s2.heap.push { cls := .type "list", data := .seq ([] : List Value).toArray } := by rw [← hs3]
  have sz : ∀ b ∈ fp, b < s2.heap.objs.size := fun b hb => by
    obtain ⟨o, e, _⟩ := T.obj _ _ st2 b hb
    exact Heap.lt_size e
  have f3 : ∀ b ∈ fp, FpOk X pins (upd H2 D (.lst [])) b ∧ b < s3.heap.objs.size := fun b hb => by
    have hlt := sz b hb
    refine ⟨⟨?_, (f2 b hb).2⟩, by rw [h3, Heap.size_push]; exact Nat.lt_succ_of_lt hlt⟩
    rw [upd_ne (by rw [← hD]; exact Nat.ne_of_lt hlt)]
    exact (f2 b hb).1
  have st3 : tn 0 s3.heap := T.keep _ _ _ st2 fun b _ o e => by rw [h3]; exact Heap.get?_push_of_some _ e
  have I4 := block_start I3 ok hN f3
  have P1 := I3.pin p (List.mem_append_left _ hp)
  have hpst : p.1 ∉ frs X.stack := fun hm => (List.mem_cons.mp (I3.stkSub p.1 hm)).elim P1.2.2.1 P1.2.2.2.1
  have pg := hg s3 (upd H2 D (.lst [])) s3.heap.objs.size (cellsFrom (s3.heap.objs.size + 1) scope.names (cloFrom X.env.cells scope.names [])) fp
  have pt := ht s3 (upd H2 D (.lst [])) s3.heap.objs.size (cellsFrom (s3.heap.objs.size + 1) scope.names (cloFrom X.env.cells scope.names [])) fp
  have pe := he s3 (upd H2 D (.lst [])) s3.heap.objs.size (cellsFrom (s3.heap.objs.size + 1) scope.names (cloFrom X.env.cells scope.names [])) fp
  show codeAny _ _ (.compStart (.ListComp elt [⟨tg, iter, ifs, 0⟩] scope pos) 0 (.ref it) (.ref D) (compEnvC scope (cellsFrom (s3.heap.objs.size + 1) scope.names (cloFrom X.env.cells scope.names [])) s3.heap.objs.size X.env)) (compPost (model X.prog X.w) X.A X.xe use Qf (.ref D) s3.heap.objs.size) { s3 with heap := pushCells (s3.heap.push { cls := .type "dict", data := .dict #[] }) scope.names }
  have nfp : ∀ b ∈ fp, (upd H2 D (.lst [])) b = none := fun b hb => (f3 b hb).1.1
  generalize hce : compEnvC scope (cellsFrom (s3.heap.objs.size + 1) scope.names (cloFrom X.env.cells scope.names [])) s3.heap.objs.size X.env = ce at I4 pg pt pe ⊢
  have cL : ce.locals = s3.heap.objs.size := by subst hce; rfl
  generalize hH3 : upd H2 D (.lst []) = H3 at I3 I4 pg pt pe w0 nfp f3 P1
  generalize hs4 : ({ s3 with heap := pushCells (s3.heap.push { cls := .type "dict", data := .dict #[] }) scope.names } : Shared) = s4 at I4 ⊢
  have I4p : Inv (X.blk s3 H3 scope ce fp) [p] (wipe σ (own.map (·.2))) H3 s4 := I4.pins_of fun q hq => by
    have eq : q = p := by simpa using hq
    rw [eq]
    refine ⟨?_, P1.2.1, ?_, hpst, P1.2.2.2.2⟩
    · rw [← hs4]
      exact pushCells_keeps _ _ _ _ (Heap.get?_push_of_some _ P1.1)
    · show p.1 ≠ ce.locals
      rw [cL]
      exact Nat.ne_of_lt (Heap.lt_size P1.1)
  have I4h : Inv (blkH X s3 H3 scope ce fp p) [] (wipe σ (own.map (·.2))) H3 s4 := I4p.toTry _
  have hc : HotC (blkH X s3 H3 scope ce fp p) := ⟨p, hot, List.mem_singleton.mpr rfl⟩
  have st4 : tn 0 s4.heap := T.keep _ _ _ st3 fun b _ o e => by rw [← hs4]; exact pushCells_keeps _ _ _ _ (Heap.get?_push_of_some _ e)
  have stat : ∀ {σ' : L2.St} {H' : Hp} {s' : Shared}, Inv (blkH X s3 H3 scope ce fp p) [] σ' H' s' → (∀ b ∈ fp, H' b = none) → ∀ b ∈ fp, FpOk (blkH X s3 H3 scope ce fp p) [] H' b := fun {σ' H' s'} I' hn b hb =>
    ⟨hn b hb, (I'.ok.exf b hb).1, I'.ok.exfs b hb, .inl hb, fun x c e => (I'.ok.exf b hb).2 x c e, fun q hq => by
      have eq : q = p := by simpa using (show q ∈ [p] ++ ([] : List (Addr × Obj)) from hq)
      rw [eq]
      exact (f3 b hb).1.2.2.2.2.2 p (List.mem_append_left _ hp)⟩
  have loop : codeAny (model X.prog X.w) X.A (.compLoop (.ListComp elt [⟨tg, iter, ifs, 0⟩] scope pos) 0 (.ref it) (.ref D) ce) (compPost (model X.prog X.w) X.A X.xe use Qf (.ref D) s3.heap.objs.size) s4 := by
    refine compLoop_any (fun n s' => ∃ i H', Inv (blkH X s3 H3 scope ce fp p) [] (wipe σ (own.map (·.2))) H' s' ∧ tn i s'.heap ∧ (∀ b ∈ fp, H' b = none) ∧ W i n H') ?_ m0 ⟨0, H3, I4h, st4, nfp, w0⟩
    rintro n s5 ⟨i, H5, I5, st5, n5, w5⟩
    rcases turn i n H5 w5 with ⟨stop, qq⟩ | ⟨go, Nx, hNx, step⟩
    · have td := T.done (blkH X s3 H3 scope ce fp p) rfl rfl rfl hc i [] s5 _ H5 (fun _ _ => False) I5 (stat I5 n5) st5 stop
      refine thnF td fun r s6 ⟨hr, I6⟩ => ?_
      subst hr
      have I7 : Inv X pins σ H5 s6 := I3.call' (ch := fp) I6.os I6.base I6.hok I6.bare fun b hb => ⟨(f3 b hb).1.2.2.2.1, (f3 b hb).1.2.1, (f3 b hb).1.2.2.2.2.1, (f3 b hb).1.2.2.2.2.2⟩
      have nC : H5 s3.heap.objs.size = none := by
        have z : H5 ce.locals = none := I6.free
        rw [cL] at z
        exact z
      obtain ⟨m, hn, _⟩ := I6.loc
      have hn : s6.heap.Ns ce.locals m := hn
      rw [cL] at hn
      exact hRR D s3.heap.objs.size s6 m H5 I7 qq hn (I3.fpOk (Nat.le_refl _) nC)
    · have ti := T.item (blkH X s3 H3 scope ce fp p) rfl rfl rfl hc i [] s5 _ H5 (fun _ _ => False) I5 (stat I5 n5) st5 go
      refine thnF ti fun r s6 ⟨u, hr, h6⟩ => ?_
      subst hr
      refine thnF h6 fun _ s7 ⟨x, H7, I7, r7, y7, st7, n7⟩ => ?_
      have I7' := I7.pinned (stat I7 n7) (T.obj _ _ st7)
      refine thnF (pg.run _ s7 _ H7 x u _ I7' r7 (step x H7 y7)) fun _ s8 ⟨σ8, H8, I8, hw8, q8⟩ => ?_
      refine thnF (pt.run _ s8 σ8 H8 _ I8 q8) fun b s9 ⟨H9, I9, q9⟩ => ?_
      have fin : ∀ {s' : Shared} {H' : Hp}, Inv (blkH X s3 H3 scope ce fp p) ([] ++ pinsAt fp s7.heap) σ8 H' s' → Nx H' → ∃ m, m < n ∧ ∃ i H', Inv (blkH X s3 H3 scope ce fp p) [] (wipe σ (own.map (·.2))) H' s' ∧ tn i s'.heap ∧ (∀ b ∈ fp, H' b = none) ∧ W i m H' := fun {s' H'} I' nx => by
        obtain ⟨m', hm, w'⟩ := hNx H' nx
        have pin' : ∀ b ∈ fp, ∀ o, s7.heap.get? b = some o → s'.heap.get? b = some o ∧ H' b = none := fun b hb o e =>
          let z := I'.pin (b, o) (List.mem_append_right _ (List.mem_append_right _ (mem_pinsAt hb e)))
          ⟨z.1, z.2.1⟩
        have hl : (wipe σ (own.map (·.2))).length = σ8.length := by rw [← hw8, wipe_length]
        refine ⟨m', hm, i + 1, H', (I'.unpinned (pins := [])).weak hl (fun j v e => ?_), T.keep _ _ _ st7 fun b hb o e => (pin' b hb o e).1, fun b hb => ?_, w'⟩
        · rw [← hw8] at e
          exact (wipe_some e).1
        · obtain ⟨o, e, _⟩ := T.obj _ _ st7 b hb
          exact (pin' b hb o e).2
      cases b with
      | false =>
        simp only [Bool.false_eq_true, if_false] at q9 ⊢
        exact fin I9 q9
      | true =>
        simp only [if_true] at q9 ⊢
        refine thnF (pe.run _ s9 σ8 H9 _ I9 q9) fun z s10 ⟨yv, H10, I10, r10, acc, hD10, hz10, nx⟩ => ?_
        exact app_ok (X := blkH X s3 H3 scope ce fp p) I10 hD10 hz10 r10 fun s11 I11 => fin I11 nx
  exact codeAny_compStart_list loop (T.self X.A 0 _ _ _ st4 loop)
/-- as a value -/
theorem pe_lcH {X : Cx} {elt tg iter : Expr} {ifs : List Expr} {scope : Scope} {own : List (Str × Nat)} {pos : Pos} {wi : TI} {g : TG} {tt : TT} {te : TE} {p : Addr × Obj} (hot : Hot1 X.A p) (hp : p ∈ X.pn) (hN : X.N.Nodup) (hi : PIH X tg iter wi) (ok : BlkOk X.N X.env.scope scope own)
    (hg : ∀ (s : Shared) (H : Hp) (C : Addr) (cl : List (Str × Addr)) (fp : List Addr), PG (blkH X s H scope (compEnvC scope cl C X.env) fp p) tg g) (ht : ∀ (s : Shared) (H : Hp) (C : Addr) (cl : List (Str × Addr)) (fp : List Addr), PTs (blkH X s H scope (compEnvC scope cl C X.env) fp p) ifs tt)
    (he : ∀ (s : Shared) (H : Hp) (C : Addr) (cl : List (Str × Addr)) (fp : List Addr), PE (blkH X s H scope (compEnvC scope cl C X.env) fp p) elt te) (hs : ∀ x, foldedSetIterable iter X.env x = pure x := by intro _; rfl) :
    PE X (.ListComp elt [⟨tg, iter, ifs, 0⟩] scope pos) (tLc wi g tt te (own.map (·.2))) := by
  refine ⟨fun pins s σ H Q I h => ?_⟩
  rw [eval_ListComp]
  refine lc_coreH hot hp hN I hi ok hg ht he hs h fun D C s' m H' I' q hn f => ⟨m, hn, fun h'' sb => ?_⟩
  obtain ⟨f0, f1, f2, f3, f4, f5⟩ := f
  exact ⟨.ref D, H', I'.turned (t' := s'.toks) (fun b o hb e => (sb.2 b hb).trans e) f0 f1 f3 f4 f5, rfl, q⟩
/-! ### what is let out with context None -/
theorem passLN {X : Cx} : Passes (L2N.CX X.prog X.w) X E0 := fun _ _ _ _ _ _ _ h => by
  obtain ⟨_, _, _, _, _, _, _, _, _, _, _, _, z⟩ := h
  exact z.elim
theorem takes0N {X : Cx} : L2N.Takes X (fun _ _ _ _ => False) := fun _ _ x => by
  obtain ⟨_, _, _, _, _, _, _, _, _, _, _, _, _, _, _, _, z⟩ := x
  exact z.elim
theorem fun_okN {P : Program} {w : World} {K : PySem.W.Frag} {mg : Str → Option Value} {base : Heap} {x qual : Str} {st : Stmt} {f : Addr} {fd : FuncData} {N ps : List Str} {k : Nat} {sp : Sp} (F : Fun K x qual st f fd) (S : FnScope N ps (defScope st)) (len : ∀ vs H Q E, sp vs H Q E → vs.length = ps.length)
    (hbody : ∀ (cdv : Value) (A : Around) (outer : List Env) (s : Shared) (H : Hp) (vs : List V) (Q : VK) (E : XK), Room k (A.deeper (envOfC qual (defScope st) s.heap.objs.size f cdv)) → sp vs H Q E →
      ∃ t, PSs (cxOf (L2N.CX P w) P w K mg base N qual (defScope st) f cdv A outer s H E) (defBody st) t ∧ t { nx := fun _ H' => Q .non H', rt := Q } (start N vs) H) : FnOk P w K mg base (L2N.CX P w) (k + 1) f fd ps sp := by
  obtain ⟨oc, od, kV, doc, pm, an, cdv, ct, osl, rfl, lk, hcd⟩ := F.ex
  exact fn_of lk hcd S len fun A outer s H vs Q E hr hsp => hbody cdv A outer s H vs Q E hr hsp
/-! ### C(..) in a try -/
section
variable {X : Cx} {CX : CXT} {k : Nat} {f C : Addr} {fd : FuncData} {ps : List Str} {sp : Sp} {E : L2.St → XK} {x : Str} {p pos : Pos} {e : Expr} {es : List Expr} {t : TA}
def tMakeS (C : Addr) (sp : Sp) (E : L2.St → XK) (t : TA) : TE := fun σ H Q => t σ H fun vs H1 => ∀ x dx, H1 x = none → H1 dx = none → dx ≠ x →
  sp (.ref x :: vs) (upd (upd H1 dx (.own x)) x (.ins C dx [])) (fun v H2 => v = .non ∧ Q (.ref x) H2) (E σ)
theorem pe_makeS (M : Mk X.K C f) (F : FnOk X.prog X.w X.K X.mg X.base CX k f fd ps sp) (hr : Room (k + 1) X.A) (hg : Gl X x) (hm : X.mg x = some (.ref C)) (hb : Binds X.K fd ps []) (hx : ∀ σ, PassesAt CX X σ (E σ))
    (ha : PA X (e :: es) t) (hdb : (x == ("__debug__" : Str)) = false := by decide) (he : starEach (e :: es) X.env = (false, eval e X.env) :: starEach es X.env := by rfl) (hpl : (backTo pos (starEach es X.env)).any (·.1) = false := by rfl) :
    PE X (.Call (.Name x p) (e :: es) [] pos) (tMakeS C sp E t) := by
  refine ⟨fun pins s σ H Q I h => ?_⟩
  refine wpAny_Call_Name_kw (ld_glob I hg hm ?_ hdb)
  refine PySem.W.callWith_K (h₀ := X.base) I.ok.mod.kin M.kp (thn (ha.run pos pins s σ H _ I h) fun us s1 ⟨vs, H1, I1, r, h⟩ => ⟨I1.kIn, ?_⟩) he hpl
  have hq := h (s1.heap.objs.size + 1) s1.heap.objs.size (I1.hok.fresh (Nat.le_succ _)) (I1.hok.fresh (Nat.le_refl _)) (Nat.ne_of_lt (Nat.lt_succ_self _))
  have I2 := Inv.made (C := C) I1
  have r2 : Vals (V.ref (s1.heap.objs.size + 1) :: vs) (Value.ref (s1.heap.objs.size + 1) :: us) := .cons rfl r
  have hl : (Value.ref (s1.heap.objs.size + 1) :: us ++ []).length = ps.length := by
    have e := r2.length
    rw [F.len _ _ _ _ hq] at e
    rw [List.append_nil]
    exact e.symm
  have hb2 := hb
  refine wpAny_call (make_map (f := f) I1.kIn M.makes M.init (beq_iff_eq.mp M.fn) (codeAny_mono (F.run _ X.stack _ _ ⟨Value.ref (s1.heap.objs.size + 1) :: us, []⟩ (Value.ref (s1.heap.objs.size + 1) :: us) _ _ (E σ) (hr.make C us [])
    (I2.env0.make C us []) (by
      have b := hb _ (Value.ref (s1.heap.objs.size + 1) :: us) I2.kIn hl
      rw [List.append_nil] at b
      exact b) r2 hq) fun r s' hq' => ?_))
  cases r with
  | error e => exact hx σ pins _ _ e s' I2 hq'
  | ok fl =>
    cases fl with
    | ret u =>
      obtain ⟨v, H', I3, rv, ev, q3⟩ := I2.after hq'
      subst ev
      exact ⟨rv, ⟨V.ref (s1.heap.objs.size + 1), H', I3, rfl, q3⟩⟩
    | next => exact False.elim hq'
    | brk => exact False.elim hq'
    | cont => exact False.elim hq'
end
/-- f(e) in the suite, e what is caught -/
def tWhichC (i : Nat) (a : Addr) (cls : Value) (d : Option Addr) (sp : Addr → Hp → VK → Prop) : TE := fun σ H Q => ∃ D, cls = .ref D ∧ d = none ∧ tWhich i a D sp σ H Q
theorem pe_which {X : Cx} {k j : Nat} {f a : Addr} {fd : FuncData} {ps : List Str} {sp : Addr → Hp → VK → Prop} {oe : Obj} {x : Str} {q pos : Pos} {e : Expr} {i : Nat} {cls : Value} {d : Option Addr} {pn : List (Addr × Obj)} (F : FnE X.prog X.w X.K X.mg X.base k f fd ps sp) (hr : Room j X.A) (hz : L2N.Zn cls d oe) (hf : ∃ vs, oe.data = .fields vs) (hg : Gl (X.suite a ((a, oe) :: pn)) x) (hm : X.mg x = some (.ref f)) (hk : PySem.W.keepIn X.K (.ref f) = true) (hb : Binds X.K fd ps [])
    (ha : PE (X.suite a ((a, oe) :: pn)) e (tVar i)) (hkj : k ≤ j := by decide) (hdb : (x == ("__debug__" : Str)) = false := by decide) (he : starEach [e] X.env = [(false, eval e X.env)] := by rfl) (hpl : (backTo pos (starEach [] X.env)).any (·.1) = false := by rfl) :
    PE (X.suite a ((a, oe) :: pn)) (.Call (.Name x q) [e] [] pos) (tWhichC i a cls d sp) := by
  refine ⟨fun pins s σ H Q I ⟨D, h1, h2, h3⟩ => ?_⟩
  subst h1 h2
  obtain ⟨vs, hv⟩ := hf
  have hr2 : RoomH k (X.suite a ((a, oe) :: pn)).A := ⟨(roomH_of (hr.mono hkj)).dp, (roomH_of (hr.mono hkj)).un⟩
  exact (pe_callE (X := X.suite a ((a, oe) :: pn)) (q := q) (pos := pos) F hr2 ⟨rfl, vs, hv, hz.2.2 vs hv⟩ (List.mem_cons_self ..) hz.zc hg hm hk hb ha hdb he hpl).run pins s σ H Q I h3
theorem boot_ValueError : bootBuiltins "ValueError" = some (.type "ValueError") := by decide +kernel
/-- isinstance with another own class: what subIn tells; the two are not one, since the other stands under itself -/
theorem kit_ownB {K : PySem.W.Frag} {D C : Addr} {b : Bool} (h1 : PySem.W.hasDictIn K C = true) (h2 : PySem.W.typeIn K (.ref C) = some (.type "type")) (h3 : PySem.W.subIn K (.ref D) (.ref C) = some b) (h4 : PySem.W.subIn K (.ref C) (.ref C) = some true) : PySem.W.kitOne K (.ref D) (.ref C) = some b := by
  by_cases e : D = C
  · subst e
    rw [h4] at h3
    rw [← h3]
    exact kit_own h1 h2 h4
  · have hne : (Value.ref D == Value.ref C) = false := by
      rw [Bool.eq_false_iff]
      intro z
      exact e (Value.ref.inj (beq_iff_eq.mp z))
    unfold PySem.W.kitOne
    rw [hne, if_neg (by decide)]
    obtain ⟨cd, hc, _⟩ := PySem.W.any_some h1
    have e2 : ((PySem.W.clsIn K C).isSome && PySem.W.typeIn K (.ref C) == some (.type "type")) = true := by rw [hc, h2] <;> rfl
    show (if ((PySem.W.clsIn K C).isSome && PySem.W.typeIn K (.ref C) == some (.type "type")) = true then PySem.W.subIn K (.ref D) (.ref C) else none) = some b
    rw [if_pos e2]
    exact h3
theorem kit_blt {K : PySem.W.Frag} {D : Addr} {n : String} {b : Bool} (hm : PySem.W.kitMeta n = true) (h3 : PySem.W.subIn K (.ref D) (.type n) = some b) : PySem.W.kitOne K (.ref D) (.type n) = some b := by
  have hne : (Value.ref D == Value.type n) = false := rfl
  unfold PySem.W.kitOne
  rw [hne, if_neg (by decide)]
  show (if PySem.W.kitMeta n = true then PySem.W.subIn K (.ref D) (.type n) else none) = some b
  rw [if_pos hm]
  exact h3
/-- the i-th of the four refusals -/
structure IsErr (K : PySem.W.Frag) (R N1 N2 N3 N4 D : Addr) (i : Nat) : Prop where
  row : PySem.W.exmOne K (.ref D) (.ref R) = some true
  exc : ExcC K D
  val : PySem.W.kitOne K (.ref D) (.type "ValueError") = some true
  k1 : PySem.W.kitOne K (.ref D) (.ref N1) = some (decide (i = 1))
  k2 : PySem.W.kitOne K (.ref D) (.ref N2) = some (decide (i = 2))
  k3 : PySem.W.kitOne K (.ref D) (.ref N3) = some (decide (i = 3))
  k4 : PySem.W.kitOne K (.ref D) (.ref N4) = some (decide (i = 4))
end Mk
/-! ### new lists of new tuples -/
namespace Mk
open PySem L2 Evl
section
variable {K : PySem.W.Frag} {σ : L2.St} {H H0 H' : Hp} {ta tb te tl : TE} {tg tr : TA} {t : TT} {D : Ends} {tz : TS}
/-- the last of a branch: a new list -/
theorem e_asgL {i : Nat} {f b c : L2.St → Hp → Prop} {r' : VK} {xs : List V} (e : Ex H0 H) (h : EvL te σ H0 xs) (k : ∀ p H1, H0 p = none → Ex H0 H1 → H1 p = some (.lst xs) → f (σ.set i (some (.ref p))) H1) : tAsg te (gName i) ⟨f, r', b, c⟩ σ H :=
  s_asgL (h.mono e) fun p H1 hp e1 h1 => k p H1 (fresh_back e hp) (e.trans e1) h1
def TupsAt (H : Hp) : List V → List (List V) → Prop
  | [], [] => True
  | v :: vs, xs :: xss => (∃ t, v = .ref t ∧ H t = some (.tup xs)) ∧ TupsAt H vs xss
  | _, _ => False
theorem TupsAt.keep (hm : ∀ t xs, H t = some (.tup xs) → H' t = some (.tup xs)) : ∀ {vs : List V} {xss : List (List V)}, TupsAt H vs xss → TupsAt H' vs xss
  | [], [], _ => trivial
  | v :: vs, xs :: xss, ⟨⟨t, hv, ht⟩, r⟩ => ⟨⟨t, hv, hm _ _ ht⟩, TupsAt.keep hm r⟩
theorem TupsAt.mono {vs : List V} {xss : List (List V)} (h : TupsAt H vs xss) (e : Ex H H') : TupsAt H' vs xss := h.keep fun t xs ht => e _ _ ht
/-- a list that changes is no tuple -/
theorem TupsAt.upd {vs us ws : List V} {xss : List (List V)} {l : Addr} (h : TupsAt H vs xss) (hl : H l = some (.lst us)) : TupsAt (upd H l (.lst ws)) vs xss := h.keep fun t xs ht => by
  rw [upd_ne (fun z => by subst z; rw [ht] at hl; cases hl)]
  exact ht
theorem TupsAt.snoc {t : Addr} {xs : List V} (ht : H t = some (.tup xs)) : ∀ {vs : List V} {xss : List (List V)}, TupsAt H vs xss → TupsAt H (vs ++ [.ref t]) (xss ++ [xs])
  | [], [], _ => ⟨⟨t, rfl, ht⟩, trivial⟩
  | v :: vs, ys :: xss, ⟨h, r⟩ => ⟨h, TupsAt.snoc ht r⟩
theorem TupsAt.append {ws : List V} {yss : List (List V)} (h2 : TupsAt H ws yss) : ∀ {vs : List V} {xss : List (List V)}, TupsAt H vs xss → TupsAt H (vs ++ ws) (xss ++ yss)
  | [], [], _ => h2
  | v :: vs, ys :: xss, ⟨h, r⟩ => ⟨h, TupsAt.append h2 r⟩
theorem TupsAt.len : ∀ {vs : List V} {xss : List (List V)}, TupsAt H vs xss → vs.length = xss.length
  | [], [], _ => rfl
  | v :: vs, xs :: xss, ⟨_, r⟩ => congrArg (· + 1) r.len
theorem TupsAt.get {xs : List V} : ∀ {vs : List V} {xss : List (List V)} {i : Nat}, TupsAt H vs xss → xss[i]? = some xs → ∃ t, vs[i]? = some (.ref t) ∧ H t = some (.tup xs)
  | v :: vs, ys :: xss, 0, ⟨⟨t, hv, ht⟩, _⟩, h => by
    cases h
    exact ⟨t, by rw [hv]; rfl, ht⟩
  | v :: vs, ys :: xss, i + 1, ⟨_, r⟩, h => TupsAt.get (vs := vs) (xss := xss) (i := i) r (by simpa using h)
  | [], [], i, _, h => by cases h
theorem TupsAt.item {v : V} : ∀ {vs : List V} {xss : List (List V)} {i : Nat}, TupsAt H vs xss → vs[i]? = some v → ∃ t xs, v = .ref t ∧ xss[i]? = some xs ∧ H t = some (.tup xs)
  | w :: vs, ys :: xss, 0, ⟨⟨t, hv, ht⟩, _⟩, h => by
    cases h
    exact ⟨t, ys, hv, rfl, ht⟩
  | w :: vs, ys :: xss, i + 1, ⟨_, r⟩, h => by
    obtain ⟨t, xs, h1, h2, h3⟩ := TupsAt.item (vs := vs) (xss := xss) (i := i) r (by simpa using h)
    exact ⟨t, xs, h1, by simpa using h2, h3⟩
  | [], [], i, _, h => by cases h
theorem TupsAt.take : ∀ {vs : List V} {xss : List (List V)} (n : Nat), TupsAt H vs xss → TupsAt H (vs.take n) (xss.take n)
  | _, _, 0, _ => trivial
  | [], [], _ + 1, _ => trivial
  | v :: vs, xs :: xss, n + 1, ⟨h, r⟩ => ⟨h, TupsAt.take n r⟩
/-- a new list of new tuples -/
def RetLU (xss : List (List V)) (H : Hp) (Q : VK) : Prop := ∀ p vs H2, H p = none → Ex H H2 → H2 p = some (.lst vs) → TupsAt H2 vs xss → Q (.ref p) H2
def EvLU (te : TE) (σ : L2.St) (H : Hp) (xss : List (List V)) : Prop := ∀ H1, Ex H H1 → ∀ Q : VK, RetLU xss H1 Q → te σ H1 Q
def EvAU (ta : TA) (σ : L2.St) (H : Hp) (xss : List (List V)) : Prop := ∀ H1, Ex H H1 → ∀ Q : List V → Hp → Prop, (∀ vs H2, Ex H1 H2 → TupsAt H2 vs xss → Q vs H2) → ta σ H1 Q
theorem RetLU.back {xss : List (List V)} {Q : VK} (q : RetLU xss H Q) (e : Ex H H') : RetLU xss H' Q := fun p vs H2 hp e2 h2 ht => q p vs H2 (fresh_back e hp) (e.trans e2) h2 ht
theorem eau_nil : EvAU tNil σ H [] := fun H1 _ _ q => q [] H1 (Ex.refl H1) trivial
theorem eau_cons {xs : List V} {xss : List (List V)} (h : EvU te σ H xs) (hr : EvAU tr σ H xss) : EvAU (tCons te tr) σ H (xs :: xss) := fun H1 e Q q =>
  h H1 e _ fun p H2 _ e2 h2 => hr H2 (e.trans e2) _ fun vs H3 e3 h3 => q (.ref p :: vs) H3 (e2.trans e3) ⟨⟨p, rfl, e3 _ _ h2⟩, h3⟩
theorem elu_lst {xss : List (List V)} (h : EvAU tg σ H xss) (hz : xss.length ≤ 100000) : EvLU (tLst tg) σ H xss := fun H1 e Q q =>
  h H1 e _ fun vs H2 e2 h2 => ⟨sz_of (by rw [h2.len]; exact hz), fun p hp => q p vs _ (fresh_back e2 hp) (e2.trans (Ex.new hp)) upd_same (h2.mono (Ex.new hp))⟩
theorem elu_call {sp : Sp} {dvs vs : List V} {E : XK} {xss : List (List V)} (ha : EvA tg σ H vs) (hs : ∀ H1, Ex H H1 → ∀ Q : VK, RetLU xss H1 Q → sp (vs ++ dvs) H1 Q E) : EvLU (tCall sp dvs E tg) σ H xss := fun H1 e Q q =>
  ha H1 e _ fun H2 e2 => hs H2 (e.trans e2) Q (q.back e2)
/-- .. the first so many of it -/
theorem elu_take {xss : List (List V)} {n : Nat} {tn : TE} (h : EvLU te σ H xss) (hn : ∀ H1, Ex H H1 → Ev tn σ H1 (.int n)) (hcut : ∀ vs : List V, cutV vs none (some (n : Int)) = vs.take n) : EvLU (tSl (rSlL K) te tNoPart (tPart tn)) σ H (xss.take n) := fun H1 e Q q =>
  h H1 e _ fun p vs H2 hp e2 h2 ht => hn H2 (e.trans e2) H2 (Ex.refl H2) _ fun H3 e3 => ⟨n, rfl, p, vs, rfl, sq_of (e3 _ _ h2), fun p' hp' => q p' (vs.take n) _ (fresh_back (e2.trans e3) hp') ((e2.trans e3).trans (Ex.new hp')) (by rw [upd_same, hcut]) ((ht.mono (e3.trans (Ex.new hp'))).take n)⟩
/-- [a new tuple for x in xs] -/
theorem elu_lcL {l : Addr} {vs : List V} {j : Nat} {ws : List Nat} (g : Nat → List V) (h : Ev tl σ H (.ref l)) (hx : SqL K H l vs) (hz : vs.length ≤ 40000) (hw : ∀ x, wipe ((wipe σ ws).set j (some x)) ws = wipe σ ws)
    (he : ∀ i x H1, Ex H H1 → vs[i]? = some x → EvU te ((wipe σ ws).set j (some x)) H1 (g i)) : EvLU (tLc (iList K tl) (gName j) tYes te ws) σ H ((List.range vs.length).map g) := fun H0 e Q q => h H0 e _ fun H1 e1 => ⟨l, rfl, ⟨vs, ex_l (e.trans e1) hx⟩, fun Dl hD =>
  lc_list (xs := vs) (fun i H' => H1 Dl = none ∧ Ex H1 H' ∧ ∃ us, H' Dl = some (.lst us) ∧ TupsAt H' us ((List.range i).map g) ∧ us.length = i) ⟨hD, Ex.new hD, [], upd_same, trivial, rfl⟩ (fun i H' _ p => ex_l ((e.trans e1).trans p.2.1) hx)
    (fun i x H' hi ⟨p1, p2, us, p3, p4, p5⟩ => ⟨hw x, by
      have hi2 := (List.getElem?_eq_some_iff.mp hi).1
      show te ((wipe σ ws).set j (some x)) H' _
      refine he i x H' ((e.trans e1).trans p2) hi H' (Ex.refl H') _ fun t H2 ht e2 h2 => ?_
      have h3 := e2 _ _ p3
      refine ⟨us, h3, sz_lt (by omega), p1, Ex.mut (p2.trans e2) p1, us ++ [.ref t], upd_same, ?_, by rw [List.length_append, p5]; rfl⟩
      rw [List.range_succ, List.map_append]
      exact TupsAt.upd (TupsAt.snoc h2 (p4.mono e2)) h3⟩)
    (fun H' ⟨p1, p2, us, p3, p4, _⟩ => q Dl us H' (fresh_back e1 p1) (e1.trans p2) p3 p4)⟩
/-- .. over a new list of tuples -/
theorem elu_lcLU {xss : List (List V)} {j : Nat} {ws : List Nat} (g : List V → List V) (h : EvLU tl σ H xss) (hz : xss.length ≤ 40000) (hw : ∀ x, wipe ((wipe σ ws).set j (some x)) ws = wipe σ ws)
    (he : ∀ t xs H1, Ex H H1 → xs ∈ xss → H1 t = some (.tup xs) → EvU te ((wipe σ ws).set j (some (.ref t))) H1 (g xs)) : EvLU (tLc (iList K tl) (gName j) tYes te ws) σ H (xss.map g) := fun H0 e Q q => h H0 e _ fun l vs H1 hl e1 h1 ht => by
  have hlen := ht.len
  have e0 : xss.map g = (List.range vs.length).map fun i => g (xss.getD i []) := by
    rw [hlen]
    apply List.ext_getElem?
    intro i
    rw [List.getElem?_map, List.getElem?_map]
    by_cases hi : i < xss.length
    · rw [List.getElem?_range hi, List.getElem?_eq_getElem hi]
      simp [hi]
    · rw [List.getElem?_eq_none (by simpa using hi), List.getElem?_eq_none (by simpa using hi)]
      rfl
  refine ⟨l, rfl, ⟨vs, sq_of h1⟩, ?_⟩
  have hq : tLc (iList K (tC (.ref l))) (gName j) tYes te ws σ H1 Q := by
    refine elu_lcL (K := K) (te := te) (fun i => g (xss.getD i [])) (ev_c (v := .ref l)) (sq_of h1) (by omega) hw (fun i x H2 e2 hi => ?_) H1 (Ex.refl H1) Q ?_
    · obtain ⟨t, xs, rfl, hx, h2⟩ := ht.item hi
      have e3 : xss.getD i [] = xs := by simp [hx]
      rw [e3]
      exact he t xs H2 ((e.trans e1).trans e2) (List.mem_of_getElem? hx) (e2 _ _ h2)
    · rw [← e0]
      exact q.back e1
  obtain ⟨a, ha, _, hq⟩ := hq
  cases ha
  exact hq
theorem elu_lcR1 {ta : TA} {j : Nat} {ws : List Nat} {n : Nat} (g : Nat → List V) (h : EvA ta σ H [.int n]) (hn : n ≤ 40000) (hw : ∀ x, wipe ((wipe σ ws).set j (some x)) ws = wipe σ ws)
    (he : ∀ i x H1, Ex H H1 → i < n → EvU te ((wipe σ ws).set j x) H1 (g i)) : EvLU (tLc (iRng1 ta) (gName j) tYes te ws) σ H ((List.range n).map g) := fun H0 e Q q => h H0 e _ fun H1 e1 => ⟨n, rfl, by omega, by omega, fun Dl hD =>
  lc_range (lo := 0) (n := n) (fun i H' => H1 Dl = none ∧ Ex H1 H' ∧ ∃ us, H' Dl = some (.lst us) ∧ TupsAt H' us ((List.range i).map g) ∧ us.length = i) ⟨hD, Ex.new hD, [], upd_same, trivial, rfl⟩
    (fun i H' hi ⟨p1, p2, us, p3, p4, p5⟩ => ⟨hw _, by
      show te ((wipe σ ws).set j (some (.int ((0 : Int) + (i : Int))))) H' _
      refine he i _ H' ((e.trans e1).trans p2) hi H' (Ex.refl H') _ fun t H2 ht e2 h2 => ?_
      have h3 := e2 _ _ p3
      refine ⟨us, h3, sz_lt (by omega), p1, Ex.mut (p2.trans e2) p1, us ++ [.ref t], upd_same, ?_, by rw [List.length_append, p5]; rfl⟩
      rw [List.range_succ, List.map_append]
      exact TupsAt.upd (TupsAt.snoc h2 (p4.mono e2)) h3⟩)
    (fun H' ⟨p1, p2, us, p3, p4, _⟩ => q Dl us H' (fresh_back e1 p1) (e1.trans p2) p3 p4)⟩
/-- xs + a new list of tuples -/
theorem elu_cat {l : Addr} {vs : List V} {xss yss : List (List V)} (h : Ev ta σ H (.ref l)) (hl : H l = some (.lst vs)) (ht : TupsAt H vs xss) (hb : EvLU tb σ H yss) (hz : xss.length + yss.length ≤ 100000) : EvLU (tOp rCat ta tb) σ H (xss ++ yss) := fun H1 e Q q =>
  h H1 e _ fun H2 e2 => hb H2 (e.trans e2) _ fun p ws H3 hp e3 h3 ht3 => ⟨l, p, vs, ws, rfl, rfl, e3 _ _ (e2 _ _ (e _ _ hl)), h3, sz_of (by rw [ht.len, ht3.len]; exact hz), fun p' hp' => q p' _ _ (fresh_back (e2.trans e3) hp') ((e2.trans e3).trans (Ex.new hp')) upd_same
    (TupsAt.mono (TupsAt.append ht3 (((ht.mono e).mono e2).mono e3)) (Ex.new hp'))⟩
theorem b_asgLU {i : Nat} {xss : List (List V)} (e : Ex H0 H) (h : EvLU te σ H0 xss) (k : ∀ p vs H1, H0 p = none → Ex H0 H1 → H1 p = some (.lst vs) → TupsAt H1 vs xss → tz D (σ.set i (some (.ref p))) H1) : tSeq (tAsg te (gName i)) tz D σ H :=
  h H e _ fun p vs H1 hp e1 h1 ht => k p vs H1 (fresh_back e hp) (e.trans e1) h1 ht
/-- xs.append(a new tuple), xs a list of tuples that H0 does not have -/
theorem b_appU {l : Addr} {vs ys : List V} {xss : List (List V)} (e : Ex H0 H) (nl : H0 l = none) (hl : H l = some (.lst vs)) (ht : TupsAt H vs xss) (hv : Ev ta σ H (.ref l)) (h : EvU te σ H ys) (hz : xss.length < 100000)
    (k : ∀ us H1, Ex H0 H1 → H1 l = some (.lst us) → TupsAt H1 us (xss ++ [ys]) → tz D σ H1) : tSeq (tDrop (tBM K "list" rAppend ta (tCons te tNil))) tz D σ H :=
  q_appU hl hv h (by rw [ht.len]; exact hz) fun p H1 hp e1 h1 => k (vs ++ [.ref p]) _ (Ex.mut (e.trans e1) nl) upd_same (TupsAt.upd (TupsAt.snoc h1 (ht.mono e1)) (e1 _ _ hl))
/-- x = y op of a held list and a new one -/
theorem ev_opH {xs : List V} {y z : V} {r : R2} (ha : EvL ta σ H xs) (hb : Ev tb σ H y) (hr : ∀ p H1, H1 p = some (.lst xs) → Ex H H1 → RV r (.ref p) y H1 z) : Ev (tOp r ta tb) σ H z := ev_opL1 ha (fun _ e => hb.mono e) hr
/-- for x, y in a new list of pairs -/
theorem b_forNLU {xss : List (List V)} {tu : TS} {j k : Nat} (e : Ex H0 H) (h : EvLU tl σ H0 xss) (Pv : Addr → List V → Nat → L2.St → Hp → Prop) (h0 : ∀ p vs H1, H0 p = none → Ex H0 H1 → H1 p = some (.lst vs) → TupsAt H1 vs xss → Pv p vs 0 σ H1) (hl : ∀ p vs i σ' H', Pv p vs i σ' H' → H' p = some (.lst vs) ∧ TupsAt H' vs xss)
    (hs : ∀ p vs i xs σ' H', xss[i]? = some xs → Pv p vs i σ' H' → ∃ x y, xs = [x, y] ∧ tu { D with nx := Pv p vs (i + 1), ct := Pv p vs (i + 1), bk := tz D } ((σ'.set j (some x)).set k (some y)) H') (hd : ∀ p vs σ' H', Pv p vs xss.length σ' H' → tz D σ' H') :
    tSeq (tFor (iList K tl) (gTup K 2 (gCons (gName j) (gCons (gName k) gNil))) tu) tz D σ H :=
  h H e _ fun p vs H1 hp e1 h1 ht => ⟨p, rfl, ⟨vs, sq_of h1⟩, for_list (xs := vs) (fun i σ' H' => Pv p vs i σ' H') (h0 p vs H1 (fresh_back e hp) (e.trans e1) h1 ht) (fun i σ' H' _ q => sq_of (hl p vs i σ' H' q).1) (fun i x σ' H' hi q => by
      obtain ⟨hv, ht2⟩ := hl p vs i σ' H' q
      obtain ⟨t, xs, rfl, hx, h2⟩ := ht2.item hi
      obtain ⟨x, y, rfl, hb⟩ := hs p vs i xs σ' H' hx q
      exact ⟨t, [x, y], rfl, st_of h2, rfl, x, [y], rfl, y, [], rfl, rfl, hb⟩) (fun σ' H' q => hd p vs σ' H' (by rw [← ht.len]; exact q))⟩
end
end Mk
/-! ### changes as tuples, what fits -/
namespace Mk
open PySem L2 Evl
section
variable {K : PySem.W.Frag} {σ : L2.St} {H : Hp} {te td : TE}
def chV : Ch → List V
  | .non => []
  | .turn j => [.str "turn", .int j]
  | .swap i j => [.str "swap", .int i, .int j]
theorem ch_at {c : Ch} {t : Addr} (hc : c ≠ .non) (h : H t = some (.tup (chV c))) : ChAt K H (.ref t) c := by
  cases c with
  | non => exact absurd rfl hc
  | turn j => exact ⟨t, rfl, st_of h⟩
  | swap i j => exact ⟨t, rfl, st_of h⟩
def fitV (b : Bool × Bool) : List V := [.bl b.1, .bl b.2]
theorem RetL.back {xs : List V} {H' : Hp} {Q : VK} (q : RetL xs H Q) (e : Ex H H') : RetL xs H' Q := fun p H3 hp e3 h3 => q p H3 (fresh_back e hp) (e.trans e3) h3
/-- what is told is what is due -/
theorem et_due {B : Bool} {a b : Addr} (h1 : EvL te σ H (if B = true then [] else [V.int 0, V.int 4])) (h2 : Ev td σ H (.ref (if B = true then b else a))) (ha : H a = some (.lst [V.int 0, V.int 4])) (hb : H b = some (.lst [])) : EvT (tTest (tOp (rNeD K) te td)) σ H false := by
  cases B with
  | true => exact et_is (et_test (ev_opH h1 h2 fun p H1 hp e => rv_neL (xs := []) (ys := []) (sq_of hp) (sq_of (e _ _ hb)))) (by simp)
  | false => exact et_is (et_test (ev_opH h1 h2 fun p H1 hp e => rv_neL (xs := [0, 4]) (ys := [0, 4]) (sq_of hp) (sq_of (e _ _ ha)))) (by simp)
end
end Mk
/-! ### insert, pop, items set: the last of a branch -/
namespace Mk
open PySem L2 Evl
section
variable {K : PySem.W.Frag} {σ : L2.St} {H H0 H' : Hp} {ta tb te ti tv : TE} {f b c : L2.St → Hp → Prop} {r' : VK}
def rIns : V → List V → Hp → VK → Prop := fun x vs H Q => ∃ (l : Addr) (xs : List V) (i : Int) (y : V), x = .ref l ∧ vs = [.int i, y] ∧ H l = some (.lst xs) ∧ xs.length < sizeLine ∧ 0 ≤ i ∧ i < 2 ^ 63 ∧ Q .non (upd H l (.lst (xs.take i.toNat ++ [y] ++ xs.drop i.toNat)))
theorem e_ins {l : Addr} {xs : List Int} {i y : Int} (hl : H l = some (.lst (xs.map V.int))) (hv : Ev ta σ H (.ref l)) (hi : Ev ti σ H (.int i)) (hy : Ev tv σ H (.int y)) (h0 : 0 ≤ i) (h1 : i ≤ 100000) (hz : xs.length < 100000)
    (k : ∀ H1, Ex H H1 → f σ (upd H1 l (.lst ((xs.take i.toNat ++ [y] ++ xs.drop i.toNat).map V.int)))) : tDrop (tBM K "list" rIns ta (tCons ti (tCons tv tNil))) ⟨f, r', b, c⟩ σ H := hv H (Ex.refl H) _ fun H1 e1 =>
  ⟨Or.inl ⟨rfl, xs.map V.int, sq_of (e1 l _ hl)⟩, hi H1 e1 _ fun H2 e2 => hy H2 (e1.trans e2) _ fun H3 e3 => ⟨l, xs.map V.int, i, .int y, rfl, rfl, e3 _ _ (e2 _ _ (e1 _ _ hl)), sz_lt (by rw [List.length_map]; exact hz), h0, by omega, by
    have h := k H3 ((e1.trans e2).trans e3)
    rw [List.map_append, List.map_append, List.map_take, List.map_drop] at h
    exact h⟩⟩
theorem e_pop {l : Addr} {xs : List Int} {j : Nat} (hl : H l = some (.lst (xs.map V.int))) (hv : Ev ta σ H (.ref l)) (hi : Ev ti σ H (.int (j : Int))) (hj : j < xs.length) (hz : xs.length < 100000)
    (k : ∀ H1, Ex H H1 → f σ (upd H1 l (.lst ((xs.eraseIdx j).map V.int)))) : tDrop (tBM K "list" rPopAt ta (tCons ti tNil)) ⟨f, r', b, c⟩ σ H := hv H (Ex.refl H) _ fun H1 e1 =>
  ⟨Or.inl ⟨rfl, xs.map V.int, sq_of (e1 l _ hl)⟩, hi H1 e1 _ fun H2 e2 => ⟨l, xs.map V.int, j, j, .int xs[j], rfl, rfl, e2 _ _ (e1 _ _ hl), by omega, by omega, by
    unfold seqIndex?
    rw [List.length_map]
    have h1 : (if (j : Int) < 0 then (j : Int) + xs.length else (j : Int)) = j := if_neg (by omega)
    simp only [h1]
    rw [if_pos (by simp; omega)]
    rfl, int_at hj, by
    have h := k H2 (e1.trans e2)
    have e : (xs.map V.int).eraseIdx j = (xs.eraseIdx j).map V.int := by
      rw [List.eraseIdx_eq_take_drop_succ, List.eraseIdx_eq_take_drop_succ, List.map_append, List.map_take, List.map_drop]
    rw [← e] at h
    exact h⟩⟩
theorem e_setL {l : Addr} {xs : List Int} {j : Nat} {y : Int} (hl : H l = some (.lst (xs.map V.int))) (h : Ev te σ H (.int y)) (ho : Ev ta σ H (.ref l)) (hi : Ev tb σ H (.int (j : Int))) (hj : j < xs.length) (k : ∀ H1, Ex H H1 → f σ (upd H1 l (.lst ((xs.set j y).map V.int)))) :
    tAsg te (gSub ta tb rSetL) ⟨f, r', b, c⟩ σ H := s_setL hl h ho hi (by rw [List.length_map]; exact hj) fun H1 e1 => by
  have h := k H1 e1
  rw [List.map_set] at h
  exact h
theorem q_setI {D : Ends} {tz : TS} {l : Addr} {xs : List Int} {j : Nat} {y : Int} (hl : H l = some (.lst (xs.map V.int))) (h : Ev te σ H (.int y)) (ho : Ev ta σ H (.ref l)) (hi : Ev tb σ H (.int (j : Int))) (hj : j < xs.length) (k : ∀ H1, Ex H H1 → tz D σ (upd H1 l (.lst ((xs.set j y).map V.int)))) :
    tSeq (tAsg te (gSub ta tb rSetL)) tz D σ H := q_setL hl h ho hi (by rw [List.length_map]; exact hj) fun H1 e1 => by
  have h := k H1 e1
  rw [List.map_set] at h
  exact h
end
theorem mem_set_self {xs : List Int} {j : Nat} {y : Int} (hj : j < xs.length) : y ∈ xs.set j y := by
  have h : (xs.set j y)[j]'(by rw [List.length_set]; exact hj) = y := by simp
  have h2 := List.getElem_mem (l := xs.set j y) (n := j) (by rw [List.length_set]; exact hj)
  rwa [h] at h2
theorem mem_set_other {xs : List Int} {i j : Nat} {x y : Int} (hi : i < xs.length) (hij : i ≠ j) : x ∈ (xs.set i x).set j y := by
  have h : ((xs.set i x).set j y)[i]'(by rw [List.length_set, List.length_set]; exact hi) = x := by
    rw [List.getElem_set, if_neg (Ne.symm hij)]
    simp
  have h2 := List.getElem_mem (l := (xs.set i x).set j y) (n := i) (by rw [List.length_set, List.length_set]; exact hi)
  rwa [h] at h2
theorem len_ins (xs : List Int) (j : Nat) (y : Int) : (xs.take j ++ [y] ++ xs.drop j).length = xs.length + 1 := by
  simp only [List.length_append, List.length_take, List.length_drop, List.length_singleton]
  omega
/-- another spot of the ring -/
theorem ring_ne {a t n : Int} (a0 : 0 ≤ a) (a1 : a < n) (t0 : 0 ≤ t) (t1 : t < n - 1) : (a + 1 + t) % n ≠ a := by
  by_cases h : a + 1 + t < n
  · rw [Int.emod_eq_of_lt (by omega) h]
    omega
  · have e : (a + 1 + t) % n = a + 1 + t - n := by
      rw [← Int.sub_emod_right, Int.emod_eq_of_lt (by omega) (by omega)]
    omega
end Mk

namespace Mk
open PySem L2 Evl PyProof.Rows
/-! ### steps of the reading -/
local macro_rules | `(tactic| walk_at "rv") => `(tactic| first
  | (with_reducible exact rv_I0)
  | (with_reducible exact rv_eqI)
  | (with_reducible exact rv_neI)
  | (with_reducible refine rv_I (C := CMul) (cmul_r ?_ ?_) <;> omega)
  | (with_reducible refine rv_I (C := CMul) (cmul_l ?_ ?_) <;> omega)
  | (with_reducible refine rv_I (C := CDivW) (cdiv_small ?_ ?_) <;> omega)
  | (with_reducible refine rv_I (C := fun _ j => 0 < j) ?_ <;> omega)
  | (with_reducible exact rv_p12)
  | (with_reducible exact rv_c7)
  | (with_reducible exact rv_isN)
  | (with_reducible exact rv_notN)
  | ((with_reducible apply rv_eq); rfl)
  | ((with_reducible apply rv_ne); rfl))
local macro_rules | `(tactic| walk_at "ev") => `(tactic| first
  | (with_reducible exact ev_c)
  | ((with_reducible apply ev_var); rfl)
  | (with_reducible exact ea_nil)
  | ((with_reducible apply ea_cons); walk_at "ev"; walk_at "ev")
  | ((with_reducible apply et_test); walk_at "ev")
  | ((with_reducible apply et_B); walk_at "ev")
  | ((with_reducible apply et_not); walk_at "ev")
  | ((with_reducible apply et_or); walk_at "ev"; (intro _; walk_at "ev"))
  | ((with_reducible apply et_and); walk_at "ev"; (intro _; walk_at "ev"))
  | ((with_reducible apply ev_op); walk_at "ev"; walk_at "ev"; walk_at "rv")
  | ((with_reducible apply ev_chain); walk_at "ev"; walk_at "ev"; walk_at "rv"; (intro _; walk_at "ev"); (intro _; walk_at "rv"))
  | ((with_reducible apply ev_un0); walk_at "ev")
  | (with_reducible assumption))

/-! ### the text by places -/
def top (i : Nat) : Stmt := PySem.Challenge.pw_marksteps_k07_refusals.main.body.getD i (.Pass ⟨0, 0, 0, 0⟩)
abbrev s_Listing___init__ : Stmt := inClass (top 10) 0
abbrev N_Listing___init__ : List Str := ["self", "length", "size"]
abbrev P_Listing___init__ : List Str := ["self", "length", "size"]
abbrev s_power : Stmt := top 1
abbrev N_power : List Str := ["signs", "length", "many", "spot"]
abbrev P_power : List Str := ["signs", "length"]
abbrev s_Turning___init__ : Stmt := inClass (top 18) 0
abbrev N_Turning___init__ : List Str := ["self", "signs", "length"]
abbrev P_Turning___init__ : List Str := ["self", "signs", "length"]
abbrev s_choose : Stmt := top 2
abbrev N_choose : List Str := ["length", "ones", "many", "spot"]
abbrev P_choose : List Str := ["length", "ones"]
abbrev s_Choosing___init__ : Stmt := inClass (top 14) 0
abbrev N_Choosing___init__ : List Str := ["self", "length", "ones"]
abbrev P_Choosing___init__ : List Str := ["self", "length", "ones"]
abbrev s_law_length : Stmt := top 21
abbrev N_law_length : List Str := ["_law_cell"]
abbrev P_law_length : List Str := ["_law_cell"]
abbrev s_law_signs : Stmt := top 22
abbrev N_law_signs : List Str := ["_law_cell"]
abbrev P_law_signs : List Str := ["_law_cell"]
abbrev s_law_cell_at : Stmt := top 20
abbrev N_law_cell_at : List Str := ["_law_script", "_law_k"]
abbrev P_law_cell_at : List Str := ["_law_script", "_law_k"]
abbrev s_law_which : Stmt := top 23
abbrev N_law_which : List Str := ["_law_error", "_law_some", "_law_k"]
abbrev P_law_which : List Str := ["_law_error"]
abbrev s_law_formed : Stmt := top 24
abbrev N_law_formed : List Str := ["_law_turning_here", "_law_one", "_law_two", "e"]
abbrev P_law_formed : List Str := ["_law_turning_here", "_law_one", "_law_two"]
abbrev s_law_forms : Stmt := top 27
abbrev N_law_forms : List Str := ["_law_length_here", "_law_signs_here", "_law_far", "_law_bad", "_law_one", "_law_two"]
abbrev P_law_forms : List Str := ["_law_length_here", "_law_signs_here", "_law_far"]
abbrev s_Turning_is_row : Stmt := inClass (top 18) 2
abbrev N_Turning_is_row : List Str := ["self", "row", "mark"]
abbrev P_Turning_is_row : List Str := ["self", "row"]
abbrev s_Turning_place_of : Stmt := inClass (top 18) 3
abbrev N_Turning_place_of : List Str := ["self", "row", "place", "figure", "mark"]
abbrev P_Turning_place_of : List Str := ["self", "row"]
abbrev s_law_bad_row : Stmt := top 28
abbrev N_law_bad_row : List Str := ["_law_row", "_law_cell", "_law_signs_here", "_law_far", "_law_bad", "_law_at"]
abbrev P_law_bad_row : List Str := ["_law_row", "_law_cell", "_law_signs_here", "_law_far"]
abbrev s_Turning_moved : Stmt := inClass (top 18) 5
abbrev N_Turning_moved : List Str := ["self", "row", "change", "by", "made"]
abbrev P_Turning_moved : List Str := ["self", "row", "change", "by"]
abbrev s_Turning_undone : Stmt := inClass (top 18) 7
abbrev N_Turning_undone : List Str := ["self", "row", "change"]
abbrev P_Turning_undone : List Str := ["self", "row", "change"]
abbrev s_Turning_row_at : Stmt := inClass (top 18) 1
abbrev N_Turning_row_at : List Str := ["self", "place", "row", "rest", "figure", "spot", "higher"]
abbrev P_Turning_row_at : List Str := ["self", "place"]
abbrev s_Turning_change : Stmt := inClass (top 18) 4
abbrev N_Turning_change : List Str := ["self", "row", "place", "spot"]
abbrev P_Turning_change : List Str := ["self", "row"]
abbrev s_Listing_leap : Stmt := inClass (top 10) 4
abbrev N_Listing_leap : List Str := ["self", "row", "steps"]
abbrev P_Listing_leap : List Str := ["self", "row", "steps"]
abbrev s_Listing_next_row : Stmt := inClass (top 10) 5
abbrev N_Listing_next_row : List Str := ["self", "row"]
abbrev P_Listing_next_row : List Str := ["self", "row"]
abbrev s_Listing_row_before : Stmt := inClass (top 10) 6
abbrev N_Listing_row_before : List Str := ["self", "row"]
abbrev P_Listing_row_before : List Str := ["self", "row"]
abbrev s_Listing_steps_to : Stmt := inClass (top 10) 7
abbrev N_Listing_steps_to : List Str := ["self", "row", "other"]
abbrev P_Listing_steps_to : List Str := ["self", "row", "other"]
abbrev s_Turning_done : Stmt := inClass (top 18) 6
abbrev N_Turning_done : List Str := ["self", "row", "change"]
abbrev P_Turning_done : List Str := ["self", "row", "change"]
abbrev s_law_ask : Stmt := top 25
abbrev N_law_ask : List Str := ["_law_lot", "_law_way", "_law_row", "_law_more"]
abbrev P_law_ask : List Str := ["_law_lot", "_law_way", "_law_row", "_law_more"]
abbrev s_law_refused : Stmt := top 26
abbrev N_law_refused : List Str := ["_law_lot", "_law_way", "_law_row", "_law_more", "e"]
abbrev P_law_refused : List Str := ["_law_lot", "_law_way", "_law_row", "_law_more"]
abbrev s_law_rows : Stmt := top 30
abbrev N_law_rows : List Str := ["_law_lot", "_law_row", "_law_bad", "_law_steps", "_law_change", "_law_kept", "_law_way", "_law_more"]
abbrev P_law_rows : List Str := ["_law_lot", "_law_row", "_law_bad", "_law_steps", "_law_change"]
abbrev s_law_changes : Stmt := top 32
abbrev N_law_changes : List Str := ["_law_lot", "_law_row", "_law_changes_here", "_law_fits", "_law_k", "_law_due"]
abbrev P_law_changes : List Str := ["_law_lot", "_law_row", "_law_changes_here", "_law_fits"]
abbrev s_law_places : Stmt := top 31
abbrev N_law_places : List Str := ["_law_lot", "_law_many", "_law_far", "_law_place"]
abbrev P_law_places : List Str := ["_law_lot", "_law_many", "_law_far"]
abbrev s_Listing_many : Stmt := inClass (top 10) 1
abbrev N_Listing_many : List Str := ["self"]
abbrev P_Listing_many : List Str := ["self"]
abbrev s_law_swaps : Stmt := top 33
abbrev N_law_swaps : List Str := ["_law_script", "_law_length_here", "_law_far", "_law_wide", "_law_pairs"]
abbrev P_law_swaps : List Str := ["_law_script", "_law_length_here", "_law_far"]
abbrev s_law_turning : Stmt := top 35
abbrev N_law_turning : List Str := ["_law_script", "_law_length_here", "_law_signs_here", "_law_far", "_law_row", "_law_k", "_law_lot", "_law_place", "_law_bad", "_law_changes_here", "_law_pair", "_law_fits"]
abbrev P_law_turning : List Str := ["_law_script", "_law_length_here", "_law_signs_here", "_law_far"]
abbrev s_Choosing_is_row : Stmt := inClass (top 14) 2
abbrev N_Choosing_is_row : List Str := ["self", "row", "mark"]
abbrev P_Choosing_is_row : List Str := ["self", "row"]
abbrev s_Choosing_place_of : Stmt := inClass (top 14) 3
abbrev N_Choosing_place_of : List Str := ["self", "row", "place", "ones", "size", "spot", "mark"]
abbrev P_Choosing_place_of : List Str := ["self", "row"]
abbrev s_law_bad_ones : Stmt := top 29
abbrev N_law_bad_ones : List Str := ["_law_row", "_law_cell", "_law_other", "_law_far", "_law_bad", "_law_at", "_law_full", "_law_k"]
abbrev P_law_bad_ones : List Str := ["_law_row", "_law_cell", "_law_other", "_law_far"]
abbrev s_has : Stmt := top 13
abbrev N_has : List Str := ["row", "spot", "mark"]
abbrev P_has : List Str := ["row", "spot", "mark"]
abbrev s_Choosing_moved : Stmt := inClass (top 14) 5
abbrev N_Choosing_moved : List Str := ["self", "row", "change", "by", "made", "out", "into"]
abbrev P_Choosing_moved : List Str := ["self", "row", "change", "by"]
abbrev s_Choosing_undone : Stmt := inClass (top 14) 7
abbrev N_Choosing_undone : List Str := ["self", "row", "change"]
abbrev P_Choosing_undone : List Str := ["self", "row", "change"]
abbrev s_Choosing_row_at : Stmt := inClass (top 14) 1
abbrev N_Choosing_row_at : List Str := ["self", "place", "row", "ones", "size", "spots", "without"]
abbrev P_Choosing_row_at : List Str := ["self", "place"]
abbrev s_Choosing_change : Stmt := inClass (top 14) 4
abbrev N_Choosing_change : List Str := ["self", "row", "other", "out", "into", "spot", "mark"]
abbrev P_Choosing_change : List Str := ["self", "row"]
abbrev s_Choosing_done : Stmt := inClass (top 14) 6
abbrev N_Choosing_done : List Str := ["self", "row", "change"]
abbrev P_Choosing_done : List Str := ["self", "row", "change"]
abbrev s_law_fit : Stmt := top 34
abbrev N_law_fit : List Str := ["_law_row", "_law_out", "_law_into"]
abbrev P_law_fit : List Str := ["_law_row", "_law_out", "_law_into"]
abbrev s_law_choosing : Stmt := top 36
abbrev N_law_choosing : List Str := ["_law_script", "_law_length_here", "_law_far", "_law_ones", "_law_ahead", "_law_row", "_law_lot", "_law_place", "_law_bad", "_law_pairs", "_law_changes_here", "_law_pair", "_law_fits"]
abbrev P_law_choosing : List Str := ["_law_script", "_law_length_here", "_law_far"]
abbrev s_law : Stmt := top 37
abbrev N_law : List Str := ["_law_script", "_law_length_here", "_law_signs_here", "_law_far"]
abbrev P_law : List Str := ["_law_script"]
/-! ### what the top has left -/
structure Txt (K : PySem.W.Frag) (mg : Str → Option Value) where
  a_Listing___init__ : Addr
  d_Listing___init__ : FuncData
  a_power : Addr
  d_power : FuncData
  a_Turning___init__ : Addr
  d_Turning___init__ : FuncData
  a_choose : Addr
  d_choose : FuncData
  a_Choosing___init__ : Addr
  d_Choosing___init__ : FuncData
  a_law_length : Addr
  d_law_length : FuncData
  a_law_signs : Addr
  d_law_signs : FuncData
  a_law_cell_at : Addr
  d_law_cell_at : FuncData
  a_law_which : Addr
  d_law_which : FuncData
  a_law_formed : Addr
  d_law_formed : FuncData
  a_law_forms : Addr
  d_law_forms : FuncData
  a_Turning_is_row : Addr
  d_Turning_is_row : FuncData
  a_Turning_place_of : Addr
  d_Turning_place_of : FuncData
  a_law_bad_row : Addr
  d_law_bad_row : FuncData
  a_Turning_moved : Addr
  d_Turning_moved : FuncData
  a_Turning_undone : Addr
  d_Turning_undone : FuncData
  a_Turning_row_at : Addr
  d_Turning_row_at : FuncData
  a_Turning_change : Addr
  d_Turning_change : FuncData
  a_Listing_leap : Addr
  d_Listing_leap : FuncData
  t_Listing_leap : Addr
  e_Listing_leap : List Value
  a_Listing_next_row : Addr
  d_Listing_next_row : FuncData
  a_Listing_row_before : Addr
  d_Listing_row_before : FuncData
  a_Listing_steps_to : Addr
  d_Listing_steps_to : FuncData
  a_Turning_done : Addr
  d_Turning_done : FuncData
  a_law_ask : Addr
  d_law_ask : FuncData
  a_law_refused : Addr
  d_law_refused : FuncData
  a_law_rows : Addr
  d_law_rows : FuncData
  a_law_changes : Addr
  d_law_changes : FuncData
  a_law_places : Addr
  d_law_places : FuncData
  a_Listing_many : Addr
  d_Listing_many : FuncData
  a_law_swaps : Addr
  d_law_swaps : FuncData
  a_law_turning : Addr
  d_law_turning : FuncData
  a_Choosing_is_row : Addr
  d_Choosing_is_row : FuncData
  a_Choosing_place_of : Addr
  d_Choosing_place_of : FuncData
  a_law_bad_ones : Addr
  d_law_bad_ones : FuncData
  a_has : Addr
  d_has : FuncData
  a_Choosing_moved : Addr
  d_Choosing_moved : FuncData
  a_Choosing_undone : Addr
  d_Choosing_undone : FuncData
  a_Choosing_row_at : Addr
  d_Choosing_row_at : FuncData
  a_Choosing_change : Addr
  d_Choosing_change : FuncData
  a_Choosing_done : Addr
  d_Choosing_done : FuncData
  a_law_fit : Addr
  d_law_fit : FuncData
  a_law_choosing : Addr
  d_law_choosing : FuncData
  a_law : Addr
  d_law : FuncData
  c_RowError : Addr
  c_NoForm : Addr
  c_NoPlace : Addr
  c_NoRow : Addr
  c_NoChange : Addr
  c_Listing : Addr
  c_Choosing : Addr
  c_Turning : Addr
  t_MOST_SPOTS_choosing : Tok
  t_MOST_SIGNS : Tok
  t_MOST_SPOTS_turning : Tok
  g_ValueError : mg "ValueError" = none
  g_all : mg "all" = none
  g_divmod : mg "divmod" = none
  g_enumerate : mg "enumerate" = none
  g_int : mg "int" = none
  g_isinstance : mg "isinstance" = none
  g_len : mg "len" = none
  g_list : mg "list" = none
  g_max : mg "max" = none
  g_min : mg "min" = none
  g_range : mg "range" = none
  g_reversed : mg "reversed" = none
  g_sum : mg "sum" = none
  m_MOST_SPOTS_choosing : mg "MOST_SPOTS_choosing" = some (.int 200 t_MOST_SPOTS_choosing)
  m_MOST_SIGNS : mg "MOST_SIGNS" = some (.int 1000000000000 t_MOST_SIGNS)
  m_MOST_SPOTS_turning : mg "MOST_SPOTS_turning" = some (.int 200 t_MOST_SPOTS_turning)
  F_Listing___init__ : Fun K "__init__" "Listing.__init__" s_Listing___init__ a_Listing___init__ d_Listing___init__
  b_Listing___init__ : Binds K d_Listing___init__ P_Listing___init__ []
  F_power : Fun K "power" "power" s_power a_power d_power
  b_power : Binds K d_power P_power []
  m_power : mg "power" = some (.ref a_power)
  F_Turning___init__ : Fun K "__init__" "Turning.__init__" s_Turning___init__ a_Turning___init__ d_Turning___init__
  b_Turning___init__ : Binds K d_Turning___init__ P_Turning___init__ []
  F_choose : Fun K "choose" "choose" s_choose a_choose d_choose
  b_choose : Binds K d_choose P_choose []
  m_choose : mg "choose" = some (.ref a_choose)
  F_Choosing___init__ : Fun K "__init__" "Choosing.__init__" s_Choosing___init__ a_Choosing___init__ d_Choosing___init__
  b_Choosing___init__ : Binds K d_Choosing___init__ P_Choosing___init__ []
  F_law_length : Fun K "_law_length" "_law_length" s_law_length a_law_length d_law_length
  b_law_length : Binds K d_law_length P_law_length []
  m_law_length : mg "_law_length" = some (.ref a_law_length)
  F_law_signs : Fun K "_law_signs" "_law_signs" s_law_signs a_law_signs d_law_signs
  b_law_signs : Binds K d_law_signs P_law_signs []
  m_law_signs : mg "_law_signs" = some (.ref a_law_signs)
  F_law_cell_at : Fun K "_law_cell_at" "_law_cell_at" s_law_cell_at a_law_cell_at d_law_cell_at
  b_law_cell_at : Binds K d_law_cell_at P_law_cell_at []
  m_law_cell_at : mg "_law_cell_at" = some (.ref a_law_cell_at)
  F_law_which : Fun K "_law_which" "_law_which" s_law_which a_law_which d_law_which
  b_law_which : Binds K d_law_which P_law_which []
  m_law_which : mg "_law_which" = some (.ref a_law_which)
  F_law_formed : Fun K "_law_formed" "_law_formed" s_law_formed a_law_formed d_law_formed
  b_law_formed : Binds K d_law_formed P_law_formed []
  m_law_formed : mg "_law_formed" = some (.ref a_law_formed)
  F_law_forms : Fun K "_law_forms" "_law_forms" s_law_forms a_law_forms d_law_forms
  b_law_forms : Binds K d_law_forms P_law_forms []
  m_law_forms : mg "_law_forms" = some (.ref a_law_forms)
  F_Turning_is_row : Fun K "is_row" "Turning.is_row" s_Turning_is_row a_Turning_is_row d_Turning_is_row
  b_Turning_is_row : Binds K d_Turning_is_row P_Turning_is_row []
  F_Turning_place_of : Fun K "place_of" "Turning.place_of" s_Turning_place_of a_Turning_place_of d_Turning_place_of
  b_Turning_place_of : Binds K d_Turning_place_of P_Turning_place_of []
  F_law_bad_row : Fun K "_law_bad_row" "_law_bad_row" s_law_bad_row a_law_bad_row d_law_bad_row
  b_law_bad_row : Binds K d_law_bad_row P_law_bad_row []
  m_law_bad_row : mg "_law_bad_row" = some (.ref a_law_bad_row)
  F_Turning_moved : Fun K "moved" "Turning.moved" s_Turning_moved a_Turning_moved d_Turning_moved
  b_Turning_moved : Binds K d_Turning_moved P_Turning_moved []
  F_Turning_undone : Fun K "undone" "Turning.undone" s_Turning_undone a_Turning_undone d_Turning_undone
  b_Turning_undone : Binds K d_Turning_undone P_Turning_undone []
  F_Turning_row_at : Fun K "row_at" "Turning.row_at" s_Turning_row_at a_Turning_row_at d_Turning_row_at
  b_Turning_row_at : Binds K d_Turning_row_at P_Turning_row_at []
  F_Turning_change : Fun K "change" "Turning.change" s_Turning_change a_Turning_change d_Turning_change
  b_Turning_change : Binds K d_Turning_change P_Turning_change []
  F_Listing_leap : FunD K "leap" "Listing.leap" (defArgs s_Listing_leap) (defBody s_Listing_leap) (defScope s_Listing_leap) [.int 1] [] a_Listing_leap d_Listing_leap
  b_Listing_leap : Binds K d_Listing_leap P_Listing_leap []
  ve_Listing_leap : Vals [.int 1] e_Listing_leap
  be_Listing_leap : Binds K d_Listing_leap P_Listing_leap e_Listing_leap
  F_Listing_next_row : Fun K "next_row" "Listing.next_row" s_Listing_next_row a_Listing_next_row d_Listing_next_row
  b_Listing_next_row : Binds K d_Listing_next_row P_Listing_next_row []
  F_Listing_row_before : Fun K "row_before" "Listing.row_before" s_Listing_row_before a_Listing_row_before d_Listing_row_before
  b_Listing_row_before : Binds K d_Listing_row_before P_Listing_row_before []
  F_Listing_steps_to : Fun K "steps_to" "Listing.steps_to" s_Listing_steps_to a_Listing_steps_to d_Listing_steps_to
  b_Listing_steps_to : Binds K d_Listing_steps_to P_Listing_steps_to []
  F_Turning_done : Fun K "done" "Turning.done" s_Turning_done a_Turning_done d_Turning_done
  b_Turning_done : Binds K d_Turning_done P_Turning_done []
  F_law_ask : Fun K "_law_ask" "_law_ask" s_law_ask a_law_ask d_law_ask
  b_law_ask : Binds K d_law_ask P_law_ask []
  m_law_ask : mg "_law_ask" = some (.ref a_law_ask)
  F_law_refused : Fun K "_law_refused" "_law_refused" s_law_refused a_law_refused d_law_refused
  b_law_refused : Binds K d_law_refused P_law_refused []
  m_law_refused : mg "_law_refused" = some (.ref a_law_refused)
  F_law_rows : Fun K "_law_rows" "_law_rows" s_law_rows a_law_rows d_law_rows
  b_law_rows : Binds K d_law_rows P_law_rows []
  m_law_rows : mg "_law_rows" = some (.ref a_law_rows)
  F_law_changes : Fun K "_law_changes" "_law_changes" s_law_changes a_law_changes d_law_changes
  b_law_changes : Binds K d_law_changes P_law_changes []
  m_law_changes : mg "_law_changes" = some (.ref a_law_changes)
  F_law_places : Fun K "_law_places" "_law_places" s_law_places a_law_places d_law_places
  b_law_places : Binds K d_law_places P_law_places []
  m_law_places : mg "_law_places" = some (.ref a_law_places)
  F_Listing_many : Fun K "many" "Listing.many" s_Listing_many a_Listing_many d_Listing_many
  b_Listing_many : Binds K d_Listing_many P_Listing_many []
  F_law_swaps : Fun K "_law_swaps" "_law_swaps" s_law_swaps a_law_swaps d_law_swaps
  b_law_swaps : Binds K d_law_swaps P_law_swaps []
  m_law_swaps : mg "_law_swaps" = some (.ref a_law_swaps)
  F_law_turning : Fun K "_law_turning" "_law_turning" s_law_turning a_law_turning d_law_turning
  b_law_turning : Binds K d_law_turning P_law_turning []
  m_law_turning : mg "_law_turning" = some (.ref a_law_turning)
  F_Choosing_is_row : Fun K "is_row" "Choosing.is_row" s_Choosing_is_row a_Choosing_is_row d_Choosing_is_row
  b_Choosing_is_row : Binds K d_Choosing_is_row P_Choosing_is_row []
  F_Choosing_place_of : Fun K "place_of" "Choosing.place_of" s_Choosing_place_of a_Choosing_place_of d_Choosing_place_of
  b_Choosing_place_of : Binds K d_Choosing_place_of P_Choosing_place_of []
  F_law_bad_ones : Fun K "_law_bad_ones" "_law_bad_ones" s_law_bad_ones a_law_bad_ones d_law_bad_ones
  b_law_bad_ones : Binds K d_law_bad_ones P_law_bad_ones []
  m_law_bad_ones : mg "_law_bad_ones" = some (.ref a_law_bad_ones)
  F_has : Fun K "has" "has" s_has a_has d_has
  b_has : Binds K d_has P_has []
  m_has : mg "has" = some (.ref a_has)
  F_Choosing_moved : Fun K "moved" "Choosing.moved" s_Choosing_moved a_Choosing_moved d_Choosing_moved
  b_Choosing_moved : Binds K d_Choosing_moved P_Choosing_moved []
  F_Choosing_undone : Fun K "undone" "Choosing.undone" s_Choosing_undone a_Choosing_undone d_Choosing_undone
  b_Choosing_undone : Binds K d_Choosing_undone P_Choosing_undone []
  F_Choosing_row_at : Fun K "row_at" "Choosing.row_at" s_Choosing_row_at a_Choosing_row_at d_Choosing_row_at
  b_Choosing_row_at : Binds K d_Choosing_row_at P_Choosing_row_at []
  F_Choosing_change : Fun K "change" "Choosing.change" s_Choosing_change a_Choosing_change d_Choosing_change
  b_Choosing_change : Binds K d_Choosing_change P_Choosing_change []
  F_Choosing_done : Fun K "done" "Choosing.done" s_Choosing_done a_Choosing_done d_Choosing_done
  b_Choosing_done : Binds K d_Choosing_done P_Choosing_done []
  F_law_fit : Fun K "_law_fit" "_law_fit" s_law_fit a_law_fit d_law_fit
  b_law_fit : Binds K d_law_fit P_law_fit []
  m_law_fit : mg "_law_fit" = some (.ref a_law_fit)
  F_law_choosing : Fun K "_law_choosing" "_law_choosing" s_law_choosing a_law_choosing d_law_choosing
  b_law_choosing : Binds K d_law_choosing P_law_choosing []
  m_law_choosing : mg "_law_choosing" = some (.ref a_law_choosing)
  F_law : Fun K "law" "law" s_law a_law d_law
  b_law : Binds K d_law P_law []
  m_RowError : mg "RowError" = some (.ref c_RowError)
  m_NoForm : mg "NoForm" = some (.ref c_NoForm)
  x_NoForm : PySem.W.excIn K c_NoForm [.type "ValueError", .type "Exception", .type "BaseException", .type "object"] "ValueError.__new__" = true
  k_NoForm : PySem.W.keepIn K (.ref c_NoForm) = true
  bE_NoForm : PySem.W.subIn K (.ref c_NoForm) (.type "BaseException") = some true
  tE_NoForm : PySem.W.typeIn K (.ref c_NoForm) = some (.type "type")
  m_NoPlace : mg "NoPlace" = some (.ref c_NoPlace)
  x_NoPlace : PySem.W.excIn K c_NoPlace [.type "ValueError", .type "Exception", .type "BaseException", .type "object"] "ValueError.__new__" = true
  k_NoPlace : PySem.W.keepIn K (.ref c_NoPlace) = true
  bE_NoPlace : PySem.W.subIn K (.ref c_NoPlace) (.type "BaseException") = some true
  tE_NoPlace : PySem.W.typeIn K (.ref c_NoPlace) = some (.type "type")
  m_NoRow : mg "NoRow" = some (.ref c_NoRow)
  x_NoRow : PySem.W.excIn K c_NoRow [.type "ValueError", .type "Exception", .type "BaseException", .type "object"] "ValueError.__new__" = true
  k_NoRow : PySem.W.keepIn K (.ref c_NoRow) = true
  bE_NoRow : PySem.W.subIn K (.ref c_NoRow) (.type "BaseException") = some true
  tE_NoRow : PySem.W.typeIn K (.ref c_NoRow) = some (.type "type")
  m_NoChange : mg "NoChange" = some (.ref c_NoChange)
  x_NoChange : PySem.W.excIn K c_NoChange [.type "ValueError", .type "Exception", .type "BaseException", .type "object"] "ValueError.__new__" = true
  k_NoChange : PySem.W.keepIn K (.ref c_NoChange) = true
  bE_NoChange : PySem.W.subIn K (.ref c_NoChange) (.type "BaseException") = some true
  tE_NoChange : PySem.W.typeIn K (.ref c_NoChange) = some (.type "type")
  m_Listing : mg "Listing" = some (.ref c_Listing)
  cr_Listing : ClX.CRead K c_Listing (.type "type")
  at_Listing___init__ : PySem.W.findCls K (.ref c_Listing) (.type "type") "__init__" = some (.val (.ref a_Listing___init__))
  m_Choosing : mg "Choosing" = some (.ref c_Choosing)
  m_Turning : mg "Turning" = some (.ref c_Turning)
  cl_Turning : Cls K c_Turning
  mk_Turning : Mk K c_Turning a_Turning___init__
  no_Turning_length : NoAttr K c_Turning "length"
  no_Turning_size : NoAttr K c_Turning "size"
  no_Turning_signs : NoAttr K c_Turning "signs"
  me_Turning_change : Meth K c_Turning "change" a_Turning_change
  me_Turning_done : Meth K c_Turning "done" a_Turning_done
  me_Turning_is_row : Meth K c_Turning "is_row" a_Turning_is_row
  me_Turning_leap : Meth K c_Turning "leap" a_Listing_leap
  me_Turning_many : Meth K c_Turning "many" a_Listing_many
  me_Turning_moved : Meth K c_Turning "moved" a_Turning_moved
  me_Turning_next_row : Meth K c_Turning "next_row" a_Listing_next_row
  me_Turning_place_of : Meth K c_Turning "place_of" a_Turning_place_of
  me_Turning_row_at : Meth K c_Turning "row_at" a_Turning_row_at
  me_Turning_row_before : Meth K c_Turning "row_before" a_Listing_row_before
  me_Turning_steps_to : Meth K c_Turning "steps_to" a_Listing_steps_to
  me_Turning_undone : Meth K c_Turning "undone" a_Turning_undone
  cl_Choosing : Cls K c_Choosing
  mk_Choosing : Mk K c_Choosing a_Choosing___init__
  no_Choosing_length : NoAttr K c_Choosing "length"
  no_Choosing_size : NoAttr K c_Choosing "size"
  no_Choosing_ones : NoAttr K c_Choosing "ones"
  me_Choosing_change : Meth K c_Choosing "change" a_Choosing_change
  me_Choosing_done : Meth K c_Choosing "done" a_Choosing_done
  me_Choosing_is_row : Meth K c_Choosing "is_row" a_Choosing_is_row
  me_Choosing_leap : Meth K c_Choosing "leap" a_Listing_leap
  me_Choosing_many : Meth K c_Choosing "many" a_Listing_many
  me_Choosing_moved : Meth K c_Choosing "moved" a_Choosing_moved
  me_Choosing_next_row : Meth K c_Choosing "next_row" a_Listing_next_row
  me_Choosing_place_of : Meth K c_Choosing "place_of" a_Choosing_place_of
  me_Choosing_row_at : Meth K c_Choosing "row_at" a_Choosing_row_at
  me_Choosing_row_before : Meth K c_Choosing "row_before" a_Listing_row_before
  me_Choosing_steps_to : Meth K c_Choosing "steps_to" a_Listing_steps_to
  me_Choosing_undone : Meth K c_Choosing "undone" a_Choosing_undone
  ca_Turning : PySem.W.findIn K (.ref c_Turning) "__class__" = some (some (.builtin "object.__class__"))
  mo_Turning : PySem.W.mroIn K c_Turning (.type "object") = some true
  ki_Turning : PySem.W.kitOne K (.ref c_Turning) (.ref c_Listing) = some true
  ca_Choosing : PySem.W.findIn K (.ref c_Choosing) "__class__" = some (some (.builtin "object.__class__"))
  mo_Choosing : PySem.W.mroIn K c_Choosing (.type "object") = some true
  ki_Choosing : PySem.W.kitOne K (.ref c_Choosing) (.ref c_Listing) = some true
  gd_class : PySem.W.specialIn K (.builtin "object.__class__") "__get__" = some (some (.builtin "getset_descriptor.__get__"))
  tk_class : PySem.W.takesIn K (.builtin "object.__class__") = some true
  er_NoForm : IsErr K c_RowError c_NoForm c_NoPlace c_NoRow c_NoChange c_NoForm 1
  er_NoPlace : IsErr K c_RowError c_NoForm c_NoPlace c_NoRow c_NoChange c_NoPlace 2
  er_NoRow : IsErr K c_RowError c_NoForm c_NoPlace c_NoRow c_NoChange c_NoRow 3
  er_NoChange : IsErr K c_RowError c_NoForm c_NoPlace c_NoRow c_NoChange c_NoChange 4

section
variable {P : Program} {w : World} {K : PySem.W.Frag} {mg : Str → Option Value} {base : Heap}
/-! #### Listing.__init__ -/
theorem sc_Listing___init__ : FnScope N_Listing___init__ P_Listing___init__ (defScope s_Listing___init__) := ⟨rfl, rfl, rfl, by decide +kernel, rfl, by decide +kernel, by decide +kernel⟩
def sp_Listing___init__ (_ : Txt K mg) : Sp := fun vs H Q _ => ∃ (x C dx : Addr) (n z : Int), vs = [.ref x, .int n, .int z] ∧ Cls K C ∧ NoAttr K C "length" ∧ NoAttr K C "size" ∧ H x = some (.ins C dx []) ∧ RetO C x dx (lF n z) H Q
theorem ok_Listing___init__ (T : Txt K mg) : FnOk P w K mg base CX0 1 T.a_Listing___init__ T.d_Listing___init__ P_Listing___init__ (sp_Listing___init__ T) := by
  refine (T.F_Listing___init__).ok sc_Listing___init__ (fun vs H Q E h => ?len) (fun cdv A outer s H vs Q E hr h => ⟨_, (pss_cons (ps_fld (pv 0) (pv 1) rfl)
    (pss_one (ps_fld (pv 0) (pv 2) rfl))), ?read⟩)
  case len =>
    obtain ⟨x, C, dx, n, z, rfl, _⟩ := h
    rfl
  case read =>
    obtain ⟨x, C, dx, n, z, rfl, hc, h1, h2, hx, q⟩ := h
    refine ⟨_, rfl, _, rfl, x, C, dx, [], rfl, hx, hc, h1, (by show 0 < 1000; decide), ?_⟩
    refine ⟨_, rfl, _, rfl, x, C, dx, _, rfl, upd_same, hc, h2, (Nat.lt_of_le_of_lt (len_putF _ _ _) (by show 1 < 1000; decide)), ?_⟩
    refine q _ (fun b o e hb => ?_) upd_same
    rw [upd_ne hb, upd_ne hb]
    exact e
/-! #### power -/
theorem sc_power : FnScope N_power P_power (defScope s_power) := ⟨rfl, rfl, rfl, by decide +kernel, rfl, by decide +kernel, by decide +kernel⟩
def sp_power (_ : Txt K mg) : Sp := fun vs H Q _ => ∃ (s : Int) (n : Nat), vs = [.int s, .int n] ∧ 0 ≤ s ∧ s ≤ 1000000000000 ∧ n ≤ 200 ∧ RetV (.int (s ^ n)) H Q
theorem ev_power {T : Txt K mg} {σ : L2.St} {H : Hp} {tg : TA} {E : XK} (s : Int) (n : Nat) (h0 : 0 ≤ s) (h1 : s ≤ 1000000000000) (hn : n ≤ 200) (ha : EvA tg σ H [.int s, .int n]) : Ev (tCall (sp_power T) [] E tg) σ H (.int (s ^ n)) :=
  ev_callF ha fun _ _ _ q => ⟨s, n, rfl, h0, h1, hn, q⟩
theorem ok_power (T : Txt K mg) : FnOk P w K mg base CX0 1 T.a_power T.d_power P_power (sp_power T) := by
  refine (T.F_power).ok sc_power (fun vs H Q E h => ?len) (fun cdv A outer s H vs Q E hr h => ⟨_, (pss_cons (ps_set (i := 2) sc_power.nd rfl (Or.inl rfl) pe_int)
    (pss_cons (ps_for PassesOwn.never rfl (pi_range1 rfl T.g_range (pa_cons (pv 1) pa_nil)) (pg_name (i := 3) sc_power.nd rfl (Or.inl rfl)) (pss_one (ps_set (i := 2) sc_power.nd rfl (Or.inl rfl) (pe_op op_mul (pv 2) (pv 0)))))
    (pss_one (ps_ret (pv 2))))), ?read⟩)
  case len =>
    obtain ⟨s, n, rfl, _⟩ := h
    rfl
  case read =>
    obtain ⟨s, n, rfl, h0, h1, hn, q⟩ := h
    show tSeq _ _ _ [some (.int s), some (.int n), none, none] H
    refine b_asg (Ex.refl H) (by walk_at "ev") fun H1 e => ?_
    refine b_forR1 (n := (n : Int)) e (by walk_at "ev") (by omega) (by omega) (fun i σ' H' => ∃ v, σ' = [some (.int s), some (.int n), some (.int (s ^ i)), v] ∧ Ex H H') (fun H3 e3 => ⟨none, by rw [Int.pow_zero]; rfl, e3⟩) ?_ ?_
    · rintro i σ' H' hi ⟨v, rfl, e3⟩
      refine l_asg e3 (v := .int (s ^ (i + 1))) ?_ fun H4 e4 => ⟨_, rfl, e4⟩
      rw [Int.pow_succ]
      show Ev _ [some (.int s), some (.int n), some (.int (s ^ i)), some (.int (i : Int))] H _
      walk_at "ev"
    · rintro σ' H' ⟨v, rfl, e3⟩
      exact b_ret e3 (ev_var rfl) q
/-! #### Turning.__init__ -/
theorem sc_Turning___init__ : FnScope N_Turning___init__ P_Turning___init__ (defScope s_Turning___init__) := ⟨rfl, rfl, rfl, by decide +kernel, rfl, by decide +kernel, by decide +kernel⟩
/-- the bounds of a turning list's form -/
def TForm (s n : Int) : Prop := 2 ≤ s ∧ s ≤ 1000000000000 ∧ 0 ≤ n ∧ n ≤ 200
/-- a turning list stands at o -/
def IsT (T : Txt K mg) (H : Hp) (o : Addr) (s : Int) (n : Nat) : Prop := ∃ dx, H o = some (.ins T.c_Turning dx (tF s n (s ^ n)))
theorem IsT.mono {T : Txt K mg} {H H' : Hp} {o : Addr} {s : Int} {n : Nat} (h : IsT T H o s n) (e : Ex H H') : IsT T H' o s n := let ⟨dx, h⟩ := h; ⟨dx, e _ _ h⟩
def sp_Turning___init__ (T : Txt K mg) : Sp := fun vs H Q E => ∃ (x dx : Addr) (s n : Int), vs = [.ref x, .int s, .int n] ∧ H x = some (.ins T.c_Turning dx []) ∧
  (TForm s n → RetO T.c_Turning x dx (tF s n (s ^ n.toNat)) H Q) ∧ (¬ TForm s n → RetX T.c_NoForm H E)
theorem eo_Turning {T : Txt K mg} {σ : L2.St} {H : Hp} {tg : TA} {E : XK} {s : Int} {n : Nat} (h : TForm s n) (ha : EvA tg σ H [.int s, .int n]) : EvO (tMake T.c_Turning (sp_Turning___init__ T) [] E tg) σ H T.c_Turning (tF s n (s ^ n)) :=
  eo_make ha fun H1 e x dx hx Q q => ⟨x, dx, s, n, rfl, hx, fun _ => q, fun z => absurd h z⟩
theorem ok_Turning___init__ (T : Txt K mg) : FnOk P w K mg base (L2N.CX P w) 2 T.a_Turning___init__ T.d_Turning___init__ P_Turning___init__ (sp_Turning___init__ T) := by
  have G_Listing___init__ := ok_Listing___init__ (P := P) (w := w) (base := base) T
  have G_power := ok_power (P := P) (w := w) (base := base) T
  refine fun_okN T.F_Turning___init__ sc_Turning___init__ (fun vs H Q E h => ?len) (fun cdv A outer s H vs Q E hr h => ⟨_, (pss_cons (ps_if (PW.pt (pw_or (pt_not (pt_chain op_le op_le pe_int (pv 1) (pe_glob (v := .int 1000000000000) rfl T.m_MOST_SIGNS ⟨_, rfl⟩))) (pw_or1 (pt_not (pt_chain op_le op_le pe_int (pv 2) (pe_glob (v := .int 200) rfl T.m_MOST_SPOTS_turning ⟨_, rfl⟩)))))) (pss_one (L2N.ps_raise rfl (L2N.takes_of rfl rfl rfl rfl) (L2N.pmk_own PySem.F.excBase_ValueError T.x_NoForm T.m_NoForm T.k_NoForm (raises_own T.bE_NoForm T.tE_NoForm) rfl))) pss_nil)
    (pss_cons (ps_expr (pe_clsfn T.cr_Listing T.at_Listing___init__ T.F_Listing___init__.kp G_Listing___init__ (hr.mono (by decide)) (by rfl) T.m_Listing T.b_Listing___init__ .nil pass0 (pa_cons (pv 0) (pa_cons (pv 2) (pa_cons (pe_call G_power (hr.mono (by decide)) (by rfl) T.m_power T.F_power.kp T.b_power .nil pass0 (pa_cons (pv 1) (pa_cons (pv 2) pa_nil))) pa_nil)))))
    (pss_one (ps_fld (pv 0) (pv 1) rfl)))), ?read⟩)
  case len =>
    obtain ⟨x, dx, s, n, rfl, _⟩ := h
    rfl
  case read =>
    obtain ⟨x, dx, s, n, rfl, hx, q, qe⟩ := h
    show tSeq _ _ _ [some (.ref x), some (.int s), some (.int n)] H
    refine b_when (Ex.refl H) (by walk_at "ev") (fun hb H1 e1 => ?_) (fun hb H1 e1 => ?_)
    · refine qe ?_ H1 e1
      intro f
      unfold TForm at f
      simp at hb
      omega
    · have f : TForm s n := by
        unfold TForm
        simp at hb
        omega
      obtain ⟨m, rfl⟩ : ∃ m : Nat, n = m := ⟨n.toNat, by have := f.2.2.1; omega⟩
      have hp := ev_power (T := T) (σ := [some (.ref x), some (.int s), some (.int m)]) (H := H) (tg := tCons (tVar 1) (tCons (tVar 2) tNil)) (E := E0) s m (by have := f.1; omega) f.2.1 (by have := f.2.2.2; omega) (by walk_at "ev")
      have ha : EvA (tCons (tVar 0) (tCons (tVar 2) (tCons (tCall (sp_power T) [] E0 (tCons (tVar 1) (tCons (tVar 2) tNil))) tNil))) [some (.ref x), some (.int s), some (.int m)] H [.ref x, .int m, .int (s ^ m)] :=
        ea_cons (ev_var rfl) (ea_cons (ev_var rfl) (ea_cons hp ea_nil))
      refine b_dropCall e1 ha fun H2 e2 => ?_
      refine ⟨x, T.c_Turning, dx, m, s ^ m, rfl, T.cl_Turning, T.no_Turning_length, T.no_Turning_size, e2 _ _ hx, fun H3 k3 h3 => ?_⟩
      refine ⟨_, rfl, _, rfl, x, T.c_Turning, dx, _, rfl, h3, T.cl_Turning, T.no_Turning_signs, (Nat.lt_of_le_of_lt (lF_len _ _) (by decide)), ?_⟩
      refine q f _ (fun b o eb hb => ?_) upd_same
      rw [upd_ne hb]
      exact k3 b o (e2 _ _ eb) hb
/-! #### choose -/
theorem sc_choose : FnScope N_choose P_choose (defScope s_choose) := ⟨rfl, rfl, rfl, by decide +kernel, rfl, by decide +kernel, by decide +kernel⟩
/-- how many rows: n over k -/
def sp_choose (_ : Txt K mg) : Sp := fun vs H Q _ => ∃ (n k : Nat), vs = [.int n, .int k] ∧ n ≤ 200 ∧ k ≤ 200 ∧ RetV (.int (bin n k)) H Q
theorem ev_choose {T : Txt K mg} {σ : L2.St} {H : Hp} {tg : TA} {E : XK} (n k : Nat) (hn : n ≤ 200) (hk : k ≤ 200) (ha : EvA tg σ H [.int n, .int k]) : Ev (tCall (sp_choose T) [] E tg) σ H (.int (bin n k)) :=
  ev_callF ha fun _ _ _ q => ⟨n, k, rfl, hn, hk, q⟩
theorem ok_choose (T : Txt K mg) : FnOk P w K mg base CX0 1 T.a_choose T.d_choose P_choose (sp_choose T) := by
  refine (T.F_choose).ok sc_choose (fun vs H Q E h => ?len) (fun cdv A outer s H vs Q E hr h => ⟨_, (pss_cons (ps_if (pt_cmpR op_gt (pv 1) (pv 0) (nomark _)) (pss_one (ps_ret pe_int)) pss_nil)
    (pss_cons (ps_set (i := 2) sc_choose.nd rfl (Or.inl rfl) pe_int)
    (pss_cons (ps_for PassesOwn.never rfl (pi_range1 rfl T.g_range (pa_cons (pe_callB (call_min2 rfl) (by rfl) T.g_min boot_min (pa_cons (pv 1) (pa_cons (pe_op op_sub (pv 0) (pv 1)) pa_nil))) pa_nil)) (pg_name (i := 3) sc_choose.nd rfl (Or.inl rfl)) (pss_one (ps_set (i := 2) sc_choose.nd rfl (Or.inl rfl) (pe_op op_fdivW (pe_op op_mul (pv 2) (pe_op op_sub (pv 0) (pv 3))) (pe_op op_add (pv 3) pe_int)))))
    (pss_one (ps_ret (pv 2)))))), ?read⟩)
  case len =>
    obtain ⟨n, k, rfl, _⟩ := h
    rfl
  case read =>
    obtain ⟨n, k, rfl, hn, hk, q⟩ := h
    show tSeq _ _ _ [some (.int n), some (.int k), none, none] H
    refine b_when (Ex.refl H) (by walk_at "ev") (fun hb H1 e1 => ?_) (fun hb H1 e1 => ?_)
    · have h1 : (n : Int) < k := by simpa using hb
      refine s_ret (v := .int 0) ev_c fun H2 e2 => ?_
      have e : (0 : Int) = (bin n k : Int) := by rw [bin_over n k (by omega)]; rfl
      rw [e]
      exact q H2 (e1.trans e2)
    · have h1 : ¬ (n : Int) < k := by simpa using hb
      refine b_asg e1 ev_c fun H2 e2 => ?_
      obtain ⟨j, hj⟩ : ∃ j : Nat, (if (n : Int) - k < k then (n : Int) - k else k) = (j : Int) ∧ j ≤ n ∧ bin n j = bin n k := by
        split
        · exact ⟨n - k, by omega, by omega, bin_symm n k (by omega)⟩
        · exact ⟨k, rfl, by omega, rfl⟩
      refine b_forR1 (n := (j : Int)) e2 (ea_cons ?_ ea_nil) (by omega) (by omega) (fun i σ' H' => ∃ v, σ' = [some (.int n), some (.int k), some (.int (bin n i)), v] ∧ Ex H H') (fun H3 e3 => ⟨none, by rw [bin_zero]; rfl, e3⟩) ?_ ?_
      · rw [← hj.1]
        exact ev_cbv (vs := [.int k, .int ((n : Int) - k)]) (by walk_at "ev") fun H1 _ Q q => ⟨_, _, rfl, q⟩
      · rintro i σ' H' hi ⟨v, rfl, e3⟩
        refine l_asg e3 (v := .int (bin n (i + 1))) ?_ fun H4 e4 => ⟨_, rfl, e4⟩
        rw [← bin_up_div n i]
        show Ev _ [some (.int n), some (.int k), some (.int (bin n i)), some (.int (i : Int))] H _
        walk_at "ev"
      · rintro σ' H' ⟨v, rfl, e3⟩
        refine b_ret e3 (ev_var rfl) fun H4 e4 => ?_
        rw [show ((j : Int)).toNat = j from rfl, hj.2.2]
        exact q H4 e4
/-! #### Choosing.__init__ -/
theorem sc_Choosing___init__ : FnScope N_Choosing___init__ P_Choosing___init__ (defScope s_Choosing___init__) := ⟨rfl, rfl, rfl, by decide +kernel, rfl, by decide +kernel, by decide +kernel⟩
/-- the bounds of a choosing list's form -/
def CForm (n k : Int) : Prop := 0 ≤ n ∧ n ≤ 200 ∧ 0 ≤ k ∧ k ≤ n
/-- a choosing list stands at o -/
def IsC (T : Txt K mg) (H : Hp) (o : Addr) (n k : Nat) : Prop := ∃ dx, H o = some (.ins T.c_Choosing dx (cF n k (bin n k)))
theorem IsC.mono {T : Txt K mg} {H H' : Hp} {o : Addr} {n k : Nat} (h : IsC T H o n k) (e : Ex H H') : IsC T H' o n k := let ⟨dx, h⟩ := h; ⟨dx, e _ _ h⟩
def sp_Choosing___init__ (T : Txt K mg) : Sp := fun vs H Q E => ∃ (x dx : Addr) (n k : Int), vs = [.ref x, .int n, .int k] ∧ H x = some (.ins T.c_Choosing dx []) ∧
  (CForm n k → RetO T.c_Choosing x dx (cF n k (bin n.toNat k.toNat)) H Q) ∧ (¬ CForm n k → RetX T.c_NoForm H E)
theorem eo_Choosing {T : Txt K mg} {σ : L2.St} {H : Hp} {tg : TA} {E : XK} {n k : Nat} (h : CForm n k) (ha : EvA tg σ H [.int n, .int k]) : EvO (tMake T.c_Choosing (sp_Choosing___init__ T) [] E tg) σ H T.c_Choosing (cF n k (bin n k)) :=
  eo_make ha fun H1 e x dx hx Q q => ⟨x, dx, n, k, rfl, hx, fun _ => q, fun z => absurd h z⟩
theorem c_pos {n k : Nat} (f : CForm n k) : 0 < (bin n k : Int) := by
  have := bin_pos n k (by have := f.2.2.2; omega)
  omega
theorem ok_Choosing___init__ (T : Txt K mg) : FnOk P w K mg base (L2N.CX P w) 2 T.a_Choosing___init__ T.d_Choosing___init__ P_Choosing___init__ (sp_Choosing___init__ T) := by
  have G_Listing___init__ := ok_Listing___init__ (P := P) (w := w) (base := base) T
  have G_choose := ok_choose (P := P) (w := w) (base := base) T
  refine fun_okN T.F_Choosing___init__ sc_Choosing___init__ (fun vs H Q E h => ?len) (fun cdv A outer s H vs Q E hr h => ⟨_, (pss_cons (ps_if (PW.pt (pw_or (pt_not (pt_chain op_le op_le pe_int (pv 1) (pe_glob (v := .int 200) rfl T.m_MOST_SPOTS_choosing ⟨_, rfl⟩))) (pw_or1 (pt_not (pt_chain op_le op_le pe_int (pv 2) (pv 1)))))) (pss_one (L2N.ps_raise rfl (L2N.takes_of rfl rfl rfl rfl) (L2N.pmk_own PySem.F.excBase_ValueError T.x_NoForm T.m_NoForm T.k_NoForm (raises_own T.bE_NoForm T.tE_NoForm) rfl))) pss_nil)
    (pss_cons (ps_expr (pe_clsfn T.cr_Listing T.at_Listing___init__ T.F_Listing___init__.kp G_Listing___init__ (hr.mono (by decide)) (by rfl) T.m_Listing T.b_Listing___init__ .nil pass0 (pa_cons (pv 0) (pa_cons (pv 1) (pa_cons (pe_call G_choose (hr.mono (by decide)) (by rfl) T.m_choose T.F_choose.kp T.b_choose .nil pass0 (pa_cons (pv 1) (pa_cons (pv 2) pa_nil))) pa_nil)))))
    (pss_one (ps_fld (pv 0) (pv 2) rfl)))), ?read⟩)
  case len =>
    obtain ⟨x, dx, n, k, rfl, _⟩ := h
    rfl
  case read =>
    obtain ⟨x, dx, n, k, rfl, hx, q, qe⟩ := h
    show tSeq _ _ _ [some (.ref x), some (.int n), some (.int k)] H
    refine b_when (Ex.refl H) (by walk_at "ev") (fun hb H1 e1 => ?_) (fun hb H1 e1 => ?_)
    · refine qe ?_ H1 e1
      intro f
      unfold CForm at f
      simp at hb
      omega
    · have f : CForm n k := by
        unfold CForm
        simp at hb
        omega
      obtain ⟨m, rfl⟩ : ∃ m : Nat, n = m := ⟨n.toNat, by have := f.1; omega⟩
      obtain ⟨j, rfl⟩ : ∃ j : Nat, k = j := ⟨k.toNat, by have := f.2.2.1; omega⟩
      obtain ⟨f1, f2, f3, f4⟩ := id f
      have hp := ev_choose (T := T) (σ := [some (.ref x), some (.int m), some (.int j)]) (H := H) (tg := tCons (tVar 1) (tCons (tVar 2) tNil)) (E := E0) m j (by omega) (by omega) (by walk_at "ev")
      have ha : EvA (tCons (tVar 0) (tCons (tVar 1) (tCons (tCall (sp_choose T) [] E0 (tCons (tVar 1) (tCons (tVar 2) tNil))) tNil))) [some (.ref x), some (.int m), some (.int j)] H [.ref x, .int m, .int (bin m j)] :=
        ea_cons (ev_var rfl) (ea_cons (ev_var rfl) (ea_cons hp ea_nil))
      refine b_dropCall e1 ha fun H2 e2 => ?_
      refine ⟨x, T.c_Choosing, dx, m, bin m j, rfl, T.cl_Choosing, T.no_Choosing_length, T.no_Choosing_size, e2 _ _ hx, fun H3 k3 h3 => ?_⟩
      refine ⟨_, rfl, _, rfl, x, T.c_Choosing, dx, _, rfl, h3, T.cl_Choosing, T.no_Choosing_ones, (Nat.lt_of_le_of_lt (lF_len _ _) (by decide)), ?_⟩
      refine q f _ (fun b o eb hb => ?_) upd_same
      rw [upd_ne hb]
      exact k3 b o (e2 _ _ eb) hb
/-! #### _law_length -/
theorem sc_law_length : FnScope N_law_length P_law_length (defScope s_law_length) := ⟨rfl, rfl, rfl, by decide +kernel, rfl, by decide +kernel, by decide +kernel⟩
def sp_law_length (_ : Txt K mg) : Sp := fun vs H Q _ => ∃ (c : Int), vs = [.int c] ∧ RetS (fun v => ∃ n : Nat, v = .int n ∧ n ≤ 200) H Q
theorem es_length {T : Txt K mg} {σ : L2.St} {H : Hp} {tg : TA} {E : XK} {c : Int} (ha : EvA tg σ H [.int c]) : EvS (tCall (sp_law_length T) [] E tg) σ H (fun v => ∃ n : Nat, v = .int n ∧ n ≤ 200) :=
  es_callF ha fun _ _ _ q => ⟨c, rfl, q⟩
theorem ok_law_length (T : Txt K mg) : FnOk P w K mg base CX0 1 T.a_law_length T.d_law_length P_law_length (sp_law_length T) := by
  refine (T.F_law_length).ok sc_law_length (fun vs H Q E h => ?len) (fun cdv A outer s H vs Q E hr h => ⟨_, (pss_cons (ps_if (pt_cmpR op_eq (pe_op op_mod (pv 0) pe_int) pe_int (nomark _)) (pss_one (ps_ret (pe_op op_mod (pe_op op_fdivW (pv 0) pe_int) pe_int))) pss_nil)
    (pss_one (ps_ret (pe_op op_mod (pe_op op_fdivW (pv 0) pe_int) pe_int)))), ?read⟩)
  case len =>
    obtain ⟨c, rfl, _⟩ := h
    rfl
  case read =>
    obtain ⟨c, rfl, q⟩ := h
    show tSeq _ _ _ [some (.int c)] H
    have done : ∀ z : Int, 0 ≤ z → z ≤ 200 → ∀ H2, Ex H H2 → Q (.int z) H2 := fun z h0 h1 H2 e => q (.int z) ⟨z.toNat, by rw [Int.toNat_of_nonneg h0], by omega⟩ H2 e
    refine b_when (Ex.refl H) (by walk_at "ev") (fun hb H1 e1 => ?_) (fun hb H1 e1 => ?_)
    · exact b_ret e1 (v := .int (c / 3 % 201)) (by walk_at "ev") (done _ (by omega) (by omega))
    · exact b_ret e1 (v := .int (c / 3 % 13)) (by walk_at "ev") (done _ (by omega) (by omega))
/-! #### _law_signs -/
theorem sc_law_signs : FnScope N_law_signs P_law_signs (defScope s_law_signs) := ⟨rfl, rfl, rfl, by decide +kernel, rfl, by decide +kernel, by decide +kernel⟩
def sp_law_signs (_ : Txt K mg) : Sp := fun vs H Q _ => ∃ (c : Int), vs = [.int c] ∧ RetS (fun v => ∃ s : Int, v = .int s ∧ 2 ≤ s ∧ s ≤ 1000000000000) H Q
theorem es_signs {T : Txt K mg} {σ : L2.St} {H : Hp} {tg : TA} {E : XK} {c : Int} (ha : EvA tg σ H [.int c]) : EvS (tCall (sp_law_signs T) [] E tg) σ H (fun v => ∃ s : Int, v = .int s ∧ 2 ≤ s ∧ s ≤ 1000000000000) :=
  es_callF ha fun _ _ _ q => ⟨c, rfl, q⟩
theorem ok_law_signs (T : Txt K mg) : FnOk P w K mg base CX0 1 T.a_law_signs T.d_law_signs P_law_signs (sp_law_signs T) := by
  refine (T.F_law_signs).ok sc_law_signs (fun vs H Q E h => ?len) (fun cdv A outer s H vs Q E hr h => ⟨_, (pss_cons (ps_if (pt_cmpR op_eq (pe_op op_mod (pv 0) pe_int) pe_int (nomark _)) (pss_one (ps_ret pe_int)) pss_nil)
    (pss_cons (ps_if (pt_cmpR op_eq (pe_op op_mod (pv 0) pe_int) pe_int (nomark _)) (pss_one (ps_ret (pe_op op_add pe_int (pe_op op_mod (pe_op op_fdivW (pv 0) pe_int) pe_int)))) pss_nil)
    (pss_cons (ps_if (pt_cmpR op_eq (pe_op op_mod (pv 0) pe_int) pe_int (nomark _)) (pss_one (ps_ret (pe_op op_sub (pe_op op_pow pe_int pe_int) (pe_op op_mod (pe_op op_fdivW (pv 0) pe_int) pe_int)))) pss_nil)
    (pss_one (ps_ret (pe_op op_add pe_int (pe_op op_mod (pe_op op_mul (pe_op op_fdivW (pv 0) pe_int) pe_int) (pe_op op_sub (pe_op op_pow pe_int pe_int) pe_int)))))))), ?read⟩)
  case len =>
    obtain ⟨c, rfl, _⟩ := h
    rfl
  case read =>
    obtain ⟨c, rfl, q⟩ := h
    show tSeq _ _ _ [some (.int c)] H
    have done : ∀ z : Int, 2 ≤ z → z ≤ 1000000000000 → ∀ H2, Ex H H2 → Q (.int z) H2 := fun z h0 h1 H2 e => q (.int z) ⟨z, rfl, h0, h1⟩ H2 e
    refine b_when (Ex.refl H) (by walk_at "ev") (fun hb H1 e1 => b_ret e1 (by walk_at "ev") (done _ (by omega) (by omega))) (fun hb H1 e1 => ?_)
    refine b_when e1 (by walk_at "ev") (fun hb H1 e1 => b_ret e1 (v := .int (3 + c / 4 % 9)) (by walk_at "ev") (done _ (by omega) (by omega))) (fun hb H1 e1 => ?_)
    refine b_when e1 (by walk_at "ev") (fun hb H1 e1 => b_ret e1 (v := .int (1000000000000 - c / 4 % 3)) (by walk_at "ev") (done _ (by omega) (by omega))) (fun hb H1 e1 => ?_)
    exact b_ret e1 (v := .int (2 + c / 4 * 982451653 % (1000000000000 - 1))) (by walk_at "ev") (done _ (by omega) (by omega))
/-! #### _law_cell_at -/
theorem sc_law_cell_at : FnScope N_law_cell_at P_law_cell_at (defScope s_law_cell_at) := ⟨rfl, rfl, rfl, by decide +kernel, rfl, by decide +kernel, by decide +kernel⟩
def sp_law_cell_at (_ : Txt K mg) : Sp := fun vs H Q _ => ∃ (a : Addr) (ns : List Int) (k : Int), vs = [.ref a, .int k] ∧ 0 ≤ k ∧ SqL K H a (ns.map V.int) ∧ RetV (.int (cell ns k)) H Q
theorem ev_cell {T : Txt K mg} {σ : L2.St} {H : Hp} {tg : TA} {E : XK} {a : Addr} {ns : List Int} {k : Int} (ha : EvA tg σ H [.ref a, .int k]) (hs : SqL K H a (ns.map V.int)) (h0 : 0 ≤ k) : Ev (tCall (sp_law_cell_at T) [] E tg) σ H (.int (cell ns k)) :=
  ev_callF ha fun _ e _ q => ⟨a, ns, k, rfl, h0, ex_l e hs, q⟩
local macro_rules | `(tactic| walk_at "ev") => `(tactic| ((with_reducible apply ev_cell); walk_at "ev"; assumption; omega))
theorem ok_law_cell_at (T : Txt K mg) : FnOk P w K mg base CX0 1 T.a_law_cell_at T.d_law_cell_at P_law_cell_at (sp_law_cell_at T) := by
  refine (T.F_law_cell_at).ok sc_law_cell_at (fun vs H Q E h => ?len) (fun cdv A outer s H vs Q E hr h => ⟨_, (pss_cons (ps_if (pt_cmpR op_lt (pv 1) (pe_callB call_len_seq (by rfl) T.g_len boot_len (pa_cons (pv 0) pa_nil)) (nomark _)) (pss_one (ps_ret (pe_ix ix_list (pv 0) (pv 1) (fun _ _ => rfl)))) pss_nil)
    (pss_one (ps_ret pe_int))), ?read⟩)
  case len =>
    obtain ⟨a, ns, k, rfl, _⟩ := h
    rfl
  case read =>
    obtain ⟨a, ns, k, rfl, h0, hs, q⟩ := h
    show tSeq _ _ _ [some (.ref a), some (.int k)] H
    obtain ⟨k, rfl⟩ : ∃ n : Nat, k = n := ⟨k.toNat, by omega⟩
    refine b_when (Ex.refl H) (et_test (ev_op (ev_var rfl) (ev_len (ev_var rfl) hs) rv_I0)) (fun hb H1 e1 => ?_) (fun hb H1 e1 => ?_)
    · have h1 : k < ns.length := by simpa using hb
      have e : cell ns k = ns[k] := by simp [cell, h1]
      refine b_ret e1 (v := .int (cell ns k)) ?_ q
      refine ev_op (ev_var rfl) (ev_var rfl) (rv_ixL hs (atI_nat ?_))
      rw [e]
      simp [h1]
    · have h1 : ns.length ≤ k := by simpa using hb
      have e : cell ns k = 0 := by simp [cell, h1]
      rw [e] at q
      exact b_ret e1 ev_c q
/-! #### _law_which -/
theorem sc_law_which : FnScope N_law_which P_law_which (defScope s_law_which) := ⟨rfl, rfl, rfl, by decide +kernel, rfl, by decide +kernel, by decide +kernel⟩
theorem ev_isE {D a : Addr} {c : V} {cv : Value} {b : Bool} {tg : TA} {σ : L2.St} {H : Hp} (ha : EvA tg σ H [.ref a, c]) (hc : ∀ u, RelV c u → u = cv) (k : PySem.W.kitOne K (.ref D) cv = some b) : Ev (tCB (rIsE K D a) tg) σ H (.bl b) := fun H1 e Q q =>
  ha H1 e _ fun H2 e2 => ⟨c, cv, b, rfl, hc, k, q H2 e2⟩
theorem el_catV {σ : L2.St} {H : Hp} {ta tb : TE} {l : Addr} {vs ws : List V} (h : Ev ta σ H (.ref l)) (hl : H l = some (.lst vs)) (hb : EvL tb σ H ws) (hz : vs.length + ws.length ≤ 100000) : EvL (tOp rCat ta tb) σ H (vs ++ ws) := fun H1 e Q q =>
  h H1 e _ fun H2 e2 => hb H2 (e.trans e2) _ fun p2 H3 hp2 e3 hw => ⟨l, p2, vs, ws, rfl, rfl, e3 _ _ (e2 _ _ (e _ _ hl)), hw, sz_of (by omega), fun p' hp' => q p' _ (fresh_back (e2.trans e3) hp') ((e2.trans e3).trans (Ex.new hp')) upd_same⟩
/-- what _law_which tells of an error of class D: the i-th of the four -/
def sp_law_which (T : Txt K mg) : Addr → Hp → VK → Prop := fun D H Q => ∃ i : Nat, 1 ≤ i ∧ i ≤ 4 ∧ IsErr K T.c_RowError T.c_NoForm T.c_NoPlace T.c_NoRow T.c_NoChange D i ∧ RetL [.int 0, .int i] H Q
theorem ok_law_which (T : Txt K mg) : FnE P w K mg base 1 T.a_law_which T.d_law_which P_law_which (sp_law_which T) := by
  refine fun_okE T.F_law_which sc_law_which rfl fun cdv A outer s H Q p D hot hr hz h => ?_
  obtain ⟨a, oe⟩ := p
  obtain ⟨i, i1, i4, ⟨hE, hC, k0, k1, k2, k3, k4⟩, q⟩ := h
  obtain ⟨hh, vs, hv, _⟩ := id hot
  have hf : ∃ vs, oe.data = .fields vs := ⟨vs, hv⟩
  have hp : (a, oe) ∈ [(a, oe)] := List.mem_cons_self ..
  refine ⟨_, (pss_cons (ps_set (i := 1) sc_law_which.nd rfl (Or.inr rfl) (pe_lst (pa_cons (pe_callB (call_isH hC hz hf hp) (by rfl) T.g_isinstance boot_isinstance (pa_cons (pv 0) (pa_cons (pe_bltn (v := .ty "ValueError") rfl T.g_ValueError boot_ValueError rfl) pa_nil))) (pa_cons (pe_callB (call_isH hC hz hf hp) (by rfl) T.g_isinstance boot_isinstance (pa_cons (pv 0) (pa_cons (pe_glob (v := .ref T.c_NoForm) rfl T.m_NoForm rfl) pa_nil))) (pa_cons (pe_callB (call_isH hC hz hf hp) (by rfl) T.g_isinstance boot_isinstance (pa_cons (pv 0) (pa_cons (pe_glob (v := .ref T.c_NoPlace) rfl T.m_NoPlace rfl) pa_nil))) pa_nil)))))
      (pss_cons (ps_set (i := 1) sc_law_which.nd rfl (Or.inr rfl) (pe_op op_cat (pv 1) (pe_lst (pa_cons (pe_callB (call_isH hC hz hf hp) (by rfl) T.g_isinstance boot_isinstance (pa_cons (pv 0) (pa_cons (pe_glob (v := .ref T.c_NoRow) rfl T.m_NoRow rfl) pa_nil))) (pa_cons (pe_callB (call_isH hC hz hf hp) (by rfl) T.g_isinstance boot_isinstance (pa_cons (pv 0) (pa_cons (pe_glob (v := .ref T.c_NoChange) rfl T.m_NoChange rfl) pa_nil))) pa_nil)))))
      (pss_one (ps_ret (pe_lcH (own := [("_law_k", 2)]) (g := (gName 2)) hot hp sc_law_which.nd (L2H.pi_range1H rfl T.g_range (pa_cons pe_int pa_nil)) (blkOk_by (N := N_law_which) (sc := defScope s_law_which) (by decide +kernel)) (fun _ _ _ _ _ => pg_name (i := 2) sc_law_which.nd rfl (Or.inl rfl)) (fun _ _ _ _ _ => (pts_one (pt_val (pe_ix (ix_listK (K := K)) (pv 1) (pv 2) (fun _ _ => rfl))))) (fun _ _ _ _ _ => (pv 2))))))), ?_⟩
  show tSeq _ _ _ [some (.ref a), none, none] H
  refine b_asgL (Ex.refl H) (xs := [.bl true, .bl (decide (i = 1)), .bl (decide (i = 2))]) (el_lst (ea_cons (ev_isE (c := .ty "ValueError") (cv := .type "ValueError") (by walk_at "ev") (fun u r => r) k0) (ea_cons (ev_isE (c := .ref T.c_NoForm) (cv := .ref T.c_NoForm) (by walk_at "ev") (fun u r => r) k1) (ea_cons (ev_isE (c := .ref T.c_NoPlace) (cv := .ref T.c_NoPlace) (by walk_at "ev") (fun u r => r) k2) ea_nil))) (by simp)) fun l H1 nl e hl => ?_
  show tSeq _ _ _ [some (.ref a), some (.ref l), none] H1
  have e3 : Ev (tCB (rIsE K D a) (tCons (tVar 0) (tCons (tC (.ref T.c_NoRow)) tNil))) [some (.ref a), some (.ref l), none] H1 (.bl (decide (i = 3))) := ev_isE (c := .ref T.c_NoRow) (cv := .ref T.c_NoRow) (by walk_at "ev") (fun u r => r) k3
  have e4 : Ev (tCB (rIsE K D a) (tCons (tVar 0) (tCons (tC (.ref T.c_NoChange)) tNil))) [some (.ref a), some (.ref l), none] H1 (.bl (decide (i = 4))) := ev_isE (c := .ref T.c_NoChange) (cv := .ref T.c_NoChange) (by walk_at "ev") (fun u r => r) k4
  have hcat := el_catV (ta := tVar 1) (ev_var rfl) hl (el_lst (ea_cons e3 (ea_cons e4 ea_nil)) (by simp)) (by simp)
  refine b_asgL (Ex.refl H1) hcat fun m H2 nm e2 hm => ?_
  have hg : given 5 (fun t => [true, decide (i = 1), decide (i = 2), decide (i = 3), decide (i = 4)].getD t false) (fun t => V.int (t : Int)) = [.int 0, .int i] := by
    have hi : i = 1 ∨ i = 2 ∨ i = 3 ∨ i = 4 := by omega
    rcases hi with rfl | rfl | rfl | rfl <;> rfl
  refine b_retL (Ex.refl H2) (xs := [.int 0, .int i]) ?_ fun p H3 hp e3 h3 => q p H3 (fresh_back (e.trans e2) hp) ((e.trans e2).trans e3) h3
  rw [← hg]
  refine el_lcR1 (n := 5) (fun t => [true, decide (i = 1), decide (i = 2), decide (i = 3), decide (i = 4)].getD t false) (fun t => V.int (t : Int)) (by walk_at "ev") ⟨by omega, by omega⟩ (fun _ => rfl) (fun t H4 e4 ht => ?_) (fun t H4 e4 ht _ => ev_var rfl)
  have hm4 := e4 _ _ hm
  refine et_B (ev_op (ev_var rfl) (ev_var rfl) (rv_ixL (sq_of hm4) (atI_nat ?_)))
  have ht5 : t = 0 ∨ t = 1 ∨ t = 2 ∨ t = 3 ∨ t = 4 := by omega
  rcases ht5 with rfl | rfl | rfl | rfl | rfl <;> rfl
/-! #### _law_formed -/
theorem sc_law_formed : FnScope N_law_formed P_law_formed (defScope s_law_formed) := ⟨rfl, rfl, rfl, by decide +kernel, rfl, by decide +kernel, by decide +kernel⟩
/-- forms out of the bounds are refused -/
def sp_law_formed (T : Txt K mg) : Sp := fun vs H Q _ => ∃ (t : Bool) (x y : Int), vs = [.bl t, .int x, .int y] ∧ (t = true → ¬ TForm x y) ∧ (t = false → ¬ CForm x y) ∧ RetL [.int 0, .int 1] H Q
theorem el_formed {T : Txt K mg} {σ : L2.St} {H : Hp} {tg : TA} {E : XK} {t : Bool} {x y : Int} (h1 : t = true → ¬ TForm x y) (h2 : t = false → ¬ CForm x y) (ha : EvA tg σ H [.bl t, .int x, .int y]) : EvL (tCall (sp_law_formed T) [] E tg) σ H [.int 0, .int 1] :=
  el_callF ha fun _ _ _ q => ⟨t, x, y, rfl, h1, h2, q⟩
theorem s_makeX {σ : L2.St} {H : Hp} {C : Addr} {sp : Sp} {Er : L2.St → XK} {tg : TA} {D : Ends} {vs : List V} (ha : EvA tg σ H vs) (hs : ∀ H2, Ex H H2 → ∀ x dx, H2 x = none → H2 dx = none → dx ≠ x → ∀ Q : VK, sp (.ref x :: vs) (upd (upd H2 dx (.own x)) x (.ins C dx [])) Q (Er σ)) : tDrop (tMakeS C sp Er tg) D σ H :=
  ha H (Ex.refl H) _ fun H2 e2 x dx nx ndx hne => hs H2 e2 x dx nx ndx hne _
theorem ok_law_formed (T : Txt K mg) : FnOk P w K mg base CX0 4 T.a_law_formed T.d_law_formed P_law_formed (sp_law_formed T) := by
  have G_Choosing___init__ := ok_Choosing___init__ (P := P) (w := w) (base := base) T
  have G_Turning___init__ := ok_Turning___init__ (P := P) (w := w) (base := base) T
  have G_law_which := ok_law_which (P := P) (w := w) (base := base) T
  refine (T.F_law_formed).ok sc_law_formed (fun vs H Q E h => ?len) (fun cdv A outer s H vs Q E hr h => ⟨_, (pss_cons (L2N.ps_try_as (i := 3) rfl rfl sc_law_formed.nd rfl rfl ⟨rfl, by decide, .inl T.m_RowError⟩ takes0N (fun W pn xe tk _ => (pss_one (ps_if (pt_val (pv 0)) (pss_one (ps_expr (pe_makeS T.mk_Turning G_Turning___init__ (hr.mono (by decide)) (by rfl) T.m_Turning T.b_Turning___init__ (fun σ => L2N.passAt tk σ) (pa_cons (pv 1) (pa_cons (pv 2) pa_nil))))) (pss_one (ps_expr (pe_makeS T.mk_Choosing G_Choosing___init__ (hr.mono (by decide)) (by rfl) T.m_Choosing T.b_Choosing___init__ (fun σ => L2N.passAt tk σ) (pa_cons (pv 1) (pa_cons (pv 2) pa_nil)))))))) (fun a oe cls dd pn hz hf => (pss_one (ps_ret (pe_which G_law_which hr hz hf (by rfl) T.m_law_which T.F_law_which.kp T.b_law_which (pv 3))))))
    (pss_one (ps_ret (pe_lst pa_nil)))), ?read⟩)
  case len =>
    obtain ⟨t, x, y, rfl, _⟩ := h
    rfl
  case read =>
    obtain ⟨t, x, y, rfl, h1, h2, q⟩ := h
    have e0 : ∀ (H1 : Hp) (x dx C : Addr), H1 x = none → H1 dx = none → dx ≠ x → Ex H1 (upd (upd H1 dx (.own x)) x (.ins C dx [])) := fun H1 x dx C nx ndx _ b o eb => by
      rw [upd_ne (ne_of_none eb nx), upd_ne (ne_of_none eb ndx)]
      exact eb
    have fin : ∀ H2, Ex H H2 → RetL [.int 0, .int 1] H2 Q := fun H2 e p H3 hp e3 h3 => q p H3 (fresh_back e hp) (e.trans e3) h3
    cases t with
    | true =>
      refine s_if (b := true) (et_B (ev_var rfl)) (fun _ H1 e1 => ?_) (fun hb => by cases hb)
      refine s_makeX (vs := [.int x, .int y]) (by walk_at "ev") fun H2 e2 o dx no ndx hne Q2 => ⟨o, dx, x, y, rfl, upd_same, fun z => absurd z (h1 rfl), fun _ H3 e3 => ⟨true, T.er_NoForm.row, fun _ a _ => ?_, fun z => by cases z⟩⟩
      exact ⟨T.c_NoForm, rfl, rfl, rfl, 1, by decide, by decide, T.er_NoForm, fin H3 (((e1.trans e2).trans (e0 H2 o dx _ no ndx hne)).trans e3)⟩
    | false =>
      refine s_if (b := false) (et_B (ev_var rfl)) (fun hb => by cases hb) (fun _ H1 e1 => ?_)
      refine s_makeX (vs := [.int x, .int y]) (by walk_at "ev") fun H2 e2 o dx no ndx hne Q2 => ⟨o, dx, x, y, rfl, upd_same, fun z => absurd z (h2 rfl), fun _ H3 e3 => ⟨true, T.er_NoForm.row, fun _ a _ => ?_, fun z => by cases z⟩⟩
      exact ⟨T.c_NoForm, rfl, rfl, rfl, 1, by decide, by decide, T.er_NoForm, fin H3 (((e1.trans e2).trans (e0 H2 o dx _ no ndx hne)).trans e3)⟩
/-! #### _law_forms -/
theorem sc_law_forms : FnScope N_law_forms P_law_forms (defScope s_law_forms) := ⟨rfl, rfl, rfl, by decide +kernel, rfl, by decide +kernel, by decide +kernel⟩
def sp_law_forms (T : Txt K mg) : Sp := fun vs H Q _ => ∃ (n s z : Int), vs = [.int n, .int s, .int z] ∧ (0 ≤ n ∧ n ≤ 200) ∧ (2 ≤ s ∧ s ≤ 1000000000000) ∧ 0 ≤ z ∧ RetV (.bl true) H Q
theorem ev_forms {T : Txt K mg} {σ : L2.St} {H : Hp} {tg : TA} {E : XK} {n s z : Int} (hn : 0 ≤ n ∧ n ≤ 200) (hs : 2 ≤ s ∧ s ≤ 1000000000000) (hz : 0 ≤ z) (ha : EvA tg σ H [.int n, .int s, .int z]) : Ev (tCall (sp_law_forms T) [] E tg) σ H (.bl true) :=
  ev_callF ha fun H1 e Q q => ⟨n, s, z, rfl, hn, hs, hz, q⟩
theorem ok_law_forms (T : Txt K mg) : FnOk P w K mg base CX0 5 T.a_law_forms T.d_law_forms P_law_forms (sp_law_forms T) := by
  have G_law_formed := ok_law_formed (P := P) (w := w) (base := base) T
  refine (T.F_law_forms).ok sc_law_forms (fun vs H Q E h => ?len) (fun cdv A outer s H vs Q E hr h => ⟨_, (pss_cons (ps_for PassesOwn.never rfl (pi_list (pe_lst (pa_cons pe_int (pa_cons (pe_un un_neg (pv 2)) (pa_cons (pe_op op_add (pe_op op_add (pe_op op_pow pe_int pe_int) pe_int) (pv 2)) pa_nil))))) (pg_name (i := 3) sc_law_forms.nd rfl (Or.inl rfl)) (pss_one (ps_if (pt_cmpR (op_neD hr.units) (pe_call G_law_formed (hr.mono (by decide)) (by rfl) T.m_law_formed T.F_law_formed.kp T.b_law_formed .nil pass0 (pa_cons pe_bl (pa_cons (pv 3) (pa_cons (pv 0) pa_nil)))) (pe_lst (pa_cons pe_int (pa_cons pe_int pa_nil))) (nomark _)) (pss_one (ps_ret pe_bl)) pss_nil)))
    (pss_cons (ps_for PassesOwn.never rfl (pi_list (pe_lst (pa_cons (pe_op op_sub (pe_un un_neg pe_int) (pv 2)) (pa_cons (pe_op op_add pe_int (pv 2)) pa_nil)))) (pg_name (i := 3) sc_law_forms.nd rfl (Or.inl rfl)) (pss_one (ps_if (pt_cmpR (op_neD hr.units) (pe_call G_law_formed (hr.mono (by decide)) (by rfl) T.m_law_formed T.F_law_formed.kp T.b_law_formed .nil pass0 (pa_cons pe_bl (pa_cons (pv 1) (pa_cons (pv 3) pa_nil)))) (pe_lst (pa_cons pe_int (pa_cons pe_int pa_nil))) (nomark _)) (pss_one (ps_ret pe_bl)) pss_nil)))
    (pss_cons (ps_for PassesOwn.never rfl (pi_list (pe_lst (pa_cons (pe_tup (pa_cons (pe_op op_sub (pe_un un_neg pe_int) (pv 2)) (pa_cons pe_int pa_nil))) (pa_cons (pe_tup (pa_cons (pe_op op_add pe_int (pv 2)) (pa_cons (pv 0) pa_nil))) (pa_cons (pe_tup (pa_cons (pv 0) (pa_cons (pe_op op_sub (pe_un un_neg pe_int) (pv 2)) pa_nil))) (pa_cons (pe_tup (pa_cons (pv 0) (pa_cons (pe_op op_add (pe_op op_add (pv 0) pe_int) (pv 2)) pa_nil))) pa_nil)))))) (pg_tup rfl (pgs_cons (pg_name (i := 4) sc_law_forms.nd rfl (Or.inl rfl)) (pgs_cons (pg_name (i := 5) sc_law_forms.nd rfl (Or.inl rfl)) pgs_nil))) (pss_one (ps_if (pt_cmpR (op_neD hr.units) (pe_call G_law_formed (hr.mono (by decide)) (by rfl) T.m_law_formed T.F_law_formed.kp T.b_law_formed .nil pass0 (pa_cons pe_bl (pa_cons (pv 4) (pa_cons (pv 5) pa_nil)))) (pe_lst (pa_cons pe_int (pa_cons pe_int pa_nil))) (nomark _)) (pss_one (ps_ret pe_bl)) pss_nil)))
    (pss_one (ps_ret pe_bl))))), ?read⟩)
  case len =>
    obtain ⟨n, s, z, rfl, _⟩ := h
    rfl
  case read =>
    obtain ⟨n, s, z, rfl, hn, hs, hz, q⟩ := h
    show tSeq _ _ _ [some (.int n), some (.int s), some (.int z), none, none, none] H
    refine b_forNLn (vs := ([1, -z, 1000000000000 + 1 + z] : List Int).map V.int) (Ex.refl H) (el_lst (ea_cons ev_c (ea_cons (by walk_at "ev") (ea_cons (by walk_at "ev") ea_nil))) (by simp)) (fun p i σ' H' => ∃ u, σ' = [some (.int n), some (.int s), some (.int z), u, none, none] ∧ Ex H H' ∧ H' p = some (.lst (([1, -z, 1000000000000 + 1 + z] : List Int).map V.int))) (fun p H' np e' h' => ⟨none, rfl, e', h'⟩) (fun p i σ' H' _ ⟨_, _, _, h'⟩ => sq_of h') ?_ ?_
    · rintro p i x σ' H' hi ⟨u, rfl, e', hp⟩
      obtain ⟨y, hi2, rfl, hy⟩ := int_item hi
      have hbad : ¬ TForm y n := by
        have hmem := List.getElem_mem hi2
        rw [hy] at hmem
        intro hf
        obtain ⟨f1, f2, _⟩ := hf
        simp at hmem
        omega
      show tIfS _ _ _ _ [some (.int n), some (.int s), some (.int z), some (.int y), none, none] H'
      refine l_when (b := !decide (([0, 1] : List Int) = [0, 1])) (Ex.refl H') (et_test (ev_opLL (xs := [.int 0, .int 1]) (ys := [.int 0, .int 1]) (el_formed (t := true) (x := y) (y := n) (fun _ => hbad) (fun z => by cases z) (by walk_at "ev")) (el_lst (by walk_at "ev") (by simp)) fun p q H1 hp hq e => rv_neL (xs := [0, 1]) (ys := [0, 1]) (sq_of hp) (sq_of hq))) (fun hb => by simp at hb) (fun _ H9 e9 => ⟨_, rfl, e'.trans e9, e9 _ _ hp⟩)
    rintro p1 σ1 H1 ⟨u1, rfl, e1, _⟩
    refine b_forNLn (vs := ([-1 - z, 201 + z] : List Int).map V.int) (Ex.refl H1) (el_lst (ea_cons (by walk_at "ev") (ea_cons (by walk_at "ev") ea_nil)) (by simp)) (fun p i σ' H' => ∃ u, σ' = [some (.int n), some (.int s), some (.int z), u, none, none] ∧ Ex H1 H' ∧ H' p = some (.lst (([-1 - z, 201 + z] : List Int).map V.int))) (fun p H' np e' h' => ⟨_, rfl, e', h'⟩) (fun p i σ' H' _ ⟨_, _, _, h'⟩ => sq_of h') ?_ ?_
    · rintro p i x σ' H' hi ⟨u, rfl, e', hp⟩
      obtain ⟨y, hi2, rfl, hy⟩ := int_item hi
      have hbad : ¬ TForm s y := by
        have hmem := List.getElem_mem hi2
        rw [hy] at hmem
        intro hf
        obtain ⟨_, _, f1, f2⟩ := hf
        simp at hmem
        omega
      show tIfS _ _ _ _ [some (.int n), some (.int s), some (.int z), some (.int y), none, none] H'
      refine l_when (b := !decide (([0, 1] : List Int) = [0, 1])) (Ex.refl H') (et_test (ev_opLL (xs := [.int 0, .int 1]) (ys := [.int 0, .int 1]) (el_formed (t := true) (x := s) (y := y) (fun _ => hbad) (fun z => by cases z) (by walk_at "ev")) (el_lst (by walk_at "ev") (by simp)) fun p q H1 hp hq e => rv_neL (xs := [0, 1]) (ys := [0, 1]) (sq_of hp) (sq_of hq))) (fun hb => by simp at hb) (fun _ H9 e9 => ⟨_, rfl, e'.trans e9, e9 _ _ hp⟩)
    rintro p2 σ2 H2 ⟨u2, rfl, e2, _⟩
    refine b_forNLU (xss := ([(-1 - z, 0), (201 + z, n), (n, -1 - z), (n, n + 1 + z)] : List (Int × Int)).map fun c => [V.int c.1, V.int c.2]) (Ex.refl H2) (elu_lst (eau_cons (eu_tup (by walk_at "ev") (by simp)) (eau_cons (eu_tup (by walk_at "ev") (by simp)) (eau_cons (eu_tup (by walk_at "ev") (by simp)) (eau_cons (eu_tup (by walk_at "ev") (by simp)) eau_nil)))) (by simp)) (fun p vs i σ' H' => ∃ u3 u4, σ' = [some (.int n), some (.int s), some (.int z), u2, u3, u4] ∧ Ex H2 H' ∧ H' p = some (.lst vs) ∧ TupsAt H' vs (([(-1 - z, 0), (201 + z, n), (n, -1 - z), (n, n + 1 + z)] : List (Int × Int)).map fun c => [V.int c.1, V.int c.2])) (fun p vs H' np e' h' ht => ⟨none, none, rfl, e', h', ht⟩) (fun p vs i σ' H' ⟨_, _, _, _, h', ht⟩ => ⟨h', ht⟩) ?_ ?_
    · rintro p vs i xs σ' H' hi ⟨u3, u4, rfl, e', hp, ht⟩
      obtain ⟨c, hc, rfl⟩ := List.mem_map.mp (List.mem_of_getElem? hi)
      have hbad : ¬ CForm c.1 c.2 := by
        intro hf
        obtain ⟨f1, f2, f3, f4⟩ := hf
        simp only [List.mem_cons, List.not_mem_nil, or_false] at hc
        rcases hc with rfl | rfl | rfl | rfl <;> simp only at f1 f2 f3 f4 <;> omega
      refine ⟨V.int c.1, V.int c.2, rfl, ?_⟩
      show tIfS _ _ _ _ [some (.int n), some (.int s), some (.int z), u2, some (.int c.1), some (.int c.2)] H'
      refine l_when (b := !decide (([0, 1] : List Int) = [0, 1])) (Ex.refl H') (et_test (ev_opLL (xs := [.int 0, .int 1]) (ys := [.int 0, .int 1]) (el_formed (t := false) (x := c.1) (y := c.2) (fun z => by cases z) (fun _ => hbad) (by walk_at "ev")) (el_lst (by walk_at "ev") (by simp)) fun p q H1 hp hq e => rv_neL (xs := [0, 1]) (ys := [0, 1]) (sq_of hp) (sq_of hq))) (fun hb => by simp at hb) (fun _ H9 e9 => ⟨_, _, rfl, e'.trans e9, e9 _ _ hp, ht.mono e9⟩)
    rintro p3 vs σ3 H3 ⟨u3, u4, rfl, e3, _, _⟩
    exact b_ret (Ex.refl H3) (v := .bl true) ev_c fun H9 e9 => q H9 (((e1.trans e2).trans e3).trans e9)
/-! #### Turning.is_row -/
theorem sc_Turning_is_row : FnScope N_Turning_is_row P_Turning_is_row (defScope s_Turning_is_row) := ⟨rfl, rfl, rfl, by decide +kernel, rfl, by decide +kernel, by decide +kernel⟩
/-- the marks of a row -/
def markB (s m : Int) : Bool := decide (0 ≤ m) && decide (m < s)
def isTrow (s : Int) (n : Nat) (xs : List Int) : Bool := decide ((xs.length : Int) = n) && xs.all (markB s)
theorem isTrow_iff (s : Int) (n : Nat) (xs : List Int) : isTrow s n xs = true ↔ xs.length = n ∧ Marks s xs := by
  unfold isTrow Marks
  simp [markB]
  omega
def sp_Turning_is_row (T : Txt K mg) : Sp := fun vs H Q _ => ∃ (o a : Addr) (s : Int) (n : Nat) (xs : List Int), vs = [.ref o, .ref a] ∧ IsT T H o s n ∧ SqL K H a (xs.map V.int) ∧ xs.length ≤ 10000 ∧ RetV (.bl (isTrow s n xs)) H Q
theorem ev_Tis_row {T : Txt K mg} {σ : L2.St} {H : Hp} {ta : TE} {tg : TA} {E : XK} {o a : Addr} {s : Int} {n : Nat} {xs : List Int} (ho : IsT T H o s n) (hx : SqL K H a (xs.map V.int)) (hl : xs.length ≤ 10000) (hv : Ev ta σ H (.ref o)) (ha : EvA tg σ H [.ref a]) :
    Ev (tMeth T.c_Turning "is_row" (sp_Turning_is_row T) [] E ta tg) σ H (.bl (isTrow s n xs)) := by
  obtain ⟨dx, h⟩ := ho
  exact ev_meth hv h (tF_no _ _ _ (by decide +kernel) (by decide +kernel) (by decide +kernel)) ha fun H1 e Q q => ⟨o, a, s, n, xs, rfl, ⟨dx, e _ _ h⟩, ex_l e hx, hl, q⟩
theorem ok_Turning_is_row (T : Txt K mg) : FnOk P w K mg base CX0 1 T.a_Turning_is_row T.d_Turning_is_row P_Turning_is_row (sp_Turning_is_row T) := by
  refine (T.F_Turning_is_row).ok sc_Turning_is_row (fun vs H Q E h => ?len) (fun cdv A outer s H vs Q E hr h => ⟨_, (pss_one (ps_ret (pe_and (pe_cmpR op_eq (pe_callB call_len_seq (by rfl) T.g_len boot_len (pa_cons (pv 1) pa_nil)) (pe_fld (pv 0) (by rfl)) (nomark _)) (pe_one (pe_callB (cr_all rfl) (by rfl) T.g_all boot_all (pa_cons (pe_lc (own := [("mark", 2)]) (g := (gName 2)) rfl sc_Turning_is_row.nd (pi_list (pv 1)) (blkOk_by (N := N_Turning_is_row) (sc := defScope s_Turning_is_row) (by decide +kernel)) (fun _ _ _ _ _ => pg_name (i := 2) sc_Turning_is_row.nd rfl (Or.inl rfl)) (fun _ _ _ _ _ => pts_nil) (fun _ _ _ _ _ => (pe_chain op_le op_lt pe_int (pv 2) (pe_fldK (K := K) (pv 0) (by rfl))))) pa_nil)))))), ?read⟩)
  case len =>
    obtain ⟨o, a, s, n, xs, rfl, _⟩ := h
    rfl
  case read =>
    obtain ⟨o, a, s, n, xs, rfl, ⟨dx, ho⟩, hx, hl, q⟩ := h
    show tRet _ _ [some (.ref o), some (.ref a), none] H
    refine b_ret (Ex.refl H) (v := .bl (isTrow s n xs)) ?_ q
    refine ev_andV (ev_op (ev_is (ev_len (ev_var rfl) hx) (by rw [List.length_map])) (ev_fld (ev_var rfl) ho T.cl_Turning T.no_Turning_length (tF_length _ _ _)) rv_eqI) fun _ => ?_
    refine ev_allI (markB s) (ev_var rfl) hx (by omega) (fun _ => rfl) fun m H1 e _ => ?_
    exact ev_chain ev_c (ev_var rfl) rv_I0 (fun _ => ev_fld (ev_var rfl) (e _ _ ho) T.cl_Turning T.no_Turning_signs (tF_signs _ _ _)) fun _ => rv_I0
/-! #### Turning.place_of -/
theorem sc_Turning_place_of : FnScope N_Turning_place_of P_Turning_place_of (defScope s_Turning_place_of) := ⟨rfl, rfl, rfl, by decide +kernel, rfl, by decide +kernel, by decide +kernel⟩
theorem drop_turn {xs : List Int} {i : Nat} (hi : i < xs.length) : xs.drop (xs.length - (i + 1)) = xs[xs.length - 1 - i] :: xs.drop (xs.length - i) := by
  have h1 : xs.length - (i + 1) < xs.length := by omega
  rw [List.drop_eq_getElem_cons h1]
  have e : xs.length - (i + 1) + 1 = xs.length - i := by omega
  have e2 : xs.length - (i + 1) = xs.length - 1 - i := by omega
  rw [e]
  simp only [e2]
def sp_Turning_place_of (T : Txt K mg) : Sp := fun vs H Q E => ∃ (o a : Addr) (s : Int) (n : Nat) (xs : List Int), vs = [.ref o, .ref a] ∧ TForm s n ∧ IsT T H o s n ∧ SqL K H a (xs.map V.int) ∧ xs.length ≤ 10000 ∧
  (xs.length = n ∧ Marks s xs → RetV (.int (tplace s xs)) H Q) ∧ (¬ (xs.length = n ∧ Marks s xs) → RetX T.c_NoRow H E)
theorem ev_Tplace {T : Txt K mg} {σ : L2.St} {H : Hp} {ta : TE} {tg : TA} {E : XK} {o a : Addr} {s : Int} {n : Nat} {xs : List Int} (f : TForm s n) (ho : IsT T H o s n) (hx : SqL K H a (xs.map V.int)) (hl : xs.length = n) (hm : Marks s xs) (hv : Ev ta σ H (.ref o)) (ha : EvA tg σ H [.ref a]) :
    Ev (tMeth T.c_Turning "place_of" (sp_Turning_place_of T) [] E ta tg) σ H (.int (tplace s xs)) := by
  obtain ⟨dx, h⟩ := ho
  exact ev_meth hv h (tF_no _ _ _ (by decide +kernel) (by decide +kernel) (by decide +kernel)) ha fun H1 e Q q => ⟨o, a, s, n, xs, rfl, f, ⟨dx, e _ _ h⟩, ex_l e hx, by have := f.2.2.2; omega, fun _ => q, fun z => absurd ⟨hl, hm⟩ z⟩
theorem er_Tplace {T : Txt K mg} {σ : L2.St} {H : Hp} {ta : TE} {tg : TA} {E : XK} {o a : Addr} {s : Int} {n : Nat} {xs : List Int} (f : TForm s n) (ho : IsT T H o s n) (hx : SqL K H a (xs.map V.int)) (hl : xs.length ≤ 10000) (hm : ¬ (xs.length = n ∧ Marks s xs)) (he : RetX T.c_NoRow H E) (hv : Ev ta σ H (.ref o)) (ha : EvA tg σ H [.ref a]) :
    EvR (tMeth T.c_Turning "place_of" (sp_Turning_place_of T) [] E ta tg) σ H := by
  obtain ⟨dx, h⟩ := ho
  exact er_meth hv h (tF_no _ _ _ (by decide +kernel) (by decide +kernel) (by decide +kernel)) ha fun H1 e Q => ⟨o, a, s, n, xs, rfl, f, ⟨dx, e _ _ h⟩, ex_l e hx, hl, fun z => absurd z hm, fun _ => RetX.mono he e⟩
theorem ok_Turning_place_of (T : Txt K mg) : FnOk P w K mg base (L2N.CX P w) 2 T.a_Turning_place_of T.d_Turning_place_of P_Turning_place_of (sp_Turning_place_of T) := by
  have G_Turning_is_row := ok_Turning_is_row (P := P) (w := w) (base := base) T
  refine fun_okN T.F_Turning_place_of sc_Turning_place_of (fun vs H Q E h => ?len) (fun cdv A outer s H vs Q E hr h => ⟨_, (pss_cons (ps_if (pt_not (pt_val (pe_meth (pv 0) T.cl_Turning T.me_Turning_is_row G_Turning_is_row (hr.mono (by decide)) T.b_Turning_is_row .nil pass0 (pa_cons (pv 1) pa_nil)))) (pss_one (L2N.ps_raise rfl (L2N.takes_of rfl rfl rfl rfl) (L2N.pmk_own PySem.F.excBase_ValueError T.x_NoRow T.m_NoRow T.k_NoRow (raises_own T.bE_NoRow T.tE_NoRow) rfl))) pss_nil)
    (pss_cons (ps_set (i := 2) sc_Turning_place_of.nd rfl (Or.inl rfl) pe_int)
    (pss_cons (ps_set (i := 3) sc_Turning_place_of.nd rfl (Or.inl rfl) pe_int)
    (pss_cons (ps_for (passes_of rfl) rfl (pi_reversed rfl T.g_reversed (pa_cons (pv 1) pa_nil)) (pg_name (i := 4) sc_Turning_place_of.nd rfl (Or.inl rfl)) (pss_cons (ps_set (i := 3) sc_Turning_place_of.nd rfl (Or.inl rfl) (pe_op op_mod (pe_op op_add (pv 3) (pv 4)) (pe_fld (pv 0) (by rfl))))
    (pss_one (ps_set (i := 2) sc_Turning_place_of.nd rfl (Or.inl rfl) (pe_op op_add (pe_op op_mul (pv 2) (pe_fld (pv 0) (by rfl))) (pv 3))))))
    (pss_one (ps_ret (pv 2))))))), ?read⟩)
  case len =>
    obtain ⟨o, a, s, n, xs, rfl, _⟩ := h
    rfl
  case read =>
    obtain ⟨o, a, s, n, xs, rfl, f, ⟨dx, ho⟩, hx, hl, q, qe⟩ := h
    show tSeq _ _ _ [some (.ref o), some (.ref a), none, none, none] H
    obtain ⟨f1, f2, f3, f4⟩ := id f
    have hs0 : 0 < s := by omega
    refine b_when (Ex.refl H) (et_not (et_B (ev_Tis_row ⟨dx, ho⟩ hx hl (ev_var rfl) (by walk_at "ev")))) (fun hb H1 e1 => ?_) (fun hb H1 e1 => ?_)
    · refine qe ?_ H1 e1
      intro z
      rw [(isTrow_iff s n xs).mpr z] at hb
      cases hb
    have hr : xs.length = n ∧ Marks s xs := (isTrow_iff s n xs).mp (by simpa using hb)
    refine b_asg e1 ev_c fun H2 e => ?_
    refine b_asg e ev_c fun H3 e => ?_
    have hsg : ∀ {σ : L2.St}, σ[0]? = some (some (V.ref o)) → Ev (tFld K (tVar 0) "signs") σ H (.int s) := fun h => ev_fld (ev_var h) ho T.cl_Turning T.no_Turning_signs (tF_signs _ _ _)
    refine b_forRev e (by walk_at "ev") hx (fun i σ' H' => ∃ u, σ' = [some (.ref o), some (.ref a), some (.int (tplace s (xs.drop (xs.length - i)))), some (.int (tplace s (xs.drop (xs.length - i)) % s)), u] ∧ Ex H H')
      (fun H' e' => ⟨none, by rw [Nat.sub_zero, List.drop_length]; rfl, e'⟩) (fun i σ' H' ⟨_, _, e'⟩ => ex_l e' hx) ?_ ?_
    · rintro i x σ' H' hi hxi ⟨u, rfl, e'⟩
      rw [List.length_map] at hi hxi
      obtain ⟨m, hj, rfl, hm⟩ := int_item hxi
      have dt := drop_turn hi
      rw [hm] at dt
      have e3 : tplace s (xs.drop (xs.length - (i + 1))) = tplace s (xs.drop (xs.length - i)) * s + (tplace s (xs.drop (xs.length - i)) % s + m) % s := by rw [dt]; rfl
      generalize hP : tplace s (xs.drop (xs.length - i)) = P at *
      obtain ⟨a0, a1⟩ := mod_range (P % s + m) hs0
      show tSeq _ _ _ [some (.ref o), some (.ref a), some (.int P), some (.int (P % s)), some (.int m)] H'
      refine b_asg e' (ev_op (ev_op (ev_var rfl) (ev_var rfl) rv_I0) (hsg rfl) (rv_I hs0)) fun H4 e4 => ?_
      refine l_asg e4 (ev_op (ev_op (ev_var rfl) (hsg rfl) (rv_I (cmul_r (by omega) (by omega)))) (ev_var rfl) rv_I0) fun H5 e5 => ⟨some (.int m), ?_, e5⟩
      rw [e3, mul_add_mod hs0 a0 a1]
      rfl
    · rintro σ' H' ⟨u, rfl, e'⟩
      rw [List.length_map, Nat.sub_self, List.drop_zero]
      exact b_ret e' (ev_var rfl) (q hr)
/-! #### _law_bad_row -/
theorem sc_law_bad_row : FnScope N_law_bad_row P_law_bad_row (defScope s_law_bad_row) := ⟨rfl, rfl, rfl, by decide +kernel, rfl, by decide +kernel, by decide +kernel⟩
def sp_law_bad_row (T : Txt K mg) : Sp := fun vs H Q _ => ∃ (r : Addr) (c s z : Int) (n : Nat) (xs : List Int), vs = [.ref r, .int c, .int s, .int z] ∧ 2 ≤ s ∧ 0 ≤ z ∧ n ≤ 200 ∧ H r = some (.lst (xs.map V.int)) ∧ (Kd.T s n).row xs ∧ ∀ bs, (bs.length ≤ 10000 ∧ ¬ (Kd.T s n).row bs) → RetL (bs.map V.int) H Q
theorem els_bad_row {T : Txt K mg} {σ : L2.St} {H : Hp} {tg : TA} {E : XK} {r : Addr} {c s z : Int} {n : Nat} {xs : List Int} (hs : 2 ≤ s) (hz : 0 ≤ z) (hn : n ≤ 200) (hr : H r = some (.lst (xs.map V.int))) (hx : (Kd.T s n).row xs) (ha : EvA tg σ H [.ref r, .int c, .int s, .int z]) :
    EvLS (tCall (sp_law_bad_row T) [] E tg) σ H (fun bs => bs.length ≤ 10000 ∧ ¬ (Kd.T s n).row bs) :=
  els_callF ha fun H1 e Q q => ⟨r, c, s, z, n, xs, rfl, hs, hz, hn, e _ _ hr, hx, q⟩
theorem ok_law_bad_row (T : Txt K mg) : FnOk P w K mg base CX0 1 T.a_law_bad_row T.d_law_bad_row P_law_bad_row (sp_law_bad_row T) := by
  refine (T.F_law_bad_row).ok sc_law_bad_row (fun vs H Q E h => ?len) (fun cdv A outer s H vs Q E hr h => ⟨_, (pss_cons (ps_set (i := 4) sc_law_bad_row.nd rfl (Or.inl rfl) (pe_callTy call_list_of (by rfl) T.g_list boot_list (pa_cons (pv 0) pa_nil)))
    (pss_cons (ps_set (i := 5) sc_law_bad_row.nd rfl (Or.inl rfl) (pe_op op_mod (pe_op op_fdivW (pv 1) pe_int) (pe_callB (call_max2 rfl) (by rfl) T.g_max boot_max (pa_cons pe_int (pa_cons (pe_callB call_len_seq (by rfl) T.g_len boot_len (pa_cons (pv 0) pa_nil)) pa_nil)))))
    (pss_cons (ps_if (PW.pt (pw_or (pt_cmpR op_eq (pe_callB call_len_seq (by rfl) T.g_len boot_len (pa_cons (pv 0) pa_nil)) pe_int (nomark _)) (pw_or1 (pt_cmpR op_eq (pe_op op_mod (pv 1) pe_int) pe_int (nomark _))))) (pss_one (ps_expr (pe_bm PySem.F.plainAttrs_list PySem.F.slot_list_insert PySem.F.type_list_insert mt_insert (pv 4) (pa_cons (pv 5) (pa_cons (pe_op op_mod (pe_op op_fdivW (pv 1) pe_int) (pv 2)) pa_nil))))) (pss_one (ps_if (pt_cmpR op_eq (pe_op op_mod (pv 1) pe_int) pe_int (nomark _)) (pss_one (ps_expr (pe_bm PySem.F.plainAttrs_list PySem.F.slot_list_pop PySem.F.type_list_pop mt_popAt (pv 4) (pa_cons (pv 5) pa_nil)))) (pss_one (ps_if (pt_cmpR op_eq (pe_op op_mod (pv 1) pe_int) pe_int (nomark _)) (pss_one (ps_asg (pe_op op_add (pv 2) (pv 3)) (pg_sub (pv 4) (pv 5) set_list))) (pss_one (ps_asg (pe_op op_sub (pe_un un_neg pe_int) (pv 3)) (pg_sub (pv 4) (pv 5) set_list))))))))
    (pss_one (ps_ret (pv 4)))))), ?read⟩)
  case len =>
    obtain ⟨r, c, s, z, n, xs, rfl, _⟩ := h
    rfl
  case read =>
    obtain ⟨r, c, s, z, n, xs, rfl, hs, hz, hn, hr, hx, q⟩ := h
    show tSeq _ _ _ [some (.ref r), some (.int c), some (.int s), some (.int z), none, none] H
    have hxl : xs.length = n := hx.1
    have hs0 : 0 < s := by omega
    generalize hM : (if (xs.length : Int) > 1 then (xs.length : Int) else 1) = M
    have hM0 : 0 < M := by
      rw [← hM]
      split <;> omega
    obtain ⟨a0, a1⟩ := mod_range (c / 4) hM0
    obtain ⟨j, hj⟩ : ∃ j : Nat, c / 4 % M = j := ⟨(c / 4 % M).toNat, by omega⟩
    have hjn : j ≤ 200 := by
      have : M ≤ 200 := by
        rw [← hM]
        split <;> omega
      omega
    have hjl : xs.length ≠ 0 → j < xs.length := fun h => by
      have : M = xs.length := by
        rw [← hM]
        split <;> omega
      omega
    have hlen : ∀ {σ : L2.St} {H2 : Hp}, Ex H H2 → σ[0]? = some (some (V.ref r)) → Ev (tCB (rLenS K) (tCons (tVar 0) tNil)) σ H2 (.int (xs.length : Int)) := fun e h => ev_is (ev_len (ev_var h) (sq_of (e _ _ hr))) (by rw [List.length_map])
    refine b_asgL (Ex.refl H) (el_list (ev_var rfl) (sq_of hr)) fun l H1 nl e1 hl => ?_
    refine b_asg (Ex.refl H1) (v := .int (j : Int)) (ev_is (ev_op (by walk_at "ev") (ev_is (ev_max2 ev_c (hlen e1 rfl)) (congrArg V.int hM)) (rv_I hM0)) (congrArg V.int hj)) fun H2 e2 => ?_
    show tSeq _ _ _ [some (.ref r), some (.int c), some (.int s), some (.int z), some (.ref l), some (.int (j : Int))] H2
    have e12 := e1.trans e2
    have fin : ∀ bs H3, bs.length ≤ 10000 → ¬ (Kd.T s n).row bs → Ex H H3 → H3 l = some (.lst (bs.map V.int)) → Q (.ref l) H3 := fun bs H3 h1 h2 e3 h3 => q bs ⟨h1, h2⟩ l H3 nl e3 h3
    have hl2 := e2 _ _ hl
    refine b_if (b := decide ((xs.length : Int) = 0) || decide (c % 4 = 0)) (Ex.refl H2) (et_or (et_test (ev_op (hlen e12 rfl) ev_c rv_eqI)) fun _ => by walk_at "ev") (fun hb H3 e3 => ?_) (fun hb H3 e3 => ?_)
    · refine e_ins (e3 _ _ hl2) (ev_var rfl) (ev_var rfl) (y := c / 4 % s) (ev_op (by walk_at "ev") (ev_var rfl) (rv_I hs0)) (by omega) (by omega) (by omega) fun H4 e4 => ?_
      refine s_ret (ev_var rfl) fun H5 e5 => fin _ H5 ?_ ?_ ((Ex.mut ((e12.trans e3).trans e4) nl).trans e5) (e5 _ _ upd_same)
      · rw [len_ins]
        omega
      · intro h
        have := h.1
        rw [len_ins] at this
        omega
    have hb2 : ¬ (xs.length : Int) = 0 := by
      rw [Bool.or_eq_false_iff] at hb
      exact of_decide_eq_false hb.1
    have hj2 : j < xs.length := hjl (by omega)
    refine l_if (b := decide (c % 4 = 1)) e3 (by walk_at "ev") (fun hb H4 e4 => ?_) (fun hb H4 e4 => ?_)
    · refine e_pop (e4 _ _ hl2) (ev_var rfl) (ev_var rfl) hj2 (by omega) fun H5 e5 => ?_
      refine s_ret (ev_var rfl) fun H6 e6 => fin _ H6 ?_ ?_ ((Ex.mut ((e12.trans e4).trans e5) nl).trans e6) (e6 _ _ upd_same)
      · rw [List.length_eraseIdx]
        split <;> omega
      · intro h
        have := h.1
        rw [List.length_eraseIdx, if_pos hj2] at this
        omega
    refine l_if (b := decide (c % 4 = 2)) e4 (by walk_at "ev") (fun hb H5 e5 => ?_) (fun hb H5 e5 => ?_)
    · refine e_setL (y := s + z) (e5 _ _ hl2) (by walk_at "ev") (ev_var rfl) (ev_var rfl) hj2 fun H6 e6 => ?_
      refine s_ret (ev_var rfl) fun H7 e7 => fin _ H7 ?_ ?_ ((Ex.mut ((e12.trans e5).trans e6) nl).trans e7) (e7 _ _ upd_same)
      · rw [List.length_set]
        omega
      · intro h
        have := h.2 _ (mem_set_self (y := s + z) hj2)
        omega
    · refine e_setL (y := -1 - z) (e5 _ _ hl2) (by walk_at "ev") (ev_var rfl) (ev_var rfl) hj2 fun H6 e6 => ?_
      refine s_ret (ev_var rfl) fun H7 e7 => fin _ H7 ?_ ?_ ((Ex.mut ((e12.trans e5).trans e6) nl).trans e7) (e7 _ _ upd_same)
      · rw [List.length_set]
        omega
      · intro h
        have := h.2 _ (mem_set_self (y := -1 - z) hj2)
        omega
/-! #### Turning.moved -/
theorem sc_Turning_moved : FnScope N_Turning_moved P_Turning_moved (defScope s_Turning_moved) := ⟨rfl, rfl, rfl, by decide +kernel, rfl, by decide +kernel, by decide +kernel⟩
/-- a row moved by a change: none where it does not fit -/
def tmv (s : Int) (n : Nat) (xs : List Int) (by_ : Int) : Ch → Option (List Int)
  | .non => some xs
  | .turn j => if 0 ≤ j ∧ j < n then some (xs.set j.toNat ((xs.getD j.toNat 0 + by_) % s)) else none
  | .swap _ _ => none
def sp_Turning_moved (T : Txt K mg) : Sp := fun vs H Q E => ∃ (o a : Addr) (s : Int) (n : Nat) (xs : List Int) (v : V) (c : Ch) (d : Int), vs = [.ref o, .ref a, v, .int d] ∧ TForm s n ∧ IsT T H o s n ∧ SqL K H a (xs.map V.int) ∧ xs.length ≤ 10000 ∧ ChAt K H v c ∧
  (xs.length = n ∧ Marks s xs → (∀ ys, tmv s n xs d c = some ys → RetL (ys.map V.int) H Q) ∧ (tmv s n xs d c = none → RetX T.c_NoChange H E)) ∧ (¬ (xs.length = n ∧ Marks s xs) → RetX T.c_NoRow H E)
theorem ok_Turning_moved (T : Txt K mg) : FnOk P w K mg base (L2N.CX P w) 2 T.a_Turning_moved T.d_Turning_moved P_Turning_moved (sp_Turning_moved T) := by
  have G_Turning_is_row := ok_Turning_is_row (P := P) (w := w) (base := base) T
  refine fun_okN T.F_Turning_moved sc_Turning_moved (fun vs H Q E h => ?len) (fun cdv A outer s H vs Q E hr h => ⟨_, (pss_cons (ps_if (pt_not (pt_val (pe_meth (pv 0) T.cl_Turning T.me_Turning_is_row G_Turning_is_row (hr.mono (by decide)) T.b_Turning_is_row .nil pass0 (pa_cons (pv 1) pa_nil)))) (pss_one (L2N.ps_raise rfl (L2N.takes_of rfl rfl rfl rfl) (L2N.pmk_own PySem.F.excBase_ValueError T.x_NoRow T.m_NoRow T.k_NoRow (raises_own T.bE_NoRow T.tE_NoRow) rfl))) pss_nil)
    (pss_cons (ps_set (i := 4) sc_Turning_moved.nd rfl (Or.inl rfl) (pe_callTy call_list_of (by rfl) T.g_list boot_list (pa_cons (pv 1) pa_nil)))
    (pss_cons (ps_if (pt_cmpR op_isN (pv 2) pe_non (nomark _)) (pss_one (ps_ret (pv 4))) pss_nil)
    (pss_cons (ps_if (PW.pt (pw_or (pt_cmpR op_ne (pe_ix ix_tup (pv 2) pe_int (fun _ _ => rfl)) pe_str (nomark _)) (pw_or1 (pt_not (pt_chain op_le op_lt pe_int (pe_ix ix_tup (pv 2) pe_int (fun _ _ => rfl)) (pe_fld (pv 0) (by rfl))))))) (pss_one (L2N.ps_raise rfl (L2N.takes_of rfl rfl rfl rfl) (L2N.pmk_own PySem.F.excBase_ValueError T.x_NoChange T.m_NoChange T.k_NoChange (raises_own T.bE_NoChange T.tE_NoChange) rfl))) pss_nil)
    (pss_cons (ps_asg (pe_op op_mod (pe_op op_add (pe_ix ix_list (pv 4) (pe_ix ix_tup (pv 2) pe_int (fun _ _ => rfl)) (fun _ _ => rfl)) (pv 3)) (pe_fld (pv 0) (by rfl))) (pg_sub (pv 4) (pe_ix ix_tup (pv 2) pe_int (fun _ _ => rfl)) set_list))
    (pss_one (ps_ret (pv 4)))))))), ?read⟩)
  case len =>
    obtain ⟨o, a, s, n, xs, v, c, d, rfl, _⟩ := h
    rfl
  case read =>
    obtain ⟨o, a, s, n, xs, v, c, d, rfl, f, ho, hx, hl, hc, q, qe⟩ := h
    obtain ⟨dx, hO⟩ := id ho
    show tSeq _ _ _ [some (.ref o), some (.ref a), some v, some (.int d), none] H
    obtain ⟨f1, f2, f3, f4⟩ := id f
    have hs0 : 0 < s := by omega
    refine b_when (Ex.refl H) (et_not (et_B (ev_Tis_row ho hx hl (ev_var rfl) (by walk_at "ev")))) (fun hb H1 e1 => ?_) (fun hb H1 e1 => ?_)
    · refine qe ?_ H1 e1
      intro z
      rw [(isTrow_iff s n xs).mpr z] at hb
      cases hb
    have hr : xs.length = n ∧ Marks s xs := (isTrow_iff s n xs).mp (by simpa using hb)
    obtain ⟨q1, q2⟩ := q hr
    refine b_asgL e1 (el_list (ev_var rfl) hx) fun l H2 nl e hlst => ?_
    have hc2 := hc.mono e
    have hO2 := e _ _ hO
    have hln : ∀ {σ : L2.St}, σ[0]? = some (some (V.ref o)) → Ev (tFld K (tVar 0) "length") σ H2 (.int n) := fun h => ev_fld (ev_var h) hO2 T.cl_Turning T.no_Turning_length (tF_length _ _ _)
    cases c with
    | non =>
      obtain rfl : v = .non := hc
      refine b_when (Ex.refl H2) (et_test (ev_op (ev_var rfl) ev_c (rv_isNb (b := true) rfl))) (fun _ H3 e3 => ?_) (fun hb => by cases hb)
      exact s_ret (ev_var rfl) fun H4 e4 => q1 _ rfl l H4 nl ((e.trans e3).trans e4) (e4 _ _ (e3 _ _ hlst))
    | swap i j =>
      obtain ⟨t, rfl, ht⟩ := hc2
      refine b_skip (Ex.refl H2) (et_test (ev_op (ev_var rfl) ev_c (rv_isNb (b := false) rfl))) (fun H3 e3 => ?_)
      refine b_when (b := true || false) e3 (et_or (et_test (ev_op (ev_op (ev_var rfl) ev_c (rv_ixT ht (at_of (j := 0) rfl rfl))) ev_c (rv_neS (b := true) (by decide +kernel)))) fun h => by cases h) (fun _ H4 e4 => ?_) (fun hb => by cases hb)
      exact q2 rfl H4 (e.trans e4)
    | turn j =>
      obtain ⟨t, rfl, ht⟩ := hc2
      refine b_skip (Ex.refl H2) (et_test (ev_op (ev_var rfl) ev_c (rv_isNb (b := false) rfl))) (fun H3 e3 => ?_)
      have h1 : Ev (tOp (rIxT K) (tVar 2) (tC (.int 1))) [some (.ref o), some (.ref a), some (.ref t), some (.int d), some (.ref l)] H2 (.int j) := ev_op (ev_var rfl) ev_c (rv_ixT ht (at_of (j := 1) rfl rfl))
      refine b_when (b := false || !(decide (0 ≤ j) && decide (j < n))) e3 (et_or (et_test (ev_op (ev_op (ev_var rfl) ev_c (rv_ixT ht (at_of (j := 0) rfl rfl))) ev_c (rv_neS (b := false) (by decide +kernel)))) fun _ => et_not (et_test (ev_chain ev_c h1 rv_I0 (fun _ => hln rfl) fun _ => rv_I0))) (fun hb H4 e4 => ?_) (fun hb H4 e4 => ?_)
      · refine q2 ?_ H4 (e.trans e4)
        exact if_neg (by simp at hb; omega)
      · have hj : 0 ≤ j ∧ j < n := by simpa using hb
        obtain ⟨k, rfl⟩ : ∃ k : Nat, j = k := ⟨j.toNat, by omega⟩
        have hk : k < xs.length := by omega
        have hx4 : H4 l = some (.lst (xs.map V.int)) := e4 _ _ hlst
        refine q_setL (v := .int ((xs[k] + d) % s)) (j := k) hx4 (Ev.mono e4 (ev_op (ev_op (ev_op (ev_var rfl) h1 (rv_ixL (sq_of hlst) (atI_nat (int_at hk)))) (ev_var rfl) rv_I0) (ev_fld (ev_var rfl) hO2 T.cl_Turning T.no_Turning_signs (tF_signs _ _ _)) (rv_I hs0))) (ev_var rfl) (h1.mono e4) (by rw [List.length_map]; exact hk) fun H5 e5 => ?_
        refine s_ret (ev_var rfl) fun H6 e6 => ?_
        refine q1 (xs.set k ((xs[k] + d) % s)) ?_ l H6 nl ((Ex.mut ((e.trans e4).trans e5) nl).trans e6) (e6 _ _ ?_)
        · show (if 0 ≤ (k : Int) ∧ (k : Int) < n then some (xs.set (k : Int).toNat ((xs.getD (k : Int).toNat 0 + d) % s)) else none) = _
          rw [if_pos hj]
          simp [hk]
        · rw [upd_same, List.map_set]
/-! #### Turning.undone -/
theorem sc_Turning_undone : FnScope N_Turning_undone P_Turning_undone (defScope s_Turning_undone) := ⟨rfl, rfl, rfl, by decide +kernel, rfl, by decide +kernel, by decide +kernel⟩
def sp_Turning_undone (T : Txt K mg) : Sp := fun vs H Q E => ∃ (o a : Addr) (s : Int) (n : Nat) (xs : List Int) (v : V) (c : Ch), vs = [.ref o, .ref a, v] ∧ TForm s n ∧ IsT T H o s n ∧ SqL K H a (xs.map V.int) ∧ xs.length ≤ 10000 ∧ ChAt K H v c ∧
  (xs.length = n ∧ Marks s xs → (∀ ys, tmv s n xs (-1) c = some ys → RetL (ys.map V.int) H Q) ∧ (tmv s n xs (-1) c = none → RetX T.c_NoChange H E)) ∧ (¬ (xs.length = n ∧ Marks s xs) → RetX T.c_NoRow H E)
theorem el_Tundone {T : Txt K mg} {σ : L2.St} {H : Hp} {ta : TE} {tg : TA} {E : XK} {o a : Addr} {s : Int} {n : Nat} {xs ys : List Int} {v : V} {c : Ch} (f : TForm s n) (ho : IsT T H o s n) (hx : SqL K H a (xs.map V.int)) (hl : xs.length = n) (hm : Marks s xs) (hc : ChAt K H v c) (hy : tmv s n xs (-1) c = some ys) (hv : Ev ta σ H (.ref o)) (ha : EvA tg σ H [.ref a, v]) :
    EvL (tMeth T.c_Turning "undone" (sp_Turning_undone T) [] E ta tg) σ H (ys.map V.int) := by
  obtain ⟨dx, h⟩ := ho
  exact el_meth hv h (tF_no _ _ _ (by decide +kernel) (by decide +kernel) (by decide +kernel)) ha fun H1 e Q q => ⟨o, a, s, n, xs, v, c, rfl, f, ⟨dx, e _ _ h⟩, ex_l e hx, by have := f.2.2.2; omega, hc.mono e, fun _ => ⟨fun zs hz => by rw [hy] at hz; cases hz; exact q, fun z => by rw [hy] at z; cases z⟩, fun z => absurd ⟨hl, hm⟩ z⟩
/-- .. the change a tuple made on the way -/
theorem el_TundoneU {T : Txt K mg} {σ : L2.St} {H : Hp} {ta tr tu : TE} {E : XK} {o a : Addr} {s : Int} {n : Nat} {xs ys : List Int} {j : Int} (f : TForm s n) (ho : IsT T H o s n) (hx : SqL K H a (xs.map V.int)) (hl : xs.length = n) (hm : Marks s xs) (hy : tmv s n xs (-1) (.turn j) = some ys) (hv : Ev ta σ H (.ref o)) (hr : Ev tr σ H (.ref a)) (hu : EvU tu σ H [.str "turn", .int j]) :
    EvL (tMeth T.c_Turning "undone" (sp_Turning_undone T) [] E ta (tCons tr (tCons tu tNil))) σ H (ys.map V.int) := by
  obtain ⟨dx, h⟩ := ho
  intro H1 e Q q
  refine hv H1 e _ fun H2 e2 => ⟨o, dx, _, rfl, e2 _ _ (e _ _ h), tF_no _ _ _ (by decide +kernel) (by decide +kernel) (by decide +kernel), ?_⟩
  refine hr H2 (e.trans e2) _ fun H3 e3 => hu H3 ((e.trans e2).trans e3) _ fun p H4 hp e4 h4 => ?_
  have e5 := ((e.trans e2).trans e3).trans e4
  exact ⟨o, a, s, n, xs, .ref p, .turn j, rfl, f, ⟨dx, e5 _ _ h⟩, ex_l e5 hx, by have := f.2.2.2; omega, ⟨p, rfl, st_of h4⟩, fun _ => ⟨fun zs hz => by rw [hy] at hz; cases hz; exact fun p' H5 hp' e5 h5 => q p' H5 (fresh_back ((e2.trans e3).trans e4) hp') (((e2.trans e3).trans e4).trans e5) h5, fun z => by rw [hy] at z; cases z⟩, fun z => absurd ⟨hl, hm⟩ z⟩
theorem ok_Turning_undone (T : Txt K mg) : FnOk P w K mg base (L2N.CX P w) 3 T.a_Turning_undone T.d_Turning_undone P_Turning_undone (sp_Turning_undone T) := by
  have G_Turning_moved := ok_Turning_moved (P := P) (w := w) (base := base) T
  refine fun_okN T.F_Turning_undone sc_Turning_undone (fun vs H Q E h => ?len) (fun cdv A outer s H vs Q E hr h => ⟨_, (pss_one (ps_ret (pe_meth (pv 0) T.cl_Turning T.me_Turning_moved G_Turning_moved (hr.mono (by decide)) T.b_Turning_moved .nil (L2N.passes_call (W := fun cls d _ H => E cls d H) (E := E) (L2N.takes_of rfl rfl rfl rfl) (fun _ _ _ _ h => h)) (pa_cons (pv 1) (pa_cons (pv 2) (pa_cons (pe_un un_neg pe_int) pa_nil)))))), ?read⟩)
  case len =>
    obtain ⟨o, a, s, n, xs, v, c, rfl, _⟩ := h
    rfl
  case read =>
    obtain ⟨o, a, s, n, xs, v, c, rfl, f, ho, hx, hl, hc, q, qe⟩ := h
    obtain ⟨dx, hO⟩ := id ho
    show tRet _ _ [some (.ref o), some (.ref a), some v] H
    have ha : EvA (tCons (tVar 1) (tCons (tVar 2) (tCons (tUn (rU fun i => .int (-i)) (tC (.int 1))) tNil))) [some (.ref o), some (.ref a), some v] H [.ref a, v, .int (-1)] := by walk_at "ev"
    refine b_retMeth (Ex.refl H) (ev_var rfl) hO (tF_no _ _ _ (by decide +kernel) (by decide +kernel) (by decide +kernel)) ha fun H3 e => ?_
    refine ⟨o, a, s, n, xs, v, c, -1, rfl, f, ho.mono e, ex_l e hx, hl, hc.mono e, fun hr => ⟨fun ys hy p H4 hp e4 h4 => (q hr).1 ys hy p H4 (fresh_back e hp) (e.trans e4) h4, fun hy => RetX.mono ((q hr).2 hy) e⟩, fun hr => RetX.mono (qe hr) e⟩
/-! #### Turning.row_at -/
theorem sc_Turning_row_at : FnScope N_Turning_row_at P_Turning_row_at (defScope s_Turning_row_at) := ⟨rfl, rfl, rfl, by decide +kernel, rfl, by decide +kernel, by decide +kernel⟩
def sp_Turning_row_at (T : Txt K mg) : Sp := fun vs H Q E => ∃ (o : Addr) (s : Int) (n : Nat) (p : Int), vs = [.ref o, .int p] ∧ TForm s n ∧ IsT T H o s n ∧
  (0 ≤ p ∧ p < s ^ n → RetL ((trow s n p).map V.int) H Q) ∧ (¬ (0 ≤ p ∧ p < s ^ n) → RetX T.c_NoPlace H E)
theorem el_trow {T : Txt K mg} {σ : L2.St} {H : Hp} {ta : TE} {tg : TA} {E : XK} {o : Addr} {s : Int} {n : Nat} {p : Int} (f : TForm s n) (ho : IsT T H o s n) (p0 : 0 ≤ p) (p1 : p < s ^ n) (hv : Ev ta σ H (.ref o)) (ha : EvA tg σ H [.int p]) :
    EvL (tMeth T.c_Turning "row_at" (sp_Turning_row_at T) [] E ta tg) σ H ((trow s n p).map V.int) := by
  obtain ⟨dx, h⟩ := ho
  exact el_meth hv h (tF_no _ _ _ (by decide +kernel) (by decide +kernel) (by decide +kernel)) ha fun H1 e Q q => ⟨o, s, n, p, rfl, f, ⟨dx, e _ _ h⟩, fun _ => q, fun z => absurd ⟨p0, p1⟩ z⟩
theorem ok_Turning_row_at (T : Txt K mg) : FnOk P w K mg base (L2N.CX P w) 1 T.a_Turning_row_at T.d_Turning_row_at P_Turning_row_at (sp_Turning_row_at T) := by
  refine fun_okN T.F_Turning_row_at sc_Turning_row_at (fun vs H Q E h => ?len) (fun cdv A outer s H vs Q E hr h => ⟨_, (pss_cons (ps_if (pt_not (pt_chain op_le op_lt pe_int (pv 1) (pe_fld (pv 0) (by rfl)))) (pss_one (L2N.ps_raise rfl (L2N.takes_of rfl rfl rfl rfl) (L2N.pmk_own PySem.F.excBase_ValueError T.x_NoPlace T.m_NoPlace T.k_NoPlace (raises_own T.bE_NoPlace T.tE_NoPlace) rfl))) pss_nil)
    (pss_cons (ps_set (i := 2) sc_Turning_row_at.nd rfl (Or.inl rfl) (pe_lst pa_nil))
    (pss_cons (ps_asg (pe_callB call_divmodW (by rfl) T.g_divmod boot_divmod (pa_cons (pv 1) (pa_cons (pe_fld (pv 0) (by rfl)) pa_nil))) (pg_tup rfl (pgs_cons (pg_name (i := 3) sc_Turning_row_at.nd rfl (Or.inl rfl)) (pgs_cons (pg_name (i := 4) sc_Turning_row_at.nd rfl (Or.inl rfl)) pgs_nil))))
    (pss_cons (ps_for (passes_of rfl) rfl (pi_range1 rfl T.g_range (pa_cons (pe_fld (pv 0) (by rfl)) pa_nil)) (pg_name (i := 5) sc_Turning_row_at.nd rfl (Or.inl rfl)) (pss_cons (ps_asg (pe_callB call_divmodW (by rfl) T.g_divmod boot_divmod (pa_cons (pv 3) (pa_cons (pe_fld (pv 0) (by rfl)) pa_nil))) (pg_tup rfl (pgs_cons (pg_name (i := 3) sc_Turning_row_at.nd rfl (Or.inl rfl)) (pgs_cons (pg_name (i := 6) sc_Turning_row_at.nd rfl (Or.inl rfl)) pgs_nil))))
    (pss_cons (ps_expr (pe_bm PySem.F.plainAttrs_list PySem.F.slot_list_append PySem.F.type_list_append mt_append (pv 2) (pa_cons (pe_op op_mod (pe_op op_sub (pv 4) (pv 6)) (pe_fld (pv 0) (by rfl))) pa_nil)))
    (pss_one (ps_set (i := 4) sc_Turning_row_at.nd rfl (Or.inl rfl) (pv 6))))))
    (pss_one (ps_ret (pv 2))))))), ?read⟩)
  case len =>
    obtain ⟨o, s, n, p, rfl, _⟩ := h
    rfl
  case read =>
    obtain ⟨o, s, n, p, rfl, f, ⟨dx, ho⟩, q, qe⟩ := h
    show tSeq _ _ _ [some (.ref o), some (.int p), none, none, none, none, none] H
    have hsz : ∀ {σ : L2.St}, σ[0]? = some (some (V.ref o)) → Ev (tFld K (tVar 0) "size") σ H (.int (s ^ n)) := fun h => ev_fld (ev_var h) ho T.cl_Turning T.no_Turning_size (tF_size _ _ _)
    refine b_when (Ex.refl H) (et_not (et_test (ev_chain (by walk_at "ev") (by walk_at "ev") (by walk_at "rv") (fun _ => hsz rfl) fun _ => by walk_at "rv"))) (fun hb H1 e1 => ?_) (fun hb H1 e1 => ?_)
    · refine qe ?_ H1 e1
      simp at hb
      omega
    have hp : 0 ≤ p ∧ p < s ^ n := by simpa using hb
    obtain ⟨f1, f2, f3, f4⟩ := id f
    refine b_asgL e1 (el_lst ea_nil (by simp)) fun l H2 nl e2 hl => ?_
    have hsg : ∀ {σ : L2.St} {H' : Hp}, Ex H H' → σ[0]? = some (some (V.ref o)) → Ev (tFld K (tVar 0) "signs") σ H' (.int s) := fun e h => ev_fld (ev_var h) (e _ _ ho) T.cl_Turning T.no_Turning_signs (tF_signs _ _ _)
    refine b_asg2 (Ex.refl H2) (eu_divmod (ea_cons (ev_var rfl) (ea_cons (hsg e2 rfl) ea_nil)) (cdivp_small (by omega) (by omega))) fun H3 e3 => ?_
    have hln : Ev (tFld K (tVar 0) "length") [some (.ref o), some (.int p), some (.ref l), some (.int (p / s)), some (.int (p % s)), none, none] H2 (.int n) := ev_fld (ev_var rfl) (e2 _ _ ho) T.cl_Turning T.no_Turning_length (tF_length _ _ _)
    refine b_forR1 (n := (n : Int)) e3 (ea_cons hln ea_nil) (by omega) (by omega) (fun i σ' H' => ∃ u v, σ' = [some (.ref o), some (.int p), some (.ref l), some (.int (p / s ^ (i + 1))), some (.int (p / s ^ i % s)), u, v] ∧ Ex H H' ∧ H' l = some (.lst (((trow s n p).take i).map V.int)))
      (fun H4 e4 => ⟨none, none, by rw [Int.pow_zero, Int.ediv_one, Int.pow_succ, Int.pow_zero, Int.one_mul]; rfl, e2.trans e4, e4 _ _ hl⟩) ?_ ?_
    · rintro i σ' H' hi ⟨u, v, rfl, e4, hl4⟩
      show tSeq _ _ _ [some (.ref o), some (.int p), some (.ref l), some (.int (p / s ^ (i + 1))), some (.int (p / s ^ i % s)), some (.int (i : Int)), v] H'
      have hi' : i < n := by omega
      refine b_asg2 (Ex.refl H') (eu_divmod (ea_cons (ev_var rfl) (ea_cons (hsg e4 rfl) ea_nil)) (cdivp_small (by omega) (by omega))) fun H5 e5 => ?_
      refine q_app (e5 _ _ hl4) (ev_var rfl) (ev_op (ev_op (ev_var rfl) (ev_var rfl) rv_I0) (hsg (e4.trans e5) rfl) (by walk_at "rv")) (by rw [List.length_map, List.length_take]; omega) fun H6 e6 => ?_
      refine l_asg (Ex.refl _) (ev_var rfl) fun H7 e7 => ⟨some (.int i), some (.int (p / s ^ (i + 1) % s)), ?_, ?_, ?_⟩
      · rw [Int.pow_succ s (i + 1), ← Int.ediv_ediv_of_nonneg (Int.le_of_lt (Int.pow_pos (by omega)))]
        rfl
      · exact (Ex.mut ((e4.trans e5).trans e6) nl).trans e7
      · refine e7 _ _ ?_
        rw [upd_same, List.take_add_one, trow_get (by omega) n p i hi', List.map_append]
        rfl
    · rintro σ' H' ⟨u, v, rfl, e4, hl4⟩
      refine s_ret (ev_var rfl) fun H5 e5 => q hp l H5 nl (e4.trans e5) ?_
      rw [show ((n : Int)).toNat = n from rfl, List.take_of_length_le (Nat.le_of_eq (trow_len s n p))] at hl4
      exact e5 _ _ hl4
/-! #### Turning.change -/
theorem sc_Turning_change : FnScope N_Turning_change P_Turning_change (defScope s_Turning_change) := ⟨rfl, rfl, rfl, by decide +kernel, rfl, by decide +kernel, by decide +kernel⟩
theorem tspot_step {s : Int} {n i : Nat} {p : Int} (hi : i + 1 < n) (h : p % s = s - 1) : tspot s (n - i) p = tspot s (n - (i + 1)) (p / s) + 1 := by
  obtain ⟨m, hm⟩ : ∃ m, n - i = m + 2 := ⟨n - i - 2, by omega⟩
  have e : n - (i + 1) = m + 1 := by omega
  rw [hm, e]
  exact if_pos h
theorem tspot_stop {s : Int} {n i : Nat} {p : Int} (hi : i < n) (h : ¬ (i + 1 < n ∧ p % s = s - 1)) : tspot s (n - i) p = 0 := by
  by_cases h1 : i + 1 < n
  · obtain ⟨m, hm⟩ : ∃ m, n - i = m + 2 := ⟨n - i - 2, by omega⟩
    rw [hm]
    exact if_neg fun z => h ⟨h1, z⟩
  · have e : n - i = 1 := by omega
    rw [e]
    rfl
/-- what a turning list tells as the change -/
def sp_Turning_change (T : Txt K mg) : Sp := fun vs H Q E => ∃ (o a : Addr) (s : Int) (n : Nat) (xs : List Int), vs = [.ref o, .ref a] ∧ TForm s n ∧ IsT T H o s n ∧ SqL K H a (xs.map V.int) ∧ xs.length ≤ 10000 ∧
  (xs.length = n ∧ Marks s xs → (s ^ n = 1 → RetV .non H Q) ∧ (s ^ n ≠ 1 → RetU [.str "turn", .int (tspot s n (tplace s xs))] H Q)) ∧ (¬ (xs.length = n ∧ Marks s xs) → RetX T.c_NoRow H E)
theorem ev_Tchange {T : Txt K mg} {σ : L2.St} {H : Hp} {ta : TE} {tg : TA} {E : XK} {o a : Addr} {s : Int} {n : Nat} {xs : List Int} (f : TForm s n) (ho : IsT T H o s n) (hx : SqL K H a (xs.map V.int)) (hl : xs.length = n) (hm : Marks s xs) (h1 : s ^ n = 1) (hv : Ev ta σ H (.ref o)) (ha : EvA tg σ H [.ref a]) :
    Ev (tMeth T.c_Turning "change" (sp_Turning_change T) [] E ta tg) σ H .non := by
  obtain ⟨dx, h⟩ := ho
  exact ev_meth hv h (tF_no _ _ _ (by decide +kernel) (by decide +kernel) (by decide +kernel)) ha fun H1 e Q q => ⟨o, a, s, n, xs, rfl, f, ⟨dx, e _ _ h⟩, ex_l e hx, by have := f.2.2.2; omega, fun _ => ⟨fun _ => q, fun z => absurd h1 z⟩, fun z => absurd ⟨hl, hm⟩ z⟩
theorem eu_Tchange {T : Txt K mg} {σ : L2.St} {H : Hp} {ta : TE} {tg : TA} {E : XK} {o a : Addr} {s : Int} {n : Nat} {xs : List Int} (f : TForm s n) (ho : IsT T H o s n) (hx : SqL K H a (xs.map V.int)) (hl : xs.length = n) (hm : Marks s xs) (h1 : s ^ n ≠ 1) (hv : Ev ta σ H (.ref o)) (ha : EvA tg σ H [.ref a]) :
    EvU (tMeth T.c_Turning "change" (sp_Turning_change T) [] E ta tg) σ H [.str "turn", .int (tspot s n (tplace s xs))] := by
  obtain ⟨dx, h⟩ := ho
  exact eu_meth hv h (tF_no _ _ _ (by decide +kernel) (by decide +kernel) (by decide +kernel)) ha fun H1 e Q q => ⟨o, a, s, n, xs, rfl, f, ⟨dx, e _ _ h⟩, ex_l e hx, by have := f.2.2.2; omega, fun _ => ⟨fun z => absurd z h1, fun _ => q⟩, fun z => absurd ⟨hl, hm⟩ z⟩
theorem ok_Turning_change (T : Txt K mg) : FnOk P w K mg base (L2N.CX P w) 3 T.a_Turning_change T.d_Turning_change P_Turning_change (sp_Turning_change T) := by
  have G_Turning_place_of := ok_Turning_place_of (P := P) (w := w) (base := base) T
  refine fun_okN T.F_Turning_change sc_Turning_change (fun vs H Q E h => ?len) (fun cdv A outer s H vs Q E hr h => ⟨_, (pss_cons (ps_set (i := 2) sc_Turning_change.nd rfl (Or.inl rfl) (pe_meth (pv 0) T.cl_Turning T.me_Turning_place_of G_Turning_place_of (hr.mono (by decide)) T.b_Turning_place_of .nil (L2N.passes_call (W := fun cls d _ H => E cls d H) (E := E) (L2N.takes_of rfl rfl rfl rfl) (fun _ _ _ _ h => h)) (pa_cons (pv 1) pa_nil)))
    (pss_cons (ps_if (pt_cmpR op_eq (pe_fld (pv 0) (by rfl)) pe_int (nomark _)) (pss_one (ps_ret pe_non)) pss_nil)
    (pss_cons (ps_set (i := 3) sc_Turning_change.nd rfl (Or.inl rfl) pe_int)
    (pss_cons (ps_while (passes_of rfl) (PW.pt (pw_and (pt_cmpR op_lt (pe_op op_add (pv 3) pe_int) (pe_fld (pv 0) (by rfl)) (nomark _)) (pw_and1 (pt_cmpR op_eq (pe_op op_mod (pv 2) (pe_fld (pv 0) (by rfl))) (pe_op op_sub (pe_fld (pv 0) (by rfl)) pe_int) (nomark _))))) (pss_cons (ps_set (i := 2) sc_Turning_change.nd rfl (Or.inl rfl) (pe_op op_fdivW (pv 2) (pe_fld (pv 0) (by rfl))))
    (pss_one (ps_aug (i := 3) sc_Turning_change.nd rfl (Or.inl rfl) pe_int ip_add))))
    (pss_one (ps_ret (pe_tup (pa_cons pe_str (pa_cons (pv 3) pa_nil))))))))), ?read⟩)
  case len =>
    obtain ⟨o, a, s, n, xs, rfl, _⟩ := h
    rfl
  case read =>
    obtain ⟨o, a, s, n, xs, rfl, f, ho, hx, hl, q, qe⟩ := h
    obtain ⟨dx, hO⟩ := id ho
    show tSeq _ _ _ [some (.ref o), some (.ref a), none, none] H
    obtain ⟨f1, f2, f3, f4⟩ := id f
    have hs0 : 0 < s := by omega
    by_cases hr : xs.length = n ∧ Marks s xs
    case neg => exact b_asgR (Ex.refl H) (er_Tplace f ho hx hl hr (qe hr) (ev_var rfl) (by walk_at "ev"))
    obtain ⟨q1, q2⟩ := q hr
    refine b_asg (Ex.refl H) (ev_Tplace f ho hx hr.1 hr.2 (ev_var rfl) (by walk_at "ev")) fun H1 e => ?_
    have hsz : ∀ {σ : L2.St}, σ[0]? = some (some (V.ref o)) → Ev (tFld K (tVar 0) "size") σ H (.int (s ^ n)) := fun h => ev_fld (ev_var h) hO T.cl_Turning T.no_Turning_size (tF_size _ _ _)
    have hsg : ∀ {σ : L2.St}, σ[0]? = some (some (V.ref o)) → Ev (tFld K (tVar 0) "signs") σ H (.int s) := fun h => ev_fld (ev_var h) hO T.cl_Turning T.no_Turning_signs (tF_signs _ _ _)
    have hln : ∀ {σ : L2.St}, σ[0]? = some (some (V.ref o)) → Ev (tFld K (tVar 0) "length") σ H (.int n) := fun h => ev_fld (ev_var h) hO T.cl_Turning T.no_Turning_length (tF_length _ _ _)
    refine b_when e (et_test (ev_op (hsz rfl) ev_c rv_eqI)) (fun hb H2 e2 => b_ret e2 ev_c (q1 (by simpa using hb))) (fun hb H2 e => ?_)
    have hne : s ^ n ≠ 1 := by simpa using hb
    have hn0 : 0 < n := by
      rcases Nat.eq_zero_or_pos n with h | h
      · subst h
        exact absurd (Int.pow_zero s) hne
      · exact h
    have q2 := q2 hne
    refine b_asg e ev_c fun H3 e => ?_
    generalize hP : tplace s xs = P at q2 ⊢
    refine q_while (fun m σ' H' => ∃ i : Nat, m = n - i ∧ i < n ∧ ∃ p : Int, σ' = [some (.ref o), some (.ref a), some (.int p), some (.int (i : Int))] ∧ tspot s n P = i + tspot s (n - i) p ∧ Ex H H') n ⟨0, rfl, hn0, P, rfl, by simp, e⟩ ?_
    rintro m σ' H' ⟨i, rfl, hi, p, rfl, ht, e'⟩
    refine ⟨decide ((i : Int) + 1 < n) && decide (p % s = s - 1), EvT.mono e' (et_and (et_test (ev_op (by walk_at "ev") (hln rfl) rv_I0)) fun _ => et_test (ev_op (ev_op (ev_var rfl) (hsg rfl) (rv_I hs0)) (ev_op (hsg rfl) ev_c rv_I0) rv_eqI)), fun hb H4 e4 => ?_, fun hb H4 e4 => ?_⟩
    · have hb2 : i + 1 < n ∧ p % s = s - 1 := by
        simp at hb
        omega
      refine ⟨fun σ' H' => ∃ i' : Nat, i' = i + 1 ∧ ∃ p' : Int, σ' = [some (.ref o), some (.ref a), some (.int p'), some (.int (i' : Int))] ∧ p' = p / s ∧ Ex H H', ?_, ?_⟩
      · rintro σ2 H2 ⟨_, rfl, _, rfl, rfl, e2⟩
        exact ⟨n - (i + 1), by omega, i + 1, rfl, hb2.1, _, rfl, by rw [ht, tspot_step hb2.1 hb2.2]; omega, e2⟩
      · refine b_asg (e'.trans e4) (v := .int (p / s)) (ev_op (ev_var rfl) (hsg rfl) (rv_I (cdiv_small hs0 (by omega)))) fun H5 e5 => ?_
        refine l_aug (a := (i : Int)) e5 rfl ev_c fun H6 e6 => ⟨i + 1, rfl, _, ?_, rfl, e6⟩
        rfl
    · have hb2 : ¬ (i + 1 < n ∧ p % s = s - 1) := by
        simp at hb
        omega
      rw [tspot_stop hi hb2] at ht
      refine b_retU (e'.trans e4) (eu_tup (by walk_at "ev") (by simp)) fun t H5 nt e5 h5 => ?_
      rw [ht] at q2
      exact q2 t H5 nt e5 h5
/-! #### Listing.leap -/
theorem sc_Listing_leap : FnScope N_Listing_leap P_Listing_leap (defScope s_Listing_leap) := ⟨rfl, rfl, rfl, by decide +kernel, rfl, by decide +kernel, by decide +kernel⟩
def sp_Listing_leap_T (T : Txt K mg) : Sp := fun vs H Q E => ∃ (o a : Addr) (s : Int) (n : Nat) (xs : List Int) (k : Int), vs = [.ref o, .ref a, .int k] ∧ TForm s n ∧ IsT T H o s n ∧ SqL K H a (xs.map V.int) ∧ xs.length ≤ 10000 ∧
  (xs.length = n ∧ Marks s xs → RetL ((trow s n ((tplace s xs + k) % s ^ n)).map V.int) H Q) ∧ (¬ (xs.length = n ∧ Marks s xs) → RetX T.c_NoRow H E)
theorem el_Tleap {T : Txt K mg} {σ : L2.St} {H : Hp} {ta : TE} {tg : TA} {E : XK} {o a : Addr} {s : Int} {n : Nat} {xs : List Int} {k : Int} {dvs ws : List V} (f : TForm s n) (ho : IsT T H o s n) (hx : SqL K H a (xs.map V.int)) (hl : xs.length = n) (hm : Marks s xs) (hv : Ev ta σ H (.ref o)) (ha : EvA tg σ H ws) (hw : ws ++ dvs = [.ref a, .int k]) :
    EvL (tMeth T.c_Turning "leap" (sp_Listing_leap_T T) dvs E ta tg) σ H ((trow s n ((tplace s xs + k) % s ^ n)).map V.int) := by
  obtain ⟨dx, h⟩ := ho
  refine el_meth hv h (tF_no _ _ _ (by decide +kernel) (by decide +kernel) (by decide +kernel)) ha fun H1 e Q q => ?_
  rw [hw]
  exact ⟨o, a, s, n, xs, k, rfl, f, ⟨dx, e _ _ h⟩, ex_l e hx, by have := f.2.2.2; omega, fun _ => q, fun z => absurd ⟨hl, hm⟩ z⟩
theorem er_Tleap {T : Txt K mg} {σ : L2.St} {H : Hp} {ta : TE} {tg : TA} {E : XK} {o a : Addr} {s : Int} {n : Nat} {xs : List Int} {k : Int} {dvs ws : List V} (f : TForm s n) (ho : IsT T H o s n) (hx : SqL K H a (xs.map V.int)) (hl : xs.length ≤ 10000) (hm : ¬ (xs.length = n ∧ Marks s xs)) (he : RetX T.c_NoRow H E) (hv : Ev ta σ H (.ref o)) (ha : EvA tg σ H ws) (hw : ws ++ dvs = [.ref a, .int k]) :
    EvR (tMeth T.c_Turning "leap" (sp_Listing_leap_T T) dvs E ta tg) σ H := by
  obtain ⟨dx, h⟩ := ho
  refine er_meth hv h (tF_no _ _ _ (by decide +kernel) (by decide +kernel) (by decide +kernel)) ha fun H1 e Q => ?_
  rw [hw]
  exact ⟨o, a, s, n, xs, k, rfl, f, ⟨dx, e _ _ h⟩, ex_l e hx, hl, fun z => absurd z hm, fun _ => RetX.mono he e⟩
theorem ok_Listing_leap_T (T : Txt K mg) : FnOk P w K mg base (L2N.CX P w) 3 T.a_Listing_leap T.d_Listing_leap P_Listing_leap (sp_Listing_leap_T T) := by
  have G_Turning_place_of := ok_Turning_place_of (P := P) (w := w) (base := base) T
  have G_Turning_row_at := ok_Turning_row_at (P := P) (w := w) (base := base) T
  refine (T.F_Listing_leap).ok (CX := L2N.CX P w) sc_Listing_leap (fun vs H Q E h => ?len) (fun cdv A outer s H vs Q E hr h => ⟨_, (pss_one (ps_ret (pe_meth (pv 0) T.cl_Turning T.me_Turning_row_at G_Turning_row_at (hr.mono (by decide)) T.b_Turning_row_at .nil (L2N.passes_call (W := fun cls d _ H => E cls d H) (E := E) (L2N.takes_of rfl rfl rfl rfl) (fun _ _ _ _ h => h)) (pa_cons (pe_op op_mod (pe_op op_add (pe_meth (pv 0) T.cl_Turning T.me_Turning_place_of G_Turning_place_of (hr.mono (by decide)) T.b_Turning_place_of .nil (L2N.passes_call (W := fun cls d _ H => E cls d H) (E := E) (L2N.takes_of rfl rfl rfl rfl) (fun _ _ _ _ h => h)) (pa_cons (pv 1) pa_nil)) (pv 2)) (pe_fld (pv 0) (by rfl))) pa_nil)))), ?read⟩)
  case len =>
    obtain ⟨o, a, s, n, xs, k, rfl, _⟩ := h
    rfl
  case read =>
    obtain ⟨o, a, s, n, xs, k, rfl, f, ho, hx, hl, q, qe⟩ := h
    obtain ⟨dx, hO⟩ := id ho
    show tRet _ _ [some (.ref o), some (.ref a), some (.int k)] H
    have m0 : 0 < s ^ n := Int.pow_pos (by have := f.1; omega)
    obtain ⟨r0, r1⟩ := mod_range (tplace s xs + k) m0
    by_cases hr : xs.length = n ∧ Marks s xs
    · refine b_retL (Ex.refl H) (el_trow f ho r0 r1 (ev_var rfl) (ea_cons (ev_op (ev_op (ev_Tplace f ho hx hr.1 hr.2 (ev_var rfl) (by walk_at "ev")) (ev_var rfl) rv_I0) (ev_fld (ev_var rfl) hO T.cl_Turning T.no_Turning_size (tF_size _ _ _)) (rv_I m0)) ea_nil)) (q hr)
    · exact b_retR (Ex.refl H) (er_methA (ev_var rfl) hO (tF_no _ _ _ (by decide +kernel) (by decide +kernel) (by decide +kernel)) (er_cons1 (er_op1 (er_op1 (er_Tplace f ho hx hl hr (qe hr) (ev_var rfl) (by walk_at "ev"))))))
/-! #### Listing.next_row -/
theorem sc_Listing_next_row : FnScope N_Listing_next_row P_Listing_next_row (defScope s_Listing_next_row) := ⟨rfl, rfl, rfl, by decide +kernel, rfl, by decide +kernel, by decide +kernel⟩
def sp_Listing_next_row_T (T : Txt K mg) : Sp := fun vs H Q E => ∃ (o a : Addr) (s : Int) (n : Nat) (xs : List Int), vs = [.ref o, .ref a] ∧ TForm s n ∧ IsT T H o s n ∧ SqL K H a (xs.map V.int) ∧ xs.length ≤ 10000 ∧
  (xs.length = n ∧ Marks s xs → RetL ((trow s n ((tplace s xs + 1) % s ^ n)).map V.int) H Q) ∧ (¬ (xs.length = n ∧ Marks s xs) → RetX T.c_NoRow H E)
theorem el_Tnext {T : Txt K mg} {σ : L2.St} {H : Hp} {ta : TE} {tg : TA} {E : XK} {o a : Addr} {s : Int} {n : Nat} {xs : List Int} (f : TForm s n) (ho : IsT T H o s n) (hx : SqL K H a (xs.map V.int)) (hl : xs.length = n) (hm : Marks s xs) (hv : Ev ta σ H (.ref o)) (ha : EvA tg σ H [.ref a]) :
    EvL (tMeth T.c_Turning "next_row" (sp_Listing_next_row_T T) [] E ta tg) σ H ((trow s n ((tplace s xs + 1) % s ^ n)).map V.int) := by
  obtain ⟨dx, h⟩ := ho
  exact el_meth hv h (tF_no _ _ _ (by decide +kernel) (by decide +kernel) (by decide +kernel)) ha fun H1 e Q q => ⟨o, a, s, n, xs, rfl, f, ⟨dx, e _ _ h⟩, ex_l e hx, by have := f.2.2.2; omega, fun _ => q, fun z => absurd ⟨hl, hm⟩ z⟩
theorem ok_Listing_next_row_T (T : Txt K mg) : FnOk P w K mg base (L2N.CX P w) 4 T.a_Listing_next_row T.d_Listing_next_row P_Listing_next_row (sp_Listing_next_row_T T) := by
  have G_Listing_leap_T := ok_Listing_leap_T (P := P) (w := w) (base := base) T
  refine fun_okN T.F_Listing_next_row sc_Listing_next_row (fun vs H Q E h => ?len) (fun cdv A outer s H vs Q E hr h => ⟨_, (pss_one (ps_ret (pe_meth (pv 0) T.cl_Turning T.me_Turning_leap G_Listing_leap_T (hr.mono (by decide)) T.be_Listing_leap T.ve_Listing_leap (L2N.passes_call (W := fun cls d _ H => E cls d H) (E := E) (L2N.takes_of rfl rfl rfl rfl) (fun _ _ _ _ h => h)) (pa_cons (pv 1) pa_nil)))), ?read⟩)
  case len =>
    obtain ⟨o, a, s, n, xs, rfl, _⟩ := h
    rfl
  case read =>
    obtain ⟨o, a, s, n, xs, rfl, f, ho, hx, hl, q, qe⟩ := h
    show tRet _ _ [some (.ref o), some (.ref a)] H
    by_cases hr : xs.length = n ∧ Marks s xs
    · exact b_retL (Ex.refl H) (el_Tleap (k := 1) f ho hx hr.1 hr.2 (ev_var rfl) (by walk_at "ev") rfl) (q hr)
    · exact b_retR (Ex.refl H) (er_Tleap (k := 1) f ho hx hl hr (qe hr) (ev_var rfl) (by walk_at "ev") rfl)
/-! #### Listing.row_before -/
theorem sc_Listing_row_before : FnScope N_Listing_row_before P_Listing_row_before (defScope s_Listing_row_before) := ⟨rfl, rfl, rfl, by decide +kernel, rfl, by decide +kernel, by decide +kernel⟩
def sp_Listing_row_before_T (T : Txt K mg) : Sp := fun vs H Q E => ∃ (o a : Addr) (s : Int) (n : Nat) (xs : List Int), vs = [.ref o, .ref a] ∧ TForm s n ∧ IsT T H o s n ∧ SqL K H a (xs.map V.int) ∧ xs.length ≤ 10000 ∧
  (xs.length = n ∧ Marks s xs → RetL ((trow s n ((tplace s xs + -1) % s ^ n)).map V.int) H Q) ∧ (¬ (xs.length = n ∧ Marks s xs) → RetX T.c_NoRow H E)
theorem el_Tbefore {T : Txt K mg} {σ : L2.St} {H : Hp} {ta : TE} {tg : TA} {E : XK} {o a : Addr} {s : Int} {n : Nat} {xs : List Int} (f : TForm s n) (ho : IsT T H o s n) (hx : SqL K H a (xs.map V.int)) (hl : xs.length = n) (hm : Marks s xs) (hv : Ev ta σ H (.ref o)) (ha : EvA tg σ H [.ref a]) :
    EvL (tMeth T.c_Turning "row_before" (sp_Listing_row_before_T T) [] E ta tg) σ H ((trow s n ((tplace s xs + -1) % s ^ n)).map V.int) := by
  obtain ⟨dx, h⟩ := ho
  exact el_meth hv h (tF_no _ _ _ (by decide +kernel) (by decide +kernel) (by decide +kernel)) ha fun H1 e Q q => ⟨o, a, s, n, xs, rfl, f, ⟨dx, e _ _ h⟩, ex_l e hx, by have := f.2.2.2; omega, fun _ => q, fun z => absurd ⟨hl, hm⟩ z⟩
theorem ok_Listing_row_before_T (T : Txt K mg) : FnOk P w K mg base (L2N.CX P w) 4 T.a_Listing_row_before T.d_Listing_row_before P_Listing_row_before (sp_Listing_row_before_T T) := by
  have G_Listing_leap_T := ok_Listing_leap_T (P := P) (w := w) (base := base) T
  refine fun_okN T.F_Listing_row_before sc_Listing_row_before (fun vs H Q E h => ?len) (fun cdv A outer s H vs Q E hr h => ⟨_, (pss_one (ps_ret (pe_meth (pv 0) T.cl_Turning T.me_Turning_leap G_Listing_leap_T (hr.mono (by decide)) T.b_Listing_leap .nil (L2N.passes_call (W := fun cls d _ H => E cls d H) (E := E) (L2N.takes_of rfl rfl rfl rfl) (fun _ _ _ _ h => h)) (pa_cons (pv 1) (pa_cons (pe_un un_neg pe_int) pa_nil))))), ?read⟩)
  case len =>
    obtain ⟨o, a, s, n, xs, rfl, _⟩ := h
    rfl
  case read =>
    obtain ⟨o, a, s, n, xs, rfl, f, ho, hx, hl, q, qe⟩ := h
    show tRet _ _ [some (.ref o), some (.ref a)] H
    by_cases hr : xs.length = n ∧ Marks s xs
    · exact b_retL (Ex.refl H) (el_Tleap (k := -1) f ho hx hr.1 hr.2 (ev_var rfl) (by walk_at "ev") rfl) (q hr)
    · exact b_retR (Ex.refl H) (er_Tleap (k := -1) f ho hx hl hr (qe hr) (ev_var rfl) (by walk_at "ev") rfl)
/-! #### Listing.steps_to -/
theorem sc_Listing_steps_to : FnScope N_Listing_steps_to P_Listing_steps_to (defScope s_Listing_steps_to) := ⟨rfl, rfl, rfl, by decide +kernel, rfl, by decide +kernel, by decide +kernel⟩
def sp_Listing_steps_to_T (T : Txt K mg) : Sp := fun vs H Q E => ∃ (o a b : Addr) (s : Int) (n : Nat) (xs ys : List Int), vs = [.ref o, .ref a, .ref b] ∧ TForm s n ∧ IsT T H o s n ∧ SqL K H a (xs.map V.int) ∧ SqL K H b (ys.map V.int) ∧ xs.length ≤ 10000 ∧ ys.length ≤ 10000 ∧
  ((xs.length = n ∧ Marks s xs) ∧ (ys.length = n ∧ Marks s ys) → RetV (.int ((tplace s ys - tplace s xs) % s ^ n)) H Q) ∧ (¬ ((xs.length = n ∧ Marks s xs) ∧ (ys.length = n ∧ Marks s ys)) → RetX T.c_NoRow H E)
theorem ok_Listing_steps_to_T (T : Txt K mg) : FnOk P w K mg base (L2N.CX P w) 3 T.a_Listing_steps_to T.d_Listing_steps_to P_Listing_steps_to (sp_Listing_steps_to_T T) := by
  have G_Turning_place_of := ok_Turning_place_of (P := P) (w := w) (base := base) T
  refine fun_okN T.F_Listing_steps_to sc_Listing_steps_to (fun vs H Q E h => ?len) (fun cdv A outer s H vs Q E hr h => ⟨_, (pss_one (ps_ret (pe_op op_mod (pe_op op_sub (pe_meth (pv 0) T.cl_Turning T.me_Turning_place_of G_Turning_place_of (hr.mono (by decide)) T.b_Turning_place_of .nil (L2N.passes_call (W := fun cls d _ H => E cls d H) (E := E) (L2N.takes_of rfl rfl rfl rfl) (fun _ _ _ _ h => h)) (pa_cons (pv 2) pa_nil)) (pe_meth (pv 0) T.cl_Turning T.me_Turning_place_of G_Turning_place_of (hr.mono (by decide)) T.b_Turning_place_of .nil (L2N.passes_call (W := fun cls d _ H => E cls d H) (E := E) (L2N.takes_of rfl rfl rfl rfl) (fun _ _ _ _ h => h)) (pa_cons (pv 1) pa_nil))) (pe_fld (pv 0) (by rfl))))), ?read⟩)
  case len =>
    obtain ⟨o, a, b, s, n, xs, ys, rfl, _⟩ := h
    rfl
  case read =>
    obtain ⟨o, a, b, s, n, xs, ys, rfl, f, ho, hx, hy, lx, ly, q, qe⟩ := h
    obtain ⟨dx, hO⟩ := id ho
    show tRet _ _ [some (.ref o), some (.ref a), some (.ref b)] H
    have m0 : 0 < s ^ n := Int.pow_pos (by have := f.1; omega)
    by_cases hy1 : ys.length = n ∧ Marks s ys
    · by_cases hx1 : xs.length = n ∧ Marks s xs
      · exact b_ret (Ex.refl H) (ev_op (ev_op (ev_Tplace f ho hy hy1.1 hy1.2 (ev_var rfl) (by walk_at "ev")) (ev_Tplace f ho hx hx1.1 hx1.2 (ev_var rfl) (by walk_at "ev")) rv_I0) (ev_fld (ev_var rfl) hO T.cl_Turning T.no_Turning_size (tF_size _ _ _)) (rv_I m0)) (q ⟨hx1, hy1⟩)
      · exact b_retR (Ex.refl H) (er_op1 (er_op2 (ev_Tplace f ho hy hy1.1 hy1.2 (ev_var rfl) (by walk_at "ev")) (er_Tplace f ho hx lx hx1 (qe fun z => hx1 z.1) (ev_var rfl) (by walk_at "ev"))))
    · exact b_retR (Ex.refl H) (er_op1 (er_op1 (er_Tplace f ho hy ly hy1 (qe fun z => hy1 z.2) (ev_var rfl) (by walk_at "ev"))))
/-! #### Turning.done -/
theorem sc_Turning_done : FnScope N_Turning_done P_Turning_done (defScope s_Turning_done) := ⟨rfl, rfl, rfl, by decide +kernel, rfl, by decide +kernel, by decide +kernel⟩
def sp_Turning_done (T : Txt K mg) : Sp := fun vs H Q E => ∃ (o a : Addr) (s : Int) (n : Nat) (xs : List Int) (v : V) (c : Ch), vs = [.ref o, .ref a, v] ∧ TForm s n ∧ IsT T H o s n ∧ SqL K H a (xs.map V.int) ∧ xs.length ≤ 10000 ∧ ChAt K H v c ∧
  (xs.length = n ∧ Marks s xs → (∀ ys, tmv s n xs 1 c = some ys → RetL (ys.map V.int) H Q) ∧ (tmv s n xs 1 c = none → RetX T.c_NoChange H E)) ∧ (¬ (xs.length = n ∧ Marks s xs) → RetX T.c_NoRow H E)
theorem el_Tdone {T : Txt K mg} {σ : L2.St} {H : Hp} {ta : TE} {tg : TA} {E : XK} {o a : Addr} {s : Int} {n : Nat} {xs ys : List Int} {v : V} {c : Ch} (f : TForm s n) (ho : IsT T H o s n) (hx : SqL K H a (xs.map V.int)) (hl : xs.length = n) (hm : Marks s xs) (hc : ChAt K H v c) (hy : tmv s n xs 1 c = some ys) (hv : Ev ta σ H (.ref o)) (ha : EvA tg σ H [.ref a, v]) :
    EvL (tMeth T.c_Turning "done" (sp_Turning_done T) [] E ta tg) σ H (ys.map V.int) := by
  obtain ⟨dx, h⟩ := ho
  exact el_meth hv h (tF_no _ _ _ (by decide +kernel) (by decide +kernel) (by decide +kernel)) ha fun H1 e Q q => ⟨o, a, s, n, xs, v, c, rfl, f, ⟨dx, e _ _ h⟩, ex_l e hx, by have := f.2.2.2; omega, hc.mono e, fun _ => ⟨fun zs hz => by rw [hy] at hz; cases hz; exact q, fun z => by rw [hy] at z; cases z⟩, fun z => absurd ⟨hl, hm⟩ z⟩
/-- .. the change a tuple made on the way -/
theorem el_TdoneU {T : Txt K mg} {σ : L2.St} {H : Hp} {ta tr tu : TE} {E : XK} {o a : Addr} {s : Int} {n : Nat} {xs ys : List Int} {j : Int} (f : TForm s n) (ho : IsT T H o s n) (hx : SqL K H a (xs.map V.int)) (hl : xs.length = n) (hm : Marks s xs) (hy : tmv s n xs 1 (.turn j) = some ys) (hv : Ev ta σ H (.ref o)) (hr : Ev tr σ H (.ref a)) (hu : EvU tu σ H [.str "turn", .int j]) :
    EvL (tMeth T.c_Turning "done" (sp_Turning_done T) [] E ta (tCons tr (tCons tu tNil))) σ H (ys.map V.int) := by
  obtain ⟨dx, h⟩ := ho
  intro H1 e Q q
  refine hv H1 e _ fun H2 e2 => ⟨o, dx, _, rfl, e2 _ _ (e _ _ h), tF_no _ _ _ (by decide +kernel) (by decide +kernel) (by decide +kernel), ?_⟩
  refine hr H2 (e.trans e2) _ fun H3 e3 => hu H3 ((e.trans e2).trans e3) _ fun p H4 hp e4 h4 => ?_
  have e5 := ((e.trans e2).trans e3).trans e4
  exact ⟨o, a, s, n, xs, .ref p, .turn j, rfl, f, ⟨dx, e5 _ _ h⟩, ex_l e5 hx, by have := f.2.2.2; omega, ⟨p, rfl, st_of h4⟩, fun _ => ⟨fun zs hz => by rw [hy] at hz; cases hz; exact fun p' H5 hp' e5 h5 => q p' H5 (fresh_back ((e2.trans e3).trans e4) hp') (((e2.trans e3).trans e4).trans e5) h5, fun z => by rw [hy] at z; cases z⟩, fun z => absurd ⟨hl, hm⟩ z⟩
theorem ok_Turning_done (T : Txt K mg) : FnOk P w K mg base (L2N.CX P w) 3 T.a_Turning_done T.d_Turning_done P_Turning_done (sp_Turning_done T) := by
  have G_Turning_moved := ok_Turning_moved (P := P) (w := w) (base := base) T
  refine fun_okN T.F_Turning_done sc_Turning_done (fun vs H Q E h => ?len) (fun cdv A outer s H vs Q E hr h => ⟨_, (pss_one (ps_ret (pe_meth (pv 0) T.cl_Turning T.me_Turning_moved G_Turning_moved (hr.mono (by decide)) T.b_Turning_moved .nil (L2N.passes_call (W := fun cls d _ H => E cls d H) (E := E) (L2N.takes_of rfl rfl rfl rfl) (fun _ _ _ _ h => h)) (pa_cons (pv 1) (pa_cons (pv 2) (pa_cons pe_int pa_nil)))))), ?read⟩)
  case len =>
    obtain ⟨o, a, s, n, xs, v, c, rfl, _⟩ := h
    rfl
  case read =>
    obtain ⟨o, a, s, n, xs, v, c, rfl, f, ho, hx, hl, hc, q, qe⟩ := h
    obtain ⟨dx, hO⟩ := id ho
    show tRet _ _ [some (.ref o), some (.ref a), some v] H
    have ha : EvA (tCons (tVar 1) (tCons (tVar 2) (tCons (tC (.int 1)) tNil))) [some (.ref o), some (.ref a), some v] H [.ref a, v, .int 1] := by walk_at "ev"
    refine b_retMeth (Ex.refl H) (ev_var rfl) hO (tF_no _ _ _ (by decide +kernel) (by decide +kernel) (by decide +kernel)) ha fun H3 e => ?_
    refine ⟨o, a, s, n, xs, v, c, 1, rfl, f, ho.mono e, ex_l e hx, hl, hc.mono e, fun hr => ⟨fun ys hy p H4 hp e4 h4 => (q hr).1 ys hy p H4 (fresh_back e hp) (e.trans e4) h4, fun hy => RetX.mono ((q hr).2 hy) e⟩, fun hr => RetX.mono (qe hr) e⟩
/-! #### _law_ask -/
theorem sc_law_ask : FnScope N_law_ask P_law_ask (defScope s_law_ask) := ⟨rfl, rfl, rfl, by decide +kernel, rfl, by decide +kernel, by decide +kernel⟩
theorem okF_T {s : Int} {n : Nat} (f : TForm s n) : (Kd.T s n).ok := ⟨f.1, f.2.1, by have := f.2.2.2; omega⟩
def sp_law_ask_T (T : Txt K mg) : Sp := fun vs H Q E => ∃ (o : Addr) (w : Int) (rv mv : V) (s : Int) (n : Nat), vs = [.ref o, .int w, rv, mv] ∧ TForm s n ∧ IsT T H o s n ∧
  ((∃ (r : Addr) (bs : List Int), (1 ≤ w ∧ w ≤ 9) ∧ rv = .ref r ∧ SqL K H r (bs.map V.int) ∧ bs.length ≤ 10000 ∧ ¬ (Kd.T s n).row bs ∧ (w = 5 → ∃ t, mv = .int t) ∧ (w = 6 ∨ w = 7 → ∃ m xs, mv = .ref m ∧ SqL K H m (xs.map V.int) ∧ (Kd.T s n).row xs) ∧ (8 ≤ w → ∃ c, ChAt K H mv c) ∧ RetX T.c_NoRow H E) ∨
   (∃ p : Int, w = 0 ∧ mv = .int p ∧ ¬ (0 ≤ p ∧ p < (Kd.T s n).sz) ∧ RetX T.c_NoPlace H E) ∨
   (∃ (r : Addr) (xs : List Int) (c : Ch), (w = 8 ∨ w = 9) ∧ rv = .ref r ∧ SqL K H r (xs.map V.int) ∧ (Kd.T s n).row xs ∧ ChAt K H mv c ∧ (∀ ys, tmv s n xs (if w = 8 then 1 else -1) c = some ys → ∀ v H2, Ex H H2 → Q v H2) ∧ (tmv s n xs (if w = 8 then 1 else -1) c = none → RetX T.c_NoChange H E)))
theorem ok_law_ask_T (T : Txt K mg) : FnOk P w K mg base (L2N.CX P w) 5 T.a_law_ask T.d_law_ask P_law_ask (sp_law_ask_T T) := by
  have G_Listing_leap_T := ok_Listing_leap_T (P := P) (w := w) (base := base) T
  have G_Listing_next_row_T := ok_Listing_next_row_T (P := P) (w := w) (base := base) T
  have G_Listing_row_before_T := ok_Listing_row_before_T (P := P) (w := w) (base := base) T
  have G_Listing_steps_to_T := ok_Listing_steps_to_T (P := P) (w := w) (base := base) T
  have G_Turning_change := ok_Turning_change (P := P) (w := w) (base := base) T
  have G_Turning_done := ok_Turning_done (P := P) (w := w) (base := base) T
  have G_Turning_place_of := ok_Turning_place_of (P := P) (w := w) (base := base) T
  have G_Turning_row_at := ok_Turning_row_at (P := P) (w := w) (base := base) T
  have G_Turning_undone := ok_Turning_undone (P := P) (w := w) (base := base) T
  refine fun_okN T.F_law_ask sc_law_ask (fun vs H Q E h => ?len) (fun cdv A outer s H vs Q E hr h => ⟨_, (pss_cons (ps_if (pt_cmpR op_eq (pv 1) pe_int (nomark _)) (pss_one (ps_ret (pe_meth (pv 0) T.cl_Turning T.me_Turning_row_at G_Turning_row_at (hr.mono (by decide)) T.b_Turning_row_at .nil (L2N.passes_call (W := fun cls d _ H => E cls d H) (E := E) (L2N.takes_of rfl rfl rfl rfl) (fun _ _ _ _ h => h)) (pa_cons (pv 3) pa_nil)))) pss_nil)
    (pss_cons (ps_if (pt_cmpR op_eq (pv 1) pe_int (nomark _)) (pss_one (ps_ret (pe_meth (pv 0) T.cl_Turning T.me_Turning_place_of G_Turning_place_of (hr.mono (by decide)) T.b_Turning_place_of .nil (L2N.passes_call (W := fun cls d _ H => E cls d H) (E := E) (L2N.takes_of rfl rfl rfl rfl) (fun _ _ _ _ h => h)) (pa_cons (pv 2) pa_nil)))) pss_nil)
    (pss_cons (ps_if (pt_cmpR op_eq (pv 1) pe_int (nomark _)) (pss_one (ps_ret (pe_meth (pv 0) T.cl_Turning T.me_Turning_change G_Turning_change (hr.mono (by decide)) T.b_Turning_change .nil (L2N.passes_call (W := fun cls d _ H => E cls d H) (E := E) (L2N.takes_of rfl rfl rfl rfl) (fun _ _ _ _ h => h)) (pa_cons (pv 2) pa_nil)))) pss_nil)
    (pss_cons (ps_if (pt_cmpR op_eq (pv 1) pe_int (nomark _)) (pss_one (ps_ret (pe_meth (pv 0) T.cl_Turning T.me_Turning_next_row G_Listing_next_row_T (hr.mono (by decide)) T.b_Listing_next_row .nil (L2N.passes_call (W := fun cls d _ H => E cls d H) (E := E) (L2N.takes_of rfl rfl rfl rfl) (fun _ _ _ _ h => h)) (pa_cons (pv 2) pa_nil)))) pss_nil)
    (pss_cons (ps_if (pt_cmpR op_eq (pv 1) pe_int (nomark _)) (pss_one (ps_ret (pe_meth (pv 0) T.cl_Turning T.me_Turning_row_before G_Listing_row_before_T (hr.mono (by decide)) T.b_Listing_row_before .nil (L2N.passes_call (W := fun cls d _ H => E cls d H) (E := E) (L2N.takes_of rfl rfl rfl rfl) (fun _ _ _ _ h => h)) (pa_cons (pv 2) pa_nil)))) pss_nil)
    (pss_cons (ps_if (pt_cmpR op_eq (pv 1) pe_int (nomark _)) (pss_one (ps_ret (pe_meth (pv 0) T.cl_Turning T.me_Turning_leap G_Listing_leap_T (hr.mono (by decide)) T.b_Listing_leap .nil (L2N.passes_call (W := fun cls d _ H => E cls d H) (E := E) (L2N.takes_of rfl rfl rfl rfl) (fun _ _ _ _ h => h)) (pa_cons (pv 2) (pa_cons (pv 3) pa_nil))))) pss_nil)
    (pss_cons (ps_if (pt_cmpR op_eq (pv 1) pe_int (nomark _)) (pss_one (ps_ret (pe_meth (pv 0) T.cl_Turning T.me_Turning_steps_to G_Listing_steps_to_T (hr.mono (by decide)) T.b_Listing_steps_to .nil (L2N.passes_call (W := fun cls d _ H => E cls d H) (E := E) (L2N.takes_of rfl rfl rfl rfl) (fun _ _ _ _ h => h)) (pa_cons (pv 2) (pa_cons (pv 3) pa_nil))))) pss_nil)
    (pss_cons (ps_if (pt_cmpR op_eq (pv 1) pe_int (nomark _)) (pss_one (ps_ret (pe_meth (pv 0) T.cl_Turning T.me_Turning_steps_to G_Listing_steps_to_T (hr.mono (by decide)) T.b_Listing_steps_to .nil (L2N.passes_call (W := fun cls d _ H => E cls d H) (E := E) (L2N.takes_of rfl rfl rfl rfl) (fun _ _ _ _ h => h)) (pa_cons (pv 3) (pa_cons (pv 2) pa_nil))))) pss_nil)
    (pss_cons (ps_if (pt_cmpR op_eq (pv 1) pe_int (nomark _)) (pss_one (ps_ret (pe_meth (pv 0) T.cl_Turning T.me_Turning_done G_Turning_done (hr.mono (by decide)) T.b_Turning_done .nil (L2N.passes_call (W := fun cls d _ H => E cls d H) (E := E) (L2N.takes_of rfl rfl rfl rfl) (fun _ _ _ _ h => h)) (pa_cons (pv 2) (pa_cons (pv 3) pa_nil))))) pss_nil)
    (pss_one (ps_ret (pe_meth (pv 0) T.cl_Turning T.me_Turning_undone G_Turning_undone (hr.mono (by decide)) T.b_Turning_undone .nil (L2N.passes_call (W := fun cls d _ H => E cls d H) (E := E) (L2N.takes_of rfl rfl rfl rfl) (fun _ _ _ _ h => h)) (pa_cons (pv 2) (pa_cons (pv 3) pa_nil)))))))))))))), ?read⟩)
  case len =>
    obtain ⟨o, w, rv, mv, s, n, rfl, _⟩ := h
    rfl
  case read =>
    obtain ⟨o, w, rv, mv, s, n, rfl, f, ho, hh⟩ := h
    obtain ⟨dx, hO⟩ := id ho
    have hn := Kd.len_le (okF_T f)
    show tSeq _ _ _ [some (.ref o), some (.int w), some rv, some mv] H
    rcases hh with ⟨r, bs, hw, rfl, hx, hl, hm, h5, h67, h8, he⟩ | ⟨p, rfl, rfl, hp, he⟩ | ⟨r, xs, c, hw, rfl, hx, hr, hc, hq, he⟩
    · have hw9 : w = 1 ∨ w = 2 ∨ w = 3 ∨ w = 4 ∨ w = 5 ∨ w = 6 ∨ w = 7 ∨ w = 8 ∨ w = 9 := by omega
      have e := Ex.refl H
      rcases hw9 with rfl | rfl | rfl | rfl | rfl | rfl | rfl | rfl | rfl
      · refine b_skip e (by walk_at "ev") (fun H1 e => ?_) (by decide)
        refine b_when e (by walk_at "ev") (fun _ H1 e => ?_) (fun hb => absurd hb (by decide))
        exact b_retR e (er_meth (ev_var rfl) hO (tF_m _ _ _) (by walk_at "ev") fun H1 e Q => ⟨o, r, s, n, bs, rfl, f, ho.mono e, ex_l e hx, hl, fun z => absurd z hm, fun _ => RetX.mono he e⟩)
      · refine b_skip e (by walk_at "ev") (fun H1 e => ?_) (by decide)
        refine b_skip e (by walk_at "ev") (fun H1 e => ?_) (by decide)
        refine b_when e (by walk_at "ev") (fun _ H1 e => ?_) (fun hb => absurd hb (by decide))
        exact b_retR e (er_meth (ev_var rfl) hO (tF_m _ _ _) (by walk_at "ev") fun H1 e Q => ⟨o, r, s, n, bs, rfl, f, ho.mono e, ex_l e hx, hl, fun z => absurd z hm, fun _ => RetX.mono he e⟩)
      · refine b_skip e (by walk_at "ev") (fun H1 e => ?_) (by decide)
        refine b_skip e (by walk_at "ev") (fun H1 e => ?_) (by decide)
        refine b_skip e (by walk_at "ev") (fun H1 e => ?_) (by decide)
        refine b_when e (by walk_at "ev") (fun _ H1 e => ?_) (fun hb => absurd hb (by decide))
        exact b_retR e (er_meth (ev_var rfl) hO (tF_m _ _ _) (by walk_at "ev") fun H1 e Q => ⟨o, r, s, n, bs, rfl, f, ho.mono e, ex_l e hx, hl, fun z => absurd z hm, fun _ => RetX.mono he e⟩)
      · refine b_skip e (by walk_at "ev") (fun H1 e => ?_) (by decide)
        refine b_skip e (by walk_at "ev") (fun H1 e => ?_) (by decide)
        refine b_skip e (by walk_at "ev") (fun H1 e => ?_) (by decide)
        refine b_skip e (by walk_at "ev") (fun H1 e => ?_) (by decide)
        refine b_when e (by walk_at "ev") (fun _ H1 e => ?_) (fun hb => absurd hb (by decide))
        exact b_retR e (er_meth (ev_var rfl) hO (tF_m _ _ _) (by walk_at "ev") fun H1 e Q => ⟨o, r, s, n, bs, rfl, f, ho.mono e, ex_l e hx, hl, fun z => absurd z hm, fun _ => RetX.mono he e⟩)
      · obtain ⟨t, rfl⟩ := h5 rfl
        refine b_skip e (by walk_at "ev") (fun H1 e => ?_) (by decide)
        refine b_skip e (by walk_at "ev") (fun H1 e => ?_) (by decide)
        refine b_skip e (by walk_at "ev") (fun H1 e => ?_) (by decide)
        refine b_skip e (by walk_at "ev") (fun H1 e => ?_) (by decide)
        refine b_skip e (by walk_at "ev") (fun H1 e => ?_) (by decide)
        refine b_when e (by walk_at "ev") (fun _ H1 e => ?_) (fun hb => absurd hb (by decide))
        exact b_retR e (er_meth (ev_var rfl) hO (tF_m _ _ _) (by walk_at "ev") fun H1 e Q => ⟨o, r, s, n, bs, t, rfl, f, ho.mono e, ex_l e hx, hl, fun z => absurd z hm, fun _ => RetX.mono he e⟩)
      · obtain ⟨m, xs, rfl, hy, hr⟩ := h67 (by decide)
        have hl2 : xs.length ≤ 10000 := by have := Kd.row_len hr; omega
        refine b_skip e (by walk_at "ev") (fun H1 e => ?_) (by decide)
        refine b_skip e (by walk_at "ev") (fun H1 e => ?_) (by decide)
        refine b_skip e (by walk_at "ev") (fun H1 e => ?_) (by decide)
        refine b_skip e (by walk_at "ev") (fun H1 e => ?_) (by decide)
        refine b_skip e (by walk_at "ev") (fun H1 e => ?_) (by decide)
        refine b_skip e (by walk_at "ev") (fun H1 e => ?_) (by decide)
        refine b_when e (by walk_at "ev") (fun _ H1 e => ?_) (fun hb => absurd hb (by decide))
        exact b_retR e (er_meth (ev_var rfl) hO (tF_m _ _ _) (by walk_at "ev") fun H1 e Q => ⟨o, r, m, s, n, bs, xs, rfl, f, ho.mono e, ex_l e hx, ex_l e hy, hl, hl2, fun z => absurd z.1 hm, fun _ => RetX.mono he e⟩)
      · obtain ⟨m, xs, rfl, hy, hr⟩ := h67 (by decide)
        have hl2 : xs.length ≤ 10000 := by have := Kd.row_len hr; omega
        refine b_skip e (by walk_at "ev") (fun H1 e => ?_) (by decide)
        refine b_skip e (by walk_at "ev") (fun H1 e => ?_) (by decide)
        refine b_skip e (by walk_at "ev") (fun H1 e => ?_) (by decide)
        refine b_skip e (by walk_at "ev") (fun H1 e => ?_) (by decide)
        refine b_skip e (by walk_at "ev") (fun H1 e => ?_) (by decide)
        refine b_skip e (by walk_at "ev") (fun H1 e => ?_) (by decide)
        refine b_skip e (by walk_at "ev") (fun H1 e => ?_) (by decide)
        refine b_when e (by walk_at "ev") (fun _ H1 e => ?_) (fun hb => absurd hb (by decide))
        exact b_retR e (er_meth (ev_var rfl) hO (tF_m _ _ _) (by walk_at "ev") fun H1 e Q => ⟨o, m, r, s, n, xs, bs, rfl, f, ho.mono e, ex_l e hy, ex_l e hx, hl2, hl, fun z => absurd z.2 hm, fun _ => RetX.mono he e⟩)
      · obtain ⟨c, hc⟩ := h8 (by decide)
        refine b_skip e (by walk_at "ev") (fun H1 e => ?_) (by decide)
        refine b_skip e (by walk_at "ev") (fun H1 e => ?_) (by decide)
        refine b_skip e (by walk_at "ev") (fun H1 e => ?_) (by decide)
        refine b_skip e (by walk_at "ev") (fun H1 e => ?_) (by decide)
        refine b_skip e (by walk_at "ev") (fun H1 e => ?_) (by decide)
        refine b_skip e (by walk_at "ev") (fun H1 e => ?_) (by decide)
        refine b_skip e (by walk_at "ev") (fun H1 e => ?_) (by decide)
        refine b_skip e (by walk_at "ev") (fun H1 e => ?_) (by decide)
        refine b_when e (by walk_at "ev") (fun _ H1 e => ?_) (fun hb => absurd hb (by decide))
        exact b_retR e (er_meth (ev_var rfl) hO (tF_m _ _ _) (by walk_at "ev") fun H1 e Q => ⟨o, r, s, n, bs, mv, c, rfl, f, ho.mono e, ex_l e hx, hl, hc.mono e, fun z => absurd z hm, fun _ => RetX.mono he e⟩)
      · obtain ⟨c, hc⟩ := h8 (by decide)
        refine b_skip e (by walk_at "ev") (fun H1 e => ?_) (by decide)
        refine b_skip e (by walk_at "ev") (fun H1 e => ?_) (by decide)
        refine b_skip e (by walk_at "ev") (fun H1 e => ?_) (by decide)
        refine b_skip e (by walk_at "ev") (fun H1 e => ?_) (by decide)
        refine b_skip e (by walk_at "ev") (fun H1 e => ?_) (by decide)
        refine b_skip e (by walk_at "ev") (fun H1 e => ?_) (by decide)
        refine b_skip e (by walk_at "ev") (fun H1 e => ?_) (by decide)
        refine b_skip e (by walk_at "ev") (fun H1 e => ?_) (by decide)
        refine b_skip e (by walk_at "ev") (fun H1 e => ?_) (by decide)
        exact b_retR e (er_meth (ev_var rfl) hO (tF_m _ _ _) (by walk_at "ev") fun H1 e Q => ⟨o, r, s, n, bs, mv, c, rfl, f, ho.mono e, ex_l e hx, hl, hc.mono e, fun z => absurd z hm, fun _ => RetX.mono he e⟩)
    · have e := Ex.refl H
      refine b_when e (by walk_at "ev") (fun _ H1 e => ?_) (fun hb => absurd hb (by decide))
      exact b_retR e (er_meth (ev_var rfl) hO (tF_m _ _ _) (by walk_at "ev") fun H1 e Q => ⟨o, s, n, p, rfl, f, ho.mono e, fun z => absurd z hp, fun _ => RetX.mono he e⟩)
    · have hl : xs.length ≤ 10000 := by have := Kd.row_len hr; omega
      have e := Ex.refl H
      rcases hw with rfl | rfl
      · refine b_skip e (by walk_at "ev") (fun H1 e => ?_) (by decide)
        refine b_skip e (by walk_at "ev") (fun H1 e => ?_) (by decide)
        refine b_skip e (by walk_at "ev") (fun H1 e => ?_) (by decide)
        refine b_skip e (by walk_at "ev") (fun H1 e => ?_) (by decide)
        refine b_skip e (by walk_at "ev") (fun H1 e => ?_) (by decide)
        refine b_skip e (by walk_at "ev") (fun H1 e => ?_) (by decide)
        refine b_skip e (by walk_at "ev") (fun H1 e => ?_) (by decide)
        refine b_skip e (by walk_at "ev") (fun H1 e => ?_) (by decide)
        refine b_when e (by walk_at "ev") (fun _ H1 e => ?_) (fun hb => absurd hb (by decide))
        refine b_retMeth e (ev_var rfl) hO (tF_m _ _ _) (by walk_at "ev" : EvA (tCons (tVar 2) (tCons (tVar 3) tNil)) [some (.ref o), some (.int 8), some (.ref r), some mv] H [.ref r, mv]) fun H3 e => ?_
        exact ⟨o, r, s, n, xs, mv, c, rfl, f, ho.mono e, ex_l e hx, hl, hc.mono e, fun _ => ⟨fun ys hy p H4 hp e4 h4 => hq ys hy (.ref p) H4 (e.trans e4), fun hy => RetX.mono (he hy) e⟩, fun z => absurd hr z⟩
      · refine b_skip e (by walk_at "ev") (fun H1 e => ?_) (by decide)
        refine b_skip e (by walk_at "ev") (fun H1 e => ?_) (by decide)
        refine b_skip e (by walk_at "ev") (fun H1 e => ?_) (by decide)
        refine b_skip e (by walk_at "ev") (fun H1 e => ?_) (by decide)
        refine b_skip e (by walk_at "ev") (fun H1 e => ?_) (by decide)
        refine b_skip e (by walk_at "ev") (fun H1 e => ?_) (by decide)
        refine b_skip e (by walk_at "ev") (fun H1 e => ?_) (by decide)
        refine b_skip e (by walk_at "ev") (fun H1 e => ?_) (by decide)
        refine b_skip e (by walk_at "ev") (fun H1 e => ?_) (by decide)
        refine b_retMeth e (ev_var rfl) hO (tF_m _ _ _) (by walk_at "ev" : EvA (tCons (tVar 2) (tCons (tVar 3) tNil)) [some (.ref o), some (.int 9), some (.ref r), some mv] H [.ref r, mv]) fun H3 e => ?_
        exact ⟨o, r, s, n, xs, mv, c, rfl, f, ho.mono e, ex_l e hx, hl, hc.mono e, fun _ => ⟨fun ys hy p H4 hp e4 h4 => hq ys hy (.ref p) H4 (e.trans e4), fun hy => RetX.mono (he hy) e⟩, fun z => absurd hr z⟩
/-! #### _law_refused -/
theorem sc_law_refused : FnScope N_law_refused P_law_refused (defScope s_law_refused) := ⟨rfl, rfl, rfl, by decide +kernel, rfl, by decide +kernel, by decide +kernel⟩
theorem s_callS {σ : L2.St} {H : Hp} {sp : Sp} {Er : L2.St → XK} {tg : TA} {D : Ends} {vs : List V} (ha : EvA tg σ H vs) (hs : ∀ H2, Ex H H2 → sp vs H2 (fun _ H3 => D.nx σ H3) (Er σ)) : tDrop (tCallS sp Er tg) D σ H :=
  ha H (Ex.refl H) _ fun H2 e2 => hs H2 e2
def sp_law_refused_T (T : Txt K mg) : Sp := fun vs H Q _ => ∃ (o : Addr) (w : Int) (rv mv : V) (s : Int) (n : Nat), vs = [.ref o, .int w, rv, mv] ∧ TForm s n ∧ IsT T H o s n ∧
  ((∃ (r : Addr) (bs : List Int), (1 ≤ w ∧ w ≤ 9) ∧ rv = .ref r ∧ SqL K H r (bs.map V.int) ∧ bs.length ≤ 10000 ∧ ¬ (Kd.T s n).row bs ∧ (w = 5 → ∃ t, mv = .int t) ∧ (w = 6 ∨ w = 7 → ∃ m xs, mv = .ref m ∧ SqL K H m (xs.map V.int) ∧ (Kd.T s n).row xs) ∧ (8 ≤ w → ∃ c, ChAt K H mv c) ∧ RetL [.int 0, .int 3] H Q) ∨
   (∃ p : Int, w = 0 ∧ mv = .int p ∧ ¬ (0 ≤ p ∧ p < (Kd.T s n).sz) ∧ RetL [.int 0, .int 2] H Q) ∨
   (∃ (r : Addr) (xs : List Int) (c : Ch), (w = 8 ∨ w = 9) ∧ rv = .ref r ∧ SqL K H r (xs.map V.int) ∧ (Kd.T s n).row xs ∧ ChAt K H mv c ∧ (∀ ys, tmv s n xs (if w = 8 then 1 else -1) c = some ys → RetL [] H Q) ∧ (tmv s n xs (if w = 8 then 1 else -1) c = none → RetL [.int 0, .int 4] H Q)))
theorem ok_law_refused_T (T : Txt K mg) : FnOk P w K mg base CX0 6 T.a_law_refused T.d_law_refused P_law_refused (sp_law_refused_T T) := by
  have G_law_ask_T := ok_law_ask_T (P := P) (w := w) (base := base) T
  have G_law_which := ok_law_which (P := P) (w := w) (base := base) T
  refine (T.F_law_refused).ok sc_law_refused (fun vs H Q E h => ?len) (fun cdv A outer s H vs Q E hr h => ⟨_, (pss_cons (L2N.ps_try_as (i := 4) rfl rfl sc_law_refused.nd rfl rfl ⟨rfl, by decide, .inl T.m_RowError⟩ takes0N (fun W pn xe tk _ => (pss_one (ps_expr (pe_callS G_law_ask_T (hr.mono (by decide)) (by rfl) T.m_law_ask T.F_law_ask.kp T.b_law_ask (fun σ => L2N.passAt tk σ) (pa_cons (pv 0) (pa_cons (pv 1) (pa_cons (pv 2) (pa_cons (pv 3) pa_nil)))))))) (fun a oe cls dd pn hz hf => (pss_one (ps_ret (pe_which G_law_which hr hz hf (by rfl) T.m_law_which T.F_law_which.kp T.b_law_which (pv 4))))))
    (pss_one (ps_ret (pe_lst pa_nil)))), ?read⟩)
  case len =>
    obtain ⟨o, w, rv, mv, s, n, rfl, _⟩ := h
    rfl
  case read =>
    obtain ⟨o, w, rv, mv, s, n, rfl, f, ho, hh⟩ := h
    have fin : ∀ {xs : List V} {H2 : Hp}, Ex H H2 → RetL xs H Q → RetL xs H2 Q := fun e q p H3 hp e3 h3 => q p H3 (fresh_back e hp) (e.trans e3) h3
    rcases hh with ⟨r, bs, hw, rfl, hx, hl, hm, h5, h67, h8, q⟩ | ⟨p, rfl, rfl, hp, q⟩ | ⟨r, xs, c, hw, rfl, hx, hr, hc, q1, q2⟩
    · refine s_callS (vs := [.ref o, .int w, .ref r, mv]) (by walk_at "ev") fun H2 e2 => ⟨o, w, _, mv, s, n, rfl, f, ho.mono e2, .inl ⟨r, bs, hw, rfl, ex_l e2 hx, hl, hm, h5, fun z => ?_, fun z => ?_, fun H3 e3 => ⟨true, T.er_NoRow.row, fun _ a _ => ⟨T.c_NoRow, rfl, rfl, rfl, 3, by decide, by decide, T.er_NoRow, fin (e2.trans e3) q⟩, fun z => by cases z⟩⟩⟩
      · obtain ⟨m, xs, h1, h2, h3⟩ := h67 z
        exact ⟨m, xs, h1, ex_l e2 h2, h3⟩
      · obtain ⟨c, h1⟩ := h8 z
        exact ⟨c, h1.mono e2⟩
    · exact s_callS (vs := [.ref o, .int 0, rv, .int p]) (by walk_at "ev") fun H2 e2 => ⟨o, 0, _, _, s, n, rfl, f, ho.mono e2, .inr (.inl ⟨p, rfl, rfl, hp, fun H3 e3 => ⟨true, T.er_NoPlace.row, fun _ a _ => ⟨T.c_NoPlace, rfl, rfl, rfl, 2, by decide, by decide, T.er_NoPlace, fin (e2.trans e3) q⟩, fun z => by cases z⟩⟩)⟩
    · exact s_callS (vs := [.ref o, .int w, .ref r, mv]) (by walk_at "ev") fun H2 e2 => ⟨o, w, _, mv, s, n, rfl, f, ho.mono e2, .inr (.inr ⟨r, xs, c, hw, rfl, ex_l e2 hx, hr, hc.mono e2,
        fun ys hy v H3 e3 => s_retL (σ := [some (.ref o), some (.int w), some (.ref r), some mv, none]) (el_lst ea_nil (by simp)) fun p H4 hp e4 h4 => q1 ys hy p H4 (fresh_back (e2.trans e3) hp) ((e2.trans e3).trans e4) h4,
        fun hy H3 e3 => ⟨true, T.er_NoChange.row, fun _ a _ => ⟨T.c_NoChange, rfl, rfl, rfl, 4, by decide, by decide, T.er_NoChange, fin (e2.trans e3) (q2 hy)⟩, fun z => by cases z⟩⟩)⟩
/-! #### _law_rows -/
theorem sc_law_rows : FnScope N_law_rows P_law_rows (defScope s_law_rows) := ⟨rfl, rfl, rfl, by decide +kernel, rfl, by decide +kernel, by decide +kernel⟩
theorem el_refB_T {T : Txt K mg} {σ : L2.St} {H : Hp} {tg : TA} {E : XK} {o r : Addr} {w : Int} {mv : V} {s : Int} {n : Nat} {bs : List Int} (f : TForm s n) (ho : IsT T H o s n) (hw : 1 ≤ w ∧ w ≤ 9) (hx : SqL K H r (bs.map V.int)) (hl : bs.length ≤ 10000) (hm : ¬ (Kd.T s n).row bs) (h5 : w = 5 → ∃ t, mv = .int t) (h67 : w = 6 ∨ w = 7 → ∃ m xs, mv = .ref m ∧ SqL K H m (xs.map V.int) ∧ (Kd.T s n).row xs) (h8 : 8 ≤ w → ∃ c, ChAt K H mv c)
    (ha : EvA tg σ H [.ref o, .int w, .ref r, mv]) : EvL (tCall (sp_law_refused_T T) [] E tg) σ H [.int 0, .int 3] :=
  el_callF ha fun H1 e Q q => ⟨o, w, _, mv, s, n, rfl, f, ho.mono e, .inl ⟨r, bs, hw, rfl, ex_l e hx, hl, hm, h5, fun z => let ⟨m, xs, h1, h2, h3⟩ := h67 z; ⟨m, xs, h1, ex_l e h2, h3⟩, fun z => let ⟨c, h1⟩ := h8 z; ⟨c, h1.mono e⟩, q⟩⟩
def sp_law_rows_T (T : Txt K mg) : Sp := fun vs H Q _ => ∃ (o r b : Addr) (t : Int) (cv : V) (c : Ch) (s : Int) (n : Nat) (xs bs : List Int), vs = [.ref o, .ref r, .ref b, .int t, cv] ∧ TForm s n ∧ IsT T H o s n ∧ H r = some (.lst (xs.map V.int)) ∧ (Kd.T s n).row xs ∧ H b = some (.lst (bs.map V.int)) ∧ bs.length ≤ 10000 ∧ ¬ (Kd.T s n).row bs ∧ ChAt K H cv c ∧ RetV (.bl true) H Q
theorem ev_rows_T {T : Txt K mg} {σ : L2.St} {H : Hp} {tg : TA} {E : XK} {o r b : Addr} {t : Int} {cv : V} {c : Ch} {s : Int} {n : Nat} {xs bs : List Int} (f : TForm s n) (ho : IsT T H o s n) (hr : H r = some (.lst (xs.map V.int))) (hx : (Kd.T s n).row xs) (hb : H b = some (.lst (bs.map V.int))) (hl : bs.length ≤ 10000) (hm : ¬ (Kd.T s n).row bs) (hc : ChAt K H cv c)
    (ha : EvA tg σ H [.ref o, .ref r, .ref b, .int t, cv]) : Ev (tCall (sp_law_rows_T T) [] E tg) σ H (.bl true) :=
  ev_callF ha fun H1 e Q q => ⟨o, r, b, t, cv, c, s, n, xs, bs, rfl, f, ho.mono e, e _ _ hr, hx, e _ _ hb, hl, hm, hc.mono e, q⟩
theorem ok_law_rows_T (T : Txt K mg) : FnOk P w K mg base CX0 7 T.a_law_rows T.d_law_rows P_law_rows (sp_law_rows_T T) := by
  have G_law_refused_T := ok_law_refused_T (P := P) (w := w) (base := base) T
  refine (T.F_law_rows).ok sc_law_rows (fun vs H Q E h => ?len) (fun cdv A outer s H vs Q E hr h => ⟨_, (pss_cons (ps_set (i := 5) sc_law_rows.nd rfl (Or.inl rfl) (pe_callTy call_list_of (by rfl) T.g_list boot_list (pa_cons (pv 2) pa_nil)))
    (pss_cons (ps_for PassesOwn.never rfl (pi_range2 rfl T.g_range (pa_cons pe_int (pa_cons pe_int pa_nil))) (pg_name (i := 6) sc_law_rows.nd rfl (Or.inl rfl)) (pss_cons (ps_set (i := 7) sc_law_rows.nd rfl (Or.inl rfl) (pv 3))
    (pss_cons (ps_if (PW.pt (pw_or (pt_cmpR op_eq (pv 6) pe_int (nomark _)) (pw_or1 (pt_cmpR op_eq (pv 6) pe_int (nomark _))))) (pss_one (ps_set (i := 7) sc_law_rows.nd rfl (Or.inl rfl) (pe_callTy call_list_of (by rfl) T.g_list boot_list (pa_cons (pv 1) pa_nil)))) pss_nil)
    (pss_cons (ps_if (pt_cmpR op_ge (pv 6) pe_int (nomark _)) (pss_one (ps_set (i := 7) sc_law_rows.nd rfl (Or.inl rfl) (pv 4))) pss_nil)
    (pss_one (ps_if (PW.pt (pw_or (pt_cmpR (op_neD hr.units) (pe_call G_law_refused_T (hr.mono (by decide)) (by rfl) T.m_law_refused T.F_law_refused.kp T.b_law_refused .nil pass0 (pa_cons (pv 0) (pa_cons (pv 6) (pa_cons (pv 2) (pa_cons (pv 7) pa_nil))))) (pe_lst (pa_cons pe_int (pa_cons pe_int pa_nil))) (nomark _)) (pw_or1 (pt_cmpR (op_neD hr.units) (pv 2) (pv 5) (nomark _))))) (pss_one (ps_ret pe_bl)) pss_nil))))))
    (pss_one (ps_ret pe_bl)))), ?read⟩)
  case len =>
    obtain ⟨o, r, b, t, cv, c, s, n, xs, bs, rfl, _⟩ := h
    rfl
  case read =>
    obtain ⟨o, r, b, t, cv, c, s, n, xs, bs, rfl, f, ho, hr, hx, hb, hl, hm, hc, q⟩ := h
    show tSeq _ _ _ [some (.ref o), some (.ref r), some (.ref b), some (.int t), some cv, none, none, none] H
    refine b_asgL (Ex.refl H) (el_list (ev_var rfl) (sq_of hb)) fun k H1 nk e hk => ?_
    refine q_forR2 (lo := 1) (n := 10) (by walk_at "ev") (by decide) (fun i σ' H' => ∃ (u1 u2 : Option V), σ' = [some (.ref o), some (.ref r), some (.ref b), some (.int t), some cv, some (.ref k), u1, u2] ∧ Ex H1 H') (fun H' e' => ⟨none, none, rfl, e'⟩) ?_ ?_
    · rintro i σ' H2 hi ⟨u1, u2, rfl, e2⟩
      show tSeq _ _ _ [some (.ref o), some (.ref r), some (.ref b), some (.int t), some cv, some (.ref k), some (.int (1 + (i : Int))), u2] H2
      have ho2 := (ho.mono e).mono e2
      have hr2 := e2 _ _ (e _ _ hr)
      have hb2 := e2 _ _ (e _ _ hb)
      have hk2 := e2 _ _ hk
      have hc2 := (hc.mono e).mono e2
      refine b_asg (Ex.refl H2) (ev_var rfl) fun H3 e3 => ?_
      show tSeq _ _ _ [some (.ref o), some (.ref r), some (.ref b), some (.int t), some cv, some (.ref k), some (.int (1 + (i : Int))), some (.int t)] H3
      refine b_when (b := decide (1 + (i : Int) = 6) || decide (1 + (i : Int) = 7)) e3 (et_or (by walk_at "ev") fun _ => by walk_at "ev") (fun hb3 H4 e4 => ?_) (fun hb3 H4 e4 => ?_)
      · have hw : 1 + (i : Int) = 6 ∨ 1 + (i : Int) = 7 := by simpa using hb3
        refine e_asgL e4 (el_list (ev_var rfl) (sq_of hr2)) fun m H5 nm e5 hm5 => ?_
        have e25 := e5
        show tSeq _ _ _ [some (.ref o), some (.ref r), some (.ref b), some (.int t), some cv, some (.ref k), some (.int (1 + (i : Int))), some (.ref m)] H5
        refine b_skip (b := decide ((8 : Int) ≤ 1 + (i : Int))) (Ex.refl H5) (by walk_at "ev") (fun H6 e6 => ?_) (decide_eq_false (by omega))
        have f5 := e25.trans e6
        refine l_when (b := !decide (([0, 3] : List Int) = [0, 3]) || !decide (bs = bs)) (Ex.refl H6) (et_or (et_test (ev_opLL (xs := [.int 0, .int 3]) (ys := [.int 0, .int 3]) (el_refB_T (w := 1 + (i : Int)) f (ho2.mono f5) (by omega) (ex_l f5 (sq_of hb2)) hl hm (fun z => by omega) (fun z => ⟨m, xs, rfl, ex_l e6 (sq_of hm5), hx⟩) (fun z => by omega) (by walk_at "ev")) (el_lst (by walk_at "ev") (by simp)) fun p q H1 hp hq e => rv_neL (xs := [0, 3]) (ys := [0, 3]) (sq_of hp) (sq_of hq))) fun _ => et_test (ev_op (ev_var rfl) (ev_var rfl) (rv_neL (ex_l f5 (sq_of hb2)) (sq_of (f5 _ _ hk2))))) (fun hb => by simp at hb) (fun _ H9 e9 => ⟨_, _, rfl, (e2.trans f5).trans e9⟩)
      · have hw : ¬ (1 + (i : Int) = 6 ∨ 1 + (i : Int) = 7) := by simpa using hb3
        refine b_when (b := decide ((8 : Int) ≤ 1 + (i : Int))) e4 (by walk_at "ev") (fun hb4 H5 e5 => ?_) (fun hb4 H5 e5 => ?_)
        · have h8 : (8 : Int) ≤ 1 + (i : Int) := of_decide_eq_true hb4
          refine e_asg e5 (v := cv) (ev_var rfl) fun H6 e6 => ?_
          show tIfS _ _ _ _ [some (.ref o), some (.ref r), some (.ref b), some (.int t), some cv, some (.ref k), some (.int (1 + (i : Int))), some cv] H6
          have f5 := e6
          refine l_when (b := !decide (([0, 3] : List Int) = [0, 3]) || !decide (bs = bs)) (Ex.refl H6) (et_or (et_test (ev_opLL (xs := [.int 0, .int 3]) (ys := [.int 0, .int 3]) (el_refB_T (w := 1 + (i : Int)) f (ho2.mono f5) (by omega) (ex_l f5 (sq_of hb2)) hl hm (fun z => by omega) (fun z => by omega) (fun z => ⟨c, hc2.mono f5⟩) (by walk_at "ev")) (el_lst (by walk_at "ev") (by simp)) fun p q H1 hp hq e => rv_neL (xs := [0, 3]) (ys := [0, 3]) (sq_of hp) (sq_of hq))) fun _ => et_test (ev_op (ev_var rfl) (ev_var rfl) (rv_neL (ex_l f5 (sq_of hb2)) (sq_of (f5 _ _ hk2))))) (fun hb => by simp at hb) (fun _ H9 e9 => ⟨_, _, rfl, (e2.trans f5).trans e9⟩)
        · have h8 : ¬ (8 : Int) ≤ 1 + (i : Int) := of_decide_eq_false hb4
          have f5 := e5
          refine l_when (b := !decide (([0, 3] : List Int) = [0, 3]) || !decide (bs = bs)) (Ex.refl H5) (et_or (et_test (ev_opLL (xs := [.int 0, .int 3]) (ys := [.int 0, .int 3]) (el_refB_T (w := 1 + (i : Int)) f (ho2.mono f5) (by omega) (ex_l f5 (sq_of hb2)) hl hm (fun z => ⟨t, rfl⟩) (fun z => absurd z hw) (fun z => absurd z h8) (by walk_at "ev")) (el_lst (by walk_at "ev") (by simp)) fun p q H1 hp hq e => rv_neL (xs := [0, 3]) (ys := [0, 3]) (sq_of hp) (sq_of hq))) fun _ => et_test (ev_op (ev_var rfl) (ev_var rfl) (rv_neL (ex_l f5 (sq_of hb2)) (sq_of (f5 _ _ hk2))))) (fun hb => by simp at hb) (fun _ H9 e9 => ⟨_, _, rfl, (e2.trans f5).trans e9⟩)
    · rintro σ' H' ⟨u1, u2, rfl, e'⟩
      exact b_ret (Ex.refl H') (v := .bl true) ev_c fun H9 e9 => q H9 ((e.trans e').trans e9)
/-! #### _law_changes -/
theorem sc_law_changes : FnScope N_law_changes P_law_changes (defScope s_law_changes) := ⟨rfl, rfl, rfl, by decide +kernel, rfl, by decide +kernel, by decide +kernel⟩
theorem el_refX_T {T : Txt K mg} {σ : L2.St} {H : Hp} {E : XK} {o : Addr} {t0 tr tc : TE} {w d : Int} {cv : V} {c : Ch} {s : Int} {n : Nat} {xs : List Int} (f : TForm s n) (ho : IsT T H o s n) (hx : (Kd.T s n).row xs) (hc : ChAt K H cv c) (hw : (w = 8 ∧ d = 1) ∨ (w = 9 ∧ d = -1))
    (h0 : Ev t0 σ H (.ref o)) (h1 : EvL tr σ H (xs.map V.int)) (h2 : Ev tc σ H cv) : EvL (tCall (sp_law_refused_T T) [] E (tCons t0 (tCons (tC (.int w)) (tCons tr (tCons tc tNil))))) σ H (if (tmv s n xs d c).isSome = true then [] else [V.int 0, V.int 4]) := fun H1 e Q q => by
  have hd : (if w = 8 then (1 : Int) else -1) = d := by
    rcases hw with ⟨rfl, rfl⟩ | ⟨rfl, rfl⟩
    · rfl
    · rfl
  exact h0 H1 e _ fun H2 e2 => h1 H2 (e.trans e2) _ fun p H3 hp e3 h3 => h2 H3 ((e.trans e2).trans e3) _ fun H4 e4 => ⟨o, w, .ref p, cv, s, n, rfl, f, ho.mono (((e.trans e2).trans e3).trans e4), .inr (.inr ⟨p, xs, c, by omega, rfl, sq_of (e4 _ _ h3), hx, hc.mono (((e.trans e2).trans e3).trans e4), fun ys hy => by
    rw [hd] at hy
    rw [hy] at q
    exact RetL.back q ((e2.trans e3).trans e4), fun hy => by
    rw [hd] at hy
    rw [hy] at q
    exact RetL.back q ((e2.trans e3).trans e4)⟩)⟩
def sp_law_changes_T (T : Txt K mg) : Sp := fun vs H Q _ => ∃ (o r l m : Addr) (s : Int) (n : Nat) (xs : List Int) (us ws : List V) (cs : List Ch), vs = [.ref o, .ref r, .ref l, .ref m] ∧ TForm s n ∧ IsT T H o s n ∧ H r = some (.lst (xs.map V.int)) ∧ (Kd.T s n).row xs ∧ H l = some (.lst us) ∧ TupsAt H us (cs.map chV) ∧ (∀ c ∈ cs, c ≠ .non) ∧
  H m = some (.lst ws) ∧ TupsAt H ws (cs.map fun c => fitV ((tmv s n xs 1 c).isSome, (tmv s n xs (-1) c).isSome)) ∧ cs.length ≤ 100 ∧ RetV (.bl true) H Q
theorem ev_changes_T {T : Txt K mg} {σ : L2.St} {H : Hp} {tg : TA} {E : XK} {o r l m : Addr} {s : Int} {n : Nat} {xs : List Int} {us ws : List V} {cs : List Ch} (f : TForm s n) (ho : IsT T H o s n) (hr : H r = some (.lst (xs.map V.int))) (hx : (Kd.T s n).row xs) (hl : H l = some (.lst us)) (ht : TupsAt H us (cs.map chV)) (hn : ∀ c ∈ cs, c ≠ .non)
    (hm : H m = some (.lst ws)) (hf : TupsAt H ws (cs.map fun c => fitV ((tmv s n xs 1 c).isSome, (tmv s n xs (-1) c).isSome))) (hz : cs.length ≤ 100) (ha : EvA tg σ H [.ref o, .ref r, .ref l, .ref m]) : Ev (tCall (sp_law_changes_T T) [] E tg) σ H (.bl true) :=
  ev_callF ha fun H1 e Q q => ⟨o, r, l, m, s, n, xs, us, ws, cs, rfl, f, ho.mono e, e _ _ hr, hx, e _ _ hl, ht.mono e, hn, e _ _ hm, hf.mono e, hz, q⟩
theorem ok_law_changes_T (T : Txt K mg) : FnOk P w K mg base CX0 7 T.a_law_changes T.d_law_changes P_law_changes (sp_law_changes_T T) := by
  have G_law_refused_T := ok_law_refused_T (P := P) (w := w) (base := base) T
  refine (T.F_law_changes).ok sc_law_changes (fun vs H Q E h => ?len) (fun cdv A outer s H vs Q E hr h => ⟨_, (pss_cons (ps_for PassesOwn.never rfl (pi_range1 rfl T.g_range (pa_cons (pe_callB call_len_seq (by rfl) T.g_len boot_len (pa_cons (pv 2) pa_nil)) pa_nil)) (pg_name (i := 4) sc_law_changes.nd rfl (Or.inl rfl)) (pss_cons (ps_set (i := 5) sc_law_changes.nd rfl (Or.inl rfl) (pe_lst (pa_cons (pe_lst (pa_cons pe_int (pa_cons pe_int pa_nil))) (pa_cons (pe_lst pa_nil) pa_nil))))
    (pss_cons (ps_if (pt_cmpR (op_neD hr.units) (pe_call G_law_refused_T (hr.mono (by decide)) (by rfl) T.m_law_refused T.F_law_refused.kp T.b_law_refused .nil pass0 (pa_cons (pv 0) (pa_cons pe_int (pa_cons (pe_callTy call_list_of (by rfl) T.g_list boot_list (pa_cons (pv 1) pa_nil)) (pa_cons (pe_ix ix_list (pv 2) (pv 4) (fun _ _ => rfl)) pa_nil))))) (pe_ix ix_list (pv 5) (pe_callTy call_int1 (by rfl) T.g_int boot_int (pa_cons (pe_ix ix_tup (pe_ix ix_list (pv 3) (pv 4) (fun _ _ => rfl)) pe_int (fun _ _ => rfl)) pa_nil)) (fun _ _ => rfl)) (nomark _)) (pss_one (ps_ret pe_bl)) pss_nil)
    (pss_one (ps_if (pt_cmpR (op_neD hr.units) (pe_call G_law_refused_T (hr.mono (by decide)) (by rfl) T.m_law_refused T.F_law_refused.kp T.b_law_refused .nil pass0 (pa_cons (pv 0) (pa_cons pe_int (pa_cons (pe_callTy call_list_of (by rfl) T.g_list boot_list (pa_cons (pv 1) pa_nil)) (pa_cons (pe_ix ix_list (pv 2) (pv 4) (fun _ _ => rfl)) pa_nil))))) (pe_ix ix_list (pv 5) (pe_callTy call_int1 (by rfl) T.g_int boot_int (pa_cons (pe_ix ix_tup (pe_ix ix_list (pv 3) (pv 4) (fun _ _ => rfl)) pe_int (fun _ _ => rfl)) pa_nil)) (fun _ _ => rfl)) (nomark _)) (pss_one (ps_ret pe_bl)) pss_nil)))))
    (pss_one (ps_ret pe_bl))), ?read⟩)
  case len =>
    obtain ⟨o, r, l, m, s, n, xs, us, ws, cs, rfl, _⟩ := h
    rfl
  case read =>
    obtain ⟨o, r, l, m, s, n, xs, us, ws, cs, rfl, f, ho, hr, hx, hl, ht, hn, hm, hf, hz, q⟩ := h
    show tSeq _ _ _ [some (.ref o), some (.ref r), some (.ref l), some (.ref m), none, none] H
    have hul : us.length = cs.length := by rw [ht.len, List.length_map]
    refine b_forR1 (n := (cs.length : Int)) (Ex.refl H) (ea_cons (ev_is (ev_len (ev_var rfl) (sq_of hl)) (by rw [hul])) ea_nil) (by omega) (by omega) (fun i σ' H' => ∃ u1 u2, σ' = [some (.ref o), some (.ref r), some (.ref l), some (.ref m), u1, u2] ∧ Ex H H') (fun H1 e1 => ⟨none, none, rfl, e1⟩) ?_ ?_
    · rintro i σ' H' hi ⟨u1, u2, rfl, e'⟩
      have hi2 : i < cs.length := by omega
      obtain ⟨c, hc⟩ : ∃ c, cs[i]? = some c := ⟨cs[i], List.getElem?_eq_getElem hi2⟩
      obtain ⟨t, h1, h2⟩ := ht.get (i := i) (xs := chV c) (by rw [List.getElem?_map, hc]; rfl)
      obtain ⟨t2, h3, h4⟩ := hf.get (i := i) (xs := fitV ((tmv s n xs 1 c).isSome, (tmv s n xs (-1) c).isSome)) (by rw [List.getElem?_map, hc]; rfl)
      have hcn := hn c (List.mem_of_getElem? hc)
      show tSeq _ _ _ [some (.ref o), some (.ref r), some (.ref l), some (.ref m), some (.int (i : Int)), u2] H'
      refine b_asgLL (xs := [.int 0, .int 4]) (ys := []) e' (el_lst (by walk_at "ev") (by simp)) (el_lst ea_nil (by simp)) fun p a b H1 np e1 hp ha hb => ?_
      show tSeq _ _ _ [some (.ref o), some (.ref r), some (.ref l), some (.ref m), some (.int (i : Int)), some (.ref p)] H1
      have hl1 := e1 _ _ hl
      have hm1 := e1 _ _ hm
      have hr1 := e1 _ _ hr
      have hc1 : ChAt K H1 (.ref t) c := ch_at hcn (e1 _ _ h2)
      have h41 := e1 _ _ h4
      have ix : ∀ B : Bool, atI [V.ref a, V.ref b] (if B = true then 1 else 0) = some (V.ref (if B = true then b else a)) := fun B => by cases B <;> rfl
      refine b_skip (b := false) (Ex.refl H1) (et_due (a := a) (b := b) (el_refX_T (w := 8) (d := 1) (cv := .ref t) (c := c) f (ho.mono e1) hx hc1 (.inl ⟨rfl, rfl⟩) (ev_var rfl) (el_list (ev_var rfl) (sq_of hr1)) (ev_op (ev_var rfl) (ev_var rfl) (rv_ixL (sq_of hl1) (atI_nat h1)))) (ev_op (ev_var rfl) (ev_cbv (vs := [.bl (tmv s n xs 1 c).isSome]) (ea_cons (ev_op (ev_op (ev_var rfl) (ev_var rfl) (rv_ixL (sq_of hm1) (atI_nat h3))) ev_c (rv_ixT (st_of h41) (at_of (j := 0) rfl rfl))) ea_nil) fun H1 _ Q q => .inr ⟨_, rfl, q⟩) (rv_ixL (sq_of hp) (ix _))) ha hb) (fun H2 e2 => ?_)
      refine l_when (b := false) e2 (et_due (a := a) (b := b) (el_refX_T (w := 9) (d := -1) (cv := .ref t) (c := c) f (ho.mono e1) hx hc1 (.inr ⟨rfl, rfl⟩) (ev_var rfl) (el_list (ev_var rfl) (sq_of hr1)) (ev_op (ev_var rfl) (ev_var rfl) (rv_ixL (sq_of hl1) (atI_nat h1)))) (ev_op (ev_var rfl) (ev_cbv (vs := [.bl (tmv s n xs (-1) c).isSome]) (ea_cons (ev_op (ev_op (ev_var rfl) (ev_var rfl) (rv_ixL (sq_of hm1) (atI_nat h3))) ev_c (rv_ixT (st_of h41) (at_of (j := 1) rfl rfl))) ea_nil) fun H1 _ Q q => .inr ⟨_, rfl, q⟩) (rv_ixL (sq_of hp) (ix _))) ha hb) (fun hb => by cases hb) (fun _ H9 e9 => ⟨_, _, rfl, e1.trans e9⟩)
    · rintro σ' H' ⟨u1, u2, rfl, e'⟩
      exact b_ret e' (v := .bl true) ev_c q
/-! #### _law_places -/
theorem sc_law_places : FnScope N_law_places P_law_places (defScope s_law_places) := ⟨rfl, rfl, rfl, by decide +kernel, rfl, by decide +kernel, by decide +kernel⟩
theorem el_refP_T {T : Txt K mg} {σ : L2.St} {H : Hp} {tg : TA} {E : XK} {o : Addr} {rv : V} {p : Int} {s : Int} {n : Nat} (f : TForm s n) (ho : IsT T H o s n) (hp : ¬ (0 ≤ p ∧ p < (Kd.T s n).sz)) (ha : EvA tg σ H [.ref o, .int 0, rv, .int p]) : EvL (tCall (sp_law_refused_T T) [] E tg) σ H [.int 0, .int 2] :=
  el_callF ha fun H1 e Q q => ⟨o, 0, rv, _, s, n, rfl, f, ho.mono e, .inr (.inl ⟨p, rfl, rfl, hp, q⟩)⟩
def sp_law_places_T (T : Txt K mg) : Sp := fun vs H Q _ => ∃ (o : Addr) (z : Int) (s : Int) (n : Nat), vs = [.ref o, .int (Kd.T s n).sz, .int z] ∧ 0 ≤ z ∧ TForm s n ∧ IsT T H o s n ∧ RetV (.bl true) H Q
theorem ev_places_T {T : Txt K mg} {σ : L2.St} {H : Hp} {tg : TA} {E : XK} {o : Addr} {z : Int} {s : Int} {n : Nat} (f : TForm s n) (hz : 0 ≤ z) (ho : IsT T H o s n) (ha : EvA tg σ H [.ref o, .int (Kd.T s n).sz, .int z]) : Ev (tCall (sp_law_places_T T) [] E tg) σ H (.bl true) :=
  ev_callF ha fun H1 e Q q => ⟨o, z, s, n, rfl, hz, f, ho.mono e, q⟩
theorem ok_law_places_T (T : Txt K mg) : FnOk P w K mg base CX0 7 T.a_law_places T.d_law_places P_law_places (sp_law_places_T T) := by
  have G_law_refused_T := ok_law_refused_T (P := P) (w := w) (base := base) T
  refine (T.F_law_places).ok sc_law_places (fun vs H Q E h => ?len) (fun cdv A outer s H vs Q E hr h => ⟨_, (pss_cons (ps_for PassesOwn.never rfl (pi_list (pe_lst (pa_cons (pe_op op_sub (pe_un un_neg pe_int) (pv 2)) (pa_cons (pe_op op_add (pv 1) (pv 2)) pa_nil)))) (pg_name (i := 3) sc_law_places.nd rfl (Or.inl rfl)) (pss_one (ps_if (pt_cmpR (op_neD hr.units) (pe_call G_law_refused_T (hr.mono (by decide)) (by rfl) T.m_law_refused T.F_law_refused.kp T.b_law_refused .nil pass0 (pa_cons (pv 0) (pa_cons pe_int (pa_cons pe_non (pa_cons (pv 3) pa_nil))))) (pe_lst (pa_cons pe_int (pa_cons pe_int pa_nil))) (nomark _)) (pss_one (ps_ret pe_bl)) pss_nil)))
    (pss_one (ps_ret pe_bl))), ?read⟩)
  case len =>
    obtain ⟨o, z, s, n, rfl, _⟩ := h
    rfl
  case read =>
    obtain ⟨o, z, s, n, rfl, hz, f, ho, q⟩ := h
    show tSeq _ _ _ [some (.ref o), some (.int (Kd.T s n).sz), some (.int z), none] H
    have m0 := Kd.sz_pos (okF_T f)
    refine b_forNLn (vs := ([-1 - z, (Kd.T s n).sz + z] : List Int).map V.int) (Ex.refl H) (el_lst (ea_cons (ev_op (ev_un0 ev_c) (ev_var rfl) rv_I0) (ea_cons (by walk_at "ev") ea_nil)) (by simp)) (fun p i σ' H' => ∃ u, σ' = [some (.ref o), some (.int (Kd.T s n).sz), some (.int z), u] ∧ Ex H H' ∧ H' p = some (.lst (([-1 - z, (Kd.T s n).sz + z] : List Int).map V.int))) (fun p H' np e' h' => ⟨none, rfl, e', h'⟩) (fun p i σ' H' _ ⟨_, _, _, h'⟩ => sq_of h') ?_ ?_
    · rintro p i x σ' H' hi ⟨u, rfl, e', hp⟩
      obtain ⟨y, hi2, rfl, hy⟩ := int_item hi
      have hbad : ¬ (0 ≤ y ∧ y < (Kd.T s n).sz) := by
        have hmem := List.getElem_mem hi2
        rw [hy] at hmem
        simp at hmem
        omega
      show tIfS _ _ _ _ [some (.ref o), some (.int (Kd.T s n).sz), some (.int z), some (.int y)] H'
      refine l_when (b := !decide (([0, 2] : List Int) = [0, 2])) (Ex.refl H') (et_test (ev_opLL (xs := [.int 0, .int 2]) (ys := [.int 0, .int 2]) (el_refP_T f (ho.mono e') hbad (by walk_at "ev")) (el_lst (by walk_at "ev") (by simp)) fun p q H1 hp hq e => rv_neL (xs := [0, 2]) (ys := [0, 2]) (sq_of hp) (sq_of hq))) (fun hb => by simp at hb) (fun _ H9 e9 => ⟨_, rfl, e'.trans e9, e9 _ _ hp⟩)
    · rintro p σ' H' ⟨u, rfl, e', hp⟩
      exact b_ret e' (v := .bl true) ev_c q
/-! #### Listing.many -/
theorem sc_Listing_many : FnScope N_Listing_many P_Listing_many (defScope s_Listing_many) := ⟨rfl, rfl, rfl, by decide +kernel, rfl, by decide +kernel, by decide +kernel⟩
def sp_Listing_many (_ : Txt K mg) : Sp := fun vs H Q _ => ∃ (o C dx : Addr) (fs : List (Str × V)) (z : Int), vs = [.ref o] ∧ Cls K C ∧ NoAttr K C "size" ∧ H o = some (.ins C dx fs) ∧ fs.lookup ("size" : Str) = some (V.int z) ∧ RetV (.int z) H Q
theorem ev_many {T : Txt K mg} {σ : L2.St} {H : Hp} {ta : TE} {E : XK} {o C dx : Addr} {fs : List (Str × V)} {z : Int} (hv : Ev ta σ H (.ref o)) (ho : H o = some (.ins C dx fs)) (hc : Cls K C) (hn : NoAttr K C "size") (hl : fs.lookup ("size" : Str) = some (V.int z)) (hm : fs.lookup ("many" : Str) = none) :
    Ev (tMeth C "many" (sp_Listing_many T) [] E ta tNil) σ H (.int z) := ev_meth hv ho hm ea_nil fun H1 e Q q => ⟨o, C, dx, fs, z, rfl, hc, hn, e _ _ ho, hl, q⟩
theorem ok_Listing_many (T : Txt K mg) : FnOk P w K mg base CX0 1 T.a_Listing_many T.d_Listing_many P_Listing_many (sp_Listing_many T) := by
  refine (T.F_Listing_many).ok sc_Listing_many (fun vs H Q E h => ?len) (fun cdv A outer s H vs Q E hr h => ⟨_, (pss_one (ps_ret (pe_fld (pv 0) (by rfl)))), ?read⟩)
  case len =>
    obtain ⟨o, C, dx, fs, z, rfl, _⟩ := h
    rfl
  case read =>
    obtain ⟨o, C, dx, fs, z, rfl, hc, hn, ho, hl, q⟩ := h
    exact b_ret (Ex.refl H) (ev_fld (ev_var rfl) ho hc hn hl) q
/-! #### _law_swaps -/
theorem sc_law_swaps : FnScope N_law_swaps P_law_swaps (defScope s_law_swaps) := ⟨rfl, rfl, rfl, by decide +kernel, rfl, by decide +kernel, by decide +kernel⟩
/-- the four swaps of a script -/
def swp4 (ns : List Int) (n : Nat) (z : Int) : List (Int × Int) :=
  [(cell ns 8 % (3 * n + 2) - n - 1, cell ns 9 % (3 * n + 2) - n - 1), (cell ns 10 % (if (n : Int) > 1 then (n : Int) else 1), cell ns 11 % (if (n : Int) > 1 then (n : Int) else 1)), (-1 - z, cell ns 12 % (n + 1)), (cell ns 12 % (n + 1), n + z)]
def prV (c : Int × Int) : List V := [.int c.1, .int c.2]
def sp_law_swaps (T : Txt K mg) : Sp := fun vs H Q _ => ∃ (a : Addr) (ns : List Int) (n : Nat) (z : Int), vs = [.ref a, .int n, .int z] ∧ SqL K H a (ns.map V.int) ∧ n ≤ 200 ∧ RetLU ((swp4 ns n z).map prV) H Q
theorem elu_swaps {T : Txt K mg} {σ : L2.St} {H : Hp} {tg : TA} {E : XK} {a : Addr} {ns : List Int} {n : Nat} {z : Int} (hS : SqL K H a (ns.map V.int)) (hn : n ≤ 200) (ha : EvA tg σ H [.ref a, .int n, .int z]) : EvLU (tCall (sp_law_swaps T) [] E tg) σ H ((swp4 ns n z).map prV) :=
  elu_call ha fun H1 e Q q => ⟨a, ns, n, z, rfl, ex_l e hS, hn, q⟩
theorem ok_law_swaps (T : Txt K mg) : FnOk P w K mg base CX0 2 T.a_law_swaps T.d_law_swaps P_law_swaps (sp_law_swaps T) := by
  have G_law_cell_at := ok_law_cell_at (P := P) (w := w) (base := base) T
  refine (T.F_law_swaps).ok sc_law_swaps (fun vs H Q E h => ?len) (fun cdv A outer s H vs Q E hr h => ⟨_, (pss_cons (ps_set (i := 3) sc_law_swaps.nd rfl (Or.inl rfl) (pe_op op_add (pe_op op_mul pe_int (pv 1)) pe_int))
    (pss_cons (ps_set (i := 4) sc_law_swaps.nd rfl (Or.inl rfl) (pe_lst (pa_cons (pe_tup (pa_cons (pe_op op_sub (pe_op op_sub (pe_op op_mod (pe_call G_law_cell_at (hr.mono (by decide)) (by rfl) T.m_law_cell_at T.F_law_cell_at.kp T.b_law_cell_at .nil pass0 (pa_cons (pv 0) (pa_cons pe_int pa_nil))) (pv 3)) (pv 1)) pe_int) (pa_cons (pe_op op_sub (pe_op op_sub (pe_op op_mod (pe_call G_law_cell_at (hr.mono (by decide)) (by rfl) T.m_law_cell_at T.F_law_cell_at.kp T.b_law_cell_at .nil pass0 (pa_cons (pv 0) (pa_cons pe_int pa_nil))) (pv 3)) (pv 1)) pe_int) pa_nil))) pa_nil)))
    (pss_cons (ps_expr (pe_bm PySem.F.plainAttrs_list PySem.F.slot_list_append PySem.F.type_list_append mt_append (pv 4) (pa_cons (pe_tup (pa_cons (pe_op op_mod (pe_call G_law_cell_at (hr.mono (by decide)) (by rfl) T.m_law_cell_at T.F_law_cell_at.kp T.b_law_cell_at .nil pass0 (pa_cons (pv 0) (pa_cons pe_int pa_nil))) (pe_callB (call_max2 rfl) (by rfl) T.g_max boot_max (pa_cons pe_int (pa_cons (pv 1) pa_nil)))) (pa_cons (pe_op op_mod (pe_call G_law_cell_at (hr.mono (by decide)) (by rfl) T.m_law_cell_at T.F_law_cell_at.kp T.b_law_cell_at .nil pass0 (pa_cons (pv 0) (pa_cons pe_int pa_nil))) (pe_callB (call_max2 rfl) (by rfl) T.g_max boot_max (pa_cons pe_int (pa_cons (pv 1) pa_nil)))) pa_nil))) pa_nil)))
    (pss_cons (ps_expr (pe_bm PySem.F.plainAttrs_list PySem.F.slot_list_append PySem.F.type_list_append mt_append (pv 4) (pa_cons (pe_tup (pa_cons (pe_op op_sub (pe_un un_neg pe_int) (pv 2)) (pa_cons (pe_op op_mod (pe_call G_law_cell_at (hr.mono (by decide)) (by rfl) T.m_law_cell_at T.F_law_cell_at.kp T.b_law_cell_at .nil pass0 (pa_cons (pv 0) (pa_cons pe_int pa_nil))) (pe_op op_add (pv 1) pe_int)) pa_nil))) pa_nil)))
    (pss_cons (ps_expr (pe_bm PySem.F.plainAttrs_list PySem.F.slot_list_append PySem.F.type_list_append mt_append (pv 4) (pa_cons (pe_tup (pa_cons (pe_op op_mod (pe_call G_law_cell_at (hr.mono (by decide)) (by rfl) T.m_law_cell_at T.F_law_cell_at.kp T.b_law_cell_at .nil pass0 (pa_cons (pv 0) (pa_cons pe_int pa_nil))) (pe_op op_add (pv 1) pe_int)) (pa_cons (pe_op op_add (pv 1) (pv 2)) pa_nil))) pa_nil)))
    (pss_one (ps_ret (pv 4)))))))), ?read⟩)
  case len =>
    obtain ⟨a, ns, n, z, rfl, _⟩ := h
    rfl
  case read =>
    obtain ⟨a, ns, n, z, rfl, hS, hn, q⟩ := h
    show tSeq _ _ _ [some (.ref a), some (.int n), some (.int z), none, none] H
    generalize hW : (3 * (n : Int) + 2) = W
    have hW0 : 0 < W := by omega
    generalize hM : (if (n : Int) > 1 then (n : Int) else 1) = M
    have hM0 : 0 < M := by
      rw [← hM]
      split <;> omega
    have hN0 : 0 < (n : Int) + 1 := by omega
    have hq : (swp4 ns n z).map prV = [[.int (cell ns 8 % W - n - 1), .int (cell ns 9 % W - n - 1)], [.int (cell ns 10 % M), .int (cell ns 11 % M)], [.int (-1 - z), .int (cell ns 12 % (n + 1))], [.int (cell ns 12 % (n + 1)), .int (n + z)]] := by
      rw [← hW, ← hM]
      rfl
    rw [hq] at q
    refine b_asg (Ex.refl H) (v := .int W) (by rw [← hW]; walk_at "ev") fun H1 e1 => ?_
    show tSeq _ _ _ [some (.ref a), some (.int n), some (.int z), some (.int W), none] H1
    have c1 : ∀ {k : Int} {σ : L2.St} {H2 : Hp}, Ex H H2 → 0 ≤ k → σ[0]? = some (some (V.ref a)) → Ev (tCall (sp_law_cell_at T) [] E0 (tCons (tVar 0) (tCons (tC (.int k)) tNil))) σ H2 (.int (cell ns k)) := fun e h0 h => ev_cell (ea_cons (ev_var h) (ea_cons ev_c ea_nil)) (ex_l e hS) h0
    refine b_asgLU (xss := [[.int (cell ns 8 % W - n - 1), .int (cell ns 9 % W - n - 1)]]) e1 (elu_lst (eau_cons (eu_tup (ea_cons (ev_op (ev_op (ev_op (c1 (Ex.refl H) (by decide) rfl) (ev_var rfl) (rv_I hW0)) (ev_var rfl) rv_I0) ev_c rv_I0) (ea_cons (ev_op (ev_op (ev_op (c1 (Ex.refl H) (by decide) rfl) (ev_var rfl) (rv_I hW0)) (ev_var rfl) rv_I0) ev_c rv_I0) ea_nil)) (by simp)) eau_nil) (by simp)) fun l vs H2 nl e2 h2 t2 => ?_
    show tSeq _ _ _ [some (.ref a), some (.int n), some (.int z), some (.int W), some (.ref l)] H2
    have mx : ∀ {σ : L2.St} {H2 : Hp}, σ[1]? = some (some (V.int n)) → Ev (tCB rMax2 (tCons (tC (.int 1)) (tCons (tVar 1) tNil))) σ H2 (.int M) := fun h => ev_is (ev_max2 ev_c (ev_var h)) (congrArg V.int hM)
    refine b_appU (H0 := H) e2 nl h2 t2 (ev_var rfl) (eu_tup (ea_cons (ev_op (c1 e2 (by decide) rfl) (mx rfl) (rv_I hM0)) (ea_cons (ev_op (c1 e2 (by decide) rfl) (mx rfl) (rv_I hM0)) ea_nil)) (by simp)) (by simp) fun us H3 e3 h3 t3 => ?_
    refine b_appU (H0 := H) e3 nl h3 t3 (ev_var rfl) (eu_tup (ea_cons (by walk_at "ev") (ea_cons (ev_op (c1 e3 (by decide) rfl) (by walk_at "ev") (rv_I hN0)) ea_nil)) (by simp)) (by simp) fun us4 H4 e4 h4 t4 => ?_
    refine b_appU (H0 := H) e4 nl h4 t4 (ev_var rfl) (eu_tup (ea_cons (ev_op (c1 e4 (by decide) rfl) (by walk_at "ev") (rv_I hN0)) (ea_cons (by walk_at "ev") ea_nil)) (by simp)) (by simp) fun us5 H5 e5 h5 t5 => ?_
    exact s_ret (ev_var rfl) fun H6 e6 => q l us5 H6 nl (e5.trans e6) (e6 _ _ h5) (t5.mono e6)
/-! #### _law_turning -/
theorem sc_law_turning : FnScope N_law_turning P_law_turning (defScope s_law_turning) := ⟨rfl, rfl, rfl, by decide +kernel, rfl, by decide +kernel, by decide +kernel⟩
theorem et_yes {σ : L2.St} {H : Hp} : EvT tYes σ H true := fun H1 _ _ q => q H1 (Ex.refl H1)
theorem given_all (n : Nat) (g : Nat → Int) : given n (fun _ => true) (fun t => V.int (g t)) = ((List.range n).map g).map V.int := by
  unfold given
  rw [List.filter_eq_self.mpr (fun _ _ => rfl), List.map_map]
  rfl
/-- a pair's swap -/
def swV (xs : List V) : List V := [.str "swap", xs.getD 0 .non, xs.getD 1 .non]
theorem eu_swap {σ : L2.St} {H : Hp} {j : Nat} {t : Addr} {x y : Int} (h : H t = some (.tup [.int x, .int y])) (hj : σ[j]? = some (some (V.ref t))) : EvU (tTup (tCons (tC (.str "swap")) (tCons (tOp (rIxT K) (tVar j) (tC (.int 0))) (tCons (tOp (rIxT K) (tVar j) (tC (.int 1))) tNil)))) σ H [.str "swap", .int x, .int y] :=
  eu_tup (ea_cons ev_c (ea_cons (ev_op (ev_var hj) ev_c (rv_ixT (st_of h) (at_of (j := 0) rfl rfl))) (ea_cons (ev_op (ev_var hj) ev_c (rv_ixT (st_of h) (at_of (j := 1) rfl rfl))) ea_nil))) (by simp)
theorem cut_two (vs : List V) : cutV vs none (some ((2 : Nat) : Int)) = vs.take 2 := by
  unfold cutV
  rw [HT.sIx_none, HT.sIx_nat, List.drop_zero, Nat.sub_zero]
  by_cases h : 2 ≤ vs.length
  · rw [Nat.min_eq_left h]
  · rw [Nat.min_eq_right (by omega), List.take_of_length_le (Nat.le_refl _), List.take_of_length_le (by omega)]
def sp_law_turning (T : Txt K mg) : Sp := fun vs H Q _ => ∃ (a : Addr) (ns : List Int) (n : Nat) (s z : Int), vs = [.ref a, .int n, .int s, .int z] ∧ SqL K H a (ns.map V.int) ∧ TForm s n ∧ 0 ≤ z ∧ RetV (.bl true) H Q
theorem ev_turning {T : Txt K mg} {σ : L2.St} {H : Hp} {tg : TA} {E : XK} {a : Addr} {ns : List Int} {n : Nat} {s z : Int} (hS : SqL K H a (ns.map V.int)) (f : TForm s n) (hz : 0 ≤ z) (ha : EvA tg σ H [.ref a, .int n, .int s, .int z]) : Ev (tCall (sp_law_turning T) [] E tg) σ H (.bl true) :=
  ev_callF ha fun H1 e Q q => ⟨a, ns, n, s, z, rfl, ex_l e hS, f, hz, q⟩
theorem ok_law_turning (T : Txt K mg) : FnOk P w K mg base CX0 8 T.a_law_turning T.d_law_turning P_law_turning (sp_law_turning T) := by
  have G_Listing_many := ok_Listing_many (P := P) (w := w) (base := base) T
  have G_Turning___init__ := ok_Turning___init__ (P := P) (w := w) (base := base) T
  have G_Turning_place_of := ok_Turning_place_of (P := P) (w := w) (base := base) T
  have G_law_bad_row := ok_law_bad_row (P := P) (w := w) (base := base) T
  have G_law_cell_at := ok_law_cell_at (P := P) (w := w) (base := base) T
  have G_law_changes_T := ok_law_changes_T (P := P) (w := w) (base := base) T
  have G_law_places_T := ok_law_places_T (P := P) (w := w) (base := base) T
  have G_law_rows_T := ok_law_rows_T (P := P) (w := w) (base := base) T
  have G_law_swaps := ok_law_swaps (P := P) (w := w) (base := base) T
  refine (T.F_law_turning).ok sc_law_turning (fun vs H Q E h => ?len) (fun cdv A outer s H vs Q E hr h => ⟨_, (pss_cons (ps_setLc (i := 4) (own := [("_law_k", 5)]) (g := (gName 5)) rfl sc_law_turning.nd rfl rfl (sw_true rfl rfl rfl (by decide +kernel)) (pi_range1 rfl T.g_range (pa_cons (pv 1) pa_nil)) (blkOk_by (N := N_law_turning) (sc := defScope s_law_turning) (by decide +kernel)) (fun _ _ _ _ _ => pg_name (i := 5) sc_law_turning.nd rfl (Or.inl rfl)) (fun _ _ _ _ _ => pts_nil) (fun _ _ _ _ _ => (pe_op op_mod (pe_op op_fdivW (pe_call G_law_cell_at (hr.mono (by decide)) (by rfl) T.m_law_cell_at T.F_law_cell_at.kp T.b_law_cell_at .nil pass0 (pa_cons (pv 0) (pa_cons (pe_op op_add pe_int (pe_op op_mod (pv 5) pe_int)) pa_nil))) (pe_op op_add pe_int (pe_op op_mul (pe_op op_fdivW (pv 5) pe_int) pe_int))) (pv 2))))
    (pss_cons (ps_set (i := 6) sc_law_turning.nd rfl (Or.inl rfl) (pe_make T.mk_Turning G_Turning___init__ (hr.mono (by decide)) (by rfl) T.m_Turning T.b_Turning___init__ .nil passLN (pa_cons (pv 2) (pa_cons (pv 1) pa_nil))))
    (pss_cons (ps_set (i := 7) sc_law_turning.nd rfl (Or.inl rfl) (pe_meth (pv 6) T.cl_Turning T.me_Turning_place_of G_Turning_place_of (hr.mono (by decide)) T.b_Turning_place_of .nil passLN (pa_cons (pe_callTy call_list_of (by rfl) T.g_list boot_list (pa_cons (pv 4) pa_nil)) pa_nil)))
    (pss_cons (ps_set (i := 8) sc_law_turning.nd rfl (Or.inl rfl) (pe_call G_law_bad_row (hr.mono (by decide)) (by rfl) T.m_law_bad_row T.F_law_bad_row.kp T.b_law_bad_row .nil pass0 (pa_cons (pv 4) (pa_cons (pe_call G_law_cell_at (hr.mono (by decide)) (by rfl) T.m_law_cell_at T.F_law_cell_at.kp T.b_law_cell_at .nil pass0 (pa_cons (pv 0) (pa_cons pe_int pa_nil))) (pa_cons (pv 2) (pa_cons (pv 3) pa_nil))))))
    (pss_cons (ps_set (i := 9) sc_law_turning.nd rfl (Or.inl rfl) (pe_lst (pa_cons (pe_tup (pa_cons pe_str (pa_cons (pe_op op_sub (pe_un un_neg pe_int) (pv 3)) pa_nil))) (pa_cons (pe_tup (pa_cons pe_str (pa_cons (pe_op op_add (pv 1) (pv 3)) pa_nil))) pa_nil))))
    (pss_cons (ps_set (i := 9) sc_law_turning.nd rfl (Or.inl rfl) (pe_op op_cat (pv 9) (pe_lc (own := [("_law_pair", 10)]) (g := (gName 10)) rfl sc_law_turning.nd (pi_list (pe_slice sl_list (pe_call G_law_swaps (hr.mono (by decide)) (by rfl) T.m_law_swaps T.F_law_swaps.kp T.b_law_swaps .nil pass0 (pa_cons (pv 0) (pa_cons (pv 1) (pa_cons (pv 3) pa_nil)))) po_none (po_some pe_int))) (blkOk_by (N := N_law_turning) (sc := defScope s_law_turning) (by decide +kernel)) (fun _ _ _ _ _ => pg_name (i := 10) sc_law_turning.nd rfl (Or.inl rfl)) (fun _ _ _ _ _ => pts_nil) (fun _ _ _ _ _ => (pe_tup (pa_cons pe_str (pa_cons (pe_ix (ix_tupK (K := K)) (pv 10) pe_int (fun _ _ => rfl)) (pa_cons (pe_ix (ix_tupK (K := K)) (pv 10) pe_int (fun _ _ => rfl)) pa_nil))))))))
    (pss_cons (ps_setLc (i := 11) (own := [("_law_k", 5)]) (g := (gName 5)) rfl sc_law_turning.nd rfl rfl (sw_true rfl rfl rfl (by decide +kernel)) (pi_range1 rfl T.g_range (pa_cons pe_int pa_nil)) (blkOk_by (N := N_law_turning) (sc := defScope s_law_turning) (by decide +kernel)) (fun _ _ _ _ _ => pg_name (i := 5) sc_law_turning.nd rfl (Or.inl rfl)) (fun _ _ _ _ _ => pts_nil) (fun _ _ _ _ _ => (pe_tup (pa_cons pe_bl (pa_cons pe_bl pa_nil)))))
    (pss_cons (ps_if (pt_not (pt_val (pe_call G_law_rows_T (hr.mono (by decide)) (by rfl) T.m_law_rows T.F_law_rows.kp T.b_law_rows .nil pass0 (pa_cons (pv 6) (pa_cons (pv 4) (pa_cons (pv 8) (pa_cons (pv 3) (pa_cons (pe_ix ix_list (pv 9) (pe_op op_mod (pe_call G_law_cell_at (hr.mono (by decide)) (by rfl) T.m_law_cell_at T.F_law_cell_at.kp T.b_law_cell_at .nil pass0 (pa_cons (pv 0) (pa_cons pe_int pa_nil))) pe_int) (fun _ _ => rfl)) pa_nil)))))))) (pss_one (ps_ret pe_bl)) pss_nil)
    (pss_cons (ps_if (PW.pt (pw_or (pt_not (pt_val (pe_call G_law_rows_T (hr.mono (by decide)) (by rfl) T.m_law_rows T.F_law_rows.kp T.b_law_rows .nil pass0 (pa_cons (pv 6) (pa_cons (pv 4) (pa_cons (pv 8) (pa_cons (pe_un un_neg (pv 3)) (pa_cons pe_non pa_nil)))))))) (pw_or1 (pt_not (pt_val (pe_call G_law_places_T (hr.mono (by decide)) (by rfl) T.m_law_places T.F_law_places.kp T.b_law_places .nil pass0 (pa_cons (pv 6) (pa_cons (pe_meth0 (pv 6) T.cl_Turning T.me_Turning_many G_Listing_many (hr.mono (by decide)) T.b_Listing_many .nil pass0) (pa_cons (pv 3) pa_nil))))))))) (pss_one (ps_ret pe_bl)) pss_nil)
    (pss_one (ps_ret (pe_and (pe_call G_law_changes_T (hr.mono (by decide)) (by rfl) T.m_law_changes T.F_law_changes.kp T.b_law_changes .nil pass0 (pa_cons (pv 6) (pa_cons (pv 4) (pa_cons (pv 9) (pa_cons (pv 11) pa_nil))))) (pe_one (pe_cmpR op_eq (pe_meth (pv 6) T.cl_Turning T.me_Turning_place_of G_Turning_place_of (hr.mono (by decide)) T.b_Turning_place_of .nil passLN (pa_cons (pv 4) pa_nil)) (pv 7) (nomark _))))))))))))))), ?read⟩)
  case len =>
    obtain ⟨a, ns, n, s, z, rfl, _⟩ := h
    rfl
  case read =>
    obtain ⟨a, ns, n, s, z, rfl, hS, f, hz, q⟩ := h
    show tSeq _ _ _ [some (.ref a), some (.int n), some (.int s), some (.int z), none, none, none, none, none, none, none, none] H
    obtain ⟨f1, f2, f3, f4⟩ := id f
    have hs0 : 0 < s := by omega
    have hn : n ≤ 200 := by omega
    obtain ⟨xs, hxs⟩ : ∃ xs : List Int, xs = (List.range n).map fun t : Nat => cell ns (13 + (t : Int) % 50) / (1 + (t : Int) / 50 * 210) % s := ⟨_, rfl⟩
    have hg : given n (fun _ => true) (fun t => V.int (cell ns (13 + (t : Int) % 50) / (1 + (t : Int) / 50 * 210) % s)) = xs.map V.int := by
      rw [hxs]
      exact given_all n fun t => cell ns (13 + (t : Int) % 50) / (1 + (t : Int) / 50 * 210) % s
    have hrow : (Kd.T s n).row xs := by
      refine ⟨by rw [hxs]; simp, fun m hm => ?_⟩
      rw [hxs] at hm
      obtain ⟨t, _, rfl⟩ := List.mem_map.mp hm
      exact mod_range _ hs0
    have hxl : xs.length = n := hrow.1
    clear hxs
    refine b_asgL (Ex.refl H) (xs := xs.map V.int) ?_ fun r H1 nr e1 hr => ?_
    · rw [← hg]
      refine el_lcR1 (n := (n : Int)) (fun _ => true) (fun t => V.int (cell ns (13 + (t : Int) % 50) / (1 + (t : Int) / 50 * 210) % s)) (by walk_at "ev") ⟨by omega, by omega⟩ (fun _ => rfl) (fun t H1 e1 ht => et_yes) (fun t H1 e1 ht _ => ?_)
      have hS1 := ex_l e1 hS
      refine ev_op (ev_op (ev_cell (k := 13 + (t : Int) % 50) (by walk_at "ev") hS1 (by omega)) (by walk_at "ev") (rv_I (cdiv_small (by omega) (by omega)))) (ev_var rfl) (rv_I hs0)
    show tSeq _ _ _ [some (.ref a), some (.int n), some (.int s), some (.int z), some (.ref r), none, none, none, none, none, none, none] H1
    refine b_asgO (Ex.refl H1) (eo_Turning f (by walk_at "ev")) fun o dx H2 no e2 hO => ?_
    have hT : IsT T H2 o s n := ⟨dx, hO⟩
    have hr2 := e2 _ _ hr
    have hS2 := ex_l e2 (ex_l e1 hS)
    refine b_asg (Ex.refl H2) (v := .int (tplace s xs)) (ev_methN (ev_var rfl) hO (tF_m _ _ _) (el_list (ev_var rfl) (sq_of hr2)) fun p H3 e3 hp Q q => ⟨o, p, s, n, xs, rfl, f, hT.mono e3, sq_of hp, by omega, fun _ => q, fun z => absurd hrow z⟩) fun H3 e3 => ?_
    refine b_asgLS e3 (els_bad_row f1 hz hn hr2 hrow (by walk_at "ev")) ?_
    rintro bs ⟨hbl, hbad⟩ b H4 nb e4 hb
    show tSeq _ _ _ [some (.ref a), some (.int n), some (.int s), some (.int z), some (.ref r), none, some (.ref o), some (.int (tplace s xs)), some (.ref b), none, none, none] H4
    have hS4 := ex_l e4 hS2
    refine b_asgLU (Ex.refl H4) (xss := [[.str "turn", .int (-1 - z)], [.str "turn", .int (n + z)]]) (elu_lst (eau_cons (eu_tup (by walk_at "ev") (by simp)) (eau_cons (eu_tup (by walk_at "ev") (by simp)) eau_nil)) (by simp)) fun l vs H5 nl e5 hl ht => ?_
    show tSeq _ _ _ [some (.ref a), some (.int n), some (.int s), some (.int z), some (.ref r), none, some (.ref o), some (.int (tplace s xs)), some (.ref b), some (.ref l), none, none] H5
    have hS5 := ex_l e5 hS4
    refine b_asgLU (Ex.refl H5) (xss := [[.str "turn", .int (-1 - z)], [.str "turn", .int (n + z)]] ++ (((swp4 ns n z).map prV).take 2).map swV) (elu_cat (ev_var rfl) hl ht (elu_lcLU swV (elu_take (n := 2) (elu_swaps hS5 hn (by walk_at "ev")) (fun _ _ => ev_c) cut_two) (Nat.le_trans (by rw [List.length_take]; exact Nat.min_le_left _ _) (by decide : 2 ≤ 40000)) (fun _ => rfl) fun t us H6 e6 hm h6 => ?_) (by rw [List.length_map, List.length_take]; exact Nat.le_trans (Nat.add_le_add_left (Nat.min_le_left _ _) _) (by show 2 + 2 ≤ 100000; decide))) fun l2 vs2 H6 nl2 e6 hl2 ht2 => ?_
    · obtain ⟨c, hc, rfl⟩ := List.mem_map.mp (List.mem_of_mem_take hm)
      exact eu_swap (x := c.1) (y := c.2) h6 rfl
    show tSeq _ _ _ [some (.ref a), some (.int n), some (.int s), some (.int z), some (.ref r), none, some (.ref o), some (.int (tplace s xs)), some (.ref b), some (.ref l2), none, none] H6
    obtain ⟨cs, hcs⟩ : ∃ cs : List Ch, cs = .turn (-1 - z) :: .turn (n + z) :: ((swp4 ns n z).take 2).map fun c => .swap c.1 c.2 := ⟨_, rfl⟩
    have hch : [[V.str "turn", .int (-1 - z)], [V.str "turn", .int (n + z)]] ++ (((swp4 ns n z).map prV).take 2).map swV = cs.map chV := by
      rw [hcs]
      rfl
    have hcl : cs.length = 4 := by
      rw [hcs]
      rfl
    have hcn : ∀ c ∈ cs, c ≠ Ch.non := fun c hc z => by
      subst z
      rw [hcs] at hc
      rcases List.mem_cons.mp hc with h | hc
      · cases h
      rcases List.mem_cons.mp hc with h | hc
      · cases h
      obtain ⟨_, _, h⟩ := List.mem_map.mp hc
      cases h
    have t1 : ∀ d, tmv s n xs d (.turn (-1 - z)) = none := fun d => if_neg (by omega)
    have t2 : ∀ d, tmv s n xs d (.turn (n + z)) = none := fun d => if_neg (by omega)
    have hfit : ((List.range 4).map fun _ => [V.bl false, V.bl false]) = cs.map fun c => fitV ((tmv s n xs 1 c).isSome, (tmv s n xs (-1) c).isSome) := by
      rw [hcs, List.map_cons, List.map_cons, t1, t1, t2, t2]
      rfl
    clear hcs
    rw [hch] at ht2
    refine b_asgLU (Ex.refl H6) (xss := (List.range 4).map fun _ => [V.bl false, V.bl false]) (elu_lcR1 (n := 4) (fun _ => [V.bl false, V.bl false]) (ea_cons (ev_c (v := .int 4)) ea_nil) (by decide) (fun _ => rfl) fun i x H1 e1 hi => eu_tup (by walk_at "ev") (by simp)) fun m ws H7 nm e7 hm hw => ?_
    rw [hfit] at hw
    show tSeq _ _ _ [some (.ref a), some (.int n), some (.int s), some (.int z), some (.ref r), none, some (.ref o), some (.int (tplace s xs)), some (.ref b), some (.ref l2), none, some (.ref m)] H7
    have e47 := (e5.trans e6).trans e7
    have e27 := e4.trans e47
    have hT7 := hT.mono e27
    have hO7 := e27 _ _ hO
    have hr7 := e27 _ _ hr2
    have hb7 := e47 _ _ hb
    have hS7 := ex_l e27 hS2
    have hl7 := e7 _ _ hl2
    have ht7 := ht2.mono e7
    obtain ⟨i, hi, hi4⟩ : ∃ i : Nat, cell ns 4 % 4 = (i : Int) ∧ i < 4 := ⟨(cell ns 4 % 4).toNat, by omega, by omega⟩
    obtain ⟨c, hc⟩ : ∃ c, cs[i]? = some c := ⟨cs[i]'(by omega), List.getElem?_eq_getElem (by omega)⟩
    obtain ⟨t, h1, h2⟩ := ht7.get (i := i) (xs := chV c) (by rw [List.getElem?_map, hc]; rfl)
    have hct : ChAt K H7 (.ref t) c := ch_at (hcn c (List.mem_of_getElem? hc)) h2
    refine b_skip (b := !true) (Ex.refl H7) (et_not (et_B (ev_rows_T (c := c) (cv := .ref t) f hT7 hr7 hrow hb7 hbl hbad hct (ea_cons (ev_var rfl) (ea_cons (ev_var rfl) (ea_cons (ev_var rfl) (ea_cons (ev_var rfl) (ea_cons (ev_op (ev_var rfl) (ev_is (ev_op (ev_cell (k := 4) (by walk_at "ev") hS7 (by decide)) ev_c (rv_I (by decide))) (congrArg V.int hi)) (rv_ixL (sq_of hl7) (atI_nat h1))) ea_nil)))))))) (fun H8 e8 => ?_)
    refine b_skip (b := !true || !true) e8 (et_or (et_not (et_B (ev_rows_T (c := .non) (cv := .non) f hT7 hr7 hrow hb7 hbl hbad rfl (by walk_at "ev")))) fun _ => et_not (et_B (ev_places_T f hz hT7 (ea_cons (ev_var rfl) (ea_cons (ev_many (ev_var rfl) hO7 T.cl_Turning T.no_Turning_size (tF_size _ _ _) (tF_m _ _ _)) (ea_cons (ev_var rfl) ea_nil)))))) (fun H9 e9 => ?_)
    refine b_ret e9 (v := .bl (true && decide (tplace s xs = tplace s xs))) (ev_andV (ev_changes_T f hT7 hr7 hrow hl7 ht7 hcn hm hw (by omega) (by walk_at "ev")) fun _ => ev_op (ev_Tplace f hT7 (sq_of hr7) hrow.1 hrow.2 (ev_var rfl) (by walk_at "ev")) (ev_var rfl) rv_eqI) ?_
    rw [decide_eq_true rfl]
    exact fun H10 e10 => q H10 (((e1.trans e2).trans e27).trans e10)
/-! #### Choosing.is_row -/
theorem sc_Choosing_is_row : FnScope N_Choosing_is_row P_Choosing_is_row (defScope s_Choosing_is_row) := ⟨rfl, rfl, rfl, by decide +kernel, rfl, by decide +kernel, by decide +kernel⟩
def bitB (m : Int) : Bool := decide (m = 0) || decide (m = 1)
def isCrow (n k : Nat) (xs : List Int) : Bool := decide ((xs.length : Int) = n) && xs.all bitB && decide (xs.sum = k)
/-- a row with just so many ones -/
def CRow (n k : Nat) (xs : List Int) : Prop := xs.length = n ∧ Bits xs ∧ ones xs = k
theorem isCrow_iff (n k : Nat) (xs : List Int) : isCrow n k xs = true ↔ CRow n k xs := by
  unfold isCrow CRow
  have hb : xs.all bitB = true ↔ Bits xs := by
    unfold Bits
    simp [bitB]
  constructor
  · intro h
    have h1 : ((xs.length : Int) = n ∧ xs.all bitB = true) ∧ xs.sum = k := by simpa using h
    have h2 := hb.mp h1.1.2
    have h3 := bits_sum h2
    exact ⟨by omega, h2, by omega⟩
  · rintro ⟨h1, h2, h3⟩
    have h4 := bits_sum h2
    rw [hb.mpr h2, decide_eq_true (show (xs.length : Int) = n by omega), decide_eq_true (show xs.sum = (k : Int) by omega)]
    rfl
def sp_Choosing_is_row (T : Txt K mg) : Sp := fun vs H Q _ => ∃ (o a : Addr) (n k : Nat) (xs : List Int), vs = [.ref o, .ref a] ∧ IsC T H o n k ∧ SqL K H a (xs.map V.int) ∧ xs.length ≤ 10000 ∧ RetV (.bl (isCrow n k xs)) H Q
theorem ev_Cis_row {T : Txt K mg} {σ : L2.St} {H : Hp} {ta : TE} {tg : TA} {E : XK} {o a : Addr} {n k : Nat} {xs : List Int} (ho : IsC T H o n k) (hx : SqL K H a (xs.map V.int)) (hl : xs.length ≤ 10000) (hv : Ev ta σ H (.ref o)) (ha : EvA tg σ H [.ref a]) :
    Ev (tMeth T.c_Choosing "is_row" (sp_Choosing_is_row T) [] E ta tg) σ H (.bl (isCrow n k xs)) := by
  obtain ⟨dx, h⟩ := ho
  exact ev_meth hv h (cF_m _ _ _) ha fun H1 e Q q => ⟨o, a, n, k, xs, rfl, ⟨dx, e _ _ h⟩, ex_l e hx, hl, q⟩
theorem ok_Choosing_is_row (T : Txt K mg) : FnOk P w K mg base CX0 1 T.a_Choosing_is_row T.d_Choosing_is_row P_Choosing_is_row (sp_Choosing_is_row T) := by
  refine (T.F_Choosing_is_row).ok sc_Choosing_is_row (fun vs H Q E h => ?len) (fun cdv A outer s H vs Q E hr h => ⟨_, (pss_cons (ps_if (PW.pt (pw_or (pt_cmpR op_ne (pe_callB call_len_seq (by rfl) T.g_len boot_len (pa_cons (pv 1) pa_nil)) (pe_fld (pv 0) (by rfl)) (nomark _)) (pw_or1 (pt_not (pt_val (pe_callB (cr_all rfl) (by rfl) T.g_all boot_all (pa_cons (pe_lc (own := [("mark", 2)]) (g := (gName 2)) rfl sc_Choosing_is_row.nd (pi_list (pv 1)) (blkOk_by (N := N_Choosing_is_row) (sc := defScope s_Choosing_is_row) (by decide +kernel)) (fun _ _ _ _ _ => pg_name (i := 2) sc_Choosing_is_row.nd rfl (Or.inl rfl)) (fun _ _ _ _ _ => pts_nil) (fun _ _ _ _ _ => (pe_or (pe_cmpR op_eq (pv 2) pe_int (nomark _)) (pe_one (pe_cmpR op_eq (pv 2) pe_int (nomark _)))))) pa_nil))))))) (pss_one (ps_ret pe_bl)) pss_nil)
    (pss_one (ps_ret (pe_cmpR op_eq (pe_callB (cr_sum rfl) (by rfl) T.g_sum boot_sum (pa_cons (pv 1) pa_nil)) (pe_fld (pv 0) (by rfl)) (nomark _))))), ?read⟩)
  case len =>
    obtain ⟨o, a, n, k, xs, rfl, _⟩ := h
    rfl
  case read =>
    obtain ⟨o, a, n, k, xs, rfl, ⟨dx, ho⟩, hx, hl, q⟩ := h
    show tSeq _ _ _ [some (.ref o), some (.ref a), none] H
    refine b_when (b := !decide ((xs.length : Int) = n) || !(xs.all bitB)) (Ex.refl H) (et_or (et_test (ev_op (ev_is (ev_len (ev_var rfl) hx) (by rw [List.length_map])) (ev_fld (ev_var rfl) ho T.cl_Choosing T.no_Choosing_length (cF_length _ _ _)) rv_neI)) fun _ => et_not (et_B (ev_allI bitB (ev_var rfl) hx (by omega) (fun _ => rfl) fun m H1 e _ => ev_orV (by walk_at "ev") fun _ => by walk_at "ev"))) (fun hb H1 e => ?_) (fun hb H1 e => ?_)
    · refine b_ret e (v := .bl (isCrow n k xs)) ?_ q
      have h : isCrow n k xs = false := by
        unfold isCrow
        have h2 : (decide ((xs.length : Int) = n) && xs.all bitB) = false := by
          cases h1 : decide ((xs.length : Int) = n) <;> cases h3 : xs.all bitB <;> rw [h1, h3] at hb <;> first | rfl | cases hb
        rw [h2]
        rfl
      rw [h]
      exact ev_c
    · refine b_ret e (v := .bl (isCrow n k xs)) ?_ q
      have h : isCrow n k xs = decide (xs.sum = k) := by
        unfold isCrow
        have h2 : (decide ((xs.length : Int) = n) && xs.all bitB) = true := by
          cases h1 : decide ((xs.length : Int) = n) <;> cases h3 : xs.all bitB <;> rw [h1, h3] at hb <;> first | rfl | cases hb
        rw [h2]
        rfl
      rw [h]
      exact ev_op (ev_sum (ev_var rfl) hx) (ev_fld (ev_var rfl) ho T.cl_Choosing T.no_Choosing_ones (cF_ones _ _ _)) rv_eqI
/-! #### Choosing.place_of -/
theorem sc_Choosing_place_of : FnScope N_Choosing_place_of P_Choosing_place_of (defScope s_Choosing_place_of) := ⟨rfl, rfl, rfl, by decide +kernel, rfl, by decide +kernel, by decide +kernel⟩
theorem take_snoc {xs : List Int} {i : Nat} (hi : i < xs.length) : xs.take (i + 1) = xs.take i ++ [xs[i]] := by
  rw [List.take_add_one, List.getElem?_eq_getElem hi]
  rfl
def sp_Choosing_place_of (T : Txt K mg) : Sp := fun vs H Q E => ∃ (o a : Addr) (n k : Nat) (xs : List Int), vs = [.ref o, .ref a] ∧ CForm n k ∧ IsC T H o n k ∧ SqL K H a (xs.map V.int) ∧ xs.length ≤ 10000 ∧
  (CRow n k xs → RetV (.int (cplace xs)) H Q) ∧ (¬ CRow n k xs → RetX T.c_NoRow H E)
theorem ev_Cplace {T : Txt K mg} {σ : L2.St} {H : Hp} {ta : TE} {tg : TA} {E : XK} {o a : Addr} {n k : Nat} {xs : List Int} (f : CForm n k) (ho : IsC T H o n k) (hx : SqL K H a (xs.map V.int)) (hr : CRow n k xs) (hv : Ev ta σ H (.ref o)) (ha : EvA tg σ H [.ref a]) :
    Ev (tMeth T.c_Choosing "place_of" (sp_Choosing_place_of T) [] E ta tg) σ H (.int (cplace xs)) := by
  obtain ⟨dx, h⟩ := ho
  exact ev_meth hv h (cF_m _ _ _) ha fun H1 e Q q => ⟨o, a, n, k, xs, rfl, f, ⟨dx, e _ _ h⟩, ex_l e hx, by have := f.2.1; have := hr.1; omega, fun _ => q, fun z => absurd hr z⟩
theorem er_Cplace {T : Txt K mg} {σ : L2.St} {H : Hp} {ta : TE} {tg : TA} {E : XK} {o a : Addr} {n k : Nat} {xs : List Int} (f : CForm n k) (ho : IsC T H o n k) (hx : SqL K H a (xs.map V.int)) (hl : xs.length ≤ 10000) (hm : ¬ CRow n k xs) (he : RetX T.c_NoRow H E) (hv : Ev ta σ H (.ref o)) (ha : EvA tg σ H [.ref a]) :
    EvR (tMeth T.c_Choosing "place_of" (sp_Choosing_place_of T) [] E ta tg) σ H := by
  obtain ⟨dx, h⟩ := ho
  exact er_meth hv h (cF_m _ _ _) ha fun H1 e Q => ⟨o, a, n, k, xs, rfl, f, ⟨dx, e _ _ h⟩, ex_l e hx, hl, fun z => absurd z hm, fun _ => RetX.mono he e⟩
theorem ok_Choosing_place_of (T : Txt K mg) : FnOk P w K mg base (L2N.CX P w) 2 T.a_Choosing_place_of T.d_Choosing_place_of P_Choosing_place_of (sp_Choosing_place_of T) := by
  have G_Choosing_is_row := ok_Choosing_is_row (P := P) (w := w) (base := base) T
  refine fun_okN T.F_Choosing_place_of sc_Choosing_place_of (fun vs H Q E h => ?len) (fun cdv A outer s H vs Q E hr h => ⟨_, (pss_cons (ps_if (pt_not (pt_val (pe_meth (pv 0) T.cl_Choosing T.me_Choosing_is_row G_Choosing_is_row (hr.mono (by decide)) T.b_Choosing_is_row .nil pass0 (pa_cons (pv 1) pa_nil)))) (pss_one (L2N.ps_raise rfl (L2N.takes_of rfl rfl rfl rfl) (L2N.pmk_own PySem.F.excBase_ValueError T.x_NoRow T.m_NoRow T.k_NoRow (raises_own T.bE_NoRow T.tE_NoRow) rfl))) pss_nil)
    (pss_cons (ps_set (i := 2) sc_Choosing_place_of.nd rfl (Or.inl rfl) pe_int)
    (pss_cons (ps_set (i := 3) sc_Choosing_place_of.nd rfl (Or.inl rfl) pe_int)
    (pss_cons (ps_set (i := 4) sc_Choosing_place_of.nd rfl (Or.inl rfl) pe_int)
    (pss_cons (ps_for (passes_of rfl) rfl (pi_enum rfl T.g_enumerate (pa_cons (pv 1) pa_nil)) (pg_tup rfl (pgs_cons (pg_name (i := 5) sc_Choosing_place_of.nd rfl (Or.inl rfl)) (pgs_cons (pg_name (i := 6) sc_Choosing_place_of.nd rfl (Or.inl rfl)) pgs_nil))) (pss_cons (ps_if (pt_cmpR op_eq (pv 6) pe_int (nomark _)) (pss_cons (ps_set (i := 4) sc_Choosing_place_of.nd rfl (Or.inl rfl) (pe_op op_fdivW (pe_op op_mul (pv 4) (pe_op op_add (pv 5) pe_int)) (pe_op op_sub (pe_op op_add (pv 5) pe_int) (pv 3))))
    (pss_one ps_continue)) pss_nil)
    (pss_cons (ps_aug (i := 3) sc_Choosing_place_of.nd rfl (Or.inl rfl) pe_int ip_add)
    (pss_cons (ps_set (i := 4) sc_Choosing_place_of.nd rfl (Or.inl rfl) (pe_op op_fdivW (pe_op op_mul (pv 4) (pe_op op_add (pv 5) pe_int)) (pv 3)))
    (pss_one (ps_set (i := 2) sc_Choosing_place_of.nd rfl (Or.inl rfl) (pe_op op_sub (pe_op op_sub (pv 4) pe_int) (pv 2))))))))
    (pss_one (ps_ret (pv 2)))))))), ?read⟩)
  case len =>
    obtain ⟨o, a, n, k, xs, rfl, _⟩ := h
    rfl
  case read =>
    obtain ⟨o, a, n, k, xs, rfl, f, ho, hx, hl, q, qe⟩ := h
    show tSeq _ _ _ [some (.ref o), some (.ref a), none, none, none, none, none] H
    obtain ⟨f1, f2, f3, f4⟩ := id f
    refine b_when (Ex.refl H) (et_not (et_B (ev_Cis_row ho hx hl (ev_var rfl) (by walk_at "ev")))) (fun hb H1 e1 => ?_) (fun hb H1 e1 => ?_)
    · refine qe ?_ H1 e1
      intro z
      rw [(isCrow_iff n k xs).mpr z] at hb
      cases hb
    have hr : CRow n k xs := (isCrow_iff n k xs).mp (by simpa using hb)
    have hn : xs.length ≤ 200 := by have := hr.1; omega
    refine b_asg e1 ev_c fun H2 e => ?_
    refine b_asg e ev_c fun H3 e => ?_
    refine b_asg e ev_c fun H4 e => ?_
    refine b_forEnum e (by walk_at "ev") hx (fun i σ' H' => ∃ u v, σ' = [some (.ref o), some (.ref a), some (.int (cplace (xs.take i))), some (.int (ones (xs.take i))), some (.int (bin i (ones (xs.take i)))), u, v] ∧ i ≤ xs.length ∧ Ex H H')
      (fun H' e' => ⟨none, none, rfl, Nat.zero_le _, e'⟩) (fun i σ' H' ⟨_, _, _, _, e'⟩ => ex_l e' hx) ?_ ?_
    · rintro i x σ' H' H1 hxi ⟨u, v, rfl, hin, e0⟩ e1
      have e' := e0.trans e1
      obtain ⟨m, hi, rfl, hm⟩ := int_item hxi
      have tl : (xs.take i).length = i := by rw [List.length_take]; omega
      have tO := ones_le (xs.take i)
      rw [tl] at tO
      have ht := take_snoc hi
      rw [hm] at ht
      show tSeq _ _ _ [some (.ref o), some (.ref a), some (.int (cplace (xs.take i))), some (.int (ones (xs.take i))), some (.int (bin i (ones (xs.take i)))), some (.int (i : Int)), some (.int m)] H1
      rcases hr.2.1 m (by rw [← hm]; exact List.getElem_mem hi) with rfl | rfl
      · refine b_when (b := true) e' (ev_is (v := .bl (decide ((0 : Int) = 0))) (by walk_at "ev") rfl |> et_test) (fun _ H5 e5 => ?_) (fun hb => by cases hb)
        refine b_asg e5 (v := .int (bin (i + 1) (ones (xs.take i)))) ?_ fun H6 e6 => ?_
        · rw [← bin_zero_div i (ones (xs.take i)) tO]
          walk_at "ev"
        · show tCont _ _ _
          refine ⟨some (.int (i : Int)), some (.int 0), ?_, hi, e6⟩
          rw [ht, cplace_zero, ones_append]
          rfl
      · refine b_skip (b := decide ((1 : Int) = 0)) e' (by walk_at "ev") (fun H5 e5 => ?_)
        refine b_aug (a := (ones (xs.take i) : Int)) e5 rfl ev_c fun H6 e6 => ?_
        refine b_asg e6 (v := .int (bin (i + 1) (ones (xs.take i) + 1))) ?_ fun H7 e7 => ?_
        · rw [← bin_one_div i (ones (xs.take i))]
          walk_at "ev"
        refine l_asg e7 (v := .int ((bin (i + 1) (ones (xs.take i) + 1) : Int) - 1 - cplace (xs.take i))) (by walk_at "ev") fun H8 e8 => ⟨some (.int (i : Int)), some (.int 1), ?_, hi, e8⟩
        rw [ht, cplace_one, tl, ones_append]
        rfl
    · rintro σ' H' ⟨u, v, rfl, hin, e'⟩
      rw [List.length_map, List.take_length]
      exact b_ret e' (ev_var rfl) (q hr)
/-! #### _law_bad_ones -/
theorem sc_law_bad_ones : FnScope N_law_bad_ones P_law_bad_ones (defScope s_law_bad_ones) := ⟨rfl, rfl, rfl, by decide +kernel, rfl, by decide +kernel, by decide +kernel⟩
theorem given_one {l : List Int} {c : Int} {i n : Nat} (hl : l.length = n) (hi : i < (given n (fun k => decide (l.getD k 0 = c)) (fun k => V.int (k : Int))).length) : ∃ s : Nat, l[s]? = some c ∧ (given n (fun k => decide (l.getD k 0 = c)) (fun k => V.int (k : Int)))[i]? = some (V.int (s : Int)) := by
  subst hl
  have e : (given l.length (fun k => decide (l.getD k 0 = c)) (fun k => V.int (k : Int))).length = l.countP fun m => decide (m = c) := by
    unfold given
    rw [List.length_map, spots_len (fun m => decide (m = c))]
  rw [e] at hi
  obtain ⟨s, h1, h2⟩ := spot_of hi
  refine ⟨s, h1, ?_⟩
  unfold given
  rw [List.getElem?_map, h2]
  rfl
/-- a list whose sum is another | that has another mark is no row -/
theorem no_crow_sum {n k : Nat} {bs : List Int} (h : bs.sum ≠ (k : Int)) : ¬ CRow n k bs := fun z => h (by rw [bits_sum z.2.1, z.2.2])
theorem no_crow_mark {n k : Nat} {bs : List Int} {m : Int} (h : m ∈ bs) (h2 : 2 ≤ m) : ¬ CRow n k bs := fun z => by
  rcases z.2.1 m h with e | e <;> omega
theorem no_crow_len {n k : Nat} {bs : List Int} (h : bs.length ≠ n) : ¬ CRow n k bs := fun z => h z.1
def sp_law_bad_ones (T : Txt K mg) : Sp := fun vs H Q _ => ∃ (r : Addr) (c o z : Int) (n k : Nat) (xs : List Int), vs = [.ref r, .int c, .int o, .int z] ∧ 0 ≤ z ∧ n ≤ 200 ∧ H r = some (.lst (xs.map V.int)) ∧ CRow n k xs ∧ ∀ bs, (bs.length ≤ 10000 ∧ ¬ CRow n k bs) → RetL (bs.map V.int) H Q
theorem els_bad_ones {T : Txt K mg} {σ : L2.St} {H : Hp} {tg : TA} {E : XK} {r : Addr} {c o z : Int} {n k : Nat} {xs : List Int} (hz : 0 ≤ z) (hn : n ≤ 200) (hr : H r = some (.lst (xs.map V.int))) (hx : CRow n k xs) (ha : EvA tg σ H [.ref r, .int c, .int o, .int z]) :
    EvLS (tCall (sp_law_bad_ones T) [] E tg) σ H (fun bs => bs.length ≤ 10000 ∧ ¬ CRow n k bs) :=
  els_callF ha fun H1 e Q q => ⟨r, c, o, z, n, k, xs, rfl, hz, hn, e _ _ hr, hx, q⟩
theorem ok_law_bad_ones (T : Txt K mg) : FnOk P w K mg base CX0 1 T.a_law_bad_ones T.d_law_bad_ones P_law_bad_ones (sp_law_bad_ones T) := by
  refine (T.F_law_bad_ones).ok sc_law_bad_ones (fun vs H Q E h => ?len) (fun cdv A outer s H vs Q E hr h => ⟨_, (pss_cons (ps_set (i := 4) sc_law_bad_ones.nd rfl (Or.inl rfl) (pe_callTy call_list_of (by rfl) T.g_list boot_list (pa_cons (pv 0) pa_nil)))
    (pss_cons (ps_set (i := 5) sc_law_bad_ones.nd rfl (Or.inl rfl) (pe_op op_mod (pe_op op_fdivW (pv 1) pe_int) (pe_callB (call_max2 rfl) (by rfl) T.g_max boot_max (pa_cons pe_int (pa_cons (pe_callB call_len_seq (by rfl) T.g_len boot_len (pa_cons (pv 0) pa_nil)) pa_nil)))))
    (pss_cons (ps_setLc (i := 6) (own := [("_law_k", 7)]) (g := (gName 7)) rfl sc_law_bad_ones.nd rfl rfl (sw_true rfl rfl rfl (by decide +kernel)) (pi_range1 rfl T.g_range (pa_cons (pe_callB call_len_seq (by rfl) T.g_len boot_len (pa_cons (pv 0) pa_nil)) pa_nil)) (blkOk_by (N := N_law_bad_ones) (sc := defScope s_law_bad_ones) (by decide +kernel)) (fun _ _ _ _ _ => pg_name (i := 7) sc_law_bad_ones.nd rfl (Or.inl rfl)) (fun _ _ _ _ _ => (pts_one (pt_cmpR op_eq (pe_ix (ix_listK (K := K)) (pv 0) (pv 7) (fun _ _ => rfl)) pe_int (nomark _)))) (fun _ _ _ _ _ => (pv 7)))
    (pss_cons (ps_if (PW.pt (pw_or (pt_cmpR op_eq (pe_callB call_len_seq (by rfl) T.g_len boot_len (pa_cons (pv 0) pa_nil)) pe_int (nomark _)) (pw_or1 (pt_cmpR op_eq (pe_op op_mod (pv 1) pe_int) pe_int (nomark _))))) (pss_one (ps_expr (pe_bm PySem.F.plainAttrs_list PySem.F.slot_list_insert PySem.F.type_list_insert mt_insert (pv 4) (pa_cons (pv 5) (pa_cons pe_int pa_nil))))) (pss_one (ps_if (pt_cmpR op_eq (pe_op op_mod (pv 1) pe_int) pe_int (nomark _)) (pss_one (ps_expr (pe_bm PySem.F.plainAttrs_list PySem.F.slot_list_pop PySem.F.type_list_pop mt_popAt (pv 4) (pa_cons (pv 5) pa_nil)))) (pss_one (ps_if (PW.pt (pw_and (pt_cmpR op_eq (pe_op op_mod (pv 1) pe_int) pe_int (nomark _)) (pw_and1 (pt_cmpR op_gt (pe_callB call_len_seq (by rfl) T.g_len boot_len (pa_cons (pv 6) pa_nil)) pe_int (nomark _))))) (pss_cons (ps_asg pe_int (pg_sub (pv 4) (pe_ix ix_list (pv 6) (pe_op op_mod (pv 5) (pe_callB call_len_seq (by rfl) T.g_len boot_len (pa_cons (pv 6) pa_nil))) (fun _ _ => rfl)) set_list))
    (pss_one (ps_asg pe_int (pg_sub (pv 4) (pe_ix ix_list (pv 6) (pe_op op_mod (pe_op op_add (pe_op op_add (pv 5) pe_int) (pe_op op_mod (pv 2) (pe_op op_sub (pe_callB call_len_seq (by rfl) T.g_len boot_len (pa_cons (pv 6) pa_nil)) pe_int))) (pe_callB call_len_seq (by rfl) T.g_len boot_len (pa_cons (pv 6) pa_nil))) (fun _ _ => rfl)) set_list)))) (pss_one (ps_if (PW.pt (pw_or (pt_cmpR op_lt (pe_op op_mod (pv 1) pe_int) pe_int (nomark _)) (pw_or1 (pt_cmpR op_eq (pe_callB call_len_seq (by rfl) T.g_len boot_len (pa_cons (pv 0) pa_nil)) pe_int (nomark _))))) (pss_one (ps_asg (pe_op op_sub pe_int (pe_ix ix_list (pv 4) (pv 5) (fun _ _ => rfl))) (pg_sub (pv 4) (pv 5) set_list))) (pss_one (ps_if (pt_cmpR op_eq (pe_op op_mod (pv 1) pe_int) pe_int (nomark _)) (pss_cons (ps_asg (pe_op op_add (pe_op op_add (pe_ix ix_list (pv 4) (pv 5) (fun _ _ => rfl)) pe_int) (pv 3)) (pg_sub (pv 4) (pv 5) set_list))
    (pss_cons (ps_set (i := 5) sc_law_bad_ones.nd rfl (Or.inl rfl) (pe_op op_mod (pe_op op_add (pe_op op_add (pv 5) pe_int) (pe_op op_mod (pv 2) (pe_op op_sub (pe_callB call_len_seq (by rfl) T.g_len boot_len (pa_cons (pv 0) pa_nil)) pe_int))) (pe_callB call_len_seq (by rfl) T.g_len boot_len (pa_cons (pv 0) pa_nil))))
    (pss_one (ps_asg (pe_op op_sub (pe_op op_sub (pe_ix ix_list (pv 4) (pv 5) (fun _ _ => rfl)) pe_int) (pv 3)) (pg_sub (pv 4) (pv 5) set_list))))) (pss_one (ps_expr (pe_bm PySem.F.plainAttrs_list PySem.F.slot_list_insert PySem.F.type_list_insert mt_insert (pv 4) (pa_cons (pv 5) (pa_cons pe_int pa_nil))))))))))))))
    (pss_one (ps_ret (pv 4))))))), ?read⟩)
  case len =>
    obtain ⟨r, c, o, z, n, k, xs, rfl, _⟩ := h
    rfl
  case read =>
    obtain ⟨r, c, o, z, n, k, xs, rfl, hz, hn, hr, hx, q⟩ := h
    show tSeq _ _ _ [some (.ref r), some (.int c), some (.int o), some (.int z), none, none, none, none] H
    have hxl : xs.length = n := hx.1
    have hsum : xs.sum = (k : Int) := by rw [bits_sum hx.2.1, hx.2.2]
    generalize hM : (if (xs.length : Int) > 1 then (xs.length : Int) else 1) = M
    have hM0 : 0 < M := by
      rw [← hM]
      split <;> omega
    obtain ⟨a0, a1⟩ := mod_range (c / 6) hM0
    obtain ⟨j, hj⟩ : ∃ j : Nat, c / 6 % M = j := ⟨(c / 6 % M).toNat, by omega⟩
    have hjn : j ≤ 200 := by
      have : M ≤ 200 := by
        rw [← hM]
        split <;> omega
      omega
    have hjl : xs.length ≠ 0 → j < xs.length := fun h => by
      have : M = xs.length := by
        rw [← hM]
        split <;> omega
      omega
    have hlen : ∀ {σ : L2.St} {H2 : Hp}, Ex H H2 → σ[0]? = some (some (V.ref r)) → Ev (tCB (rLenS K) (tCons (tVar 0) tNil)) σ H2 (.int (xs.length : Int)) := fun e h => ev_is (ev_len (ev_var h) (sq_of (e _ _ hr))) (by rw [List.length_map])
    refine b_asgL (Ex.refl H) (el_list (ev_var rfl) (sq_of hr)) fun l H1 nl e1 hl => ?_
    refine b_asg (Ex.refl H1) (v := .int (j : Int)) (ev_is (ev_op (by walk_at "ev") (ev_is (ev_max2 ev_c (hlen e1 rfl)) (congrArg V.int hM)) (rv_I hM0)) (congrArg V.int hj)) fun H2 e2 => ?_
    show tSeq _ _ _ [some (.ref r), some (.int c), some (.int o), some (.int z), some (.ref l), some (.int (j : Int)), none, none] H2
    have g1 : ∀ {t : Nat}, (h : t < xs.length) → xs.getD t 0 = xs[t] := fun h => by simp [h]
    have hr2 := e2 _ _ (e1 _ _ hr)
    refine b_asgL (Ex.refl H2) (xs := given xs.length (fun t => decide (xs.getD t 0 = 1)) (fun t => V.int (t : Int))) ?_ fun fl H3 nfl e3 hfl => ?_
    · refine el_lcR1 (n := (xs.length : Int)) (fun t => decide (xs.getD t 0 = 1)) (fun t => V.int (t : Int)) (ea_cons (hlen (e1.trans e2) rfl) ea_nil) ⟨by omega, by omega⟩ (fun _ => rfl) (fun t H1 e1 ht => ?_) (fun t H1 e1 ht _ => ev_var rfl)
      rw [g1 (by omega)]
      exact et_test (ev_op (ev_op (ev_var rfl) (ev_var rfl) (rv_ixL (sq_of (e1 _ _ hr2)) (atI_nat (int_at (by omega))))) ev_c rv_eqI)
    have spot := fun (i : Nat) => given_one (l := xs) (c := 1) (i := i) rfl
    generalize hF : given xs.length (fun t => decide (xs.getD t 0 = 1)) (fun t => V.int (t : Int)) = F at *
    show tSeq _ _ _ [some (.ref r), some (.int c), some (.int o), some (.int z), some (.ref l), some (.int (j : Int)), some (.ref fl), none] H3
    have e13 := (e1.trans e2).trans e3
    have fin : ∀ bs H3, bs.length ≤ 10000 → ¬ CRow n k bs → Ex H H3 → H3 l = some (.lst (bs.map V.int)) → Q (.ref l) H3 := fun bs H3 h1 h2 e3 h3 => q bs ⟨h1, h2⟩ l H3 nl e3 h3
    have hl2 := e3 _ _ (e2 _ _ hl)
    have lF : ∀ {σ : L2.St} {H4 : Hp}, H4 fl = some (.lst F) → σ[6]? = some (some (V.ref fl)) → Ev (tCB (rLenS K) (tCons (tVar 6) tNil)) σ H4 (.int F.length) := fun e h => ev_len (ev_var h) (sq_of e)
    have nfl' : fl ≠ l := (ne_of_none (e2 _ _ hl) nfl).symm
    refine b_if (b := decide ((xs.length : Int) = 0) || decide (c % 6 = 0)) (Ex.refl H3) (et_or (et_test (ev_op (hlen e13 rfl) ev_c rv_eqI)) fun _ => by walk_at "ev") (fun hb H4 e4 => ?_) (fun hb H4 e4 => ?_)
    · refine e_ins (e4 _ _ hl2) (ev_var rfl) (ev_var rfl) (y := 0) ev_c (by omega) (by omega) (by omega) fun H5 e5 => ?_
      refine s_ret (ev_var rfl) fun H6 e6 => fin _ H6 ?_ ?_ ((Ex.mut ((e13.trans e4).trans e5) nl).trans e6) (e6 _ _ upd_same)
      · rw [len_ins]
        omega
      · refine no_crow_len ?_
        rw [len_ins]
        omega
    have hb2 : ¬ (xs.length : Int) = 0 := by
      rw [Bool.or_eq_false_iff] at hb
      exact of_decide_eq_false hb.1
    have hj2 : j < xs.length := hjl (by omega)
    refine l_if (b := decide (c % 6 = 1)) e4 (by walk_at "ev") (fun hb H5 e5 => ?_) (fun hb H5 e5 => ?_)
    · refine e_pop (e5 _ _ hl2) (ev_var rfl) (ev_var rfl) hj2 (by omega) fun H6 e6 => ?_
      refine s_ret (ev_var rfl) fun H7 e7 => fin _ H7 ?_ ?_ ((Ex.mut ((e13.trans e5).trans e6) nl).trans e7) (e7 _ _ upd_same)
      · rw [List.length_eraseIdx]
        split <;> omega
      · refine no_crow_len ?_
        rw [List.length_eraseIdx, if_pos hj2]
        omega
    refine l_if (b := decide (c % 6 = 2) && decide ((F.length : Int) > 1)) e5 (et_and (by walk_at "ev") fun _ => et_test (ev_op (lF hfl rfl) ev_c rv_I0)) (fun hb H6 e6 => ?_) (fun hb H6 e6 => ?_)
    · rw [Bool.and_eq_true] at hb
      have hF1 : 1 < (F.length : Int) := of_decide_eq_true hb.2
      have f0 : 0 < (F.length : Int) := by omega
      have f1 : 0 < (F.length : Int) - 1 := by omega
      obtain ⟨b0, b1⟩ := mod_range (j : Int) f0
      obtain ⟨u, hu⟩ : ∃ u : Nat, (j : Int) % (F.length : Int) = u := ⟨((j : Int) % (F.length : Int)).toNat, by omega⟩
      obtain ⟨s, hs1, hs2⟩ := spot u (by omega)
      obtain ⟨d0, d1⟩ := mod_range ((j : Int) + 1 + o % ((F.length : Int) - 1)) f0
      obtain ⟨w, hw⟩ : ∃ w : Nat, ((j : Int) + 1 + o % ((F.length : Int) - 1)) % (F.length : Int) = w := ⟨(((j : Int) + 1 + o % ((F.length : Int) - 1)) % (F.length : Int)).toNat, by omega⟩
      obtain ⟨t, ht1, ht2⟩ := spot w (by omega)
      have hs : s < xs.length := (List.getElem?_eq_some_iff.mp hs1).1
      have htl : t < xs.length := (List.getElem?_eq_some_iff.mp ht1).1
      have hfl6 := e6 _ _ hfl
      refine q_setI (y := 2) (j := s) (e6 _ _ hl2) ev_c (ev_var rfl) (ev_op (ev_var rfl) (ev_is (ev_op (ev_var rfl) (lF hfl6 rfl) (rv_I f0)) (congrArg V.int hu)) (rv_ixL (sq_of hfl6) (atI_nat hs2))) hs fun H7 e7 => ?_
      have hfl7 : (upd H7 l (.lst ((xs.set s 2).map V.int))) fl = some (.lst F) := by
        rw [upd_ne nfl']
        exact e7 _ _ hfl6
      have ex7 := Ex.mut (o := .lst ((xs.set s 2).map V.int)) ((e13.trans e6).trans e7) nl
      refine e_setL (y := 0) (j := t) (xs := xs.set s 2) upd_same ev_c (ev_var rfl) (ev_op (ev_var rfl) (ev_is (ev_op (ev_op (by walk_at "ev") (ev_op (ev_var rfl) (ev_op (lF hfl7 rfl) ev_c rv_I0) (rv_I f1)) rv_I0) (lF hfl7 rfl) (rv_I f0)) (congrArg V.int hw)) (rv_ixL (sq_of hfl7) (atI_nat ht2))) (by rw [List.length_set]; exact htl) fun H8 e8 => ?_
      refine s_ret (ev_var rfl) fun H9 e9 => fin _ H9 ?_ ?_ ((Ex.mut (ex7.trans e8) nl).trans e9) (e9 _ _ upd_same)
      · rw [List.length_set, List.length_set]
        omega
      · by_cases hst : s = t
        · subst hst
          rw [List.set_set]
          refine no_crow_sum ?_
          rw [swap_sum hs1]
          omega
        · exact no_crow_mark (mem_set_other (x := 2) (y := 0) hs hst) (by decide)
    refine l_if (b := decide (c % 6 < 4) || decide ((xs.length : Int) = 1)) e6 (et_or (by walk_at "ev") fun _ => et_test (ev_op (hlen e13 rfl) ev_c rv_eqI)) (fun hb H7 e7 => ?_) (fun hb H7 e7 => ?_)
    · have hl7 := e7 _ _ hl2
      refine e_setL (y := 1 - xs[j]) (j := j) hl7 (ev_op ev_c (ev_op (ev_var rfl) (ev_var rfl) (rv_ixL (sq_of hl7) (atI_nat (int_at hj2)))) rv_I0) (ev_var rfl) (ev_var rfl) hj2 fun H8 e8 => ?_
      refine s_ret (ev_var rfl) fun H9 e9 => fin _ H9 ?_ ?_ ((Ex.mut ((e13.trans e7).trans e8) nl).trans e9) (e9 _ _ upd_same)
      · rw [List.length_set]
        omega
      · refine no_crow_sum ?_
        rw [swap_sum (List.getElem?_eq_getElem hj2)]
        rcases hx.2.1 xs[j] (List.getElem_mem hj2) with e | e <;> omega
    have hb3 : ¬ (xs.length : Int) = 1 := by
      rw [Bool.or_eq_false_iff] at hb
      exact of_decide_eq_false hb.2
    refine l_if (b := decide (c % 6 = 4)) e7 (by walk_at "ev") (fun hb H8 e8 => ?_) (fun hb H8 e8 => ?_)
    · have hl8 := e8 _ _ hl2
      have m0 : 0 < (xs.length : Int) := by omega
      have m1 : 0 < (xs.length : Int) - 1 := by omega
      obtain ⟨d0, d1⟩ := mod_range o m1
      obtain ⟨b0, b1⟩ := mod_range ((j : Int) + 1 + o % ((xs.length : Int) - 1)) m0
      have hne := ring_ne (a := (j : Int)) (t := o % ((xs.length : Int) - 1)) (n := (xs.length : Int)) (by omega) (by omega) d0 d1
      obtain ⟨w, hw⟩ : ∃ w : Nat, ((j : Int) + 1 + o % ((xs.length : Int) - 1)) % (xs.length : Int) = w := ⟨(((j : Int) + 1 + o % ((xs.length : Int) - 1)) % (xs.length : Int)).toNat, by omega⟩
      have hwl : w < xs.length := by omega
      have hjw : j ≠ w := by omega
      refine q_setI (y := xs[j] + 2 + z) (j := j) hl8 (ev_op (ev_op (ev_op (ev_var rfl) (ev_var rfl) (rv_ixL (sq_of hl8) (atI_nat (int_at hj2)))) ev_c rv_I0) (ev_var rfl) rv_I0) (ev_var rfl) (ev_var rfl) hj2 fun H9 e9 => ?_
      have ex9 := Ex.mut (o := .lst ((xs.set j (xs[j] + 2 + z)).map V.int)) ((e13.trans e8).trans e9) nl
      have hl9 : (upd H9 l (.lst ((xs.set j (xs[j] + 2 + z)).map V.int))) l = some (.lst ((xs.set j (xs[j] + 2 + z)).map V.int)) := upd_same
      generalize upd H9 l (.lst ((xs.set j (xs[j] + 2 + z)).map V.int)) = G9 at *
      refine b_asg (Ex.refl G9) (v := .int (w : Int)) (ev_is (ev_op (ev_op (by walk_at "ev") (ev_op (ev_var rfl) (ev_op (hlen ex9 rfl) ev_c rv_I0) (rv_I m1)) rv_I0) (hlen ex9 rfl) (rv_I m0)) (congrArg V.int hw)) fun H10 e10 => ?_
      have hl10 := e10 _ _ hl9
      have hw2 : w < (xs.set j (xs[j] + 2 + z)).length := by rw [List.length_set]; exact hwl
      refine e_setL (y := (xs.set j (xs[j] + 2 + z))[w] - 2 - z) (j := w) hl10 (ev_op (ev_op (ev_op (ev_var rfl) (ev_var rfl) (rv_ixL (sq_of hl10) (atI_nat (int_at hw2)))) ev_c rv_I0) (ev_var rfl) rv_I0) (ev_var rfl) (ev_var rfl) hw2 fun H11 e11 => ?_
      refine s_ret (ev_var rfl) fun H12 e12 => fin _ H12 ?_ ?_ ((Ex.mut ((ex9.trans e10).trans e11) nl).trans e12) (e12 _ _ upd_same)
      · rw [List.length_set, List.length_set]
        omega
      · refine no_crow_mark (mem_set_other (x := xs[j] + 2 + z) hj2 hjw) ?_
        rcases hx.2.1 xs[j] (List.getElem_mem hj2) with e | e <;> omega
    · refine e_ins (e8 _ _ hl2) (ev_var rfl) (ev_var rfl) (y := 1) ev_c (by omega) (by omega) (by omega) fun H9 e9 => ?_
      refine s_ret (ev_var rfl) fun H10 e10 => fin _ H10 ?_ ?_ ((Ex.mut ((e13.trans e8).trans e9) nl).trans e10) (e10 _ _ upd_same)
      · rw [len_ins]
        omega
      · refine no_crow_len ?_
        rw [len_ins]
        omega
/-! #### has -/
theorem sc_has : FnScope N_has P_has (defScope s_has) := ⟨rfl, rfl, rfl, by decide +kernel, rfl, by decide +kernel, by decide +kernel⟩
/-- whether a row has a spot, and there a mark -/
def hasB (xs : List Int) (j m : Int) : Bool := decide (0 ≤ j) && decide (j < xs.length) && decide (xs.getD j.toNat 0 = m)
def sp_has (_ : Txt K mg) : Sp := fun vs H Q _ => ∃ (a : Addr) (xs : List Int) (j m : Int), vs = [.ref a, .int j, .int m] ∧ SqL K H a (xs.map V.int) ∧ RetV (.bl (hasB xs j m)) H Q
theorem ev_has {T : Txt K mg} {σ : L2.St} {H : Hp} {tg : TA} {E : XK} {a : Addr} {xs : List Int} {j m : Int} (hx : SqL K H a (xs.map V.int)) (ha : EvA tg σ H [.ref a, .int j, .int m]) : Ev (tCall (sp_has T) [] E tg) σ H (.bl (hasB xs j m)) :=
  ev_callF ha fun _ e _ q => ⟨a, xs, j, m, rfl, ex_l e hx, q⟩
theorem ok_has (T : Txt K mg) : FnOk P w K mg base CX0 1 T.a_has T.d_has P_has (sp_has T) := by
  refine (T.F_has).ok sc_has (fun vs H Q E h => ?len) (fun cdv A outer s H vs Q E hr h => ⟨_, (pss_one (ps_ret (pe_and (pe_chain op_le op_lt pe_int (pv 1) (pe_callB call_len_seq (by rfl) T.g_len boot_len (pa_cons (pv 0) pa_nil))) (pe_one (pe_cmpR op_eq (pe_ix ix_list (pv 0) (pv 1) (fun _ _ => rfl)) (pv 2) (nomark _)))))), ?read⟩)
  case len =>
    obtain ⟨a, xs, j, m, rfl, _⟩ := h
    rfl
  case read =>
    obtain ⟨a, xs, j, m, rfl, hx, q⟩ := h
    show tRet _ _ [some (.ref a), some (.int j), some (.int m)] H
    refine b_ret (Ex.refl H) (v := .bl (hasB xs j m)) (ev_andV (ev_chain ev_c (ev_var rfl) rv_I0 (fun _ => ev_is (ev_len (ev_var rfl) hx) (by rw [List.length_map])) fun _ => rv_I0) fun hb => ?_) q
    have hj : 0 ≤ j ∧ j < xs.length := by simpa using hb
    obtain ⟨k, rfl⟩ : ∃ k : Nat, j = k := ⟨j.toNat, by omega⟩
    have hk : k < xs.length := by omega
    have e : xs.getD (k : Int).toNat 0 = xs[k] := by simp [hk]
    rw [e]
    exact ev_op (ev_op (ev_var rfl) (ev_var rfl) (rv_ixL hx (atI_nat (int_at hk)))) (ev_var rfl) rv_eqI
/-! #### Choosing.moved -/
theorem sc_Choosing_moved : FnScope N_Choosing_moved P_Choosing_moved (defScope s_Choosing_moved) := ⟨rfl, rfl, rfl, by decide +kernel, rfl, by decide +kernel, by decide +kernel⟩
/-- a row moved by a change: none where it does not fit -/
def swp (xs : List Int) (i j : Int) : Option (List Int) := if hasB xs i 1 && hasB xs j 0 then some (swapped xs i.toNat j.toNat) else none
def cmv (xs : List Int) (d : Int) : Ch → Option (List Int)
  | .non => some xs
  | .turn _ => none
  | .swap i j => if d < 0 then swp xs j i else swp xs i j
theorem hasB_iff (xs : List Int) (j m : Int) : hasB xs j m = true ↔ 0 ≤ j ∧ j < xs.length ∧ xs.getD j.toNat 0 = m := by
  unfold hasB
  simp [and_assoc]
theorem crow_long {n k : Nat} {xs ys : List Int} {i j : Nat} (hr : CRow n k xs) (h : SwpAt xs ys i j) : CRow n k ys := ⟨by rw [h.eq, swapped_len]; exact hr.1, h.bits hr.2.1, by rw [h.ones hr.2.1]; exact hr.2.2⟩
def sp_Choosing_moved (T : Txt K mg) : Sp := fun vs H Q E => ∃ (o a : Addr) (n k : Nat) (xs : List Int) (v : V) (c : Ch) (d : Int), vs = [.ref o, .ref a, v, .int d] ∧ CForm n k ∧ IsC T H o n k ∧ SqL K H a (xs.map V.int) ∧ xs.length ≤ 10000 ∧ ChAt K H v c ∧
  (CRow n k xs → (∀ ys, cmv xs d c = some ys → RetL (ys.map V.int) H Q) ∧ (cmv xs d c = none → RetX T.c_NoChange H E)) ∧ (¬ CRow n k xs → RetX T.c_NoRow H E)
theorem ok_Choosing_moved (T : Txt K mg) : FnOk P w K mg base (L2N.CX P w) 2 T.a_Choosing_moved T.d_Choosing_moved P_Choosing_moved (sp_Choosing_moved T) := by
  have G_Choosing_is_row := ok_Choosing_is_row (P := P) (w := w) (base := base) T
  have G_has := ok_has (P := P) (w := w) (base := base) T
  refine fun_okN T.F_Choosing_moved sc_Choosing_moved (fun vs H Q E h => ?len) (fun cdv A outer s H vs Q E hr h => ⟨_, (pss_cons (ps_if (pt_not (pt_val (pe_meth (pv 0) T.cl_Choosing T.me_Choosing_is_row G_Choosing_is_row (hr.mono (by decide)) T.b_Choosing_is_row .nil pass0 (pa_cons (pv 1) pa_nil)))) (pss_one (L2N.ps_raise rfl (L2N.takes_of rfl rfl rfl rfl) (L2N.pmk_own PySem.F.excBase_ValueError T.x_NoRow T.m_NoRow T.k_NoRow (raises_own T.bE_NoRow T.tE_NoRow) rfl))) pss_nil)
    (pss_cons (ps_set (i := 4) sc_Choosing_moved.nd rfl (Or.inl rfl) (pe_callTy call_list_of (by rfl) T.g_list boot_list (pa_cons (pv 1) pa_nil)))
    (pss_cons (ps_if (pt_cmpR op_isN (pv 2) pe_non (nomark _)) (pss_one (ps_ret (pv 4))) pss_nil)
    (pss_cons (ps_if (pt_cmpR op_ne (pe_ix ix_tup (pv 2) pe_int (fun _ _ => rfl)) pe_str (nomark _)) (pss_one (L2N.ps_raise rfl (L2N.takes_of rfl rfl rfl rfl) (L2N.pmk_own PySem.F.excBase_ValueError T.x_NoChange T.m_NoChange T.k_NoChange (raises_own T.bE_NoChange T.tE_NoChange) rfl))) pss_nil)
    (pss_cons (ps_set (i := 5) sc_Choosing_moved.nd rfl (Or.inl rfl) (pe_ix ix_tup (pv 2) pe_int (fun _ _ => rfl)))
    (pss_cons (ps_set (i := 6) sc_Choosing_moved.nd rfl (Or.inl rfl) (pe_ix ix_tup (pv 2) pe_int (fun _ _ => rfl)))
    (pss_cons (ps_if (pt_cmpR op_lt (pv 3) pe_int (nomark _)) (pss_cons (ps_set (i := 5) sc_Choosing_moved.nd rfl (Or.inl rfl) (pe_ix ix_tup (pv 2) pe_int (fun _ _ => rfl)))
    (pss_one (ps_set (i := 6) sc_Choosing_moved.nd rfl (Or.inl rfl) (pe_ix ix_tup (pv 2) pe_int (fun _ _ => rfl))))) pss_nil)
    (pss_cons (ps_if (PW.pt (pw_or (pt_not (pt_val (pe_call G_has (hr.mono (by decide)) (by rfl) T.m_has T.F_has.kp T.b_has .nil pass0 (pa_cons (pv 4) (pa_cons (pv 5) (pa_cons pe_int pa_nil)))))) (pw_or1 (pt_not (pt_val (pe_call G_has (hr.mono (by decide)) (by rfl) T.m_has T.F_has.kp T.b_has .nil pass0 (pa_cons (pv 4) (pa_cons (pv 6) (pa_cons pe_int pa_nil))))))))) (pss_one (L2N.ps_raise rfl (L2N.takes_of rfl rfl rfl rfl) (L2N.pmk_own PySem.F.excBase_ValueError T.x_NoChange T.m_NoChange T.k_NoChange (raises_own T.bE_NoChange T.tE_NoChange) rfl))) pss_nil)
    (pss_cons (ps_asg pe_int (pg_sub (pv 4) (pv 5) set_list))
    (pss_cons (ps_asg pe_int (pg_sub (pv 4) (pv 6) set_list))
    (pss_one (ps_ret (pv 4))))))))))))), ?read⟩)
  case len =>
    obtain ⟨o, a, n, k, xs, v, c, d, rfl, _⟩ := h
    rfl
  case read =>
    obtain ⟨o, a, n, k, xs, v, c, d, rfl, f, ho, hx, hl, hc, q, qe⟩ := h
    obtain ⟨dx, hO⟩ := id ho
    show tSeq _ _ _ [some (.ref o), some (.ref a), some v, some (.int d), none, none, none] H
    refine b_when (Ex.refl H) (et_not (et_B (ev_Cis_row ho hx hl (ev_var rfl) (by walk_at "ev")))) (fun hb H1 e1 => ?_) (fun hb H1 e1 => ?_)
    · refine qe ?_ H1 e1
      intro z
      rw [(isCrow_iff n k xs).mpr z] at hb
      cases hb
    have hr : CRow n k xs := (isCrow_iff n k xs).mp (by simpa using hb)
    obtain ⟨q1, q2⟩ := q hr
    refine b_asgL e1 (el_list (ev_var rfl) hx) fun l H2 nl e hlst => ?_
    have hc2 := hc.mono e
    cases c with
    | non =>
      obtain rfl : v = .non := hc
      refine b_when (Ex.refl H2) (et_test (ev_op (ev_var rfl) ev_c (rv_isNb (b := true) rfl))) (fun _ H3 e3 => ?_) (fun hb => by cases hb)
      exact s_ret (ev_var rfl) fun H4 e4 => q1 _ rfl l H4 nl ((e.trans e3).trans e4) (e4 _ _ (e3 _ _ hlst))
    | turn j =>
      obtain ⟨t, rfl, ht⟩ := hc2
      refine b_skip (Ex.refl H2) (et_test (ev_op (ev_var rfl) ev_c (rv_isNb (b := false) rfl))) (fun H3 e3 => ?_)
      refine b_when (b := true) e3 (et_test (ev_op (ev_op (ev_var rfl) ev_c (rv_ixT ht (at_of (j := 0) rfl rfl))) ev_c (rv_neS (b := true) (by decide +kernel)))) (fun _ H4 e4 => ?_) (fun hb => by cases hb)
      exact q2 rfl H4 (e.trans e4)
    | swap i j =>
      obtain ⟨t, rfl, ht⟩ := hc2
      refine b_skip (Ex.refl H2) (et_test (ev_op (ev_var rfl) ev_c (rv_isNb (b := false) rfl))) (fun H3 e3 => ?_)
      refine b_skip (b := false) e3 (et_test (ev_op (ev_op (ev_var rfl) ev_c (rv_ixT ht (at_of (j := 0) rfl rfl))) ev_c (rv_neS (b := false) (by decide +kernel)))) (fun H4 e4 => ?_)
      refine b_asg e4 (v := .int i) (ev_op (ev_var rfl) ev_c (rv_ixT ht (at_of (j := 1) rfl rfl))) fun H5 e5 => ?_
      refine b_asg e5 (v := .int j) (ev_op (ev_var rfl) ev_c (rv_ixT ht (at_of (j := 2) rfl rfl))) fun H6 e6 => ?_
      refine b_when (b := decide (d < 0)) e6 (by walk_at "ev") (fun hb H7 e7 => ?_) (fun hb H7 e7 => ?_)
      focus
        refine b_asg e7 (v := .int j) (ev_op (ev_var rfl) ev_c (rv_ixT ht (at_of (j := 2) rfl rfl))) fun H8 e8 => ?_
        refine e_asg e8 (v := .int i) (ev_op (ev_var rfl) ev_c (rv_ixT ht (at_of (j := 1) rfl rfl))) fun H7 e7 => ?_
        have hcm : cmv xs d (.swap i j) = swp xs j i := if_pos (by simpa using hb)
        generalize hcv : cmv xs d (.swap i j) = cv at q1 q2 hcm
        show tSeq _ _ _ [some (.ref o), some (.ref a), some (.ref t), some (.int d), some (.ref l), some (.int j), some (.int i)] H7
        clear ht
        generalize hout : j = out at hcm ⊢
        generalize hin : i = into at hcm ⊢
      rotate_left
      focus
        have hcm : cmv xs d (.swap i j) = swp xs i j := if_neg (by simpa using hb)
        generalize hcv : cmv xs d (.swap i j) = cv at q1 q2 hcm
        show tSeq _ _ _ [some (.ref o), some (.ref a), some (.ref t), some (.int d), some (.ref l), some (.int i), some (.int j)] H7
        clear ht
        generalize hout : i = out at hcm ⊢
        generalize hin : j = into at hcm ⊢
      all_goals
        subst hcm
        clear hout hin hcv
        refine b_when (b := !hasB xs out 1 || !hasB xs into 0) e7 (et_or (et_not (et_B (ev_has (sq_of hlst) (by walk_at "ev")))) fun _ => et_not (et_B (ev_has (sq_of hlst) (by walk_at "ev")))) (fun hb2 H8 e8 => ?_) (fun hb2 H8 e8 => ?_)
        · refine q2 ?_ H8 (e.trans e8)
          refine if_neg fun z => ?_
          rw [Bool.and_eq_true] at z
          rw [z.1, z.2] at hb2
          cases hb2
        · have h1 : hasB xs out 1 = true := by
            cases h : hasB xs out 1 <;> rw [h] at hb2
            · cases hb2
          have h2 : hasB xs into 0 = true := by
            cases h : hasB xs into 0 <;> rw [h] at hb2
            · cases h1 : hasB xs out 1 <;> rw [h1] at hb2 <;> cases hb2
          have hsw : swp xs out into = some (swapped xs out.toNat into.toNat) := if_pos (by rw [h1, h2]; rfl)
          obtain ⟨a0, a1, _⟩ := (hasB_iff xs out 1).mp h1
          obtain ⟨b0, b1, _⟩ := (hasB_iff xs into 0).mp h2
          obtain ⟨u, rfl⟩ : ∃ u : Nat, out = u := ⟨out.toNat, by omega⟩
          obtain ⟨w, rfl⟩ : ∃ w : Nat, into = w := ⟨into.toNat, by omega⟩
          refine q_setL (v := .int 0) (j := u) (e8 _ _ hlst) ev_c (ev_var rfl) (ev_var rfl) (by rw [List.length_map]; omega) fun H9 e9 => ?_
          refine q_setL (v := .int 1) (j := w) upd_same ev_c (ev_var rfl) (ev_var rfl) (by rw [List.length_set, List.length_map]; omega) fun H10 e10 => ?_
          refine s_ret (ev_var rfl) fun H11 e11 => q1 _ hsw l H11 nl ((Ex.mut ((Ex.mut ((e.trans e8).trans e9) nl).trans e10) nl).trans e11) (e11 _ _ ?_)
          rw [upd_same]
          unfold swapped
          rw [List.map_set, List.map_set]
          rfl
/-! #### Choosing.undone -/
theorem sc_Choosing_undone : FnScope N_Choosing_undone P_Choosing_undone (defScope s_Choosing_undone) := ⟨rfl, rfl, rfl, by decide +kernel, rfl, by decide +kernel, by decide +kernel⟩
def sp_Choosing_undone (T : Txt K mg) : Sp := fun vs H Q E => ∃ (o a : Addr) (n k : Nat) (xs : List Int) (v : V) (c : Ch), vs = [.ref o, .ref a, v] ∧ CForm n k ∧ IsC T H o n k ∧ SqL K H a (xs.map V.int) ∧ xs.length ≤ 10000 ∧ ChAt K H v c ∧
  (CRow n k xs → (∀ ys, cmv xs (-1) c = some ys → RetL (ys.map V.int) H Q) ∧ (cmv xs (-1) c = none → RetX T.c_NoChange H E)) ∧ (¬ CRow n k xs → RetX T.c_NoRow H E)
theorem el_Cundone {T : Txt K mg} {σ : L2.St} {H : Hp} {ta : TE} {tg : TA} {E : XK} {o a : Addr} {n k : Nat} {xs ys : List Int} {v : V} {c : Ch} (f : CForm n k) (ho : IsC T H o n k) (hx : SqL K H a (xs.map V.int)) (hr : CRow n k xs) (hc : ChAt K H v c) (hy : cmv xs (-1) c = some ys) (hv : Ev ta σ H (.ref o)) (ha : EvA tg σ H [.ref a, v]) :
    EvL (tMeth T.c_Choosing "undone" (sp_Choosing_undone T) [] E ta tg) σ H (ys.map V.int) := by
  obtain ⟨dx, h⟩ := ho
  exact el_meth hv h (cF_m _ _ _) ha fun H1 e Q q => ⟨o, a, n, k, xs, v, c, rfl, f, ⟨dx, e _ _ h⟩, ex_l e hx, by have := f.2.1; have := hr.1; omega, hc.mono e, fun _ => ⟨fun zs hz => by rw [hy] at hz; cases hz; exact q, fun z => by rw [hy] at z; cases z⟩, fun z => absurd hr z⟩
/-- .. the change a tuple made on the way -/
theorem el_CundoneU {T : Txt K mg} {σ : L2.St} {H : Hp} {ta tr tu : TE} {E : XK} {o a : Addr} {n k : Nat} {xs ys : List Int} {i j : Int} (f : CForm n k) (ho : IsC T H o n k) (hx : SqL K H a (xs.map V.int)) (hr : CRow n k xs) (hy : cmv xs (-1) (.swap i j) = some ys) (hv : Ev ta σ H (.ref o)) (hr' : Ev tr σ H (.ref a)) (hu : EvU tu σ H [.str "swap", .int i, .int j]) :
    EvL (tMeth T.c_Choosing "undone" (sp_Choosing_undone T) [] E ta (tCons tr (tCons tu tNil))) σ H (ys.map V.int) := by
  obtain ⟨dx, h⟩ := ho
  intro H1 e Q q
  refine hv H1 e _ fun H2 e2 => ⟨o, dx, _, rfl, e2 _ _ (e _ _ h), cF_m _ _ _, ?_⟩
  refine hr' H2 (e.trans e2) _ fun H3 e3 => hu H3 ((e.trans e2).trans e3) _ fun p H4 hp e4 h4 => ?_
  have e5 := ((e.trans e2).trans e3).trans e4
  exact ⟨o, a, n, k, xs, .ref p, .swap i j, rfl, f, ⟨dx, e5 _ _ h⟩, ex_l e5 hx, by have := f.2.1; have := hr.1; omega, ⟨p, rfl, st_of h4⟩, fun _ => ⟨fun zs hz => by rw [hy] at hz; cases hz; exact fun p' H5 hp' e5 h5 => q p' H5 (fresh_back ((e2.trans e3).trans e4) hp') (((e2.trans e3).trans e4).trans e5) h5, fun z => by rw [hy] at z; cases z⟩, fun z => absurd hr z⟩
theorem ok_Choosing_undone (T : Txt K mg) : FnOk P w K mg base (L2N.CX P w) 3 T.a_Choosing_undone T.d_Choosing_undone P_Choosing_undone (sp_Choosing_undone T) := by
  have G_Choosing_moved := ok_Choosing_moved (P := P) (w := w) (base := base) T
  refine fun_okN T.F_Choosing_undone sc_Choosing_undone (fun vs H Q E h => ?len) (fun cdv A outer s H vs Q E hr h => ⟨_, (pss_one (ps_ret (pe_meth (pv 0) T.cl_Choosing T.me_Choosing_moved G_Choosing_moved (hr.mono (by decide)) T.b_Choosing_moved .nil (L2N.passes_call (W := fun cls d _ H => E cls d H) (E := E) (L2N.takes_of rfl rfl rfl rfl) (fun _ _ _ _ h => h)) (pa_cons (pv 1) (pa_cons (pv 2) (pa_cons (pe_un un_neg pe_int) pa_nil)))))), ?read⟩)
  case len =>
    obtain ⟨o, a, n, k, xs, v, c, rfl, _⟩ := h
    rfl
  case read =>
    obtain ⟨o, a, n, k, xs, v, c, rfl, f, ho, hx, hl, hc, q, qe⟩ := h
    obtain ⟨dx, hO⟩ := id ho
    show tRet _ _ [some (.ref o), some (.ref a), some v] H
    have ha : EvA (tCons (tVar 1) (tCons (tVar 2) (tCons (tUn (rU fun i => .int (-i)) (tC (.int 1))) tNil))) [some (.ref o), some (.ref a), some v] H [.ref a, v, .int (-1)] := by walk_at "ev"
    refine b_retMeth (Ex.refl H) (ev_var rfl) hO (cF_m _ _ _) ha fun H3 e => ?_
    refine ⟨o, a, n, k, xs, v, c, (-1), rfl, f, ho.mono e, ex_l e hx, hl, hc.mono e, fun hr => ⟨fun ys hy p H4 hp e4 h4 => (q hr).1 ys hy p H4 (fresh_back e hp) (e.trans e4) h4, fun hy => RetX.mono ((q hr).2 hy) e⟩, fun hr => RetX.mono (qe hr) e⟩
/-! #### Choosing.row_at -/
theorem sc_Choosing_row_at : FnScope N_Choosing_row_at P_Choosing_row_at (defScope s_Choosing_row_at) := ⟨rfl, rfl, rfl, by decide +kernel, rfl, by decide +kernel, by decide +kernel⟩
theorem rep_set (m : Nat) (l : List Int) : (List.replicate (m + 1) (0 : Int) ++ l).set m 1 = List.replicate m 0 ++ 1 :: l := by
  rw [List.set_append_left _ _ (by rw [List.length_replicate]; omega), List.replicate_succ', List.set_append_right _ _ (by rw [List.length_replicate]; omega)]
  rw [List.length_replicate, Nat.sub_self, List.append_assoc]
  rfl
theorem rep_zero (m : Nat) (l : List Int) : List.replicate (m + 1) (0 : Int) ++ l = List.replicate m 0 ++ 0 :: l := by
  rw [List.replicate_succ', List.append_assoc]
  rfl
def sp_Choosing_row_at (T : Txt K mg) : Sp := fun vs H Q E => ∃ (o : Addr) (n k : Nat) (p : Int), vs = [.ref o, .int p] ∧ CForm n k ∧ IsC T H o n k ∧
  (0 ≤ p ∧ p < (bin n k : Int) → RetL ((crow n k p).map V.int) H Q) ∧ (¬ (0 ≤ p ∧ p < (bin n k : Int)) → RetX T.c_NoPlace H E)
theorem el_crow {T : Txt K mg} {σ : L2.St} {H : Hp} {ta : TE} {tg : TA} {E : XK} {o : Addr} {n k : Nat} {p : Int} (f : CForm n k) (ho : IsC T H o n k) (p0 : 0 ≤ p) (p1 : p < (bin n k : Int)) (hv : Ev ta σ H (.ref o)) (ha : EvA tg σ H [.int p]) :
    EvL (tMeth T.c_Choosing "row_at" (sp_Choosing_row_at T) [] E ta tg) σ H ((crow n k p).map V.int) := by
  obtain ⟨dx, h⟩ := ho
  exact el_meth hv h (cF_m _ _ _) ha fun H1 e Q q => ⟨o, n, k, p, rfl, f, ⟨dx, e _ _ h⟩, fun _ => q, fun z => absurd ⟨p0, p1⟩ z⟩
theorem ok_Choosing_row_at (T : Txt K mg) : FnOk P w K mg base (L2N.CX P w) 1 T.a_Choosing_row_at T.d_Choosing_row_at P_Choosing_row_at (sp_Choosing_row_at T) := by
  refine fun_okN T.F_Choosing_row_at sc_Choosing_row_at (fun vs H Q E h => ?len) (fun cdv A outer s H vs Q E hr h => ⟨_, (pss_cons (ps_if (pt_not (pt_chain op_le op_lt pe_int (pv 1) (pe_fld (pv 0) (by rfl)))) (pss_one (L2N.ps_raise rfl (L2N.takes_of rfl rfl rfl rfl) (L2N.pmk_own PySem.F.excBase_ValueError T.x_NoPlace T.m_NoPlace T.k_NoPlace (raises_own T.bE_NoPlace T.tE_NoPlace) rfl))) pss_nil)
    (pss_cons (ps_set (i := 2) sc_Choosing_row_at.nd rfl (Or.inl rfl) (pe_op op_rep (pe_lst (pa_cons pe_int pa_nil)) (pe_fld (pv 0) (by rfl))))
    (pss_cons (ps_set (i := 3) sc_Choosing_row_at.nd rfl (Or.inl rfl) (pe_fld (pv 0) (by rfl)))
    (pss_cons (ps_set (i := 4) sc_Choosing_row_at.nd rfl (Or.inl rfl) (pe_fld (pv 0) (by rfl)))
    (pss_cons (ps_for (passes_of rfl) rfl (pi_range3 rfl T.g_range (pa_cons (pe_fld (pv 0) (by rfl)) (pa_cons pe_int (pa_cons (pe_un un_neg pe_int) pa_nil)))) (pg_name (i := 5) sc_Choosing_row_at.nd rfl (Or.inl rfl)) (pss_cons (ps_set (i := 6) sc_Choosing_row_at.nd rfl (Or.inl rfl) (pe_op op_fdivW (pe_op op_mul (pv 4) (pe_op op_sub (pv 5) (pv 3))) (pv 5)))
    (pss_cons (ps_if (pt_cmpR op_lt (pv 1) (pv 6) (nomark _)) (pss_cons (ps_set (i := 4) sc_Choosing_row_at.nd rfl (Or.inl rfl) (pv 6))
    (pss_one ps_continue)) pss_nil)
    (pss_cons (ps_asg pe_int (pg_sub (pv 2) (pe_op op_sub (pv 5) pe_int) set_list))
    (pss_cons (ps_set (i := 1) sc_Choosing_row_at.nd rfl (Or.inl rfl) (pe_op op_sub (pe_op op_sub (pv 4) pe_int) (pv 1)))
    (pss_cons (ps_set (i := 4) sc_Choosing_row_at.nd rfl (Or.inl rfl) (pe_op op_sub (pv 4) (pv 6)))
    (pss_one (ps_set (i := 3) sc_Choosing_row_at.nd rfl (Or.inl rfl) (pe_op op_sub (pv 3) pe_int)))))))))
    (pss_one (ps_ret (pv 2)))))))), ?read⟩)
  case len =>
    obtain ⟨o, n, k, p, rfl, _⟩ := h
    rfl
  case read =>
    obtain ⟨o, n, k, p, rfl, f, ⟨dx, ho⟩, q, qe⟩ := h
    show tSeq _ _ _ [some (.ref o), some (.int p), none, none, none, none, none] H
    obtain ⟨f1, f2, f3, f4⟩ := id f
    have hsz : ∀ {σ : L2.St}, σ[0]? = some (some (V.ref o)) → Ev (tFld K (tVar 0) "size") σ H (.int (bin n k)) := fun h => ev_fld (ev_var h) ho T.cl_Choosing T.no_Choosing_size (cF_size _ _ _)
    have hln : ∀ {σ : L2.St} {H' : Hp}, Ex H H' → σ[0]? = some (some (V.ref o)) → Ev (tFld K (tVar 0) "length") σ H' (.int n) := fun e h => ev_fld (ev_var h) (e _ _ ho) T.cl_Choosing T.no_Choosing_length (cF_length _ _ _)
    have hon : ∀ {σ : L2.St} {H' : Hp}, Ex H H' → σ[0]? = some (some (V.ref o)) → Ev (tFld K (tVar 0) "ones") σ H' (.int k) := fun e h => ev_fld (ev_var h) (e _ _ ho) T.cl_Choosing T.no_Choosing_ones (cF_ones _ _ _)
    refine b_when (Ex.refl H) (et_not (et_test (ev_chain (by walk_at "ev") (by walk_at "ev") (by walk_at "rv") (fun _ => hsz rfl) fun _ => by walk_at "rv"))) (fun hb H1 e1 => ?_) (fun hb H1 e1 => ?_)
    · refine qe ?_ H1 e1
      simp at hb
      omega
    have hp : 0 ≤ p ∧ p < (bin n k : Int) := by simpa using hb
    refine b_asgL e1 (xs := (List.replicate n (0 : Int)).map V.int) ?_ fun l H2 nl e2 hl => ?_
    · have h := el_rep (tb := tFld K (tVar 0) "length") (σ := [some (.ref o), some (.int p), none, none, none, none, none]) (H := H) (n := (n : Int)) (el_lst (ea_cons (ev_c (v := .int 0)) ea_nil) (by simp)) (fun H1 e => hln e rfl) (by omega) (by omega) (by simp)
      rw [show ((n : Int)).toNat = n from rfl, flat_one] at h
      rw [List.map_replicate]
      exact h
    refine b_asg (Ex.refl H2) (hon e2 rfl) fun H3 e3 => ?_
    refine b_asg e3 (v := .int (bin n k)) (ev_fld (ev_var rfl) (e2 _ _ ho) T.cl_Choosing T.no_Choosing_size (cF_size _ _ _)) fun H4 e4 => ?_
    refine b_forDown (n := n) e4 (ea_cons (hln e2 rfl) (ea_cons ev_c (ea_cons (ev_un0 ev_c) ea_nil))) (by omega) (fun i σ' H' => ∃ (u v : Option V) (j : Nat) (y : Int) (pre : List Int), σ' = [some (.ref o), some (.int y), some (.ref l), some (.int j), some (.int (bin (n - i) j)), u, v] ∧ Ex H H' ∧
        i ≤ n ∧ j ≤ n - i ∧ pre.length = i ∧ 0 ≤ y ∧ y < (bin (n - i) j : Int) ∧ crev n k p = pre ++ crev (n - i) j y ∧ H' l = some (.lst ((List.replicate (n - i) 0 ++ pre.reverse).map V.int)))
      (fun H' e' => ⟨none, none, k, p, [], by rw [Nat.sub_zero]; rfl, e2.trans e', by omega, by omega, rfl, hp.1, hp.2, rfl, by rw [Nat.sub_zero]; simpa using e' _ _ hl⟩) ?_ ?_
    · rintro i σ' H' hi ⟨u, v, j, y, pre, rfl, e', hin, hj, hpre, y0, y1, hcr, hl'⟩
      obtain ⟨m, hm⟩ : ∃ m, n - i = m + 1 := ⟨n - i - 1, by omega⟩
      have hm2 : n - (i + 1) = m := by omega
      rw [hm] at hj y1 hcr hl' ⊢
      rw [hm2]
      show tSeq _ _ _ [some (.ref o), some (.int y), some (.ref l), some (.int j), some (.int (bin (m + 1) j)), some (.int ((n : Int) - i)), v] H'
      have hs : (n : Int) - i = (m : Int) + 1 := by omega
      rw [hs]
      refine b_asg (Ex.refl H') (v := .int (bin m j)) ?_ fun H5 e5 => ?_
      · rw [← bin_down_div m j]
        walk_at "ev"
      refine b_when e5 (by walk_at "ev") (fun hb H6 e6 => ?_) (fun hb H6 e6 => ?_)
      · have hy : y < (bin m j : Int) := by simpa using hb
        refine b_asg e6 (ev_var rfl) fun H7 e7 => ?_
        show tCont _ _ _
        refine ⟨_, _, j, y, pre ++ [0], rfl, e'.trans e7, by omega, ?_, by rw [List.length_append, hpre]; rfl, y0, hy, ?_, ?_⟩
        · rcases Nat.lt_or_ge m j with h | h
          · rw [bin_over m j h] at hy
            omega
          · exact h
        · rw [hcr, crev_low hy, List.append_assoc]
          rfl
        · rw [List.reverse_append]
          refine e7 _ _ ?_
          rw [hl', rep_zero]
          rfl
      · have hy : ¬ y < (bin m j : Int) := by simpa using hb
        obtain ⟨j', rfl⟩ := high_one hy y1
        have hb2 := bin_succ m j'
        refine q_setL (v := .int 1) (j := m) (e6 _ _ hl') ev_c (ev_var rfl) (ev_is (ev_op (ev_var rfl) ev_c rv_I0) (congrArg V.int (by omega))) (by rw [List.length_map, List.length_append, List.length_replicate]; omega) fun H7 e7 => ?_
        have hl7 : (upd H7 l (.lst (((List.replicate (m + 1) 0 ++ pre.reverse).map V.int).set m (.int 1)))) l = some (.lst ((List.replicate m 0 ++ 1 :: pre.reverse).map V.int)) := by
          rw [upd_same, ← List.map_set, rep_set]
        have e8 : Ex H (upd H7 l (.lst (((List.replicate (m + 1) 0 ++ pre.reverse).map V.int).set m (.int 1)))) := Ex.mut ((e'.trans e6).trans e7) nl
        generalize upd H7 l (.lst (((List.replicate (m + 1) 0 ++ pre.reverse).map V.int).set m (.int 1))) = H8 at hl7 e8
        refine b_asg (Ex.refl H8) (ev_op (ev_op (ev_var rfl) ev_c rv_I0) (ev_var rfl) rv_I0) fun H9 e9 => ?_
        refine b_asg e9 (v := .int (bin m j')) (ev_is (ev_op (ev_var rfl) (ev_var rfl) rv_I0) (congrArg V.int (by omega))) fun H10 e10 => ?_
        refine l_asg e10 (v := .int j') (ev_is (ev_op (ev_var rfl) ev_c rv_I0) (congrArg V.int (by omega))) fun H11 e11 => ⟨_, _, j', (bin (m + 1) (j' + 1) : Int) - 1 - y, pre ++ [1], rfl, e8.trans e11, by omega, by omega, by rw [List.length_append, hpre]; rfl, by omega, by omega, ?_, ?_⟩
        · rw [hcr, crev_high hy, List.append_assoc]
          rfl
        · rw [List.reverse_append]
          exact e11 _ _ hl7
    · rintro σ' H' ⟨u, v, j, y, pre, rfl, e', hin, hj, hpre, y0, y1, hcr, hl'⟩
      rw [Nat.sub_self] at hcr hl'
      refine s_ret (ev_var rfl) fun H5 e5 => q hp l H5 nl (e'.trans e5) (e5 _ _ ?_)
      rw [hl', crow, hcr]
      show some (HO.lst (([] ++ pre.reverse).map V.int)) = some (HO.lst ((pre ++ crev 0 j y).reverse.map V.int))
      rw [show crev 0 j y = [] from rfl, List.append_nil, List.nil_append]
/-! #### Listing.leap -/
def sp_Listing_leap_C (T : Txt K mg) : Sp := fun vs H Q E => ∃ (o a : Addr) (n k : Nat) (xs : List Int) (d : Int), vs = [.ref o, .ref a, .int d] ∧ CForm n k ∧ IsC T H o n k ∧ SqL K H a (xs.map V.int) ∧ xs.length ≤ 10000 ∧
  (CRow n k xs → RetL ((crow n k ((cplace xs + d) % (bin n k : Int))).map V.int) H Q) ∧ (¬ CRow n k xs → RetX T.c_NoRow H E)
theorem el_Cleap {T : Txt K mg} {σ : L2.St} {H : Hp} {ta : TE} {tg : TA} {E : XK} {o a : Addr} {n k : Nat} {xs : List Int} {d : Int} {dvs ws : List V} (f : CForm n k) (ho : IsC T H o n k) (hx : SqL K H a (xs.map V.int)) (hr : CRow n k xs) (hv : Ev ta σ H (.ref o)) (ha : EvA tg σ H ws) (hw : ws ++ dvs = [.ref a, .int d]) :
    EvL (tMeth T.c_Choosing "leap" (sp_Listing_leap_C T) dvs E ta tg) σ H ((crow n k ((cplace xs + d) % (bin n k : Int))).map V.int) := by
  obtain ⟨dx, h⟩ := ho
  refine el_meth hv h (cF_m _ _ _) ha fun H1 e Q q => ?_
  rw [hw]
  exact ⟨o, a, n, k, xs, d, rfl, f, ⟨dx, e _ _ h⟩, ex_l e hx, by have := f.2.1; have := hr.1; omega, fun _ => q, fun z => absurd hr z⟩
theorem er_Cleap {T : Txt K mg} {σ : L2.St} {H : Hp} {ta : TE} {tg : TA} {E : XK} {o a : Addr} {n k : Nat} {xs : List Int} {d : Int} {dvs ws : List V} (f : CForm n k) (ho : IsC T H o n k) (hx : SqL K H a (xs.map V.int)) (hl : xs.length ≤ 10000) (hm : ¬ CRow n k xs) (he : RetX T.c_NoRow H E) (hv : Ev ta σ H (.ref o)) (ha : EvA tg σ H ws) (hw : ws ++ dvs = [.ref a, .int d]) :
    EvR (tMeth T.c_Choosing "leap" (sp_Listing_leap_C T) dvs E ta tg) σ H := by
  obtain ⟨dx, h⟩ := ho
  refine er_meth hv h (cF_m _ _ _) ha fun H1 e Q => ?_
  rw [hw]
  exact ⟨o, a, n, k, xs, d, rfl, f, ⟨dx, e _ _ h⟩, ex_l e hx, hl, fun z => absurd z hm, fun _ => RetX.mono he e⟩
theorem ok_Listing_leap_C (T : Txt K mg) : FnOk P w K mg base (L2N.CX P w) 3 T.a_Listing_leap T.d_Listing_leap P_Listing_leap (sp_Listing_leap_C T) := by
  have G_Choosing_place_of := ok_Choosing_place_of (P := P) (w := w) (base := base) T
  have G_Choosing_row_at := ok_Choosing_row_at (P := P) (w := w) (base := base) T
  refine (T.F_Listing_leap).ok (CX := L2N.CX P w) sc_Listing_leap (fun vs H Q E h => ?len) (fun cdv A outer s H vs Q E hr h => ⟨_, (pss_one (ps_ret (pe_meth (pv 0) T.cl_Choosing T.me_Choosing_row_at G_Choosing_row_at (hr.mono (by decide)) T.b_Choosing_row_at .nil (L2N.passes_call (W := fun cls d _ H => E cls d H) (E := E) (L2N.takes_of rfl rfl rfl rfl) (fun _ _ _ _ h => h)) (pa_cons (pe_op op_mod (pe_op op_add (pe_meth (pv 0) T.cl_Choosing T.me_Choosing_place_of G_Choosing_place_of (hr.mono (by decide)) T.b_Choosing_place_of .nil (L2N.passes_call (W := fun cls d _ H => E cls d H) (E := E) (L2N.takes_of rfl rfl rfl rfl) (fun _ _ _ _ h => h)) (pa_cons (pv 1) pa_nil)) (pv 2)) (pe_fld (pv 0) (by rfl))) pa_nil)))), ?read⟩)
  case len =>
    obtain ⟨o, a, n, k, xs, d, rfl, _⟩ := h
    rfl
  case read =>
    obtain ⟨o, a, n, k, xs, d, rfl, f, ho, hx, hl, q, qe⟩ := h
    obtain ⟨dx, hO⟩ := id ho
    show tRet _ _ [some (.ref o), some (.ref a), some (.int d)] H
    have m0 := c_pos f
    obtain ⟨r0, r1⟩ := mod_range (cplace xs + d) m0
    by_cases hr : CRow n k xs
    · refine b_retL (Ex.refl H) (el_crow f ho r0 r1 (ev_var rfl) (ea_cons (ev_op (ev_op (ev_Cplace f ho hx hr (ev_var rfl) (by walk_at "ev")) (ev_var rfl) rv_I0) (ev_fld (ev_var rfl) hO T.cl_Choosing T.no_Choosing_size (cF_size _ _ _)) (rv_I m0)) ea_nil)) (q hr)
    · exact b_retR (Ex.refl H) (er_methA (ev_var rfl) hO (cF_m _ _ _) (er_cons1 (er_op1 (er_op1 (er_Cplace f ho hx hl hr (qe hr) (ev_var rfl) (by walk_at "ev"))))))
/-! #### Choosing.change -/
theorem sc_Choosing_change : FnScope N_Choosing_change P_Choosing_change (defScope s_Choosing_change) := ⟨rfl, rfl, rfl, by decide +kernel, rfl, by decide +kernel, by decide +kernel⟩
theorem crow_there {n k : Nat} {xs : List Int} (hr : CRow n k xs) (h1 : (bin n k : Int) ≠ 1) (h0 : 0 < (bin n k : Int)) : ∃ i j, SwpAt xs (crow n k ((cplace xs + 1) % (bin n k : Int))) i j := by
  obtain ⟨hl, hB, hO⟩ := hr
  have t0 := cplace_nonneg xs
  have t1 := cplace_lt xs
  have t2 := crow_cplace hB
  rw [hl, hO] at t1 t2
  have h := crow_next (n := n) (k := k) (p := cplace xs) (by omega) t0 t1
  rw [t2] at h
  exact h.at
def sp_Choosing_change (T : Txt K mg) : Sp := fun vs H Q E => ∃ (o a : Addr) (n k : Nat) (xs : List Int), vs = [.ref o, .ref a] ∧ CForm n k ∧ IsC T H o n k ∧ SqL K H a (xs.map V.int) ∧ xs.length ≤ 10000 ∧
  (CRow n k xs → ((bin n k : Int) = 1 → RetV .non H Q) ∧ (∀ i j : Nat, (bin n k : Int) ≠ 1 → SwpAt xs (crow n k ((cplace xs + 1) % (bin n k : Int))) i j → RetU [.str "swap", .int i, .int j] H Q)) ∧ (¬ CRow n k xs → RetX T.c_NoRow H E)
theorem SwpAt.same {l r : List Int} {i j i' j' : Nat} (h : SwpAt l r i j) (h' : SwpAt l r i' j') : i' = i ∧ j' = j :=
  ⟨(h.gone h'.lt.1).mp ((h'.gone h'.lt.1).mpr rfl), (h.made h'.lt.2).mp ((h'.made h'.lt.2).mpr rfl)⟩
theorem ev_Cchange {T : Txt K mg} {σ : L2.St} {H : Hp} {ta : TE} {tg : TA} {E : XK} {o a : Addr} {n k : Nat} {xs : List Int} (f : CForm n k) (ho : IsC T H o n k) (hx : SqL K H a (xs.map V.int)) (hr : CRow n k xs) (h1 : (bin n k : Int) = 1) (hv : Ev ta σ H (.ref o)) (ha : EvA tg σ H [.ref a]) :
    Ev (tMeth T.c_Choosing "change" (sp_Choosing_change T) [] E ta tg) σ H .non := by
  obtain ⟨dx, h⟩ := ho
  exact ev_meth hv h (cF_m _ _ _) ha fun H1 e Q q => ⟨o, a, n, k, xs, rfl, f, ⟨dx, e _ _ h⟩, ex_l e hx, by have := f.2.1; have := hr.1; omega, fun _ => ⟨fun _ => q, fun _ _ z => absurd h1 z⟩, fun z => absurd hr z⟩
theorem eu_Cchange {T : Txt K mg} {σ : L2.St} {H : Hp} {ta : TE} {tg : TA} {E : XK} {o a : Addr} {n k : Nat} {xs : List Int} {i j : Nat} (f : CForm n k) (ho : IsC T H o n k) (hx : SqL K H a (xs.map V.int)) (hr : CRow n k xs) (h1 : (bin n k : Int) ≠ 1) (hs : SwpAt xs (crow n k ((cplace xs + 1) % (bin n k : Int))) i j) (hv : Ev ta σ H (.ref o)) (ha : EvA tg σ H [.ref a]) :
    EvU (tMeth T.c_Choosing "change" (sp_Choosing_change T) [] E ta tg) σ H [.str "swap", .int i, .int j] := by
  obtain ⟨dx, h⟩ := ho
  refine eu_meth hv h (cF_m _ _ _) ha fun H1 e Q q => ⟨o, a, n, k, xs, rfl, f, ⟨dx, e _ _ h⟩, ex_l e hx, by have := f.2.1; have := hr.1; omega, fun _ => ⟨fun z => absurd z h1, fun i' j' _ hs' => ?_⟩, fun z => absurd hr z⟩
  obtain ⟨rfl, rfl⟩ := hs.same hs'
  exact q
theorem ok_Choosing_change (T : Txt K mg) : FnOk P w K mg base (L2N.CX P w) 4 T.a_Choosing_change T.d_Choosing_change P_Choosing_change (sp_Choosing_change T) := by
  have G_Listing_leap_C := ok_Listing_leap_C (P := P) (w := w) (base := base) T
  refine fun_okN T.F_Choosing_change sc_Choosing_change (fun vs H Q E h => ?len) (fun cdv A outer s H vs Q E hr h => ⟨_, (pss_cons (ps_set (i := 2) sc_Choosing_change.nd rfl (Or.inl rfl) (pe_meth (pv 0) T.cl_Choosing T.me_Choosing_leap G_Listing_leap_C (hr.mono (by decide)) T.be_Listing_leap T.ve_Listing_leap (L2N.passes_call (W := fun cls d _ H => E cls d H) (E := E) (L2N.takes_of rfl rfl rfl rfl) (fun _ _ _ _ h => h)) (pa_cons (pv 1) pa_nil)))
    (pss_cons (ps_if (pt_cmpR op_eq (pe_fld (pv 0) (by rfl)) pe_int (nomark _)) (pss_one (ps_ret pe_non)) pss_nil)
    (pss_cons (ps_set (i := 3) sc_Choosing_change.nd rfl (Or.inl rfl) pe_int)
    (pss_cons (ps_set (i := 4) sc_Choosing_change.nd rfl (Or.inl rfl) pe_int)
    (pss_cons (ps_for (passes_of rfl) rfl (pi_enum rfl T.g_enumerate (pa_cons (pv 1) pa_nil)) (pg_tup rfl (pgs_cons (pg_name (i := 5) sc_Choosing_change.nd rfl (Or.inl rfl)) (pgs_cons (pg_name (i := 6) sc_Choosing_change.nd rfl (Or.inl rfl)) pgs_nil))) (pss_cons (ps_if (pt_cmpR op_gt (pv 6) (pe_ix ix_list (pv 2) (pv 5) (fun _ _ => rfl)) (nomark _)) (pss_one (ps_set (i := 3) sc_Choosing_change.nd rfl (Or.inl rfl) (pv 5))) pss_nil)
    (pss_one (ps_if (pt_cmpR op_lt (pv 6) (pe_ix ix_list (pv 2) (pv 5) (fun _ _ => rfl)) (nomark _)) (pss_one (ps_set (i := 4) sc_Choosing_change.nd rfl (Or.inl rfl) (pv 5))) pss_nil))))
    (pss_one (ps_ret (pe_tup (pa_cons pe_str (pa_cons (pv 3) (pa_cons (pv 4) pa_nil))))))))))), ?read⟩)
  case len =>
    obtain ⟨o, a, n, k, xs, rfl, _⟩ := h
    rfl
  case read =>
    obtain ⟨o, a, n, k, xs, rfl, f, ho, hx, hl, q, qe⟩ := h
    obtain ⟨dx, hO⟩ := id ho
    show tSeq _ _ _ [some (.ref o), some (.ref a), none, none, none, none, none] H
    by_cases hr : CRow n k xs
    case neg => exact b_asgR (Ex.refl H) (er_Cleap (d := 1) f ho hx hl hr (qe hr) (ev_var rfl) (by walk_at "ev") rfl)
    obtain ⟨q1, q2⟩ := q hr
    have m0 := c_pos f
    refine b_asgL (Ex.refl H) (el_Cleap (d := 1) f ho hx hr (ev_var rfl) (by walk_at "ev") rfl) fun l H1 nl e hl1 => ?_
    have hx1 := ex_l e hx
    have hO1 := e _ _ hO
    refine b_when (Ex.refl H1) (et_test (ev_op (ev_fld (ev_var rfl) hO1 T.cl_Choosing T.no_Choosing_size (cF_size _ _ _)) ev_c rv_eqI)) (fun hb H2 e2 => b_ret e2 ev_c fun H3 e3 => q1 (by simpa using hb) H3 (e.trans e3)) (fun hb H2 e2 => ?_)
    have h1 : (bin n k : Int) ≠ 1 := by simpa using hb
    obtain ⟨i, j, hs⟩ := crow_there hr h1 m0
    have q3 := q2 i j h1 hs
    clear q q2
    generalize crow n k ((cplace xs + 1) % (bin n k : Int)) = ys at *
    have hlen : ys.length = xs.length := by rw [hs.eq, swapped_len]
    refine b_asg e2 ev_c fun H3 e3 => ?_
    refine b_asg e3 ev_c fun H4 e4 => ?_
    refine b_forEnum e4 (by walk_at "ev") hx1 (fun t σ' H' => ∃ u v, σ' = [some (.ref o), some (.ref a), some (.ref l), some (.int (if i < t then (i : Int) else 0)), some (.int (if j < t then (j : Int) else 0)), u, v] ∧ Ex H1 H')
      (fun H' e' => ⟨none, none, by rw [if_neg (Nat.not_lt_zero i), if_neg (Nat.not_lt_zero j)]; rfl, e'⟩) (fun i σ' H' ⟨_, _, _, e'⟩ => ex_l e' hx1) ?_ ?_
    · rintro t x σ' H' H5 hxi ⟨u, v, rfl, e0⟩ e5
      have e' := e0.trans e5
      obtain ⟨m, ht, rfl, hm⟩ := int_item hxi
      have hty : t < ys.length := by omega
      have hg := hs.gone ht
      have hd := hs.made ht
      have g1 : xs.getD t 0 = m := by simp [ht, hm]
      have g2 : ys.getD t 0 = ys[t] := by simp [hty]
      rw [g1, g2] at hg hd
      show tSeq _ _ _ [some (.ref o), some (.ref a), some (.ref l), some (.int (if i < t then (i : Int) else 0)), some (.int (if j < t then (j : Int) else 0)), some (.int (t : Int)), some (.int m)] H5
      refine b_ifAsg (b := decide (ys[t] < m)) (v := .int (if i < t + 1 then (i : Int) else 0)) e' (et_test (ev_op (ev_var rfl) (ev_op (ev_var rfl) (ev_var rfl) (rv_ixL (sq_of hl1) (atI_nat (int_at hty)))) rv_I0)) (fun hb => ?_) (fun hb => ?_) fun H6 e6 => ?_
      · have h := hg.mp (by simpa using hb)
        rw [← h, if_pos (Nat.lt_succ_self t)]
        exact ev_var rfl
      · have h : ¬ t = i := fun z => by
          have := hg.mpr z
          simp at hb
          omega
        have e : (if i < t + 1 then (i : Int) else 0) = if i < t then (i : Int) else 0 := by
          by_cases h2 : i < t
          · rw [if_pos h2, if_pos (by omega)]
          · rw [if_neg h2, if_neg (by omega)]
        rw [e]
        rfl
      refine l_ifAsg (b := decide (m < ys[t])) (v := .int (if j < t + 1 then (j : Int) else 0)) e6 (et_test (ev_op (ev_var rfl) (ev_op (ev_var rfl) (ev_var rfl) (rv_ixL (sq_of hl1) (atI_nat (int_at hty)))) rv_I0)) (fun hb => ?_) (fun hb => ?_) fun H7 e7 => ⟨_, _, rfl, e7⟩
      · have h := hd.mp (by simpa using hb)
        rw [← h, if_pos (Nat.lt_succ_self t)]
        exact ev_var rfl
      · have h : ¬ t = j := fun z => by
          have := hd.mpr z
          simp at hb
          omega
        have e : (if j < t + 1 then (j : Int) else 0) = if j < t then (j : Int) else 0 := by
          by_cases h2 : j < t
          · rw [if_pos h2, if_pos (by omega)]
          · rw [if_neg h2, if_neg (by omega)]
        rw [e]
        rfl
    · rintro σ' H' ⟨u, v, rfl, e'⟩
      rw [List.length_map, if_pos hs.lt.1, if_pos hs.lt.2]
      refine b_retU e' (eu_tup (by walk_at "ev") (by simp)) fun t H5 nt e5 h5 => ?_
      exact q3 t H5 (fresh_back e nt) (e.trans e5) h5
/-! #### Listing.next_row -/
def sp_Listing_next_row_C (T : Txt K mg) : Sp := fun vs H Q E => ∃ (o a : Addr) (n k : Nat) (xs : List Int), vs = [.ref o, .ref a] ∧ CForm n k ∧ IsC T H o n k ∧ SqL K H a (xs.map V.int) ∧ xs.length ≤ 10000 ∧
  (CRow n k xs → RetL ((crow n k ((cplace xs + 1) % (bin n k : Int))).map V.int) H Q) ∧ (¬ CRow n k xs → RetX T.c_NoRow H E)
theorem el_Cnext {T : Txt K mg} {σ : L2.St} {H : Hp} {ta : TE} {tg : TA} {E : XK} {o a : Addr} {n k : Nat} {xs : List Int} (f : CForm n k) (ho : IsC T H o n k) (hx : SqL K H a (xs.map V.int)) (hr : CRow n k xs) (hv : Ev ta σ H (.ref o)) (ha : EvA tg σ H [.ref a]) :
    EvL (tMeth T.c_Choosing "next_row" (sp_Listing_next_row_C T) [] E ta tg) σ H ((crow n k ((cplace xs + 1) % (bin n k : Int))).map V.int) := by
  obtain ⟨dx, h⟩ := ho
  exact el_meth hv h (cF_m _ _ _) ha fun H1 e Q q => ⟨o, a, n, k, xs, rfl, f, ⟨dx, e _ _ h⟩, ex_l e hx, by have := f.2.1; have := hr.1; omega, fun _ => q, fun z => absurd hr z⟩
theorem ok_Listing_next_row_C (T : Txt K mg) : FnOk P w K mg base (L2N.CX P w) 4 T.a_Listing_next_row T.d_Listing_next_row P_Listing_next_row (sp_Listing_next_row_C T) := by
  have G_Listing_leap_C := ok_Listing_leap_C (P := P) (w := w) (base := base) T
  refine fun_okN T.F_Listing_next_row sc_Listing_next_row (fun vs H Q E h => ?len) (fun cdv A outer s H vs Q E hr h => ⟨_, (pss_one (ps_ret (pe_meth (pv 0) T.cl_Choosing T.me_Choosing_leap G_Listing_leap_C (hr.mono (by decide)) T.be_Listing_leap T.ve_Listing_leap (L2N.passes_call (W := fun cls d _ H => E cls d H) (E := E) (L2N.takes_of rfl rfl rfl rfl) (fun _ _ _ _ h => h)) (pa_cons (pv 1) pa_nil)))), ?read⟩)
  case len =>
    obtain ⟨o, a, n, k, xs, rfl, _⟩ := h
    rfl
  case read =>
    obtain ⟨o, a, n, k, xs, rfl, f, ho, hx, hl, q, qe⟩ := h
    show tRet _ _ [some (.ref o), some (.ref a)] H
    by_cases hr : CRow n k xs
    · exact b_retL (Ex.refl H) (el_Cleap (d := 1) f ho hx hr (ev_var rfl) (by walk_at "ev") rfl) (q hr)
    · exact b_retR (Ex.refl H) (er_Cleap (d := 1) f ho hx hl hr (qe hr) (ev_var rfl) (by walk_at "ev") rfl)
/-! #### Listing.row_before -/
def sp_Listing_row_before_C (T : Txt K mg) : Sp := fun vs H Q E => ∃ (o a : Addr) (n k : Nat) (xs : List Int), vs = [.ref o, .ref a] ∧ CForm n k ∧ IsC T H o n k ∧ SqL K H a (xs.map V.int) ∧ xs.length ≤ 10000 ∧
  (CRow n k xs → RetL ((crow n k ((cplace xs + -1) % (bin n k : Int))).map V.int) H Q) ∧ (¬ CRow n k xs → RetX T.c_NoRow H E)
theorem el_Cbefore {T : Txt K mg} {σ : L2.St} {H : Hp} {ta : TE} {tg : TA} {E : XK} {o a : Addr} {n k : Nat} {xs : List Int} (f : CForm n k) (ho : IsC T H o n k) (hx : SqL K H a (xs.map V.int)) (hr : CRow n k xs) (hv : Ev ta σ H (.ref o)) (ha : EvA tg σ H [.ref a]) :
    EvL (tMeth T.c_Choosing "row_before" (sp_Listing_row_before_C T) [] E ta tg) σ H ((crow n k ((cplace xs + -1) % (bin n k : Int))).map V.int) := by
  obtain ⟨dx, h⟩ := ho
  exact el_meth hv h (cF_m _ _ _) ha fun H1 e Q q => ⟨o, a, n, k, xs, rfl, f, ⟨dx, e _ _ h⟩, ex_l e hx, by have := f.2.1; have := hr.1; omega, fun _ => q, fun z => absurd hr z⟩
theorem ok_Listing_row_before_C (T : Txt K mg) : FnOk P w K mg base (L2N.CX P w) 4 T.a_Listing_row_before T.d_Listing_row_before P_Listing_row_before (sp_Listing_row_before_C T) := by
  have G_Listing_leap_C := ok_Listing_leap_C (P := P) (w := w) (base := base) T
  refine fun_okN T.F_Listing_row_before sc_Listing_row_before (fun vs H Q E h => ?len) (fun cdv A outer s H vs Q E hr h => ⟨_, (pss_one (ps_ret (pe_meth (pv 0) T.cl_Choosing T.me_Choosing_leap G_Listing_leap_C (hr.mono (by decide)) T.b_Listing_leap .nil (L2N.passes_call (W := fun cls d _ H => E cls d H) (E := E) (L2N.takes_of rfl rfl rfl rfl) (fun _ _ _ _ h => h)) (pa_cons (pv 1) (pa_cons (pe_un un_neg pe_int) pa_nil))))), ?read⟩)
  case len =>
    obtain ⟨o, a, n, k, xs, rfl, _⟩ := h
    rfl
  case read =>
    obtain ⟨o, a, n, k, xs, rfl, f, ho, hx, hl, q, qe⟩ := h
    show tRet _ _ [some (.ref o), some (.ref a)] H
    by_cases hr : CRow n k xs
    · exact b_retL (Ex.refl H) (el_Cleap (d := -1) f ho hx hr (ev_var rfl) (by walk_at "ev") rfl) (q hr)
    · exact b_retR (Ex.refl H) (er_Cleap (d := -1) f ho hx hl hr (qe hr) (ev_var rfl) (by walk_at "ev") rfl)
/-! #### Listing.steps_to -/
def sp_Listing_steps_to_C (T : Txt K mg) : Sp := fun vs H Q E => ∃ (o a b : Addr) (n k : Nat) (xs ys : List Int), vs = [.ref o, .ref a, .ref b] ∧ CForm n k ∧ IsC T H o n k ∧ SqL K H a (xs.map V.int) ∧ SqL K H b (ys.map V.int) ∧ xs.length ≤ 10000 ∧ ys.length ≤ 10000 ∧
  ((CRow n k xs) ∧ (CRow n k ys) → RetV (.int ((cplace ys - cplace xs) % (bin n k : Int))) H Q) ∧ (¬ ((CRow n k xs) ∧ (CRow n k ys)) → RetX T.c_NoRow H E)
theorem ok_Listing_steps_to_C (T : Txt K mg) : FnOk P w K mg base (L2N.CX P w) 3 T.a_Listing_steps_to T.d_Listing_steps_to P_Listing_steps_to (sp_Listing_steps_to_C T) := by
  have G_Choosing_place_of := ok_Choosing_place_of (P := P) (w := w) (base := base) T
  refine fun_okN T.F_Listing_steps_to sc_Listing_steps_to (fun vs H Q E h => ?len) (fun cdv A outer s H vs Q E hr h => ⟨_, (pss_one (ps_ret (pe_op op_mod (pe_op op_sub (pe_meth (pv 0) T.cl_Choosing T.me_Choosing_place_of G_Choosing_place_of (hr.mono (by decide)) T.b_Choosing_place_of .nil (L2N.passes_call (W := fun cls d _ H => E cls d H) (E := E) (L2N.takes_of rfl rfl rfl rfl) (fun _ _ _ _ h => h)) (pa_cons (pv 2) pa_nil)) (pe_meth (pv 0) T.cl_Choosing T.me_Choosing_place_of G_Choosing_place_of (hr.mono (by decide)) T.b_Choosing_place_of .nil (L2N.passes_call (W := fun cls d _ H => E cls d H) (E := E) (L2N.takes_of rfl rfl rfl rfl) (fun _ _ _ _ h => h)) (pa_cons (pv 1) pa_nil))) (pe_fld (pv 0) (by rfl))))), ?read⟩)
  case len =>
    obtain ⟨o, a, b, n, k, xs, ys, rfl, _⟩ := h
    rfl
  case read =>
    obtain ⟨o, a, b, n, k, xs, ys, rfl, f, ho, hx, hy, lx, ly, q, qe⟩ := h
    obtain ⟨dx, hO⟩ := id ho
    show tRet _ _ [some (.ref o), some (.ref a), some (.ref b)] H
    have m0 := c_pos f
    by_cases hy1 : CRow n k ys
    · by_cases hx1 : CRow n k xs
      · exact b_ret (Ex.refl H) (ev_op (ev_op (ev_Cplace f ho hy hy1 (ev_var rfl) (by walk_at "ev")) (ev_Cplace f ho hx hx1 (ev_var rfl) (by walk_at "ev")) rv_I0) (ev_fld (ev_var rfl) hO T.cl_Choosing T.no_Choosing_size (cF_size _ _ _)) (rv_I m0)) (q ⟨hx1, hy1⟩)
      · exact b_retR (Ex.refl H) (er_op1 (er_op2 (ev_Cplace f ho hy hy1 (ev_var rfl) (by walk_at "ev")) (er_Cplace f ho hx lx hx1 (qe fun z => hx1 z.1) (ev_var rfl) (by walk_at "ev"))))
    · exact b_retR (Ex.refl H) (er_op1 (er_op1 (er_Cplace f ho hy ly hy1 (qe fun z => hy1 z.2) (ev_var rfl) (by walk_at "ev"))))
/-! #### Choosing.done -/
theorem sc_Choosing_done : FnScope N_Choosing_done P_Choosing_done (defScope s_Choosing_done) := ⟨rfl, rfl, rfl, by decide +kernel, rfl, by decide +kernel, by decide +kernel⟩
def sp_Choosing_done (T : Txt K mg) : Sp := fun vs H Q E => ∃ (o a : Addr) (n k : Nat) (xs : List Int) (v : V) (c : Ch), vs = [.ref o, .ref a, v] ∧ CForm n k ∧ IsC T H o n k ∧ SqL K H a (xs.map V.int) ∧ xs.length ≤ 10000 ∧ ChAt K H v c ∧
  (CRow n k xs → (∀ ys, cmv xs 1 c = some ys → RetL (ys.map V.int) H Q) ∧ (cmv xs 1 c = none → RetX T.c_NoChange H E)) ∧ (¬ CRow n k xs → RetX T.c_NoRow H E)
theorem el_Cdone {T : Txt K mg} {σ : L2.St} {H : Hp} {ta : TE} {tg : TA} {E : XK} {o a : Addr} {n k : Nat} {xs ys : List Int} {v : V} {c : Ch} (f : CForm n k) (ho : IsC T H o n k) (hx : SqL K H a (xs.map V.int)) (hr : CRow n k xs) (hc : ChAt K H v c) (hy : cmv xs 1 c = some ys) (hv : Ev ta σ H (.ref o)) (ha : EvA tg σ H [.ref a, v]) :
    EvL (tMeth T.c_Choosing "done" (sp_Choosing_done T) [] E ta tg) σ H (ys.map V.int) := by
  obtain ⟨dx, h⟩ := ho
  exact el_meth hv h (cF_m _ _ _) ha fun H1 e Q q => ⟨o, a, n, k, xs, v, c, rfl, f, ⟨dx, e _ _ h⟩, ex_l e hx, by have := f.2.1; have := hr.1; omega, hc.mono e, fun _ => ⟨fun zs hz => by rw [hy] at hz; cases hz; exact q, fun z => by rw [hy] at z; cases z⟩, fun z => absurd hr z⟩
/-- .. the change a tuple made on the way -/
theorem el_CdoneU {T : Txt K mg} {σ : L2.St} {H : Hp} {ta tr tu : TE} {E : XK} {o a : Addr} {n k : Nat} {xs ys : List Int} {i j : Int} (f : CForm n k) (ho : IsC T H o n k) (hx : SqL K H a (xs.map V.int)) (hr : CRow n k xs) (hy : cmv xs 1 (.swap i j) = some ys) (hv : Ev ta σ H (.ref o)) (hr' : Ev tr σ H (.ref a)) (hu : EvU tu σ H [.str "swap", .int i, .int j]) :
    EvL (tMeth T.c_Choosing "done" (sp_Choosing_done T) [] E ta (tCons tr (tCons tu tNil))) σ H (ys.map V.int) := by
  obtain ⟨dx, h⟩ := ho
  intro H1 e Q q
  refine hv H1 e _ fun H2 e2 => ⟨o, dx, _, rfl, e2 _ _ (e _ _ h), cF_m _ _ _, ?_⟩
  refine hr' H2 (e.trans e2) _ fun H3 e3 => hu H3 ((e.trans e2).trans e3) _ fun p H4 hp e4 h4 => ?_
  have e5 := ((e.trans e2).trans e3).trans e4
  exact ⟨o, a, n, k, xs, .ref p, .swap i j, rfl, f, ⟨dx, e5 _ _ h⟩, ex_l e5 hx, by have := f.2.1; have := hr.1; omega, ⟨p, rfl, st_of h4⟩, fun _ => ⟨fun zs hz => by rw [hy] at hz; cases hz; exact fun p' H5 hp' e5 h5 => q p' H5 (fresh_back ((e2.trans e3).trans e4) hp') (((e2.trans e3).trans e4).trans e5) h5, fun z => by rw [hy] at z; cases z⟩, fun z => absurd hr z⟩
theorem ok_Choosing_done (T : Txt K mg) : FnOk P w K mg base (L2N.CX P w) 3 T.a_Choosing_done T.d_Choosing_done P_Choosing_done (sp_Choosing_done T) := by
  have G_Choosing_moved := ok_Choosing_moved (P := P) (w := w) (base := base) T
  refine fun_okN T.F_Choosing_done sc_Choosing_done (fun vs H Q E h => ?len) (fun cdv A outer s H vs Q E hr h => ⟨_, (pss_one (ps_ret (pe_meth (pv 0) T.cl_Choosing T.me_Choosing_moved G_Choosing_moved (hr.mono (by decide)) T.b_Choosing_moved .nil (L2N.passes_call (W := fun cls d _ H => E cls d H) (E := E) (L2N.takes_of rfl rfl rfl rfl) (fun _ _ _ _ h => h)) (pa_cons (pv 1) (pa_cons (pv 2) (pa_cons pe_int pa_nil)))))), ?read⟩)
  case len =>
    obtain ⟨o, a, n, k, xs, v, c, rfl, _⟩ := h
    rfl
  case read =>
    obtain ⟨o, a, n, k, xs, v, c, rfl, f, ho, hx, hl, hc, q, qe⟩ := h
    obtain ⟨dx, hO⟩ := id ho
    show tRet _ _ [some (.ref o), some (.ref a), some v] H
    have ha : EvA (tCons (tVar 1) (tCons (tVar 2) (tCons (tC (.int 1)) tNil))) [some (.ref o), some (.ref a), some v] H [.ref a, v, .int 1] := by walk_at "ev"
    refine b_retMeth (Ex.refl H) (ev_var rfl) hO (cF_m _ _ _) ha fun H3 e => ?_
    refine ⟨o, a, n, k, xs, v, c, 1, rfl, f, ho.mono e, ex_l e hx, hl, hc.mono e, fun hr => ⟨fun ys hy p H4 hp e4 h4 => (q hr).1 ys hy p H4 (fresh_back e hp) (e.trans e4) h4, fun hy => RetX.mono ((q hr).2 hy) e⟩, fun hr => RetX.mono (qe hr) e⟩
/-! #### _law_ask -/
theorem okF_C {n k : Nat} (f : CForm n k) : (Kd.C n k).ok := ⟨by have := f.2.2.2; omega, by have := f.2.1; omega⟩
def sp_law_ask_C (T : Txt K mg) : Sp := fun vs H Q E => ∃ (o : Addr) (w : Int) (rv mv : V) (n k : Nat), vs = [.ref o, .int w, rv, mv] ∧ CForm n k ∧ IsC T H o n k ∧
  ((∃ (r : Addr) (bs : List Int), (1 ≤ w ∧ w ≤ 9) ∧ rv = .ref r ∧ SqL K H r (bs.map V.int) ∧ bs.length ≤ 10000 ∧ ¬ (Kd.C n k).row bs ∧ (w = 5 → ∃ t, mv = .int t) ∧ (w = 6 ∨ w = 7 → ∃ m xs, mv = .ref m ∧ SqL K H m (xs.map V.int) ∧ (Kd.C n k).row xs) ∧ (8 ≤ w → ∃ c, ChAt K H mv c) ∧ RetX T.c_NoRow H E) ∨
   (∃ p : Int, w = 0 ∧ mv = .int p ∧ ¬ (0 ≤ p ∧ p < (Kd.C n k).sz) ∧ RetX T.c_NoPlace H E) ∨
   (∃ (r : Addr) (xs : List Int) (c : Ch), (w = 8 ∨ w = 9) ∧ rv = .ref r ∧ SqL K H r (xs.map V.int) ∧ (Kd.C n k).row xs ∧ ChAt K H mv c ∧ (∀ ys, cmv xs (if w = 8 then 1 else -1) c = some ys → ∀ v H2, Ex H H2 → Q v H2) ∧ (cmv xs (if w = 8 then 1 else -1) c = none → RetX T.c_NoChange H E)))
theorem ok_law_ask_C (T : Txt K mg) : FnOk P w K mg base (L2N.CX P w) 5 T.a_law_ask T.d_law_ask P_law_ask (sp_law_ask_C T) := by
  have G_Choosing_change := ok_Choosing_change (P := P) (w := w) (base := base) T
  have G_Choosing_done := ok_Choosing_done (P := P) (w := w) (base := base) T
  have G_Choosing_place_of := ok_Choosing_place_of (P := P) (w := w) (base := base) T
  have G_Choosing_row_at := ok_Choosing_row_at (P := P) (w := w) (base := base) T
  have G_Choosing_undone := ok_Choosing_undone (P := P) (w := w) (base := base) T
  have G_Listing_leap_C := ok_Listing_leap_C (P := P) (w := w) (base := base) T
  have G_Listing_next_row_C := ok_Listing_next_row_C (P := P) (w := w) (base := base) T
  have G_Listing_row_before_C := ok_Listing_row_before_C (P := P) (w := w) (base := base) T
  have G_Listing_steps_to_C := ok_Listing_steps_to_C (P := P) (w := w) (base := base) T
  refine fun_okN T.F_law_ask sc_law_ask (fun vs H Q E h => ?len) (fun cdv A outer s H vs Q E hr h => ⟨_, (pss_cons (ps_if (pt_cmpR op_eq (pv 1) pe_int (nomark _)) (pss_one (ps_ret (pe_meth (pv 0) T.cl_Choosing T.me_Choosing_row_at G_Choosing_row_at (hr.mono (by decide)) T.b_Choosing_row_at .nil (L2N.passes_call (W := fun cls d _ H => E cls d H) (E := E) (L2N.takes_of rfl rfl rfl rfl) (fun _ _ _ _ h => h)) (pa_cons (pv 3) pa_nil)))) pss_nil)
    (pss_cons (ps_if (pt_cmpR op_eq (pv 1) pe_int (nomark _)) (pss_one (ps_ret (pe_meth (pv 0) T.cl_Choosing T.me_Choosing_place_of G_Choosing_place_of (hr.mono (by decide)) T.b_Choosing_place_of .nil (L2N.passes_call (W := fun cls d _ H => E cls d H) (E := E) (L2N.takes_of rfl rfl rfl rfl) (fun _ _ _ _ h => h)) (pa_cons (pv 2) pa_nil)))) pss_nil)
    (pss_cons (ps_if (pt_cmpR op_eq (pv 1) pe_int (nomark _)) (pss_one (ps_ret (pe_meth (pv 0) T.cl_Choosing T.me_Choosing_change G_Choosing_change (hr.mono (by decide)) T.b_Choosing_change .nil (L2N.passes_call (W := fun cls d _ H => E cls d H) (E := E) (L2N.takes_of rfl rfl rfl rfl) (fun _ _ _ _ h => h)) (pa_cons (pv 2) pa_nil)))) pss_nil)
    (pss_cons (ps_if (pt_cmpR op_eq (pv 1) pe_int (nomark _)) (pss_one (ps_ret (pe_meth (pv 0) T.cl_Choosing T.me_Choosing_next_row G_Listing_next_row_C (hr.mono (by decide)) T.b_Listing_next_row .nil (L2N.passes_call (W := fun cls d _ H => E cls d H) (E := E) (L2N.takes_of rfl rfl rfl rfl) (fun _ _ _ _ h => h)) (pa_cons (pv 2) pa_nil)))) pss_nil)
    (pss_cons (ps_if (pt_cmpR op_eq (pv 1) pe_int (nomark _)) (pss_one (ps_ret (pe_meth (pv 0) T.cl_Choosing T.me_Choosing_row_before G_Listing_row_before_C (hr.mono (by decide)) T.b_Listing_row_before .nil (L2N.passes_call (W := fun cls d _ H => E cls d H) (E := E) (L2N.takes_of rfl rfl rfl rfl) (fun _ _ _ _ h => h)) (pa_cons (pv 2) pa_nil)))) pss_nil)
    (pss_cons (ps_if (pt_cmpR op_eq (pv 1) pe_int (nomark _)) (pss_one (ps_ret (pe_meth (pv 0) T.cl_Choosing T.me_Choosing_leap G_Listing_leap_C (hr.mono (by decide)) T.b_Listing_leap .nil (L2N.passes_call (W := fun cls d _ H => E cls d H) (E := E) (L2N.takes_of rfl rfl rfl rfl) (fun _ _ _ _ h => h)) (pa_cons (pv 2) (pa_cons (pv 3) pa_nil))))) pss_nil)
    (pss_cons (ps_if (pt_cmpR op_eq (pv 1) pe_int (nomark _)) (pss_one (ps_ret (pe_meth (pv 0) T.cl_Choosing T.me_Choosing_steps_to G_Listing_steps_to_C (hr.mono (by decide)) T.b_Listing_steps_to .nil (L2N.passes_call (W := fun cls d _ H => E cls d H) (E := E) (L2N.takes_of rfl rfl rfl rfl) (fun _ _ _ _ h => h)) (pa_cons (pv 2) (pa_cons (pv 3) pa_nil))))) pss_nil)
    (pss_cons (ps_if (pt_cmpR op_eq (pv 1) pe_int (nomark _)) (pss_one (ps_ret (pe_meth (pv 0) T.cl_Choosing T.me_Choosing_steps_to G_Listing_steps_to_C (hr.mono (by decide)) T.b_Listing_steps_to .nil (L2N.passes_call (W := fun cls d _ H => E cls d H) (E := E) (L2N.takes_of rfl rfl rfl rfl) (fun _ _ _ _ h => h)) (pa_cons (pv 3) (pa_cons (pv 2) pa_nil))))) pss_nil)
    (pss_cons (ps_if (pt_cmpR op_eq (pv 1) pe_int (nomark _)) (pss_one (ps_ret (pe_meth (pv 0) T.cl_Choosing T.me_Choosing_done G_Choosing_done (hr.mono (by decide)) T.b_Choosing_done .nil (L2N.passes_call (W := fun cls d _ H => E cls d H) (E := E) (L2N.takes_of rfl rfl rfl rfl) (fun _ _ _ _ h => h)) (pa_cons (pv 2) (pa_cons (pv 3) pa_nil))))) pss_nil)
    (pss_one (ps_ret (pe_meth (pv 0) T.cl_Choosing T.me_Choosing_undone G_Choosing_undone (hr.mono (by decide)) T.b_Choosing_undone .nil (L2N.passes_call (W := fun cls d _ H => E cls d H) (E := E) (L2N.takes_of rfl rfl rfl rfl) (fun _ _ _ _ h => h)) (pa_cons (pv 2) (pa_cons (pv 3) pa_nil)))))))))))))), ?read⟩)
  case len =>
    obtain ⟨o, w, rv, mv, n, k, rfl, _⟩ := h
    rfl
  case read =>
    obtain ⟨o, w, rv, mv, n, k, rfl, f, ho, hh⟩ := h
    obtain ⟨dx, hO⟩ := id ho
    have hn := Kd.len_le (okF_C f)
    show tSeq _ _ _ [some (.ref o), some (.int w), some rv, some mv] H
    rcases hh with ⟨r, bs, hw, rfl, hx, hl, hm, h5, h67, h8, he⟩ | ⟨p, rfl, rfl, hp, he⟩ | ⟨r, xs, c, hw, rfl, hx, hr, hc, hq, he⟩
    · have hw9 : w = 1 ∨ w = 2 ∨ w = 3 ∨ w = 4 ∨ w = 5 ∨ w = 6 ∨ w = 7 ∨ w = 8 ∨ w = 9 := by omega
      have e := Ex.refl H
      rcases hw9 with rfl | rfl | rfl | rfl | rfl | rfl | rfl | rfl | rfl
      · refine b_skip e (by walk_at "ev") (fun H1 e => ?_) (by decide)
        refine b_when e (by walk_at "ev") (fun _ H1 e => ?_) (fun hb => absurd hb (by decide))
        exact b_retR e (er_meth (ev_var rfl) hO (cF_m _ _ _) (by walk_at "ev") fun H1 e Q => ⟨o, r, n, k, bs, rfl, f, ho.mono e, ex_l e hx, hl, fun z => absurd z hm, fun _ => RetX.mono he e⟩)
      · refine b_skip e (by walk_at "ev") (fun H1 e => ?_) (by decide)
        refine b_skip e (by walk_at "ev") (fun H1 e => ?_) (by decide)
        refine b_when e (by walk_at "ev") (fun _ H1 e => ?_) (fun hb => absurd hb (by decide))
        exact b_retR e (er_meth (ev_var rfl) hO (cF_m _ _ _) (by walk_at "ev") fun H1 e Q => ⟨o, r, n, k, bs, rfl, f, ho.mono e, ex_l e hx, hl, fun z => absurd z hm, fun _ => RetX.mono he e⟩)
      · refine b_skip e (by walk_at "ev") (fun H1 e => ?_) (by decide)
        refine b_skip e (by walk_at "ev") (fun H1 e => ?_) (by decide)
        refine b_skip e (by walk_at "ev") (fun H1 e => ?_) (by decide)
        refine b_when e (by walk_at "ev") (fun _ H1 e => ?_) (fun hb => absurd hb (by decide))
        exact b_retR e (er_meth (ev_var rfl) hO (cF_m _ _ _) (by walk_at "ev") fun H1 e Q => ⟨o, r, n, k, bs, rfl, f, ho.mono e, ex_l e hx, hl, fun z => absurd z hm, fun _ => RetX.mono he e⟩)
      · refine b_skip e (by walk_at "ev") (fun H1 e => ?_) (by decide)
        refine b_skip e (by walk_at "ev") (fun H1 e => ?_) (by decide)
        refine b_skip e (by walk_at "ev") (fun H1 e => ?_) (by decide)
        refine b_skip e (by walk_at "ev") (fun H1 e => ?_) (by decide)
        refine b_when e (by walk_at "ev") (fun _ H1 e => ?_) (fun hb => absurd hb (by decide))
        exact b_retR e (er_meth (ev_var rfl) hO (cF_m _ _ _) (by walk_at "ev") fun H1 e Q => ⟨o, r, n, k, bs, rfl, f, ho.mono e, ex_l e hx, hl, fun z => absurd z hm, fun _ => RetX.mono he e⟩)
      · obtain ⟨t, rfl⟩ := h5 rfl
        refine b_skip e (by walk_at "ev") (fun H1 e => ?_) (by decide)
        refine b_skip e (by walk_at "ev") (fun H1 e => ?_) (by decide)
        refine b_skip e (by walk_at "ev") (fun H1 e => ?_) (by decide)
        refine b_skip e (by walk_at "ev") (fun H1 e => ?_) (by decide)
        refine b_skip e (by walk_at "ev") (fun H1 e => ?_) (by decide)
        refine b_when e (by walk_at "ev") (fun _ H1 e => ?_) (fun hb => absurd hb (by decide))
        exact b_retR e (er_meth (ev_var rfl) hO (cF_m _ _ _) (by walk_at "ev") fun H1 e Q => ⟨o, r, n, k, bs, t, rfl, f, ho.mono e, ex_l e hx, hl, fun z => absurd z hm, fun _ => RetX.mono he e⟩)
      · obtain ⟨m, xs, rfl, hy, hr⟩ := h67 (by decide)
        have hl2 : xs.length ≤ 10000 := by have := Kd.row_len hr; omega
        refine b_skip e (by walk_at "ev") (fun H1 e => ?_) (by decide)
        refine b_skip e (by walk_at "ev") (fun H1 e => ?_) (by decide)
        refine b_skip e (by walk_at "ev") (fun H1 e => ?_) (by decide)
        refine b_skip e (by walk_at "ev") (fun H1 e => ?_) (by decide)
        refine b_skip e (by walk_at "ev") (fun H1 e => ?_) (by decide)
        refine b_skip e (by walk_at "ev") (fun H1 e => ?_) (by decide)
        refine b_when e (by walk_at "ev") (fun _ H1 e => ?_) (fun hb => absurd hb (by decide))
        exact b_retR e (er_meth (ev_var rfl) hO (cF_m _ _ _) (by walk_at "ev") fun H1 e Q => ⟨o, r, m, n, k, bs, xs, rfl, f, ho.mono e, ex_l e hx, ex_l e hy, hl, hl2, fun z => absurd z.1 hm, fun _ => RetX.mono he e⟩)
      · obtain ⟨m, xs, rfl, hy, hr⟩ := h67 (by decide)
        have hl2 : xs.length ≤ 10000 := by have := Kd.row_len hr; omega
        refine b_skip e (by walk_at "ev") (fun H1 e => ?_) (by decide)
        refine b_skip e (by walk_at "ev") (fun H1 e => ?_) (by decide)
        refine b_skip e (by walk_at "ev") (fun H1 e => ?_) (by decide)
        refine b_skip e (by walk_at "ev") (fun H1 e => ?_) (by decide)
        refine b_skip e (by walk_at "ev") (fun H1 e => ?_) (by decide)
        refine b_skip e (by walk_at "ev") (fun H1 e => ?_) (by decide)
        refine b_skip e (by walk_at "ev") (fun H1 e => ?_) (by decide)
        refine b_when e (by walk_at "ev") (fun _ H1 e => ?_) (fun hb => absurd hb (by decide))
        exact b_retR e (er_meth (ev_var rfl) hO (cF_m _ _ _) (by walk_at "ev") fun H1 e Q => ⟨o, m, r, n, k, xs, bs, rfl, f, ho.mono e, ex_l e hy, ex_l e hx, hl2, hl, fun z => absurd z.2 hm, fun _ => RetX.mono he e⟩)
      · obtain ⟨c, hc⟩ := h8 (by decide)
        refine b_skip e (by walk_at "ev") (fun H1 e => ?_) (by decide)
        refine b_skip e (by walk_at "ev") (fun H1 e => ?_) (by decide)
        refine b_skip e (by walk_at "ev") (fun H1 e => ?_) (by decide)
        refine b_skip e (by walk_at "ev") (fun H1 e => ?_) (by decide)
        refine b_skip e (by walk_at "ev") (fun H1 e => ?_) (by decide)
        refine b_skip e (by walk_at "ev") (fun H1 e => ?_) (by decide)
        refine b_skip e (by walk_at "ev") (fun H1 e => ?_) (by decide)
        refine b_skip e (by walk_at "ev") (fun H1 e => ?_) (by decide)
        refine b_when e (by walk_at "ev") (fun _ H1 e => ?_) (fun hb => absurd hb (by decide))
        exact b_retR e (er_meth (ev_var rfl) hO (cF_m _ _ _) (by walk_at "ev") fun H1 e Q => ⟨o, r, n, k, bs, mv, c, rfl, f, ho.mono e, ex_l e hx, hl, hc.mono e, fun z => absurd z hm, fun _ => RetX.mono he e⟩)
      · obtain ⟨c, hc⟩ := h8 (by decide)
        refine b_skip e (by walk_at "ev") (fun H1 e => ?_) (by decide)
        refine b_skip e (by walk_at "ev") (fun H1 e => ?_) (by decide)
        refine b_skip e (by walk_at "ev") (fun H1 e => ?_) (by decide)
        refine b_skip e (by walk_at "ev") (fun H1 e => ?_) (by decide)
        refine b_skip e (by walk_at "ev") (fun H1 e => ?_) (by decide)
        refine b_skip e (by walk_at "ev") (fun H1 e => ?_) (by decide)
        refine b_skip e (by walk_at "ev") (fun H1 e => ?_) (by decide)
        refine b_skip e (by walk_at "ev") (fun H1 e => ?_) (by decide)
        refine b_skip e (by walk_at "ev") (fun H1 e => ?_) (by decide)
        exact b_retR e (er_meth (ev_var rfl) hO (cF_m _ _ _) (by walk_at "ev") fun H1 e Q => ⟨o, r, n, k, bs, mv, c, rfl, f, ho.mono e, ex_l e hx, hl, hc.mono e, fun z => absurd z hm, fun _ => RetX.mono he e⟩)
    · have e := Ex.refl H
      refine b_when e (by walk_at "ev") (fun _ H1 e => ?_) (fun hb => absurd hb (by decide))
      exact b_retR e (er_meth (ev_var rfl) hO (cF_m _ _ _) (by walk_at "ev") fun H1 e Q => ⟨o, n, k, p, rfl, f, ho.mono e, fun z => absurd z hp, fun _ => RetX.mono he e⟩)
    · have hl : xs.length ≤ 10000 := by have := Kd.row_len hr; omega
      have e := Ex.refl H
      rcases hw with rfl | rfl
      · refine b_skip e (by walk_at "ev") (fun H1 e => ?_) (by decide)
        refine b_skip e (by walk_at "ev") (fun H1 e => ?_) (by decide)
        refine b_skip e (by walk_at "ev") (fun H1 e => ?_) (by decide)
        refine b_skip e (by walk_at "ev") (fun H1 e => ?_) (by decide)
        refine b_skip e (by walk_at "ev") (fun H1 e => ?_) (by decide)
        refine b_skip e (by walk_at "ev") (fun H1 e => ?_) (by decide)
        refine b_skip e (by walk_at "ev") (fun H1 e => ?_) (by decide)
        refine b_skip e (by walk_at "ev") (fun H1 e => ?_) (by decide)
        refine b_when e (by walk_at "ev") (fun _ H1 e => ?_) (fun hb => absurd hb (by decide))
        refine b_retMeth e (ev_var rfl) hO (cF_m _ _ _) (by walk_at "ev" : EvA (tCons (tVar 2) (tCons (tVar 3) tNil)) [some (.ref o), some (.int 8), some (.ref r), some mv] H [.ref r, mv]) fun H3 e => ?_
        exact ⟨o, r, n, k, xs, mv, c, rfl, f, ho.mono e, ex_l e hx, hl, hc.mono e, fun _ => ⟨fun ys hy p H4 hp e4 h4 => hq ys hy (.ref p) H4 (e.trans e4), fun hy => RetX.mono (he hy) e⟩, fun z => absurd hr z⟩
      · refine b_skip e (by walk_at "ev") (fun H1 e => ?_) (by decide)
        refine b_skip e (by walk_at "ev") (fun H1 e => ?_) (by decide)
        refine b_skip e (by walk_at "ev") (fun H1 e => ?_) (by decide)
        refine b_skip e (by walk_at "ev") (fun H1 e => ?_) (by decide)
        refine b_skip e (by walk_at "ev") (fun H1 e => ?_) (by decide)
        refine b_skip e (by walk_at "ev") (fun H1 e => ?_) (by decide)
        refine b_skip e (by walk_at "ev") (fun H1 e => ?_) (by decide)
        refine b_skip e (by walk_at "ev") (fun H1 e => ?_) (by decide)
        refine b_skip e (by walk_at "ev") (fun H1 e => ?_) (by decide)
        refine b_retMeth e (ev_var rfl) hO (cF_m _ _ _) (by walk_at "ev" : EvA (tCons (tVar 2) (tCons (tVar 3) tNil)) [some (.ref o), some (.int 9), some (.ref r), some mv] H [.ref r, mv]) fun H3 e => ?_
        exact ⟨o, r, n, k, xs, mv, c, rfl, f, ho.mono e, ex_l e hx, hl, hc.mono e, fun _ => ⟨fun ys hy p H4 hp e4 h4 => hq ys hy (.ref p) H4 (e.trans e4), fun hy => RetX.mono (he hy) e⟩, fun z => absurd hr z⟩
/-! #### _law_refused -/
def sp_law_refused_C (T : Txt K mg) : Sp := fun vs H Q _ => ∃ (o : Addr) (w : Int) (rv mv : V) (n k : Nat), vs = [.ref o, .int w, rv, mv] ∧ CForm n k ∧ IsC T H o n k ∧
  ((∃ (r : Addr) (bs : List Int), (1 ≤ w ∧ w ≤ 9) ∧ rv = .ref r ∧ SqL K H r (bs.map V.int) ∧ bs.length ≤ 10000 ∧ ¬ (Kd.C n k).row bs ∧ (w = 5 → ∃ t, mv = .int t) ∧ (w = 6 ∨ w = 7 → ∃ m xs, mv = .ref m ∧ SqL K H m (xs.map V.int) ∧ (Kd.C n k).row xs) ∧ (8 ≤ w → ∃ c, ChAt K H mv c) ∧ RetL [.int 0, .int 3] H Q) ∨
   (∃ p : Int, w = 0 ∧ mv = .int p ∧ ¬ (0 ≤ p ∧ p < (Kd.C n k).sz) ∧ RetL [.int 0, .int 2] H Q) ∨
   (∃ (r : Addr) (xs : List Int) (c : Ch), (w = 8 ∨ w = 9) ∧ rv = .ref r ∧ SqL K H r (xs.map V.int) ∧ (Kd.C n k).row xs ∧ ChAt K H mv c ∧ (∀ ys, cmv xs (if w = 8 then 1 else -1) c = some ys → RetL [] H Q) ∧ (cmv xs (if w = 8 then 1 else -1) c = none → RetL [.int 0, .int 4] H Q)))
theorem ok_law_refused_C (T : Txt K mg) : FnOk P w K mg base CX0 6 T.a_law_refused T.d_law_refused P_law_refused (sp_law_refused_C T) := by
  have G_law_ask_C := ok_law_ask_C (P := P) (w := w) (base := base) T
  have G_law_which := ok_law_which (P := P) (w := w) (base := base) T
  refine (T.F_law_refused).ok sc_law_refused (fun vs H Q E h => ?len) (fun cdv A outer s H vs Q E hr h => ⟨_, (pss_cons (L2N.ps_try_as (i := 4) rfl rfl sc_law_refused.nd rfl rfl ⟨rfl, by decide, .inl T.m_RowError⟩ takes0N (fun W pn xe tk _ => (pss_one (ps_expr (pe_callS G_law_ask_C (hr.mono (by decide)) (by rfl) T.m_law_ask T.F_law_ask.kp T.b_law_ask (fun σ => L2N.passAt tk σ) (pa_cons (pv 0) (pa_cons (pv 1) (pa_cons (pv 2) (pa_cons (pv 3) pa_nil)))))))) (fun a oe cls dd pn hz hf => (pss_one (ps_ret (pe_which G_law_which hr hz hf (by rfl) T.m_law_which T.F_law_which.kp T.b_law_which (pv 4))))))
    (pss_one (ps_ret (pe_lst pa_nil)))), ?read⟩)
  case len =>
    obtain ⟨o, w, rv, mv, n, k, rfl, _⟩ := h
    rfl
  case read =>
    obtain ⟨o, w, rv, mv, n, k, rfl, f, ho, hh⟩ := h
    have fin : ∀ {xs : List V} {H2 : Hp}, Ex H H2 → RetL xs H Q → RetL xs H2 Q := fun e q p H3 hp e3 h3 => q p H3 (fresh_back e hp) (e.trans e3) h3
    rcases hh with ⟨r, bs, hw, rfl, hx, hl, hm, h5, h67, h8, q⟩ | ⟨p, rfl, rfl, hp, q⟩ | ⟨r, xs, c, hw, rfl, hx, hr, hc, q1, q2⟩
    · refine s_callS (vs := [.ref o, .int w, .ref r, mv]) (by walk_at "ev") fun H2 e2 => ⟨o, w, _, mv, n, k, rfl, f, ho.mono e2, .inl ⟨r, bs, hw, rfl, ex_l e2 hx, hl, hm, h5, fun z => ?_, fun z => ?_, fun H3 e3 => ⟨true, T.er_NoRow.row, fun _ a _ => ⟨T.c_NoRow, rfl, rfl, rfl, 3, by decide, by decide, T.er_NoRow, fin (e2.trans e3) q⟩, fun z => by cases z⟩⟩⟩
      · obtain ⟨m, xs, h1, h2, h3⟩ := h67 z
        exact ⟨m, xs, h1, ex_l e2 h2, h3⟩
      · obtain ⟨c, h1⟩ := h8 z
        exact ⟨c, h1.mono e2⟩
    · exact s_callS (vs := [.ref o, .int 0, rv, .int p]) (by walk_at "ev") fun H2 e2 => ⟨o, 0, _, _, n, k, rfl, f, ho.mono e2, .inr (.inl ⟨p, rfl, rfl, hp, fun H3 e3 => ⟨true, T.er_NoPlace.row, fun _ a _ => ⟨T.c_NoPlace, rfl, rfl, rfl, 2, by decide, by decide, T.er_NoPlace, fin (e2.trans e3) q⟩, fun z => by cases z⟩⟩)⟩
    · exact s_callS (vs := [.ref o, .int w, .ref r, mv]) (by walk_at "ev") fun H2 e2 => ⟨o, w, _, mv, n, k, rfl, f, ho.mono e2, .inr (.inr ⟨r, xs, c, hw, rfl, ex_l e2 hx, hr, hc.mono e2,
        fun ys hy v H3 e3 => s_retL (σ := [some (.ref o), some (.int w), some (.ref r), some mv, none]) (el_lst ea_nil (by simp)) fun p H4 hp e4 h4 => q1 ys hy p H4 (fresh_back (e2.trans e3) hp) ((e2.trans e3).trans e4) h4,
        fun hy H3 e3 => ⟨true, T.er_NoChange.row, fun _ a _ => ⟨T.c_NoChange, rfl, rfl, rfl, 4, by decide, by decide, T.er_NoChange, fin (e2.trans e3) (q2 hy)⟩, fun z => by cases z⟩⟩)⟩
/-! #### _law_rows -/
theorem el_refB_C {T : Txt K mg} {σ : L2.St} {H : Hp} {tg : TA} {E : XK} {o r : Addr} {w : Int} {mv : V} {n k : Nat} {bs : List Int} (f : CForm n k) (ho : IsC T H o n k) (hw : 1 ≤ w ∧ w ≤ 9) (hx : SqL K H r (bs.map V.int)) (hl : bs.length ≤ 10000) (hm : ¬ (Kd.C n k).row bs) (h5 : w = 5 → ∃ t, mv = .int t) (h67 : w = 6 ∨ w = 7 → ∃ m xs, mv = .ref m ∧ SqL K H m (xs.map V.int) ∧ (Kd.C n k).row xs) (h8 : 8 ≤ w → ∃ c, ChAt K H mv c)
    (ha : EvA tg σ H [.ref o, .int w, .ref r, mv]) : EvL (tCall (sp_law_refused_C T) [] E tg) σ H [.int 0, .int 3] :=
  el_callF ha fun H1 e Q q => ⟨o, w, _, mv, n, k, rfl, f, ho.mono e, .inl ⟨r, bs, hw, rfl, ex_l e hx, hl, hm, h5, fun z => let ⟨m, xs, h1, h2, h3⟩ := h67 z; ⟨m, xs, h1, ex_l e h2, h3⟩, fun z => let ⟨c, h1⟩ := h8 z; ⟨c, h1.mono e⟩, q⟩⟩
def sp_law_rows_C (T : Txt K mg) : Sp := fun vs H Q _ => ∃ (o r b : Addr) (t : Int) (cv : V) (c : Ch) (n k : Nat) (xs bs : List Int), vs = [.ref o, .ref r, .ref b, .int t, cv] ∧ CForm n k ∧ IsC T H o n k ∧ H r = some (.lst (xs.map V.int)) ∧ (Kd.C n k).row xs ∧ H b = some (.lst (bs.map V.int)) ∧ bs.length ≤ 10000 ∧ ¬ (Kd.C n k).row bs ∧ ChAt K H cv c ∧ RetV (.bl true) H Q
theorem ev_rows_C {T : Txt K mg} {σ : L2.St} {H : Hp} {tg : TA} {E : XK} {o r b : Addr} {t : Int} {cv : V} {c : Ch} {n k : Nat} {xs bs : List Int} (f : CForm n k) (ho : IsC T H o n k) (hr : H r = some (.lst (xs.map V.int))) (hx : (Kd.C n k).row xs) (hb : H b = some (.lst (bs.map V.int))) (hl : bs.length ≤ 10000) (hm : ¬ (Kd.C n k).row bs) (hc : ChAt K H cv c)
    (ha : EvA tg σ H [.ref o, .ref r, .ref b, .int t, cv]) : Ev (tCall (sp_law_rows_C T) [] E tg) σ H (.bl true) :=
  ev_callF ha fun H1 e Q q => ⟨o, r, b, t, cv, c, n, k, xs, bs, rfl, f, ho.mono e, e _ _ hr, hx, e _ _ hb, hl, hm, hc.mono e, q⟩
theorem ok_law_rows_C (T : Txt K mg) : FnOk P w K mg base CX0 7 T.a_law_rows T.d_law_rows P_law_rows (sp_law_rows_C T) := by
  have G_law_refused_C := ok_law_refused_C (P := P) (w := w) (base := base) T
  refine (T.F_law_rows).ok sc_law_rows (fun vs H Q E h => ?len) (fun cdv A outer s H vs Q E hr h => ⟨_, (pss_cons (ps_set (i := 5) sc_law_rows.nd rfl (Or.inl rfl) (pe_callTy call_list_of (by rfl) T.g_list boot_list (pa_cons (pv 2) pa_nil)))
    (pss_cons (ps_for PassesOwn.never rfl (pi_range2 rfl T.g_range (pa_cons pe_int (pa_cons pe_int pa_nil))) (pg_name (i := 6) sc_law_rows.nd rfl (Or.inl rfl)) (pss_cons (ps_set (i := 7) sc_law_rows.nd rfl (Or.inl rfl) (pv 3))
    (pss_cons (ps_if (PW.pt (pw_or (pt_cmpR op_eq (pv 6) pe_int (nomark _)) (pw_or1 (pt_cmpR op_eq (pv 6) pe_int (nomark _))))) (pss_one (ps_set (i := 7) sc_law_rows.nd rfl (Or.inl rfl) (pe_callTy call_list_of (by rfl) T.g_list boot_list (pa_cons (pv 1) pa_nil)))) pss_nil)
    (pss_cons (ps_if (pt_cmpR op_ge (pv 6) pe_int (nomark _)) (pss_one (ps_set (i := 7) sc_law_rows.nd rfl (Or.inl rfl) (pv 4))) pss_nil)
    (pss_one (ps_if (PW.pt (pw_or (pt_cmpR (op_neD hr.units) (pe_call G_law_refused_C (hr.mono (by decide)) (by rfl) T.m_law_refused T.F_law_refused.kp T.b_law_refused .nil pass0 (pa_cons (pv 0) (pa_cons (pv 6) (pa_cons (pv 2) (pa_cons (pv 7) pa_nil))))) (pe_lst (pa_cons pe_int (pa_cons pe_int pa_nil))) (nomark _)) (pw_or1 (pt_cmpR (op_neD hr.units) (pv 2) (pv 5) (nomark _))))) (pss_one (ps_ret pe_bl)) pss_nil))))))
    (pss_one (ps_ret pe_bl)))), ?read⟩)
  case len =>
    obtain ⟨o, r, b, t, cv, c, n, k, xs, bs, rfl, _⟩ := h
    rfl
  case read =>
    obtain ⟨o, r, b, t, cv, c, n, k, xs, bs, rfl, f, ho, hr, hx, hb, hl, hm, hc, q⟩ := h
    show tSeq _ _ _ [some (.ref o), some (.ref r), some (.ref b), some (.int t), some cv, none, none, none] H
    refine b_asgL (Ex.refl H) (el_list (ev_var rfl) (sq_of hb)) fun k H1 nk e hk => ?_
    refine q_forR2 (lo := 1) (n := 10) (by walk_at "ev") (by decide) (fun i σ' H' => ∃ (u1 u2 : Option V), σ' = [some (.ref o), some (.ref r), some (.ref b), some (.int t), some cv, some (.ref k), u1, u2] ∧ Ex H1 H') (fun H' e' => ⟨none, none, rfl, e'⟩) ?_ ?_
    · rintro i σ' H2 hi ⟨u1, u2, rfl, e2⟩
      show tSeq _ _ _ [some (.ref o), some (.ref r), some (.ref b), some (.int t), some cv, some (.ref k), some (.int (1 + (i : Int))), u2] H2
      have ho2 := (ho.mono e).mono e2
      have hr2 := e2 _ _ (e _ _ hr)
      have hb2 := e2 _ _ (e _ _ hb)
      have hk2 := e2 _ _ hk
      have hc2 := (hc.mono e).mono e2
      refine b_asg (Ex.refl H2) (ev_var rfl) fun H3 e3 => ?_
      show tSeq _ _ _ [some (.ref o), some (.ref r), some (.ref b), some (.int t), some cv, some (.ref k), some (.int (1 + (i : Int))), some (.int t)] H3
      refine b_when (b := decide (1 + (i : Int) = 6) || decide (1 + (i : Int) = 7)) e3 (et_or (by walk_at "ev") fun _ => by walk_at "ev") (fun hb3 H4 e4 => ?_) (fun hb3 H4 e4 => ?_)
      · have hw : 1 + (i : Int) = 6 ∨ 1 + (i : Int) = 7 := by simpa using hb3
        refine e_asgL e4 (el_list (ev_var rfl) (sq_of hr2)) fun m H5 nm e5 hm5 => ?_
        have e25 := e5
        show tSeq _ _ _ [some (.ref o), some (.ref r), some (.ref b), some (.int t), some cv, some (.ref k), some (.int (1 + (i : Int))), some (.ref m)] H5
        refine b_skip (b := decide ((8 : Int) ≤ 1 + (i : Int))) (Ex.refl H5) (by walk_at "ev") (fun H6 e6 => ?_) (decide_eq_false (by omega))
        have f5 := e25.trans e6
        refine l_when (b := !decide (([0, 3] : List Int) = [0, 3]) || !decide (bs = bs)) (Ex.refl H6) (et_or (et_test (ev_opLL (xs := [.int 0, .int 3]) (ys := [.int 0, .int 3]) (el_refB_C (w := 1 + (i : Int)) f (ho2.mono f5) (by omega) (ex_l f5 (sq_of hb2)) hl hm (fun z => by omega) (fun z => ⟨m, xs, rfl, ex_l e6 (sq_of hm5), hx⟩) (fun z => by omega) (by walk_at "ev")) (el_lst (by walk_at "ev") (by simp)) fun p q H1 hp hq e => rv_neL (xs := [0, 3]) (ys := [0, 3]) (sq_of hp) (sq_of hq))) fun _ => et_test (ev_op (ev_var rfl) (ev_var rfl) (rv_neL (ex_l f5 (sq_of hb2)) (sq_of (f5 _ _ hk2))))) (fun hb => by simp at hb) (fun _ H9 e9 => ⟨_, _, rfl, (e2.trans f5).trans e9⟩)
      · have hw : ¬ (1 + (i : Int) = 6 ∨ 1 + (i : Int) = 7) := by simpa using hb3
        refine b_when (b := decide ((8 : Int) ≤ 1 + (i : Int))) e4 (by walk_at "ev") (fun hb4 H5 e5 => ?_) (fun hb4 H5 e5 => ?_)
        · have h8 : (8 : Int) ≤ 1 + (i : Int) := of_decide_eq_true hb4
          refine e_asg e5 (v := cv) (ev_var rfl) fun H6 e6 => ?_
          show tIfS _ _ _ _ [some (.ref o), some (.ref r), some (.ref b), some (.int t), some cv, some (.ref k), some (.int (1 + (i : Int))), some cv] H6
          have f5 := e6
          refine l_when (b := !decide (([0, 3] : List Int) = [0, 3]) || !decide (bs = bs)) (Ex.refl H6) (et_or (et_test (ev_opLL (xs := [.int 0, .int 3]) (ys := [.int 0, .int 3]) (el_refB_C (w := 1 + (i : Int)) f (ho2.mono f5) (by omega) (ex_l f5 (sq_of hb2)) hl hm (fun z => by omega) (fun z => by omega) (fun z => ⟨c, hc2.mono f5⟩) (by walk_at "ev")) (el_lst (by walk_at "ev") (by simp)) fun p q H1 hp hq e => rv_neL (xs := [0, 3]) (ys := [0, 3]) (sq_of hp) (sq_of hq))) fun _ => et_test (ev_op (ev_var rfl) (ev_var rfl) (rv_neL (ex_l f5 (sq_of hb2)) (sq_of (f5 _ _ hk2))))) (fun hb => by simp at hb) (fun _ H9 e9 => ⟨_, _, rfl, (e2.trans f5).trans e9⟩)
        · have h8 : ¬ (8 : Int) ≤ 1 + (i : Int) := of_decide_eq_false hb4
          have f5 := e5
          refine l_when (b := !decide (([0, 3] : List Int) = [0, 3]) || !decide (bs = bs)) (Ex.refl H5) (et_or (et_test (ev_opLL (xs := [.int 0, .int 3]) (ys := [.int 0, .int 3]) (el_refB_C (w := 1 + (i : Int)) f (ho2.mono f5) (by omega) (ex_l f5 (sq_of hb2)) hl hm (fun z => ⟨t, rfl⟩) (fun z => absurd z hw) (fun z => absurd z h8) (by walk_at "ev")) (el_lst (by walk_at "ev") (by simp)) fun p q H1 hp hq e => rv_neL (xs := [0, 3]) (ys := [0, 3]) (sq_of hp) (sq_of hq))) fun _ => et_test (ev_op (ev_var rfl) (ev_var rfl) (rv_neL (ex_l f5 (sq_of hb2)) (sq_of (f5 _ _ hk2))))) (fun hb => by simp at hb) (fun _ H9 e9 => ⟨_, _, rfl, (e2.trans f5).trans e9⟩)
    · rintro σ' H' ⟨u1, u2, rfl, e'⟩
      exact b_ret (Ex.refl H') (v := .bl true) ev_c fun H9 e9 => q H9 ((e.trans e').trans e9)
/-! #### _law_changes -/
theorem el_refX_C {T : Txt K mg} {σ : L2.St} {H : Hp} {E : XK} {o : Addr} {t0 tr tc : TE} {w d : Int} {cv : V} {c : Ch} {n k : Nat} {xs : List Int} (f : CForm n k) (ho : IsC T H o n k) (hx : (Kd.C n k).row xs) (hc : ChAt K H cv c) (hw : (w = 8 ∧ d = 1) ∨ (w = 9 ∧ d = -1))
    (h0 : Ev t0 σ H (.ref o)) (h1 : EvL tr σ H (xs.map V.int)) (h2 : Ev tc σ H cv) : EvL (tCall (sp_law_refused_C T) [] E (tCons t0 (tCons (tC (.int w)) (tCons tr (tCons tc tNil))))) σ H (if (cmv xs d c).isSome = true then [] else [V.int 0, V.int 4]) := fun H1 e Q q => by
  have hd : (if w = 8 then (1 : Int) else -1) = d := by
    rcases hw with ⟨rfl, rfl⟩ | ⟨rfl, rfl⟩
    · rfl
    · rfl
  exact h0 H1 e _ fun H2 e2 => h1 H2 (e.trans e2) _ fun p H3 hp e3 h3 => h2 H3 ((e.trans e2).trans e3) _ fun H4 e4 => ⟨o, w, .ref p, cv, n, k, rfl, f, ho.mono (((e.trans e2).trans e3).trans e4), .inr (.inr ⟨p, xs, c, by omega, rfl, sq_of (e4 _ _ h3), hx, hc.mono (((e.trans e2).trans e3).trans e4), fun ys hy => by
    rw [hd] at hy
    rw [hy] at q
    exact RetL.back q ((e2.trans e3).trans e4), fun hy => by
    rw [hd] at hy
    rw [hy] at q
    exact RetL.back q ((e2.trans e3).trans e4)⟩)⟩
def sp_law_changes_C (T : Txt K mg) : Sp := fun vs H Q _ => ∃ (o r l m : Addr) (n k : Nat) (xs : List Int) (us ws : List V) (cs : List Ch), vs = [.ref o, .ref r, .ref l, .ref m] ∧ CForm n k ∧ IsC T H o n k ∧ H r = some (.lst (xs.map V.int)) ∧ (Kd.C n k).row xs ∧ H l = some (.lst us) ∧ TupsAt H us (cs.map chV) ∧ (∀ c ∈ cs, c ≠ .non) ∧
  H m = some (.lst ws) ∧ TupsAt H ws (cs.map fun c => fitV ((cmv xs 1 c).isSome, (cmv xs (-1) c).isSome)) ∧ cs.length ≤ 100 ∧ RetV (.bl true) H Q
theorem ev_changes_C {T : Txt K mg} {σ : L2.St} {H : Hp} {tg : TA} {E : XK} {o r l m : Addr} {n k : Nat} {xs : List Int} {us ws : List V} {cs : List Ch} (f : CForm n k) (ho : IsC T H o n k) (hr : H r = some (.lst (xs.map V.int))) (hx : (Kd.C n k).row xs) (hl : H l = some (.lst us)) (ht : TupsAt H us (cs.map chV)) (hn : ∀ c ∈ cs, c ≠ .non)
    (hm : H m = some (.lst ws)) (hf : TupsAt H ws (cs.map fun c => fitV ((cmv xs 1 c).isSome, (cmv xs (-1) c).isSome))) (hz : cs.length ≤ 100) (ha : EvA tg σ H [.ref o, .ref r, .ref l, .ref m]) : Ev (tCall (sp_law_changes_C T) [] E tg) σ H (.bl true) :=
  ev_callF ha fun H1 e Q q => ⟨o, r, l, m, n, k, xs, us, ws, cs, rfl, f, ho.mono e, e _ _ hr, hx, e _ _ hl, ht.mono e, hn, e _ _ hm, hf.mono e, hz, q⟩
theorem ok_law_changes_C (T : Txt K mg) : FnOk P w K mg base CX0 7 T.a_law_changes T.d_law_changes P_law_changes (sp_law_changes_C T) := by
  have G_law_refused_C := ok_law_refused_C (P := P) (w := w) (base := base) T
  refine (T.F_law_changes).ok sc_law_changes (fun vs H Q E h => ?len) (fun cdv A outer s H vs Q E hr h => ⟨_, (pss_cons (ps_for PassesOwn.never rfl (pi_range1 rfl T.g_range (pa_cons (pe_callB call_len_seq (by rfl) T.g_len boot_len (pa_cons (pv 2) pa_nil)) pa_nil)) (pg_name (i := 4) sc_law_changes.nd rfl (Or.inl rfl)) (pss_cons (ps_set (i := 5) sc_law_changes.nd rfl (Or.inl rfl) (pe_lst (pa_cons (pe_lst (pa_cons pe_int (pa_cons pe_int pa_nil))) (pa_cons (pe_lst pa_nil) pa_nil))))
    (pss_cons (ps_if (pt_cmpR (op_neD hr.units) (pe_call G_law_refused_C (hr.mono (by decide)) (by rfl) T.m_law_refused T.F_law_refused.kp T.b_law_refused .nil pass0 (pa_cons (pv 0) (pa_cons pe_int (pa_cons (pe_callTy call_list_of (by rfl) T.g_list boot_list (pa_cons (pv 1) pa_nil)) (pa_cons (pe_ix ix_list (pv 2) (pv 4) (fun _ _ => rfl)) pa_nil))))) (pe_ix ix_list (pv 5) (pe_callTy call_int1 (by rfl) T.g_int boot_int (pa_cons (pe_ix ix_tup (pe_ix ix_list (pv 3) (pv 4) (fun _ _ => rfl)) pe_int (fun _ _ => rfl)) pa_nil)) (fun _ _ => rfl)) (nomark _)) (pss_one (ps_ret pe_bl)) pss_nil)
    (pss_one (ps_if (pt_cmpR (op_neD hr.units) (pe_call G_law_refused_C (hr.mono (by decide)) (by rfl) T.m_law_refused T.F_law_refused.kp T.b_law_refused .nil pass0 (pa_cons (pv 0) (pa_cons pe_int (pa_cons (pe_callTy call_list_of (by rfl) T.g_list boot_list (pa_cons (pv 1) pa_nil)) (pa_cons (pe_ix ix_list (pv 2) (pv 4) (fun _ _ => rfl)) pa_nil))))) (pe_ix ix_list (pv 5) (pe_callTy call_int1 (by rfl) T.g_int boot_int (pa_cons (pe_ix ix_tup (pe_ix ix_list (pv 3) (pv 4) (fun _ _ => rfl)) pe_int (fun _ _ => rfl)) pa_nil)) (fun _ _ => rfl)) (nomark _)) (pss_one (ps_ret pe_bl)) pss_nil)))))
    (pss_one (ps_ret pe_bl))), ?read⟩)
  case len =>
    obtain ⟨o, r, l, m, n, k, xs, us, ws, cs, rfl, _⟩ := h
    rfl
  case read =>
    obtain ⟨o, r, l, m, n, k, xs, us, ws, cs, rfl, f, ho, hr, hx, hl, ht, hn, hm, hf, hz, q⟩ := h
    show tSeq _ _ _ [some (.ref o), some (.ref r), some (.ref l), some (.ref m), none, none] H
    have hul : us.length = cs.length := by rw [ht.len, List.length_map]
    refine b_forR1 (n := (cs.length : Int)) (Ex.refl H) (ea_cons (ev_is (ev_len (ev_var rfl) (sq_of hl)) (by rw [hul])) ea_nil) (by omega) (by omega) (fun i σ' H' => ∃ u1 u2, σ' = [some (.ref o), some (.ref r), some (.ref l), some (.ref m), u1, u2] ∧ Ex H H') (fun H1 e1 => ⟨none, none, rfl, e1⟩) ?_ ?_
    · rintro i σ' H' hi ⟨u1, u2, rfl, e'⟩
      have hi2 : i < cs.length := by omega
      obtain ⟨c, hc⟩ : ∃ c, cs[i]? = some c := ⟨cs[i], List.getElem?_eq_getElem hi2⟩
      obtain ⟨t, h1, h2⟩ := ht.get (i := i) (xs := chV c) (by rw [List.getElem?_map, hc]; rfl)
      obtain ⟨t2, h3, h4⟩ := hf.get (i := i) (xs := fitV ((cmv xs 1 c).isSome, (cmv xs (-1) c).isSome)) (by rw [List.getElem?_map, hc]; rfl)
      have hcn := hn c (List.mem_of_getElem? hc)
      show tSeq _ _ _ [some (.ref o), some (.ref r), some (.ref l), some (.ref m), some (.int (i : Int)), u2] H'
      refine b_asgLL (xs := [.int 0, .int 4]) (ys := []) e' (el_lst (by walk_at "ev") (by simp)) (el_lst ea_nil (by simp)) fun p a b H1 np e1 hp ha hb => ?_
      show tSeq _ _ _ [some (.ref o), some (.ref r), some (.ref l), some (.ref m), some (.int (i : Int)), some (.ref p)] H1
      have hl1 := e1 _ _ hl
      have hm1 := e1 _ _ hm
      have hr1 := e1 _ _ hr
      have hc1 : ChAt K H1 (.ref t) c := ch_at hcn (e1 _ _ h2)
      have h41 := e1 _ _ h4
      have ix : ∀ B : Bool, atI [V.ref a, V.ref b] (if B = true then 1 else 0) = some (V.ref (if B = true then b else a)) := fun B => by cases B <;> rfl
      refine b_skip (b := false) (Ex.refl H1) (et_due (a := a) (b := b) (el_refX_C (w := 8) (d := 1) (cv := .ref t) (c := c) f (ho.mono e1) hx hc1 (.inl ⟨rfl, rfl⟩) (ev_var rfl) (el_list (ev_var rfl) (sq_of hr1)) (ev_op (ev_var rfl) (ev_var rfl) (rv_ixL (sq_of hl1) (atI_nat h1)))) (ev_op (ev_var rfl) (ev_cbv (vs := [.bl (cmv xs 1 c).isSome]) (ea_cons (ev_op (ev_op (ev_var rfl) (ev_var rfl) (rv_ixL (sq_of hm1) (atI_nat h3))) ev_c (rv_ixT (st_of h41) (at_of (j := 0) rfl rfl))) ea_nil) fun H1 _ Q q => .inr ⟨_, rfl, q⟩) (rv_ixL (sq_of hp) (ix _))) ha hb) (fun H2 e2 => ?_)
      refine l_when (b := false) e2 (et_due (a := a) (b := b) (el_refX_C (w := 9) (d := -1) (cv := .ref t) (c := c) f (ho.mono e1) hx hc1 (.inr ⟨rfl, rfl⟩) (ev_var rfl) (el_list (ev_var rfl) (sq_of hr1)) (ev_op (ev_var rfl) (ev_var rfl) (rv_ixL (sq_of hl1) (atI_nat h1)))) (ev_op (ev_var rfl) (ev_cbv (vs := [.bl (cmv xs (-1) c).isSome]) (ea_cons (ev_op (ev_op (ev_var rfl) (ev_var rfl) (rv_ixL (sq_of hm1) (atI_nat h3))) ev_c (rv_ixT (st_of h41) (at_of (j := 1) rfl rfl))) ea_nil) fun H1 _ Q q => .inr ⟨_, rfl, q⟩) (rv_ixL (sq_of hp) (ix _))) ha hb) (fun hb => by cases hb) (fun _ H9 e9 => ⟨_, _, rfl, e1.trans e9⟩)
    · rintro σ' H' ⟨u1, u2, rfl, e'⟩
      exact b_ret e' (v := .bl true) ev_c q
/-! #### _law_fit -/
theorem sc_law_fit : FnScope N_law_fit P_law_fit (defScope s_law_fit) := ⟨rfl, rfl, rfl, by decide +kernel, rfl, by decide +kernel, by decide +kernel⟩
def sp_law_fit (T : Txt K mg) : Sp := fun vs H Q _ => ∃ (r : Addr) (i j : Int) (xs : List Int), vs = [.ref r, .int i, .int j] ∧ SqL K H r (xs.map V.int) ∧ RetV (.bl (hasB xs i 1 && hasB xs j 0)) H Q
theorem ev_fit {T : Txt K mg} {σ : L2.St} {H : Hp} {tg : TA} {E : XK} {r : Addr} {i j : Int} {xs : List Int} (hx : SqL K H r (xs.map V.int)) (ha : EvA tg σ H [.ref r, .int i, .int j]) : Ev (tCall (sp_law_fit T) [] E tg) σ H (.bl (hasB xs i 1 && hasB xs j 0)) :=
  ev_callF ha fun H1 e Q q => ⟨r, i, j, xs, rfl, ex_l e hx, q⟩
theorem ok_law_fit (T : Txt K mg) : FnOk P w K mg base CX0 1 T.a_law_fit T.d_law_fit P_law_fit (sp_law_fit T) := by
  refine (T.F_law_fit).ok sc_law_fit (fun vs H Q E h => ?len) (fun cdv A outer s H vs Q E hr h => ⟨_, (pss_cons (ps_if (PW.pt (pw_or (pt_not (pt_chain op_le op_lt pe_int (pv 1) (pe_callB call_len_seq (by rfl) T.g_len boot_len (pa_cons (pv 0) pa_nil)))) (pw_or1 (pt_not (pt_chain op_le op_lt pe_int (pv 2) (pe_callB call_len_seq (by rfl) T.g_len boot_len (pa_cons (pv 0) pa_nil))))))) (pss_one (ps_ret pe_bl)) pss_nil)
    (pss_one (ps_ret (pe_and (pe_cmpR op_eq (pe_ix ix_list (pv 0) (pv 1) (fun _ _ => rfl)) pe_int (nomark _)) (pe_one (pe_cmpR op_eq (pe_ix ix_list (pv 0) (pv 2) (fun _ _ => rfl)) pe_int (nomark _))))))), ?read⟩)
  case len =>
    obtain ⟨r, i, j, xs, rfl, _⟩ := h
    rfl
  case read =>
    obtain ⟨r, i, j, xs, rfl, hx, q⟩ := h
    show tSeq _ _ _ [some (.ref r), some (.int i), some (.int j)] H
    have hl : Ev (tCB (rLenS K) (tCons (tVar 0) tNil)) [some (.ref r), some (.int i), some (.int j)] H (.int (xs.length : Int)) := ev_is (ev_len (ev_var rfl) hx) (by rw [List.length_map])
    refine b_when (b := !(decide (0 ≤ i) && decide (i < (xs.length : Int))) || !(decide (0 ≤ j) && decide (j < (xs.length : Int)))) (Ex.refl H) (et_or (et_not (et_test (ev_chain ev_c (ev_var rfl) rv_I0 (fun _ => hl) fun _ => rv_I0))) fun _ => et_not (et_test (ev_chain ev_c (ev_var rfl) rv_I0 (fun _ => hl) fun _ => rv_I0))) (fun hb H1 e1 => ?_) (fun hb H1 e1 => ?_)
    · have hf : (hasB xs i 1 && hasB xs j 0) = false := by
        rw [Bool.eq_false_iff]
        intro z
        obtain ⟨z1, z2⟩ := (Bool.and_eq_true _ _).mp z
        obtain ⟨a0, a1, _⟩ := (hasB_iff xs i 1).mp z1
        obtain ⟨b0, b1, _⟩ := (hasB_iff xs j 0).mp z2
        rw [decide_eq_true a0, decide_eq_true a1, decide_eq_true b0, decide_eq_true b1] at hb
        cases hb
      rw [hf] at q
      exact b_ret e1 (v := .bl false) ev_c q
    · have hb2 : (0 ≤ i ∧ i < xs.length) ∧ (0 ≤ j ∧ j < xs.length) := by simpa using hb
      obtain ⟨⟨a0, a1⟩, b0, b1⟩ := hb2
      obtain ⟨u, rfl⟩ : ∃ u : Nat, i = u := ⟨i.toNat, by omega⟩
      obtain ⟨w, rfl⟩ : ∃ w : Nat, j = w := ⟨j.toNat, by omega⟩
      have hu : u < xs.length := by omega
      have hw : w < xs.length := by omega
      have e1' : hasB xs u 1 = decide (xs[u] = 1) := by
        rw [Bool.eq_iff_iff, hasB_iff, decide_eq_true_eq]
        simp [hu]
      have e2' : hasB xs w 0 = decide (xs[w] = 0) := by
        rw [Bool.eq_iff_iff, hasB_iff, decide_eq_true_eq]
        simp [hw]
      rw [e1', e2'] at q
      refine b_ret e1 (v := .bl (decide (xs[u] = 1) && decide (xs[w] = 0))) (ev_andV (ev_op (ev_op (ev_var rfl) (ev_var rfl) (rv_ixL hx (atI_nat (int_at hu)))) ev_c rv_eqI) fun _ => ev_op (ev_op (ev_var rfl) (ev_var rfl) (rv_ixL hx (atI_nat (int_at hw)))) ev_c rv_eqI) q
/-! #### _law_places -/
theorem el_refP_C {T : Txt K mg} {σ : L2.St} {H : Hp} {tg : TA} {E : XK} {o : Addr} {rv : V} {p : Int} {n k : Nat} (f : CForm n k) (ho : IsC T H o n k) (hp : ¬ (0 ≤ p ∧ p < (Kd.C n k).sz)) (ha : EvA tg σ H [.ref o, .int 0, rv, .int p]) : EvL (tCall (sp_law_refused_C T) [] E tg) σ H [.int 0, .int 2] :=
  el_callF ha fun H1 e Q q => ⟨o, 0, rv, _, n, k, rfl, f, ho.mono e, .inr (.inl ⟨p, rfl, rfl, hp, q⟩)⟩
def sp_law_places_C (T : Txt K mg) : Sp := fun vs H Q _ => ∃ (o : Addr) (z : Int) (n k : Nat), vs = [.ref o, .int (Kd.C n k).sz, .int z] ∧ 0 ≤ z ∧ CForm n k ∧ IsC T H o n k ∧ RetV (.bl true) H Q
theorem ev_places_C {T : Txt K mg} {σ : L2.St} {H : Hp} {tg : TA} {E : XK} {o : Addr} {z : Int} {n k : Nat} (f : CForm n k) (hz : 0 ≤ z) (ho : IsC T H o n k) (ha : EvA tg σ H [.ref o, .int (Kd.C n k).sz, .int z]) : Ev (tCall (sp_law_places_C T) [] E tg) σ H (.bl true) :=
  ev_callF ha fun H1 e Q q => ⟨o, z, n, k, rfl, hz, f, ho.mono e, q⟩
theorem ok_law_places_C (T : Txt K mg) : FnOk P w K mg base CX0 7 T.a_law_places T.d_law_places P_law_places (sp_law_places_C T) := by
  have G_law_refused_C := ok_law_refused_C (P := P) (w := w) (base := base) T
  refine (T.F_law_places).ok sc_law_places (fun vs H Q E h => ?len) (fun cdv A outer s H vs Q E hr h => ⟨_, (pss_cons (ps_for PassesOwn.never rfl (pi_list (pe_lst (pa_cons (pe_op op_sub (pe_un un_neg pe_int) (pv 2)) (pa_cons (pe_op op_add (pv 1) (pv 2)) pa_nil)))) (pg_name (i := 3) sc_law_places.nd rfl (Or.inl rfl)) (pss_one (ps_if (pt_cmpR (op_neD hr.units) (pe_call G_law_refused_C (hr.mono (by decide)) (by rfl) T.m_law_refused T.F_law_refused.kp T.b_law_refused .nil pass0 (pa_cons (pv 0) (pa_cons pe_int (pa_cons pe_non (pa_cons (pv 3) pa_nil))))) (pe_lst (pa_cons pe_int (pa_cons pe_int pa_nil))) (nomark _)) (pss_one (ps_ret pe_bl)) pss_nil)))
    (pss_one (ps_ret pe_bl))), ?read⟩)
  case len =>
    obtain ⟨o, z, n, k, rfl, _⟩ := h
    rfl
  case read =>
    obtain ⟨o, z, n, k, rfl, hz, f, ho, q⟩ := h
    show tSeq _ _ _ [some (.ref o), some (.int (Kd.C n k).sz), some (.int z), none] H
    have m0 := Kd.sz_pos (okF_C f)
    refine b_forNLn (vs := ([-1 - z, (Kd.C n k).sz + z] : List Int).map V.int) (Ex.refl H) (el_lst (ea_cons (ev_op (ev_un0 ev_c) (ev_var rfl) rv_I0) (ea_cons (by walk_at "ev") ea_nil)) (by simp)) (fun p i σ' H' => ∃ u, σ' = [some (.ref o), some (.int (Kd.C n k).sz), some (.int z), u] ∧ Ex H H' ∧ H' p = some (.lst (([-1 - z, (Kd.C n k).sz + z] : List Int).map V.int))) (fun p H' np e' h' => ⟨none, rfl, e', h'⟩) (fun p i σ' H' _ ⟨_, _, _, h'⟩ => sq_of h') ?_ ?_
    · rintro p i x σ' H' hi ⟨u, rfl, e', hp⟩
      obtain ⟨y, hi2, rfl, hy⟩ := int_item hi
      have hbad : ¬ (0 ≤ y ∧ y < (Kd.C n k).sz) := by
        have hmem := List.getElem_mem hi2
        rw [hy] at hmem
        simp at hmem
        omega
      show tIfS _ _ _ _ [some (.ref o), some (.int (Kd.C n k).sz), some (.int z), some (.int y)] H'
      refine l_when (b := !decide (([0, 2] : List Int) = [0, 2])) (Ex.refl H') (et_test (ev_opLL (xs := [.int 0, .int 2]) (ys := [.int 0, .int 2]) (el_refP_C f (ho.mono e') hbad (by walk_at "ev")) (el_lst (by walk_at "ev") (by simp)) fun p q H1 hp hq e => rv_neL (xs := [0, 2]) (ys := [0, 2]) (sq_of hp) (sq_of hq))) (fun hb => by simp at hb) (fun _ H9 e9 => ⟨_, rfl, e'.trans e9, e9 _ _ hp⟩)
    · rintro p σ' H' ⟨u, rfl, e', hp⟩
      exact b_ret e' (v := .bl true) ev_c q
/-! #### _law_choosing -/
theorem sc_law_choosing : FnScope N_law_choosing P_law_choosing (defScope s_law_choosing) := ⟨rfl, rfl, rfl, by decide +kernel, rfl, by decide +kernel, by decide +kernel⟩
theorem ones_zeros : ∀ n : Nat, ones (List.replicate n 0) = 0
  | 0 => rfl
  | n + 1 => by
    rw [List.replicate_succ, ones_cons, if_neg (by decide), ones_zeros n]
theorem ones_all : ∀ n : Nat, ones (List.replicate n 1) = n
  | 0 => rfl
  | n + 1 => by
    rw [List.replicate_succ, ones_cons, if_pos rfl, ones_all n]
/-- a run of ones -/
theorem crow_run {n k a : Nat} (h : a + k ≤ n) : CRow n k (List.replicate a 0 ++ List.replicate k 1 ++ List.replicate (n - k - a) 0) := by
  refine ⟨by simp; omega, ((Bits.rep a (.inl rfl)).append (Bits.rep k (.inr rfl))).append (Bits.rep _ (.inl rfl)), ?_⟩
  rw [ones_append, ones_append, ones_zeros, ones_zeros, ones_all]
  omega
theorem el_repC {σ : L2.St} {H : Hp} {ta tb : TE} {x : Int} {n : Nat} (h : Ev ta σ H (.int x)) (hb : ∀ H1, Ex H H1 → Ev tb σ H1 (.int n)) (hn : n ≤ 1000) : EvL (tOp rRep (tLst (tCons ta tNil)) tb) σ H ((List.replicate n x).map V.int) := by
  have h := el_rep (n := (n : Int)) (el_lst (ea_cons h ea_nil) (by simp)) hb (by omega) (by omega) (by simp)
  rw [show ((n : Int)).toNat = n from rfl, flat_one] at h
  rw [List.map_replicate]
  exact h
/-- what a pair's swap asks -/
def ftV (xs : List Int) : List V → List V
  | [.int i, .int j] => [.bl (hasB xs i 1 && hasB xs j 0), .bl (hasB xs j 1 && hasB xs i 0)]
  | _ => []
theorem swp_some (xs : List Int) (i j : Int) : (swp xs i j).isSome = (hasB xs i 1 && hasB xs j 0) := by
  unfold swp
  cases hasB xs i 1 && hasB xs j 0 <;> rfl
theorem ftV_eq (xs : List Int) (c : Int × Int) : ftV xs (prV c) = fitV ((cmv xs 1 (.swap c.1 c.2)).isSome, (cmv xs (-1) (.swap c.1 c.2)).isSome) := by
  show [V.bl (hasB xs c.1 1 && hasB xs c.2 0), V.bl (hasB xs c.2 1 && hasB xs c.1 0)] = [V.bl (swp xs c.1 c.2).isSome, V.bl (swp xs c.2 c.1).isSome]
  rw [swp_some, swp_some]
/-- [a new tuple for t in a held list of tuples] -/
theorem elu_lcH {σ : L2.St} {H : Hp} {tl te : TE} {xss : List (List V)} {l : Addr} {vs : List V} {j : Nat} {ws : List Nat} (g : List V → List V) (h : Ev tl σ H (.ref l)) (hl : H l = some (.lst vs)) (ht : TupsAt H vs xss) (hz : xss.length ≤ 40000) (hw : ∀ x, wipe ((wipe σ ws).set j (some x)) ws = wipe σ ws)
    (he : ∀ t xs H1, Ex H H1 → xs ∈ xss → H1 t = some (.tup xs) → EvU te ((wipe σ ws).set j (some (.ref t))) H1 (g xs)) : EvLU (tLc (iList K tl) (gName j) tYes te ws) σ H (xss.map g) := by
  have hlen := ht.len
  have e0 : xss.map g = (List.range vs.length).map fun i => g (xss.getD i []) := by
    rw [hlen]
    apply List.ext_getElem?
    intro i
    rw [List.getElem?_map, List.getElem?_map]
    by_cases hi : i < xss.length
    · rw [List.getElem?_range hi, List.getElem?_eq_getElem hi]
      simp [hi]
    · rw [List.getElem?_eq_none (by simpa using hi), List.getElem?_eq_none (by simpa using hi)]
      rfl
  rw [e0]
  refine elu_lcL (fun i => g (xss.getD i [])) h (sq_of hl) (by omega) hw fun i x H2 e2 hi => ?_
  obtain ⟨t, xs, rfl, hx, h2⟩ := ht.item hi
  have e3 : xss.getD i [] = xs := by simp [hx]
  rw [e3]
  exact he t xs H2 e2 (List.mem_of_getElem? hx) (e2 _ _ h2)
def sp_law_choosing (T : Txt K mg) : Sp := fun vs H Q _ => ∃ (a : Addr) (ns : List Int) (n : Nat) (z : Int), vs = [.ref a, .int n, .int z] ∧ SqL K H a (ns.map V.int) ∧ n ≤ 200 ∧ 0 ≤ z ∧ RetV (.bl true) H Q
theorem ev_choosing {T : Txt K mg} {σ : L2.St} {H : Hp} {tg : TA} {E : XK} {a : Addr} {ns : List Int} {n : Nat} {z : Int} (hS : SqL K H a (ns.map V.int)) (hn : n ≤ 200) (hz : 0 ≤ z) (ha : EvA tg σ H [.ref a, .int n, .int z]) : Ev (tCall (sp_law_choosing T) [] E tg) σ H (.bl true) :=
  ev_callF ha fun H1 e Q q => ⟨a, ns, n, z, rfl, ex_l e hS, hn, hz, q⟩
theorem ok_law_choosing (T : Txt K mg) : FnOk P w K mg base CX0 8 T.a_law_choosing T.d_law_choosing P_law_choosing (sp_law_choosing T) := by
  have G_Choosing___init__ := ok_Choosing___init__ (P := P) (w := w) (base := base) T
  have G_Choosing_place_of := ok_Choosing_place_of (P := P) (w := w) (base := base) T
  have G_Listing_many := ok_Listing_many (P := P) (w := w) (base := base) T
  have G_law_bad_ones := ok_law_bad_ones (P := P) (w := w) (base := base) T
  have G_law_cell_at := ok_law_cell_at (P := P) (w := w) (base := base) T
  have G_law_changes_C := ok_law_changes_C (P := P) (w := w) (base := base) T
  have G_law_fit := ok_law_fit (P := P) (w := w) (base := base) T
  have G_law_places_C := ok_law_places_C (P := P) (w := w) (base := base) T
  have G_law_rows_C := ok_law_rows_C (P := P) (w := w) (base := base) T
  have G_law_swaps := ok_law_swaps (P := P) (w := w) (base := base) T
  refine (T.F_law_choosing).ok sc_law_choosing (fun vs H Q E h => ?len) (fun cdv A outer s H vs Q E hr h => ⟨_, (pss_cons (ps_set (i := 3) sc_law_choosing.nd rfl (Or.inl rfl) (pe_op op_mod (pe_call G_law_cell_at (hr.mono (by decide)) (by rfl) T.m_law_cell_at T.F_law_cell_at.kp T.b_law_cell_at .nil pass0 (pa_cons (pv 0) (pa_cons pe_int pa_nil))) (pe_op op_add (pv 1) pe_int)))
    (pss_cons (ps_set (i := 4) sc_law_choosing.nd rfl (Or.inl rfl) (pe_op op_mod (pe_call G_law_cell_at (hr.mono (by decide)) (by rfl) T.m_law_cell_at T.F_law_cell_at.kp T.b_law_cell_at .nil pass0 (pa_cons (pv 0) (pa_cons pe_int pa_nil))) (pe_op op_add (pe_op op_sub (pv 1) (pv 3)) pe_int)))
    (pss_cons (ps_set (i := 5) sc_law_choosing.nd rfl (Or.inr rfl) (pe_op op_cat (pe_op op_cat (pe_op op_rep (pe_lst (pa_cons pe_int pa_nil)) (pv 4)) (pe_op op_rep (pe_lst (pa_cons pe_int pa_nil)) (pv 3))) (pe_op op_rep (pe_lst (pa_cons pe_int pa_nil)) (pe_op op_sub (pe_op op_sub (pv 1) (pv 3)) (pv 4)))))
    (pss_cons (ps_set (i := 6) sc_law_choosing.nd rfl (Or.inl rfl) (pe_make T.mk_Choosing G_Choosing___init__ (hr.mono (by decide)) (by rfl) T.m_Choosing T.b_Choosing___init__ .nil passLN (pa_cons (pv 1) (pa_cons (pv 3) pa_nil))))
    (pss_cons (ps_set (i := 7) sc_law_choosing.nd rfl (Or.inl rfl) (pe_meth (pv 6) T.cl_Choosing T.me_Choosing_place_of G_Choosing_place_of (hr.mono (by decide)) T.b_Choosing_place_of .nil passLN (pa_cons (pe_callTy call_list_of (by rfl) T.g_list boot_list (pa_cons (pv 5) pa_nil)) pa_nil)))
    (pss_cons (ps_set (i := 8) sc_law_choosing.nd rfl (Or.inl rfl) (pe_call G_law_bad_ones (hr.mono (by decide)) (by rfl) T.m_law_bad_ones T.F_law_bad_ones.kp T.b_law_bad_ones .nil pass0 (pa_cons (pv 5) (pa_cons (pe_call G_law_cell_at (hr.mono (by decide)) (by rfl) T.m_law_cell_at T.F_law_cell_at.kp T.b_law_cell_at .nil pass0 (pa_cons (pv 0) (pa_cons pe_int pa_nil))) (pa_cons (pe_call G_law_cell_at (hr.mono (by decide)) (by rfl) T.m_law_cell_at T.F_law_cell_at.kp T.b_law_cell_at .nil pass0 (pa_cons (pv 0) (pa_cons pe_int pa_nil))) (pa_cons (pv 2) pa_nil))))))
    (pss_cons (ps_set (i := 9) sc_law_choosing.nd rfl (Or.inl rfl) (pe_call G_law_swaps (hr.mono (by decide)) (by rfl) T.m_law_swaps T.F_law_swaps.kp T.b_law_swaps .nil pass0 (pa_cons (pv 0) (pa_cons (pv 1) (pa_cons (pv 2) pa_nil)))))
    (pss_cons (ps_setLc (i := 10) (own := [("_law_pair", 11)]) (g := (gName 11)) rfl sc_law_choosing.nd rfl rfl (sw_true rfl rfl rfl (by decide +kernel)) (pi_list (pv 9)) (blkOk_by (N := N_law_choosing) (sc := defScope s_law_choosing) (by decide +kernel)) (fun _ _ _ _ _ => pg_name (i := 11) sc_law_choosing.nd rfl (Or.inl rfl)) (fun _ _ _ _ _ => pts_nil) (fun _ _ _ _ _ => (pe_tup (pa_cons pe_str (pa_cons (pe_ix (ix_tupK (K := K)) (pv 11) pe_int (fun _ _ => rfl)) (pa_cons (pe_ix (ix_tupK (K := K)) (pv 11) pe_int (fun _ _ => rfl)) pa_nil))))))
    (pss_cons (ps_setLc (i := 12) (own := [("_law_pair", 11)]) (g := (gName 11)) rfl sc_law_choosing.nd rfl rfl (sw_true rfl rfl rfl (by decide +kernel)) (pi_list (pv 9)) (blkOk_by (N := N_law_choosing) (sc := defScope s_law_choosing) (by decide +kernel)) (fun _ _ _ _ _ => pg_name (i := 11) sc_law_choosing.nd rfl (Or.inl rfl)) (fun _ _ _ _ _ => pts_nil) (fun _ _ _ _ _ => (pe_tup (pa_cons (pe_call G_law_fit (hr.mono (by decide)) (by rfl) T.m_law_fit T.F_law_fit.kp T.b_law_fit .nil pass0 (pa_cons (pv 5) (pa_cons (pe_ix (ix_tupK (K := K)) (pv 11) pe_int (fun _ _ => rfl)) (pa_cons (pe_ix (ix_tupK (K := K)) (pv 11) pe_int (fun _ _ => rfl)) pa_nil)))) (pa_cons (pe_call G_law_fit (hr.mono (by decide)) (by rfl) T.m_law_fit T.F_law_fit.kp T.b_law_fit .nil pass0 (pa_cons (pv 5) (pa_cons (pe_ix (ix_tupK (K := K)) (pv 11) pe_int (fun _ _ => rfl)) (pa_cons (pe_ix (ix_tupK (K := K)) (pv 11) pe_int (fun _ _ => rfl)) pa_nil)))) pa_nil)))))
    (pss_cons (ps_expr (pe_bm PySem.F.plainAttrs_list PySem.F.slot_list_append PySem.F.type_list_append mt_append (pv 10) (pa_cons (pe_tup (pa_cons pe_str (pa_cons (pe_op op_mod (pe_call G_law_cell_at (hr.mono (by decide)) (by rfl) T.m_law_cell_at T.F_law_cell_at.kp T.b_law_cell_at .nil pass0 (pa_cons (pv 0) (pa_cons pe_int pa_nil))) (pe_op op_add (pv 1) pe_int)) pa_nil))) pa_nil)))
    (pss_cons (ps_expr (pe_bm PySem.F.plainAttrs_list PySem.F.slot_list_append PySem.F.type_list_append mt_append (pv 12) (pa_cons (pe_tup (pa_cons pe_bl (pa_cons pe_bl pa_nil))) pa_nil)))
    (pss_cons (ps_if (pt_not (pt_val (pe_call G_law_rows_C (hr.mono (by decide)) (by rfl) T.m_law_rows T.F_law_rows.kp T.b_law_rows .nil pass0 (pa_cons (pv 6) (pa_cons (pv 5) (pa_cons (pv 8) (pa_cons (pv 2) (pa_cons (pe_ix ix_list (pv 10) (pe_op op_mod (pe_call G_law_cell_at (hr.mono (by decide)) (by rfl) T.m_law_cell_at T.F_law_cell_at.kp T.b_law_cell_at .nil pass0 (pa_cons (pv 0) (pa_cons pe_int pa_nil))) pe_int) (fun _ _ => rfl)) pa_nil)))))))) (pss_one (ps_ret pe_bl)) pss_nil)
    (pss_cons (ps_if (PW.pt (pw_or (pt_not (pt_val (pe_call G_law_rows_C (hr.mono (by decide)) (by rfl) T.m_law_rows T.F_law_rows.kp T.b_law_rows .nil pass0 (pa_cons (pv 6) (pa_cons (pv 5) (pa_cons (pv 8) (pa_cons (pe_un un_neg (pv 2)) (pa_cons pe_non pa_nil)))))))) (pw_or1 (pt_not (pt_val (pe_call G_law_places_C (hr.mono (by decide)) (by rfl) T.m_law_places T.F_law_places.kp T.b_law_places .nil pass0 (pa_cons (pv 6) (pa_cons (pe_meth0 (pv 6) T.cl_Choosing T.me_Choosing_many G_Listing_many (hr.mono (by decide)) T.b_Listing_many .nil pass0) (pa_cons (pv 2) pa_nil))))))))) (pss_one (ps_ret pe_bl)) pss_nil)
    (pss_one (ps_ret (pe_and (pe_call G_law_changes_C (hr.mono (by decide)) (by rfl) T.m_law_changes T.F_law_changes.kp T.b_law_changes .nil pass0 (pa_cons (pv 6) (pa_cons (pv 5) (pa_cons (pv 10) (pa_cons (pv 12) pa_nil))))) (pe_one (pe_cmpR op_eq (pe_meth (pv 6) T.cl_Choosing T.me_Choosing_place_of G_Choosing_place_of (hr.mono (by decide)) T.b_Choosing_place_of .nil passLN (pa_cons (pv 5) pa_nil)) (pv 7) (nomark _))))))))))))))))))), ?read⟩)
  case len =>
    obtain ⟨a, ns, n, z, rfl, _⟩ := h
    rfl
  case read =>
    obtain ⟨a, ns, n, z, rfl, hS, hn, hz, q⟩ := h
    show tSeq _ _ _ [some (.ref a), some (.int n), some (.int z), none, none, none, none, none, none, none, none, none, none] H
    obtain ⟨k, hk, hkn⟩ := mod_nat (cell ns 5) n
    obtain ⟨d, hd⟩ : ∃ d : Nat, n = k + d := ⟨n - k, by omega⟩
    obtain ⟨u, hu, hud⟩ := mod_nat (cell ns 6) d
    have hdi : (n : Int) - (k : Int) + 1 = (d : Int) + 1 := by omega
    obtain ⟨xs, hxs⟩ : ∃ xs : List Int, xs = List.replicate u 0 ++ List.replicate k 1 ++ List.replicate (n - k - u) 0 := ⟨_, rfl⟩
    have hrow : CRow n k xs := by
      rw [hxs]
      exact crow_run (by omega)
    have hxl : xs.length = n := hrow.1
    have f : CForm n k := ⟨by omega, by omega, by omega, by omega⟩
    refine b_asg (Ex.refl H) (v := .int (k : Int)) (ev_is (ev_op (ev_cell (k := 5) (by walk_at "ev") hS (by decide)) (by walk_at "ev") (rv_I (by omega))) (congrArg V.int hk)) fun H1 e => ?_
    show tSeq _ _ _ [some (.ref a), some (.int n), some (.int z), some (.int k), none, none, none, none, none, none, none, none, none] H1
    refine b_asg e (v := .int (u : Int)) (ev_is (ev_op (ev_cell (k := 6) (by walk_at "ev") hS (by decide)) (ev_is (ev_op (ev_op (ev_var rfl) (ev_var rfl) rv_I0) ev_c rv_I0) (congrArg V.int hdi)) (rv_I (by omega))) (congrArg V.int hu)) fun H2 e => ?_
    show tSeq _ _ _ [some (.ref a), some (.int n), some (.int z), some (.int k), some (.int u), none, none, none, none, none, none, none, none] H2
    have hcat : EvL (tOp rCat (tOp rCat (tOp rRep (tLst (tCons (tC (.int 0)) tNil)) (tVar 4)) (tOp rRep (tLst (tCons (tC (.int 1)) tNil)) (tVar 3))) (tOp rRep (tLst (tCons (tC (.int 0)) tNil)) (tOp (rI0 fun i j => .int (i - j)) (tOp (rI0 fun i j => .int (i - j)) (tVar 1) (tVar 3)) (tVar 4)))) [some (.ref a), some (.int n), some (.int z), some (.int k), some (.int u), none, none, none, none, none, none, none, none] H (xs.map V.int) := by
      rw [hxs, List.map_append, List.map_append]
      exact el_cat (el_cat (el_repC ev_c (fun _ _ => ev_var rfl) (by omega)) (el_repC ev_c (fun _ _ => ev_var rfl) (by omega)) (by simp; omega)) (el_repC ev_c (fun _ _ => ev_is (ev_op (ev_op (ev_var rfl) (ev_var rfl) rv_I0) (ev_var rfl) rv_I0) (congrArg V.int (by omega))) (by omega)) (by simp; omega)
    clear hxs
    refine b_asgL e hcat fun r H3 nr e3 hr => ?_
    show tSeq _ _ _ [some (.ref a), some (.int n), some (.int z), some (.int k), some (.int u), some (.ref r), none, none, none, none, none, none, none] H3
    refine b_asgO (Ex.refl H3) (eo_Choosing f (by walk_at "ev")) fun o dx H4 no e4 hO => ?_
    have hC : IsC T H4 o n k := ⟨dx, hO⟩
    have hr4 := e4 _ _ hr
    have hS4 := ex_l e4 (ex_l e3 hS)
    refine b_asg (Ex.refl H4) (v := .int (cplace xs)) (ev_methN (ev_var rfl) hO (cF_m _ _ _) (el_list (ev_var rfl) (sq_of hr4)) fun p H5 e5 hp Q q => ⟨o, p, n, k, xs, rfl, f, hC.mono e5, sq_of hp, by omega, fun _ => q, fun z => absurd hrow z⟩) fun H5 e5 => ?_
    refine b_asgLS e5 (els_bad_ones hz hn hr4 hrow (by walk_at "ev")) ?_
    rintro bs ⟨hbl, hbad⟩ b H6 nb e6 hb
    show tSeq _ _ _ [some (.ref a), some (.int n), some (.int z), some (.int k), some (.int u), some (.ref r), some (.ref o), some (.int (cplace xs)), some (.ref b), none, none, none, none] H6
    have hS6 := ex_l e6 hS4
    have hr6 := e6 _ _ hr4
    refine b_asgLU (Ex.refl H6) (elu_swaps hS6 hn (by walk_at "ev")) fun l vs H7 nl e7 hl ht => ?_
    show tSeq _ _ _ [some (.ref a), some (.int n), some (.int z), some (.int k), some (.int u), some (.ref r), some (.ref o), some (.int (cplace xs)), some (.ref b), some (.ref l), none, none, none] H7
    refine b_asgLU (Ex.refl H7) (xss := ((swp4 ns n z).map prV).map swV) (elu_lcH swV (ev_var rfl) hl ht (by show 4 ≤ 40000; decide) (fun _ => rfl) fun t us H8 e8 hm h8 => ?_) fun l2 vs2 H8 nl2 e8 hl2 ht2 => ?_
    · obtain ⟨c, hc, rfl⟩ := List.mem_map.mp hm
      exact eu_swap (x := c.1) (y := c.2) h8 rfl
    show tSeq _ _ _ [some (.ref a), some (.int n), some (.int z), some (.int k), some (.int u), some (.ref r), some (.ref o), some (.int (cplace xs)), some (.ref b), some (.ref l), some (.ref l2), none, none] H8
    have hr8 := e8 _ _ (e7 _ _ hr6)
    refine b_asgLU (Ex.refl H8) (xss := ((swp4 ns n z).map prV).map (ftV xs)) (elu_lcH (ftV xs) (ev_var rfl) (e8 _ _ hl) (ht.mono e8) (by show 4 ≤ 40000; decide) (fun _ => rfl) fun t us H9 e9 hm h9 => ?_) fun m ws H9 nm e9 hm hw => ?_
    · obtain ⟨c, hc, rfl⟩ := List.mem_map.mp hm
      have hr9 := e9 _ _ hr8
      exact eu_tup (vs := [.bl (hasB xs c.1 1 && hasB xs c.2 0), .bl (hasB xs c.2 1 && hasB xs c.1 0)]) (ea_cons (ev_fit (sq_of hr9) (ea_cons (ev_var rfl) (ea_cons (ev_op (ev_var rfl) ev_c (rv_ixT (st_of h9) (at_of (j := 0) rfl rfl))) (ea_cons (ev_op (ev_var rfl) ev_c (rv_ixT (st_of h9) (at_of (j := 1) rfl rfl))) ea_nil)))) (ea_cons (ev_fit (sq_of hr9) (ea_cons (ev_var rfl) (ea_cons (ev_op (ev_var rfl) ev_c (rv_ixT (st_of h9) (at_of (j := 1) rfl rfl))) (ea_cons (ev_op (ev_var rfl) ev_c (rv_ixT (st_of h9) (at_of (j := 0) rfl rfl))) ea_nil)))) ea_nil)) (by simp)
    show tSeq _ _ _ [some (.ref a), some (.int n), some (.int z), some (.int k), some (.int u), some (.ref r), some (.ref o), some (.int (cplace xs)), some (.ref b), some (.ref l), some (.ref l2), none, some (.ref m)] H9
    have hne : l2 ≠ m := ne_of_none hl2 nm
    have nm7 : H7 m = none := fresh_back e8 nm
    have hl9 := e9 _ _ hl2
    have ht9 := ht2.mono e9
    have hS9 := ex_l e9 (ex_l e8 (ex_l e7 hS6))
    obtain ⟨cs, hcs⟩ : ∃ cs : List Ch, cs = ((swp4 ns n z).map fun c => Ch.swap c.1 c.2) ++ [.turn (cell ns 12 % (n + 1))] := ⟨_, rfl⟩
    have hch : ((swp4 ns n z).map prV).map swV ++ [[V.str "turn", .int (cell ns 12 % (n + 1))]] = cs.map chV := by
      rw [hcs]
      rfl
    have hcl : cs.length = 5 := by
      rw [hcs]
      rfl
    have hcn : ∀ c ∈ cs, c ≠ Ch.non := fun c hc z => by
      subst z
      rw [hcs] at hc
      simp at hc
    have hfit : ((swp4 ns n z).map prV).map (ftV xs) ++ [[V.bl false, V.bl false]] = cs.map fun c => fitV ((cmv xs 1 c).isSome, (cmv xs (-1) c).isSome) := by
      rw [hcs, List.map_append, List.map_map, List.map_map, show ftV xs ∘ prV = (fun c => fitV ((cmv xs 1 c).isSome, (cmv xs (-1) c).isSome)) ∘ (fun c : Int × Int => Ch.swap c.1 c.2) from funext fun c => ftV_eq xs c]
      rfl
    clear hcs
    have hN0 : (0 : Int) < (n : Int) + 1 := by omega
    refine q_appU (K := K) (ys := [.str "turn", .int (cell ns 12 % (n + 1))]) hl9 (ev_var rfl) (eu_tup (ea_cons ev_c (ea_cons (ev_op (ev_cell (k := 12) (by walk_at "ev") hS9 (by decide)) (by walk_at "ev") (rv_I hN0)) ea_nil)) (by simp)) (by rw [ht9.len]; show 4 < 100000; decide) fun p H10 np e10 h10 => ?_
    have hlA : (upd H10 l2 (.lst (vs2 ++ [V.ref p]))) l2 = some (.lst (vs2 ++ [V.ref p])) := upd_same
    have htA : TupsAt (upd H10 l2 (.lst (vs2 ++ [V.ref p]))) (vs2 ++ [V.ref p]) (cs.map chV) := by
      rw [← hch]
      exact TupsAt.upd (TupsAt.snoc h10 (ht9.mono e10)) (e10 _ _ hl9)
    have hmA : (upd H10 l2 (.lst (vs2 ++ [V.ref p]))) m = some (.lst ws) := by
      rw [upd_ne hne.symm]
      exact e10 _ _ hm
    have hwA : TupsAt (upd H10 l2 (.lst (vs2 ++ [V.ref p]))) ws (((swp4 ns n z).map prV).map (ftV xs)) := TupsAt.upd (hw.mono e10) (e10 _ _ hl9)
    have eA : Ex H7 (upd H10 l2 (.lst (vs2 ++ [V.ref p]))) := Ex.mut ((e8.trans e9).trans e10) nl2
    generalize upd H10 l2 (.lst (vs2 ++ [V.ref p])) = HA at *
    generalize vs2 ++ [V.ref p] = vs3 at *
    refine q_appU (K := K) (ys := [.bl false, .bl false]) hmA (ev_var rfl) (eu_tup (by walk_at "ev") (by simp)) (by rw [hwA.len]; show 4 < 100000; decide) fun p2 H11 np2 e11 h11 => ?_
    have hmB : (upd H11 m (.lst (ws ++ [V.ref p2]))) m = some (.lst (ws ++ [V.ref p2])) := upd_same
    have hwB : TupsAt (upd H11 m (.lst (ws ++ [V.ref p2]))) (ws ++ [V.ref p2]) (cs.map fun c => fitV ((cmv xs 1 c).isSome, (cmv xs (-1) c).isSome)) := by
      rw [← hfit]
      exact TupsAt.upd (TupsAt.snoc h11 (hwA.mono e11)) (e11 _ _ hmA)
    have hlB : (upd H11 m (.lst (ws ++ [V.ref p2]))) l2 = some (.lst vs3) := by
      rw [upd_ne hne]
      exact e11 _ _ hlA
    have htB : TupsAt (upd H11 m (.lst (ws ++ [V.ref p2]))) vs3 (cs.map chV) := TupsAt.upd (htA.mono e11) (e11 _ _ hmA)
    have eB : Ex H7 (upd H11 m (.lst (ws ++ [V.ref p2]))) := Ex.mut (eA.trans e11) nm7
    generalize upd H11 m (.lst (ws ++ [V.ref p2])) = HB at *
    generalize ws ++ [V.ref p2] = ws2 at *
    have e4B := e6.trans (e7.trans eB)
    have hCB := hC.mono e4B
    have hOB := e4B _ _ hO
    have hrB := e4B _ _ hr4
    have hbB := (e7.trans eB) _ _ hb
    have hSB := ex_l e4B hS4
    obtain ⟨i, hi, hi5⟩ : ∃ i : Nat, cell ns 4 % 5 = (i : Int) ∧ i < 5 := ⟨(cell ns 4 % 5).toNat, by omega, by omega⟩
    obtain ⟨c, hc⟩ : ∃ c, cs[i]? = some c := ⟨cs[i]'(by omega), List.getElem?_eq_getElem (by omega)⟩
    obtain ⟨t, h1, h2⟩ := htB.get (i := i) (xs := chV c) (by rw [List.getElem?_map, hc]; rfl)
    have hct : ChAt K HB (.ref t) c := ch_at (hcn c (List.mem_of_getElem? hc)) h2
    show tSeq _ _ _ [some (.ref a), some (.int n), some (.int z), some (.int k), some (.int u), some (.ref r), some (.ref o), some (.int (cplace xs)), some (.ref b), some (.ref l), some (.ref l2), none, some (.ref m)] HB
    refine b_skip (b := !true) (Ex.refl HB) (et_not (et_B (ev_rows_C (c := c) (cv := .ref t) f hCB hrB hrow hbB hbl hbad hct (ea_cons (ev_var rfl) (ea_cons (ev_var rfl) (ea_cons (ev_var rfl) (ea_cons (ev_var rfl) (ea_cons (ev_op (ev_var rfl) (ev_is (ev_op (ev_cell (k := 4) (by walk_at "ev") hSB (by decide)) ev_c (rv_I (by decide))) (congrArg V.int hi)) (rv_ixL (sq_of hlB) (atI_nat h1))) ea_nil)))))))) (fun H12 e12 => ?_)
    refine b_skip (b := !true || !true) e12 (et_or (et_not (et_B (ev_rows_C (c := .non) (cv := .non) f hCB hrB hrow hbB hbl hbad rfl (by walk_at "ev")))) fun _ => et_not (et_B (ev_places_C f hz hCB (ea_cons (ev_var rfl) (ea_cons (ev_many (ev_var rfl) hOB T.cl_Choosing T.no_Choosing_size (cF_size _ _ _) (cF_m _ _ _)) (ea_cons (ev_var rfl) ea_nil)))))) (fun H13 e13 => ?_)
    refine b_ret e13 (v := .bl (true && decide (cplace xs = cplace xs))) (ev_andV (ev_changes_C f hCB hrB hrow hlB htB hcn hmB hwB (by omega) (by walk_at "ev")) fun _ => ev_op (ev_Cplace f hCB (sq_of hrB) hrow (ev_var rfl) (by walk_at "ev")) (ev_var rfl) rv_eqI) ?_
    rw [decide_eq_true rfl]
    exact fun H14 e14 => q H14 (((e3.trans e4).trans e4B).trans e14)
/-! #### law -/
theorem sc_law : FnScope N_law P_law (defScope s_law) := ⟨rfl, rfl, rfl, by decide +kernel, rfl, by decide +kernel, by decide +kernel⟩
def sp_law (_ : Txt K mg) : Sp := spLawK K
theorem ok_law (T : Txt K mg) : FnOk P w K mg base CX0 9 T.a_law T.d_law P_law (sp_law T) := by
  have G_law_cell_at := ok_law_cell_at (P := P) (w := w) (base := base) T
  have G_law_choosing := ok_law_choosing (P := P) (w := w) (base := base) T
  have G_law_forms := ok_law_forms (P := P) (w := w) (base := base) T
  have G_law_length := ok_law_length (P := P) (w := w) (base := base) T
  have G_law_signs := ok_law_signs (P := P) (w := w) (base := base) T
  have G_law_turning := ok_law_turning (P := P) (w := w) (base := base) T
  refine (T.F_law).ok sc_law (fun vs H Q E h => ?len) (fun cdv A outer s H vs Q E hr h => ⟨_, (pss_cons (ps_set (i := 1) sc_law.nd rfl (Or.inl rfl) (pe_call G_law_length (hr.mono (by decide)) (by rfl) T.m_law_length T.F_law_length.kp T.b_law_length .nil pass0 (pa_cons (pe_call G_law_cell_at (hr.mono (by decide)) (by rfl) T.m_law_cell_at T.F_law_cell_at.kp T.b_law_cell_at .nil pass0 (pa_cons (pv 0) (pa_cons pe_int pa_nil))) pa_nil)))
    (pss_cons (ps_set (i := 2) sc_law.nd rfl (Or.inl rfl) (pe_call G_law_signs (hr.mono (by decide)) (by rfl) T.m_law_signs T.F_law_signs.kp T.b_law_signs .nil pass0 (pa_cons (pe_call G_law_cell_at (hr.mono (by decide)) (by rfl) T.m_law_cell_at T.F_law_cell_at.kp T.b_law_cell_at .nil pass0 (pa_cons (pv 0) (pa_cons pe_int pa_nil))) pa_nil)))
    (pss_cons (ps_set (i := 3) sc_law.nd rfl (Or.inl rfl) pe_int)
    (pss_cons (ps_if (pt_cmpR op_eq (pe_op op_mod (pe_call G_law_cell_at (hr.mono (by decide)) (by rfl) T.m_law_cell_at T.F_law_cell_at.kp T.b_law_cell_at .nil pass0 (pa_cons (pv 0) (pa_cons pe_int pa_nil))) pe_int) pe_int (nomark _)) (pss_one (ps_set (i := 3) sc_law.nd rfl (Or.inl rfl) (pe_op op_mod (pe_op op_mul (pe_op op_fdivW (pe_call G_law_cell_at (hr.mono (by decide)) (by rfl) T.m_law_cell_at T.F_law_cell_at.kp T.b_law_cell_at .nil pass0 (pa_cons (pv 0) (pa_cons pe_int pa_nil))) pe_int) pe_int) (pe_op op_pow pe_int pe_int)))) pss_nil)
    (pss_cons (ps_if (pt_not (pt_val (pe_call G_law_forms (hr.mono (by decide)) (by rfl) T.m_law_forms T.F_law_forms.kp T.b_law_forms .nil pass0 (pa_cons (pv 1) (pa_cons (pv 2) (pa_cons (pv 3) pa_nil)))))) (pss_one (ps_ret pe_bl)) pss_nil)
    (pss_one (ps_ret (pe_and (pe_call G_law_turning (hr.mono (by decide)) (by rfl) T.m_law_turning T.F_law_turning.kp T.b_law_turning .nil pass0 (pa_cons (pv 0) (pa_cons (pv 1) (pa_cons (pv 2) (pa_cons (pv 3) pa_nil))))) (pe_one (pe_call G_law_choosing (hr.mono (by decide)) (by rfl) T.m_law_choosing T.F_law_choosing.kp T.b_law_choosing .nil pass0 (pa_cons (pv 0) (pa_cons (pv 1) (pa_cons (pv 3) pa_nil))))))))))))), ?read⟩)
  case len =>
    obtain ⟨a, ns, rfl, _⟩ := h
    rfl
  case read =>
    obtain ⟨a, ns, rfl, hS, hlen, hbits, kq⟩ := h
    show tSeq _ _ _ [some (.ref a), none, none, none] H
    refine b_asgS (Ex.refl H) (es_length (by walk_at "ev")) ?_
    rintro _ ⟨n, rfl, hn⟩ H1 e
    refine b_asgS e (es_signs (by walk_at "ev")) ?_
    rintro _ ⟨s, rfl, s2, s1⟩ H2 e
    have f : TForm s n := ⟨s2, s1, by omega, by omega⟩
    obtain ⟨z, hz⟩ : ∃ z : Int, z = if cell ns 2 % 3 = 1 then cell ns 2 / 3 * 982451653 % 10 ^ 30 else 0 := ⟨_, rfl⟩
    have z0 : 0 ≤ z := by
      rw [hz]
      split
      · exact Int.emod_nonneg _ (by decide)
      · exact Int.le_refl 0
    refine b_asg e ev_c fun H3 e => ?_
    show tSeq _ _ _ [some (.ref a), some (.int n), some (.int s), some (.int 0)] H3
    refine b_ifAsg (b := decide (cell ns 2 % 3 = 1)) (v := .int z) e (by walk_at "ev") (fun hb => ?_) (fun hb => ?_) fun H4 e => ?_
    · rw [hz, if_pos (of_decide_eq_true hb)]
      exact ev_op (ev_op (ev_op (ev_cell (k := 2) (by walk_at "ev") hS (by decide)) ev_c (rv_I (cdiv_small (by decide) (by decide)))) ev_c (rv_I (cmul_r (by decide) (by decide)))) (ev_op ev_c ev_c rv_p30) (rv_I (by decide))
    · rw [hz, if_neg (of_decide_eq_false hb)]
      rfl
    clear hz
    show tSeq _ _ _ [some (.ref a), some (.int n), some (.int s), some (.int z)] H4
    refine b_skip (b := !true) e (et_not (et_B (ev_forms (n := n) (s := s) (z := z) ⟨by omega, by omega⟩ ⟨s2, s1⟩ z0 (by walk_at "ev")))) (fun H5 e => ?_)
    exact b_ret e (v := .bl (true && true)) (ev_andV (ev_turning hS f z0 (by walk_at "ev")) fun _ => ev_choosing hS hn z0 (by walk_at "ev")) fun H6 _ => kq H6
end
/-! ### the end -/
theorem all_mk {l : PySem.W.OpenLaw} {w : World} {K : PySem.W.Frag} {h : Heap} {mg : Str → Option Value} {fa : Addr} (X : K.In h) (G : h.Ns mainGlobals mg) (hfa : mg "law" = some (.ref fa))
    {a_Listing___init__ a_power a_Turning___init__ a_choose a_Choosing___init__ a_law_length a_law_signs a_law_cell_at a_law_which a_law_formed a_law_forms a_Turning_is_row a_Turning_place_of a_law_bad_row a_Turning_moved a_Turning_undone a_Turning_row_at a_Turning_change a_Listing_leap t_Listing_leap a_Listing_next_row a_Listing_row_before a_Listing_steps_to a_Turning_done a_law_ask a_law_refused a_law_rows a_law_changes a_law_places a_Listing_many a_law_swaps a_law_turning a_Choosing_is_row a_Choosing_place_of a_law_bad_ones a_has a_Choosing_moved a_Choosing_undone a_Choosing_row_at a_Choosing_change a_Choosing_done a_law_fit a_law_choosing a_law c_RowError c_NoForm c_NoPlace c_NoRow c_NoChange c_Listing c_Choosing c_Turning : Addr} {od_Listing___init__ an_Listing___init__ od_power an_power od_Turning___init__ an_Turning___init__ od_choose an_choose od_Choosing___init__ an_Choosing___init__ od_law_length an_law_length od_law_signs an_law_signs od_law_cell_at an_law_cell_at od_law_which an_law_which od_law_formed an_law_formed od_law_forms an_law_forms od_Turning_is_row an_Turning_is_row od_Turning_place_of an_Turning_place_of od_law_bad_row an_law_bad_row od_Turning_moved an_Turning_moved od_Turning_undone an_Turning_undone od_Turning_row_at an_Turning_row_at od_Turning_change an_Turning_change od_Listing_leap an_Listing_leap td_Listing_leap od_Listing_next_row an_Listing_next_row od_Listing_row_before an_Listing_row_before od_Listing_steps_to an_Listing_steps_to od_Turning_done an_Turning_done od_law_ask an_law_ask od_law_refused an_law_refused od_law_rows an_law_rows od_law_changes an_law_changes od_law_places an_law_places od_Listing_many an_Listing_many od_law_swaps an_law_swaps od_law_turning an_law_turning od_Choosing_is_row an_Choosing_is_row od_Choosing_place_of an_Choosing_place_of od_law_bad_ones an_law_bad_ones od_has an_has od_Choosing_moved an_Choosing_moved od_Choosing_undone an_Choosing_undone od_Choosing_row_at an_Choosing_row_at od_Choosing_change an_Choosing_change od_Choosing_done an_Choosing_done od_law_fit an_law_fit od_law_choosing an_law_choosing od_law an_law : Option Addr} {sl_Listing___init__ sl_power sl_Turning___init__ sl_choose sl_Choosing___init__ sl_law_length sl_law_signs sl_law_cell_at sl_law_which sl_law_formed sl_law_forms sl_Turning_is_row sl_Turning_place_of sl_law_bad_row sl_Turning_moved sl_Turning_undone sl_Turning_row_at sl_Turning_change sl_Listing_leap ts_Listing_leap sl_Listing_next_row sl_Listing_row_before sl_Listing_steps_to sl_Turning_done sl_law_ask sl_law_refused sl_law_rows sl_law_changes sl_law_places sl_Listing_many sl_law_swaps sl_law_turning sl_Choosing_is_row sl_Choosing_place_of sl_law_bad_ones sl_has sl_Choosing_moved sl_Choosing_undone sl_Choosing_row_at sl_Choosing_change sl_Choosing_done sl_law_fit sl_law_choosing sl_law : Array (Option Value)} {oc_Listing___init__ kV_Listing___init__ dc_Listing___init__ pm_Listing___init__ cd_Listing___init__ ct_Listing___init__ oc_power kV_power dc_power pm_power cd_power ct_power oc_Turning___init__ kV_Turning___init__ dc_Turning___init__ pm_Turning___init__ cd_Turning___init__ ct_Turning___init__ oc_choose kV_choose dc_choose pm_choose cd_choose ct_choose oc_Choosing___init__ kV_Choosing___init__ dc_Choosing___init__ pm_Choosing___init__ cd_Choosing___init__ ct_Choosing___init__ oc_law_length kV_law_length dc_law_length pm_law_length cd_law_length ct_law_length oc_law_signs kV_law_signs dc_law_signs pm_law_signs cd_law_signs ct_law_signs oc_law_cell_at kV_law_cell_at dc_law_cell_at pm_law_cell_at cd_law_cell_at ct_law_cell_at oc_law_which kV_law_which dc_law_which pm_law_which cd_law_which ct_law_which oc_law_formed kV_law_formed dc_law_formed pm_law_formed cd_law_formed ct_law_formed oc_law_forms kV_law_forms dc_law_forms pm_law_forms cd_law_forms ct_law_forms oc_Turning_is_row kV_Turning_is_row dc_Turning_is_row pm_Turning_is_row cd_Turning_is_row ct_Turning_is_row oc_Turning_place_of kV_Turning_place_of dc_Turning_place_of pm_Turning_place_of cd_Turning_place_of ct_Turning_place_of oc_law_bad_row kV_law_bad_row dc_law_bad_row pm_law_bad_row cd_law_bad_row ct_law_bad_row oc_Turning_moved kV_Turning_moved dc_Turning_moved pm_Turning_moved cd_Turning_moved ct_Turning_moved oc_Turning_undone kV_Turning_undone dc_Turning_undone pm_Turning_undone cd_Turning_undone ct_Turning_undone oc_Turning_row_at kV_Turning_row_at dc_Turning_row_at pm_Turning_row_at cd_Turning_row_at ct_Turning_row_at oc_Turning_change kV_Turning_change dc_Turning_change pm_Turning_change cd_Turning_change ct_Turning_change oc_Listing_leap kV_Listing_leap dc_Listing_leap pm_Listing_leap cd_Listing_leap ct_Listing_leap oc_Listing_next_row kV_Listing_next_row dc_Listing_next_row pm_Listing_next_row cd_Listing_next_row ct_Listing_next_row oc_Listing_row_before kV_Listing_row_before dc_Listing_row_before pm_Listing_row_before cd_Listing_row_before ct_Listing_row_before oc_Listing_steps_to kV_Listing_steps_to dc_Listing_steps_to pm_Listing_steps_to cd_Listing_steps_to ct_Listing_steps_to oc_Turning_done kV_Turning_done dc_Turning_done pm_Turning_done cd_Turning_done ct_Turning_done oc_law_ask kV_law_ask dc_law_ask pm_law_ask cd_law_ask ct_law_ask oc_law_refused kV_law_refused dc_law_refused pm_law_refused cd_law_refused ct_law_refused oc_law_rows kV_law_rows dc_law_rows pm_law_rows cd_law_rows ct_law_rows oc_law_changes kV_law_changes dc_law_changes pm_law_changes cd_law_changes ct_law_changes oc_law_places kV_law_places dc_law_places pm_law_places cd_law_places ct_law_places oc_Listing_many kV_Listing_many dc_Listing_many pm_Listing_many cd_Listing_many ct_Listing_many oc_law_swaps kV_law_swaps dc_law_swaps pm_law_swaps cd_law_swaps ct_law_swaps oc_law_turning kV_law_turning dc_law_turning pm_law_turning cd_law_turning ct_law_turning oc_Choosing_is_row kV_Choosing_is_row dc_Choosing_is_row pm_Choosing_is_row cd_Choosing_is_row ct_Choosing_is_row oc_Choosing_place_of kV_Choosing_place_of dc_Choosing_place_of pm_Choosing_place_of cd_Choosing_place_of ct_Choosing_place_of oc_law_bad_ones kV_law_bad_ones dc_law_bad_ones pm_law_bad_ones cd_law_bad_ones ct_law_bad_ones oc_has kV_has dc_has pm_has cd_has ct_has oc_Choosing_moved kV_Choosing_moved dc_Choosing_moved pm_Choosing_moved cd_Choosing_moved ct_Choosing_moved oc_Choosing_undone kV_Choosing_undone dc_Choosing_undone pm_Choosing_undone cd_Choosing_undone ct_Choosing_undone oc_Choosing_row_at kV_Choosing_row_at dc_Choosing_row_at pm_Choosing_row_at cd_Choosing_row_at ct_Choosing_row_at oc_Choosing_change kV_Choosing_change dc_Choosing_change pm_Choosing_change cd_Choosing_change ct_Choosing_change oc_Choosing_done kV_Choosing_done dc_Choosing_done pm_Choosing_done cd_Choosing_done ct_Choosing_done oc_law_fit kV_law_fit dc_law_fit pm_law_fit cd_law_fit ct_law_fit oc_law_choosing kV_law_choosing dc_law_choosing pm_law_choosing cd_law_choosing ct_law_choosing oc_law kV_law dc_law pm_law cd_law ct_law : Value} {t_MOST_SPOTS_choosing t_MOST_SIGNS t_MOST_SPOTS_turning tk_Listing_leap : Tok} {tn_Listing_leap : Nat}
    (h_ValueError : PySem.W.nsIn K mainGlobals "ValueError" = some none)
    (h_all : PySem.W.nsIn K mainGlobals "all" = some none)
    (h_divmod : PySem.W.nsIn K mainGlobals "divmod" = some none)
    (h_enumerate : PySem.W.nsIn K mainGlobals "enumerate" = some none)
    (h_int : PySem.W.nsIn K mainGlobals "int" = some none)
    (h_isinstance : PySem.W.nsIn K mainGlobals "isinstance" = some none)
    (h_len : PySem.W.nsIn K mainGlobals "len" = some none)
    (h_list : PySem.W.nsIn K mainGlobals "list" = some none)
    (h_max : PySem.W.nsIn K mainGlobals "max" = some none)
    (h_min : PySem.W.nsIn K mainGlobals "min" = some none)
    (h_range : PySem.W.nsIn K mainGlobals "range" = some none)
    (h_reversed : PySem.W.nsIn K mainGlobals "reversed" = some none)
    (h_sum : PySem.W.nsIn K mainGlobals "sum" = some none)
    (h_MOST_SPOTS_choosing : PySem.W.nsIn K mainGlobals "MOST_SPOTS_choosing" = some (some (.int 200 t_MOST_SPOTS_choosing)))
    (h_MOST_SIGNS : PySem.W.nsIn K mainGlobals "MOST_SIGNS" = some (some (.int 1000000000000 t_MOST_SIGNS)))
    (h_MOST_SPOTS_turning : PySem.W.nsIn K mainGlobals "MOST_SPOTS_turning" = some (some (.int 200 t_MOST_SPOTS_turning)))
    (n_power : PySem.W.nsIn K mainGlobals "power" = some (some (.ref a_power)))
    (n_choose : PySem.W.nsIn K mainGlobals "choose" = some (some (.ref a_choose)))
    (n_law_length : PySem.W.nsIn K mainGlobals "_law_length" = some (some (.ref a_law_length)))
    (n_law_signs : PySem.W.nsIn K mainGlobals "_law_signs" = some (some (.ref a_law_signs)))
    (n_law_cell_at : PySem.W.nsIn K mainGlobals "_law_cell_at" = some (some (.ref a_law_cell_at)))
    (n_law_which : PySem.W.nsIn K mainGlobals "_law_which" = some (some (.ref a_law_which)))
    (n_law_formed : PySem.W.nsIn K mainGlobals "_law_formed" = some (some (.ref a_law_formed)))
    (n_law_forms : PySem.W.nsIn K mainGlobals "_law_forms" = some (some (.ref a_law_forms)))
    (n_law_bad_row : PySem.W.nsIn K mainGlobals "_law_bad_row" = some (some (.ref a_law_bad_row)))
    (n_law_ask : PySem.W.nsIn K mainGlobals "_law_ask" = some (some (.ref a_law_ask)))
    (n_law_refused : PySem.W.nsIn K mainGlobals "_law_refused" = some (some (.ref a_law_refused)))
    (n_law_rows : PySem.W.nsIn K mainGlobals "_law_rows" = some (some (.ref a_law_rows)))
    (n_law_changes : PySem.W.nsIn K mainGlobals "_law_changes" = some (some (.ref a_law_changes)))
    (n_law_places : PySem.W.nsIn K mainGlobals "_law_places" = some (some (.ref a_law_places)))
    (n_law_swaps : PySem.W.nsIn K mainGlobals "_law_swaps" = some (some (.ref a_law_swaps)))
    (n_law_turning : PySem.W.nsIn K mainGlobals "_law_turning" = some (some (.ref a_law_turning)))
    (n_law_bad_ones : PySem.W.nsIn K mainGlobals "_law_bad_ones" = some (some (.ref a_law_bad_ones)))
    (n_has : PySem.W.nsIn K mainGlobals "has" = some (some (.ref a_has)))
    (n_law_fit : PySem.W.nsIn K mainGlobals "_law_fit" = some (some (.ref a_law_fit)))
    (n_law_choosing : PySem.W.nsIn K mainGlobals "_law_choosing" = some (some (.ref a_law_choosing)))
    (n_law : PySem.W.nsIn K mainGlobals "law" = some (some (.ref a_law)))
    (n_RowError : PySem.W.nsIn K mainGlobals "RowError" = some (some (.ref c_RowError)))
    (n_NoForm : PySem.W.nsIn K mainGlobals "NoForm" = some (some (.ref c_NoForm)))
    (n_NoPlace : PySem.W.nsIn K mainGlobals "NoPlace" = some (some (.ref c_NoPlace)))
    (n_NoRow : PySem.W.nsIn K mainGlobals "NoRow" = some (some (.ref c_NoRow)))
    (n_NoChange : PySem.W.nsIn K mainGlobals "NoChange" = some (some (.ref c_NoChange)))
    (n_Listing : PySem.W.nsIn K mainGlobals "Listing" = some (some (.ref c_Listing)))
    (n_Choosing : PySem.W.nsIn K mainGlobals "Choosing" = some (some (.ref c_Choosing)))
    (n_Turning : PySem.W.nsIn K mainGlobals "Turning" = some (some (.ref c_Turning)))
    (rd_Listing : PySem.W.readsIn K c_Listing (.type "type") = true)
    (fi_Turning : PySem.W.findIn K (.ref c_Turning) "__init__" = some (some (.ref a_Turning___init__)))
    (fi_Turning_change : PySem.W.findIn K (.ref c_Turning) "change" = some (some (.ref a_Turning_change)))
    (fi_Turning_done : PySem.W.findIn K (.ref c_Turning) "done" = some (some (.ref a_Turning_done)))
    (fi_Turning_is_row : PySem.W.findIn K (.ref c_Turning) "is_row" = some (some (.ref a_Turning_is_row)))
    (fi_Turning_leap : PySem.W.findIn K (.ref c_Turning) "leap" = some (some (.ref a_Listing_leap)))
    (fi_Turning_many : PySem.W.findIn K (.ref c_Turning) "many" = some (some (.ref a_Listing_many)))
    (fi_Turning_moved : PySem.W.findIn K (.ref c_Turning) "moved" = some (some (.ref a_Turning_moved)))
    (fi_Turning_next_row : PySem.W.findIn K (.ref c_Turning) "next_row" = some (some (.ref a_Listing_next_row)))
    (fi_Turning_place_of : PySem.W.findIn K (.ref c_Turning) "place_of" = some (some (.ref a_Turning_place_of)))
    (fi_Turning_row_at : PySem.W.findIn K (.ref c_Turning) "row_at" = some (some (.ref a_Turning_row_at)))
    (fi_Turning_row_before : PySem.W.findIn K (.ref c_Turning) "row_before" = some (some (.ref a_Listing_row_before)))
    (fi_Turning_steps_to : PySem.W.findIn K (.ref c_Turning) "steps_to" = some (some (.ref a_Listing_steps_to)))
    (fi_Turning_undone : PySem.W.findIn K (.ref c_Turning) "undone" = some (some (.ref a_Turning_undone)))
    (fi_Choosing : PySem.W.findIn K (.ref c_Choosing) "__init__" = some (some (.ref a_Choosing___init__)))
    (fi_Choosing_change : PySem.W.findIn K (.ref c_Choosing) "change" = some (some (.ref a_Choosing_change)))
    (fi_Choosing_done : PySem.W.findIn K (.ref c_Choosing) "done" = some (some (.ref a_Choosing_done)))
    (fi_Choosing_is_row : PySem.W.findIn K (.ref c_Choosing) "is_row" = some (some (.ref a_Choosing_is_row)))
    (fi_Choosing_leap : PySem.W.findIn K (.ref c_Choosing) "leap" = some (some (.ref a_Listing_leap)))
    (fi_Choosing_many : PySem.W.findIn K (.ref c_Choosing) "many" = some (some (.ref a_Listing_many)))
    (fi_Choosing_moved : PySem.W.findIn K (.ref c_Choosing) "moved" = some (some (.ref a_Choosing_moved)))
    (fi_Choosing_next_row : PySem.W.findIn K (.ref c_Choosing) "next_row" = some (some (.ref a_Listing_next_row)))
    (fi_Choosing_place_of : PySem.W.findIn K (.ref c_Choosing) "place_of" = some (some (.ref a_Choosing_place_of)))
    (fi_Choosing_row_at : PySem.W.findIn K (.ref c_Choosing) "row_at" = some (some (.ref a_Choosing_row_at)))
    (fi_Choosing_row_before : PySem.W.findIn K (.ref c_Choosing) "row_before" = some (some (.ref a_Listing_row_before)))
    (fi_Choosing_steps_to : PySem.W.findIn K (.ref c_Choosing) "steps_to" = some (some (.ref a_Listing_steps_to)))
    (fi_Choosing_undone : PySem.W.findIn K (.ref c_Choosing) "undone" = some (some (.ref a_Choosing_undone)))
    (at_Listing___init__ : PySem.W.findCls K (.ref c_Listing) (.type "type") "__init__" = some (.val (.ref a_Listing___init__)))
    (l_Listing___init__ : K.lookup a_Listing___init__ = some ⟨oc_Listing___init__, od_Listing___init__, .func (PySem.W.fnOf "__init__" "Listing.__init__" (defArgs s_Listing___init__) (defBody s_Listing___init__) (defScope s_Listing___init__) .none kV_Listing___init__ dc_Listing___init__ pm_Listing___init__ an_Listing___init__ cd_Listing___init__ ct_Listing___init__), sl_Listing___init__⟩)
    (cc_Listing___init__ : PySem.W.codeIn K cd_Listing___init__ "Listing.__init__" = true)
    (k_Listing___init__ : PySem.W.keepIn K (.ref a_Listing___init__) = true)
    (l_power : K.lookup a_power = some ⟨oc_power, od_power, .func (PySem.W.fnOf "power" "power" (defArgs s_power) (defBody s_power) (defScope s_power) .none kV_power dc_power pm_power an_power cd_power ct_power), sl_power⟩)
    (cc_power : PySem.W.codeIn K cd_power "power" = true)
    (k_power : PySem.W.keepIn K (.ref a_power) = true)
    (l_Turning___init__ : K.lookup a_Turning___init__ = some ⟨oc_Turning___init__, od_Turning___init__, .func (PySem.W.fnOf "__init__" "Turning.__init__" (defArgs s_Turning___init__) (defBody s_Turning___init__) (defScope s_Turning___init__) .none kV_Turning___init__ dc_Turning___init__ pm_Turning___init__ an_Turning___init__ cd_Turning___init__ ct_Turning___init__), sl_Turning___init__⟩)
    (cc_Turning___init__ : PySem.W.codeIn K cd_Turning___init__ "Turning.__init__" = true)
    (k_Turning___init__ : PySem.W.keepIn K (.ref a_Turning___init__) = true)
    (l_choose : K.lookup a_choose = some ⟨oc_choose, od_choose, .func (PySem.W.fnOf "choose" "choose" (defArgs s_choose) (defBody s_choose) (defScope s_choose) .none kV_choose dc_choose pm_choose an_choose cd_choose ct_choose), sl_choose⟩)
    (cc_choose : PySem.W.codeIn K cd_choose "choose" = true)
    (k_choose : PySem.W.keepIn K (.ref a_choose) = true)
    (l_Choosing___init__ : K.lookup a_Choosing___init__ = some ⟨oc_Choosing___init__, od_Choosing___init__, .func (PySem.W.fnOf "__init__" "Choosing.__init__" (defArgs s_Choosing___init__) (defBody s_Choosing___init__) (defScope s_Choosing___init__) .none kV_Choosing___init__ dc_Choosing___init__ pm_Choosing___init__ an_Choosing___init__ cd_Choosing___init__ ct_Choosing___init__), sl_Choosing___init__⟩)
    (cc_Choosing___init__ : PySem.W.codeIn K cd_Choosing___init__ "Choosing.__init__" = true)
    (k_Choosing___init__ : PySem.W.keepIn K (.ref a_Choosing___init__) = true)
    (l_law_length : K.lookup a_law_length = some ⟨oc_law_length, od_law_length, .func (PySem.W.fnOf "_law_length" "_law_length" (defArgs s_law_length) (defBody s_law_length) (defScope s_law_length) .none kV_law_length dc_law_length pm_law_length an_law_length cd_law_length ct_law_length), sl_law_length⟩)
    (cc_law_length : PySem.W.codeIn K cd_law_length "_law_length" = true)
    (k_law_length : PySem.W.keepIn K (.ref a_law_length) = true)
    (l_law_signs : K.lookup a_law_signs = some ⟨oc_law_signs, od_law_signs, .func (PySem.W.fnOf "_law_signs" "_law_signs" (defArgs s_law_signs) (defBody s_law_signs) (defScope s_law_signs) .none kV_law_signs dc_law_signs pm_law_signs an_law_signs cd_law_signs ct_law_signs), sl_law_signs⟩)
    (cc_law_signs : PySem.W.codeIn K cd_law_signs "_law_signs" = true)
    (k_law_signs : PySem.W.keepIn K (.ref a_law_signs) = true)
    (l_law_cell_at : K.lookup a_law_cell_at = some ⟨oc_law_cell_at, od_law_cell_at, .func (PySem.W.fnOf "_law_cell_at" "_law_cell_at" (defArgs s_law_cell_at) (defBody s_law_cell_at) (defScope s_law_cell_at) .none kV_law_cell_at dc_law_cell_at pm_law_cell_at an_law_cell_at cd_law_cell_at ct_law_cell_at), sl_law_cell_at⟩)
    (cc_law_cell_at : PySem.W.codeIn K cd_law_cell_at "_law_cell_at" = true)
    (k_law_cell_at : PySem.W.keepIn K (.ref a_law_cell_at) = true)
    (l_law_which : K.lookup a_law_which = some ⟨oc_law_which, od_law_which, .func (PySem.W.fnOf "_law_which" "_law_which" (defArgs s_law_which) (defBody s_law_which) (defScope s_law_which) .none kV_law_which dc_law_which pm_law_which an_law_which cd_law_which ct_law_which), sl_law_which⟩)
    (cc_law_which : PySem.W.codeIn K cd_law_which "_law_which" = true)
    (k_law_which : PySem.W.keepIn K (.ref a_law_which) = true)
    (l_law_formed : K.lookup a_law_formed = some ⟨oc_law_formed, od_law_formed, .func (PySem.W.fnOf "_law_formed" "_law_formed" (defArgs s_law_formed) (defBody s_law_formed) (defScope s_law_formed) .none kV_law_formed dc_law_formed pm_law_formed an_law_formed cd_law_formed ct_law_formed), sl_law_formed⟩)
    (cc_law_formed : PySem.W.codeIn K cd_law_formed "_law_formed" = true)
    (k_law_formed : PySem.W.keepIn K (.ref a_law_formed) = true)
    (l_law_forms : K.lookup a_law_forms = some ⟨oc_law_forms, od_law_forms, .func (PySem.W.fnOf "_law_forms" "_law_forms" (defArgs s_law_forms) (defBody s_law_forms) (defScope s_law_forms) .none kV_law_forms dc_law_forms pm_law_forms an_law_forms cd_law_forms ct_law_forms), sl_law_forms⟩)
    (cc_law_forms : PySem.W.codeIn K cd_law_forms "_law_forms" = true)
    (k_law_forms : PySem.W.keepIn K (.ref a_law_forms) = true)
    (l_Turning_is_row : K.lookup a_Turning_is_row = some ⟨oc_Turning_is_row, od_Turning_is_row, .func (PySem.W.fnOf "is_row" "Turning.is_row" (defArgs s_Turning_is_row) (defBody s_Turning_is_row) (defScope s_Turning_is_row) .none kV_Turning_is_row dc_Turning_is_row pm_Turning_is_row an_Turning_is_row cd_Turning_is_row ct_Turning_is_row), sl_Turning_is_row⟩)
    (cc_Turning_is_row : PySem.W.codeIn K cd_Turning_is_row "Turning.is_row" = true)
    (k_Turning_is_row : PySem.W.keepIn K (.ref a_Turning_is_row) = true)
    (l_Turning_place_of : K.lookup a_Turning_place_of = some ⟨oc_Turning_place_of, od_Turning_place_of, .func (PySem.W.fnOf "place_of" "Turning.place_of" (defArgs s_Turning_place_of) (defBody s_Turning_place_of) (defScope s_Turning_place_of) .none kV_Turning_place_of dc_Turning_place_of pm_Turning_place_of an_Turning_place_of cd_Turning_place_of ct_Turning_place_of), sl_Turning_place_of⟩)
    (cc_Turning_place_of : PySem.W.codeIn K cd_Turning_place_of "Turning.place_of" = true)
    (k_Turning_place_of : PySem.W.keepIn K (.ref a_Turning_place_of) = true)
    (l_law_bad_row : K.lookup a_law_bad_row = some ⟨oc_law_bad_row, od_law_bad_row, .func (PySem.W.fnOf "_law_bad_row" "_law_bad_row" (defArgs s_law_bad_row) (defBody s_law_bad_row) (defScope s_law_bad_row) .none kV_law_bad_row dc_law_bad_row pm_law_bad_row an_law_bad_row cd_law_bad_row ct_law_bad_row), sl_law_bad_row⟩)
    (cc_law_bad_row : PySem.W.codeIn K cd_law_bad_row "_law_bad_row" = true)
    (k_law_bad_row : PySem.W.keepIn K (.ref a_law_bad_row) = true)
    (l_Turning_moved : K.lookup a_Turning_moved = some ⟨oc_Turning_moved, od_Turning_moved, .func (PySem.W.fnOf "moved" "Turning.moved" (defArgs s_Turning_moved) (defBody s_Turning_moved) (defScope s_Turning_moved) .none kV_Turning_moved dc_Turning_moved pm_Turning_moved an_Turning_moved cd_Turning_moved ct_Turning_moved), sl_Turning_moved⟩)
    (cc_Turning_moved : PySem.W.codeIn K cd_Turning_moved "Turning.moved" = true)
    (k_Turning_moved : PySem.W.keepIn K (.ref a_Turning_moved) = true)
    (l_Turning_undone : K.lookup a_Turning_undone = some ⟨oc_Turning_undone, od_Turning_undone, .func (PySem.W.fnOf "undone" "Turning.undone" (defArgs s_Turning_undone) (defBody s_Turning_undone) (defScope s_Turning_undone) .none kV_Turning_undone dc_Turning_undone pm_Turning_undone an_Turning_undone cd_Turning_undone ct_Turning_undone), sl_Turning_undone⟩)
    (cc_Turning_undone : PySem.W.codeIn K cd_Turning_undone "Turning.undone" = true)
    (k_Turning_undone : PySem.W.keepIn K (.ref a_Turning_undone) = true)
    (l_Turning_row_at : K.lookup a_Turning_row_at = some ⟨oc_Turning_row_at, od_Turning_row_at, .func (PySem.W.fnOf "row_at" "Turning.row_at" (defArgs s_Turning_row_at) (defBody s_Turning_row_at) (defScope s_Turning_row_at) .none kV_Turning_row_at dc_Turning_row_at pm_Turning_row_at an_Turning_row_at cd_Turning_row_at ct_Turning_row_at), sl_Turning_row_at⟩)
    (cc_Turning_row_at : PySem.W.codeIn K cd_Turning_row_at "Turning.row_at" = true)
    (k_Turning_row_at : PySem.W.keepIn K (.ref a_Turning_row_at) = true)
    (l_Turning_change : K.lookup a_Turning_change = some ⟨oc_Turning_change, od_Turning_change, .func (PySem.W.fnOf "change" "Turning.change" (defArgs s_Turning_change) (defBody s_Turning_change) (defScope s_Turning_change) .none kV_Turning_change dc_Turning_change pm_Turning_change an_Turning_change cd_Turning_change ct_Turning_change), sl_Turning_change⟩)
    (cc_Turning_change : PySem.W.codeIn K cd_Turning_change "Turning.change" = true)
    (k_Turning_change : PySem.W.keepIn K (.ref a_Turning_change) = true)
    (l_Listing_leap : K.lookup a_Listing_leap = some ⟨oc_Listing_leap, od_Listing_leap, .func (PySem.W.fnOf "leap" "Listing.leap" (defArgs s_Listing_leap) (defBody s_Listing_leap) (defScope s_Listing_leap) (.ref t_Listing_leap) kV_Listing_leap dc_Listing_leap pm_Listing_leap an_Listing_leap cd_Listing_leap ct_Listing_leap), sl_Listing_leap⟩)
    (cc_Listing_leap : PySem.W.codeIn K cd_Listing_leap "Listing.leap" = true)
    (k_Listing_leap : PySem.W.keepIn K (.ref a_Listing_leap) = true)
    (lt_Listing_leap : K.lookup t_Listing_leap = some ⟨.type "tuple", td_Listing_leap, .seq #[.int 1 tk_Listing_leap] tn_Listing_leap, ts_Listing_leap⟩)
    (l_Listing_next_row : K.lookup a_Listing_next_row = some ⟨oc_Listing_next_row, od_Listing_next_row, .func (PySem.W.fnOf "next_row" "Listing.next_row" (defArgs s_Listing_next_row) (defBody s_Listing_next_row) (defScope s_Listing_next_row) .none kV_Listing_next_row dc_Listing_next_row pm_Listing_next_row an_Listing_next_row cd_Listing_next_row ct_Listing_next_row), sl_Listing_next_row⟩)
    (cc_Listing_next_row : PySem.W.codeIn K cd_Listing_next_row "Listing.next_row" = true)
    (k_Listing_next_row : PySem.W.keepIn K (.ref a_Listing_next_row) = true)
    (l_Listing_row_before : K.lookup a_Listing_row_before = some ⟨oc_Listing_row_before, od_Listing_row_before, .func (PySem.W.fnOf "row_before" "Listing.row_before" (defArgs s_Listing_row_before) (defBody s_Listing_row_before) (defScope s_Listing_row_before) .none kV_Listing_row_before dc_Listing_row_before pm_Listing_row_before an_Listing_row_before cd_Listing_row_before ct_Listing_row_before), sl_Listing_row_before⟩)
    (cc_Listing_row_before : PySem.W.codeIn K cd_Listing_row_before "Listing.row_before" = true)
    (k_Listing_row_before : PySem.W.keepIn K (.ref a_Listing_row_before) = true)
    (l_Listing_steps_to : K.lookup a_Listing_steps_to = some ⟨oc_Listing_steps_to, od_Listing_steps_to, .func (PySem.W.fnOf "steps_to" "Listing.steps_to" (defArgs s_Listing_steps_to) (defBody s_Listing_steps_to) (defScope s_Listing_steps_to) .none kV_Listing_steps_to dc_Listing_steps_to pm_Listing_steps_to an_Listing_steps_to cd_Listing_steps_to ct_Listing_steps_to), sl_Listing_steps_to⟩)
    (cc_Listing_steps_to : PySem.W.codeIn K cd_Listing_steps_to "Listing.steps_to" = true)
    (k_Listing_steps_to : PySem.W.keepIn K (.ref a_Listing_steps_to) = true)
    (l_Turning_done : K.lookup a_Turning_done = some ⟨oc_Turning_done, od_Turning_done, .func (PySem.W.fnOf "done" "Turning.done" (defArgs s_Turning_done) (defBody s_Turning_done) (defScope s_Turning_done) .none kV_Turning_done dc_Turning_done pm_Turning_done an_Turning_done cd_Turning_done ct_Turning_done), sl_Turning_done⟩)
    (cc_Turning_done : PySem.W.codeIn K cd_Turning_done "Turning.done" = true)
    (k_Turning_done : PySem.W.keepIn K (.ref a_Turning_done) = true)
    (l_law_ask : K.lookup a_law_ask = some ⟨oc_law_ask, od_law_ask, .func (PySem.W.fnOf "_law_ask" "_law_ask" (defArgs s_law_ask) (defBody s_law_ask) (defScope s_law_ask) .none kV_law_ask dc_law_ask pm_law_ask an_law_ask cd_law_ask ct_law_ask), sl_law_ask⟩)
    (cc_law_ask : PySem.W.codeIn K cd_law_ask "_law_ask" = true)
    (k_law_ask : PySem.W.keepIn K (.ref a_law_ask) = true)
    (l_law_refused : K.lookup a_law_refused = some ⟨oc_law_refused, od_law_refused, .func (PySem.W.fnOf "_law_refused" "_law_refused" (defArgs s_law_refused) (defBody s_law_refused) (defScope s_law_refused) .none kV_law_refused dc_law_refused pm_law_refused an_law_refused cd_law_refused ct_law_refused), sl_law_refused⟩)
    (cc_law_refused : PySem.W.codeIn K cd_law_refused "_law_refused" = true)
    (k_law_refused : PySem.W.keepIn K (.ref a_law_refused) = true)
    (l_law_rows : K.lookup a_law_rows = some ⟨oc_law_rows, od_law_rows, .func (PySem.W.fnOf "_law_rows" "_law_rows" (defArgs s_law_rows) (defBody s_law_rows) (defScope s_law_rows) .none kV_law_rows dc_law_rows pm_law_rows an_law_rows cd_law_rows ct_law_rows), sl_law_rows⟩)
    (cc_law_rows : PySem.W.codeIn K cd_law_rows "_law_rows" = true)
    (k_law_rows : PySem.W.keepIn K (.ref a_law_rows) = true)
    (l_law_changes : K.lookup a_law_changes = some ⟨oc_law_changes, od_law_changes, .func (PySem.W.fnOf "_law_changes" "_law_changes" (defArgs s_law_changes) (defBody s_law_changes) (defScope s_law_changes) .none kV_law_changes dc_law_changes pm_law_changes an_law_changes cd_law_changes ct_law_changes), sl_law_changes⟩)
    (cc_law_changes : PySem.W.codeIn K cd_law_changes "_law_changes" = true)
    (k_law_changes : PySem.W.keepIn K (.ref a_law_changes) = true)
    (l_law_places : K.lookup a_law_places = some ⟨oc_law_places, od_law_places, .func (PySem.W.fnOf "_law_places" "_law_places" (defArgs s_law_places) (defBody s_law_places) (defScope s_law_places) .none kV_law_places dc_law_places pm_law_places an_law_places cd_law_places ct_law_places), sl_law_places⟩)
    (cc_law_places : PySem.W.codeIn K cd_law_places "_law_places" = true)
    (k_law_places : PySem.W.keepIn K (.ref a_law_places) = true)
    (l_Listing_many : K.lookup a_Listing_many = some ⟨oc_Listing_many, od_Listing_many, .func (PySem.W.fnOf "many" "Listing.many" (defArgs s_Listing_many) (defBody s_Listing_many) (defScope s_Listing_many) .none kV_Listing_many dc_Listing_many pm_Listing_many an_Listing_many cd_Listing_many ct_Listing_many), sl_Listing_many⟩)
    (cc_Listing_many : PySem.W.codeIn K cd_Listing_many "Listing.many" = true)
    (k_Listing_many : PySem.W.keepIn K (.ref a_Listing_many) = true)
    (l_law_swaps : K.lookup a_law_swaps = some ⟨oc_law_swaps, od_law_swaps, .func (PySem.W.fnOf "_law_swaps" "_law_swaps" (defArgs s_law_swaps) (defBody s_law_swaps) (defScope s_law_swaps) .none kV_law_swaps dc_law_swaps pm_law_swaps an_law_swaps cd_law_swaps ct_law_swaps), sl_law_swaps⟩)
    (cc_law_swaps : PySem.W.codeIn K cd_law_swaps "_law_swaps" = true)
    (k_law_swaps : PySem.W.keepIn K (.ref a_law_swaps) = true)
    (l_law_turning : K.lookup a_law_turning = some ⟨oc_law_turning, od_law_turning, .func (PySem.W.fnOf "_law_turning" "_law_turning" (defArgs s_law_turning) (defBody s_law_turning) (defScope s_law_turning) .none kV_law_turning dc_law_turning pm_law_turning an_law_turning cd_law_turning ct_law_turning), sl_law_turning⟩)
    (cc_law_turning : PySem.W.codeIn K cd_law_turning "_law_turning" = true)
    (k_law_turning : PySem.W.keepIn K (.ref a_law_turning) = true)
    (l_Choosing_is_row : K.lookup a_Choosing_is_row = some ⟨oc_Choosing_is_row, od_Choosing_is_row, .func (PySem.W.fnOf "is_row" "Choosing.is_row" (defArgs s_Choosing_is_row) (defBody s_Choosing_is_row) (defScope s_Choosing_is_row) .none kV_Choosing_is_row dc_Choosing_is_row pm_Choosing_is_row an_Choosing_is_row cd_Choosing_is_row ct_Choosing_is_row), sl_Choosing_is_row⟩)
    (cc_Choosing_is_row : PySem.W.codeIn K cd_Choosing_is_row "Choosing.is_row" = true)
    (k_Choosing_is_row : PySem.W.keepIn K (.ref a_Choosing_is_row) = true)
    (l_Choosing_place_of : K.lookup a_Choosing_place_of = some ⟨oc_Choosing_place_of, od_Choosing_place_of, .func (PySem.W.fnOf "place_of" "Choosing.place_of" (defArgs s_Choosing_place_of) (defBody s_Choosing_place_of) (defScope s_Choosing_place_of) .none kV_Choosing_place_of dc_Choosing_place_of pm_Choosing_place_of an_Choosing_place_of cd_Choosing_place_of ct_Choosing_place_of), sl_Choosing_place_of⟩)
    (cc_Choosing_place_of : PySem.W.codeIn K cd_Choosing_place_of "Choosing.place_of" = true)
    (k_Choosing_place_of : PySem.W.keepIn K (.ref a_Choosing_place_of) = true)
    (l_law_bad_ones : K.lookup a_law_bad_ones = some ⟨oc_law_bad_ones, od_law_bad_ones, .func (PySem.W.fnOf "_law_bad_ones" "_law_bad_ones" (defArgs s_law_bad_ones) (defBody s_law_bad_ones) (defScope s_law_bad_ones) .none kV_law_bad_ones dc_law_bad_ones pm_law_bad_ones an_law_bad_ones cd_law_bad_ones ct_law_bad_ones), sl_law_bad_ones⟩)
    (cc_law_bad_ones : PySem.W.codeIn K cd_law_bad_ones "_law_bad_ones" = true)
    (k_law_bad_ones : PySem.W.keepIn K (.ref a_law_bad_ones) = true)
    (l_has : K.lookup a_has = some ⟨oc_has, od_has, .func (PySem.W.fnOf "has" "has" (defArgs s_has) (defBody s_has) (defScope s_has) .none kV_has dc_has pm_has an_has cd_has ct_has), sl_has⟩)
    (cc_has : PySem.W.codeIn K cd_has "has" = true)
    (k_has : PySem.W.keepIn K (.ref a_has) = true)
    (l_Choosing_moved : K.lookup a_Choosing_moved = some ⟨oc_Choosing_moved, od_Choosing_moved, .func (PySem.W.fnOf "moved" "Choosing.moved" (defArgs s_Choosing_moved) (defBody s_Choosing_moved) (defScope s_Choosing_moved) .none kV_Choosing_moved dc_Choosing_moved pm_Choosing_moved an_Choosing_moved cd_Choosing_moved ct_Choosing_moved), sl_Choosing_moved⟩)
    (cc_Choosing_moved : PySem.W.codeIn K cd_Choosing_moved "Choosing.moved" = true)
    (k_Choosing_moved : PySem.W.keepIn K (.ref a_Choosing_moved) = true)
    (l_Choosing_undone : K.lookup a_Choosing_undone = some ⟨oc_Choosing_undone, od_Choosing_undone, .func (PySem.W.fnOf "undone" "Choosing.undone" (defArgs s_Choosing_undone) (defBody s_Choosing_undone) (defScope s_Choosing_undone) .none kV_Choosing_undone dc_Choosing_undone pm_Choosing_undone an_Choosing_undone cd_Choosing_undone ct_Choosing_undone), sl_Choosing_undone⟩)
    (cc_Choosing_undone : PySem.W.codeIn K cd_Choosing_undone "Choosing.undone" = true)
    (k_Choosing_undone : PySem.W.keepIn K (.ref a_Choosing_undone) = true)
    (l_Choosing_row_at : K.lookup a_Choosing_row_at = some ⟨oc_Choosing_row_at, od_Choosing_row_at, .func (PySem.W.fnOf "row_at" "Choosing.row_at" (defArgs s_Choosing_row_at) (defBody s_Choosing_row_at) (defScope s_Choosing_row_at) .none kV_Choosing_row_at dc_Choosing_row_at pm_Choosing_row_at an_Choosing_row_at cd_Choosing_row_at ct_Choosing_row_at), sl_Choosing_row_at⟩)
    (cc_Choosing_row_at : PySem.W.codeIn K cd_Choosing_row_at "Choosing.row_at" = true)
    (k_Choosing_row_at : PySem.W.keepIn K (.ref a_Choosing_row_at) = true)
    (l_Choosing_change : K.lookup a_Choosing_change = some ⟨oc_Choosing_change, od_Choosing_change, .func (PySem.W.fnOf "change" "Choosing.change" (defArgs s_Choosing_change) (defBody s_Choosing_change) (defScope s_Choosing_change) .none kV_Choosing_change dc_Choosing_change pm_Choosing_change an_Choosing_change cd_Choosing_change ct_Choosing_change), sl_Choosing_change⟩)
    (cc_Choosing_change : PySem.W.codeIn K cd_Choosing_change "Choosing.change" = true)
    (k_Choosing_change : PySem.W.keepIn K (.ref a_Choosing_change) = true)
    (l_Choosing_done : K.lookup a_Choosing_done = some ⟨oc_Choosing_done, od_Choosing_done, .func (PySem.W.fnOf "done" "Choosing.done" (defArgs s_Choosing_done) (defBody s_Choosing_done) (defScope s_Choosing_done) .none kV_Choosing_done dc_Choosing_done pm_Choosing_done an_Choosing_done cd_Choosing_done ct_Choosing_done), sl_Choosing_done⟩)
    (cc_Choosing_done : PySem.W.codeIn K cd_Choosing_done "Choosing.done" = true)
    (k_Choosing_done : PySem.W.keepIn K (.ref a_Choosing_done) = true)
    (l_law_fit : K.lookup a_law_fit = some ⟨oc_law_fit, od_law_fit, .func (PySem.W.fnOf "_law_fit" "_law_fit" (defArgs s_law_fit) (defBody s_law_fit) (defScope s_law_fit) .none kV_law_fit dc_law_fit pm_law_fit an_law_fit cd_law_fit ct_law_fit), sl_law_fit⟩)
    (cc_law_fit : PySem.W.codeIn K cd_law_fit "_law_fit" = true)
    (k_law_fit : PySem.W.keepIn K (.ref a_law_fit) = true)
    (l_law_choosing : K.lookup a_law_choosing = some ⟨oc_law_choosing, od_law_choosing, .func (PySem.W.fnOf "_law_choosing" "_law_choosing" (defArgs s_law_choosing) (defBody s_law_choosing) (defScope s_law_choosing) .none kV_law_choosing dc_law_choosing pm_law_choosing an_law_choosing cd_law_choosing ct_law_choosing), sl_law_choosing⟩)
    (cc_law_choosing : PySem.W.codeIn K cd_law_choosing "_law_choosing" = true)
    (k_law_choosing : PySem.W.keepIn K (.ref a_law_choosing) = true)
    (l_law : K.lookup a_law = some ⟨oc_law, od_law, .func (PySem.W.fnOf "law" "law" (defArgs s_law) (defBody s_law) (defScope s_law) .none kV_law dc_law pm_law an_law cd_law ct_law), sl_law⟩)
    (cc_law : PySem.W.codeIn K cd_law "law" = true)
    (k_law : PySem.W.keepIn K (.ref a_law) = true)
    (x_NoForm : PySem.W.excIn K c_NoForm [.type "ValueError", .type "Exception", .type "BaseException", .type "object"] "ValueError.__new__" = true)
    (k_NoForm : PySem.W.keepIn K (.ref c_NoForm) = true)
    (bE_NoForm : PySem.W.subIn K (.ref c_NoForm) (.type "BaseException") = some true)
    (tE_NoForm : PySem.W.typeIn K (.ref c_NoForm) = some (.type "type"))
    (x_NoPlace : PySem.W.excIn K c_NoPlace [.type "ValueError", .type "Exception", .type "BaseException", .type "object"] "ValueError.__new__" = true)
    (k_NoPlace : PySem.W.keepIn K (.ref c_NoPlace) = true)
    (bE_NoPlace : PySem.W.subIn K (.ref c_NoPlace) (.type "BaseException") = some true)
    (tE_NoPlace : PySem.W.typeIn K (.ref c_NoPlace) = some (.type "type"))
    (x_NoRow : PySem.W.excIn K c_NoRow [.type "ValueError", .type "Exception", .type "BaseException", .type "object"] "ValueError.__new__" = true)
    (k_NoRow : PySem.W.keepIn K (.ref c_NoRow) = true)
    (bE_NoRow : PySem.W.subIn K (.ref c_NoRow) (.type "BaseException") = some true)
    (tE_NoRow : PySem.W.typeIn K (.ref c_NoRow) = some (.type "type"))
    (x_NoChange : PySem.W.excIn K c_NoChange [.type "ValueError", .type "Exception", .type "BaseException", .type "object"] "ValueError.__new__" = true)
    (k_NoChange : PySem.W.keepIn K (.ref c_NoChange) = true)
    (bE_NoChange : PySem.W.subIn K (.ref c_NoChange) (.type "BaseException") = some true)
    (tE_NoChange : PySem.W.typeIn K (.ref c_NoChange) = some (.type "type"))
    (ga_Listing : PySem.W.specialIn K (.ref c_Listing) "__getattribute__" = some (some (.builtin "type.__getattribute__")))
    (pg_Turning : PySem.W.plainGet K c_Turning Str.empty = true)
    (hd_Turning : PySem.W.hasDictIn K c_Turning = true)
    (po_Turning : PySem.W.plainOver K c_Turning = true)
    (sa_Turning : PySem.W.findIn K (.ref c_Turning) "__setattr__" = some (some (.builtin "object.__setattr__")))
    (mm_Turning : PySem.W.makesIn K c_Turning = true)
    (kp_Turning : PySem.W.keepIn K (.ref c_Turning) = true)
    (if_Turning___init__ : PySem.W.isFn K (.ref a_Turning___init__) = true)
    (no_Turning_length : PySem.W.findIn K (.ref c_Turning) "length" = some none)
    (no_Turning_size : PySem.W.findIn K (.ref c_Turning) "size" = some none)
    (no_Turning_signs : PySem.W.findIn K (.ref c_Turning) "signs" = some none)
    (if_Turning_change : PySem.W.isFn K (.ref a_Turning_change) = true)
    (if_Turning_done : PySem.W.isFn K (.ref a_Turning_done) = true)
    (if_Turning_is_row : PySem.W.isFn K (.ref a_Turning_is_row) = true)
    (if_Listing_leap : PySem.W.isFn K (.ref a_Listing_leap) = true)
    (if_Listing_many : PySem.W.isFn K (.ref a_Listing_many) = true)
    (if_Turning_moved : PySem.W.isFn K (.ref a_Turning_moved) = true)
    (if_Listing_next_row : PySem.W.isFn K (.ref a_Listing_next_row) = true)
    (if_Turning_place_of : PySem.W.isFn K (.ref a_Turning_place_of) = true)
    (if_Turning_row_at : PySem.W.isFn K (.ref a_Turning_row_at) = true)
    (if_Listing_row_before : PySem.W.isFn K (.ref a_Listing_row_before) = true)
    (if_Listing_steps_to : PySem.W.isFn K (.ref a_Listing_steps_to) = true)
    (if_Turning_undone : PySem.W.isFn K (.ref a_Turning_undone) = true)
    (pg_Choosing : PySem.W.plainGet K c_Choosing Str.empty = true)
    (hd_Choosing : PySem.W.hasDictIn K c_Choosing = true)
    (po_Choosing : PySem.W.plainOver K c_Choosing = true)
    (sa_Choosing : PySem.W.findIn K (.ref c_Choosing) "__setattr__" = some (some (.builtin "object.__setattr__")))
    (mm_Choosing : PySem.W.makesIn K c_Choosing = true)
    (kp_Choosing : PySem.W.keepIn K (.ref c_Choosing) = true)
    (if_Choosing___init__ : PySem.W.isFn K (.ref a_Choosing___init__) = true)
    (no_Choosing_length : PySem.W.findIn K (.ref c_Choosing) "length" = some none)
    (no_Choosing_size : PySem.W.findIn K (.ref c_Choosing) "size" = some none)
    (no_Choosing_ones : PySem.W.findIn K (.ref c_Choosing) "ones" = some none)
    (if_Choosing_change : PySem.W.isFn K (.ref a_Choosing_change) = true)
    (if_Choosing_done : PySem.W.isFn K (.ref a_Choosing_done) = true)
    (if_Choosing_is_row : PySem.W.isFn K (.ref a_Choosing_is_row) = true)
    (if_Choosing_moved : PySem.W.isFn K (.ref a_Choosing_moved) = true)
    (if_Choosing_place_of : PySem.W.isFn K (.ref a_Choosing_place_of) = true)
    (if_Choosing_row_at : PySem.W.isFn K (.ref a_Choosing_row_at) = true)
    (if_Choosing_undone : PySem.W.isFn K (.ref a_Choosing_undone) = true)
    (ca_Turning : PySem.W.findIn K (.ref c_Turning) "__class__" = some (some (.builtin "object.__class__")))
    (mo_Turning : PySem.W.mroIn K c_Turning (.type "object") = some true)
    (sb_Turning : PySem.W.subIn K (.ref c_Turning) (.ref c_Listing) = some true)
    (ca_Choosing : PySem.W.findIn K (.ref c_Choosing) "__class__" = some (some (.builtin "object.__class__")))
    (mo_Choosing : PySem.W.mroIn K c_Choosing (.type "object") = some true)
    (sb_Choosing : PySem.W.subIn K (.ref c_Choosing) (.ref c_Listing) = some true)
    (hd_Listing : PySem.W.hasDictIn K c_Listing = true)
    (ty_Listing : PySem.W.typeIn K (.ref c_Listing) = some (.type "type"))
    (gd_class : PySem.W.specialIn K (.builtin "object.__class__") "__get__" = some (some (.builtin "getset_descriptor.__get__")))
    (tk_class : PySem.W.takesIn K (.builtin "object.__class__") = some true)
    (bE_RowError : PySem.W.subIn K (.ref c_RowError) (.type "BaseException") = some true)
    (tE_RowError : PySem.W.typeIn K (.ref c_RowError) = some (.type "type"))
    (hd_NoForm : PySem.W.hasDictIn K c_NoForm = true)
    (hd_NoPlace : PySem.W.hasDictIn K c_NoPlace = true)
    (hd_NoRow : PySem.W.hasDictIn K c_NoRow = true)
    (hd_NoChange : PySem.W.hasDictIn K c_NoChange = true)
    (hd_RowError : PySem.W.hasDictIn K c_RowError = true)
    (sR_NoForm : PySem.W.subIn K (.ref c_NoForm) (.ref c_RowError) = some true)
    (sV_NoForm : PySem.W.subIn K (.ref c_NoForm) (.type "ValueError") = some true)
    (gg_NoForm : PySem.W.findIn K (.ref c_NoForm) "__getattribute__" = some (some (.builtin "BaseException.__getattribute__")))
    (gt_NoForm : PySem.W.findIn K (.ref c_NoForm) "__getattr__" = some none)
    (ca_NoForm : PySem.W.findIn K (.ref c_NoForm) "__class__" = some (some (.builtin "object.__class__")))
    (mo_NoForm : PySem.W.mroIn K c_NoForm (.type "object") = some true)
    (s_NoForm_NoForm : PySem.W.subIn K (.ref c_NoForm) (.ref c_NoForm) = some true)
    (s_NoForm_NoPlace : PySem.W.subIn K (.ref c_NoForm) (.ref c_NoPlace) = some false)
    (s_NoForm_NoRow : PySem.W.subIn K (.ref c_NoForm) (.ref c_NoRow) = some false)
    (s_NoForm_NoChange : PySem.W.subIn K (.ref c_NoForm) (.ref c_NoChange) = some false)
    (sR_NoPlace : PySem.W.subIn K (.ref c_NoPlace) (.ref c_RowError) = some true)
    (sV_NoPlace : PySem.W.subIn K (.ref c_NoPlace) (.type "ValueError") = some true)
    (gg_NoPlace : PySem.W.findIn K (.ref c_NoPlace) "__getattribute__" = some (some (.builtin "BaseException.__getattribute__")))
    (gt_NoPlace : PySem.W.findIn K (.ref c_NoPlace) "__getattr__" = some none)
    (ca_NoPlace : PySem.W.findIn K (.ref c_NoPlace) "__class__" = some (some (.builtin "object.__class__")))
    (mo_NoPlace : PySem.W.mroIn K c_NoPlace (.type "object") = some true)
    (s_NoPlace_NoForm : PySem.W.subIn K (.ref c_NoPlace) (.ref c_NoForm) = some false)
    (s_NoPlace_NoPlace : PySem.W.subIn K (.ref c_NoPlace) (.ref c_NoPlace) = some true)
    (s_NoPlace_NoRow : PySem.W.subIn K (.ref c_NoPlace) (.ref c_NoRow) = some false)
    (s_NoPlace_NoChange : PySem.W.subIn K (.ref c_NoPlace) (.ref c_NoChange) = some false)
    (sR_NoRow : PySem.W.subIn K (.ref c_NoRow) (.ref c_RowError) = some true)
    (sV_NoRow : PySem.W.subIn K (.ref c_NoRow) (.type "ValueError") = some true)
    (gg_NoRow : PySem.W.findIn K (.ref c_NoRow) "__getattribute__" = some (some (.builtin "BaseException.__getattribute__")))
    (gt_NoRow : PySem.W.findIn K (.ref c_NoRow) "__getattr__" = some none)
    (ca_NoRow : PySem.W.findIn K (.ref c_NoRow) "__class__" = some (some (.builtin "object.__class__")))
    (mo_NoRow : PySem.W.mroIn K c_NoRow (.type "object") = some true)
    (s_NoRow_NoForm : PySem.W.subIn K (.ref c_NoRow) (.ref c_NoForm) = some false)
    (s_NoRow_NoPlace : PySem.W.subIn K (.ref c_NoRow) (.ref c_NoPlace) = some false)
    (s_NoRow_NoRow : PySem.W.subIn K (.ref c_NoRow) (.ref c_NoRow) = some true)
    (s_NoRow_NoChange : PySem.W.subIn K (.ref c_NoRow) (.ref c_NoChange) = some false)
    (sR_NoChange : PySem.W.subIn K (.ref c_NoChange) (.ref c_RowError) = some true)
    (sV_NoChange : PySem.W.subIn K (.ref c_NoChange) (.type "ValueError") = some true)
    (gg_NoChange : PySem.W.findIn K (.ref c_NoChange) "__getattribute__" = some (some (.builtin "BaseException.__getattribute__")))
    (gt_NoChange : PySem.W.findIn K (.ref c_NoChange) "__getattr__" = some none)
    (ca_NoChange : PySem.W.findIn K (.ref c_NoChange) "__class__" = some (some (.builtin "object.__class__")))
    (mo_NoChange : PySem.W.mroIn K c_NoChange (.type "object") = some true)
    (s_NoChange_NoForm : PySem.W.subIn K (.ref c_NoChange) (.ref c_NoForm) = some false)
    (s_NoChange_NoPlace : PySem.W.subIn K (.ref c_NoChange) (.ref c_NoPlace) = some false)
    (s_NoChange_NoRow : PySem.W.subIn K (.ref c_NoChange) (.ref c_NoRow) = some false)
    (s_NoChange_NoChange : PySem.W.subIn K (.ref c_NoChange) (.ref c_NoChange) = some true)
    : ∃ fd : FuncData, (∀ (s : Shared) (v : Value), BindsTo s fd ⟨[v], []⟩ [("_law_script", v)]) ∧ ∀ base : Heap, K.In base → base.Ns mainGlobals mg → FnOk l.prog w K mg base CX0 9 fa fd P_law (spLawK K) := by
  have e := hfa.symm.trans (PySem.W.mg_of X G n_law)
  cases e
  refine ⟨PySem.W.fnOf "law" "law" (defArgs s_law) (defBody s_law) (defScope s_law) .none kV_law dc_law pm_law an_law cd_law ct_law, fun s v => .of_eq rfl, fun base _ _ => ?_⟩
  have FD_Listing_leap : FunD K "leap" "Listing.leap" (defArgs s_Listing_leap) (defBody s_Listing_leap) (defScope s_Listing_leap) [.int 1] [] a_Listing_leap (PySem.W.fnOf "leap" "Listing.leap" (defArgs s_Listing_leap) (defBody s_Listing_leap) (defScope s_Listing_leap) (.ref t_Listing_leap) kV_Listing_leap dc_Listing_leap pm_Listing_leap an_Listing_leap cd_Listing_leap ct_Listing_leap) :=
    ⟨⟨_, _, _, _, _, _, _, _, _, _, rfl, l_Listing_leap, cc_Listing_leap, .inr ⟨by simp, t_Listing_leap, _, [.int 1 tk_Listing_leap], _, rfl, lt_Listing_leap, rfl, .cons ⟨_, rfl⟩ .nil⟩, .inl rfl⟩, k_Listing_leap⟩
  obtain ⟨e_Listing_leap, ve_Listing_leap, be_Listing_leap⟩ := FD_Listing_leap.binds1 (ps := P_Listing_leap) 2 0 (by simp) rfl fun _ _ _ _ _ _ _ us its hu hi => match us, its, hu, hi with | [_, _], [_], _, _ => ⟨_, rfl, rfl⟩
  obtain ⟨en_Listing_leap, vn_Listing_leap, bn_Listing_leap⟩ := FD_Listing_leap.binds1 (ps := P_Listing_leap) 3 1 (by simp) rfl fun _ _ _ _ _ _ _ us its hu hi => match us, its, hu, hi with | [_, _, _], [_], _, _ => ⟨_, rfl, rfl⟩
  cases vn_Listing_leap
  exact ok_law (T := {
    a_Listing___init__ := a_Listing___init__
    d_Listing___init__ := PySem.W.fnOf "__init__" "Listing.__init__" (defArgs s_Listing___init__) (defBody s_Listing___init__) (defScope s_Listing___init__) .none kV_Listing___init__ dc_Listing___init__ pm_Listing___init__ an_Listing___init__ cd_Listing___init__ ct_Listing___init__
    a_power := a_power
    d_power := PySem.W.fnOf "power" "power" (defArgs s_power) (defBody s_power) (defScope s_power) .none kV_power dc_power pm_power an_power cd_power ct_power
    a_Turning___init__ := a_Turning___init__
    d_Turning___init__ := PySem.W.fnOf "__init__" "Turning.__init__" (defArgs s_Turning___init__) (defBody s_Turning___init__) (defScope s_Turning___init__) .none kV_Turning___init__ dc_Turning___init__ pm_Turning___init__ an_Turning___init__ cd_Turning___init__ ct_Turning___init__
    a_choose := a_choose
    d_choose := PySem.W.fnOf "choose" "choose" (defArgs s_choose) (defBody s_choose) (defScope s_choose) .none kV_choose dc_choose pm_choose an_choose cd_choose ct_choose
    a_Choosing___init__ := a_Choosing___init__
    d_Choosing___init__ := PySem.W.fnOf "__init__" "Choosing.__init__" (defArgs s_Choosing___init__) (defBody s_Choosing___init__) (defScope s_Choosing___init__) .none kV_Choosing___init__ dc_Choosing___init__ pm_Choosing___init__ an_Choosing___init__ cd_Choosing___init__ ct_Choosing___init__
    a_law_length := a_law_length
    d_law_length := PySem.W.fnOf "_law_length" "_law_length" (defArgs s_law_length) (defBody s_law_length) (defScope s_law_length) .none kV_law_length dc_law_length pm_law_length an_law_length cd_law_length ct_law_length
    a_law_signs := a_law_signs
    d_law_signs := PySem.W.fnOf "_law_signs" "_law_signs" (defArgs s_law_signs) (defBody s_law_signs) (defScope s_law_signs) .none kV_law_signs dc_law_signs pm_law_signs an_law_signs cd_law_signs ct_law_signs
    a_law_cell_at := a_law_cell_at
    d_law_cell_at := PySem.W.fnOf "_law_cell_at" "_law_cell_at" (defArgs s_law_cell_at) (defBody s_law_cell_at) (defScope s_law_cell_at) .none kV_law_cell_at dc_law_cell_at pm_law_cell_at an_law_cell_at cd_law_cell_at ct_law_cell_at
    a_law_which := a_law_which
    d_law_which := PySem.W.fnOf "_law_which" "_law_which" (defArgs s_law_which) (defBody s_law_which) (defScope s_law_which) .none kV_law_which dc_law_which pm_law_which an_law_which cd_law_which ct_law_which
    a_law_formed := a_law_formed
    d_law_formed := PySem.W.fnOf "_law_formed" "_law_formed" (defArgs s_law_formed) (defBody s_law_formed) (defScope s_law_formed) .none kV_law_formed dc_law_formed pm_law_formed an_law_formed cd_law_formed ct_law_formed
    a_law_forms := a_law_forms
    d_law_forms := PySem.W.fnOf "_law_forms" "_law_forms" (defArgs s_law_forms) (defBody s_law_forms) (defScope s_law_forms) .none kV_law_forms dc_law_forms pm_law_forms an_law_forms cd_law_forms ct_law_forms
    a_Turning_is_row := a_Turning_is_row
    d_Turning_is_row := PySem.W.fnOf "is_row" "Turning.is_row" (defArgs s_Turning_is_row) (defBody s_Turning_is_row) (defScope s_Turning_is_row) .none kV_Turning_is_row dc_Turning_is_row pm_Turning_is_row an_Turning_is_row cd_Turning_is_row ct_Turning_is_row
    a_Turning_place_of := a_Turning_place_of
    d_Turning_place_of := PySem.W.fnOf "place_of" "Turning.place_of" (defArgs s_Turning_place_of) (defBody s_Turning_place_of) (defScope s_Turning_place_of) .none kV_Turning_place_of dc_Turning_place_of pm_Turning_place_of an_Turning_place_of cd_Turning_place_of ct_Turning_place_of
    a_law_bad_row := a_law_bad_row
    d_law_bad_row := PySem.W.fnOf "_law_bad_row" "_law_bad_row" (defArgs s_law_bad_row) (defBody s_law_bad_row) (defScope s_law_bad_row) .none kV_law_bad_row dc_law_bad_row pm_law_bad_row an_law_bad_row cd_law_bad_row ct_law_bad_row
    a_Turning_moved := a_Turning_moved
    d_Turning_moved := PySem.W.fnOf "moved" "Turning.moved" (defArgs s_Turning_moved) (defBody s_Turning_moved) (defScope s_Turning_moved) .none kV_Turning_moved dc_Turning_moved pm_Turning_moved an_Turning_moved cd_Turning_moved ct_Turning_moved
    a_Turning_undone := a_Turning_undone
    d_Turning_undone := PySem.W.fnOf "undone" "Turning.undone" (defArgs s_Turning_undone) (defBody s_Turning_undone) (defScope s_Turning_undone) .none kV_Turning_undone dc_Turning_undone pm_Turning_undone an_Turning_undone cd_Turning_undone ct_Turning_undone
    a_Turning_row_at := a_Turning_row_at
    d_Turning_row_at := PySem.W.fnOf "row_at" "Turning.row_at" (defArgs s_Turning_row_at) (defBody s_Turning_row_at) (defScope s_Turning_row_at) .none kV_Turning_row_at dc_Turning_row_at pm_Turning_row_at an_Turning_row_at cd_Turning_row_at ct_Turning_row_at
    a_Turning_change := a_Turning_change
    d_Turning_change := PySem.W.fnOf "change" "Turning.change" (defArgs s_Turning_change) (defBody s_Turning_change) (defScope s_Turning_change) .none kV_Turning_change dc_Turning_change pm_Turning_change an_Turning_change cd_Turning_change ct_Turning_change
    a_Listing_leap := a_Listing_leap
    d_Listing_leap := PySem.W.fnOf "leap" "Listing.leap" (defArgs s_Listing_leap) (defBody s_Listing_leap) (defScope s_Listing_leap) (.ref t_Listing_leap) kV_Listing_leap dc_Listing_leap pm_Listing_leap an_Listing_leap cd_Listing_leap ct_Listing_leap
    t_Listing_leap := t_Listing_leap
    e_Listing_leap := e_Listing_leap
    a_Listing_next_row := a_Listing_next_row
    d_Listing_next_row := PySem.W.fnOf "next_row" "Listing.next_row" (defArgs s_Listing_next_row) (defBody s_Listing_next_row) (defScope s_Listing_next_row) .none kV_Listing_next_row dc_Listing_next_row pm_Listing_next_row an_Listing_next_row cd_Listing_next_row ct_Listing_next_row
    a_Listing_row_before := a_Listing_row_before
    d_Listing_row_before := PySem.W.fnOf "row_before" "Listing.row_before" (defArgs s_Listing_row_before) (defBody s_Listing_row_before) (defScope s_Listing_row_before) .none kV_Listing_row_before dc_Listing_row_before pm_Listing_row_before an_Listing_row_before cd_Listing_row_before ct_Listing_row_before
    a_Listing_steps_to := a_Listing_steps_to
    d_Listing_steps_to := PySem.W.fnOf "steps_to" "Listing.steps_to" (defArgs s_Listing_steps_to) (defBody s_Listing_steps_to) (defScope s_Listing_steps_to) .none kV_Listing_steps_to dc_Listing_steps_to pm_Listing_steps_to an_Listing_steps_to cd_Listing_steps_to ct_Listing_steps_to
    a_Turning_done := a_Turning_done
    d_Turning_done := PySem.W.fnOf "done" "Turning.done" (defArgs s_Turning_done) (defBody s_Turning_done) (defScope s_Turning_done) .none kV_Turning_done dc_Turning_done pm_Turning_done an_Turning_done cd_Turning_done ct_Turning_done
    a_law_ask := a_law_ask
    d_law_ask := PySem.W.fnOf "_law_ask" "_law_ask" (defArgs s_law_ask) (defBody s_law_ask) (defScope s_law_ask) .none kV_law_ask dc_law_ask pm_law_ask an_law_ask cd_law_ask ct_law_ask
    a_law_refused := a_law_refused
    d_law_refused := PySem.W.fnOf "_law_refused" "_law_refused" (defArgs s_law_refused) (defBody s_law_refused) (defScope s_law_refused) .none kV_law_refused dc_law_refused pm_law_refused an_law_refused cd_law_refused ct_law_refused
    a_law_rows := a_law_rows
    d_law_rows := PySem.W.fnOf "_law_rows" "_law_rows" (defArgs s_law_rows) (defBody s_law_rows) (defScope s_law_rows) .none kV_law_rows dc_law_rows pm_law_rows an_law_rows cd_law_rows ct_law_rows
    a_law_changes := a_law_changes
    d_law_changes := PySem.W.fnOf "_law_changes" "_law_changes" (defArgs s_law_changes) (defBody s_law_changes) (defScope s_law_changes) .none kV_law_changes dc_law_changes pm_law_changes an_law_changes cd_law_changes ct_law_changes
    a_law_places := a_law_places
    d_law_places := PySem.W.fnOf "_law_places" "_law_places" (defArgs s_law_places) (defBody s_law_places) (defScope s_law_places) .none kV_law_places dc_law_places pm_law_places an_law_places cd_law_places ct_law_places
    a_Listing_many := a_Listing_many
    d_Listing_many := PySem.W.fnOf "many" "Listing.many" (defArgs s_Listing_many) (defBody s_Listing_many) (defScope s_Listing_many) .none kV_Listing_many dc_Listing_many pm_Listing_many an_Listing_many cd_Listing_many ct_Listing_many
    a_law_swaps := a_law_swaps
    d_law_swaps := PySem.W.fnOf "_law_swaps" "_law_swaps" (defArgs s_law_swaps) (defBody s_law_swaps) (defScope s_law_swaps) .none kV_law_swaps dc_law_swaps pm_law_swaps an_law_swaps cd_law_swaps ct_law_swaps
    a_law_turning := a_law_turning
    d_law_turning := PySem.W.fnOf "_law_turning" "_law_turning" (defArgs s_law_turning) (defBody s_law_turning) (defScope s_law_turning) .none kV_law_turning dc_law_turning pm_law_turning an_law_turning cd_law_turning ct_law_turning
    a_Choosing_is_row := a_Choosing_is_row
    d_Choosing_is_row := PySem.W.fnOf "is_row" "Choosing.is_row" (defArgs s_Choosing_is_row) (defBody s_Choosing_is_row) (defScope s_Choosing_is_row) .none kV_Choosing_is_row dc_Choosing_is_row pm_Choosing_is_row an_Choosing_is_row cd_Choosing_is_row ct_Choosing_is_row
    a_Choosing_place_of := a_Choosing_place_of
    d_Choosing_place_of := PySem.W.fnOf "place_of" "Choosing.place_of" (defArgs s_Choosing_place_of) (defBody s_Choosing_place_of) (defScope s_Choosing_place_of) .none kV_Choosing_place_of dc_Choosing_place_of pm_Choosing_place_of an_Choosing_place_of cd_Choosing_place_of ct_Choosing_place_of
    a_law_bad_ones := a_law_bad_ones
    d_law_bad_ones := PySem.W.fnOf "_law_bad_ones" "_law_bad_ones" (defArgs s_law_bad_ones) (defBody s_law_bad_ones) (defScope s_law_bad_ones) .none kV_law_bad_ones dc_law_bad_ones pm_law_bad_ones an_law_bad_ones cd_law_bad_ones ct_law_bad_ones
    a_has := a_has
    d_has := PySem.W.fnOf "has" "has" (defArgs s_has) (defBody s_has) (defScope s_has) .none kV_has dc_has pm_has an_has cd_has ct_has
    a_Choosing_moved := a_Choosing_moved
    d_Choosing_moved := PySem.W.fnOf "moved" "Choosing.moved" (defArgs s_Choosing_moved) (defBody s_Choosing_moved) (defScope s_Choosing_moved) .none kV_Choosing_moved dc_Choosing_moved pm_Choosing_moved an_Choosing_moved cd_Choosing_moved ct_Choosing_moved
    a_Choosing_undone := a_Choosing_undone
    d_Choosing_undone := PySem.W.fnOf "undone" "Choosing.undone" (defArgs s_Choosing_undone) (defBody s_Choosing_undone) (defScope s_Choosing_undone) .none kV_Choosing_undone dc_Choosing_undone pm_Choosing_undone an_Choosing_undone cd_Choosing_undone ct_Choosing_undone
    a_Choosing_row_at := a_Choosing_row_at
    d_Choosing_row_at := PySem.W.fnOf "row_at" "Choosing.row_at" (defArgs s_Choosing_row_at) (defBody s_Choosing_row_at) (defScope s_Choosing_row_at) .none kV_Choosing_row_at dc_Choosing_row_at pm_Choosing_row_at an_Choosing_row_at cd_Choosing_row_at ct_Choosing_row_at
    a_Choosing_change := a_Choosing_change
    d_Choosing_change := PySem.W.fnOf "change" "Choosing.change" (defArgs s_Choosing_change) (defBody s_Choosing_change) (defScope s_Choosing_change) .none kV_Choosing_change dc_Choosing_change pm_Choosing_change an_Choosing_change cd_Choosing_change ct_Choosing_change
    a_Choosing_done := a_Choosing_done
    d_Choosing_done := PySem.W.fnOf "done" "Choosing.done" (defArgs s_Choosing_done) (defBody s_Choosing_done) (defScope s_Choosing_done) .none kV_Choosing_done dc_Choosing_done pm_Choosing_done an_Choosing_done cd_Choosing_done ct_Choosing_done
    a_law_fit := a_law_fit
    d_law_fit := PySem.W.fnOf "_law_fit" "_law_fit" (defArgs s_law_fit) (defBody s_law_fit) (defScope s_law_fit) .none kV_law_fit dc_law_fit pm_law_fit an_law_fit cd_law_fit ct_law_fit
    a_law_choosing := a_law_choosing
    d_law_choosing := PySem.W.fnOf "_law_choosing" "_law_choosing" (defArgs s_law_choosing) (defBody s_law_choosing) (defScope s_law_choosing) .none kV_law_choosing dc_law_choosing pm_law_choosing an_law_choosing cd_law_choosing ct_law_choosing
    a_law := fa
    d_law := PySem.W.fnOf "law" "law" (defArgs s_law) (defBody s_law) (defScope s_law) .none kV_law dc_law pm_law an_law cd_law ct_law
    c_RowError := c_RowError
    c_NoForm := c_NoForm
    c_NoPlace := c_NoPlace
    c_NoRow := c_NoRow
    c_NoChange := c_NoChange
    c_Listing := c_Listing
    c_Choosing := c_Choosing
    c_Turning := c_Turning
    t_MOST_SPOTS_choosing := t_MOST_SPOTS_choosing
    t_MOST_SIGNS := t_MOST_SIGNS
    t_MOST_SPOTS_turning := t_MOST_SPOTS_turning
    g_ValueError := PySem.W.mg_none_of X G h_ValueError
    g_all := PySem.W.mg_none_of X G h_all
    g_divmod := PySem.W.mg_none_of X G h_divmod
    g_enumerate := PySem.W.mg_none_of X G h_enumerate
    g_int := PySem.W.mg_none_of X G h_int
    g_isinstance := PySem.W.mg_none_of X G h_isinstance
    g_len := PySem.W.mg_none_of X G h_len
    g_list := PySem.W.mg_none_of X G h_list
    g_max := PySem.W.mg_none_of X G h_max
    g_min := PySem.W.mg_none_of X G h_min
    g_range := PySem.W.mg_none_of X G h_range
    g_reversed := PySem.W.mg_none_of X G h_reversed
    g_sum := PySem.W.mg_none_of X G h_sum
    m_MOST_SPOTS_choosing := PySem.W.mg_of X G h_MOST_SPOTS_choosing
    m_MOST_SIGNS := PySem.W.mg_of X G h_MOST_SIGNS
    m_MOST_SPOTS_turning := PySem.W.mg_of X G h_MOST_SPOTS_turning
    F_Listing___init__ := fun_mk (st := s_Listing___init__) l_Listing___init__ cc_Listing___init__ k_Listing___init__
    b_Listing___init__ := (fun_mk (st := s_Listing___init__) l_Listing___init__ cc_Listing___init__ k_Listing___init__).binds (ps := P_Listing___init__) fun _ _ _ _ _ _ us hl => match us, hl with | [_, _, _], _ => rfl
    F_power := fun_mk (st := s_power) l_power cc_power k_power
    b_power := (fun_mk (st := s_power) l_power cc_power k_power).binds (ps := P_power) fun _ _ _ _ _ _ us hl => match us, hl with | [_, _], _ => rfl
    m_power := PySem.W.mg_of X G n_power
    F_Turning___init__ := fun_mk (st := s_Turning___init__) l_Turning___init__ cc_Turning___init__ k_Turning___init__
    b_Turning___init__ := (fun_mk (st := s_Turning___init__) l_Turning___init__ cc_Turning___init__ k_Turning___init__).binds (ps := P_Turning___init__) fun _ _ _ _ _ _ us hl => match us, hl with | [_, _, _], _ => rfl
    F_choose := fun_mk (st := s_choose) l_choose cc_choose k_choose
    b_choose := (fun_mk (st := s_choose) l_choose cc_choose k_choose).binds (ps := P_choose) fun _ _ _ _ _ _ us hl => match us, hl with | [_, _], _ => rfl
    m_choose := PySem.W.mg_of X G n_choose
    F_Choosing___init__ := fun_mk (st := s_Choosing___init__) l_Choosing___init__ cc_Choosing___init__ k_Choosing___init__
    b_Choosing___init__ := (fun_mk (st := s_Choosing___init__) l_Choosing___init__ cc_Choosing___init__ k_Choosing___init__).binds (ps := P_Choosing___init__) fun _ _ _ _ _ _ us hl => match us, hl with | [_, _, _], _ => rfl
    F_law_length := fun_mk (st := s_law_length) l_law_length cc_law_length k_law_length
    b_law_length := (fun_mk (st := s_law_length) l_law_length cc_law_length k_law_length).binds (ps := P_law_length) fun _ _ _ _ _ _ us hl => match us, hl with | [_], _ => rfl
    m_law_length := PySem.W.mg_of X G n_law_length
    F_law_signs := fun_mk (st := s_law_signs) l_law_signs cc_law_signs k_law_signs
    b_law_signs := (fun_mk (st := s_law_signs) l_law_signs cc_law_signs k_law_signs).binds (ps := P_law_signs) fun _ _ _ _ _ _ us hl => match us, hl with | [_], _ => rfl
    m_law_signs := PySem.W.mg_of X G n_law_signs
    F_law_cell_at := fun_mk (st := s_law_cell_at) l_law_cell_at cc_law_cell_at k_law_cell_at
    b_law_cell_at := (fun_mk (st := s_law_cell_at) l_law_cell_at cc_law_cell_at k_law_cell_at).binds (ps := P_law_cell_at) fun _ _ _ _ _ _ us hl => match us, hl with | [_, _], _ => rfl
    m_law_cell_at := PySem.W.mg_of X G n_law_cell_at
    F_law_which := fun_mk (st := s_law_which) l_law_which cc_law_which k_law_which
    b_law_which := (fun_mk (st := s_law_which) l_law_which cc_law_which k_law_which).binds (ps := P_law_which) fun _ _ _ _ _ _ us hl => match us, hl with | [_], _ => rfl
    m_law_which := PySem.W.mg_of X G n_law_which
    F_law_formed := fun_mk (st := s_law_formed) l_law_formed cc_law_formed k_law_formed
    b_law_formed := (fun_mk (st := s_law_formed) l_law_formed cc_law_formed k_law_formed).binds (ps := P_law_formed) fun _ _ _ _ _ _ us hl => match us, hl with | [_, _, _], _ => rfl
    m_law_formed := PySem.W.mg_of X G n_law_formed
    F_law_forms := fun_mk (st := s_law_forms) l_law_forms cc_law_forms k_law_forms
    b_law_forms := (fun_mk (st := s_law_forms) l_law_forms cc_law_forms k_law_forms).binds (ps := P_law_forms) fun _ _ _ _ _ _ us hl => match us, hl with | [_, _, _], _ => rfl
    m_law_forms := PySem.W.mg_of X G n_law_forms
    F_Turning_is_row := fun_mk (st := s_Turning_is_row) l_Turning_is_row cc_Turning_is_row k_Turning_is_row
    b_Turning_is_row := (fun_mk (st := s_Turning_is_row) l_Turning_is_row cc_Turning_is_row k_Turning_is_row).binds (ps := P_Turning_is_row) fun _ _ _ _ _ _ us hl => match us, hl with | [_, _], _ => rfl
    F_Turning_place_of := fun_mk (st := s_Turning_place_of) l_Turning_place_of cc_Turning_place_of k_Turning_place_of
    b_Turning_place_of := (fun_mk (st := s_Turning_place_of) l_Turning_place_of cc_Turning_place_of k_Turning_place_of).binds (ps := P_Turning_place_of) fun _ _ _ _ _ _ us hl => match us, hl with | [_, _], _ => rfl
    F_law_bad_row := fun_mk (st := s_law_bad_row) l_law_bad_row cc_law_bad_row k_law_bad_row
    b_law_bad_row := (fun_mk (st := s_law_bad_row) l_law_bad_row cc_law_bad_row k_law_bad_row).binds (ps := P_law_bad_row) fun _ _ _ _ _ _ us hl => match us, hl with | [_, _, _, _], _ => rfl
    m_law_bad_row := PySem.W.mg_of X G n_law_bad_row
    F_Turning_moved := fun_mk (st := s_Turning_moved) l_Turning_moved cc_Turning_moved k_Turning_moved
    b_Turning_moved := (fun_mk (st := s_Turning_moved) l_Turning_moved cc_Turning_moved k_Turning_moved).binds (ps := P_Turning_moved) fun _ _ _ _ _ _ us hl => match us, hl with | [_, _, _, _], _ => rfl
    F_Turning_undone := fun_mk (st := s_Turning_undone) l_Turning_undone cc_Turning_undone k_Turning_undone
    b_Turning_undone := (fun_mk (st := s_Turning_undone) l_Turning_undone cc_Turning_undone k_Turning_undone).binds (ps := P_Turning_undone) fun _ _ _ _ _ _ us hl => match us, hl with | [_, _, _], _ => rfl
    F_Turning_row_at := fun_mk (st := s_Turning_row_at) l_Turning_row_at cc_Turning_row_at k_Turning_row_at
    b_Turning_row_at := (fun_mk (st := s_Turning_row_at) l_Turning_row_at cc_Turning_row_at k_Turning_row_at).binds (ps := P_Turning_row_at) fun _ _ _ _ _ _ us hl => match us, hl with | [_, _], _ => rfl
    F_Turning_change := fun_mk (st := s_Turning_change) l_Turning_change cc_Turning_change k_Turning_change
    b_Turning_change := (fun_mk (st := s_Turning_change) l_Turning_change cc_Turning_change k_Turning_change).binds (ps := P_Turning_change) fun _ _ _ _ _ _ us hl => match us, hl with | [_, _], _ => rfl
    F_Listing_leap := FD_Listing_leap
    b_Listing_leap := bn_Listing_leap
    ve_Listing_leap := ve_Listing_leap
    be_Listing_leap := be_Listing_leap
    F_Listing_next_row := fun_mk (st := s_Listing_next_row) l_Listing_next_row cc_Listing_next_row k_Listing_next_row
    b_Listing_next_row := (fun_mk (st := s_Listing_next_row) l_Listing_next_row cc_Listing_next_row k_Listing_next_row).binds (ps := P_Listing_next_row) fun _ _ _ _ _ _ us hl => match us, hl with | [_, _], _ => rfl
    F_Listing_row_before := fun_mk (st := s_Listing_row_before) l_Listing_row_before cc_Listing_row_before k_Listing_row_before
    b_Listing_row_before := (fun_mk (st := s_Listing_row_before) l_Listing_row_before cc_Listing_row_before k_Listing_row_before).binds (ps := P_Listing_row_before) fun _ _ _ _ _ _ us hl => match us, hl with | [_, _], _ => rfl
    F_Listing_steps_to := fun_mk (st := s_Listing_steps_to) l_Listing_steps_to cc_Listing_steps_to k_Listing_steps_to
    b_Listing_steps_to := (fun_mk (st := s_Listing_steps_to) l_Listing_steps_to cc_Listing_steps_to k_Listing_steps_to).binds (ps := P_Listing_steps_to) fun _ _ _ _ _ _ us hl => match us, hl with | [_, _, _], _ => rfl
    F_Turning_done := fun_mk (st := s_Turning_done) l_Turning_done cc_Turning_done k_Turning_done
    b_Turning_done := (fun_mk (st := s_Turning_done) l_Turning_done cc_Turning_done k_Turning_done).binds (ps := P_Turning_done) fun _ _ _ _ _ _ us hl => match us, hl with | [_, _, _], _ => rfl
    F_law_ask := fun_mk (st := s_law_ask) l_law_ask cc_law_ask k_law_ask
    b_law_ask := (fun_mk (st := s_law_ask) l_law_ask cc_law_ask k_law_ask).binds (ps := P_law_ask) fun _ _ _ _ _ _ us hl => match us, hl with | [_, _, _, _], _ => rfl
    m_law_ask := PySem.W.mg_of X G n_law_ask
    F_law_refused := fun_mk (st := s_law_refused) l_law_refused cc_law_refused k_law_refused
    b_law_refused := (fun_mk (st := s_law_refused) l_law_refused cc_law_refused k_law_refused).binds (ps := P_law_refused) fun _ _ _ _ _ _ us hl => match us, hl with | [_, _, _, _], _ => rfl
    m_law_refused := PySem.W.mg_of X G n_law_refused
    F_law_rows := fun_mk (st := s_law_rows) l_law_rows cc_law_rows k_law_rows
    b_law_rows := (fun_mk (st := s_law_rows) l_law_rows cc_law_rows k_law_rows).binds (ps := P_law_rows) fun _ _ _ _ _ _ us hl => match us, hl with | [_, _, _, _, _], _ => rfl
    m_law_rows := PySem.W.mg_of X G n_law_rows
    F_law_changes := fun_mk (st := s_law_changes) l_law_changes cc_law_changes k_law_changes
    b_law_changes := (fun_mk (st := s_law_changes) l_law_changes cc_law_changes k_law_changes).binds (ps := P_law_changes) fun _ _ _ _ _ _ us hl => match us, hl with | [_, _, _, _], _ => rfl
    m_law_changes := PySem.W.mg_of X G n_law_changes
    F_law_places := fun_mk (st := s_law_places) l_law_places cc_law_places k_law_places
    b_law_places := (fun_mk (st := s_law_places) l_law_places cc_law_places k_law_places).binds (ps := P_law_places) fun _ _ _ _ _ _ us hl => match us, hl with | [_, _, _], _ => rfl
    m_law_places := PySem.W.mg_of X G n_law_places
    F_Listing_many := fun_mk (st := s_Listing_many) l_Listing_many cc_Listing_many k_Listing_many
    b_Listing_many := (fun_mk (st := s_Listing_many) l_Listing_many cc_Listing_many k_Listing_many).binds (ps := P_Listing_many) fun _ _ _ _ _ _ us hl => match us, hl with | [_], _ => rfl
    F_law_swaps := fun_mk (st := s_law_swaps) l_law_swaps cc_law_swaps k_law_swaps
    b_law_swaps := (fun_mk (st := s_law_swaps) l_law_swaps cc_law_swaps k_law_swaps).binds (ps := P_law_swaps) fun _ _ _ _ _ _ us hl => match us, hl with | [_, _, _], _ => rfl
    m_law_swaps := PySem.W.mg_of X G n_law_swaps
    F_law_turning := fun_mk (st := s_law_turning) l_law_turning cc_law_turning k_law_turning
    b_law_turning := (fun_mk (st := s_law_turning) l_law_turning cc_law_turning k_law_turning).binds (ps := P_law_turning) fun _ _ _ _ _ _ us hl => match us, hl with | [_, _, _, _], _ => rfl
    m_law_turning := PySem.W.mg_of X G n_law_turning
    F_Choosing_is_row := fun_mk (st := s_Choosing_is_row) l_Choosing_is_row cc_Choosing_is_row k_Choosing_is_row
    b_Choosing_is_row := (fun_mk (st := s_Choosing_is_row) l_Choosing_is_row cc_Choosing_is_row k_Choosing_is_row).binds (ps := P_Choosing_is_row) fun _ _ _ _ _ _ us hl => match us, hl with | [_, _], _ => rfl
    F_Choosing_place_of := fun_mk (st := s_Choosing_place_of) l_Choosing_place_of cc_Choosing_place_of k_Choosing_place_of
    b_Choosing_place_of := (fun_mk (st := s_Choosing_place_of) l_Choosing_place_of cc_Choosing_place_of k_Choosing_place_of).binds (ps := P_Choosing_place_of) fun _ _ _ _ _ _ us hl => match us, hl with | [_, _], _ => rfl
    F_law_bad_ones := fun_mk (st := s_law_bad_ones) l_law_bad_ones cc_law_bad_ones k_law_bad_ones
    b_law_bad_ones := (fun_mk (st := s_law_bad_ones) l_law_bad_ones cc_law_bad_ones k_law_bad_ones).binds (ps := P_law_bad_ones) fun _ _ _ _ _ _ us hl => match us, hl with | [_, _, _, _], _ => rfl
    m_law_bad_ones := PySem.W.mg_of X G n_law_bad_ones
    F_has := fun_mk (st := s_has) l_has cc_has k_has
    b_has := (fun_mk (st := s_has) l_has cc_has k_has).binds (ps := P_has) fun _ _ _ _ _ _ us hl => match us, hl with | [_, _, _], _ => rfl
    m_has := PySem.W.mg_of X G n_has
    F_Choosing_moved := fun_mk (st := s_Choosing_moved) l_Choosing_moved cc_Choosing_moved k_Choosing_moved
    b_Choosing_moved := (fun_mk (st := s_Choosing_moved) l_Choosing_moved cc_Choosing_moved k_Choosing_moved).binds (ps := P_Choosing_moved) fun _ _ _ _ _ _ us hl => match us, hl with | [_, _, _, _], _ => rfl
    F_Choosing_undone := fun_mk (st := s_Choosing_undone) l_Choosing_undone cc_Choosing_undone k_Choosing_undone
    b_Choosing_undone := (fun_mk (st := s_Choosing_undone) l_Choosing_undone cc_Choosing_undone k_Choosing_undone).binds (ps := P_Choosing_undone) fun _ _ _ _ _ _ us hl => match us, hl with | [_, _, _], _ => rfl
    F_Choosing_row_at := fun_mk (st := s_Choosing_row_at) l_Choosing_row_at cc_Choosing_row_at k_Choosing_row_at
    b_Choosing_row_at := (fun_mk (st := s_Choosing_row_at) l_Choosing_row_at cc_Choosing_row_at k_Choosing_row_at).binds (ps := P_Choosing_row_at) fun _ _ _ _ _ _ us hl => match us, hl with | [_, _], _ => rfl
    F_Choosing_change := fun_mk (st := s_Choosing_change) l_Choosing_change cc_Choosing_change k_Choosing_change
    b_Choosing_change := (fun_mk (st := s_Choosing_change) l_Choosing_change cc_Choosing_change k_Choosing_change).binds (ps := P_Choosing_change) fun _ _ _ _ _ _ us hl => match us, hl with | [_, _], _ => rfl
    F_Choosing_done := fun_mk (st := s_Choosing_done) l_Choosing_done cc_Choosing_done k_Choosing_done
    b_Choosing_done := (fun_mk (st := s_Choosing_done) l_Choosing_done cc_Choosing_done k_Choosing_done).binds (ps := P_Choosing_done) fun _ _ _ _ _ _ us hl => match us, hl with | [_, _, _], _ => rfl
    F_law_fit := fun_mk (st := s_law_fit) l_law_fit cc_law_fit k_law_fit
    b_law_fit := (fun_mk (st := s_law_fit) l_law_fit cc_law_fit k_law_fit).binds (ps := P_law_fit) fun _ _ _ _ _ _ us hl => match us, hl with | [_, _, _], _ => rfl
    m_law_fit := PySem.W.mg_of X G n_law_fit
    F_law_choosing := fun_mk (st := s_law_choosing) l_law_choosing cc_law_choosing k_law_choosing
    b_law_choosing := (fun_mk (st := s_law_choosing) l_law_choosing cc_law_choosing k_law_choosing).binds (ps := P_law_choosing) fun _ _ _ _ _ _ us hl => match us, hl with | [_, _, _], _ => rfl
    m_law_choosing := PySem.W.mg_of X G n_law_choosing
    F_law := fun_mk (st := s_law) l_law cc_law k_law
    b_law := (fun_mk (st := s_law) l_law cc_law k_law).binds (ps := P_law) fun _ _ _ _ _ _ us hl => match us, hl with | [_], _ => rfl
    m_RowError := PySem.W.mg_of X G n_RowError
    m_NoForm := PySem.W.mg_of X G n_NoForm
    x_NoForm := x_NoForm
    k_NoForm := k_NoForm
    bE_NoForm := bE_NoForm
    tE_NoForm := tE_NoForm
    m_NoPlace := PySem.W.mg_of X G n_NoPlace
    x_NoPlace := x_NoPlace
    k_NoPlace := k_NoPlace
    bE_NoPlace := bE_NoPlace
    tE_NoPlace := tE_NoPlace
    m_NoRow := PySem.W.mg_of X G n_NoRow
    x_NoRow := x_NoRow
    k_NoRow := k_NoRow
    bE_NoRow := bE_NoRow
    tE_NoRow := tE_NoRow
    m_NoChange := PySem.W.mg_of X G n_NoChange
    x_NoChange := x_NoChange
    k_NoChange := k_NoChange
    bE_NoChange := bE_NoChange
    tE_NoChange := tE_NoChange
    m_Listing := PySem.W.mg_of X G n_Listing
    cr_Listing := ⟨rd_Listing, ga_Listing⟩
    at_Listing___init__ := at_Listing___init__
    m_Choosing := PySem.W.mg_of X G n_Choosing
    m_Turning := PySem.W.mg_of X G n_Turning
    cl_Turning := ⟨pg_Turning, hd_Turning, po_Turning, sa_Turning⟩
    mk_Turning := ⟨mm_Turning, fi_Turning, if_Turning___init__, kp_Turning⟩
    no_Turning_length := no_Turning_length
    no_Turning_size := no_Turning_size
    no_Turning_signs := no_Turning_signs
    me_Turning_change := ⟨fi_Turning_change, if_Turning_change, k_Turning_change⟩
    me_Turning_done := ⟨fi_Turning_done, if_Turning_done, k_Turning_done⟩
    me_Turning_is_row := ⟨fi_Turning_is_row, if_Turning_is_row, k_Turning_is_row⟩
    me_Turning_leap := ⟨fi_Turning_leap, if_Listing_leap, k_Listing_leap⟩
    me_Turning_many := ⟨fi_Turning_many, if_Listing_many, k_Listing_many⟩
    me_Turning_moved := ⟨fi_Turning_moved, if_Turning_moved, k_Turning_moved⟩
    me_Turning_next_row := ⟨fi_Turning_next_row, if_Listing_next_row, k_Listing_next_row⟩
    me_Turning_place_of := ⟨fi_Turning_place_of, if_Turning_place_of, k_Turning_place_of⟩
    me_Turning_row_at := ⟨fi_Turning_row_at, if_Turning_row_at, k_Turning_row_at⟩
    me_Turning_row_before := ⟨fi_Turning_row_before, if_Listing_row_before, k_Listing_row_before⟩
    me_Turning_steps_to := ⟨fi_Turning_steps_to, if_Listing_steps_to, k_Listing_steps_to⟩
    me_Turning_undone := ⟨fi_Turning_undone, if_Turning_undone, k_Turning_undone⟩
    cl_Choosing := ⟨pg_Choosing, hd_Choosing, po_Choosing, sa_Choosing⟩
    mk_Choosing := ⟨mm_Choosing, fi_Choosing, if_Choosing___init__, kp_Choosing⟩
    no_Choosing_length := no_Choosing_length
    no_Choosing_size := no_Choosing_size
    no_Choosing_ones := no_Choosing_ones
    me_Choosing_change := ⟨fi_Choosing_change, if_Choosing_change, k_Choosing_change⟩
    me_Choosing_done := ⟨fi_Choosing_done, if_Choosing_done, k_Choosing_done⟩
    me_Choosing_is_row := ⟨fi_Choosing_is_row, if_Choosing_is_row, k_Choosing_is_row⟩
    me_Choosing_leap := ⟨fi_Choosing_leap, if_Listing_leap, k_Listing_leap⟩
    me_Choosing_many := ⟨fi_Choosing_many, if_Listing_many, k_Listing_many⟩
    me_Choosing_moved := ⟨fi_Choosing_moved, if_Choosing_moved, k_Choosing_moved⟩
    me_Choosing_next_row := ⟨fi_Choosing_next_row, if_Listing_next_row, k_Listing_next_row⟩
    me_Choosing_place_of := ⟨fi_Choosing_place_of, if_Choosing_place_of, k_Choosing_place_of⟩
    me_Choosing_row_at := ⟨fi_Choosing_row_at, if_Choosing_row_at, k_Choosing_row_at⟩
    me_Choosing_row_before := ⟨fi_Choosing_row_before, if_Listing_row_before, k_Listing_row_before⟩
    me_Choosing_steps_to := ⟨fi_Choosing_steps_to, if_Listing_steps_to, k_Listing_steps_to⟩
    me_Choosing_undone := ⟨fi_Choosing_undone, if_Choosing_undone, k_Choosing_undone⟩
    ca_Turning := ca_Turning
    mo_Turning := mo_Turning
    ki_Turning := kit_own hd_Listing ty_Listing sb_Turning
    ca_Choosing := ca_Choosing
    mo_Choosing := mo_Choosing
    ki_Choosing := kit_own hd_Listing ty_Listing sb_Choosing
    gd_class := gd_class
    tk_class := tk_class
    er_NoForm := ⟨PySem.W.exm_ref bE_RowError hd_RowError tE_RowError sR_NoForm, ⟨gg_NoForm, gt_NoForm, bE_NoForm, hd_NoForm, ca_NoForm, gd_class, tk_class, mo_NoForm⟩, kit_blt (by decide +kernel) sV_NoForm, kit_ownB hd_NoForm tE_NoForm s_NoForm_NoForm s_NoForm_NoForm, kit_ownB hd_NoPlace tE_NoPlace s_NoForm_NoPlace s_NoPlace_NoPlace, kit_ownB hd_NoRow tE_NoRow s_NoForm_NoRow s_NoRow_NoRow, kit_ownB hd_NoChange tE_NoChange s_NoForm_NoChange s_NoChange_NoChange⟩
    er_NoPlace := ⟨PySem.W.exm_ref bE_RowError hd_RowError tE_RowError sR_NoPlace, ⟨gg_NoPlace, gt_NoPlace, bE_NoPlace, hd_NoPlace, ca_NoPlace, gd_class, tk_class, mo_NoPlace⟩, kit_blt (by decide +kernel) sV_NoPlace, kit_ownB hd_NoForm tE_NoForm s_NoPlace_NoForm s_NoForm_NoForm, kit_ownB hd_NoPlace tE_NoPlace s_NoPlace_NoPlace s_NoPlace_NoPlace, kit_ownB hd_NoRow tE_NoRow s_NoPlace_NoRow s_NoRow_NoRow, kit_ownB hd_NoChange tE_NoChange s_NoPlace_NoChange s_NoChange_NoChange⟩
    er_NoRow := ⟨PySem.W.exm_ref bE_RowError hd_RowError tE_RowError sR_NoRow, ⟨gg_NoRow, gt_NoRow, bE_NoRow, hd_NoRow, ca_NoRow, gd_class, tk_class, mo_NoRow⟩, kit_blt (by decide +kernel) sV_NoRow, kit_ownB hd_NoForm tE_NoForm s_NoRow_NoForm s_NoForm_NoForm, kit_ownB hd_NoPlace tE_NoPlace s_NoRow_NoPlace s_NoPlace_NoPlace, kit_ownB hd_NoRow tE_NoRow s_NoRow_NoRow s_NoRow_NoRow, kit_ownB hd_NoChange tE_NoChange s_NoRow_NoChange s_NoChange_NoChange⟩
    er_NoChange := ⟨PySem.W.exm_ref bE_RowError hd_RowError tE_RowError sR_NoChange, ⟨gg_NoChange, gt_NoChange, bE_NoChange, hd_NoChange, ca_NoChange, gd_class, tk_class, mo_NoChange⟩, kit_blt (by decide +kernel) sV_NoChange, kit_ownB hd_NoForm tE_NoForm s_NoChange_NoForm s_NoForm_NoForm, kit_ownB hd_NoPlace tE_NoPlace s_NoChange_NoPlace s_NoPlace_NoPlace, kit_ownB hd_NoRow tE_NoRow s_NoChange_NoRow s_NoRow_NoRow, kit_ownB hd_NoChange tE_NoChange s_NoChange_NoChange s_NoChange_NoChange⟩ })
theorem walk {l : PySem.W.OpenLaw} {q : Program} {loose : List Str} {XP : (Str → Option Value) → Heap → Prop} {YP : World → Heap → Prop} {d : DefRec} {K : Params → PySem.W.Frag} (hn : l.most = some 63) (hdf : d.params.defaults = [])
    (hY : ∀ (w : World) (h : Heap), YP w h → (K w.params).In h)
    (F : ∀ (w : World) (mg : Str → Option Value) (fa : Addr) (h : Heap), (K w.params).In h → h.Ns mainGlobals mg → mg d.name = some (.ref fa) →
      ∃ fd : FuncData, (∀ (s : Shared) (u : Value), BindsTo s fd ⟨[u], []⟩ [("_law_script", u)]) ∧ ∀ base : Heap, (K w.params).In base → base.Ns mainGlobals mg → FnOk l.prog w (K w.params) mg base CX0 9 fa fd P_law (spLawK (K w.params))) :
    PySem.W.WalkO q loose XP YP l.row.toRowW d [] (fun f vs => PySem.call f vs) :=
  L2.walk_ofB (n := 63) (k := 9) (x := "_law_script") (CX := fun _ => CX0) (sp := fun w => spLawK (K w.params)) hn (by decide) hdf ⟨rfl, by decide, by decide⟩ hY F (fun _ _ a ns hl hb _ hS => ⟨a, ns, rfl, hS, hl, hb, fun _ => rfl⟩) fun _ _ _ _ _ z => z
end Mk
open PySem PySem.W PyProof.Rows in
set_option maxRecDepth 100000 in
set_option maxHeartbeats 0 in
theorem PySem.Challenge.cw_marksteps_k07_refusals_holds : PySem.Challenge.rw_marksteps_k07_refusals.Holds := by
  w_on; o_law; k_head; (case hw => w_witness2)
  k_fill
  refine Mk.walk (l := PySem.Challenge.rw_marksteps_k07_refusals) rfl rfl (fun w h Y => PySem.W.kIn_of Y) ?F
  case F =>
    intro w mg fa h KX G hmg
    refine' Mk.all_mk KX G hmg ?h_ValueError ?h_all ?h_divmod ?h_enumerate ?h_int ?h_isinstance ?h_len ?h_list ?h_max ?h_min ?h_range ?h_reversed ?h_sum ?h_MOST_SPOTS_choosing ?h_MOST_SIGNS ?h_MOST_SPOTS_turning ?n_power ?n_choose ?n_law_length ?n_law_signs ?n_law_cell_at ?n_law_which ?n_law_formed ?n_law_forms ?n_law_bad_row ?n_law_ask ?n_law_refused ?n_law_rows ?n_law_changes ?n_law_places ?n_law_swaps ?n_law_turning ?n_law_bad_ones ?n_has ?n_law_fit ?n_law_choosing ?n_law ?n_RowError ?n_NoForm ?n_NoPlace ?n_NoRow ?n_NoChange ?n_Listing ?n_Choosing ?n_Turning ?rd_Listing ?fi_Turning ?fi_Turning_change ?fi_Turning_done ?fi_Turning_is_row ?fi_Turning_leap ?fi_Turning_many ?fi_Turning_moved ?fi_Turning_next_row ?fi_Turning_place_of ?fi_Turning_row_at ?fi_Turning_row_before ?fi_Turning_steps_to ?fi_Turning_undone ?fi_Choosing ?fi_Choosing_change ?fi_Choosing_done ?fi_Choosing_is_row ?fi_Choosing_leap ?fi_Choosing_many ?fi_Choosing_moved ?fi_Choosing_next_row ?fi_Choosing_place_of ?fi_Choosing_row_at ?fi_Choosing_row_before ?fi_Choosing_steps_to ?fi_Choosing_undone ?at_Listing___init__ ?l_Listing___init__ ?cc_Listing___init__ ?k_Listing___init__ ?l_power ?cc_power ?k_power ?l_Turning___init__ ?cc_Turning___init__ ?k_Turning___init__ ?l_choose ?cc_choose ?k_choose ?l_Choosing___init__ ?cc_Choosing___init__ ?k_Choosing___init__ ?l_law_length ?cc_law_length ?k_law_length ?l_law_signs ?cc_law_signs ?k_law_signs ?l_law_cell_at ?cc_law_cell_at ?k_law_cell_at ?l_law_which ?cc_law_which ?k_law_which ?l_law_formed ?cc_law_formed ?k_law_formed ?l_law_forms ?cc_law_forms ?k_law_forms ?l_Turning_is_row ?cc_Turning_is_row ?k_Turning_is_row ?l_Turning_place_of ?cc_Turning_place_of ?k_Turning_place_of ?l_law_bad_row ?cc_law_bad_row ?k_law_bad_row ?l_Turning_moved ?cc_Turning_moved ?k_Turning_moved ?l_Turning_undone ?cc_Turning_undone ?k_Turning_undone ?l_Turning_row_at ?cc_Turning_row_at ?k_Turning_row_at ?l_Turning_change ?cc_Turning_change ?k_Turning_change ?l_Listing_leap ?cc_Listing_leap ?k_Listing_leap ?lt_Listing_leap ?l_Listing_next_row ?cc_Listing_next_row ?k_Listing_next_row ?l_Listing_row_before ?cc_Listing_row_before ?k_Listing_row_before ?l_Listing_steps_to ?cc_Listing_steps_to ?k_Listing_steps_to ?l_Turning_done ?cc_Turning_done ?k_Turning_done ?l_law_ask ?cc_law_ask ?k_law_ask ?l_law_refused ?cc_law_refused ?k_law_refused ?l_law_rows ?cc_law_rows ?k_law_rows ?l_law_changes ?cc_law_changes ?k_law_changes ?l_law_places ?cc_law_places ?k_law_places ?l_Listing_many ?cc_Listing_many ?k_Listing_many ?l_law_swaps ?cc_law_swaps ?k_law_swaps ?l_law_turning ?cc_law_turning ?k_law_turning ?l_Choosing_is_row ?cc_Choosing_is_row ?k_Choosing_is_row ?l_Choosing_place_of ?cc_Choosing_place_of ?k_Choosing_place_of ?l_law_bad_ones ?cc_law_bad_ones ?k_law_bad_ones ?l_has ?cc_has ?k_has ?l_Choosing_moved ?cc_Choosing_moved ?k_Choosing_moved ?l_Choosing_undone ?cc_Choosing_undone ?k_Choosing_undone ?l_Choosing_row_at ?cc_Choosing_row_at ?k_Choosing_row_at ?l_Choosing_change ?cc_Choosing_change ?k_Choosing_change ?l_Choosing_done ?cc_Choosing_done ?k_Choosing_done ?l_law_fit ?cc_law_fit ?k_law_fit ?l_law_choosing ?cc_law_choosing ?k_law_choosing ?l_law ?cc_law ?k_law ?x_NoForm ?k_NoForm ?bE_NoForm ?tE_NoForm ?x_NoPlace ?k_NoPlace ?bE_NoPlace ?tE_NoPlace ?x_NoRow ?k_NoRow ?bE_NoRow ?tE_NoRow ?x_NoChange ?k_NoChange ?bE_NoChange ?tE_NoChange ?ga_Listing ?pg_Turning ?hd_Turning ?po_Turning ?sa_Turning ?mm_Turning ?kp_Turning ?if_Turning___init__ ?no_Turning_length ?no_Turning_size ?no_Turning_signs ?if_Turning_change ?if_Turning_done ?if_Turning_is_row ?if_Listing_leap ?if_Listing_many ?if_Turning_moved ?if_Listing_next_row ?if_Turning_place_of ?if_Turning_row_at ?if_Listing_row_before ?if_Listing_steps_to ?if_Turning_undone ?pg_Choosing ?hd_Choosing ?po_Choosing ?sa_Choosing ?mm_Choosing ?kp_Choosing ?if_Choosing___init__ ?no_Choosing_length ?no_Choosing_size ?no_Choosing_ones ?if_Choosing_change ?if_Choosing_done ?if_Choosing_is_row ?if_Choosing_moved ?if_Choosing_place_of ?if_Choosing_row_at ?if_Choosing_undone ?ca_Turning ?mo_Turning ?sb_Turning ?ca_Choosing ?mo_Choosing ?sb_Choosing ?hd_Listing ?ty_Listing ?gd_class ?tk_class ?bE_RowError ?tE_RowError ?hd_NoForm ?hd_NoPlace ?hd_NoRow ?hd_NoChange ?hd_RowError ?sR_NoForm ?sV_NoForm ?gg_NoForm ?gt_NoForm ?ca_NoForm ?mo_NoForm ?s_NoForm_NoForm ?s_NoForm_NoPlace ?s_NoForm_NoRow ?s_NoForm_NoChange ?sR_NoPlace ?sV_NoPlace ?gg_NoPlace ?gt_NoPlace ?ca_NoPlace ?mo_NoPlace ?s_NoPlace_NoForm ?s_NoPlace_NoPlace ?s_NoPlace_NoRow ?s_NoPlace_NoChange ?sR_NoRow ?sV_NoRow ?gg_NoRow ?gt_NoRow ?ca_NoRow ?mo_NoRow ?s_NoRow_NoForm ?s_NoRow_NoPlace ?s_NoRow_NoRow ?s_NoRow_NoChange ?sR_NoChange ?sV_NoChange ?gg_NoChange ?gt_NoChange ?ca_NoChange ?mo_NoChange ?s_NoChange_NoForm ?s_NoChange_NoPlace ?s_NoChange_NoRow ?s_NoChange_NoChange
    (case h_ValueError => k_is)
    (case h_all => k_is)
    (case h_divmod => k_is)
    (case h_enumerate => k_is)
    (case h_int => k_is)
    (case h_isinstance => k_is)
    (case h_len => k_is)
    (case h_list => k_is)
    (case h_max => k_is)
    (case h_min => k_is)
    (case h_range => k_is)
    (case h_reversed => k_is)
    (case h_sum => k_is)
    (case h_MOST_SPOTS_choosing => k_is)
    (case h_MOST_SIGNS => k_is)
    (case h_MOST_SPOTS_turning => k_is)
    (case n_power => k_is)
    (case n_choose => k_is)
    (case n_law_length => k_is)
    (case n_law_signs => k_is)
    (case n_law_cell_at => k_is)
    (case n_law_which => k_is)
    (case n_law_formed => k_is)
    (case n_law_forms => k_is)
    (case n_law_bad_row => k_is)
    (case n_law_ask => k_is)
    (case n_law_refused => k_is)
    (case n_law_rows => k_is)
    (case n_law_changes => k_is)
    (case n_law_places => k_is)
    (case n_law_swaps => k_is)
    (case n_law_turning => k_is)
    (case n_law_bad_ones => k_is)
    (case n_has => k_is)
    (case n_law_fit => k_is)
    (case n_law_choosing => k_is)
    (case n_law => k_is)
    (case n_RowError => k_is)
    (case n_NoForm => k_is)
    (case n_NoPlace => k_is)
    (case n_NoRow => k_is)
    (case n_NoChange => k_is)
    (case n_Listing => k_is)
    (case n_Choosing => k_is)
    (case n_Turning => k_is)
    (case rd_Listing => k_is)
    (case fi_Turning => k_is)
    (case fi_Turning_change => k_is)
    (case fi_Turning_done => k_is)
    (case fi_Turning_is_row => k_is)
    (case fi_Turning_leap => k_is)
    (case fi_Turning_many => k_is)
    (case fi_Turning_moved => k_is)
    (case fi_Turning_next_row => k_is)
    (case fi_Turning_place_of => k_is)
    (case fi_Turning_row_at => k_is)
    (case fi_Turning_row_before => k_is)
    (case fi_Turning_steps_to => k_is)
    (case fi_Turning_undone => k_is)
    (case fi_Choosing => k_is)
    (case fi_Choosing_change => k_is)
    (case fi_Choosing_done => k_is)
    (case fi_Choosing_is_row => k_is)
    (case fi_Choosing_leap => k_is)
    (case fi_Choosing_many => k_is)
    (case fi_Choosing_moved => k_is)
    (case fi_Choosing_next_row => k_is)
    (case fi_Choosing_place_of => k_is)
    (case fi_Choosing_row_at => k_is)
    (case fi_Choosing_row_before => k_is)
    (case fi_Choosing_steps_to => k_is)
    (case fi_Choosing_undone => k_is)
    (case at_Listing___init__ => k_is)
    (case l_Listing___init__ => k_is)
    (case cc_Listing___init__ => k_is)
    (case k_Listing___init__ => k_is)
    (case l_power => k_is)
    (case cc_power => k_is)
    (case k_power => k_is)
    (case l_Turning___init__ => k_is)
    (case cc_Turning___init__ => k_is)
    (case k_Turning___init__ => k_is)
    (case l_choose => k_is)
    (case cc_choose => k_is)
    (case k_choose => k_is)
    (case l_Choosing___init__ => k_is)
    (case cc_Choosing___init__ => k_is)
    (case k_Choosing___init__ => k_is)
    (case l_law_length => k_is)
    (case cc_law_length => k_is)
    (case k_law_length => k_is)
    (case l_law_signs => k_is)
    (case cc_law_signs => k_is)
    (case k_law_signs => k_is)
    (case l_law_cell_at => k_is)
    (case cc_law_cell_at => k_is)
    (case k_law_cell_at => k_is)
    (case l_law_which => k_is)
    (case cc_law_which => k_is)
    (case k_law_which => k_is)
    (case l_law_formed => k_is)
    (case cc_law_formed => k_is)
    (case k_law_formed => k_is)
    (case l_law_forms => k_is)
    (case cc_law_forms => k_is)
    (case k_law_forms => k_is)
    (case l_Turning_is_row => k_is)
    (case cc_Turning_is_row => k_is)
    (case k_Turning_is_row => k_is)
    (case l_Turning_place_of => k_is)
    (case cc_Turning_place_of => k_is)
    (case k_Turning_place_of => k_is)
    (case l_law_bad_row => k_is)
    (case cc_law_bad_row => k_is)
    (case k_law_bad_row => k_is)
    (case l_Turning_moved => k_is)
    (case cc_Turning_moved => k_is)
    (case k_Turning_moved => k_is)
    (case l_Turning_undone => k_is)
    (case cc_Turning_undone => k_is)
    (case k_Turning_undone => k_is)
    (case l_Turning_row_at => k_is)
    (case cc_Turning_row_at => k_is)
    (case k_Turning_row_at => k_is)
    (case l_Turning_change => k_is)
    (case cc_Turning_change => k_is)
    (case k_Turning_change => k_is)
    (case l_Listing_leap => k_is)
    (case cc_Listing_leap => k_is)
    (case k_Listing_leap => k_is)
    (case lt_Listing_leap => k_is)
    (case l_Listing_next_row => k_is)
    (case cc_Listing_next_row => k_is)
    (case k_Listing_next_row => k_is)
    (case l_Listing_row_before => k_is)
    (case cc_Listing_row_before => k_is)
    (case k_Listing_row_before => k_is)
    (case l_Listing_steps_to => k_is)
    (case cc_Listing_steps_to => k_is)
    (case k_Listing_steps_to => k_is)
    (case l_Turning_done => k_is)
    (case cc_Turning_done => k_is)
    (case k_Turning_done => k_is)
    (case l_law_ask => k_is)
    (case cc_law_ask => k_is)
    (case k_law_ask => k_is)
    (case l_law_refused => k_is)
    (case cc_law_refused => k_is)
    (case k_law_refused => k_is)
    (case l_law_rows => k_is)
    (case cc_law_rows => k_is)
    (case k_law_rows => k_is)
    (case l_law_changes => k_is)
    (case cc_law_changes => k_is)
    (case k_law_changes => k_is)
    (case l_law_places => k_is)
    (case cc_law_places => k_is)
    (case k_law_places => k_is)
    (case l_Listing_many => k_is)
    (case cc_Listing_many => k_is)
    (case k_Listing_many => k_is)
    (case l_law_swaps => k_is)
    (case cc_law_swaps => k_is)
    (case k_law_swaps => k_is)
    (case l_law_turning => k_is)
    (case cc_law_turning => k_is)
    (case k_law_turning => k_is)
    (case l_Choosing_is_row => k_is)
    (case cc_Choosing_is_row => k_is)
    (case k_Choosing_is_row => k_is)
    (case l_Choosing_place_of => k_is)
    (case cc_Choosing_place_of => k_is)
    (case k_Choosing_place_of => k_is)
    (case l_law_bad_ones => k_is)
    (case cc_law_bad_ones => k_is)
    (case k_law_bad_ones => k_is)
    (case l_has => k_is)
    (case cc_has => k_is)
    (case k_has => k_is)
    (case l_Choosing_moved => k_is)
    (case cc_Choosing_moved => k_is)
    (case k_Choosing_moved => k_is)
    (case l_Choosing_undone => k_is)
    (case cc_Choosing_undone => k_is)
    (case k_Choosing_undone => k_is)
    (case l_Choosing_row_at => k_is)
    (case cc_Choosing_row_at => k_is)
    (case k_Choosing_row_at => k_is)
    (case l_Choosing_change => k_is)
    (case cc_Choosing_change => k_is)
    (case k_Choosing_change => k_is)
    (case l_Choosing_done => k_is)
    (case cc_Choosing_done => k_is)
    (case k_Choosing_done => k_is)
    (case l_law_fit => k_is)
    (case cc_law_fit => k_is)
    (case k_law_fit => k_is)
    (case l_law_choosing => k_is)
    (case cc_law_choosing => k_is)
    (case k_law_choosing => k_is)
    (case l_law => k_is)
    (case cc_law => k_is)
    (case k_law => k_is)
    (case x_NoForm => k_exc)
    (case k_NoForm => k_is)
    (case bE_NoForm => first | rfl | k_is)
    (case tE_NoForm => k_is)
    (case x_NoPlace => k_exc)
    (case k_NoPlace => k_is)
    (case bE_NoPlace => first | rfl | k_is)
    (case tE_NoPlace => k_is)
    (case x_NoRow => k_exc)
    (case k_NoRow => k_is)
    (case bE_NoRow => first | rfl | k_is)
    (case tE_NoRow => k_is)
    (case x_NoChange => k_exc)
    (case k_NoChange => k_is)
    (case bE_NoChange => first | rfl | k_is)
    (case tE_NoChange => k_is)
    (case ga_Listing => k_is)
    (case pg_Turning => k_is)
    (case hd_Turning => k_is)
    (case po_Turning => k_is)
    (case sa_Turning => k_is)
    (case mm_Turning => k_is)
    (case kp_Turning => k_is)
    (case if_Turning___init__ => k_is)
    (case no_Turning_length => k_is)
    (case no_Turning_size => k_is)
    (case no_Turning_signs => k_is)
    (case if_Turning_change => k_is)
    (case if_Turning_done => k_is)
    (case if_Turning_is_row => k_is)
    (case if_Listing_leap => k_is)
    (case if_Listing_many => k_is)
    (case if_Turning_moved => k_is)
    (case if_Listing_next_row => k_is)
    (case if_Turning_place_of => k_is)
    (case if_Turning_row_at => k_is)
    (case if_Listing_row_before => k_is)
    (case if_Listing_steps_to => k_is)
    (case if_Turning_undone => k_is)
    (case pg_Choosing => k_is)
    (case hd_Choosing => k_is)
    (case po_Choosing => k_is)
    (case sa_Choosing => k_is)
    (case mm_Choosing => k_is)
    (case kp_Choosing => k_is)
    (case if_Choosing___init__ => k_is)
    (case no_Choosing_length => k_is)
    (case no_Choosing_size => k_is)
    (case no_Choosing_ones => k_is)
    (case if_Choosing_change => k_is)
    (case if_Choosing_done => k_is)
    (case if_Choosing_is_row => k_is)
    (case if_Choosing_moved => k_is)
    (case if_Choosing_place_of => k_is)
    (case if_Choosing_row_at => k_is)
    (case if_Choosing_undone => k_is)
    (case ca_Turning => k_is)
    (case mo_Turning => k_is)
    (case sb_Turning => first | rfl | k_is)
    (case ca_Choosing => k_is)
    (case mo_Choosing => k_is)
    (case sb_Choosing => first | rfl | k_is)
    (case hd_Listing => k_is)
    (case ty_Listing => k_is)
    (case gd_class => k_is)
    (case tk_class => k_is)
    (case bE_RowError => first | rfl | k_is)
    (case tE_RowError => k_is)
    (case hd_NoForm => k_is)
    (case hd_NoPlace => k_is)
    (case hd_NoRow => k_is)
    (case hd_NoChange => k_is)
    (case hd_RowError => k_is)
    (case sR_NoForm => first | rfl | k_is)
    (case sV_NoForm => first | rfl | k_is)
    (case gg_NoForm => k_is)
    (case gt_NoForm => k_is)
    (case ca_NoForm => k_is)
    (case mo_NoForm => k_is)
    (case s_NoForm_NoForm => first | rfl | k_is)
    (case s_NoForm_NoPlace => first | rfl | k_is)
    (case s_NoForm_NoRow => first | rfl | k_is)
    (case s_NoForm_NoChange => first | rfl | k_is)
    (case sR_NoPlace => first | rfl | k_is)
    (case sV_NoPlace => first | rfl | k_is)
    (case gg_NoPlace => k_is)
    (case gt_NoPlace => k_is)
    (case ca_NoPlace => k_is)
    (case mo_NoPlace => k_is)
    (case s_NoPlace_NoForm => first | rfl | k_is)
    (case s_NoPlace_NoPlace => first | rfl | k_is)
    (case s_NoPlace_NoRow => first | rfl | k_is)
    (case s_NoPlace_NoChange => first | rfl | k_is)
    (case sR_NoRow => first | rfl | k_is)
    (case sV_NoRow => first | rfl | k_is)
    (case gg_NoRow => k_is)
    (case gt_NoRow => k_is)
    (case ca_NoRow => k_is)
    (case mo_NoRow => k_is)
    (case s_NoRow_NoForm => first | rfl | k_is)
    (case s_NoRow_NoPlace => first | rfl | k_is)
    (case s_NoRow_NoRow => first | rfl | k_is)
    (case s_NoRow_NoChange => first | rfl | k_is)
    (case sR_NoChange => first | rfl | k_is)
    (case sV_NoChange => first | rfl | k_is)
    (case gg_NoChange => k_is)
    (case gt_NoChange => k_is)
    (case ca_NoChange => k_is)
    (case mo_NoChange => k_is)
    (case s_NoChange_NoForm => first | rfl | k_is)
    (case s_NoChange_NoPlace => first | rfl | k_is)
    (case s_NoChange_NoRow => first | rfl | k_is)
    (case s_NoChange_NoChange => first | rfl | k_is)
