import PyProof.Rows.All
import Wide.All
import OpenK.AllK
import Wide.FinOn
import PySem.Challenge.RW_pb0344_01
set_option Elab.async false
set_option linter.unusedVariables false
set_option linter.unusedSimpArgs false
set_option maxRecDepth 100000
namespace Mine

/-! binary length -/
def bl (m : Nat) : Nat := if m = 0 then 0 else m.log2 + 1
theorem bl_zero : bl 0 = 0 := rfl
theorem lt_bl (m : Nat) : m < 2 ^ bl m := by
  unfold bl
  split
  · subst_vars; decide
  · exact Nat.lt_log2_self
theorem bl_le {m : Nat} (h : 0 < m) : 2 ^ (bl m - 1) ≤ m := by
  unfold bl
  rw [if_neg (by omega)]
  exact Nat.log2_self_le (by omega)
theorem bl_pos {m : Nat} (h : 0 < m) : 1 ≤ bl m := by unfold bl; rw [if_neg (by omega)]; omega
theorem bl_le_of_lt {m k : Nat} (h : m < 2 ^ k) : bl m ≤ k := by
  unfold bl
  split
  · omega
  · rename_i h0; exact (Nat.log2_lt h0).mpr h
theorem bl_of {m c : Nat} (h1 : 2 ^ c ≤ m) (h2 : m < 2 ^ (c + 1)) : bl m = c + 1 := by
  have h0 : 0 < m := Nat.lt_of_lt_of_le (Nat.pow_pos (by decide)) h1
  have a := bl_le_of_lt h2
  have b := lt_bl m
  have c1 : 2 ^ c < 2 ^ bl m := Nat.lt_of_le_of_lt h1 b
  have := (Nat.pow_lt_pow_iff_right (by decide : 1 < 2)).mp c1
  omega

/-! rounding a / b to the nearest whole, halves to even -/
def rne (a b : Nat) : Nat := if b < 2 * (a % b) ∨ (2 * (a % b) = b ∧ a / b % 2 = 1) then a / b + 1 else a / b
theorem rne_scale {a b c : Nat} (hc : 0 < c) : rne (c * a) (c * b) = rne a b := by
  unfold rne
  rw [Nat.mul_mod_mul_left, Nat.mul_div_mul_left _ _ hc]
  have e1 : 2 * (c * (a % b)) = c * (2 * (a % b)) := by rw [Nat.mul_left_comm]
  rw [e1]
  have e2 : (c * b < c * (2 * (a % b))) ↔ (b < 2 * (a % b)) := Nat.mul_lt_mul_left hc
  have e3 : (c * (2 * (a % b)) = c * b) ↔ (2 * (a % b) = b) := Nat.mul_left_cancel_iff hc
  simp only [e2, e3]
theorem rne_cross {a b c d : Nat} (hb : 0 < b) (hd : 0 < d) (h : a * d = c * b) : rne a b = rne c d := by
  rw [← rne_scale (a := a) (b := b) hd, ← rne_scale (a := c) (b := d) hb, Nat.mul_comm d a, h, Nat.mul_comm c b, Nat.mul_comm d b]

theorem rne_spec {a b : Nat} (hb : 0 < b) : (2 * rne a b * b ≤ 2 * a + b ∧ 2 * a ≤ 2 * rne a b * b + b) ∧ ((2 * rne a b * b = 2 * a + b ∨ 2 * a = 2 * rne a b * b + b) → rne a b % 2 = 0) := by
  have e := Nat.div_add_mod a b
  have hr := Nat.mod_lt a hb
  unfold rne
  generalize a / b = q at *
  generalize a % b = r at *
  have e1 : 2 * q * b = 2 * (b * q) := by rw [Nat.mul_assoc, Nat.mul_comm q b]
  have e2 : 2 * (q + 1) * b = 2 * (b * q) + 2 * b := by rw [Nat.mul_assoc, Nat.add_mul, Nat.one_mul, Nat.mul_add, Nat.mul_comm q b]
  split
  · rw [e2]
    refine ⟨⟨by omega, by omega⟩, fun hh => ?_⟩
    rename_i h
    rcases h with h | ⟨h, h'⟩
    · rcases hh with hh | hh <;> omega
    · omega
  · rw [e1]
    rename_i h
    refine ⟨⟨by omega, by omega⟩, fun hh => ?_⟩
    rcases hh with hh | hh
    · omega
    · have : 2 * r = b := by omega
      have h3 : ¬ q % 2 = 1 := fun h4 => h (.inr ⟨this, h4⟩)
      omega

/-- the shift's own rounding -/
def rsh (m sh : Nat) (rest : Bool) : Nat := if 2 ^ (sh - 1) < m % 2 ^ sh ∨ (m % 2 ^ sh = 2 ^ (sh - 1) ∧ (rest = true ∨ m / 2 ^ sh % 2 = 1)) then m / 2 ^ sh + 1 else m / 2 ^ sh
/-- (floor of a / b) shifted and rounded, with the rest's sign: a / (b 2^sh) rounded -/
theorem rsh_rne {a b sh : Nat} (hb : 0 < b) (hs : 1 ≤ sh) : rsh (a / b) sh (decide (a / b * b ≠ a)) = rne a (b * 2 ^ sh) := by
  have h2 : 2 ^ sh = 2 * 2 ^ (sh - 1) := by
    obtain ⟨k, rfl⟩ : ∃ k, sh = k + 1 := ⟨sh - 1, by omega⟩
    rw [Nat.pow_succ, Nat.add_sub_cancel, Nat.mul_comm]
  have e := Nat.div_add_mod a b
  have hr := Nat.mod_lt a hb
  unfold rsh rne
  rw [Nat.div_div_eq_div_mul]
  have em : a % (b * 2 ^ sh) = b * (a / b % 2 ^ sh) + a % b := by
    rw [Nat.mod_mul]
    omega
  rw [em]
  have hp : 0 < 2 ^ (sh - 1) := Nat.pow_pos (by decide)
  generalize 2 ^ (sh - 1) = half at *
  generalize a / b % 2 ^ sh = low at *
  have hrest : (decide (a / b * b ≠ a) = true) ↔ a % b ≠ 0 := by
    rw [decide_eq_true_eq]
    have : a / b * b = b * (a / b) := Nat.mul_comm _ _
    omega
  generalize a % b = r at *
  have c1 : (b * (2 * half) < 2 * (b * low + r)) ↔ (half < low ∨ (low = half ∧ r ≠ 0)) := by
    have e3 : b * (2 * half) = 2 * (b * half) := Nat.mul_left_comm _ _ _
    rw [e3]
    rcases Nat.lt_trichotomy half low with h | h | h
    · have : b * (half + 1) ≤ b * low := Nat.mul_le_mul_left _ h
      rw [Nat.mul_add, Nat.mul_one] at this
      constructor
      · intro _; exact .inl h
      · intro _; omega
    · subst h
      constructor
      · intro _; exact .inr ⟨rfl, by omega⟩
      · intro _; omega
    · have : b * (low + 1) ≤ b * half := Nat.mul_le_mul_left _ h
      rw [Nat.mul_add, Nat.mul_one] at this
      constructor
      · intro _; omega
      · intro h; omega
  have c2 : (2 * (b * low + r) = b * (2 * half)) ↔ (low = half ∧ r = 0) := by
    have e3 : b * (2 * half) = 2 * (b * half) := Nat.mul_left_comm _ _ _
    rw [e3]
    rcases Nat.lt_trichotomy half low with h | h | h
    · have : b * (half + 1) ≤ b * low := Nat.mul_le_mul_left _ h
      rw [Nat.mul_add, Nat.mul_one] at this
      constructor <;> intro _ <;> omega
    · subst h
      constructor <;> intro _ <;> omega
    · have : b * (low + 1) ≤ b * half := Nat.mul_le_mul_left _ h
      rw [Nat.mul_add, Nat.mul_one] at this
      constructor <;> intro _ <;> omega
  simp only [hrest, h2, c1, c2]
  by_cases h1 : half < low
  · simp [h1]
  · by_cases h3 : low = half
    · subst h3
      by_cases h4 : r = 0
      · simp [h4]
      · simp [h4]
    · simp [h1, h3]

/-! the forms' numbers, by their bits without the sign -/
/-- in units of the least number: U -/
def un (fb size : Nat) : Nat := if size / 2 ^ fb = 0 then size % 2 ^ fb else (2 ^ fb + size % 2 ^ fb) * 2 ^ (size / 2 ^ fb - 1)
theorem un_low {fb k : Nat} (h : k ≤ 2 ^ fb * 2) : un fb k = k := by
  have hp : 0 < 2 ^ fb := Nat.pow_pos (by decide)
  unfold un
  rcases Nat.lt_trichotomy k (2 ^ fb) with h1 | h1 | h1
  · rw [if_pos (Nat.div_eq_of_lt h1), Nat.mod_eq_of_lt h1]
  · subst_vars
    rw [Nat.div_self hp, if_neg (by decide), Nat.mod_self]; simp
  · by_cases h2 : k = 2 ^ fb * 2
    · subst h2
      rw [Nat.mul_div_cancel_left _ hp, if_neg (by decide), Nat.mul_mod_right]; simp
    · have hd : k / 2 ^ fb = 1 := by
        apply Nat.div_eq_of_lt_le <;> omega
      rw [hd, if_neg (by decide)]
      have := Nat.div_add_mod k (2 ^ fb)
      rw [hd] at this
      simp; omega
/-- p whole rows, then k of a row and a half -/
theorem un_row {fb p k : Nat} (h0 : 2 ^ fb ≤ k) (h : k ≤ 2 ^ fb * 2) : un fb (p * 2 ^ fb + k) = k * 2 ^ p := by
  have hp : 0 < 2 ^ fb := Nat.pow_pos (by decide)
  have key : ∀ j, p * 2 ^ fb + (2 ^ fb + j) = 2 ^ fb * (p + 1) + j := fun j => by rw [Nat.mul_add, Nat.mul_one, Nat.mul_comm p]; omega
  obtain ⟨j, rfl⟩ : ∃ j, k = 2 ^ fb + j := ⟨k - 2 ^ fb, by omega⟩
  rw [key]
  unfold un
  by_cases hj : j = 2 ^ fb
  · have e : 2 ^ fb * (p + 1) + j = 2 ^ fb * (p + 2) := by rw [hj, Nat.mul_add _ p 2, Nat.mul_add]; omega
    rw [e, Nat.mul_div_cancel_left _ hp, if_neg (by omega), Nat.mul_mod_right, hj]
    have e2 : p + 2 - 1 = p + 1 := by omega
    rw [e2, Nat.pow_succ, Nat.add_zero]
    have e3 : (2 ^ fb + 2 ^ fb) = 2 ^ fb * 2 := by omega
    rw [e3, Nat.mul_assoc, Nat.mul_comm 2]
  · have hj' : j < 2 ^ fb := by omega
    rw [Nat.mul_add_div hp, Nat.div_eq_of_lt hj', Nat.mul_add_mod, Nat.mod_eq_of_lt hj', if_neg (by omega)]
    rfl
theorem un_step {fb : Nat} (s : Nat) : un fb s < un fb (s + 1) := by
  have hp : 0 < 2 ^ fb := Nat.pow_pos (by decide)
  have e := Nat.div_add_mod s (2 ^ fb)
  have hr := Nat.mod_lt s hp
  by_cases h0 : s / 2 ^ fb = 0
  · rw [h0, Nat.mul_zero, Nat.zero_add] at e
    rw [un_low (by omega), un_low (by omega)]; omega
  · obtain ⟨p, hpp⟩ := Nat.exists_eq_succ_of_ne_zero h0
    have es : s = p * 2 ^ fb + (2 ^ fb + s % 2 ^ fb) := by
      rw [hpp, Nat.succ_eq_add_one] at e
      have e4 : 2 ^ fb * (p + 1) = p * 2 ^ fb + 2 ^ fb := by rw [Nat.mul_add, Nat.mul_one, Nat.mul_comm]
      omega
    generalize hk : s % 2 ^ fb = k at *
    rw [es, un_row (by omega) (by omega), Nat.add_assoc (p * 2 ^ fb), un_row (by omega) (by omega)]
    exact Nat.mul_lt_mul_of_lt_of_le (by omega) (Nat.le_refl _) (Nat.pow_pos (by decide))
theorem un_lt {fb a b : Nat} (h : a < b) : un fb a < un fb b := by
  induction b with
  | zero => omega
  | succ b ih =>
    by_cases hb : a = b
    · subst hb; exact un_step a
    · exact Nat.lt_trans (ih (by omega)) (un_step b)
theorem un_le {fb a b : Nat} (h : a ≤ b) : un fb a ≤ un fb b := by
  rcases Nat.lt_or_eq_of_le h with h | h
  · exact Nat.le_of_lt (un_lt h)
  · rw [h]; exact Nat.le_refl _

/-- n / d (in units) is read as the number of these bits: between the half ways, they themselves where the bits are even -/
def Ins (fb size n d : Nat) : Prop :=
  ((un fb (size - 1) + un fb size) * d < 2 * n ∧ 2 * n < (un fb size + un fb (size + 1)) * d) ∨
  (size % 2 = 0 ∧ ((un fb (size - 1) + un fb size) * d = 2 * n ∨ 2 * n = (un fb size + un fb (size + 1)) * d))
def insB (fb size n d : Nat) : Bool := decide (((un fb (size - 1) + un fb size) * d < 2 * n ∧ 2 * n < (un fb size + un fb (size + 1)) * d) ∨
  (size % 2 = 0 ∧ ((un fb (size - 1) + un fb size) * d = 2 * n ∨ 2 * n = (un fb size + un fb (size + 1)) * d)))
theorem insB_iff {fb size n d : Nat} : insB fb size n d = true ↔ Ins fb size n d := by unfold insB; rw [decide_eq_true_eq]; exact Iff.rfl

/-- the row of n / d -/
def rowOf (fb n d : Nat) : Nat := bl (n / d) - (fb + 1)
/-- rounded, no top -/
def raw (fb n d : Nat) : Nat := rowOf fb n d * 2 ^ fb + rne n (d * 2 ^ rowOf fb n d)

theorem row_zero {fb n d : Nat} (hd : 0 < d) (h : rowOf fb n d = 0) : n < 2 ^ fb * 2 * d := by
  unfold rowOf at h
  have h1 : n / d < 2 ^ bl (n / d) := lt_bl _
  have h2 : 2 ^ bl (n / d) ≤ 2 ^ (fb + 1) := Nat.pow_le_pow_right (by decide) (by omega)
  rw [Nat.pow_succ] at h2
  have h3 : n / d < 2 ^ fb * 2 := Nat.lt_of_lt_of_le h1 h2
  exact (Nat.div_lt_iff_lt_mul hd).mp h3
theorem row_pos {fb n d : Nat} (hd : 0 < d) (h : 0 < rowOf fb n d) : 2 ^ fb * (d * 2 ^ rowOf fb n d) ≤ n ∧ n < 2 ^ fb * 2 * (d * 2 ^ rowOf fb n d) := by
  have hb : bl (n / d) = fb + rowOf fb n d + 1 := by unfold rowOf at *; omega
  have h0 : 0 < n / d := by
    rcases Nat.eq_zero_or_pos (n / d) with e | e
    · rw [e, bl_zero] at hb; omega
    · exact e
  have h1 := bl_le h0
  have h2 := lt_bl (n / d)
  rw [hb] at h1 h2
  generalize rowOf fb n d = p at *
  have e1 : fb + p + 1 - 1 = fb + p := by omega
  rw [e1, Nat.pow_add] at h1
  rw [Nat.pow_succ, Nat.pow_add] at h2
  constructor
  · have := (Nat.le_div_iff_mul_le hd).mp h1
    have e : 2 ^ fb * (d * 2 ^ p) = 2 ^ fb * 2 ^ p * d := by rw [Nat.mul_assoc, Nat.mul_comm d]
    omega
  · have := (Nat.div_lt_iff_lt_mul hd).mp h2
    have e : 2 ^ fb * 2 * (d * 2 ^ p) = 2 ^ fb * 2 ^ p * 2 * d := by
      rw [Nat.mul_comm d, ← Nat.mul_assoc, Nat.mul_right_comm (2 ^ fb)]
    omega
theorem ties {k D n : Nat} (hk : 1 ≤ k) (hs : (2 * k * D ≤ 2 * n + D ∧ 2 * n ≤ 2 * k * D + D)) : (k - 1 + k) * D ≤ 2 * n ∧ 2 * n ≤ (k + (k + 1)) * D ∧ ((k - 1 + k) * D = 2 * n → 2 * k * D = 2 * n + D) ∧ (2 * n = (k + (k + 1)) * D → 2 * n = 2 * k * D + D) := by
  obtain ⟨j, rfl⟩ : ∃ j, k = j + 1 := ⟨k - 1, by omega⟩
  have e1 : (j + 1 - 1 + (j + 1)) * D = 2 * (j * D) + D := by
    have : j + 1 - 1 + (j + 1) = 2 * j + 1 := by omega
    rw [this, Nat.add_mul, Nat.one_mul, Nat.mul_assoc]
  have e2 : (j + 1 + (j + 1 + 1)) * D = 2 * (j * D) + 3 * D := by
    have : j + 1 + (j + 1 + 1) = 2 * j + 3 := by omega
    rw [this, Nat.add_mul, Nat.mul_assoc]
  have e3 : 2 * (j + 1) * D = 2 * (j * D) + 2 * D := by
    have : 2 * (j + 1) = 2 * j + 2 := by omega
    rw [this, Nat.add_mul, Nat.mul_assoc]
  rw [e3] at hs
  rw [e1, e2, e3]
  omega

theorem raw_ins {fb n d : Nat} (hf : 1 ≤ fb) (hd : 0 < d) (h1 : 1 ≤ raw fb n d) : Ins fb (raw fb n d) n d := by
  have hH : ∃ j, 2 ^ fb = 2 * j ∧ 0 < j := ⟨2 ^ (fb - 1), by
    obtain ⟨i, rfl⟩ : ∃ i, fb = i + 1 := ⟨fb - 1, by omega⟩
    rw [Nat.pow_succ, Nat.add_sub_cancel, Nat.mul_comm], Nat.pow_pos (by decide)⟩
  obtain ⟨hh, hHe, hhp⟩ := hH
  unfold raw at *
  rcases Nat.eq_zero_or_pos (rowOf fb n d) with hp | hp
  · have hlt := row_zero hd hp
    simp only [hp, Nat.zero_mul, Nat.zero_add, Nat.pow_zero, Nat.mul_one] at h1 ⊢
    obtain ⟨hs, ht⟩ := rne_spec (a := n) hd
    generalize rne n d = k at *
    have hk2 : k ≤ 2 ^ fb * 2 := by
      apply Nat.le_of_not_lt; intro hc
      have : (2 ^ fb * 2 + 1) * d ≤ k * d := Nat.mul_le_mul_right _ hc
      rw [Nat.add_mul, Nat.one_mul] at this
      rw [Nat.mul_assoc 2 k d] at hs
      omega
    obtain ⟨t1, t2, t3, t4⟩ := ties h1 hs
    unfold Ins
    rw [un_low (k := k) hk2, un_low (k := k - 1) (by omega)]
    by_cases hc : k = 2 ^ fb * 2
    · have e1 : k + 1 = 1 * 2 ^ fb + (2 ^ fb + 1) := by omega
      rw [e1, un_row (by omega) (by omega)]
      have e2 : (k + (2 ^ fb + 1) * 2 ^ 1) * d = 2 * (2 ^ fb * 2 * d) + 2 * d := by
        have : k + (2 ^ fb + 1) * 2 ^ 1 = 2 * (2 ^ fb * 2) + 2 := by omega
        rw [this, Nat.add_mul, Nat.mul_assoc 2]
      rw [e2]
      by_cases h : (k - 1 + k) * d = 2 * n
      · exact .inr ⟨ht (.inl (t3 h)), .inl h⟩
      · exact .inl ⟨by omega, by omega⟩
    · rw [un_low (k := k + 1) (by omega)]
      by_cases h : (k - 1 + k) * d = 2 * n
      · exact .inr ⟨ht (.inl (t3 h)), .inl h⟩
      · by_cases h' : 2 * n = (k + (k + 1)) * d
        · exact .inr ⟨ht (.inr (t4 h')), .inr h'⟩
        · exact .inl ⟨by omega, by omega⟩
  · obtain ⟨hlo, hhi⟩ := row_pos hd hp
    generalize rowOf fb n d = p at *
    have hD : 0 < d * 2 ^ p := Nat.mul_pos hd (Nat.pow_pos (by decide))
    obtain ⟨hs, ht⟩ := rne_spec (a := n) hD
    generalize rne n (d * 2 ^ p) = k at *
    have hk2 : k ≤ 2 ^ fb * 2 := by
      apply Nat.le_of_not_lt; intro hc
      have : (2 ^ fb * 2 + 1) * (d * 2 ^ p) ≤ k * (d * 2 ^ p) := Nat.mul_le_mul_right _ hc
      rw [Nat.add_mul, Nat.one_mul] at this
      rw [Nat.mul_assoc 2 k] at hs
      omega
    have hk1 : 2 ^ fb ≤ k := by
      apply Nat.le_of_not_lt; intro hc
      have : (k + 1) * (d * 2 ^ p) ≤ 2 ^ fb * (d * 2 ^ p) := Nat.mul_le_mul_right _ hc
      rw [Nat.add_mul, Nat.one_mul] at this
      rw [Nat.mul_assoc 2 k] at hs
      omega
    have hkp : 1 ≤ k := by omega
    obtain ⟨t1, t2, t3, t4⟩ := ties hkp hs
    have par : (p * 2 ^ fb + k) % 2 = k % 2 := by rw [hHe, Nat.mul_left_comm]; omega
    have mv : ∀ a, a * 2 ^ p * d = a * (d * 2 ^ p) := fun a => by rw [Nat.mul_assoc, Nat.mul_comm (2 ^ p)]
    unfold Ins
    rw [par, un_row hk1 hk2]
    have low : k ≠ 2 ^ fb → un fb (p * 2 ^ fb + k - 1) = (k - 1) * 2 ^ p := fun hne => by
      have : p * 2 ^ fb + k - 1 = p * 2 ^ fb + (k - 1) := by omega
      rw [this, un_row (by omega) (by omega)]
    have high : k ≠ 2 ^ fb * 2 → un fb (p * 2 ^ fb + k + 1) = (k + 1) * 2 ^ p := fun hne => by
      rw [Nat.add_assoc, un_row (by omega) (by omega)]
    by_cases ha : k = 2 ^ fb
    · rw [high (by omega)]
      obtain ⟨r, rfl⟩ : ∃ r, p = r + 1 := ⟨p - 1, by omega⟩
      have e1 : (r + 1) * 2 ^ fb + k - 1 = r * 2 ^ fb + (2 ^ fb * 2 - 1) := by rw [Nat.add_mul, Nat.one_mul]; omega
      rw [e1, un_row (by omega) (by omega)]
      have e2 : ((2 ^ fb * 2 - 1) * 2 ^ r + k * 2 ^ (r + 1)) * d < 2 * n := by
        have hq : 0 < d * 2 ^ r := Nat.mul_pos hd (Nat.pow_pos (by decide))
        have e3 : ((2 ^ fb * 2 - 1) * 2 ^ r + k * 2 ^ (r + 1)) * d = (2 ^ fb * 2 - 1 + k * 2) * (d * 2 ^ r) := by
          rw [Nat.pow_succ, Nat.add_mul, Nat.add_mul, Nat.mul_assoc _ (2 ^ r) d, Nat.mul_comm (2 ^ r) d]
          congr 1
          rw [Nat.mul_comm (2 ^ r) 2, ← Nat.mul_assoc k, Nat.mul_assoc _ (2 ^ r) d, Nat.mul_comm (2 ^ r) d]
        have e4 : 2 ^ fb * (d * 2 ^ (r + 1)) = 2 ^ fb * 2 * (d * 2 ^ r) := by
          rw [Nat.pow_succ, ← Nat.mul_assoc d, Nat.mul_comm (d * 2 ^ r) 2, Nat.mul_assoc]
        have e5 : (2 ^ fb * 2 - 1 + k * 2) * (d * 2 ^ r) < (2 * (2 ^ fb * 2)) * (d * 2 ^ r) := Nat.mul_lt_mul_of_pos_right (by omega) hq
        rw [Nat.mul_assoc 2] at e5
        omega
      rw [← Nat.add_mul k, mv]
      by_cases h' : 2 * n = (k + (k + 1)) * (d * 2 ^ (r + 1))
      · exact .inr ⟨ht (.inr (t4 h')), .inr h'⟩
      · exact .inl ⟨e2, by omega⟩
    · rw [low ha, ← Nat.add_mul, mv]
      by_cases hb : k = 2 ^ fb * 2
      · have e1 : p * 2 ^ fb + k + 1 = (p + 1) * 2 ^ fb + (2 ^ fb + 1) := by rw [Nat.add_mul, Nat.one_mul]; omega
        rw [e1, un_row (by omega) (by omega)]
        have e2 : 2 * n < (k * 2 ^ p + (2 ^ fb + 1) * 2 ^ (p + 1)) * d := by
          have e3 : (k * 2 ^ p + (2 ^ fb + 1) * 2 ^ (p + 1)) * d = (k + (2 ^ fb + 1) * 2) * (d * 2 ^ p) := by
            rw [← mv, Nat.pow_succ, Nat.add_mul k]
            congr 2
            rw [Nat.mul_comm (2 ^ p) 2, Nat.mul_assoc]
          have e5 : (2 * (2 ^ fb * 2)) * (d * 2 ^ p) ≤ (k + (2 ^ fb + 1) * 2) * (d * 2 ^ p) := Nat.mul_le_mul_right _ (by omega)
          rw [Nat.mul_assoc 2] at e5
          omega
        by_cases h : (k - 1 + k) * (d * 2 ^ p) = 2 * n
        · exact .inr ⟨ht (.inl (t3 h)), .inl h⟩
        · exact .inl ⟨by omega, e2⟩
      · rw [high hb, ← Nat.add_mul, mv]
        by_cases h : (k - 1 + k) * (d * 2 ^ p) = 2 * n
        · exact .inr ⟨ht (.inl (t3 h)), .inl h⟩
        · by_cases h' : 2 * n = (k + (k + 1)) * (d * 2 ^ p)
          · exact .inr ⟨ht (.inr (t4 h')), .inr h'⟩
          · exact .inl ⟨by omega, by omega⟩

theorem Ins.le {fb s n d : Nat} (h : Ins fb s n d) : (un fb (s - 1) + un fb s) * d ≤ 2 * n ∧ 2 * n ≤ (un fb s + un fb (s + 1)) * d := by
  have hm : (un fb (s - 1) + un fb s) * d ≤ (un fb s + un fb (s + 1)) * d := Nat.mul_le_mul_right _ (Nat.add_le_add (un_le (by omega)) (un_le (by omega)))
  rcases h with h | ⟨_, h | h⟩ <;> omega
theorem ins_lt {fb s t n d : Nat} (hd : 0 < d) (hs : Ins fb s n d) (ht : Ins fb t n d) : ¬ s < t := fun hlt => by
  have a := hs.le
  have b := ht.le
  have m1 : un fb s ≤ un fb (t - 1) := un_le (by omega)
  have m2 : un fb (s + 1) ≤ un fb t := un_le (by omega)
  have m3 : (un fb s + un fb (s + 1)) * d ≤ (un fb (t - 1) + un fb t) * d := Nat.mul_le_mul_right _ (Nat.add_le_add m1 m2)
  have e : (un fb s + un fb (s + 1)) * d = (un fb (t - 1) + un fb t) * d := by omega
  have e2 := Nat.eq_of_mul_eq_mul_right hd e
  have e3 : un fb s = un fb (t - 1) := by omega
  have e4 : t = s + 1 := by
    rcases Nat.lt_or_ge s (t - 1) with h | h
    · have := un_lt (fb := fb) h; omega
    · omega
  have p1 : s % 2 = 0 := by rcases hs with h | ⟨h, _⟩; · omega
                            · exact h
  have p2 : t % 2 = 0 := by rcases ht with h | ⟨h, _⟩; · omega
                            · exact h
  omega
theorem ins_unique {fb s t n d : Nat} (hd : 0 < d) (hs : Ins fb s n d) (ht : Ins fb t n d) : s = t := by
  have := ins_lt hd hs ht
  have := ins_lt hd ht hs
  omega
/-- rounding finds these bits just if n / d lies in their interval -/
theorem raw_iff {fb n d s : Nat} (hf : 1 ≤ fb) (hd : 0 < d) (hs : 1 ≤ s) : raw fb n d = s ↔ Ins fb s n d := by
  constructor
  · intro e; subst e; exact raw_ins hf hd hs
  · intro h
    rcases Nat.eq_zero_or_pos (raw fb n d) with e | e
    · exfalso
      have hl := h.le
      unfold raw at e
      have hp : rowOf fb n d = 0 := by
        rcases Nat.eq_zero_or_pos (rowOf fb n d) with q | q
        · exact q
        · have : 0 < rowOf fb n d * 2 ^ fb := Nat.mul_pos q (Nat.pow_pos (by decide)); omega
      rw [hp] at e
      simp only [Nat.zero_mul, Nat.zero_add, Nat.pow_zero, Nat.mul_one] at e
      obtain ⟨a, _⟩ := rne_spec (a := n) hd
      rw [e] at a
      have h1 : 1 ≤ un fb s := by have := un_lt (fb := fb) (a := 0) (b := s) (by omega); omega
      have h2 : 1 * d ≤ (un fb (s - 1) + un fb s) * d := Nat.mul_le_mul_right _ (by omega)
      rcases h with h | ⟨h, h'⟩
      · omega
      · have h3 : 2 ≤ s := by omega
        have h4 : 1 ≤ un fb (s - 1) := by have := un_lt (fb := fb) (a := 0) (b := s - 1) (by omega); omega
        have h5 : 2 * d ≤ (un fb (s - 1) + un fb s) * d := Nat.mul_le_mul_right _ (by omega)
        omega
    · exact ins_unique hd (raw_ins hf hd e) h
/-- with the top: infinity -/
def rnd (fb top n d : Nat) : Nat := if raw fb n d < top then raw fb n d else top
theorem rnd_iff {fb top n d s : Nat} (hf : 1 ≤ fb) (hd : 0 < d) (hs : 1 ≤ s) (ht : s < top) : rnd fb top n d = s ↔ Ins fb s n d := by
  rw [← raw_iff hf hd hs]
  unfold rnd
  split
  · exact Iff.rfl
  · constructor <;> intro h <;> omega
end Mine

namespace Mine
theorem bl_shift {A B k : Nat} (hB : 0 < B) (h : 0 < A / B) : bl (A * 2 ^ k / B) = bl (A / B) + k := by
  have h1 := bl_le h
  have h2 := lt_bl (A / B)
  have h3 := bl_pos h
  obtain ⟨c, hc⟩ : ∃ c, bl (A / B) = c + 1 := ⟨bl (A / B) - 1, by omega⟩
  rw [hc] at h1 h2 ⊢
  rw [Nat.add_sub_cancel] at h1
  have e : c + 1 + k = c + k + 1 := by omega
  rw [e]
  have a := (Nat.le_div_iff_mul_le hB).mp h1
  have b := (Nat.div_lt_iff_lt_mul hB).mp h2
  have hp : 0 < 2 ^ k := Nat.pow_pos (by decide)
  apply bl_of
  · apply (Nat.le_div_iff_mul_le hB).mpr
    have := Nat.mul_le_mul_right (2 ^ k) a
    rw [Nat.pow_add, Nat.mul_right_comm]; exact this
  · apply (Nat.div_lt_iff_lt_mul hB).mpr
    have := Nat.mul_lt_mul_of_pos_right b hp
    have e2 : 2 ^ (c + k + 1) * B = 2 ^ (c + 1) * B * 2 ^ k := by
      rw [show c + k + 1 = (c + 1) + k from by omega, Nat.pow_add, Nat.mul_right_comm]
    rw [e2]; exact this

theorem rne_row {fb n d : Nat} (hd : 0 < d) : rne n (d * 2 ^ rowOf fb n d) ≤ 2 ^ fb * 2 ∧ (0 < rowOf fb n d → 2 ^ fb ≤ rne n (d * 2 ^ rowOf fb n d)) := by
  have hD : 0 < d * 2 ^ rowOf fb n d := Nat.mul_pos hd (Nat.pow_pos (by decide))
  obtain ⟨hs, _⟩ := rne_spec (a := n) hD
  have up : n < 2 ^ fb * 2 * (d * 2 ^ rowOf fb n d) := by
    rcases Nat.eq_zero_or_pos (rowOf fb n d) with hp | hp
    · have := row_zero hd hp; rw [hp, Nat.pow_zero, Nat.mul_one]; exact this
    · exact (row_pos hd hp).2
  constructor
  · apply Nat.le_of_not_lt; intro hc
    have : (2 ^ fb * 2 + 1) * (d * 2 ^ rowOf fb n d) ≤ rne n (d * 2 ^ rowOf fb n d) * (d * 2 ^ rowOf fb n d) := Nat.mul_le_mul_right _ hc
    rw [Nat.add_mul, Nat.one_mul] at this
    rw [Nat.mul_assoc 2 (rne _ _)] at hs
    omega
  · intro hp
    have hlo := (row_pos hd hp).1
    apply Nat.le_of_not_lt; intro hc
    have : (rne n (d * 2 ^ rowOf fb n d) + 1) * (d * 2 ^ rowOf fb n d) ≤ 2 ^ fb * (d * 2 ^ rowOf fb n d) := Nat.mul_le_mul_right _ hc
    rw [Nat.add_mul, Nat.one_mul] at this
    rw [Nat.mul_assoc 2 (rne _ _)] at hs
    omega

/-- from_ratio's shift -/
def sft (fb over under : Nat) : Nat := fb + 4 + bl under - bl over
def quo (fb over under : Nat) : Nat := over * 2 ^ sft fb over under / under
theorem quo_ge {fb over under : Nat} (ho : 0 < over) (hu : 0 < under) : 2 ^ (fb + 3) ≤ quo fb over under := by
  unfold quo
  apply (Nat.le_div_iff_mul_le hu).mpr
  have h1 := bl_le ho
  have h2 := lt_bl under
  have h3 := bl_pos ho
  have h4 : fb + 3 + bl under ≤ bl over - 1 + sft fb over under := by unfold sft; omega
  have h5 : 2 ^ (fb + 3) * 2 ^ bl under ≤ 2 ^ (bl over - 1) * 2 ^ sft fb over under := by
    rw [← Nat.pow_add, ← Nat.pow_add]; exact Nat.pow_le_pow_right (by decide) h4
  exact Nat.le_trans (Nat.mul_le_mul_left _ (Nat.le_of_lt h2)) (Nat.le_trans h5 (Nat.mul_le_mul_right _ h1))
theorem quo_pos {fb over under : Nat} (ho : 0 < over) (hu : 0 < under) : 0 < quo fb over under := Nat.lt_of_lt_of_le (Nat.pow_pos (by decide)) (quo_ge (fb := fb) ho hu)
/-- one length, told twice -/
theorem bl_two {over under s t : Nat} (hu : 0 < under) (hs : 0 < over * 2 ^ s / under) (ht : 0 < over * 2 ^ t / under) : bl (over * 2 ^ s / under) + t = bl (over * 2 ^ t / under) + s := by
  rcases Nat.le_total s t with h | h
  · obtain ⟨k, rfl⟩ := Nat.exists_eq_add_of_le h
    rw [Nat.pow_add, ← Nat.mul_assoc, bl_shift hu hs]; omega
  · obtain ⟨k, rfl⟩ := Nat.exists_eq_add_of_le h
    rw [Nat.pow_add, ← Nat.mul_assoc, bl_shift hu ht]; omega
theorem ratio_ok (fb E over under : Nat) (ho : 0 < over) (hu : 0 < under) :
    (if -(E : Int) > 0 - (sft fb over under : Int) + (bl (quo fb over under) : Int) - (fb : Int) - 1 then -(E : Int) else 0 - (sft fb over under : Int) + (bl (quo fb over under) : Int) - (fb : Int) - 1) = (rowOf fb (over * 2 ^ E) under : Int) - (E : Int) ∧
    ∃ sh : Nat, (rowOf fb (over * 2 ^ E) under : Int) - (E : Int) - (0 - (sft fb over under : Int)) = (sh : Int) ∧ 1 ≤ sh ∧ sh ≤ rowOf fb (over * 2 ^ E) under + sft fb over under ∧
      rsh (quo fb over under) sh (decide (quo fb over under * under ≠ over * 2 ^ sft fb over under)) = rne (over * 2 ^ E) (under * 2 ^ rowOf fb (over * 2 ^ E) under) := by
  have hq := quo_pos (fb := fb) ho hu
  have hbq : fb + 4 ≤ bl (quo fb over under) := by
    have h1 := quo_ge (fb := fb) ho hu
    have h2 := lt_bl (quo fb over under)
    have := (Nat.pow_lt_pow_iff_right (by decide : 1 < 2)).mp (Nat.lt_of_le_of_lt h1 h2)
    omega
  have key : (if -(E : Int) > 0 - (sft fb over under : Int) + (bl (quo fb over under) : Int) - (fb : Int) - 1 then -(E : Int) else 0 - (sft fb over under : Int) + (bl (quo fb over under) : Int) - (fb : Int) - 1) = (rowOf fb (over * 2 ^ E) under : Int) - (E : Int) := by
    rcases Nat.eq_zero_or_pos (over * 2 ^ E / under) with h0 | h0
    · have hr : rowOf fb (over * 2 ^ E) under = 0 := by unfold rowOf; rw [h0, bl_zero]; omega
      rw [hr]
      -- over 2^E < under
      have hlt : over * 2 ^ E < under := (Nat.div_eq_zero_iff_lt hu).mp h0
      have h5 : bl (quo fb over under) + E ≤ sft fb over under := by
        have a := bl_le hq
        unfold quo at a
        have b := (Nat.le_div_iff_mul_le hu).mp a
        have c : 2 ^ (bl (quo fb over under) - 1) * (over * 2 ^ E) < over * 2 ^ sft fb over under := by
          refine Nat.lt_of_lt_of_le (Nat.mul_lt_mul_of_pos_left hlt (Nat.pow_pos (by decide))) b
        have d : over * 2 ^ (bl (quo fb over under) - 1 + E) < over * 2 ^ sft fb over under := by
          rw [Nat.pow_add, Nat.mul_left_comm]; exact c
        have e := (Nat.pow_lt_pow_iff_right (by decide : 1 < 2)).mp (Nat.lt_of_mul_lt_mul_left d)
        omega
      rw [if_pos (by omega)]; omega
    · have h2 := bl_two (s := sft fb over under) (t := E) hu hq h0
      have h3 : bl (quo fb over under) + E = bl (over * 2 ^ E / under) + sft fb over under := h2
      unfold rowOf
      split
      · omega
      · omega
  refine ⟨key, ?_⟩
  have hge : 3 ≤ (rowOf fb (over * 2 ^ E) under : Int) - (E : Int) + (sft fb over under : Int) := by
    rw [← key]; split <;> omega
  refine ⟨((rowOf fb (over * 2 ^ E) under : Int) - (E : Int) + (sft fb over under : Int)).toNat, by omega, by omega, by omega, ?_⟩
  generalize hsh : ((rowOf fb (over * 2 ^ E) under : Int) - (E : Int) + (sft fb over under : Int)).toNat = sh
  have e1 : rowOf fb (over * 2 ^ E) under + sft fb over under = E + sh := by omega
  unfold quo
  rw [rsh_rne hu (by omega)]
  apply rne_cross (Nat.mul_pos hu (Nat.pow_pos (by decide))) (Nat.mul_pos hu (Nat.pow_pos (by decide)))
  have e2 : 2 ^ sft fb over under * 2 ^ rowOf fb (over * 2 ^ E) under = 2 ^ E * 2 ^ sh := by
    rw [← Nat.pow_add, ← Nat.pow_add, Nat.add_comm (sft fb over under), e1]
  generalize rowOf fb (over * 2 ^ E) under = p at *
  rw [Nat.mul_comm under, Nat.mul_comm under, ← Nat.mul_assoc, Nat.mul_assoc over, e2, ← Nat.mul_assoc, ← Nat.mul_assoc]
end Mine

set_option exponentiation.threshold 5000
namespace Mine
/-! m 2^e 10^p as over / under -/
def so (m : Nat) (e p : Int) : Nat := m * 2 ^ e.toNat * 10 ^ p.toNat
def su (e p : Int) : Nat := 2 ^ (-e).toNat * 10 ^ (-p).toNat
def sf (m : Nat) (e p : Int) : Nat := so m e p / su e p
theorem su_pos (e p : Int) : 0 < su e p := Nat.mul_pos (Nat.pow_pos (by decide)) (Nat.pow_pos (by decide))
theorem sf_pred (m : Nat) (e p : Int) : sf m e (p - 1) = sf m e p / 10 := by
  unfold sf so su
  by_cases h : 1 ≤ p
  · obtain ⟨n, rfl⟩ : ∃ n : Nat, p = (n : Int) + 1 := ⟨(p - 1).toNat, by omega⟩
    have e1 : ((n : Int) + 1 - 1).toNat = n := by omega
    have e2 : ((n : Int) + 1).toNat = n + 1 := by omega
    have e3 : (-((n : Int) + 1 - 1)).toNat = 0 := by omega
    have e4 : (-((n : Int) + 1)).toNat = 0 := by omega
    rw [e1, e2, e3, e4, Nat.pow_succ, Nat.div_div_eq_div_mul, ← Nat.mul_assoc, Nat.mul_div_mul_right _ _ (by decide)]
  · obtain ⟨n, rfl⟩ : ∃ n : Nat, p = -(n : Int) := ⟨(-p).toNat, by omega⟩
    have e1 : (-(n : Int) - 1).toNat = 0 := by omega
    have e2 : (-(n : Int)).toNat = 0 := by omega
    have e3 : (-(-(n : Int) - 1)).toNat = n + 1 := by omega
    have e4 : (-(-(n : Int))).toNat = n := by omega
    rw [e1, e2, e3, e4, Nat.pow_succ, Nat.div_div_eq_div_mul, ← Nat.mul_assoc]
/-- a step of decimal_place up is bounded -/
theorem sf_big {m : Nat} {e : Int} {k : Nat} (hm : m < 2 ^ 300) (he : e ≤ 300) (h : 10 ≤ sf m e (0 - (k : Int))) : k ≤ 600 := by
  unfold sf so su at h
  have e1 : (0 - (k : Int)).toNat = 0 := by omega
  have e2 : (-(0 - (k : Int))).toNat = k := by omega
  rw [e1, e2, Nat.pow_zero, Nat.mul_one] at h
  have hp : 0 < 2 ^ (-e).toNat * 10 ^ k := Nat.mul_pos (Nat.pow_pos (by decide)) (Nat.pow_pos (by decide))
  have h1 := (Nat.le_div_iff_mul_le hp).mp h
  have h2 : 2 ^ k ≤ 10 ^ k := Nat.pow_le_pow_left (by decide) k
  have h3 : 1 * 10 ^ k ≤ 2 ^ (-e).toNat * 10 ^ k := Nat.mul_le_mul_right _ (Nat.pow_pos (by decide))
  have h4 : m * 2 ^ e.toNat < 2 ^ 300 * 2 ^ e.toNat := Nat.mul_lt_mul_of_pos_right hm (Nat.pow_pos (by decide))
  rw [← Nat.pow_add] at h4
  have h5 : 2 ^ k < 2 ^ (300 + e.toNat) := by omega
  have := (Nat.pow_lt_pow_iff_right (by decide : 1 < 2)).mp h5
  omega
theorem sf_small {m : Nat} {e : Int} {k : Int} (hm : 0 < m) (he : -300 ≤ e) (h : sf m e (0 - k) < 1) : -300 ≤ k := by
  rcases (show k < -300 ∨ -300 ≤ k by omega) with hk | hk
  case inr => exact hk
  exfalso
  obtain ⟨n, rfl⟩ : ∃ n : Nat, k = -(n : Int) := ⟨(-k).toNat, by omega⟩
  unfold sf so su at h
  have e1 : (0 - -(n : Int)).toNat = n := by omega
  have e2 : (-(0 - -(n : Int))).toNat = 0 := by omega
  rw [e1, e2, Nat.pow_zero, Nat.mul_one] at h
  have h0 : m * 2 ^ e.toNat * 10 ^ n / 2 ^ (-e).toNat = 0 := Nat.lt_one_iff.mp h
  have h1 := (Nat.div_eq_zero_iff_lt (Nat.pow_pos (by decide) : 0 < 2 ^ (-e).toNat)).mp h0
  have h2 : 2 ^ n ≤ 10 ^ n := Nat.pow_le_pow_left (by decide) n
  have h3 : 1 * 10 ^ n ≤ m * 2 ^ e.toNat * 10 ^ n := Nat.mul_le_mul_right _ (Nat.mul_pos hm (Nat.pow_pos (by decide)))
  have := (Nat.pow_lt_pow_iff_right (by decide : 1 < 2)).mp (Nat.lt_of_le_of_lt h2 (by omega : 10 ^ n < 2 ^ (-e).toNat))
  omega
/-- the decimal place -/
def DP (m : Nat) (e k : Int) : Prop := 1 ≤ sf m e (0 - k) ∧ sf m e (0 - k) ≤ 9 ∧ -301 ≤ k ∧ k ≤ 601
theorem sf_up {m : Nat} {e k : Int} (h : sf m e (0 - k) < 1) : sf m e (0 - (k - 1)) ≤ 9 := by
  have := sf_pred m e (0 - (k - 1))
  have e1 : 0 - (k - 1) - 1 = 0 - k := by omega
  rw [e1] at this
  omega
end Mine
namespace Mine
def upn (m : Nat) (e p : Int) (low : Nat) : Bool := if sf m (e + 1) p = 2 * low + 1 ∧ decide (sf m (e + 1) p * su (e + 1) p = so m (e + 1) p) = true then decide (low % 2 = 1) else decide (2 * low + 1 ≤ sf m (e + 1) p)
end Mine
namespace Mine
theorem so_pp {m : Nat} {e p : Int} (h1 : 0 ≤ e) (h2 : 0 ≤ p) : so m e p = m * 2 ^ e.toNat * 10 ^ p.toNat ∧ su e p = 1 := by
  unfold so su
  rw [show (-e).toNat = 0 from by omega, show (-p).toNat = 0 from by omega]
  exact ⟨rfl, rfl⟩
theorem so_pn {m : Nat} {e p : Int} (h1 : 0 ≤ e) (h2 : ¬ 0 ≤ p) : so m e p = m * 2 ^ e.toNat ∧ su e p = 1 * 10 ^ (0 - p).toNat := by
  unfold so su
  rw [show (-e).toNat = 0 from by omega, show p.toNat = 0 from by omega, show 0 - p = -p from by omega]
  exact ⟨by simp, by simp⟩
theorem so_np {m : Nat} {e p : Int} (h1 : ¬ 0 ≤ e) (h2 : 0 ≤ p) : so m e p = m * 10 ^ p.toNat ∧ su e p = 1 * 2 ^ (0 - e).toNat := by
  unfold so su
  rw [show e.toNat = 0 from by omega, show (-p).toNat = 0 from by omega, show 0 - e = -e from by omega]
  exact ⟨by simp, by simp⟩
theorem so_nn {m : Nat} {e p : Int} (h1 : ¬ 0 ≤ e) (h2 : ¬ 0 ≤ p) : so m e p = m ∧ su e p = 1 * 2 ^ (0 - e).toNat * 10 ^ (0 - p).toNat := by
  unfold so su
  rw [show e.toNat = 0 from by omega, show p.toNat = 0 from by omega, show 0 - e = -e from by omega, show 0 - p = -p from by omega]
  exact ⟨by simp, by simp⟩
end Mine

set_option exponentiation.threshold 5000
namespace Mine
/-! the candidates -/
/-- d 10^p is read as the number of these bits -/
def Cd (fb E size d : Nat) (p : Int) : Prop := Ins fb size (d * 10 ^ p.toNat * 2 ^ E) (10 ^ (-p).toNat)
def dst (a b : Nat) : Nat := (a - b) + (b - a)

theorem Ins.scale {fb s n d c : Nat} (hc : 0 < c) : Ins fb s (c * n) (c * d) ↔ Ins fb s n d := by
  unfold Ins
  have e1 : ∀ a, a * (c * d) = c * (a * d) := fun a => Nat.mul_left_comm _ _ _
  have e2 : 2 * (c * n) = c * (2 * n) := Nat.mul_left_comm _ _ _
  rw [e1, e1, e2, Nat.mul_lt_mul_left hc, Nat.mul_lt_mul_left hc, Nat.mul_left_cancel_iff hc, Nat.mul_left_cancel_iff hc]
theorem Ins.cross {fb s n d n' d' : Nat} (hd : 0 < d) (hd' : 0 < d') (h : n * d' = n' * d) : Ins fb s n d ↔ Ins fb s n' d' := by
  rw [← Ins.scale (n := n) (d := d) hd', ← Ins.scale (n := n') (d := d') hd, Nat.mul_comm d' n, h, Nat.mul_comm d n', Nat.mul_comm d' d]

/-- m 2^e is the number of these bits: E below the least -/
def Num (fb E size m : Nat) (e : Int) : Prop := ∃ j : Nat, e = -(E : Int) + (j : Int) ∧ un fb size = m * 2 ^ j

/-- the number times 10^q: over, under -/
def nA (fb size : Nat) (q : Int) : Nat := un fb size * 10 ^ q.toNat
def nB (E : Nat) (q : Int) : Nat := 2 ^ E * 10 ^ (-q).toNat
theorem nB_pos (E : Nat) (q : Int) : 0 < nB E q := Nat.mul_pos (Nat.pow_pos (by decide)) (Nat.pow_pos (by decide))

theorem so_su {m E j : Nat} {q : Int} : so m (-(E : Int) + (j : Int)) q * (2 ^ E * 10 ^ (-q).toNat) = (m * 2 ^ j * 10 ^ q.toNat) * su (-(E : Int) + (j : Int)) q := by
  unfold so su
  have key : 2 ^ (-(E : Int) + (j : Int)).toNat * 2 ^ E = 2 ^ j * 2 ^ (-(-(E : Int) + (j : Int))).toNat := by
    rw [← Nat.pow_add, ← Nat.pow_add]; congr 1; omega
  generalize 2 ^ (-(E : Int) + (j : Int)).toNat = a at *
  generalize 2 ^ (-(-(E : Int) + (j : Int))).toNat = b at *
  generalize 10 ^ q.toNat = c
  generalize 10 ^ (-q).toNat = d
  calc m * a * c * (2 ^ E * d) = m * c * d * (a * 2 ^ E) := by ac_rfl
    _ = m * c * d * (2 ^ j * b) := by rw [key]
    _ = m * 2 ^ j * c * (b * d) := by ac_rfl
theorem div_cross {a b c d : Nat} (hb : 0 < b) (hd : 0 < d) (h : a * d = c * b) : a / b = c / d := by
  rw [← Nat.mul_div_mul_right a b hd, h, Nat.mul_comm b d, Nat.mul_div_mul_right _ _ hb]
theorem sf_num {fb E size m : Nat} {e q : Int} (h : Num fb E size m e) : sf m e q = nA fb size q / nB E q := by
  obtain ⟨j, rfl, hu⟩ := h
  unfold sf nA nB
  rw [hu]
  exact div_cross (su_pos _ _) (Nat.mul_pos (Nat.pow_pos (by decide)) (Nat.pow_pos (by decide))) so_su
theorem sf_num2 {fb E size m : Nat} {e q : Int} (h : Num fb E size m e) : sf m (e + 1) q = 2 * nA fb size q / nB E q ∧ (sf m (e + 1) q * su (e + 1) q = so m (e + 1) q ↔ 2 * nA fb size q / nB E q * nB E q = 2 * nA fb size q) := by
  obtain ⟨j, rfl, hu⟩ := h
  have e1 : -(E : Int) + (j : Int) + 1 = -(E : Int) + ((j + 1 : Nat) : Int) := by omega
  have hs := so_su (m := m) (E := E) (j := j + 1) (q := q)
  rw [← e1] at hs
  have e2 : m * 2 ^ (j + 1) * 10 ^ q.toNat = 2 * nA fb size q := by
    unfold nA; rw [hu, Nat.pow_succ]; ac_rfl
  rw [e2] at hs
  have hb := su_pos (-(E : Int) + (j : Int) + 1) q
  have hB := nB_pos E q
  have hdiv : sf m (-(E : Int) + (j : Int) + 1) q = 2 * nA fb size q / nB E q := div_cross hb hB hs
  refine ⟨hdiv, ?_⟩
  rw [hdiv]
  have hs' : so m (-(E : Int) + (j : Int) + 1) q * nB E q = 2 * nA fb size q * su (-(E : Int) + (j : Int) + 1) q := hs
  generalize 2 * nA fb size q / nB E q = t at *
  generalize so m (-(E : Int) + (j : Int) + 1) q = S at *
  generalize su (-(E : Int) + (j : Int) + 1) q = W at *
  constructor
  · intro h
    have : t * W * nB E q = 2 * nA fb size q * W := by rw [h, hs']
    have h2 : t * nB E q * W = 2 * nA fb size q * W := by rw [← this]; ac_rfl
    exact Nat.eq_of_mul_eq_mul_right hb h2
  · intro h
    have : S * nB E q = t * W * nB E q := by rw [hs', ← h]; ac_rfl
    exact (Nat.eq_of_mul_eq_mul_right hB this).symm

/-- a candidate, by the number's own over and under -/
theorem cd_ab {fb E size d : Nat} {p : Int} : Cd fb E size d p ↔ Ins fb size (d * nB E (0 - p)) (10 ^ (0 - p).toNat) := by
  unfold Cd nB
  rw [show -(0 - p) = p from by omega, show 0 - p = -p from by omega]
  have e : d * 10 ^ p.toNat * 2 ^ E = d * (2 ^ E * 10 ^ p.toNat) := by ac_rfl
  rw [e]
theorem ins_ab {fb size n D : Nat} : Ins fb size n D ↔
    ((un fb (size - 1) * D + un fb size * D < 2 * n ∧ 2 * n < un fb size * D + un fb (size + 1) * D) ∨
    (size % 2 = 0 ∧ (un fb (size - 1) * D + un fb size * D = 2 * n ∨ 2 * n = un fb size * D + un fb (size + 1) * D))) := by
  unfold Ins
  rw [Nat.add_mul, Nat.add_mul]
/-- convexity: from a candidate below up to the number -/
theorem cd_mono {fb E size d d' : Nat} {p : Int} (h1 : d ≤ d') (h2 : d' * nB E (0 - p) ≤ nA fb size (0 - p)) (h : Cd fb E size d p) : Cd fb E size d' p := by
  rw [cd_ab, ins_ab] at *
  have hD : 0 < 10 ^ (0 - p).toNat := Nat.pow_pos (by decide)
  have hm : d * nB E (0 - p) ≤ d' * nB E (0 - p) := Nat.mul_le_mul_right _ h1
  have hu : un fb size * 10 ^ (0 - p).toNat < un fb (size + 1) * 10 ^ (0 - p).toNat := Nat.mul_lt_mul_of_pos_right (un_step _) hD
  unfold nA at h2
  rcases h with h | ⟨hp, h⟩
  · exact .inl ⟨by omega, by omega⟩
  · by_cases hq : un fb (size - 1) * 10 ^ (0 - p).toNat + un fb size * 10 ^ (0 - p).toNat = 2 * (d' * nB E (0 - p))
    · exact .inr ⟨hp, .inl hq⟩
    · rcases h with h | h
      · exact .inl ⟨by omega, by omega⟩
      · omega
/-- far enough down the lower candidate is one -/
theorem cd_deep {fb E size : Nat} {p : Int} (hs : 1 ≤ size) (hp : p ≤ 0) (hd : 2 ^ (E + 1) ≤ 10 ^ (0 - p).toNat) : Cd fb E size (nA fb size (0 - p) / nB E (0 - p)) p ∧ 0 < nA fb size (0 - p) / nB E (0 - p) := by
  have hu : 1 ≤ un fb size := by have := un_lt (fb := fb) (a := 0) (b := size) (by omega); omega
  have hB : nB E (0 - p) = 2 ^ E := by unfold nB; rw [show (-(0 - p)).toNat = 0 from by omega, Nat.pow_zero, Nat.mul_one]
  have hBp := nB_pos E (0 - p)
  rw [Nat.pow_succ] at hd
  constructor
  · rw [cd_ab, ins_ab]
    have hD : 0 < 10 ^ (0 - p).toNat := Nat.pow_pos (by decide)
    have e := Nat.div_add_mod (nA fb size (0 - p)) (nB E (0 - p))
    have r := Nat.mod_lt (nA fb size (0 - p)) hBp
    rw [Nat.mul_comm] at e
    have hA : nA fb size (0 - p) = un fb size * 10 ^ (0 - p).toNat := rfl
    have h1 : un fb (size - 1) + 1 ≤ un fb size := un_lt (fb := fb) (a := size - 1) (b := size) (by omega)
    have h2 : (un fb (size - 1) + 1) * 10 ^ (0 - p).toNat ≤ un fb size * 10 ^ (0 - p).toNat := Nat.mul_le_mul_right _ h1
    have h3 : un fb size * 10 ^ (0 - p).toNat < un fb (size + 1) * 10 ^ (0 - p).toNat := Nat.mul_lt_mul_of_pos_right (un_step _) hD
    rw [Nat.add_mul, Nat.one_mul] at h2
    left
    generalize nA fb size (0 - p) / nB E (0 - p) * nB E (0 - p) = t at *
    omega
  · apply Nat.div_pos _ hBp
    rw [hB]
    unfold nA
    have : 1 * 10 ^ (0 - p).toNat ≤ un fb size * 10 ^ (0 - p).toNat := Nat.mul_le_mul_right _ hu
    omega

/-- what the law asks of the digits -/
structure SDok (fb E size d : Nat) (P : Int) : Prop where
  pos : 0 < d
  tail : ¬ d % 10 = 0
  cand : Cd fb E size d P
  near : ∀ o, (o = d + 1 ∨ o + 1 = d) → 0 < o → Cd fb E size o P → ¬ dst (un fb size * 10 ^ (-P).toNat) (o * 10 ^ P.toNat * 2 ^ E) < dst (un fb size * 10 ^ (-P).toNat) (d * 10 ^ P.toNat * 2 ^ E)
  few : 10 ≤ d → ∀ f, (f + 1 = d / 10 ∨ f = d / 10 ∨ f = d / 10 + 1) → 0 < f → ¬ Cd fb E size f (P + 1)

theorem cd_up {fb E size d : Nat} {p : Int} : Cd fb E size (d * 10) p ↔ Cd fb E size d (p + 1) := by
  unfold Cd
  apply Ins.cross (Nat.pow_pos (by decide)) (Nat.pow_pos (by decide))
  by_cases h : 0 ≤ p
  · rw [show (-(p + 1)).toNat = 0 from by omega, show (-p).toNat = 0 from by omega, show (p + 1).toNat = p.toNat + 1 from by omega, Nat.pow_succ]; ac_rfl
  · rw [show (p + 1).toNat = 0 from by omega, show p.toNat = 0 from by omega, show (-p).toNat = (-(p + 1)).toNat + 1 from by omega, Nat.pow_succ]; ac_rfl
end Mine

set_option exponentiation.threshold 5000
namespace Mine
theorem upn_true {fb E size m low : Nat} {e q : Int} (h : Num fb E size m e) (hu : upn m e q low = true) : (2 * low + 1) * nB E q ≤ 2 * nA fb size q := by
  obtain ⟨h1, h2⟩ := sf_num2 (q := q) h
  unfold upn at hu
  have hle : sf m (e + 1) q * nB E q ≤ 2 * nA fb size q := by rw [h1]; exact Nat.div_mul_le_self _ _
  split at hu
  · rename_i hc
    rw [← hc.1]; exact hle
  · have h3 := of_decide_eq_true hu
    exact Nat.le_trans (Nat.mul_le_mul_right _ h3) hle
theorem upn_false {fb E size m low : Nat} {e q : Int} (h : Num fb E size m e) (hu : upn m e q low = false) : 2 * nA fb size q ≤ (2 * low + 1) * nB E q := by
  obtain ⟨h1, h2⟩ := sf_num2 (q := q) h
  unfold upn at hu
  split at hu
  · rename_i hc
    have := h2.mp (of_decide_eq_true hc.2)
    rw [← h1, hc.1] at this
    omega
  · have h3 := of_decide_eq_false hu
    have h4 : 2 * nA fb size q < (sf m (e + 1) q + 1) * nB E q := by
      rw [h1]
      have := Nat.lt_mul_div_succ (2 * nA fb size q) (nB_pos E q)
      rwa [Nat.mul_comm (nB E q)] at this
    have h5 : (sf m (e + 1) q + 1) * nB E q ≤ (2 * low + 1) * nB E q := Nat.mul_le_mul_right _ (by omega)
    omega

/-- the choice of digits: what the search hands on -/
theorem sd_ok {fb E size m c g g1 z : Nat} {e place : Int} (h : Num fb E size m e) (hs : 1 ≤ size) (hdp : DP m e place)
    (inv : ∀ c' : Nat, c' < c → ¬ Cd fb E size (sf m e (0 - (place - (c' : Int)))) (place - (c' : Int)) ∧ ¬ Cd fb E size (sf m e (0 - (place - (c' : Int))) + 1) (place - (c' : Int)))
    (hg : (g = sf m e (0 - (place - (c : Int))) ∧ (upn m e (0 - (place - (c : Int))) (sf m e (0 - (place - (c : Int)))) = true → ¬ Cd fb E size (sf m e (0 - (place - (c : Int))) + 1) (place - (c : Int)))) ∨
      (g = sf m e (0 - (place - (c : Int))) + 1 ∧ (upn m e (0 - (place - (c : Int))) (sf m e (0 - (place - (c : Int)))) = false → ¬ Cd fb E size (sf m e (0 - (place - (c : Int)))) (place - (c : Int)))))
    (hcd : Cd fb E size g (place - (c : Int))) (hz : g = g1 * 10 ^ z) (hg1 : 0 < g1) (ht : ¬ g1 % 10 = 0) : SDok fb E size g1 (place - (c : Int) + (z : Int)) := by
  generalize hp : place - (c : Int) = p at *
  have hlow := sf_num (q := 0 - p) h
  have hB := nB_pos E (0 - p)
  have hut := upn_true (q := 0 - p) (low := sf m e (0 - p)) h
  have huf := upn_false (q := 0 - p) (low := sf m e (0 - p)) h
  have hL : sf m e (0 - (p + 1)) = sf m e (0 - p) / 10 := by rw [← sf_pred]; congr 1; omega
  have hLd := sf_num (q := 0 - (p + 1)) h
  have hB' := nB_pos E (0 - (p + 1))
  have invp : 1 ≤ c → ¬ Cd fb E size (sf m e (0 - p) / 10) (p + 1) ∧ ¬ Cd fb E size (sf m e (0 - p) / 10 + 1) (p + 1) := fun hc => by
    have := inv (c - 1) (by omega)
    rw [show place - ((c - 1 : Nat) : Int) = p + 1 from by omega, hL] at this
    exact this
  have hc0 : c = 0 → 1 ≤ sf m e (0 - p) ∧ sf m e (0 - p) ≤ 9 := fun hc => by
    have : place = p := by omega
    rw [← this]; exact ⟨hdp.1, hdp.2.1⟩
  have hr := Nat.div_add_mod (nA fb size (0 - p)) (nB E (0 - p))
  have hrl := Nat.mod_lt (nA fb size (0 - p)) hB
  rw [← hlow, Nat.mul_comm] at hr
  have eA : un fb size * 10 ^ (-p).toNat = nA fb size (0 - p) := by unfold nA; rw [show 0 - p = -p from by omega]
  have eB : ∀ o, o * 10 ^ p.toNat * 2 ^ E = o * nB E (0 - p) := fun o => by unfold nB; rw [show -(0 - p) = p from by omega]; ac_rfl
  have hLz : nA fb size (0 - (p + 1)) / nB E (0 - (p + 1)) = sf m e (0 - p) / 10 := by rw [← hLd, hL]
  clear hlow hL hLd inv
  generalize sf m e (0 - p) = low at *
  rcases Nat.eq_zero_or_pos z with hz0 | hz0
  · -- no nought struck
    subst hz0
    rw [Nat.pow_zero, Nat.mul_one] at hz
    subst hz
    rw [show p + ((0 : Nat) : Int) = p from by omega]
    refine ⟨hg1, ht, hcd, ?_, ?_⟩
    · intro o ho ho0 hco hlt
      rw [eA, eB, eB] at hlt
      have ha1 : (g + 1) * nB E (0 - p) = g * nB E (0 - p) + nB E (0 - p) := by rw [Nat.add_mul, Nat.one_mul]
      rcases hg with ⟨q1, q2⟩ | ⟨q1, q2⟩
      · subst q1
        rcases ho with rfl | ho
        · cases hub : upn m e (0 - p) g with
          | true => exact q2 hub hco
          | false =>
            have h3 := huf hub
            have e2 : (2 * g + 1) * nB E (0 - p) = 2 * (g * nB E (0 - p)) + nB E (0 - p) := by rw [Nat.add_mul, Nat.one_mul, Nat.mul_assoc]
            unfold dst at hlt
            rw [ha1] at hlt
            omega
        · subst ho
          rw [Nat.add_mul, Nat.one_mul] at hr hlt
          unfold dst at hlt
          omega
      · subst q1
        have e2 : (2 * low + 1) * nB E (0 - p) = 2 * (low * nB E (0 - p)) + nB E (0 - p) := by rw [Nat.add_mul, Nat.one_mul, Nat.mul_assoc]
        have e3 : (low + 1) * nB E (0 - p) = low * nB E (0 - p) + nB E (0 - p) := by rw [Nat.add_mul, Nat.one_mul]
        rcases ho with rfl | ho
        · unfold dst at hlt
          rw [ha1, e3] at hlt
          omega
        · have : o = low := by omega
          subst this
          cases hub : upn m e (0 - p) o with
          | false => exact q2 hub hco
          | true =>
            have h3 := hut hub
            unfold dst at hlt
            rw [e3] at hlt
            omega
    · intro h10 f hf hf0 hcf
      have hc1 : 1 ≤ c := by
        rcases Nat.eq_zero_or_pos c with q | q
        · have := hc0 q; exfalso; rcases hg with ⟨q1, _⟩ | ⟨q1, _⟩ <;> omega
        · exact q
      obtain ⟨i1, i2⟩ := invp hc1
      have hdiv : g / 10 = low / 10 := by rcases hg with ⟨q1, _⟩ | ⟨q1, _⟩ <;> omega
      rw [hdiv] at hf
      rcases hf with hf | hf | hf
      · refine i1 (cd_mono (d := f) (by omega) ?_ hcf)
        rw [← hLz]; exact Nat.div_mul_le_self _ _
      · rw [hf] at hcf; exact i1 hcf
      · rw [hf] at hcf; exact i2 hcf
  · -- noughts struck: the first turn alone, ten
    obtain ⟨y, rfl⟩ : ∃ y, z = y + 1 := ⟨z - 1, by omega⟩
    have hgy : g = g1 * 10 ^ y * 10 := by rw [hz, Nat.pow_succ, Nat.mul_assoc]
    have hup : Cd fb E size (g1 * 10 ^ y) (p + 1) := by rw [← cd_up, ← hgy]; exact hcd
    have hc : c = 0 := by
      rcases Nat.eq_zero_or_pos c with q | q
      · exact q
      · exfalso
        obtain ⟨i1, i2⟩ := invp q
        generalize g1 * 10 ^ y = t at *
        rcases hg with ⟨q1, _⟩ | ⟨q1, _⟩
        · have : t = low / 10 := by omega
          rw [this] at hup; exact i1 hup
        · have : t = low / 10 + 1 := by omega
          rw [this] at hup; exact i2 hup
    have hl := hc0 hc
    have hpy : 1 ≤ 10 ^ y := Nat.pow_pos (by decide)
    have ht1 : g1 * 10 ^ y = 1 := by
      have : 1 * 1 ≤ g1 * 10 ^ y := Nat.mul_le_mul hg1 hpy
      generalize g1 * 10 ^ y = t at *
      rcases hg with ⟨q1, _⟩ | ⟨q1, _⟩ <;> omega
    have hg11 : g1 = 1 := by
      have : g1 * 1 ≤ g1 * 10 ^ y := Nat.mul_le_mul_left _ hpy
      omega
    have hy : y = 0 := by
      rcases Nat.eq_zero_or_pos y with q | q
      · exact q
      · exfalso
        have : 10 ^ 1 ≤ 10 ^ y := Nat.pow_le_pow_right (by decide) q
        rw [hg11, Nat.one_mul] at ht1
        omega
    subst hy hg11
    rw [Nat.pow_zero, Nat.mul_one] at hup
    rw [show p + ((0 + 1 : Nat) : Int) = p + 1 from by omega]
    refine ⟨by decide, by decide, hup, ?_, fun h => absurd h (by decide)⟩
    intro o ho ho0 hco hlt
    have ho2 : o = 2 := by omega
    subst ho2
    have eA' : un fb size * 10 ^ (-(p + 1)).toNat = nA fb size (0 - (p + 1)) := by unfold nA; rw [show 0 - (p + 1) = -(p + 1) from by omega]
    have eB' : ∀ o, o * 10 ^ (p + 1).toNat * 2 ^ E = o * nB E (0 - (p + 1)) := fun o => by unfold nB; rw [show -(0 - (p + 1)) = p + 1 from by omega]; ac_rfl
    rw [eA', eB', eB'] at hlt
    have hz' : nA fb size (0 - (p + 1)) / nB E (0 - (p + 1)) = 0 := by rw [hLz]; omega
    have hlt' := (Nat.div_eq_zero_iff_lt hB').mp hz'
    unfold dst at hlt
    omega
end Mine

set_option exponentiation.threshold 5000
namespace Mine
/-- what unpack hands back is the number -/
theorem unpack_num {eb fb E size : Nat} (heb : eb ≤ 8) (hfb : fb ≤ 23) (h0 : 1 ≤ size) (ht : size < (2 ^ eb - 1) * 2 ^ fb) (hE : E ≤ 149) :
    (size / 2 ^ fb % 2 ^ eb = 0 → Num fb E size (size % 2 ^ fb) (-(E : Int)) ∧ 0 < size % 2 ^ fb ∧ size % 2 ^ fb < 2 ^ 24) ∧
    (¬ size / 2 ^ fb % 2 ^ eb = 0 → Num fb E size (2 ^ fb + size % 2 ^ fb) (-(E : Int) + (size / 2 ^ fb % 2 ^ eb : Nat) - 1) ∧ 0 < 2 ^ fb + size % 2 ^ fb ∧ 2 ^ fb + size % 2 ^ fb < 2 ^ 24 ∧ (-149 ≤ -(E : Int) + (size / 2 ^ fb % 2 ^ eb : Nat) - 1) ∧ -(E : Int) + (size / 2 ^ fb % 2 ^ eb : Nat) - 1 ≤ 255) := by
  have hp : 0 < 2 ^ fb := Nat.pow_pos (by decide)
  have hf : 2 ^ fb ≤ 2 ^ 23 := Nat.pow_le_pow_right (by decide) hfb
  have he : 2 ^ eb ≤ 2 ^ 8 := Nat.pow_le_pow_right (by decide) heb
  have hq : size / 2 ^ fb < 2 ^ eb - 1 := (Nat.div_lt_iff_lt_mul hp).mpr ht
  have hm : size / 2 ^ fb % 2 ^ eb = size / 2 ^ fb := Nat.mod_eq_of_lt (Nat.lt_of_lt_of_le hq (Nat.sub_le _ _))
  have hr := Nat.mod_lt size hp
  have hdm := Nat.div_add_mod size (2 ^ fb)
  rw [hm]
  constructor
  · intro hz
    refine ⟨⟨0, by omega, ?_⟩, ?_, by omega⟩
    · unfold un; rw [if_pos hz, Nat.pow_zero, Nat.mul_one]
    · rw [hz, Nat.mul_zero, Nat.zero_add] at hdm; omega
  · intro hz
    refine ⟨⟨size / 2 ^ fb - 1, ?_, ?_⟩, by omega, by omega, ?_, ?_⟩
    · generalize size / 2 ^ fb = x at *; omega
    · unfold un; rw [if_neg hz]
    · generalize size / 2 ^ fb = x at *; omega
    · generalize size / 2 ^ fb = x at *; omega
theorem cd_rnd {eb fb E size g : Nat} {p : Int} (hf : 1 ≤ fb) (h0 : 1 ≤ size) (ht : size < (2 ^ eb - 1) * 2 ^ fb) : rnd fb ((2 ^ eb - 1) * 2 ^ fb) (g * 10 ^ p.toNat * 2 ^ E) (10 ^ (-p).toNat) = size ↔ Cd fb E size g p :=
  rnd_iff hf (Nat.pow_pos (by decide)) h0 ht
/-- the search comes to an end -/
theorem deep_end {fb E size m : Nat} {e p : Int} (h : Num fb E size m e) (hs : 1 ≤ size) (hE : E ≤ 149) (hn : ¬ Cd fb E size (sf m e (0 - p)) p) : -151 < p := by
  rcases (show p ≤ -151 ∨ -151 < p by omega) with hp | hp
  · exfalso
    refine hn ?_
    rw [sf_num h]
    refine (cd_deep hs (by omega) ?_).1
    have h1 : 2 ^ (E + 1) ≤ 2 ^ 150 := Nat.pow_le_pow_right (by decide) (by omega)
    have h2 : 10 ^ 151 ≤ 10 ^ (0 - p).toNat := Nat.pow_le_pow_right (by decide) (by omega)
    have h3 : 2 ^ 150 ≤ 10 ^ 151 := by decide
    omega
  · exact hp
/-- the lower candidate, at or below the place, is not nought -/
theorem low_pos {m c : Nat} {e place : Int} (hdp : DP m e place) : 0 < sf m e (0 - (place - (c : Int))) := by
  induction c with
  | zero => have := hdp.1; rw [show place - ((0 : Nat) : Int) = place from by omega]; omega
  | succ c ih =>
    have := sf_pred m e (0 - (place - ((c + 1 : Nat) : Int)))
    rw [show 0 - (place - ((c + 1 : Nat) : Int)) - 1 = 0 - (place - (c : Int)) from by omega] at this
    omega
/-- how large digits are -/
theorem dig_bd {m : Nat} {e p : Int} (hm : m < 2 ^ 24) (he : -149 ≤ e) (he2 : e ≤ 255) (hp : -160 ≤ p) (hl : 0 < sf m e (0 - p)) : (sf m e (0 - p) + 1) * 10 ^ p.toNat < 2 ^ 950 := by
  have hle : sf m e (0 - p) * su e (0 - p) ≤ so m e (0 - p) := Nat.div_mul_le_self _ _
  have h2 : (sf m e (0 - p) + 1) ≤ 2 * sf m e (0 - p) := by omega
  have hsu : 10 ^ p.toNat ≤ su e (0 - p) := by
    unfold su
    rw [show (-(0 - p)) = p from by omega]
    exact Nat.le_mul_of_pos_left _ (Nat.pow_pos (by decide))
  have hso : so m e (0 - p) < 2 ^ 24 * 2 ^ 255 * 2 ^ 640 := by
    unfold so
    have h3 : 10 ^ (0 - p).toNat ≤ 2 ^ 640 := by
      refine Nat.le_trans (Nat.pow_le_pow_left (by decide : 10 ≤ 2 ^ 4) _) ?_
      rw [← Nat.pow_mul]; exact Nat.pow_le_pow_right (by decide) (by omega)
    have h4 : 2 ^ e.toNat ≤ 2 ^ 255 := Nat.pow_le_pow_right (by decide) (by omega)
    have h5 : m * 2 ^ e.toNat < 2 ^ 24 * 2 ^ 255 := Nat.mul_lt_mul_of_lt_of_le hm h4 (Nat.pow_pos (by decide))
    exact Nat.mul_lt_mul_of_lt_of_le h5 h3 (Nat.pow_pos (by decide))
  have h6 : (sf m e (0 - p) + 1) * 10 ^ p.toNat ≤ 2 * sf m e (0 - p) * su e (0 - p) := Nat.mul_le_mul h2 hsu
  rw [Nat.mul_assoc] at h6
  have h7 : 2 ^ 24 * 2 ^ 255 * 2 ^ 640 * 2 ≤ 2 ^ 950 := by rw [← Nat.pow_add, ← Nat.pow_add, ← Nat.pow_succ]; exact Nat.pow_le_pow_right (by decide) (by decide)
  omega
theorem place_lo {m : Nat} {e place : Int} (hm : 0 < m) (he : -149 ≤ e) (hdp : DP m e place) : -151 ≤ place := by
  rcases (show place ≤ -152 ∨ -151 ≤ place by omega) with h | h
  case inr => exact h
  exfalso
  have h9 := hdp.2.1
  have hs := su_pos e (0 - place)
  have h10 : 10 ≤ sf m e (0 - place) := by
    unfold sf
    apply (Nat.le_div_iff_mul_le hs).mpr
    unfold so su
    rw [show (-(0 - place)).toNat = 0 from by omega, Nat.pow_zero, Nat.mul_one]
    have h1 : 10 ^ 152 ≤ 10 ^ (0 - place).toNat := Nat.pow_le_pow_right (by decide) (by omega)
    have h2 : 2 ^ (-e).toNat ≤ 2 ^ 149 := Nat.pow_le_pow_right (by decide) (by omega)
    have h3 : 1 * 10 ^ (0 - place).toNat ≤ m * 2 ^ e.toNat * 10 ^ (0 - place).toNat := Nat.mul_le_mul_right _ (Nat.mul_pos hm (Nat.pow_pos (by decide)))
    have h4 : 10 * 2 ^ 149 ≤ 10 ^ 152 := by decide
    omega
  omega
end Mine

set_option exponentiation.threshold 6000
namespace Mine
/-! figures -/
def AD (l : List Nat) : Prop := ∀ c ∈ l, 48 ≤ c ∧ c ≤ 57
def dval (l : List Nat) : Nat := l.foldl (fun acc c => acc * 10 + (c - 48)) 0
def digM (n : Nat) : List Nat := (Nat.toDigits 10 n).map Char.toNat
theorem AD.append {a b : List Nat} (ha : AD a) (hb : AD b) : AD (a ++ b) := fun c hc => (List.mem_append.mp hc).elim (ha c) (hb c)
theorem AD.zeros (n : Nat) : AD (List.replicate n 48) := fun c hc => by rw [(List.mem_replicate.mp hc).2]; exact ⟨by decide, by decide⟩
theorem AD.take {a : List Nat} (h : AD a) (n : Nat) : AD (a.take n) := fun c hc => h c (List.mem_of_mem_take hc)
theorem AD.drop {a : List Nat} (h : AD a) (n : Nat) : AD (a.drop n) := fun c hc => h c (List.mem_of_mem_drop hc)
theorem dval_from (l : List Nat) (a : Nat) : l.foldl (fun acc c => acc * 10 + (c - 48)) a = a * 10 ^ l.length + dval l := by
  induction l generalizing a with
  | nil => simp [dval]
  | cons c l ih =>
    unfold dval
    rw [List.foldl_cons, ih, List.foldl_cons, ih (0 * 10 + (c - 48)), List.length_cons, Nat.pow_succ]
    rw [Nat.add_mul, Nat.zero_mul, Nat.zero_add, Nat.mul_assoc, Nat.mul_comm 10 (10 ^ _)]
    omega
theorem dval_append (a b : List Nat) : dval (a ++ b) = dval a * 10 ^ b.length + dval b := by
  unfold dval
  rw [List.foldl_append, dval_from]; rfl
theorem dval_one (c : Nat) : dval [c] = c - 48 := by simp [dval]
theorem dval_zeros (n : Nat) : dval (List.replicate n 48) = 0 := by
  induction n with
  | zero => rfl
  | succ n ih =>
    rw [List.replicate_succ, show (48 :: List.replicate n 48) = [48] ++ List.replicate n 48 from rfl, dval_append, ih, dval_one]; simp
theorem dval_lt (l : List Nat) (h : AD l) : dval l < 10 ^ l.length := by
  induction l with
  | nil => simp [dval]
  | cons c l ih =>
    have := ih fun x hx => h x (List.mem_cons_of_mem _ hx)
    have hc := h c List.mem_cons_self
    rw [show c :: l = [c] ++ l from rfl, dval_append, dval_one, List.length_append, Nat.pow_add]
    show (c - 48) * 10 ^ l.length + dval l < 10 ^ 1 * 10 ^ l.length
    have h2 : (c - 48 + 1) * 10 ^ l.length ≤ 10 ^ 1 * 10 ^ l.length := Nat.mul_le_mul_right _ (by omega)
    rw [Nat.add_mul, Nat.one_mul] at h2
    omega
theorem digitChar_ok : ∀ d : Nat, d < 10 → (Nat.digitChar d).toNat = 48 + d := by decide
theorem dig_small {n : Nat} (h : n < 10) : digM n = [48 + n] := by
  unfold digM; rw [Nat.toDigits_of_lt_base h, List.map_cons, List.map_nil, digitChar_ok n h]
theorem dig_step {n : Nat} (h : 10 ≤ n) : digM n = digM (n / 10) ++ [48 + n % 10] := by
  have hm : n % 10 < 10 := Nat.mod_lt n (by decide)
  have t : Nat.toDigits 10 (n / 10) ++ Nat.toDigits 10 (n % 10) = Nat.toDigits 10 (10 * (n / 10) + n % 10) := Nat.toDigits_append_toDigits (by decide) (by omega) hm
  rw [Nat.div_add_mod] at t
  unfold digM
  rw [← t, List.map_append, Nat.toDigits_of_lt_base hm, List.map_cons, List.map_nil, digitChar_ok _ hm]
theorem dig_ok (n : Nat) : AD (digM n) ∧ dval (digM n) = n ∧ digM n ≠ [] ∧ (0 < n → (digM n).head? ≠ some 48 ∧ 10 ^ ((digM n).length - 1) ≤ n) := by
  induction n using Nat.strongRecOn with
  | _ n ih =>
    by_cases h : n < 10
    · rw [dig_small h]
      refine ⟨fun c hc => ?_, ?_, by simp, fun h0 => ⟨?_, ?_⟩⟩
      · rw [List.mem_singleton.mp hc]; omega
      · rw [dval_one]; omega
      · simp; omega
      · simp; omega
    · obtain ⟨i1, i2, i3, i4⟩ := ih (n / 10) (by omega)
      rw [dig_step (by omega)]
      refine ⟨i1.append fun c hc => ?_, ?_, by simp, fun h0 => ⟨?_, ?_⟩⟩
      · rw [List.mem_singleton.mp hc]; omega
      · rw [dval_append, i2, dval_one]; simp; omega
      · obtain ⟨j1, _⟩ := i4 (by omega)
        obtain ⟨x, r, e⟩ := List.exists_cons_of_ne_nil i3
        rw [e] at j1 ⊢
        simpa using j1
      · obtain ⟨_, j2⟩ := i4 (by omega)
        have hl : 1 ≤ (digM (n / 10)).length := List.length_pos_iff.mpr i3
        rw [List.length_append, List.length_singleton, Nat.add_sub_cancel]
        obtain ⟨k, hk⟩ : ∃ k, (digM (n / 10)).length = k + 1 := ⟨(digM (n / 10)).length - 1, by omega⟩
        rw [hk, Nat.add_sub_cancel] at j2
        rw [hk, Nat.pow_succ]
        have : 10 ^ k * 10 ≤ n / 10 * 10 := Nat.mul_le_mul_right _ j2
        omega
theorem dig_len {n k : Nat} (hk : 1 ≤ k) (h : n < 10 ^ k) : (digM n).length ≤ k := by
  rcases Nat.eq_zero_or_pos n with h0 | h0
  · subst h0; rw [dig_small (by decide)]; exact hk
  · have := (dig_ok n).2.2.2 h0
    have h2 := (Nat.pow_lt_pow_iff_right (by decide : 1 < 10)).mp (Nat.lt_of_le_of_lt this.2 h)
    omega
/-- the text of an int -/
def istr (p : Int) : List Nat := if p < 0 then 45 :: digM (-p).toNat else digM p.toNat
/-- the decimal place of the first figure -/
def plc (d : Nat) (P : Int) : Int := ((digM d).length : Int) + P - 1
/-- placed_text -/
def ptext (d : Nat) (P : Int) : List Nat :=
  if plc d P < -4 ∨ 9 ≤ plc d P then (digM d).take 1 ++ 46 :: (if (digM d).drop 1 = [] then [48] else (digM d).drop 1) ++ 69 :: istr (plc d P)
  else if 0 ≤ P then digM d ++ List.replicate P.toNat 48 ++ [46, 48]
  else if 0 ≤ plc d P then (digM d).take (plc d P + 1).toNat ++ 46 :: (digM d).drop (plc d P + 1).toNat
  else [48, 46] ++ List.replicate (-plc d P - 1).toNat 48 ++ digM d

/-- a text by its parts: before and behind the point, the exponent -/
structure PTx (t : List Nat) (d : Nat) (P : Int) (bf bh : List Nat) (sc : Bool) (p0 : Int) (k : Nat) : Prop where
  eq : t = bf ++ 46 :: (bh ++ (if sc = true then 69 :: istr p0 else []))
  ad1 : AD bf
  ad2 : AD bh
  n1 : bf ≠ []
  n2 : bh ≠ []
  val : dval (bf ++ bh) = d * 10 ^ k
  pw : p0 - (bh.length : Int) = P - (k : Int)
  sci : sc = decide (plc d P < -4 ∨ 9 ≤ plc d P)
  one : sc = true → bf.length = 1 ∧ bf ≠ [48]
  p0z : sc = false → p0 = 0
  p0e : sc = true → p0 = plc d P
  kk : k ≤ 1 ∨ (sc = false ∧ 0 ≤ P ∧ k = P.toNat + 1)

theorem pt_ok {d : Nat} {P : Int} (hd : 0 < d) : ∃ bf bh sc p0 k, PTx (ptext d P) d P bf bh sc p0 k := by
  obtain ⟨a1, a2, a3, a4⟩ := dig_ok d
  obtain ⟨a4, _⟩ := a4 hd
  have hl : 1 ≤ (digM d).length := List.length_pos_iff.mpr a3
  have hplc : plc d P = ((digM d).length : Int) + P - 1 := rfl
  unfold ptext
  by_cases h1 : plc d P < -4 ∨ 9 ≤ plc d P
  · rw [if_pos h1]
    obtain ⟨x, r, e⟩ := List.exists_cons_of_ne_nil a3
    have hx : x ≠ 48 := by rw [e] at a4; simpa using a4
    refine ⟨[x], if r = [] then [48] else r, true, plc d P, if r = [] then 1 else 0, ?_⟩
    have hx2 : AD [x] := fun c hc => a1 c (by rw [e, List.mem_singleton.mp hc]; exact List.mem_cons_self)
    have hr2 : AD r := fun c hc => a1 c (by rw [e]; exact List.mem_cons_of_mem _ hc)
    refine ⟨?_, hx2, ?_, by simp, ?_, ?_, ?_, (decide_eq_true h1).symm, fun _ => ⟨rfl, by simpa using hx⟩, fun h => absurd h (by decide), fun _ => rfl, .inl (by split <;> decide)⟩
    · rw [e]; simp
    · split
      · exact AD.zeros 1
      · exact hr2
    · split
      · simp
      · assumption
    · by_cases hr : r = []
      · rw [if_pos hr, if_pos hr]
        rw [hr] at e
        rw [dval_append, ← e, a2]; rfl
      · rw [if_neg hr, if_neg hr]
        show dval (x :: r) = _
        rw [← e, a2]; simp
    · rw [e] at hplc
      by_cases hr : r = []
      · rw [if_pos hr, if_pos hr]; subst hr; simp at hplc ⊢; omega
      · rw [if_neg hr, if_neg hr]; simp at hplc ⊢; omega
  · rw [if_neg h1]
    by_cases h2 : 0 ≤ P
    · rw [if_pos h2]
      refine ⟨digM d ++ List.replicate P.toNat 48, [48], false, 0, P.toNat + 1, by simp, a1.append (AD.zeros _), AD.zeros 1, by simp [a3], by simp, ?_, ?_, (decide_eq_false h1).symm, fun h => absurd h (by decide), fun _ => rfl, fun h => absurd h (by decide), .inr ⟨rfl, h2, rfl⟩⟩
      · rw [dval_append, dval_append, dval_zeros, a2, dval_one, List.length_replicate, List.length_singleton, Nat.pow_succ]; simp [Nat.mul_assoc, Nat.pow_succ]
      · simp; omega
    · rw [if_neg h2]
      by_cases h3 : 0 ≤ plc d P
      · rw [if_pos h3]
        have hlt : (plc d P + 1).toNat < (digM d).length := by omega
        refine ⟨(digM d).take (plc d P + 1).toNat, (digM d).drop (plc d P + 1).toNat, false, 0, 0, by simp, a1.take _, a1.drop _, ?_, ?_, ?_, ?_, (decide_eq_false h1).symm, fun h => absurd h (by decide), fun _ => rfl, fun h => absurd h (by decide), .inl (by decide)⟩
        · intro e
          have := congrArg List.length e
          rw [List.length_take, List.length_nil] at this; omega
        · intro e
          have := congrArg List.length e
          rw [List.length_drop, List.length_nil] at this; omega
        · rw [List.take_append_drop, a2]; simp
        · rw [List.length_drop]; omega
      · rw [if_neg h3]
        refine ⟨[48], List.replicate (-plc d P - 1).toNat 48 ++ digM d, false, 0, 0, by simp, AD.zeros 1, (AD.zeros _).append a1, by simp, by simp [a3], ?_, ?_, (decide_eq_false h1).symm, fun h => absurd h (by decide), fun _ => rfl, fun h => absurd h (by decide), .inl (by decide)⟩
        · rw [dval_append, dval_append, dval_zeros, a2, dval_one]; simp
        · rw [List.length_append, List.length_replicate]; omega
/-- striking noughts is one way -/
theorem strip_one {d g k z : Nat} (hd : ¬ d % 10 = 0) (hg : ¬ g % 10 = 0) (h : d * 10 ^ k = g * 10 ^ z) : d = g ∧ k = z := by
  induction k generalizing z with
  | zero =>
    cases z with
    | zero => simpa using h
    | succ z =>
      exfalso
      rw [Nat.pow_zero, Nat.mul_one, Nat.pow_succ, ← Nat.mul_assoc] at h
      omega
  | succ k ih =>
    cases z with
    | zero =>
      exfalso
      rw [Nat.pow_zero, Nat.mul_one, Nat.pow_succ, ← Nat.mul_assoc] at h
      omega
    | succ z =>
      rw [Nat.pow_succ, Nat.pow_succ, ← Nat.mul_assoc, ← Nat.mul_assoc] at h
      obtain ⟨e1, e2⟩ := ih (Nat.eq_of_mul_eq_mul_right (by decide) h)
      exact ⟨e1, by omega⟩
theorem istr_len {p : Int} (h : p.natAbs < 10 ^ 4) : (istr p).length ≤ 5 := by
  unfold istr
  split
  · rw [List.length_cons]; have := dig_len (n := (-p).toNat) (k := 4) (by decide) (by omega); omega
  · have := dig_len (n := p.toNat) (k := 4) (by decide) (by omega); omega
end Mine

set_option exponentiation.threshold 6000
namespace Mine
theorem un_bd {eb fb size : Nat} (heb : eb ≤ 8) (heb1 : 1 ≤ eb) (hfb : fb ≤ 23) (h : size ≤ (2 ^ eb - 1) * 2 ^ fb) : un fb size ≤ 2 ^ 278 := by
  have h1 : 2 ^ 1 ≤ 2 ^ eb := Nat.pow_le_pow_right (by decide) heb1
  have h2 : 2 ^ eb ≤ 2 ^ 8 := Nat.pow_le_pow_right (by decide) heb
  have e : (2 ^ eb - 1) * 2 ^ fb = (2 ^ eb - 2) * 2 ^ fb + 2 ^ fb := by
    rw [show 2 ^ eb - 1 = (2 ^ eb - 2) + 1 from by omega, Nat.add_mul, Nat.one_mul]
  refine Nat.le_trans (un_le (fb := fb) h) ?_
  rw [e, un_row (Nat.le_refl _) (by omega), ← Nat.pow_add]
  exact Nat.pow_le_pow_right (by decide) (by omega)
theorem cd_size {eb fb E size d : Nat} {P : Int} (heb : eb ≤ 8) (heb1 : 1 ≤ eb) (hfb : fb ≤ 23) (h : size < (2 ^ eb - 1) * 2 ^ fb) (hc : Cd fb E size d P) (hP : 0 ≤ P) : d * 10 ^ P.toNat < 2 ^ 280 := by
  have h1 := (Ins.le hc).2
  rw [show (-P).toNat = 0 from by omega, Nat.pow_zero, Nat.mul_one] at h1
  have h2 := un_bd (fb := fb) heb heb1 hfb (show size + 1 ≤ _ by omega)
  have h3 := un_le (fb := fb) (Nat.le_succ size)
  have h4 : d * 10 ^ P.toNat * 1 ≤ d * 10 ^ P.toNat * 2 ^ E := Nat.mul_le_mul_left _ (Nat.pow_pos (by decide))
  have : (2 : Nat) ^ 280 = 4 * 2 ^ 278 := by decide
  have : 0 < (2 : Nat) ^ 278 := Nat.pow_pos (by decide)
  have h5 : un fb (size.succ) = un fb (size + 1) := rfl
  omega
theorem cd_P {eb fb E size d : Nat} {P : Int} (heb : eb ≤ 8) (heb1 : 1 ≤ eb) (hfb : fb ≤ 23) (h : size < (2 ^ eb - 1) * 2 ^ fb) (hc : Cd fb E size d P) (hd : 0 < d) : P ≤ 280 := by
  rcases Int.lt_or_le P 0 with h0 | h0
  · omega
  · have h1 := cd_size heb heb1 hfb h hc h0
    have h2 : 2 ^ P.toNat ≤ 10 ^ P.toNat := Nat.pow_le_pow_left (by decide) _
    have h3 : 1 * 10 ^ P.toNat ≤ d * 10 ^ P.toNat := Nat.mul_le_mul_right _ hd
    have := (Nat.pow_lt_pow_iff_right (by decide : 1 < 2)).mp (Nat.lt_of_le_of_lt (Nat.le_trans h2 (by omega)) h1)
    omega
/-- the text by its parts is read as the number -/
theorem read_num {eb fb E size d k : Nat} {P : Int} (heb : eb ≤ 8) (heb1 : 1 ≤ eb) (hf1 : 1 ≤ fb) (hfb : fb ≤ 23) (h0 : 1 ≤ size) (h : size < (2 ^ eb - 1) * 2 ^ fb) (hc : Cd fb E size d P) (hd0 : 0 < d) (hd : d < 2 ^ 950) (hP : -151 ≤ P)
    (hk : k ≤ 1 ∨ (0 ≤ P ∧ k = P.toNat + 1)) :
    (0 ≤ P - (k : Int) → d * 10 ^ k * 10 ^ (P - (k : Int)).toNat < 2 ^ 2000 ∧ rnd fb ((2 ^ eb - 1) * 2 ^ fb) (d * 10 ^ k * 10 ^ (P - (k : Int)).toNat * 2 ^ E) 1 = size) ∧
    (¬ 0 ≤ P - (k : Int) → d * 10 ^ k < 2 ^ 2000 ∧ 10 ^ (0 - (P - (k : Int))).toNat < 2 ^ 2000 ∧ rnd fb ((2 ^ eb - 1) * 2 ^ fb) (d * 10 ^ k * 2 ^ E) (10 ^ (0 - (P - (k : Int))).toNat) = size) := by
  have hP2 := cd_P heb heb1 hfb h hc hd0
  have p10 : ∀ n : Nat, n ≤ 400 → 10 ^ n < 2 ^ 1601 := fun n hn => by
    refine Nat.lt_of_le_of_lt (Nat.pow_le_pow_left (by decide : 10 ≤ 2 ^ 4) n) ?_
    rw [← Nat.pow_mul]
    exact Nat.pow_lt_pow_right (by decide) (by omega)
  constructor
  · intro hp
    have e : d * 10 ^ k * 10 ^ (P - (k : Int)).toNat = d * 10 ^ P.toNat := by rw [Nat.mul_assoc, ← Nat.pow_add]; congr 2; omega
    rw [e]
    refine ⟨Nat.lt_trans (cd_size heb heb1 hfb h hc (by omega)) (Nat.pow_lt_pow_right (by decide) (by decide)), ?_⟩
    refine (rnd_iff hf1 (by decide) h0 h).mpr ?_
    unfold Cd at hc
    rwa [show (-P).toNat = 0 from by omega, Nat.pow_zero] at hc
  · intro hp
    refine ⟨?_, Nat.lt_trans (p10 _ (by omega)) (Nat.pow_lt_pow_right (by decide) (by decide)), ?_⟩
    · rcases hk with hk | ⟨hk, ek⟩
      · have h1 : 10 ^ k ≤ 10 ^ 1 := Nat.pow_le_pow_right (by decide) hk
        have h2 : d * 10 ^ k ≤ d * 10 ^ 1 := Nat.mul_le_mul_left _ h1
        have h3 : (2 : Nat) ^ 950 * 10 < 2 ^ 2000 := by decide
        omega
      · have h1 := cd_size heb heb1 hfb h hc hk
        have h2 : d * 10 ^ k = d * 10 ^ P.toNat * 10 := by rw [ek, Nat.pow_succ, Nat.mul_assoc]
        have h3 : (2 : Nat) ^ 280 * 10 < 2 ^ 2000 := by decide
        omega
    · refine (rnd_iff hf1 (Nat.pow_pos (by decide)) h0 h).mpr ?_
      refine (Ins.cross (Nat.pow_pos (by decide)) (Nat.pow_pos (by decide)) ?_).mp hc
      have e : 10 ^ P.toNat * 10 ^ (0 - (P - (k : Int))).toNat = 10 ^ k * 10 ^ (-P).toNat := by rw [← Nat.pow_add, ← Nat.pow_add]; congr 1; omega
      calc d * 10 ^ P.toNat * 2 ^ E * 10 ^ (0 - (P - (k : Int))).toNat = d * 2 ^ E * (10 ^ P.toNat * 10 ^ (0 - (P - (k : Int))).toNat) := by ac_rfl
        _ = d * 2 ^ E * (10 ^ k * 10 ^ (-P).toNat) := by rw [e]
        _ = d * 10 ^ k * 2 ^ E * 10 ^ (-P).toNat := by ac_rfl
theorem ptext_len {d : Nat} {P : Int} (hl3 : (digM d).length ≤ 300) (hil : (istr (plc d P)).length ≤ 5) : (ptext d P).length ≤ 400 := by
  unfold ptext
  split
  · simp only [List.length_append, List.length_cons, List.length_take]; split <;> simp <;> omega
  · rename_i hq
    split
    · simp; unfold plc at hq; omega
    · split
      · simp; omega
      · simp; omega
end Mine

open PySem PySem.W PyProof.Rows
set_option maxHeartbeats 8000000
namespace Mine
/-- the body of a def of the program, by its place -/
def lawBody (i : Nat) : List Stmt := match PySem.Challenge.pw_pb0344_01.main.body[i]? with
  | some (.FunctionDef _ _ b _ _ _ _ _ _ _) => b
  | _ => []
def lawMethod (i j : Nat) : List Stmt := match PySem.Challenge.pw_pb0344_01.main.body[i]? with
  | some (.ClassDef _ _ _ b _ _ _ _ _ _ _) => (match b[j]? with
    | some (.FunctionDef _ _ c _ _ _ _ _ _ _) => c
    | _ => [])
  | _ => []
noncomputable def lawView : Program := { PySem.Challenge.pw_pb0344_01 with main := { PySem.Challenge.pw_pb0344_01.main with body := [1, 2, 3, 4, 5, 6, 7, 8, 9, 10, 11, 12, 13, 16, 19, 20, 21, 22, 23, 24, 25, 26, 27, 28, 29, 30, 31, 32, 34, 35, 36, 37, 38, 39, 40].filterMap fun i => PySem.Challenge.pw_pb0344_01.main.body[i]? } }
/-- the objects that the top makes or turns -/
noncomputable def lawHeap : Params → Frag :=

fun P => [(2, { cls := Value.none, data := Data.dict #[] }),
  (3, { cls := Value.type "dict", data := Data.dict #[{ hash := PyData.keyHash P (Str.ofString "__name__"), key := Value.str (Str.ofString "__name__") 165, val := Value.str (Str.ofString "law_pb0344_01") 522 }, { hash := PyData.keyHash P (Str.ofString "__doc__"), key := Value.str (Str.ofString "__doc__") 166, val := Value.none }, { hash := PyData.keyHash P (Str.ofString "__package__"), key := Value.str (Str.ofString "__package__") 167, val := Value.none }, { hash := PyData.keyHash P (Str.ofString "__loader__"), key := Value.str (Str.ofString "__loader__") 168, val := Value.builtin "__main__.__loader__#opaque" }, { hash := PyData.keyHash P (Str.ofString "__spec__"), key := Value.str (Str.ofString "__spec__") 169, val := Value.none }, { hash := PyData.keyHash P (Str.ofString "__annotations__"), key := Value.str (Str.ofString "__annotations__") 170, val := Value.ref 6 }, { hash := PyData.keyHash P (Str.ofString "__builtins__"), key := Value.str (Str.ofString "__builtins__") 171, val := Value.ref 4 }, { hash := PyData.keyHash P (Str.ofString "__file__"), key := Value.str (Str.ofString "__file__") 173, val := Value.str (Str.ofString "/claim/cut.py") 172 }, { hash := PyData.keyHash P (Str.ofString "__cached__"), key := Value.str (Str.ofString "__cached__") 174, val := Value.none }, { hash := PyData.keyHash P (Str.ofString "RealForm"), key := Value.str (Str.ofString "RealForm") 223, val := Value.ref 31 }, { hash := PyData.keyHash P (Str.ofString "join_fields"), key := Value.str (Str.ofString "join_fields") 233, val := Value.ref 42 }, { hash := PyData.keyHash P (Str.ofString "split_fields"), key := Value.str (Str.ofString "split_fields") 243, val := Value.ref 49 }, { hash := PyData.keyHash P (Str.ofString "infinity"), key := Value.str (Str.ofString "infinity") 251, val := Value.ref 56 }, { hash := PyData.keyHash P (Str.ofString "not_a_number"), key := Value.str (Str.ofString "not_a_number") 258, val := Value.ref 63 }, { hash := PyData.keyHash P (Str.ofString "signed_zero"), key := Value.str (Str.ofString "signed_zero") 266, val := Value.ref 70 }, { hash := PyData.keyHash P (Str.ofString "is_not_a_number"), key := Value.str (Str.ofString "is_not_a_number") 277, val := Value.ref 77 }, { hash := PyData.keyHash P (Str.ofString "is_infinite"), key := Value.str (Str.ofString "is_infinite") 288, val := Value.ref 84 }, { hash := PyData.keyHash P (Str.ofString "is_zero"), key := Value.str (Str.ofString "is_zero") 296, val := Value.ref 91 }, { hash := PyData.keyHash P (Str.ofString "sign_of"), key := Value.str (Str.ofString "sign_of") 304, val := Value.ref 98 }, { hash := PyData.keyHash P (Str.ofString "unpack"), key := Value.str (Str.ofString "unpack") 315, val := Value.ref 105 }, { hash := PyData.keyHash P (Str.ofString "bit_count"), key := Value.str (Str.ofString "bit_count") 324, val := Value.ref 112 }, { hash := PyData.keyHash P (Str.ofString "round_shift"), key := Value.str (Str.ofString "round_shift") 336, val := Value.ref 119 }, { hash := PyData.keyHash P (Str.ofString "pack"), key := Value.str (Str.ofString "pack") 350, val := Value.ref 127 }, { hash := PyData.keyHash P (Str.ofString "absolute_real"), key := Value.str (Str.ofString "absolute_real") 363, val := Value.ref 134 }, { hash := PyData.keyHash P (Str.ofString "from_ratio"), key := Value.str (Str.ofString "from_ratio") 378, val := Value.ref 142 }, { hash := PyData.keyHash P (Str.ofString "MOST_EXPONENT"), key := Value.str (Str.ofString "MOST_EXPONENT") 382, val := Value.int 4000 381 }, { hash := PyData.keyHash P (Str.ofString "scaled_floor"), key := Value.str (Str.ofString "scaled_floor") 394, val := Value.ref 149 }, { hash := PyData.keyHash P (Str.ofString "decimal_place"), key := Value.str (Str.ofString "decimal_place") 403, val := Value.ref 156 }, { hash := PyData.keyHash P (Str.ofString "read_back"), key := Value.str (Str.ofString "read_back") 412, val := Value.ref 163 }, { hash := PyData.keyHash P (Str.ofString "is_upper_nearer"), key := Value.str (Str.ofString "is_upper_nearer") 424, val := Value.ref 170 }, { hash := PyData.keyHash P (Str.ofString "shortest_digits"), key := Value.str (Str.ofString "shortest_digits") 441, val := Value.ref 177 }, { hash := PyData.keyHash P (Str.ofString "without_zeros"), key := Value.str (Str.ofString "without_zeros") 449, val := Value.ref 184 }, { hash := PyData.keyHash P (Str.ofString "placed_text"), key := Value.str (Str.ofString "placed_text") 460, val := Value.ref 191 }, { hash := PyData.keyHash P (Str.ofString "write_real"), key := Value.str (Str.ofString "write_real") 471, val := Value.ref 198 }, { hash := PyData.keyHash P (Str.ofString "digit_end"), key := Value.str (Str.ofString "digit_end") 479, val := Value.ref 205 }, { hash := PyData.keyHash P (Str.ofString "digits_value"), key := Value.str (Str.ofString "digits_value") 488, val := Value.ref 212 }, { hash := PyData.keyHash P (Str.ofString "read_exponent"), key := Value.str (Str.ofString "read_exponent") 498, val := Value.ref 219 }, { hash := PyData.keyHash P (Str.ofString "read_decimal"), key := Value.str (Str.ofString "read_decimal") 512, val := Value.ref 226 }, { hash := PyData.keyHash P (Str.ofString "read_real"), key := Value.str (Str.ofString "read_real") 521, val := Value.ref 233 }, { hash := PyData.keyHash P (Str.ofString "_law_digit"), key := Value.str (Str.ofString "_law_digit") 536, val := Value.ref 240 }, { hash := PyData.keyHash P (Str.ofString "_law_wide"), key := Value.str (Str.ofString "_law_wide") 546, val := Value.ref 247 }, { hash := PyData.keyHash P (Str.ofString "_law_units"), key := Value.str (Str.ofString "_law_units") 556, val := Value.ref 254 }, { hash := PyData.keyHash P (Str.ofString "_law_taken"), key := Value.str (Str.ofString "_law_taken") 571, val := Value.ref 261 }, { hash := PyData.keyHash P (Str.ofString "_law_side"), key := Value.str (Str.ofString "_law_side") 586, val := Value.ref 268 }, { hash := PyData.keyHash P (Str.ofString "_law_shortest"), key := Value.str (Str.ofString "_law_shortest") 606, val := Value.ref 275 }, { hash := PyData.keyHash P (Str.ofString "law"), key := Value.str (Str.ofString "law") 627, val := Value.ref 282 }] 46 }),
  (11, { cls := Value.type "tuple", data := Data.seq #[] }),
  (12, { cls := Value.none, data := Data.fields #[Value.int 2 0, Value.int 0 0, Value.ref 20, Value.int 11 0, Value.int 0 0, Value.ref 41, Value.int 13 0, Value.int 0 0, Value.ref 48, Value.int 17 0, Value.int 0 0, Value.ref 55, Value.int 19 0, Value.int 0 0, Value.ref 62, Value.int 21 0, Value.int 0 0, Value.ref 69, Value.int 23 0, Value.int 0 0, Value.ref 76, Value.int 26 0, Value.int 0 0, Value.ref 83, Value.int 29 0, Value.int 0 0, Value.ref 90, Value.int 31 0, Value.int 0 0, Value.ref 97, Value.int 33 0, Value.int 0 0, Value.ref 104, Value.int 38 0, Value.int 0 0, Value.ref 111, Value.int 49 0, Value.int 0 0, Value.ref 118, Value.int 58 0, Value.int 0 0, Value.ref 126, Value.int 73 0, Value.int 0 0, Value.ref 133, Value.int 78 0, Value.int 0 0, Value.ref 141, Value.int 85 0, Value.int 0 0, Value.ref 148, Value.int 98 0, Value.int 0 0, Value.ref 155, Value.int 105 0, Value.int 0 0, Value.ref 162, Value.int 109 0, Value.int 0 0, Value.ref 169, Value.int 114 0, Value.int 0 0, Value.ref 176, Value.int 128 0, Value.int 0 0, Value.ref 183, Value.int 133 0, Value.int 0 0, Value.ref 190, Value.int 146 0, Value.int 0 0, Value.ref 197, Value.int 156 0, Value.int 0 0, Value.ref 204, Value.int 160 0, Value.int 0 0, Value.ref 211, Value.int 165 0, Value.int 0 0, Value.ref 218, Value.int 180 0, Value.int 0 0, Value.ref 225, Value.int 201 0, Value.int 0 0, Value.ref 232, Value.int 212 0, Value.int 0 0, Value.ref 239, Value.int 225 0, Value.int 0 0, Value.ref 246, Value.int 231 0, Value.int 0 0, Value.ref 253, Value.int 236 0, Value.int 0 0, Value.ref 260, Value.int 249 0, Value.int 0 0, Value.ref 267, Value.int 259 0, Value.int 0 0, Value.ref 274, Value.int 275 0, Value.int 0 0, Value.ref 281] }),
  (13, { cls := Value.type "code", data := Data.fields #[Value.str (Str.ofString "<module>") 182, Value.str (Str.ofString "<module>") 183, Value.str (Str.ofString "/claim/cut.py") 184, Value.int 1 0, Value.int 0 0, Value.int 0 0, Value.int 0 0, Value.int 0 0, Value.ref 11, Value.bool false, Value.int 181 0, Value.ref 12, Value.none, Value.none, Value.none, Value.none, Value.int 185 0, Value.int 1 0, Value.str (Str.ofString "/claim/cut.py") 186] }),
  (14, { cls := Value.type "frame", slots := #[some (Value.ref 13), some (Value.ref 3), some (Value.ref 3), none, some (Value.str (Str.ofString "__main__") 164), none, some (Value.ref 0)] }),
  (15, { cls := Value.type "tuple", data := Data.seq #[] }),
  (16, { cls := Value.type "builtin_function_or_method", data := Data.fields #[Value.builtin "type.__prepare__", Value.type "type"] }),
  (17, { cls := Value.type "dict", data := Data.dict #[{ hash := PyData.keyHash P (Str.ofString "__module__"), key := Value.str (Str.ofString "__module__") 196, val := Value.str (Str.ofString "moduleyard.softbits") 187 }, { hash := PyData.keyHash P (Str.ofString "__qualname__"), key := Value.str (Str.ofString "__qualname__") 198, val := Value.str (Str.ofString "RealForm") 197 }, { hash := PyData.keyHash P (Str.ofString "__firstlineno__"), key := Value.str (Str.ofString "__firstlineno__") 200, val := Value.int 2 199 }, { hash := PyData.keyHash P (Str.ofString "__init__"), key := Value.str (Str.ofString "__init__") 209, val := Value.ref 28 }, { hash := PyData.keyHash P (Str.ofString "__static_attributes__"), key := Value.str (Str.ofString "__static_attributes__") 216, val := Value.ref 29 }] 5 }),
  (18, { cls := Value.type "tuple", data := Data.seq #[] }),
  (19, { cls := Value.none, data := Data.fields #[Value.int 4 0, Value.int 4 0, Value.ref 27] }),
  (20, { cls := Value.type "code", data := Data.fields #[Value.str (Str.ofString "RealForm") 191, Value.str (Str.ofString "RealForm") 192, Value.str (Str.ofString "/claim/cut.py") 193, Value.int 2 0, Value.int 0 0, Value.int 0 0, Value.int 0 0, Value.int 0 0, Value.ref 18, Value.bool false, Value.int 181 0, Value.ref 19, Value.none, Value.none, Value.none, Value.none, Value.int 194 0, Value.int 2 0, Value.str (Str.ofString "/claim/cut.py") 195] }),
  (21, { cls := Value.type "frame", slots := #[some (Value.ref 20), some (Value.ref 3), some (Value.ref 17), none, some (Value.str (Str.ofString "moduleyard.softbits") 187), none, some (Value.ref 0)] }),
  (22, { cls := Value.type "tuple", data := Data.seq #[] }),
  (23, { cls := Value.none, data := Data.fields #[] }),
  (24, { cls := Value.type "tuple", data := Data.seq #[Value.str (Str.ofString "self") 204, Value.str (Str.ofString "exponent_bits") 205, Value.str (Str.ofString "fraction_bits") 206] }),
  (25, { cls := Value.type "tuple", data := Data.seq #[] }),
  (26, { cls := Value.none, data := Data.func { name := Str.ofString "__init__", qualname := Str.ofString "RealForm.__init__", params := { posonlyargs := [], args := [{ arg := Str.ofString "self", annotation := none, pos := ⟨4, 17, 4, 21⟩ }, { arg := Str.ofString "exponent_bits", annotation := none, pos := ⟨4, 23, 4, 36⟩ }, { arg := Str.ofString "fraction_bits", annotation := none, pos := ⟨4, 38, 4, 51⟩ }], vararg := none, kwonlyargs := [], kw_defaults := [], kwarg := none, defaults := [] }, body := FuncBody.stmts (lawMethod 1 0), scope := { kind := ScopeKind.function, names := [(Str.ofString "self", NameKind.local), (Str.ofString "exponent_bits", NameKind.local), (Str.ofString "fraction_bits", NameKind.local)], isGenerator := false, isCoroutine := false }, globals := 0, closure := [], defaults := Value.none, kwdefaults := Value.none } }),
  (27, { cls := Value.type "code", data := Data.fields #[Value.str (Str.ofString "__init__") 201, Value.str (Str.ofString "RealForm.__init__") 202, Value.str (Str.ofString "/claim/cut.py") 203, Value.int 4 0, Value.int 3 0, Value.int 0 0, Value.int 0 0, Value.int 3 0, Value.ref 22, Value.bool true, Value.int 181 0, Value.ref 23, Value.none, Value.ref 24, Value.ref 25, Value.ref 26, Value.int 207 0, Value.int 4 0, Value.str (Str.ofString "/claim/cut.py") 208] }),
  (28, { cls := Value.type "function", data := Data.func { name := Str.ofString "__init__", qualname := Str.ofString "RealForm.__init__", params := { posonlyargs := [], args := [{ arg := Str.ofString "self", annotation := none, pos := ⟨4, 17, 4, 21⟩ }, { arg := Str.ofString "exponent_bits", annotation := none, pos := ⟨4, 23, 4, 36⟩ }, { arg := Str.ofString "fraction_bits", annotation := none, pos := ⟨4, 38, 4, 51⟩ }], vararg := none, kwonlyargs := [], kw_defaults := [], kwarg := none, defaults := [] }, body := FuncBody.stmts (lawMethod 1 0), scope := { kind := ScopeKind.function, names := [(Str.ofString "self", NameKind.local), (Str.ofString "exponent_bits", NameKind.local), (Str.ofString "fraction_bits", NameKind.local)], isGenerator := false, isCoroutine := false }, globals := 3, closure := [], defaults := Value.none, kwdefaults := Value.none, pyModule := Value.str (Str.ofString "moduleyard.softbits") 187, code := Value.ref 27 } }),
  (29, { cls := Value.type "tuple", data := Data.seq #[Value.str (Str.ofString "bias") 210, Value.str (Str.ofString "exponent_bits") 211, Value.str (Str.ofString "fraction_bits") 212, Value.str (Str.ofString "hidden") 213, Value.str (Str.ofString "least") 214, Value.str (Str.ofString "top") 215] }),
  (30, { cls := Value.type "dict", data := Data.dict #[{ hash := PyData.keyHash P (Str.ofString "__module__"), key := Value.str (Str.ofString "__module__") 196, val := Value.str (Str.ofString "moduleyard.softbits") 187 }, { hash := PyData.keyHash P (Str.ofString "__firstlineno__"), key := Value.str (Str.ofString "__firstlineno__") 200, val := Value.int 2 199 }, { hash := PyData.keyHash P (Str.ofString "__init__"), key := Value.str (Str.ofString "__init__") 209, val := Value.ref 28 }, { hash := PyData.keyHash P (Str.ofString "__static_attributes__"), key := Value.str (Str.ofString "__static_attributes__") 216, val := Value.ref 29 }, { hash := PyData.keyHash P (Str.ofString "__dict__"), key := Value.str (Str.ofString "__dict__") 218, val := Value.ref 32 }, { hash := PyData.keyHash P (Str.ofString "__weakref__"), key := Value.str (Str.ofString "__weakref__") 220, val := Value.ref 33 }, { hash := PyData.keyHash P (Str.ofString "__doc__"), key := Value.str (Str.ofString "__doc__") 221, val := Value.none }] 4 }),
  (31, { cls := Value.type "type", data := Data.cls { name := Str.ofString "RealForm", bases := [Value.type "object"], mro := [Value.ref 31, Value.type "object"], ns := 30, qualname := Str.ofString "RealForm" }, slots := #[none, none, some (Value.str (Str.ofString "RealForm") 189), some (Value.str (Str.ofString "RealForm") 197), some (Value.builtin "object.__new__"), some (Value.bool true)] }),
  (32, { cls := Value.type "getset_descriptor", data := Data.fields #[Value.str (Str.ofString "__dict__") 217, Value.ref 31, Value.builtin "function.__dict__", Value.builtin "function.__dict__#set"] }),
  (33, { cls := Value.type "getset_descriptor", data := Data.fields #[Value.str (Str.ofString "__weakref__") 219, Value.ref 31, Value.builtin "ExceptionGroup.__weakref__", Value.none] }),
  (34, { cls := Value.type "super", data := Data.fields #[Value.ref 31, Value.ref 31, Value.ref 31] }),
  (35, { cls := Value.type "builtin_function_or_method", data := Data.fields #[Value.builtin "object.__init_subclass__", Value.ref 31] }),
  (36, { cls := Value.type "tuple", data := Data.seq #[] }),
  (37, { cls := Value.none, data := Data.fields #[] }),
  (38, { cls := Value.type "tuple", data := Data.seq #[Value.str (Str.ofString "form") 227, Value.str (Str.ofString "sign") 228, Value.str (Str.ofString "exponent") 229, Value.str (Str.ofString "fraction") 230] }),
  (39, { cls := Value.type "tuple", data := Data.seq #[] }),
  (40, { cls := Value.none, data := Data.func { name := Str.ofString "join_fields", qualname := Str.ofString "join_fields", params := { posonlyargs := [], args := [{ arg := Str.ofString "form", annotation := none, pos := ⟨11, 16, 11, 20⟩ }, { arg := Str.ofString "sign", annotation := none, pos := ⟨11, 22, 11, 26⟩ }, { arg := Str.ofString "exponent", annotation := none, pos := ⟨11, 28, 11, 36⟩ }, { arg := Str.ofString "fraction", annotation := none, pos := ⟨11, 38, 11, 46⟩ }], vararg := none, kwonlyargs := [], kw_defaults := [], kwarg := none, defaults := [] }, body := FuncBody.stmts (lawBody 2), scope := { kind := ScopeKind.function, names := [(Str.ofString "form", NameKind.local), (Str.ofString "sign", NameKind.local), (Str.ofString "exponent", NameKind.local), (Str.ofString "fraction", NameKind.local)], isGenerator := false, isCoroutine := false }, globals := 0, closure := [], defaults := Value.none, kwdefaults := Value.none } }),
  (41, { cls := Value.type "code", data := Data.fields #[Value.str (Str.ofString "join_fields") 224, Value.str (Str.ofString "join_fields") 225, Value.str (Str.ofString "/claim/cut.py") 226, Value.int 11 0, Value.int 4 0, Value.int 0 0, Value.int 0 0, Value.int 3 0, Value.ref 36, Value.bool true, Value.int 181 0, Value.ref 37, Value.none, Value.ref 38, Value.ref 39, Value.ref 40, Value.int 231 0, Value.int 11 0, Value.str (Str.ofString "/claim/cut.py") 232] }),
  (42, { cls := Value.type "function", data := Data.func { name := Str.ofString "join_fields", qualname := Str.ofString "join_fields", params := { posonlyargs := [], args := [{ arg := Str.ofString "form", annotation := none, pos := ⟨11, 16, 11, 20⟩ }, { arg := Str.ofString "sign", annotation := none, pos := ⟨11, 22, 11, 26⟩ }, { arg := Str.ofString "exponent", annotation := none, pos := ⟨11, 28, 11, 36⟩ }, { arg := Str.ofString "fraction", annotation := none, pos := ⟨11, 38, 11, 46⟩ }], vararg := none, kwonlyargs := [], kw_defaults := [], kwarg := none, defaults := [] }, body := FuncBody.stmts (lawBody 2), scope := { kind := ScopeKind.function, names := [(Str.ofString "form", NameKind.local), (Str.ofString "sign", NameKind.local), (Str.ofString "exponent", NameKind.local), (Str.ofString "fraction", NameKind.local)], isGenerator := false, isCoroutine := false }, globals := 3, closure := [], defaults := Value.none, kwdefaults := Value.none, pyModule := Value.str (Str.ofString "moduleyard.softbits") 187, code := Value.ref 41 } }),
  (43, { cls := Value.type "tuple", data := Data.seq #[] }),
  (44, { cls := Value.none, data := Data.fields #[] }),
  (45, { cls := Value.type "tuple", data := Data.seq #[Value.str (Str.ofString "form") 237, Value.str (Str.ofString "bits") 238, Value.str (Str.ofString "fraction") 239, Value.str (Str.ofString "upper") 240] }),
  (46, { cls := Value.type "tuple", data := Data.seq #[] }),
  (47, { cls := Value.none, data := Data.func { name := Str.ofString "split_fields", qualname := Str.ofString "split_fields", params := { posonlyargs := [], args := [{ arg := Str.ofString "form", annotation := none, pos := ⟨13, 17, 13, 21⟩ }, { arg := Str.ofString "bits", annotation := none, pos := ⟨13, 23, 13, 27⟩ }], vararg := none, kwonlyargs := [], kw_defaults := [], kwarg := none, defaults := [] }, body := FuncBody.stmts (lawBody 3), scope := { kind := ScopeKind.function, names := [(Str.ofString "form", NameKind.local), (Str.ofString "bits", NameKind.local), (Str.ofString "fraction", NameKind.local), (Str.ofString "upper", NameKind.local)], isGenerator := false, isCoroutine := false }, globals := 0, closure := [], defaults := Value.none, kwdefaults := Value.none } }),
  (48, { cls := Value.type "code", data := Data.fields #[Value.str (Str.ofString "split_fields") 234, Value.str (Str.ofString "split_fields") 235, Value.str (Str.ofString "/claim/cut.py") 236, Value.int 13 0, Value.int 2 0, Value.int 0 0, Value.int 0 0, Value.int 3 0, Value.ref 43, Value.bool true, Value.int 181 0, Value.ref 44, Value.none, Value.ref 45, Value.ref 46, Value.ref 47, Value.int 241 0, Value.int 13 0, Value.str (Str.ofString "/claim/cut.py") 242] }),
  (49, { cls := Value.type "function", data := Data.func { name := Str.ofString "split_fields", qualname := Str.ofString "split_fields", params := { posonlyargs := [], args := [{ arg := Str.ofString "form", annotation := none, pos := ⟨13, 17, 13, 21⟩ }, { arg := Str.ofString "bits", annotation := none, pos := ⟨13, 23, 13, 27⟩ }], vararg := none, kwonlyargs := [], kw_defaults := [], kwarg := none, defaults := [] }, body := FuncBody.stmts (lawBody 3), scope := { kind := ScopeKind.function, names := [(Str.ofString "form", NameKind.local), (Str.ofString "bits", NameKind.local), (Str.ofString "fraction", NameKind.local), (Str.ofString "upper", NameKind.local)], isGenerator := false, isCoroutine := false }, globals := 3, closure := [], defaults := Value.none, kwdefaults := Value.none, pyModule := Value.str (Str.ofString "moduleyard.softbits") 187, code := Value.ref 48 } }),
  (50, { cls := Value.type "tuple", data := Data.seq #[] }),
  (51, { cls := Value.none, data := Data.fields #[] }),
  (52, { cls := Value.type "tuple", data := Data.seq #[Value.str (Str.ofString "form") 247, Value.str (Str.ofString "sign") 248] }),
  (53, { cls := Value.type "tuple", data := Data.seq #[] }),
  (54, { cls := Value.none, data := Data.func { name := Str.ofString "infinity", qualname := Str.ofString "infinity", params := { posonlyargs := [], args := [{ arg := Str.ofString "form", annotation := none, pos := ⟨17, 13, 17, 17⟩ }, { arg := Str.ofString "sign", annotation := none, pos := ⟨17, 19, 17, 23⟩ }], vararg := none, kwonlyargs := [], kw_defaults := [], kwarg := none, defaults := [] }, body := FuncBody.stmts (lawBody 4), scope := { kind := ScopeKind.function, names := [(Str.ofString "form", NameKind.local), (Str.ofString "sign", NameKind.local), (Str.ofString "join_fields", NameKind.globalImplicit)], isGenerator := false, isCoroutine := false }, globals := 0, closure := [], defaults := Value.none, kwdefaults := Value.none } }),
  (55, { cls := Value.type "code", data := Data.fields #[Value.str (Str.ofString "infinity") 244, Value.str (Str.ofString "infinity") 245, Value.str (Str.ofString "/claim/cut.py") 246, Value.int 17 0, Value.int 2 0, Value.int 0 0, Value.int 0 0, Value.int 3 0, Value.ref 50, Value.bool true, Value.int 181 0, Value.ref 51, Value.none, Value.ref 52, Value.ref 53, Value.ref 54, Value.int 249 0, Value.int 17 0, Value.str (Str.ofString "/claim/cut.py") 250] }),
  (56, { cls := Value.type "function", data := Data.func { name := Str.ofString "infinity", qualname := Str.ofString "infinity", params := { posonlyargs := [], args := [{ arg := Str.ofString "form", annotation := none, pos := ⟨17, 13, 17, 17⟩ }, { arg := Str.ofString "sign", annotation := none, pos := ⟨17, 19, 17, 23⟩ }], vararg := none, kwonlyargs := [], kw_defaults := [], kwarg := none, defaults := [] }, body := FuncBody.stmts (lawBody 4), scope := { kind := ScopeKind.function, names := [(Str.ofString "form", NameKind.local), (Str.ofString "sign", NameKind.local), (Str.ofString "join_fields", NameKind.globalImplicit)], isGenerator := false, isCoroutine := false }, globals := 3, closure := [], defaults := Value.none, kwdefaults := Value.none, pyModule := Value.str (Str.ofString "moduleyard.softbits") 187, code := Value.ref 55 } }),
  (57, { cls := Value.type "tuple", data := Data.seq #[] }),
  (58, { cls := Value.none, data := Data.fields #[] }),
  (59, { cls := Value.type "tuple", data := Data.seq #[Value.str (Str.ofString "form") 255] }),
  (60, { cls := Value.type "tuple", data := Data.seq #[] }),
  (61, { cls := Value.none, data := Data.func { name := Str.ofString "not_a_number", qualname := Str.ofString "not_a_number", params := { posonlyargs := [], args := [{ arg := Str.ofString "form", annotation := none, pos := ⟨19, 17, 19, 21⟩ }], vararg := none, kwonlyargs := [], kw_defaults := [], kwarg := none, defaults := [] }, body := FuncBody.stmts (lawBody 5), scope := { kind := ScopeKind.function, names := [(Str.ofString "form", NameKind.local), (Str.ofString "join_fields", NameKind.globalImplicit)], isGenerator := false, isCoroutine := false }, globals := 0, closure := [], defaults := Value.none, kwdefaults := Value.none } }),
  (62, { cls := Value.type "code", data := Data.fields #[Value.str (Str.ofString "not_a_number") 252, Value.str (Str.ofString "not_a_number") 253, Value.str (Str.ofString "/claim/cut.py") 254, Value.int 19 0, Value.int 1 0, Value.int 0 0, Value.int 0 0, Value.int 3 0, Value.ref 57, Value.bool true, Value.int 181 0, Value.ref 58, Value.none, Value.ref 59, Value.ref 60, Value.ref 61, Value.int 256 0, Value.int 19 0, Value.str (Str.ofString "/claim/cut.py") 257] }),
  (63, { cls := Value.type "function", data := Data.func { name := Str.ofString "not_a_number", qualname := Str.ofString "not_a_number", params := { posonlyargs := [], args := [{ arg := Str.ofString "form", annotation := none, pos := ⟨19, 17, 19, 21⟩ }], vararg := none, kwonlyargs := [], kw_defaults := [], kwarg := none, defaults := [] }, body := FuncBody.stmts (lawBody 5), scope := { kind := ScopeKind.function, names := [(Str.ofString "form", NameKind.local), (Str.ofString "join_fields", NameKind.globalImplicit)], isGenerator := false, isCoroutine := false }, globals := 3, closure := [], defaults := Value.none, kwdefaults := Value.none, pyModule := Value.str (Str.ofString "moduleyard.softbits") 187, code := Value.ref 62 } }),
  (64, { cls := Value.type "tuple", data := Data.seq #[] }),
  (65, { cls := Value.none, data := Data.fields #[] }),
  (66, { cls := Value.type "tuple", data := Data.seq #[Value.str (Str.ofString "form") 262, Value.str (Str.ofString "sign") 263] }),
  (67, { cls := Value.type "tuple", data := Data.seq #[] }),
  (68, { cls := Value.none, data := Data.func { name := Str.ofString "signed_zero", qualname := Str.ofString "signed_zero", params := { posonlyargs := [], args := [{ arg := Str.ofString "form", annotation := none, pos := ⟨21, 16, 21, 20⟩ }, { arg := Str.ofString "sign", annotation := none, pos := ⟨21, 22, 21, 26⟩ }], vararg := none, kwonlyargs := [], kw_defaults := [], kwarg := none, defaults := [] }, body := FuncBody.stmts (lawBody 6), scope := { kind := ScopeKind.function, names := [(Str.ofString "form", NameKind.local), (Str.ofString "sign", NameKind.local), (Str.ofString "join_fields", NameKind.globalImplicit)], isGenerator := false, isCoroutine := false }, globals := 0, closure := [], defaults := Value.none, kwdefaults := Value.none } }),
  (69, { cls := Value.type "code", data := Data.fields #[Value.str (Str.ofString "signed_zero") 259, Value.str (Str.ofString "signed_zero") 260, Value.str (Str.ofString "/claim/cut.py") 261, Value.int 21 0, Value.int 2 0, Value.int 0 0, Value.int 0 0, Value.int 3 0, Value.ref 64, Value.bool true, Value.int 181 0, Value.ref 65, Value.none, Value.ref 66, Value.ref 67, Value.ref 68, Value.int 264 0, Value.int 21 0, Value.str (Str.ofString "/claim/cut.py") 265] }),
  (70, { cls := Value.type "function", data := Data.func { name := Str.ofString "signed_zero", qualname := Str.ofString "signed_zero", params := { posonlyargs := [], args := [{ arg := Str.ofString "form", annotation := none, pos := ⟨21, 16, 21, 20⟩ }, { arg := Str.ofString "sign", annotation := none, pos := ⟨21, 22, 21, 26⟩ }], vararg := none, kwonlyargs := [], kw_defaults := [], kwarg := none, defaults := [] }, body := FuncBody.stmts (lawBody 6), scope := { kind := ScopeKind.function, names := [(Str.ofString "form", NameKind.local), (Str.ofString "sign", NameKind.local), (Str.ofString "join_fields", NameKind.globalImplicit)], isGenerator := false, isCoroutine := false }, globals := 3, closure := [], defaults := Value.none, kwdefaults := Value.none, pyModule := Value.str (Str.ofString "moduleyard.softbits") 187, code := Value.ref 69 } }),
  (71, { cls := Value.type "tuple", data := Data.seq #[] }),
  (72, { cls := Value.none, data := Data.fields #[] }),
  (73, { cls := Value.type "tuple", data := Data.seq #[Value.str (Str.ofString "form") 270, Value.str (Str.ofString "bits") 271, Value.str (Str.ofString "sign") 272, Value.str (Str.ofString "exponent") 273, Value.str (Str.ofString "fraction") 274] }),
  (74, { cls := Value.type "tuple", data := Data.seq #[] }),
  (75, { cls := Value.none, data := Data.func { name := Str.ofString "is_not_a_number", qualname := Str.ofString "is_not_a_number", params := { posonlyargs := [], args := [{ arg := Str.ofString "form", annotation := none, pos := ⟨23, 20, 23, 24⟩ }, { arg := Str.ofString "bits", annotation := none, pos := ⟨23, 26, 23, 30⟩ }], vararg := none, kwonlyargs := [], kw_defaults := [], kwarg := none, defaults := [] }, body := FuncBody.stmts (lawBody 7), scope := { kind := ScopeKind.function, names := [(Str.ofString "form", NameKind.local), (Str.ofString "bits", NameKind.local), (Str.ofString "sign", NameKind.local), (Str.ofString "exponent", NameKind.local), (Str.ofString "fraction", NameKind.local), (Str.ofString "split_fields", NameKind.globalImplicit)], isGenerator := false, isCoroutine := false }, globals := 0, closure := [], defaults := Value.none, kwdefaults := Value.none } }),
  (76, { cls := Value.type "code", data := Data.fields #[Value.str (Str.ofString "is_not_a_number") 267, Value.str (Str.ofString "is_not_a_number") 268, Value.str (Str.ofString "/claim/cut.py") 269, Value.int 23 0, Value.int 2 0, Value.int 0 0, Value.int 0 0, Value.int 3 0, Value.ref 71, Value.bool true, Value.int 181 0, Value.ref 72, Value.none, Value.ref 73, Value.ref 74, Value.ref 75, Value.int 275 0, Value.int 23 0, Value.str (Str.ofString "/claim/cut.py") 276] }),
  (77, { cls := Value.type "function", data := Data.func { name := Str.ofString "is_not_a_number", qualname := Str.ofString "is_not_a_number", params := { posonlyargs := [], args := [{ arg := Str.ofString "form", annotation := none, pos := ⟨23, 20, 23, 24⟩ }, { arg := Str.ofString "bits", annotation := none, pos := ⟨23, 26, 23, 30⟩ }], vararg := none, kwonlyargs := [], kw_defaults := [], kwarg := none, defaults := [] }, body := FuncBody.stmts (lawBody 7), scope := { kind := ScopeKind.function, names := [(Str.ofString "form", NameKind.local), (Str.ofString "bits", NameKind.local), (Str.ofString "sign", NameKind.local), (Str.ofString "exponent", NameKind.local), (Str.ofString "fraction", NameKind.local), (Str.ofString "split_fields", NameKind.globalImplicit)], isGenerator := false, isCoroutine := false }, globals := 3, closure := [], defaults := Value.none, kwdefaults := Value.none, pyModule := Value.str (Str.ofString "moduleyard.softbits") 187, code := Value.ref 76 } }),
  (78, { cls := Value.type "tuple", data := Data.seq #[] }),
  (79, { cls := Value.none, data := Data.fields #[] }),
  (80, { cls := Value.type "tuple", data := Data.seq #[Value.str (Str.ofString "form") 281, Value.str (Str.ofString "bits") 282, Value.str (Str.ofString "sign") 283, Value.str (Str.ofString "exponent") 284, Value.str (Str.ofString "fraction") 285] }),
  (81, { cls := Value.type "tuple", data := Data.seq #[] }),
  (82, { cls := Value.none, data := Data.func { name := Str.ofString "is_infinite", qualname := Str.ofString "is_infinite", params := { posonlyargs := [], args := [{ arg := Str.ofString "form", annotation := none, pos := ⟨26, 16, 26, 20⟩ }, { arg := Str.ofString "bits", annotation := none, pos := ⟨26, 22, 26, 26⟩ }], vararg := none, kwonlyargs := [], kw_defaults := [], kwarg := none, defaults := [] }, body := FuncBody.stmts (lawBody 8), scope := { kind := ScopeKind.function, names := [(Str.ofString "form", NameKind.local), (Str.ofString "bits", NameKind.local), (Str.ofString "sign", NameKind.local), (Str.ofString "exponent", NameKind.local), (Str.ofString "fraction", NameKind.local), (Str.ofString "split_fields", NameKind.globalImplicit)], isGenerator := false, isCoroutine := false }, globals := 0, closure := [], defaults := Value.none, kwdefaults := Value.none } }),
  (83, { cls := Value.type "code", data := Data.fields #[Value.str (Str.ofString "is_infinite") 278, Value.str (Str.ofString "is_infinite") 279, Value.str (Str.ofString "/claim/cut.py") 280, Value.int 26 0, Value.int 2 0, Value.int 0 0, Value.int 0 0, Value.int 3 0, Value.ref 78, Value.bool true, Value.int 181 0, Value.ref 79, Value.none, Value.ref 80, Value.ref 81, Value.ref 82, Value.int 286 0, Value.int 26 0, Value.str (Str.ofString "/claim/cut.py") 287] }),
  (84, { cls := Value.type "function", data := Data.func { name := Str.ofString "is_infinite", qualname := Str.ofString "is_infinite", params := { posonlyargs := [], args := [{ arg := Str.ofString "form", annotation := none, pos := ⟨26, 16, 26, 20⟩ }, { arg := Str.ofString "bits", annotation := none, pos := ⟨26, 22, 26, 26⟩ }], vararg := none, kwonlyargs := [], kw_defaults := [], kwarg := none, defaults := [] }, body := FuncBody.stmts (lawBody 8), scope := { kind := ScopeKind.function, names := [(Str.ofString "form", NameKind.local), (Str.ofString "bits", NameKind.local), (Str.ofString "sign", NameKind.local), (Str.ofString "exponent", NameKind.local), (Str.ofString "fraction", NameKind.local), (Str.ofString "split_fields", NameKind.globalImplicit)], isGenerator := false, isCoroutine := false }, globals := 3, closure := [], defaults := Value.none, kwdefaults := Value.none, pyModule := Value.str (Str.ofString "moduleyard.softbits") 187, code := Value.ref 83 } }),
  (85, { cls := Value.type "tuple", data := Data.seq #[] }),
  (86, { cls := Value.none, data := Data.fields #[] }),
  (87, { cls := Value.type "tuple", data := Data.seq #[Value.str (Str.ofString "form") 292, Value.str (Str.ofString "bits") 293] }),
  (88, { cls := Value.type "tuple", data := Data.seq #[] }),
  (89, { cls := Value.none, data := Data.func { name := Str.ofString "is_zero", qualname := Str.ofString "is_zero", params := { posonlyargs := [], args := [{ arg := Str.ofString "form", annotation := none, pos := ⟨29, 12, 29, 16⟩ }, { arg := Str.ofString "bits", annotation := none, pos := ⟨29, 18, 29, 22⟩ }], vararg := none, kwonlyargs := [], kw_defaults := [], kwarg := none, defaults := [] }, body := FuncBody.stmts (lawBody 9), scope := { kind := ScopeKind.function, names := [(Str.ofString "form", NameKind.local), (Str.ofString "bits", NameKind.local)], isGenerator := false, isCoroutine := false }, globals := 0, closure := [], defaults := Value.none, kwdefaults := Value.none } }),
  (90, { cls := Value.type "code", data := Data.fields #[Value.str (Str.ofString "is_zero") 289, Value.str (Str.ofString "is_zero") 290, Value.str (Str.ofString "/claim/cut.py") 291, Value.int 29 0, Value.int 2 0, Value.int 0 0, Value.int 0 0, Value.int 3 0, Value.ref 85, Value.bool true, Value.int 181 0, Value.ref 86, Value.none, Value.ref 87, Value.ref 88, Value.ref 89, Value.int 294 0, Value.int 29 0, Value.str (Str.ofString "/claim/cut.py") 295] }),
  (91, { cls := Value.type "function", data := Data.func { name := Str.ofString "is_zero", qualname := Str.ofString "is_zero", params := { posonlyargs := [], args := [{ arg := Str.ofString "form", annotation := none, pos := ⟨29, 12, 29, 16⟩ }, { arg := Str.ofString "bits", annotation := none, pos := ⟨29, 18, 29, 22⟩ }], vararg := none, kwonlyargs := [], kw_defaults := [], kwarg := none, defaults := [] }, body := FuncBody.stmts (lawBody 9), scope := { kind := ScopeKind.function, names := [(Str.ofString "form", NameKind.local), (Str.ofString "bits", NameKind.local)], isGenerator := false, isCoroutine := false }, globals := 3, closure := [], defaults := Value.none, kwdefaults := Value.none, pyModule := Value.str (Str.ofString "moduleyard.softbits") 187, code := Value.ref 90 } }),
  (92, { cls := Value.type "tuple", data := Data.seq #[] }),
  (93, { cls := Value.none, data := Data.fields #[] }),
  (94, { cls := Value.type "tuple", data := Data.seq #[Value.str (Str.ofString "form") 300, Value.str (Str.ofString "bits") 301] }),
  (95, { cls := Value.type "tuple", data := Data.seq #[] }),
  (96, { cls := Value.none, data := Data.func { name := Str.ofString "sign_of", qualname := Str.ofString "sign_of", params := { posonlyargs := [], args := [{ arg := Str.ofString "form", annotation := none, pos := ⟨31, 12, 31, 16⟩ }, { arg := Str.ofString "bits", annotation := none, pos := ⟨31, 18, 31, 22⟩ }], vararg := none, kwonlyargs := [], kw_defaults := [], kwarg := none, defaults := [] }, body := FuncBody.stmts (lawBody 10), scope := { kind := ScopeKind.function, names := [(Str.ofString "form", NameKind.local), (Str.ofString "bits", NameKind.local), (Str.ofString "split_fields", NameKind.globalImplicit)], isGenerator := false, isCoroutine := false }, globals := 0, closure := [], defaults := Value.none, kwdefaults := Value.none } }),
  (97, { cls := Value.type "code", data := Data.fields #[Value.str (Str.ofString "sign_of") 297, Value.str (Str.ofString "sign_of") 298, Value.str (Str.ofString "/claim/cut.py") 299, Value.int 31 0, Value.int 2 0, Value.int 0 0, Value.int 0 0, Value.int 3 0, Value.ref 92, Value.bool true, Value.int 181 0, Value.ref 93, Value.none, Value.ref 94, Value.ref 95, Value.ref 96, Value.int 302 0, Value.int 31 0, Value.str (Str.ofString "/claim/cut.py") 303] }),
  (98, { cls := Value.type "function", data := Data.func { name := Str.ofString "sign_of", qualname := Str.ofString "sign_of", params := { posonlyargs := [], args := [{ arg := Str.ofString "form", annotation := none, pos := ⟨31, 12, 31, 16⟩ }, { arg := Str.ofString "bits", annotation := none, pos := ⟨31, 18, 31, 22⟩ }], vararg := none, kwonlyargs := [], kw_defaults := [], kwarg := none, defaults := [] }, body := FuncBody.stmts (lawBody 10), scope := { kind := ScopeKind.function, names := [(Str.ofString "form", NameKind.local), (Str.ofString "bits", NameKind.local), (Str.ofString "split_fields", NameKind.globalImplicit)], isGenerator := false, isCoroutine := false }, globals := 3, closure := [], defaults := Value.none, kwdefaults := Value.none, pyModule := Value.str (Str.ofString "moduleyard.softbits") 187, code := Value.ref 97 } }),
  (99, { cls := Value.type "tuple", data := Data.seq #[] }),
  (100, { cls := Value.none, data := Data.fields #[] }),
  (101, { cls := Value.type "tuple", data := Data.seq #[Value.str (Str.ofString "form") 308, Value.str (Str.ofString "bits") 309, Value.str (Str.ofString "sign") 310, Value.str (Str.ofString "exponent") 311, Value.str (Str.ofString "fraction") 312] }),
  (102, { cls := Value.type "tuple", data := Data.seq #[] }),
  (103, { cls := Value.none, data := Data.func { name := Str.ofString "unpack", qualname := Str.ofString "unpack", params := { posonlyargs := [], args := [{ arg := Str.ofString "form", annotation := none, pos := ⟨33, 11, 33, 15⟩ }, { arg := Str.ofString "bits", annotation := none, pos := ⟨33, 17, 33, 21⟩ }], vararg := none, kwonlyargs := [], kw_defaults := [], kwarg := none, defaults := [] }, body := FuncBody.stmts (lawBody 11), scope := { kind := ScopeKind.function, names := [(Str.ofString "form", NameKind.local), (Str.ofString "bits", NameKind.local), (Str.ofString "sign", NameKind.local), (Str.ofString "exponent", NameKind.local), (Str.ofString "fraction", NameKind.local), (Str.ofString "split_fields", NameKind.globalImplicit)], isGenerator := false, isCoroutine := false }, globals := 0, closure := [], defaults := Value.none, kwdefaults := Value.none } }),
  (104, { cls := Value.type "code", data := Data.fields #[Value.str (Str.ofString "unpack") 305, Value.str (Str.ofString "unpack") 306, Value.str (Str.ofString "/claim/cut.py") 307, Value.int 33 0, Value.int 2 0, Value.int 0 0, Value.int 0 0, Value.int 3 0, Value.ref 99, Value.bool true, Value.int 181 0, Value.ref 100, Value.none, Value.ref 101, Value.ref 102, Value.ref 103, Value.int 313 0, Value.int 33 0, Value.str (Str.ofString "/claim/cut.py") 314] }),
  (105, { cls := Value.type "function", data := Data.func { name := Str.ofString "unpack", qualname := Str.ofString "unpack", params := { posonlyargs := [], args := [{ arg := Str.ofString "form", annotation := none, pos := ⟨33, 11, 33, 15⟩ }, { arg := Str.ofString "bits", annotation := none, pos := ⟨33, 17, 33, 21⟩ }], vararg := none, kwonlyargs := [], kw_defaults := [], kwarg := none, defaults := [] }, body := FuncBody.stmts (lawBody 11), scope := { kind := ScopeKind.function, names := [(Str.ofString "form", NameKind.local), (Str.ofString "bits", NameKind.local), (Str.ofString "sign", NameKind.local), (Str.ofString "exponent", NameKind.local), (Str.ofString "fraction", NameKind.local), (Str.ofString "split_fields", NameKind.globalImplicit)], isGenerator := false, isCoroutine := false }, globals := 3, closure := [], defaults := Value.none, kwdefaults := Value.none, pyModule := Value.str (Str.ofString "moduleyard.softbits") 187, code := Value.ref 104 } }),
  (106, { cls := Value.type "tuple", data := Data.seq #[] }),
  (107, { cls := Value.none, data := Data.fields #[] }),
  (108, { cls := Value.type "tuple", data := Data.seq #[Value.str (Str.ofString "m") 319, Value.str (Str.ofString "count") 320, Value.str (Str.ofString "step") 321] }),
  (109, { cls := Value.type "tuple", data := Data.seq #[] }),
  (110, { cls := Value.none, data := Data.func { name := Str.ofString "bit_count", qualname := Str.ofString "bit_count", params := { posonlyargs := [], args := [{ arg := Str.ofString "m", annotation := none, pos := ⟨38, 14, 38, 15⟩ }], vararg := none, kwonlyargs := [], kw_defaults := [], kwarg := none, defaults := [] }, body := FuncBody.stmts (lawBody 12), scope := { kind := ScopeKind.function, names := [(Str.ofString "m", NameKind.local), (Str.ofString "count", NameKind.local), (Str.ofString "step", NameKind.local)], isGenerator := false, isCoroutine := false }, globals := 0, closure := [], defaults := Value.none, kwdefaults := Value.none } }),
  (111, { cls := Value.type "code", data := Data.fields #[Value.str (Str.ofString "bit_count") 316, Value.str (Str.ofString "bit_count") 317, Value.str (Str.ofString "/claim/cut.py") 318, Value.int 38 0, Value.int 1 0, Value.int 0 0, Value.int 0 0, Value.int 3 0, Value.ref 106, Value.bool true, Value.int 181 0, Value.ref 107, Value.none, Value.ref 108, Value.ref 109, Value.ref 110, Value.int 322 0, Value.int 38 0, Value.str (Str.ofString "/claim/cut.py") 323] }),
  (112, { cls := Value.type "function", data := Data.func { name := Str.ofString "bit_count", qualname := Str.ofString "bit_count", params := { posonlyargs := [], args := [{ arg := Str.ofString "m", annotation := none, pos := ⟨38, 14, 38, 15⟩ }], vararg := none, kwonlyargs := [], kw_defaults := [], kwarg := none, defaults := [] }, body := FuncBody.stmts (lawBody 12), scope := { kind := ScopeKind.function, names := [(Str.ofString "m", NameKind.local), (Str.ofString "count", NameKind.local), (Str.ofString "step", NameKind.local)], isGenerator := false, isCoroutine := false }, globals := 3, closure := [], defaults := Value.none, kwdefaults := Value.none, pyModule := Value.str (Str.ofString "moduleyard.softbits") 187, code := Value.ref 111 } }),
  (113, { cls := Value.type "tuple", data := Data.seq #[] }),
  (114, { cls := Value.none, data := Data.fields #[] }),
  (115, { cls := Value.type "tuple", data := Data.seq #[Value.str (Str.ofString "m") 328, Value.str (Str.ofString "shift") 329, Value.str (Str.ofString "rest") 330, Value.str (Str.ofString "kept") 331, Value.str (Str.ofString "low") 332, Value.str (Str.ofString "half") 333] }),
  (116, { cls := Value.type "tuple", data := Data.seq #[] }),
  (117, { cls := Value.none, data := Data.func { name := Str.ofString "round_shift", qualname := Str.ofString "round_shift", params := { posonlyargs := [], args := [{ arg := Str.ofString "m", annotation := none, pos := ⟨49, 16, 49, 17⟩ }, { arg := Str.ofString "shift", annotation := none, pos := ⟨49, 19, 49, 24⟩ }, { arg := Str.ofString "rest", annotation := none, pos := ⟨49, 26, 49, 30⟩ }], vararg := none, kwonlyargs := [], kw_defaults := [], kwarg := none, defaults := [] }, body := FuncBody.stmts (lawBody 13), scope := { kind := ScopeKind.function, names := [(Str.ofString "m", NameKind.local), (Str.ofString "shift", NameKind.local), (Str.ofString "rest", NameKind.local), (Str.ofString "kept", NameKind.local), (Str.ofString "low", NameKind.local), (Str.ofString "half", NameKind.local)], isGenerator := false, isCoroutine := false }, globals := 0, closure := [], defaults := Value.none, kwdefaults := Value.none } }),
  (118, { cls := Value.type "code", data := Data.fields #[Value.str (Str.ofString "round_shift") 325, Value.str (Str.ofString "round_shift") 326, Value.str (Str.ofString "/claim/cut.py") 327, Value.int 49 0, Value.int 3 0, Value.int 0 0, Value.int 0 0, Value.int 3 0, Value.ref 113, Value.bool true, Value.int 181 0, Value.ref 114, Value.none, Value.ref 115, Value.ref 116, Value.ref 117, Value.int 334 0, Value.int 49 0, Value.str (Str.ofString "/claim/cut.py") 335] }),
  (119, { cls := Value.type "function", data := Data.func { name := Str.ofString "round_shift", qualname := Str.ofString "round_shift", params := { posonlyargs := [], args := [{ arg := Str.ofString "m", annotation := none, pos := ⟨49, 16, 49, 17⟩ }, { arg := Str.ofString "shift", annotation := none, pos := ⟨49, 19, 49, 24⟩ }, { arg := Str.ofString "rest", annotation := none, pos := ⟨49, 26, 49, 30⟩ }], vararg := none, kwonlyargs := [], kw_defaults := [], kwarg := none, defaults := [] }, body := FuncBody.stmts (lawBody 13), scope := { kind := ScopeKind.function, names := [(Str.ofString "m", NameKind.local), (Str.ofString "shift", NameKind.local), (Str.ofString "rest", NameKind.local), (Str.ofString "kept", NameKind.local), (Str.ofString "low", NameKind.local), (Str.ofString "half", NameKind.local)], isGenerator := false, isCoroutine := false }, globals := 3, closure := [], defaults := Value.none, kwdefaults := Value.none, pyModule := Value.str (Str.ofString "moduleyard.softbits") 187, code := Value.ref 118 } }),
  (120, { cls := Value.type "tuple", data := Data.seq #[Value.bool false] }),
  (121, { cls := Value.type "tuple", data := Data.seq #[] }),
  (122, { cls := Value.none, data := Data.fields #[] }),
  (123, { cls := Value.type "tuple", data := Data.seq #[Value.str (Str.ofString "form") 340, Value.str (Str.ofString "sign") 341, Value.str (Str.ofString "m") 342, Value.str (Str.ofString "e") 343, Value.str (Str.ofString "rest") 344, Value.str (Str.ofString "place") 345, Value.str (Str.ofString "kept") 346, Value.str (Str.ofString "exponent") 347] }),
  (124, { cls := Value.type "tuple", data := Data.seq #[] }),
  (125, { cls := Value.none, data := Data.func { name := Str.ofString "pack", qualname := Str.ofString "pack", params := { posonlyargs := [], args := [{ arg := Str.ofString "form", annotation := none, pos := ⟨58, 9, 58, 13⟩ }, { arg := Str.ofString "sign", annotation := none, pos := ⟨58, 15, 58, 19⟩ }, { arg := Str.ofString "m", annotation := none, pos := ⟨58, 21, 58, 22⟩ }, { arg := Str.ofString "e", annotation := none, pos := ⟨58, 24, 58, 25⟩ }, { arg := Str.ofString "rest", annotation := none, pos := ⟨58, 27, 58, 31⟩ }], vararg := none, kwonlyargs := [], kw_defaults := [], kwarg := none, defaults := [Expr.Constant (Const.bool false) 0 { line := 58, col := 32, endLine := 58, endCol := 37 }] }, body := FuncBody.stmts (lawBody 14), scope := { kind := ScopeKind.function, names := [(Str.ofString "form", NameKind.local), (Str.ofString "sign", NameKind.local), (Str.ofString "m", NameKind.local), (Str.ofString "e", NameKind.local), (Str.ofString "rest", NameKind.local), (Str.ofString "place", NameKind.local), (Str.ofString "kept", NameKind.local), (Str.ofString "exponent", NameKind.local), (Str.ofString "signed_zero", NameKind.globalImplicit), (Str.ofString "max", NameKind.globalImplicit), (Str.ofString "bit_count", NameKind.globalImplicit), (Str.ofString "round_shift", NameKind.globalImplicit), (Str.ofString "join_fields", NameKind.globalImplicit), (Str.ofString "infinity", NameKind.globalImplicit)], isGenerator := false, isCoroutine := false }, globals := 0, closure := [], defaults := Value.none, kwdefaults := Value.none } }),
  (126, { cls := Value.type "code", data := Data.fields #[Value.str (Str.ofString "pack") 337, Value.str (Str.ofString "pack") 338, Value.str (Str.ofString "/claim/cut.py") 339, Value.int 58 0, Value.int 5 0, Value.int 0 0, Value.int 0 0, Value.int 3 0, Value.ref 121, Value.bool true, Value.int 181 0, Value.ref 122, Value.none, Value.ref 123, Value.ref 124, Value.ref 125, Value.int 348 0, Value.int 58 0, Value.str (Str.ofString "/claim/cut.py") 349] }),
  (127, { cls := Value.type "function", data := Data.func { name := Str.ofString "pack", qualname := Str.ofString "pack", params := { posonlyargs := [], args := [{ arg := Str.ofString "form", annotation := none, pos := ⟨58, 9, 58, 13⟩ }, { arg := Str.ofString "sign", annotation := none, pos := ⟨58, 15, 58, 19⟩ }, { arg := Str.ofString "m", annotation := none, pos := ⟨58, 21, 58, 22⟩ }, { arg := Str.ofString "e", annotation := none, pos := ⟨58, 24, 58, 25⟩ }, { arg := Str.ofString "rest", annotation := none, pos := ⟨58, 27, 58, 31⟩ }], vararg := none, kwonlyargs := [], kw_defaults := [], kwarg := none, defaults := [Expr.Constant (Const.bool false) 0 { line := 58, col := 32, endLine := 58, endCol := 37 }] }, body := FuncBody.stmts (lawBody 14), scope := { kind := ScopeKind.function, names := [(Str.ofString "form", NameKind.local), (Str.ofString "sign", NameKind.local), (Str.ofString "m", NameKind.local), (Str.ofString "e", NameKind.local), (Str.ofString "rest", NameKind.local), (Str.ofString "place", NameKind.local), (Str.ofString "kept", NameKind.local), (Str.ofString "exponent", NameKind.local), (Str.ofString "signed_zero", NameKind.globalImplicit), (Str.ofString "max", NameKind.globalImplicit), (Str.ofString "bit_count", NameKind.globalImplicit), (Str.ofString "round_shift", NameKind.globalImplicit), (Str.ofString "join_fields", NameKind.globalImplicit), (Str.ofString "infinity", NameKind.globalImplicit)], isGenerator := false, isCoroutine := false }, globals := 3, closure := [], defaults := Value.ref 120, kwdefaults := Value.none, pyModule := Value.str (Str.ofString "moduleyard.softbits") 187, code := Value.ref 126 } }),
  (128, { cls := Value.type "tuple", data := Data.seq #[] }),
  (129, { cls := Value.none, data := Data.fields #[] }),
  (130, { cls := Value.type "tuple", data := Data.seq #[Value.str (Str.ofString "form") 356, Value.str (Str.ofString "a") 357, Value.str (Str.ofString "sign") 358, Value.str (Str.ofString "exponent") 359, Value.str (Str.ofString "fraction") 360] }),
  (131, { cls := Value.type "tuple", data := Data.seq #[] }),
  (132, { cls := Value.none, data := Data.func { name := Str.ofString "absolute_real", qualname := Str.ofString "absolute_real", params := { posonlyargs := [], args := [{ arg := Str.ofString "form", annotation := none, pos := ⟨73, 18, 73, 22⟩ }, { arg := Str.ofString "a", annotation := none, pos := ⟨73, 24, 73, 25⟩ }], vararg := none, kwonlyargs := [], kw_defaults := [], kwarg := none, defaults := [] }, body := FuncBody.stmts (lawBody 16), scope := { kind := ScopeKind.function, names := [(Str.ofString "form", NameKind.local), (Str.ofString "a", NameKind.local), (Str.ofString "sign", NameKind.local), (Str.ofString "exponent", NameKind.local), (Str.ofString "fraction", NameKind.local), (Str.ofString "is_not_a_number", NameKind.globalImplicit), (Str.ofString "not_a_number", NameKind.globalImplicit), (Str.ofString "split_fields", NameKind.globalImplicit), (Str.ofString "join_fields", NameKind.globalImplicit)], isGenerator := false, isCoroutine := false }, globals := 0, closure := [], defaults := Value.none, kwdefaults := Value.none } }),
  (133, { cls := Value.type "code", data := Data.fields #[Value.str (Str.ofString "absolute_real") 353, Value.str (Str.ofString "absolute_real") 354, Value.str (Str.ofString "/claim/cut.py") 355, Value.int 73 0, Value.int 2 0, Value.int 0 0, Value.int 0 0, Value.int 3 0, Value.ref 128, Value.bool true, Value.int 181 0, Value.ref 129, Value.none, Value.ref 130, Value.ref 131, Value.ref 132, Value.int 361 0, Value.int 73 0, Value.str (Str.ofString "/claim/cut.py") 362] }),
  (134, { cls := Value.type "function", data := Data.func { name := Str.ofString "absolute_real", qualname := Str.ofString "absolute_real", params := { posonlyargs := [], args := [{ arg := Str.ofString "form", annotation := none, pos := ⟨73, 18, 73, 22⟩ }, { arg := Str.ofString "a", annotation := none, pos := ⟨73, 24, 73, 25⟩ }], vararg := none, kwonlyargs := [], kw_defaults := [], kwarg := none, defaults := [] }, body := FuncBody.stmts (lawBody 16), scope := { kind := ScopeKind.function, names := [(Str.ofString "form", NameKind.local), (Str.ofString "a", NameKind.local), (Str.ofString "sign", NameKind.local), (Str.ofString "exponent", NameKind.local), (Str.ofString "fraction", NameKind.local), (Str.ofString "is_not_a_number", NameKind.globalImplicit), (Str.ofString "not_a_number", NameKind.globalImplicit), (Str.ofString "split_fields", NameKind.globalImplicit), (Str.ofString "join_fields", NameKind.globalImplicit)], isGenerator := false, isCoroutine := false }, globals := 3, closure := [], defaults := Value.none, kwdefaults := Value.none, pyModule := Value.str (Str.ofString "moduleyard.softfloat") 351, code := Value.ref 133 } }),
  (135, { cls := Value.type "tuple", data := Data.seq #[Value.int 0 364] }),
  (136, { cls := Value.type "tuple", data := Data.seq #[] }),
  (137, { cls := Value.none, data := Data.fields #[] }),
  (138, { cls := Value.type "tuple", data := Data.seq #[Value.str (Str.ofString "form") 368, Value.str (Str.ofString "sign") 369, Value.str (Str.ofString "over") 370, Value.str (Str.ofString "under") 371, Value.str (Str.ofString "e") 372, Value.str (Str.ofString "shift") 373, Value.str (Str.ofString "quotient") 374, Value.str (Str.ofString "rest") 375] }),
  (139, { cls := Value.type "tuple", data := Data.seq #[] }),
  (140, { cls := Value.none, data := Data.func { name := Str.ofString "from_ratio", qualname := Str.ofString "from_ratio", params := { posonlyargs := [], args := [{ arg := Str.ofString "form", annotation := none, pos := ⟨78, 15, 78, 19⟩ }, { arg := Str.ofString "sign", annotation := none, pos := ⟨78, 21, 78, 25⟩ }, { arg := Str.ofString "over", annotation := none, pos := ⟨78, 27, 78, 31⟩ }, { arg := Str.ofString "under", annotation := none, pos := ⟨78, 33, 78, 38⟩ }, { arg := Str.ofString "e", annotation := none, pos := ⟨78, 40, 78, 41⟩ }], vararg := none, kwonlyargs := [], kw_defaults := [], kwarg := none, defaults := [Expr.Constant (Const.int 0) 0 { line := 78, col := 42, endLine := 78, endCol := 43 }] }, body := FuncBody.stmts (lawBody 17), scope := { kind := ScopeKind.function, names := [(Str.ofString "form", NameKind.local), (Str.ofString "sign", NameKind.local), (Str.ofString "over", NameKind.local), (Str.ofString "under", NameKind.local), (Str.ofString "e", NameKind.local), (Str.ofString "shift", NameKind.local), (Str.ofString "quotient", NameKind.local), (Str.ofString "rest", NameKind.local), (Str.ofString "max", NameKind.globalImplicit), (Str.ofString "bit_count", NameKind.globalImplicit), (Str.ofString "pack", NameKind.globalImplicit)], isGenerator := false, isCoroutine := false }, globals := 0, closure := [], defaults := Value.none, kwdefaults := Value.none } }),
  (141, { cls := Value.type "code", data := Data.fields #[Value.str (Str.ofString "from_ratio") 365, Value.str (Str.ofString "from_ratio") 366, Value.str (Str.ofString "/claim/cut.py") 367, Value.int 78 0, Value.int 5 0, Value.int 0 0, Value.int 0 0, Value.int 3 0, Value.ref 136, Value.bool true, Value.int 181 0, Value.ref 137, Value.none, Value.ref 138, Value.ref 139, Value.ref 140, Value.int 376 0, Value.int 78 0, Value.str (Str.ofString "/claim/cut.py") 377] }),
  (142, { cls := Value.type "function", data := Data.func { name := Str.ofString "from_ratio", qualname := Str.ofString "from_ratio", params := { posonlyargs := [], args := [{ arg := Str.ofString "form", annotation := none, pos := ⟨78, 15, 78, 19⟩ }, { arg := Str.ofString "sign", annotation := none, pos := ⟨78, 21, 78, 25⟩ }, { arg := Str.ofString "over", annotation := none, pos := ⟨78, 27, 78, 31⟩ }, { arg := Str.ofString "under", annotation := none, pos := ⟨78, 33, 78, 38⟩ }, { arg := Str.ofString "e", annotation := none, pos := ⟨78, 40, 78, 41⟩ }], vararg := none, kwonlyargs := [], kw_defaults := [], kwarg := none, defaults := [Expr.Constant (Const.int 0) 0 { line := 78, col := 42, endLine := 78, endCol := 43 }] }, body := FuncBody.stmts (lawBody 17), scope := { kind := ScopeKind.function, names := [(Str.ofString "form", NameKind.local), (Str.ofString "sign", NameKind.local), (Str.ofString "over", NameKind.local), (Str.ofString "under", NameKind.local), (Str.ofString "e", NameKind.local), (Str.ofString "shift", NameKind.local), (Str.ofString "quotient", NameKind.local), (Str.ofString "rest", NameKind.local), (Str.ofString "max", NameKind.globalImplicit), (Str.ofString "bit_count", NameKind.globalImplicit), (Str.ofString "pack", NameKind.globalImplicit)], isGenerator := false, isCoroutine := false }, globals := 3, closure := [], defaults := Value.ref 135, kwdefaults := Value.none, pyModule := Value.str (Str.ofString "moduleyard.softfloat") 351, code := Value.ref 141 } }),
  (143, { cls := Value.type "tuple", data := Data.seq #[] }),
  (144, { cls := Value.none, data := Data.fields #[] }),
  (145, { cls := Value.type "tuple", data := Data.seq #[Value.str (Str.ofString "m") 386, Value.str (Str.ofString "e") 387, Value.str (Str.ofString "power") 388, Value.str (Str.ofString "over") 389, Value.str (Str.ofString "under") 390, Value.str (Str.ofString "found") 391] }),
  (146, { cls := Value.type "tuple", data := Data.seq #[] }),
  (147, { cls := Value.none, data := Data.func { name := Str.ofString "scaled_floor", qualname := Str.ofString "scaled_floor", params := { posonlyargs := [], args := [{ arg := Str.ofString "m", annotation := none, pos := ⟨85, 17, 85, 18⟩ }, { arg := Str.ofString "e", annotation := none, pos := ⟨85, 20, 85, 21⟩ }, { arg := Str.ofString "power", annotation := none, pos := ⟨85, 23, 85, 28⟩ }], vararg := none, kwonlyargs := [], kw_defaults := [], kwarg := none, defaults := [] }, body := FuncBody.stmts (lawBody 20), scope := { kind := ScopeKind.function, names := [(Str.ofString "m", NameKind.local), (Str.ofString "e", NameKind.local), (Str.ofString "power", NameKind.local), (Str.ofString "over", NameKind.local), (Str.ofString "under", NameKind.local), (Str.ofString "found", NameKind.local)], isGenerator := false, isCoroutine := false }, globals := 0, closure := [], defaults := Value.none, kwdefaults := Value.none } }),
  (148, { cls := Value.type "code", data := Data.fields #[Value.str (Str.ofString "scaled_floor") 383, Value.str (Str.ofString "scaled_floor") 384, Value.str (Str.ofString "/claim/cut.py") 385, Value.int 85 0, Value.int 3 0, Value.int 0 0, Value.int 0 0, Value.int 3 0, Value.ref 143, Value.bool true, Value.int 181 0, Value.ref 144, Value.none, Value.ref 145, Value.ref 146, Value.ref 147, Value.int 392 0, Value.int 85 0, Value.str (Str.ofString "/claim/cut.py") 393] }),
  (149, { cls := Value.type "function", data := Data.func { name := Str.ofString "scaled_floor", qualname := Str.ofString "scaled_floor", params := { posonlyargs := [], args := [{ arg := Str.ofString "m", annotation := none, pos := ⟨85, 17, 85, 18⟩ }, { arg := Str.ofString "e", annotation := none, pos := ⟨85, 20, 85, 21⟩ }, { arg := Str.ofString "power", annotation := none, pos := ⟨85, 23, 85, 28⟩ }], vararg := none, kwonlyargs := [], kw_defaults := [], kwarg := none, defaults := [] }, body := FuncBody.stmts (lawBody 20), scope := { kind := ScopeKind.function, names := [(Str.ofString "m", NameKind.local), (Str.ofString "e", NameKind.local), (Str.ofString "power", NameKind.local), (Str.ofString "over", NameKind.local), (Str.ofString "under", NameKind.local), (Str.ofString "found", NameKind.local)], isGenerator := false, isCoroutine := false }, globals := 3, closure := [], defaults := Value.none, kwdefaults := Value.none, pyModule := Value.str (Str.ofString "moduleyard.realtext") 379, code := Value.ref 148 } }),
  (150, { cls := Value.type "tuple", data := Data.seq #[] }),
  (151, { cls := Value.none, data := Data.fields #[] }),
  (152, { cls := Value.type "tuple", data := Data.seq #[Value.str (Str.ofString "m") 398, Value.str (Str.ofString "e") 399, Value.str (Str.ofString "k") 400] }),
  (153, { cls := Value.type "tuple", data := Data.seq #[] }),
  (154, { cls := Value.none, data := Data.func { name := Str.ofString "decimal_place", qualname := Str.ofString "decimal_place", params := { posonlyargs := [], args := [{ arg := Str.ofString "m", annotation := none, pos := ⟨98, 18, 98, 19⟩ }, { arg := Str.ofString "e", annotation := none, pos := ⟨98, 21, 98, 22⟩ }], vararg := none, kwonlyargs := [], kw_defaults := [], kwarg := none, defaults := [] }, body := FuncBody.stmts (lawBody 21), scope := { kind := ScopeKind.function, names := [(Str.ofString "m", NameKind.local), (Str.ofString "e", NameKind.local), (Str.ofString "k", NameKind.local), (Str.ofString "scaled_floor", NameKind.globalImplicit)], isGenerator := false, isCoroutine := false }, globals := 0, closure := [], defaults := Value.none, kwdefaults := Value.none } }),
  (155, { cls := Value.type "code", data := Data.fields #[Value.str (Str.ofString "decimal_place") 395, Value.str (Str.ofString "decimal_place") 396, Value.str (Str.ofString "/claim/cut.py") 397, Value.int 98 0, Value.int 2 0, Value.int 0 0, Value.int 0 0, Value.int 3 0, Value.ref 150, Value.bool true, Value.int 181 0, Value.ref 151, Value.none, Value.ref 152, Value.ref 153, Value.ref 154, Value.int 401 0, Value.int 98 0, Value.str (Str.ofString "/claim/cut.py") 402] }),
  (156, { cls := Value.type "function", data := Data.func { name := Str.ofString "decimal_place", qualname := Str.ofString "decimal_place", params := { posonlyargs := [], args := [{ arg := Str.ofString "m", annotation := none, pos := ⟨98, 18, 98, 19⟩ }, { arg := Str.ofString "e", annotation := none, pos := ⟨98, 21, 98, 22⟩ }], vararg := none, kwonlyargs := [], kw_defaults := [], kwarg := none, defaults := [] }, body := FuncBody.stmts (lawBody 21), scope := { kind := ScopeKind.function, names := [(Str.ofString "m", NameKind.local), (Str.ofString "e", NameKind.local), (Str.ofString "k", NameKind.local), (Str.ofString "scaled_floor", NameKind.globalImplicit)], isGenerator := false, isCoroutine := false }, globals := 3, closure := [], defaults := Value.none, kwdefaults := Value.none, pyModule := Value.str (Str.ofString "moduleyard.realtext") 379, code := Value.ref 155 } }),
  (157, { cls := Value.type "tuple", data := Data.seq #[] }),
  (158, { cls := Value.none, data := Data.fields #[] }),
  (159, { cls := Value.type "tuple", data := Data.seq #[Value.str (Str.ofString "form") 407, Value.str (Str.ofString "digits") 408, Value.str (Str.ofString "power") 409] }),
  (160, { cls := Value.type "tuple", data := Data.seq #[] }),
  (161, { cls := Value.none, data := Data.func { name := Str.ofString "read_back", qualname := Str.ofString "read_back", params := { posonlyargs := [], args := [{ arg := Str.ofString "form", annotation := none, pos := ⟨105, 14, 105, 18⟩ }, { arg := Str.ofString "digits", annotation := none, pos := ⟨105, 20, 105, 26⟩ }, { arg := Str.ofString "power", annotation := none, pos := ⟨105, 28, 105, 33⟩ }], vararg := none, kwonlyargs := [], kw_defaults := [], kwarg := none, defaults := [] }, body := FuncBody.stmts (lawBody 22), scope := { kind := ScopeKind.function, names := [(Str.ofString "form", NameKind.local), (Str.ofString "digits", NameKind.local), (Str.ofString "power", NameKind.local), (Str.ofString "from_ratio", NameKind.globalImplicit)], isGenerator := false, isCoroutine := false }, globals := 0, closure := [], defaults := Value.none, kwdefaults := Value.none } }),
  (162, { cls := Value.type "code", data := Data.fields #[Value.str (Str.ofString "read_back") 404, Value.str (Str.ofString "read_back") 405, Value.str (Str.ofString "/claim/cut.py") 406, Value.int 105 0, Value.int 3 0, Value.int 0 0, Value.int 0 0, Value.int 3 0, Value.ref 157, Value.bool true, Value.int 181 0, Value.ref 158, Value.none, Value.ref 159, Value.ref 160, Value.ref 161, Value.int 410 0, Value.int 105 0, Value.str (Str.ofString "/claim/cut.py") 411] }),
  (163, { cls := Value.type "function", data := Data.func { name := Str.ofString "read_back", qualname := Str.ofString "read_back", params := { posonlyargs := [], args := [{ arg := Str.ofString "form", annotation := none, pos := ⟨105, 14, 105, 18⟩ }, { arg := Str.ofString "digits", annotation := none, pos := ⟨105, 20, 105, 26⟩ }, { arg := Str.ofString "power", annotation := none, pos := ⟨105, 28, 105, 33⟩ }], vararg := none, kwonlyargs := [], kw_defaults := [], kwarg := none, defaults := [] }, body := FuncBody.stmts (lawBody 22), scope := { kind := ScopeKind.function, names := [(Str.ofString "form", NameKind.local), (Str.ofString "digits", NameKind.local), (Str.ofString "power", NameKind.local), (Str.ofString "from_ratio", NameKind.globalImplicit)], isGenerator := false, isCoroutine := false }, globals := 3, closure := [], defaults := Value.none, kwdefaults := Value.none, pyModule := Value.str (Str.ofString "moduleyard.realtext") 379, code := Value.ref 162 } }),
  (164, { cls := Value.type "tuple", data := Data.seq #[] }),
  (165, { cls := Value.none, data := Data.fields #[] }),
  (166, { cls := Value.type "tuple", data := Data.seq #[Value.str (Str.ofString "m") 416, Value.str (Str.ofString "e") 417, Value.str (Str.ofString "power") 418, Value.str (Str.ofString "low") 419, Value.str (Str.ofString "twice") 420, Value.str (Str.ofString "exact") 421] }),
  (167, { cls := Value.type "tuple", data := Data.seq #[] }),
  (168, { cls := Value.none, data := Data.func { name := Str.ofString "is_upper_nearer", qualname := Str.ofString "is_upper_nearer", params := { posonlyargs := [], args := [{ arg := Str.ofString "m", annotation := none, pos := ⟨109, 20, 109, 21⟩ }, { arg := Str.ofString "e", annotation := none, pos := ⟨109, 23, 109, 24⟩ }, { arg := Str.ofString "power", annotation := none, pos := ⟨109, 26, 109, 31⟩ }, { arg := Str.ofString "low", annotation := none, pos := ⟨109, 33, 109, 36⟩ }], vararg := none, kwonlyargs := [], kw_defaults := [], kwarg := none, defaults := [] }, body := FuncBody.stmts (lawBody 23), scope := { kind := ScopeKind.function, names := [(Str.ofString "m", NameKind.local), (Str.ofString "e", NameKind.local), (Str.ofString "power", NameKind.local), (Str.ofString "low", NameKind.local), (Str.ofString "twice", NameKind.local), (Str.ofString "exact", NameKind.local), (Str.ofString "scaled_floor", NameKind.globalImplicit)], isGenerator := false, isCoroutine := false }, globals := 0, closure := [], defaults := Value.none, kwdefaults := Value.none } }),
  (169, { cls := Value.type "code", data := Data.fields #[Value.str (Str.ofString "is_upper_nearer") 413, Value.str (Str.ofString "is_upper_nearer") 414, Value.str (Str.ofString "/claim/cut.py") 415, Value.int 109 0, Value.int 4 0, Value.int 0 0, Value.int 0 0, Value.int 3 0, Value.ref 164, Value.bool true, Value.int 181 0, Value.ref 165, Value.none, Value.ref 166, Value.ref 167, Value.ref 168, Value.int 422 0, Value.int 109 0, Value.str (Str.ofString "/claim/cut.py") 423] }),
  (170, { cls := Value.type "function", data := Data.func { name := Str.ofString "is_upper_nearer", qualname := Str.ofString "is_upper_nearer", params := { posonlyargs := [], args := [{ arg := Str.ofString "m", annotation := none, pos := ⟨109, 20, 109, 21⟩ }, { arg := Str.ofString "e", annotation := none, pos := ⟨109, 23, 109, 24⟩ }, { arg := Str.ofString "power", annotation := none, pos := ⟨109, 26, 109, 31⟩ }, { arg := Str.ofString "low", annotation := none, pos := ⟨109, 33, 109, 36⟩ }], vararg := none, kwonlyargs := [], kw_defaults := [], kwarg := none, defaults := [] }, body := FuncBody.stmts (lawBody 23), scope := { kind := ScopeKind.function, names := [(Str.ofString "m", NameKind.local), (Str.ofString "e", NameKind.local), (Str.ofString "power", NameKind.local), (Str.ofString "low", NameKind.local), (Str.ofString "twice", NameKind.local), (Str.ofString "exact", NameKind.local), (Str.ofString "scaled_floor", NameKind.globalImplicit)], isGenerator := false, isCoroutine := false }, globals := 3, closure := [], defaults := Value.none, kwdefaults := Value.none, pyModule := Value.str (Str.ofString "moduleyard.realtext") 379, code := Value.ref 169 } }),
  (171, { cls := Value.type "tuple", data := Data.seq #[] }),
  (172, { cls := Value.none, data := Data.fields #[] }),
  (173, { cls := Value.type "tuple", data := Data.seq #[Value.str (Str.ofString "form") 428, Value.str (Str.ofString "bits") 429, Value.str (Str.ofString "_") 430, Value.str (Str.ofString "m") 431, Value.str (Str.ofString "e") 432, Value.str (Str.ofString "place") 433, Value.str (Str.ofString "count") 434, Value.str (Str.ofString "power") 435, Value.str (Str.ofString "low") 436, Value.str (Str.ofString "order") 437, Value.str (Str.ofString "digits") 438] }),
  (174, { cls := Value.type "tuple", data := Data.seq #[] }),
  (175, { cls := Value.none, data := Data.func { name := Str.ofString "shortest_digits", qualname := Str.ofString "shortest_digits", params := { posonlyargs := [], args := [{ arg := Str.ofString "form", annotation := none, pos := ⟨114, 20, 114, 24⟩ }, { arg := Str.ofString "bits", annotation := none, pos := ⟨114, 26, 114, 30⟩ }], vararg := none, kwonlyargs := [], kw_defaults := [], kwarg := none, defaults := [] }, body := FuncBody.stmts (lawBody 24), scope := { kind := ScopeKind.function, names := [(Str.ofString "form", NameKind.local), (Str.ofString "bits", NameKind.local), (Str.ofString "_", NameKind.local), (Str.ofString "m", NameKind.local), (Str.ofString "e", NameKind.local), (Str.ofString "place", NameKind.local), (Str.ofString "count", NameKind.local), (Str.ofString "power", NameKind.local), (Str.ofString "low", NameKind.local), (Str.ofString "order", NameKind.local), (Str.ofString "digits", NameKind.local), (Str.ofString "unpack", NameKind.globalImplicit), (Str.ofString "decimal_place", NameKind.globalImplicit), (Str.ofString "scaled_floor", NameKind.globalImplicit), (Str.ofString "is_upper_nearer", NameKind.globalImplicit), (Str.ofString "read_back", NameKind.globalImplicit), (Str.ofString "without_zeros", NameKind.globalImplicit)], isGenerator := false, isCoroutine := false }, globals := 0, closure := [], defaults := Value.none, kwdefaults := Value.none } }),
  (176, { cls := Value.type "code", data := Data.fields #[Value.str (Str.ofString "shortest_digits") 425, Value.str (Str.ofString "shortest_digits") 426, Value.str (Str.ofString "/claim/cut.py") 427, Value.int 114 0, Value.int 2 0, Value.int 0 0, Value.int 0 0, Value.int 3 0, Value.ref 171, Value.bool true, Value.int 181 0, Value.ref 172, Value.none, Value.ref 173, Value.ref 174, Value.ref 175, Value.int 439 0, Value.int 114 0, Value.str (Str.ofString "/claim/cut.py") 440] }),
  (177, { cls := Value.type "function", data := Data.func { name := Str.ofString "shortest_digits", qualname := Str.ofString "shortest_digits", params := { posonlyargs := [], args := [{ arg := Str.ofString "form", annotation := none, pos := ⟨114, 20, 114, 24⟩ }, { arg := Str.ofString "bits", annotation := none, pos := ⟨114, 26, 114, 30⟩ }], vararg := none, kwonlyargs := [], kw_defaults := [], kwarg := none, defaults := [] }, body := FuncBody.stmts (lawBody 24), scope := { kind := ScopeKind.function, names := [(Str.ofString "form", NameKind.local), (Str.ofString "bits", NameKind.local), (Str.ofString "_", NameKind.local), (Str.ofString "m", NameKind.local), (Str.ofString "e", NameKind.local), (Str.ofString "place", NameKind.local), (Str.ofString "count", NameKind.local), (Str.ofString "power", NameKind.local), (Str.ofString "low", NameKind.local), (Str.ofString "order", NameKind.local), (Str.ofString "digits", NameKind.local), (Str.ofString "unpack", NameKind.globalImplicit), (Str.ofString "decimal_place", NameKind.globalImplicit), (Str.ofString "scaled_floor", NameKind.globalImplicit), (Str.ofString "is_upper_nearer", NameKind.globalImplicit), (Str.ofString "read_back", NameKind.globalImplicit), (Str.ofString "without_zeros", NameKind.globalImplicit)], isGenerator := false, isCoroutine := false }, globals := 3, closure := [], defaults := Value.none, kwdefaults := Value.none, pyModule := Value.str (Str.ofString "moduleyard.realtext") 379, code := Value.ref 176 } }),
  (178, { cls := Value.type "tuple", data := Data.seq #[] }),
  (179, { cls := Value.none, data := Data.fields #[] }),
  (180, { cls := Value.type "tuple", data := Data.seq #[Value.str (Str.ofString "digits") 445, Value.str (Str.ofString "power") 446] }),
  (181, { cls := Value.type "tuple", data := Data.seq #[] }),
  (182, { cls := Value.none, data := Data.func { name := Str.ofString "without_zeros", qualname := Str.ofString "without_zeros", params := { posonlyargs := [], args := [{ arg := Str.ofString "digits", annotation := none, pos := ⟨128, 18, 128, 24⟩ }, { arg := Str.ofString "power", annotation := none, pos := ⟨128, 26, 128, 31⟩ }], vararg := none, kwonlyargs := [], kw_defaults := [], kwarg := none, defaults := [] }, body := FuncBody.stmts (lawBody 25), scope := { kind := ScopeKind.function, names := [(Str.ofString "digits", NameKind.local), (Str.ofString "power", NameKind.local)], isGenerator := false, isCoroutine := false }, globals := 0, closure := [], defaults := Value.none, kwdefaults := Value.none } }),
  (183, { cls := Value.type "code", data := Data.fields #[Value.str (Str.ofString "without_zeros") 442, Value.str (Str.ofString "without_zeros") 443, Value.str (Str.ofString "/claim/cut.py") 444, Value.int 128 0, Value.int 2 0, Value.int 0 0, Value.int 0 0, Value.int 3 0, Value.ref 178, Value.bool true, Value.int 181 0, Value.ref 179, Value.none, Value.ref 180, Value.ref 181, Value.ref 182, Value.int 447 0, Value.int 128 0, Value.str (Str.ofString "/claim/cut.py") 448] }),
  (184, { cls := Value.type "function", data := Data.func { name := Str.ofString "without_zeros", qualname := Str.ofString "without_zeros", params := { posonlyargs := [], args := [{ arg := Str.ofString "digits", annotation := none, pos := ⟨128, 18, 128, 24⟩ }, { arg := Str.ofString "power", annotation := none, pos := ⟨128, 26, 128, 31⟩ }], vararg := none, kwonlyargs := [], kw_defaults := [], kwarg := none, defaults := [] }, body := FuncBody.stmts (lawBody 25), scope := { kind := ScopeKind.function, names := [(Str.ofString "digits", NameKind.local), (Str.ofString "power", NameKind.local)], isGenerator := false, isCoroutine := false }, globals := 3, closure := [], defaults := Value.none, kwdefaults := Value.none, pyModule := Value.str (Str.ofString "moduleyard.realtext") 379, code := Value.ref 183 } }),
  (185, { cls := Value.type "tuple", data := Data.seq #[] }),
  (186, { cls := Value.none, data := Data.fields #[] }),
  (187, { cls := Value.type "tuple", data := Data.seq #[Value.str (Str.ofString "digits") 453, Value.str (Str.ofString "power") 454, Value.str (Str.ofString "text") 455, Value.str (Str.ofString "place") 456, Value.str (Str.ofString "tail") 457] }),
  (188, { cls := Value.type "tuple", data := Data.seq #[] }),
  (189, { cls := Value.none, data := Data.func { name := Str.ofString "placed_text", qualname := Str.ofString "placed_text", params := { posonlyargs := [], args := [{ arg := Str.ofString "digits", annotation := none, pos := ⟨133, 16, 133, 22⟩ }, { arg := Str.ofString "power", annotation := none, pos := ⟨133, 24, 133, 29⟩ }], vararg := none, kwonlyargs := [], kw_defaults := [], kwarg := none, defaults := [] }, body := FuncBody.stmts (lawBody 26), scope := { kind := ScopeKind.function, names := [(Str.ofString "digits", NameKind.local), (Str.ofString "power", NameKind.local), (Str.ofString "text", NameKind.local), (Str.ofString "place", NameKind.local), (Str.ofString "tail", NameKind.local), (Str.ofString "str", NameKind.globalImplicit), (Str.ofString "len", NameKind.globalImplicit)], isGenerator := false, isCoroutine := false }, globals := 0, closure := [], defaults := Value.none, kwdefaults := Value.none } }),
  (190, { cls := Value.type "code", data := Data.fields #[Value.str (Str.ofString "placed_text") 450, Value.str (Str.ofString "placed_text") 451, Value.str (Str.ofString "/claim/cut.py") 452, Value.int 133 0, Value.int 2 0, Value.int 0 0, Value.int 0 0, Value.int 3 0, Value.ref 185, Value.bool true, Value.int 181 0, Value.ref 186, Value.none, Value.ref 187, Value.ref 188, Value.ref 189, Value.int 458 0, Value.int 133 0, Value.str (Str.ofString "/claim/cut.py") 459] }),
  (191, { cls := Value.type "function", data := Data.func { name := Str.ofString "placed_text", qualname := Str.ofString "placed_text", params := { posonlyargs := [], args := [{ arg := Str.ofString "digits", annotation := none, pos := ⟨133, 16, 133, 22⟩ }, { arg := Str.ofString "power", annotation := none, pos := ⟨133, 24, 133, 29⟩ }], vararg := none, kwonlyargs := [], kw_defaults := [], kwarg := none, defaults := [] }, body := FuncBody.stmts (lawBody 26), scope := { kind := ScopeKind.function, names := [(Str.ofString "digits", NameKind.local), (Str.ofString "power", NameKind.local), (Str.ofString "text", NameKind.local), (Str.ofString "place", NameKind.local), (Str.ofString "tail", NameKind.local), (Str.ofString "str", NameKind.globalImplicit), (Str.ofString "len", NameKind.globalImplicit)], isGenerator := false, isCoroutine := false }, globals := 3, closure := [], defaults := Value.none, kwdefaults := Value.none, pyModule := Value.str (Str.ofString "moduleyard.realtext") 379, code := Value.ref 190 } }),
  (192, { cls := Value.type "tuple", data := Data.seq #[] }),
  (193, { cls := Value.none, data := Data.fields #[] }),
  (194, { cls := Value.type "tuple", data := Data.seq #[Value.str (Str.ofString "form") 464, Value.str (Str.ofString "bits") 465, Value.str (Str.ofString "side") 466, Value.str (Str.ofString "digits") 467, Value.str (Str.ofString "power") 468] }),
  (195, { cls := Value.type "tuple", data := Data.seq #[] }),
  (196, { cls := Value.none, data := Data.func { name := Str.ofString "write_real", qualname := Str.ofString "write_real", params := { posonlyargs := [], args := [{ arg := Str.ofString "form", annotation := none, pos := ⟨146, 15, 146, 19⟩ }, { arg := Str.ofString "bits", annotation := none, pos := ⟨146, 21, 146, 25⟩ }], vararg := none, kwonlyargs := [], kw_defaults := [], kwarg := none, defaults := [] }, body := FuncBody.stmts (lawBody 27), scope := { kind := ScopeKind.function, names := [(Str.ofString "form", NameKind.local), (Str.ofString "bits", NameKind.local), (Str.ofString "side", NameKind.local), (Str.ofString "digits", NameKind.local), (Str.ofString "power", NameKind.local), (Str.ofString "is_not_a_number", NameKind.globalImplicit), (Str.ofString "sign_of", NameKind.globalImplicit), (Str.ofString "is_infinite", NameKind.globalImplicit), (Str.ofString "is_zero", NameKind.globalImplicit), (Str.ofString "shortest_digits", NameKind.globalImplicit), (Str.ofString "absolute_real", NameKind.globalImplicit), (Str.ofString "placed_text", NameKind.globalImplicit)], isGenerator := false, isCoroutine := false }, globals := 0, closure := [], defaults := Value.none, kwdefaults := Value.none } }),
  (197, { cls := Value.type "code", data := Data.fields #[Value.str (Str.ofString "write_real") 461, Value.str (Str.ofString "write_real") 462, Value.str (Str.ofString "/claim/cut.py") 463, Value.int 146 0, Value.int 2 0, Value.int 0 0, Value.int 0 0, Value.int 3 0, Value.ref 192, Value.bool true, Value.int 181 0, Value.ref 193, Value.none, Value.ref 194, Value.ref 195, Value.ref 196, Value.int 469 0, Value.int 146 0, Value.str (Str.ofString "/claim/cut.py") 470] }),
  (198, { cls := Value.type "function", data := Data.func { name := Str.ofString "write_real", qualname := Str.ofString "write_real", params := { posonlyargs := [], args := [{ arg := Str.ofString "form", annotation := none, pos := ⟨146, 15, 146, 19⟩ }, { arg := Str.ofString "bits", annotation := none, pos := ⟨146, 21, 146, 25⟩ }], vararg := none, kwonlyargs := [], kw_defaults := [], kwarg := none, defaults := [] }, body := FuncBody.stmts (lawBody 27), scope := { kind := ScopeKind.function, names := [(Str.ofString "form", NameKind.local), (Str.ofString "bits", NameKind.local), (Str.ofString "side", NameKind.local), (Str.ofString "digits", NameKind.local), (Str.ofString "power", NameKind.local), (Str.ofString "is_not_a_number", NameKind.globalImplicit), (Str.ofString "sign_of", NameKind.globalImplicit), (Str.ofString "is_infinite", NameKind.globalImplicit), (Str.ofString "is_zero", NameKind.globalImplicit), (Str.ofString "shortest_digits", NameKind.globalImplicit), (Str.ofString "absolute_real", NameKind.globalImplicit), (Str.ofString "placed_text", NameKind.globalImplicit)], isGenerator := false, isCoroutine := false }, globals := 3, closure := [], defaults := Value.none, kwdefaults := Value.none, pyModule := Value.str (Str.ofString "moduleyard.realtext") 379, code := Value.ref 197 } }),
  (199, { cls := Value.type "tuple", data := Data.seq #[] }),
  (200, { cls := Value.none, data := Data.fields #[] }),
  (201, { cls := Value.type "tuple", data := Data.seq #[Value.str (Str.ofString "text") 475, Value.str (Str.ofString "at") 476] }),
  (202, { cls := Value.type "tuple", data := Data.seq #[] }),
  (203, { cls := Value.none, data := Data.func { name := Str.ofString "digit_end", qualname := Str.ofString "digit_end", params := { posonlyargs := [], args := [{ arg := Str.ofString "text", annotation := none, pos := ⟨156, 14, 156, 18⟩ }, { arg := Str.ofString "at", annotation := none, pos := ⟨156, 20, 156, 22⟩ }], vararg := none, kwonlyargs := [], kw_defaults := [], kwarg := none, defaults := [] }, body := FuncBody.stmts (lawBody 28), scope := { kind := ScopeKind.function, names := [(Str.ofString "text", NameKind.local), (Str.ofString "at", NameKind.local), (Str.ofString "len", NameKind.globalImplicit)], isGenerator := false, isCoroutine := false }, globals := 0, closure := [], defaults := Value.none, kwdefaults := Value.none } }),
  (204, { cls := Value.type "code", data := Data.fields #[Value.str (Str.ofString "digit_end") 472, Value.str (Str.ofString "digit_end") 473, Value.str (Str.ofString "/claim/cut.py") 474, Value.int 156 0, Value.int 2 0, Value.int 0 0, Value.int 0 0, Value.int 3 0, Value.ref 199, Value.bool true, Value.int 181 0, Value.ref 200, Value.none, Value.ref 201, Value.ref 202, Value.ref 203, Value.int 477 0, Value.int 156 0, Value.str (Str.ofString "/claim/cut.py") 478] }),
  (205, { cls := Value.type "function", data := Data.func { name := Str.ofString "digit_end", qualname := Str.ofString "digit_end", params := { posonlyargs := [], args := [{ arg := Str.ofString "text", annotation := none, pos := ⟨156, 14, 156, 18⟩ }, { arg := Str.ofString "at", annotation := none, pos := ⟨156, 20, 156, 22⟩ }], vararg := none, kwonlyargs := [], kw_defaults := [], kwarg := none, defaults := [] }, body := FuncBody.stmts (lawBody 28), scope := { kind := ScopeKind.function, names := [(Str.ofString "text", NameKind.local), (Str.ofString "at", NameKind.local), (Str.ofString "len", NameKind.globalImplicit)], isGenerator := false, isCoroutine := false }, globals := 3, closure := [], defaults := Value.none, kwdefaults := Value.none, pyModule := Value.str (Str.ofString "moduleyard.realtext") 379, code := Value.ref 204 } }),
  (206, { cls := Value.type "tuple", data := Data.seq #[] }),
  (207, { cls := Value.none, data := Data.fields #[] }),
  (208, { cls := Value.type "tuple", data := Data.seq #[Value.str (Str.ofString "text") 483, Value.str (Str.ofString "found") 484, Value.str (Str.ofString "char") 485] }),
  (209, { cls := Value.type "tuple", data := Data.seq #[] }),
  (210, { cls := Value.none, data := Data.func { name := Str.ofString "digits_value", qualname := Str.ofString "digits_value", params := { posonlyargs := [], args := [{ arg := Str.ofString "text", annotation := none, pos := ⟨160, 17, 160, 21⟩ }], vararg := none, kwonlyargs := [], kw_defaults := [], kwarg := none, defaults := [] }, body := FuncBody.stmts (lawBody 29), scope := { kind := ScopeKind.function, names := [(Str.ofString "text", NameKind.local), (Str.ofString "found", NameKind.local), (Str.ofString "char", NameKind.local)], isGenerator := false, isCoroutine := false }, globals := 0, closure := [], defaults := Value.none, kwdefaults := Value.none } }),
  (211, { cls := Value.type "code", data := Data.fields #[Value.str (Str.ofString "digits_value") 480, Value.str (Str.ofString "digits_value") 481, Value.str (Str.ofString "/claim/cut.py") 482, Value.int 160 0, Value.int 1 0, Value.int 0 0, Value.int 0 0, Value.int 3 0, Value.ref 206, Value.bool true, Value.int 181 0, Value.ref 207, Value.none, Value.ref 208, Value.ref 209, Value.ref 210, Value.int 486 0, Value.int 160 0, Value.str (Str.ofString "/claim/cut.py") 487] }),
  (212, { cls := Value.type "function", data := Data.func { name := Str.ofString "digits_value", qualname := Str.ofString "digits_value", params := { posonlyargs := [], args := [{ arg := Str.ofString "text", annotation := none, pos := ⟨160, 17, 160, 21⟩ }], vararg := none, kwonlyargs := [], kw_defaults := [], kwarg := none, defaults := [] }, body := FuncBody.stmts (lawBody 29), scope := { kind := ScopeKind.function, names := [(Str.ofString "text", NameKind.local), (Str.ofString "found", NameKind.local), (Str.ofString "char", NameKind.local)], isGenerator := false, isCoroutine := false }, globals := 3, closure := [], defaults := Value.none, kwdefaults := Value.none, pyModule := Value.str (Str.ofString "moduleyard.realtext") 379, code := Value.ref 211 } }),
  (213, { cls := Value.type "tuple", data := Data.seq #[] }),
  (214, { cls := Value.none, data := Data.fields #[] }),
  (215, { cls := Value.type "tuple", data := Data.seq #[Value.str (Str.ofString "text") 492, Value.str (Str.ofString "sign") 493, Value.str (Str.ofString "start") 494, Value.str (Str.ofString "found") 495] }),
  (216, { cls := Value.type "tuple", data := Data.seq #[] }),
  (217, { cls := Value.none, data := Data.func { name := Str.ofString "read_exponent", qualname := Str.ofString "read_exponent", params := { posonlyargs := [], args := [{ arg := Str.ofString "text", annotation := none, pos := ⟨165, 18, 165, 22⟩ }], vararg := none, kwonlyargs := [], kw_defaults := [], kwarg := none, defaults := [] }, body := FuncBody.stmts (lawBody 30), scope := { kind := ScopeKind.function, names := [(Str.ofString "text", NameKind.local), (Str.ofString "sign", NameKind.local), (Str.ofString "start", NameKind.local), (Str.ofString "found", NameKind.local), (Str.ofString "len", NameKind.globalImplicit), (Str.ofString "digit_end", NameKind.globalImplicit), (Str.ofString "digits_value", NameKind.globalImplicit), (Str.ofString "MOST_EXPONENT", NameKind.globalImplicit)], isGenerator := false, isCoroutine := false }, globals := 0, closure := [], defaults := Value.none, kwdefaults := Value.none } }),
  (218, { cls := Value.type "code", data := Data.fields #[Value.str (Str.ofString "read_exponent") 489, Value.str (Str.ofString "read_exponent") 490, Value.str (Str.ofString "/claim/cut.py") 491, Value.int 165 0, Value.int 1 0, Value.int 0 0, Value.int 0 0, Value.int 3 0, Value.ref 213, Value.bool true, Value.int 181 0, Value.ref 214, Value.none, Value.ref 215, Value.ref 216, Value.ref 217, Value.int 496 0, Value.int 165 0, Value.str (Str.ofString "/claim/cut.py") 497] }),
  (219, { cls := Value.type "function", data := Data.func { name := Str.ofString "read_exponent", qualname := Str.ofString "read_exponent", params := { posonlyargs := [], args := [{ arg := Str.ofString "text", annotation := none, pos := ⟨165, 18, 165, 22⟩ }], vararg := none, kwonlyargs := [], kw_defaults := [], kwarg := none, defaults := [] }, body := FuncBody.stmts (lawBody 30), scope := { kind := ScopeKind.function, names := [(Str.ofString "text", NameKind.local), (Str.ofString "sign", NameKind.local), (Str.ofString "start", NameKind.local), (Str.ofString "found", NameKind.local), (Str.ofString "len", NameKind.globalImplicit), (Str.ofString "digit_end", NameKind.globalImplicit), (Str.ofString "digits_value", NameKind.globalImplicit), (Str.ofString "MOST_EXPONENT", NameKind.globalImplicit)], isGenerator := false, isCoroutine := false }, globals := 3, closure := [], defaults := Value.none, kwdefaults := Value.none, pyModule := Value.str (Str.ofString "moduleyard.realtext") 379, code := Value.ref 218 } }),
  (220, { cls := Value.type "tuple", data := Data.seq #[] }),
  (221, { cls := Value.none, data := Data.fields #[] }),
  (222, { cls := Value.type "tuple", data := Data.seq #[Value.str (Str.ofString "form") 502, Value.str (Str.ofString "sign") 503, Value.str (Str.ofString "text") 504, Value.str (Str.ofString "end") 505, Value.str (Str.ofString "last") 506, Value.str (Str.ofString "digits") 507, Value.str (Str.ofString "power") 508, Value.str (Str.ofString "good") 509] }),
  (223, { cls := Value.type "tuple", data := Data.seq #[] }),
  (224, { cls := Value.none, data := Data.func { name := Str.ofString "read_decimal", qualname := Str.ofString "read_decimal", params := { posonlyargs := [], args := [{ arg := Str.ofString "form", annotation := none, pos := ⟨180, 17, 180, 21⟩ }, { arg := Str.ofString "sign", annotation := none, pos := ⟨180, 23, 180, 27⟩ }, { arg := Str.ofString "text", annotation := none, pos := ⟨180, 29, 180, 33⟩ }], vararg := none, kwonlyargs := [], kw_defaults := [], kwarg := none, defaults := [] }, body := FuncBody.stmts (lawBody 31), scope := { kind := ScopeKind.function, names := [(Str.ofString "form", NameKind.local), (Str.ofString "sign", NameKind.local), (Str.ofString "text", NameKind.local), (Str.ofString "end", NameKind.local), (Str.ofString "last", NameKind.local), (Str.ofString "digits", NameKind.local), (Str.ofString "power", NameKind.local), (Str.ofString "good", NameKind.local), (Str.ofString "digit_end", NameKind.globalImplicit), (Str.ofString "digits_value", NameKind.globalImplicit), (Str.ofString "len", NameKind.globalImplicit), (Str.ofString "read_exponent", NameKind.globalImplicit), (Str.ofString "MOST_EXPONENT", NameKind.globalImplicit), (Str.ofString "signed_zero", NameKind.globalImplicit), (Str.ofString "infinity", NameKind.globalImplicit), (Str.ofString "from_ratio", NameKind.globalImplicit)], isGenerator := false, isCoroutine := false }, globals := 0, closure := [], defaults := Value.none, kwdefaults := Value.none } }),
  (225, { cls := Value.type "code", data := Data.fields #[Value.str (Str.ofString "read_decimal") 499, Value.str (Str.ofString "read_decimal") 500, Value.str (Str.ofString "/claim/cut.py") 501, Value.int 180 0, Value.int 3 0, Value.int 0 0, Value.int 0 0, Value.int 3 0, Value.ref 220, Value.bool true, Value.int 181 0, Value.ref 221, Value.none, Value.ref 222, Value.ref 223, Value.ref 224, Value.int 510 0, Value.int 180 0, Value.str (Str.ofString "/claim/cut.py") 511] }),
  (226, { cls := Value.type "function", data := Data.func { name := Str.ofString "read_decimal", qualname := Str.ofString "read_decimal", params := { posonlyargs := [], args := [{ arg := Str.ofString "form", annotation := none, pos := ⟨180, 17, 180, 21⟩ }, { arg := Str.ofString "sign", annotation := none, pos := ⟨180, 23, 180, 27⟩ }, { arg := Str.ofString "text", annotation := none, pos := ⟨180, 29, 180, 33⟩ }], vararg := none, kwonlyargs := [], kw_defaults := [], kwarg := none, defaults := [] }, body := FuncBody.stmts (lawBody 31), scope := { kind := ScopeKind.function, names := [(Str.ofString "form", NameKind.local), (Str.ofString "sign", NameKind.local), (Str.ofString "text", NameKind.local), (Str.ofString "end", NameKind.local), (Str.ofString "last", NameKind.local), (Str.ofString "digits", NameKind.local), (Str.ofString "power", NameKind.local), (Str.ofString "good", NameKind.local), (Str.ofString "digit_end", NameKind.globalImplicit), (Str.ofString "digits_value", NameKind.globalImplicit), (Str.ofString "len", NameKind.globalImplicit), (Str.ofString "read_exponent", NameKind.globalImplicit), (Str.ofString "MOST_EXPONENT", NameKind.globalImplicit), (Str.ofString "signed_zero", NameKind.globalImplicit), (Str.ofString "infinity", NameKind.globalImplicit), (Str.ofString "from_ratio", NameKind.globalImplicit)], isGenerator := false, isCoroutine := false }, globals := 3, closure := [], defaults := Value.none, kwdefaults := Value.none, pyModule := Value.str (Str.ofString "moduleyard.realtext") 379, code := Value.ref 225 } }),
  (227, { cls := Value.type "tuple", data := Data.seq #[] }),
  (228, { cls := Value.none, data := Data.fields #[] }),
  (229, { cls := Value.type "tuple", data := Data.seq #[Value.str (Str.ofString "form") 516, Value.str (Str.ofString "text") 517, Value.str (Str.ofString "sign") 518] }),
  (230, { cls := Value.type "tuple", data := Data.seq #[] }),
  (231, { cls := Value.none, data := Data.func { name := Str.ofString "read_real", qualname := Str.ofString "read_real", params := { posonlyargs := [], args := [{ arg := Str.ofString "form", annotation := none, pos := ⟨201, 14, 201, 18⟩ }, { arg := Str.ofString "text", annotation := none, pos := ⟨201, 20, 201, 24⟩ }], vararg := none, kwonlyargs := [], kw_defaults := [], kwarg := none, defaults := [] }, body := FuncBody.stmts (lawBody 32), scope := { kind := ScopeKind.function, names := [(Str.ofString "form", NameKind.local), (Str.ofString "text", NameKind.local), (Str.ofString "sign", NameKind.local), (Str.ofString "not_a_number", NameKind.globalImplicit), (Str.ofString "infinity", NameKind.globalImplicit), (Str.ofString "read_decimal", NameKind.globalImplicit)], isGenerator := false, isCoroutine := false }, globals := 0, closure := [], defaults := Value.none, kwdefaults := Value.none } }),
  (232, { cls := Value.type "code", data := Data.fields #[Value.str (Str.ofString "read_real") 513, Value.str (Str.ofString "read_real") 514, Value.str (Str.ofString "/claim/cut.py") 515, Value.int 201 0, Value.int 2 0, Value.int 0 0, Value.int 0 0, Value.int 3 0, Value.ref 227, Value.bool true, Value.int 181 0, Value.ref 228, Value.none, Value.ref 229, Value.ref 230, Value.ref 231, Value.int 519 0, Value.int 201 0, Value.str (Str.ofString "/claim/cut.py") 520] }),
  (233, { cls := Value.type "function", data := Data.func { name := Str.ofString "read_real", qualname := Str.ofString "read_real", params := { posonlyargs := [], args := [{ arg := Str.ofString "form", annotation := none, pos := ⟨201, 14, 201, 18⟩ }, { arg := Str.ofString "text", annotation := none, pos := ⟨201, 20, 201, 24⟩ }], vararg := none, kwonlyargs := [], kw_defaults := [], kwarg := none, defaults := [] }, body := FuncBody.stmts (lawBody 32), scope := { kind := ScopeKind.function, names := [(Str.ofString "form", NameKind.local), (Str.ofString "text", NameKind.local), (Str.ofString "sign", NameKind.local), (Str.ofString "not_a_number", NameKind.globalImplicit), (Str.ofString "infinity", NameKind.globalImplicit), (Str.ofString "read_decimal", NameKind.globalImplicit)], isGenerator := false, isCoroutine := false }, globals := 3, closure := [], defaults := Value.none, kwdefaults := Value.none, pyModule := Value.str (Str.ofString "moduleyard.realtext") 379, code := Value.ref 232 } }),
  (234, { cls := Value.type "tuple", data := Data.seq #[] }),
  (235, { cls := Value.none, data := Data.fields #[] }),
  (236, { cls := Value.type "tuple", data := Data.seq #[Value.str (Str.ofString "pool") 527, Value.str (Str.ofString "most") 528, Value.str (Str.ofString "cells") 529, Value.str (Str.ofString "spot") 530, Value.str (Str.ofString "cell") 531, Value.str (Str.ofString "small") 532, Value.str (Str.ofString "found") 533] }),
  (237, { cls := Value.type "tuple", data := Data.seq #[] }),
  (238, { cls := Value.none, data := Data.func { name := Str.ofString "_law_digit", qualname := Str.ofString "_law_digit", params := { posonlyargs := [], args := [{ arg := Str.ofString "pool", annotation := none, pos := ⟨212, 15, 212, 19⟩ }, { arg := Str.ofString "most", annotation := none, pos := ⟨212, 21, 212, 25⟩ }], vararg := none, kwonlyargs := [], kw_defaults := [], kwarg := none, defaults := [] }, body := FuncBody.stmts (lawBody 34), scope := { kind := ScopeKind.function, names := [(Str.ofString "pool", NameKind.local), (Str.ofString "most", NameKind.local), (Str.ofString "cells", NameKind.local), (Str.ofString "spot", NameKind.local), (Str.ofString "cell", NameKind.local), (Str.ofString "small", NameKind.local), (Str.ofString "found", NameKind.local), (Str.ofString "len", NameKind.globalImplicit)], isGenerator := false, isCoroutine := false }, globals := 0, closure := [], defaults := Value.none, kwdefaults := Value.none } }),
  (239, { cls := Value.type "code", data := Data.fields #[Value.str (Str.ofString "_law_digit") 524, Value.str (Str.ofString "_law_digit") 525, Value.str (Str.ofString "/claim/cut.py") 526, Value.int 212 0, Value.int 2 0, Value.int 0 0, Value.int 0 0, Value.int 3 0, Value.ref 234, Value.bool true, Value.int 181 0, Value.ref 235, Value.none, Value.ref 236, Value.ref 237, Value.ref 238, Value.int 534 0, Value.int 212 0, Value.str (Str.ofString "/claim/cut.py") 535] }),
  (240, { cls := Value.type "function", data := Data.func { name := Str.ofString "_law_digit", qualname := Str.ofString "_law_digit", params := { posonlyargs := [], args := [{ arg := Str.ofString "pool", annotation := none, pos := ⟨212, 15, 212, 19⟩ }, { arg := Str.ofString "most", annotation := none, pos := ⟨212, 21, 212, 25⟩ }], vararg := none, kwonlyargs := [], kw_defaults := [], kwarg := none, defaults := [] }, body := FuncBody.stmts (lawBody 34), scope := { kind := ScopeKind.function, names := [(Str.ofString "pool", NameKind.local), (Str.ofString "most", NameKind.local), (Str.ofString "cells", NameKind.local), (Str.ofString "spot", NameKind.local), (Str.ofString "cell", NameKind.local), (Str.ofString "small", NameKind.local), (Str.ofString "found", NameKind.local), (Str.ofString "len", NameKind.globalImplicit)], isGenerator := false, isCoroutine := false }, globals := 3, closure := [], defaults := Value.none, kwdefaults := Value.none, pyModule := Value.str (Str.ofString "law_pb0344_01") 522, code := Value.ref 239 } }),
  (241, { cls := Value.type "tuple", data := Data.seq #[] }),
  (242, { cls := Value.none, data := Data.fields #[] }),
  (243, { cls := Value.type "tuple", data := Data.seq #[Value.str (Str.ofString "pool") 540, Value.str (Str.ofString "most") 541, Value.str (Str.ofString "found") 542, Value.str (Str.ofString "cover") 543] }),
  (244, { cls := Value.type "tuple", data := Data.seq #[] }),
  (245, { cls := Value.none, data := Data.func { name := Str.ofString "_law_wide", qualname := Str.ofString "_law_wide", params := { posonlyargs := [], args := [{ arg := Str.ofString "pool", annotation := none, pos := ⟨225, 14, 225, 18⟩ }, { arg := Str.ofString "most", annotation := none, pos := ⟨225, 20, 225, 24⟩ }], vararg := none, kwonlyargs := [], kw_defaults := [], kwarg := none, defaults := [] }, body := FuncBody.stmts (lawBody 35), scope := { kind := ScopeKind.function, names := [(Str.ofString "pool", NameKind.local), (Str.ofString "most", NameKind.local), (Str.ofString "found", NameKind.local), (Str.ofString "cover", NameKind.local), (Str.ofString "_law_digit", NameKind.globalImplicit)], isGenerator := false, isCoroutine := false }, globals := 0, closure := [], defaults := Value.none, kwdefaults := Value.none } }),
  (246, { cls := Value.type "code", data := Data.fields #[Value.str (Str.ofString "_law_wide") 537, Value.str (Str.ofString "_law_wide") 538, Value.str (Str.ofString "/claim/cut.py") 539, Value.int 225 0, Value.int 2 0, Value.int 0 0, Value.int 0 0, Value.int 3 0, Value.ref 241, Value.bool true, Value.int 181 0, Value.ref 242, Value.none, Value.ref 243, Value.ref 244, Value.ref 245, Value.int 544 0, Value.int 225 0, Value.str (Str.ofString "/claim/cut.py") 545] }),
  (247, { cls := Value.type "function", data := Data.func { name := Str.ofString "_law_wide", qualname := Str.ofString "_law_wide", params := { posonlyargs := [], args := [{ arg := Str.ofString "pool", annotation := none, pos := ⟨225, 14, 225, 18⟩ }, { arg := Str.ofString "most", annotation := none, pos := ⟨225, 20, 225, 24⟩ }], vararg := none, kwonlyargs := [], kw_defaults := [], kwarg := none, defaults := [] }, body := FuncBody.stmts (lawBody 35), scope := { kind := ScopeKind.function, names := [(Str.ofString "pool", NameKind.local), (Str.ofString "most", NameKind.local), (Str.ofString "found", NameKind.local), (Str.ofString "cover", NameKind.local), (Str.ofString "_law_digit", NameKind.globalImplicit)], isGenerator := false, isCoroutine := false }, globals := 3, closure := [], defaults := Value.none, kwdefaults := Value.none, pyModule := Value.str (Str.ofString "law_pb0344_01") 522, code := Value.ref 246 } }),
  (248, { cls := Value.type "tuple", data := Data.seq #[] }),
  (249, { cls := Value.none, data := Data.fields #[] }),
  (250, { cls := Value.type "tuple", data := Data.seq #[Value.str (Str.ofString "form") 550, Value.str (Str.ofString "size") 551, Value.str (Str.ofString "field") 552, Value.str (Str.ofString "fraction") 553] }),
  (251, { cls := Value.type "tuple", data := Data.seq #[] }),
  (252, { cls := Value.none, data := Data.func { name := Str.ofString "_law_units", qualname := Str.ofString "_law_units", params := { posonlyargs := [], args := [{ arg := Str.ofString "form", annotation := none, pos := ⟨231, 15, 231, 19⟩ }, { arg := Str.ofString "size", annotation := none, pos := ⟨231, 21, 231, 25⟩ }], vararg := none, kwonlyargs := [], kw_defaults := [], kwarg := none, defaults := [] }, body := FuncBody.stmts (lawBody 36), scope := { kind := ScopeKind.function, names := [(Str.ofString "form", NameKind.local), (Str.ofString "size", NameKind.local), (Str.ofString "field", NameKind.local), (Str.ofString "fraction", NameKind.local)], isGenerator := false, isCoroutine := false }, globals := 0, closure := [], defaults := Value.none, kwdefaults := Value.none } }),
  (253, { cls := Value.type "code", data := Data.fields #[Value.str (Str.ofString "_law_units") 547, Value.str (Str.ofString "_law_units") 548, Value.str (Str.ofString "/claim/cut.py") 549, Value.int 231 0, Value.int 2 0, Value.int 0 0, Value.int 0 0, Value.int 3 0, Value.ref 248, Value.bool true, Value.int 181 0, Value.ref 249, Value.none, Value.ref 250, Value.ref 251, Value.ref 252, Value.int 554 0, Value.int 231 0, Value.str (Str.ofString "/claim/cut.py") 555] }),
  (254, { cls := Value.type "function", data := Data.func { name := Str.ofString "_law_units", qualname := Str.ofString "_law_units", params := { posonlyargs := [], args := [{ arg := Str.ofString "form", annotation := none, pos := ⟨231, 15, 231, 19⟩ }, { arg := Str.ofString "size", annotation := none, pos := ⟨231, 21, 231, 25⟩ }], vararg := none, kwonlyargs := [], kw_defaults := [], kwarg := none, defaults := [] }, body := FuncBody.stmts (lawBody 36), scope := { kind := ScopeKind.function, names := [(Str.ofString "form", NameKind.local), (Str.ofString "size", NameKind.local), (Str.ofString "field", NameKind.local), (Str.ofString "fraction", NameKind.local)], isGenerator := false, isCoroutine := false }, globals := 3, closure := [], defaults := Value.none, kwdefaults := Value.none, pyModule := Value.str (Str.ofString "law_pb0344_01") 522, code := Value.ref 253 } }),
  (255, { cls := Value.type "tuple", data := Data.seq #[] }),
  (256, { cls := Value.none, data := Data.fields #[] }),
  (257, { cls := Value.type "tuple", data := Data.seq #[Value.str (Str.ofString "form") 560, Value.str (Str.ofString "text") 561, Value.str (Str.ofString "body") 562, Value.str (Str.ofString "mantissa") 563, Value.str (Str.ofString "power") 564, Value.str (Str.ofString "tail") 565, Value.str (Str.ofString "before") 566, Value.str (Str.ofString "behind") 567, Value.str (Str.ofString "digits") 568] }),
  (258, { cls := Value.type "tuple", data := Data.seq #[] }),
  (259, { cls := Value.none, data := Data.func { name := Str.ofString "_law_taken", qualname := Str.ofString "_law_taken", params := { posonlyargs := [], args := [{ arg := Str.ofString "form", annotation := none, pos := ⟨236, 15, 236, 19⟩ }, { arg := Str.ofString "text", annotation := none, pos := ⟨236, 21, 236, 25⟩ }], vararg := none, kwonlyargs := [], kw_defaults := [], kwarg := none, defaults := [] }, body := FuncBody.stmts (lawBody 37), scope := { kind := ScopeKind.function, names := [(Str.ofString "form", NameKind.local), (Str.ofString "text", NameKind.local), (Str.ofString "body", NameKind.local), (Str.ofString "mantissa", NameKind.local), (Str.ofString "power", NameKind.local), (Str.ofString "tail", NameKind.local), (Str.ofString "before", NameKind.local), (Str.ofString "behind", NameKind.local), (Str.ofString "digits", NameKind.local), (Str.ofString "int", NameKind.globalImplicit), (Str.ofString "len", NameKind.globalImplicit)], isGenerator := false, isCoroutine := false }, globals := 0, closure := [], defaults := Value.none, kwdefaults := Value.none } }),
  (260, { cls := Value.type "code", data := Data.fields #[Value.str (Str.ofString "_law_taken") 557, Value.str (Str.ofString "_law_taken") 558, Value.str (Str.ofString "/claim/cut.py") 559, Value.int 236 0, Value.int 2 0, Value.int 0 0, Value.int 0 0, Value.int 3 0, Value.ref 255, Value.bool true, Value.int 181 0, Value.ref 256, Value.none, Value.ref 257, Value.ref 258, Value.ref 259, Value.int 569 0, Value.int 236 0, Value.str (Str.ofString "/claim/cut.py") 570] }),
  (261, { cls := Value.type "function", data := Data.func { name := Str.ofString "_law_taken", qualname := Str.ofString "_law_taken", params := { posonlyargs := [], args := [{ arg := Str.ofString "form", annotation := none, pos := ⟨236, 15, 236, 19⟩ }, { arg := Str.ofString "text", annotation := none, pos := ⟨236, 21, 236, 25⟩ }], vararg := none, kwonlyargs := [], kw_defaults := [], kwarg := none, defaults := [] }, body := FuncBody.stmts (lawBody 37), scope := { kind := ScopeKind.function, names := [(Str.ofString "form", NameKind.local), (Str.ofString "text", NameKind.local), (Str.ofString "body", NameKind.local), (Str.ofString "mantissa", NameKind.local), (Str.ofString "power", NameKind.local), (Str.ofString "tail", NameKind.local), (Str.ofString "before", NameKind.local), (Str.ofString "behind", NameKind.local), (Str.ofString "digits", NameKind.local), (Str.ofString "int", NameKind.globalImplicit), (Str.ofString "len", NameKind.globalImplicit)], isGenerator := false, isCoroutine := false }, globals := 3, closure := [], defaults := Value.none, kwdefaults := Value.none, pyModule := Value.str (Str.ofString "law_pb0344_01") 522, code := Value.ref 260 } }),
  (262, { cls := Value.type "tuple", data := Data.seq #[] }),
  (263, { cls := Value.none, data := Data.fields #[] }),
  (264, { cls := Value.type "tuple", data := Data.seq #[Value.str (Str.ofString "form") 575, Value.str (Str.ofString "size") 576, Value.str (Str.ofString "digits") 577, Value.str (Str.ofString "power") 578, Value.str (Str.ofString "over") 579, Value.str (Str.ofString "under") 580, Value.str (Str.ofString "low") 581, Value.str (Str.ofString "high") 582, Value.str (Str.ofString "inside") 583] }),
  (265, { cls := Value.type "tuple", data := Data.seq #[] }),
  (266, { cls := Value.none, data := Data.func { name := Str.ofString "_law_side", qualname := Str.ofString "_law_side", params := { posonlyargs := [], args := [{ arg := Str.ofString "form", annotation := none, pos := ⟨249, 14, 249, 18⟩ }, { arg := Str.ofString "size", annotation := none, pos := ⟨249, 20, 249, 24⟩ }, { arg := Str.ofString "digits", annotation := none, pos := ⟨249, 26, 249, 32⟩ }, { arg := Str.ofString "power", annotation := none, pos := ⟨249, 34, 249, 39⟩ }], vararg := none, kwonlyargs := [], kw_defaults := [], kwarg := none, defaults := [] }, body := FuncBody.stmts (lawBody 38), scope := { kind := ScopeKind.function, names := [(Str.ofString "form", NameKind.local), (Str.ofString "size", NameKind.local), (Str.ofString "digits", NameKind.local), (Str.ofString "power", NameKind.local), (Str.ofString "over", NameKind.local), (Str.ofString "under", NameKind.local), (Str.ofString "low", NameKind.local), (Str.ofString "high", NameKind.local), (Str.ofString "inside", NameKind.local), (Str.ofString "_law_units", NameKind.globalImplicit), (Str.ofString "abs", NameKind.globalImplicit)], isGenerator := false, isCoroutine := false }, globals := 0, closure := [], defaults := Value.none, kwdefaults := Value.none } }),
  (267, { cls := Value.type "code", data := Data.fields #[Value.str (Str.ofString "_law_side") 572, Value.str (Str.ofString "_law_side") 573, Value.str (Str.ofString "/claim/cut.py") 574, Value.int 249 0, Value.int 4 0, Value.int 0 0, Value.int 0 0, Value.int 3 0, Value.ref 262, Value.bool true, Value.int 181 0, Value.ref 263, Value.none, Value.ref 264, Value.ref 265, Value.ref 266, Value.int 584 0, Value.int 249 0, Value.str (Str.ofString "/claim/cut.py") 585] }),
  (268, { cls := Value.type "function", data := Data.func { name := Str.ofString "_law_side", qualname := Str.ofString "_law_side", params := { posonlyargs := [], args := [{ arg := Str.ofString "form", annotation := none, pos := ⟨249, 14, 249, 18⟩ }, { arg := Str.ofString "size", annotation := none, pos := ⟨249, 20, 249, 24⟩ }, { arg := Str.ofString "digits", annotation := none, pos := ⟨249, 26, 249, 32⟩ }, { arg := Str.ofString "power", annotation := none, pos := ⟨249, 34, 249, 39⟩ }], vararg := none, kwonlyargs := [], kw_defaults := [], kwarg := none, defaults := [] }, body := FuncBody.stmts (lawBody 38), scope := { kind := ScopeKind.function, names := [(Str.ofString "form", NameKind.local), (Str.ofString "size", NameKind.local), (Str.ofString "digits", NameKind.local), (Str.ofString "power", NameKind.local), (Str.ofString "over", NameKind.local), (Str.ofString "under", NameKind.local), (Str.ofString "low", NameKind.local), (Str.ofString "high", NameKind.local), (Str.ofString "inside", NameKind.local), (Str.ofString "_law_units", NameKind.globalImplicit), (Str.ofString "abs", NameKind.globalImplicit)], isGenerator := false, isCoroutine := false }, globals := 3, closure := [], defaults := Value.none, kwdefaults := Value.none, pyModule := Value.str (Str.ofString "law_pb0344_01") 522, code := Value.ref 267 } }),
  (269, { cls := Value.type "tuple", data := Data.seq #[] }),
  (270, { cls := Value.none, data := Data.fields #[] }),
  (271, { cls := Value.type "tuple", data := Data.seq #[Value.str (Str.ofString "form") 590, Value.str (Str.ofString "size") 591, Value.str (Str.ofString "digits") 592, Value.str (Str.ofString "power") 593, Value.str (Str.ofString "figures") 594, Value.str (Str.ofString "inside") 595, Value.str (Str.ofString "away") 596, Value.str (Str.ofString "scale") 597, Value.str (Str.ofString "other") 598, Value.str (Str.ofString "beside") 599, Value.str (Str.ofString "off") 600, Value.str (Str.ofString "again") 601, Value.str (Str.ofString "step") 602, Value.str (Str.ofString "fewer") 603] }),
  (272, { cls := Value.type "tuple", data := Data.seq #[] }),
  (273, { cls := Value.none, data := Data.func { name := Str.ofString "_law_shortest", qualname := Str.ofString "_law_shortest", params := { posonlyargs := [], args := [{ arg := Str.ofString "form", annotation := none, pos := ⟨259, 18, 259, 22⟩ }, { arg := Str.ofString "size", annotation := none, pos := ⟨259, 24, 259, 28⟩ }, { arg := Str.ofString "digits", annotation := none, pos := ⟨259, 30, 259, 36⟩ }, { arg := Str.ofString "power", annotation := none, pos := ⟨259, 38, 259, 43⟩ }], vararg := none, kwonlyargs := [], kw_defaults := [], kwarg := none, defaults := [] }, body := FuncBody.stmts (lawBody 39), scope := { kind := ScopeKind.function, names := [(Str.ofString "form", NameKind.local), (Str.ofString "size", NameKind.local), (Str.ofString "digits", NameKind.local), (Str.ofString "power", NameKind.local), (Str.ofString "figures", NameKind.local), (Str.ofString "inside", NameKind.local), (Str.ofString "away", NameKind.local), (Str.ofString "scale", NameKind.local), (Str.ofString "other", NameKind.local), (Str.ofString "beside", NameKind.local), (Str.ofString "off", NameKind.local), (Str.ofString "again", NameKind.local), (Str.ofString "step", NameKind.local), (Str.ofString "fewer", NameKind.local), (Str.ofString "len", NameKind.globalImplicit), (Str.ofString "str", NameKind.globalImplicit), (Str.ofString "_law_side", NameKind.globalImplicit), (Str.ofString "range", NameKind.globalImplicit)], isGenerator := false, isCoroutine := false }, globals := 0, closure := [], defaults := Value.none, kwdefaults := Value.none } }),
  (274, { cls := Value.type "code", data := Data.fields #[Value.str (Str.ofString "_law_shortest") 587, Value.str (Str.ofString "_law_shortest") 588, Value.str (Str.ofString "/claim/cut.py") 589, Value.int 259 0, Value.int 4 0, Value.int 0 0, Value.int 0 0, Value.int 3 0, Value.ref 269, Value.bool true, Value.int 181 0, Value.ref 270, Value.none, Value.ref 271, Value.ref 272, Value.ref 273, Value.int 604 0, Value.int 259 0, Value.str (Str.ofString "/claim/cut.py") 605] }),
  (275, { cls := Value.type "function", data := Data.func { name := Str.ofString "_law_shortest", qualname := Str.ofString "_law_shortest", params := { posonlyargs := [], args := [{ arg := Str.ofString "form", annotation := none, pos := ⟨259, 18, 259, 22⟩ }, { arg := Str.ofString "size", annotation := none, pos := ⟨259, 24, 259, 28⟩ }, { arg := Str.ofString "digits", annotation := none, pos := ⟨259, 30, 259, 36⟩ }, { arg := Str.ofString "power", annotation := none, pos := ⟨259, 38, 259, 43⟩ }], vararg := none, kwonlyargs := [], kw_defaults := [], kwarg := none, defaults := [] }, body := FuncBody.stmts (lawBody 39), scope := { kind := ScopeKind.function, names := [(Str.ofString "form", NameKind.local), (Str.ofString "size", NameKind.local), (Str.ofString "digits", NameKind.local), (Str.ofString "power", NameKind.local), (Str.ofString "figures", NameKind.local), (Str.ofString "inside", NameKind.local), (Str.ofString "away", NameKind.local), (Str.ofString "scale", NameKind.local), (Str.ofString "other", NameKind.local), (Str.ofString "beside", NameKind.local), (Str.ofString "off", NameKind.local), (Str.ofString "again", NameKind.local), (Str.ofString "step", NameKind.local), (Str.ofString "fewer", NameKind.local), (Str.ofString "len", NameKind.globalImplicit), (Str.ofString "str", NameKind.globalImplicit), (Str.ofString "_law_side", NameKind.globalImplicit), (Str.ofString "range", NameKind.globalImplicit)], isGenerator := false, isCoroutine := false }, globals := 3, closure := [], defaults := Value.none, kwdefaults := Value.none, pyModule := Value.str (Str.ofString "law_pb0344_01") 522, code := Value.ref 274 } }),
  (276, { cls := Value.type "tuple", data := Data.seq #[] }),
  (277, { cls := Value.none, data := Data.fields #[] }),
  (278, { cls := Value.type "tuple", data := Data.seq #[Value.str (Str.ofString "script") 610, Value.str (Str.ofString "pool") 611, Value.str (Str.ofString "turn") 612, Value.str (Str.ofString "form") 613, Value.str (Str.ofString "span") 614, Value.str (Str.ofString "top") 615, Value.str (Str.ofString "bits") 616, Value.str (Str.ofString "text") 617, Value.str (Str.ofString "size") 618, Value.str (Str.ofString "digits") 619, Value.str (Str.ofString "power") 620, Value.str (Str.ofString "before") 621, Value.str (Str.ofString "behind") 622, Value.str (Str.ofString "scientific") 623, Value.str (Str.ofString "place") 624] }),
  (279, { cls := Value.type "tuple", data := Data.seq #[] }),
  (280, { cls := Value.none, data := Data.func { name := Str.ofString "law", qualname := Str.ofString "law", params := { posonlyargs := [], args := [{ arg := Str.ofString "script", annotation := none, pos := ⟨275, 8, 275, 14⟩ }], vararg := none, kwonlyargs := [], kw_defaults := [], kwarg := none, defaults := [] }, body := FuncBody.stmts (lawBody 40), scope := { kind := ScopeKind.function, names := [(Str.ofString "script", NameKind.local), (Str.ofString "pool", NameKind.local), (Str.ofString "turn", NameKind.local), (Str.ofString "form", NameKind.local), (Str.ofString "span", NameKind.local), (Str.ofString "top", NameKind.local), (Str.ofString "bits", NameKind.local), (Str.ofString "text", NameKind.local), (Str.ofString "size", NameKind.local), (Str.ofString "digits", NameKind.local), (Str.ofString "power", NameKind.local), (Str.ofString "before", NameKind.local), (Str.ofString "behind", NameKind.local), (Str.ofString "scientific", NameKind.local), (Str.ofString "place", NameKind.local), (Str.ofString "range", NameKind.globalImplicit), (Str.ofString "RealForm", NameKind.globalImplicit), (Str.ofString "_law_digit", NameKind.globalImplicit), (Str.ofString "_law_wide", NameKind.globalImplicit), (Str.ofString "write_real", NameKind.globalImplicit), (Str.ofString "read_real", NameKind.globalImplicit), (Str.ofString "not_a_number", NameKind.globalImplicit), (Str.ofString "_law_taken", NameKind.globalImplicit), (Str.ofString "len", NameKind.globalImplicit), (Str.ofString "str", NameKind.globalImplicit), (Str.ofString "_law_shortest", NameKind.globalImplicit)], isGenerator := false, isCoroutine := false }, globals := 0, closure := [], defaults := Value.none, kwdefaults := Value.none } }),
  (281, { cls := Value.type "code", data := Data.fields #[Value.str (Str.ofString "law") 607, Value.str (Str.ofString "law") 608, Value.str (Str.ofString "/claim/cut.py") 609, Value.int 275 0, Value.int 1 0, Value.int 0 0, Value.int 0 0, Value.int 3 0, Value.ref 276, Value.bool true, Value.int 181 0, Value.ref 277, Value.none, Value.ref 278, Value.ref 279, Value.ref 280, Value.int 625 0, Value.int 275 0, Value.str (Str.ofString "/claim/cut.py") 626] }),
  (282, { cls := Value.type "function", data := Data.func { name := Str.ofString "law", qualname := Str.ofString "law", params := { posonlyargs := [], args := [{ arg := Str.ofString "script", annotation := none, pos := ⟨275, 8, 275, 14⟩ }], vararg := none, kwonlyargs := [], kw_defaults := [], kwarg := none, defaults := [] }, body := FuncBody.stmts (lawBody 40), scope := { kind := ScopeKind.function, names := [(Str.ofString "script", NameKind.local), (Str.ofString "pool", NameKind.local), (Str.ofString "turn", NameKind.local), (Str.ofString "form", NameKind.local), (Str.ofString "span", NameKind.local), (Str.ofString "top", NameKind.local), (Str.ofString "bits", NameKind.local), (Str.ofString "text", NameKind.local), (Str.ofString "size", NameKind.local), (Str.ofString "digits", NameKind.local), (Str.ofString "power", NameKind.local), (Str.ofString "before", NameKind.local), (Str.ofString "behind", NameKind.local), (Str.ofString "scientific", NameKind.local), (Str.ofString "place", NameKind.local), (Str.ofString "range", NameKind.globalImplicit), (Str.ofString "RealForm", NameKind.globalImplicit), (Str.ofString "_law_digit", NameKind.globalImplicit), (Str.ofString "_law_wide", NameKind.globalImplicit), (Str.ofString "write_real", NameKind.globalImplicit), (Str.ofString "read_real", NameKind.globalImplicit), (Str.ofString "not_a_number", NameKind.globalImplicit), (Str.ofString "_law_taken", NameKind.globalImplicit), (Str.ofString "len", NameKind.globalImplicit), (Str.ofString "str", NameKind.globalImplicit), (Str.ofString "_law_shortest", NameKind.globalImplicit)], isGenerator := false, isCoroutine := false }, globals := 3, closure := [], defaults := Value.none, kwdefaults := Value.none, pyModule := Value.str (Str.ofString "law_pb0344_01") 522, code := Value.ref 281 } })]
noncomputable def lawHook : Hook := kHook lawHeap [2, 3, 11, 12, 13, 14, 15, 16, 17, 18, 19, 20, 21, 22, 23, 24, 25, 26, 27, 28, 29, 30, 31, 32, 33, 34, 35, 36, 37, 38, 39, 40, 41, 42, 43, 44, 45, 46, 47, 48, 49, 50, 51, 52, 53, 54, 55, 56, 57, 58, 59, 60, 61, 62, 63, 64, 65, 66, 67, 68, 69, 70, 71, 72, 73, 74, 75, 76, 77, 78, 79, 80, 81, 82, 83, 84, 85, 86, 87, 88, 89, 90, 91, 92, 93, 94, 95, 96, 97, 98, 99, 100, 101, 102, 103, 104, 105, 106, 107, 108, 109, 110, 111, 112, 113, 114, 115, 116, 117, 118, 119, 120, 121, 122, 123, 124, 125, 126, 127, 128, 129, 130, 131, 132, 133, 134, 135, 136, 137, 138, 139, 140, 141, 142, 143, 144, 145, 146, 147, 148, 149, 150, 151, 152, 153, 154, 155, 156, 157, 158, 159, 160, 161, 162, 163, 164, 165, 166, 167, 168, 169, 170, 171, 172, 173, 174, 175, 176, 177, 178, 179, 180, 181, 182, 183, 184, 185, 186, 187, 188, 189, 190, 191, 192, 193, 194, 195, 196, 197, 198, 199, 200, 201, 202, 203, 204, 205, 206, 207, 208, 209, 210, 211, 212, 213, 214, 215, 216, 217, 218, 219, 220, 221, 222, 223, 224, 225, 226, 227, 228, 229, 230, 231, 232, 233, 234, 235, 236, 237, 238, 239, 240, 241, 242, 243, 244, 245, 246, 247, 248, 249, 250, 251, 252, 253, 254, 255, 256, 257, 258, 259, 260, 261, 262, 263, 264, 265, 266, 267, 268, 269, 270, 271, 272, 273, 274, 275, 276, 277, 278, 279, 280, 281, 282] (fun _ => by kernel_rfl)
theorem lawLooks : looksOpen PySem.Challenge.rw_pb0344_01.row.prog = true := by
  unfold looksOpen
  repeat' (with_reducible refine look_both ?_ ?_)
  all_goals (decide +kernel)
theorem lawRowSaid : PySem.Challenge.rw_pb0344_01.row.wellSaid = true := by
  unfold OpenRow.wellSaid
  with_reducible refine look_both (look_both ?_ ?_) ?_
  · unfold OpenRow.partSaid
    repeat' (with_reducible first | exact lawLooks | refine look_both ?_ ?_)
    all_goals (decide +kernel)
  · decide +kernel
  · decide +kernel
theorem lawSaid : OpenLaw.wellSaid PySem.Challenge.rw_pb0344_01 = true := by
  unfold OpenLaw.wellSaid
  repeat' (with_reducible first | exact lawRowSaid | refine look_both ?_ ?_)
  all_goals (decide +kernel)
abbrev LawLoose : List Str := [Str.ofString "pack", Str.ofString "from_ratio"]

/-! the top, in pieces -/
def entriesOf : Frag → List DictEntry
  | (_, ⟨_, _, .dict es _, _⟩) :: _ => es.toList
  | _ => []
def notesOf : Frag → List Value
  | (_, ⟨_, _, .fields vs, _⟩) :: _ => vs.toList
  | _ => []
/-- the heap amid the top: the name and its token, the entries and the notes made so far, the objects -/
noncomputable def lawAt (P : Params) (x : String) (k m f n : Nat) : Heap :=
  { objs := ⟨boot_o_0 P :: boot_o_1 P :: boot_o_2 P ::
      { cls := .type "dict", data := .dict ⟨{ hash := PyData.keyHash P (Str.ofString "__name__"), key := .str (Str.ofString "__name__") 165, val := .str (Str.ofString x) k } :: (((entriesOf ((lawHeap P).drop 1)).drop 1).take (m - 1))⟩ m } ::
      boot_o_4 P :: boot_o_5 P :: boot_o_6 P :: boot_o_7 P :: boot_o_8 P :: boot_o_9 P :: boot_o_10 P ::
      { cls := .type "tuple", data := .seq #[] } :: { cls := .none, data := .fields ⟨(notesOf ((lawHeap P).drop 3)).take f⟩ } :: (((lawHeap P).drop 4).take (n - 13)).map (·.2)⟩, life := {} }
noncomputable abbrev lawSt (w : World) (os : OsState) (x : String) (k m f n t : Nat) : Shared := ⟨lawAt w.params x k m f n, Array.mk [], {}, t, os⟩
noncomputable abbrev lawP : Program := PySem.Challenge.rw_pb0344_01.row.prog
noncomputable def lawEnv : Env := { scope := lawP.main.scope, locals := mainNs, globals := mainNs, cells := [], code := .ref 13, frame := some 14 }
noncomputable def lawCode : Code := .body (behindTheImports lawP) lawEnv
abbrev noPos : Pos := ⟨0, 0, 0, 0⟩
noncomputable abbrev lawS0 (w : World) (os : OsState) : Shared := ⟨boot_heap w.params, Array.mk [], boot_drawn, boot_toks, os⟩
noncomputable def lawPart (i n : Nat) : List Stmt := ((behindTheImports lawP).drop i).take n
theorem run_pre (w : World) (os : OsState) : topGo treeTable lawP w 11 (some (.ref 6)) 12 (lawS0 w os) (topStub lawP) = some ((lawSt w os "__main__" 164 9 0 15 187), ⟨denote treeTable lawCode, lawCode, noPos, [topFrame noPos]⟩) := by kernel_rfl
theorem run_block (w : World) (os : OsState) : segRun treeTable lawP w 11 (some (.ref 6)) 1 1 (lawSt w os "__main__" 164 9 0 15 187) (blockOf (behindTheImports lawP) lawEnv lawCode noPos [topFrame noPos]) = some (.next, (lawSt w os "__main__" 164 9 0 15 187), lawCode, noPos) := by kernel_rfl
theorem run_0 (w : World) (os : OsState) : segRun treeTable lawP w 11 (some (.ref 6)) 1 10 (lawSt w os "__main__" 164 9 0 15 187) (piecesOf (lawPart 0 1) lawEnv lawCode noPos [topFrame noPos]) = some (.next, (lawSt w os "moduleyard.softbits" 187 9 0 15 189), lawCode, ⟨1, 0, 1, 8⟩) := by kernel_rfl
theorem run_1 (w : World) (os : OsState) : segRun treeTable lawP w 11 (some (.ref 6)) 1 229 (lawSt w os "moduleyard.softbits" 187 9 0 15 189) (piecesOf (lawPart 1 1) lawEnv lawCode ⟨1, 0, 1, 8⟩ [topFrame noPos]) = some (.next, (lawSt w os "moduleyard.softbits" 187 10 3 36 224), lawCode, ⟨2, 0, 10, 50⟩) := by kernel_rfl
theorem run_2 (w : World) (os : OsState) : segRun treeTable lawP w 11 (some (.ref 6)) 1 187 (lawSt w os "moduleyard.softbits" 187 10 3 36 224) (piecesOf (lawPart 2 6) lawEnv lawCode ⟨2, 0, 10, 50⟩ [topFrame noPos]) = some (.next, (lawSt w os "moduleyard.softbits" 187 16 21 78 278), lawCode, ⟨23, 0, 25, 49⟩) := by kernel_rfl
theorem run_3 (w : World) (os : OsState) : segRun treeTable lawP w 11 (some (.ref 6)) 1 229 (lawSt w os "moduleyard.softbits" 187 16 21 78 278) (piecesOf (lawPart 8 7) lawEnv lawCode ⟨23, 0, 25, 49⟩ [topFrame noPos]) = some (.next, (lawSt w os "moduleyard.softbits" 187 23 42 128 351), lawCode, ⟨58, 0, 71, 64⟩) := by kernel_rfl
theorem run_4 (w : World) (os : OsState) : segRun treeTable lawP w 11 (some (.ref 6)) 1 268 (lawSt w os "moduleyard.softbits" 187 23 42 128 351) (piecesOf (lawPart 15 10) lawEnv lawCode ⟨58, 0, 71, 64⟩ [topFrame noPos]) = some (.next, (lawSt w os "moduleyard.realtext" 379 31 63 178 442), lawCode, ⟨114, 0, 127, 18⟩) := by kernel_rfl
theorem run_5 (w : World) (os : OsState) : segRun treeTable lawP w 11 (some (.ref 6)) 1 257 (lawSt w os "moduleyard.realtext" 379 31 63 178 442) (piecesOf (lawPart 25 8) lawEnv lawCode ⟨114, 0, 127, 18⟩ [topFrame noPos]) = some (.next, (lawSt w os "moduleyard.realtext" 379 39 87 234 522), lawCode, ⟨201, 0, 210, 41⟩) := by kernel_rfl
theorem run_6 (w : World) (os : OsState) : segRun treeTable lawP w 11 (some (.ref 6)) 1 268 (lawSt w os "moduleyard.realtext" 379 39 87 234 522) (piecesOf (lawPart 33 8) lawEnv lawCode ⟨201, 0, 210, 41⟩ [topFrame noPos]) = some (.next, (lawSt w os "law_pb0344_01" 522 46 108 283 628), lawCode, ⟨275, 0, 302, 15⟩) := by kernel_rfl
theorem run_fin (w : World) (os : OsState) : topRun treeTable lawP w 11 (some (.ref 6)) 2 (lawSt w os "law_pb0344_01" 522 46 108 283 628) ⟨doneF .next, lawCode, ⟨275, 0, 302, 15⟩, [topFrame noPos]⟩ = some (lawSt w os "law_pb0344_01" 522 46 108 283 628) := by kernel_rfl
theorem law_parts : behindTheImports lawP = (lawPart 0 1) ++ ((lawPart 1 1) ++ ((lawPart 2 6) ++ ((lawPart 8 7) ++ ((lawPart 15 10) ++ ((lawPart 25 8) ++ ((lawPart 33 8) ++ [])))))) := by kernel_rfl
theorem run_rest (w : World) (os : OsState) : topRun treeTable lawP w 11 (some (.ref 6)) 1450 (lawSt w os "__main__" 164 9 0 15 187) (restOf (behindTheImports lawP) lawEnv lawCode noPos [topFrame noPos]) = some (lawSt w os "law_pb0344_01" 522 46 108 283 628) := by
  rw [law_parts]
  exact piece_app (run_0 w os) (piece_app (run_1 w os) (piece_app (run_2 w os) (piece_app (run_3 w os) (piece_app (run_4 w os) (piece_app (run_5 w os) (piece_app (run_6 w os) (piece_nil (run_fin w os))))))))
theorem law_run (w : World) (os : OsState) : topRun treeTable lawP w 11 (some (.ref 6)) 1463 (lawS0 w os) (topStub lawP) = some (lawSt w os "law_pb0344_01" 522 46 108 283 628) :=
  go_top (run_pre w os) (piece_block (run_block w os) (run_rest w os))
noncomputable abbrev lawEnd (P : Params) : Heap := lawAt P "law_pb0344_01" 522 46 108 283
theorem opening_plain : opening lawP = plainProg lawP.main.scope.names := by kernel_rfl
theorem opening_boot : ∀ w : World, (fencedOpening treeTable lawP w 3008).map (fun s => (s.heap, s.gens, s.drawn, s.toks)) = some (boot_heap w.params, Array.mk [], boot_drawn, boot_toks) :=
  boot_open opening_plain rfl (fun s => by kernel_rfl)
theorem size_boot (w : World) : ((boot_heap w.params).isNs mainGlobals && (Array.mk [] : Array GenState).size == 0, (boot_heap w.params).objs.size, (boot_heap w.params).nsMap mainGlobals "__annotations__") = (true, 11, some (.ref 6)) := by kernel_rfl
theorem look_a (w : World) (os : OsState) : (staticsOk (importedModules lawP.main.body) (boot_heap w.params) (lawEnd w.params) && namesBound lawP (lawEnd w.params) && gensDone ⟨lawEnd w.params, Array.mk [], {}, 628, os⟩ && laidKept (boot_heap w.params) (lawEnd w.params)) = true := by kernel_rfl
theorem look_b (w : World) (os : OsState) : openSeen lawView LawLoose (importedModules lawP.main.body) (fun s => xlAt lawView [] s && recOk (RowW.records (OpenRow.toRowW PySem.Challenge.rw_pb0344_01.row)) s) true ⟨lawEnd w.params, Array.mk [], {}, 628, os⟩ = openGood lawView LawLoose := by kernel_rfl
theorem look_c (w : World) (os : OsState) : lawHook.obs ⟨lawEnd w.params, Array.mk [], {}, 628, os⟩ = lawHook.val w := by kernel_rfl
theorem lawLeft : LeftO PySem.Challenge.rw_pb0344_01.row.prog lawView LawLoose (fun s => xlAt lawView [] s && recOk (RowW.records (OpenRow.toRowW PySem.Challenge.rw_pb0344_01.row)) s) lawHook.obs lawHook.val 3008 :=
  LeftO.of_pieces (H₀ := boot_heap) (H₁ := lawEnd) opening_boot size_boot law_run rfl fun w => funext fun os => looks_pair (look_a w os) (looks_pair (look_b w os) (look_c w os))
end Mine

namespace Mine

abbrev Led := List (Addr × Obj)

/-- the six fields of a RealForm -/
structure FormD where
  eb : Int
  fb : Int
  bias : Int
  top : Int
  hidden : Int
  least : Int

inductive PV where
  | none
  | bool (b : Bool)
  | int (i : Int)
  | str (s : Str)
  | tup (l : List PV)
  | lst (l : List PV)
  | form (f : FormD)
  | addr (a : Addr)
  | rng (lo hi : Int)

def FormEs (f : FormD) (es : List DictEntry) : Prop :=
  ∃ (h1 h2 h3 h4 h5 h6 : Int) (t1 t2 t3 t4 t5 t6 u1 u2 u3 u4 u5 u6 : Tok), es =
    [⟨h1, .str (Str.ofString "exponent_bits") t1, .int f.eb u1⟩, ⟨h2, .str (Str.ofString "fraction_bits") t2, .int f.fb u2⟩,
     ⟨h3, .str (Str.ofString "bias") t3, .int f.bias u3⟩, ⟨h4, .str (Str.ofString "top") t4, .int f.top u4⟩,
     ⟨h5, .str (Str.ofString "hidden") t5, .int f.hidden u5⟩, ⟨h6, .str (Str.ofString "least") t6, .int f.least u6⟩]

abbrev tupO (vs : List Value) (n : Nat) : Obj := { cls := .type "tuple", data := .seq vs.toArray n }
abbrev lstO (vs : List Value) (n : Nat) : Obj := { cls := .type "list", data := .seq vs.toArray n }

mutual
inductive Rep (C : Addr) (R : Led) : Value → PV → Prop
  | none : Rep C R .none .none
  | bool (b : Bool) : Rep C R (.bool b) (.bool b)
  | int (i : Int) (t : Tok) : Rep C R (.int i t) (.int i)
  | str (x : Str) (t : Tok) : Rep C R (.str x t) (.str x)
  | tup {a : Addr} {vs : List Value} {n : Nat} {l : List PV} (h : (a, tupO vs n) ∈ R) (hs : vs.length ≤ 1000) (hl : RepL C R vs l) : Rep C R (.ref a) (.tup l)
  | lst {a : Addr} {vs : List Value} {n : Nat} {l : List PV} (h : (a, lstO vs n) ∈ R) (hs : vs.length ≤ 1000) (hl : RepL C R vs l) : Rep C R (.ref a) (.lst l)
  | form {x dx : Addr} {es : List DictEntry} {n : Nat} {f : FormD} (h : (x, instObj C dx) ∈ R) (hd : (dx, dictOf es n) ∈ R) (hf : FormEs f es) : Rep C R (.ref x) (.form f)
  | addr (a : Addr) : Rep C R (.ref a) (.addr a)
  | rng {a : Addr} {lo hi : Int} {t u v : Tok} (h : (a, ({ cls := .type "range", data := .fields #[.int lo t, .int hi u, .int 1 v] } : Obj)) ∈ R) : Rep C R (.ref a) (.rng lo hi)
inductive RepL (C : Addr) (R : Led) : List Value → List PV → Prop
  | nil : RepL C R [] []
  | cons {v : Value} {p : PV} {vs : List Value} {ps : List PV} (h : Rep C R v p) (t : RepL C R vs ps) : RepL C R (v :: vs) (p :: ps)
end

def Sub (R R' : Led) : Prop := ∀ p ∈ R, p ∈ R'
theorem Sub.refl (R : Led) : Sub R R := fun _ h => h
theorem Sub.trans {R R' R'' : Led} (a : Sub R R') (b : Sub R' R'') : Sub R R'' := fun p h => b p (a p h)

mutual
theorem Rep.mono {C : Addr} {R R' : Led} (s : Sub R R') : ∀ {v : Value} {p : PV}, Rep C R v p → Rep C R' v p
  | _, _, .none => .none
  | _, _, .bool b => .bool b
  | _, _, .int i t => .int i t
  | _, _, .str x t => .str x t
  | _, _, .tup h hs hl => .tup (s _ h) hs (RepL.mono s hl)
  | _, _, .lst h hs hl => .lst (s _ h) hs (RepL.mono s hl)
  | _, _, .form h hd hf => .form (s _ h) (s _ hd) hf
  | _, _, .addr a => .addr a
  | _, _, .rng h => .rng (s _ h)
theorem RepL.mono {C : Addr} {R R' : Led} (s : Sub R R') : ∀ {vs : List Value} {ps : List PV}, RepL C R vs ps → RepL C R' vs ps
  | _, _, .nil => .nil
  | _, _, .cons h t => .cons (Rep.mono s h) (RepL.mono s t)
end

/-- locals, as far as known -/
abbrev Loc := List (Str × PV)
def Loc.get (ρ : Loc) (x : Str) : Option PV := match ρ with
  | [] => .none
  | (y, v) :: r => if y = x then some v else Loc.get r x
def Loc.set (ρ : Loc) (x : Str) (v : PV) : Loc := match ρ with
  | [] => [(x, v)]
  | (y, u) :: r => if y = x then (y, v) :: r else (y, u) :: Loc.set r x v
theorem Loc.get_set (ρ : Loc) (x : Str) (v : PV) (y : Str) : (ρ.set x v).get y = if x = y then some v else ρ.get y := by
  induction ρ with
  | nil => rfl
  | cons a r ih =>
    obtain ⟨z, u⟩ := a
    unfold Loc.set
    by_cases h : z = x
    · subst h
      rw [if_pos rfl]
      unfold Loc.get
      by_cases h2 : z = y
      · rw [if_pos h2, if_pos h2]
      · rw [if_neg h2, if_neg h2, if_neg h2]
    · rw [if_neg h]
      unfold Loc.get
      by_cases h2 : z = y
      · subst h2
        rw [if_pos rfl, if_pos rfl, if_neg (fun q => h q.symm)]
      · rw [if_neg h2, if_neg h2, ih]

def RepM (C : Addr) (R : Led) (m : Str → Option Value) (ρ : Loc) : Prop := ∀ x p, ρ.get x = some p → ∃ v, m x = some v ∧ Rep C R v p
theorem RepM.mono {C : Addr} {R R' : Led} {m : Str → Option Value} {ρ : Loc} (h : RepM C R m ρ) (s : Sub R R') : RepM C R' m ρ := fun x p e =>
  let ⟨v, a, b⟩ := h x p e; ⟨v, a, b.mono s⟩
theorem RepM.set {C : Addr} {R : Led} {m : Str → Option Value} {ρ : Loc} (h : RepM C R m ρ) {x : Str} {v : Value} {p : PV} (hv : Rep C R v p) :
    RepM C R (fun y => if y = x then some v else m y) (ρ.set x p) := fun y q e => by
  rw [Loc.get_set] at e
  by_cases c : x = y
  · subst c
    rw [if_pos rfl] at e
    cases e
    exact ⟨v, if_pos rfl, hv⟩
  · rw [if_neg c] at e
    obtain ⟨u, a, b⟩ := h y q e
    exact ⟨u, (if_neg (fun z => c z.symm)).trans a, b⟩

structure Wx where
  prog : Program
  w : World
  K : Frag
  p : Program
  loose : List Str
  mean : ExcName → Option Value
  mg : Str → Option Value
  mb : Str → Option Value
  os : OsState
  C : Addr

structure Fx where
  W : Wx
  d : Nat
  A₀ : Around
  base : Heap
  outer : List Env
  A : Around
  h₀ : Heap
  L : Addr
  nm : Str
  sc : Scope
  fa : Addr
  cd : Value

abbrev Fx.env (X : Fx) : Env := envOf X.nm X.sc X.L X.fa X.cd
abbrev Fx.M (X : Fx) : Model := model X.W.prog X.W.w

structure Fx.Ok (X : Fx) : Prop where
  B : Below X.A₀ X.base X.outer X.h₀
  K : X.W.K.In X.h₀
  T : Top X.W.p X.W.loose X.W.mean X.W.mg X.W.mb X.h₀
  fr : X.A.frames = some (X.env :: X.outer)
  hd : X.A.handled = none
  kind : X.sc.kind = .function
  room : X.A.depth + X.d ≤ 900
  units : X.A.units + 10 * X.d ≤ 9000

/-- φ: frozen (iterators); σ: private (the pool); R: what values rest on -/
structure St (X : Fx) (φ σ R : Led) (m : Str → Option Value) (s : Shared) : Prop where
  ok : X.Ok
  fr : Fr X.h₀ X.L s.heap m
  nw : News X.h₀ X.L s.heap (φ ++ (σ ++ R))
  ap1 : ∀ p ∈ φ, ∀ q ∈ σ, p.1 ≠ q.1
  ap2 : ∀ p ∈ φ, ∀ q ∈ R, p.1 ≠ q.1
  ap3 : ∀ p ∈ σ, ∀ q ∈ R, p.1 ≠ q.1
  gens : s.gens = #[]
  os : s.os = X.W.os

abbrev NoE : Value → Shared → Prop := fun _ _ => False

/-- the post of an expression -/
def PE (X : Fx) (φ R : Led) (m : Str → Option Value) (Q : PV → Led → Prop) (v : Value) (s' : Shared) : Prop :=
  ∃ R' σ' pv, Sub R R' ∧ St X φ σ' R' m s' ∧ Rep X.W.C R' v pv ∧ Q pv σ'

def EV (X : Fx) (ρ : Loc) (σ : Led) (e : Expr) (Q : PV → Led → Prop) : Prop :=
  ∀ φ R m s, St X φ σ R m s → RepM X.W.C R m ρ → wpAny X.M X.A (eval e X.env) (PE X φ R m Q) NoE s

/-- the post of a test -/
def PT (X : Fx) (φ R : Led) (m : Str → Option Value) (Q : Bool → Led → Prop) (b : Bool) (s' : Shared) : Prop :=
  ∃ R' σ', Sub R R' ∧ St X φ σ' R' m s' ∧ Q b σ'
def TV (X : Fx) (ρ : Loc) (σ : Led) (e : Expr) (Q : Bool → Led → Prop) : Prop :=
  ∀ φ R m s, St X φ σ R m s → RepM X.W.C R m ρ → wpAny X.M X.A (isTrue e X.env (eval e X.env)) (PT X φ R m Q) NoE s

/-- a tree over values at hand -/
def PrV (X : Fx) (vs : List PV) (t : List Value → Sem Value) (σ : Led) (Q : PV → Led → Prop) : Prop :=
  ∀ φ R m s us, St X φ σ R m s → RepL X.W.C R us vs → wpAny X.M X.A (t us) (PE X φ R m Q) NoE s

inductive Res where
  | next (ρ : Loc)
  | brk (ρ : Loc)
  | cont (ρ : Loc)
  | ret (v : PV)

inductive ResOk (C : Addr) (R : Led) (m : Str → Option Value) : Flow → Res → Prop
  | next {ρ} (h : RepM C R m ρ) : ResOk C R m .next (.next ρ)
  | brk {ρ} (h : RepM C R m ρ) : ResOk C R m .brk (.brk ρ)
  | cont {ρ} (h : RepM C R m ρ) : ResOk C R m .cont (.cont ρ)
  | ret {v p} (h : Rep C R v p) : ResOk C R m (.ret v) (.ret p)

/-- the post of a statement -/
def PS (X : Fx) (φ R : Led) (Q : Res → Led → Prop) (f : Flow) (s' : Shared) : Prop :=
  ∃ R' m' σ' r, Sub R R' ∧ St X φ σ' R' m' s' ∧ ResOk X.W.C R' m' f r ∧ Q r σ'

def WS1 (X : Fx) (ρ : Loc) (σ : Led) (t : Stmt) (Q : Res → Led → Prop) : Prop :=
  ∀ φ R m s, St X φ σ R m s → RepM X.W.C R m ρ → wpAny X.M X.A (exec t X.env) (PS X φ R Q) NoE s
def WS (X : Fx) (ρ : Loc) (σ : Led) (ts : List Stmt) (Q : Res → Led → Prop) : Prop :=
  ∀ φ R m s, St X φ σ R m s → RepM X.W.C R m ρ → wpAny X.M X.A (execs ts X.env) (PS X φ R Q) NoE s

theorem noE {P : Value → Shared → Prop} : ∀ e s, NoE e s → P e s := fun _ _ h => h.elim

section
variable {X : Fx} {φ σ R R' : Led} {m m' : Str → Option Value} {s : Shared} {ρ : Loc}

/-- only tokens and heap turn: the state again -/
theorem St.next (S : St X φ σ R m s) {h' : Heap} {tk : Nat} {m' : Str → Option Value} (F : Fr X.h₀ X.L h' m') (N : News X.h₀ X.L h' (φ ++ (σ ++ R))) : St X φ σ R m' { s with heap := h', toks := tk } :=
  ⟨S.ok, F, N, S.ap1, S.ap2, S.ap3, S.gens, S.os⟩
theorem St.toks (S : St X φ σ R m s) (tk : Nat) : St X φ σ R m { s with toks := tk } := ⟨S.ok, S.fr, S.nw, S.ap1, S.ap2, S.ap3, S.gens, S.os⟩

theorem St.lt (S : St X φ σ R m s) {p : Addr × Obj} (hp : p ∈ φ ++ (σ ++ R)) : p.1 < s.heap.objs.size := Heap.lt_size (S.nw p hp).1

/-- a new object onto R -/
theorem St.more (S : St X φ σ R m s) {h' : Heap} {tk : Nat} {a : Addr} {o : Obj} (F : Fr X.h₀ X.L h' m) (N : News X.h₀ X.L h' ((a, o) :: (φ ++ (σ ++ R)))) (ha : s.heap.objs.size ≤ a) :
    St X φ σ ((a, o) :: R) m { s with heap := h', toks := tk } := by
  refine ⟨S.ok, F, ?_, S.ap1, ?_, ?_, S.gens, S.os⟩
  · intro p hp
    refine N p ?_
    simp only [List.mem_append, List.mem_cons] at hp ⊢
    rcases hp with h | h | h | h
    · exact .inr (.inl h)
    · exact .inr (.inr (.inl h))
    · exact .inl h
    · exact .inr (.inr (.inr h))
  · intro p hp q hq
    rcases List.mem_cons.mp hq with rfl | hq
    · have := S.lt (List.mem_append_left _ hp); exact Nat.ne_of_lt (Nat.lt_of_lt_of_le this ha)
    · exact S.ap2 p hp q hq
  · intro p hp q hq
    rcases List.mem_cons.mp hq with rfl | hq
    · have := S.lt (List.mem_append_right φ (List.mem_append_left _ hp)); exact Nat.ne_of_lt (Nat.lt_of_lt_of_le this ha)
    · exact S.ap3 p hp q hq

theorem St.get (S : St X φ σ R m s) {a : Addr} {o : Obj} (h : (a, o) ∈ R) : s.heap.get? a = some o := (S.nw _ (List.mem_append_right _ (List.mem_append_right _ h))).1

theorem PE.sub {Q : PV → Led → Prop} {v : Value} {s' : Shared} (hs : Sub R R') (h : PE X φ R' m Q v s') : PE X φ R m Q v s' :=
  let ⟨R'', σ', pv, a, b, c, d⟩ := h; ⟨R'', σ', pv, hs.trans a, b, c, d⟩
theorem PT.sub {Q : Bool → Led → Prop} {v : Bool} {s' : Shared} (hs : Sub R R') (h : PT X φ R' m Q v s') : PT X φ R m Q v s' :=
  let ⟨R'', σ', a, b, d⟩ := h; ⟨R'', σ', hs.trans a, b, d⟩
theorem PS.sub {Q : Res → Led → Prop} {v : Flow} {s' : Shared} (hs : Sub R R') (h : PS X φ R' Q v s') : PS X φ R Q v s' :=
  let ⟨R'', m', σ', r, a, b, c, d⟩ := h; ⟨R'', m', σ', r, hs.trans a, b, c, d⟩

theorem PE.int {Q : PV → Led → Prop} {i : Int} {t : Tok} {s' : Shared} (S : St X φ σ R m s') (h : Q (.int i) σ) : PE X φ R m Q (.int i t) s' := ⟨R, σ, _, .refl _, S, .int i t, h⟩
theorem PE.bool {Q : PV → Led → Prop} {b : Bool} {s' : Shared} (S : St X φ σ R m s') (h : Q (.bool b) σ) : PE X φ R m Q (.bool b) s' := ⟨R, σ, _, .refl _, S, .bool b, h⟩
theorem PE.str {Q : PV → Led → Prop} {x : Str} {t : Tok} {s' : Shared} (S : St X φ σ R m s') (h : Q (.str x) σ) : PE X φ R m Q (.str x t) s' := ⟨R, σ, _, .refl _, S, .str x t, h⟩
end

end Mine

namespace Mine

def OpV (X : Fx) (op : Operator) (a b : PV) (σ : Led) (Q : PV → Led → Prop) : Prop :=
  ∀ φ R m s va vb, St X φ σ R m s → Rep X.W.C R va a → Rep X.W.C R vb b → wpAny X.M X.A (binaryOp op va vb) (PE X φ R m Q) NoE s
def IopV (X : Fx) (op : Operator) (a b : PV) (σ : Led) (Q : PV → Led → Prop) : Prop :=
  ∀ φ R m s va vb, St X φ σ R m s → Rep X.W.C R va a → Rep X.W.C R vb b → wpAny X.M X.A (inplaceOp op va vb) (PE X φ R m Q) NoE s
def CmpV (X : Fx) (op : CmpOp) (a b : PV) (σ : Led) (Q : PV → Led → Prop) : Prop :=
  ∀ φ R m s va vb, St X φ σ R m s → Rep X.W.C R va a → Rep X.W.C R vb b → wpAny X.M X.A (compareOp op va vb) (PE X φ R m Q) NoE s
def TrV (X : Fx) (a : PV) (σ : Led) (Q : Bool → Led → Prop) : Prop :=
  ∀ φ R m s va, St X φ σ R m s → Rep X.W.C R va a → wpAny X.M X.A (truthy va) (PT X φ R m Q) NoE s
def UnV (X : Fx) (op : UnaryOp) (a : PV) (σ : Led) (Q : PV → Led → Prop) : Prop :=
  ∀ φ R m s va, St X φ σ R m s → Rep X.W.C R va a → wpAny X.M X.A (unaryOp op va) (PE X φ R m Q) NoE s
def SubV (X : Fx) (value slice : Expr) (a b : PV) (σ : Led) (Q : PV → Led → Prop) : Prop :=
  ∀ φ R m s va vb, St X φ σ R m s → Rep X.W.C R va a → Rep X.W.C R vb b → wpAny X.M X.A (subscriptTail value slice va vb) (PE X φ R m Q) NoE s
def CallV (X : Fx) (f : Value) (as : List PV) (σ : Led) (Q : PV → Led → Prop) : Prop :=
  ∀ φ R m s vs, St X φ σ R m s → RepL X.W.C R vs as → wpAny X.M X.A (call f vs) (PE X φ R m Q) NoE s

/-- the post of several expressions -/
def PL (X : Fx) (φ R : Led) (m : Str → Option Value) (Q : List PV → Led → Prop) (vs : List Value) (s' : Shared) : Prop :=
  ∃ R' σ' pvs, Sub R R' ∧ St X φ σ' R' m s' ∧ RepL X.W.C R' vs pvs ∧ Q pvs σ'
def EVL (X : Fx) (ρ : Loc) (σ : Led) (pos : Pos) (es : List Expr) (Q : List PV → Led → Prop) : Prop :=
  ∀ φ R m s, St X φ σ R m s → RepM X.W.C R m ρ → wpAny X.M X.A (spliced (backTo pos (starEach es X.env))) (PL X φ R m Q) NoE s

section
variable {X : Fx} {σ : Led} {ρ : Loc}

theorem EV.name {x : Str} {pos : Pos} {v : PV} {Q : PV → Led → Prop} (h : ρ.get x = some v) (q : Q v σ) (hl : X.sc.names.lookup x = some .local) (hd : (x == ("__debug__" : Str)) = false := by decide) :
    EV X ρ σ (.Name x pos) Q := fun φ R m s S M =>
  let ⟨u, a, b⟩ := M x v h
  ld S.fr a ⟨R, σ, v, .refl R, S, b, q⟩ S.ok.kind hl hd
theorem EV.int {i : Int} {k pos} {Q : PV → Led → Prop} (q : Q (.int i) σ) : EV X ρ σ (.Constant (.int i) k pos) Q := fun _ _ _ s S _ =>
  wpAny_Constant_int (PE.int (S.toks _) q)
theorem EV.bool {b : Bool} {k pos} {Q : PV → Led → Prop} (q : Q (.bool b) σ) : EV X ρ σ (.Constant (.bool b) k pos) Q := fun _ _ _ s S _ =>
  Constant_bool (PE.bool S q)
theorem EV.str {x : String} {k pos} {Q : PV → Led → Prop} (q : Q (.str (Str.ofString x)) σ) : EV X ρ σ (.Constant (.str x) k pos) Q := fun φ R m s S _ =>
  lit_str _ fun v tk D => by
    obtain ⟨t, rfl⟩ := D.str
    exact PE.str (S.toks _) q

theorem EV.bin {l r : Expr} {op : Operator} {pos : Pos} {Q : PV → Led → Prop} (h : EV X ρ σ l fun a σ₁ => EV X ρ σ₁ r fun b σ₂ => OpV X op a b σ₂ Q) :
    EV X ρ σ (.BinOp l op r pos) Q := fun φ R m s S M =>
  wpAny_BinOp (wpAny_mono (h φ R m s S M) (fun va s₁ ⟨R₁, σ₁, a, e₁, S₁, ra, h₁⟩ =>
    wpAny_mono (h₁ φ R₁ m s₁ S₁ (M.mono e₁)) (fun vb s₂ ⟨R₂, σ₂, b, e₂, S₂, rb, h₂⟩ =>
      wpAny_mono (h₂ φ R₂ m s₂ va vb S₂ (ra.mono e₂) rb) (fun _ _ p => PE.sub (e₁.trans e₂) p) noE) noE) noE)
theorem EV.un {x : Expr} {op : UnaryOp} {pos : Pos} {Q : PV → Led → Prop} (h : EV X ρ σ x fun a σ₁ => UnV X op a σ₁ Q) : EV X ρ σ (.UnaryOp op x pos) Q := fun φ R m s S M =>
  UnaryOp_ (wpAny_mono (h φ R m s S M) (fun va s₁ ⟨R₁, σ₁, a, e₁, S₁, ra, h₁⟩ => wpAny_mono (h₁ φ R₁ m s₁ va S₁ ra) (fun _ _ p => PE.sub e₁ p) noE) noE)
theorem UnV.neg {i : Int} {Q : PV → Led → Prop} (q : Q (.int (-i)) σ) : UnV X .USub (.int i) σ Q := fun φ R m s va S ra => by
  cases ra
  exact P.neg_int (PE.int (S.toks _) q)

theorem EV.cmp {l r : Expr} {op : CmpOp} {pos : Pos} {Q : PV → Led → Prop} (h : EV X ρ σ l fun a σ₁ => EV X ρ σ₁ r fun b σ₂ => CmpV X op a b σ₂ Q)
    (hm : behindInMarks op r = false := by with_unfolding_all rfl) : EV X ρ σ (.Compare l [op] [r] pos) Q := fun φ R m s S M =>
  wpAny_Compare1 (wpAny_mono (h φ R m s S M) (fun va s₁ ⟨R₁, σ₁, a, e₁, S₁, ra, h₁⟩ =>
    wpAny_mono (h₁ φ R₁ m s₁ S₁ (M.mono e₁)) (fun vb s₂ ⟨R₂, σ₂, b, e₂, S₂, rb, h₂⟩ =>
      wpAny_mono (h₂ φ R₂ m s₂ va vb S₂ (ra.mono e₂) rb) (fun _ _ p => PE.sub (e₁.trans e₂) p) noE) noE) noE) hm

/-- a comparison's value is a bool -/
def isBool : PV → Prop
  | .bool _ => True
  | _ => False
theorem TV.cmp {l r : Expr} {op : CmpOp} {pos : Pos} {Q : Bool → Led → Prop} (h : EV X ρ σ l fun a σ₁ => EV X ρ σ₁ r fun b σ₂ => CmpV X op a b σ₂ fun c σ₃ => ∃ t, c = .bool t ∧ Q t σ₃)
    (hm : behindInMarks op r = false := by with_unfolding_all rfl) : TV X ρ σ (.Compare l [op] [r] pos) Q := fun φ R m s S M =>
  wpAny_isTrue_Compare1 (wpAny_mono (h φ R m s S M) (fun va s₁ ⟨R₁, σ₁, a, e₁, S₁, ra, h₁⟩ =>
    wpAny_mono (h₁ φ R₁ m s₁ S₁ (M.mono e₁)) (fun vb s₂ ⟨R₂, σ₂, b, e₂, S₂, rb, h₂⟩ =>
      wpAny_mono (h₂ φ R₂ m s₂ va vb S₂ (ra.mono e₂) rb) (fun vc s₃ ⟨R₃, σ₃, c, e₃, S₃, rc, t, hc, q⟩ => by
        subst hc
        cases rc
        exact wpAny_truthy_bool ⟨R₃, σ₃, (e₁.trans e₂).trans e₃, S₃, q⟩) noE) noE) noE) hm

/-- a < b < c -/
theorem TV.cmp2 {l r₁ r₂ : Expr} {o₁ o₂ : CmpOp} {pos : Pos} {Q : Bool → Led → Prop}
    (h : EV X ρ σ l fun a σ₁ => EV X ρ σ₁ r₁ fun b σ₂ => CmpV X o₁ a b σ₂ fun c σ₃ => ∃ t, c = .bool t ∧ if t = true then
      EV X ρ σ₃ r₂ fun d σ₄ => CmpV X o₂ b d σ₄ fun e σ₅ => ∃ u, e = .bool u ∧ Q u σ₅ else Q false σ₃)
    (hm : lastMarks [o₁, o₂] [r₁, r₂] = false := by with_unfolding_all rfl) : TV X ρ σ (.Compare l [o₁, o₂] [r₁, r₂] pos) Q := fun φ R m s S M =>
  isTrue_chain (wpAny_mono (h φ R m s S M) (fun va s₁ ⟨R₁, σ₁, a, e₁, S₁, ra, h₁⟩ => test_link
    (wpAny_mono (h₁ φ R₁ m s₁ S₁ (M.mono e₁)) (fun vb s₂ ⟨R₂, σ₂, b, e₂, S₂, rb, h₂⟩ =>
      wpAny_mono (h₂ φ R₂ m s₂ va vb S₂ (ra.mono e₂) rb) (fun vc s₃ ⟨R₃, σ₃, c, e₃, S₃, rc, t, hc, q⟩ => by
        subst hc
        cases rc
        refine wpAny_truthy_bool ?_
        cases t with
        | false => exact ⟨R₃, σ₃, (e₁.trans e₂).trans e₃, S₃, q⟩
        | true =>
          have q' : EV X ρ σ₃ r₂ fun d σ₄ => CmpV X o₂ b d σ₄ fun e σ₅ => ∃ u, e = .bool u ∧ Q u σ₅ := q
          rw [if_pos rfl]
          exact test_last (wpAny_mono (q' φ R₃ m s₃ S₃ (M.mono ((e₁.trans e₂).trans e₃))) (fun vd s₄ ⟨R₄, σ₄, d, e₄, S₄, rd, h₄⟩ =>
            wpAny_mono (h₄ φ R₄ m s₄ vb vd S₄ (rb.mono (e₃.trans e₄)) rd) (fun ve s₅ ⟨R₅, σ₅, e, e₅, S₅, re, u, hu, q₅⟩ => by
              subst hu
              cases re
              exact wpAny_truthy_bool ⟨R₅, σ₅, (((e₁.trans e₂).trans e₃).trans e₄).trans e₅, S₅, q₅⟩) noE) noE)) noE) noE)) noE) hm

theorem TV.not {x : Expr} {pos : Pos} {Q : Bool → Led → Prop} (h : TV X ρ σ x fun b σ₁ => Q (!b) σ₁) : TV X ρ σ (.UnaryOp .Not x pos) Q := fun φ R m s S M =>
  isTrue_not (wpAny_mono (h φ R m s S M) (fun b s₁ ⟨R₁, σ₁, e₁, S₁, q⟩ => ⟨R₁, σ₁, e₁, S₁, q⟩) noE)
theorem TV.and_nil {pos : Pos} {Q : Bool → Led → Prop} (q : Q true σ) : TV X ρ σ (.BoolOp .And [] pos) Q := fun φ R m s S M =>
  isTrue_and_nil ⟨R, σ, .refl _, S, q⟩
theorem TV.or_nil {pos : Pos} {Q : Bool → Led → Prop} (q : Q false σ) : TV X ρ σ (.BoolOp .Or [] pos) Q := fun φ R m s S M =>
  isTrue_or_nil ⟨R, σ, .refl _, S, q⟩
theorem TV.and {x : Expr} {rest : List Expr} {pos : Pos} {Q : Bool → Led → Prop} (h : TV X ρ σ x fun b σ₁ => (b = true → TV X ρ σ₁ (.BoolOp .And rest pos) Q) ∧ (b = false → Q false σ₁)) :
    TV X ρ σ (.BoolOp .And (x :: rest) pos) Q := fun φ R m s S M =>
  isTrue_and (wpAny_mono (h φ R m s S M) (fun b s₁ ⟨R₁, σ₁, e₁, S₁, q⟩ => by
    cases b with
    | false => exact ⟨R₁, σ₁, e₁, S₁, q.2 rfl⟩
    | true =>
      rw [if_pos rfl]
      exact wpAny_mono (q.1 rfl φ R₁ m s₁ S₁ (M.mono e₁)) (fun _ _ p => PT.sub e₁ p) noE) noE)
theorem TV.or {x : Expr} {rest : List Expr} {pos : Pos} {Q : Bool → Led → Prop} (h : TV X ρ σ x fun b σ₁ => (b = true → Q true σ₁) ∧ (b = false → TV X ρ σ₁ (.BoolOp .Or rest pos) Q)) :
    TV X ρ σ (.BoolOp .Or (x :: rest) pos) Q := fun φ R m s S M =>
  isTrue_or (wpAny_mono (h φ R m s S M) (fun b s₁ ⟨R₁, σ₁, e₁, S₁, q⟩ => by
    cases b with
    | true => exact ⟨R₁, σ₁, e₁, S₁, q.1 rfl⟩
    | false =>
      exact wpAny_mono (q.2 rfl φ R₁ m s₁ S₁ (M.mono e₁)) (fun _ _ p => PT.sub e₁ p) noE) noE)
/-- any other test: its value, then its truth -/
theorem TV.plain {e : Expr} {Q : Bool → Led → Prop} (h : EV X ρ σ e fun a σ₁ => TrV X a σ₁ Q)
    (he : isTrue e X.env (eval e X.env) = (do let v ← eval e X.env; standAt e.pos; holding [v] (truthy v)) := by rfl) : TV X ρ σ e Q := fun φ R m s S M =>
  isTrue_plain (wpAny_mono (h φ R m s S M) (fun va s₁ ⟨R₁, σ₁, a, e₁, S₁, ra, h₁⟩ => wpAny_mono (h₁ φ R₁ m s₁ va S₁ ra) (fun _ _ p => PT.sub e₁ p) noE) noE) he

theorem TrV.bool {b : Bool} {Q : Bool → Led → Prop} (q : Q b σ) : TrV X (.bool b) σ Q := fun φ R m s va S ra => by
  cases ra
  exact wpAny_truthy_bool ⟨R, σ, .refl _, S, q⟩

theorem EV.ife {t a b : Expr} {pos : Pos} {Q : PV → Led → Prop} (h : TV X ρ σ t fun c σ₁ => (c = true → EV X ρ σ₁ a Q) ∧ (c = false → EV X ρ σ₁ b Q)) : EV X ρ σ (.IfExp t a b pos) Q := fun φ R m s S M =>
  IfExp_ (wpAny_mono (h φ R m s S M) (fun c s₁ ⟨R₁, σ₁, e₁, S₁, q⟩ => by
    cases c with
    | true => exact wpAny_mono (q.1 rfl φ R₁ m s₁ S₁ (M.mono e₁)) (fun _ _ p => PE.sub e₁ p) noE
    | false => exact wpAny_mono (q.2 rfl φ R₁ m s₁ S₁ (M.mono e₁)) (fun _ _ p => PE.sub e₁ p) noE) noE)

theorem EV.bo_one {op : BoolOp} {e : Expr} {pos : Pos} {Q : PV → Led → Prop} (h : EV X ρ σ e Q) : EV X ρ σ (.BoolOp op [e] pos) Q := fun φ R m s S M => BoolOp_one (h φ R m s S M)
theorem EV.and {e₁ e₂ : Expr} {rest : List Expr} {pos : Pos} {Q : PV → Led → Prop}
    (h : EV X ρ σ e₁ fun a σ₁ => ∃ t, a = .bool t ∧ (t = true → EV X ρ σ₁ (.BoolOp .And (e₂ :: rest) pos) Q) ∧ (t = false → Q (.bool false) σ₁)) : EV X ρ σ (.BoolOp .And (e₁ :: e₂ :: rest) pos) Q := fun φ R m s S M =>
  BoolOp_and (wpAny_mono (h φ R m s S M) (fun va s₁ ⟨R₁, σ₁, a, e₁, S₁, ra, t, ht, q⟩ => by
    subst ht
    cases ra
    refine wpAny_truthy_bool ?_
    cases t with
    | true => rw [if_pos rfl]; exact wpAny_mono (q.1 rfl φ R₁ m s₁ S₁ (M.mono e₁)) (fun _ _ p => PE.sub e₁ p) noE
    | false => exact ⟨R₁, σ₁, _, e₁, S₁, .bool false, q.2 rfl⟩) noE)
theorem EV.or {e₁ e₂ : Expr} {rest : List Expr} {pos : Pos} {Q : PV → Led → Prop}
    (h : EV X ρ σ e₁ fun a σ₁ => ∃ t, a = .bool t ∧ (t = true → Q (.bool true) σ₁) ∧ (t = false → EV X ρ σ₁ (.BoolOp .Or (e₂ :: rest) pos) Q)) : EV X ρ σ (.BoolOp .Or (e₁ :: e₂ :: rest) pos) Q := fun φ R m s S M =>
  BoolOp_or (wpAny_mono (h φ R m s S M) (fun va s₁ ⟨R₁, σ₁, a, e₁, S₁, ra, t, ht, q⟩ => by
    subst ht
    cases ra
    refine wpAny_truthy_bool ?_
    cases t with
    | false => exact wpAny_mono (q.2 rfl φ R₁ m s₁ S₁ (M.mono e₁)) (fun _ _ p => PE.sub e₁ p) noE
    | true => rw [if_pos rfl]; exact ⟨R₁, σ₁, _, e₁, S₁, .bool true, q.1 rfl⟩) noE)

theorem EVL.nil {pos : Pos} {Q : List PV → Led → Prop} (q : Q [] σ) : EVL X ρ σ pos [] Q := fun φ R m s S M => args_nil ⟨R, σ, [], .refl _, S, .nil, q⟩
theorem EVL.cons {pos : Pos} {e : Expr} {rest : List Expr} {Q : List PV → Led → Prop} (h : EV X ρ σ e fun a σ₁ => EVL X ρ σ₁ pos rest fun as σ₂ => Q (a :: as) σ₂)
    (he : starEach (e :: rest) X.env = (false, eval e X.env) :: starEach rest X.env := by rfl) : EVL X ρ σ pos (e :: rest) Q := fun φ R m s S M =>
  args_cons (wpAny_mono (h φ R m s S M) (fun va s₁ ⟨R₁, σ₁, a, e₁, S₁, ra, h₁⟩ => wpAny_mono (h₁ φ R₁ m s₁ S₁ (M.mono e₁))
    (fun vs s₂ ⟨R₂, σ₂, as, e₂, S₂, rs, q⟩ => ⟨R₂, σ₂, a :: as, e₁.trans e₂, S₂, .cons (ra.mono e₂) rs, q⟩) noE) noE) he

theorem RepL.length {C : Addr} {R : Led} : ∀ {vs : List Value} {ps : List PV}, RepL C R vs ps → vs.length = ps.length
  | _, _, .nil => rfl
  | _, _, .cons _ t => by rw [List.length_cons, List.length_cons, t.length]

theorem EV.tuple {es : List Expr} {k : Nat} {pos : Pos} {Q : PV → Led → Prop} (h : EVL X ρ σ pos es fun as σ₁ => as.length ≤ 1000 ∧ Q (.tup as) σ₁) : EV X ρ σ (.Tuple es k pos) Q := fun φ R m s S M =>
  Tuple_ (wpAny_mono (h φ R m s S M) (fun vs s₁ ⟨R₁, σ₁, as, e₁, S₁, rs, hz, q⟩ => newTuple_N S₁.fr S₁.nw (fun h' F' N' =>
    ⟨_, σ₁, _, e₁.trans (fun p hp => List.mem_cons_of_mem _ hp), S₁.more F' N' (Nat.le_refl _), .tup (List.mem_cons_self) (by rw [rs.length]; exact hz) (rs.mono fun p hp => List.mem_cons_of_mem _ hp), q⟩)
    (by rw [rs.length, sizeLine_eq]; omega)) noE)
theorem EV.list {es : List Expr} {pos : Pos} {Q : PV → Led → Prop} (h : EVL X ρ σ pos es fun as σ₁ => as.length ≤ 1000 ∧ Q (.lst as) σ₁) : EV X ρ σ (.List es pos) Q := fun φ R m s S M =>
  List_ (wpAny_mono (h φ R m s S M) (fun vs s₁ ⟨R₁, σ₁, as, e₁, S₁, rs, hz, q⟩ => newList_N S₁.fr S₁.nw (fun h' F' N' =>
    ⟨_, σ₁, _, e₁.trans (fun p hp => List.mem_cons_of_mem _ hp), S₁.more F' N' (Nat.le_refl _), .lst (List.mem_cons_self) (by rw [rs.length]; exact hz) (rs.mono fun p hp => List.mem_cons_of_mem _ hp), q⟩)
    (by rw [rs.length, sizeLine_eq]; omega)) noE)

theorem EV.sub {v i : Expr} {pos : Pos} {Q : PV → Led → Prop} (h : EV X ρ σ v fun a σ₁ => EV X ρ σ₁ i fun b σ₂ => SubV X v i a b σ₂ Q) : EV X ρ σ (.Subscript v i pos) Q := fun φ R m s S M =>
  Subscript_ (wpAny_mono (h φ R m s S M) (fun va s₁ ⟨R₁, σ₁, a, e₁, S₁, ra, h₁⟩ =>
    wpAny_mono (h₁ φ R₁ m s₁ S₁ (M.mono e₁)) (fun vb s₂ ⟨R₂, σ₂, b, e₂, S₂, rb, h₂⟩ =>
      wpAny_mono (h₂ φ R₂ m s₂ va vb S₂ (ra.mono e₂) rb) (fun _ _ p => PE.sub (e₁.trans e₂) p) noE) noE) noE)
end

/-! statements -/
section
variable {X : Fx} {σ : Led} {ρ : Loc}
theorem WS.nil {Q : Res → Led → Prop} (q : Q (.next ρ) σ) : WS X ρ σ [] Q := fun φ R m s S M => wpAny_execs_nil ⟨R, m, σ, _, .refl _, S, .next M, q⟩
/-- one statement, then the rest -/
def Then (X : Fx) (ts : List Stmt) (Q : Res → Led → Prop) (r : Res) (σ : Led) : Prop := match r with
  | .next ρ => WS X ρ σ ts Q
  | r => Q r σ
theorem WS.cons {t : Stmt} {ts : List Stmt} {Q : Res → Led → Prop} (h : WS1 X ρ σ t (Then X ts Q)) : WS X ρ σ (t :: ts) Q := fun φ R m s S M =>
  wpAny_execs_cons (wpAny_mono (h φ R m s S M) (fun f s₁ ⟨R₁, m₁, σ₁, r, e₁, S₁, rr, q⟩ => by
    cases rr with
    | next M₁ => exact wpAny_mono (q φ R₁ m₁ s₁ S₁ M₁) (fun _ _ p => PS.sub e₁ p) noE
    | brk M₁ => exact ⟨R₁, m₁, σ₁, _, e₁, S₁, .brk M₁, q⟩
    | cont M₁ => exact ⟨R₁, m₁, σ₁, _, e₁, S₁, .cont M₁, q⟩
    | ret rv => exact ⟨R₁, m₁, σ₁, _, e₁, S₁, .ret rv, q⟩) noE)
theorem WS1.ret {e : Expr} {pos : Pos} {Q : Res → Led → Prop} (h : EV X ρ σ e fun v σ₁ => Q (.ret v) σ₁) : WS1 X ρ σ (.Return (some e) pos) Q := fun φ R m s S M =>
  wpAny_Return_some (wpAny_mono (h φ R m s S M) (fun v s₁ ⟨R₁, σ₁, a, e₁, S₁, ra, q⟩ => ⟨R₁, m, σ₁, _, e₁, S₁, .ret ra, q⟩) noE)
theorem WS1.cont {pos : Pos} {Q : Res → Led → Prop} (q : Q (.cont ρ) σ) : WS1 X ρ σ (.Continue pos) Q := fun φ R m s S M =>
  wpAny_Continue ⟨R, m, σ, _, .refl _, S, .cont M, q⟩
theorem WS1.ite {t : Expr} {a b : List Stmt} {pos : Pos} {Q : Res → Led → Prop} (h : TV X ρ σ t fun c σ₁ => (c = true → WS X ρ σ₁ a Q) ∧ (c = false → WS X ρ σ₁ b Q)) : WS1 X ρ σ (.If t a b pos) Q := fun φ R m s S M =>
  wpAny_If (wpAny_mono (h φ R m s S M) (fun c s₁ ⟨R₁, σ₁, e₁, S₁, q⟩ => by
    cases c with
    | true => rw [if_pos rfl]; exact wpAny_mono (q.1 rfl φ R₁ m s₁ S₁ (M.mono e₁)) (fun _ _ p => PS.sub e₁ p) noE
    | false => exact wpAny_mono (q.2 rfl φ R₁ m s₁ S₁ (M.mono e₁)) (fun _ _ p => PS.sub e₁ p) noE) noE)

theorem St.store {φ R : Led} {m : Str → Option Value} {s : Shared} (S : St X φ σ R m s) {x : Str} {v : Value} {Q : Unit → Shared → Prop} (hl : X.sc.names.lookup x = some .local)
    (h : ∀ s', St X φ σ R (fun y => if y = x then some v else m y) s' → Q () s') : wpAny X.M X.A (storeName X.env x v) Q NoE s :=
  stN S.fr S.nw (fun h' F' N' => h _ (S.next F' N')) S.ok.kind hl
theorem WS1.asg {x : Str} {p' pos : Pos} {e : Expr} {Q : Res → Led → Prop} (h : EV X ρ σ e fun v σ₁ => Q (.next (ρ.set x v)) σ₁) (hl : X.sc.names.lookup x = some .local)
    (hs : swapsWith e (some (.Name x p')) pos.line X.env = pure false := by rfl) : WS1 X ρ σ (.Assign [.Name x p'] e pos) Q := fun φ R m s S M =>
  wpAny_Assign_Name (wpAny_mono (h φ R m s S M) (fun v s₁ ⟨R₁, σ₁, a, e₁, S₁, ra, q⟩ => S₁.store hl fun s' S' => ⟨R₁, _, σ₁, _, e₁, S', .next ((M.mono e₁).set ra), q⟩) noE) hs
theorem WS1.aug {x : Str} {p' pos : Pos} {op : Operator} {e : Expr} {v : PV} {Q : Res → Led → Prop} (hx : ρ.get x = some v) (h : EV X ρ σ e fun u σ₁ => IopV X op v u σ₁ fun r σ₂ => Q (.next (ρ.set x r)) σ₂)
    (hl : X.sc.names.lookup x = some .local) : WS1 X ρ σ (.AugAssign (.Name x p') op e pos) Q := fun φ R m s S M =>
  let ⟨u, a, b⟩ := M x v hx
  wpAny_AugAssign_Name (ldn S.fr a (wpAny_mono (h φ R m s S M) (fun vu s₁ ⟨R₁, σ₁, pu, e₁, S₁, ru, h₁⟩ =>
    wpAny_mono (h₁ φ R₁ m s₁ u vu S₁ (b.mono e₁) ru) (fun vr s₂ ⟨R₂, σ₂, pr, e₂, S₂, rr, q⟩ => S₂.store hl fun s' S' => ⟨R₂, _, σ₂, _, e₁.trans e₂, S', .next ((M.mono (e₁.trans e₂)).set rr), q⟩) noE) noE) S.ok.kind hl)

/-- stepping into a compound's rest: a post may be weakened -/
theorem WS.mono {ts : List Stmt} {Q Q' : Res → Led → Prop} (h : WS X ρ σ ts Q) (k : ∀ r σ', Q r σ' → Q' r σ') : WS X ρ σ ts Q' := fun φ R m s S M =>
  wpAny_mono (h φ R m s S M) (fun _ _ ⟨R₁, m₁, σ₁, r, a, b, c, q⟩ => ⟨R₁, m₁, σ₁, r, a, b, c, k _ _ q⟩) noE
theorem EV.mono {e : Expr} {Q Q' : PV → Led → Prop} (h : EV X ρ σ e Q) (k : ∀ r σ', Q r σ' → Q' r σ') : EV X ρ σ e Q' := fun φ R m s S M =>
  wpAny_mono (h φ R m s S M) (fun _ _ ⟨R₁, σ₁, r, a, b, c, q⟩ => ⟨R₁, σ₁, r, a, b, c, k _ _ q⟩) noE
theorem TV.mono {e : Expr} {Q Q' : Bool → Led → Prop} (h : TV X ρ σ e Q) (k : ∀ r σ', Q r σ' → Q' r σ') : TV X ρ σ e Q' := fun φ R m s S M =>
  wpAny_mono (h φ R m s S M) (fun _ _ ⟨R₁, σ₁, a, b, q⟩ => ⟨R₁, σ₁, a, b, k _ _ q⟩) noE
end
end Mine

namespace Mine

theorem RepL.inv_cons {C : Addr} {R : Led} {vs : List Value} {p : PV} {ps : List PV} (h : RepL C R vs (p :: ps)) : ∃ v us, vs = v :: us ∧ Rep C R v p ∧ RepL C R us ps := by
  cases h with | cons a b => exact ⟨_, _, rfl, a, b⟩
theorem RepL.inv_nil {C : Addr} {R : Led} {vs : List Value} (h : RepL C R vs []) : vs = [] := by
  cases h; rfl

/-- fewer than k+1 binary figures -/
def Bd (k : Nat) (a : Int) : Prop := a.natAbs < 2 ^ k
theorem Bd.bits {k : Nat} {a : Int} (h : Bd k a) : Builtin.Int.intBits a ≤ k := by
  unfold Builtin.Int.intBits
  split
  · exact Nat.zero_le _
  · rename_i h0
    have h1 : a.natAbs ≠ 0 := fun e => h0 (by simpa using e)
    exact (Nat.log2_lt h1).mpr h
theorem Bd.mono {k j : Nat} {a : Int} (h : Bd k a) (hk : k ≤ j) : Bd j a := Nat.lt_of_lt_of_le h (Nat.pow_le_pow_right (by decide) hk)
theorem Bd.mul {k j : Nat} {a b : Int} (ha : Bd k a) (hb : Bd j b) : Bd (k + j) (a * b) := by
  unfold Bd at *
  rw [Int.natAbs_mul, Nat.pow_add]
  exact Nat.mul_lt_mul_of_lt_of_le ha (Nat.le_of_lt hb) (Nat.lt_of_le_of_lt (Nat.zero_le _) hb)
theorem Bd.add {k : Nat} {a b : Int} (ha : Bd k a) (hb : Bd k b) : Bd (k + 1) (a + b) := by
  unfold Bd at *
  rw [Nat.pow_succ]
  have := Int.natAbs_add_le a b
  omega
theorem Bd.neg {k : Nat} {a : Int} (h : Bd k a) : Bd k (-a) := by unfold Bd at *; rwa [Int.natAbs_neg]
theorem Bd.of_le {k : Nat} {a b : Int} (ha : Bd k a) (h0 : 0 ≤ b) (h : b ≤ a) : Bd k b := by unfold Bd at *; omega
theorem Bd.pow {k n : Nat} {a : Int} (ha : Bd k a) : Bd (k * n + 1) (a ^ n) := by
  unfold Bd at *
  rw [Int.natAbs_pow, Nat.pow_succ]
  have h1 : a.natAbs ^ n ≤ (2 ^ k) ^ n := Nat.pow_le_pow_left (Nat.le_of_lt ha) n
  rw [← Nat.pow_mul] at h1
  have h2 : 0 < 2 ^ (k * n) := Nat.pow_pos (by decide)
  omega

section
variable {X : Fx} {σ : Led} {ρ : Loc} {Q : PV → Led → Prop}

theorem OpV.add {a b : Int} (q : Q (.int (a + b)) σ) : OpV X .Add (.int a) (.int b) σ Q := fun φ R m s va vb S ra rb => by
  cases ra; cases rb; exact P.add_int (PE.int (S.toks _) q)
theorem OpV.sub {a b : Int} (q : Q (.int (a - b)) σ) : OpV X .Sub (.int a) (.int b) σ Q := fun φ R m s va vb S ra rb => by
  cases ra; cases rb; exact P.sub_int (PE.int (S.toks _) q)
theorem OpV.mul {a b : Int} {k j : Nat} (ha : Bd k a) (hb : Bd j b) (hk : k ≤ 1000000) (hj : j ≤ 1000000) (q : Q (.int (a * b)) σ) : OpV X .Mult (.int a) (.int b) σ Q := fun φ R m s va vb S ra rb => by
  cases ra; cases rb
  exact P.mul_int (PE.int (S.toks _) q) (IntMulOk.of_bits (Nat.le_trans ha.bits (by omega)) (Nat.le_trans hb.bits (by omega)))
theorem log2_lt_of_Bd {k : Nat} {b : Int} (h : Bd k b) (hk : k ≤ 9000) : b.natAbs.log2 < 9000 := by
  by_cases h0 : b.natAbs = 0
  · rw [h0]; decide +kernel
  · exact Nat.lt_of_lt_of_le ((Nat.log2_lt h0).mpr h) hk
theorem OpV.fdiv {a b : Int} {k : Nat} (h0 : 0 < b) (hb : Bd k b) (hk : k ≤ 9000) (q : Q (.int (a / b)) σ) : OpV X .FloorDiv (.int a) (.int b) σ Q := fun φ R m s va vb S ra rb => by
  cases ra; cases rb
  refine PyProof.Rows.floordiv_int (by omega) ?_ (Or.inl (PyProof.noPylong_of_log2 (log2_lt_of_Bd hb hk)))
  rw [Int.fdiv_eq_ediv_of_nonneg _ (by omega)]
  exact PE.int (S.toks _) q
theorem OpV.fmod {a b : Int} (h0 : 0 < b) (q : Q (.int (a % b)) σ) : OpV X .Mod (.int a) (.int b) σ Q := fun φ R m s va vb S ra rb => by
  cases ra; cases rb
  refine PyProof.Rows.mod_int' (by omega) ?_
  rw [Int.fmod_eq_emod_of_nonneg _ (by omega)]
  exact PE.int (S.toks _) q
theorem OpV.shl {a n : Int} {k : Nat} (h0 : 0 ≤ n) (hn : n ≤ 1000000) (ha : Bd k a) (hk : k ≤ 1000000) (q : Q (.int (a * 2 ^ n.toNat)) σ) : OpV X .LShift (.int a) (.int n) σ Q := fun φ R m s va vb S ra rb => by
  cases ra; cases rb
  exact PyProof.Rows.lshift_int h0 (by have := ha.bits; omega) (PE.int (S.toks _) q)
theorem OpV.shr {a n : Int} (h0 : 0 ≤ n) (q : Q (.int (a / 2 ^ n.toNat)) σ) : OpV X .RShift (.int a) (.int n) σ Q := fun φ R m s va vb S ra rb => by
  cases ra; cases rb
  refine PyProof.Rows.rshift_int h0 ?_
  rw [Int.fdiv_eq_ediv_of_nonneg _ (Int.le_of_lt (Int.pow_pos (by decide)))]
  exact PE.int (S.toks _) q
theorem OpV.pow {a n : Int} (h0 : 0 ≤ n) (hn : n ≤ 1000000) (ha : a.natAbs < 2 ^ 64) (q : Q (.int (a ^ n.toNat)) σ) : OpV X .Pow (.int a) (.int n) σ Q := fun φ R m s va vb S ra rb => by
  cases ra; cases rb
  exact PyProof.Rows.pow_int h0 (bits_mul_le ha h0 hn) (PE.int (S.toks _) q)
theorem OpV.band {a b : Int} (q : Q (.int (Builtin.bitAnd a b)) σ) : OpV X .BitAnd (.int a) (.int b) σ Q := fun φ R m s va vb S ra rb => by
  cases ra; cases rb
  exact PyProof.Rows.and_int (PE.int (S.toks _) q)
theorem OpV.cat {a b : Str} (hz : a.length + b.length ≤ 1000000) (q : Q (.str (a ++ b)) σ) : OpV X .Add (.str a) (.str b) σ Q := fun φ R m s va vb S ra rb => by
  cases ra; cases rb
  exact PyProof.Rows.add_str (fun t' tk => PE.str (S.toks _) q) (by rw [sizeLine_eq]; omega)

theorem IopV.add {a b : Int} (q : Q (.int (a + b)) σ) : IopV X .Add (.int a) (.int b) σ Q := fun φ R m s va vb S ra rb => by
  cases ra; cases rb; exact P.iadd_int (PE.int (S.toks _) q)
theorem IopV.sub {a b : Int} (q : Q (.int (a - b)) σ) : IopV X .Sub (.int a) (.int b) σ Q := fun φ R m s va vb S ra rb => by
  cases ra; cases rb; exact P.isub_int (PE.int (S.toks _) q)
theorem IopV.mul {a b : Int} {k j : Nat} (ha : Bd k a) (hb : Bd j b) (hk : k ≤ 1000000) (hj : j ≤ 1000000) (q : Q (.int (a * b)) σ) : IopV X .Mult (.int a) (.int b) σ Q := fun φ R m s va vb S ra rb => by
  cases ra; cases rb
  exact P.imul_int (PE.int (S.toks _) q) (IntMulOk.of_bits (Nat.le_trans ha.bits (by omega)) (Nat.le_trans hb.bits (by omega)))
theorem IopV.fdiv {a b : Int} {k : Nat} (h0 : 0 < b) (hb : Bd k b) (hk : k ≤ 9000) (q : Q (.int (a / b)) σ) : IopV X .FloorDiv (.int a) (.int b) σ Q := fun φ R m s va vb S ra rb => by
  cases ra; cases rb
  refine PyProof.Rows.ifloordiv_int (by omega) ?_ (Or.inl (PyProof.noPylong_of_log2 (log2_lt_of_Bd hb hk)))
  rw [Int.fdiv_eq_ediv_of_nonneg _ (by omega)]
  exact PE.int (S.toks _) q
theorem IopV.shl {a n : Int} {k : Nat} (h0 : 0 ≤ n) (hn : n ≤ 1000000) (ha : Bd k a) (hk : k ≤ 1000000) (q : Q (.int (a * 2 ^ n.toNat)) σ) : IopV X .LShift (.int a) (.int n) σ Q := fun φ R m s va vb S ra rb => by
  cases ra; cases rb
  exact PyProof.Rows.ilshift_int h0 (by have := ha.bits; omega) (PE.int (S.toks _) q)
theorem IopV.shr {a n : Int} (h0 : 0 ≤ n) (q : Q (.int (a / 2 ^ n.toNat)) σ) : IopV X .RShift (.int a) (.int n) σ Q := fun φ R m s va vb S ra rb => by
  cases ra; cases rb
  refine PyProof.Rows.irshift_int h0 ?_
  rw [Int.fdiv_eq_ediv_of_nonneg _ (Int.le_of_lt (Int.pow_pos (by decide)))]
  exact PE.int (S.toks _) q

theorem CmpV.lt {a b : Int} (q : Q (.bool (decide (a < b))) σ) : CmpV X .Lt (.int a) (.int b) σ Q := fun φ R m s va vb S ra rb => by
  cases ra; cases rb; exact P.lt_int (PE.bool S q)
theorem CmpV.le {a b : Int} (q : Q (.bool (decide (a ≤ b))) σ) : CmpV X .LtE (.int a) (.int b) σ Q := fun φ R m s va vb S ra rb => by
  cases ra; cases rb; exact P.le_int (PE.bool S q)
theorem CmpV.gt {a b : Int} (q : Q (.bool (decide (b < a))) σ) : CmpV X .Gt (.int a) (.int b) σ Q := fun φ R m s va vb S ra rb => by
  cases ra; cases rb; exact P.gt_int (PE.bool S q)
theorem CmpV.ge {a b : Int} (q : Q (.bool (decide (b ≤ a))) σ) : CmpV X .GtE (.int a) (.int b) σ Q := fun φ R m s va vb S ra rb => by
  cases ra; cases rb; exact P.ge_int (PE.bool S q)
theorem CmpV.eq {a b : Int} (q : Q (.bool (decide (a = b))) σ) : CmpV X .Eq (.int a) (.int b) σ Q := fun φ R m s va vb S ra rb => by
  cases ra; cases rb
  refine PyProof.Rows.eq_int ?_
  rw [show (a == b) = decide (a = b) from by simp [BEq.beq]]
  exact PE.bool S q
theorem CmpV.ne {a b : Int} (q : Q (.bool (decide (a ≠ b))) σ) : CmpV X .NotEq (.int a) (.int b) σ Q := fun φ R m s va vb S ra rb => by
  cases ra; cases rb
  refine PyProof.Rows.ne_int ?_
  rw [show (a != b) = decide (a ≠ b) from by rw [bne]; by_cases h : a = b <;> simp [h]]
  exact PE.bool S q
theorem CmpV.bne {a b : Bool} (q : Q (.bool (a != b)) σ) : CmpV X .NotEq (.bool a) (.bool b) σ Q := fun φ R m s va vb S ra rb => by
  cases ra; cases rb
  exact PyProof.Rows.ne_bool (PE.bool S q)
theorem cps_eq {x y : Str} : (x.cps.toList == y.cps.toList) = decide (x = y) := by
  cases x with | mk a => cases y with | mk b =>
  by_cases h : a = b
  · subst h; simp
  · have h2 : a.toList ≠ b.toList := fun e => h (Array.toList_inj.mp e)
    rw [decide_eq_false (by intro e; cases e; exact h rfl)]
    simpa using h2
theorem CmpV.seq {a b : Str} (q : Q (.bool (decide (a = b))) σ) : CmpV X .Eq (.str a) (.str b) σ Q := fun φ R m s va vb S ra rb => by
  cases ra; cases rb
  refine P.eq_str ?_
  rw [cps_eq]
  exact PE.bool S q
theorem CmpV.sne {a b : Str} (q : Q (.bool (decide (a ≠ b))) σ) : CmpV X .NotEq (.str a) (.str b) σ Q := fun φ R m s va vb S ra rb => by
  cases ra; cases rb
  refine P.ne_str ?_
  rw [show (a.cps.toList != b.cps.toList) = decide (a ≠ b) from by rw [_root_.bne, cps_eq]; by_cases h : a = b <;> simp [h]]
  exact PE.bool S q
/-- does the text hold the part -/
def holds (x y : Str) : Bool := !(Builtin.Str.occurrences x y 0 x.length 1).isEmpty
theorem CmpV.sin {a b : Str} (q : Q (.bool (holds b a)) σ) : CmpV X .In (.str a) (.str b) σ Q := fun φ R m s va vb S ra rb => by
  cases ra; cases rb
  exact P.in_str (PE.bool S q)

/-- pairs (bool, int) -/
theorem CmpV.pne {a c : Bool} {b d : Int} (q : Q (.bool (!(decide (a = c) && decide (b = d)))) σ) : CmpV X .NotEq (.tup [.bool a, .int b]) (.tup [.bool c, .int d]) σ Q := fun φ R m s va vb S ra rb => by
  cases ra with | tup ha hsa hla =>
  cases rb with | tup hb hsb hlb =>
  obtain ⟨_, _, rfl, p1, hla⟩ := hla.inv_cons
  obtain ⟨_, _, rfl, p2, hla⟩ := hla.inv_cons
  obtain rfl := hla.inv_nil
  obtain ⟨_, _, rfl, r1, hlb⟩ := hlb.inv_cons
  obtain ⟨_, _, rfl, r2, hlb⟩ := hlb.inv_cons
  obtain rfl := hlb.inv_nil
  cases p1; cases p2; cases r1; cases r2
  refine ne_dataH (da := .tuple [.bool a, .int b]) (db := .tuple [.bool c, .int d]) (reads_tuple_at (S.get ha) rfl rfl (.cons (.bool _) (.cons (.int _ _) .nil))) (reads_tuple_at (S.get hb) rfl rfl (.cons (.bool _) (.cons (.int _ _) .nil))) rfl rfl ?_ ?_
  · have := S.ok.units
    show X.A.units + 64 < 9900
    omega
  · have e : PyData.eqv (.tuple [.bool a, .int b]) (.tuple [.bool c, .int d]) = (decide (a = c) && decide (b = d)) := by
      cases a <;> cases c <;> simp [PyData.eqv, PyData.eqvAll] <;> rfl
    rw [e]
    exact PE.bool S q
end
end Mine

namespace Mine

/-! calls of built-ins -/
section
variable {X : Fx} {σ : Led} {ρ : Loc} {Q : PV → Led → Prop}

theorem one_arg {C : Addr} {R : Led} {vs : List Value} {p : PV} (h : RepL C R vs [p]) : ∃ v, vs = [v] ∧ Rep C R v p := by
  obtain ⟨v, _, rfl, a, b⟩ := h.inv_cons
  obtain rfl := b.inv_nil
  exact ⟨v, rfl, a⟩
theorem two_args {C : Addr} {R : Led} {vs : List Value} {p q : PV} (h : RepL C R vs [p, q]) : ∃ v u, vs = [v, u] ∧ Rep C R v p ∧ Rep C R u q := by
  obtain ⟨v, _, rfl, a, b⟩ := h.inv_cons
  obtain ⟨u, rfl, c⟩ := one_arg b
  exact ⟨v, u, rfl, a, c⟩

theorem CallV.abs {i : Int} (q : Q (.int (if i < 0 then -i else i)) σ) : CallV X (.builtin "abs") [.int i] σ Q := fun φ R m s vs S r => by
  obtain ⟨v, rfl, rv⟩ := one_arg r
  cases rv
  exact call_abs_int fun u tk => PE.int (S.toks _) q
theorem CallV.max {a b : Int} (q : Q (.int (if b > a then b else a)) σ) : CallV X (.builtin "max") [.int a, .int b] σ Q := fun φ R m s vs S r => by
  obtain ⟨v, u, rfl, rv, ru⟩ := two_args r
  cases rv; cases ru
  exact max_two_N S.ok.hd S.fr S.nw fun h' tk F' N' => PE.int (S.next F' N') q
theorem CallV.lenS {x : Str} (hz : x.length ≤ 1000000) (q : Q (.int x.length) σ) : CallV X (.builtin "len") [.str x] σ Q := fun φ R m s vs S r => by
  obtain ⟨v, rfl, rv⟩ := one_arg r
  cases rv
  exact P.len_str (by omega) (PE.int (S.toks _) q)
theorem CallV.lenL {l : List PV} (q : Q (.int l.length) σ) : CallV X (.builtin "len") [.lst l] σ Q := fun φ R m s vs S r => by
  obtain ⟨v, rfl, rv⟩ := one_arg r
  cases rv with
  | lst h hs hl =>
    refine PyProof.Rows.len_list ⟨_, S.get h, rfl, _, rfl⟩ ?_ ?_
    · rw [List.size_toArray]; omega
    · rw [List.size_toArray, hl.length]; exact PE.int (S.toks _) q
theorem CallV.strI {i : Int} {k : Nat} (hb : Bd k i) (hk : k ≤ 1900) (q : Q (.str (Str.ofString (toString i))) σ) : CallV X (.type "str") [.int i] σ Q := fun φ R m s vs S r => by
  obtain ⟨v, rfl, rv⟩ := one_arg r
  cases rv
  refine P.str_of_int ?_ (PE.str (S.toks _) q)
  by_cases h0 : i.natAbs = 0
  · rw [h0]; decide +kernel
  · exact Nat.lt_of_lt_of_le ((Nat.log2_lt h0).mpr hb) (by omega)
theorem CallV.intS {x : Str} {n : Int} (hn : PySem.intText? x = some n) (hz : x.length ≤ 640) (q : Q (.int n) σ) : CallV X (.type "int") [.str x] σ Q := fun φ R m s vs S r => by
  obtain ⟨v, rfl, rv⟩ := one_arg r
  cases rv
  exact KIN.call_text hn hz (PE.int (S.toks _) q)
theorem CallV.range1 {n : Int} (q : Q (.rng 0 n) σ) : CallV X (.type "range") [.int n] σ Q := fun φ R m s vs S r => by
  obtain ⟨v, rfl, rv⟩ := one_arg r
  cases rv
  refine call_range_1 ⟨_, σ, _, ?_, S.more (S.fr.push _) (S.nw.push S.fr _) (Nat.le_refl _), .rng (List.mem_cons_self), q⟩
  exact fun p hp => List.mem_cons_of_mem _ hp
theorem CallV.range2 {a b : Int} (q : Q (.rng a b) σ) : CallV X (.type "range") [.int a, .int b] σ Q := fun φ R m s vs S r => by
  obtain ⟨v, u, rfl, rv, ru⟩ := two_args r
  cases rv; cases ru
  refine call_range_2 ⟨_, σ, _, ?_, S.more (S.fr.push _) (S.nw.push S.fr _) (Nat.le_refl _), .rng (List.mem_cons_self), q⟩
  exact fun p hp => List.mem_cons_of_mem _ hp
theorem CallV.index {x y : Str} (h0 : 0 ≤ Txt.find x y) (q : Q (.int (Txt.find x y)) σ) : CallV X (.builtin "str.index") [.str x, .str y] σ Q := fun φ R m s vs S r => by
  obtain ⟨v, u, rfl, rv, ru⟩ := two_args r
  cases rv; cases ru
  exact index_or S.ok.hd (fun e => by omega) fun _ _ => PE.int (S.toks _) q
theorem repL_strs {C : Addr} {R : Led} : ∀ l : List (Str × Tok), RepL C R (strValues l) ((l.map (·.1)).map PV.str)
  | [] => .nil
  | p :: r => .cons (.str p.1 p.2) (repL_strs r)
theorem CallV.split {x y : Str} (hy : (y.length == 0) = false) (hz : x.length + 2 ≤ 1000) (hp : (Txt.split x y).length ≤ 1000) (q : Q (.lst ((Txt.split x y).map PV.str)) σ) : CallV X (.builtin "str.split") [.str x, .str y] σ Q := fun φ R m s vs S r => by
  obtain ⟨v, u, rfl, rv, ru⟩ := two_args r
  cases rv; cases ru
  refine splitN1 S.fr S.nw hy (fun l h' k e F' N' => ?_) (by rw [sizeLine_eq]; omega)
  refine ⟨_, σ, _, ?_, S.more F' N' (Nat.le_refl _), .lst (List.mem_cons_self) ?_ (repL_strs l), by rw [e]; exact q⟩
  · exact fun p hp => List.mem_cons_of_mem _ hp
  · have : (l.map (·.1)).length ≤ 1000 := by rw [e]; exact hp
    simpa [strValues] using this
theorem OpV.rep {x : Str} {n : Int} (h0 : 0 ≤ n) (hn : n ≤ 1000) (hx : x.length ≤ 1000) (q : Q (.str (Txt.mul x n)) σ) : OpV X .Mult (.str x) (.int n) σ Q := fun φ R m s va vb S ra rb => by
  cases ra; cases rb
  refine SB.mul ⟨?_, ?_, ?_⟩ fun t' k => PE.str (S.toks _) q
  · rw [decide_eq_false (by omega), decide_eq_false (by omega)]; rfl
  · intro h1 _ h2
    have : (2 ^ 63 - 1) / n ≥ 1000 := by
      apply (Int.le_ediv_iff_mul_le (by omega)).mpr
      have := Int.mul_le_mul_of_nonneg_left hn (show (0:Int) ≤ 1000 by decide)
      omega
    omega
  · intro h1 _
    have e : x.length * n.toNat ≤ 1000 * 1000 := Nat.mul_le_mul hx (by omega)
    unfold Builtin.Str.tooLong
    rw [decide_eq_false (by rw [sizeLine_eq]; omega)]

/-! subscripts -/
theorem RepL.get? {C : Addr} {R : Led} : ∀ {vs : List Value} {ps : List PV}, RepL C R vs ps → ∀ (j : Nat) {p : PV}, ps[j]? = some p → ∃ v, vs[j]? = some v ∧ Rep C R v p
  | _, _, .cons h t, 0, p, e => ⟨_, rfl, by cases e; exact h⟩
  | _, _, .cons h t, j + 1, p, e => RepL.get? t j (by simpa using e)
  | _, _, .nil, _, _, e => by cases e
theorem SubV.tup {v i : Expr} {l : List PV} {k : Int} {p : PV} (h0 : 0 ≤ k) (hk : k < 1000) (hp : l[k.toNat]? = some p) (q : Q p σ)
    (hs : ∀ a b u, subscripted i false (.ref a) (.int b u) = operate [.ref a, .int b u] (getItem (.ref a) (.int b u)) := by intro _ _ _; with_unfolding_all rfl) : SubV X v i (.tup l) (.int k) σ Q := fun φ R m s va vb S ra rb => by
  cases rb
  cases ra with
  | tup h hz hl =>
    obtain ⟨x, hx, rx⟩ := hl.get? _ hp
    have hlt : k.toNat < l.length := (List.getElem?_eq_some_iff.mp hp).1
    exact item_tupleT ⟨_, S.get h, rfl, _, rfl⟩ (by omega) (by omega) (seqIndex_of h0 (by rw [hl.length]; omega)) hx ⟨R, σ, p, .refl _, S, rx, q⟩ (hs _ _ _)
theorem SubV.lst {v i : Expr} {l : List PV} {k : Int} {p : PV} (h0 : 0 ≤ k) (hk : k < 1000) (hp : l[k.toNat]? = some p) (q : Q p σ)
    (hs : ∀ a b u, subscripted i false (.ref a) (.int b u) = operate [.ref a, .int b u] (getItem (.ref a) (.int b u)) := by intro _ _ _; with_unfolding_all rfl) : SubV X v i (.lst l) (.int k) σ Q := fun φ R m s va vb S ra rb => by
  cases rb
  cases ra with
  | lst h hz hl =>
    obtain ⟨x, hx, rx⟩ := hl.get? _ hp
    exact tail_any (Heap.IsList.typeIs ⟨_, S.get h, rfl, _, rfl⟩) slot_list_getitem.lookup (wpAny_getItem_list ⟨_, S.get h, rfl, _, rfl⟩ h0 (by omega) (by simpa using hx) ⟨R, σ, p, .refl _, S, rx, q⟩) (hs _ _ _)
theorem SubV.str {v i : Expr} {x : Str} {k : Int} {c : Nat} (h0 : 0 ≤ k) (hk : k < 1000) (hc : x.cps[k.toNat]? = some c) (q : Q (.str ⟨#[c]⟩) σ)
    (hs : ∀ a t b u, subscripted i false (.str a t) (.int b u) = operate [.str a t, .int b u] (getItem (.str a t) (.int b u)) := by intro _ _ _ _; with_unfolding_all rfl) : SubV X v i (.str x) (.int k) σ Q := fun φ R m s va vb S ra rb => by
  cases rb
  cases ra
  have hlt : k.toNat < x.length := (Array.getElem?_eq_some_iff.mp hc).1
  refine tail_any (typeIs_str _ _ _) F.slot_str_getitem.lookup (P.getItem_str ?_ ?_ (PE.str (S.toks _) q)) (hs _ _ _ _)
  · rw [decide_eq_false (by omega), decide_eq_false (by omega)]; rfl
  · rw [seqIndex_of h0 (by omega)]; exact hc

/-- x[:j] -/
theorem EV.slice_ns {v u : Expr} {sp pos : Pos} (h : EV X ρ σ v fun a σ₁ => EV X ρ σ₁ u fun b σ₂ => ∃ x j, a = .str x ∧ b = .int j ∧ x.length ≤ 1000000 ∧ Q (.str (Txt.slice x none (some j))) σ₂)
    (hs : ∀ a t b, subscripted (.Slice none (some u) none sp) false (.str a t) (.ref b) = operate [.ref b, .str a t] (getItem (.str a t) (.ref b)) := by intro _ _ _; with_unfolding_all rfl) :
    EV X ρ σ (.Subscript v (.Slice none (some u) none sp) pos) Q := fun φ R m s S M =>
  Subscript_ (wpAny_mono (h φ R m s S M) (fun va s₁ ⟨R₁, σ₁, a, e₁, S₁, ra, h₁⟩ => wpAny_Slice (by
    rw [evalPart_none, evalPart_some]
    refine wpAny_pure (wpAny_mono (h₁ φ R₁ m s₁ S₁ (M.mono e₁)) (fun vb s₂ ⟨R₂, σ₂, b, e₂, S₂, rb, x, j, ea, eb, hz, q⟩ => ?_) noE)
    subst ea eb
    cases ra; cases rb
    refine wpAny_pure ?_
    obtain ⟨T, id, hl, hT, hg⟩ := SBH.sliceItem_ns (prog := X.W.prog) (w := X.W.w) (A := X.A) (E := NoE) (Q := PE X φ R m Q) keptFrN ⟨S₂.fr, S₂.nw⟩ (fun h' t' k p => PE.sub (e₁.trans e₂) (PE.str (S₂.next p.1 p.2) q)) (by rw [sizeLine_eq]; omega)
    exact tail_any hT hl hg (hs _ _ _))) noE)
/-- x[i:] -/
theorem EV.slice_sn {v u : Expr} {sp pos : Pos} (h : EV X ρ σ v fun a σ₁ => EV X ρ σ₁ u fun b σ₂ => ∃ x j, a = .str x ∧ b = .int j ∧ x.length ≤ 1000000 ∧ Q (.str (Txt.slice x (some j) none)) σ₂)
    (hs : ∀ a t b, subscripted (.Slice (some u) none none sp) false (.str a t) (.ref b) = operate [.ref b, .str a t] (getItem (.str a t) (.ref b)) := by intro _ _ _; with_unfolding_all rfl) :
    EV X ρ σ (.Subscript v (.Slice (some u) none none sp) pos) Q := fun φ R m s S M =>
  Subscript_ (wpAny_mono (h φ R m s S M) (fun va s₁ ⟨R₁, σ₁, a, e₁, S₁, ra, h₁⟩ => wpAny_Slice (by
    rw [evalPart_none, evalPart_some]
    refine wpAny_mono (h₁ φ R₁ m s₁ S₁ (M.mono e₁)) (fun vb s₂ ⟨R₂, σ₂, b, e₂, S₂, rb, x, j, ea, eb, hz, q⟩ => ?_) noE
    subst ea eb
    cases ra; cases rb
    refine wpAny_pure (wpAny_pure ?_)
    obtain ⟨T, id, hl, hT, hg⟩ := SBH.sliceItem_sn (prog := X.W.prog) (w := X.W.w) (A := X.A) (E := NoE) (Q := PE X φ R m Q) keptFrN ⟨S₂.fr, S₂.nw⟩ (fun h' t' k p => PE.sub (e₁.trans e₂) (PE.str (S₂.next p.1 p.2) q)) (by rw [sizeLine_eq]; omega)
    exact tail_any hT hl hg (hs _ _ _))) noE)
/-- x[i:j] -/
theorem EV.slice_ss {v t u : Expr} {sp pos : Pos} (h : EV X ρ σ v fun a σ₁ => EV X ρ σ₁ t fun c σ₂ => EV X ρ σ₂ u fun b σ₃ => ∃ x i j, a = .str x ∧ c = .int i ∧ b = .int j ∧ x.length ≤ 1000000 ∧ Q (.str (Txt.slice x (some i) (some j))) σ₃)
    (hs : ∀ a k b, subscripted (.Slice (some t) (some u) none sp) false (.str a k) (.ref b) = operate [.ref b, .str a k] (getItem (.str a k) (.ref b)) := by intro _ _ _; with_unfolding_all rfl) :
    EV X ρ σ (.Subscript v (.Slice (some t) (some u) none sp) pos) Q := fun φ R m s S M =>
  Subscript_ (wpAny_mono (h φ R m s S M) (fun va s₁ ⟨R₁, σ₁, a, e₁, S₁, ra, h₁⟩ => wpAny_Slice (by
    rw [evalPart_none, evalPart_some, evalPart_some]
    refine wpAny_mono (h₁ φ R₁ m s₁ S₁ (M.mono e₁)) (fun vc s₂ ⟨R₂, σ₂, c, e₂, S₂, rc, h₂⟩ => wpAny_mono (h₂ φ R₂ m s₂ S₂ (M.mono (e₁.trans e₂))) (fun vb s₃ ⟨R₃, σ₃, b, e₃, S₃, rb, x, i, j, ea, ec, eb, hz, q⟩ => ?_) noE) noE
    subst ea ec eb
    cases ra; cases rc; cases rb
    refine wpAny_pure ?_
    obtain ⟨T, id, hl, hT, hg⟩ := SBH.sliceItem_ss (prog := X.W.prog) (w := X.W.w) (A := X.A) (E := NoE) (Q := PE X φ R m Q) keptFrN ⟨S₃.fr, S₃.nw⟩ (fun h' t' k p => PE.sub ((e₁.trans e₂).trans e₃) (PE.str (S₃.next p.1 p.2) q)) (by rw [sizeLine_eq]; omega)
    exact tail_any hT hl hg (hs _ _ _))) noE)
end
end Mine

namespace Mine

/-! while -/
section
variable {X : Fx} {σ : Led} {ρ : Loc}

/-- how a turn ends -/
def TurnQ {α : Type} (st : α → Loc) (sg : α → Led) (I : α → Prop) (μ : α → Nat) (Q : Res → Led → Prop) (a : α) (r : Res) (σ' : Led) : Prop := match r with
  | .next ρ' => ∃ b, ρ' = st b ∧ σ' = sg b ∧ I b ∧ μ b < μ a
  | .cont ρ' => ∃ b, ρ' = st b ∧ σ' = sg b ∧ I b ∧ μ b < μ a
  | .brk ρ' => Q (.next ρ') σ'
  | .ret v => Q (.ret v) σ'

theorem WS1.while {α : Type} (st : α → Loc) (sg : α → Led) (I : α → Prop) (μ : α → Nat) (a₀ : α) {test : Expr} {body : List Stmt} {pos : Pos} {Q : Res → Led → Prop}
    (hρ : ρ = st a₀) (hσ : σ = sg a₀) (h0 : I a₀)
    (turn : ∀ a, I a → TV X (st a) (sg a) test fun b σ' => (b = true → WS X (st a) σ' body (TurnQ st sg I μ Q a)) ∧ (b = false → Q (.next (st a)) σ')) :
    WS1 X ρ σ (.While test body [] pos) Q := fun φ R m s S M => by
  subst hρ hσ
  refine wpAny_While (codeAny_whileLoop (fun n s' => ∃ R₁ m₁ a, Sub R R₁ ∧ St X φ (sg a) R₁ m₁ s' ∧ RepM X.W.C R₁ m₁ (st a) ∧ I a ∧ n = μ a) ?_ (μ a₀) ⟨R, m, a₀, .refl _, S, M, h0, rfl⟩)
  rintro n s' ⟨R₁, m₁, a, e₁, S₁, M₁, hI, rfl⟩
  refine wpAny_mono (turn a hI φ R₁ m₁ s' S₁ M₁) (fun b s₂ ⟨R₂, σ₂, e₂, S₂, q⟩ => ?_) noE
  cases b with
  | false =>
    exact wpAny_execs_nil ⟨R₂, m₁, σ₂, _, e₁.trans e₂, S₂, .next (M₁.mono e₂), q.2 rfl⟩
  | true =>
    rw [if_pos rfl]
    refine wpAny_mono (q.1 rfl φ R₂ m₁ s₂ S₂ (M₁.mono e₂)) (fun f s₃ ⟨R₃, m₃, σ₃, r, e₃, S₃, rr, qq⟩ => ?_) noE
    have e := (e₁.trans e₂).trans e₃
    cases rr with
    | next M₃ => obtain ⟨b, rfl, rfl, hb, hm⟩ := qq; exact ⟨_, hm, R₃, m₃, b, e, S₃, M₃, hb, rfl⟩
    | cont M₃ => obtain ⟨b, rfl, rfl, hb, hm⟩ := qq; exact ⟨_, hm, R₃, m₃, b, e, S₃, M₃, hb, rfl⟩
    | brk M₃ => exact ⟨R₃, m₃, σ₃, _, e, S₃, .next M₃, qq⟩
    | ret rv => exact ⟨R₃, m₃, σ₃, _, e, S₃, .ret rv, qq⟩

/-! for -/
/-- the turns that are left -/
def FL (X : Fx) (x : Str) (body : List Stmt) : List PV → Loc → Led → (Res → Led → Prop) → Prop
  | [], ρ, σ, Q => Q (.next ρ) σ
  | v :: vs, ρ, σ, Q => WS X (ρ.set x v) σ body fun r σ' => match r with
      | .next ρ' => FL X x body vs ρ' σ' Q
      | .cont ρ' => FL X x body vs ρ' σ' Q
      | .brk ρ' => Q (.next ρ') σ'
      | .ret u => Q (.ret u) σ'

structure ItAt (X : Fx) (φ σ R : Led) (I : Addr) (s : Shared) : Prop where
  nL : I ≠ X.L
  new : X.h₀.get? I = none
  a1 : ∀ p ∈ φ, I ≠ p.1
  a2 : ∀ p ∈ σ, I ≠ p.1
  a3 : ∀ p ∈ R, I ≠ p.1

theorem St.plus {φ R : Led} {m : Str → Option Value} {s : Shared} {I : Addr} {o : Obj} (S : St X φ σ R m s) (J : ItAt X φ σ R I s) (ho : s.heap.get? I = some o) : St X ((I, o) :: φ) σ R m s := by
  refine ⟨S.ok, S.fr, ?_, ?_, ?_, S.ap3, S.gens, S.os⟩
  · intro p hp
    rcases List.mem_cons.mp hp with rfl | hp
    · exact ⟨ho, J.nL, J.new⟩
    · exact S.nw p hp
  · intro p hp q hq
    rcases List.mem_cons.mp hp with rfl | hp
    · exact J.a2 q hq
    · exact S.ap1 p hp q hq
  · intro p hp q hq
    rcases List.mem_cons.mp hp with rfl | hp
    · exact J.a3 q hq
    · exact S.ap2 p hp q hq
theorem St.minus {φ R : Led} {m : Str → Option Value} {s : Shared} {p : Addr × Obj} (S : St X (p :: φ) σ R m s) : St X φ σ R m s :=
  ⟨S.ok, S.fr, fun q hq => S.nw q (List.mem_cons_of_mem _ hq), fun q hq => S.ap1 q (List.mem_cons_of_mem _ hq), fun q hq => S.ap2 q (List.mem_cons_of_mem _ hq), S.ap3, S.gens, S.os⟩

/-- a step that turns the iterator alone -/
theorem St.step {φ R : Led} {m : Str → Option Value} {s : Shared} {I : Addr} {h' : Heap} {tk : Nat} (S : St X φ σ R m s) (J : ItAt X φ σ R I s) (hk : ∀ b o, b ∉ [I] → s.heap.get? b = some o → h'.get? b = some o) :
    St X φ σ R m { s with heap := h', toks := tk } := by
  have hb : ∀ b, b ≠ I → b ∉ [I] := fun b h q => h (List.mem_singleton.mp q)
  refine S.next ⟨?_, ?_, S.fr.above⟩ ?_
  · obtain ⟨oL, a1, a2, hL, a3⟩ := S.fr.ns
    exact ⟨oL, a1, a2, hk _ _ (hb _ (fun e => J.nL e.symm)) hL, a3⟩
  · exact fun b o e => hk b o (hb _ (fun q => by subst q; rw [J.new] at e; cases e)) (S.fr.keep b o e)
  · intro p hp
    refine ⟨hk _ _ (hb _ ?_) (S.nw p hp).1, (S.nw p hp).2⟩
    intro q
    simp only [List.mem_append] at hp
    rcases hp with hp | hp | hp
    · exact J.a1 p hp q.symm
    · exact J.a2 p hp q.symm
    · exact J.a3 p hp q.symm

theorem loop_core {φ R : Led} {m : Str → Option Value} {s : Shared} {I : Addr} {fp : List Addr} {n : Nat} {P : Nat → Value → Prop} {Sit : Nat → Heap → Prop} {x : Str} {xp : Pos} {body : List Stmt} {items : List PV} {Q : Res → Led → Prop}
    (W : Walks X.W.prog X.W.w X.A I fp [I] n P Sit) (hobj : ∀ i h, Sit i h → ∃ o, h.get? I = some o) (hn : items.length = n)
    (hP : ∀ i v, i < n → P i v → ∃ p, items[i]? = some p ∧ Rep X.W.C R v p) (hfp : ∀ b ∈ fp, b = I ∨ ∃ o, (b, o) ∈ R)
    (S : St X φ σ R m s) (M : RepM X.W.C R m ρ) (J : ItAt X φ σ R I s) (h0 : Sit 0 s.heap) (hl : X.sc.names.lookup x = some .local) (h : FL X x body items ρ σ Q) :
    codeAny X.M X.A (.forLoop (.Name x xp) (.ref I) body [] X.env) (fun r s' => match r with | .ok f => PS X φ R Q f s' | .error e => cameBackBy X.M X.A X.env NoE e s') s := by
  refine codeAny_forLoop (fun k s' => ∃ i R₁ m₁ σ₁ ρ₁, i ≤ n ∧ k = n - i ∧ Sub R R₁ ∧ St X φ σ₁ R₁ m₁ s' ∧ RepM X.W.C R₁ m₁ ρ₁ ∧ Sit i s'.heap ∧ ItAt X φ σ₁ R₁ I s' ∧ FL X x body (items.drop i) ρ₁ σ₁ Q) ?_ n
    ⟨0, R, m, σ, ρ, Nat.zero_le _, rfl, .refl _, S, M, h0, J, h⟩
  rintro k s' ⟨i, R₁, m₁, σ₁, ρ₁, hi, rfl, e₁, S₁, M₁, st₁, J₁, f₁⟩
  by_cases hlt : i < n
  · refine W.item i s' _ _ hlt st₁ fun v h' tk pv st' hk => ?_
    obtain ⟨p, hp, rp⟩ := hP i v hlt pv
    obtain ⟨o, ho⟩ := hobj _ _ st'
    have S₂ : St X ((I, o) :: φ) σ₁ R₁ m₁ { s' with heap := h', toks := tk } := (S₁.step J₁ hk).plus ⟨J₁.nL, J₁.new, J₁.a1, J₁.a2, J₁.a3⟩ ho
    have ed : items.drop i = p :: items.drop (i + 1) := by
      obtain ⟨hlen, hget⟩ := List.getElem?_eq_some_iff.mp hp
      rw [List.drop_eq_getElem_cons hlen, hget]
    rw [ed] at f₁
    refine wpAny_mono (wpAny_assign_Name (S₂.store hl fun s₃ S₃ => ?_)) (fun _ _ y => y) noE
    refine wpAny_mono (f₁ ((I, o) :: φ) R₁ _ s₃ S₃ (M₁.set (rp.mono e₁))) (fun f s₄ ⟨R₄, m₄, σ₄, r, e₄, S₄, rr, q⟩ => ?_) noE
    have oI : s₄.heap.get? I = some o := (S₄.nw (I, o) (List.mem_cons_self)).1
    have J₄ : ItAt X φ σ₄ R₄ I s₄ := ⟨J₁.nL, J₁.new, J₁.a1, fun p hp => S₄.ap1 (I, o) (List.mem_cons_self) p hp, fun p hp => S₄.ap2 (I, o) (List.mem_cons_self) p hp⟩
    have st₄ : Sit (i + 1) s₄.heap := W.frame _ _ _ st' fun b hb ob hob => by
      rcases hfp b hb with rfl | ⟨o₂, ho₂⟩
      · rw [ho] at hob; cases hob; exact oI
      · have h2 : h'.get? b = some o₂ := by
          have := (S₂.nw (b, o₂) (List.mem_append_right _ (List.mem_append_right _ (e₁ _ ho₂)))).1
          exact this
        rw [h2] at hob; cases hob
        exact S₄.get (e₄ _ (e₁ _ ho₂))
    cases rr with
    | next M₄ => exact ⟨n - (i + 1), by omega, i + 1, R₄, m₄, σ₄, _, hlt, rfl, e₁.trans e₄, S₄.minus, M₄, st₄, J₄, q⟩
    | cont M₄ => exact ⟨n - (i + 1), by omega, i + 1, R₄, m₄, σ₄, _, hlt, rfl, e₁.trans e₄, S₄.minus, M₄, st₄, J₄, q⟩
    | brk M₄ => exact ⟨R₄, m₄, σ₄, _, e₁.trans e₄, S₄.minus, .next M₄, q⟩
    | ret rv => exact ⟨R₄, m₄, σ₄, _, e₁.trans e₄, S₄.minus, .ret rv, q⟩
  · have hin : i = n := by omega
    subst hin
    refine W.done s' _ _ st₁ fun h' tk hk => ?_
    rw [List.drop_eq_nil_of_le (by omega)] at f₁
    exact wpAny_execs_nil ⟨R₁, m₁, σ₁, _, e₁, S₁.step J₁ hk, .next M₁, f₁⟩

/-- what a for goes over -/
inductive Itr : PV → List PV → Prop
  | lst (l : List PV) : Itr (.lst l) l
  | tup (l : List PV) : Itr (.tup l) l
  | rng (lo hi : Int) (h1 : -1000 ≤ lo) (h2 : lo ≤ hi) (h3 : hi ≤ 1000) : Itr (.rng lo hi) ((List.range (hi - lo).toNat).map fun i : Nat => .int (lo + (i : Int)))
  | str (x : Str) : Itr (.str x) (x.cps.toList.map fun c => .str ⟨#[c]⟩)

theorem ItAt.fresh {φ R : Led} {m : Str → Option Value} {s : Shared} (S : St X φ σ R m s) : ItAt X φ σ R s.heap.objs.size s := by
  have lt : ∀ p ∈ φ ++ (σ ++ R), s.heap.objs.size ≠ p.1 := fun p hp => Nat.ne_of_gt (S.lt hp)
  refine ⟨Nat.ne_of_gt S.fr.ns.lt, ?_, fun p hp => lt p (List.mem_append_left _ hp), fun p hp => lt p (List.mem_append_right _ (List.mem_append_left _ hp)), fun p hp => lt p (List.mem_append_right _ (List.mem_append_right _ hp))⟩
  cases e : X.h₀.get? s.heap.objs.size with
  | none => rfl
  | some o => exact absurd (Heap.lt_size (S.fr.keep _ _ e)) (Nat.lt_irrefl _)
theorem St.pushed {φ R : Led} {m : Str → Option Value} {s : Shared} (S : St X φ σ R m s) (o : Obj) (tk : Nat) : St X φ σ R m { s with heap := s.heap.push o, toks := tk } :=
  S.next (S.fr.push o) fun p hp => ⟨Heap.get?_push_of_some _ (S.nw p hp).1, (S.nw p hp).2⟩

theorem WS1.for {x : Str} {xp pos : Pos} {iter : Expr} {body : List Stmt} {Q : Res → Led → Prop} (h : EV X ρ σ iter fun v σ₁ => ∃ items, Itr v items ∧ FL X x body items ρ σ₁ Q) (hl : X.sc.names.lookup x = some .local)
    (hs : ∀ y, foldedSetIterable iter X.env y = pure y := by intro _; rfl) : WS1 X ρ σ (.For (.Name x xp) iter body [] pos) Q := fun φ R m s S M => by
  refine wpAny_For (wpAny_mono (h φ R m s S M) (fun v s₁ ⟨R₁, σ₁, a, e₁, S₁, ra, items, it, f⟩ => ?_) noE) hs
  have J := ItAt.fresh S₁
  have fin : ∀ {I : Addr} {s₂ : Shared}, codeAny X.M X.A (.forLoop (.Name x xp) (.ref I) body [] X.env) (fun r s' => match r with | .ok f => PS X φ R₁ Q f s' | .error e => cameBackBy X.M X.A X.env NoE e s') s₂ →
      codeAny X.M X.A (.forLoop (.Name x xp) (.ref I) body [] X.env) (fun r s' => match r with | .ok f => PS X φ R Q f s' | .error e => cameBackBy X.M X.A X.env NoE e s') s₂ := fun hh =>
    codeAny_mono hh fun r s' hr => by
      cases r with
      | ok f => exact PS.sub e₁ hr
      | error e => exact hr
  have hlt : ∀ {a : Addr} {o : Obj}, (a, o) ∈ R₁ → a ≠ s₁.heap.objs.size := fun {a o} ha => Nat.ne_of_lt (S₁.lt (List.mem_append_right _ (List.mem_append_right _ ha)))
  cases it with
  | lst l =>
    cases ra with
    | @lst a vs nn l' ha hz hll =>
      refine wpAny_pyIter_list ⟨_, S₁.get ha, rfl, _, rfl⟩ (fin ?_)
      refine loop_core (Walks.list S₁.ok.hd _ a (hlt ha) vs.toArray) (fun i h st => ⟨_, st.1.choose_spec.1⟩) (by rw [List.size_toArray, hll.length]) (fun i v hi pv => ?_) ?_ (S₁.pushed _ _) (M.mono e₁) ⟨J.nL, J.new, J.a1, J.a2, J.a3⟩ ⟨⟨_, Heap.get?_push_size _ rfl, rfl, rfl⟩, ⟨_, Heap.get?_push_of_some _ (S₁.get ha), rfl, _, rfl⟩⟩ hl f
      · have pv' : vs[i]? = some v := by simpa using pv
        have hlen := (List.getElem?_eq_some_iff.mp pv').1
        rw [hll.length] at hlen
        obtain ⟨v', hv', r⟩ := hll.get? i (List.getElem?_eq_getElem hlen)
        rw [pv'] at hv'; cases hv'
        exact ⟨_, List.getElem?_eq_getElem hlen, r⟩
      · intro b hb
        simp at hb
        rcases hb with rfl | rfl
        · exact .inl rfl
        · exact .inr ⟨_, ha⟩
  | tup l =>
    cases ra with
    | @tup a vs nn l' ha hz hll =>
      refine wpAny_pyIter_tuple ⟨_, S₁.get ha, rfl, _, rfl⟩ (fin ?_)
      refine loop_core (Walks.tuple S₁.ok.hd _ a (hlt ha) vs.toArray) (fun i h st => ⟨_, st.1.choose_spec.1⟩) (by rw [List.size_toArray, hll.length]) (fun i v hi pv => ?_) ?_ (S₁.pushed _ _) (M.mono e₁) ⟨J.nL, J.new, J.a1, J.a2, J.a3⟩ ⟨⟨_, Heap.get?_push_size _ rfl, rfl, rfl⟩, ⟨_, Heap.get?_push_of_some _ (S₁.get ha), rfl, _, rfl⟩⟩ hl f
      · have pv' : vs[i]? = some v := by simpa using pv
        have hlen := (List.getElem?_eq_some_iff.mp pv').1
        rw [hll.length] at hlen
        obtain ⟨v', hv', r⟩ := hll.get? i (List.getElem?_eq_getElem hlen)
        rw [pv'] at hv'; cases hv'
        exact ⟨_, List.getElem?_eq_getElem hlen, r⟩
      · intro b hb
        simp at hb
        rcases hb with rfl | rfl
        · exact .inl rfl
        · exact .inr ⟨_, ha⟩
  | rng lo hi h1 h2 h3 =>
    cases ra with
    | @rng a _ _ t u w ha =>
      have hsz : Builtin.Range.rangeSize lo hi 1 = ((hi - lo).toNat : Int) := by
        rw [rangeSize_one]; split <;> omega
      refine wpAny_pyIter_range (S₁.get ha) ?_ (fin ?_)
      · unfold Builtin.Range.small Builtin.Range.rangeFitsLong
        rw [hsz]
        simp
        omega
      · refine loop_core (Walks.range S₁.ok.hd _ lo 1 (hi - lo).toNat) (fun i h st => ⟨_, st⟩) (by simp) (fun i v hi pv => ?_) ?_ (S₁.pushed _ _) (M.mono e₁) ⟨J.nL, J.new, J.a1, J.a2, J.a3⟩ ?_ hl f
        · obtain ⟨t, rfl⟩ := pv
          refine ⟨.int (lo + (i : Int)), ?_, ?_⟩
          · rw [List.getElem?_map, List.getElem?_range hi]; rfl
          · rw [Int.mul_one]; exact .int _ _
        · intro b hb; exact .inl (List.mem_singleton.mp hb)
        · have e1 : lo + ((0 : Nat) : Int) * 1 = lo := by simp
          have e2 : (((hi - lo).toNat : Nat) : Int) - ((0 : Nat) : Int) = ((hi - lo).toNat : Int) := by simp
          rw [e1, e2, ← hsz]
          exact Heap.get?_push_size _ rfl
  | str x =>
    cases ra with
    | str _ t =>
      cases ha : x.cps.all (· < 128)
      · refine wpAny_pyIter_wide ha (fin ?_)
        refine loop_core (Walks.strWide S₁.ok.hd _ x t) (fun i h st => ⟨_, st.choose_spec.1⟩) (by simp) (fun i v hi pv => ?_) ?_ (S₁.pushed _ _) (M.mono e₁) ⟨J.nL, J.new, J.a1, J.a2, J.a3⟩ ⟨_, Heap.get?_push_size _ rfl, rfl, rfl⟩ hl f
        · obtain ⟨c, u, hc, rfl⟩ := pv
          refine ⟨.str ⟨#[c]⟩, ?_, .str _ _⟩
          rw [List.getElem?_map, Array.getElem?_toList, hc]; rfl
        · intro b hb; exact .inl (List.mem_singleton.mp hb)
      · refine wpAny_pyIter_ascii ha (fin ?_)
        refine loop_core (Walks.strAscii S₁.ok.hd _ x t) (fun i h st => ⟨_, st.choose_spec.1⟩) (by simp) (fun i v hi pv => ?_) ?_ (S₁.pushed _ _) (M.mono e₁) ⟨J.nL, J.new, J.a1, J.a2, J.a3⟩ ⟨_, Heap.get?_push_size _ rfl, rfl, rfl⟩ hl f
        · obtain ⟨c, u, hc, rfl⟩ := pv
          refine ⟨.str ⟨#[c]⟩, ?_, .str _ _⟩
          rw [List.getElem?_map, Array.getElem?_toList, hc]; rfl
        · intro b hb; exact .inl (List.mem_singleton.mp hb)
end
end Mine

namespace Mine

section
variable {X : Fx} {σ : Led} {ρ : Loc} {Q : PV → Led → Prop}

/-! the callee's name, then the call -/
theorem EV.callB {x : Str} {id : String} {np pos : Pos} {e : Expr} {es : List Expr} (hb : nsIn X.W.K mainGlobals x = some none) (hv : bootBuiltins x = some (.builtin id)) (hx : X.sc.names.lookup x = some .globalImplicit)
    (h : EVL X ρ σ pos (e :: es) fun as σ₁ => CallV X (.builtin id) as σ₁ Q) (hn : x ≠ "__name__" := by decide) (hd : (x == ("__debug__" : Str)) = false := by decide)
    (he : starEach (e :: es) X.env = (false, eval e X.env) :: starEach es X.env := by rfl) (hp : (backTo pos (starEach es X.env)).any (·.1) = false := by rfl)
    (hc : eval (.Call (.Name x np) (e :: es) [] pos) X.env = (do callWith pos (← eval (.Name x np) X.env) [] (backTo pos (starEach (e :: es) X.env)) (backToKw pos (keywordEach [] X.env))) := by rfl) :
    EV X ρ σ (.Call (.Name x np) (e :: es) [] pos) Q := fun φ R m s S M =>
  Call_ (name_B S.fr S.ok.K (topRead_of S.ok.T) hb hv hn (PyProof.Rows.callWith_builtin1 (wpAny_mono (h φ R m s S M) (fun vs s₁ ⟨R₁, σ₁, as, e₁, S₁, rs, h₁⟩ =>
    wpAny_mono (h₁ φ R₁ m s₁ vs S₁ rs) (fun _ _ p => PE.sub e₁ p) noE) noE) he hp) S.ok.kind hx hd) hc
theorem EV.callT {x : Str} {T : String} {np pos : Pos} {e : Expr} {es : List Expr} (hb : nsIn X.W.K mainGlobals x = some none) (hv : bootBuiltins x = some (.type T)) (hx : X.sc.names.lookup x = some .globalImplicit)
    (h : EVL X ρ σ pos (e :: es) fun as σ₁ => CallV X (.type T) as σ₁ Q) (hn : x ≠ "__name__" := by decide) (hd : (x == ("__debug__" : Str)) = false := by decide)
    (he : starEach (e :: es) X.env = (false, eval e X.env) :: starEach es X.env := by rfl) (hp : (backTo pos (starEach es X.env)).any (·.1) = false := by rfl)
    (hc : eval (.Call (.Name x np) (e :: es) [] pos) X.env = (do callWith pos (← eval (.Name x np) X.env) [] (backTo pos (starEach (e :: es) X.env)) (backToKw pos (keywordEach [] X.env))) := by rfl) :
    EV X ρ σ (.Call (.Name x np) (e :: es) [] pos) Q := fun φ R m s S M =>
  Call_ (name_B S.fr S.ok.K (topRead_of S.ok.T) hb hv hn (PyProof.Rows.callWith_type1 (wpAny_mono (h φ R m s S M) (fun vs s₁ ⟨R₁, σ₁, as, e₁, S₁, rs, h₁⟩ =>
    wpAny_mono (h₁ φ R₁ m s₁ vs S₁ rs) (fun _ _ p => PE.sub e₁ p) noE) noE) he hp) S.ok.kind hx hd) hc
theorem EV.callF {x : Str} {f : Addr} {np pos : Pos} {e : Expr} {es : List Expr} (hb : nsIn X.W.K mainGlobals x = some (some (.ref f))) (hf : keepIn X.W.K (.ref f) = true) (hx : X.sc.names.lookup x = some .globalImplicit)
    (h : EVL X ρ σ pos (e :: es) fun as σ₁ => CallV X (.ref f) as σ₁ Q) (hd : (x == ("__debug__" : Str)) = false := by decide)
    (he : starEach (e :: es) X.env = (false, eval e X.env) :: starEach es X.env := by rfl) (hp : (backTo pos (starEach es X.env)).any (·.1) = false := by rfl)
    (hc : eval (.Call (.Name x np) (e :: es) [] pos) X.env = (do callWith pos (← eval (.Name x np) X.env) [] (backTo pos (starEach (e :: es) X.env)) (backToKw pos (keywordEach [] X.env))) := by rfl) :
    EV X ρ σ (.Call (.Name x np) (e :: es) [] pos) Q := fun φ R m s S M =>
  Call_ (name_K S.fr S.ok.K (topRead_of S.ok.T) hb (callWith_K S.ok.K hf (wpAny_mono (h φ R m s S M) (fun vs s₁ ⟨R₁, σ₁, as, e₁, S₁, rs, h₁⟩ =>
    ⟨S₁.ok.K.keeps S₁.fr.keep, wpAny_mono (h₁ φ R₁ m s₁ vs S₁ rs) (fun _ _ p => PE.sub e₁ p) noE⟩) noE) he hp) S.ok.kind hx hd) hc
set_option maxRecDepth 10000 in
/-- a method of a text -/
theorem EV.callM {o : Expr} {name : Str} {id : String} {ap pos : Pos} {e : Expr} {es : List Expr}
    (hg : ∀ (A : Around) (s : Shared) (x : Str) (t : Tok) (pl : Sem Bool) (Q' : Value × List Value → Shared → Prop), Q' (.builtin id, [.str x t]) s → wpAny X.M A (getMethod (.str x t) name pl) Q' NoE s)
    (h : EV X ρ σ o fun a σ₁ => ∃ x, a = .str x ∧ EVL X ρ σ₁ pos (e :: es) fun as σ₂ => CallV X (.builtin id) (.str x :: as) σ₂ Q)
    (he : starEach (e :: es) X.env = (false, eval e X.env) :: starEach es X.env := by rfl) (hp : (backTo pos (starEach es X.env)).any (·.1) = false := by rfl)
    {pl : Sem Bool}
    (hc : eval (.Call (.Attribute o name ap) (e :: es) [] pos) X.env = (do
      let ov ← eval o X.env
      standAt ap.atName
      let (f, first) ← holding [ov] (getMethod ov name pl)
      callWith pos f first (backTo pos (starEach (e :: es) X.env)) []) := by rfl) :
    EV X ρ σ (.Call (.Attribute o name ap) (e :: es) [] pos) Q := fun φ R m s S M =>
  MethodCall_ (pl := pl) (wpAny_mono (h φ R m s S M) (fun va s₁ ⟨R₁, σ₁, a, e₁, S₁, ra, x, ea, h₁⟩ => by
    subst ea
    cases ra with
    | str _ t =>
      have key : wpAny X.M X.A (callWith pos (.builtin id) [.str x t] (backTo pos (starEach (e :: es) X.env)) []) (PE X φ R m Q) NoE s₁ := by
        refine callWith_method1 (wpAny_mono (h₁ φ R₁ m s₁ S₁ (M.mono e₁)) (fun vs s₂ z => ?_) noE) he hp
        obtain ⟨R₂, σ₂, as, e₂, S₂, rs, h₂⟩ := z
        exact wpAny_mono (h₂ φ R₂ m s₂ (Value.str x t :: vs) S₂ (RepL.cons (Rep.str x t) rs)) (fun _ _ p => PE.sub (e₁.trans e₂) p) noE
      have z9 := hg X.A s₁ x t pl (fun fx s₂ => wpAny X.M X.A (callWith pos fx.1 fx.2 (backTo pos (starEach (e :: es) X.env)) []) (PE X φ R m Q) NoE s₂) key
      exact z9) noE) hc

/-- a global that holds an int -/
theorem EV.gint {x : Str} {pos : Pos} {i : Int} {t : Tok} (hb : nsIn X.W.K mainGlobals x = some (some (.int i t))) (hx : X.sc.names.lookup x = some .globalImplicit) (q : Q (.int i) σ) (hd : (x == ("__debug__" : Str)) = false := by decide) :
    EV X ρ σ (.Name x pos) Q := fun φ R m s S M => name_K S.fr S.ok.K (topRead_of S.ok.T) hb (PE.int S q) S.ok.kind hx hd

/-! fields of a form -/
def FormD.at (f : FormD) (x : Str) : Option Int :=
  if x = Str.ofString "exponent_bits" then some f.eb else if x = Str.ofString "fraction_bits" then some f.fb else if x = Str.ofString "bias" then some f.bias
  else if x = Str.ofString "top" then some f.top else if x = Str.ofString "hidden" then some f.hidden else if x = Str.ofString "least" then some f.least else none
set_option maxRecDepth 100000 in
theorem getL_form {f : FormD} {es : List DictEntry} (h : FormEs f es) {x : Str} {i : Int} (hx : f.at x = some i) : ∃ u, getL x es = some (some (.int i u)) := by
  obtain ⟨h1, h2, h3, h4, h5, h6, t1, t2, t3, t4, t5, t6, u1, u2, u3, u4, u5, u6, rfl⟩ := h
  unfold FormD.at at hx
  by_cases e1 : x = Str.ofString "exponent_bits"
  · subst e1; rw [if_pos rfl] at hx; cases hx; exact ⟨u1, rfl⟩
  rw [if_neg e1] at hx
  by_cases e2 : x = Str.ofString "fraction_bits"
  · subst e2; rw [if_pos rfl] at hx; cases hx; exact ⟨u2, rfl⟩
  rw [if_neg e2] at hx
  by_cases e3 : x = Str.ofString "bias"
  · subst e3; rw [if_pos rfl] at hx; cases hx; exact ⟨u3, rfl⟩
  rw [if_neg e3] at hx
  by_cases e4 : x = Str.ofString "top"
  · subst e4; rw [if_pos rfl] at hx; cases hx; exact ⟨u4, rfl⟩
  rw [if_neg e4] at hx
  by_cases e5 : x = Str.ofString "hidden"
  · subst e5; rw [if_pos rfl] at hx; cases hx; exact ⟨u5, rfl⟩
  rw [if_neg e5] at hx
  by_cases e6 : x = Str.ofString "least"
  · subst e6; rw [if_pos rfl] at hx; cases hx; exact ⟨u6, rfl⟩
  rw [if_neg e6] at hx
  cases hx

/-- what the class says of its instances -/
structure FormK (K : Frag) (C : Addr) : Prop where
  plain : ∀ x, plainGet K C x = true
  hasd : hasDictIn K C = true
  none : ∀ x, ∀ f : FormD, ∀ i, f.at x = some i → findIn K (.ref C) x = some none

theorem EV.attr {n attr : Str} {np pos : Pos} {f : FormD} {i : Int} (FK : FormK X.W.K X.W.C) (h : ρ.get n = some (.form f)) (ha : f.at attr = some i) (q : Q (.int i) σ) (hl : X.sc.names.lookup n = some .local)
    (hd : (n == ("__debug__" : Str)) = false := by decide)
    (he : eval (.Attribute (.Name n np) attr pos) X.env = (do
      let o ← eval (.Name n np) X.env
      standAt pos.atName
      let r ← holding [o] (getAttr o attr true)
      letTemporaryGo (.Name n np) o r
      pure r) := by rfl) : EV X ρ σ (.Attribute (.Name n np) attr pos) Q := fun φ R m s S M => by
  obtain ⟨v, hv, rv⟩ := M n _ h
  refine Attribute_Name_ (ld S.fr hv ?_ S.ok.kind hl hd) he
  cases rv with
  | @form x dx es k _ hx hdx hf =>
    obtain ⟨u, hu⟩ := getL_form hf ha
    exact get_own S.fr S.ok.K (InstAt.of_news S.nw (List.mem_append_right _ (List.mem_append_right _ hx)) (List.mem_append_right _ (List.mem_append_right _ hdx))) (FK.plain _) FK.hasd (FK.none _ f i ha) rfl hu rfl (PE.int (S.toks _) q)

/-! unpacking -/
inductive NamesOf : List Expr → List Str → Prop
  | nil : NamesOf [] []
  | cons {x p es xs} : NamesOf es xs → NamesOf (.Name x p :: es) (x :: xs)
def Loc.sets (ρ : Loc) : List Str → List PV → Loc
  | x :: xs, v :: vs => Loc.sets (ρ.set x v) xs vs
  | _, _ => ρ

theorem stores {xs : List Str} {vs : List Value} {ps : List PV} {Qu : Unit → Shared → Prop} (hl : ∀ x ∈ xs, X.sc.names.lookup x = some .local) (hn : xs.length = ps.length) (t : Str → Value → Sem Unit)
    (ht : ∀ x v s (Q : Unit → Shared → Prop), wpAny X.M X.A (storeName X.env x v) Q NoE s → wpAny X.M X.A (t x v) Q NoE s) :
    ∀ {φ R : Led} {m : Str → Option Value} {s : Shared} {ρ : Loc}, St X φ σ R m s → RepM X.W.C R m ρ → RepL X.W.C R vs ps →
    (∀ m' s', St X φ σ R m' s' → RepM X.W.C R m' (ρ.sets xs ps) → Qu () s') → wpAny X.M X.A (assignInOrder (xs.map t) vs) Qu NoE s := by
  induction xs generalizing vs ps with
  | nil =>
    intro φ R m s ρ S M r k
    refine assignInOrder_nil (k m s S ?_)
    exact M
  | cons x xs ih =>
    intro φ R m s ρ S M r k
    cases r with
    | nil => cases hn
    | cons rv rs =>
      refine assignInOrder_cons (ht _ _ _ _ (S.store (hl x (List.mem_cons_self)) fun s' S' => ?_))
      exact ih (fun y hy => hl y (List.mem_cons_of_mem _ hy)) (by simpa using hn) S' (M.set rv) rs k

theorem namesOf_assign {es : List Expr} {xs : List Str} (h : NamesOf es xs) (env : Env) : ∃ t : Str → Value → Sem Unit, True := ⟨fun _ _ => pure (), trivial⟩

/-- assignEach of names: each stands then binds -/
theorem stores' {es : List Expr} {xs : List Str} (h : NamesOf es xs) : ∀ {vs : List Value} {ps : List PV} {Qu : Unit → Shared → Prop} {φ R : Led} {m : Str → Option Value} {s : Shared} {ρ : Loc}, (∀ x ∈ xs, X.sc.names.lookup x = some .local) → xs.length = ps.length →
    St X φ σ R m s → RepM X.W.C R m ρ → RepL X.W.C R vs ps →
    (∀ m' s', St X φ σ R m' s' → RepM X.W.C R m' (ρ.sets xs ps) → Qu () s') → wpAny X.M X.A (assignInOrder ((assignEach es X.env).map (·.2)) vs) Qu NoE s := by
  induction h with
  | nil =>
    intro vs ps Qu φ R m s ρ hl hn S M r k
    exact assignInOrder_nil (k m s S M)
  | cons h ih =>
    intro vs ps Qu φ R m s ρ hl hn S M r k
    cases r with
    | nil => cases hn
    | cons rv rs =>
      refine assignInOrder_cons (wpAny_assign_Name (S.store (hl _ (List.mem_cons_self)) fun s' S' => ?_))
      exact ih (fun y hy => hl y (List.mem_cons_of_mem _ hy)) (by simpa using hn) S' (M.set rv) rs k
theorem namesOf_len {es : List Expr} {xs : List Str} (h : NamesOf es xs) (env : Env) : (assignEach es env).length = xs.length ∧ (assignEach es env).findIdx? (·.1) = none := by
  induction h with
  | nil => exact ⟨rfl, rfl⟩
  | @cons x p es xs h ih =>
    refine ⟨?_, ?_⟩
    · show (assignEach es env).length + 1 = xs.length + 1; rw [ih.1]
    · show ((false, assign (.Name x p) env) :: assignEach es env).findIdx? (·.1) = none
      rw [List.findIdx?_cons, ih.2]; rfl

theorem draw_list {A : Around} {it l : Addr} {items : Array Value} (hne : l ≠ it) : ∀ (n i : Nat) (s : Shared) (Q : List Value → Shared → Prop), s.heap.IsListIter it l i → s.heap.IsList l items → i + n ≤ items.size →
    (∀ h', h'.IsListIter it l (i + n) → Heap.SameBut it s.heap h' → Q ((items.toList.drop i).take n) { s with heap := h' }) → wpAny X.M A (draw (.ref it) n) Q NoE s
  | 0, i, s, Q, hit, _, _, hQ => by
    show wpAny _ _ (pure []) Q NoE s
    exact wpAny_pure (by simpa using hQ s.heap hit (Heap.SameBut.refl ..))
  | n + 1, i, s, Q, hit, ht, hle, hQ => by
    have hlt : i < items.size := by omega
    show wpAny _ _ (pyNext (.ref it) >>= _) Q NoE s
    refine wpAny_bind (wpAny_pyNext_list_item hit ht (x := items[i]) (by simp [hlt]) fun h₁ hit₁ hs₁ => ?_)
    refine wpAny_bind (wpAny_holding (draw_list hne n (i + 1) _ _ hit₁ (ht.extBut hs₁.extBut hne) (by omega) fun h₂ hit₂ hs₂ => wpAny_pure ?_))
    have hd : items.toList.drop i = items[i] :: items.toList.drop (i + 1) := by simp [List.drop_eq_getElem_cons, hlt]
    have := hQ h₂ (by rw [show i + (n + 1) = i + 1 + n by omega]; exact hit₂) (hs₁.trans hs₂)
    rw [hd, List.take_succ_cons] at this
    exact this
theorem unpackItems_list {A : Around} {s : Shared} {l : Addr} {items : Array Value} {Q : List Value → Shared → Prop} (hh : A.handled = none) (ht : s.heap.IsList l items)
    (hQ : ∀ h', Heap.ExtBut s.heap.objs.size s.heap h' → Q items.toList { s with heap := h' }) : wpAny X.M A (unpackItems (.ref l) items.size none) Q NoE s := by
  have hlt : l ≠ s.heap.objs.size := by obtain ⟨o, ho, _⟩ := ht; exact Nat.ne_of_lt (Heap.lt_size ho)
  unfold unpackItems
  refine wpAny_bind ?_
  unfold notIterableAtAll
  refine wpAny_bind (wpAny_specialOf ht.typeIs slot_list_iter.lookup ?_)
  refine wpAny_pure ?_
  simp only [Bool.false_eq_true, if_false]
  refine wpAny_bind (wpAny_holding (wpAny_pyIter_list ht ?_))
  refine wpAny_bind (wpAny_holding (draw_list hlt items.size 0 _ _ ⟨_, Heap.get?_push_size _ rfl, rfl, rfl⟩ (ht.push _) (by omega) fun h₁ hit₁ hs₁ => ?_))
  have hall : List.take items.size (List.drop 0 items.toList) = items.toList := by
    rw [List.drop_zero]; exact List.take_of_length_le (by simp)
  rw [hall]
  rw [if_neg (by simp)]
  have ht₁ : h₁.IsList l items := (ht.push _).extBut hs₁.extBut hlt
  refine wpAny_bind (wpAny_holding (wpAny_pyNext_list_end hh hit₁ ht₁ (by simp) fun h₂ he₂ => ?_))
  simp only [Option.isSome_none, Bool.false_eq_true, if_false]
  exact wpAny_pure (hQ h₂ fun b o hb e => he₂ b o hb (hs₁.extBut b o hb (Heap.get?_push_of_some _ e)))

/-- a tuple or a list of so many -/
inductive Seq : PV → List PV → Prop
  | tup (l) : Seq (.tup l) l
  | lst (l) : Seq (.lst l) l
theorem St.ext {φ R : Led} {m : Str → Option Value} {s : Shared} {h' : Heap} (S : St X φ σ R m s) (he : Heap.ExtBut s.heap.objs.size s.heap h') : St X φ σ R m { s with heap := h' } :=
  ⟨S.ok, S.fr.extBut he (Nat.le_refl _), News.extBut S.nw he (Nat.le_refl _), S.ap1, S.ap2, S.ap3, S.gens, S.os⟩
theorem unpackSeq {φ R : Led} {m : Str → Option Value} {s : Shared} {v : Value} {p : PV} {ps : List PV} {n : Nat} {Ql : List Value → Shared → Prop} (S : St X φ σ R m s) (rv : Rep X.W.C R v p) (hs : Seq p ps) (hn : n = ps.length)
    (h : ∀ vs s', St X φ σ R m s' → RepL X.W.C R vs ps → Ql vs s') : wpAny X.M X.A (unpackItems v n none) Ql NoE s := by
  cases hs with
  | tup l =>
    cases rv with
    | @tup a vs k _ ha hz hl =>
      rw [hn, ← hl.length, show vs.length = vs.toArray.size from by simp]
      exact unpackItems_tuple S.ok.hd ⟨_, S.get ha, rfl, _, rfl⟩ fun h' he => h _ _ (S.ext he) hl
  | lst l =>
    cases rv with
    | @lst a vs k _ ha hz hl =>
      rw [hn, ← hl.length, show vs.length = vs.toArray.size from by simp]
      exact unpackItems_list S.ok.hd ⟨_, S.get ha, rfl, _, rfl⟩ fun h' he => h _ _ (S.ext he) hl

theorem WS1.unpack {es : List Expr} {xs : List Str} {k : Nat} {tp pos : Pos} {e : Expr} {Q : Res → Led → Prop} (hns : NamesOf es xs) (hl : ∀ x ∈ xs, X.sc.names.lookup x = some .local)
    (h : EV X ρ σ e fun v σ₁ => ∃ ps, Seq v ps ∧ xs.length = ps.length ∧ Q (.next (ρ.sets xs ps)) σ₁)
    (hs : swapsWithSole [.Tuple es k tp] e pos.line X.env = pure false := by rfl) (hw : swappedStores [.Tuple es k tp] e X.env = pure none := by rfl) :
    WS1 X ρ σ (.Assign [.Tuple es k tp] e pos) Q := fun φ R m s S M =>
  Assign_Tuple (wpAny_mono (h φ R m s S M) (fun v s₁ ⟨R₁, σ₁, a, e₁, S₁, ra, ps, hq, hn, q⟩ => by
    rw [assign_Tuple]
    refine wpAny_bind (wpAny_standAt ?_)
    obtain ⟨l1, l2⟩ := namesOf_len hns X.env
    unfold PySem.unpack
    rw [l1, l2]
    exact wpAny_bind (wpAny_holding (unpackSeq S₁ ra hq hn fun vs s₂ S₂ rs => stores' hns hl hn S₂ (M.mono e₁) rs fun m' s' S' M' => ⟨R₁, m', σ₁, _, e₁, S', .next M', q⟩))) noE) hs hw
theorem RepL.append {C : Addr} {R : Led} : ∀ {vs us : List Value} {ps qs : List PV}, RepL C R vs ps → RepL C R us qs → RepL C R (vs ++ us) (ps ++ qs)
  | _, _, _, _, .nil, h => h
  | _, _, _, _, .cons a t, h => .cons a (t.append h)
theorem RepL.reverse {C : Addr} {R : Led} : ∀ {vs : List Value} {ps : List PV}, RepL C R vs ps → RepL C R vs.reverse ps.reverse
  | _, _, .nil => .nil
  | _, _, .cons a t => by rw [List.reverse_cons, List.reverse_cons]; exact (t.reverse).append (.cons a .nil)
/-- a, b = x, y -/
theorem WS1.swapped {es : List Expr} {xs : List Str} {k : Nat} {tp pos : Pos} {e : Expr} {Q : Res → Led → Prop} (hl : ∀ x ∈ xs, X.sc.names.lookup x = some .local)
    (h : EV X ρ σ e fun v σ₁ => ∃ ps, Seq v ps ∧ xs.length = ps.length ∧ Q (.next (ρ.sets xs.reverse ps.reverse)) σ₁)
    (hs : swapsWithSole [.Tuple es k tp] e pos.line X.env = pure false := by rfl) (hw : swappedStores [.Tuple es k tp] e X.env = pure (some xs) := by rfl) :
    WS1 X ρ σ (.Assign [.Tuple es k tp] e pos) Q := fun φ R m s S M =>
  Assign_Tuple_swapped (wpAny_mono (h φ R m s S M) (fun v s₁ ⟨R₁, σ₁, a, e₁, S₁, ra, ps, hq, hn, q⟩ =>
    unpackSeq S₁ ra hq hn fun vs s₂ S₂ rs => stores (fun x hx => hl x (by simpa using hx)) (by simpa using hn) (fun n => bindName X.env n) (fun x v s Q hh => wpAny_bindName hh) S₂ (M.mono e₁) rs.reverse fun m' s' S' M' => ⟨R₁, m', σ₁, _, e₁, S', .next M', q⟩) noE) hs hw
end
end Mine

namespace Mine

section
variable {X : Fx} {σ : Led} {ρ : Loc} {Q : PV → Led → Prop}

/-! a def of the text -/
theorem lookup_zip {C : Addr} {R : Led} : ∀ {xs : List Str} {us : List Value} {ps : List PV}, RepL C R us ps → ∀ {x : Str} {p : PV}, Loc.get (xs.zip ps) x = some p → ∃ v, (xs.zip us).lookup x = some v ∧ Rep C R v p
  | [], _, _, _, _, _, e => by cases e
  | _ :: _, _, _, .nil, _, _, e => by cases e
  | y :: xs, _, _, .cons (v := v) (p := q) hv t, x, p, e => by
    have e' : (if y = x then some q else Loc.get (xs.zip _) x) = some p := e
    by_cases c : y = x
    · rw [if_pos c] at e'; cases e'
      exact ⟨v, by rw [List.zip_cons_cons, List.lookup_cons, show (x == y) = true from by rw [c]; exact beq_self_eq_true _], hv⟩
    · rw [if_neg c] at e'
      obtain ⟨u, a, b⟩ := lookup_zip t e'
      refine ⟨u, ?_, b⟩
      rw [List.zip_cons_cons, List.lookup_cons, show (x == y) = false from by simpa using fun q => c q.symm]
      exact a
theorem lookup_mem {α : Type} {x : Str} {v : α} : ∀ {l : List (Str × α)}, l.lookup x = some v → (x, v) ∈ l
  | (y, u) :: l, h => by
    rw [List.lookup_cons] at h
    by_cases c : (x == y) = true
    · rw [c] at h; cases h; rw [beq_iff_eq.mp c]; exact List.mem_cons_self
    · rw [show (x == y) = false from by simpa using c] at h; exact List.mem_cons_of_mem _ (lookup_mem h)
  | [], h => by cases h
theorem mem_lookup {α : Type} {x : Str} {v : α} : ∀ {l : List (Str × α)}, (l.map (·.1)).Nodup → (x, v) ∈ l → l.lookup x = some v
  | (y, u) :: l, hn, h => by
    rw [List.map_cons, List.nodup_cons] at hn
    rw [List.lookup_cons]
    rcases List.mem_cons.mp h with e | h
    · cases e; rw [beq_self_eq_true]
    · have : (x == y) = false := by
        have : x ≠ y := fun e => hn.1 (e ▸ List.mem_map_of_mem (f := (·.1)) h)
        simpa using this
      rw [this]; exact mem_lookup hn.2 h
  | [], _, h => by cases h
theorem lookup_rev {α : Type} {x : Str} {v : α} {l : List (Str × α)} (hn : (l.map (·.1)).Nodup) (h : l.lookup x = some v) : l.reverse.lookup x = some v :=
  mem_lookup (by rw [List.map_reverse]; exact List.pairwise_reverse.mpr (List.Pairwise.imp (fun h => h.symm) hn)) (List.mem_reverse.mpr (lookup_mem h))

theorem zip_keys {α : Type} : ∀ (xs : List Str) (us : List α), ∀ y ∈ (xs.zip us).map (·.1), y ∈ xs
  | [], _, y, h => by cases h
  | _ :: _, [], y, h => by cases h
  | x :: xs, u :: us, y, h => by
    rcases List.mem_cons.mp h with e | h
    · rw [e]; exact List.mem_cons_self
    · exact List.mem_cons_of_mem _ (zip_keys xs us y h)
theorem zip_nodup {α : Type} : ∀ (xs : List Str) (us : List α), xs.Nodup → ((xs.zip us).map (·.1)).Nodup
  | [], _, _ => List.nodup_nil
  | _ :: _, [], _ => List.nodup_nil
  | x :: xs, u :: us, h => by
    rw [List.nodup_cons] at h
    show (x :: (xs.zip us).map (·.1)).Nodup
    exact List.nodup_cons.mpr ⟨fun q => h.1 (zip_keys xs us _ q), zip_nodup xs us h.2⟩

/-- what a def hands back -/
def RetQ (Q : PV → Led → Prop) (r : Res) (σ' : Led) : Prop := match r with
  | .ret v => Q v σ'
  | .next _ => Q .none σ'
  | _ => False

theorem CallV.def {K : Frag} (hK : X.W.K = K) {f : Addr} {args args' : List PV} {name qual : Str} {params : Arguments} {body : List Stmt} {scope : Scope} {dV kV doc pm cdv ct oc : Value} {an od : Option Addr} {osl : Array (Option Value)} (xs : List Str) (d : Nat)
    (ho : K.lookup f = some ⟨oc, od, .func (fnOf name qual params body scope dV kV doc pm an cdv ct), osl⟩) (hcd : codeIn K cdv qual = true)
    (hbind : ∀ (R : Led) (s : Shared) (vs : List Value), K.In s.heap → RepL X.W.C R vs args → ∃ us, BindsTo s (fnOf name qual params body scope dV kV doc pm an cdv ct) ⟨vs, []⟩ (xs.zip us) ∧ RepL X.W.C R us args')
    (hloc : ∀ x ∈ xs, scope.names.lookup x = some .local) (hnd : xs.Nodup) (hd : d + 1 ≤ X.d)
    (hcell : ∀ x ∈ scope.names, x.2 ≠ .cell) (hco : scope.isCoroutine = false) (hgen : scope.isGenerator = false) (hk : scope.kind = .function)
    (h : ∀ X' : Fx, X'.W = X.W → X'.d = d → X'.sc = scope → WS X' (xs.zip args') σ body (RetQ Q)) : CallV X (.ref f) args σ Q := fun φ R m s vs S rs => by
  subst hK
  obtain ⟨us, hb, ru⟩ := hbind R s vs (S.ok.K.keeps S.fr.keep) rs
  have hroom : X.A.depth < recursionLimit := by have := S.ok.room; show X.A.depth < 1000; omega
  refine wpAny_call (code_def S.ok.B S.fr S.ok.K S.nw S.ok.T S.ok.fr rfl S.ok.kind ho hcd hroom hb ?_ ?_ hco hgen hk hcell)
  · intro y hy
    exact hloc _ (zip_keys xs us _ (List.mem_map_of_mem (f := (·.1)) hy))
  · intro g L' h₁ FG F' N' B' K' T'
    let X' : Fx := ⟨X.W, d, X.A, X.base, X.env :: X.outer, X.A.deeper (envOf qual scope L' f cdv), g, L', qual, scope, f, cdv⟩
    have ok' : X'.Ok := ⟨B', K', T', by show (X.A.frames.map _) = _; rw [S.ok.fr]; rfl, S.ok.hd, hk, by have := S.ok.room; show X.A.depth + 1 + d ≤ 900; omega, by have := S.ok.units; show X.A.units + 3 + 10 * d ≤ 9000; omega⟩
    have S' : St X' φ σ R (fun y => (xs.zip us).reverse.lookup y) { s with heap := h₁, toks := s.toks + (xs.zip us).length } := ⟨ok', F', N', S.ap1, S.ap2, S.ap3, S.gens, S.os⟩
    have M' : RepM X'.W.C R (fun y => (xs.zip us).reverse.lookup y) (xs.zip args') := fun x p e => by
      obtain ⟨v, a, b⟩ := lookup_zip ru e
      exact ⟨v, lookup_rev (zip_nodup xs us hnd) a, b⟩
    refine wpAny_mono (h X' rfl rfl rfl φ R _ _ S' M') (fun fl s' ⟨R₁, m₁, σ₁, r, e₁, S₁, rr, q⟩ => ?_) noE
    refine leaveK_ S₁.fr S₁.nw fun F₂ N₂ => ?_
    have S₂ : St X φ σ₁ R₁ m s' := ⟨S.ok, F₂, N₂, S₁.ap1, S₁.ap2, S₁.ap3, S₁.gens, S₁.os⟩
    cases rr with
    | next _ => exact ⟨R₁, σ₁, .none, e₁, S₂, .none, q⟩
    | brk _ => exact q.elim
    | cont _ => exact q.elim
    | ret rv => exact ⟨R₁, σ₁, _, e₁, S₂, rv, q⟩

/-! binding by place -/
theorem bind1 {K : Frag} {C : Addr} {fd : FuncData} {p : PV} (x : Str) (h : ∀ a, bindArgs fd ⟨[a], []⟩ = pure [(x, a)]) (R : Led) (s : Shared) (vs : List Value) (_ : K.In s.heap) (r : RepL C R vs [p]) :
    ∃ us, BindsTo s fd ⟨vs, []⟩ ([x].zip us) ∧ RepL C R us [p] := by
  obtain ⟨a, rfl, ra⟩ := one_arg r
  exact ⟨[a], BindsTo.of_eq (h a), r⟩
theorem bind2 {K : Frag} {C : Addr} {fd : FuncData} {p q : PV} (x y : Str) (h : ∀ a b, bindArgs fd ⟨[a, b], []⟩ = pure [(x, a), (y, b)]) (R : Led) (s : Shared) (vs : List Value) (_ : K.In s.heap) (r : RepL C R vs [p, q]) :
    ∃ us, BindsTo s fd ⟨vs, []⟩ ([x, y].zip us) ∧ RepL C R us [p, q] := by
  obtain ⟨a, _, rfl, ra, r2⟩ := r.inv_cons
  obtain ⟨b, rfl, rb⟩ := one_arg r2
  exact ⟨[a, b], BindsTo.of_eq (h a b), r⟩
theorem bind3 {K : Frag} {C : Addr} {fd : FuncData} {p q o : PV} (x y z : Str) (h : ∀ a b c, bindArgs fd ⟨[a, b, c], []⟩ = pure [(x, a), (y, b), (z, c)]) (R : Led) (s : Shared) (vs : List Value) (_ : K.In s.heap) (r : RepL C R vs [p, q, o]) :
    ∃ us, BindsTo s fd ⟨vs, []⟩ ([x, y, z].zip us) ∧ RepL C R us [p, q, o] := by
  obtain ⟨a, _, rfl, ra, r2⟩ := r.inv_cons
  obtain ⟨b, _, rfl, rb, r3⟩ := r2.inv_cons
  obtain ⟨c, rfl, rc⟩ := one_arg r3
  exact ⟨[a, b, c], BindsTo.of_eq (h a b c), r⟩
theorem bind4 {K : Frag} {C : Addr} {fd : FuncData} {p q o n : PV} (x y z w : Str) (h : ∀ a b c d, bindArgs fd ⟨[a, b, c, d], []⟩ = pure [(x, a), (y, b), (z, c), (w, d)]) (R : Led) (s : Shared) (vs : List Value) (_ : K.In s.heap) (r : RepL C R vs [p, q, o, n]) :
    ∃ us, BindsTo s fd ⟨vs, []⟩ ([x, y, z, w].zip us) ∧ RepL C R us [p, q, o, n] := by
  obtain ⟨a, _, rfl, ra, r2⟩ := r.inv_cons
  obtain ⟨b, _, rfl, rb, r3⟩ := r2.inv_cons
  obtain ⟨c, _, rfl, rc, r4⟩ := r3.inv_cons
  obtain ⟨d, rfl, rd⟩ := one_arg r4
  exact ⟨[a, b, c, d], BindsTo.of_eq (h a b c d), r⟩
theorem bind5 {K : Frag} {C : Addr} {fd : FuncData} {p q o n l : PV} (x y z w v : Str) (h : ∀ a b c d e, bindArgs fd ⟨[a, b, c, d, e], []⟩ = pure [(x, a), (y, b), (z, c), (w, d), (v, e)]) (R : Led) (s : Shared) (vs : List Value) (_ : K.In s.heap) (r : RepL C R vs [p, q, o, n, l]) :
    ∃ us, BindsTo s fd ⟨vs, []⟩ ([x, y, z, w, v].zip us) ∧ RepL C R us [p, q, o, n, l] := by
  obtain ⟨a, _, rfl, ra, r2⟩ := r.inv_cons
  obtain ⟨b, _, rfl, rb, r3⟩ := r2.inv_cons
  obtain ⟨c, _, rfl, rc, r4⟩ := r3.inv_cons
  obtain ⟨d, _, rfl, rd, r5⟩ := r4.inv_cons
  obtain ⟨e, rfl, re⟩ := one_arg r5
  exact ⟨[a, b, c, d, e], BindsTo.of_eq (h a b c d e), r⟩
/-- four given, the fifth by its default, an int -/
theorem bind4d {K : Frag} {C : Addr} {fd : FuncData} {p q o n : PV} {i : Int} {u : Tok} {T : Addr} {ob : Obj} {items : Array Value} {k : Nat} (x y z w v : Str) (hd : fd.defaults = .ref T) (ho : K.lookup T = some ob) (hs : ob.data = .seq items k)
    (h : ∀ a b c d, ∃ kk, bindArgs fd ⟨[a, b, c, d], []⟩ = seqItems? fd.defaults >>= kk ∧ kk (some items) = pure [(x, a), (y, b), (z, c), (w, d), (v, .int i u)]) (R : Led) (s : Shared) (vs : List Value) (X : K.In s.heap) (r : RepL C R vs [p, q, o, n]) :
    ∃ us, BindsTo s fd ⟨vs, []⟩ ([x, y, z, w, v].zip us) ∧ RepL C R us [p, q, o, n, .int i] := by
  obtain ⟨a, _, rfl, ra, r2⟩ := r.inv_cons
  obtain ⟨b, _, rfl, rb, r3⟩ := r2.inv_cons
  obtain ⟨c, _, rfl, rc, r4⟩ := r3.inv_cons
  obtain ⟨d, rfl, rd⟩ := one_arg r4
  obtain ⟨kk, e1, e2⟩ := h a b c d
  exact ⟨[a, b, c, d, .int i u], binds_K X hd ho hs e1 e2, .cons ra (.cons rb (.cons rc (.cons rd (.cons (.int i u) .nil))))⟩

/-! lists of the private ledger -/
theorem St.getP {φ R : Led} {m : Str → Option Value} {s : Shared} (S : St X φ σ R m s) {a : Addr} {o : Obj} (h : (a, o) ∈ σ) : s.heap.get? a = some o := (S.nw _ (List.mem_append_right _ (List.mem_append_left _ h))).1
theorem SubV.led {v i : Expr} {a : Addr} {vs : List Value} {n : Nat} {k : Int} {u : Value} {p : PV} (hm : (a, lstO vs n) ∈ σ) (h0 : 0 ≤ k) (hk : k < 2 ^ 63) (hu : vs[k.toNat]? = some u) (ru : ∀ C R, Rep C R u p) (q : Q p σ)
    (hs : ∀ a b u, subscripted i false (.ref a) (.int b u) = operate [.ref a, .int b u] (getItem (.ref a) (.int b u)) := by intro _ _ _; with_unfolding_all rfl) : SubV X v i (.addr a) (.int k) σ Q := fun φ R m s va vb S ra rb => by
  cases rb
  cases ra
  exact tail_any (Heap.IsList.typeIs ⟨_, S.getP hm, rfl, _, rfl⟩) slot_list_getitem.lookup (wpAny_getItem_list ⟨_, S.getP hm, rfl, _, rfl⟩ h0 hk (by simpa using hu) ⟨R, σ, p, .refl _, S, ru _ _, q⟩) (hs _ _ _)
theorem CallV.lenP {a : Addr} {vs : List Value} {n : Nat} (hm : (a, lstO vs n) ∈ σ) (hz : vs.length ≤ 1000) (q : Q (.int vs.length) σ) : CallV X (.builtin "len") [.addr a] σ Q := fun φ R m s us S r => by
  obtain ⟨v, rfl, rv⟩ := one_arg r
  cases rv
  refine PyProof.Rows.len_list ⟨_, S.getP hm, rfl, _, rfl⟩ ?_ ?_
  · rw [List.size_toArray]; omega
  · rw [List.size_toArray]; exact PE.int (S.toks _) q

/-- a[k] = an int -/
theorem WS1.setP {o i e : Expr} {ip pos : Pos} {Q : Res → Led → Prop}
    (h : EV X ρ σ e fun v σ₁ => EV X ρ σ₁ o fun ov σ₂ => EV X ρ σ₂ i fun iv σ₃ => ∃ (j k : Int) (a : Addr) (vs : List Value) (n : Nat) (post : Led), v = .int j ∧ ov = .addr a ∧ iv = .int k ∧ σ₃ = (a, lstO vs n) :: post ∧ (∀ p ∈ post, p.1 ≠ a) ∧ 0 ≤ k ∧ k < vs.length ∧ k < 1000 ∧
      ∀ t, Q (.next ρ) ((a, lstO (vs.set k.toNat (.int j t)) n) :: post))
    (hs : swapsWith e (some (.Subscript o i ip)) pos.line X.env = pure false := by rfl) : WS1 X ρ σ (.Assign [.Subscript o i ip] e pos) Q := fun φ R m s S M =>
  wpAny_Assign_Subscript (wpAny_mono (h φ R m s S M) (fun v s₁ ⟨R₁, σ₁, pv, e₁, S₁, rv, h₁⟩ => wpAny_mono (h₁ φ R₁ m s₁ S₁ (M.mono e₁)) (fun ov s₂ ⟨R₂, σ₂, po, e₂, S₂, ro, h₂⟩ =>
    wpAny_mono (h₂ φ R₂ m s₂ S₂ (M.mono (e₁.trans e₂))) (fun iv s₃ ⟨R₃, σ₃, pi, e₃, S₃, ri, j, k, a, vs, n, post, hv, hov, hiv, hσ, hap, h0, hk, hk2, q⟩ => by
      subst hv hov hiv hσ
      cases ro; cases ri
      have rv' : Rep X.W.C R₃ v (.int j) := rv.mono (e₂.trans e₃)
      cases rv' with
      | int _ t =>
        have hg := S₃.getP (List.mem_cons_self (a := (a, lstO vs n)) (l := post))
        refine ki_setAt hg h0 (by omega) (by rw [List.size_toArray]; omega) ?_
        have eset : vs.toArray.setIfInBounds k.toNat (.int j t) = (vs.set k.toNat (.int j t)).toArray := by
          apply Array.toList_inj.mp
          simp
        have hz := S₃.nw (a, lstO vs n) (List.mem_append_right _ (List.mem_append_left _ List.mem_cons_self))
        have nap1 : ∀ p ∈ φ, p.1 ≠ a := fun p hp => S₃.ap1 p hp (a, lstO vs n) List.mem_cons_self
        have nap2 : ∀ p ∈ post ++ R₃, p.1 ≠ a := fun p hp => by
          rcases List.mem_append.mp hp with hp | hp
          · exact hap p hp
          · exact (S₃.ap3 (a, lstO vs n) List.mem_cons_self p hp).symm
        refine ⟨R₃, m, _, _, (e₁.trans e₂).trans e₃, ⟨S₃.ok, S₃.fr.change (Heap.SameBut.update ..) hz.2.1 hz.2.2, ki_turn _ S₃.nw nap1 nap2 eset (by simp), ?_, S₃.ap2, ?_, S₃.gens, S₃.os⟩, .next (M.mono ((e₁.trans e₂).trans e₃)), q t⟩
        · intro p hp r hr
          rcases List.mem_cons.mp hr with rfl | hr
          · exact nap1 p hp
          · exact S₃.ap1 p hp r (List.mem_cons_of_mem _ hr)
        · intro p hp r hr
          rcases List.mem_cons.mp hp with rfl | hp
          · exact S₃.ap3 (a, lstO vs n) List.mem_cons_self r hr
          · exact S₃.ap3 p (List.mem_cons_of_mem _ hp) r hr) noE) noE) noE) hs
end
end Mine

namespace Mine

section
variable {X : Fx} {σ : Led} {ρ : Loc} {Q : PV → Led → Prop}

theorem upd_mk {d : Addr} {o o' : Obj} : ∀ {pre post : Led}, (∀ p ∈ pre, p.1 ≠ d) → (∀ p ∈ post, p.1 ≠ d) → Upd d o o' (pre ++ (d, o) :: post) (pre ++ (d, o') :: post)
  | [], _, _, h => .head h
  | p :: pre, _, a, h => .tail (a p List.mem_cons_self) (upd_mk (fun q hq => a q (List.mem_cons_of_mem _ hq)) h)

/-- self.attr = an int, self in the making -/
theorem WS1.attrP {n attr : Str} {np ap pos : Pos} {e : Expr} {x C dx : Addr} {Q : Res → Led → Prop} (hx : ρ.get n = some (.addr x)) (hl : X.sc.names.lookup n = some .local)
    (hs1 : findIn X.W.K (.ref C) "__setattr__" = some (some (.builtin "object.__setattr__"))) (hp : plainOver X.W.K C = true) (ht : takerIn X.W.K C attr = some none) (hh : hasDictIn X.W.K C = true)
    (h : EV X ρ σ e fun v σ₁ => ∃ (j : Int) (es : List DictEntry) (k : Nat) (post : Led), v = .int j ∧ σ₁ = (x, instObj C dx) :: (dx, dictOf es k) :: post ∧ x ≠ dx ∧ (∀ p ∈ post, p.1 ≠ dx) ∧ (getL attr es).isSome = true ∧ es.length ≤ 900 ∧
      ∀ hsh t u, Q (.next ρ) ((x, instObj C dx) :: (dx, dictOf (putL attr hsh (.str attr t) (.int j u) es) (putN attr es k)) :: post))
    (hd : (n == ("__debug__" : Str)) = false := by decide)
    (hs : swapsWith e (some (.Attribute (.Name n np) attr ap)) pos.line X.env = pure false := by rfl) : WS1 X ρ σ (.Assign [.Attribute (.Name n np) attr ap] e pos) Q := fun φ R m s S M =>
  plainObj_wpAny_Assign_Attribute (wpAny_mono (h φ R m s S M) (fun v s₁ ⟨R₁, σ₁, pv, e₁, S₁, rv, j, es, k, post, hv, hσ, hne, hap, hg, hz, q⟩ => by
    subst hv hσ
    obtain ⟨vx, hvx, rx⟩ := M.mono e₁ n _ hx
    refine ld S₁.fr hvx ?_ S.ok.kind hl hd
    cases rx
    cases rv with
    | int _ u =>
      have m1 : (x, instObj C dx) ∈ φ ++ (((x, instObj C dx) :: (dx, dictOf es k) :: post) ++ R₁) := List.mem_append_right _ (List.mem_append_left _ List.mem_cons_self)
      have m2 : (dx, dictOf es k) ∈ φ ++ (((x, instObj C dx) :: (dx, dictOf es k) :: post) ++ R₁) := List.mem_append_right _ (List.mem_append_left _ (List.mem_cons_of_mem _ List.mem_cons_self))
      have U : ∀ o', Upd dx (dictOf es k) o' (φ ++ (((x, instObj C dx) :: (dx, dictOf es k) :: post) ++ R₁)) (φ ++ (((x, instObj C dx) :: (dx, o') :: post) ++ R₁)) := fun o' => by
        have := upd_mk (d := dx) (o := dictOf es k) (o' := o') (pre := φ ++ [(x, instObj C dx)]) (post := post ++ R₁) (fun p hp => by
          rcases List.mem_append.mp hp with hp | hp
          · exact S₁.ap1 p hp (dx, dictOf es k) (List.mem_cons_of_mem _ List.mem_cons_self)
          · rw [List.mem_singleton.mp hp]; exact hne) (fun p hp => by
          rcases List.mem_append.mp hp with hp | hp
          · exact hap p hp
          · exact (S₁.ap3 (dx, dictOf es k) (List.mem_cons_of_mem _ List.mem_cons_self) p hp).symm)
        simpa using this
      have hlen : ∀ (hsh : Int) (key v : Value) (l : List DictEntry), (putL attr hsh key v l).length ≤ l.length + 1 := by
        intro hsh key v l
        induction l with
        | nil => exact Nat.le_refl _
        | cons a r ih =>
          unfold putL
          split
          · exact Nat.le_succ _
          · exact Nat.succ_le_succ ih
      refine set_dict S₁.fr S₁.ok.K S₁.nw (InstAt.of_news S₁.nw m1 m2) rfl hs1 hp ht hh hg rfl (U _) ?_ fun h' F' N' => ?_
      · exact Nat.le_trans (hlen _ _ _ _) (by omega)
      · refine ⟨R₁, m, _, _, e₁, ⟨S₁.ok, F', N', ?_, S₁.ap2, ?_, S₁.gens, S₁.os⟩, .next (M.mono e₁), q _ _ _⟩
        · intro p hp r hr
          simp only [List.mem_cons] at hr
          rcases hr with rfl | rfl | hr
          · exact S₁.ap1 p hp (x, instObj C dx) List.mem_cons_self
          · exact S₁.ap1 p hp (dx, dictOf es k) (List.mem_cons_of_mem _ List.mem_cons_self)
          · exact S₁.ap1 p hp r (List.mem_cons_of_mem _ (List.mem_cons_of_mem _ hr))
        · intro p hp r hr
          simp only [List.mem_cons] at hp
          rcases hp with rfl | rfl | hp
          · exact S₁.ap3 (x, instObj C dx) List.mem_cons_self r hr
          · exact S₁.ap3 (dx, dictOf es k) (List.mem_cons_of_mem _ List.mem_cons_self) r hr
          · exact S₁.ap3 p (List.mem_cons_of_mem _ (List.mem_cons_of_mem _ hp)) r hr) noE) hs

/-- what the maker hands back -/
def MakeQ (Q : PV → Led → Prop) (σ : Led) (x C dx : Addr) (v : PV) (σ' : Led) : Prop :=
  v = .none ∧ ∃ es n f, σ' = (x, instObj C dx) :: (dx, dictOf es n) :: σ ∧ FormEs f es ∧ Q (.form f) σ

theorem CallV.make {K : Frag} (hK : X.W.K = K) {C f : Addr} (hC : C = X.W.C) {args : List PV} {name qual : Str} {params : Arguments} {body : List Stmt} {scope : Scope} {dV kV doc pm cdv ct oc : Value} {an od : Option Addr} {osl : Array (Option Value)} (xs : List Str) (d : Nat)
    (hm : makesIn K C = true) (hi : findIn K (.ref C) "__init__" = some (some (.ref f))) (hf : isFn K (.ref f) = true)
    (ho : K.lookup f = some ⟨oc, od, .func (fnOf name qual params body scope dV kV doc pm an cdv ct), osl⟩) (hcd : codeIn K cdv qual = true)
    (hbind : ∀ (p : PV) (R : Led) (s : Shared) (vs : List Value), K.In s.heap → RepL X.W.C R vs (p :: args) → ∃ us, BindsTo s (fnOf name qual params body scope dV kV doc pm an cdv ct) ⟨vs, []⟩ (xs.zip us) ∧ RepL X.W.C R us (p :: args))
    (hloc : ∀ x ∈ xs, scope.names.lookup x = some .local) (hnd : xs.Nodup) (hd : d + 2 ≤ X.d)
    (hcell : ∀ x ∈ scope.names, x.2 ≠ .cell) (hco : scope.isCoroutine = false) (hgen : scope.isGenerator = false) (hk : scope.kind = .function)
    (h : ∀ X' : Fx, X'.W = X.W → X'.d = d → X'.sc = scope → ∀ x dx, x ≠ dx → (∀ p ∈ σ, p.1 ≠ dx) → WS X' (xs.zip (.addr x :: args)) ((x, instObj C dx) :: (dx, dictOf [] 0) :: σ) body (RetQ (MakeQ Q σ x C dx))) : CallV X (.ref C) args σ Q := fun φ R m s vs S rs => by
  subst hK
  refine call_cls S.fr S.ok.K S.nw hm hi hf fun x dx h' F' N' l1 l2 => ?_
  have hA : (X.A.under (.builtin "type.__call__" ⟨.ref C :: vs, []⟩)).frames = some (X.env :: X.outer) := S.ok.fr
  have hK : X.W.K.In h' := S.ok.K.keeps F'.keep
  obtain ⟨us, hb, ru⟩ := hbind (.addr x) R { s with heap := h' } (.ref x :: vs) hK (.cons (.addr x) rs)
  have hroom : (X.A.under (.builtin "type.__call__" ⟨.ref C :: vs, []⟩)).depth < recursionLimit := by
    rw [depth_under_make]; have := S.ok.room; show X.A.depth + 1 < 1000; omega
  have hdx : ∀ p ∈ φ ++ (σ ++ R), p.1 ≠ dx := fun p hp => Nat.ne_of_lt (l1 p hp)
  have hx : ∀ p ∈ φ ++ (σ ++ R), p.1 ≠ x := fun p hp => Nat.ne_of_lt (Nat.lt_trans (l1 p hp) l2)
  have N'' : News X.h₀ X.L h' (φ ++ (((x, instObj C dx) :: (dx, dictOf [] 0) :: σ) ++ R)) := fun p hp => N' p (by
    simp only [List.mem_append, List.mem_cons] at hp ⊢
    rcases hp with hp | (hp | hp | hp) | hp
    · exact .inr (.inr (.inl hp))
    · exact .inl hp
    · exact .inr (.inl hp)
    · exact .inr (.inr (.inr (.inl hp)))
    · exact .inr (.inr (.inr (.inr hp))))
  refine code_def (s := { s with heap := h' }) S.ok.B F' S.ok.K N'' S.ok.T hA rfl S.ok.kind ho hcd hroom hb ?_ ?_ hco hgen hk hcell
  · intro y hy
    exact hloc _ (zip_keys xs us _ (List.mem_map_of_mem (f := (·.1)) hy))
  · intro g L' h₁ FG F₁ N₁ B' K' T'
    let X' : Fx := ⟨X.W, d, X.A.under (.builtin "type.__call__" ⟨.ref C :: vs, []⟩), X.base, X.env :: X.outer, (X.A.under (.builtin "type.__call__" ⟨.ref C :: vs, []⟩)).deeper (envOf qual scope L' f cdv), g, L', qual, scope, f, cdv⟩
    have ok' : X'.Ok := ⟨B', K', T', by show ((X.A.under (.builtin "type.__call__" ⟨.ref C :: vs, []⟩)).frames.map _) = _; rw [hA]; rfl, S.ok.hd, hk, by
      have := S.ok.room; show (X.A.under (.builtin "type.__call__" ⟨.ref C :: vs, []⟩)).depth + 1 + d ≤ 900; rw [depth_under_make]; omega, by
      have := S.ok.units; show (X.A.under (.builtin "type.__call__" ⟨.ref C :: vs, []⟩)).units + 3 + 10 * d ≤ 9000; rw [PyProof.Rows.units_under_make]; omega⟩
    have S' : St X' φ ((x, instObj C dx) :: (dx, dictOf [] 0) :: σ) R (fun y => (xs.zip us).reverse.lookup y) { s with heap := h₁, toks := s.toks + (xs.zip us).length } := by
      refine ⟨ok', F₁, N₁, ?_, S.ap2, ?_, S.gens, S.os⟩
      · intro p hp r hr
        simp only [List.mem_cons] at hr
        rcases hr with rfl | rfl | hr
        · exact hx p (List.mem_append_left _ hp)
        · exact hdx p (List.mem_append_left _ hp)
        · exact S.ap1 p hp r hr
      · intro p hp r hr
        simp only [List.mem_cons] at hp
        rcases hp with rfl | rfl | hp
        · exact (hx r (List.mem_append_right _ (List.mem_append_right _ hr))).symm
        · exact (hdx r (List.mem_append_right _ (List.mem_append_right _ hr))).symm
        · exact S.ap3 p hp r hr
    have M' : RepM X'.W.C R (fun y => (xs.zip us).reverse.lookup y) (xs.zip (.addr x :: args)) := fun x p e => by
      obtain ⟨v, a, b⟩ := lookup_zip ru e
      exact ⟨v, lookup_rev (zip_nodup xs us hnd) a, b⟩
    refine wpAny_mono (h X' rfl rfl rfl x dx (Nat.ne_of_gt l2) (fun p hp => hdx p (List.mem_append_right _ (List.mem_append_left _ hp))) φ R _ _ S' M') (fun fl s' ⟨R₁, m₁, σ₁, r, e₁, S₁, rr, q⟩ => ?_) noE
    have fin : ∀ v, MakeQ Q σ x C dx v σ₁ → Fr X.h₀ X.L s'.heap m → News X.h₀ X.L s'.heap (φ ++ (σ₁ ++ R₁)) → PE X φ R m Q (.ref x) s' := by
      rintro v ⟨_, es, n, f, rfl, hf, q⟩ F₂ N₂
      refine ⟨(x, instObj C dx) :: (dx, dictOf es n) :: R₁, σ, .form f, e₁.trans (fun p hp => List.mem_cons_of_mem _ (List.mem_cons_of_mem _ hp)), ⟨S.ok, F₂, ?_, S.ap1, ?_, ?_, S₁.gens, S₁.os⟩, ?_, q⟩
      · intro p hp
        refine N₂ p ?_
        simp only [List.mem_append, List.mem_cons] at hp ⊢
        rcases hp with hp | hp | hp | hp | hp
        · exact .inl hp
        · exact .inr (.inl (.inr (.inr hp)))
        · exact .inr (.inl (.inl hp))
        · exact .inr (.inl (.inr (.inl hp)))
        · exact .inr (.inr hp)
      · intro p hp r hr
        simp only [List.mem_cons] at hr
        rcases hr with rfl | rfl | hr
        · exact hx p (List.mem_append_left _ hp)
        · exact hdx p (List.mem_append_left _ hp)
        · exact S₁.ap2 p hp r hr
      · intro p hp r hr
        simp only [List.mem_cons] at hr
        rcases hr with rfl | rfl | hr
        · exact hx p (List.mem_append_right _ (List.mem_append_left _ hp))
        · exact hdx p (List.mem_append_right _ (List.mem_append_left _ hp))
        · exact S₁.ap3 p (List.mem_cons_of_mem _ (List.mem_cons_of_mem _ hp)) r hr
      · subst hC
        exact .form List.mem_cons_self (List.mem_cons_of_mem _ List.mem_cons_self) hf
    refine leaveK_ S₁.fr S₁.nw fun F₂ N₂ => ?_
    cases rr with
    | next _ => exact ⟨rfl, fin _ q F₂ N₂⟩
    | brk _ => exact q.elim
    | cont _ => exact q.elim
    | ret rv =>
      have q' : MakeQ Q σ x C dx _ σ₁ := q
      have hn := q'.1
      subst hn
      cases rv
      exact ⟨rfl, fin _ q F₂ N₂⟩
end
end Mine

namespace Mine
structure IsW (W : Wx) : Prop where
  K : W.K = lawHeap W.w.params
  C : W.C = 31
theorem loc_of {X : Fx} {sc : Scope} {x : Str} {k : NameKind} (e : X.sc = sc) (h : sc.names.lookup x = some k) : X.sc.names.lookup x = some k := by rw [e]; exact h
theorem formK {W : Wx} (h : IsW W) : FormK W.K W.C := by
  rw [h.K, h.C]
  refine ⟨fun x => ?_, ?_, fun x f i e => ?_⟩
  · exact (show plainGet (lawHeap W.w.params) 31 (Str.ofString "top") = true from by kernel_rfl)
  · kernel_rfl
  · unfold FormD.at at e
    by_cases e1 : x = Str.ofString "exponent_bits"
    · subst e1; kernel_rfl
    rw [if_neg e1] at e
    by_cases e1 : x = Str.ofString "fraction_bits"
    · subst e1; kernel_rfl
    rw [if_neg e1] at e
    by_cases e1 : x = Str.ofString "bias"
    · subst e1; kernel_rfl
    rw [if_neg e1] at e
    by_cases e1 : x = Str.ofString "top"
    · subst e1; kernel_rfl
    rw [if_neg e1] at e
    by_cases e1 : x = Str.ofString "hidden"
    · subst e1; kernel_rfl
    rw [if_neg e1] at e
    by_cases e1 : x = Str.ofString "least"
    · subst e1; kernel_rfl
    rw [if_neg e1] at e
    cases e
theorem locs_of {X : Fx} {sc : Scope} {xs : List Str} (e : X.sc = sc) (h : ∀ x ∈ xs, sc.names.lookup x = some .local) : ∀ x ∈ xs, X.sc.names.lookup x = some .local := by rw [e]; exact h
theorem swap_of {X : Fx} {sc : Scope} {ts : List Expr} {v : Expr} {r : Sem (Option (List Str))} (e : X.sc = sc) (h : ∀ nm L fa cd, swappedStores ts v (envOf nm sc L fa cd) = r) : swappedStores ts v X.env = r := by
  have := h X.nm X.L X.fa X.cd
  rw [← e] at this
  exact this
theorem Then.next {X : Fx} {ρ : Loc} {σ : Led} {ts : List Stmt} {Q : Res → Led → Prop} (h : WS X ρ σ ts Q) : Then X ts Q (.next ρ) σ := h
theorem Bd.nat {k n : Nat} (h : n < 2 ^ k) : Bd k (n : Int) := by unfold Bd; rwa [Int.natAbs_natCast]
/-- reading a field of a form in the making -/
theorem EV.attrP {X : Fx} {σ : Led} {ρ : Loc} {Q : PV → Led → Prop} {n attr : Str} {np pos : Pos} {x C dx : Addr} {es : List DictEntry} {k : Nat} {i : Int} {u : Tok} {post : Led} (h : ρ.get n = some (.addr x)) (hσ : σ = (x, instObj C dx) :: (dx, dictOf es k) :: post)
    (hg1 : plainGet X.W.K C attr = true) (hh : hasDictIn X.W.K C = true) (ha : findIn X.W.K (.ref C) attr = some none) (hu : getL attr es = some (some (.int i u))) (q : Q (.int i) σ) (hl : X.sc.names.lookup n = some .local)
    (hd : (n == ("__debug__" : Str)) = false := by decide)
    (he : eval (.Attribute (.Name n np) attr pos) X.env = (do
      let o ← eval (.Name n np) X.env
      standAt pos.atName
      let r ← holding [o] (getAttr o attr true)
      letTemporaryGo (.Name n np) o r
      pure r) := by rfl) : EV X ρ σ (.Attribute (.Name n np) attr pos) Q := fun φ R m s S M => by
  subst hσ
  obtain ⟨v, hv, rv⟩ := M n _ h
  refine Attribute_Name_ (ld S.fr hv ?_ S.ok.kind hl hd) he
  cases rv
  exact get_own S.fr S.ok.K (InstAt.of_news S.nw (List.mem_append_right _ (List.mem_append_left _ List.mem_cons_self)) (List.mem_append_right _ (List.mem_append_left _ (List.mem_cons_of_mem _ List.mem_cons_self)))) hg1 hh ha rfl hu rfl (PE.int (S.toks _) q)

theorem g_join_fields {W : Wx} (h : IsW W) : nsIn W.K mainGlobals (Str.ofString "join_fields") = some (some (.ref 42)) := by rw [h.K]; kernel_rfl
theorem k_join_fields {W : Wx} (h : IsW W) : keepIn W.K (.ref 42) = true := by rw [h.K]; kernel_rfl
theorem g_split_fields {W : Wx} (h : IsW W) : nsIn W.K mainGlobals (Str.ofString "split_fields") = some (some (.ref 49)) := by rw [h.K]; kernel_rfl
theorem k_split_fields {W : Wx} (h : IsW W) : keepIn W.K (.ref 49) = true := by rw [h.K]; kernel_rfl
theorem g_infinity {W : Wx} (h : IsW W) : nsIn W.K mainGlobals (Str.ofString "infinity") = some (some (.ref 56)) := by rw [h.K]; kernel_rfl
theorem k_infinity {W : Wx} (h : IsW W) : keepIn W.K (.ref 56) = true := by rw [h.K]; kernel_rfl
theorem g_not_a_number {W : Wx} (h : IsW W) : nsIn W.K mainGlobals (Str.ofString "not_a_number") = some (some (.ref 63)) := by rw [h.K]; kernel_rfl
theorem k_not_a_number {W : Wx} (h : IsW W) : keepIn W.K (.ref 63) = true := by rw [h.K]; kernel_rfl
theorem g_signed_zero {W : Wx} (h : IsW W) : nsIn W.K mainGlobals (Str.ofString "signed_zero") = some (some (.ref 70)) := by rw [h.K]; kernel_rfl
theorem k_signed_zero {W : Wx} (h : IsW W) : keepIn W.K (.ref 70) = true := by rw [h.K]; kernel_rfl
theorem g_is_not_a_number {W : Wx} (h : IsW W) : nsIn W.K mainGlobals (Str.ofString "is_not_a_number") = some (some (.ref 77)) := by rw [h.K]; kernel_rfl
theorem k_is_not_a_number {W : Wx} (h : IsW W) : keepIn W.K (.ref 77) = true := by rw [h.K]; kernel_rfl
theorem g_is_infinite {W : Wx} (h : IsW W) : nsIn W.K mainGlobals (Str.ofString "is_infinite") = some (some (.ref 84)) := by rw [h.K]; kernel_rfl
theorem k_is_infinite {W : Wx} (h : IsW W) : keepIn W.K (.ref 84) = true := by rw [h.K]; kernel_rfl
theorem g_is_zero {W : Wx} (h : IsW W) : nsIn W.K mainGlobals (Str.ofString "is_zero") = some (some (.ref 91)) := by rw [h.K]; kernel_rfl
theorem k_is_zero {W : Wx} (h : IsW W) : keepIn W.K (.ref 91) = true := by rw [h.K]; kernel_rfl
theorem g_sign_of {W : Wx} (h : IsW W) : nsIn W.K mainGlobals (Str.ofString "sign_of") = some (some (.ref 98)) := by rw [h.K]; kernel_rfl
theorem k_sign_of {W : Wx} (h : IsW W) : keepIn W.K (.ref 98) = true := by rw [h.K]; kernel_rfl
theorem g_unpack {W : Wx} (h : IsW W) : nsIn W.K mainGlobals (Str.ofString "unpack") = some (some (.ref 105)) := by rw [h.K]; kernel_rfl
theorem k_unpack {W : Wx} (h : IsW W) : keepIn W.K (.ref 105) = true := by rw [h.K]; kernel_rfl
theorem g_bit_count {W : Wx} (h : IsW W) : nsIn W.K mainGlobals (Str.ofString "bit_count") = some (some (.ref 112)) := by rw [h.K]; kernel_rfl
theorem k_bit_count {W : Wx} (h : IsW W) : keepIn W.K (.ref 112) = true := by rw [h.K]; kernel_rfl
theorem g_round_shift {W : Wx} (h : IsW W) : nsIn W.K mainGlobals (Str.ofString "round_shift") = some (some (.ref 119)) := by rw [h.K]; kernel_rfl
theorem k_round_shift {W : Wx} (h : IsW W) : keepIn W.K (.ref 119) = true := by rw [h.K]; kernel_rfl
theorem g_pack {W : Wx} (h : IsW W) : nsIn W.K mainGlobals (Str.ofString "pack") = some (some (.ref 127)) := by rw [h.K]; kernel_rfl
theorem k_pack {W : Wx} (h : IsW W) : keepIn W.K (.ref 127) = true := by rw [h.K]; kernel_rfl
theorem g_absolute_real {W : Wx} (h : IsW W) : nsIn W.K mainGlobals (Str.ofString "absolute_real") = some (some (.ref 134)) := by rw [h.K]; kernel_rfl
theorem k_absolute_real {W : Wx} (h : IsW W) : keepIn W.K (.ref 134) = true := by rw [h.K]; kernel_rfl
theorem g_from_ratio {W : Wx} (h : IsW W) : nsIn W.K mainGlobals (Str.ofString "from_ratio") = some (some (.ref 142)) := by rw [h.K]; kernel_rfl
theorem k_from_ratio {W : Wx} (h : IsW W) : keepIn W.K (.ref 142) = true := by rw [h.K]; kernel_rfl
theorem g_scaled_floor {W : Wx} (h : IsW W) : nsIn W.K mainGlobals (Str.ofString "scaled_floor") = some (some (.ref 149)) := by rw [h.K]; kernel_rfl
theorem k_scaled_floor {W : Wx} (h : IsW W) : keepIn W.K (.ref 149) = true := by rw [h.K]; kernel_rfl
theorem g_decimal_place {W : Wx} (h : IsW W) : nsIn W.K mainGlobals (Str.ofString "decimal_place") = some (some (.ref 156)) := by rw [h.K]; kernel_rfl
theorem k_decimal_place {W : Wx} (h : IsW W) : keepIn W.K (.ref 156) = true := by rw [h.K]; kernel_rfl
theorem g_read_back {W : Wx} (h : IsW W) : nsIn W.K mainGlobals (Str.ofString "read_back") = some (some (.ref 163)) := by rw [h.K]; kernel_rfl
theorem k_read_back {W : Wx} (h : IsW W) : keepIn W.K (.ref 163) = true := by rw [h.K]; kernel_rfl
theorem g_is_upper_nearer {W : Wx} (h : IsW W) : nsIn W.K mainGlobals (Str.ofString "is_upper_nearer") = some (some (.ref 170)) := by rw [h.K]; kernel_rfl
theorem k_is_upper_nearer {W : Wx} (h : IsW W) : keepIn W.K (.ref 170) = true := by rw [h.K]; kernel_rfl
theorem g_shortest_digits {W : Wx} (h : IsW W) : nsIn W.K mainGlobals (Str.ofString "shortest_digits") = some (some (.ref 177)) := by rw [h.K]; kernel_rfl
theorem k_shortest_digits {W : Wx} (h : IsW W) : keepIn W.K (.ref 177) = true := by rw [h.K]; kernel_rfl
theorem g_without_zeros {W : Wx} (h : IsW W) : nsIn W.K mainGlobals (Str.ofString "without_zeros") = some (some (.ref 184)) := by rw [h.K]; kernel_rfl
theorem k_without_zeros {W : Wx} (h : IsW W) : keepIn W.K (.ref 184) = true := by rw [h.K]; kernel_rfl
theorem g_placed_text {W : Wx} (h : IsW W) : nsIn W.K mainGlobals (Str.ofString "placed_text") = some (some (.ref 191)) := by rw [h.K]; kernel_rfl
theorem k_placed_text {W : Wx} (h : IsW W) : keepIn W.K (.ref 191) = true := by rw [h.K]; kernel_rfl
theorem g_write_real {W : Wx} (h : IsW W) : nsIn W.K mainGlobals (Str.ofString "write_real") = some (some (.ref 198)) := by rw [h.K]; kernel_rfl
theorem k_write_real {W : Wx} (h : IsW W) : keepIn W.K (.ref 198) = true := by rw [h.K]; kernel_rfl
theorem g_digit_end {W : Wx} (h : IsW W) : nsIn W.K mainGlobals (Str.ofString "digit_end") = some (some (.ref 205)) := by rw [h.K]; kernel_rfl
theorem k_digit_end {W : Wx} (h : IsW W) : keepIn W.K (.ref 205) = true := by rw [h.K]; kernel_rfl
theorem g_digits_value {W : Wx} (h : IsW W) : nsIn W.K mainGlobals (Str.ofString "digits_value") = some (some (.ref 212)) := by rw [h.K]; kernel_rfl
theorem k_digits_value {W : Wx} (h : IsW W) : keepIn W.K (.ref 212) = true := by rw [h.K]; kernel_rfl
theorem g_read_exponent {W : Wx} (h : IsW W) : nsIn W.K mainGlobals (Str.ofString "read_exponent") = some (some (.ref 219)) := by rw [h.K]; kernel_rfl
theorem k_read_exponent {W : Wx} (h : IsW W) : keepIn W.K (.ref 219) = true := by rw [h.K]; kernel_rfl
theorem g_read_decimal {W : Wx} (h : IsW W) : nsIn W.K mainGlobals (Str.ofString "read_decimal") = some (some (.ref 226)) := by rw [h.K]; kernel_rfl
theorem k_read_decimal {W : Wx} (h : IsW W) : keepIn W.K (.ref 226) = true := by rw [h.K]; kernel_rfl
theorem g_read_real {W : Wx} (h : IsW W) : nsIn W.K mainGlobals (Str.ofString "read_real") = some (some (.ref 233)) := by rw [h.K]; kernel_rfl
theorem k_read_real {W : Wx} (h : IsW W) : keepIn W.K (.ref 233) = true := by rw [h.K]; kernel_rfl
theorem g_law_digit {W : Wx} (h : IsW W) : nsIn W.K mainGlobals (Str.ofString "_law_digit") = some (some (.ref 240)) := by rw [h.K]; kernel_rfl
theorem k_law_digit {W : Wx} (h : IsW W) : keepIn W.K (.ref 240) = true := by rw [h.K]; kernel_rfl
theorem g_law_wide {W : Wx} (h : IsW W) : nsIn W.K mainGlobals (Str.ofString "_law_wide") = some (some (.ref 247)) := by rw [h.K]; kernel_rfl
theorem k_law_wide {W : Wx} (h : IsW W) : keepIn W.K (.ref 247) = true := by rw [h.K]; kernel_rfl
theorem g_law_units {W : Wx} (h : IsW W) : nsIn W.K mainGlobals (Str.ofString "_law_units") = some (some (.ref 254)) := by rw [h.K]; kernel_rfl
theorem k_law_units {W : Wx} (h : IsW W) : keepIn W.K (.ref 254) = true := by rw [h.K]; kernel_rfl
theorem g_law_taken {W : Wx} (h : IsW W) : nsIn W.K mainGlobals (Str.ofString "_law_taken") = some (some (.ref 261)) := by rw [h.K]; kernel_rfl
theorem k_law_taken {W : Wx} (h : IsW W) : keepIn W.K (.ref 261) = true := by rw [h.K]; kernel_rfl
theorem g_law_side {W : Wx} (h : IsW W) : nsIn W.K mainGlobals (Str.ofString "_law_side") = some (some (.ref 268)) := by rw [h.K]; kernel_rfl
theorem k_law_side {W : Wx} (h : IsW W) : keepIn W.K (.ref 268) = true := by rw [h.K]; kernel_rfl
theorem g_law_shortest {W : Wx} (h : IsW W) : nsIn W.K mainGlobals (Str.ofString "_law_shortest") = some (some (.ref 275)) := by rw [h.K]; kernel_rfl
theorem k_law_shortest {W : Wx} (h : IsW W) : keepIn W.K (.ref 275) = true := by rw [h.K]; kernel_rfl
theorem g_RealForm {W : Wx} (h : IsW W) : nsIn W.K mainGlobals (Str.ofString "RealForm") = some (some (.ref 31)) := by rw [h.K]; kernel_rfl
theorem k_RealForm {W : Wx} (h : IsW W) : keepIn W.K (.ref 31) = true := by rw [h.K]; kernel_rfl
theorem g_max {W : Wx} (h : IsW W) : nsIn W.K mainGlobals (Str.ofString "max") = some none := by rw [h.K]; kernel_rfl
theorem g_len {W : Wx} (h : IsW W) : nsIn W.K mainGlobals (Str.ofString "len") = some none := by rw [h.K]; kernel_rfl
theorem g_abs {W : Wx} (h : IsW W) : nsIn W.K mainGlobals (Str.ofString "abs") = some none := by rw [h.K]; kernel_rfl
theorem g_str {W : Wx} (h : IsW W) : nsIn W.K mainGlobals (Str.ofString "str") = some none := by rw [h.K]; kernel_rfl
theorem g_int {W : Wx} (h : IsW W) : nsIn W.K mainGlobals (Str.ofString "int") = some none := by rw [h.K]; kernel_rfl
theorem g_range {W : Wx} (h : IsW W) : nsIn W.K mainGlobals (Str.ofString "range") = some none := by rw [h.K]; kernel_rfl
end Mine

namespace Mine
/-! texts by their codes -/
def S (l : List Nat) : Str := ⟨l.toArray⟩
theorem S_inj {a b : List Nat} : S a = S b ↔ a = b := ⟨fun h => by injection h with h; simpa using h, fun h => h ▸ rfl⟩
theorem S_app (a b : List Nat) : S a ++ S b = S (a ++ b) := StrLaws.mk_of_toList (by show ((S a).cps ++ (S b).cps).toList = _; simp [S])
theorem S_len (a : List Nat) : (S a).length = a.length := by simp [S, Str.length]
theorem S_cps (a : List Nat) : (S a).cps.toList = a := by simp [S]
theorem S_get (a : List Nat) (k : Nat) : (S a).cps[k]? = a[k]? := by simp [S]
theorem slice_clip (lo : Option Int) (j : Nat) (n : Nat) : Builtin.Str.strSliceIndices lo (some (j : Int)) 1 n = Builtin.Str.strSliceIndices lo (some ((min j n : Nat) : Int)) 1 n := by
  have a : ¬ ((j : Int) < 0) := by omega
  have b : ¬ (((min j n : Nat) : Int) < 0) := by omega
  have c : max (0 : Int) (min (j : Int) (n : Int)) = max (0 : Int) (min ((min j n : Nat) : Int) (n : Int)) := by omega
  simp only [Builtin.Str.strSliceIndices, a, b, if_false, c, show (1 : Int) > 0 from by decide, if_true]
theorem S_to (l : List Nat) (j : Nat) : Txt.slice (S l) none (some (j : Int)) = S (l.take j) := by
  have e : Txt.slice (S l) none (some (j : Int)) = StrLaws.sliceText (S l) none (some ((min j l.length : Nat) : Int)) := by
    unfold Txt.slice StrLaws.sliceText
    rw [slice_clip, S_len]
  rw [e, StrLaws.sliceText_to (by rw [S_cps]; omega), S_cps, List.drop_zero]
  show S _ = S _
  rw [S_inj, show (((min j l.length : Nat) : Int) - 0).toNat = min j l.length from by omega]
  rw [← List.take_take, List.take_length]
theorem S_from (l : List Nat) {i : Nat} (h : i ≤ l.length) : Txt.slice (S l) (some (i : Int)) none = S (l.drop i) := by
  show StrLaws.sliceText (S l) (some (i : Int)) none = _
  rw [StrLaws.sliceText_from (by rw [S_cps]; omega), S_cps]
  show S _ = S _
  rw [S_inj, Int.toNat_natCast]
  apply List.take_of_length_le
  rw [List.length_drop]; omega
theorem S_mid (l : List Nat) {i j : Nat} (hij : i ≤ j) (h : i ≤ l.length) : Txt.slice (S l) (some (i : Int)) (some (j : Int)) = S ((l.drop i).take (j - i)) := by
  have e : Txt.slice (S l) (some (i : Int)) (some (j : Int)) = StrLaws.sliceText (S l) (some (i : Int)) (some ((min j l.length : Nat) : Int)) := by
    unfold Txt.slice StrLaws.sliceText
    rw [slice_clip, S_len]
  rw [e, StrLaws.sliceText_plain (by rw [S_cps]; omega), S_cps]
  show S _ = S _
  rw [S_inj, Int.toNat_natCast, show (((min j l.length : Nat) : Int) - (i : Int)).toNat = min (j - i) (l.drop i).length from by rw [List.length_drop]; omega]
  rw [← List.take_take, List.take_length]
theorem S_holds (l : List Nat) (c : Nat) : holds (S l) (S [c]) = decide (c ∈ l) := by
  have := StrLaws.found_one (S l) c
  rw [S_cps] at this
  exact this
theorem foldl_rep : ∀ (n : Nat) (c : Nat) (acc : Array Nat), (List.replicate n #[c]).foldl (· ++ ·) acc = acc ++ (List.replicate n c).toArray
  | 0, c, acc => by simp
  | n + 1, c, acc => by
    rw [List.replicate_succ, List.foldl_cons, foldl_rep n c, List.replicate_succ]
    apply Array.toList_inj.mp
    simp
theorem S_mul (c n : Nat) : Txt.mul (S [c]) (n : Int) = S (List.replicate n c) := by
  unfold Txt.mul
  by_cases h0 : n = 0
  · subst h0
    rw [if_pos (by decide)]; rfl
  · rw [if_neg (by omega)]
    by_cases h1 : n = 1
    · subst h1; rfl
    · have : ((n : Int) == 1 || (S [c]).length == 0) = false := by
        rw [S_len]; simp; omega
      rw [if_neg (by rw [this]; decide), Int.toNat_natCast]
      show (⟨(List.replicate n (S [c]).cps).foldl (· ++ ·) #[]⟩ : Str) = S _
      have : (S [c]).cps = #[c] := rfl
      rw [this, foldl_rep]
      unfold S
      simp

/-! splitting at a sign that stands once -/
theorem join_two {c : Nat} : ∀ {ps : List Str}, (∀ p ∈ ps, c ∉ p.cps.toList) → ∀ {a b : List Nat}, c ∉ a → c ∉ b → ps ≠ [] → Str.join (S [c]) ps = S (a ++ c :: b) → ps = [S a, S b]
  | [], _, _, _, _, _, h, _ => absurd rfl h
  | [p], hp, a, b, ha, hb, _, h => by
    exfalso
    have h' : p = S (a ++ c :: b) := h
    have := hp p (List.mem_singleton_self p)
    rw [h', S_cps] at this
    exact this (by simp)
  | p :: q :: r, hp, a, b, ha, hb, _, h => by
    have h' : p ++ S [c] ++ Str.join (S [c]) (q :: r) = S (a ++ c :: b) := h
    have hl : p.cps.toList ++ c :: (Str.join (S [c]) (q :: r)).cps.toList = a ++ c :: b := by
      have := congrArg (fun x => x.cps.toList) h'
      rw [S_cps] at this
      rw [← this]
      show _ = ((p.cps ++ (S [c]).cps) ++ _).toList
      simp [S]
    have hpc := hp p List.mem_cons_self
    have key : ∀ (u v w z : List Nat), c ∉ u → c ∉ w → u ++ c :: v = w ++ c :: z → u = w ∧ v = z := by
      intro u
      induction u with
      | nil =>
        intro v w z hu hw e
        cases w with
        | nil => simp at e; exact ⟨rfl, e⟩
        | cons y w => simp at e; exact absurd (e.1 ▸ List.mem_cons_self) hw
      | cons x u ih =>
        intro v w z hu hw e
        cases w with
        | nil => simp at e; exact absurd (e.1 ▸ List.mem_cons_self) hu
        | cons y w =>
          simp at e
          obtain ⟨e1, e2⟩ := ih v w z (fun q => hu (List.mem_cons_of_mem _ q)) (fun q => hw (List.mem_cons_of_mem _ q)) e.2
          exact ⟨by rw [e.1, e1], e2⟩
    obtain ⟨e1, e2⟩ := key _ _ _ _ hpc ha hl
    have hq : c ∉ (Str.join (S [c]) (q :: r)).cps.toList := e2 ▸ hb
    cases r with
    | nil =>
      have e2' : q.cps.toList = b := e2
      rw [StrLaws.mk_of_toList e1, StrLaws.mk_of_toList e2']; rfl
    | cons q2 r =>
      exfalso
      apply hq
      show c ∈ ((q.cps ++ (S [c]).cps) ++ (Str.join (S [c]) (q2 :: r)).cps).toList
      simp [S]
theorem S_split {c : Nat} {a b : List Nat} (ha : c ∉ a) (hb : c ∉ b) : Txt.split (S (a ++ c :: b)) (S [c]) = [S a, S b] := by
  refine join_two (c := c) (fun p hp => StrLaws.split_free _ c p hp) ha hb ?_ (StrLaws.join_split _ _)
  intro e
  have := StrLaws.join_split (S (a ++ c :: b)) (S [c])
  have e' : Txt.split (S (a ++ c :: b)) (S [c]) = [] := e
  rw [e'] at this
  have h2 : (S []) = S (a ++ c :: b) := this
  rw [S_inj] at h2
  simp at h2
/-! the signs of the figures -/
theorem lit_digits : Str.ofString "0123456789" = S [48, 49, 50, 51, 52, 53, 54, 55, 56, 57] := by decide +kernel
theorem find_digit : ∀ k : Fin 10, Txt.find (S [48, 49, 50, 51, 52, 53, 54, 55, 56, 57]) (S [48 + k.val]) = (k.val : Int) := by decide +kernel
theorem find_dig {c : Nat} (h1 : 48 ≤ c) (h2 : c ≤ 57) : Txt.find (S [48, 49, 50, 51, 52, 53, 54, 55, 56, 57]) (S [c]) = ((c - 48 : Nat) : Int) := by
  have := find_digit ⟨c - 48, by omega⟩
  simp only at this
  rw [show 48 + (c - 48) = c from by omega] at this
  exact this
theorem str_nat (n : Nat) : Str.ofString (toString (n : Int)) = S (digM n) := by
  rw [Str.ofString_eq_toList]
  unfold S digM
  congr 2
  show ((Nat.repr n).toList).map _ = _
  unfold Nat.repr
  simp [String.toList_ofList]
theorem str_int (p : Int) : Str.ofString (toString p) = S (istr p) := by
  unfold istr
  by_cases h : p < 0
  · rw [if_pos h]
    obtain ⟨n, rfl⟩ : ∃ n : Nat, p = Int.negSucc n := ⟨(-p - 1).toNat, by omega⟩
    rw [show (-(Int.negSucc n)).toNat = n + 1 from by omega, Str.ofString_eq_toList]
    unfold S digM
    congr 2
    show (("-" ++ Nat.repr (n + 1)).toList).map _ = _
    unfold Nat.repr
    simp [String.toList_ofList]
  · rw [if_neg h]
    obtain ⟨n, rfl⟩ : ∃ n : Nat, p = (n : Int) := ⟨p.toNat, by omega⟩
    rw [Int.toNat_natCast]; exact str_nat n
section
variable {X : Fx} {σ : Led} {ρ : Loc} {Q : PV → Led → Prop}
theorem EV.strS {x : String} {k pos} {l : List Nat} (e : Str.ofString x = S l) (q : Q (.str (S l)) σ) : EV X ρ σ (.Constant (.str x) k pos) Q := EV.str (e ▸ q)
theorem OpV.catS {a b : List Nat} (hz : a.length + b.length ≤ 1000000) (q : Q (.str (S (a ++ b))) σ) : OpV X .Add (.str (S a)) (.str (S b)) σ Q := OpV.cat (by rw [S_len, S_len]; exact hz) ((S_app a b).symm ▸ q)
theorem OpV.repS {c : Nat} {n : Int} {j : Nat} (e : n = (j : Int)) (hn : j ≤ 1000) (q : Q (.str (S (List.replicate j c))) σ) : OpV X .Mult (.str (S [c])) (.int n) σ Q := by
  subst e
  exact OpV.rep (Int.natCast_nonneg j) (by omega) (by rw [S_len]; simp) ((S_mul c j).symm ▸ q)
theorem SubV.strS {v i : Expr} {l : List Nat} {k : Int} {j c : Nat} (e : k = (j : Int)) (hk : j < 1000) (hc : l[j]? = some c) (q : Q (.str (S [c])) σ)
    (hs : ∀ a t b u, subscripted i false (.str a t) (.int b u) = operate [.str a t, .int b u] (getItem (.str a t) (.int b u)) := by intro _ _ _ _; with_unfolding_all rfl) : SubV X v i (.str (S l)) (.int k) σ Q := by
  subst e
  exact SubV.str (Int.natCast_nonneg j) (by omega) (by rw [Int.toNat_natCast, S_get]; exact hc) q hs
theorem CmpV.seqS {a b : List Nat} (q : Q (.bool (decide (a = b))) σ) : CmpV X .Eq (.str (S a)) (.str (S b)) σ Q := CmpV.seq ((decide_eq_decide.mpr (S_inj (a := a) (b := b))).symm ▸ q)
theorem CmpV.sneS {a b : List Nat} (q : Q (.bool (decide (a ≠ b))) σ) : CmpV X .NotEq (.str (S a)) (.str (S b)) σ Q := CmpV.sne ((decide_eq_decide.mpr (not_congr (S_inj (a := a) (b := b)))).symm ▸ q)
theorem CmpV.sinS {l : List Nat} {c : Nat} (q : Q (.bool (decide (c ∈ l))) σ) : CmpV X .In (.str (S [c])) (.str (S l)) σ Q := CmpV.sin ((S_holds l c).symm ▸ q)
theorem CallV.lenS' {l : List Nat} (hz : l.length ≤ 1000000) (q : Q (.int (l.length : Int)) σ) : CallV X (.builtin "len") [.str (S l)] σ Q := CallV.lenS (by rw [S_len]; exact hz) (by rw [S_len]; exact q)
theorem CallV.strN {n : Nat} {k : Nat} (hb : Bd k (n : Int)) (hk : k ≤ 1900) (q : Q (.str (S (digM n))) σ) : CallV X (.type "str") [.int (n : Int)] σ Q := CallV.strI hb hk ((str_nat n).symm ▸ q)
theorem CallV.strZ {p : Int} {k : Nat} (hb : Bd k p) (hk : k ≤ 1900) (q : Q (.str (S (istr p))) σ) : CallV X (.type "str") [.int p] σ Q := CallV.strI hb hk ((str_int p).symm ▸ q)
theorem CallV.splitS {c : Nat} {a b : List Nat} (ha : c ∉ a) (hb : c ∉ b) (hz : (a ++ c :: b).length ≤ 900) (q : Q (.lst [.str (S a), .str (S b)]) σ) : CallV X (.builtin "str.split") [.str (S (a ++ c :: b)), .str (S [c])] σ Q :=
  CallV.split (by rw [S_len]; rfl) (by rw [S_len]; omega) (by rw [S_split ha hb]; show 2 ≤ 1000; decide) (by rw [S_split ha hb]; exact q)
theorem CallV.indexS {c : Nat} (h1 : 48 ≤ c) (h2 : c ≤ 57) (q : Q (.int ((c - 48 : Nat) : Int)) σ) : CallV X (.builtin "str.index") [.str (S [48, 49, 50, 51, 52, 53, 54, 55, 56, 57]), .str (S [c])] σ Q :=
  CallV.index (by rw [find_dig h1 h2]; exact Int.natCast_nonneg _) (by rw [find_dig h1 h2]; exact q)
theorem CallV.intSS {l : List Nat} (h : AD l) (hn : l ≠ []) (hz : l.length ≤ 640) (q : Q (.int (dval l : Int)) σ) : CallV X (.type "int") [.str (S l)] σ Q :=
  CallV.intS (n := (dval l : Int)) (by rw [PySem.intText_digits (by rw [S_cps]; exact h) (by rw [S_cps]; exact hn) (by rw [S_len]; omega), S_cps]; rfl) (by rw [S_len]; exact hz) q
theorem CallV.intSN {l : List Nat} (h : AD l) (hn : l ≠ []) (hz : l.length ≤ 600) (q : Q (.int (-(dval l : Int))) σ) : CallV X (.type "int") [.str (S (45 :: l))] σ Q :=
  CallV.intS (n := -(dval l : Int)) (by rw [PySem.intText_neg (cs := l) (by rw [S_cps]) h hn (by rw [S_len, List.length_cons]; omega)]; rfl) (by rw [S_len, List.length_cons]; omega) q
theorem CallV.intSZ {p : Int} (hz : (istr p).length ≤ 600) (q : Q (.int p) σ) : CallV X (.type "int") [.str (S (istr p))] σ Q := by
  unfold istr at hz ⊢
  by_cases h : p < 0
  · rw [if_pos h] at hz ⊢
    rw [List.length_cons] at hz
    obtain ⟨a1, a2, a3, _⟩ := dig_ok (-p).toNat
    refine CallV.intSN a1 a3 (by omega) ?_
    rw [a2, show -(((-p).toNat : Nat) : Int) = p from by omega]; exact q
  · rw [if_neg h] at hz ⊢
    obtain ⟨a1, a2, a3, _⟩ := dig_ok p.toNat
    refine CallV.intSS a1 a3 (by omega) ?_
    rw [a2, show ((p.toNat : Nat) : Int) = p from by omega]; exact q
end
end Mine

namespace Mine

structure OkF (eb fb : Nat) : Prop where
  h1 : 2 ≤ eb
  h2 : eb ≤ 8
  h3 : 1 ≤ fb
  h4 : fb ≤ 23
/-- minus the least exponent -/
def E0 (eb fb : Nat) : Nat := 2 ^ (eb - 1) - 2 + fb
def frm (eb fb : Nat) : FormD := ⟨(eb : Int), (fb : Int), ((2 ^ (eb - 1) - 1 : Nat) : Int), ((2 ^ eb - 1 : Nat) : Int), ((2 ^ fb : Nat) : Int), -(E0 eb fb : Int)⟩
theorem E0_le {eb fb : Nat} (h : OkF eb fb) : E0 eb fb ≤ 149 := by
  unfold E0
  have : 2 ^ (eb - 1) ≤ 2 ^ 7 := Nat.pow_le_pow_right (by decide) (by have := h.h2; omega)
  have := h.h4
  omega
theorem hid_pos (eb fb : Nat) : 0 < (frm eb fb).hidden := by
  show (0 : Int) < ((2 ^ fb : Nat) : Int)
  exact Int.natCast_pos.mpr (Nat.pow_pos (by decide))
theorem hid_le {eb fb : Nat} (h : OkF eb fb) : 2 ^ fb ≤ 2 ^ 23 := Nat.pow_le_pow_right (by decide) h.h4
theorem top_le {eb fb : Nat} (h : OkF eb fb) : 2 ^ eb ≤ 2 ^ 8 := Nat.pow_le_pow_right (by decide) h.h2
theorem top_ge {eb fb : Nat} (h : OkF eb fb) : 2 ^ 2 ≤ 2 ^ eb := Nat.pow_le_pow_right (by decide) h.h1
theorem hid_ge {eb fb : Nat} (h : OkF eb fb) : 2 ^ 1 ≤ 2 ^ fb := Nat.pow_le_pow_right (by decide) h.h3
theorem hid_bd {eb fb : Nat} (h : OkF eb fb) : Bd 24 (frm eb fb).hidden := Bd.nat (n := 2 ^ fb) (Nat.lt_of_le_of_lt (hid_le h) (by decide))
theorem bitAnd_nat (x y : Nat) : Builtin.bitAnd (x : Int) (y : Int) = ((x &&& y : Nat) : Int) := rfl
theorem bitAnd_mask (x n : Nat) : Builtin.bitAnd (x : Int) ((2 ^ n - 1 : Nat) : Int) = ((x % 2 ^ n : Nat) : Int) := by
  rw [bitAnd_nat, Nat.and_two_pow_sub_one_eq_mod]
theorem qint {Q : PV → Led → Prop} {σ : Led} {a b : Int} (e : a = b) (q : Q (.int b) σ) : Q (.int a) σ := e ▸ q
theorem qbool {Q : PV → Led → Prop} {σ : Led} {a b : Bool} (e : a = b) (q : Q (.bool b) σ) : Q (.bool a) σ := e ▸ q
theorem qstr {Q : PV → Led → Prop} {σ : Led} {a b : Str} (e : a = b) (q : Q (.str b) σ) : Q (.str a) σ := e ▸ q
theorem qtup2 {Q : PV → Led → Prop} {σ : Led} {a b a' b' : PV} (e1 : a = a') (e2 : b = b') (q : Q (.tup [a', b']) σ) : Q (.tup [a, b]) σ := e1 ▸ e2 ▸ q
theorem qtup3 {Q : PV → Led → Prop} {σ : Led} {a b c a' b' c' : PV} (e1 : a = a') (e2 : b = b') (e3 : c = c') (q : Q (.tup [a', b', c']) σ) : Q (.tup [a, b, c]) σ := e1 ▸ e2 ▸ e3 ▸ q

section
variable {X : Fx} {σ : Led} {Q : PV → Led → Prop} {eb fb : Nat}

theorem join_fields_ (hW : IsW X.W) (hd : 1 ≤ X.d) (hF : OkF eb fb) {s e r : Nat} (hs : s ≤ 1) (he : e < 2 ^ eb)
    (q : Q (.int (((s * 2 ^ eb + e) * 2 ^ fb + r : Nat) : Int)) σ) : CallV X (.ref 42) [.form (frm eb fb), .int (s : Int), .int (e : Int), .int (r : Int)] σ Q := by
  refine CallV.def hW.K ["form", "sign", "exponent", "fraction"] 0 rfl rfl (bind4 _ _ _ _ (fun _ _ _ _ => rfl)) (by decide) (by decide) (by omega) (by decide) rfl rfl rfl ?_
  intro X' e1 e2 e3
  have hW' : IsW X'.W := e1 ▸ hW
  clear hW
  have hb1 : Bd 20 ((s : Int) * 2 ^ ((frm eb fb).eb).toNat + (e : Int)) := by
    have h1 : (s : Int) * 2 ^ ((frm eb fb).eb).toNat + (e : Int) = ((s * 2 ^ eb + e : Nat) : Int) := by
      show (s : Int) * 2 ^ ((eb : Int)).toNat + e = _
      rw [Int.toNat_natCast]; push_cast; rfl
    rw [h1]
    refine Bd.nat ?_
    have h2 := top_le hF
    have h3 : s * 2 ^ eb ≤ 1 * 2 ^ eb := Nat.mul_le_mul_right _ hs
    omega
  refine WS.cons (WS1.ret ?_)
  refine EV.bin ?_
  refine EV.bin ?_
  refine EV.bin ?_
  refine EV.bin ?_
  refine EV.name rfl ?_ (loc_of (by assumption) rfl)
  refine EV.attr (formK hW') rfl rfl ?_ (loc_of (by assumption) rfl)
  refine OpV.shl (k := 20) (Int.natCast_nonneg eb) (by have := hF.h2; show (eb : Int) ≤ 1000000; omega) (Bd.nat (by omega)) (by omega) ?_
  refine EV.name rfl ?_ (loc_of (by assumption) rfl)
  refine OpV.add ?_
  refine EV.attr (formK hW') rfl rfl ?_ (loc_of (by assumption) rfl)
  refine OpV.mul (k := 20) (j := 24) hb1 (hid_bd hF) (by omega) (by omega) ?_
  refine EV.name rfl ?_ (loc_of (by assumption) rfl)
  refine OpV.add ?_
  refine qint ?_ q
  show ((s : Int) * 2 ^ ((eb : Int)).toNat + e) * ((2 ^ fb : Nat) : Int) + r = _
  rw [Int.toNat_natCast]; push_cast; rfl

theorem split_fields_ (hW : IsW X.W) (hd : 1 ≤ X.d) (hF : OkF eb fb) {b : Nat}
    (q : Q (.tup [.int ((b / 2 ^ fb / 2 ^ eb : Nat) : Int), .int ((b / 2 ^ fb % 2 ^ eb : Nat) : Int), .int ((b % 2 ^ fb : Nat) : Int)]) σ) : CallV X (.ref 49) [.form (frm eb fb), .int (b : Int)] σ Q := by
  refine CallV.def hW.K ["form", "bits"] 0 rfl rfl (bind2 _ _ (fun _ _ => rfl)) (by decide) (by decide) (by omega) (by decide) rfl rfl rfl ?_
  intro X' e1 e2 e3
  have hW' : IsW X'.W := e1 ▸ hW
  clear hW
  refine WS.cons (WS1.asg ?_ (loc_of (by assumption) rfl))
  refine EV.bin ?_
  refine EV.name rfl ?_ (loc_of (by assumption) rfl)
  refine EV.attr (formK hW') rfl rfl ?_ (loc_of (by assumption) rfl)
  refine OpV.fmod (hid_pos eb fb) ?_
  refine Then.next ?_
  refine WS.cons (WS1.asg ?_ (loc_of (by assumption) rfl))
  refine EV.bin ?_
  refine EV.name rfl ?_ (loc_of (by assumption) rfl)
  refine EV.attr (formK hW') rfl rfl ?_ (loc_of (by assumption) rfl)
  refine OpV.fdiv (hid_pos eb fb) (hid_bd hF) (by omega) ?_
  refine Then.next ?_
  refine WS.cons (WS1.ret ?_)
  refine EV.tuple ?_
  refine EVL.cons ?_
  refine EV.bin ?_
  refine EV.name rfl ?_ (loc_of (by assumption) rfl)
  refine EV.attr (formK hW') rfl rfl ?_ (loc_of (by assumption) rfl)
  refine OpV.shr (Int.natCast_nonneg eb) ?_
  refine EVL.cons ?_
  refine EV.bin ?_
  refine EV.name rfl ?_ (loc_of (by assumption) rfl)
  refine EV.attr (formK hW') rfl rfl ?_ (loc_of (by assumption) rfl)
  refine OpV.band ?_
  refine EVL.cons ?_
  refine EV.name rfl ?_ (loc_of (by assumption) rfl)
  refine EVL.nil ?_
  refine ⟨by simp, ?_⟩
  refine qtup3 ?_ ?_ ?_ q
  · show PV.int ((b : Int) / ((2 ^ fb : Nat) : Int) / 2 ^ ((eb : Int)).toNat) = _
    rw [Int.toNat_natCast]; push_cast; rfl
  · show PV.int (Builtin.bitAnd ((b / 2 ^ fb : Nat) : Int) ((2 ^ eb - 1 : Nat) : Int)) = _
    rw [bitAnd_mask]
  · rfl

theorem infinity_ (hW : IsW X.W) (hd : 2 ≤ X.d) (hF : OkF eb fb) {s : Nat} (hs : s ≤ 1)
    (q : Q (.int (((s * 2 ^ eb + (2 ^ eb - 1)) * 2 ^ fb : Nat) : Int)) σ) : CallV X (.ref 56) [.form (frm eb fb), .int (s : Int)] σ Q := by
  refine CallV.def hW.K ["form", "sign"] 1 rfl rfl (bind2 _ _ (fun _ _ => rfl)) (by decide) (by decide) (by omega) (by decide) rfl rfl rfl ?_
  intro X' e1 e2 e3
  have hW' : IsW X'.W := e1 ▸ hW
  clear hW
  refine WS.cons (WS1.ret ?_)
  refine EV.callF (g_join_fields hW') (k_join_fields hW') (loc_of (by assumption) rfl) ?_
  refine EVL.cons ?_
  refine EV.name rfl ?_ (loc_of (by assumption) rfl)
  refine EVL.cons ?_
  refine EV.name rfl ?_ (loc_of (by assumption) rfl)
  refine EVL.cons ?_
  refine EV.attr (formK hW') rfl rfl ?_ (loc_of (by assumption) rfl)
  refine EVL.cons ?_
  refine EV.int ?_
  refine EVL.nil ?_
  refine join_fields_ (e := 2 ^ eb - 1) (r := 0) hW' (by omega) hF hs (by have := top_ge hF; omega) ?_
  exact q

theorem not_a_number_ (hW : IsW X.W) (hd : 2 ≤ X.d) (hF : OkF eb fb)
    (q : Q (.int (((2 ^ eb - 1) * 2 ^ fb + 2 ^ fb / 2 : Nat) : Int)) σ) : CallV X (.ref 63) [.form (frm eb fb)] σ Q := by
  refine CallV.def hW.K ["form"] 1 rfl rfl (bind1 _ (fun _ => rfl)) (by decide) (by decide) (by omega) (by decide) rfl rfl rfl ?_
  intro X' e1 e2 e3
  have hW' : IsW X'.W := e1 ▸ hW
  clear hW
  refine WS.cons (WS1.ret ?_)
  refine EV.callF (g_join_fields hW') (k_join_fields hW') (loc_of (by assumption) rfl) ?_
  refine EVL.cons ?_
  refine EV.name rfl ?_ (loc_of (by assumption) rfl)
  refine EVL.cons ?_
  refine EV.int ?_
  refine EVL.cons ?_
  refine EV.attr (formK hW') rfl rfl ?_ (loc_of (by assumption) rfl)
  refine EVL.cons ?_
  refine EV.bin ?_
  refine EV.attr (formK hW') rfl rfl ?_ (loc_of (by assumption) rfl)
  refine EV.int ?_
  refine OpV.shr (by decide) ?_
  refine EVL.nil ?_
  rw [show (frm eb fb).hidden / 2 ^ (1 : Int).toNat = ((2 ^ fb / 2 : Nat) : Int) from by show ((2 ^ fb : Nat) : Int) / 2 ^ 1 = _; push_cast; rfl]
  refine join_fields_ (s := 0) (e := 2 ^ eb - 1) (r := 2 ^ fb / 2) hW' (by omega) hF (by omega) (by have := top_ge hF; omega) ?_
  rw [Nat.zero_mul, Nat.zero_add]
  exact q

theorem signed_zero_ (hW : IsW X.W) (hd : 2 ≤ X.d) (hF : OkF eb fb) {s : Nat} (hs : s ≤ 1)
    (q : Q (.int ((s * 2 ^ eb * 2 ^ fb : Nat) : Int)) σ) : CallV X (.ref 70) [.form (frm eb fb), .int (s : Int)] σ Q := by
  refine CallV.def hW.K ["form", "sign"] 1 rfl rfl (bind2 _ _ (fun _ _ => rfl)) (by decide) (by decide) (by omega) (by decide) rfl rfl rfl ?_
  intro X' e1 e2 e3
  have hW' : IsW X'.W := e1 ▸ hW
  clear hW
  refine WS.cons (WS1.ret ?_)
  refine EV.callF (g_join_fields hW') (k_join_fields hW') (loc_of (by assumption) rfl) ?_
  refine EVL.cons ?_
  refine EV.name rfl ?_ (loc_of (by assumption) rfl)
  refine EVL.cons ?_
  refine EV.name rfl ?_ (loc_of (by assumption) rfl)
  refine EVL.cons ?_
  refine EV.int ?_
  refine EVL.cons ?_
  refine EV.int ?_
  refine EVL.nil ?_
  refine join_fields_ (e := 0) (r := 0) hW' (by omega) hF hs (Nat.pow_pos (by decide)) ?_
  exact q

theorem is_not_a_number_ (hW : IsW X.W) (hd : 2 ≤ X.d) (hF : OkF eb fb) {b : Nat}
    (q : Q (.bool (decide (b / 2 ^ fb % 2 ^ eb = 2 ^ eb - 1 ∧ b % 2 ^ fb ≠ 0))) σ) : CallV X (.ref 77) [.form (frm eb fb), .int (b : Int)] σ Q := by
  refine CallV.def hW.K ["form", "bits"] 1 rfl rfl (bind2 _ _ (fun _ _ => rfl)) (by decide) (by decide) (by omega) (by decide) rfl rfl rfl ?_
  intro X' e1 e2 e3
  have hW' : IsW X'.W := e1 ▸ hW
  clear hW
  refine WS.cons (WS1.unpack (NamesOf.cons (NamesOf.cons (NamesOf.cons NamesOf.nil))) (locs_of (by assumption) (by decide)) ?_ )
  refine EV.callF (g_split_fields hW') (k_split_fields hW') (loc_of (by assumption) rfl) ?_
  refine EVL.cons ?_
  refine EV.name rfl ?_ (loc_of (by assumption) rfl)
  refine EVL.cons ?_
  refine EV.name rfl ?_ (loc_of (by assumption) rfl)
  refine EVL.nil ?_
  refine split_fields_ hW' (by omega) hF ?_
  refine ⟨_, Seq.tup _, rfl, ?_⟩
  refine Then.next ?_
  refine WS.cons (WS1.ret ?_)
  refine EV.and ?_
  refine EV.cmp ?_
  refine EV.name rfl ?_ (loc_of (by assumption) rfl)
  refine EV.attr (formK hW') rfl rfl ?_ (loc_of (by assumption) rfl)
  refine CmpV.eq ?_
  refine ⟨_, rfl, fun h1 => ?_, fun h1 => ?_⟩
  · try simp only [decide_eq_true_eq, decide_eq_false_iff_not, Bool.not_eq_true', Bool.not_eq_false'] at h1
    refine EV.bo_one ?_
    refine EV.cmp ?_
    refine EV.name rfl ?_ (loc_of (by assumption) rfl)
    refine EV.int ?_
    refine CmpV.ne ?_
    refine qbool ?_ q
    have h2 := Int.ofNat_inj (m := b / 2 ^ fb % 2 ^ eb) (n := 2 ^ eb - 1)
    have h3 := Int.ofNat_inj (m := b % 2 ^ fb) (n := 0)
    have h1' : ((b / 2 ^ fb % 2 ^ eb : Nat) : Int) = ((2 ^ eb - 1 : Nat) : Int) ↔ _ := h2
    first
    | exact decide_eq_decide.mpr ⟨fun z => ⟨h2.mp h1, fun y => z (h3.mpr y)⟩, fun z y => z.2 (h3.mp y)⟩
    | exact (decide_eq_false fun z => h1 (h2.mpr z.1)).symm
  · try simp only [decide_eq_true_eq, decide_eq_false_iff_not, Bool.not_eq_true', Bool.not_eq_false'] at h1
    refine qbool ?_ q
    have h2 := Int.ofNat_inj (m := b / 2 ^ fb % 2 ^ eb) (n := 2 ^ eb - 1)
    have h3 := Int.ofNat_inj (m := b % 2 ^ fb) (n := 0)
    have h1' : ((b / 2 ^ fb % 2 ^ eb : Nat) : Int) = ((2 ^ eb - 1 : Nat) : Int) ↔ _ := h2
    first
    | exact decide_eq_decide.mpr ⟨fun z => ⟨h2.mp h1, fun y => z (h3.mpr y)⟩, fun z y => z.2 (h3.mp y)⟩
    | exact (decide_eq_false fun z => h1 (h2.mpr z.1)).symm

theorem is_infinite_ (hW : IsW X.W) (hd : 2 ≤ X.d) (hF : OkF eb fb) {b : Nat}
    (q : Q (.bool (decide (b / 2 ^ fb % 2 ^ eb = 2 ^ eb - 1 ∧ b % 2 ^ fb = 0))) σ) : CallV X (.ref 84) [.form (frm eb fb), .int (b : Int)] σ Q := by
  refine CallV.def hW.K ["form", "bits"] 1 rfl rfl (bind2 _ _ (fun _ _ => rfl)) (by decide) (by decide) (by omega) (by decide) rfl rfl rfl ?_
  intro X' e1 e2 e3
  have hW' : IsW X'.W := e1 ▸ hW
  clear hW
  refine WS.cons (WS1.unpack (NamesOf.cons (NamesOf.cons (NamesOf.cons NamesOf.nil))) (locs_of (by assumption) (by decide)) ?_ )
  refine EV.callF (g_split_fields hW') (k_split_fields hW') (loc_of (by assumption) rfl) ?_
  refine EVL.cons ?_
  refine EV.name rfl ?_ (loc_of (by assumption) rfl)
  refine EVL.cons ?_
  refine EV.name rfl ?_ (loc_of (by assumption) rfl)
  refine EVL.nil ?_
  refine split_fields_ hW' (by omega) hF ?_
  refine ⟨_, Seq.tup _, rfl, ?_⟩
  refine Then.next ?_
  refine WS.cons (WS1.ret ?_)
  refine EV.and ?_
  refine EV.cmp ?_
  refine EV.name rfl ?_ (loc_of (by assumption) rfl)
  refine EV.attr (formK hW') rfl rfl ?_ (loc_of (by assumption) rfl)
  refine CmpV.eq ?_
  refine ⟨_, rfl, fun h1 => ?_, fun h1 => ?_⟩
  · try simp only [decide_eq_true_eq, decide_eq_false_iff_not, Bool.not_eq_true', Bool.not_eq_false'] at h1
    refine EV.bo_one ?_
    refine EV.cmp ?_
    refine EV.name rfl ?_ (loc_of (by assumption) rfl)
    refine EV.int ?_
    refine CmpV.eq ?_
    refine qbool ?_ q
    have h2 := Int.ofNat_inj (m := b / 2 ^ fb % 2 ^ eb) (n := 2 ^ eb - 1)
    have h3 := Int.ofNat_inj (m := b % 2 ^ fb) (n := 0)
    first
    | exact decide_eq_decide.mpr ⟨fun z => ⟨h2.mp h1, h3.mp z⟩, fun z => h3.mpr z.2⟩
    | exact (decide_eq_false fun z => h1 (h2.mpr z.1)).symm
  · try simp only [decide_eq_true_eq, decide_eq_false_iff_not, Bool.not_eq_true', Bool.not_eq_false'] at h1
    refine qbool ?_ q
    have h2 := Int.ofNat_inj (m := b / 2 ^ fb % 2 ^ eb) (n := 2 ^ eb - 1)
    have h3 := Int.ofNat_inj (m := b % 2 ^ fb) (n := 0)
    first
    | exact decide_eq_decide.mpr ⟨fun z => ⟨h2.mp h1, h3.mp z⟩, fun z => h3.mpr z.2⟩
    | exact (decide_eq_false fun z => h1 (h2.mpr z.1)).symm

theorem is_zero_ (hW : IsW X.W) (hd : 1 ≤ X.d) (hF : OkF eb fb) {b : Nat}
    (q : Q (.bool (decide (b % (2 ^ fb * 2 ^ eb) = 0))) σ) : CallV X (.ref 91) [.form (frm eb fb), .int (b : Int)] σ Q := by
  refine CallV.def hW.K ["form", "bits"] 0 rfl rfl (bind2 _ _ (fun _ _ => rfl)) (by decide) (by decide) (by omega) (by decide) rfl rfl rfl ?_
  intro X' e1 e2 e3
  have hW' : IsW X'.W := e1 ▸ hW
  clear hW
  have hm1 : (frm eb fb).hidden * 2 ^ ((frm eb fb).eb).toNat = ((2 ^ fb * 2 ^ eb : Nat) : Int) := by
    show ((2 ^ fb : Nat) : Int) * 2 ^ ((eb : Int)).toNat = _
    rw [Int.toNat_natCast]; push_cast; rfl
  refine WS.cons (WS1.ret ?_)
  refine EV.cmp ?_
  refine EV.bin ?_
  refine EV.name rfl ?_ (loc_of (by assumption) rfl)
  refine EV.bin ?_
  refine EV.attr (formK hW') rfl rfl ?_ (loc_of (by assumption) rfl)
  refine EV.attr (formK hW') rfl rfl ?_ (loc_of (by assumption) rfl)
  refine OpV.shl (Int.natCast_nonneg eb) (by have := hF.h2; show (eb : Int) ≤ 1000000; omega) (hid_bd hF) (by omega) ?_
  refine OpV.fmod (by rw [hm1]; exact Int.natCast_pos.mpr (Nat.mul_pos (Nat.pow_pos (by decide)) (Nat.pow_pos (by decide)))) ?_
  refine EV.int ?_
  refine CmpV.eq ?_
  refine qbool ?_ q
  rw [hm1]
  exact decide_eq_decide.mpr (Int.ofNat_inj (m := b % (2 ^ fb * 2 ^ eb)) (n := 0))

theorem sign_of_ (hW : IsW X.W) (hd : 2 ≤ X.d) (hF : OkF eb fb) {b : Nat}
    (q : Q (.int ((b / 2 ^ fb / 2 ^ eb : Nat) : Int)) σ) : CallV X (.ref 98) [.form (frm eb fb), .int (b : Int)] σ Q := by
  refine CallV.def hW.K ["form", "bits"] 1 rfl rfl (bind2 _ _ (fun _ _ => rfl)) (by decide) (by decide) (by omega) (by decide) rfl rfl rfl ?_
  intro X' e1 e2 e3
  have hW' : IsW X'.W := e1 ▸ hW
  clear hW
  refine WS.cons (WS1.ret ?_)
  refine EV.sub ?_
  refine EV.callF (g_split_fields hW') (k_split_fields hW') (loc_of (by assumption) rfl) ?_
  refine EVL.cons ?_
  refine EV.name rfl ?_ (loc_of (by assumption) rfl)
  refine EVL.cons ?_
  refine EV.name rfl ?_ (loc_of (by assumption) rfl)
  refine EVL.nil ?_
  refine split_fields_ hW' (by omega) hF ?_
  refine EV.int ?_
  refine SubV.tup (by decide) (by decide) rfl ?_
  exact q

theorem unpack_ (hW : IsW X.W) (hd : 2 ≤ X.d) (hF : OkF eb fb) {b : Nat}
    (q : Q (.tup (if b / 2 ^ fb % 2 ^ eb = 0 then [.int ((b / 2 ^ fb / 2 ^ eb : Nat) : Int), .int ((b % 2 ^ fb : Nat) : Int), .int (-(E0 eb fb : Int))] else [.int ((b / 2 ^ fb / 2 ^ eb : Nat) : Int), .int ((2 ^ fb + b % 2 ^ fb : Nat) : Int), .int (-(E0 eb fb : Int) + (b / 2 ^ fb % 2 ^ eb : Nat) - 1)])) σ) : CallV X (.ref 105) [.form (frm eb fb), .int (b : Int)] σ Q := by
  refine CallV.def hW.K ["form", "bits"] 1 rfl rfl (bind2 _ _ (fun _ _ => rfl)) (by decide) (by decide) (by omega) (by decide) rfl rfl rfl ?_
  intro X' e1 e2 e3
  have hW' : IsW X'.W := e1 ▸ hW
  clear hW
  refine WS.cons (WS1.unpack (NamesOf.cons (NamesOf.cons (NamesOf.cons NamesOf.nil))) (locs_of (by assumption) (by decide)) ?_ )
  refine EV.callF (g_split_fields hW') (k_split_fields hW') (loc_of (by assumption) rfl) ?_
  refine EVL.cons ?_
  refine EV.name rfl ?_ (loc_of (by assumption) rfl)
  refine EVL.cons ?_
  refine EV.name rfl ?_ (loc_of (by assumption) rfl)
  refine EVL.nil ?_
  refine split_fields_ hW' (by omega) hF ?_
  refine ⟨_, Seq.tup _, rfl, ?_⟩
  refine Then.next ?_
  refine WS.cons (WS1.ite ?_)
  refine TV.cmp ?_
  refine EV.name rfl ?_ (loc_of (by assumption) rfl)
  refine EV.int ?_
  refine CmpV.eq ?_
  refine ⟨_, rfl, ?_⟩
  refine ⟨fun h1 => ?_, fun h1 => ?_⟩
  · try simp only [decide_eq_true_eq, decide_eq_false_iff_not, Bool.not_eq_true', Bool.not_eq_false'] at h1
    refine WS.cons (WS1.ret ?_)
    refine EV.tuple ?_
    refine EVL.cons ?_
    refine EV.name rfl ?_ (loc_of (by assumption) rfl)
    refine EVL.cons ?_
    refine EV.name rfl ?_ (loc_of (by assumption) rfl)
    refine EVL.cons ?_
    refine EV.attr (formK hW') rfl rfl ?_ (loc_of (by assumption) rfl)
    refine EVL.nil ?_
    refine ⟨by simp, ?_⟩
    rw [if_pos (Int.ofNat_inj.mp h1)] at q
    exact q
  · try simp only [decide_eq_true_eq, decide_eq_false_iff_not, Bool.not_eq_true', Bool.not_eq_false'] at h1
    refine WS.nil ?_
    refine Then.next ?_
    refine WS.cons (WS1.ret ?_)
    refine EV.tuple ?_
    refine EVL.cons ?_
    refine EV.name rfl ?_ (loc_of (by assumption) rfl)
    refine EVL.cons ?_
    refine EV.bin ?_
    refine EV.attr (formK hW') rfl rfl ?_ (loc_of (by assumption) rfl)
    refine EV.name rfl ?_ (loc_of (by assumption) rfl)
    refine OpV.add ?_
    refine EVL.cons ?_
    refine EV.bin ?_
    refine EV.bin ?_
    refine EV.attr (formK hW') rfl rfl ?_ (loc_of (by assumption) rfl)
    refine EV.name rfl ?_ (loc_of (by assumption) rfl)
    refine OpV.add ?_
    refine EV.int ?_
    refine OpV.sub ?_
    refine EVL.nil ?_
    refine ⟨by simp, ?_⟩
    rw [if_neg (fun z => h1 (Int.ofNat_inj.mpr z))] at q
    exact q

end
end Mine

namespace Mine
section
variable {X : Fx} {σ : Led} {Q : PV → Led → Prop}
theorem OpV.shrN {a n : Nat} (q : Q (.int ((a / 2 ^ n : Nat) : Int)) σ) : OpV X .RShift (.int (a : Int)) (.int (n : Int)) σ Q := OpV.shr (Int.natCast_nonneg n) (qint (by rw [Int.toNat_natCast]; push_cast; rfl) q)
theorem IopV.shrN {a n : Nat} (q : Q (.int ((a / 2 ^ n : Nat) : Int)) σ) : IopV X .RShift (.int (a : Int)) (.int (n : Int)) σ Q := IopV.shr (Int.natCast_nonneg n) (qint (by rw [Int.toNat_natCast]; push_cast; rfl) q)
theorem OpV.shlN {a n k : Nat} (hn : n ≤ 1000000) (ha : a < 2 ^ k) (hk : k ≤ 1000000) (q : Q (.int ((a * 2 ^ n : Nat) : Int)) σ) : OpV X .LShift (.int (a : Int)) (.int (n : Int)) σ Q := OpV.shl (Int.natCast_nonneg n) (by omega) (Bd.nat ha) hk (qint (by rw [Int.toNat_natCast]; push_cast; rfl) q)
theorem IopV.shlN {a n k : Nat} (hn : n ≤ 1000000) (ha : a < 2 ^ k) (hk : k ≤ 1000000) (q : Q (.int ((a * 2 ^ n : Nat) : Int)) σ) : IopV X .LShift (.int (a : Int)) (.int (n : Int)) σ Q := IopV.shl (Int.natCast_nonneg n) (by omega) (Bd.nat ha) hk (qint (by rw [Int.toNat_natCast]; push_cast; rfl) q)
theorem OpV.powN {a n : Nat} (hn : n ≤ 1000000) (ha : a < 2 ^ 64) (q : Q (.int ((a ^ n : Nat) : Int)) σ) : OpV X .Pow (.int (a : Int)) (.int (n : Int)) σ Q := OpV.pow (Int.natCast_nonneg n) (by omega) (by rwa [Int.natAbs_natCast]) (qint (by rw [Int.toNat_natCast]; push_cast; rfl) q)
theorem OpV.mulN {a b k j : Nat} (ha : a < 2 ^ k) (hb : b < 2 ^ j) (hk : k ≤ 1000000) (hj : j ≤ 1000000) (q : Q (.int ((a * b : Nat) : Int)) σ) : OpV X .Mult (.int (a : Int)) (.int (b : Int)) σ Q := OpV.mul (Bd.nat ha) (Bd.nat hb) hk hj q
theorem IopV.mulN {a b k j : Nat} (ha : a < 2 ^ k) (hb : b < 2 ^ j) (hk : k ≤ 1000000) (hj : j ≤ 1000000) (q : Q (.int ((a * b : Nat) : Int)) σ) : IopV X .Mult (.int (a : Int)) (.int (b : Int)) σ Q := IopV.mul (Bd.nat ha) (Bd.nat hb) hk hj q
theorem OpV.fdivN {a b k : Nat} (h0 : 0 < b) (hb : b < 2 ^ k) (hk : k ≤ 9000) (q : Q (.int ((a / b : Nat) : Int)) σ) : OpV X .FloorDiv (.int (a : Int)) (.int (b : Int)) σ Q := OpV.fdiv (Int.natCast_pos.mpr h0) (Bd.nat hb) hk q
theorem IopV.fdivN {a b k : Nat} (h0 : 0 < b) (hb : b < 2 ^ k) (hk : k ≤ 9000) (q : Q (.int ((a / b : Nat) : Int)) σ) : IopV X .FloorDiv (.int (a : Int)) (.int (b : Int)) σ Q := IopV.fdiv (Int.natCast_pos.mpr h0) (Bd.nat hb) hk q
theorem OpV.fmodN {a b : Nat} (h0 : 0 < b) (q : Q (.int ((a % b : Nat) : Int)) σ) : OpV X .Mod (.int (a : Int)) (.int (b : Int)) σ Q := OpV.fmod (Int.natCast_pos.mpr h0) q
theorem OpV.addE {a b c : Int} (e : a + b = c) (q : Q (.int c) σ) : OpV X .Add (.int a) (.int b) σ Q := OpV.add (e ▸ q)
theorem OpV.subE {a b c : Int} (e : a - b = c) (q : Q (.int c) σ) : OpV X .Sub (.int a) (.int b) σ Q := OpV.sub (e ▸ q)
theorem CallV.maxE {a b c : Int} (e : (if b > a then b else a) = c) (q : Q (.int c) σ) : CallV X (.builtin "max") [.int a, .int b] σ Q := CallV.max (e ▸ q)
theorem bind5d {K : Frag} {C : Addr} {fd : FuncData} {p q o n l : PV} {T : Addr} {ob : Obj} {items : Array Value} {k : Nat} (x y z w v : Str) (hd : fd.defaults = .ref T) (ho : K.lookup T = some ob) (hs : ob.data = .seq items k)
    (h : ∀ a b c d e, ∃ kk, bindArgs fd ⟨[a, b, c, d, e], []⟩ = seqItems? fd.defaults >>= kk ∧ kk (some items) = pure [(x, a), (y, b), (z, c), (w, d), (v, e)]) (R : Led) (s : Shared) (vs : List Value) (X : K.In s.heap) (r : RepL C R vs [p, q, o, n, l]) :
    ∃ us, BindsTo s fd ⟨vs, []⟩ ([x, y, z, w, v].zip us) ∧ RepL C R us [p, q, o, n, l] := by
  obtain ⟨a, _, rfl, ra, r2⟩ := r.inv_cons
  obtain ⟨b, _, rfl, rb, r3⟩ := r2.inv_cons
  obtain ⟨c, _, rfl, rc, r4⟩ := r3.inv_cons
  obtain ⟨d, _, rfl, rd, r5⟩ := r4.inv_cons
  obtain ⟨e, rfl, re⟩ := one_arg r5
  obtain ⟨kk, e1, e2⟩ := h a b c d e
  exact ⟨[a, b, c, d, e], binds_K X hd ho hs e1 e2, r⟩
/-- differences of naturals that do not fall below nought -/
theorem OpV.subN {a b : Nat} (h : b ≤ a) (q : Q (.int ((a - b : Nat) : Int)) σ) : OpV X .Sub (.int (a : Int)) (.int (b : Int)) σ Q := OpV.sub (qint (by omega) q)
end
/-- the binary search of bit_count -/
def BcI (m0 : Nat) (a : Nat × Nat × Nat) : Prop := a.1 = m0 / 2 ^ a.2.1 ∧ (0 < m0 → 0 < a.1) ∧ (m0 = 0 → a.2.1 = 0) ∧ ((a.2.2 = 0 ∧ a.1 < 2) ∨ ∃ j, a.2.2 = 2 ^ j ∧ a.1 < 2 ^ (2 * a.2.2))
theorem bc_end {m0 m c : Nat} (h : BcI m0 (m, c, 0)) : bl m0 = c + (if 0 < m then 1 else 0) := by
  obtain ⟨e, h1, h2, h3⟩ := h
  have hm : m < 2 := by
    rcases h3 with h | ⟨j, h, _⟩
    · exact h.2
    · have : 0 < 2 ^ j := Nat.pow_pos (by decide); simp only at h; omega
  simp only at e h1 h2
  rcases Nat.eq_zero_or_pos m0 with h0 | h0
  · subst h0
    rw [h2 rfl, bl_zero]
    rw [Nat.zero_div] at e
    rw [e]; rfl
  · have hp := h1 h0
    have hm1 : m = 1 := by omega
    rw [if_pos hp]
    subst hm1
    have hc : 0 < 2 ^ c := Nat.pow_pos (by decide)
    apply bl_of
    · have := Nat.div_mul_le_self m0 (2 ^ c); rw [← e] at this; omega
    · have := Nat.lt_mul_div_succ m0 hc
      rw [← e] at this
      rw [Nat.pow_succ]; omega
theorem bc_start {m0 s : Nat} {j : Nat} (hj : s = 2 ^ j) (h : m0 < 2 ^ s) : BcI m0 (m0, 0, s) := by
  refine ⟨by simp, fun h => h, fun _ => rfl, .inr ⟨j, hj, ?_⟩⟩
  exact Nat.lt_of_lt_of_le h (Nat.pow_le_pow_right (by decide) (by simp only; omega))
theorem half_pow {s j : Nat} (h : s = 2 ^ j) : (s / 2 = 0 ∧ s = 1) ∨ ∃ i, s / 2 = 2 ^ i ∧ s = 2 * (s / 2) := by
  cases j with
  | zero => left; subst h; exact ⟨rfl, rfl⟩
  | succ i => right; refine ⟨i, ?_, ?_⟩ <;> (rw [h, Nat.pow_succ]; omega)
theorem bc_next {m0 m c s m' c' : Nat} (hs : 0 < s) (h : BcI m0 (m, c, s)) (h' : (0 < m / 2 ^ s ∧ m' = m / 2 ^ s ∧ c' = c + s) ∨ (m / 2 ^ s = 0 ∧ m' = m ∧ c' = c)) : BcI m0 (m', c', s / 2) := by
  obtain ⟨e, h1, h2, h3⟩ := h
  simp only at e h1 h2 h3
  obtain ⟨j, hj, hm⟩ : ∃ j, s = 2 ^ j ∧ m < 2 ^ (2 * s) := by
    rcases h3 with h | h
    · omega
    · exact h
  have hp : 0 < 2 ^ s := Nat.pow_pos (by decide)
  have hm' : m' < 2 ^ s := by
    rcases h' with ⟨_, q, _⟩ | ⟨q, q', _⟩
    · subst q
      rw [Nat.two_mul, Nat.pow_add] at hm
      exact (Nat.div_lt_iff_lt_mul hp).mpr hm
    · subst q'
      exact (Nat.div_eq_zero_iff_lt hp).mp q
  refine ⟨?_, fun q => ?_, fun q => ?_, ?_⟩
  · rcases h' with ⟨_, q, q'⟩ | ⟨_, q, q'⟩
    · subst q q'; simp only; rw [e, Nat.div_div_eq_div_mul, Nat.pow_add]
    · subst q q'; exact e
  · rcases h' with ⟨q1, q2, _⟩ | ⟨_, q2, _⟩
    · subst q2; exact q1
    · subst q2; exact h1 q
  · rcases h' with ⟨q1, _, _⟩ | ⟨_, _, q3⟩
    · exfalso
      have : m = 0 := by rw [e, q]; exact Nat.zero_div _
      rw [this, Nat.zero_div] at q1; omega
    · subst q3; exact h2 q
  · rcases half_pow hj with ⟨q, q'⟩ | ⟨i, q, q'⟩
    · left; refine ⟨q, ?_⟩; rw [q'] at hm'; exact hm'
    · right; refine ⟨i, q, ?_⟩; simp only; rw [← q']; exact hm'

section
variable {X : Fx} {σ : Led} {Q : PV → Led → Prop} {eb fb : Nat}

theorem bit_count_ (hW : IsW X.W) (hd : 1 ≤ X.d) {m : Nat} (hm : Bd 5000 (m : Int))
    (q : Q (.int (bl m : Int)) σ) : CallV X (.ref 112) [.int (m : Int)] σ Q := by
  refine CallV.def hW.K ["m"] 0 rfl rfl (bind1 _ (fun _ => rfl)) (by decide) (by decide) (by omega) (by decide) rfl rfl rfl ?_
  intro X' e1 e2 e3
  have hW' : IsW X'.W := e1 ▸ hW
  clear hW
  refine WS.cons (WS1.asg ?_ (loc_of (by assumption) rfl))
  refine EV.int ?_
  refine Then.next ?_
  refine WS.cons (WS1.asg ?_ (loc_of (by assumption) rfl))
  refine EV.int ?_
  refine Then.next ?_
  refine WS.cons (WS1.while (α := Nat) (fun s => [(Str.ofString "m", .int (m : Int)), (Str.ofString "count", .int 0), (Str.ofString "step", .int (s : Int))]) (fun _ => σ) (fun s => ∃ j, s = 2 ^ j) (fun s => m - s) 1 rfl rfl ⟨0, rfl⟩ ?_)
  intro s ⟨j, hj⟩
  have hs0 : 0 < s := by rw [hj]; exact Nat.pow_pos (by decide)
  refine TV.cmp ?_
  refine EV.bin ?_
  refine EV.name rfl ?_ (loc_of (by assumption) rfl)
  refine EV.name rfl ?_ (loc_of (by assumption) rfl)
  refine OpV.shrN (a := m) (n := s) ?_
  refine EV.int ?_
  refine CmpV.gt ?_
  refine ⟨_, rfl, ?_⟩
  refine ⟨fun h1 => ?_, fun h1 => ?_⟩
  · try simp only [decide_eq_true_eq, decide_eq_false_iff_not, Bool.not_eq_true', Bool.not_eq_false'] at h1
    have h1' : 0 < m / 2 ^ s := Int.ofNat_lt.mp h1
    have hle : 2 ^ s ≤ m := by
      rcases Nat.lt_or_ge m (2 ^ s) with z | z
      · rw [Nat.div_eq_of_lt z] at h1'; omega
      · exact z
    have hlt : s < m := Nat.lt_of_lt_of_le Nat.lt_two_pow_self hle
    refine WS.cons (WS1.aug rfl ?_ (loc_of (by assumption) rfl))
    refine EV.int ?_
    refine IopV.mul (hm.of_le (Int.natCast_nonneg s) (by omega)) (Bd.nat (k := 2) (n := 2) (by decide)) (by omega) (by omega) ?_
    refine Then.next ?_
    refine WS.nil ?_
    exact ⟨s * 2, rfl, rfl, ⟨j + 1, by rw [hj, Nat.pow_succ]⟩, by show m - s * 2 < m - s; omega⟩
  · try simp only [decide_eq_true_eq, decide_eq_false_iff_not, Bool.not_eq_true', Bool.not_eq_false'] at h1
    have h1' : ¬ 0 < m / 2 ^ s := fun z => h1 (Int.ofNat_lt.mpr z)
    have hsm : m < 2 ^ s := by
      rcases Nat.lt_or_ge m (2 ^ s) with z | z
      · exact z
      · exact absurd (Nat.div_pos z (Nat.pow_pos (by decide))) h1'
    refine Then.next ?_
    refine WS.cons (WS1.while (α := Nat × Nat × Nat) (fun a => [(Str.ofString "m", .int (a.1 : Int)), (Str.ofString "count", .int (a.2.1 : Int)), (Str.ofString "step", .int (a.2.2 : Int))]) (fun _ => σ) (BcI m) (fun a => a.2.2) (m, 0, s) rfl rfl (bc_start hj hsm) ?_)
    intro ⟨m1, c, t⟩ hI
    refine TV.cmp ?_
    refine EV.name rfl ?_ (loc_of (by assumption) rfl)
    refine EV.int ?_
    refine CmpV.gt ?_
    refine ⟨_, rfl, ?_⟩
    refine ⟨fun h2 => ?_, fun h2 => ?_⟩
    · try simp only [decide_eq_true_eq, decide_eq_false_iff_not, Bool.not_eq_true', Bool.not_eq_false'] at h2
      have h2' : 0 < t := Int.ofNat_lt.mp h2
      refine WS.cons (WS1.ite ?_)
      refine TV.cmp ?_
      refine EV.bin ?_
      refine EV.name rfl ?_ (loc_of (by assumption) rfl)
      refine EV.name rfl ?_ (loc_of (by assumption) rfl)
      refine OpV.shrN (a := m1) (n := t) ?_
      refine EV.int ?_
      refine CmpV.gt ?_
      refine ⟨_, rfl, ?_⟩
      refine ⟨fun h3 => ?_, fun h3 => ?_⟩
      · try simp only [decide_eq_true_eq, decide_eq_false_iff_not, Bool.not_eq_true', Bool.not_eq_false'] at h3
        refine WS.cons (WS1.aug rfl ?_ (loc_of (by assumption) rfl))
        refine EV.name rfl ?_ (loc_of (by assumption) rfl)
        refine IopV.shrN (a := m1) (n := t) ?_
        refine Then.next ?_
        refine WS.cons (WS1.aug rfl ?_ (loc_of (by assumption) rfl))
        refine EV.name rfl ?_ (loc_of (by assumption) rfl)
        refine IopV.add ?_
        refine Then.next ?_
        refine WS.nil ?_
        refine Then.next ?_
        refine WS.cons (WS1.aug rfl ?_ (loc_of (by assumption) rfl))
        refine EV.int ?_
        refine IopV.fdivN (a := t) (b := 2) (k := 2) (by decide) (by decide) (by decide) ?_
        refine Then.next ?_
        refine WS.nil ?_
        first | exact ⟨(m1 / 2 ^ t, c + t, t / 2), rfl, rfl, bc_next h2' hI (.inl ⟨Int.ofNat_lt.mp h3, rfl, rfl⟩), by show t / 2 < t; omega⟩ | exact ⟨(m1, c, t / 2), rfl, rfl, bc_next h2' hI (.inr ⟨Nat.eq_zero_of_not_pos fun z => h3 (Int.ofNat_lt.mpr z), rfl, rfl⟩), by show t / 2 < t; omega⟩
      · try simp only [decide_eq_true_eq, decide_eq_false_iff_not, Bool.not_eq_true', Bool.not_eq_false'] at h3
        refine WS.nil ?_
        refine Then.next ?_
        refine WS.cons (WS1.aug rfl ?_ (loc_of (by assumption) rfl))
        refine EV.int ?_
        refine IopV.fdivN (a := t) (b := 2) (k := 2) (by decide) (by decide) (by decide) ?_
        refine Then.next ?_
        refine WS.nil ?_
        first | exact ⟨(m1 / 2 ^ t, c + t, t / 2), rfl, rfl, bc_next h2' hI (.inl ⟨Int.ofNat_lt.mp h3, rfl, rfl⟩), by show t / 2 < t; omega⟩ | exact ⟨(m1, c, t / 2), rfl, rfl, bc_next h2' hI (.inr ⟨Nat.eq_zero_of_not_pos fun z => h3 (Int.ofNat_lt.mpr z), rfl, rfl⟩), by show t / 2 < t; omega⟩
    · try simp only [decide_eq_true_eq, decide_eq_false_iff_not, Bool.not_eq_true', Bool.not_eq_false'] at h2
      have ht : t = 0 := Nat.eq_zero_of_not_pos fun z => h2 (Int.ofNat_lt.mpr z)
      subst ht
      have he := bc_end hI
      refine Then.next ?_
      refine WS.cons (WS1.ret ?_)
      refine EV.bin ?_
      refine EV.name rfl ?_ (loc_of (by assumption) rfl)
      refine EV.ife ?_
      refine TV.cmp ?_
      refine EV.name rfl ?_ (loc_of (by assumption) rfl)
      refine EV.int ?_
      refine CmpV.gt ?_
      refine ⟨_, rfl, ?_⟩
      refine ⟨fun h3 => ?_, fun h3 => ?_⟩
      · try simp only [decide_eq_true_eq, decide_eq_false_iff_not, Bool.not_eq_true', Bool.not_eq_false'] at h3
        refine EV.int ?_
        refine OpV.add ?_
        rw [he] at q
        first
        | (rw [if_pos (Int.ofNat_lt.mp h3)] at q; exact q)
        | (rw [if_neg (fun z => h3 (Int.ofNat_lt.mpr z))] at q; exact q)
        | (rw [if_pos (Int.ofNat_lt.mp h4)] at q; exact q)
        | (rw [if_neg (fun z => h4 (Int.ofNat_lt.mpr z))] at q; exact q)
      · try simp only [decide_eq_true_eq, decide_eq_false_iff_not, Bool.not_eq_true', Bool.not_eq_false'] at h3
        refine EV.int ?_
        refine OpV.add ?_
        rw [he] at q
        first
        | (rw [if_pos (Int.ofNat_lt.mp h3)] at q; exact q)
        | (rw [if_neg (fun z => h3 (Int.ofNat_lt.mpr z))] at q; exact q)
        | (rw [if_pos (Int.ofNat_lt.mp h4)] at q; exact q)
        | (rw [if_neg (fun z => h4 (Int.ofNat_lt.mpr z))] at q; exact q)

theorem round_shift_ (hW : IsW X.W) (hd : 1 ≤ X.d) {m sh : Nat} {rest : Bool} (hm : Bd 5000 (m : Int)) (hs : 1 ≤ sh) (hs2 : sh ≤ 100000)
    (q : Q (.int (rsh m sh rest : Int)) σ) : CallV X (.ref 119) [.int (m : Int), .int (sh : Int), .bool rest] σ Q := by
  refine CallV.def hW.K ["m", "shift", "rest"] 0 rfl rfl (bind3 _ _ _ (fun _ _ _ => rfl)) (by decide) (by decide) (by omega) (by decide) rfl rfl rfl ?_
  intro X' e1 e2 e3
  have hW' : IsW X'.W := e1 ▸ hW
  clear hW
  refine WS.cons (WS1.ite ?_)
  refine TV.cmp ?_
  refine EV.name rfl ?_ (loc_of (by assumption) rfl)
  refine EV.int ?_
  refine CmpV.le ?_
  refine ⟨_, rfl, ?_⟩
  refine ⟨fun h1 => ?_, fun h1 => ?_⟩
  · try simp only [decide_eq_true_eq, decide_eq_false_iff_not, Bool.not_eq_true', Bool.not_eq_false'] at h1
    exact absurd h1 (by omega)
  · try simp only [decide_eq_true_eq, decide_eq_false_iff_not, Bool.not_eq_true', Bool.not_eq_false'] at h1
    refine WS.nil ?_
    refine Then.next ?_
    refine WS.cons (WS1.asg ?_ (loc_of (by assumption) rfl))
    refine EV.bin ?_
    refine EV.name rfl ?_ (loc_of (by assumption) rfl)
    refine EV.name rfl ?_ (loc_of (by assumption) rfl)
    refine OpV.shrN (a := m) (n := sh) ?_
    refine Then.next ?_
    have hlow : (m : Int) - ((m / 2 ^ sh : Nat) : Int) * 2 ^ ((sh : Int)).toNat = ((m % 2 ^ sh : Nat) : Int) := by
      rw [Int.toNat_natCast]
      have := Nat.div_add_mod m (2 ^ sh)
      have e2 : ((m / 2 ^ sh : Nat) : Int) * 2 ^ sh = ((2 ^ sh * (m / 2 ^ sh) : Nat) : Int) := by push_cast; rw [Int.mul_comm]
      rw [e2]
      omega
    have hsub : (sh : Int) - 1 = ((sh - 1 : Nat) : Int) := by omega
    have hhalf : (1 : Int) * 2 ^ (((sh - 1 : Nat) : Int)).toNat = ((2 ^ (sh - 1) : Nat) : Int) := by rw [Int.toNat_natCast]; push_cast; rw [Int.one_mul]
    have hr : rsh m sh rest = if 2 ^ (sh - 1) < m % 2 ^ sh ∨ (m % 2 ^ sh = 2 ^ (sh - 1) ∧ (rest = true ∨ m / 2 ^ sh % 2 = 1)) then m / 2 ^ sh + 1 else m / 2 ^ sh := rfl
    refine WS.cons (WS1.asg ?_ (loc_of (by assumption) rfl))
    refine EV.bin ?_
    refine EV.name rfl ?_ (loc_of (by assumption) rfl)
    refine EV.bin ?_
    refine EV.name rfl ?_ (loc_of (by assumption) rfl)
    refine EV.name rfl ?_ (loc_of (by assumption) rfl)
    refine OpV.shl (Int.natCast_nonneg _) (by omega) (hm.of_le (Int.natCast_nonneg _) (Int.ofNat_le.mpr (Nat.div_le_self _ _))) (by omega) ?_
    refine OpV.subE hlow ?_
    refine Then.next ?_
    refine WS.cons (WS1.asg ?_ (loc_of (by assumption) rfl))
    refine EV.bin ?_
    refine EV.int ?_
    refine EV.bin ?_
    refine EV.name rfl ?_ (loc_of (by assumption) rfl)
    refine EV.int ?_
    refine OpV.subE hsub ?_
    refine OpV.shl (Int.natCast_nonneg (sh - 1)) (by omega) (Bd.nat (k := 2) (n := 1) (by decide)) (by omega) ?_
    refine Then.next ?_
    rw [hhalf]
    refine WS.cons (WS1.ite ?_)
    refine TV.or ?_
    refine TV.cmp ?_
    refine EV.name rfl ?_ (loc_of (by assumption) rfl)
    refine EV.name rfl ?_ (loc_of (by assumption) rfl)
    refine CmpV.gt ?_
    refine ⟨_, rfl, ?_⟩
    refine ⟨fun h2 => ?_, fun h2 => ?_⟩
    · try simp only [decide_eq_true_eq, decide_eq_false_iff_not, Bool.not_eq_true', Bool.not_eq_false'] at h2
      refine ⟨fun _ => ?_, fun h => absurd h (by decide)⟩
      refine WS.cons (WS1.ret ?_)
      refine EV.bin ?_
      refine EV.name rfl ?_ (loc_of (by assumption) rfl)
      refine EV.int ?_
      refine OpV.add ?_
      refine qint ?_ q
      rw [hr, if_pos ?_]
      · rfl
      · first
        | exact .inl (Int.ofNat_lt.mp h2)
        | exact .inr ⟨Int.ofNat_inj.mp h3, .inl h4⟩
        | exact .inr ⟨Int.ofNat_inj.mp h3, .inr (Int.ofNat_inj.mp h5)⟩
    · try simp only [decide_eq_true_eq, decide_eq_false_iff_not, Bool.not_eq_true', Bool.not_eq_false'] at h2
      refine TV.or ?_
      refine TV.and ?_
      refine TV.cmp ?_
      refine EV.name rfl ?_ (loc_of (by assumption) rfl)
      refine EV.name rfl ?_ (loc_of (by assumption) rfl)
      refine CmpV.eq ?_
      refine ⟨_, rfl, ?_⟩
      refine ⟨fun h3 => ?_, fun h3 => ?_⟩
      · try simp only [decide_eq_true_eq, decide_eq_false_iff_not, Bool.not_eq_true', Bool.not_eq_false'] at h3
        refine TV.and ?_
        refine TV.or ?_
        refine TV.plain ?_
        refine EV.name rfl ?_ (loc_of (by assumption) rfl)
        refine TrV.bool ?_
        refine ⟨fun h4 => ?_, fun h4 => ?_⟩
        · try simp only [decide_eq_true_eq, decide_eq_false_iff_not, Bool.not_eq_true', Bool.not_eq_false'] at h4
          refine ⟨fun _ => ?_, fun h => absurd h (by decide)⟩
          refine TV.and_nil ?_
          refine ⟨fun _ => ?_, fun h => absurd h (by decide)⟩
          refine ⟨fun _ => ?_, fun h => absurd h (by decide)⟩
          refine WS.cons (WS1.ret ?_)
          refine EV.bin ?_
          refine EV.name rfl ?_ (loc_of (by assumption) rfl)
          refine EV.int ?_
          refine OpV.add ?_
          refine qint ?_ q
          rw [hr, if_pos ?_]
          · rfl
          · first
            | exact .inl (Int.ofNat_lt.mp h2)
            | exact .inr ⟨Int.ofNat_inj.mp h3, .inl h4⟩
            | exact .inr ⟨Int.ofNat_inj.mp h3, .inr (Int.ofNat_inj.mp h5)⟩
        · try simp only [decide_eq_true_eq, decide_eq_false_iff_not, Bool.not_eq_true', Bool.not_eq_false'] at h4
          refine TV.or ?_
          refine TV.cmp ?_
          refine EV.bin ?_
          refine EV.name rfl ?_ (loc_of (by assumption) rfl)
          refine EV.int ?_
          refine OpV.fmodN (a := m / 2 ^ sh) (b := 2) (by decide) ?_
          refine EV.int ?_
          refine CmpV.eq ?_
          refine ⟨_, rfl, ?_⟩
          refine ⟨fun h5 => ?_, fun h5 => ?_⟩
          · try simp only [decide_eq_true_eq, decide_eq_false_iff_not, Bool.not_eq_true', Bool.not_eq_false'] at h5
            refine ⟨fun _ => ?_, fun h => absurd h (by decide)⟩
            refine TV.and_nil ?_
            refine ⟨fun _ => ?_, fun h => absurd h (by decide)⟩
            refine ⟨fun _ => ?_, fun h => absurd h (by decide)⟩
            refine WS.cons (WS1.ret ?_)
            refine EV.bin ?_
            refine EV.name rfl ?_ (loc_of (by assumption) rfl)
            refine EV.int ?_
            refine OpV.add ?_
            refine qint ?_ q
            rw [hr, if_pos ?_]
            · rfl
            · first
              | exact .inl (Int.ofNat_lt.mp h2)
              | exact .inr ⟨Int.ofNat_inj.mp h3, .inl h4⟩
              | exact .inr ⟨Int.ofNat_inj.mp h3, .inr (Int.ofNat_inj.mp h5)⟩
          · try simp only [decide_eq_true_eq, decide_eq_false_iff_not, Bool.not_eq_true', Bool.not_eq_false'] at h5
            refine TV.or_nil ?_
            refine ⟨fun h => absurd h (by decide), fun _ => ?_⟩
            refine ⟨fun h => absurd h (by decide), fun _ => ?_⟩
            refine TV.or_nil ?_
            refine ⟨fun h => absurd h (by decide), fun _ => ?_⟩
            refine WS.nil ?_
            refine Then.next ?_
            refine WS.cons (WS1.ret ?_)
            refine EV.name rfl ?_ (loc_of (by assumption) rfl)
            refine qint ?_ q
            rw [hr, if_neg ?_]
            rintro (z | ⟨z1, z2⟩)
            · exact h2 (Int.ofNat_lt.mpr z)
            · first
              | exact h3 (Int.ofNat_inj.mpr z1)
              | exact z2.elim (fun z => by rw [h4] at z; cases z) (fun z => h5 (Int.ofNat_inj.mpr z))
      · try simp only [decide_eq_true_eq, decide_eq_false_iff_not, Bool.not_eq_true', Bool.not_eq_false'] at h3
        refine ⟨fun h => absurd h (by decide), fun _ => ?_⟩
        refine TV.or_nil ?_
        refine ⟨fun h => absurd h (by decide), fun _ => ?_⟩
        refine WS.nil ?_
        refine Then.next ?_
        refine WS.cons (WS1.ret ?_)
        refine EV.name rfl ?_ (loc_of (by assumption) rfl)
        refine qint ?_ q
        rw [hr, if_neg ?_]
        rintro (z | ⟨z1, z2⟩)
        · exact h2 (Int.ofNat_lt.mpr z)
        · first
          | exact h3 (Int.ofNat_inj.mpr z1)
          | exact z2.elim (fun z => by rw [h4] at z; cases z) (fun z => h5 (Int.ofNat_inj.mpr z))

theorem pack_ (hW : IsW X.W) (hd : 3 ≤ X.d) (hF : OkF eb fb) {s m sh p : Nat} {e : Int} {rest : Bool} (hs : s ≤ 1) (hm0 : 0 < m) (hm : Bd 5000 (m : Int))
    (hpl : (if -(E0 eb fb : Int) > e + (bl m : Int) - (fb : Int) - 1 then -(E0 eb fb : Int) else e + (bl m : Int) - (fb : Int) - 1) = (p : Int) - (E0 eb fb : Int))
    (hsh : (p : Int) - (E0 eb fb : Int) - e = (sh : Int)) (hs1 : 1 ≤ sh) (hs2 : sh ≤ 100000) (hk1 : rsh m sh rest ≤ 2 ^ fb * 2) (hk2 : 0 < p → 2 ^ fb ≤ rsh m sh rest)
    (q : Q (.int ((s * 2 ^ eb * 2 ^ fb + (if p * 2 ^ fb + rsh m sh rest < (2 ^ eb - 1) * 2 ^ fb then p * 2 ^ fb + rsh m sh rest else (2 ^ eb - 1) * 2 ^ fb) : Nat) : Int)) σ) : CallV X (.ref 127) [.form (frm eb fb), .int (s : Int), .int (m : Int), .int e, .bool rest] σ Q := by
  refine CallV.def hW.K ["form", "sign", "m", "e", "rest"] 2 rfl rfl (bind5d _ _ _ _ _ rfl rfl rfl (fun _ _ _ _ _ => ⟨_, rfl, rfl⟩)) (by decide) (by decide) (by omega) (by decide) rfl rfl rfl ?_
  intro X' e1 e2 e3
  have hW' : IsW X'.W := e1 ▸ hW
  clear hW
  refine WS.cons (WS1.ite ?_)
  refine TV.cmp ?_
  refine EV.name rfl ?_ (loc_of (by assumption) rfl)
  refine EV.int ?_
  refine CmpV.eq ?_
  refine ⟨_, rfl, ?_⟩
  refine ⟨fun h1 => ?_, fun h1 => ?_⟩
  · try simp only [decide_eq_true_eq, decide_eq_false_iff_not, Bool.not_eq_true', Bool.not_eq_false'] at h1
    exact absurd (Int.ofNat_inj.mp (h1 : (m : Int) = ((0 : Nat) : Int))) (by omega)
  · try simp only [decide_eq_true_eq, decide_eq_false_iff_not, Bool.not_eq_true', Bool.not_eq_false'] at h1
    refine WS.nil ?_
    refine Then.next ?_
    refine WS.cons (WS1.asg ?_ (loc_of (by assumption) rfl))
    refine EV.callB (g_max hW') (by boot_by_name) (loc_of (by assumption) rfl) ?_
    refine EVL.cons ?_
    refine EV.bin ?_
    refine EV.bin ?_
    refine EV.bin ?_
    refine EV.name rfl ?_ (loc_of (by assumption) rfl)
    refine EV.callF (g_bit_count hW') (k_bit_count hW') (loc_of (by assumption) rfl) ?_
    refine EVL.cons ?_
    refine EV.name rfl ?_ (loc_of (by assumption) rfl)
    refine EVL.nil ?_
    refine bit_count_ hW' (by omega) hm ?_
    refine OpV.add ?_
    refine EV.attr (formK hW') rfl rfl ?_ (loc_of (by assumption) rfl)
    refine OpV.sub ?_
    refine EV.int ?_
    refine OpV.sub ?_
    refine EVL.cons ?_
    refine EV.attr (formK hW') rfl rfl ?_ (loc_of (by assumption) rfl)
    refine EVL.nil ?_
    refine CallV.maxE hpl ?_
    refine Then.next ?_
    refine WS.cons (WS1.asg ?_ (loc_of (by assumption) rfl))
    refine EV.callF (g_round_shift hW') (k_round_shift hW') (loc_of (by assumption) rfl) ?_
    refine EVL.cons ?_
    refine EV.name rfl ?_ (loc_of (by assumption) rfl)
    refine EVL.cons ?_
    refine EV.bin ?_
    refine EV.name rfl ?_ (loc_of (by assumption) rfl)
    refine EV.name rfl ?_ (loc_of (by assumption) rfl)
    refine OpV.subE hsh ?_
    refine EVL.cons ?_
    refine EV.name rfl ?_ (loc_of (by assumption) rfl)
    refine EVL.nil ?_
    refine round_shift_ hW' (by omega) hm hs1 hs2 ?_
    refine Then.next ?_
    have hH : 0 < 2 ^ fb := Nat.pow_pos (by decide)
    have hT := top_ge hF
    have hTH : (2 ^ eb - 1) * 2 ^ fb = 2 ^ eb * 2 ^ fb - 2 ^ fb := by rw [Nat.sub_mul, Nat.one_mul]
    generalize hk : rsh m sh rest = k at *
    refine WS.cons (WS1.ite ?_)
    refine TV.cmp ?_
    refine EV.name rfl ?_ (loc_of (by assumption) rfl)
    refine EV.bin ?_
    refine EV.attr (formK hW') rfl rfl ?_ (loc_of (by assumption) rfl)
    refine EV.int ?_
    refine OpV.shlN (a := 2 ^ fb) (n := 1) (k := 24) (by omega) (Nat.lt_of_le_of_lt (hid_le hF) (by decide)) (by omega) ?_
    refine CmpV.eq ?_
    refine ⟨_, rfl, ?_⟩
    refine ⟨fun h2 => ?_, fun h2 => ?_⟩
    · try simp only [decide_eq_true_eq, decide_eq_false_iff_not, Bool.not_eq_true', Bool.not_eq_false'] at h2
      refine WS.cons (WS1.asg ?_ (loc_of (by assumption) rfl))
      refine EV.attr (formK hW') rfl rfl ?_ (loc_of (by assumption) rfl)
      refine Then.next ?_
      refine WS.cons (WS1.aug rfl ?_ (loc_of (by assumption) rfl))
      refine EV.int ?_
      refine IopV.add ?_
      refine Then.next ?_
      refine WS.nil ?_
      refine Then.next ?_
      refine WS.cons (WS1.ite ?_)
      refine TV.cmp ?_
      refine EV.name rfl ?_ (loc_of (by assumption) rfl)
      refine EV.attr (formK hW') rfl rfl ?_ (loc_of (by assumption) rfl)
      refine CmpV.lt ?_
      refine ⟨_, rfl, ?_⟩
      refine ⟨fun h3 => ?_, fun h3 => ?_⟩
      · try simp only [decide_eq_true_eq, decide_eq_false_iff_not, Bool.not_eq_true', Bool.not_eq_false'] at h3
        first
        | exact absurd h3 (by show ¬ ((2 ^ fb : Nat) : Int) < ((2 ^ fb : Nat) : Int); omega)
        | (have h3' : k < 2 ^ fb := Int.ofNat_lt.mp h3
           have hp0 : p = 0 := by
             rcases Nat.eq_zero_or_pos p with z | z
             · exact z
             · have := hk2 z; omega
           have h3'' : k < (2 ^ eb - 1) * 2 ^ fb := by
             have : 1 * 2 ^ fb ≤ (2 ^ eb - 1) * 2 ^ fb := Nat.mul_le_mul_right _ (by omega)
             omega
           refine WS.cons (WS1.ret ?_)
           refine EV.callF (g_join_fields hW') (k_join_fields hW') (loc_of (by assumption) rfl) ?_
           refine EVL.cons ?_
           refine EV.name rfl ?_ (loc_of (by assumption) rfl)
           refine EVL.cons ?_
           refine EV.name rfl ?_ (loc_of (by assumption) rfl)
           refine EVL.cons ?_
           refine EV.int ?_
           refine EVL.cons ?_
           refine EV.name rfl ?_ (loc_of (by assumption) rfl)
           refine EVL.nil ?_
           refine join_fields_ (e := 0) hW' (by omega) hF hs (by omega) ?_
           refine qint ?_ q
           rw [hp0, Nat.zero_mul, Nat.zero_add, if_pos h3'', Nat.add_zero])
      · try simp only [decide_eq_true_eq, decide_eq_false_iff_not, Bool.not_eq_true', Bool.not_eq_false'] at h3
        refine WS.nil ?_
        refine Then.next ?_
        have hexp : ∀ pl : Int, ((k = 2 ^ fb * 2 ∧ pl = (p : Int) - (E0 eb fb : Int) + 1) ∨ (k ≠ 2 ^ fb * 2 ∧ pl = (p : Int) - (E0 eb fb : Int))) → pl - (frm eb fb).least + 1 = ((if k = 2 ^ fb * 2 then p + 2 else p + 1 : Nat) : Int) := by
          intro pl hpl2
          show pl - (-(E0 eb fb : Int)) + 1 = _
          rcases hpl2 with ⟨z1, z2⟩ | ⟨z1, z2⟩
          · rw [if_pos z1, z2]; push_cast; omega
          · rw [if_neg z1, z2]; push_cast; omega
        refine WS.cons (WS1.asg ?_ (loc_of (by assumption) rfl))
        refine EV.bin ?_
        refine EV.bin ?_
        refine EV.name rfl ?_ (loc_of (by assumption) rfl)
        refine EV.attr (formK hW') rfl rfl ?_ (loc_of (by assumption) rfl)
        refine OpV.sub ?_
        refine EV.int ?_
        refine OpV.addE (c := ((if k = 2 ^ fb * 2 then p + 2 else p + 1 : Nat) : Int)) (hexp _ (by first | exact .inl ⟨Int.ofNat_inj.mp h2, rfl⟩ | exact .inr ⟨fun z => h2 (Int.ofNat_inj.mpr z), rfl⟩)) ?_
        refine Then.next ?_
        refine WS.cons (WS1.ite ?_)
        refine TV.cmp ?_
        refine EV.name rfl ?_ (loc_of (by assumption) rfl)
        refine EV.attr (formK hW') rfl rfl ?_ (loc_of (by assumption) rfl)
        refine CmpV.ge ?_
        refine ⟨_, rfl, ?_⟩
        refine ⟨fun h4 => ?_, fun h4 => ?_⟩
        · try simp only [decide_eq_true_eq, decide_eq_false_iff_not, Bool.not_eq_true', Bool.not_eq_false'] at h4
          refine WS.cons (WS1.ret ?_)
          refine EV.callF (g_infinity hW') (k_infinity hW') (loc_of (by assumption) rfl) ?_
          refine EVL.cons ?_
          refine EV.name rfl ?_ (loc_of (by assumption) rfl)
          refine EVL.cons ?_
          refine EV.name rfl ?_ (loc_of (by assumption) rfl)
          refine EVL.nil ?_
          refine infinity_ hW' (by omega) hF hs ?_
          refine qint ?_ q
          have h4' : 2 ^ eb - 1 ≤ (if k = 2 ^ fb * 2 then p + 2 else p + 1) := Int.ofNat_le.mp h4
          rw [if_neg ?_]
          · rw [Nat.add_mul]
          · have h5 := Nat.mul_le_mul_right (2 ^ fb) h4'
            split at h5
            · rw [Nat.add_mul p] at h5; omega
            · have hk3 : 2 ^ fb ≤ k := by
                rcases Nat.lt_or_ge k (2 ^ fb) with z | z
                · first | exact absurd (Int.ofNat_lt.mpr z) h3 | (have := Int.ofNat_inj.mp h2; omega)
                · exact z
              rw [Nat.add_mul p, Nat.one_mul] at h5; omega
          -- done
        · try simp only [decide_eq_true_eq, decide_eq_false_iff_not, Bool.not_eq_true', Bool.not_eq_false'] at h4
          refine WS.nil ?_
          refine Then.next ?_
          refine WS.cons (WS1.ret ?_)
          refine EV.callF (g_join_fields hW') (k_join_fields hW') (loc_of (by assumption) rfl) ?_
          refine EVL.cons ?_
          refine EV.name rfl ?_ (loc_of (by assumption) rfl)
          refine EVL.cons ?_
          refine EV.name rfl ?_ (loc_of (by assumption) rfl)
          refine EVL.cons ?_
          refine EV.name rfl ?_ (loc_of (by assumption) rfl)
          refine EVL.cons ?_
          refine EV.bin ?_
          refine EV.name rfl ?_ (loc_of (by assumption) rfl)
          refine EV.attr (formK hW') rfl rfl ?_ (loc_of (by assumption) rfl)
          refine OpV.sub ?_
          refine EVL.nil ?_
          have h4' : (if k = 2 ^ fb * 2 then p + 2 else p + 1) < 2 ^ eb - 1 := by
            rcases Nat.lt_or_ge (if k = 2 ^ fb * 2 then p + 2 else p + 1) (2 ^ eb - 1) with z | z
            · exact z
            · exact absurd (Int.ofNat_le.mpr z) h4
          first
          | (have hkk := Int.ofNat_inj.mp h2
             rw [show (frm eb fb).hidden - (frm eb fb).hidden = ((0 : Nat) : Int) from Int.sub_self _]
             refine join_fields_ (r := 0) hW' (by omega) hF hs (by omega) (qint ?_ q)
             rw [if_pos hkk] at h4'
             rw [if_pos hkk, hkk]
             have h5 := Nat.mul_le_mul_right (2 ^ fb) (Nat.le_of_lt_succ (Nat.lt_succ_of_lt h4'))
             have h6 : (p + 2 + 1) * 2 ^ fb ≤ (2 ^ eb - 1) * 2 ^ fb := Nat.mul_le_mul_right _ h4'
             rw [Nat.add_mul (p + 2), Nat.add_mul p] at h6
             rw [if_pos (by omega), Nat.add_mul, Nat.add_mul p]
             omega)
          | (have hkk : k ≠ 2 ^ fb * 2 := fun z => h2 (Int.ofNat_inj.mpr z)
             have hk3 : 2 ^ fb ≤ k := by
               rcases Nat.lt_or_ge k (2 ^ fb) with z | z
               · exact absurd (Int.ofNat_lt.mpr z) h3
               · exact z
             rw [show (k : Int) - (frm eb fb).hidden = ((k - 2 ^ fb : Nat) : Int) from by show (k : Int) - ((2 ^ fb : Nat) : Int) = _; omega]
             refine join_fields_ (r := k - 2 ^ fb) hW' (by omega) hF hs (by omega) (qint ?_ q)
             rw [if_neg hkk] at h4'
             rw [if_neg hkk]
             have h6 : (p + 1 + 1) * 2 ^ fb ≤ (2 ^ eb - 1) * 2 ^ fb := Nat.mul_le_mul_right _ h4'
             rw [Nat.add_mul (p + 1), Nat.add_mul p] at h6
             rw [if_pos (by omega), Nat.add_mul, Nat.add_mul p]
             omega)
          -- done
    · try simp only [decide_eq_true_eq, decide_eq_false_iff_not, Bool.not_eq_true', Bool.not_eq_false'] at h2
      refine WS.nil ?_
      refine Then.next ?_
      refine WS.cons (WS1.ite ?_)
      refine TV.cmp ?_
      refine EV.name rfl ?_ (loc_of (by assumption) rfl)
      refine EV.attr (formK hW') rfl rfl ?_ (loc_of (by assumption) rfl)
      refine CmpV.lt ?_
      refine ⟨_, rfl, ?_⟩
      refine ⟨fun h3 => ?_, fun h3 => ?_⟩
      · try simp only [decide_eq_true_eq, decide_eq_false_iff_not, Bool.not_eq_true', Bool.not_eq_false'] at h3
        first
        | exact absurd h3 (by show ¬ ((2 ^ fb : Nat) : Int) < ((2 ^ fb : Nat) : Int); omega)
        | (have h3' : k < 2 ^ fb := Int.ofNat_lt.mp h3
           have hp0 : p = 0 := by
             rcases Nat.eq_zero_or_pos p with z | z
             · exact z
             · have := hk2 z; omega
           have h3'' : k < (2 ^ eb - 1) * 2 ^ fb := by
             have : 1 * 2 ^ fb ≤ (2 ^ eb - 1) * 2 ^ fb := Nat.mul_le_mul_right _ (by omega)
             omega
           refine WS.cons (WS1.ret ?_)
           refine EV.callF (g_join_fields hW') (k_join_fields hW') (loc_of (by assumption) rfl) ?_
           refine EVL.cons ?_
           refine EV.name rfl ?_ (loc_of (by assumption) rfl)
           refine EVL.cons ?_
           refine EV.name rfl ?_ (loc_of (by assumption) rfl)
           refine EVL.cons ?_
           refine EV.int ?_
           refine EVL.cons ?_
           refine EV.name rfl ?_ (loc_of (by assumption) rfl)
           refine EVL.nil ?_
           refine join_fields_ (e := 0) hW' (by omega) hF hs (by omega) ?_
           refine qint ?_ q
           rw [hp0, Nat.zero_mul, Nat.zero_add, if_pos h3'', Nat.add_zero])
      · try simp only [decide_eq_true_eq, decide_eq_false_iff_not, Bool.not_eq_true', Bool.not_eq_false'] at h3
        refine WS.nil ?_
        refine Then.next ?_
        have hexp : ∀ pl : Int, ((k = 2 ^ fb * 2 ∧ pl = (p : Int) - (E0 eb fb : Int) + 1) ∨ (k ≠ 2 ^ fb * 2 ∧ pl = (p : Int) - (E0 eb fb : Int))) → pl - (frm eb fb).least + 1 = ((if k = 2 ^ fb * 2 then p + 2 else p + 1 : Nat) : Int) := by
          intro pl hpl2
          show pl - (-(E0 eb fb : Int)) + 1 = _
          rcases hpl2 with ⟨z1, z2⟩ | ⟨z1, z2⟩
          · rw [if_pos z1, z2]; push_cast; omega
          · rw [if_neg z1, z2]; push_cast; omega
        refine WS.cons (WS1.asg ?_ (loc_of (by assumption) rfl))
        refine EV.bin ?_
        refine EV.bin ?_
        refine EV.name rfl ?_ (loc_of (by assumption) rfl)
        refine EV.attr (formK hW') rfl rfl ?_ (loc_of (by assumption) rfl)
        refine OpV.sub ?_
        refine EV.int ?_
        refine OpV.addE (c := ((if k = 2 ^ fb * 2 then p + 2 else p + 1 : Nat) : Int)) (hexp _ (by first | exact .inl ⟨Int.ofNat_inj.mp h2, rfl⟩ | exact .inr ⟨fun z => h2 (Int.ofNat_inj.mpr z), rfl⟩)) ?_
        refine Then.next ?_
        refine WS.cons (WS1.ite ?_)
        refine TV.cmp ?_
        refine EV.name rfl ?_ (loc_of (by assumption) rfl)
        refine EV.attr (formK hW') rfl rfl ?_ (loc_of (by assumption) rfl)
        refine CmpV.ge ?_
        refine ⟨_, rfl, ?_⟩
        refine ⟨fun h4 => ?_, fun h4 => ?_⟩
        · try simp only [decide_eq_true_eq, decide_eq_false_iff_not, Bool.not_eq_true', Bool.not_eq_false'] at h4
          refine WS.cons (WS1.ret ?_)
          refine EV.callF (g_infinity hW') (k_infinity hW') (loc_of (by assumption) rfl) ?_
          refine EVL.cons ?_
          refine EV.name rfl ?_ (loc_of (by assumption) rfl)
          refine EVL.cons ?_
          refine EV.name rfl ?_ (loc_of (by assumption) rfl)
          refine EVL.nil ?_
          refine infinity_ hW' (by omega) hF hs ?_
          refine qint ?_ q
          have h4' : 2 ^ eb - 1 ≤ (if k = 2 ^ fb * 2 then p + 2 else p + 1) := Int.ofNat_le.mp h4
          rw [if_neg ?_]
          · rw [Nat.add_mul]
          · have h5 := Nat.mul_le_mul_right (2 ^ fb) h4'
            split at h5
            · rw [Nat.add_mul p] at h5; omega
            · have hk3 : 2 ^ fb ≤ k := by
                rcases Nat.lt_or_ge k (2 ^ fb) with z | z
                · first | exact absurd (Int.ofNat_lt.mpr z) h3 | (have := Int.ofNat_inj.mp h2; omega)
                · exact z
              rw [Nat.add_mul p, Nat.one_mul] at h5; omega
          -- done
        · try simp only [decide_eq_true_eq, decide_eq_false_iff_not, Bool.not_eq_true', Bool.not_eq_false'] at h4
          refine WS.nil ?_
          refine Then.next ?_
          refine WS.cons (WS1.ret ?_)
          refine EV.callF (g_join_fields hW') (k_join_fields hW') (loc_of (by assumption) rfl) ?_
          refine EVL.cons ?_
          refine EV.name rfl ?_ (loc_of (by assumption) rfl)
          refine EVL.cons ?_
          refine EV.name rfl ?_ (loc_of (by assumption) rfl)
          refine EVL.cons ?_
          refine EV.name rfl ?_ (loc_of (by assumption) rfl)
          refine EVL.cons ?_
          refine EV.bin ?_
          refine EV.name rfl ?_ (loc_of (by assumption) rfl)
          refine EV.attr (formK hW') rfl rfl ?_ (loc_of (by assumption) rfl)
          refine OpV.sub ?_
          refine EVL.nil ?_
          have h4' : (if k = 2 ^ fb * 2 then p + 2 else p + 1) < 2 ^ eb - 1 := by
            rcases Nat.lt_or_ge (if k = 2 ^ fb * 2 then p + 2 else p + 1) (2 ^ eb - 1) with z | z
            · exact z
            · exact absurd (Int.ofNat_le.mpr z) h4
          first
          | (have hkk := Int.ofNat_inj.mp h2
             rw [show (frm eb fb).hidden - (frm eb fb).hidden = ((0 : Nat) : Int) from Int.sub_self _]
             refine join_fields_ (r := 0) hW' (by omega) hF hs (by omega) (qint ?_ q)
             rw [if_pos hkk] at h4'
             rw [if_pos hkk, hkk]
             have h5 := Nat.mul_le_mul_right (2 ^ fb) (Nat.le_of_lt_succ (Nat.lt_succ_of_lt h4'))
             have h6 : (p + 2 + 1) * 2 ^ fb ≤ (2 ^ eb - 1) * 2 ^ fb := Nat.mul_le_mul_right _ h4'
             rw [Nat.add_mul (p + 2), Nat.add_mul p] at h6
             rw [if_pos (by omega), Nat.add_mul, Nat.add_mul p]
             omega)
          | (have hkk : k ≠ 2 ^ fb * 2 := fun z => h2 (Int.ofNat_inj.mpr z)
             have hk3 : 2 ^ fb ≤ k := by
               rcases Nat.lt_or_ge k (2 ^ fb) with z | z
               · exact absurd (Int.ofNat_lt.mpr z) h3
               · exact z
             rw [show (k : Int) - (frm eb fb).hidden = ((k - 2 ^ fb : Nat) : Int) from by show (k : Int) - ((2 ^ fb : Nat) : Int) = _; omega]
             refine join_fields_ (r := k - 2 ^ fb) hW' (by omega) hF hs (by omega) (qint ?_ q)
             rw [if_neg hkk] at h4'
             rw [if_neg hkk]
             have h6 : (p + 1 + 1) * 2 ^ fb ≤ (2 ^ eb - 1) * 2 ^ fb := Nat.mul_le_mul_right _ h4'
             rw [Nat.add_mul (p + 1), Nat.add_mul p] at h6
             rw [if_pos (by omega), Nat.add_mul, Nat.add_mul p]
             omega)
          -- done

end
end Mine

namespace Mine
section
variable {X : Fx} {σ : Led} {Q : PV → Led → Prop} {eb fb : Nat}
theorem CmpV.neN {a b : Nat} (q : Q (.bool (decide (a ≠ b))) σ) : CmpV X .NotEq (.int (a : Int)) (.int (b : Int)) σ Q := CmpV.ne (qbool (decide_eq_decide.mpr ⟨fun h e => h (congrArg _ e), fun h e => h (Int.ofNat_inj.mp e)⟩) q)
theorem CmpV.eqN {a b : Nat} (q : Q (.bool (decide (a = b))) σ) : CmpV X .Eq (.int (a : Int)) (.int (b : Int)) σ Q := CmpV.eq (qbool (decide_eq_decide.mpr ⟨fun e => Int.ofNat_inj.mp e, fun e => congrArg _ e⟩) q)
theorem Bd.lt {k n : Nat} (h : Bd k (n : Int)) : n < 2 ^ k := by unfold Bd at h; rwa [Int.natAbs_natCast] at h
theorem bl_bd {k n : Nat} (h : Bd k (n : Int)) : bl n ≤ k := bl_le_of_lt h.lt

theorem absolute_real_ (hW : IsW X.W) (hd : 3 ≤ X.d) (hF : OkF eb fb) {a : Nat} (hn : ¬ (a / 2 ^ fb % 2 ^ eb = 2 ^ eb - 1 ∧ a % 2 ^ fb ≠ 0))
    (q : Q (.int ((a % (2 ^ eb * 2 ^ fb) : Nat) : Int)) σ) : CallV X (.ref 134) [.form (frm eb fb), .int (a : Int)] σ Q := by
  refine CallV.def hW.K ["form", "a"] 2 rfl rfl (bind2 _ _ (fun _ _ => rfl)) (by decide) (by decide) (by omega) (by decide) rfl rfl rfl ?_
  intro X' e1 e2 e3
  have hW' : IsW X'.W := e1 ▸ hW
  clear hW
  refine WS.cons (WS1.ite ?_)
  refine TV.plain ?_
  refine EV.callF (g_is_not_a_number hW') (k_is_not_a_number hW') (loc_of (by assumption) rfl) ?_
  refine EVL.cons ?_
  refine EV.name rfl ?_ (loc_of (by assumption) rfl)
  refine EVL.cons ?_
  refine EV.name rfl ?_ (loc_of (by assumption) rfl)
  refine EVL.nil ?_
  refine is_not_a_number_ hW' (by omega) hF ?_
  refine TrV.bool ?_
  refine ⟨fun h1 => ?_, fun h1 => ?_⟩
  · try simp only [decide_eq_true_eq, decide_eq_false_iff_not, Bool.not_eq_true', Bool.not_eq_false'] at h1
    exact absurd h1 hn
  · try simp only [decide_eq_true_eq, decide_eq_false_iff_not, Bool.not_eq_true', Bool.not_eq_false'] at h1
    refine WS.nil ?_
    refine Then.next ?_
    refine WS.cons (WS1.unpack (NamesOf.cons (NamesOf.cons (NamesOf.cons NamesOf.nil))) (locs_of (by assumption) (by decide)) ?_ )
    refine EV.callF (g_split_fields hW') (k_split_fields hW') (loc_of (by assumption) rfl) ?_
    refine EVL.cons ?_
    refine EV.name rfl ?_ (loc_of (by assumption) rfl)
    refine EVL.cons ?_
    refine EV.name rfl ?_ (loc_of (by assumption) rfl)
    refine EVL.nil ?_
    refine split_fields_ hW' (by omega) hF ?_
    refine ⟨_, Seq.tup _, rfl, ?_⟩
    refine Then.next ?_
    refine WS.cons (WS1.ret ?_)
    refine EV.callF (g_join_fields hW') (k_join_fields hW') (loc_of (by assumption) rfl) ?_
    refine EVL.cons ?_
    refine EV.name rfl ?_ (loc_of (by assumption) rfl)
    refine EVL.cons ?_
    refine EV.int ?_
    refine EVL.cons ?_
    refine EV.name rfl ?_ (loc_of (by assumption) rfl)
    refine EVL.cons ?_
    refine EV.name rfl ?_ (loc_of (by assumption) rfl)
    refine EVL.nil ?_
    refine join_fields_ (s := 0) hW' (by omega) hF (by omega) (Nat.mod_lt _ (Nat.pow_pos (by decide))) (qint ?_ q)
    rw [Nat.mul_comm (2 ^ eb), Nat.mod_mul, Nat.zero_mul, Nat.zero_add, Nat.mul_comm (2 ^ fb), Nat.add_comm]
    -- done

theorem from_ratio_ (hW : IsW X.W) (hd : 4 ≤ X.d) (hF : OkF eb fb) {s over under : Nat} (hs : s ≤ 1) (ho : 0 < over) (hu : 0 < under) (ho2 : Bd 2000 (over : Int)) (hu2 : Bd 2000 (under : Int))
    (q : Q (.int ((s * 2 ^ eb * 2 ^ fb + rnd fb ((2 ^ eb - 1) * 2 ^ fb) (over * 2 ^ E0 eb fb) under : Nat) : Int)) σ) : CallV X (.ref 142) [.form (frm eb fb), .int (s : Int), .int (over : Int), .int (under : Int)] σ Q := by
  refine CallV.def hW.K ["form", "sign", "over", "under", "e"] 3 rfl rfl (bind4d _ _ _ _ _ rfl rfl rfl (fun _ _ _ _ => ⟨_, rfl, rfl⟩)) (by decide) (by decide) (by omega) (by decide) rfl rfl rfl ?_
  intro X' e1 e2 e3
  have hW' : IsW X'.W := e1 ▸ hW
  clear hW
  have hsf : sft fb over under ≤ 2100 := by unfold sft; have := bl_bd hu2; have := hF.h4; omega
  obtain ⟨key, sh, hsh, hs1, hs2, hrr⟩ := ratio_ok fb (E0 eb fb) over under ho hu
  have hqb : Bd 4100 (quo fb over under : Int) := by
    refine Bd.nat (Nat.lt_of_le_of_lt (Nat.div_le_self _ _) ?_)
    have h1 := Nat.mul_lt_mul_of_lt_of_le ho2.lt (Nat.le_refl (2 ^ sft fb over under)) (Nat.pow_pos (by decide))
    rw [← Nat.pow_add] at h1
    exact Nat.lt_of_lt_of_le h1 (Nat.pow_le_pow_right (by decide) (by omega))
  have hro : rowOf fb (over * 2 ^ E0 eb fb) under ≤ 5000 := by
    unfold rowOf
    have h1 : over * 2 ^ E0 eb fb / under < 2 ^ (2000 + E0 eb fb) := by
      refine Nat.lt_of_le_of_lt (Nat.div_le_self _ _) ?_
      rw [Nat.pow_add]; exact Nat.mul_lt_mul_of_lt_of_le ho2.lt (Nat.le_refl _) (Nat.pow_pos (by decide))
    have := bl_le_of_lt h1
    have := E0_le hF
    omega
  refine WS.cons (WS1.asg ?_ (loc_of (by assumption) rfl))
  refine EV.callB (g_max hW') (by boot_by_name) (loc_of (by assumption) rfl) ?_
  refine EVL.cons ?_
  refine EV.bin ?_
  refine EV.bin ?_
  refine EV.bin ?_
  refine EV.attr (formK hW') rfl rfl ?_ (loc_of (by assumption) rfl)
  refine EV.int ?_
  refine OpV.add ?_
  refine EV.callF (g_bit_count hW') (k_bit_count hW') (loc_of (by assumption) rfl) ?_
  refine EVL.cons ?_
  refine EV.name rfl ?_ (loc_of (by assumption) rfl)
  refine EVL.nil ?_
  refine bit_count_ hW' (by omega) (hu2.mono (by omega)) ?_
  refine OpV.add ?_
  refine EV.callF (g_bit_count hW') (k_bit_count hW') (loc_of (by assumption) rfl) ?_
  refine EVL.cons ?_
  refine EV.name rfl ?_ (loc_of (by assumption) rfl)
  refine EVL.nil ?_
  refine bit_count_ hW' (by omega) (ho2.mono (by omega)) ?_
  refine OpV.sub ?_
  refine EVL.cons ?_
  refine EV.int ?_
  refine EVL.nil ?_
  refine CallV.maxE (c := (sft fb over under : Int)) (by show (if 0 > (fb : Int) + 4 + (bl under : Int) - (bl over : Int) then 0 else (fb : Int) + 4 + (bl under : Int) - (bl over : Int)) = _; unfold sft; split <;> omega) ?_
  refine Then.next ?_
  refine WS.cons (WS1.asg ?_ (loc_of (by assumption) rfl))
  refine EV.bin ?_
  refine EV.bin ?_
  refine EV.name rfl ?_ (loc_of (by assumption) rfl)
  refine EV.name rfl ?_ (loc_of (by assumption) rfl)
  refine OpV.shlN (n := sft fb over under) (k := 2000) (by omega) ho2.lt (by omega) ?_
  refine EV.name rfl ?_ (loc_of (by assumption) rfl)
  refine OpV.fdivN (a := over * 2 ^ sft fb over under) (k := 2000) hu hu2.lt (by omega) ?_
  refine Then.next ?_
  refine WS.cons (WS1.asg ?_ (loc_of (by assumption) rfl))
  refine EV.cmp ?_
  refine EV.bin ?_
  refine EV.name rfl ?_ (loc_of (by assumption) rfl)
  refine EV.name rfl ?_ (loc_of (by assumption) rfl)
  refine OpV.mulN (a := quo fb over under) (k := 4100) (j := 2000) hqb.lt hu2.lt (by omega) (by omega) ?_
  refine EV.bin ?_
  refine EV.name rfl ?_ (loc_of (by assumption) rfl)
  refine EV.name rfl ?_ (loc_of (by assumption) rfl)
  refine OpV.shlN (n := sft fb over under) (k := 2000) (by omega) ho2.lt (by omega) ?_
  refine CmpV.neN (a := quo fb over under * under) ?_
  refine Then.next ?_
  refine WS.cons (WS1.ret ?_)
  refine EV.callF (g_pack hW') (k_pack hW') (loc_of (by assumption) rfl) ?_
  refine EVL.cons ?_
  refine EV.name rfl ?_ (loc_of (by assumption) rfl)
  refine EVL.cons ?_
  refine EV.name rfl ?_ (loc_of (by assumption) rfl)
  refine EVL.cons ?_
  refine EV.name rfl ?_ (loc_of (by assumption) rfl)
  refine EVL.cons ?_
  refine EV.bin ?_
  refine EV.name rfl ?_ (loc_of (by assumption) rfl)
  refine EV.name rfl ?_ (loc_of (by assumption) rfl)
  refine OpV.sub ?_
  refine EVL.cons ?_
  refine EV.name rfl ?_ (loc_of (by assumption) rfl)
  refine EVL.nil ?_
  refine pack_ (m := quo fb over under) hW' (by omega) hF hs (quo_pos ho hu) (hqb.mono (by omega)) key hsh hs1 (by omega) (by rw [hrr]; exact (rne_row hu).1) (by rw [hrr]; exact (rne_row hu).2) (qint ?_ q)
  rw [hrr]; rfl
  -- done

end
end Mine

set_option exponentiation.threshold 5000
namespace Mine
section
variable {X : Fx} {σ : Led} {ρ : Loc} {Q : PV → Led → Prop} {eb fb : Nat}
theorem EV.intN {i : Int} {k pos} {n : Nat} (e : i = (n : Int)) (q : Q (.int (n : Int)) σ) : EV X ρ σ (.Constant (.int i) k pos) Q := EV.int (e ▸ q)
theorem OpV.powZ {b : Nat} {i p : Int} (e : i = (b : Int)) (hb : b < 2 ^ 64) (h0 : 0 ≤ p) (hp : p ≤ 1000000) (q : Q (.int ((b ^ p.toNat : Nat) : Int)) σ) : OpV X .Pow (.int i) (.int p) σ Q := OpV.pow h0 hp (by rw [e, Int.natAbs_natCast]; exact hb) (by rw [e]; exact (Int.natCast_pow b p.toNat) ▸ q)
theorem IopV.shlZ {a k : Nat} {n : Int} (h0 : 0 ≤ n) (hn : n ≤ 1000000) (ha : Bd k (a : Int)) (hk : k ≤ 1000000) (q : Q (.int ((a * 2 ^ n.toNat : Nat) : Int)) σ) : IopV X .LShift (.int (a : Int)) (.int n) σ Q := IopV.shl h0 hn ha hk (qint (by push_cast; rfl) q)
theorem OpV.mulB {a b k j : Nat} (ha : Bd k (a : Int)) (hb : Bd j (b : Int)) (hk : k ≤ 1000000) (hj : j ≤ 1000000) (q : Q (.int ((a * b : Nat) : Int)) σ) : OpV X .Mult (.int (a : Int)) (.int (b : Int)) σ Q := OpV.mul ha hb hk hj q
theorem IopV.mulB {a b k j : Nat} (ha : Bd k (a : Int)) (hb : Bd j (b : Int)) (hk : k ≤ 1000000) (hj : j ≤ 1000000) (q : Q (.int ((a * b : Nat) : Int)) σ) : IopV X .Mult (.int (a : Int)) (.int (b : Int)) σ Q := IopV.mul ha hb hk hj q
theorem OpV.fdivB {a b k : Nat} (h0 : 0 < b) (hb : Bd k (b : Int)) (hk : k ≤ 9000) (q : Q (.int ((a / b : Nat) : Int)) σ) : OpV X .FloorDiv (.int (a : Int)) (.int (b : Int)) σ Q := OpV.fdiv (Int.natCast_pos.mpr h0) hb hk q
theorem OpV.addN {a b : Nat} (q : Q (.int ((a + b : Nat) : Int)) σ) : OpV X .Add (.int (a : Int)) (.int (b : Int)) σ Q := OpV.add q
theorem CmpV.geN {a b : Nat} (q : Q (.bool (decide (b ≤ a))) σ) : CmpV X .GtE (.int (a : Int)) (.int (b : Int)) σ Q := CmpV.ge (qbool (decide_eq_decide.mpr Int.ofNat_le) q)
theorem CmpV.gtN {a b : Nat} (q : Q (.bool (decide (b < a))) σ) : CmpV X .Gt (.int (a : Int)) (.int (b : Int)) σ Q := CmpV.gt (qbool (decide_eq_decide.mpr Int.ofNat_lt) q)
theorem CmpV.ltN {a b : Nat} (q : Q (.bool (decide (a < b))) σ) : CmpV X .Lt (.int (a : Int)) (.int (b : Int)) σ Q := CmpV.lt (qbool (decide_eq_decide.mpr Int.ofNat_lt) q)
theorem pow2_bd {n : Nat} (h : n ≤ 1000) : Bd 1001 ((2 ^ n : Nat) : Int) := Bd.nat (Nat.pow_lt_pow_right (by decide) (by omega))
theorem pow10_bd {n : Nat} (h : n ≤ 1000) : Bd 4001 ((10 ^ n : Nat) : Int) := by
  refine Bd.nat (Nat.lt_of_le_of_lt (Nat.pow_le_pow_left (by decide : 10 ≤ 2 ^ 4) n) ?_)
  rw [← Nat.pow_mul]
  exact Nat.pow_lt_pow_right (by decide) (by omega)
theorem Bd.mulN {k j a b : Nat} (ha : Bd k (a : Int)) (hb : Bd j (b : Int)) : Bd (k + j) ((a * b : Nat) : Int) := ha.mul hb

theorem scaled_floor_ (hW : IsW X.W) (hd : 1 ≤ X.d) {m : Nat} {e p : Int} (hm : Bd 300 (m : Int)) (he : -1000 ≤ e) (he2 : e ≤ 1000) (hp : -1000 ≤ p) (hp2 : p ≤ 1000)
    (q : Q (.tup [.int (sf m e p : Int), .bool (decide (sf m e p * su e p = so m e p))]) σ) : CallV X (.ref 149) [.int (m : Int), .int e, .int p] σ Q := by
  refine CallV.def hW.K ["m", "e", "power"] 0 rfl rfl (bind3 _ _ _ (fun _ _ _ => rfl)) (by decide) (by decide) (by omega) (by decide) rfl rfl rfl ?_
  intro X' e1 e2 e3
  have hW' : IsW X'.W := e1 ▸ hW
  clear hW
  refine WS.cons (WS1.asg ?_ (loc_of (by assumption) rfl))
  refine EV.name rfl ?_ (loc_of (by assumption) rfl)
  refine Then.next ?_
  refine WS.cons (WS1.asg ?_ (loc_of (by assumption) rfl))
  refine EV.intN (n := 1) rfl ?_
  refine Then.next ?_
  refine WS.cons (WS1.ite ?_)
  refine TV.cmp ?_
  refine EV.name rfl ?_ (loc_of (by assumption) rfl)
  refine EV.int ?_
  refine CmpV.ge ?_
  refine ⟨_, rfl, ?_⟩
  refine ⟨fun h1 => ?_, fun h1 => ?_⟩
  · try simp only [decide_eq_true_eq, decide_eq_false_iff_not, Bool.not_eq_true', Bool.not_eq_false'] at h1
    refine WS.cons (WS1.aug rfl ?_ (loc_of (by assumption) rfl))
    refine EV.name rfl ?_ (loc_of (by assumption) rfl)
    refine IopV.shlZ h1 (by omega) hm (by omega) ?_
    refine Then.next ?_
    refine WS.nil ?_
    refine Then.next ?_
    refine WS.cons (WS1.ite ?_)
    refine TV.cmp ?_
    refine EV.name rfl ?_ (loc_of (by assumption) rfl)
    refine EV.int ?_
    refine CmpV.ge ?_
    refine ⟨_, rfl, ?_⟩
    refine ⟨fun h2 => ?_, fun h2 => ?_⟩
    · try simp only [decide_eq_true_eq, decide_eq_false_iff_not, Bool.not_eq_true', Bool.not_eq_false'] at h2
      refine WS.cons (WS1.aug rfl ?_ (loc_of (by assumption) rfl))
      refine EV.bin ?_
      refine EV.int ?_
      refine EV.name rfl ?_ (loc_of (by assumption) rfl)
      refine OpV.powZ (b := 10) rfl (by decide) h2 (by omega) ?_
      refine IopV.mulB (k := 1401) (j := 4001) (by first | exact (hm.mulN (pow2_bd (by omega))).mono (by omega) | exact hm.mono (by omega)) (pow10_bd (by omega)) (by omega) (by omega) ?_
      refine Then.next ?_
      refine WS.nil ?_
      refine Then.next ?_
      have hsp := su_pos e p
      have hsub : Bd 5500 (su e p : Int) := (Bd.mulN (pow2_bd (n := (-e).toNat) (by omega)) (pow10_bd (n := (-p).toNat) (by omega))).mono (by omega)
      have hsob : Bd 5500 (so m e p : Int) := (Bd.mulN (Bd.mulN hm (pow2_bd (n := e.toNat) (by omega))) (pow10_bd (n := p.toNat) (by omega))).mono (by omega)
      have hfb : Bd 5500 (sf m e p : Int) := hsob.of_le (Int.natCast_nonneg _) (Int.ofNat_le.mpr (Nat.div_le_self _ _))
      obtain ⟨hso, hsu⟩ : so m e p = _ ∧ su e p = _ := by first | exact so_pp h1 h2 | exact so_pn h1 h2 | exact so_np h1 h2 | exact so_nn h1 h2
      have hsf : sf m e p = so m e p / su e p := rfl
      rw [hsf, hso, hsu] at hfb q
      rw [hsu] at hsp hsub
      refine WS.cons (WS1.asg ?_ (loc_of (by assumption) rfl))
      refine EV.bin ?_
      refine EV.name rfl ?_ (loc_of (by assumption) rfl)
      refine EV.name rfl ?_ (loc_of (by assumption) rfl)
      refine OpV.fdivB hsp hsub (by omega) ?_
      refine Then.next ?_
      refine WS.cons (WS1.ret ?_)
      refine EV.tuple ?_
      refine EVL.cons ?_
      refine EV.name rfl ?_ (loc_of (by assumption) rfl)
      refine EVL.cons ?_
      refine EV.cmp ?_
      refine EV.bin ?_
      refine EV.name rfl ?_ (loc_of (by assumption) rfl)
      refine EV.name rfl ?_ (loc_of (by assumption) rfl)
      refine OpV.mulB hfb hsub (by omega) (by omega) ?_
      refine EV.name rfl ?_ (loc_of (by assumption) rfl)
      refine CmpV.eqN ?_
      refine EVL.nil ?_
      refine ⟨by simp, ?_⟩
      exact q
    · try simp only [decide_eq_true_eq, decide_eq_false_iff_not, Bool.not_eq_true', Bool.not_eq_false'] at h2
      refine WS.cons (WS1.aug rfl ?_ (loc_of (by assumption) rfl))
      refine EV.bin ?_
      refine EV.int ?_
      refine EV.bin ?_
      refine EV.int ?_
      refine EV.name rfl ?_ (loc_of (by assumption) rfl)
      refine OpV.sub ?_
      refine OpV.powZ (b := 10) rfl (by decide) (by omega) (by omega) ?_
      refine IopV.mulB (k := 1101) (j := 4001) (by first | exact (Bd.mulN (Bd.nat (k := 1) (by decide)) (pow2_bd (by omega))).mono (by omega) | exact (Bd.nat (k := 1) (by decide)).mono (by omega)) (pow10_bd (by omega)) (by omega) (by omega) ?_
      refine Then.next ?_
      refine WS.nil ?_
      refine Then.next ?_
      have hsp := su_pos e p
      have hsub : Bd 5500 (su e p : Int) := (Bd.mulN (pow2_bd (n := (-e).toNat) (by omega)) (pow10_bd (n := (-p).toNat) (by omega))).mono (by omega)
      have hsob : Bd 5500 (so m e p : Int) := (Bd.mulN (Bd.mulN hm (pow2_bd (n := e.toNat) (by omega))) (pow10_bd (n := p.toNat) (by omega))).mono (by omega)
      have hfb : Bd 5500 (sf m e p : Int) := hsob.of_le (Int.natCast_nonneg _) (Int.ofNat_le.mpr (Nat.div_le_self _ _))
      obtain ⟨hso, hsu⟩ : so m e p = _ ∧ su e p = _ := by first | exact so_pp h1 h2 | exact so_pn h1 h2 | exact so_np h1 h2 | exact so_nn h1 h2
      have hsf : sf m e p = so m e p / su e p := rfl
      rw [hsf, hso, hsu] at hfb q
      rw [hsu] at hsp hsub
      refine WS.cons (WS1.asg ?_ (loc_of (by assumption) rfl))
      refine EV.bin ?_
      refine EV.name rfl ?_ (loc_of (by assumption) rfl)
      refine EV.name rfl ?_ (loc_of (by assumption) rfl)
      refine OpV.fdivB hsp hsub (by omega) ?_
      refine Then.next ?_
      refine WS.cons (WS1.ret ?_)
      refine EV.tuple ?_
      refine EVL.cons ?_
      refine EV.name rfl ?_ (loc_of (by assumption) rfl)
      refine EVL.cons ?_
      refine EV.cmp ?_
      refine EV.bin ?_
      refine EV.name rfl ?_ (loc_of (by assumption) rfl)
      refine EV.name rfl ?_ (loc_of (by assumption) rfl)
      refine OpV.mulB hfb hsub (by omega) (by omega) ?_
      refine EV.name rfl ?_ (loc_of (by assumption) rfl)
      refine CmpV.eqN ?_
      refine EVL.nil ?_
      refine ⟨by simp, ?_⟩
      exact q
  · try simp only [decide_eq_true_eq, decide_eq_false_iff_not, Bool.not_eq_true', Bool.not_eq_false'] at h1
    refine WS.cons (WS1.aug rfl ?_ (loc_of (by assumption) rfl))
    refine EV.bin ?_
    refine EV.int ?_
    refine EV.name rfl ?_ (loc_of (by assumption) rfl)
    refine OpV.sub ?_
    refine IopV.shlZ (by omega) (by omega) (Bd.nat (k := 2) (by decide)) (by omega) ?_
    refine Then.next ?_
    refine WS.nil ?_
    refine Then.next ?_
    refine WS.cons (WS1.ite ?_)
    refine TV.cmp ?_
    refine EV.name rfl ?_ (loc_of (by assumption) rfl)
    refine EV.int ?_
    refine CmpV.ge ?_
    refine ⟨_, rfl, ?_⟩
    refine ⟨fun h2 => ?_, fun h2 => ?_⟩
    · try simp only [decide_eq_true_eq, decide_eq_false_iff_not, Bool.not_eq_true', Bool.not_eq_false'] at h2
      refine WS.cons (WS1.aug rfl ?_ (loc_of (by assumption) rfl))
      refine EV.bin ?_
      refine EV.int ?_
      refine EV.name rfl ?_ (loc_of (by assumption) rfl)
      refine OpV.powZ (b := 10) rfl (by decide) h2 (by omega) ?_
      refine IopV.mulB (k := 1401) (j := 4001) (by first | exact (hm.mulN (pow2_bd (by omega))).mono (by omega) | exact hm.mono (by omega)) (pow10_bd (by omega)) (by omega) (by omega) ?_
      refine Then.next ?_
      refine WS.nil ?_
      refine Then.next ?_
      have hsp := su_pos e p
      have hsub : Bd 5500 (su e p : Int) := (Bd.mulN (pow2_bd (n := (-e).toNat) (by omega)) (pow10_bd (n := (-p).toNat) (by omega))).mono (by omega)
      have hsob : Bd 5500 (so m e p : Int) := (Bd.mulN (Bd.mulN hm (pow2_bd (n := e.toNat) (by omega))) (pow10_bd (n := p.toNat) (by omega))).mono (by omega)
      have hfb : Bd 5500 (sf m e p : Int) := hsob.of_le (Int.natCast_nonneg _) (Int.ofNat_le.mpr (Nat.div_le_self _ _))
      obtain ⟨hso, hsu⟩ : so m e p = _ ∧ su e p = _ := by first | exact so_pp h1 h2 | exact so_pn h1 h2 | exact so_np h1 h2 | exact so_nn h1 h2
      have hsf : sf m e p = so m e p / su e p := rfl
      rw [hsf, hso, hsu] at hfb q
      rw [hsu] at hsp hsub
      refine WS.cons (WS1.asg ?_ (loc_of (by assumption) rfl))
      refine EV.bin ?_
      refine EV.name rfl ?_ (loc_of (by assumption) rfl)
      refine EV.name rfl ?_ (loc_of (by assumption) rfl)
      refine OpV.fdivB hsp hsub (by omega) ?_
      refine Then.next ?_
      refine WS.cons (WS1.ret ?_)
      refine EV.tuple ?_
      refine EVL.cons ?_
      refine EV.name rfl ?_ (loc_of (by assumption) rfl)
      refine EVL.cons ?_
      refine EV.cmp ?_
      refine EV.bin ?_
      refine EV.name rfl ?_ (loc_of (by assumption) rfl)
      refine EV.name rfl ?_ (loc_of (by assumption) rfl)
      refine OpV.mulB hfb hsub (by omega) (by omega) ?_
      refine EV.name rfl ?_ (loc_of (by assumption) rfl)
      refine CmpV.eqN ?_
      refine EVL.nil ?_
      refine ⟨by simp, ?_⟩
      exact q
    · try simp only [decide_eq_true_eq, decide_eq_false_iff_not, Bool.not_eq_true', Bool.not_eq_false'] at h2
      refine WS.cons (WS1.aug rfl ?_ (loc_of (by assumption) rfl))
      refine EV.bin ?_
      refine EV.int ?_
      refine EV.bin ?_
      refine EV.int ?_
      refine EV.name rfl ?_ (loc_of (by assumption) rfl)
      refine OpV.sub ?_
      refine OpV.powZ (b := 10) rfl (by decide) (by omega) (by omega) ?_
      refine IopV.mulB (k := 1101) (j := 4001) (by first | exact (Bd.mulN (Bd.nat (k := 1) (by decide)) (pow2_bd (by omega))).mono (by omega) | exact (Bd.nat (k := 1) (by decide)).mono (by omega)) (pow10_bd (by omega)) (by omega) (by omega) ?_
      refine Then.next ?_
      refine WS.nil ?_
      refine Then.next ?_
      have hsp := su_pos e p
      have hsub : Bd 5500 (su e p : Int) := (Bd.mulN (pow2_bd (n := (-e).toNat) (by omega)) (pow10_bd (n := (-p).toNat) (by omega))).mono (by omega)
      have hsob : Bd 5500 (so m e p : Int) := (Bd.mulN (Bd.mulN hm (pow2_bd (n := e.toNat) (by omega))) (pow10_bd (n := p.toNat) (by omega))).mono (by omega)
      have hfb : Bd 5500 (sf m e p : Int) := hsob.of_le (Int.natCast_nonneg _) (Int.ofNat_le.mpr (Nat.div_le_self _ _))
      obtain ⟨hso, hsu⟩ : so m e p = _ ∧ su e p = _ := by first | exact so_pp h1 h2 | exact so_pn h1 h2 | exact so_np h1 h2 | exact so_nn h1 h2
      have hsf : sf m e p = so m e p / su e p := rfl
      rw [hsf, hso, hsu] at hfb q
      rw [hsu] at hsp hsub
      refine WS.cons (WS1.asg ?_ (loc_of (by assumption) rfl))
      refine EV.bin ?_
      refine EV.name rfl ?_ (loc_of (by assumption) rfl)
      refine EV.name rfl ?_ (loc_of (by assumption) rfl)
      refine OpV.fdivB hsp hsub (by omega) ?_
      refine Then.next ?_
      refine WS.cons (WS1.ret ?_)
      refine EV.tuple ?_
      refine EVL.cons ?_
      refine EV.name rfl ?_ (loc_of (by assumption) rfl)
      refine EVL.cons ?_
      refine EV.cmp ?_
      refine EV.bin ?_
      refine EV.name rfl ?_ (loc_of (by assumption) rfl)
      refine EV.name rfl ?_ (loc_of (by assumption) rfl)
      refine OpV.mulB hfb hsub (by omega) (by omega) ?_
      refine EV.name rfl ?_ (loc_of (by assumption) rfl)
      refine CmpV.eqN ?_
      refine EVL.nil ?_
      refine ⟨by simp, ?_⟩
      exact q

theorem decimal_place_ (hW : IsW X.W) (hd : 2 ≤ X.d) {m : Nat} {e : Int} (hm0 : 0 < m) (hm : Bd 300 (m : Int)) (he : -300 ≤ e) (he2 : e ≤ 300)
    (q : ∀ k, DP m e k → Q (.int k) σ) : CallV X (.ref 156) [.int (m : Int), .int e] σ Q := by
  refine CallV.def hW.K ["m", "e"] 1 rfl rfl (bind2 _ _ (fun _ _ => rfl)) (by decide) (by decide) (by omega) (by decide) rfl rfl rfl ?_
  intro X' e1 e2 e3
  have hW' : IsW X'.W := e1 ▸ hW
  clear hW
  refine WS.cons (WS1.asg ?_ (loc_of (by assumption) rfl))
  refine EV.intN (n := 0) rfl ?_
  refine Then.next ?_
  refine WS.cons (WS1.while (α := Nat) (fun k => [(Str.ofString "m", .int (m : Int)), (Str.ofString "e", .int e), (Str.ofString "k", .int (k : Int))]) (fun _ => σ) (fun k => k ≤ 601) (fun k => 601 - k) 0 rfl rfl (by decide) ?_)
  intro k hk
  refine TV.cmp ?_
  refine EV.sub ?_
  refine EV.callF (g_scaled_floor hW') (k_scaled_floor hW') (loc_of (by assumption) rfl) ?_
  refine EVL.cons ?_
  refine EV.name rfl ?_ (loc_of (by assumption) rfl)
  refine EVL.cons ?_
  refine EV.name rfl ?_ (loc_of (by assumption) rfl)
  refine EVL.cons ?_
  refine EV.bin ?_
  refine EV.int ?_
  refine EV.name rfl ?_ (loc_of (by assumption) rfl)
  refine OpV.sub ?_
  refine EVL.nil ?_
  refine scaled_floor_ (m := m) hW' (by omega) hm (by omega) (by omega) (by omega) (by omega) ?_
  refine EV.int ?_
  refine SubV.tup (by decide) (by decide) rfl ?_
  refine EV.intN (n := 10) rfl ?_
  refine CmpV.geN ?_
  refine ⟨_, rfl, ?_⟩
  refine ⟨fun h1 => ?_, fun h1 => ?_⟩
  · try simp only [decide_eq_true_eq, decide_eq_false_iff_not, Bool.not_eq_true', Bool.not_eq_false'] at h1
    have hkb := sf_big hm.lt he2 h1
    refine WS.cons (WS1.aug rfl ?_ (loc_of (by assumption) rfl))
    refine EV.int ?_
    refine IopV.add ?_
    refine Then.next ?_
    refine WS.nil ?_
    exact ⟨k + 1, rfl, rfl, by omega, by show 601 - (k + 1) < 601 - k; omega⟩
  · try simp only [decide_eq_true_eq, decide_eq_false_iff_not, Bool.not_eq_true', Bool.not_eq_false'] at h1
    refine Then.next ?_
    refine WS.cons (WS1.while (α := Int) (fun k => [(Str.ofString "m", .int (m : Int)), (Str.ofString "e", .int e), (Str.ofString "k", .int k)]) (fun _ => σ) (fun k => sf m e (0 - k) ≤ 9 ∧ -301 ≤ k ∧ k ≤ 601) (fun k => (k + 301).toNat) (k : Int) rfl rfl ⟨by omega, by omega, by omega⟩ ?_)
    intro k2 ⟨i1, i2, i3⟩
    refine TV.cmp ?_
    refine EV.sub ?_
    refine EV.callF (g_scaled_floor hW') (k_scaled_floor hW') (loc_of (by assumption) rfl) ?_
    refine EVL.cons ?_
    refine EV.name rfl ?_ (loc_of (by assumption) rfl)
    refine EVL.cons ?_
    refine EV.name rfl ?_ (loc_of (by assumption) rfl)
    refine EVL.cons ?_
    refine EV.bin ?_
    refine EV.int ?_
    refine EV.name rfl ?_ (loc_of (by assumption) rfl)
    refine OpV.sub ?_
    refine EVL.nil ?_
    refine scaled_floor_ (m := m) hW' (by omega) hm (by omega) (by omega) (by omega) (by omega) ?_
    refine EV.int ?_
    refine SubV.tup (by decide) (by decide) rfl ?_
    refine EV.intN (n := 1) rfl ?_
    refine CmpV.ltN ?_
    refine ⟨_, rfl, ?_⟩
    refine ⟨fun h2 => ?_, fun h2 => ?_⟩
    · try simp only [decide_eq_true_eq, decide_eq_false_iff_not, Bool.not_eq_true', Bool.not_eq_false'] at h2
      have hkb := sf_small hm0 he h2
      refine WS.cons (WS1.aug rfl ?_ (loc_of (by assumption) rfl))
      refine EV.int ?_
      refine IopV.sub ?_
      refine Then.next ?_
      refine WS.nil ?_
      exact ⟨k2 - 1, rfl, rfl, ⟨sf_up h2, by omega, by omega⟩, by show (k2 - 1 + 301).toNat < (k2 + 301).toNat; omega⟩
    · try simp only [decide_eq_true_eq, decide_eq_false_iff_not, Bool.not_eq_true', Bool.not_eq_false'] at h2
      have hdp : DP m e k2 := ⟨by omega, i1, i2, i3⟩
      refine Then.next ?_
      refine WS.cons (WS1.ret ?_)
      refine EV.name rfl ?_ (loc_of (by assumption) rfl)
      exact q _ hdp

theorem read_back_ (hW : IsW X.W) (hd : 5 ≤ X.d) (hF : OkF eb fb) {g : Nat} {p : Int} (hg0 : 0 < g) (hg : Bd 2000 ((g * 10 ^ p.toNat : Nat) : Int)) (hp : -400 ≤ p) (hp2 : p ≤ 1000)
    (q : Q (.int ((rnd fb ((2 ^ eb - 1) * 2 ^ fb) (g * 10 ^ p.toNat * 2 ^ E0 eb fb) (10 ^ (-p).toNat) : Nat) : Int)) σ) : CallV X (.ref 163) [.form (frm eb fb), .int (g : Int), .int p] σ Q := by
  refine CallV.def hW.K ["form", "digits", "power"] 4 rfl rfl (bind3 _ _ _ (fun _ _ _ => rfl)) (by decide) (by decide) (by omega) (by decide) rfl rfl rfl ?_
  intro X' e1 e2 e3
  have hW' : IsW X'.W := e1 ▸ hW
  clear hW
  have p10 : ∀ {n : Nat}, n ≤ 400 → Bd 1601 ((10 ^ n : Nat) : Int) := fun {n} h => by
    refine Bd.nat (Nat.lt_of_le_of_lt (Nat.pow_le_pow_left (by decide : 10 ≤ 2 ^ 4) n) ?_)
    rw [← Nat.pow_mul]
    exact Nat.pow_lt_pow_right (by decide) (by omega)
  refine WS.cons (WS1.ite ?_)
  refine TV.cmp ?_
  refine EV.name rfl ?_ (loc_of (by assumption) rfl)
  refine EV.int ?_
  refine CmpV.ge ?_
  refine ⟨_, rfl, ?_⟩
  refine ⟨fun h1 => ?_, fun h1 => ?_⟩
  · try simp only [decide_eq_true_eq, decide_eq_false_iff_not, Bool.not_eq_true', Bool.not_eq_false'] at h1
    refine WS.cons (WS1.ret ?_)
    refine EV.callF (g_from_ratio hW') (k_from_ratio hW') (loc_of (by assumption) rfl) ?_
    refine EVL.cons ?_
    refine EV.name rfl ?_ (loc_of (by assumption) rfl)
    refine EVL.cons ?_
    refine EV.int ?_
    refine EVL.cons ?_
    refine EV.bin ?_
    refine EV.name rfl ?_ (loc_of (by assumption) rfl)
    refine EV.bin ?_
    refine EV.int ?_
    refine EV.name rfl ?_ (loc_of (by assumption) rfl)
    refine OpV.powZ (b := 10) rfl (by decide) h1 (by omega) ?_
    refine OpV.mulB (k := 2000) (j := 4001) (hg.of_le (Int.natCast_nonneg _) (Int.ofNat_le.mpr (Nat.le_mul_of_pos_right _ (Nat.pow_pos (by decide))))) (pow10_bd (by omega)) (by omega) (by omega) ?_
    refine EVL.cons ?_
    refine EV.int ?_
    refine EVL.nil ?_
    refine from_ratio_ (s := 0) (under := 1) hW' (by omega) hF (by decide) (Nat.mul_pos hg0 (Nat.pow_pos (by decide))) (by decide) hg (Bd.nat (k := 2000) (Nat.one_lt_pow (by decide) (by decide))) (qint ?_ q)
    rw [Nat.zero_mul, Nat.zero_mul, Nat.zero_add, show (-p).toNat = 0 from by omega, Nat.pow_zero]
    -- done
  · try simp only [decide_eq_true_eq, decide_eq_false_iff_not, Bool.not_eq_true', Bool.not_eq_false'] at h1
    refine WS.nil ?_
    refine Then.next ?_
    refine WS.cons (WS1.ret ?_)
    refine EV.callF (g_from_ratio hW') (k_from_ratio hW') (loc_of (by assumption) rfl) ?_
    refine EVL.cons ?_
    refine EV.name rfl ?_ (loc_of (by assumption) rfl)
    refine EVL.cons ?_
    refine EV.int ?_
    refine EVL.cons ?_
    refine EV.name rfl ?_ (loc_of (by assumption) rfl)
    refine EVL.cons ?_
    refine EV.bin ?_
    refine EV.int ?_
    refine EV.bin ?_
    refine EV.int ?_
    refine EV.name rfl ?_ (loc_of (by assumption) rfl)
    refine OpV.sub ?_
    refine OpV.powZ (b := 10) rfl (by decide) (by omega) (by omega) ?_
    refine EVL.nil ?_
    refine from_ratio_ (s := 0) hW' (by omega) hF (by decide) hg0 (Nat.pow_pos (by decide)) (by rw [show p.toNat = 0 from by omega, Nat.pow_zero, Nat.mul_one] at hg; exact hg) ((p10 (by omega)).mono (by omega)) (qint ?_ q)
    rw [Nat.zero_mul, Nat.zero_mul, Nat.zero_add, show p.toNat = 0 from by omega, Nat.pow_zero, Nat.mul_one, Int.zero_sub]
    -- done

theorem is_upper_nearer_ (hW : IsW X.W) (hd : 2 ≤ X.d) {m low : Nat} {e p : Int} (hm : Bd 300 (m : Int)) (hl : Bd 5500 (low : Int)) (he : -900 ≤ e) (he2 : e ≤ 900) (hp : -1000 ≤ p) (hp2 : p ≤ 1000)
    (q : Q (.bool (upn m e p low)) σ) : CallV X (.ref 170) [.int (m : Int), .int e, .int p, .int (low : Int)] σ Q := by
  refine CallV.def hW.K ["m", "e", "power", "low"] 1 rfl rfl (bind4 _ _ _ _ (fun _ _ _ _ => rfl)) (by decide) (by decide) (by omega) (by decide) rfl rfl rfl ?_
  intro X' e1 e2 e3
  have hW' : IsW X'.W := e1 ▸ hW
  clear hW
  refine WS.cons (WS1.unpack (NamesOf.cons (NamesOf.cons NamesOf.nil)) (locs_of (by assumption) (by decide)) ?_ )
  refine EV.callF (g_scaled_floor hW') (k_scaled_floor hW') (loc_of (by assumption) rfl) ?_
  refine EVL.cons ?_
  refine EV.name rfl ?_ (loc_of (by assumption) rfl)
  refine EVL.cons ?_
  refine EV.bin ?_
  refine EV.name rfl ?_ (loc_of (by assumption) rfl)
  refine EV.int ?_
  refine OpV.add ?_
  refine EVL.cons ?_
  refine EV.name rfl ?_ (loc_of (by assumption) rfl)
  refine EVL.nil ?_
  refine scaled_floor_ (m := m) hW' (by omega) hm (by omega) (by omega) (by omega) (by omega) ?_
  refine ⟨_, Seq.tup _, rfl, ?_⟩
  refine Then.next ?_
  refine WS.cons (WS1.ite ?_)
  refine TV.and ?_
  refine TV.cmp ?_
  refine EV.name rfl ?_ (loc_of (by assumption) rfl)
  refine EV.bin ?_
  refine EV.bin ?_
  refine EV.intN (n := 2) rfl ?_
  refine EV.name rfl ?_ (loc_of (by assumption) rfl)
  refine OpV.mulB (k := 2) (j := 5500) (Bd.nat (by decide)) hl (by omega) (by omega) ?_
  refine EV.intN (n := 1) rfl ?_
  refine OpV.addN ?_
  refine CmpV.eqN ?_
  refine ⟨_, rfl, ?_⟩
  refine ⟨fun h1 => ?_, fun h1 => ?_⟩
  · try simp only [decide_eq_true_eq, decide_eq_false_iff_not, Bool.not_eq_true', Bool.not_eq_false'] at h1
    refine TV.and ?_
    refine TV.plain ?_
    refine EV.name rfl ?_ (loc_of (by assumption) rfl)
    refine TrV.bool ?_
    refine ⟨fun h2 => ?_, fun h2 => ?_⟩
    · try simp only [decide_eq_true_eq, decide_eq_false_iff_not, Bool.not_eq_true', Bool.not_eq_false'] at h2
      refine TV.and_nil ?_
      refine ⟨fun _ => ?_, fun h => absurd h (by decide)⟩
      refine WS.cons (WS1.ret ?_)
      refine EV.cmp ?_
      refine EV.bin ?_
      refine EV.name rfl ?_ (loc_of (by assumption) rfl)
      refine EV.intN (n := 2) rfl ?_
      refine OpV.fmodN (by decide) ?_
      refine EV.intN (n := 1) rfl ?_
      refine CmpV.eqN ?_
      refine qbool ?_ q
      unfold upn
      rw [if_pos ⟨h1, decide_eq_true h2⟩]
    · try simp only [decide_eq_true_eq, decide_eq_false_iff_not, Bool.not_eq_true', Bool.not_eq_false'] at h2
      refine ⟨fun h => absurd h (by decide), fun _ => ?_⟩
      refine WS.nil ?_
      refine Then.next ?_
      refine WS.cons (WS1.ret ?_)
      refine EV.cmp ?_
      refine EV.name rfl ?_ (loc_of (by assumption) rfl)
      refine EV.bin ?_
      refine EV.bin ?_
      refine EV.intN (n := 2) rfl ?_
      refine EV.name rfl ?_ (loc_of (by assumption) rfl)
      refine OpV.mulB (k := 2) (j := 5500) (Bd.nat (by decide)) hl (by omega) (by omega) ?_
      refine EV.intN (n := 1) rfl ?_
      refine OpV.addN ?_
      refine CmpV.geN ?_
      refine qbool ?_ q
      unfold upn
      rw [if_neg (fun z => by first | exact h1 z.1 | exact h2 (of_decide_eq_true z.2))]
  · try simp only [decide_eq_true_eq, decide_eq_false_iff_not, Bool.not_eq_true', Bool.not_eq_false'] at h1
    refine ⟨fun h => absurd h (by decide), fun _ => ?_⟩
    refine WS.nil ?_
    refine Then.next ?_
    refine WS.cons (WS1.ret ?_)
    refine EV.cmp ?_
    refine EV.name rfl ?_ (loc_of (by assumption) rfl)
    refine EV.bin ?_
    refine EV.bin ?_
    refine EV.intN (n := 2) rfl ?_
    refine EV.name rfl ?_ (loc_of (by assumption) rfl)
    refine OpV.mulB (k := 2) (j := 5500) (Bd.nat (by decide)) hl (by omega) (by omega) ?_
    refine EV.intN (n := 1) rfl ?_
    refine OpV.addN ?_
    refine CmpV.geN ?_
    refine qbool ?_ q
    unfold upn
    rw [if_neg (fun z => by first | exact h1 z.1 | exact h2 (of_decide_eq_true z.2))]

theorem without_zeros_ (hW : IsW X.W) (hd : 1 ≤ X.d) {g : Nat} {p : Int} (hg0 : 0 < g)
    (q : ∀ (g1 z : Nat), 0 < g1 → ¬ g1 % 10 = 0 → g = g1 * 10 ^ z → Q (.tup [.int (g1 : Int), .int (p + z)]) σ) : CallV X (.ref 184) [.int (g : Int), .int p] σ Q := by
  refine CallV.def hW.K ["digits", "power"] 0 rfl rfl (bind2 _ _ (fun _ _ => rfl)) (by decide) (by decide) (by omega) (by decide) rfl rfl rfl ?_
  intro X' e1 e2 e3
  have hW' : IsW X'.W := e1 ▸ hW
  clear hW
  refine WS.cons (WS1.while (α := Nat × Nat) (fun a => [(Str.ofString "digits", .int (a.1 : Int)), (Str.ofString "power", .int (p + (a.2 : Int)))]) (fun _ => σ) (fun a => 0 < a.1 ∧ g = a.1 * 10 ^ a.2) (fun a => a.1) (g, 0) (by show _ = [(Str.ofString "digits", PV.int (g : Int)), (Str.ofString "power", PV.int (p + ((0 : Nat) : Int)))]; rw [show p + ((0 : Nat) : Int) = p from Int.add_zero p]; rfl) rfl ⟨hg0, by simp⟩ ?_)
  intro ⟨g1, z⟩ ⟨i1, i2⟩
  refine TV.cmp ?_
  refine EV.bin ?_
  refine EV.name rfl ?_ (loc_of (by assumption) rfl)
  refine EV.intN (n := 10) rfl ?_
  refine OpV.fmodN (by decide) ?_
  refine EV.intN (n := 0) rfl ?_
  refine CmpV.eqN ?_
  refine ⟨_, rfl, ?_⟩
  refine ⟨fun h1 => ?_, fun h1 => ?_⟩
  · try simp only [decide_eq_true_eq, decide_eq_false_iff_not, Bool.not_eq_true', Bool.not_eq_false'] at h1
    have i1' : 0 < g1 := i1
    refine WS.cons (WS1.aug rfl ?_ (loc_of (by assumption) rfl))
    refine EV.intN (n := 10) rfl ?_
    refine IopV.fdivN (k := 4) (by decide) (by decide) (by decide) ?_
    refine Then.next ?_
    refine WS.cons (WS1.aug rfl ?_ (loc_of (by assumption) rfl))
    refine EV.int ?_
    refine IopV.add ?_
    refine Then.next ?_
    refine WS.nil ?_
    have hd10 : 10 ∣ g1 := Nat.dvd_of_mod_eq_zero h1
    have hg10 := Nat.div_mul_cancel hd10
    refine ⟨(g1 / 10, z + 1), congrArg (fun y => [(Str.ofString "digits", PV.int ((g1 / 10 : Nat) : Int)), (Str.ofString "power", PV.int y)]) (by show p + (z : Int) + 1 = p + ((z + 1 : Nat) : Int); omega), rfl, ⟨Nat.div_pos (by omega) (by decide), ?_⟩, ?_⟩
    · show g = g1 / 10 * 10 ^ (z + 1)
      have : g = g1 * 10 ^ z := i2
      rw [Nat.pow_succ, Nat.mul_comm (10 ^ z), ← Nat.mul_assoc, hg10]; exact this
    · show g1 / 10 < g1; omega
  · try simp only [decide_eq_true_eq, decide_eq_false_iff_not, Bool.not_eq_true', Bool.not_eq_false'] at h1
    refine Then.next ?_
    refine WS.cons (WS1.ret ?_)
    refine EV.tuple ?_
    refine EVL.cons ?_
    refine EV.name rfl ?_ (loc_of (by assumption) rfl)
    refine EVL.cons ?_
    refine EV.name rfl ?_ (loc_of (by assumption) rfl)
    refine EVL.nil ?_
    refine ⟨by simp, ?_⟩
    exact q g1 z i1 h1 i2

end
end Mine

set_option exponentiation.threshold 6000
namespace Mine
theorem sel1 {P : Prop} {b : Bool} (h : b = false) : b = true → P := fun z => by rw [h] at z; cases z
theorem sel2 {P : Prop} {b : Bool} (h : b = true) : b = false → P := fun z => by rw [h] at z; cases z
/-- what is known may be forgotten -/
def LocLe (ρ' : Loc) (ρ : Loc) : Prop := match ρ' with
  | [] => True
  | (x, p) :: r => ρ.get x = some p ∧ LocLe r ρ
theorem LocLe.get {ρ : Loc} : ∀ {ρ' : Loc}, LocLe ρ' ρ → ∀ {x p}, ρ'.get x = some p → ρ.get x = some p
  | [], _, x, p, e => by cases e
  | (y, q) :: r, h, x, p, e => by
    have e' : (if y = x then some q else Loc.get r x) = some p := e
    by_cases c : y = x
    · rw [if_pos c] at e'; cases e'; rw [← c]; exact h.1
    · rw [if_neg c] at e'; exact LocLe.get h.2 e'
theorem WS.forget {X : Fx} {ρ : Loc} {σ : Led} {ts : List Stmt} {Q : Res → Led → Prop} (ρ' : Loc) (h : LocLe ρ' ρ) (w : WS X ρ' σ ts Q) : WS X ρ σ ts Q := fun φ R m s S M =>
  w φ R m s S fun x p e => M x p (h.get e)
/-- a turn of a for, as its body ends -/
def FLQ (X : Fx) (x : Str) (body : List Stmt) (vs : List PV) (Q : Res → Led → Prop) (r : Res) (σ' : Led) : Prop := match r with
  | .next ρ' => FL X x body vs ρ' σ' Q
  | .cont ρ' => FL X x body vs ρ' σ' Q
  | .brk ρ' => Q (.next ρ') σ'
  | .ret u => Q (.ret u) σ'
theorem FL.cons {X : Fx} {x : Str} {body : List Stmt} {v : PV} {vs : List PV} {ρ : Loc} {σ : Led} {Q : Res → Led → Prop} (h : WS X (ρ.set x v) σ body (FLQ X x body vs Q)) : FL X x body (v :: vs) ρ σ Q :=
  WS.mono h fun r σ' q => by cases r <;> exact q
theorem FL.nil {X : Fx} {x : Str} {body : List Stmt} {ρ : Loc} {σ : Led} {Q : Res → Led → Prop} (q : Q (.next ρ) σ) : FL X x body [] ρ σ Q := q
theorem FLQ.next {X : Fx} {x : Str} {body : List Stmt} {vs : List PV} {ρ : Loc} {σ : Led} {Q : Res → Led → Prop} (q : FL X x body vs ρ σ Q) : FLQ X x body vs Q (.next ρ) σ := q
section
variable {X : Fx} {σ : Led} {ρ : Loc} {Q : PV → Led → Prop} {eb fb : Nat}

theorem shortest_digits_ (hW : IsW X.W) (hd : 6 ≤ X.d) (hF : OkF eb fb) {size : Nat} (hs0 : 1 ≤ size) (hst : size < (2 ^ eb - 1) * 2 ^ fb)
    (q : ∀ (d : Nat) (P : Int), SDok fb (E0 eb fb) size d P → d < 2 ^ 950 → -151 ≤ P → P ≤ 1600 → Q (.tup [.int (d : Int), .int P]) σ) : CallV X (.ref 177) [.form (frm eb fb), .int (size : Int)] σ Q := by
  refine CallV.def hW.K ["form", "bits"] 5 rfl rfl (bind2 _ _ (fun _ _ => rfl)) (by decide) (by decide) (by omega) (by decide) rfl rfl rfl ?_
  intro X' e1 e2 e3
  have hW' : IsW X'.W := e1 ▸ hW
  clear hW
  refine WS.cons (WS1.unpack (NamesOf.cons (NamesOf.cons (NamesOf.cons NamesOf.nil))) (locs_of (by assumption) (by decide)) ?_ )
  refine EV.callF (g_unpack hW') (k_unpack hW') (loc_of (by assumption) rfl) ?_
  refine EVL.cons ?_
  refine EV.name rfl ?_ (loc_of (by assumption) rfl)
  refine EVL.cons ?_
  refine EV.name rfl ?_ (loc_of (by assumption) rfl)
  refine EVL.nil ?_
  refine unpack_ hW' (by omega) hF ?_
  obtain ⟨s, m, e, heq, hnum, hm0, hm1, he1, he2⟩ : ∃ (s : PV) (m : Nat) (e : Int), (if size / 2 ^ fb % 2 ^ eb = 0 then [PV.int ((size / 2 ^ fb / 2 ^ eb : Nat) : Int), .int ((size % 2 ^ fb : Nat) : Int), .int (-(E0 eb fb : Int))] else [.int ((size / 2 ^ fb / 2 ^ eb : Nat) : Int), .int ((2 ^ fb + size % 2 ^ fb : Nat) : Int), .int (-(E0 eb fb : Int) + (size / 2 ^ fb % 2 ^ eb : Nat) - 1)]) = [s, .int (m : Int), .int e] ∧ Num fb (E0 eb fb) size m e ∧ 0 < m ∧ m < 2 ^ 24 ∧ -149 ≤ e ∧ e ≤ 255 := by
    obtain ⟨u1, u2⟩ := unpack_num (E := E0 eb fb) hF.h2 hF.h4 hs0 hst (E0_le hF)
    by_cases hz : size / 2 ^ fb % 2 ^ eb = 0
    · obtain ⟨a, b, c⟩ := u1 hz
      exact ⟨_, _, _, if_pos hz, a, b, c, by have := E0_le hF; omega, by omega⟩
    · obtain ⟨a, b, c, d1, d2⟩ := u2 hz
      exact ⟨_, _, _, if_neg hz, a, b, c, d1, d2⟩
  rw [heq]
  have hmb : Bd 300 (m : Int) := Bd.nat (Nat.lt_of_lt_of_le hm1 (Nat.pow_le_pow_right (by decide) (by decide)))
  have hE := E0_le hF
  have hcr : ∀ (g : Nat) (p : Int), rnd fb ((2 ^ eb - 1) * 2 ^ fb) (g * 10 ^ p.toNat * 2 ^ E0 eb fb) (10 ^ (-p).toNat) = size ↔ Cd fb (E0 eb fb) size g p := fun g p => cd_rnd hF.h3 hs0 hst
  refine ⟨_, Seq.tup _, rfl, ?_⟩
  refine Then.next ?_
  refine WS.cons (WS1.asg ?_ (loc_of (by assumption) rfl))
  refine EV.callF (g_decimal_place hW') (k_decimal_place hW') (loc_of (by assumption) rfl) ?_
  refine EVL.cons ?_
  refine EV.name rfl ?_ (loc_of (by assumption) rfl)
  refine EVL.cons ?_
  refine EV.name rfl ?_ (loc_of (by assumption) rfl)
  refine EVL.nil ?_
  refine decimal_place_ hW' (by omega) hm0 hmb (by omega) (by omega) ?_
  intro place hdp
  have hdp3 := hdp.2.2.1
  have hdp4 := hdp.2.2.2
  have hdp5 := place_lo hm0 he1 hdp
  refine Then.next ?_
  refine WS.cons (WS1.asg ?_ (loc_of (by assumption) rfl))
  refine EV.intN (n := 0) rfl ?_
  refine Then.next ?_
  refine WS.cons (WS1.while (α := Nat) (fun c => [(Str.ofString "form", .form (frm eb fb)), (Str.ofString "bits", .int (size : Int)), (Str.ofString "_", s), (Str.ofString "m", .int (m : Int)), (Str.ofString "e", .int e), (Str.ofString "place", .int place), (Str.ofString "count", .int (c : Int))]) (fun _ => σ) (fun c => -151 ≤ place - (c : Int) ∧ ∀ c' : Nat, c' < c → ¬ Cd fb (E0 eb fb) size (sf m e (0 - (place - (c' : Int)))) (place - (c' : Int)) ∧ ¬ Cd fb (E0 eb fb) size (sf m e (0 - (place - (c' : Int))) + 1) (place - (c' : Int))) (fun c => (place - (c : Int) + 152).toNat) 0 rfl rfl ⟨by omega, fun c' h => absurd h (Nat.not_lt_zero _)⟩ ?_)
  intro c ⟨hc, inv⟩
  refine TV.plain ?_
  refine EV.bool ?_
  refine TrV.bool ?_
  refine ⟨fun _ => ?_, fun h => absurd h (by decide)⟩
  have hlp := low_pos (c := c) hdp
  have hdb := dig_bd (p := place - (c : Int)) hm1 he1 he2 (by omega) hlp
  have hlb : Bd 5500 (sf m e (0 - (place - (c : Int))) : Int) := Bd.nat (Nat.lt_of_le_of_lt (Nat.le_trans (Nat.le_succ _) (Nat.le_mul_of_pos_right _ (Nat.pow_pos (by decide)))) (Nat.lt_of_lt_of_le hdb (Nat.pow_le_pow_right (by decide) (by decide))))
  refine WS.cons (WS1.asg ?_ (loc_of (by assumption) rfl))
  refine EV.bin ?_
  refine EV.name rfl ?_ (loc_of (by assumption) rfl)
  refine EV.name rfl ?_ (loc_of (by assumption) rfl)
  refine OpV.sub ?_
  refine Then.next ?_
  refine WS.cons (WS1.asg ?_ (loc_of (by assumption) rfl))
  refine EV.sub ?_
  refine EV.callF (g_scaled_floor hW') (k_scaled_floor hW') (loc_of (by assumption) rfl) ?_
  refine EVL.cons ?_
  refine EV.name rfl ?_ (loc_of (by assumption) rfl)
  refine EVL.cons ?_
  refine EV.name rfl ?_ (loc_of (by assumption) rfl)
  refine EVL.cons ?_
  refine EV.bin ?_
  refine EV.int ?_
  refine EV.name rfl ?_ (loc_of (by assumption) rfl)
  refine OpV.sub ?_
  refine EVL.nil ?_
  refine scaled_floor_ (m := m) hW' (by omega) hmb (by omega) (by omega) (by omega) (by omega) ?_
  refine EV.int ?_
  refine SubV.tup (by decide) (by decide) rfl ?_
  refine Then.next ?_
  refine WS.cons (WS1.asg ?_ (loc_of (by assumption) rfl))
  refine EV.list ?_
  refine EVL.cons ?_
  refine EV.name rfl ?_ (loc_of (by assumption) rfl)
  refine EVL.cons ?_
  refine EV.bin ?_
  refine EV.name rfl ?_ (loc_of (by assumption) rfl)
  refine EV.intN (n := 1) rfl ?_
  refine OpV.addN ?_
  refine EVL.nil ?_
  refine ⟨by simp, ?_⟩
  refine Then.next ?_
  refine WS.cons (WS1.ite ?_)
  refine TV.plain ?_
  refine EV.callF (g_is_upper_nearer hW') (k_is_upper_nearer hW') (loc_of (by assumption) rfl) ?_
  refine EVL.cons ?_
  refine EV.name rfl ?_ (loc_of (by assumption) rfl)
  refine EVL.cons ?_
  refine EV.name rfl ?_ (loc_of (by assumption) rfl)
  refine EVL.cons ?_
  refine EV.bin ?_
  refine EV.int ?_
  refine EV.name rfl ?_ (loc_of (by assumption) rfl)
  refine OpV.sub ?_
  refine EVL.cons ?_
  refine EV.name rfl ?_ (loc_of (by assumption) rfl)
  refine EVL.nil ?_
  refine is_upper_nearer_ (m := m) (low := sf m e (0 - (place - (c : Int)))) hW' (by omega) hmb hlb (by omega) (by omega) (by omega) (by omega) ?_
  refine TrV.bool ?_
  refine ⟨fun h1 => ?_, fun h1 => ?_⟩
  · try simp only [decide_eq_true_eq, decide_eq_false_iff_not, Bool.not_eq_true', Bool.not_eq_false'] at h1
    refine WS.cons (WS1.asg ?_ (loc_of (by assumption) rfl))
    refine EV.list ?_
    refine EVL.cons ?_
    refine EV.bin ?_
    refine EV.name rfl ?_ (loc_of (by assumption) rfl)
    refine EV.intN (n := 1) rfl ?_
    refine OpV.addN ?_
    refine EVL.cons ?_
    refine EV.name rfl ?_ (loc_of (by assumption) rfl)
    refine EVL.nil ?_
    refine ⟨by simp, ?_⟩
    refine Then.next ?_
    refine WS.nil ?_
    refine Then.next ?_
    refine WS.cons (WS1.for ?_ (loc_of (by assumption) rfl))
    refine EV.name rfl ?_ (loc_of (by assumption) rfl)
    refine ⟨_, Itr.lst _, ?_⟩
    refine FL.cons ?_
    refine WS.cons (WS1.ite ?_)
    refine TV.and ?_
    refine TV.cmp ?_
    refine EV.name rfl ?_ (loc_of (by assumption) rfl)
    refine EV.intN (n := 0) rfl ?_
    refine CmpV.gtN ?_
    refine ⟨_, rfl, ?_⟩
    refine ⟨fun h2 => ?_, fun h2 => ?_⟩
    · try simp only [decide_eq_true_eq, decide_eq_false_iff_not, Bool.not_eq_true', Bool.not_eq_false'] at h2
      refine TV.and ?_
      refine TV.cmp ?_
      refine EV.callF (g_read_back hW') (k_read_back hW') (loc_of (by assumption) rfl) ?_
      refine EVL.cons ?_
      refine EV.name rfl ?_ (loc_of (by assumption) rfl)
      refine EVL.cons ?_
      refine EV.name rfl ?_ (loc_of (by assumption) rfl)
      refine EVL.cons ?_
      refine EV.name rfl ?_ (loc_of (by assumption) rfl)
      refine EVL.nil ?_
      first
      | refine read_back_ (g := sf m e (0 - (place - (c : Int)))) hW' (by omega) hF hlp (Bd.nat (Nat.lt_of_le_of_lt (Nat.mul_le_mul_right _ (Nat.le_succ _)) hdb |> fun h => Nat.lt_of_lt_of_le h (Nat.pow_le_pow_right (by decide) (by decide)))) (by omega) (by omega) ?_
      | refine read_back_ (g := sf m e (0 - (place - (c : Int))) + 1) hW' (by omega) hF (Nat.succ_pos _) (Bd.nat (Nat.lt_of_lt_of_le hdb (Nat.pow_le_pow_right (by decide) (by decide)))) (by omega) (by omega) ?_
      refine EV.name rfl ?_ (loc_of (by assumption) rfl)
      refine CmpV.eqN ?_
      refine ⟨_, rfl, ?_⟩
      refine ⟨fun h3 => ?_, fun h3 => ?_⟩
      · try simp only [decide_eq_true_eq, decide_eq_false_iff_not, Bool.not_eq_true', Bool.not_eq_false'] at h3
        refine TV.and_nil ?_
        refine ⟨fun _ => ?_, fun h => absurd h (by decide)⟩
        refine WS.cons (WS1.ret ?_)
        refine EV.callF (g_without_zeros hW') (k_without_zeros hW') (loc_of (by assumption) rfl) ?_
        refine EVL.cons ?_
        refine EV.name rfl ?_ (loc_of (by assumption) rfl)
        refine EVL.cons ?_
        refine EV.name rfl ?_ (loc_of (by assumption) rfl)
        refine EVL.nil ?_
        refine without_zeros_ hW' (by omega) (by first | exact hlp | exact Nat.succ_pos _) ?_
        intro g1 z w1 w2 w3
        refine q _ _ (sd_ok (c := c) hnum hs0 hdp inv (by first
          | exact .inl ⟨rfl, sel1 h1⟩
          | exact .inr ⟨rfl, sel2 h1⟩
          | exact .inl ⟨rfl, fun _ z => h3 ((hcr _ _).mpr z)⟩
          | exact .inr ⟨rfl, fun _ z => h3 ((hcr _ _).mpr z)⟩) (by first | exact (hcr _ _).mp h3 | exact (hcr _ _).mp h5) w3 w1 w2) ?_ ?_ ?_
        · have hg1 : g1 ≤ g1 * 10 ^ z := Nat.le_mul_of_pos_right _ (Nat.pow_pos (by decide))
          have hx : sf m e (0 - (place - (c : Int))) + 1 ≤ (sf m e (0 - (place - (c : Int))) + 1) * 10 ^ (place - (c : Int)).toNat := Nat.le_mul_of_pos_right _ (Nat.pow_pos (by decide))
          exact Nat.lt_of_le_of_lt (Nat.le_trans (by omega) hx) hdb
        · omega
        · have hz10 : 2 ^ z ≤ 10 ^ z := Nat.pow_le_pow_left (by decide) z
          have hzz : 10 ^ z ≤ g1 * 10 ^ z := Nat.le_mul_of_pos_left _ w1
          have hx : sf m e (0 - (place - (c : Int))) + 1 ≤ (sf m e (0 - (place - (c : Int))) + 1) * 10 ^ (place - (c : Int)).toNat := Nat.le_mul_of_pos_right _ (Nat.pow_pos (by decide))
          have hzb : 2 ^ z < 2 ^ 950 := Nat.lt_of_le_of_lt (Nat.le_trans hz10 (Nat.le_trans (by omega) hx)) hdb
          have := (Nat.pow_lt_pow_iff_right (by decide : 1 < 2)).mp hzb
          omega
      · try simp only [decide_eq_true_eq, decide_eq_false_iff_not, Bool.not_eq_true', Bool.not_eq_false'] at h3
        refine ⟨fun h => absurd h (by decide), fun _ => ?_⟩
        refine WS.nil ?_
        refine Then.next ?_
        refine WS.nil ?_
        refine FLQ.next ?_
        refine FL.cons ?_
        refine WS.cons (WS1.ite ?_)
        refine TV.and ?_
        refine TV.cmp ?_
        refine EV.name rfl ?_ (loc_of (by assumption) rfl)
        refine EV.intN (n := 0) rfl ?_
        refine CmpV.gtN ?_
        refine ⟨_, rfl, ?_⟩
        refine ⟨fun h4 => ?_, fun h4 => ?_⟩
        · try simp only [decide_eq_true_eq, decide_eq_false_iff_not, Bool.not_eq_true', Bool.not_eq_false'] at h4
          refine TV.and ?_
          refine TV.cmp ?_
          refine EV.callF (g_read_back hW') (k_read_back hW') (loc_of (by assumption) rfl) ?_
          refine EVL.cons ?_
          refine EV.name rfl ?_ (loc_of (by assumption) rfl)
          refine EVL.cons ?_
          refine EV.name rfl ?_ (loc_of (by assumption) rfl)
          refine EVL.cons ?_
          refine EV.name rfl ?_ (loc_of (by assumption) rfl)
          refine EVL.nil ?_
          first
          | refine read_back_ (g := sf m e (0 - (place - (c : Int)))) hW' (by omega) hF hlp (Bd.nat (Nat.lt_of_le_of_lt (Nat.mul_le_mul_right _ (Nat.le_succ _)) hdb |> fun h => Nat.lt_of_lt_of_le h (Nat.pow_le_pow_right (by decide) (by decide)))) (by omega) (by omega) ?_
          | refine read_back_ (g := sf m e (0 - (place - (c : Int))) + 1) hW' (by omega) hF (Nat.succ_pos _) (Bd.nat (Nat.lt_of_lt_of_le hdb (Nat.pow_le_pow_right (by decide) (by decide)))) (by omega) (by omega) ?_
          refine EV.name rfl ?_ (loc_of (by assumption) rfl)
          refine CmpV.eqN ?_
          refine ⟨_, rfl, ?_⟩
          refine ⟨fun h5 => ?_, fun h5 => ?_⟩
          · try simp only [decide_eq_true_eq, decide_eq_false_iff_not, Bool.not_eq_true', Bool.not_eq_false'] at h5
            refine TV.and_nil ?_
            refine ⟨fun _ => ?_, fun h => absurd h (by decide)⟩
            refine WS.cons (WS1.ret ?_)
            refine EV.callF (g_without_zeros hW') (k_without_zeros hW') (loc_of (by assumption) rfl) ?_
            refine EVL.cons ?_
            refine EV.name rfl ?_ (loc_of (by assumption) rfl)
            refine EVL.cons ?_
            refine EV.name rfl ?_ (loc_of (by assumption) rfl)
            refine EVL.nil ?_
            refine without_zeros_ hW' (by omega) (by first | exact hlp | exact Nat.succ_pos _) ?_
            intro g1 z w1 w2 w3
            refine q _ _ (sd_ok (c := c) hnum hs0 hdp inv (by first
              | exact .inl ⟨rfl, sel1 h1⟩
              | exact .inr ⟨rfl, sel2 h1⟩
              | exact .inl ⟨rfl, fun _ z => h3 ((hcr _ _).mpr z)⟩
              | exact .inr ⟨rfl, fun _ z => h3 ((hcr _ _).mpr z)⟩) (by first | exact (hcr _ _).mp h3 | exact (hcr _ _).mp h5) w3 w1 w2) ?_ ?_ ?_
            · have hg1 : g1 ≤ g1 * 10 ^ z := Nat.le_mul_of_pos_right _ (Nat.pow_pos (by decide))
              have hx : sf m e (0 - (place - (c : Int))) + 1 ≤ (sf m e (0 - (place - (c : Int))) + 1) * 10 ^ (place - (c : Int)).toNat := Nat.le_mul_of_pos_right _ (Nat.pow_pos (by decide))
              exact Nat.lt_of_le_of_lt (Nat.le_trans (by omega) hx) hdb
            · omega
            · have hz10 : 2 ^ z ≤ 10 ^ z := Nat.pow_le_pow_left (by decide) z
              have hzz : 10 ^ z ≤ g1 * 10 ^ z := Nat.le_mul_of_pos_left _ w1
              have hx : sf m e (0 - (place - (c : Int))) + 1 ≤ (sf m e (0 - (place - (c : Int))) + 1) * 10 ^ (place - (c : Int)).toNat := Nat.le_mul_of_pos_right _ (Nat.pow_pos (by decide))
              have hzb : 2 ^ z < 2 ^ 950 := Nat.lt_of_le_of_lt (Nat.le_trans hz10 (Nat.le_trans (by omega) hx)) hdb
              have := (Nat.pow_lt_pow_iff_right (by decide : 1 < 2)).mp hzb
              omega
          · try simp only [decide_eq_true_eq, decide_eq_false_iff_not, Bool.not_eq_true', Bool.not_eq_false'] at h5
            refine ⟨fun h => absurd h (by decide), fun _ => ?_⟩
            refine WS.nil ?_
            refine Then.next ?_
            refine WS.nil ?_
            refine FLQ.next ?_
            refine FL.nil ?_
            refine Then.next ?_
            refine WS.cons (WS1.aug rfl ?_ (loc_of (by assumption) rfl))
            refine EV.int ?_
            refine IopV.add ?_
            refine Then.next ?_
            refine WS.forget ([(Str.ofString "form", .form (frm eb fb)), (Str.ofString "bits", .int (size : Int)), (Str.ofString "_", s), (Str.ofString "m", .int (m : Int)), (Str.ofString "e", .int e), (Str.ofString "place", .int place), (Str.ofString "count", .int ((c + 1 : Nat) : Int))]) ⟨rfl, rfl, rfl, rfl, rfl, rfl, rfl, trivial⟩ ?_
            refine WS.nil ?_
            have n3 : ¬ Cd fb (E0 eb fb) size (sf m e (0 - (place - (c : Int)))) (place - (c : Int)) := fun z => by first | exact h3 ((hcr _ _).mpr z) | exact h5 ((hcr _ _).mpr z)
            have n5 : ¬ Cd fb (E0 eb fb) size (sf m e (0 - (place - (c : Int))) + 1) (place - (c : Int)) := fun z => by first | exact h3 ((hcr _ _).mpr z) | exact h5 ((hcr _ _).mpr z)
            have hde := deep_end hnum hs0 hE n3
            refine ⟨c + 1, rfl, rfl, ⟨by omega, fun c' hc' => ?_⟩, by show (place - ((c + 1 : Nat) : Int) + 152).toNat < (place - (c : Int) + 152).toNat; omega⟩
            rcases Nat.lt_succ_iff_lt_or_eq.mp hc' with z | z
            · exact inv c' z
            · subst z; exact ⟨n3, n5⟩
        · try simp only [decide_eq_true_eq, decide_eq_false_iff_not, Bool.not_eq_true', Bool.not_eq_false'] at h4
          first | exact absurd hlp h4 | exact absurd (Nat.succ_pos _) h4 | exact absurd hlp h2 | exact absurd (Nat.succ_pos _) h2
    · try simp only [decide_eq_true_eq, decide_eq_false_iff_not, Bool.not_eq_true', Bool.not_eq_false'] at h2
      first | exact absurd hlp h4 | exact absurd (Nat.succ_pos _) h4 | exact absurd hlp h2 | exact absurd (Nat.succ_pos _) h2
  · try simp only [decide_eq_true_eq, decide_eq_false_iff_not, Bool.not_eq_true', Bool.not_eq_false'] at h1
    refine WS.nil ?_
    refine Then.next ?_
    refine WS.cons (WS1.for ?_ (loc_of (by assumption) rfl))
    refine EV.name rfl ?_ (loc_of (by assumption) rfl)
    refine ⟨_, Itr.lst _, ?_⟩
    refine FL.cons ?_
    refine WS.cons (WS1.ite ?_)
    refine TV.and ?_
    refine TV.cmp ?_
    refine EV.name rfl ?_ (loc_of (by assumption) rfl)
    refine EV.intN (n := 0) rfl ?_
    refine CmpV.gtN ?_
    refine ⟨_, rfl, ?_⟩
    refine ⟨fun h2 => ?_, fun h2 => ?_⟩
    · try simp only [decide_eq_true_eq, decide_eq_false_iff_not, Bool.not_eq_true', Bool.not_eq_false'] at h2
      refine TV.and ?_
      refine TV.cmp ?_
      refine EV.callF (g_read_back hW') (k_read_back hW') (loc_of (by assumption) rfl) ?_
      refine EVL.cons ?_
      refine EV.name rfl ?_ (loc_of (by assumption) rfl)
      refine EVL.cons ?_
      refine EV.name rfl ?_ (loc_of (by assumption) rfl)
      refine EVL.cons ?_
      refine EV.name rfl ?_ (loc_of (by assumption) rfl)
      refine EVL.nil ?_
      first
      | refine read_back_ (g := sf m e (0 - (place - (c : Int)))) hW' (by omega) hF hlp (Bd.nat (Nat.lt_of_le_of_lt (Nat.mul_le_mul_right _ (Nat.le_succ _)) hdb |> fun h => Nat.lt_of_lt_of_le h (Nat.pow_le_pow_right (by decide) (by decide)))) (by omega) (by omega) ?_
      | refine read_back_ (g := sf m e (0 - (place - (c : Int))) + 1) hW' (by omega) hF (Nat.succ_pos _) (Bd.nat (Nat.lt_of_lt_of_le hdb (Nat.pow_le_pow_right (by decide) (by decide)))) (by omega) (by omega) ?_
      refine EV.name rfl ?_ (loc_of (by assumption) rfl)
      refine CmpV.eqN ?_
      refine ⟨_, rfl, ?_⟩
      refine ⟨fun h3 => ?_, fun h3 => ?_⟩
      · try simp only [decide_eq_true_eq, decide_eq_false_iff_not, Bool.not_eq_true', Bool.not_eq_false'] at h3
        refine TV.and_nil ?_
        refine ⟨fun _ => ?_, fun h => absurd h (by decide)⟩
        refine WS.cons (WS1.ret ?_)
        refine EV.callF (g_without_zeros hW') (k_without_zeros hW') (loc_of (by assumption) rfl) ?_
        refine EVL.cons ?_
        refine EV.name rfl ?_ (loc_of (by assumption) rfl)
        refine EVL.cons ?_
        refine EV.name rfl ?_ (loc_of (by assumption) rfl)
        refine EVL.nil ?_
        refine without_zeros_ hW' (by omega) (by first | exact hlp | exact Nat.succ_pos _) ?_
        intro g1 z w1 w2 w3
        refine q _ _ (sd_ok (c := c) hnum hs0 hdp inv (by first
          | exact .inl ⟨rfl, sel1 h1⟩
          | exact .inr ⟨rfl, sel2 h1⟩
          | exact .inl ⟨rfl, fun _ z => h3 ((hcr _ _).mpr z)⟩
          | exact .inr ⟨rfl, fun _ z => h3 ((hcr _ _).mpr z)⟩) (by first | exact (hcr _ _).mp h3 | exact (hcr _ _).mp h5) w3 w1 w2) ?_ ?_ ?_
        · have hg1 : g1 ≤ g1 * 10 ^ z := Nat.le_mul_of_pos_right _ (Nat.pow_pos (by decide))
          have hx : sf m e (0 - (place - (c : Int))) + 1 ≤ (sf m e (0 - (place - (c : Int))) + 1) * 10 ^ (place - (c : Int)).toNat := Nat.le_mul_of_pos_right _ (Nat.pow_pos (by decide))
          exact Nat.lt_of_le_of_lt (Nat.le_trans (by omega) hx) hdb
        · omega
        · have hz10 : 2 ^ z ≤ 10 ^ z := Nat.pow_le_pow_left (by decide) z
          have hzz : 10 ^ z ≤ g1 * 10 ^ z := Nat.le_mul_of_pos_left _ w1
          have hx : sf m e (0 - (place - (c : Int))) + 1 ≤ (sf m e (0 - (place - (c : Int))) + 1) * 10 ^ (place - (c : Int)).toNat := Nat.le_mul_of_pos_right _ (Nat.pow_pos (by decide))
          have hzb : 2 ^ z < 2 ^ 950 := Nat.lt_of_le_of_lt (Nat.le_trans hz10 (Nat.le_trans (by omega) hx)) hdb
          have := (Nat.pow_lt_pow_iff_right (by decide : 1 < 2)).mp hzb
          omega
      · try simp only [decide_eq_true_eq, decide_eq_false_iff_not, Bool.not_eq_true', Bool.not_eq_false'] at h3
        refine ⟨fun h => absurd h (by decide), fun _ => ?_⟩
        refine WS.nil ?_
        refine Then.next ?_
        refine WS.nil ?_
        refine FLQ.next ?_
        refine FL.cons ?_
        refine WS.cons (WS1.ite ?_)
        refine TV.and ?_
        refine TV.cmp ?_
        refine EV.name rfl ?_ (loc_of (by assumption) rfl)
        refine EV.intN (n := 0) rfl ?_
        refine CmpV.gtN ?_
        refine ⟨_, rfl, ?_⟩
        refine ⟨fun h4 => ?_, fun h4 => ?_⟩
        · try simp only [decide_eq_true_eq, decide_eq_false_iff_not, Bool.not_eq_true', Bool.not_eq_false'] at h4
          refine TV.and ?_
          refine TV.cmp ?_
          refine EV.callF (g_read_back hW') (k_read_back hW') (loc_of (by assumption) rfl) ?_
          refine EVL.cons ?_
          refine EV.name rfl ?_ (loc_of (by assumption) rfl)
          refine EVL.cons ?_
          refine EV.name rfl ?_ (loc_of (by assumption) rfl)
          refine EVL.cons ?_
          refine EV.name rfl ?_ (loc_of (by assumption) rfl)
          refine EVL.nil ?_
          first
          | refine read_back_ (g := sf m e (0 - (place - (c : Int)))) hW' (by omega) hF hlp (Bd.nat (Nat.lt_of_le_of_lt (Nat.mul_le_mul_right _ (Nat.le_succ _)) hdb |> fun h => Nat.lt_of_lt_of_le h (Nat.pow_le_pow_right (by decide) (by decide)))) (by omega) (by omega) ?_
          | refine read_back_ (g := sf m e (0 - (place - (c : Int))) + 1) hW' (by omega) hF (Nat.succ_pos _) (Bd.nat (Nat.lt_of_lt_of_le hdb (Nat.pow_le_pow_right (by decide) (by decide)))) (by omega) (by omega) ?_
          refine EV.name rfl ?_ (loc_of (by assumption) rfl)
          refine CmpV.eqN ?_
          refine ⟨_, rfl, ?_⟩
          refine ⟨fun h5 => ?_, fun h5 => ?_⟩
          · try simp only [decide_eq_true_eq, decide_eq_false_iff_not, Bool.not_eq_true', Bool.not_eq_false'] at h5
            refine TV.and_nil ?_
            refine ⟨fun _ => ?_, fun h => absurd h (by decide)⟩
            refine WS.cons (WS1.ret ?_)
            refine EV.callF (g_without_zeros hW') (k_without_zeros hW') (loc_of (by assumption) rfl) ?_
            refine EVL.cons ?_
            refine EV.name rfl ?_ (loc_of (by assumption) rfl)
            refine EVL.cons ?_
            refine EV.name rfl ?_ (loc_of (by assumption) rfl)
            refine EVL.nil ?_
            refine without_zeros_ hW' (by omega) (by first | exact hlp | exact Nat.succ_pos _) ?_
            intro g1 z w1 w2 w3
            refine q _ _ (sd_ok (c := c) hnum hs0 hdp inv (by first
              | exact .inl ⟨rfl, sel1 h1⟩
              | exact .inr ⟨rfl, sel2 h1⟩
              | exact .inl ⟨rfl, fun _ z => h3 ((hcr _ _).mpr z)⟩
              | exact .inr ⟨rfl, fun _ z => h3 ((hcr _ _).mpr z)⟩) (by first | exact (hcr _ _).mp h3 | exact (hcr _ _).mp h5) w3 w1 w2) ?_ ?_ ?_
            · have hg1 : g1 ≤ g1 * 10 ^ z := Nat.le_mul_of_pos_right _ (Nat.pow_pos (by decide))
              have hx : sf m e (0 - (place - (c : Int))) + 1 ≤ (sf m e (0 - (place - (c : Int))) + 1) * 10 ^ (place - (c : Int)).toNat := Nat.le_mul_of_pos_right _ (Nat.pow_pos (by decide))
              exact Nat.lt_of_le_of_lt (Nat.le_trans (by omega) hx) hdb
            · omega
            · have hz10 : 2 ^ z ≤ 10 ^ z := Nat.pow_le_pow_left (by decide) z
              have hzz : 10 ^ z ≤ g1 * 10 ^ z := Nat.le_mul_of_pos_left _ w1
              have hx : sf m e (0 - (place - (c : Int))) + 1 ≤ (sf m e (0 - (place - (c : Int))) + 1) * 10 ^ (place - (c : Int)).toNat := Nat.le_mul_of_pos_right _ (Nat.pow_pos (by decide))
              have hzb : 2 ^ z < 2 ^ 950 := Nat.lt_of_le_of_lt (Nat.le_trans hz10 (Nat.le_trans (by omega) hx)) hdb
              have := (Nat.pow_lt_pow_iff_right (by decide : 1 < 2)).mp hzb
              omega
          · try simp only [decide_eq_true_eq, decide_eq_false_iff_not, Bool.not_eq_true', Bool.not_eq_false'] at h5
            refine ⟨fun h => absurd h (by decide), fun _ => ?_⟩
            refine WS.nil ?_
            refine Then.next ?_
            refine WS.nil ?_
            refine FLQ.next ?_
            refine FL.nil ?_
            refine Then.next ?_
            refine WS.cons (WS1.aug rfl ?_ (loc_of (by assumption) rfl))
            refine EV.int ?_
            refine IopV.add ?_
            refine Then.next ?_
            refine WS.forget ([(Str.ofString "form", .form (frm eb fb)), (Str.ofString "bits", .int (size : Int)), (Str.ofString "_", s), (Str.ofString "m", .int (m : Int)), (Str.ofString "e", .int e), (Str.ofString "place", .int place), (Str.ofString "count", .int ((c + 1 : Nat) : Int))]) ⟨rfl, rfl, rfl, rfl, rfl, rfl, rfl, trivial⟩ ?_
            refine WS.nil ?_
            have n3 : ¬ Cd fb (E0 eb fb) size (sf m e (0 - (place - (c : Int)))) (place - (c : Int)) := fun z => by first | exact h3 ((hcr _ _).mpr z) | exact h5 ((hcr _ _).mpr z)
            have n5 : ¬ Cd fb (E0 eb fb) size (sf m e (0 - (place - (c : Int))) + 1) (place - (c : Int)) := fun z => by first | exact h3 ((hcr _ _).mpr z) | exact h5 ((hcr _ _).mpr z)
            have hde := deep_end hnum hs0 hE n3
            refine ⟨c + 1, rfl, rfl, ⟨by omega, fun c' hc' => ?_⟩, by show (place - ((c + 1 : Nat) : Int) + 152).toNat < (place - (c : Int) + 152).toNat; omega⟩
            rcases Nat.lt_succ_iff_lt_or_eq.mp hc' with z | z
            · exact inv c' z
            · subst z; exact ⟨n3, n5⟩
        · try simp only [decide_eq_true_eq, decide_eq_false_iff_not, Bool.not_eq_true', Bool.not_eq_false'] at h4
          first | exact absurd hlp h4 | exact absurd (Nat.succ_pos _) h4 | exact absurd hlp h2 | exact absurd (Nat.succ_pos _) h2
    · try simp only [decide_eq_true_eq, decide_eq_false_iff_not, Bool.not_eq_true', Bool.not_eq_false'] at h2
      first | exact absurd hlp h4 | exact absurd (Nat.succ_pos _) h4 | exact absurd hlp h2 | exact absurd (Nat.succ_pos _) h2

end
end Mine

set_option exponentiation.threshold 6000
namespace Mine
/-- the sign's text -/
def sgn (s : Nat) : List Nat := if s = 1 then [45] else []
/-- what write_real may hand back -/
def WTx (eb fb s size : Nat) (t : List Nat) : Prop :=
  ((2 ^ eb - 1) * 2 ^ fb < size ∧ t = [78, 65, 78]) ∨ (size = (2 ^ eb - 1) * 2 ^ fb ∧ t = sgn s ++ [73, 78, 70]) ∨ (size = 0 ∧ t = sgn s ++ [48, 46, 48]) ∨
  (0 < size ∧ size < (2 ^ eb - 1) * 2 ^ fb ∧ ∃ d P, SDok fb (E0 eb fb) size d P ∧ d < 2 ^ 950 ∧ -151 ≤ P ∧ P ≤ 1600 ∧ t = sgn s ++ ptext d P)
theorem bits_facts {eb fb s size : Nat} (h : size < 2 ^ eb * 2 ^ fb) : (s * 2 ^ eb * 2 ^ fb + size) / 2 ^ fb % 2 ^ eb = size / 2 ^ fb ∧ (s * 2 ^ eb * 2 ^ fb + size) % 2 ^ fb = size % 2 ^ fb ∧ (s * 2 ^ eb * 2 ^ fb + size) / 2 ^ fb / 2 ^ eb = s ∧ (s * 2 ^ eb * 2 ^ fb + size) % (2 ^ eb * 2 ^ fb) = size := by
  have h1 : 0 < 2 ^ fb := Nat.pow_pos (by decide)
  have h2 : 0 < 2 ^ eb := Nat.pow_pos (by decide)
  have hq : size / 2 ^ fb < 2 ^ eb := (Nat.div_lt_iff_lt_mul h1).mpr h
  have e1 : (s * 2 ^ eb * 2 ^ fb + size) / 2 ^ fb = s * 2 ^ eb + size / 2 ^ fb := by rw [Nat.mul_comm (s * 2 ^ eb), Nat.mul_add_div h1]
  refine ⟨?_, ?_, ?_, ?_⟩
  · rw [e1, Nat.mul_comm s, Nat.mul_add_mod, Nat.mod_eq_of_lt hq]
  · rw [Nat.mul_comm (s * 2 ^ eb), Nat.mul_add_mod]
  · rw [e1, Nat.mul_comm s, Nat.mul_add_div h2, Nat.div_eq_of_lt hq, Nat.add_zero]
  · rw [Nat.mul_assoc, Nat.mul_comm s, Nat.mul_add_mod, Nat.mod_eq_of_lt h]
/-- size against the top, by its parts -/
theorem size_cases {eb fb size : Nat} (heb : 1 ≤ eb) (h : size < 2 ^ eb * 2 ^ fb) :
    ((size / 2 ^ fb = 2 ^ eb - 1 ∧ size % 2 ^ fb ≠ 0) ↔ (2 ^ eb - 1) * 2 ^ fb < size) ∧ ((size / 2 ^ fb = 2 ^ eb - 1 ∧ size % 2 ^ fb = 0) ↔ size = (2 ^ eb - 1) * 2 ^ fb) := by
  have h1 : 0 < 2 ^ fb := Nat.pow_pos (by decide)
  have hd := Nat.div_add_mod size (2 ^ fb)
  have hr := Nat.mod_lt size h1
  have hq : size / 2 ^ fb < 2 ^ eb := (Nat.div_lt_iff_lt_mul h1).mpr h
  rw [Nat.mul_comm] at hd
  generalize size / 2 ^ fb = x at *
  generalize size % 2 ^ fb = y at *
  have key : x ≠ 2 ^ eb - 1 → (x + 1) * 2 ^ fb ≤ (2 ^ eb - 1) * 2 ^ fb := fun hx => Nat.mul_le_mul_right _ (by omega)
  have ex : (x + 1) * 2 ^ fb = x * 2 ^ fb + 2 ^ fb := by rw [Nat.add_mul, Nat.one_mul]
  constructor
  · constructor
    · rintro ⟨e, hy⟩; rw [e] at hd; omega
    · intro hlt
      by_cases hx : x = 2 ^ eb - 1
      · refine ⟨hx, fun hy => ?_⟩; rw [hx] at hd; omega
      · have := key hx; omega
  · constructor
    · rintro ⟨e, hy⟩; rw [e] at hd; omega
    · intro he
      by_cases hx : x = 2 ^ eb - 1
      · refine ⟨hx, ?_⟩; rw [hx] at hd; omega
      · have := key hx; omega
theorem plc_bd {d : Nat} {P : Int} (hd : d < 2 ^ 950) (h1 : -151 ≤ P) (h2 : P ≤ 1600) : (digM d).length ≤ 300 ∧ Bd 12 (plc d P) ∧ (istr (plc d P)).length ≤ 5 := by
  have h3 : (digM d).length ≤ 300 := dig_len (by decide) (Nat.lt_of_lt_of_le hd (by decide))
  have : (2 : Nat) ^ 12 = 4096 := by decide
  refine ⟨h3, ?_, istr_len ?_⟩ <;> unfold plc
  · unfold Bd; omega
  · omega
section
variable {X : Fx} {σ : Led} {ρ : Loc} {Q : PV → Led → Prop} {eb fb : Nat}
theorem OpV.subE' {a b c : Int} (e : a - b = c) (q : Q (.int c) σ) : OpV X .Sub (.int a) (.int b) σ Q := OpV.sub (e ▸ q)

theorem placed_text_ (hW : IsW X.W) (hd : 1 ≤ X.d) {d : Nat} {P : Int} (hd0 : 0 < d) (hdb : d < 2 ^ 950) (hP1 : -151 ≤ P) (hP2 : P ≤ 1600)
    (q : Q (.str (S (ptext d P))) σ) : CallV X (.ref 191) [.int (d : Int), .int P] σ Q := by
  refine CallV.def hW.K ["digits", "power"] 0 rfl rfl (bind2 _ _ (fun _ _ => rfl)) (by decide) (by decide) (by omega) (by decide) rfl rfl rfl ?_
  intro X' e1 e2 e3
  have hW' : IsW X'.W := e1 ▸ hW
  clear hW
  obtain ⟨hl3, hpb, hil⟩ := plc_bd hdb hP1 hP2
  obtain ⟨x, r, hxr⟩ := List.exists_cons_of_ne_nil (dig_ok d).2.2.1
  have q' := q
  unfold ptext at q' 
  refine WS.cons (WS1.asg ?_ (loc_of (by assumption) rfl))
  refine EV.callT (g_str hW') (by boot_by_name) (loc_of (by assumption) rfl) ?_
  refine EVL.cons ?_
  refine EV.name rfl ?_ (loc_of (by assumption) rfl)
  refine EVL.nil ?_
  refine CallV.strN (k := 950) (Bd.nat hdb) (by omega) ?_
  refine Then.next ?_
  refine WS.cons (WS1.asg ?_ (loc_of (by assumption) rfl))
  refine EV.bin ?_
  refine EV.bin ?_
  refine EV.callB (g_len hW') (by boot_by_name) (loc_of (by assumption) rfl) ?_
  refine EVL.cons ?_
  refine EV.name rfl ?_ (loc_of (by assumption) rfl)
  refine EVL.nil ?_
  refine CallV.lenS' (by omega) ?_
  refine EV.name rfl ?_ (loc_of (by assumption) rfl)
  refine OpV.add ?_
  refine EV.int ?_
  refine OpV.subE' (c := plc d P) rfl ?_
  refine Then.next ?_
  have hnn : ¬ (plc d P < -4 ∨ 9 ≤ plc d P) → 0 ≤ P → P ≤ 10 := fun hn h0 => by unfold plc at hn; omega
  have hlen : 1 ≤ (digM d).length := by rw [hxr]; simp
  have htx : ∀ t, (if plc d P < -4 ∨ 9 ≤ plc d P then (digM d).take 1 ++ 46 :: (if (digM d).drop 1 = [] then [48] else (digM d).drop 1) ++ 69 :: istr (plc d P)
    else if 0 ≤ P then digM d ++ List.replicate P.toNat 48 ++ [46, 48]
    else if 0 ≤ plc d P then (digM d).take (plc d P + 1).toNat ++ 46 :: (digM d).drop (plc d P + 1).toNat
    else [48, 46] ++ List.replicate (-plc d P - 1).toNat 48 ++ digM d) = t → Q (.str (S t)) σ := fun t e => by rw [← e]; exact q
  refine WS.cons (WS1.ite ?_)
  refine TV.or ?_
  refine TV.cmp ?_
  refine EV.name rfl ?_ (loc_of (by assumption) rfl)
  refine EV.un ?_
  refine EV.int ?_
  refine UnV.neg ?_
  refine CmpV.lt ?_
  refine ⟨_, rfl, ?_⟩
  refine ⟨fun h1 => ?_, fun h1 => ?_⟩
  · try simp only [decide_eq_true_eq, decide_eq_false_iff_not, Bool.not_eq_true', Bool.not_eq_false'] at h1
    refine ⟨fun _ => ?_, fun h => absurd h (by decide)⟩
    refine WS.cons (WS1.asg ?_ (loc_of (by assumption) rfl))
    refine EV.slice_sn ?_
    refine EV.name rfl ?_ (loc_of (by assumption) rfl)
    refine EV.int ?_
    refine ⟨_, ((1 : Nat) : Int), rfl, rfl, by rw [S_len]; omega, ?_⟩
    rw [S_from _ (by omega)]
    refine Then.next ?_
    refine WS.cons (WS1.ite ?_)
    refine TV.cmp ?_
    refine EV.name rfl ?_ (loc_of (by assumption) rfl)
    refine EV.strS (l := []) (by decide +kernel) ?_
    refine CmpV.seqS ?_
    refine ⟨_, rfl, ?_⟩
    refine ⟨fun h2 => ?_, fun h2 => ?_⟩
    · try simp only [decide_eq_true_eq, decide_eq_false_iff_not, Bool.not_eq_true', Bool.not_eq_false'] at h2
      refine WS.cons (WS1.asg ?_ (loc_of (by assumption) rfl))
      refine EV.strS (l := [48]) (by decide +kernel) ?_
      refine Then.next ?_
      refine WS.nil ?_
      refine Then.next ?_
      refine WS.cons (WS1.ret ?_)
      refine EV.bin ?_
      refine EV.bin ?_
      refine EV.bin ?_
      refine EV.bin ?_
      refine EV.sub ?_
      refine EV.name rfl ?_ (loc_of (by assumption) rfl)
      refine EV.int ?_
      refine SubV.strS (j := 0) (c := x) rfl (by decide) (by rw [hxr]; rfl) ?_
      refine EV.strS (l := [46]) (by decide +kernel) ?_
      refine OpV.catS (by (try simp) <;> omega) ?_
      refine EV.name rfl ?_ (loc_of (by assumption) rfl)
      refine OpV.catS (by (try simp) <;> omega) ?_
      refine EV.strS (l := [69]) (by decide +kernel) ?_
      refine OpV.catS (by (try simp) <;> omega) ?_
      refine EV.callT (g_str hW') (by boot_by_name) (loc_of (by assumption) rfl) ?_
      refine EVL.cons ?_
      refine EV.name rfl ?_ (loc_of (by assumption) rfl)
      refine EVL.nil ?_
      refine CallV.strZ hpb (by omega) ?_
      refine OpV.catS (by (try simp) <;> omega) ?_
      refine htx _ ?_
      rw [if_pos (by first | exact .inl h1 | exact .inr h2)]
      first
      | (rw [if_pos (by first | exact h2 | exact h3)]; rw [hxr]; simp)
      | (rw [if_neg (by first | exact h2 | exact h3)]; rw [hxr]; simp)
    · try simp only [decide_eq_true_eq, decide_eq_false_iff_not, Bool.not_eq_true', Bool.not_eq_false'] at h2
      refine WS.nil ?_
      refine Then.next ?_
      refine WS.cons (WS1.ret ?_)
      refine EV.bin ?_
      refine EV.bin ?_
      refine EV.bin ?_
      refine EV.bin ?_
      refine EV.sub ?_
      refine EV.name rfl ?_ (loc_of (by assumption) rfl)
      refine EV.int ?_
      refine SubV.strS (j := 0) (c := x) rfl (by decide) (by rw [hxr]; rfl) ?_
      refine EV.strS (l := [46]) (by decide +kernel) ?_
      refine OpV.catS (by (try simp) <;> omega) ?_
      refine EV.name rfl ?_ (loc_of (by assumption) rfl)
      refine OpV.catS (by (try simp) <;> omega) ?_
      refine EV.strS (l := [69]) (by decide +kernel) ?_
      refine OpV.catS (by (try simp) <;> omega) ?_
      refine EV.callT (g_str hW') (by boot_by_name) (loc_of (by assumption) rfl) ?_
      refine EVL.cons ?_
      refine EV.name rfl ?_ (loc_of (by assumption) rfl)
      refine EVL.nil ?_
      refine CallV.strZ hpb (by omega) ?_
      refine OpV.catS (by (try simp) <;> omega) ?_
      refine htx _ ?_
      rw [if_pos (by first | exact .inl h1 | exact .inr h2)]
      first
      | (rw [if_pos (by first | exact h2 | exact h3)]; rw [hxr]; simp)
      | (rw [if_neg (by first | exact h2 | exact h3)]; rw [hxr]; simp)
  · try simp only [decide_eq_true_eq, decide_eq_false_iff_not, Bool.not_eq_true', Bool.not_eq_false'] at h1
    refine TV.or ?_
    refine TV.cmp ?_
    refine EV.name rfl ?_ (loc_of (by assumption) rfl)
    refine EV.int ?_
    refine CmpV.ge ?_
    refine ⟨_, rfl, ?_⟩
    refine ⟨fun h2 => ?_, fun h2 => ?_⟩
    · try simp only [decide_eq_true_eq, decide_eq_false_iff_not, Bool.not_eq_true', Bool.not_eq_false'] at h2
      refine ⟨fun _ => ?_, fun h => absurd h (by decide)⟩
      refine WS.cons (WS1.asg ?_ (loc_of (by assumption) rfl))
      refine EV.slice_sn ?_
      refine EV.name rfl ?_ (loc_of (by assumption) rfl)
      refine EV.int ?_
      refine ⟨_, ((1 : Nat) : Int), rfl, rfl, by rw [S_len]; omega, ?_⟩
      rw [S_from _ (by omega)]
      refine Then.next ?_
      refine WS.cons (WS1.ite ?_)
      refine TV.cmp ?_
      refine EV.name rfl ?_ (loc_of (by assumption) rfl)
      refine EV.strS (l := []) (by decide +kernel) ?_
      refine CmpV.seqS ?_
      refine ⟨_, rfl, ?_⟩
      refine ⟨fun h3 => ?_, fun h3 => ?_⟩
      · try simp only [decide_eq_true_eq, decide_eq_false_iff_not, Bool.not_eq_true', Bool.not_eq_false'] at h3
        refine WS.cons (WS1.asg ?_ (loc_of (by assumption) rfl))
        refine EV.strS (l := [48]) (by decide +kernel) ?_
        refine Then.next ?_
        refine WS.nil ?_
        refine Then.next ?_
        refine WS.cons (WS1.ret ?_)
        refine EV.bin ?_
        refine EV.bin ?_
        refine EV.bin ?_
        refine EV.bin ?_
        refine EV.sub ?_
        refine EV.name rfl ?_ (loc_of (by assumption) rfl)
        refine EV.int ?_
        refine SubV.strS (j := 0) (c := x) rfl (by decide) (by rw [hxr]; rfl) ?_
        refine EV.strS (l := [46]) (by decide +kernel) ?_
        refine OpV.catS (by (try simp) <;> omega) ?_
        refine EV.name rfl ?_ (loc_of (by assumption) rfl)
        refine OpV.catS (by (try simp) <;> omega) ?_
        refine EV.strS (l := [69]) (by decide +kernel) ?_
        refine OpV.catS (by (try simp) <;> omega) ?_
        refine EV.callT (g_str hW') (by boot_by_name) (loc_of (by assumption) rfl) ?_
        refine EVL.cons ?_
        refine EV.name rfl ?_ (loc_of (by assumption) rfl)
        refine EVL.nil ?_
        refine CallV.strZ hpb (by omega) ?_
        refine OpV.catS (by (try simp) <;> omega) ?_
        refine htx _ ?_
        rw [if_pos (by first | exact .inl h1 | exact .inr h2)]
        first
        | (rw [if_pos (by first | exact h2 | exact h3)]; rw [hxr]; simp)
        | (rw [if_neg (by first | exact h2 | exact h3)]; rw [hxr]; simp)
      · try simp only [decide_eq_true_eq, decide_eq_false_iff_not, Bool.not_eq_true', Bool.not_eq_false'] at h3
        refine WS.nil ?_
        refine Then.next ?_
        refine WS.cons (WS1.ret ?_)
        refine EV.bin ?_
        refine EV.bin ?_
        refine EV.bin ?_
        refine EV.bin ?_
        refine EV.sub ?_
        refine EV.name rfl ?_ (loc_of (by assumption) rfl)
        refine EV.int ?_
        refine SubV.strS (j := 0) (c := x) rfl (by decide) (by rw [hxr]; rfl) ?_
        refine EV.strS (l := [46]) (by decide +kernel) ?_
        refine OpV.catS (by (try simp) <;> omega) ?_
        refine EV.name rfl ?_ (loc_of (by assumption) rfl)
        refine OpV.catS (by (try simp) <;> omega) ?_
        refine EV.strS (l := [69]) (by decide +kernel) ?_
        refine OpV.catS (by (try simp) <;> omega) ?_
        refine EV.callT (g_str hW') (by boot_by_name) (loc_of (by assumption) rfl) ?_
        refine EVL.cons ?_
        refine EV.name rfl ?_ (loc_of (by assumption) rfl)
        refine EVL.nil ?_
        refine CallV.strZ hpb (by omega) ?_
        refine OpV.catS (by (try simp) <;> omega) ?_
        refine htx _ ?_
        rw [if_pos (by first | exact .inl h1 | exact .inr h2)]
        first
        | (rw [if_pos (by first | exact h2 | exact h3)]; rw [hxr]; simp)
        | (rw [if_neg (by first | exact h2 | exact h3)]; rw [hxr]; simp)
    · try simp only [decide_eq_true_eq, decide_eq_false_iff_not, Bool.not_eq_true', Bool.not_eq_false'] at h2
      refine TV.or_nil ?_
      refine ⟨fun h => absurd h (by decide), fun _ => ?_⟩
      refine WS.nil ?_
      refine Then.next ?_
      refine WS.cons (WS1.ite ?_)
      refine TV.cmp ?_
      refine EV.name rfl ?_ (loc_of (by assumption) rfl)
      refine EV.int ?_
      refine CmpV.ge ?_
      refine ⟨_, rfl, ?_⟩
      refine ⟨fun h3 => ?_, fun h3 => ?_⟩
      · try simp only [decide_eq_true_eq, decide_eq_false_iff_not, Bool.not_eq_true', Bool.not_eq_false'] at h3
        refine WS.cons (WS1.ret ?_)
        refine EV.bin ?_
        refine EV.bin ?_
        refine EV.name rfl ?_ (loc_of (by assumption) rfl)
        refine EV.bin ?_
        refine EV.strS (l := [48]) (by decide +kernel) ?_
        refine EV.name rfl ?_ (loc_of (by assumption) rfl)
        refine OpV.repS (c := 48) (j := P.toNat) (by omega) (by have := hnn (fun z => z.elim h1 h2) h3; omega) ?_
        refine OpV.catS (by (try simp) <;> (have := hnn (fun z => z.elim h1 h2) h3; omega)) ?_
        refine EV.strS (l := [46, 48]) (by decide +kernel) ?_
        refine OpV.catS (by (try simp) <;> (have := hnn (fun z => z.elim h1 h2) h3; omega)) ?_
        refine htx _ ?_
        rw [if_neg (fun z => z.elim h1 h2), if_pos h3]
      · try simp only [decide_eq_true_eq, decide_eq_false_iff_not, Bool.not_eq_true', Bool.not_eq_false'] at h3
        refine WS.nil ?_
        refine Then.next ?_
        refine WS.cons (WS1.ite ?_)
        refine TV.cmp ?_
        refine EV.name rfl ?_ (loc_of (by assumption) rfl)
        refine EV.int ?_
        refine CmpV.ge ?_
        refine ⟨_, rfl, ?_⟩
        refine ⟨fun h4 => ?_, fun h4 => ?_⟩
        · try simp only [decide_eq_true_eq, decide_eq_false_iff_not, Bool.not_eq_true', Bool.not_eq_false'] at h4
          refine WS.cons (WS1.ret ?_)
          refine EV.bin ?_
          refine EV.bin ?_
          refine EV.slice_ns ?_
          refine EV.name rfl ?_ (loc_of (by assumption) rfl)
          refine EV.bin ?_
          refine EV.name rfl ?_ (loc_of (by assumption) rfl)
          refine EV.int ?_
          refine OpV.add ?_
          refine ⟨_, (((plc d P + 1).toNat : Nat) : Int), rfl, congrArg PV.int (by omega), by rw [S_len]; omega, ?_⟩
          rw [S_to]
          refine EV.strS (l := [46]) (by decide +kernel) ?_
          refine OpV.catS (by (try simp) <;> omega) ?_
          refine EV.slice_sn ?_
          refine EV.name rfl ?_ (loc_of (by assumption) rfl)
          refine EV.bin ?_
          refine EV.name rfl ?_ (loc_of (by assumption) rfl)
          refine EV.int ?_
          refine OpV.add ?_
          refine ⟨_, (((plc d P + 1).toNat : Nat) : Int), rfl, congrArg PV.int (by omega), by rw [S_len]; omega, ?_⟩
          rw [S_from _ (by unfold plc; omega)]
          refine OpV.catS (by (try simp) <;> omega) ?_
          refine htx _ ?_
          rw [if_neg (fun z => z.elim h1 h2), if_neg h3, if_pos h4]
          simp
        · try simp only [decide_eq_true_eq, decide_eq_false_iff_not, Bool.not_eq_true', Bool.not_eq_false'] at h4
          refine WS.nil ?_
          refine Then.next ?_
          refine WS.cons (WS1.ret ?_)
          refine EV.bin ?_
          refine EV.bin ?_
          refine EV.strS (l := [48, 46]) (by decide +kernel) ?_
          refine EV.bin ?_
          refine EV.strS (l := [48]) (by decide +kernel) ?_
          refine EV.bin ?_
          refine EV.bin ?_
          refine EV.int ?_
          refine EV.name rfl ?_ (loc_of (by assumption) rfl)
          refine OpV.sub ?_
          refine EV.int ?_
          refine OpV.sub ?_
          refine OpV.repS (c := 48) (j := (-plc d P - 1).toNat) (by omega) (by omega) ?_
          refine OpV.catS (by (try simp) <;> omega) ?_
          refine EV.name rfl ?_ (loc_of (by assumption) rfl)
          refine OpV.catS (by (try simp) <;> omega) ?_
          refine htx _ ?_
          rw [if_neg (fun z => z.elim h1 h2), if_neg h3, if_neg h4]

theorem write_real_ (hW : IsW X.W) (hd : 7 ≤ X.d) (hF : OkF eb fb) {s size : Nat} (hs : s ≤ 1) (hsz : size < 2 ^ eb * 2 ^ fb)
    (q : ∀ t, WTx eb fb s size t → Q (.str (S t)) σ) : CallV X (.ref 198) [.form (frm eb fb), .int ((s * 2 ^ eb * 2 ^ fb + size : Nat) : Int)] σ Q := by
  refine CallV.def hW.K ["form", "bits"] 6 rfl rfl (bind2 _ _ (fun _ _ => rfl)) (by decide) (by decide) (by omega) (by decide) rfl rfl rfl ?_
  intro X' e1 e2 e3
  have hW' : IsW X'.W := e1 ▸ hW
  clear hW
  obtain ⟨hb1, hb2, hb3, hb4⟩ := bits_facts (s := s) hsz
  obtain ⟨hc1, hc2⟩ := size_cases (by have := hF.h1; omega) hsz
  generalize s * 2 ^ eb * 2 ^ fb + size = b at *
  have sg1 : b / 2 ^ fb / 2 ^ eb = 1 → sgn s = [45] := fun h => by unfold sgn; rw [if_pos (by rw [← hb3]; exact h)]
  have sg0 : ¬ b / 2 ^ fb / 2 ^ eb = 1 → sgn s = [] := fun h => by unfold sgn; rw [if_neg (by rw [← hb3]; exact h)]
  refine WS.cons (WS1.ite ?_)
  refine TV.plain ?_
  refine EV.callF (g_is_not_a_number hW') (k_is_not_a_number hW') (loc_of (by assumption) rfl) ?_
  refine EVL.cons ?_
  refine EV.name rfl ?_ (loc_of (by assumption) rfl)
  refine EVL.cons ?_
  refine EV.name rfl ?_ (loc_of (by assumption) rfl)
  refine EVL.nil ?_
  refine is_not_a_number_ (b := b) hW' (by omega) hF ?_
  refine TrV.bool ?_
  refine ⟨fun h1 => ?_, fun h1 => ?_⟩
  · try simp only [decide_eq_true_eq, decide_eq_false_iff_not, Bool.not_eq_true', Bool.not_eq_false'] at h1
    refine WS.cons (WS1.ret ?_)
    refine EV.strS (l := [78, 65, 78]) (by decide +kernel) ?_
    exact q _ (.inl ⟨hc1.mp ((decide_eq_true_eq (p := _ ∧ _)).mp (by rw [← hb1, ← hb2]; first | exact h1 | exact decide_eq_true h1)), rfl⟩)
  · try simp only [decide_eq_true_eq, decide_eq_false_iff_not, Bool.not_eq_true', Bool.not_eq_false'] at h1
    refine WS.nil ?_
    refine Then.next ?_
    refine WS.cons (WS1.asg ?_ (loc_of (by assumption) rfl))
    refine EV.ife ?_
    refine TV.cmp ?_
    refine EV.callF (g_sign_of hW') (k_sign_of hW') (loc_of (by assumption) rfl) ?_
    refine EVL.cons ?_
    refine EV.name rfl ?_ (loc_of (by assumption) rfl)
    refine EVL.cons ?_
    refine EV.name rfl ?_ (loc_of (by assumption) rfl)
    refine EVL.nil ?_
    refine sign_of_ (b := b) hW' (by omega) hF ?_
    refine EV.intN (n := 1) rfl ?_
    refine CmpV.eqN ?_
    refine ⟨_, rfl, ?_⟩
    refine ⟨fun h2 => ?_, fun h2 => ?_⟩
    · try simp only [decide_eq_true_eq, decide_eq_false_iff_not, Bool.not_eq_true', Bool.not_eq_false'] at h2
      refine EV.strS (l := [45]) (by decide +kernel) ?_
      refine Then.next ?_
      refine WS.cons (WS1.ite ?_)
      refine TV.plain ?_
      refine EV.callF (g_is_infinite hW') (k_is_infinite hW') (loc_of (by assumption) rfl) ?_
      refine EVL.cons ?_
      refine EV.name rfl ?_ (loc_of (by assumption) rfl)
      refine EVL.cons ?_
      refine EV.name rfl ?_ (loc_of (by assumption) rfl)
      refine EVL.nil ?_
      refine is_infinite_ (b := b) hW' (by omega) hF ?_
      refine TrV.bool ?_
      refine ⟨fun h3 => ?_, fun h3 => ?_⟩
      · try simp only [decide_eq_true_eq, decide_eq_false_iff_not, Bool.not_eq_true', Bool.not_eq_false'] at h3
        refine WS.cons (WS1.ret ?_)
        refine EV.bin ?_
        refine EV.name rfl ?_ (loc_of (by assumption) rfl)
        refine EV.strS (l := [73, 78, 70]) (by decide +kernel) ?_
        refine OpV.catS (by (try simp) <;> omega) ?_
        exact q _ (.inr (.inl ⟨hc2.mp (by rw [← hb1, ← hb2]; exact h3), by first | rw [sg1 h2] | rw [sg0 h2]⟩))
      · try simp only [decide_eq_true_eq, decide_eq_false_iff_not, Bool.not_eq_true', Bool.not_eq_false'] at h3
        refine WS.nil ?_
        refine Then.next ?_
        refine WS.cons (WS1.ite ?_)
        refine TV.plain ?_
        refine EV.callF (g_is_zero hW') (k_is_zero hW') (loc_of (by assumption) rfl) ?_
        refine EVL.cons ?_
        refine EV.name rfl ?_ (loc_of (by assumption) rfl)
        refine EVL.cons ?_
        refine EV.name rfl ?_ (loc_of (by assumption) rfl)
        refine EVL.nil ?_
        refine is_zero_ (b := b) hW' (by omega) hF ?_
        refine TrV.bool ?_
        refine ⟨fun h4 => ?_, fun h4 => ?_⟩
        · try simp only [decide_eq_true_eq, decide_eq_false_iff_not, Bool.not_eq_true', Bool.not_eq_false'] at h4
          refine WS.cons (WS1.ret ?_)
          refine EV.bin ?_
          refine EV.name rfl ?_ (loc_of (by assumption) rfl)
          refine EV.strS (l := [48, 46, 48]) (by decide +kernel) ?_
          refine OpV.catS (by (try simp) <;> omega) ?_
          exact q _ (.inr (.inr (.inl ⟨by rw [← hb4, Nat.mul_comm]; exact h4, by first | rw [sg1 h2] | rw [sg0 h2]⟩)))
        · try simp only [decide_eq_true_eq, decide_eq_false_iff_not, Bool.not_eq_true', Bool.not_eq_false'] at h4
          refine WS.nil ?_
          refine Then.next ?_
          refine WS.cons (WS1.unpack (NamesOf.cons (NamesOf.cons NamesOf.nil)) (locs_of (by assumption) (by decide)) ?_ )
          refine EV.callF (g_shortest_digits hW') (k_shortest_digits hW') (loc_of (by assumption) rfl) ?_
          refine EVL.cons ?_
          refine EV.name rfl ?_ (loc_of (by assumption) rfl)
          refine EVL.cons ?_
          refine EV.callF (g_absolute_real hW') (k_absolute_real hW') (loc_of (by assumption) rfl) ?_
          refine EVL.cons ?_
          refine EV.name rfl ?_ (loc_of (by assumption) rfl)
          refine EVL.cons ?_
          refine EV.name rfl ?_ (loc_of (by assumption) rfl)
          refine EVL.nil ?_
          refine absolute_real_ (a := b) hW' (by omega) hF h1 ?_
          rw [hb4]
          refine EVL.nil ?_
          have hz : size ≠ 0 := fun z => h4 (by rw [Nat.mul_comm, hb4]; exact z)
          have hlt : size < (2 ^ eb - 1) * 2 ^ fb := by
            have n1 : ¬ (2 ^ eb - 1) * 2 ^ fb < size := fun z => h1 (by rw [hb1, hb2]; exact hc1.mpr z)
            have n2 : ¬ size = (2 ^ eb - 1) * 2 ^ fb := fun z => h3 (by rw [hb1, hb2]; exact hc2.mpr z)
            omega
          refine shortest_digits_ hW' (by omega) hF (by omega) hlt ?_
          intro d P hsd hdb hP1 hP2
          refine ⟨_, Seq.tup _, rfl, ?_⟩
          refine Then.next ?_
          refine WS.cons (WS1.ret ?_)
          refine EV.bin ?_
          refine EV.name rfl ?_ (loc_of (by assumption) rfl)
          refine EV.callF (g_placed_text hW') (k_placed_text hW') (loc_of (by assumption) rfl) ?_
          refine EVL.cons ?_
          refine EV.name rfl ?_ (loc_of (by assumption) rfl)
          refine EVL.cons ?_
          refine EV.name rfl ?_ (loc_of (by assumption) rfl)
          refine EVL.nil ?_
          have hptl : (ptext d P).length ≤ 900 := by
            obtain ⟨hl3, hpb, hil⟩ := plc_bd hdb hP1 hP2
            unfold ptext
            split
            · simp only [List.length_append, List.length_cons, List.length_take]; split <;> simp <;> omega
            · rename_i hq
              split
              · simp; unfold plc at hq; omega
              · split
                · simp; omega
                · simp; omega
          refine placed_text_ hW' (by omega) hsd.pos hdb hP1 hP2 ?_
          refine OpV.catS (by (try simp) <;> omega) ?_
          exact q _ (.inr (.inr (.inr ⟨by omega, hlt, d, P, hsd, hdb, hP1, hP2, by first | rw [sg1 h2] | rw [sg0 h2]⟩)))
    · try simp only [decide_eq_true_eq, decide_eq_false_iff_not, Bool.not_eq_true', Bool.not_eq_false'] at h2
      refine EV.strS (l := []) (by decide +kernel) ?_
      refine Then.next ?_
      refine WS.cons (WS1.ite ?_)
      refine TV.plain ?_
      refine EV.callF (g_is_infinite hW') (k_is_infinite hW') (loc_of (by assumption) rfl) ?_
      refine EVL.cons ?_
      refine EV.name rfl ?_ (loc_of (by assumption) rfl)
      refine EVL.cons ?_
      refine EV.name rfl ?_ (loc_of (by assumption) rfl)
      refine EVL.nil ?_
      refine is_infinite_ (b := b) hW' (by omega) hF ?_
      refine TrV.bool ?_
      refine ⟨fun h3 => ?_, fun h3 => ?_⟩
      · try simp only [decide_eq_true_eq, decide_eq_false_iff_not, Bool.not_eq_true', Bool.not_eq_false'] at h3
        refine WS.cons (WS1.ret ?_)
        refine EV.bin ?_
        refine EV.name rfl ?_ (loc_of (by assumption) rfl)
        refine EV.strS (l := [73, 78, 70]) (by decide +kernel) ?_
        refine OpV.catS (by (try simp) <;> omega) ?_
        exact q _ (.inr (.inl ⟨hc2.mp (by rw [← hb1, ← hb2]; exact h3), by first | rw [sg1 h2] | rw [sg0 h2]⟩))
      · try simp only [decide_eq_true_eq, decide_eq_false_iff_not, Bool.not_eq_true', Bool.not_eq_false'] at h3
        refine WS.nil ?_
        refine Then.next ?_
        refine WS.cons (WS1.ite ?_)
        refine TV.plain ?_
        refine EV.callF (g_is_zero hW') (k_is_zero hW') (loc_of (by assumption) rfl) ?_
        refine EVL.cons ?_
        refine EV.name rfl ?_ (loc_of (by assumption) rfl)
        refine EVL.cons ?_
        refine EV.name rfl ?_ (loc_of (by assumption) rfl)
        refine EVL.nil ?_
        refine is_zero_ (b := b) hW' (by omega) hF ?_
        refine TrV.bool ?_
        refine ⟨fun h4 => ?_, fun h4 => ?_⟩
        · try simp only [decide_eq_true_eq, decide_eq_false_iff_not, Bool.not_eq_true', Bool.not_eq_false'] at h4
          refine WS.cons (WS1.ret ?_)
          refine EV.bin ?_
          refine EV.name rfl ?_ (loc_of (by assumption) rfl)
          refine EV.strS (l := [48, 46, 48]) (by decide +kernel) ?_
          refine OpV.catS (by (try simp) <;> omega) ?_
          exact q _ (.inr (.inr (.inl ⟨by rw [← hb4, Nat.mul_comm]; exact h4, by first | rw [sg1 h2] | rw [sg0 h2]⟩)))
        · try simp only [decide_eq_true_eq, decide_eq_false_iff_not, Bool.not_eq_true', Bool.not_eq_false'] at h4
          refine WS.nil ?_
          refine Then.next ?_
          refine WS.cons (WS1.unpack (NamesOf.cons (NamesOf.cons NamesOf.nil)) (locs_of (by assumption) (by decide)) ?_ )
          refine EV.callF (g_shortest_digits hW') (k_shortest_digits hW') (loc_of (by assumption) rfl) ?_
          refine EVL.cons ?_
          refine EV.name rfl ?_ (loc_of (by assumption) rfl)
          refine EVL.cons ?_
          refine EV.callF (g_absolute_real hW') (k_absolute_real hW') (loc_of (by assumption) rfl) ?_
          refine EVL.cons ?_
          refine EV.name rfl ?_ (loc_of (by assumption) rfl)
          refine EVL.cons ?_
          refine EV.name rfl ?_ (loc_of (by assumption) rfl)
          refine EVL.nil ?_
          refine absolute_real_ (a := b) hW' (by omega) hF h1 ?_
          rw [hb4]
          refine EVL.nil ?_
          have hz : size ≠ 0 := fun z => h4 (by rw [Nat.mul_comm, hb4]; exact z)
          have hlt : size < (2 ^ eb - 1) * 2 ^ fb := by
            have n1 : ¬ (2 ^ eb - 1) * 2 ^ fb < size := fun z => h1 (by rw [hb1, hb2]; exact hc1.mpr z)
            have n2 : ¬ size = (2 ^ eb - 1) * 2 ^ fb := fun z => h3 (by rw [hb1, hb2]; exact hc2.mpr z)
            omega
          refine shortest_digits_ hW' (by omega) hF (by omega) hlt ?_
          intro d P hsd hdb hP1 hP2
          refine ⟨_, Seq.tup _, rfl, ?_⟩
          refine Then.next ?_
          refine WS.cons (WS1.ret ?_)
          refine EV.bin ?_
          refine EV.name rfl ?_ (loc_of (by assumption) rfl)
          refine EV.callF (g_placed_text hW') (k_placed_text hW') (loc_of (by assumption) rfl) ?_
          refine EVL.cons ?_
          refine EV.name rfl ?_ (loc_of (by assumption) rfl)
          refine EVL.cons ?_
          refine EV.name rfl ?_ (loc_of (by assumption) rfl)
          refine EVL.nil ?_
          have hptl : (ptext d P).length ≤ 900 := by
            obtain ⟨hl3, hpb, hil⟩ := plc_bd hdb hP1 hP2
            unfold ptext
            split
            · simp only [List.length_append, List.length_cons, List.length_take]; split <;> simp <;> omega
            · rename_i hq
              split
              · simp; unfold plc at hq; omega
              · split
                · simp; omega
                · simp; omega
          refine placed_text_ hW' (by omega) hsd.pos hdb hP1 hP2 ?_
          refine OpV.catS (by (try simp) <;> omega) ?_
          exact q _ (.inr (.inr (.inr ⟨by omega, hlt, d, P, hsd, hdb, hP1, hP2, by first | rw [sg1 h2] | rw [sg0 h2]⟩)))

end
end Mine

set_option exponentiation.threshold 17000
namespace Mine
def LocSub (ρ' ρ : Loc) : Prop := ∀ x p, ρ'.get x = some p → ρ.get x = some p
theorem LocLe.sub {ρ' ρ : Loc} (h : LocLe ρ' ρ) : LocSub ρ' ρ := fun _ _ e => h.get e
theorem LocSub.set {ρ' ρ : Loc} (h : LocSub ρ' ρ) (x : Str) (v : PV) : LocSub (ρ'.set x v) (ρ.set x v) := fun y p e => by
  rw [Loc.get_set] at e ⊢
  by_cases c : x = y
  · rw [if_pos c] at e ⊢; exact e
  · rw [if_neg c] at e ⊢; exact h _ _ e
theorem WS.sub {X : Fx} {ρ ρ' : Loc} {σ : Led} {ts : List Stmt} {Q : Res → Led → Prop} (h : LocSub ρ' ρ) (w : WS X ρ' σ ts Q) : WS X ρ σ ts Q := fun φ R m s S M =>
  w φ R m s S fun x p e => M x p (h _ _ e)
/-- a for by an invariant -/
def EachQ {α : Type} (st : α → Loc) (sg : α → Led) (I : α → List PV → Prop) (Q : Res → Led → Prop) (rest : List PV) (r : Res) (σ' : Led) : Prop := match r with
  | .next ρ' => ∃ a, LocSub (st a) ρ' ∧ σ' = sg a ∧ I a rest
  | .cont ρ' => ∃ a, LocSub (st a) ρ' ∧ σ' = sg a ∧ I a rest
  | .brk ρ' => Q (.next ρ') σ'
  | .ret u => Q (.ret u) σ'
theorem EachQ.goN {α : Type} {st : α → Loc} {sg : α → Led} {I : α → List PV → Prop} {Q : Res → Led → Prop} {rest : List PV} {ρ' : Loc} {σ' : Led} (a : α) (h : LocLe (st a) ρ') (hs : σ' = sg a) (hi : I a rest) : EachQ st sg I Q rest (.next ρ') σ' := ⟨a, h.sub, hs, hi⟩
theorem EachQ.goC {α : Type} {st : α → Loc} {sg : α → Led} {I : α → List PV → Prop} {Q : Res → Led → Prop} {rest : List PV} {ρ' : Loc} {σ' : Led} (a : α) (h : LocLe (st a) ρ') (hs : σ' = sg a) (hi : I a rest) : EachQ st sg I Q rest (.cont ρ') σ' := ⟨a, h.sub, hs, hi⟩
theorem FL.each {α : Type} (st : α → Loc) (sg : α → Led) (I : α → List PV → Prop) (a₀ : α) {X : Fx} {x : Str} {body : List Stmt} {items : List PV} {ρ : Loc} {σ : Led} {Q : Res → Led → Prop} (h0 : LocSub (st a₀) ρ) (hσ : σ = sg a₀) (hI : I a₀ items)
    (turn : ∀ a v rest, I a (v :: rest) → WS X ((st a).set x v) (sg a) body (EachQ st sg I Q rest)) (fin : ∀ a ρ', LocSub (st a) ρ' → I a [] → Q (.next ρ') (sg a)) : FL X x body items ρ σ Q := by
  subst hσ
  induction items generalizing a₀ ρ with
  | nil => exact fin a₀ ρ h0 hI
  | cons v rest ih =>
    refine FL.cons (WS.mono (WS.sub (h0.set x v) (turn a₀ v rest hI)) fun r σ' q => ?_)
    cases r with
    | next ρ' => obtain ⟨a, h, rfl, hi⟩ := q; exact ih a h hi
    | cont ρ' => obtain ⟨a, h, rfl, hi⟩ := q; exact ih a h hi
    | brk ρ' => exact q
    | ret u => exact q
theorem mem_seg {l : List Nat} {i j k c : Nat} (h1 : i ≤ k) (h2 : k < j) (h : l[k]? = some c) : c ∈ (l.drop i).take (j - i) := by
  apply List.mem_of_getElem? (i := k - i)
  rw [List.getElem?_take, if_pos (by omega), List.getElem?_drop, show i + (k - i) = k from by omega, h]
theorem p900 : (10 : Nat) ^ 900 < 2 ^ 3600 := by decide +kernel
theorem dig_in {c : Nat} : c ∈ [48, 49, 50, 51, 52, 53, 54, 55, 56, 57] ↔ 48 ≤ c ∧ c ≤ 57 := by simp; omega
theorem g_MOST {W : Wx} (h : IsW W) : ∃ t, nsIn W.K mainGlobals (Str.ofString "MOST_EXPONENT") = some (some (.int 4000 t)) := by
  have e : (match nsIn W.K mainGlobals (Str.ofString "MOST_EXPONENT") with | some (some (.int i t)) => i == 4000 | _ => false) = true := by rw [h.K]; kernel_rfl
  cases hn : nsIn W.K mainGlobals (Str.ofString "MOST_EXPONENT") with
  | none => rw [hn] at e; cases e
  | some o =>
    rw [hn] at e
    cases o with
    | none => cases e
    | some v =>
      cases v with
      | int i t => exact ⟨t, by rw [show i = 4000 from by simpa using e]⟩
      | _ => cases e
section
variable {X : Fx} {σ : Led} {ρ : Loc} {Q : PV → Led → Prop} {eb fb : Nat}
theorem EV.most {pos : Pos} (h : IsW X.W) (hx : X.sc.names.lookup (Str.ofString "MOST_EXPONENT") = some .globalImplicit) (q : Q (.int 4000) σ) : EV X ρ σ (.Name (Str.ofString "MOST_EXPONENT") pos) Q := by
  obtain ⟨t, ht⟩ := g_MOST h
  exact EV.gint ht hx q
theorem IopV.addN {a b : Nat} (q : Q (.int ((a + b : Nat) : Int)) σ) : IopV X .Add (.int (a : Int)) (.int (b : Int)) σ Q := IopV.add q
theorem take_seg {l a b c : List Nat} {i j : Nat} (h : l = a ++ (b ++ c)) (hi : i = a.length) (hj : j = b.length) : (l.drop i).take j = b := by
  subst h hi hj; simp

theorem digit_end_ (hW : IsW X.W) (hd : 1 ≤ X.d) {l : List Nat} {i j : Nat} (hn : l.length ≤ 900) (hij : i ≤ j) (hj : j ≤ l.length) (hd1 : AD ((l.drop i).take (j - i))) (hx : ∀ c, l[j]? = some c → ¬ (48 ≤ c ∧ c ≤ 57))
    (q : Q (.int (j : Int)) σ) : CallV X (.ref 205) [.str (S l), .int (i : Int)] σ Q := by
  refine CallV.def hW.K ["text", "at"] 0 rfl rfl (bind2 _ _ (fun _ _ => rfl)) (by decide) (by decide) (by omega) (by decide) rfl rfl rfl ?_
  intro X' e1 e2 e3
  have hW' : IsW X'.W := e1 ▸ hW
  clear hW
  refine WS.cons (WS1.while (α := Nat) (fun k => [(Str.ofString "text", .str (S l)), (Str.ofString "at", .int ((k : Nat) : Int))]) (fun _ => σ) (fun k => i ≤ k ∧ k ≤ j) (fun k => j - k) i rfl rfl ⟨Nat.le_refl _, hij⟩ ?_)
  intro k ⟨hk1, hk2⟩
  refine TV.and ?_
  refine TV.cmp ?_
  refine EV.name rfl ?_ (loc_of (by assumption) rfl)
  refine EV.callB (g_len hW') (by boot_by_name) (loc_of (by assumption) rfl) ?_
  refine EVL.cons ?_
  refine EV.name rfl ?_ (loc_of (by assumption) rfl)
  refine EVL.nil ?_
  refine CallV.lenS' (by omega) ?_
  refine CmpV.ltN ?_
  refine ⟨_, rfl, ?_⟩
  refine ⟨fun h1 => ?_, fun h1 => ?_⟩
  · try simp only [decide_eq_true_eq, decide_eq_false_iff_not, Bool.not_eq_true', Bool.not_eq_false'] at h1
    refine TV.and ?_
    refine TV.cmp ?_
    refine EV.sub ?_
    refine EV.name rfl ?_ (loc_of (by assumption) rfl)
    refine EV.name rfl ?_ (loc_of (by assumption) rfl)
    have hck : l[k]? = some (l[k]'(by omega)) := List.getElem?_eq_getElem _
    refine SubV.strS (j := k) rfl (by omega) hck ?_
    refine EV.strS (l := [48, 49, 50, 51, 52, 53, 54, 55, 56, 57]) (by decide +kernel) ?_
    refine CmpV.sinS ?_
    refine ⟨_, rfl, ?_⟩
    refine ⟨fun h2 => ?_, fun h2 => ?_⟩
    · try simp only [decide_eq_true_eq, decide_eq_false_iff_not, Bool.not_eq_true', Bool.not_eq_false'] at h2
      refine TV.and_nil ?_
      refine ⟨fun _ => ?_, fun h => absurd h (by decide)⟩
      have hkj : k < j := by
        rcases Nat.lt_or_ge k j with z | z
        · exact z
        · exact absurd (dig_in.mp h2) (hx _ (by rw [show j = k from by omega]; exact hck))
      refine WS.cons (WS1.aug rfl ?_ (loc_of (by assumption) rfl))
      refine EV.intN (n := 1) rfl ?_
      refine IopV.addN ?_
      refine Then.next ?_
      refine WS.nil ?_
      exact ⟨k + 1, rfl, rfl, ⟨by omega, by omega⟩, by show j - (k + 1) < j - k; omega⟩
    · try simp only [decide_eq_true_eq, decide_eq_false_iff_not, Bool.not_eq_true', Bool.not_eq_false'] at h2
      refine ⟨fun h => absurd h (by decide), fun _ => ?_⟩
      have hkj : k = j := by
        rcases Nat.lt_or_ge k j with z | z
        · first
          | exact absurd (by omega) h1
          | exact absurd (dig_in.mpr (hd1 _ (mem_seg hk1 z hck))) h2
        · omega
      subst hkj
      refine Then.next ?_
      refine WS.cons (WS1.ret ?_)
      refine EV.name rfl ?_ (loc_of (by assumption) rfl)
      exact q
  · try simp only [decide_eq_true_eq, decide_eq_false_iff_not, Bool.not_eq_true', Bool.not_eq_false'] at h1
    refine ⟨fun h => absurd h (by decide), fun _ => ?_⟩
    have hkj : k = j := by
      rcases Nat.lt_or_ge k j with z | z
      · first
        | exact absurd (by omega) h1
        | exact absurd (dig_in.mpr (hd1 _ (mem_seg hk1 z hck))) h2
      · omega
    subst hkj
    refine Then.next ?_
    refine WS.cons (WS1.ret ?_)
    refine EV.name rfl ?_ (loc_of (by assumption) rfl)
    exact q

theorem digits_value_ (hW : IsW X.W) (hd : 1 ≤ X.d) {l : List Nat} (hn : l.length ≤ 900) (ha : AD l)
    (q : Q (.int (dval l : Int)) σ) : CallV X (.ref 212) [.str (S l)] σ Q := by
  refine CallV.def hW.K ["text"] 0 rfl rfl (bind1 _ (fun _ => rfl)) (by decide) (by decide) (by omega) (by decide) rfl rfl rfl ?_
  intro X' e1 e2 e3
  have hW' : IsW X'.W := e1 ▸ hW
  clear hW
  refine WS.cons (WS1.asg ?_ (loc_of (by assumption) rfl))
  refine EV.intN (n := 0) rfl ?_
  refine Then.next ?_
  refine WS.cons (WS1.for ?_ (loc_of (by assumption) rfl))
  refine EV.name rfl ?_ (loc_of (by assumption) rfl)
  refine ⟨_, Itr.str _, ?_⟩
  refine FL.each (α := List Nat) (fun p => [(Str.ofString "text", .str (S l)), (Str.ofString "found", .int (dval p : Int))]) (fun _ => σ) (fun p r => ∃ b, l = p ++ b ∧ r = b.map fun c => PV.str (S [c])) [] (LocLe.sub ⟨rfl, rfl, trivial⟩) rfl ⟨l, rfl, by rw [S_cps]; rfl⟩ ?_ ?_
  · rintro p v rest ⟨b, hl, hr⟩
    cases b with
    | nil => cases hr
    | cons c b =>
    injection hr with e1 e2
    subst e1 e2
    have hc := ha c (by rw [hl]; exact List.mem_append_right _ List.mem_cons_self)
    have hpb : dval p < 10 ^ 900 := Nat.lt_of_lt_of_le (dval_lt p fun x hx => ha x (by rw [hl]; exact List.mem_append_left _ hx)) (Nat.pow_le_pow_right (by decide) (by rw [hl, List.length_append] at hn; omega))
    have hb1 : Bd 3600 ((dval p : Nat) : Int) := Bd.nat (Nat.lt_trans hpb p900)
    have hb2 : Bd 4 ((10 : Nat) : Int) := Bd.nat (by decide)
    refine WS.cons (WS1.asg ?_ (loc_of (by assumption) rfl))
    refine EV.bin ?_
    refine EV.bin ?_
    refine EV.name rfl ?_ (loc_of (by assumption) rfl)
    refine EV.intN (n := 10) rfl ?_
    refine OpV.mulB (k := 3600) (j := 4) hb1 hb2 (by decide) (by decide) ?_
    refine EV.callM (id := "str.index") (pl := ?pl1) (he := ?he1) (hp := ?hp1) (hc := ?hc1) ?hg1 ?_
    case he1 => rfl
    case hp1 => rfl
    case hc1 => rfl
    case hg1 => exact fun _ _ _ _ _ _ h => GM.index h
    refine EV.strS (l := [48, 49, 50, 51, 52, 53, 54, 55, 56, 57]) (by decide +kernel) ?_
    refine ⟨_, rfl, ?_⟩
    refine EVL.cons ?_
    refine EV.name rfl ?_ (loc_of (by assumption) rfl)
    refine EVL.nil ?_
    refine CallV.indexS hc.1 hc.2 ?_
    refine OpV.addN ?_
    refine Then.next ?_
    refine WS.nil ?_
    exact EachQ.goN (p ++ [c]) ⟨rfl, by rw [dval_append, dval_one]; rfl, trivial⟩ rfl ⟨b, by rw [hl]; simp, rfl⟩
  · rintro p ρ' hρ ⟨b, hl, hr⟩
    have hb : b = [] := by cases b with | nil => rfl | cons c b => cases hr
    subst hb
    rw [List.append_nil] at hl
    subst hl
    refine Then.next (WS.sub hρ ?_)
    refine WS.cons (WS1.ret ?_)
    refine EV.name rfl ?_ (loc_of (by assumption) rfl)
    exact q

theorem read_exponentP_ (hW : IsW X.W) (hd : 2 ≤ X.d) {n : Nat} (hn : n ≤ 4000)
    (q : Q (.tup [.bool true, .int (n : Int)]) σ) : CallV X (.ref 219) [.str (S (digM n))] σ Q := by
  refine CallV.def hW.K ["text"] 1 rfl rfl (bind1 _ (fun _ => rfl)) (by decide) (by decide) (by omega) (by decide) rfl rfl rfl ?_
  intro X' e1 e2 e3
  have hW' : IsW X'.W := e1 ▸ hW
  clear hW
  obtain ⟨a1, a2, a3, a4⟩ := dig_ok n
  have hl4 : (digM n).length ≤ 4 := dig_len (by decide) (by omega)
  have hl1 : 1 ≤ (digM n).length := List.length_pos_iff.mpr a3
  have p12 : (2 : Nat) ^ 12 = 4096 := by decide
  obtain ⟨x, r, hxr⟩ := List.exists_cons_of_ne_nil a3
  have hL : (digM n).length = (digM n).length + 0 := rfl
  have hlen1 : n = 0 → (digM n).length = 1 := fun z => by rw [z, dig_small (by decide)]; rfl
  have hne : ∀ c, (digM n).take 1 = [c] → 48 ≤ c := fun c h => by
    rw [hxr] at h
    have hx := a1 x (by rw [hxr]; exact List.mem_cons_self)
    have z : x = c := by simpa using h
    omega
  refine WS.cons (WS1.asg ?_ (loc_of (by assumption) rfl))
  refine EV.int ?_
  refine Then.next ?_
  refine WS.cons (WS1.asg ?_ (loc_of (by assumption) rfl))
  refine EV.intN (n := 0) rfl ?_
  refine Then.next ?_
  refine WS.cons (WS1.ite ?_)
  refine TV.or ?_
  refine TV.cmp ?_
  refine EV.slice_ns ?_
  refine EV.name rfl ?_ (loc_of (by assumption) rfl)
  refine EV.int ?_
  refine ⟨_, ((1 : Nat) : Int), rfl, rfl, by rw [S_len]; omega, ?_⟩
  rw [S_to]
  refine EV.strS (l := [45]) (by decide +kernel) ?_
  refine CmpV.seqS ?_
  refine ⟨_, rfl, ?_⟩
  refine ⟨fun h1 => ?_, fun h1 => ?_⟩
  · try simp only [decide_eq_true_eq, decide_eq_false_iff_not, Bool.not_eq_true', Bool.not_eq_false'] at h1
    refine ⟨fun _ => ?_, fun h => absurd h (by decide)⟩
    exact absurd (hne _ (by assumption)) (by decide)
  · try simp only [decide_eq_true_eq, decide_eq_false_iff_not, Bool.not_eq_true', Bool.not_eq_false'] at h1
    refine TV.or ?_
    refine TV.cmp ?_
    refine EV.slice_ns ?_
    refine EV.name rfl ?_ (loc_of (by assumption) rfl)
    refine EV.int ?_
    refine ⟨_, ((1 : Nat) : Int), rfl, rfl, by rw [S_len]; omega, ?_⟩
    rw [S_to]
    refine EV.strS (l := [43]) (by decide +kernel) ?_
    refine CmpV.seqS ?_
    refine ⟨_, rfl, ?_⟩
    refine ⟨fun h2 => ?_, fun h2 => ?_⟩
    · try simp only [decide_eq_true_eq, decide_eq_false_iff_not, Bool.not_eq_true', Bool.not_eq_false'] at h2
      refine ⟨fun _ => ?_, fun h => absurd h (by decide)⟩
      exact absurd (hne _ (by assumption)) (by decide)
    · try simp only [decide_eq_true_eq, decide_eq_false_iff_not, Bool.not_eq_true', Bool.not_eq_false'] at h2
      refine TV.or_nil ?_
      refine ⟨fun h => absurd h (by decide), fun _ => ?_⟩
      refine WS.nil ?_
      refine Then.next ?_
      refine WS.cons (WS1.ite ?_)
      refine TV.or ?_
      refine TV.cmp ?_
      refine EV.name rfl ?_ (loc_of (by assumption) rfl)
      refine EV.callB (g_len hW') (by boot_by_name) (loc_of (by assumption) rfl) ?_
      refine EVL.cons ?_
      refine EV.name rfl ?_ (loc_of (by assumption) rfl)
      refine EVL.nil ?_
      refine CallV.lenS' (by omega) ?_
      refine CmpV.eqN ?_
      refine ⟨_, rfl, ?_⟩
      refine ⟨fun h3 => ?_, fun h3 => ?_⟩
      · try simp only [decide_eq_true_eq, decide_eq_false_iff_not, Bool.not_eq_true', Bool.not_eq_false'] at h3
        refine ⟨fun _ => ?_, fun h => absurd h (by decide)⟩
        first | exact absurd rfl h2 | exact absurd rfl h3 | exact absurd rfl h4 | (exfalso; omega)
      · try simp only [decide_eq_true_eq, decide_eq_false_iff_not, Bool.not_eq_true', Bool.not_eq_false'] at h3
        refine TV.or ?_
        refine TV.cmp ?_
        refine EV.callF (g_digit_end hW') (k_digit_end hW') (loc_of (by assumption) rfl) ?_
        refine EVL.cons ?_
        refine EV.name rfl ?_ (loc_of (by assumption) rfl)
        refine EVL.cons ?_
        refine EV.name rfl ?_ (loc_of (by assumption) rfl)
        refine EVL.nil ?_
        refine digit_end_ (i := 0) (j := (digM n).length) hW' (by omega) (by omega) (by omega) (Nat.le_refl _) (by simpa using a1) (fun c h => by rw [List.getElem?_eq_none (Nat.le_refl _)] at h; cases h) ?_
        refine EV.callB (g_len hW') (by boot_by_name) (loc_of (by assumption) rfl) ?_
        refine EVL.cons ?_
        refine EV.name rfl ?_ (loc_of (by assumption) rfl)
        refine EVL.nil ?_
        refine CallV.lenS' (by omega) ?_
        refine CmpV.neN ?_
        refine ⟨_, rfl, ?_⟩
        refine ⟨fun h4 => ?_, fun h4 => ?_⟩
        · try simp only [decide_eq_true_eq, decide_eq_false_iff_not, Bool.not_eq_true', Bool.not_eq_false'] at h4
          refine ⟨fun _ => ?_, fun h => absurd h (by decide)⟩
          first | exact absurd rfl h2 | exact absurd rfl h3 | exact absurd rfl h4 | (exfalso; omega)
        · try simp only [decide_eq_true_eq, decide_eq_false_iff_not, Bool.not_eq_true', Bool.not_eq_false'] at h4
          refine TV.or_nil ?_
          refine ⟨fun h => absurd h (by decide), fun _ => ?_⟩
          refine WS.nil ?_
          refine Then.next ?_
          refine WS.cons (WS1.while (α := Unit) (fun _ => [(Str.ofString "text", .str (S (digM n))), (Str.ofString "sign", .int (1)), (Str.ofString "start", .int ((0 : Nat) : Int))]) (fun _ => σ) (fun _ => True) (fun _ => 0) () rfl rfl trivial ?_)
          intro _ _
          refine TV.and ?_
          refine TV.cmp ?_
          refine EV.name rfl ?_ (loc_of (by assumption) rfl)
          refine EV.bin ?_
          refine EV.callB (g_len hW') (by boot_by_name) (loc_of (by assumption) rfl) ?_
          refine EVL.cons ?_
          refine EV.name rfl ?_ (loc_of (by assumption) rfl)
          refine EVL.nil ?_
          refine CallV.lenS' (by omega) ?_
          refine EV.intN (n := 1) rfl ?_
          refine OpV.subN (by omega) ?_
          refine CmpV.ltN ?_
          refine ⟨_, rfl, ?_⟩
          refine ⟨fun h5 => ?_, fun h5 => ?_⟩
          · try simp only [decide_eq_true_eq, decide_eq_false_iff_not, Bool.not_eq_true', Bool.not_eq_false'] at h5
            refine TV.and ?_
            refine TV.cmp ?_
            refine EV.sub ?_
            refine EV.name rfl ?_ (loc_of (by assumption) rfl)
            refine EV.name rfl ?_ (loc_of (by assumption) rfl)
            refine SubV.strS (j := 0) (c := x) rfl (by decide) (by rw [hxr]; rfl) ?_
            refine EV.strS (l := [48]) (by decide +kernel) ?_
            refine CmpV.seqS ?_
            refine ⟨_, rfl, ?_⟩
            refine ⟨fun h6 => ?_, fun h6 => ?_⟩
            · try simp only [decide_eq_true_eq, decide_eq_false_iff_not, Bool.not_eq_true', Bool.not_eq_false'] at h6
              refine TV.and_nil ?_
              refine ⟨fun _ => ?_, fun h => absurd h (by decide)⟩
              exfalso
              have hx48 : x = 48 := by first | simpa using h5 | simpa using h6 | simpa using h4
              rcases Nat.eq_zero_or_pos n with z | z
              · have := hlen1 z
                omega
              · have := (a4 z).1
                rw [hxr, hx48] at this
                exact this rfl
            · try simp only [decide_eq_true_eq, decide_eq_false_iff_not, Bool.not_eq_true', Bool.not_eq_false'] at h6
              refine ⟨fun h => absurd h (by decide), fun _ => ?_⟩
              refine Then.next ?_
              refine WS.cons (WS1.asg ?_ (loc_of (by assumption) rfl))
              refine EV.callF (g_digits_value hW') (k_digits_value hW') (loc_of (by assumption) rfl) ?_
              refine EVL.cons ?_
              refine EV.slice_ss ?_
              refine EV.name rfl ?_ (loc_of (by assumption) rfl)
              refine EV.name rfl ?_ (loc_of (by assumption) rfl)
              refine EV.bin ?_
              refine EV.name rfl ?_ (loc_of (by assumption) rfl)
              refine EV.intN (n := 6) rfl ?_
              refine OpV.addN ?_
              refine ⟨_, ((0 : Nat) : Int), ((0 + 6 : Nat) : Int), rfl, rfl, rfl, by rw [S_len]; omega, ?_⟩
              rw [S_mid _ (by omega) (by omega)]
              rw [show ((digM n).drop 0).take (0 + 6 - 0) = digM n from List.take_of_length_le (by rw [List.length_drop]; omega)]
              refine EVL.nil ?_
              refine digits_value_ hW' (by omega) (by omega) a1 ?_
              rw [a2]
              refine Then.next ?_
              refine WS.cons (WS1.ite ?_)
              refine TV.or ?_
              refine TV.cmp ?_
              refine EV.bin ?_
              refine EV.callB (g_len hW') (by boot_by_name) (loc_of (by assumption) rfl) ?_
              refine EVL.cons ?_
              refine EV.name rfl ?_ (loc_of (by assumption) rfl)
              refine EVL.nil ?_
              refine CallV.lenS' (by omega) ?_
              refine EV.name rfl ?_ (loc_of (by assumption) rfl)
              refine OpV.subN (by omega) ?_
              refine EV.intN (n := 6) rfl ?_
              refine CmpV.gtN ?_
              refine ⟨_, rfl, ?_⟩
              refine ⟨fun h7 => ?_, fun h7 => ?_⟩
              · try simp only [decide_eq_true_eq, decide_eq_false_iff_not, Bool.not_eq_true', Bool.not_eq_false'] at h7
                refine ⟨fun _ => ?_, fun h => absurd h (by decide)⟩
                exfalso; omega
              · try simp only [decide_eq_true_eq, decide_eq_false_iff_not, Bool.not_eq_true', Bool.not_eq_false'] at h7
                refine TV.or ?_
                refine TV.cmp ?_
                refine EV.name rfl ?_ (loc_of (by assumption) rfl)
                refine EV.most hW' (loc_of (by assumption) rfl) ?_
                refine CmpV.gt ?_
                refine ⟨_, rfl, ?_⟩
                refine ⟨fun h8 => ?_, fun h8 => ?_⟩
                · try simp only [decide_eq_true_eq, decide_eq_false_iff_not, Bool.not_eq_true', Bool.not_eq_false'] at h8
                  refine ⟨fun _ => ?_, fun h => absurd h (by decide)⟩
                  exfalso; omega
                · try simp only [decide_eq_true_eq, decide_eq_false_iff_not, Bool.not_eq_true', Bool.not_eq_false'] at h8
                  refine TV.or_nil ?_
                  refine ⟨fun h => absurd h (by decide), fun _ => ?_⟩
                  refine WS.nil ?_
                  refine Then.next ?_
                  refine WS.cons (WS1.ret ?_)
                  refine EV.tuple ?_
                  refine EVL.cons ?_
                  refine EV.bool ?_
                  refine EVL.cons ?_
                  refine EV.bin ?_
                  refine EV.name rfl ?_ (loc_of (by assumption) rfl)
                  refine EV.name rfl ?_ (loc_of (by assumption) rfl)
                  refine OpV.mul (k := 12) (j := 12) (by unfold Bd; omega) (by unfold Bd; omega) (by decide) (by decide) ?_
                  refine EVL.nil ?_
                  refine ⟨by simp, ?_⟩
                  rw [Int.one_mul]; exact q
          · try simp only [decide_eq_true_eq, decide_eq_false_iff_not, Bool.not_eq_true', Bool.not_eq_false'] at h5
            refine ⟨fun h => absurd h (by decide), fun _ => ?_⟩
            refine Then.next ?_
            refine WS.cons (WS1.asg ?_ (loc_of (by assumption) rfl))
            refine EV.callF (g_digits_value hW') (k_digits_value hW') (loc_of (by assumption) rfl) ?_
            refine EVL.cons ?_
            refine EV.slice_ss ?_
            refine EV.name rfl ?_ (loc_of (by assumption) rfl)
            refine EV.name rfl ?_ (loc_of (by assumption) rfl)
            refine EV.bin ?_
            refine EV.name rfl ?_ (loc_of (by assumption) rfl)
            refine EV.intN (n := 6) rfl ?_
            refine OpV.addN ?_
            refine ⟨_, ((0 : Nat) : Int), ((0 + 6 : Nat) : Int), rfl, rfl, rfl, by rw [S_len]; omega, ?_⟩
            rw [S_mid _ (by omega) (by omega)]
            rw [show ((digM n).drop 0).take (0 + 6 - 0) = digM n from List.take_of_length_le (by rw [List.length_drop]; omega)]
            refine EVL.nil ?_
            refine digits_value_ hW' (by omega) (by omega) a1 ?_
            rw [a2]
            refine Then.next ?_
            refine WS.cons (WS1.ite ?_)
            refine TV.or ?_
            refine TV.cmp ?_
            refine EV.bin ?_
            refine EV.callB (g_len hW') (by boot_by_name) (loc_of (by assumption) rfl) ?_
            refine EVL.cons ?_
            refine EV.name rfl ?_ (loc_of (by assumption) rfl)
            refine EVL.nil ?_
            refine CallV.lenS' (by omega) ?_
            refine EV.name rfl ?_ (loc_of (by assumption) rfl)
            refine OpV.subN (by omega) ?_
            refine EV.intN (n := 6) rfl ?_
            refine CmpV.gtN ?_
            refine ⟨_, rfl, ?_⟩
            refine ⟨fun h6 => ?_, fun h6 => ?_⟩
            · try simp only [decide_eq_true_eq, decide_eq_false_iff_not, Bool.not_eq_true', Bool.not_eq_false'] at h6
              refine ⟨fun _ => ?_, fun h => absurd h (by decide)⟩
              exfalso; omega
            · try simp only [decide_eq_true_eq, decide_eq_false_iff_not, Bool.not_eq_true', Bool.not_eq_false'] at h6
              refine TV.or ?_
              refine TV.cmp ?_
              refine EV.name rfl ?_ (loc_of (by assumption) rfl)
              refine EV.most hW' (loc_of (by assumption) rfl) ?_
              refine CmpV.gt ?_
              refine ⟨_, rfl, ?_⟩
              refine ⟨fun h7 => ?_, fun h7 => ?_⟩
              · try simp only [decide_eq_true_eq, decide_eq_false_iff_not, Bool.not_eq_true', Bool.not_eq_false'] at h7
                refine ⟨fun _ => ?_, fun h => absurd h (by decide)⟩
                exfalso; omega
              · try simp only [decide_eq_true_eq, decide_eq_false_iff_not, Bool.not_eq_true', Bool.not_eq_false'] at h7
                refine TV.or_nil ?_
                refine ⟨fun h => absurd h (by decide), fun _ => ?_⟩
                refine WS.nil ?_
                refine Then.next ?_
                refine WS.cons (WS1.ret ?_)
                refine EV.tuple ?_
                refine EVL.cons ?_
                refine EV.bool ?_
                refine EVL.cons ?_
                refine EV.bin ?_
                refine EV.name rfl ?_ (loc_of (by assumption) rfl)
                refine EV.name rfl ?_ (loc_of (by assumption) rfl)
                refine OpV.mul (k := 12) (j := 12) (by unfold Bd; omega) (by unfold Bd; omega) (by decide) (by decide) ?_
                refine EVL.nil ?_
                refine ⟨by simp, ?_⟩
                rw [Int.one_mul]; exact q

theorem read_exponentN_ (hW : IsW X.W) (hd : 2 ≤ X.d) {n : Nat} (hn : n ≤ 4000)
    (q : Q (.tup [.bool true, .int (-(n : Int))]) σ) : CallV X (.ref 219) [.str (S (45 :: digM n))] σ Q := by
  refine CallV.def hW.K ["text"] 1 rfl rfl (bind1 _ (fun _ => rfl)) (by decide) (by decide) (by omega) (by decide) rfl rfl rfl ?_
  intro X' e1 e2 e3
  have hW' : IsW X'.W := e1 ▸ hW
  clear hW
  obtain ⟨a1, a2, a3, a4⟩ := dig_ok n
  have hl4 : (digM n).length ≤ 4 := dig_len (by decide) (by omega)
  have hl1 : 1 ≤ (digM n).length := List.length_pos_iff.mpr a3
  have p12 : (2 : Nat) ^ 12 = 4096 := by decide
  obtain ⟨x, r, hxr⟩ := List.exists_cons_of_ne_nil a3
  have hL : (45 :: digM n).length = (digM n).length + 1 := rfl
  have hlen1 : n = 0 → (digM n).length = 1 := fun z => by rw [z, dig_small (by decide)]; rfl
  have hne : ∀ c, (digM n).take 1 = [c] → 48 ≤ c := fun c h => by
    rw [hxr] at h
    have hx := a1 x (by rw [hxr]; exact List.mem_cons_self)
    have z : x = c := by simpa using h
    omega
  refine WS.cons (WS1.asg ?_ (loc_of (by assumption) rfl))
  refine EV.int ?_
  refine Then.next ?_
  refine WS.cons (WS1.asg ?_ (loc_of (by assumption) rfl))
  refine EV.intN (n := 0) rfl ?_
  refine Then.next ?_
  refine WS.cons (WS1.ite ?_)
  refine TV.or ?_
  refine TV.cmp ?_
  refine EV.slice_ns ?_
  refine EV.name rfl ?_ (loc_of (by assumption) rfl)
  refine EV.int ?_
  refine ⟨_, ((1 : Nat) : Int), rfl, rfl, by rw [S_len]; omega, ?_⟩
  rw [S_to]
  refine EV.strS (l := [45]) (by decide +kernel) ?_
  refine CmpV.seqS ?_
  refine ⟨_, rfl, ?_⟩
  refine ⟨fun h1 => ?_, fun h1 => ?_⟩
  · try simp only [decide_eq_true_eq, decide_eq_false_iff_not, Bool.not_eq_true', Bool.not_eq_false'] at h1
    refine ⟨fun _ => ?_, fun h => absurd h (by decide)⟩
    refine WS.cons (WS1.asg ?_ (loc_of (by assumption) rfl))
    refine EV.intN (n := 1) rfl ?_
    refine Then.next ?_
    refine WS.cons (WS1.ite ?_)
    refine TV.cmp ?_
    refine EV.sub ?_
    refine EV.name rfl ?_ (loc_of (by assumption) rfl)
    refine EV.int ?_
    refine SubV.strS (j := 0) (c := 45) rfl (by decide) rfl ?_
    refine EV.strS (l := [45]) (by decide +kernel) ?_
    refine CmpV.seqS ?_
    refine ⟨_, rfl, ?_⟩
    refine ⟨fun h2 => ?_, fun h2 => ?_⟩
    · try simp only [decide_eq_true_eq, decide_eq_false_iff_not, Bool.not_eq_true', Bool.not_eq_false'] at h2
      refine WS.cons (WS1.asg ?_ (loc_of (by assumption) rfl))
      refine EV.un ?_
      refine EV.int ?_
      refine UnV.neg ?_
      refine Then.next ?_
      refine WS.nil ?_
      refine Then.next ?_
      refine WS.nil ?_
      refine Then.next ?_
      refine WS.cons (WS1.ite ?_)
      refine TV.or ?_
      refine TV.cmp ?_
      refine EV.name rfl ?_ (loc_of (by assumption) rfl)
      refine EV.callB (g_len hW') (by boot_by_name) (loc_of (by assumption) rfl) ?_
      refine EVL.cons ?_
      refine EV.name rfl ?_ (loc_of (by assumption) rfl)
      refine EVL.nil ?_
      refine CallV.lenS' (by omega) ?_
      refine CmpV.eqN ?_
      refine ⟨_, rfl, ?_⟩
      refine ⟨fun h3 => ?_, fun h3 => ?_⟩
      · try simp only [decide_eq_true_eq, decide_eq_false_iff_not, Bool.not_eq_true', Bool.not_eq_false'] at h3
        refine ⟨fun _ => ?_, fun h => absurd h (by decide)⟩
        first | exact absurd rfl h2 | exact absurd rfl h3 | exact absurd rfl h4 | (exfalso; omega)
      · try simp only [decide_eq_true_eq, decide_eq_false_iff_not, Bool.not_eq_true', Bool.not_eq_false'] at h3
        refine TV.or ?_
        refine TV.cmp ?_
        refine EV.callF (g_digit_end hW') (k_digit_end hW') (loc_of (by assumption) rfl) ?_
        refine EVL.cons ?_
        refine EV.name rfl ?_ (loc_of (by assumption) rfl)
        refine EVL.cons ?_
        refine EV.name rfl ?_ (loc_of (by assumption) rfl)
        refine EVL.nil ?_
        refine digit_end_ (i := 1) (j := (45 :: digM n).length) hW' (by omega) (by omega) (by omega) (Nat.le_refl _) (by simpa using a1) (fun c h => by rw [List.getElem?_eq_none (Nat.le_refl _)] at h; cases h) ?_
        refine EV.callB (g_len hW') (by boot_by_name) (loc_of (by assumption) rfl) ?_
        refine EVL.cons ?_
        refine EV.name rfl ?_ (loc_of (by assumption) rfl)
        refine EVL.nil ?_
        refine CallV.lenS' (by omega) ?_
        refine CmpV.neN ?_
        refine ⟨_, rfl, ?_⟩
        refine ⟨fun h4 => ?_, fun h4 => ?_⟩
        · try simp only [decide_eq_true_eq, decide_eq_false_iff_not, Bool.not_eq_true', Bool.not_eq_false'] at h4
          refine ⟨fun _ => ?_, fun h => absurd h (by decide)⟩
          first | exact absurd rfl h2 | exact absurd rfl h3 | exact absurd rfl h4 | (exfalso; omega)
        · try simp only [decide_eq_true_eq, decide_eq_false_iff_not, Bool.not_eq_true', Bool.not_eq_false'] at h4
          refine TV.or_nil ?_
          refine ⟨fun h => absurd h (by decide), fun _ => ?_⟩
          refine WS.nil ?_
          refine Then.next ?_
          refine WS.cons (WS1.while (α := Unit) (fun _ => [(Str.ofString "text", .str (S (45 :: digM n))), (Str.ofString "sign", .int (-1)), (Str.ofString "start", .int ((1 : Nat) : Int))]) (fun _ => σ) (fun _ => True) (fun _ => 0) () rfl rfl trivial ?_)
          intro _ _
          refine TV.and ?_
          refine TV.cmp ?_
          refine EV.name rfl ?_ (loc_of (by assumption) rfl)
          refine EV.bin ?_
          refine EV.callB (g_len hW') (by boot_by_name) (loc_of (by assumption) rfl) ?_
          refine EVL.cons ?_
          refine EV.name rfl ?_ (loc_of (by assumption) rfl)
          refine EVL.nil ?_
          refine CallV.lenS' (by omega) ?_
          refine EV.intN (n := 1) rfl ?_
          refine OpV.subN (by omega) ?_
          refine CmpV.ltN ?_
          refine ⟨_, rfl, ?_⟩
          refine ⟨fun h5 => ?_, fun h5 => ?_⟩
          · try simp only [decide_eq_true_eq, decide_eq_false_iff_not, Bool.not_eq_true', Bool.not_eq_false'] at h5
            refine TV.and ?_
            refine TV.cmp ?_
            refine EV.sub ?_
            refine EV.name rfl ?_ (loc_of (by assumption) rfl)
            refine EV.name rfl ?_ (loc_of (by assumption) rfl)
            refine SubV.strS (j := 1) (c := x) rfl (by decide) (by rw [hxr]; rfl) ?_
            refine EV.strS (l := [48]) (by decide +kernel) ?_
            refine CmpV.seqS ?_
            refine ⟨_, rfl, ?_⟩
            refine ⟨fun h6 => ?_, fun h6 => ?_⟩
            · try simp only [decide_eq_true_eq, decide_eq_false_iff_not, Bool.not_eq_true', Bool.not_eq_false'] at h6
              refine TV.and_nil ?_
              refine ⟨fun _ => ?_, fun h => absurd h (by decide)⟩
              exfalso
              have hx48 : x = 48 := by first | simpa using h5 | simpa using h6 | simpa using h4
              rcases Nat.eq_zero_or_pos n with z | z
              · have := hlen1 z
                omega
              · have := (a4 z).1
                rw [hxr, hx48] at this
                exact this rfl
            · try simp only [decide_eq_true_eq, decide_eq_false_iff_not, Bool.not_eq_true', Bool.not_eq_false'] at h6
              refine ⟨fun h => absurd h (by decide), fun _ => ?_⟩
              refine Then.next ?_
              refine WS.cons (WS1.asg ?_ (loc_of (by assumption) rfl))
              refine EV.callF (g_digits_value hW') (k_digits_value hW') (loc_of (by assumption) rfl) ?_
              refine EVL.cons ?_
              refine EV.slice_ss ?_
              refine EV.name rfl ?_ (loc_of (by assumption) rfl)
              refine EV.name rfl ?_ (loc_of (by assumption) rfl)
              refine EV.bin ?_
              refine EV.name rfl ?_ (loc_of (by assumption) rfl)
              refine EV.intN (n := 6) rfl ?_
              refine OpV.addN ?_
              refine ⟨_, ((1 : Nat) : Int), ((1 + 6 : Nat) : Int), rfl, rfl, rfl, by rw [S_len]; omega, ?_⟩
              rw [S_mid _ (by omega) (by omega)]
              rw [show ((45 :: digM n).drop 1).take (1 + 6 - 1) = digM n from List.take_of_length_le (by rw [List.length_drop]; omega)]
              refine EVL.nil ?_
              refine digits_value_ hW' (by omega) (by omega) a1 ?_
              rw [a2]
              refine Then.next ?_
              refine WS.cons (WS1.ite ?_)
              refine TV.or ?_
              refine TV.cmp ?_
              refine EV.bin ?_
              refine EV.callB (g_len hW') (by boot_by_name) (loc_of (by assumption) rfl) ?_
              refine EVL.cons ?_
              refine EV.name rfl ?_ (loc_of (by assumption) rfl)
              refine EVL.nil ?_
              refine CallV.lenS' (by omega) ?_
              refine EV.name rfl ?_ (loc_of (by assumption) rfl)
              refine OpV.subN (by omega) ?_
              refine EV.intN (n := 6) rfl ?_
              refine CmpV.gtN ?_
              refine ⟨_, rfl, ?_⟩
              refine ⟨fun h7 => ?_, fun h7 => ?_⟩
              · try simp only [decide_eq_true_eq, decide_eq_false_iff_not, Bool.not_eq_true', Bool.not_eq_false'] at h7
                refine ⟨fun _ => ?_, fun h => absurd h (by decide)⟩
                exfalso; omega
              · try simp only [decide_eq_true_eq, decide_eq_false_iff_not, Bool.not_eq_true', Bool.not_eq_false'] at h7
                refine TV.or ?_
                refine TV.cmp ?_
                refine EV.name rfl ?_ (loc_of (by assumption) rfl)
                refine EV.most hW' (loc_of (by assumption) rfl) ?_
                refine CmpV.gt ?_
                refine ⟨_, rfl, ?_⟩
                refine ⟨fun h8 => ?_, fun h8 => ?_⟩
                · try simp only [decide_eq_true_eq, decide_eq_false_iff_not, Bool.not_eq_true', Bool.not_eq_false'] at h8
                  refine ⟨fun _ => ?_, fun h => absurd h (by decide)⟩
                  exfalso; omega
                · try simp only [decide_eq_true_eq, decide_eq_false_iff_not, Bool.not_eq_true', Bool.not_eq_false'] at h8
                  refine TV.or_nil ?_
                  refine ⟨fun h => absurd h (by decide), fun _ => ?_⟩
                  refine WS.nil ?_
                  refine Then.next ?_
                  refine WS.cons (WS1.ret ?_)
                  refine EV.tuple ?_
                  refine EVL.cons ?_
                  refine EV.bool ?_
                  refine EVL.cons ?_
                  refine EV.bin ?_
                  refine EV.name rfl ?_ (loc_of (by assumption) rfl)
                  refine EV.name rfl ?_ (loc_of (by assumption) rfl)
                  refine OpV.mul (k := 12) (j := 12) (by unfold Bd; omega) (by unfold Bd; omega) (by decide) (by decide) ?_
                  refine EVL.nil ?_
                  refine ⟨by simp, ?_⟩
                  rw [show (-1 : Int) * (n : Int) = -(n : Int) from by omega]; exact q
          · try simp only [decide_eq_true_eq, decide_eq_false_iff_not, Bool.not_eq_true', Bool.not_eq_false'] at h5
            refine ⟨fun h => absurd h (by decide), fun _ => ?_⟩
            refine Then.next ?_
            refine WS.cons (WS1.asg ?_ (loc_of (by assumption) rfl))
            refine EV.callF (g_digits_value hW') (k_digits_value hW') (loc_of (by assumption) rfl) ?_
            refine EVL.cons ?_
            refine EV.slice_ss ?_
            refine EV.name rfl ?_ (loc_of (by assumption) rfl)
            refine EV.name rfl ?_ (loc_of (by assumption) rfl)
            refine EV.bin ?_
            refine EV.name rfl ?_ (loc_of (by assumption) rfl)
            refine EV.intN (n := 6) rfl ?_
            refine OpV.addN ?_
            refine ⟨_, ((1 : Nat) : Int), ((1 + 6 : Nat) : Int), rfl, rfl, rfl, by rw [S_len]; omega, ?_⟩
            rw [S_mid _ (by omega) (by omega)]
            rw [show ((45 :: digM n).drop 1).take (1 + 6 - 1) = digM n from List.take_of_length_le (by rw [List.length_drop]; omega)]
            refine EVL.nil ?_
            refine digits_value_ hW' (by omega) (by omega) a1 ?_
            rw [a2]
            refine Then.next ?_
            refine WS.cons (WS1.ite ?_)
            refine TV.or ?_
            refine TV.cmp ?_
            refine EV.bin ?_
            refine EV.callB (g_len hW') (by boot_by_name) (loc_of (by assumption) rfl) ?_
            refine EVL.cons ?_
            refine EV.name rfl ?_ (loc_of (by assumption) rfl)
            refine EVL.nil ?_
            refine CallV.lenS' (by omega) ?_
            refine EV.name rfl ?_ (loc_of (by assumption) rfl)
            refine OpV.subN (by omega) ?_
            refine EV.intN (n := 6) rfl ?_
            refine CmpV.gtN ?_
            refine ⟨_, rfl, ?_⟩
            refine ⟨fun h6 => ?_, fun h6 => ?_⟩
            · try simp only [decide_eq_true_eq, decide_eq_false_iff_not, Bool.not_eq_true', Bool.not_eq_false'] at h6
              refine ⟨fun _ => ?_, fun h => absurd h (by decide)⟩
              exfalso; omega
            · try simp only [decide_eq_true_eq, decide_eq_false_iff_not, Bool.not_eq_true', Bool.not_eq_false'] at h6
              refine TV.or ?_
              refine TV.cmp ?_
              refine EV.name rfl ?_ (loc_of (by assumption) rfl)
              refine EV.most hW' (loc_of (by assumption) rfl) ?_
              refine CmpV.gt ?_
              refine ⟨_, rfl, ?_⟩
              refine ⟨fun h7 => ?_, fun h7 => ?_⟩
              · try simp only [decide_eq_true_eq, decide_eq_false_iff_not, Bool.not_eq_true', Bool.not_eq_false'] at h7
                refine ⟨fun _ => ?_, fun h => absurd h (by decide)⟩
                exfalso; omega
              · try simp only [decide_eq_true_eq, decide_eq_false_iff_not, Bool.not_eq_true', Bool.not_eq_false'] at h7
                refine TV.or_nil ?_
                refine ⟨fun h => absurd h (by decide), fun _ => ?_⟩
                refine WS.nil ?_
                refine Then.next ?_
                refine WS.cons (WS1.ret ?_)
                refine EV.tuple ?_
                refine EVL.cons ?_
                refine EV.bool ?_
                refine EVL.cons ?_
                refine EV.bin ?_
                refine EV.name rfl ?_ (loc_of (by assumption) rfl)
                refine EV.name rfl ?_ (loc_of (by assumption) rfl)
                refine OpV.mul (k := 12) (j := 12) (by unfold Bd; omega) (by unfold Bd; omega) (by decide) (by decide) ?_
                refine EVL.nil ?_
                refine ⟨by simp, ?_⟩
                rw [show (-1 : Int) * (n : Int) = -(n : Int) from by omega]; exact q
    · try simp only [decide_eq_true_eq, decide_eq_false_iff_not, Bool.not_eq_true', Bool.not_eq_false'] at h2
      first | exact absurd trivial h2 | exact absurd rfl h2
  · try simp only [decide_eq_true_eq, decide_eq_false_iff_not, Bool.not_eq_true', Bool.not_eq_false'] at h1
    exact absurd rfl h1

theorem read_exponent_ (hW : IsW X.W) (hd : 2 ≤ X.d) {p : Int} (hp : p.natAbs ≤ 4000) (q : Q (.tup [.bool true, .int p]) σ) : CallV X (.ref 219) [.str (S (istr p))] σ Q := by
  unfold istr
  by_cases h : p < 0
  · rw [if_pos h]
    exact read_exponentN_ hW hd (n := (-p).toNat) (by omega) (by rw [show -(((-p).toNat : Nat) : Int) = p from by omega]; exact q)
  · rw [if_neg h]
    exact read_exponentP_ hW hd (n := p.toNat) (by omega) (by rw [show ((p.toNat : Nat) : Int) = p from by omega]; exact q)
theorem IopV.subP {p x : Int} {n : Nat} (e : x = (n : Int)) (q : Q (.int (p - (n : Int))) σ) : IopV X .Sub (.int p) (.int x) σ Q := IopV.sub (e ▸ q)
theorem p10_bd {n : Nat} (h : n ≤ 4000) : Bd 16001 ((10 ^ n : Nat) : Int) := by
  refine Bd.nat (Nat.lt_of_le_of_lt (Nat.pow_le_pow_left (by decide : 10 ≤ 2 ^ 4) n) ?_)
  rw [← Nat.pow_mul]
  exact Nat.pow_lt_pow_right (by decide) (by omega)
/-- a text that read_decimal reads as the number of these bits -/
structure DecP (eb fb size : Nat) (t bf bh : List Nat) (sc : Bool) (p0 : Int) : Prop where
  eq : t = bf ++ (46 :: (bh ++ (if sc = true then 69 :: istr p0 else [])))
  len : t.length ≤ 890
  ad1 : AD bf
  ad2 : AD bh
  n1 : bf ≠ []
  n2 : bh ≠ []
  p0b : p0.natAbs ≤ 4000
  p0z : sc = false → p0 = 0
  zr : dval (bf ++ bh) = 0 → size = 0
  r1 : 0 < dval (bf ++ bh) → 0 ≤ p0 - (bh.length : Int) → dval (bf ++ bh) * 10 ^ (p0 - (bh.length : Int)).toNat < 2 ^ 2000 ∧ rnd fb ((2 ^ eb - 1) * 2 ^ fb) (dval (bf ++ bh) * 10 ^ (p0 - (bh.length : Int)).toNat * 2 ^ E0 eb fb) 1 = size
  r2 : 0 < dval (bf ++ bh) → ¬ 0 ≤ p0 - (bh.length : Int) → dval (bf ++ bh) < 2 ^ 2000 ∧ 10 ^ (0 - (p0 - (bh.length : Int))).toNat < 2 ^ 2000 ∧ rnd fb ((2 ^ eb - 1) * 2 ^ fb) (dval (bf ++ bh) * 2 ^ E0 eb fb) (10 ^ (0 - (p0 - (bh.length : Int))).toNat) = size

theorem read_decimal_ (hW : IsW X.W) (hd : 5 ≤ X.d) (hF : OkF eb fb) {s size : Nat} (hs : s ≤ 1) {t bf bh : List Nat} {sc : Bool} {p0 : Int} (D : DecP eb fb size t bf bh sc p0)
    (q : Q (.tup [.bool true, .int ((s * 2 ^ eb * 2 ^ fb + size : Nat) : Int)]) σ) : CallV X (.ref 226) [.form (frm eb fb), .int (s : Int), .str (S t)] σ Q := by
  refine CallV.def hW.K ["form", "sign", "text"] 4 rfl rfl (bind3 _ _ _ (fun _ _ _ => rfl)) (by decide) (by decide) (by omega) (by decide) rfl rfl rfl ?_
  intro X' e1 e2 e3
  have hW' : IsW X'.W := e1 ▸ hW
  clear hW
  have ht := D.eq
  have hle := D.len
  have hlen := congrArg List.length D.eq
  rw [List.length_append, List.length_cons, List.length_append] at hlen
  have hb1 : 1 ≤ bf.length := List.length_pos_iff.mpr D.n1
  have hg1 : (t.drop 0).take (bf.length - 0) = bf := by rw [ht]; simp
  have hg2 : t[bf.length]? = some 46 := by rw [ht]; simp
  have hg3 : (t.drop bf.length).take (bf.length + 1 - bf.length) = [46] := by rw [ht]; simp
  have hdr : t.drop (bf.length + 1) = bh ++ (if sc = true then 69 :: istr p0 else []) := by
    rw [ht, ← List.drop_drop]; simp
  have hg4 : (t.drop (bf.length + 1)).take (bf.length + 1 + bh.length - (bf.length + 1)) = bh := by
    rw [hdr, show bf.length + 1 + bh.length - (bf.length + 1) = bh.length from by omega]; simp
  have hdr2 : t.drop (bf.length + 1 + bh.length) = (if sc = true then 69 :: istr p0 else []) := by
    rw [← List.drop_drop, hdr]; simp
  have hg5 : t[bf.length + 1 + bh.length]? = if sc = true then some 69 else none := by
    have e := List.getElem?_drop (xs := t) (i := bf.length + 1 + bh.length) (j := 0)
    rw [hdr2, Nat.add_zero] at e
    rw [← e]; split <;> rfl
  have hg6 : t.take bf.length = bf := by rw [ht]; simp
  have hg7 : t.drop (bf.length + 1 + bh.length + 1) = if sc = true then istr p0 else [] := by
    rw [← List.drop_drop, hdr2]; split <;> rfl
  have hDb : Bd 3600 ((dval (bf ++ bh) : Nat) : Int) := Bd.nat (Nat.lt_trans (Nat.lt_of_lt_of_le (dval_lt _ (D.ad1.append D.ad2)) (Nat.pow_le_pow_right (by decide) (by rw [List.length_append]; omega))) p900)
  refine WS.cons (WS1.asg ?_ (loc_of (by assumption) rfl))
  refine EV.callF (g_digit_end hW') (k_digit_end hW') (loc_of (by assumption) rfl) ?_
  refine EVL.cons ?_
  refine EV.name rfl ?_ (loc_of (by assumption) rfl)
  refine EVL.cons ?_
  refine EV.intN (n := 0) rfl ?_
  refine EVL.nil ?_
  refine digit_end_ (i := 0) (j := bf.length) hW' (by omega) (by omega) (Nat.zero_le _) (by omega) (by rw [hg1]; exact D.ad1) (fun c h => by rw [hg2] at h; cases h; decide) ?_
  refine Then.next ?_
  refine WS.cons (WS1.ite ?_)
  refine TV.or ?_
  refine TV.cmp ?_
  refine EV.name rfl ?_ (loc_of (by assumption) rfl)
  refine EV.intN (n := 0) rfl ?_
  refine CmpV.eqN ?_
  refine ⟨_, rfl, ?_⟩
  refine ⟨fun h1 => ?_, fun h1 => ?_⟩
  · try simp only [decide_eq_true_eq, decide_eq_false_iff_not, Bool.not_eq_true', Bool.not_eq_false'] at h1
    refine ⟨fun _ => ?_, fun h => absurd h (by decide)⟩
    first | exact absurd (List.eq_nil_of_length_eq_zero h1) D.n1 | exact absurd rfl h2
  · try simp only [decide_eq_true_eq, decide_eq_false_iff_not, Bool.not_eq_true', Bool.not_eq_false'] at h1
    refine TV.or ?_
    refine TV.cmp ?_
    refine EV.slice_ss ?_
    refine EV.name rfl ?_ (loc_of (by assumption) rfl)
    refine EV.name rfl ?_ (loc_of (by assumption) rfl)
    refine EV.bin ?_
    refine EV.name rfl ?_ (loc_of (by assumption) rfl)
    refine EV.intN (n := 1) rfl ?_
    refine OpV.addN ?_
    refine ⟨_, ((bf.length : Nat) : Int), ((bf.length + 1 : Nat) : Int), rfl, rfl, rfl, by rw [S_len]; omega, ?_⟩
    rw [S_mid _ (by omega) (by omega), hg3]
    refine EV.strS (l := [46]) (by decide +kernel) ?_
    refine CmpV.sneS ?_
    refine ⟨_, rfl, ?_⟩
    refine ⟨fun h2 => ?_, fun h2 => ?_⟩
    · try simp only [decide_eq_true_eq, decide_eq_false_iff_not, Bool.not_eq_true', Bool.not_eq_false'] at h2
      refine ⟨fun _ => ?_, fun h => absurd h (by decide)⟩
      first | exact absurd (List.eq_nil_of_length_eq_zero h1) D.n1 | exact absurd rfl h2
    · try simp only [decide_eq_true_eq, decide_eq_false_iff_not, Bool.not_eq_true', Bool.not_eq_false'] at h2
      refine TV.or_nil ?_
      refine ⟨fun h => absurd h (by decide), fun _ => ?_⟩
      refine WS.nil ?_
      refine Then.next ?_
      refine WS.cons (WS1.asg ?_ (loc_of (by assumption) rfl))
      refine EV.callF (g_digit_end hW') (k_digit_end hW') (loc_of (by assumption) rfl) ?_
      refine EVL.cons ?_
      refine EV.name rfl ?_ (loc_of (by assumption) rfl)
      refine EVL.cons ?_
      refine EV.bin ?_
      refine EV.name rfl ?_ (loc_of (by assumption) rfl)
      refine EV.intN (n := 1) rfl ?_
      refine OpV.addN ?_
      refine EVL.nil ?_
      refine digit_end_ (i := bf.length + 1) (j := bf.length + 1 + bh.length) hW' (by omega) (by omega) (by omega) (by omega) (by rw [hg4]; exact D.ad2) (fun c h => by rw [hg5] at h; revert h; split <;> intro h <;> cases h; decide) ?_
      refine Then.next ?_
      refine WS.cons (WS1.asg ?_ (loc_of (by assumption) rfl))
      refine EV.callF (g_digits_value hW') (k_digits_value hW') (loc_of (by assumption) rfl) ?_
      refine EVL.cons ?_
      refine EV.bin ?_
      refine EV.slice_ns ?_
      refine EV.name rfl ?_ (loc_of (by assumption) rfl)
      refine EV.name rfl ?_ (loc_of (by assumption) rfl)
      refine ⟨_, ((bf.length : Nat) : Int), rfl, rfl, by rw [S_len]; omega, ?_⟩
      rw [S_to, hg6]
      refine EV.slice_ss ?_
      refine EV.name rfl ?_ (loc_of (by assumption) rfl)
      refine EV.bin ?_
      refine EV.name rfl ?_ (loc_of (by assumption) rfl)
      refine EV.intN (n := 1) rfl ?_
      refine OpV.addN ?_
      refine EV.name rfl ?_ (loc_of (by assumption) rfl)
      refine ⟨_, ((bf.length + 1 : Nat) : Int), ((bf.length + 1 + bh.length : Nat) : Int), rfl, rfl, rfl, by rw [S_len]; omega, ?_⟩
      rw [S_mid _ (by omega) (by omega), hg4]
      refine OpV.catS (by omega) ?_
      refine EVL.nil ?_
      refine digits_value_ hW' (by omega) (by rw [List.length_append]; omega) (D.ad1.append D.ad2) ?_
      refine Then.next ?_
      refine WS.cons (WS1.asg ?_ (loc_of (by assumption) rfl))
      refine EV.int ?_
      refine Then.next ?_
      refine WS.cons (WS1.ite ?_)
      refine TV.cmp ?_
      refine EV.name rfl ?_ (loc_of (by assumption) rfl)
      refine EV.callB (g_len hW') (by boot_by_name) (loc_of (by assumption) rfl) ?_
      refine EVL.cons ?_
      refine EV.name rfl ?_ (loc_of (by assumption) rfl)
      refine EVL.nil ?_
      refine CallV.lenS' (by omega) ?_
      refine CmpV.ltN ?_
      refine ⟨_, rfl, ?_⟩
      refine ⟨fun h3 => ?_, fun h3 => ?_⟩
      · try simp only [decide_eq_true_eq, decide_eq_false_iff_not, Bool.not_eq_true', Bool.not_eq_false'] at h3
        refine WS.cons (WS1.ite ?_)
        refine TV.cmp ?_
        refine EV.sub ?_
        refine EV.name rfl ?_ (loc_of (by assumption) rfl)
        refine EV.name rfl ?_ (loc_of (by assumption) rfl)
        have hsc : sc = true := by
          cases hc : sc with
          | true => rfl
          | false => rw [hc] at hlen; simp at hlen; omega
        refine SubV.strS (j := bf.length + 1 + bh.length) (c := 69) rfl (by omega) (by rw [hg5, if_pos hsc]) ?_
        refine EV.strS (l := [69]) (by decide +kernel) ?_
        refine CmpV.sneS ?_
        refine ⟨_, rfl, ?_⟩
        refine ⟨fun h4 => ?_, fun h4 => ?_⟩
        · try simp only [decide_eq_true_eq, decide_eq_false_iff_not, Bool.not_eq_true', Bool.not_eq_false'] at h4
          exact absurd rfl (by assumption)
        · try simp only [decide_eq_true_eq, decide_eq_false_iff_not, Bool.not_eq_true', Bool.not_eq_false'] at h4
          refine WS.nil ?_
          refine Then.next ?_
          refine WS.cons (WS1.unpack (NamesOf.cons (NamesOf.cons NamesOf.nil)) (locs_of (by assumption) (by decide)) ?_ )
          refine EV.callF (g_read_exponent hW') (k_read_exponent hW') (loc_of (by assumption) rfl) ?_
          refine EVL.cons ?_
          refine EV.slice_sn ?_
          refine EV.name rfl ?_ (loc_of (by assumption) rfl)
          refine EV.bin ?_
          refine EV.name rfl ?_ (loc_of (by assumption) rfl)
          refine EV.intN (n := 1) rfl ?_
          refine OpV.addN ?_
          refine ⟨_, ((bf.length + 1 + bh.length + 1 : Nat) : Int), rfl, rfl, by rw [S_len]; omega, ?_⟩
          rw [S_from _ (by omega), hg7, if_pos hsc]
          refine EVL.nil ?_
          refine read_exponent_ hW' (by omega) D.p0b ?_
          refine ⟨_, Seq.tup _, rfl, ?_⟩
          refine Then.next ?_
          refine WS.cons (WS1.ite ?_)
          refine TV.not ?_
          refine TV.plain ?_
          refine EV.name rfl ?_ (loc_of (by assumption) rfl)
          refine TrV.bool ?_
          refine ⟨fun h5 => ?_, fun h5 => ?_⟩
          · try simp only [decide_eq_true_eq, decide_eq_false_iff_not, Bool.not_eq_true', Bool.not_eq_false'] at h5
            contradiction
          · try simp only [decide_eq_true_eq, decide_eq_false_iff_not, Bool.not_eq_true', Bool.not_eq_false'] at h5
            refine WS.nil ?_
            refine Then.next ?_
            refine WS.nil ?_
            refine Then.next ?_
            first
            | (have hsc := hsc; skip)
            | (have hsc : sc = false := by
                 cases hc : sc with
                 | false => rfl
                 | true => rw [hc] at hlen; simp at hlen; omega
               have hp00 := D.p0z hsc
               subst hp00)
            have hp0b := D.p0b
            have hz1 : 1 ≤ bh.length := List.length_pos_iff.mpr D.n2
            refine WS.cons (WS1.ite ?_)
            refine TV.or ?_
            refine TV.cmp ?_
            refine EV.name rfl ?_ (loc_of (by assumption) rfl)
            refine EV.intN (n := 0) rfl ?_
            refine CmpV.eqN ?_
            refine ⟨_, rfl, ?_⟩
            refine ⟨fun h6 => ?_, fun h6 => ?_⟩
            · try simp only [decide_eq_true_eq, decide_eq_false_iff_not, Bool.not_eq_true', Bool.not_eq_false'] at h6
              refine ⟨fun _ => ?_, fun h => absurd h (by decide)⟩
              refine WS.cons (WS1.ret ?_)
              refine EV.tuple ?_
              refine EVL.cons ?_
              refine EV.bool ?_
              refine EVL.cons ?_
              refine EV.callF (g_signed_zero hW') (k_signed_zero hW') (loc_of (by assumption) rfl) ?_
              refine EVL.cons ?_
              refine EV.name rfl ?_ (loc_of (by assumption) rfl)
              refine EVL.cons ?_
              refine EV.name rfl ?_ (loc_of (by assumption) rfl)
              refine EVL.nil ?_
              refine signed_zero_ (s := s) hW' (by omega) hF hs ?_
              refine EVL.nil ?_
              refine ⟨by simp, ?_⟩
              first
              | (rw [D.zr (by assumption)] at q; exact q)
              | (exfalso; omega)
            · try simp only [decide_eq_true_eq, decide_eq_false_iff_not, Bool.not_eq_true', Bool.not_eq_false'] at h6
              refine TV.or ?_
              refine TV.cmp ?_
              refine EV.name rfl ?_ (loc_of (by assumption) rfl)
              refine EV.bin ?_
              refine EV.int ?_
              refine EV.most hW' (loc_of (by assumption) rfl) ?_
              refine OpV.sub ?_
              refine CmpV.lt ?_
              refine ⟨_, rfl, ?_⟩
              refine ⟨fun h7 => ?_, fun h7 => ?_⟩
              · try simp only [decide_eq_true_eq, decide_eq_false_iff_not, Bool.not_eq_true', Bool.not_eq_false'] at h7
                refine ⟨fun _ => ?_, fun h => absurd h (by decide)⟩
                refine WS.cons (WS1.ret ?_)
                refine EV.tuple ?_
                refine EVL.cons ?_
                refine EV.bool ?_
                refine EVL.cons ?_
                refine EV.callF (g_signed_zero hW') (k_signed_zero hW') (loc_of (by assumption) rfl) ?_
                refine EVL.cons ?_
                refine EV.name rfl ?_ (loc_of (by assumption) rfl)
                refine EVL.cons ?_
                refine EV.name rfl ?_ (loc_of (by assumption) rfl)
                refine EVL.nil ?_
                refine signed_zero_ (s := s) hW' (by omega) hF hs ?_
                refine EVL.nil ?_
                refine ⟨by simp, ?_⟩
                first
                | (rw [D.zr (by assumption)] at q; exact q)
                | (exfalso; omega)
              · try simp only [decide_eq_true_eq, decide_eq_false_iff_not, Bool.not_eq_true', Bool.not_eq_false'] at h7
                refine TV.or_nil ?_
                refine ⟨fun h => absurd h (by decide), fun _ => ?_⟩
                refine WS.nil ?_
                refine Then.next ?_
                refine WS.cons (WS1.ite ?_)
                refine TV.cmp ?_
                refine EV.name rfl ?_ (loc_of (by assumption) rfl)
                refine EV.most hW' (loc_of (by assumption) rfl) ?_
                refine CmpV.gt ?_
                refine ⟨_, rfl, ?_⟩
                refine ⟨fun h8 => ?_, fun h8 => ?_⟩
                · try simp only [decide_eq_true_eq, decide_eq_false_iff_not, Bool.not_eq_true', Bool.not_eq_false'] at h8
                  exfalso; omega
                · try simp only [decide_eq_true_eq, decide_eq_false_iff_not, Bool.not_eq_true', Bool.not_eq_false'] at h8
                  refine WS.nil ?_
                  refine Then.next ?_
                  refine WS.cons (WS1.aug rfl ?_ (loc_of (by assumption) rfl))
                  refine EV.bin ?_
                  refine EV.bin ?_
                  refine EV.name rfl ?_ (loc_of (by assumption) rfl)
                  refine EV.name rfl ?_ (loc_of (by assumption) rfl)
                  refine OpV.sub ?_
                  refine EV.int ?_
                  refine OpV.sub ?_
                  refine IopV.subP (n := bh.length) (by omega) ?_
                  refine Then.next ?_
                  refine WS.cons (WS1.ite ?_)
                  refine TV.cmp ?_
                  refine EV.name rfl ?_ (loc_of (by assumption) rfl)
                  refine EV.int ?_
                  refine CmpV.ge ?_
                  refine ⟨_, rfl, ?_⟩
                  refine ⟨fun h9 => ?_, fun h9 => ?_⟩
                  · try simp only [decide_eq_true_eq, decide_eq_false_iff_not, Bool.not_eq_true', Bool.not_eq_false'] at h9
                    refine WS.cons (WS1.ret ?_)
                    refine EV.tuple ?_
                    refine EVL.cons ?_
                    refine EV.bool ?_
                    refine EVL.cons ?_
                    refine EV.callF (g_from_ratio hW') (k_from_ratio hW') (loc_of (by assumption) rfl) ?_
                    refine EVL.cons ?_
                    refine EV.name rfl ?_ (loc_of (by assumption) rfl)
                    refine EVL.cons ?_
                    refine EV.name rfl ?_ (loc_of (by assumption) rfl)
                    refine EVL.cons ?_
                    refine EV.bin ?_
                    refine EV.name rfl ?_ (loc_of (by assumption) rfl)
                    refine EV.bin ?_
                    refine EV.int ?_
                    refine EV.name rfl ?_ (loc_of (by assumption) rfl)
                    refine OpV.powZ (b := 10) rfl (by decide) (by assumption) (by omega) ?_
                    refine OpV.mulB (k := 3600) (j := 16001) hDb (p10_bd (by omega)) (by decide) (by decide) ?_
                    refine EVL.cons ?_
                    refine EV.intN (n := 1) rfl ?_
                    refine EVL.nil ?_
                    have hD0 : 0 < dval (bf ++ bh) := Nat.pos_of_ne_zero (by assumption)
                    have hr := D.r1 hD0 (by assumption)
                    refine from_ratio_ (s := s) hW' (by omega) hF hs (Nat.mul_pos hD0 (Nat.pow_pos (by decide))) (by decide) (Bd.nat hr.1) (Bd.nat (n := 1) (Nat.one_lt_pow (by decide) (by decide))) ?_
                    rw [hr.2]
                    refine EVL.nil ?_
                    refine ⟨by simp, ?_⟩
                    exact q
                  · try simp only [decide_eq_true_eq, decide_eq_false_iff_not, Bool.not_eq_true', Bool.not_eq_false'] at h9
                    refine WS.nil ?_
                    refine Then.next ?_
                    refine WS.cons (WS1.ret ?_)
                    refine EV.tuple ?_
                    refine EVL.cons ?_
                    refine EV.bool ?_
                    refine EVL.cons ?_
                    refine EV.callF (g_from_ratio hW') (k_from_ratio hW') (loc_of (by assumption) rfl) ?_
                    refine EVL.cons ?_
                    refine EV.name rfl ?_ (loc_of (by assumption) rfl)
                    refine EVL.cons ?_
                    refine EV.name rfl ?_ (loc_of (by assumption) rfl)
                    refine EVL.cons ?_
                    refine EV.name rfl ?_ (loc_of (by assumption) rfl)
                    refine EVL.cons ?_
                    refine EV.bin ?_
                    refine EV.int ?_
                    refine EV.bin ?_
                    refine EV.int ?_
                    refine EV.name rfl ?_ (loc_of (by assumption) rfl)
                    refine OpV.sub ?_
                    refine OpV.powZ (b := 10) rfl (by decide) (by omega) (by omega) ?_
                    refine EVL.nil ?_
                    have hD0 : 0 < dval (bf ++ bh) := Nat.pos_of_ne_zero (by assumption)
                    have hr := D.r2 hD0 (by assumption)
                    refine from_ratio_ (s := s) hW' (by omega) hF hs hD0 (Nat.pow_pos (by decide)) (Bd.nat hr.1) (Bd.nat hr.2.1) ?_
                    rw [hr.2.2]
                    refine EVL.nil ?_
                    refine ⟨by simp, ?_⟩
                    exact q
      · try simp only [decide_eq_true_eq, decide_eq_false_iff_not, Bool.not_eq_true', Bool.not_eq_false'] at h3
        refine WS.nil ?_
        refine Then.next ?_
        first
        | (have hsc := hsc; skip)
        | (have hsc : sc = false := by
             cases hc : sc with
             | false => rfl
             | true => rw [hc] at hlen; simp at hlen; omega
           have hp00 := D.p0z hsc
           subst hp00)
        have hp0b := D.p0b
        have hz1 : 1 ≤ bh.length := List.length_pos_iff.mpr D.n2
        refine WS.cons (WS1.ite ?_)
        refine TV.or ?_
        refine TV.cmp ?_
        refine EV.name rfl ?_ (loc_of (by assumption) rfl)
        refine EV.intN (n := 0) rfl ?_
        refine CmpV.eqN ?_
        refine ⟨_, rfl, ?_⟩
        refine ⟨fun h4 => ?_, fun h4 => ?_⟩
        · try simp only [decide_eq_true_eq, decide_eq_false_iff_not, Bool.not_eq_true', Bool.not_eq_false'] at h4
          refine ⟨fun _ => ?_, fun h => absurd h (by decide)⟩
          refine WS.cons (WS1.ret ?_)
          refine EV.tuple ?_
          refine EVL.cons ?_
          refine EV.bool ?_
          refine EVL.cons ?_
          refine EV.callF (g_signed_zero hW') (k_signed_zero hW') (loc_of (by assumption) rfl) ?_
          refine EVL.cons ?_
          refine EV.name rfl ?_ (loc_of (by assumption) rfl)
          refine EVL.cons ?_
          refine EV.name rfl ?_ (loc_of (by assumption) rfl)
          refine EVL.nil ?_
          refine signed_zero_ (s := s) hW' (by omega) hF hs ?_
          refine EVL.nil ?_
          refine ⟨by simp, ?_⟩
          first
          | (rw [D.zr (by assumption)] at q; exact q)
          | (exfalso; omega)
        · try simp only [decide_eq_true_eq, decide_eq_false_iff_not, Bool.not_eq_true', Bool.not_eq_false'] at h4
          refine TV.or ?_
          refine TV.cmp ?_
          refine EV.name rfl ?_ (loc_of (by assumption) rfl)
          refine EV.bin ?_
          refine EV.int ?_
          refine EV.most hW' (loc_of (by assumption) rfl) ?_
          refine OpV.sub ?_
          refine CmpV.lt ?_
          refine ⟨_, rfl, ?_⟩
          refine ⟨fun h5 => ?_, fun h5 => ?_⟩
          · try simp only [decide_eq_true_eq, decide_eq_false_iff_not, Bool.not_eq_true', Bool.not_eq_false'] at h5
            refine ⟨fun _ => ?_, fun h => absurd h (by decide)⟩
            refine WS.cons (WS1.ret ?_)
            refine EV.tuple ?_
            refine EVL.cons ?_
            refine EV.bool ?_
            refine EVL.cons ?_
            refine EV.callF (g_signed_zero hW') (k_signed_zero hW') (loc_of (by assumption) rfl) ?_
            refine EVL.cons ?_
            refine EV.name rfl ?_ (loc_of (by assumption) rfl)
            refine EVL.cons ?_
            refine EV.name rfl ?_ (loc_of (by assumption) rfl)
            refine EVL.nil ?_
            refine signed_zero_ (s := s) hW' (by omega) hF hs ?_
            refine EVL.nil ?_
            refine ⟨by simp, ?_⟩
            first
            | (rw [D.zr (by assumption)] at q; exact q)
            | (exfalso; omega)
          · try simp only [decide_eq_true_eq, decide_eq_false_iff_not, Bool.not_eq_true', Bool.not_eq_false'] at h5
            refine TV.or_nil ?_
            refine ⟨fun h => absurd h (by decide), fun _ => ?_⟩
            refine WS.nil ?_
            refine Then.next ?_
            refine WS.cons (WS1.ite ?_)
            refine TV.cmp ?_
            refine EV.name rfl ?_ (loc_of (by assumption) rfl)
            refine EV.most hW' (loc_of (by assumption) rfl) ?_
            refine CmpV.gt ?_
            refine ⟨_, rfl, ?_⟩
            refine ⟨fun h6 => ?_, fun h6 => ?_⟩
            · try simp only [decide_eq_true_eq, decide_eq_false_iff_not, Bool.not_eq_true', Bool.not_eq_false'] at h6
              exfalso; omega
            · try simp only [decide_eq_true_eq, decide_eq_false_iff_not, Bool.not_eq_true', Bool.not_eq_false'] at h6
              refine WS.nil ?_
              refine Then.next ?_
              refine WS.cons (WS1.aug rfl ?_ (loc_of (by assumption) rfl))
              refine EV.bin ?_
              refine EV.bin ?_
              refine EV.name rfl ?_ (loc_of (by assumption) rfl)
              refine EV.name rfl ?_ (loc_of (by assumption) rfl)
              refine OpV.sub ?_
              refine EV.int ?_
              refine OpV.sub ?_
              refine IopV.subP (n := bh.length) (by omega) ?_
              refine Then.next ?_
              refine WS.cons (WS1.ite ?_)
              refine TV.cmp ?_
              refine EV.name rfl ?_ (loc_of (by assumption) rfl)
              refine EV.int ?_
              refine CmpV.ge ?_
              refine ⟨_, rfl, ?_⟩
              refine ⟨fun h7 => ?_, fun h7 => ?_⟩
              · try simp only [decide_eq_true_eq, decide_eq_false_iff_not, Bool.not_eq_true', Bool.not_eq_false'] at h7
                refine WS.cons (WS1.ret ?_)
                refine EV.tuple ?_
                refine EVL.cons ?_
                refine EV.bool ?_
                refine EVL.cons ?_
                refine EV.callF (g_from_ratio hW') (k_from_ratio hW') (loc_of (by assumption) rfl) ?_
                refine EVL.cons ?_
                refine EV.name rfl ?_ (loc_of (by assumption) rfl)
                refine EVL.cons ?_
                refine EV.name rfl ?_ (loc_of (by assumption) rfl)
                refine EVL.cons ?_
                refine EV.bin ?_
                refine EV.name rfl ?_ (loc_of (by assumption) rfl)
                refine EV.bin ?_
                refine EV.int ?_
                refine EV.name rfl ?_ (loc_of (by assumption) rfl)
                refine OpV.powZ (b := 10) rfl (by decide) (by assumption) (by omega) ?_
                refine OpV.mulB (k := 3600) (j := 16001) hDb (p10_bd (by omega)) (by decide) (by decide) ?_
                refine EVL.cons ?_
                refine EV.intN (n := 1) rfl ?_
                refine EVL.nil ?_
                have hD0 : 0 < dval (bf ++ bh) := Nat.pos_of_ne_zero (by assumption)
                have hr := D.r1 hD0 (by assumption)
                refine from_ratio_ (s := s) hW' (by omega) hF hs (Nat.mul_pos hD0 (Nat.pow_pos (by decide))) (by decide) (Bd.nat hr.1) (Bd.nat (n := 1) (Nat.one_lt_pow (by decide) (by decide))) ?_
                rw [hr.2]
                refine EVL.nil ?_
                refine ⟨by simp, ?_⟩
                exact q
              · try simp only [decide_eq_true_eq, decide_eq_false_iff_not, Bool.not_eq_true', Bool.not_eq_false'] at h7
                refine WS.nil ?_
                refine Then.next ?_
                refine WS.cons (WS1.ret ?_)
                refine EV.tuple ?_
                refine EVL.cons ?_
                refine EV.bool ?_
                refine EVL.cons ?_
                refine EV.callF (g_from_ratio hW') (k_from_ratio hW') (loc_of (by assumption) rfl) ?_
                refine EVL.cons ?_
                refine EV.name rfl ?_ (loc_of (by assumption) rfl)
                refine EVL.cons ?_
                refine EV.name rfl ?_ (loc_of (by assumption) rfl)
                refine EVL.cons ?_
                refine EV.name rfl ?_ (loc_of (by assumption) rfl)
                refine EVL.cons ?_
                refine EV.bin ?_
                refine EV.int ?_
                refine EV.bin ?_
                refine EV.int ?_
                refine EV.name rfl ?_ (loc_of (by assumption) rfl)
                refine OpV.sub ?_
                refine OpV.powZ (b := 10) rfl (by decide) (by omega) (by omega) ?_
                refine EVL.nil ?_
                have hD0 : 0 < dval (bf ++ bh) := Nat.pos_of_ne_zero (by assumption)
                have hr := D.r2 hD0 (by assumption)
                refine from_ratio_ (s := s) hW' (by omega) hF hs hD0 (Nat.pow_pos (by decide)) (Bd.nat hr.1) (Bd.nat hr.2.1) ?_
                rw [hr.2.2]
                refine EVL.nil ?_
                refine ⟨by simp, ?_⟩
                exact q

end
end Mine

set_option exponentiation.threshold 17000
namespace Mine
theorem size_top {eb fb : Nat} (hF : OkF eb fb) : 0 < (2 ^ eb - 1) * 2 ^ fb := Nat.mul_pos (by have := top_ge hF; omega) (Nat.pow_pos (by decide))
theorem dec_zero {eb fb : Nat} : DecP eb fb 0 [48, 46, 48] [48] [48] false 0 := by
  refine ⟨rfl, by decide, AD.zeros 1, AD.zeros 1, by decide, by decide, by decide, fun _ => rfl, fun _ => rfl, fun h => absurd h (by decide), fun h => absurd h (by decide)⟩
theorem dec_num {eb fb size d : Nat} {P : Int} (hF : OkF eb fb) (h0 : 0 < size) (h1 : size < (2 ^ eb - 1) * 2 ^ fb) (hsd : SDok fb (E0 eb fb) size d P) (hdb : d < 2 ^ 950) (hP1 : -151 ≤ P) (hP2 : P ≤ 1600) : ∃ bf bh sc p0, DecP eb fb size (ptext d P) bf bh sc p0 := by
  obtain ⟨bf, bh, sc, p0, k, T⟩ := pt_ok (P := P) hsd.pos
  obtain ⟨hl3, hpb, hil⟩ := plc_bd hdb hP1 hP2
  have hk : k ≤ 1 ∨ (0 ≤ P ∧ k = P.toNat + 1) := T.kk.elim .inl fun h => .inr h.2
  obtain ⟨r1, r2⟩ := read_num hF.h2 (by have := hF.h1; omega) hF.h3 hF.h4 h0 h1 hsd.cand hsd.pos hdb hP1 hk
  have hD : dval (bf ++ bh) = d * 10 ^ k := T.val
  refine ⟨bf, bh, sc, p0, ⟨T.eq, Nat.le_trans (ptext_len hl3 hil) (by decide), T.ad1, T.ad2, T.n1, T.n2, ?_, T.p0z, ?_, ?_, ?_⟩⟩
  · cases hc : sc with
    | true => rw [T.p0e hc]; unfold Bd at hpb; have : (2 : Nat) ^ 12 = 4096 := by decide
              unfold plc; have := dig_len (n := d) (k := 300) (by decide) (by have : (2 : Nat) ^ 950 < 10 ^ 300 := by decide
                                                                              omega)
              omega
    | false => rw [T.p0z hc]; decide
  · intro h; rw [hD] at h; have := Nat.mul_pos hsd.pos (Nat.pow_pos (n := k) (by decide : 0 < 10)); omega
  · intro _ h; rw [T.pw] at h ⊢; rw [hD]; exact r1 h
  · intro _ h; rw [T.pw] at h ⊢; rw [hD]; exact r2 h
theorem dec_first {eb fb size : Nat} {t bf bh : List Nat} {sc : Bool} {p0 : Int} (D : DecP eb fb size t bf bh sc p0) : ∃ c r, t = c :: r ∧ 48 ≤ c ∧ c ≤ 57 := by
  obtain ⟨c, r, h⟩ := List.exists_cons_of_ne_nil D.n1
  refine ⟨c, r ++ (46 :: (bh ++ (if sc = true then 69 :: istr p0 else []))), ?_, D.ad1 c (by rw [h]; exact List.mem_cons_self)⟩
  have := D.eq; rw [h] at this; exact this
theorem wtx_cases {eb fb s size : Nat} {t : List Nat} (hF : OkF eb fb) (hsz : size < 2 ^ eb * 2 ^ fb) (h : WTx eb fb s size t) :
    (t = [78, 65, 78] → (2 ^ eb - 1) * 2 ^ fb < size) ∧ (¬ t = [78, 65, 78] → size ≤ (2 ^ eb - 1) * 2 ^ fb ∧ ∃ u, t = sgn s ++ u ∧ u.take 1 ≠ [45] ∧ t.length ≤ 900 ∧
      (u = [73, 78, 70] → size = (2 ^ eb - 1) * 2 ^ fb) ∧ (¬ u = [73, 78, 70] → size < (2 ^ eb - 1) * 2 ^ fb ∧ ∃ bf bh sc p0, DecP eb fb size u bf bh sc p0)) := by
  have hs : (sgn s).length ≤ 1 := by unfold sgn; split <;> decide
  have top0 := size_top hF
  have dec : ∀ u, size < (2 ^ eb - 1) * 2 ^ fb → t = sgn s ++ u → (∃ bf bh sc p0, DecP eb fb size u bf bh sc p0) → (t = [78, 65, 78] → (2 ^ eb - 1) * 2 ^ fb < size) ∧ (¬ t = [78, 65, 78] → size ≤ (2 ^ eb - 1) * 2 ^ fb ∧ ∃ u, t = sgn s ++ u ∧ u.take 1 ≠ [45] ∧ t.length ≤ 900 ∧
      (u = [73, 78, 70] → size = (2 ^ eb - 1) * 2 ^ fb) ∧ (¬ u = [73, 78, 70] → size < (2 ^ eb - 1) * 2 ^ fb ∧ ∃ bf bh sc p0, DecP eb fb size u bf bh sc p0)) := fun u hlt ht hD => by
    obtain ⟨bf, bh, sc, p0, D⟩ := hD
    obtain ⟨c, r, hc, h1, h2⟩ := dec_first D
    constructor
    · intro e
      exfalso
      rw [ht, hc] at e
      unfold sgn at e
      split at e
      · injection e with e1 _; exact absurd e1 (by decide)
      · injection e with e1 _; omega
    · intro _
      refine ⟨Nat.le_of_lt hlt, u, ht, ?_, ?_, ?_, fun _ => ⟨hlt, bf, bh, sc, p0, D⟩⟩
      · rw [hc]; intro e; injection e with e1 _; omega
      · rw [ht, List.length_append]; have := D.len; omega
      · intro e; rw [hc] at e; injection e with e1 _; omega
  rcases h with ⟨h1, h2⟩ | ⟨h1, h2⟩ | ⟨h1, h2⟩ | ⟨h1, h2, d, P, hsd, hdb, hP1, hP2, ht⟩
  · exact ⟨fun _ => h1, fun n => absurd h2 n⟩
  · constructor
    · intro e
      exfalso
      rw [h2] at e
      unfold sgn at e
      split at e <;> exact absurd e (by decide)
    · intro _
      refine ⟨Nat.le_of_eq h1, _, h2, by decide, ?_, fun _ => h1, fun n => absurd rfl n⟩
      rw [h2, List.length_append]
      show (sgn s).length + 3 ≤ 900
      omega
  · subst h1
    exact dec _ top0 h2 ⟨_, _, _, _, dec_zero⟩
  · exact dec _ h2 ht (dec_num hF h1 h2 hsd hdb hP1 hP2)
section
variable {X : Fx} {σ : Led} {ρ : Loc} {Q : PV → Led → Prop} {eb fb : Nat}

theorem read_real_ (hW : IsW X.W) (hd : 6 ≤ X.d) (hF : OkF eb fb) {s size : Nat} (hs : s ≤ 1) (hsz : size < 2 ^ eb * 2 ^ fb) {t : List Nat} (hw : WTx eb fb s size t)
    (q : Q (.tup [.bool true, .int ((if (2 ^ eb - 1) * 2 ^ fb < size then (2 ^ eb - 1) * 2 ^ fb + 2 ^ fb / 2 else s * 2 ^ eb * 2 ^ fb + size : Nat) : Int)]) σ) : CallV X (.ref 233) [.form (frm eb fb), .str (S t)] σ Q := by
  refine CallV.def hW.K ["form", "text"] 5 rfl rfl (bind2 _ _ (fun _ _ => rfl)) (by decide) (by decide) (by omega) (by decide) rfl rfl rfl ?_
  intro X' e1 e2 e3
  have hW' : IsW X'.W := e1 ▸ hW
  clear hW
  obtain ⟨hA, hB⟩ := wtx_cases hF hsz hw
  refine WS.cons (WS1.ite ?_)
  refine TV.cmp ?_
  refine EV.name rfl ?_ (loc_of (by assumption) rfl)
  refine EV.strS (l := [78, 65, 78]) (by decide +kernel) ?_
  refine CmpV.seqS ?_
  refine ⟨_, rfl, ?_⟩
  refine ⟨fun h1 => ?_, fun h1 => ?_⟩
  · try simp only [decide_eq_true_eq, decide_eq_false_iff_not, Bool.not_eq_true', Bool.not_eq_false'] at h1
    refine WS.cons (WS1.ret ?_)
    refine EV.tuple ?_
    refine EVL.cons ?_
    refine EV.bool ?_
    refine EVL.cons ?_
    refine EV.callF (g_not_a_number hW') (k_not_a_number hW') (loc_of (by assumption) rfl) ?_
    refine EVL.cons ?_
    refine EV.name rfl ?_ (loc_of (by assumption) rfl)
    refine EVL.nil ?_
    refine not_a_number_ hW' (by omega) hF ?_
    refine EVL.nil ?_
    refine ⟨by simp, ?_⟩
    rw [if_pos (hA h1)] at q
    exact q
  · try simp only [decide_eq_true_eq, decide_eq_false_iff_not, Bool.not_eq_true', Bool.not_eq_false'] at h1
    refine WS.nil ?_
    refine Then.next ?_
    obtain ⟨hle, u, hu, hu1, hul, hu2, hu3⟩ := hB h1
    rw [if_neg (by omega)] at q
    refine WS.cons (WS1.asg ?_ (loc_of (by assumption) rfl))
    refine EV.intN (n := 0) rfl ?_
    refine Then.next ?_
    refine WS.cons (WS1.ite ?_)
    refine TV.cmp ?_
    refine EV.slice_ns ?_
    refine EV.name rfl ?_ (loc_of (by assumption) rfl)
    refine EV.int ?_
    refine ⟨_, ((1 : Nat) : Int), rfl, rfl, by rw [S_len]; omega, ?_⟩
    rw [S_to]
    refine EV.strS (l := [45]) (by decide +kernel) ?_
    refine CmpV.seqS ?_
    refine ⟨_, rfl, ?_⟩
    refine ⟨fun h2 => ?_, fun h2 => ?_⟩
    · try simp only [decide_eq_true_eq, decide_eq_false_iff_not, Bool.not_eq_true', Bool.not_eq_false'] at h2
      have hs1 : s = 1 := by
        rcases (show s = 0 ∨ s = 1 by omega) with z | z
        · subst z; rw [hu] at h2; exact absurd h2 hu1
        · exact z
      subst hs1
      have hud : t.drop 1 = u := by rw [hu]; rfl
      have hu0 : 1 ≤ t.length := by rw [hu]; show 1 ≤ u.length + 1; omega
      refine WS.cons (WS1.asg ?_ (loc_of (by assumption) rfl))
      refine EV.intN (n := 1) rfl ?_
      refine Then.next ?_
      refine WS.cons (WS1.asg ?_ (loc_of (by assumption) rfl))
      refine EV.slice_sn ?_
      refine EV.name rfl ?_ (loc_of (by assumption) rfl)
      refine EV.int ?_
      refine ⟨_, ((1 : Nat) : Int), rfl, rfl, by rw [S_len]; omega, ?_⟩
      rw [S_from _ hu0, hud]
      refine Then.next ?_
      refine WS.nil ?_
      refine Then.next ?_
      first
      | (have z := hud; skip)
      | (have hs0 : s = 0 := by
           rcases (show s = 0 ∨ s = 1 by omega) with z | z
           · exact z
           · subst z; rw [hu] at h2; exact absurd rfl h2
         subst hs0
         have hut : t = u := hu
         subst hut)
      refine WS.cons (WS1.ite ?_)
      refine TV.cmp ?_
      refine EV.name rfl ?_ (loc_of (by assumption) rfl)
      refine EV.strS (l := [73, 78, 70]) (by decide +kernel) ?_
      refine CmpV.seqS ?_
      refine ⟨_, rfl, ?_⟩
      refine ⟨fun h3 => ?_, fun h3 => ?_⟩
      · try simp only [decide_eq_true_eq, decide_eq_false_iff_not, Bool.not_eq_true', Bool.not_eq_false'] at h3
        refine WS.cons (WS1.ret ?_)
        refine EV.tuple ?_
        refine EVL.cons ?_
        refine EV.bool ?_
        refine EVL.cons ?_
        refine EV.callF (g_infinity hW') (k_infinity hW') (loc_of (by assumption) rfl) ?_
        refine EVL.cons ?_
        refine EV.name rfl ?_ (loc_of (by assumption) rfl)
        refine EVL.cons ?_
        refine EV.name rfl ?_ (loc_of (by assumption) rfl)
        refine EVL.nil ?_
        refine infinity_ hW' (by omega) hF (by decide) ?_
        refine EVL.nil ?_
        refine ⟨by simp, ?_⟩
        rw [hu2 h3] at q
        rw [Nat.add_mul]
        exact q
      · try simp only [decide_eq_true_eq, decide_eq_false_iff_not, Bool.not_eq_true', Bool.not_eq_false'] at h3
        refine WS.nil ?_
        refine Then.next ?_
        refine WS.cons (WS1.ret ?_)
        refine EV.callF (g_read_decimal hW') (k_read_decimal hW') (loc_of (by assumption) rfl) ?_
        refine EVL.cons ?_
        refine EV.name rfl ?_ (loc_of (by assumption) rfl)
        refine EVL.cons ?_
        refine EV.name rfl ?_ (loc_of (by assumption) rfl)
        refine EVL.cons ?_
        refine EV.name rfl ?_ (loc_of (by assumption) rfl)
        refine EVL.nil ?_
        obtain ⟨_, bf, bh, sc, p0, D⟩ := hu3 h3
        refine read_decimal_ hW' (by omega) hF (by decide) D ?_
        exact q
    · try simp only [decide_eq_true_eq, decide_eq_false_iff_not, Bool.not_eq_true', Bool.not_eq_false'] at h2
      refine WS.nil ?_
      refine Then.next ?_
      first
      | (have z := hud; skip)
      | (have hs0 : s = 0 := by
           rcases (show s = 0 ∨ s = 1 by omega) with z | z
           · exact z
           · subst z; rw [hu] at h2; exact absurd rfl h2
         subst hs0
         have hut : t = u := hu
         subst hut)
      refine WS.cons (WS1.ite ?_)
      refine TV.cmp ?_
      refine EV.name rfl ?_ (loc_of (by assumption) rfl)
      refine EV.strS (l := [73, 78, 70]) (by decide +kernel) ?_
      refine CmpV.seqS ?_
      refine ⟨_, rfl, ?_⟩
      refine ⟨fun h3 => ?_, fun h3 => ?_⟩
      · try simp only [decide_eq_true_eq, decide_eq_false_iff_not, Bool.not_eq_true', Bool.not_eq_false'] at h3
        refine WS.cons (WS1.ret ?_)
        refine EV.tuple ?_
        refine EVL.cons ?_
        refine EV.bool ?_
        refine EVL.cons ?_
        refine EV.callF (g_infinity hW') (k_infinity hW') (loc_of (by assumption) rfl) ?_
        refine EVL.cons ?_
        refine EV.name rfl ?_ (loc_of (by assumption) rfl)
        refine EVL.cons ?_
        refine EV.name rfl ?_ (loc_of (by assumption) rfl)
        refine EVL.nil ?_
        refine infinity_ hW' (by omega) hF (by decide) ?_
        refine EVL.nil ?_
        refine ⟨by simp, ?_⟩
        rw [hu2 h3] at q
        rw [Nat.add_mul]
        exact q
      · try simp only [decide_eq_true_eq, decide_eq_false_iff_not, Bool.not_eq_true', Bool.not_eq_false'] at h3
        refine WS.nil ?_
        refine Then.next ?_
        refine WS.cons (WS1.ret ?_)
        refine EV.callF (g_read_decimal hW') (k_read_decimal hW') (loc_of (by assumption) rfl) ?_
        refine EVL.cons ?_
        refine EV.name rfl ?_ (loc_of (by assumption) rfl)
        refine EVL.cons ?_
        refine EV.name rfl ?_ (loc_of (by assumption) rfl)
        refine EVL.cons ?_
        refine EV.name rfl ?_ (loc_of (by assumption) rfl)
        refine EVL.nil ?_
        obtain ⟨_, bf, bh, sc, p0, D⟩ := hu3 h3
        refine read_decimal_ hW' (by omega) hF (by decide) D ?_
        exact q

end
end Mine

set_option exponentiation.threshold 17000
namespace Mine
section
variable {X : Fx} {σ : Led} {ρ : Loc}
theorem WS1.iteF {t : Expr} {a : List Stmt} {pos : Pos} {Q : Res → Led → Prop} (h : TV X ρ σ t fun c σ₁ => c = false ∧ σ₁ = σ) (q : Q (.next ρ) σ) : WS1 X ρ σ (.If t a [] pos) Q :=
  WS1.ite (TV.mono h fun c σ' z => by obtain ⟨e1, e2⟩ := z; subst e1 e2; exact ⟨fun z => (by cases z), fun _ => WS.nil q⟩)
theorem EV.cmp2 {l r₁ r₂ : Expr} {o₁ o₂ : CmpOp} {pos : Pos} {Q : PV → Led → Prop}
    (h : EV X ρ σ l fun a σ₁ => EV X ρ σ₁ r₁ fun b σ₂ => CmpV X o₁ a b σ₂ fun c σ₃ => ∃ t, c = .bool t ∧ (t = true → EV X ρ σ₃ r₂ fun d σ₄ => CmpV X o₂ b d σ₄ Q) ∧ (t = false → Q (.bool false) σ₃))
    (hm : lastMarks [o₁, o₂] [r₁, r₂] = false := by with_unfolding_all rfl) : EV X ρ σ (.Compare l [o₁, o₂] [r₁, r₂] pos) Q := fun φ R m s S M =>
  Compare_chain (wpAny_mono (h φ R m s S M) (fun va s₁ ⟨R₁, σ₁, a, e₁, S₁, ra, h₁⟩ => chain_link
    (wpAny_mono (h₁ φ R₁ m s₁ S₁ (M.mono e₁)) (fun vb s₂ ⟨R₂, σ₂, b, e₂, S₂, rb, h₂⟩ =>
      wpAny_mono (h₂ φ R₂ m s₂ va vb S₂ (ra.mono e₂) rb) (fun vc s₃ ⟨R₃, σ₃, c, e₃, S₃, rc, t, hc, q⟩ => by
        subst hc
        cases rc
        refine wpAny_truthy_bool ?_
        cases t with
        | false => exact ⟨R₃, σ₃, .bool false, (e₁.trans e₂).trans e₃, S₃, .bool _, q.2 rfl⟩
        | true =>
          rw [if_pos rfl]
          exact chain_last (wpAny_mono (q.1 rfl φ R₃ m s₃ S₃ (M.mono ((e₁.trans e₂).trans e₃))) (fun vd s₄ ⟨R₄, σ₄, d, e₄, S₄, rd, h₄⟩ =>
            wpAny_mono (h₄ φ R₄ m s₄ vb vd S₄ (rb.mono (e₃.trans e₄)) rd) (fun ve s₅ p => PE.sub (((e₁.trans e₂).trans e₃).trans e₄) p) noE) noE)) noE) noE)) noE) hm
end
theorem field_le {eb fb size : Nat} (h : size ≤ (2 ^ eb - 1) * 2 ^ fb) : size / 2 ^ fb ≤ 2 ^ eb - 1 := by
  have := Nat.div_le_div_right (c := 2 ^ fb) h
  rwa [Nat.mul_div_cancel _ (Nat.pow_pos (by decide))] at this
section
variable {X : Fx} {σ : Led} {ρ : Loc} {Q : PV → Led → Prop} {eb fb : Nat}
theorem CallV.absE {i c : Int} (e : (if i < 0 then -i else i) = c) (q : Q (.int c) σ) : CallV X (.builtin "abs") [.int i] σ Q := CallV.abs (e ▸ q)
theorem IopV.subE {a b c : Int} (e : a - b = c) (q : Q (.int c) σ) : IopV X .Sub (.int a) (.int b) σ Q := IopV.sub (e ▸ q)
theorem IopV.addE {a b c : Int} (e : a + b = c) (q : Q (.int c) σ) : IopV X .Add (.int a) (.int b) σ Q := IopV.add (e ▸ q)
theorem IopV.fdivE {a b c k : Nat} (e : a / b = c) (h0 : 0 < b) (hb : b < 2 ^ k) (hk : k ≤ 9000) (q : Q (.int (c : Int)) σ) : IopV X .FloorDiv (.int (a : Int)) (.int (b : Int)) σ Q := IopV.fdivN h0 hb hk (e ▸ q)
theorem CallV.splitE {c : Nat} {l a b : List Nat} (e : l = a ++ c :: b) (ha : c ∉ a) (hb : c ∉ b) (hz : l.length ≤ 900) (q : Q (.lst [.str (S a), .str (S b)]) σ) : CallV X (.builtin "str.split") [.str (S l), .str (S [c])] σ Q := by
  subst e; exact CallV.splitS ha hb hz q

theorem law_units_ (hW : IsW X.W) (hd : 1 ≤ X.d) (hF : OkF eb fb) {size : Nat} (hsz : size ≤ (2 ^ eb - 1) * 2 ^ fb)
    (q : Q (.int (un fb size : Int)) σ) : CallV X (.ref 254) [.form (frm eb fb), .int (size : Int)] σ Q := by
  refine CallV.def hW.K ["form", "size"] 0 rfl rfl (bind2 _ _ (fun _ _ => rfl)) (by decide) (by decide) (by omega) (by decide) rfl rfl rfl ?_
  intro X' e1 e2 e3
  have hW' : IsW X'.W := e1 ▸ hW
  clear hW
  have hf3 : size / 2 ^ fb - 1 ≤ 299 := Nat.le_trans (Nat.sub_le_sub_right (field_le hsz) 1) (by have := top_le hF; omega)
  have hm2 : 2 ^ fb + size % 2 ^ fb < 2 ^ 25 := Nat.lt_of_lt_of_le (Nat.add_lt_add_left (Nat.mod_lt size (Nat.pow_pos (by decide))) _) (by have := hid_le hF; omega)
  unfold un at q
  refine WS.cons (WS1.swapped (xs := [Str.ofString "field", Str.ofString "fraction"]) (locs_of (by assumption) (by decide)) ?_ (hw := swap_of (by assumption) (by intro _ _ _ _; kernel_rfl)))
  refine EV.tuple ?_
  refine EVL.cons ?_
  refine EV.bin ?_
  refine EV.name rfl ?_ (loc_of (by assumption) rfl)
  refine EV.bin ?_
  refine EV.intN (n := 2) rfl ?_
  refine EV.attr (formK hW') rfl rfl ?_ (loc_of (by assumption) rfl)
  refine OpV.powN (n := fb) (by have := hF.h4; omega) (by decide) ?_
  refine OpV.fdivN (k := 24) (Nat.pow_pos (by decide)) (Nat.lt_of_le_of_lt (hid_le hF) (by decide)) (by decide) ?_
  refine EVL.cons ?_
  refine EV.bin ?_
  refine EV.name rfl ?_ (loc_of (by assumption) rfl)
  refine EV.bin ?_
  refine EV.intN (n := 2) rfl ?_
  refine EV.attr (formK hW') rfl rfl ?_ (loc_of (by assumption) rfl)
  refine OpV.powN (n := fb) (by have := hF.h4; omega) (by decide) ?_
  refine OpV.fmodN (Nat.pow_pos (by decide)) ?_
  refine EVL.nil ?_
  refine ⟨by simp, ?_⟩
  refine ⟨_, Seq.tup _, rfl, ?_⟩
  refine Then.next ?_
  refine WS.cons (WS1.ite ?_)
  refine TV.cmp ?_
  refine EV.name rfl ?_ (loc_of (by assumption) rfl)
  refine EV.intN (n := 0) rfl ?_
  refine CmpV.eqN ?_
  refine ⟨_, rfl, ?_⟩
  refine ⟨fun h1 => ?_, fun h1 => ?_⟩
  · try simp only [decide_eq_true_eq, decide_eq_false_iff_not, Bool.not_eq_true', Bool.not_eq_false'] at h1
    refine WS.cons (WS1.ret ?_)
    refine EV.name rfl ?_ (loc_of (by assumption) rfl)
    rw [if_pos h1] at q
    exact q
  · try simp only [decide_eq_true_eq, decide_eq_false_iff_not, Bool.not_eq_true', Bool.not_eq_false'] at h1
    refine WS.nil ?_
    refine Then.next ?_
    refine WS.cons (WS1.ret ?_)
    refine EV.bin ?_
    refine EV.bin ?_
    refine EV.bin ?_
    refine EV.intN (n := 2) rfl ?_
    refine EV.attr (formK hW') rfl rfl ?_ (loc_of (by assumption) rfl)
    refine OpV.powN (n := fb) (by have := hF.h4; omega) (by decide) ?_
    refine EV.name rfl ?_ (loc_of (by assumption) rfl)
    refine OpV.addN ?_
    refine EV.bin ?_
    refine EV.intN (n := 2) rfl ?_
    refine EV.bin ?_
    refine EV.name rfl ?_ (loc_of (by assumption) rfl)
    refine EV.intN (n := 1) rfl ?_
    refine OpV.subN (Nat.pos_of_ne_zero h1) ?_
    refine OpV.powN (Nat.le_trans hf3 (by decide)) (by decide) ?_
    refine OpV.mulB (k := 25) (j := 300) (Bd.nat hm2) (Bd.nat (Nat.pow_lt_pow_right (by decide) (Nat.lt_succ_of_le hf3))) (by decide) (by decide) ?_
    rw [if_neg h1] at q
    exact q

theorem law_side_ (hW : IsW X.W) (hd : 2 ≤ X.d) (hF : OkF eb fb) {size g : Nat} {p : Int} (hs0 : 0 < size) (hst : size < (2 ^ eb - 1) * 2 ^ fb) (hg : g < 2 ^ 960) (hp1 : -151 ≤ p) (hp2 : p ≤ 1601)
    (q : Q (.tup [.bool (insB fb size (g * 10 ^ p.toNat * 2 ^ E0 eb fb) (10 ^ (-p).toNat)), .int ((2 * dst (un fb size * 10 ^ (-p).toNat) (g * 10 ^ p.toNat * 2 ^ E0 eb fb) : Nat) : Int), .int ((10 ^ (-p).toNat : Nat) : Int)]) σ) : CallV X (.ref 268) [.form (frm eb fb), .int (size : Int), .int (g : Int), .int p] σ Q := by
  refine CallV.def hW.K ["form", "size", "digits", "power"] 1 rfl rfl (bind4 _ _ _ _ (fun _ _ _ _ => rfl)) (by decide) (by decide) (by omega) (by decide) rfl rfl rfl ?_
  intro X' e1 e2 e3
  have hW' : IsW X'.W := e1 ▸ hW
  clear hW
  have hE := E0_le hF
  have hgb : Bd 960 ((g : Nat) : Int) := Bd.nat hg
  have hO1 : 0 ≤ p → g * 2 ^ (1 + E0 eb fb) * 10 ^ p.toNat = 2 * (g * 10 ^ p.toNat * 2 ^ E0 eb fb) := fun _ => by rw [Nat.pow_add, Nat.pow_one]; ac_rfl
  have hO2 : ¬ 0 ≤ p → g * 2 ^ (1 + E0 eb fb) = 2 * (g * 10 ^ p.toNat * 2 ^ E0 eb fb) := fun h => by rw [show p.toNat = 0 from by omega, Nat.pow_zero, Nat.mul_one, Nat.pow_add, Nat.pow_one]; ac_rfl
  have hD1 : 0 ≤ p → 10 ^ (-p).toNat = 1 := fun h => by rw [show (-p).toNat = 0 from by omega, Nat.pow_zero]
  have hDb : Bd 16001 ((10 ^ (-p).toNat : Nat) : Int) := p10_bd (by omega)
  have hu1 := un_bd (fb := fb) hF.h2 (by have := hF.h1; omega) hF.h4 (show size - 1 ≤ _ by omega)
  have hu2 := un_bd (fb := fb) hF.h2 (by have := hF.h1; omega) hF.h4 (show size ≤ _ by omega)
  have hu3 := un_bd (fb := fb) hF.h2 (by have := hF.h1; omega) hF.h4 (show size + 1 ≤ _ by omega)
  have h280 : (2 : Nat) ^ 280 = 4 * 2 ^ 278 := by decide
  have h300 : (2 : Nat) ^ 300 = 4194304 * 2 ^ 278 := by decide
  have h2b : Bd 300 ((2 : Nat) : Int) := Bd.nat (by decide)
  have h2u : Bd 300 ((2 * un fb size : Nat) : Int) := Bd.nat (by omega)
  have hu2b : Bd 16001 ((un fb size : Nat) : Int) := (Bd.nat (k := 300) (by omega)).mono (by decide)
  generalize g * 10 ^ p.toNat * 2 ^ E0 eb fb = n at *
  generalize hD : 10 ^ (-p).toNat = D at *
  have hI : insB fb size n D = true ↔ ((un fb (size - 1) + un fb size) * D < 2 * n ∧ 2 * n < (un fb size + un fb (size + 1)) * D) ∨ (size % 2 = 0 ∧ ((un fb (size - 1) + un fb size) * D = 2 * n ∨ 2 * n = (un fb size + un fb (size + 1)) * D)) := by
    exact insB_iff
  have key : ∀ b : Bool, (insB fb size n D = true ↔ b = true) → RetQ Q (.ret (.tup [.bool b, .int ((2 * dst (un fb size * D) n : Nat) : Int), .int ((D : Nat) : Int)])) σ := fun b h => by
    rw [← Bool.eq_iff_iff.mpr h]; exact q

  refine WS.cons (WS1.swapped (xs := [Str.ofString "over", Str.ofString "under"]) (locs_of (by assumption) (by decide)) ?_ (hw := swap_of (by assumption) (by intro _ _ _ _; kernel_rfl)))
  refine EV.tuple ?_
  refine EVL.cons ?_
  refine EV.bin ?_
  refine EV.name rfl ?_ (loc_of (by assumption) rfl)
  refine EV.bin ?_
  refine EV.intN (n := 2) rfl ?_
  refine EV.bin ?_
  refine EV.int ?_
  refine EV.attr (formK hW') rfl rfl ?_ (loc_of (by assumption) rfl)
  refine OpV.subE' (c := ((1 + E0 eb fb : Nat) : Int)) (by show (1 : Int) - -(E0 eb fb : Int) = _; omega) ?_
  refine OpV.powN (n := 1 + E0 eb fb) (by omega) (by decide) ?_
  refine OpV.mulB hgb (pow2_bd (by omega)) (by decide) (by decide) ?_
  refine EVL.cons ?_
  refine EV.intN (n := 1) rfl ?_
  refine EVL.nil ?_
  refine ⟨by simp, ?_⟩
  refine ⟨_, Seq.tup _, rfl, ?_⟩
  refine Then.next ?_
  refine WS.cons (WS1.ite ?_)
  refine TV.cmp ?_
  refine EV.name rfl ?_ (loc_of (by assumption) rfl)
  refine EV.int ?_
  refine CmpV.ge ?_
  refine ⟨_, rfl, ?_⟩
  refine ⟨fun h1 => ?_, fun h1 => ?_⟩
  · try simp only [decide_eq_true_eq, decide_eq_false_iff_not, Bool.not_eq_true', Bool.not_eq_false'] at h1
    refine WS.cons (WS1.asg ?_ (loc_of (by assumption) rfl))
    refine EV.bin ?_
    refine EV.name rfl ?_ (loc_of (by assumption) rfl)
    refine EV.bin ?_
    refine EV.int ?_
    refine EV.name rfl ?_ (loc_of (by assumption) rfl)
    refine OpV.powZ (b := 10) rfl (by decide) h1 (by omega) ?_
    refine OpV.mulB (hgb.mulN (pow2_bd (by omega))) (p10_bd (by omega)) (by decide) (by decide) ?_
    refine Then.next ?_
    refine WS.nil ?_
    refine Then.next ?_
    refine WS.forget [(Str.ofString "form", .form (frm eb fb)), (Str.ofString "size", .int (size : Int)), (Str.ofString "over", .int ((2 * n : Nat) : Int)), (Str.ofString "under", .int ((D : Nat) : Int))] ⟨rfl, rfl, by first | (rw [← hO1 h1]; rfl) | (rw [← hO2 h1]; rfl), by first | (rw [hD1 h1]; rfl) | (rw [← hD]; rfl), trivial⟩ ?_
    refine WS.cons (WS1.asg ?_ (loc_of (by assumption) rfl))
    refine EV.bin ?_
    refine EV.bin ?_
    refine EV.callF (g_law_units hW') (k_law_units hW') (loc_of (by assumption) rfl) ?_
    refine EVL.cons ?_
    refine EV.name rfl ?_ (loc_of (by assumption) rfl)
    refine EVL.cons ?_
    refine EV.bin ?_
    refine EV.name rfl ?_ (loc_of (by assumption) rfl)
    refine EV.intN (n := 1) rfl ?_
    refine OpV.subN (by omega) ?_
    refine EVL.nil ?_
    refine law_units_ hW' (by omega) hF (by omega) ?_
    refine EV.callF (g_law_units hW') (k_law_units hW') (loc_of (by assumption) rfl) ?_
    refine EVL.cons ?_
    refine EV.name rfl ?_ (loc_of (by assumption) rfl)
    refine EVL.cons ?_
    refine EV.name rfl ?_ (loc_of (by assumption) rfl)
    refine EVL.nil ?_
    refine law_units_ hW' (by omega) hF (by omega) ?_
    refine OpV.addN ?_
    refine EV.name rfl ?_ (loc_of (by assumption) rfl)
    refine OpV.mulB (k := 280) (Bd.nat (by omega)) hDb (by decide) (by decide) ?_
    refine Then.next ?_
    refine WS.cons (WS1.asg ?_ (loc_of (by assumption) rfl))
    refine EV.bin ?_
    refine EV.bin ?_
    refine EV.callF (g_law_units hW') (k_law_units hW') (loc_of (by assumption) rfl) ?_
    refine EVL.cons ?_
    refine EV.name rfl ?_ (loc_of (by assumption) rfl)
    refine EVL.cons ?_
    refine EV.name rfl ?_ (loc_of (by assumption) rfl)
    refine EVL.nil ?_
    refine law_units_ hW' (by omega) hF (by omega) ?_
    refine EV.callF (g_law_units hW') (k_law_units hW') (loc_of (by assumption) rfl) ?_
    refine EVL.cons ?_
    refine EV.name rfl ?_ (loc_of (by assumption) rfl)
    refine EVL.cons ?_
    refine EV.bin ?_
    refine EV.name rfl ?_ (loc_of (by assumption) rfl)
    refine EV.intN (n := 1) rfl ?_
    refine OpV.addN ?_
    refine EVL.nil ?_
    refine law_units_ hW' (by omega) hF (by omega) ?_
    refine OpV.addN ?_
    refine EV.name rfl ?_ (loc_of (by assumption) rfl)
    refine OpV.mulB (k := 280) (Bd.nat (by omega)) hDb (by decide) (by decide) ?_
    refine Then.next ?_
    refine WS.cons (WS1.asg ?_ (loc_of (by assumption) rfl))
    refine EV.or ?_
    refine EV.cmp2 ?_
    refine EV.name rfl ?_ (loc_of (by assumption) rfl)
    refine EV.name rfl ?_ (loc_of (by assumption) rfl)
    refine CmpV.ltN ?_
    refine ⟨_, rfl, fun h2 => ?_, fun h2 => ?_⟩
    · try simp only [decide_eq_true_eq, decide_eq_false_iff_not, Bool.not_eq_true', Bool.not_eq_false'] at h2
      refine EV.name rfl ?_ (loc_of (by assumption) rfl)
      refine CmpV.ltN ?_
      refine ⟨_, rfl, fun h3 => ?_, fun h3 => ?_⟩
      · try simp only [decide_eq_true_eq, decide_eq_false_iff_not, Bool.not_eq_true', Bool.not_eq_false'] at h3
        refine Then.next ?_
        refine WS.cons (WS1.ret ?_)
        refine EV.tuple ?_
        refine EVL.cons ?_
        refine EV.name rfl ?_ (loc_of (by assumption) rfl)
        refine EVL.cons ?_
        refine EV.callB (g_abs hW') (by boot_by_name) (loc_of (by assumption) rfl) ?_
        refine EVL.cons ?_
        refine EV.bin ?_
        refine EV.bin ?_
        refine EV.bin ?_
        refine EV.intN (n := 2) rfl ?_
        refine EV.callF (g_law_units hW') (k_law_units hW') (loc_of (by assumption) rfl) ?_
        refine EVL.cons ?_
        refine EV.name rfl ?_ (loc_of (by assumption) rfl)
        refine EVL.cons ?_
        refine EV.name rfl ?_ (loc_of (by assumption) rfl)
        refine EVL.nil ?_
        refine law_units_ hW' (by omega) hF (by omega) ?_
        refine OpV.mulB (k := 300) (j := 16001) (by first | exact h2b | exact h2u) (by first | exact hu2b | exact hDb) (by decide) (by decide) ?_
        refine EV.name rfl ?_ (loc_of (by assumption) rfl)
        refine OpV.mulB (k := 300) (j := 16001) (by first | exact h2b | exact h2u) (by first | exact hu2b | exact hDb) (by decide) (by decide) ?_
        refine EV.name rfl ?_ (loc_of (by assumption) rfl)
        refine OpV.sub ?_
        refine EVL.nil ?_
        refine CallV.absE (c := ((2 * dst (un fb size * D) n : Nat) : Int)) (by rw [Nat.mul_assoc]; unfold dst; split <;> omega) ?_
        refine EVL.cons ?_
        refine EV.name rfl ?_ (loc_of (by assumption) rfl)
        refine EVL.nil ?_
        refine ⟨by simp, ?_⟩
        refine key _ ?_
        rw [hI]
        first
        | contradiction
        | ((try simp only [decide_eq_true_eq]); constructor <;> intro z <;> first | trivial | omega | rfl | exact absurd z (by decide))
      · try simp only [decide_eq_true_eq, decide_eq_false_iff_not, Bool.not_eq_true', Bool.not_eq_false'] at h3
        refine EV.bo_one ?_
        refine EV.and ?_
        refine EV.cmp ?_
        refine EV.bin ?_
        refine EV.name rfl ?_ (loc_of (by assumption) rfl)
        refine EV.intN (n := 2) rfl ?_
        refine OpV.fmodN (by decide) ?_
        refine EV.intN (n := 0) rfl ?_
        refine CmpV.eqN ?_
        refine ⟨_, rfl, fun h4 => ?_, fun h4 => ?_⟩
        · try simp only [decide_eq_true_eq, decide_eq_false_iff_not, Bool.not_eq_true', Bool.not_eq_false'] at h4
          refine EV.bo_one ?_
          refine EV.or ?_
          refine EV.cmp ?_
          refine EV.name rfl ?_ (loc_of (by assumption) rfl)
          refine EV.name rfl ?_ (loc_of (by assumption) rfl)
          refine CmpV.eqN ?_
          refine ⟨_, rfl, fun h5 => ?_, fun h5 => ?_⟩
          · try simp only [decide_eq_true_eq, decide_eq_false_iff_not, Bool.not_eq_true', Bool.not_eq_false'] at h5
            refine Then.next ?_
            refine WS.cons (WS1.ret ?_)
            refine EV.tuple ?_
            refine EVL.cons ?_
            refine EV.name rfl ?_ (loc_of (by assumption) rfl)
            refine EVL.cons ?_
            refine EV.callB (g_abs hW') (by boot_by_name) (loc_of (by assumption) rfl) ?_
            refine EVL.cons ?_
            refine EV.bin ?_
            refine EV.bin ?_
            refine EV.bin ?_
            refine EV.intN (n := 2) rfl ?_
            refine EV.callF (g_law_units hW') (k_law_units hW') (loc_of (by assumption) rfl) ?_
            refine EVL.cons ?_
            refine EV.name rfl ?_ (loc_of (by assumption) rfl)
            refine EVL.cons ?_
            refine EV.name rfl ?_ (loc_of (by assumption) rfl)
            refine EVL.nil ?_
            refine law_units_ hW' (by omega) hF (by omega) ?_
            refine OpV.mulB (k := 300) (j := 16001) (by first | exact h2b | exact h2u) (by first | exact hu2b | exact hDb) (by decide) (by decide) ?_
            refine EV.name rfl ?_ (loc_of (by assumption) rfl)
            refine OpV.mulB (k := 300) (j := 16001) (by first | exact h2b | exact h2u) (by first | exact hu2b | exact hDb) (by decide) (by decide) ?_
            refine EV.name rfl ?_ (loc_of (by assumption) rfl)
            refine OpV.sub ?_
            refine EVL.nil ?_
            refine CallV.absE (c := ((2 * dst (un fb size * D) n : Nat) : Int)) (by rw [Nat.mul_assoc]; unfold dst; split <;> omega) ?_
            refine EVL.cons ?_
            refine EV.name rfl ?_ (loc_of (by assumption) rfl)
            refine EVL.nil ?_
            refine ⟨by simp, ?_⟩
            refine key _ ?_
            rw [hI]
            first
            | contradiction
            | ((try simp only [decide_eq_true_eq]); constructor <;> intro z <;> first | trivial | omega | rfl | exact absurd z (by decide))
          · try simp only [decide_eq_true_eq, decide_eq_false_iff_not, Bool.not_eq_true', Bool.not_eq_false'] at h5
            refine EV.bo_one ?_
            refine EV.cmp ?_
            refine EV.name rfl ?_ (loc_of (by assumption) rfl)
            refine EV.name rfl ?_ (loc_of (by assumption) rfl)
            refine CmpV.eqN ?_
            refine Then.next ?_
            refine WS.cons (WS1.ret ?_)
            refine EV.tuple ?_
            refine EVL.cons ?_
            refine EV.name rfl ?_ (loc_of (by assumption) rfl)
            refine EVL.cons ?_
            refine EV.callB (g_abs hW') (by boot_by_name) (loc_of (by assumption) rfl) ?_
            refine EVL.cons ?_
            refine EV.bin ?_
            refine EV.bin ?_
            refine EV.bin ?_
            refine EV.intN (n := 2) rfl ?_
            refine EV.callF (g_law_units hW') (k_law_units hW') (loc_of (by assumption) rfl) ?_
            refine EVL.cons ?_
            refine EV.name rfl ?_ (loc_of (by assumption) rfl)
            refine EVL.cons ?_
            refine EV.name rfl ?_ (loc_of (by assumption) rfl)
            refine EVL.nil ?_
            refine law_units_ hW' (by omega) hF (by omega) ?_
            refine OpV.mulB (k := 300) (j := 16001) (by first | exact h2b | exact h2u) (by first | exact hu2b | exact hDb) (by decide) (by decide) ?_
            refine EV.name rfl ?_ (loc_of (by assumption) rfl)
            refine OpV.mulB (k := 300) (j := 16001) (by first | exact h2b | exact h2u) (by first | exact hu2b | exact hDb) (by decide) (by decide) ?_
            refine EV.name rfl ?_ (loc_of (by assumption) rfl)
            refine OpV.sub ?_
            refine EVL.nil ?_
            refine CallV.absE (c := ((2 * dst (un fb size * D) n : Nat) : Int)) (by rw [Nat.mul_assoc]; unfold dst; split <;> omega) ?_
            refine EVL.cons ?_
            refine EV.name rfl ?_ (loc_of (by assumption) rfl)
            refine EVL.nil ?_
            refine ⟨by simp, ?_⟩
            refine key _ ?_
            rw [hI]
            first
            | contradiction
            | ((try simp only [decide_eq_true_eq]); constructor <;> intro z <;> first | trivial | omega | rfl | exact absurd z (by decide))
        · try simp only [decide_eq_true_eq, decide_eq_false_iff_not, Bool.not_eq_true', Bool.not_eq_false'] at h4
          refine Then.next ?_
          refine WS.cons (WS1.ret ?_)
          refine EV.tuple ?_
          refine EVL.cons ?_
          refine EV.name rfl ?_ (loc_of (by assumption) rfl)
          refine EVL.cons ?_
          refine EV.callB (g_abs hW') (by boot_by_name) (loc_of (by assumption) rfl) ?_
          refine EVL.cons ?_
          refine EV.bin ?_
          refine EV.bin ?_
          refine EV.bin ?_
          refine EV.intN (n := 2) rfl ?_
          refine EV.callF (g_law_units hW') (k_law_units hW') (loc_of (by assumption) rfl) ?_
          refine EVL.cons ?_
          refine EV.name rfl ?_ (loc_of (by assumption) rfl)
          refine EVL.cons ?_
          refine EV.name rfl ?_ (loc_of (by assumption) rfl)
          refine EVL.nil ?_
          refine law_units_ hW' (by omega) hF (by omega) ?_
          refine OpV.mulB (k := 300) (j := 16001) (by first | exact h2b | exact h2u) (by first | exact hu2b | exact hDb) (by decide) (by decide) ?_
          refine EV.name rfl ?_ (loc_of (by assumption) rfl)
          refine OpV.mulB (k := 300) (j := 16001) (by first | exact h2b | exact h2u) (by first | exact hu2b | exact hDb) (by decide) (by decide) ?_
          refine EV.name rfl ?_ (loc_of (by assumption) rfl)
          refine OpV.sub ?_
          refine EVL.nil ?_
          refine CallV.absE (c := ((2 * dst (un fb size * D) n : Nat) : Int)) (by rw [Nat.mul_assoc]; unfold dst; split <;> omega) ?_
          refine EVL.cons ?_
          refine EV.name rfl ?_ (loc_of (by assumption) rfl)
          refine EVL.nil ?_
          refine ⟨by simp, ?_⟩
          refine key _ ?_
          rw [hI]
          first
          | contradiction
          | ((try simp only [decide_eq_true_eq]); constructor <;> intro z <;> first | trivial | omega | rfl | exact absurd z (by decide))
    · try simp only [decide_eq_true_eq, decide_eq_false_iff_not, Bool.not_eq_true', Bool.not_eq_false'] at h2
      refine ⟨_, rfl, fun h3 => ?_, fun h3 => ?_⟩
      · try simp only [decide_eq_true_eq, decide_eq_false_iff_not, Bool.not_eq_true', Bool.not_eq_false'] at h3
        refine Then.next ?_
        refine WS.cons (WS1.ret ?_)
        refine EV.tuple ?_
        refine EVL.cons ?_
        refine EV.name rfl ?_ (loc_of (by assumption) rfl)
        refine EVL.cons ?_
        refine EV.callB (g_abs hW') (by boot_by_name) (loc_of (by assumption) rfl) ?_
        refine EVL.cons ?_
        refine EV.bin ?_
        refine EV.bin ?_
        refine EV.bin ?_
        refine EV.intN (n := 2) rfl ?_
        refine EV.callF (g_law_units hW') (k_law_units hW') (loc_of (by assumption) rfl) ?_
        refine EVL.cons ?_
        refine EV.name rfl ?_ (loc_of (by assumption) rfl)
        refine EVL.cons ?_
        refine EV.name rfl ?_ (loc_of (by assumption) rfl)
        refine EVL.nil ?_
        refine law_units_ hW' (by omega) hF (by omega) ?_
        refine OpV.mulB (k := 300) (j := 16001) (by first | exact h2b | exact h2u) (by first | exact hu2b | exact hDb) (by decide) (by decide) ?_
        refine EV.name rfl ?_ (loc_of (by assumption) rfl)
        refine OpV.mulB (k := 300) (j := 16001) (by first | exact h2b | exact h2u) (by first | exact hu2b | exact hDb) (by decide) (by decide) ?_
        refine EV.name rfl ?_ (loc_of (by assumption) rfl)
        refine OpV.sub ?_
        refine EVL.nil ?_
        refine CallV.absE (c := ((2 * dst (un fb size * D) n : Nat) : Int)) (by rw [Nat.mul_assoc]; unfold dst; split <;> omega) ?_
        refine EVL.cons ?_
        refine EV.name rfl ?_ (loc_of (by assumption) rfl)
        refine EVL.nil ?_
        refine ⟨by simp, ?_⟩
        refine key _ ?_
        rw [hI]
        first
        | contradiction
        | ((try simp only [decide_eq_true_eq]); constructor <;> intro z <;> first | trivial | omega | rfl | exact absurd z (by decide))
      · try simp only [decide_eq_true_eq, decide_eq_false_iff_not, Bool.not_eq_true', Bool.not_eq_false'] at h3
        refine EV.bo_one ?_
        refine EV.and ?_
        refine EV.cmp ?_
        refine EV.bin ?_
        refine EV.name rfl ?_ (loc_of (by assumption) rfl)
        refine EV.intN (n := 2) rfl ?_
        refine OpV.fmodN (by decide) ?_
        refine EV.intN (n := 0) rfl ?_
        refine CmpV.eqN ?_
        refine ⟨_, rfl, fun h4 => ?_, fun h4 => ?_⟩
        · try simp only [decide_eq_true_eq, decide_eq_false_iff_not, Bool.not_eq_true', Bool.not_eq_false'] at h4
          refine EV.bo_one ?_
          refine EV.or ?_
          refine EV.cmp ?_
          refine EV.name rfl ?_ (loc_of (by assumption) rfl)
          refine EV.name rfl ?_ (loc_of (by assumption) rfl)
          refine CmpV.eqN ?_
          refine ⟨_, rfl, fun h5 => ?_, fun h5 => ?_⟩
          · try simp only [decide_eq_true_eq, decide_eq_false_iff_not, Bool.not_eq_true', Bool.not_eq_false'] at h5
            refine Then.next ?_
            refine WS.cons (WS1.ret ?_)
            refine EV.tuple ?_
            refine EVL.cons ?_
            refine EV.name rfl ?_ (loc_of (by assumption) rfl)
            refine EVL.cons ?_
            refine EV.callB (g_abs hW') (by boot_by_name) (loc_of (by assumption) rfl) ?_
            refine EVL.cons ?_
            refine EV.bin ?_
            refine EV.bin ?_
            refine EV.bin ?_
            refine EV.intN (n := 2) rfl ?_
            refine EV.callF (g_law_units hW') (k_law_units hW') (loc_of (by assumption) rfl) ?_
            refine EVL.cons ?_
            refine EV.name rfl ?_ (loc_of (by assumption) rfl)
            refine EVL.cons ?_
            refine EV.name rfl ?_ (loc_of (by assumption) rfl)
            refine EVL.nil ?_
            refine law_units_ hW' (by omega) hF (by omega) ?_
            refine OpV.mulB (k := 300) (j := 16001) (by first | exact h2b | exact h2u) (by first | exact hu2b | exact hDb) (by decide) (by decide) ?_
            refine EV.name rfl ?_ (loc_of (by assumption) rfl)
            refine OpV.mulB (k := 300) (j := 16001) (by first | exact h2b | exact h2u) (by first | exact hu2b | exact hDb) (by decide) (by decide) ?_
            refine EV.name rfl ?_ (loc_of (by assumption) rfl)
            refine OpV.sub ?_
            refine EVL.nil ?_
            refine CallV.absE (c := ((2 * dst (un fb size * D) n : Nat) : Int)) (by rw [Nat.mul_assoc]; unfold dst; split <;> omega) ?_
            refine EVL.cons ?_
            refine EV.name rfl ?_ (loc_of (by assumption) rfl)
            refine EVL.nil ?_
            refine ⟨by simp, ?_⟩
            refine key _ ?_
            rw [hI]
            first
            | contradiction
            | ((try simp only [decide_eq_true_eq]); constructor <;> intro z <;> first | trivial | omega | rfl | exact absurd z (by decide))
          · try simp only [decide_eq_true_eq, decide_eq_false_iff_not, Bool.not_eq_true', Bool.not_eq_false'] at h5
            refine EV.bo_one ?_
            refine EV.cmp ?_
            refine EV.name rfl ?_ (loc_of (by assumption) rfl)
            refine EV.name rfl ?_ (loc_of (by assumption) rfl)
            refine CmpV.eqN ?_
            refine Then.next ?_
            refine WS.cons (WS1.ret ?_)
            refine EV.tuple ?_
            refine EVL.cons ?_
            refine EV.name rfl ?_ (loc_of (by assumption) rfl)
            refine EVL.cons ?_
            refine EV.callB (g_abs hW') (by boot_by_name) (loc_of (by assumption) rfl) ?_
            refine EVL.cons ?_
            refine EV.bin ?_
            refine EV.bin ?_
            refine EV.bin ?_
            refine EV.intN (n := 2) rfl ?_
            refine EV.callF (g_law_units hW') (k_law_units hW') (loc_of (by assumption) rfl) ?_
            refine EVL.cons ?_
            refine EV.name rfl ?_ (loc_of (by assumption) rfl)
            refine EVL.cons ?_
            refine EV.name rfl ?_ (loc_of (by assumption) rfl)
            refine EVL.nil ?_
            refine law_units_ hW' (by omega) hF (by omega) ?_
            refine OpV.mulB (k := 300) (j := 16001) (by first | exact h2b | exact h2u) (by first | exact hu2b | exact hDb) (by decide) (by decide) ?_
            refine EV.name rfl ?_ (loc_of (by assumption) rfl)
            refine OpV.mulB (k := 300) (j := 16001) (by first | exact h2b | exact h2u) (by first | exact hu2b | exact hDb) (by decide) (by decide) ?_
            refine EV.name rfl ?_ (loc_of (by assumption) rfl)
            refine OpV.sub ?_
            refine EVL.nil ?_
            refine CallV.absE (c := ((2 * dst (un fb size * D) n : Nat) : Int)) (by rw [Nat.mul_assoc]; unfold dst; split <;> omega) ?_
            refine EVL.cons ?_
            refine EV.name rfl ?_ (loc_of (by assumption) rfl)
            refine EVL.nil ?_
            refine ⟨by simp, ?_⟩
            refine key _ ?_
            rw [hI]
            first
            | contradiction
            | ((try simp only [decide_eq_true_eq]); constructor <;> intro z <;> first | trivial | omega | rfl | exact absurd z (by decide))
        · try simp only [decide_eq_true_eq, decide_eq_false_iff_not, Bool.not_eq_true', Bool.not_eq_false'] at h4
          refine Then.next ?_
          refine WS.cons (WS1.ret ?_)
          refine EV.tuple ?_
          refine EVL.cons ?_
          refine EV.name rfl ?_ (loc_of (by assumption) rfl)
          refine EVL.cons ?_
          refine EV.callB (g_abs hW') (by boot_by_name) (loc_of (by assumption) rfl) ?_
          refine EVL.cons ?_
          refine EV.bin ?_
          refine EV.bin ?_
          refine EV.bin ?_
          refine EV.intN (n := 2) rfl ?_
          refine EV.callF (g_law_units hW') (k_law_units hW') (loc_of (by assumption) rfl) ?_
          refine EVL.cons ?_
          refine EV.name rfl ?_ (loc_of (by assumption) rfl)
          refine EVL.cons ?_
          refine EV.name rfl ?_ (loc_of (by assumption) rfl)
          refine EVL.nil ?_
          refine law_units_ hW' (by omega) hF (by omega) ?_
          refine OpV.mulB (k := 300) (j := 16001) (by first | exact h2b | exact h2u) (by first | exact hu2b | exact hDb) (by decide) (by decide) ?_
          refine EV.name rfl ?_ (loc_of (by assumption) rfl)
          refine OpV.mulB (k := 300) (j := 16001) (by first | exact h2b | exact h2u) (by first | exact hu2b | exact hDb) (by decide) (by decide) ?_
          refine EV.name rfl ?_ (loc_of (by assumption) rfl)
          refine OpV.sub ?_
          refine EVL.nil ?_
          refine CallV.absE (c := ((2 * dst (un fb size * D) n : Nat) : Int)) (by rw [Nat.mul_assoc]; unfold dst; split <;> omega) ?_
          refine EVL.cons ?_
          refine EV.name rfl ?_ (loc_of (by assumption) rfl)
          refine EVL.nil ?_
          refine ⟨by simp, ?_⟩
          refine key _ ?_
          rw [hI]
          first
          | contradiction
          | ((try simp only [decide_eq_true_eq]); constructor <;> intro z <;> first | trivial | omega | rfl | exact absurd z (by decide))
  · try simp only [decide_eq_true_eq, decide_eq_false_iff_not, Bool.not_eq_true', Bool.not_eq_false'] at h1
    refine WS.cons (WS1.asg ?_ (loc_of (by assumption) rfl))
    refine EV.bin ?_
    refine EV.int ?_
    refine EV.bin ?_
    refine EV.int ?_
    refine EV.name rfl ?_ (loc_of (by assumption) rfl)
    refine OpV.subE' (c := -p) (by omega) ?_
    refine OpV.powZ (b := 10) rfl (by decide) (by omega) (by omega) ?_
    refine Then.next ?_
    refine WS.nil ?_
    refine Then.next ?_
    refine WS.forget [(Str.ofString "form", .form (frm eb fb)), (Str.ofString "size", .int (size : Int)), (Str.ofString "over", .int ((2 * n : Nat) : Int)), (Str.ofString "under", .int ((D : Nat) : Int))] ⟨rfl, rfl, by first | (rw [← hO1 h1]; rfl) | (rw [← hO2 h1]; rfl), by first | (rw [hD1 h1]; rfl) | (rw [← hD]; rfl), trivial⟩ ?_
    refine WS.cons (WS1.asg ?_ (loc_of (by assumption) rfl))
    refine EV.bin ?_
    refine EV.bin ?_
    refine EV.callF (g_law_units hW') (k_law_units hW') (loc_of (by assumption) rfl) ?_
    refine EVL.cons ?_
    refine EV.name rfl ?_ (loc_of (by assumption) rfl)
    refine EVL.cons ?_
    refine EV.bin ?_
    refine EV.name rfl ?_ (loc_of (by assumption) rfl)
    refine EV.intN (n := 1) rfl ?_
    refine OpV.subN (by omega) ?_
    refine EVL.nil ?_
    refine law_units_ hW' (by omega) hF (by omega) ?_
    refine EV.callF (g_law_units hW') (k_law_units hW') (loc_of (by assumption) rfl) ?_
    refine EVL.cons ?_
    refine EV.name rfl ?_ (loc_of (by assumption) rfl)
    refine EVL.cons ?_
    refine EV.name rfl ?_ (loc_of (by assumption) rfl)
    refine EVL.nil ?_
    refine law_units_ hW' (by omega) hF (by omega) ?_
    refine OpV.addN ?_
    refine EV.name rfl ?_ (loc_of (by assumption) rfl)
    refine OpV.mulB (k := 280) (Bd.nat (by omega)) hDb (by decide) (by decide) ?_
    refine Then.next ?_
    refine WS.cons (WS1.asg ?_ (loc_of (by assumption) rfl))
    refine EV.bin ?_
    refine EV.bin ?_
    refine EV.callF (g_law_units hW') (k_law_units hW') (loc_of (by assumption) rfl) ?_
    refine EVL.cons ?_
    refine EV.name rfl ?_ (loc_of (by assumption) rfl)
    refine EVL.cons ?_
    refine EV.name rfl ?_ (loc_of (by assumption) rfl)
    refine EVL.nil ?_
    refine law_units_ hW' (by omega) hF (by omega) ?_
    refine EV.callF (g_law_units hW') (k_law_units hW') (loc_of (by assumption) rfl) ?_
    refine EVL.cons ?_
    refine EV.name rfl ?_ (loc_of (by assumption) rfl)
    refine EVL.cons ?_
    refine EV.bin ?_
    refine EV.name rfl ?_ (loc_of (by assumption) rfl)
    refine EV.intN (n := 1) rfl ?_
    refine OpV.addN ?_
    refine EVL.nil ?_
    refine law_units_ hW' (by omega) hF (by omega) ?_
    refine OpV.addN ?_
    refine EV.name rfl ?_ (loc_of (by assumption) rfl)
    refine OpV.mulB (k := 280) (Bd.nat (by omega)) hDb (by decide) (by decide) ?_
    refine Then.next ?_
    refine WS.cons (WS1.asg ?_ (loc_of (by assumption) rfl))
    refine EV.or ?_
    refine EV.cmp2 ?_
    refine EV.name rfl ?_ (loc_of (by assumption) rfl)
    refine EV.name rfl ?_ (loc_of (by assumption) rfl)
    refine CmpV.ltN ?_
    refine ⟨_, rfl, fun h2 => ?_, fun h2 => ?_⟩
    · try simp only [decide_eq_true_eq, decide_eq_false_iff_not, Bool.not_eq_true', Bool.not_eq_false'] at h2
      refine EV.name rfl ?_ (loc_of (by assumption) rfl)
      refine CmpV.ltN ?_
      refine ⟨_, rfl, fun h3 => ?_, fun h3 => ?_⟩
      · try simp only [decide_eq_true_eq, decide_eq_false_iff_not, Bool.not_eq_true', Bool.not_eq_false'] at h3
        refine Then.next ?_
        refine WS.cons (WS1.ret ?_)
        refine EV.tuple ?_
        refine EVL.cons ?_
        refine EV.name rfl ?_ (loc_of (by assumption) rfl)
        refine EVL.cons ?_
        refine EV.callB (g_abs hW') (by boot_by_name) (loc_of (by assumption) rfl) ?_
        refine EVL.cons ?_
        refine EV.bin ?_
        refine EV.bin ?_
        refine EV.bin ?_
        refine EV.intN (n := 2) rfl ?_
        refine EV.callF (g_law_units hW') (k_law_units hW') (loc_of (by assumption) rfl) ?_
        refine EVL.cons ?_
        refine EV.name rfl ?_ (loc_of (by assumption) rfl)
        refine EVL.cons ?_
        refine EV.name rfl ?_ (loc_of (by assumption) rfl)
        refine EVL.nil ?_
        refine law_units_ hW' (by omega) hF (by omega) ?_
        refine OpV.mulB (k := 300) (j := 16001) (by first | exact h2b | exact h2u) (by first | exact hu2b | exact hDb) (by decide) (by decide) ?_
        refine EV.name rfl ?_ (loc_of (by assumption) rfl)
        refine OpV.mulB (k := 300) (j := 16001) (by first | exact h2b | exact h2u) (by first | exact hu2b | exact hDb) (by decide) (by decide) ?_
        refine EV.name rfl ?_ (loc_of (by assumption) rfl)
        refine OpV.sub ?_
        refine EVL.nil ?_
        refine CallV.absE (c := ((2 * dst (un fb size * D) n : Nat) : Int)) (by rw [Nat.mul_assoc]; unfold dst; split <;> omega) ?_
        refine EVL.cons ?_
        refine EV.name rfl ?_ (loc_of (by assumption) rfl)
        refine EVL.nil ?_
        refine ⟨by simp, ?_⟩
        refine key _ ?_
        rw [hI]
        first
        | contradiction
        | ((try simp only [decide_eq_true_eq]); constructor <;> intro z <;> first | trivial | omega | rfl | exact absurd z (by decide))
      · try simp only [decide_eq_true_eq, decide_eq_false_iff_not, Bool.not_eq_true', Bool.not_eq_false'] at h3
        refine EV.bo_one ?_
        refine EV.and ?_
        refine EV.cmp ?_
        refine EV.bin ?_
        refine EV.name rfl ?_ (loc_of (by assumption) rfl)
        refine EV.intN (n := 2) rfl ?_
        refine OpV.fmodN (by decide) ?_
        refine EV.intN (n := 0) rfl ?_
        refine CmpV.eqN ?_
        refine ⟨_, rfl, fun h4 => ?_, fun h4 => ?_⟩
        · try simp only [decide_eq_true_eq, decide_eq_false_iff_not, Bool.not_eq_true', Bool.not_eq_false'] at h4
          refine EV.bo_one ?_
          refine EV.or ?_
          refine EV.cmp ?_
          refine EV.name rfl ?_ (loc_of (by assumption) rfl)
          refine EV.name rfl ?_ (loc_of (by assumption) rfl)
          refine CmpV.eqN ?_
          refine ⟨_, rfl, fun h5 => ?_, fun h5 => ?_⟩
          · try simp only [decide_eq_true_eq, decide_eq_false_iff_not, Bool.not_eq_true', Bool.not_eq_false'] at h5
            refine Then.next ?_
            refine WS.cons (WS1.ret ?_)
            refine EV.tuple ?_
            refine EVL.cons ?_
            refine EV.name rfl ?_ (loc_of (by assumption) rfl)
            refine EVL.cons ?_
            refine EV.callB (g_abs hW') (by boot_by_name) (loc_of (by assumption) rfl) ?_
            refine EVL.cons ?_
            refine EV.bin ?_
            refine EV.bin ?_
            refine EV.bin ?_
            refine EV.intN (n := 2) rfl ?_
            refine EV.callF (g_law_units hW') (k_law_units hW') (loc_of (by assumption) rfl) ?_
            refine EVL.cons ?_
            refine EV.name rfl ?_ (loc_of (by assumption) rfl)
            refine EVL.cons ?_
            refine EV.name rfl ?_ (loc_of (by assumption) rfl)
            refine EVL.nil ?_
            refine law_units_ hW' (by omega) hF (by omega) ?_
            refine OpV.mulB (k := 300) (j := 16001) (by first | exact h2b | exact h2u) (by first | exact hu2b | exact hDb) (by decide) (by decide) ?_
            refine EV.name rfl ?_ (loc_of (by assumption) rfl)
            refine OpV.mulB (k := 300) (j := 16001) (by first | exact h2b | exact h2u) (by first | exact hu2b | exact hDb) (by decide) (by decide) ?_
            refine EV.name rfl ?_ (loc_of (by assumption) rfl)
            refine OpV.sub ?_
            refine EVL.nil ?_
            refine CallV.absE (c := ((2 * dst (un fb size * D) n : Nat) : Int)) (by rw [Nat.mul_assoc]; unfold dst; split <;> omega) ?_
            refine EVL.cons ?_
            refine EV.name rfl ?_ (loc_of (by assumption) rfl)
            refine EVL.nil ?_
            refine ⟨by simp, ?_⟩
            refine key _ ?_
            rw [hI]
            first
            | contradiction
            | ((try simp only [decide_eq_true_eq]); constructor <;> intro z <;> first | trivial | omega | rfl | exact absurd z (by decide))
          · try simp only [decide_eq_true_eq, decide_eq_false_iff_not, Bool.not_eq_true', Bool.not_eq_false'] at h5
            refine EV.bo_one ?_
            refine EV.cmp ?_
            refine EV.name rfl ?_ (loc_of (by assumption) rfl)
            refine EV.name rfl ?_ (loc_of (by assumption) rfl)
            refine CmpV.eqN ?_
            refine Then.next ?_
            refine WS.cons (WS1.ret ?_)
            refine EV.tuple ?_
            refine EVL.cons ?_
            refine EV.name rfl ?_ (loc_of (by assumption) rfl)
            refine EVL.cons ?_
            refine EV.callB (g_abs hW') (by boot_by_name) (loc_of (by assumption) rfl) ?_
            refine EVL.cons ?_
            refine EV.bin ?_
            refine EV.bin ?_
            refine EV.bin ?_
            refine EV.intN (n := 2) rfl ?_
            refine EV.callF (g_law_units hW') (k_law_units hW') (loc_of (by assumption) rfl) ?_
            refine EVL.cons ?_
            refine EV.name rfl ?_ (loc_of (by assumption) rfl)
            refine EVL.cons ?_
            refine EV.name rfl ?_ (loc_of (by assumption) rfl)
            refine EVL.nil ?_
            refine law_units_ hW' (by omega) hF (by omega) ?_
            refine OpV.mulB (k := 300) (j := 16001) (by first | exact h2b | exact h2u) (by first | exact hu2b | exact hDb) (by decide) (by decide) ?_
            refine EV.name rfl ?_ (loc_of (by assumption) rfl)
            refine OpV.mulB (k := 300) (j := 16001) (by first | exact h2b | exact h2u) (by first | exact hu2b | exact hDb) (by decide) (by decide) ?_
            refine EV.name rfl ?_ (loc_of (by assumption) rfl)
            refine OpV.sub ?_
            refine EVL.nil ?_
            refine CallV.absE (c := ((2 * dst (un fb size * D) n : Nat) : Int)) (by rw [Nat.mul_assoc]; unfold dst; split <;> omega) ?_
            refine EVL.cons ?_
            refine EV.name rfl ?_ (loc_of (by assumption) rfl)
            refine EVL.nil ?_
            refine ⟨by simp, ?_⟩
            refine key _ ?_
            rw [hI]
            first
            | contradiction
            | ((try simp only [decide_eq_true_eq]); constructor <;> intro z <;> first | trivial | omega | rfl | exact absurd z (by decide))
        · try simp only [decide_eq_true_eq, decide_eq_false_iff_not, Bool.not_eq_true', Bool.not_eq_false'] at h4
          refine Then.next ?_
          refine WS.cons (WS1.ret ?_)
          refine EV.tuple ?_
          refine EVL.cons ?_
          refine EV.name rfl ?_ (loc_of (by assumption) rfl)
          refine EVL.cons ?_
          refine EV.callB (g_abs hW') (by boot_by_name) (loc_of (by assumption) rfl) ?_
          refine EVL.cons ?_
          refine EV.bin ?_
          refine EV.bin ?_
          refine EV.bin ?_
          refine EV.intN (n := 2) rfl ?_
          refine EV.callF (g_law_units hW') (k_law_units hW') (loc_of (by assumption) rfl) ?_
          refine EVL.cons ?_
          refine EV.name rfl ?_ (loc_of (by assumption) rfl)
          refine EVL.cons ?_
          refine EV.name rfl ?_ (loc_of (by assumption) rfl)
          refine EVL.nil ?_
          refine law_units_ hW' (by omega) hF (by omega) ?_
          refine OpV.mulB (k := 300) (j := 16001) (by first | exact h2b | exact h2u) (by first | exact hu2b | exact hDb) (by decide) (by decide) ?_
          refine EV.name rfl ?_ (loc_of (by assumption) rfl)
          refine OpV.mulB (k := 300) (j := 16001) (by first | exact h2b | exact h2u) (by first | exact hu2b | exact hDb) (by decide) (by decide) ?_
          refine EV.name rfl ?_ (loc_of (by assumption) rfl)
          refine OpV.sub ?_
          refine EVL.nil ?_
          refine CallV.absE (c := ((2 * dst (un fb size * D) n : Nat) : Int)) (by rw [Nat.mul_assoc]; unfold dst; split <;> omega) ?_
          refine EVL.cons ?_
          refine EV.name rfl ?_ (loc_of (by assumption) rfl)
          refine EVL.nil ?_
          refine ⟨by simp, ?_⟩
          refine key _ ?_
          rw [hI]
          first
          | contradiction
          | ((try simp only [decide_eq_true_eq]); constructor <;> intro z <;> first | trivial | omega | rfl | exact absurd z (by decide))
    · try simp only [decide_eq_true_eq, decide_eq_false_iff_not, Bool.not_eq_true', Bool.not_eq_false'] at h2
      refine ⟨_, rfl, fun h3 => ?_, fun h3 => ?_⟩
      · try simp only [decide_eq_true_eq, decide_eq_false_iff_not, Bool.not_eq_true', Bool.not_eq_false'] at h3
        refine Then.next ?_
        refine WS.cons (WS1.ret ?_)
        refine EV.tuple ?_
        refine EVL.cons ?_
        refine EV.name rfl ?_ (loc_of (by assumption) rfl)
        refine EVL.cons ?_
        refine EV.callB (g_abs hW') (by boot_by_name) (loc_of (by assumption) rfl) ?_
        refine EVL.cons ?_
        refine EV.bin ?_
        refine EV.bin ?_
        refine EV.bin ?_
        refine EV.intN (n := 2) rfl ?_
        refine EV.callF (g_law_units hW') (k_law_units hW') (loc_of (by assumption) rfl) ?_
        refine EVL.cons ?_
        refine EV.name rfl ?_ (loc_of (by assumption) rfl)
        refine EVL.cons ?_
        refine EV.name rfl ?_ (loc_of (by assumption) rfl)
        refine EVL.nil ?_
        refine law_units_ hW' (by omega) hF (by omega) ?_
        refine OpV.mulB (k := 300) (j := 16001) (by first | exact h2b | exact h2u) (by first | exact hu2b | exact hDb) (by decide) (by decide) ?_
        refine EV.name rfl ?_ (loc_of (by assumption) rfl)
        refine OpV.mulB (k := 300) (j := 16001) (by first | exact h2b | exact h2u) (by first | exact hu2b | exact hDb) (by decide) (by decide) ?_
        refine EV.name rfl ?_ (loc_of (by assumption) rfl)
        refine OpV.sub ?_
        refine EVL.nil ?_
        refine CallV.absE (c := ((2 * dst (un fb size * D) n : Nat) : Int)) (by rw [Nat.mul_assoc]; unfold dst; split <;> omega) ?_
        refine EVL.cons ?_
        refine EV.name rfl ?_ (loc_of (by assumption) rfl)
        refine EVL.nil ?_
        refine ⟨by simp, ?_⟩
        refine key _ ?_
        rw [hI]
        first
        | contradiction
        | ((try simp only [decide_eq_true_eq]); constructor <;> intro z <;> first | trivial | omega | rfl | exact absurd z (by decide))
      · try simp only [decide_eq_true_eq, decide_eq_false_iff_not, Bool.not_eq_true', Bool.not_eq_false'] at h3
        refine EV.bo_one ?_
        refine EV.and ?_
        refine EV.cmp ?_
        refine EV.bin ?_
        refine EV.name rfl ?_ (loc_of (by assumption) rfl)
        refine EV.intN (n := 2) rfl ?_
        refine OpV.fmodN (by decide) ?_
        refine EV.intN (n := 0) rfl ?_
        refine CmpV.eqN ?_
        refine ⟨_, rfl, fun h4 => ?_, fun h4 => ?_⟩
        · try simp only [decide_eq_true_eq, decide_eq_false_iff_not, Bool.not_eq_true', Bool.not_eq_false'] at h4
          refine EV.bo_one ?_
          refine EV.or ?_
          refine EV.cmp ?_
          refine EV.name rfl ?_ (loc_of (by assumption) rfl)
          refine EV.name rfl ?_ (loc_of (by assumption) rfl)
          refine CmpV.eqN ?_
          refine ⟨_, rfl, fun h5 => ?_, fun h5 => ?_⟩
          · try simp only [decide_eq_true_eq, decide_eq_false_iff_not, Bool.not_eq_true', Bool.not_eq_false'] at h5
            refine Then.next ?_
            refine WS.cons (WS1.ret ?_)
            refine EV.tuple ?_
            refine EVL.cons ?_
            refine EV.name rfl ?_ (loc_of (by assumption) rfl)
            refine EVL.cons ?_
            refine EV.callB (g_abs hW') (by boot_by_name) (loc_of (by assumption) rfl) ?_
            refine EVL.cons ?_
            refine EV.bin ?_
            refine EV.bin ?_
            refine EV.bin ?_
            refine EV.intN (n := 2) rfl ?_
            refine EV.callF (g_law_units hW') (k_law_units hW') (loc_of (by assumption) rfl) ?_
            refine EVL.cons ?_
            refine EV.name rfl ?_ (loc_of (by assumption) rfl)
            refine EVL.cons ?_
            refine EV.name rfl ?_ (loc_of (by assumption) rfl)
            refine EVL.nil ?_
            refine law_units_ hW' (by omega) hF (by omega) ?_
            refine OpV.mulB (k := 300) (j := 16001) (by first | exact h2b | exact h2u) (by first | exact hu2b | exact hDb) (by decide) (by decide) ?_
            refine EV.name rfl ?_ (loc_of (by assumption) rfl)
            refine OpV.mulB (k := 300) (j := 16001) (by first | exact h2b | exact h2u) (by first | exact hu2b | exact hDb) (by decide) (by decide) ?_
            refine EV.name rfl ?_ (loc_of (by assumption) rfl)
            refine OpV.sub ?_
            refine EVL.nil ?_
            refine CallV.absE (c := ((2 * dst (un fb size * D) n : Nat) : Int)) (by rw [Nat.mul_assoc]; unfold dst; split <;> omega) ?_
            refine EVL.cons ?_
            refine EV.name rfl ?_ (loc_of (by assumption) rfl)
            refine EVL.nil ?_
            refine ⟨by simp, ?_⟩
            refine key _ ?_
            rw [hI]
            first
            | contradiction
            | ((try simp only [decide_eq_true_eq]); constructor <;> intro z <;> first | trivial | omega | rfl | exact absurd z (by decide))
          · try simp only [decide_eq_true_eq, decide_eq_false_iff_not, Bool.not_eq_true', Bool.not_eq_false'] at h5
            refine EV.bo_one ?_
            refine EV.cmp ?_
            refine EV.name rfl ?_ (loc_of (by assumption) rfl)
            refine EV.name rfl ?_ (loc_of (by assumption) rfl)
            refine CmpV.eqN ?_
            refine Then.next ?_
            refine WS.cons (WS1.ret ?_)
            refine EV.tuple ?_
            refine EVL.cons ?_
            refine EV.name rfl ?_ (loc_of (by assumption) rfl)
            refine EVL.cons ?_
            refine EV.callB (g_abs hW') (by boot_by_name) (loc_of (by assumption) rfl) ?_
            refine EVL.cons ?_
            refine EV.bin ?_
            refine EV.bin ?_
            refine EV.bin ?_
            refine EV.intN (n := 2) rfl ?_
            refine EV.callF (g_law_units hW') (k_law_units hW') (loc_of (by assumption) rfl) ?_
            refine EVL.cons ?_
            refine EV.name rfl ?_ (loc_of (by assumption) rfl)
            refine EVL.cons ?_
            refine EV.name rfl ?_ (loc_of (by assumption) rfl)
            refine EVL.nil ?_
            refine law_units_ hW' (by omega) hF (by omega) ?_
            refine OpV.mulB (k := 300) (j := 16001) (by first | exact h2b | exact h2u) (by first | exact hu2b | exact hDb) (by decide) (by decide) ?_
            refine EV.name rfl ?_ (loc_of (by assumption) rfl)
            refine OpV.mulB (k := 300) (j := 16001) (by first | exact h2b | exact h2u) (by first | exact hu2b | exact hDb) (by decide) (by decide) ?_
            refine EV.name rfl ?_ (loc_of (by assumption) rfl)
            refine OpV.sub ?_
            refine EVL.nil ?_
            refine CallV.absE (c := ((2 * dst (un fb size * D) n : Nat) : Int)) (by rw [Nat.mul_assoc]; unfold dst; split <;> omega) ?_
            refine EVL.cons ?_
            refine EV.name rfl ?_ (loc_of (by assumption) rfl)
            refine EVL.nil ?_
            refine ⟨by simp, ?_⟩
            refine key _ ?_
            rw [hI]
            first
            | contradiction
            | ((try simp only [decide_eq_true_eq]); constructor <;> intro z <;> first | trivial | omega | rfl | exact absurd z (by decide))
        · try simp only [decide_eq_true_eq, decide_eq_false_iff_not, Bool.not_eq_true', Bool.not_eq_false'] at h4
          refine Then.next ?_
          refine WS.cons (WS1.ret ?_)
          refine EV.tuple ?_
          refine EVL.cons ?_
          refine EV.name rfl ?_ (loc_of (by assumption) rfl)
          refine EVL.cons ?_
          refine EV.callB (g_abs hW') (by boot_by_name) (loc_of (by assumption) rfl) ?_
          refine EVL.cons ?_
          refine EV.bin ?_
          refine EV.bin ?_
          refine EV.bin ?_
          refine EV.intN (n := 2) rfl ?_
          refine EV.callF (g_law_units hW') (k_law_units hW') (loc_of (by assumption) rfl) ?_
          refine EVL.cons ?_
          refine EV.name rfl ?_ (loc_of (by assumption) rfl)
          refine EVL.cons ?_
          refine EV.name rfl ?_ (loc_of (by assumption) rfl)
          refine EVL.nil ?_
          refine law_units_ hW' (by omega) hF (by omega) ?_
          refine OpV.mulB (k := 300) (j := 16001) (by first | exact h2b | exact h2u) (by first | exact hu2b | exact hDb) (by decide) (by decide) ?_
          refine EV.name rfl ?_ (loc_of (by assumption) rfl)
          refine OpV.mulB (k := 300) (j := 16001) (by first | exact h2b | exact h2u) (by first | exact hu2b | exact hDb) (by decide) (by decide) ?_
          refine EV.name rfl ?_ (loc_of (by assumption) rfl)
          refine OpV.sub ?_
          refine EVL.nil ?_
          refine CallV.absE (c := ((2 * dst (un fb size * D) n : Nat) : Int)) (by rw [Nat.mul_assoc]; unfold dst; split <;> omega) ?_
          refine EVL.cons ?_
          refine EV.name rfl ?_ (loc_of (by assumption) rfl)
          refine EVL.nil ?_
          refine ⟨by simp, ?_⟩
          refine key _ ?_
          rw [hI]
          first
          | contradiction
          | ((try simp only [decide_eq_true_eq]); constructor <;> intro z <;> first | trivial | omega | rfl | exact absurd z (by decide))

end
end Mine

set_option exponentiation.threshold 17000
set_option maxHeartbeats 4000000
namespace Mine
theorem AD.not {l : List Nat} (h : AD l) {c : Nat} (hc : c < 48 ∨ 57 < c) : c ∉ l := fun m => by have := h c m; omega
theorem istr_no {p : Int} : 69 ∉ istr p := by
  unfold istr
  split
  · intro h
    rcases List.mem_cons.mp h with h | h
    · exact absurd h (by decide)
    · exact (dig_ok _).1.not (.inr (by decide)) h
  · exact (dig_ok _).1.not (.inr (by decide))
theorem dst_bd {a b : Nat} (ha : a < 2 ^ 18000) (hb : b < 2 ^ 18000) : Bd 18100 ((2 * dst a b : Nat) : Int) := by
  generalize hK : 2 ^ 18000 = K at ha hb
  refine Bd.mono (k := 2 + 18000) ((Bd.nat (k := 2) (n := 2) (by decide)).mulN (Bd.nat ?_)) (by decide)
  rw [hK]; unfold dst; omega
theorem lt2 {a b D : Nat} (h : 2 * a * D < 2 * b * D) : a < b := by
  have := Nat.lt_of_mul_lt_mul_right h
  omega
section
variable {X : Fx} {σ : Led} {ρ : Loc} {Q : PV → Led → Prop} {eb fb : Nat}

theorem law_taken_ (hW : IsW X.W) (hd : 1 ≤ X.d) {s d k : Nat} {t u bf bh : List Nat} {P p0 : Int} {sc : Bool} (T : PTx u d P bf bh sc p0 k) (ht : t = sgn s ++ u) (hlen : u.length ≤ 400) (hd0 : 0 < d) (hd10 : ¬ d % 10 = 0) (hil : sc = true → (istr p0).length ≤ 5)
    (q : Q (.tup [.int (d : Int), .int P, .str (S bf), .str (S bh), .bool sc]) σ) : CallV X (.ref 261) [.form (frm eb fb), .str (S t)] σ Q := by
  refine CallV.def hW.K ["form", "text"] 0 rfl rfl (bind2 _ _ (fun _ _ => rfl)) (by decide) (by decide) (by omega) (by decide) rfl rfl rfl ?_
  intro X' e1 e2 e3
  have hW' : IsW X'.W := e1 ▸ hW
  clear hW
  obtain ⟨c1, r1, hc1⟩ := List.exists_cons_of_ne_nil T.n1
  have hc1d := T.ad1 c1 (by rw [hc1]; exact List.mem_cons_self)
  have hlu := congrArg List.length T.eq
  rw [List.length_append, List.length_cons, List.length_append] at hlu
  have hu0 : u = c1 :: (r1 ++ 46 :: (bh ++ if sc = true then 69 :: istr p0 else [])) := by have := T.eq; rw [hc1] at this; exact this
  have hsl : (sgn s).length ≤ 1 := by unfold sgn; split <;> decide
  have htl : t.length ≤ 401 := by rw [ht, List.length_append]; omega
  obtain ⟨c0, hc0, hT1, hT2⟩ : ∃ c0, t[0]? = some c0 ∧ ([c0] = [45] → 1 ≤ t.length ∧ t.drop 1 = u) ∧ (¬ [c0] = [45] → t = u) := by
    rw [ht]
    unfold sgn
    split
    · exact ⟨45, rfl, fun _ => ⟨by simp, rfl⟩, fun h => absurd rfl h⟩
    · refine ⟨c1, by rw [hu0]; rfl, fun h => ?_, fun _ => rfl⟩
      injection h with h _; omega
  have hno1 : 69 ∉ bf ++ 46 :: bh := fun h => by
    rcases List.mem_append.mp h with h | h
    · exact T.ad1.not (.inr (by decide)) h
    · rcases List.mem_cons.mp h with h | h
      · exact absurd h (by decide)
      · exact T.ad2.not (.inr (by decide)) h
  have hu1 : sc = true → u = (bf ++ 46 :: bh) ++ 69 :: istr p0 := fun h => by rw [T.eq, if_pos h, List.append_assoc]; rfl
  have hu2 : sc = false → u = bf ++ 46 :: bh := fun h => by rw [T.eq, if_neg (by rw [h]; decide), List.append_nil]
  have hE1 : 69 ∈ u → sc = true := fun h => by
    cases hsc : sc with
    | true => rfl
    | false => rw [hu2 hsc] at h; exact absurd h hno1
  have hE0 : ¬ 69 ∈ u → sc = false := fun h => by
    cases hsc : sc with
    | false => rfl
    | true => exact absurd (by rw [hu1 hsc]; exact List.mem_append_right _ List.mem_cons_self) h
  have hE : decide (69 ∈ u) = sc := by
    by_cases h : 69 ∈ u
    · rw [hE1 h]; exact decide_eq_true h
    · rw [hE0 h]; exact decide_eq_false h
  have hl2 : (bf ++ 46 :: bh).length = bf.length + (bh.length + 1) := by rw [List.length_append, List.length_cons]
  refine WS.cons (WS1.asg ?_ (loc_of (by assumption) rfl))
  refine EV.ife ?_
  refine TV.cmp ?_
  refine EV.sub ?_
  refine EV.name rfl ?_ (loc_of (by assumption) rfl)
  refine EV.int ?_
  refine SubV.strS (j := 0) (c := c0) rfl (by decide) hc0 ?_
  refine EV.strS (l := [45]) (by decide +kernel) ?_
  refine CmpV.seqS ?_
  refine ⟨_, rfl, ?_⟩
  refine ⟨fun h1 => ?_, fun h1 => ?_⟩
  · try simp only [decide_eq_true_eq, decide_eq_false_iff_not, Bool.not_eq_true', Bool.not_eq_false'] at h1
    refine EV.slice_sn ?_
    refine EV.name rfl ?_ (loc_of (by assumption) rfl)
    refine EV.int ?_
    refine ⟨_, ((1 : Nat) : Int), rfl, rfl, by rw [S_len]; omega, ?_⟩
    rw [S_from _ (hT1 h1).1, (hT1 h1).2]
    refine Then.next ?_
    refine WS.cons (WS1.swapped (xs := [Str.ofString "mantissa", Str.ofString "power"]) (locs_of (by assumption) (by decide)) ?_ (hw := swap_of (by assumption) (by intro _ _ _ _; kernel_rfl)))
    refine EV.tuple ?_
    refine EVL.cons ?_
    refine EV.name rfl ?_ (loc_of (by assumption) rfl)
    refine EVL.cons ?_
    refine EV.int ?_
    refine EVL.nil ?_
    refine ⟨by simp, ?_⟩
    refine ⟨_, Seq.tup _, rfl, ?_⟩
    refine Then.next ?_
    refine WS.cons (WS1.ite ?_)
    refine TV.cmp ?_
    refine EV.strS (l := [69]) (by decide +kernel) ?_
    refine EV.name rfl ?_ (loc_of (by assumption) rfl)
    refine CmpV.sinS ?_
    refine ⟨_, rfl, ?_⟩
    refine ⟨fun h2 => ?_, fun h2 => ?_⟩
    · try simp only [decide_eq_true_eq, decide_eq_false_iff_not, Bool.not_eq_true', Bool.not_eq_false'] at h2
      refine WS.cons (WS1.unpack (NamesOf.cons (NamesOf.cons NamesOf.nil)) (locs_of (by assumption) (by decide)) ?_ )
      refine EV.callM (id := "str.split") (pl := ?pl1) (he := ?he1) (hp := ?hp1) (hc := ?hc1) ?hg1 ?_
      case he1 => rfl
      case hp1 => rfl
      case hc1 => rfl
      case hg1 => exact fun _ _ _ _ _ _ h => GM.split h
      refine EV.name rfl ?_ (loc_of (by assumption) rfl)
      refine ⟨_, rfl, ?_⟩
      refine EVL.cons ?_
      refine EV.strS (l := [69]) (by decide +kernel) ?_
      refine EVL.nil ?_
      have hsc : sc = true := hE1 h2
      refine CallV.splitE (a := bf ++ 46 :: bh) (b := istr p0) (c := 69) (hu1 hsc) hno1 istr_no (by omega) ?_
      refine ⟨_, Seq.lst _, rfl, ?_⟩
      refine Then.next ?_
      refine WS.cons (WS1.asg ?_ (loc_of (by assumption) rfl))
      refine EV.callT (g_int hW') (by boot_by_name) (loc_of (by assumption) rfl) ?_
      refine EVL.cons ?_
      refine EV.name rfl ?_ (loc_of (by assumption) rfl)
      refine EVL.nil ?_
      refine CallV.intSZ (p := p0) (by have := hil hsc; omega) ?_
      refine Then.next ?_
      refine WS.nil ?_
      refine Then.next ?_
      first
      | refine WS.forget [(Str.ofString "form", .form (frm eb fb)), (Str.ofString "body", .str (S u)), (Str.ofString "mantissa", .str (S (bf ++ 46 :: bh))), (Str.ofString "power", .int p0)] ⟨rfl, rfl, rfl, rfl, trivial⟩ ?_
      | refine WS.forget [(Str.ofString "form", .form (frm eb fb)), (Str.ofString "body", .str (S u)), (Str.ofString "mantissa", .str (S u)), (Str.ofString "power", .int 0)] ⟨rfl, rfl, rfl, rfl, trivial⟩ ?_
      refine WS.cons (WS1.unpack (NamesOf.cons (NamesOf.cons NamesOf.nil)) (locs_of (by assumption) (by decide)) ?_ )
      refine EV.callM (id := "str.split") (pl := ?pl2) (he := ?he2) (hp := ?hp2) (hc := ?hc2) ?hg2 ?_
      case he2 => rfl
      case hp2 => rfl
      case hc2 => rfl
      case hg2 => exact fun _ _ _ _ _ _ h => GM.split h
      refine EV.name rfl ?_ (loc_of (by assumption) rfl)
      refine ⟨_, rfl, ?_⟩
      refine EVL.cons ?_
      refine EV.strS (l := [46]) (by decide +kernel) ?_
      refine EVL.nil ?_
      refine CallV.splitE (a := bf) (b := bh) (c := 46) (by first | rfl | exact hu2 (hE0 h2)) (T.ad1.not (.inl (by decide))) (T.ad2.not (.inl (by decide))) (by first | (rw [hl2]; omega) | omega) ?_
      refine ⟨_, Seq.lst _, rfl, ?_⟩
      refine Then.next ?_
      refine WS.cons (WS1.asg ?_ (loc_of (by assumption) rfl))
      refine EV.callT (g_int hW') (by boot_by_name) (loc_of (by assumption) rfl) ?_
      refine EVL.cons ?_
      refine EV.bin ?_
      refine EV.name rfl ?_ (loc_of (by assumption) rfl)
      refine EV.name rfl ?_ (loc_of (by assumption) rfl)
      refine OpV.catS (by omega) ?_
      refine EVL.nil ?_
      refine CallV.intSS (T.ad1.append T.ad2) (by simp [T.n1]) (by rw [List.length_append]; omega) ?_
      rw [T.val]
      refine Then.next ?_
      refine WS.cons (WS1.aug rfl ?_ (loc_of (by assumption) rfl))
      refine EV.callB (g_len hW') (by boot_by_name) (loc_of (by assumption) rfl) ?_
      refine EVL.cons ?_
      refine EV.name rfl ?_ (loc_of (by assumption) rfl)
      refine EVL.nil ?_
      refine CallV.lenS' (by omega) ?_
      refine IopV.subE (c := P - (k : Int)) (by have h9 := T.pw; first | omega | (have h8 := T.p0z (hE0 h2); omega)) ?_
      refine Then.next ?_
      refine WS.forget ([(Str.ofString "form", .form (frm eb fb)), (Str.ofString "body", .str (S u)), (Str.ofString "before", .str (S bf)), (Str.ofString "behind", .str (S bh)), (Str.ofString "digits", .int ((d * 10 ^ k : Nat) : Int)), (Str.ofString "power", .int (P - ((k : Nat) : Int)))]) ⟨rfl, rfl, rfl, rfl, rfl, rfl, trivial⟩ ?_
      refine WS.cons (WS1.while (α := Nat) (fun j => [(Str.ofString "form", .form (frm eb fb)), (Str.ofString "body", .str (S u)), (Str.ofString "before", .str (S bf)), (Str.ofString "behind", .str (S bh)), (Str.ofString "digits", .int ((d * 10 ^ j : Nat) : Int)), (Str.ofString "power", .int (P - ((j : Nat) : Int)))]) (fun _ => σ) (fun _ => True) (fun j => j) k rfl rfl trivial ?_)
      intro j _
      refine TV.cmp ?_
      refine EV.bin ?_
      refine EV.name rfl ?_ (loc_of (by assumption) rfl)
      refine EV.intN (n := 10) rfl ?_
      refine OpV.fmodN (by decide) ?_
      refine EV.intN (n := 0) rfl ?_
      refine CmpV.eqN ?_
      refine ⟨_, rfl, ?_⟩
      refine ⟨fun h3 => ?_, fun h3 => ?_⟩
      · try simp only [decide_eq_true_eq, decide_eq_false_iff_not, Bool.not_eq_true', Bool.not_eq_false'] at h3
        first
        | obtain ⟨i, hi⟩ : ∃ i, j = i + 1 := ⟨j - 1, by
            rcases Nat.eq_zero_or_pos j with z | z
            · rw [z, Nat.pow_zero, Nat.mul_one] at h3; exact absurd h3 hd10
            · omega⟩
        subst hi
        refine WS.cons (WS1.aug rfl ?_ (loc_of (by assumption) rfl))
        refine EV.intN (n := 10) rfl ?_
        refine IopV.fdivE (c := d * 10 ^ i) (k := 4) (by rw [Nat.pow_succ, ← Nat.mul_assoc, Nat.mul_div_cancel _ (by decide)]) (by decide) (by decide) (by decide) ?_
        refine Then.next ?_
        refine WS.cons (WS1.aug rfl ?_ (loc_of (by assumption) rfl))
        refine EV.int ?_
        refine IopV.addE (c := P - (i : Int)) (by omega) ?_
        refine Then.next ?_
        refine WS.nil ?_
        exact ⟨i, rfl, rfl, trivial, Nat.lt_succ_self i⟩
      · try simp only [decide_eq_true_eq, decide_eq_false_iff_not, Bool.not_eq_true', Bool.not_eq_false'] at h3
        have hj : j = 0 := by
          rcases Nat.eq_zero_or_pos j with z | z
          · exact z
          · obtain ⟨i, hi⟩ : ∃ i, j = i + 1 := ⟨j - 1, by omega⟩
            rw [hi, Nat.pow_succ, ← Nat.mul_assoc, Nat.mul_mod_left] at h3
            exact absurd rfl h3
        subst hj
        refine Then.next ?_
        refine WS.cons (WS1.ret ?_)
        refine EV.tuple ?_
        refine EVL.cons ?_
        refine EV.name rfl ?_ (loc_of (by assumption) rfl)
        refine EVL.cons ?_
        refine EV.name rfl ?_ (loc_of (by assumption) rfl)
        refine EVL.cons ?_
        refine EV.name rfl ?_ (loc_of (by assumption) rfl)
        refine EVL.cons ?_
        refine EV.name rfl ?_ (loc_of (by assumption) rfl)
        refine EVL.cons ?_
        refine EV.cmp ?_
        refine EV.strS (l := [69]) (by decide +kernel) ?_
        refine EV.name rfl ?_ (loc_of (by assumption) rfl)
        refine CmpV.sinS ?_
        refine EVL.nil ?_
        refine ⟨by simp, ?_⟩
        rw [Nat.pow_zero, Nat.mul_one, show P - ((0 : Nat) : Int) = P from by omega, hE]
        exact q
    · try simp only [decide_eq_true_eq, decide_eq_false_iff_not, Bool.not_eq_true', Bool.not_eq_false'] at h2
      refine WS.nil ?_
      refine Then.next ?_
      first
      | refine WS.forget [(Str.ofString "form", .form (frm eb fb)), (Str.ofString "body", .str (S u)), (Str.ofString "mantissa", .str (S (bf ++ 46 :: bh))), (Str.ofString "power", .int p0)] ⟨rfl, rfl, rfl, rfl, trivial⟩ ?_
      | refine WS.forget [(Str.ofString "form", .form (frm eb fb)), (Str.ofString "body", .str (S u)), (Str.ofString "mantissa", .str (S u)), (Str.ofString "power", .int 0)] ⟨rfl, rfl, rfl, rfl, trivial⟩ ?_
      refine WS.cons (WS1.unpack (NamesOf.cons (NamesOf.cons NamesOf.nil)) (locs_of (by assumption) (by decide)) ?_ )
      refine EV.callM (id := "str.split") (pl := ?pl3) (he := ?he3) (hp := ?hp3) (hc := ?hc3) ?hg3 ?_
      case he3 => rfl
      case hp3 => rfl
      case hc3 => rfl
      case hg3 => exact fun _ _ _ _ _ _ h => GM.split h
      refine EV.name rfl ?_ (loc_of (by assumption) rfl)
      refine ⟨_, rfl, ?_⟩
      refine EVL.cons ?_
      refine EV.strS (l := [46]) (by decide +kernel) ?_
      refine EVL.nil ?_
      refine CallV.splitE (a := bf) (b := bh) (c := 46) (by first | rfl | exact hu2 (hE0 h2)) (T.ad1.not (.inl (by decide))) (T.ad2.not (.inl (by decide))) (by first | (rw [hl2]; omega) | omega) ?_
      refine ⟨_, Seq.lst _, rfl, ?_⟩
      refine Then.next ?_
      refine WS.cons (WS1.asg ?_ (loc_of (by assumption) rfl))
      refine EV.callT (g_int hW') (by boot_by_name) (loc_of (by assumption) rfl) ?_
      refine EVL.cons ?_
      refine EV.bin ?_
      refine EV.name rfl ?_ (loc_of (by assumption) rfl)
      refine EV.name rfl ?_ (loc_of (by assumption) rfl)
      refine OpV.catS (by omega) ?_
      refine EVL.nil ?_
      refine CallV.intSS (T.ad1.append T.ad2) (by simp [T.n1]) (by rw [List.length_append]; omega) ?_
      rw [T.val]
      refine Then.next ?_
      refine WS.cons (WS1.aug rfl ?_ (loc_of (by assumption) rfl))
      refine EV.callB (g_len hW') (by boot_by_name) (loc_of (by assumption) rfl) ?_
      refine EVL.cons ?_
      refine EV.name rfl ?_ (loc_of (by assumption) rfl)
      refine EVL.nil ?_
      refine CallV.lenS' (by omega) ?_
      refine IopV.subE (c := P - (k : Int)) (by have h9 := T.pw; first | omega | (have h8 := T.p0z (hE0 h2); omega)) ?_
      refine Then.next ?_
      refine WS.forget ([(Str.ofString "form", .form (frm eb fb)), (Str.ofString "body", .str (S u)), (Str.ofString "before", .str (S bf)), (Str.ofString "behind", .str (S bh)), (Str.ofString "digits", .int ((d * 10 ^ k : Nat) : Int)), (Str.ofString "power", .int (P - ((k : Nat) : Int)))]) ⟨rfl, rfl, rfl, rfl, rfl, rfl, trivial⟩ ?_
      refine WS.cons (WS1.while (α := Nat) (fun j => [(Str.ofString "form", .form (frm eb fb)), (Str.ofString "body", .str (S u)), (Str.ofString "before", .str (S bf)), (Str.ofString "behind", .str (S bh)), (Str.ofString "digits", .int ((d * 10 ^ j : Nat) : Int)), (Str.ofString "power", .int (P - ((j : Nat) : Int)))]) (fun _ => σ) (fun _ => True) (fun j => j) k rfl rfl trivial ?_)
      intro j _
      refine TV.cmp ?_
      refine EV.bin ?_
      refine EV.name rfl ?_ (loc_of (by assumption) rfl)
      refine EV.intN (n := 10) rfl ?_
      refine OpV.fmodN (by decide) ?_
      refine EV.intN (n := 0) rfl ?_
      refine CmpV.eqN ?_
      refine ⟨_, rfl, ?_⟩
      refine ⟨fun h3 => ?_, fun h3 => ?_⟩
      · try simp only [decide_eq_true_eq, decide_eq_false_iff_not, Bool.not_eq_true', Bool.not_eq_false'] at h3
        first
        | obtain ⟨i, hi⟩ : ∃ i, j = i + 1 := ⟨j - 1, by
            rcases Nat.eq_zero_or_pos j with z | z
            · rw [z, Nat.pow_zero, Nat.mul_one] at h3; exact absurd h3 hd10
            · omega⟩
        subst hi
        refine WS.cons (WS1.aug rfl ?_ (loc_of (by assumption) rfl))
        refine EV.intN (n := 10) rfl ?_
        refine IopV.fdivE (c := d * 10 ^ i) (k := 4) (by rw [Nat.pow_succ, ← Nat.mul_assoc, Nat.mul_div_cancel _ (by decide)]) (by decide) (by decide) (by decide) ?_
        refine Then.next ?_
        refine WS.cons (WS1.aug rfl ?_ (loc_of (by assumption) rfl))
        refine EV.int ?_
        refine IopV.addE (c := P - (i : Int)) (by omega) ?_
        refine Then.next ?_
        refine WS.nil ?_
        exact ⟨i, rfl, rfl, trivial, Nat.lt_succ_self i⟩
      · try simp only [decide_eq_true_eq, decide_eq_false_iff_not, Bool.not_eq_true', Bool.not_eq_false'] at h3
        have hj : j = 0 := by
          rcases Nat.eq_zero_or_pos j with z | z
          · exact z
          · obtain ⟨i, hi⟩ : ∃ i, j = i + 1 := ⟨j - 1, by omega⟩
            rw [hi, Nat.pow_succ, ← Nat.mul_assoc, Nat.mul_mod_left] at h3
            exact absurd rfl h3
        subst hj
        refine Then.next ?_
        refine WS.cons (WS1.ret ?_)
        refine EV.tuple ?_
        refine EVL.cons ?_
        refine EV.name rfl ?_ (loc_of (by assumption) rfl)
        refine EVL.cons ?_
        refine EV.name rfl ?_ (loc_of (by assumption) rfl)
        refine EVL.cons ?_
        refine EV.name rfl ?_ (loc_of (by assumption) rfl)
        refine EVL.cons ?_
        refine EV.name rfl ?_ (loc_of (by assumption) rfl)
        refine EVL.cons ?_
        refine EV.cmp ?_
        refine EV.strS (l := [69]) (by decide +kernel) ?_
        refine EV.name rfl ?_ (loc_of (by assumption) rfl)
        refine CmpV.sinS ?_
        refine EVL.nil ?_
        refine ⟨by simp, ?_⟩
        rw [Nat.pow_zero, Nat.mul_one, show P - ((0 : Nat) : Int) = P from by omega, hE]
        exact q
  · try simp only [decide_eq_true_eq, decide_eq_false_iff_not, Bool.not_eq_true', Bool.not_eq_false'] at h1
    refine EV.name (v := .str (S u)) (by rw [← hT2 h1]; rfl) ?_ (loc_of (by assumption) rfl)
    refine Then.next ?_
    refine WS.cons (WS1.swapped (xs := [Str.ofString "mantissa", Str.ofString "power"]) (locs_of (by assumption) (by decide)) ?_ (hw := swap_of (by assumption) (by intro _ _ _ _; kernel_rfl)))
    refine EV.tuple ?_
    refine EVL.cons ?_
    refine EV.name rfl ?_ (loc_of (by assumption) rfl)
    refine EVL.cons ?_
    refine EV.int ?_
    refine EVL.nil ?_
    refine ⟨by simp, ?_⟩
    refine ⟨_, Seq.tup _, rfl, ?_⟩
    refine Then.next ?_
    refine WS.cons (WS1.ite ?_)
    refine TV.cmp ?_
    refine EV.strS (l := [69]) (by decide +kernel) ?_
    refine EV.name rfl ?_ (loc_of (by assumption) rfl)
    refine CmpV.sinS ?_
    refine ⟨_, rfl, ?_⟩
    refine ⟨fun h2 => ?_, fun h2 => ?_⟩
    · try simp only [decide_eq_true_eq, decide_eq_false_iff_not, Bool.not_eq_true', Bool.not_eq_false'] at h2
      refine WS.cons (WS1.unpack (NamesOf.cons (NamesOf.cons NamesOf.nil)) (locs_of (by assumption) (by decide)) ?_ )
      refine EV.callM (id := "str.split") (pl := ?pl4) (he := ?he4) (hp := ?hp4) (hc := ?hc4) ?hg4 ?_
      case he4 => rfl
      case hp4 => rfl
      case hc4 => rfl
      case hg4 => exact fun _ _ _ _ _ _ h => GM.split h
      refine EV.name rfl ?_ (loc_of (by assumption) rfl)
      refine ⟨_, rfl, ?_⟩
      refine EVL.cons ?_
      refine EV.strS (l := [69]) (by decide +kernel) ?_
      refine EVL.nil ?_
      have hsc : sc = true := hE1 h2
      refine CallV.splitE (a := bf ++ 46 :: bh) (b := istr p0) (c := 69) (hu1 hsc) hno1 istr_no (by omega) ?_
      refine ⟨_, Seq.lst _, rfl, ?_⟩
      refine Then.next ?_
      refine WS.cons (WS1.asg ?_ (loc_of (by assumption) rfl))
      refine EV.callT (g_int hW') (by boot_by_name) (loc_of (by assumption) rfl) ?_
      refine EVL.cons ?_
      refine EV.name rfl ?_ (loc_of (by assumption) rfl)
      refine EVL.nil ?_
      refine CallV.intSZ (p := p0) (by have := hil hsc; omega) ?_
      refine Then.next ?_
      refine WS.nil ?_
      refine Then.next ?_
      first
      | refine WS.forget [(Str.ofString "form", .form (frm eb fb)), (Str.ofString "body", .str (S u)), (Str.ofString "mantissa", .str (S (bf ++ 46 :: bh))), (Str.ofString "power", .int p0)] ⟨rfl, rfl, rfl, rfl, trivial⟩ ?_
      | refine WS.forget [(Str.ofString "form", .form (frm eb fb)), (Str.ofString "body", .str (S u)), (Str.ofString "mantissa", .str (S u)), (Str.ofString "power", .int 0)] ⟨rfl, rfl, rfl, rfl, trivial⟩ ?_
      refine WS.cons (WS1.unpack (NamesOf.cons (NamesOf.cons NamesOf.nil)) (locs_of (by assumption) (by decide)) ?_ )
      refine EV.callM (id := "str.split") (pl := ?pl5) (he := ?he5) (hp := ?hp5) (hc := ?hc5) ?hg5 ?_
      case he5 => rfl
      case hp5 => rfl
      case hc5 => rfl
      case hg5 => exact fun _ _ _ _ _ _ h => GM.split h
      refine EV.name rfl ?_ (loc_of (by assumption) rfl)
      refine ⟨_, rfl, ?_⟩
      refine EVL.cons ?_
      refine EV.strS (l := [46]) (by decide +kernel) ?_
      refine EVL.nil ?_
      refine CallV.splitE (a := bf) (b := bh) (c := 46) (by first | rfl | exact hu2 (hE0 h2)) (T.ad1.not (.inl (by decide))) (T.ad2.not (.inl (by decide))) (by first | (rw [hl2]; omega) | omega) ?_
      refine ⟨_, Seq.lst _, rfl, ?_⟩
      refine Then.next ?_
      refine WS.cons (WS1.asg ?_ (loc_of (by assumption) rfl))
      refine EV.callT (g_int hW') (by boot_by_name) (loc_of (by assumption) rfl) ?_
      refine EVL.cons ?_
      refine EV.bin ?_
      refine EV.name rfl ?_ (loc_of (by assumption) rfl)
      refine EV.name rfl ?_ (loc_of (by assumption) rfl)
      refine OpV.catS (by omega) ?_
      refine EVL.nil ?_
      refine CallV.intSS (T.ad1.append T.ad2) (by simp [T.n1]) (by rw [List.length_append]; omega) ?_
      rw [T.val]
      refine Then.next ?_
      refine WS.cons (WS1.aug rfl ?_ (loc_of (by assumption) rfl))
      refine EV.callB (g_len hW') (by boot_by_name) (loc_of (by assumption) rfl) ?_
      refine EVL.cons ?_
      refine EV.name rfl ?_ (loc_of (by assumption) rfl)
      refine EVL.nil ?_
      refine CallV.lenS' (by omega) ?_
      refine IopV.subE (c := P - (k : Int)) (by have h9 := T.pw; first | omega | (have h8 := T.p0z (hE0 h2); omega)) ?_
      refine Then.next ?_
      refine WS.forget ([(Str.ofString "form", .form (frm eb fb)), (Str.ofString "body", .str (S u)), (Str.ofString "before", .str (S bf)), (Str.ofString "behind", .str (S bh)), (Str.ofString "digits", .int ((d * 10 ^ k : Nat) : Int)), (Str.ofString "power", .int (P - ((k : Nat) : Int)))]) ⟨rfl, rfl, rfl, rfl, rfl, rfl, trivial⟩ ?_
      refine WS.cons (WS1.while (α := Nat) (fun j => [(Str.ofString "form", .form (frm eb fb)), (Str.ofString "body", .str (S u)), (Str.ofString "before", .str (S bf)), (Str.ofString "behind", .str (S bh)), (Str.ofString "digits", .int ((d * 10 ^ j : Nat) : Int)), (Str.ofString "power", .int (P - ((j : Nat) : Int)))]) (fun _ => σ) (fun _ => True) (fun j => j) k rfl rfl trivial ?_)
      intro j _
      refine TV.cmp ?_
      refine EV.bin ?_
      refine EV.name rfl ?_ (loc_of (by assumption) rfl)
      refine EV.intN (n := 10) rfl ?_
      refine OpV.fmodN (by decide) ?_
      refine EV.intN (n := 0) rfl ?_
      refine CmpV.eqN ?_
      refine ⟨_, rfl, ?_⟩
      refine ⟨fun h3 => ?_, fun h3 => ?_⟩
      · try simp only [decide_eq_true_eq, decide_eq_false_iff_not, Bool.not_eq_true', Bool.not_eq_false'] at h3
        first
        | obtain ⟨i, hi⟩ : ∃ i, j = i + 1 := ⟨j - 1, by
            rcases Nat.eq_zero_or_pos j with z | z
            · rw [z, Nat.pow_zero, Nat.mul_one] at h3; exact absurd h3 hd10
            · omega⟩
        subst hi
        refine WS.cons (WS1.aug rfl ?_ (loc_of (by assumption) rfl))
        refine EV.intN (n := 10) rfl ?_
        refine IopV.fdivE (c := d * 10 ^ i) (k := 4) (by rw [Nat.pow_succ, ← Nat.mul_assoc, Nat.mul_div_cancel _ (by decide)]) (by decide) (by decide) (by decide) ?_
        refine Then.next ?_
        refine WS.cons (WS1.aug rfl ?_ (loc_of (by assumption) rfl))
        refine EV.int ?_
        refine IopV.addE (c := P - (i : Int)) (by omega) ?_
        refine Then.next ?_
        refine WS.nil ?_
        exact ⟨i, rfl, rfl, trivial, Nat.lt_succ_self i⟩
      · try simp only [decide_eq_true_eq, decide_eq_false_iff_not, Bool.not_eq_true', Bool.not_eq_false'] at h3
        have hj : j = 0 := by
          rcases Nat.eq_zero_or_pos j with z | z
          · exact z
          · obtain ⟨i, hi⟩ : ∃ i, j = i + 1 := ⟨j - 1, by omega⟩
            rw [hi, Nat.pow_succ, ← Nat.mul_assoc, Nat.mul_mod_left] at h3
            exact absurd rfl h3
        subst hj
        refine Then.next ?_
        refine WS.cons (WS1.ret ?_)
        refine EV.tuple ?_
        refine EVL.cons ?_
        refine EV.name rfl ?_ (loc_of (by assumption) rfl)
        refine EVL.cons ?_
        refine EV.name rfl ?_ (loc_of (by assumption) rfl)
        refine EVL.cons ?_
        refine EV.name rfl ?_ (loc_of (by assumption) rfl)
        refine EVL.cons ?_
        refine EV.name rfl ?_ (loc_of (by assumption) rfl)
        refine EVL.cons ?_
        refine EV.cmp ?_
        refine EV.strS (l := [69]) (by decide +kernel) ?_
        refine EV.name rfl ?_ (loc_of (by assumption) rfl)
        refine CmpV.sinS ?_
        refine EVL.nil ?_
        refine ⟨by simp, ?_⟩
        rw [Nat.pow_zero, Nat.mul_one, show P - ((0 : Nat) : Int) = P from by omega, hE]
        exact q
    · try simp only [decide_eq_true_eq, decide_eq_false_iff_not, Bool.not_eq_true', Bool.not_eq_false'] at h2
      refine WS.nil ?_
      refine Then.next ?_
      first
      | refine WS.forget [(Str.ofString "form", .form (frm eb fb)), (Str.ofString "body", .str (S u)), (Str.ofString "mantissa", .str (S (bf ++ 46 :: bh))), (Str.ofString "power", .int p0)] ⟨rfl, rfl, rfl, rfl, trivial⟩ ?_
      | refine WS.forget [(Str.ofString "form", .form (frm eb fb)), (Str.ofString "body", .str (S u)), (Str.ofString "mantissa", .str (S u)), (Str.ofString "power", .int 0)] ⟨rfl, rfl, rfl, rfl, trivial⟩ ?_
      refine WS.cons (WS1.unpack (NamesOf.cons (NamesOf.cons NamesOf.nil)) (locs_of (by assumption) (by decide)) ?_ )
      refine EV.callM (id := "str.split") (pl := ?pl6) (he := ?he6) (hp := ?hp6) (hc := ?hc6) ?hg6 ?_
      case he6 => rfl
      case hp6 => rfl
      case hc6 => rfl
      case hg6 => exact fun _ _ _ _ _ _ h => GM.split h
      refine EV.name rfl ?_ (loc_of (by assumption) rfl)
      refine ⟨_, rfl, ?_⟩
      refine EVL.cons ?_
      refine EV.strS (l := [46]) (by decide +kernel) ?_
      refine EVL.nil ?_
      refine CallV.splitE (a := bf) (b := bh) (c := 46) (by first | rfl | exact hu2 (hE0 h2)) (T.ad1.not (.inl (by decide))) (T.ad2.not (.inl (by decide))) (by first | (rw [hl2]; omega) | omega) ?_
      refine ⟨_, Seq.lst _, rfl, ?_⟩
      refine Then.next ?_
      refine WS.cons (WS1.asg ?_ (loc_of (by assumption) rfl))
      refine EV.callT (g_int hW') (by boot_by_name) (loc_of (by assumption) rfl) ?_
      refine EVL.cons ?_
      refine EV.bin ?_
      refine EV.name rfl ?_ (loc_of (by assumption) rfl)
      refine EV.name rfl ?_ (loc_of (by assumption) rfl)
      refine OpV.catS (by omega) ?_
      refine EVL.nil ?_
      refine CallV.intSS (T.ad1.append T.ad2) (by simp [T.n1]) (by rw [List.length_append]; omega) ?_
      rw [T.val]
      refine Then.next ?_
      refine WS.cons (WS1.aug rfl ?_ (loc_of (by assumption) rfl))
      refine EV.callB (g_len hW') (by boot_by_name) (loc_of (by assumption) rfl) ?_
      refine EVL.cons ?_
      refine EV.name rfl ?_ (loc_of (by assumption) rfl)
      refine EVL.nil ?_
      refine CallV.lenS' (by omega) ?_
      refine IopV.subE (c := P - (k : Int)) (by have h9 := T.pw; first | omega | (have h8 := T.p0z (hE0 h2); omega)) ?_
      refine Then.next ?_
      refine WS.forget ([(Str.ofString "form", .form (frm eb fb)), (Str.ofString "body", .str (S u)), (Str.ofString "before", .str (S bf)), (Str.ofString "behind", .str (S bh)), (Str.ofString "digits", .int ((d * 10 ^ k : Nat) : Int)), (Str.ofString "power", .int (P - ((k : Nat) : Int)))]) ⟨rfl, rfl, rfl, rfl, rfl, rfl, trivial⟩ ?_
      refine WS.cons (WS1.while (α := Nat) (fun j => [(Str.ofString "form", .form (frm eb fb)), (Str.ofString "body", .str (S u)), (Str.ofString "before", .str (S bf)), (Str.ofString "behind", .str (S bh)), (Str.ofString "digits", .int ((d * 10 ^ j : Nat) : Int)), (Str.ofString "power", .int (P - ((j : Nat) : Int)))]) (fun _ => σ) (fun _ => True) (fun j => j) k rfl rfl trivial ?_)
      intro j _
      refine TV.cmp ?_
      refine EV.bin ?_
      refine EV.name rfl ?_ (loc_of (by assumption) rfl)
      refine EV.intN (n := 10) rfl ?_
      refine OpV.fmodN (by decide) ?_
      refine EV.intN (n := 0) rfl ?_
      refine CmpV.eqN ?_
      refine ⟨_, rfl, ?_⟩
      refine ⟨fun h3 => ?_, fun h3 => ?_⟩
      · try simp only [decide_eq_true_eq, decide_eq_false_iff_not, Bool.not_eq_true', Bool.not_eq_false'] at h3
        first
        | obtain ⟨i, hi⟩ : ∃ i, j = i + 1 := ⟨j - 1, by
            rcases Nat.eq_zero_or_pos j with z | z
            · rw [z, Nat.pow_zero, Nat.mul_one] at h3; exact absurd h3 hd10
            · omega⟩
        subst hi
        refine WS.cons (WS1.aug rfl ?_ (loc_of (by assumption) rfl))
        refine EV.intN (n := 10) rfl ?_
        refine IopV.fdivE (c := d * 10 ^ i) (k := 4) (by rw [Nat.pow_succ, ← Nat.mul_assoc, Nat.mul_div_cancel _ (by decide)]) (by decide) (by decide) (by decide) ?_
        refine Then.next ?_
        refine WS.cons (WS1.aug rfl ?_ (loc_of (by assumption) rfl))
        refine EV.int ?_
        refine IopV.addE (c := P - (i : Int)) (by omega) ?_
        refine Then.next ?_
        refine WS.nil ?_
        exact ⟨i, rfl, rfl, trivial, Nat.lt_succ_self i⟩
      · try simp only [decide_eq_true_eq, decide_eq_false_iff_not, Bool.not_eq_true', Bool.not_eq_false'] at h3
        have hj : j = 0 := by
          rcases Nat.eq_zero_or_pos j with z | z
          · exact z
          · obtain ⟨i, hi⟩ : ∃ i, j = i + 1 := ⟨j - 1, by omega⟩
            rw [hi, Nat.pow_succ, ← Nat.mul_assoc, Nat.mul_mod_left] at h3
            exact absurd rfl h3
        subst hj
        refine Then.next ?_
        refine WS.cons (WS1.ret ?_)
        refine EV.tuple ?_
        refine EVL.cons ?_
        refine EV.name rfl ?_ (loc_of (by assumption) rfl)
        refine EVL.cons ?_
        refine EV.name rfl ?_ (loc_of (by assumption) rfl)
        refine EVL.cons ?_
        refine EV.name rfl ?_ (loc_of (by assumption) rfl)
        refine EVL.cons ?_
        refine EV.name rfl ?_ (loc_of (by assumption) rfl)
        refine EVL.cons ?_
        refine EV.cmp ?_
        refine EV.strS (l := [69]) (by decide +kernel) ?_
        refine EV.name rfl ?_ (loc_of (by assumption) rfl)
        refine CmpV.sinS ?_
        refine EVL.nil ?_
        refine ⟨by simp, ?_⟩
        rw [Nat.pow_zero, Nat.mul_one, show P - ((0 : Nat) : Int) = P from by omega, hE]
        exact q

theorem law_shortest_ (hW : IsW X.W) (hd : 3 ≤ X.d) (hF : OkF eb fb) {size d : Nat} {P : Int} (hs0 : 0 < size) (hst : size < (2 ^ eb - 1) * 2 ^ fb) (hsd : SDok fb (E0 eb fb) size d P) (hdb : d < 2 ^ 950) (hP1 : -151 ≤ P) (hP2 : P ≤ 1600)
    (q : Q (.bool true) σ) : CallV X (.ref 275) [.form (frm eb fb), .int (size : Int), .int (d : Int), .int P] σ Q := by
  refine CallV.def hW.K ["form", "size", "digits", "power"] 2 rfl rfl (bind4 _ _ _ _ (fun _ _ _ _ => rfl)) (by decide) (by decide) (by omega) (by decide) rfl rfl rfl ?_
  intro X' e1 e2 e3
  have hW' : IsW X'.W := e1 ▸ hW
  clear hW
  have hc0 := hsd.cand
  have hd0 := hsd.pos
  have hnear := hsd.near
  have hfew := hsd.few
  have hl3 : (digM d).length ≤ 300 := (plc_bd hdb hP1 hP2).1
  have h960 : (2 : Nat) ^ 960 = 1024 * 2 ^ 950 := by decide
  have h10 : ¬ (digM d).length = 1 → 10 ≤ d := fun h => by
    rcases Nat.lt_or_ge d 10 with z | z
    · rw [dig_small z] at h; exact absurd rfl h
    · exact z
  unfold Cd at hc0 hnear hfew
  have hE := E0_le hF
  have hu2 := un_bd (fb := fb) hF.h2 (by have := hF.h1; omega) hF.h4 (show size ≤ _ by omega)
  have hDb : Bd 16001 ((10 ^ (-P).toNat : Nat) : Int) := p10_bd (by omega)
  have hoff : ∀ g, g < 2 ^ 960 → Bd 18100 ((2 * dst (un fb size * 10 ^ (-P).toNat) (g * 10 ^ P.toNat * 2 ^ E0 eb fb) : Nat) : Int) := fun g hg => by
    have b1 : Bd 18000 ((un fb size * 10 ^ (-P).toNat : Nat) : Int) := ((Bd.nat (k := 300) (Nat.lt_of_le_of_lt hu2 (Nat.pow_lt_pow_right (by decide) (by decide)))).mulN hDb).mono (by decide)
    have b2 : Bd 18000 ((g * 10 ^ P.toNat * 2 ^ E0 eb fb : Nat) : Int) := (((Bd.nat (k := 960) hg).mulN (p10_bd (n := P.toNat) (by omega))).mulN (pow2_bd (n := E0 eb fb) (by omega))).mono (by decide)
    exact dst_bd b1.lt b2.lt
  refine WS.cons (WS1.asg ?_ (loc_of (by assumption) rfl))
  refine EV.callB (g_len hW') (by boot_by_name) (loc_of (by assumption) rfl) ?_
  refine EVL.cons ?_
  refine EV.callT (g_str hW') (by boot_by_name) (loc_of (by assumption) rfl) ?_
  refine EVL.cons ?_
  refine EV.name rfl ?_ (loc_of (by assumption) rfl)
  refine EVL.nil ?_
  refine CallV.strN (k := 950) (Bd.nat hdb) (by decide) ?_
  refine EVL.nil ?_
  refine CallV.lenS' (by omega) ?_
  refine Then.next ?_
  refine WS.cons (WS1.unpack (NamesOf.cons (NamesOf.cons (NamesOf.cons NamesOf.nil))) (locs_of (by assumption) (by decide)) ?_ )
  refine EV.callF (g_law_side hW') (k_law_side hW') (loc_of (by assumption) rfl) ?_
  refine EVL.cons ?_
  refine EV.name rfl ?_ (loc_of (by assumption) rfl)
  refine EVL.cons ?_
  refine EV.name rfl ?_ (loc_of (by assumption) rfl)
  refine EVL.cons ?_
  refine EV.name rfl ?_ (loc_of (by assumption) rfl)
  refine EVL.cons ?_
  refine EV.name rfl ?_ (loc_of (by assumption) rfl)
  refine EVL.nil ?_
  refine law_side_ (g := d) (p := P) hW' (by omega) hF hs0 hst (by omega) (by omega) (by omega) ?_
  rw [insB_iff.mpr hc0]
  refine ⟨_, Seq.tup _, rfl, ?_⟩
  refine Then.next ?_
  refine WS.cons (WS1.iteF ?_ ?_)
  · refine TV.not ?_
    refine TV.plain ?_
    refine EV.name rfl ?_ (loc_of (by assumption) rfl)
    refine TrV.bool ?_
    refine ⟨Bool.eq_false_iff.mpr fun hlast => ?_, rfl⟩
    try simp only [decide_eq_true_eq, Bool.not_eq_true'] at hlast
    first | contradiction | exact absurd hlast (by decide)
  refine Then.next ?_
  refine WS.cons (WS1.for ?_ (loc_of (by assumption) rfl))
  refine EV.tuple ?_
  refine EVL.cons ?_
  refine EV.bin ?_
  refine EV.name rfl ?_ (loc_of (by assumption) rfl)
  refine EV.intN (n := 1) rfl ?_
  refine OpV.subN hd0 ?_
  refine EVL.cons ?_
  refine EV.bin ?_
  refine EV.name rfl ?_ (loc_of (by assumption) rfl)
  refine EV.intN (n := 1) rfl ?_
  refine OpV.addN ?_
  refine EVL.nil ?_
  refine ⟨by simp, ?_⟩
  refine ⟨_, Itr.tup _, ?_⟩
  refine FL.cons ?_
  refine WS.forget [(Str.ofString "form", .form (frm eb fb)), (Str.ofString "size", .int (size : Int)), (Str.ofString "digits", .int (d : Int)), (Str.ofString "power", .int P), (Str.ofString "figures", .int ((digM d).length : Int)), (Str.ofString "away", .int ((2 * dst (un fb size * 10 ^ (-P).toNat) (d * 10 ^ P.toNat * 2 ^ E0 eb fb) : Nat) : Int)), (Str.ofString "scale", .int ((10 ^ (-P).toNat : Nat) : Int)), (Str.ofString "other", _)] ⟨rfl, rfl, rfl, rfl, rfl, rfl, rfl, rfl, trivial⟩ ?_
  refine WS.cons (WS1.unpack (NamesOf.cons (NamesOf.cons (NamesOf.cons NamesOf.nil))) (locs_of (by assumption) (by decide)) ?_ )
  refine EV.callF (g_law_side hW') (k_law_side hW') (loc_of (by assumption) rfl) ?_
  refine EVL.cons ?_
  refine EV.name rfl ?_ (loc_of (by assumption) rfl)
  refine EVL.cons ?_
  refine EV.name rfl ?_ (loc_of (by assumption) rfl)
  refine EVL.cons ?_
  refine EV.name rfl ?_ (loc_of (by assumption) rfl)
  refine EVL.cons ?_
  refine EV.name rfl ?_ (loc_of (by assumption) rfl)
  refine EVL.nil ?_
  first
  | refine law_side_ (g := d - 1) (p := P) hW' (by omega) hF hs0 hst (by omega) (by omega) (by omega) ?_
  | refine law_side_ (g := d + 1) (p := P) hW' (by omega) hF hs0 hst (by omega) (by omega) (by omega) ?_
  refine ⟨_, Seq.tup _, rfl, ?_⟩
  refine Then.next ?_
  refine WS.cons (WS1.iteF ?_ ?_)
  · refine TV.and ?_
    refine TV.cmp ?_
    refine EV.name rfl ?_ (loc_of (by assumption) rfl)
    refine EV.intN (n := 0) rfl ?_
    refine CmpV.gtN ?_
    refine ⟨_, rfl, ?_⟩
    refine ⟨fun h1 => ?_, fun h1 => ?_⟩
    · try simp only [decide_eq_true_eq, decide_eq_false_iff_not, Bool.not_eq_true', Bool.not_eq_false'] at h1
      refine TV.and ?_
      refine TV.plain ?_
      refine EV.name rfl ?_ (loc_of (by assumption) rfl)
      refine TrV.bool ?_
      refine ⟨fun h2 => ?_, fun h2 => ?_⟩
      · try simp only [decide_eq_true_eq, decide_eq_false_iff_not, Bool.not_eq_true', Bool.not_eq_false'] at h2
        refine TV.and ?_
        refine TV.cmp ?_
        refine EV.bin ?_
        refine EV.name rfl ?_ (loc_of (by assumption) rfl)
        refine EV.name rfl ?_ (loc_of (by assumption) rfl)
        refine OpV.mulB (k := 18100) (j := 16001) (by first | exact hoff (d - 1) (by omega) | exact hoff (d + 1) (by omega)) (p10_bd (by omega)) (by decide) (by decide) ?_
        refine EV.bin ?_
        refine EV.name rfl ?_ (loc_of (by assumption) rfl)
        refine EV.name rfl ?_ (loc_of (by assumption) rfl)
        refine OpV.mulB (k := 18100) (j := 16001) (hoff d (by omega)) (p10_bd (by omega)) (by decide) (by decide) ?_
        refine CmpV.ltN ?_
        refine ⟨_, rfl, ?_⟩
        refine ⟨fun h3 => ?_, fun h3 => ?_⟩
        · try simp only [decide_eq_true_eq, decide_eq_false_iff_not, Bool.not_eq_true', Bool.not_eq_false'] at h3
          refine TV.and_nil ?_
          exfalso
          first
          | exact hnear (d - 1) (.inr (by omega)) (by assumption) (insB_iff.mp (by assumption)) (lt2 (D := 10 ^ (-P).toNat) (by assumption))
          | exact hnear (d + 1) (.inl rfl) (by omega) (insB_iff.mp (by assumption)) (lt2 (D := 10 ^ (-P).toNat) (by assumption))
        · try simp only [decide_eq_true_eq, decide_eq_false_iff_not, Bool.not_eq_true', Bool.not_eq_false'] at h3
          exact ⟨rfl, rfl⟩
      · try simp only [decide_eq_true_eq, decide_eq_false_iff_not, Bool.not_eq_true', Bool.not_eq_false'] at h2
        exact ⟨rfl, rfl⟩
    · try simp only [decide_eq_true_eq, decide_eq_false_iff_not, Bool.not_eq_true', Bool.not_eq_false'] at h1
      exact ⟨rfl, rfl⟩
  refine Then.next ?_
  refine WS.nil ?_
  refine FLQ.next ?_
  refine FL.cons ?_
  refine WS.forget [(Str.ofString "form", .form (frm eb fb)), (Str.ofString "size", .int (size : Int)), (Str.ofString "digits", .int (d : Int)), (Str.ofString "power", .int P), (Str.ofString "figures", .int ((digM d).length : Int)), (Str.ofString "away", .int ((2 * dst (un fb size * 10 ^ (-P).toNat) (d * 10 ^ P.toNat * 2 ^ E0 eb fb) : Nat) : Int)), (Str.ofString "scale", .int ((10 ^ (-P).toNat : Nat) : Int)), (Str.ofString "other", _)] ⟨rfl, rfl, rfl, rfl, rfl, rfl, rfl, rfl, trivial⟩ ?_
  refine WS.cons (WS1.unpack (NamesOf.cons (NamesOf.cons (NamesOf.cons NamesOf.nil))) (locs_of (by assumption) (by decide)) ?_ )
  refine EV.callF (g_law_side hW') (k_law_side hW') (loc_of (by assumption) rfl) ?_
  refine EVL.cons ?_
  refine EV.name rfl ?_ (loc_of (by assumption) rfl)
  refine EVL.cons ?_
  refine EV.name rfl ?_ (loc_of (by assumption) rfl)
  refine EVL.cons ?_
  refine EV.name rfl ?_ (loc_of (by assumption) rfl)
  refine EVL.cons ?_
  refine EV.name rfl ?_ (loc_of (by assumption) rfl)
  refine EVL.nil ?_
  first
  | refine law_side_ (g := d - 1) (p := P) hW' (by omega) hF hs0 hst (by omega) (by omega) (by omega) ?_
  | refine law_side_ (g := d + 1) (p := P) hW' (by omega) hF hs0 hst (by omega) (by omega) (by omega) ?_
  refine ⟨_, Seq.tup _, rfl, ?_⟩
  refine Then.next ?_
  refine WS.cons (WS1.iteF ?_ ?_)
  · refine TV.and ?_
    refine TV.cmp ?_
    refine EV.name rfl ?_ (loc_of (by assumption) rfl)
    refine EV.intN (n := 0) rfl ?_
    refine CmpV.gtN ?_
    refine ⟨_, rfl, ?_⟩
    refine ⟨fun h1 => ?_, fun h1 => ?_⟩
    · try simp only [decide_eq_true_eq, decide_eq_false_iff_not, Bool.not_eq_true', Bool.not_eq_false'] at h1
      refine TV.and ?_
      refine TV.plain ?_
      refine EV.name rfl ?_ (loc_of (by assumption) rfl)
      refine TrV.bool ?_
      refine ⟨fun h2 => ?_, fun h2 => ?_⟩
      · try simp only [decide_eq_true_eq, decide_eq_false_iff_not, Bool.not_eq_true', Bool.not_eq_false'] at h2
        refine TV.and ?_
        refine TV.cmp ?_
        refine EV.bin ?_
        refine EV.name rfl ?_ (loc_of (by assumption) rfl)
        refine EV.name rfl ?_ (loc_of (by assumption) rfl)
        refine OpV.mulB (k := 18100) (j := 16001) (by first | exact hoff (d - 1) (by omega) | exact hoff (d + 1) (by omega)) (p10_bd (by omega)) (by decide) (by decide) ?_
        refine EV.bin ?_
        refine EV.name rfl ?_ (loc_of (by assumption) rfl)
        refine EV.name rfl ?_ (loc_of (by assumption) rfl)
        refine OpV.mulB (k := 18100) (j := 16001) (hoff d (by omega)) (p10_bd (by omega)) (by decide) (by decide) ?_
        refine CmpV.ltN ?_
        refine ⟨_, rfl, ?_⟩
        refine ⟨fun h3 => ?_, fun h3 => ?_⟩
        · try simp only [decide_eq_true_eq, decide_eq_false_iff_not, Bool.not_eq_true', Bool.not_eq_false'] at h3
          refine TV.and_nil ?_
          exfalso
          first
          | exact hnear (d - 1) (.inr (by omega)) (by assumption) (insB_iff.mp (by assumption)) (lt2 (D := 10 ^ (-P).toNat) (by assumption))
          | exact hnear (d + 1) (.inl rfl) (by omega) (insB_iff.mp (by assumption)) (lt2 (D := 10 ^ (-P).toNat) (by assumption))
        · try simp only [decide_eq_true_eq, decide_eq_false_iff_not, Bool.not_eq_true', Bool.not_eq_false'] at h3
          exact ⟨rfl, rfl⟩
      · try simp only [decide_eq_true_eq, decide_eq_false_iff_not, Bool.not_eq_true', Bool.not_eq_false'] at h2
        exact ⟨rfl, rfl⟩
    · try simp only [decide_eq_true_eq, decide_eq_false_iff_not, Bool.not_eq_true', Bool.not_eq_false'] at h1
      exact ⟨rfl, rfl⟩
  refine Then.next ?_
  refine WS.nil ?_
  refine FLQ.next ?_
  refine FL.nil ?_
  refine Then.next ?_
  refine WS.forget [(Str.ofString "form", .form (frm eb fb)), (Str.ofString "size", .int (size : Int)), (Str.ofString "digits", .int (d : Int)), (Str.ofString "power", .int P), (Str.ofString "figures", .int ((digM d).length : Int))] ⟨rfl, rfl, rfl, rfl, rfl, trivial⟩ ?_
  refine WS.cons (WS1.ite ?_)
  refine TV.cmp ?_
  refine EV.name rfl ?_ (loc_of (by assumption) rfl)
  refine EV.intN (n := 1) rfl ?_
  refine CmpV.eqN ?_
  refine ⟨_, rfl, ?_⟩
  refine ⟨fun h1 => ?_, fun h1 => ?_⟩
  · try simp only [decide_eq_true_eq, decide_eq_false_iff_not, Bool.not_eq_true', Bool.not_eq_false'] at h1
    refine WS.cons (WS1.ret ?_)
    refine EV.bool ?_
    exact q
  · try simp only [decide_eq_true_eq, decide_eq_false_iff_not, Bool.not_eq_true', Bool.not_eq_false'] at h1
    refine WS.nil ?_
    refine Then.next ?_
    refine WS.cons (WS1.for ?_ (loc_of (by assumption) rfl))
    refine EV.callT (g_range hW') (by boot_by_name) (loc_of (by assumption) rfl) ?_
    refine EVL.cons ?_
    refine EV.un ?_
    refine EV.int ?_
    refine UnV.neg ?_
    refine EVL.cons ?_
    refine EV.int ?_
    refine EVL.nil ?_
    refine CallV.range2 ?_
    refine ⟨[.int (-1), .int 0, .int 1], Itr.rng (-1) 2 (by decide) (by decide) (by decide), ?_⟩
    refine FL.cons ?_
    refine WS.forget [(Str.ofString "form", .form (frm eb fb)), (Str.ofString "size", .int (size : Int)), (Str.ofString "digits", .int (d : Int)), (Str.ofString "power", .int P), (Str.ofString "figures", .int ((digM d).length : Int)), (Str.ofString "step", _)] ⟨rfl, rfl, rfl, rfl, rfl, rfl, trivial⟩ ?_
    refine WS.cons (WS1.asg ?_ (loc_of (by assumption) rfl))
    refine EV.bin ?_
    refine EV.bin ?_
    refine EV.name rfl ?_ (loc_of (by assumption) rfl)
    refine EV.intN (n := 10) rfl ?_
    refine OpV.fdivN (k := 4) (by decide) (by decide) (by decide) ?_
    refine EV.name rfl ?_ (loc_of (by assumption) rfl)
    refine OpV.add ?_
    refine Then.next ?_
    refine WS.cons (WS1.iteF ?_ ?_)
    · refine TV.and ?_
      refine TV.cmp ?_
      refine EV.name rfl ?_ (loc_of (by assumption) rfl)
      refine EV.int ?_
      refine CmpV.gt ?_
      refine ⟨_, rfl, ?_⟩
      refine ⟨fun h2 => ?_, fun h2 => ?_⟩
      · try simp only [decide_eq_true_eq, decide_eq_false_iff_not, Bool.not_eq_true', Bool.not_eq_false'] at h2
        refine TV.and ?_
        refine TV.plain ?_
        refine EV.sub ?_
        refine EV.callF (g_law_side hW') (k_law_side hW') (loc_of (by assumption) rfl) ?_
        refine EVL.cons ?_
        refine EV.name rfl ?_ (loc_of (by assumption) rfl)
        refine EVL.cons ?_
        refine EV.name rfl ?_ (loc_of (by assumption) rfl)
        refine EVL.cons ?_
        refine EV.name rfl ?_ (loc_of (by assumption) rfl)
        refine EVL.cons ?_
        refine EV.bin ?_
        refine EV.name rfl ?_ (loc_of (by assumption) rfl)
        refine EV.int ?_
        refine OpV.add ?_
        refine EVL.nil ?_
        first
        | (rw [show ((d / 10 : Nat) : Int) + -1 = ((d / 10 - 1 : Nat) : Int) from by omega]; refine law_side_ (g := d / 10 - 1) (p := P + 1) hW' (by omega) hF hs0 hst (by omega) (by omega) (by omega) ?_)
        | (rw [show ((d / 10 : Nat) : Int) + 0 = ((d / 10 : Nat) : Int) from by omega]; refine law_side_ (g := d / 10) (p := P + 1) hW' (by omega) hF hs0 hst (by omega) (by omega) (by omega) ?_)
        | (rw [show ((d / 10 : Nat) : Int) + 1 = ((d / 10 + 1 : Nat) : Int) from by omega]; refine law_side_ (g := d / 10 + 1) (p := P + 1) hW' (by omega) hF hs0 hst (by omega) (by omega) (by omega) ?_)
        refine EV.int ?_
        refine SubV.tup (by decide) (by decide) rfl ?_
        refine TrV.bool ?_
        refine ⟨fun h3 => ?_, fun h3 => ?_⟩
        · try simp only [decide_eq_true_eq, decide_eq_false_iff_not, Bool.not_eq_true', Bool.not_eq_false'] at h3
          refine TV.and_nil ?_
          exfalso
          first
          | exact hfew (h10 (by assumption)) (d / 10 - 1) (.inl (by omega)) (by omega) (insB_iff.mp (by assumption))
          | exact hfew (h10 (by assumption)) (d / 10) (.inr (.inl rfl)) (by omega) (insB_iff.mp (by assumption))
          | exact hfew (h10 (by assumption)) (d / 10 + 1) (.inr (.inr rfl)) (by omega) (insB_iff.mp (by assumption))
        · try simp only [decide_eq_true_eq, decide_eq_false_iff_not, Bool.not_eq_true', Bool.not_eq_false'] at h3
          exact ⟨rfl, rfl⟩
      · try simp only [decide_eq_true_eq, decide_eq_false_iff_not, Bool.not_eq_true', Bool.not_eq_false'] at h2
        exact ⟨rfl, rfl⟩
    refine Then.next ?_
    refine WS.nil ?_
    refine FLQ.next ?_
    refine FL.cons ?_
    refine WS.forget [(Str.ofString "form", .form (frm eb fb)), (Str.ofString "size", .int (size : Int)), (Str.ofString "digits", .int (d : Int)), (Str.ofString "power", .int P), (Str.ofString "figures", .int ((digM d).length : Int)), (Str.ofString "step", _)] ⟨rfl, rfl, rfl, rfl, rfl, rfl, trivial⟩ ?_
    refine WS.cons (WS1.asg ?_ (loc_of (by assumption) rfl))
    refine EV.bin ?_
    refine EV.bin ?_
    refine EV.name rfl ?_ (loc_of (by assumption) rfl)
    refine EV.intN (n := 10) rfl ?_
    refine OpV.fdivN (k := 4) (by decide) (by decide) (by decide) ?_
    refine EV.name rfl ?_ (loc_of (by assumption) rfl)
    refine OpV.add ?_
    refine Then.next ?_
    refine WS.cons (WS1.iteF ?_ ?_)
    · refine TV.and ?_
      refine TV.cmp ?_
      refine EV.name rfl ?_ (loc_of (by assumption) rfl)
      refine EV.int ?_
      refine CmpV.gt ?_
      refine ⟨_, rfl, ?_⟩
      refine ⟨fun h2 => ?_, fun h2 => ?_⟩
      · try simp only [decide_eq_true_eq, decide_eq_false_iff_not, Bool.not_eq_true', Bool.not_eq_false'] at h2
        refine TV.and ?_
        refine TV.plain ?_
        refine EV.sub ?_
        refine EV.callF (g_law_side hW') (k_law_side hW') (loc_of (by assumption) rfl) ?_
        refine EVL.cons ?_
        refine EV.name rfl ?_ (loc_of (by assumption) rfl)
        refine EVL.cons ?_
        refine EV.name rfl ?_ (loc_of (by assumption) rfl)
        refine EVL.cons ?_
        refine EV.name rfl ?_ (loc_of (by assumption) rfl)
        refine EVL.cons ?_
        refine EV.bin ?_
        refine EV.name rfl ?_ (loc_of (by assumption) rfl)
        refine EV.int ?_
        refine OpV.add ?_
        refine EVL.nil ?_
        first
        | (rw [show ((d / 10 : Nat) : Int) + -1 = ((d / 10 - 1 : Nat) : Int) from by omega]; refine law_side_ (g := d / 10 - 1) (p := P + 1) hW' (by omega) hF hs0 hst (by omega) (by omega) (by omega) ?_)
        | (rw [show ((d / 10 : Nat) : Int) + 0 = ((d / 10 : Nat) : Int) from by omega]; refine law_side_ (g := d / 10) (p := P + 1) hW' (by omega) hF hs0 hst (by omega) (by omega) (by omega) ?_)
        | (rw [show ((d / 10 : Nat) : Int) + 1 = ((d / 10 + 1 : Nat) : Int) from by omega]; refine law_side_ (g := d / 10 + 1) (p := P + 1) hW' (by omega) hF hs0 hst (by omega) (by omega) (by omega) ?_)
        refine EV.int ?_
        refine SubV.tup (by decide) (by decide) rfl ?_
        refine TrV.bool ?_
        refine ⟨fun h3 => ?_, fun h3 => ?_⟩
        · try simp only [decide_eq_true_eq, decide_eq_false_iff_not, Bool.not_eq_true', Bool.not_eq_false'] at h3
          refine TV.and_nil ?_
          exfalso
          first
          | exact hfew (h10 (by assumption)) (d / 10 - 1) (.inl (by omega)) (by omega) (insB_iff.mp (by assumption))
          | exact hfew (h10 (by assumption)) (d / 10) (.inr (.inl rfl)) (by omega) (insB_iff.mp (by assumption))
          | exact hfew (h10 (by assumption)) (d / 10 + 1) (.inr (.inr rfl)) (by omega) (insB_iff.mp (by assumption))
        · try simp only [decide_eq_true_eq, decide_eq_false_iff_not, Bool.not_eq_true', Bool.not_eq_false'] at h3
          exact ⟨rfl, rfl⟩
      · try simp only [decide_eq_true_eq, decide_eq_false_iff_not, Bool.not_eq_true', Bool.not_eq_false'] at h2
        exact ⟨rfl, rfl⟩
    refine Then.next ?_
    refine WS.nil ?_
    refine FLQ.next ?_
    refine FL.cons ?_
    refine WS.forget [(Str.ofString "form", .form (frm eb fb)), (Str.ofString "size", .int (size : Int)), (Str.ofString "digits", .int (d : Int)), (Str.ofString "power", .int P), (Str.ofString "figures", .int ((digM d).length : Int)), (Str.ofString "step", _)] ⟨rfl, rfl, rfl, rfl, rfl, rfl, trivial⟩ ?_
    refine WS.cons (WS1.asg ?_ (loc_of (by assumption) rfl))
    refine EV.bin ?_
    refine EV.bin ?_
    refine EV.name rfl ?_ (loc_of (by assumption) rfl)
    refine EV.intN (n := 10) rfl ?_
    refine OpV.fdivN (k := 4) (by decide) (by decide) (by decide) ?_
    refine EV.name rfl ?_ (loc_of (by assumption) rfl)
    refine OpV.add ?_
    refine Then.next ?_
    refine WS.cons (WS1.iteF ?_ ?_)
    · refine TV.and ?_
      refine TV.cmp ?_
      refine EV.name rfl ?_ (loc_of (by assumption) rfl)
      refine EV.int ?_
      refine CmpV.gt ?_
      refine ⟨_, rfl, ?_⟩
      refine ⟨fun h2 => ?_, fun h2 => ?_⟩
      · try simp only [decide_eq_true_eq, decide_eq_false_iff_not, Bool.not_eq_true', Bool.not_eq_false'] at h2
        refine TV.and ?_
        refine TV.plain ?_
        refine EV.sub ?_
        refine EV.callF (g_law_side hW') (k_law_side hW') (loc_of (by assumption) rfl) ?_
        refine EVL.cons ?_
        refine EV.name rfl ?_ (loc_of (by assumption) rfl)
        refine EVL.cons ?_
        refine EV.name rfl ?_ (loc_of (by assumption) rfl)
        refine EVL.cons ?_
        refine EV.name rfl ?_ (loc_of (by assumption) rfl)
        refine EVL.cons ?_
        refine EV.bin ?_
        refine EV.name rfl ?_ (loc_of (by assumption) rfl)
        refine EV.int ?_
        refine OpV.add ?_
        refine EVL.nil ?_
        first
        | (rw [show ((d / 10 : Nat) : Int) + -1 = ((d / 10 - 1 : Nat) : Int) from by omega]; refine law_side_ (g := d / 10 - 1) (p := P + 1) hW' (by omega) hF hs0 hst (by omega) (by omega) (by omega) ?_)
        | (rw [show ((d / 10 : Nat) : Int) + 0 = ((d / 10 : Nat) : Int) from by omega]; refine law_side_ (g := d / 10) (p := P + 1) hW' (by omega) hF hs0 hst (by omega) (by omega) (by omega) ?_)
        | (rw [show ((d / 10 : Nat) : Int) + 1 = ((d / 10 + 1 : Nat) : Int) from by omega]; refine law_side_ (g := d / 10 + 1) (p := P + 1) hW' (by omega) hF hs0 hst (by omega) (by omega) (by omega) ?_)
        refine EV.int ?_
        refine SubV.tup (by decide) (by decide) rfl ?_
        refine TrV.bool ?_
        refine ⟨fun h3 => ?_, fun h3 => ?_⟩
        · try simp only [decide_eq_true_eq, decide_eq_false_iff_not, Bool.not_eq_true', Bool.not_eq_false'] at h3
          refine TV.and_nil ?_
          exfalso
          first
          | exact hfew (h10 (by assumption)) (d / 10 - 1) (.inl (by omega)) (by omega) (insB_iff.mp (by assumption))
          | exact hfew (h10 (by assumption)) (d / 10) (.inr (.inl rfl)) (by omega) (insB_iff.mp (by assumption))
          | exact hfew (h10 (by assumption)) (d / 10 + 1) (.inr (.inr rfl)) (by omega) (insB_iff.mp (by assumption))
        · try simp only [decide_eq_true_eq, decide_eq_false_iff_not, Bool.not_eq_true', Bool.not_eq_false'] at h3
          exact ⟨rfl, rfl⟩
      · try simp only [decide_eq_true_eq, decide_eq_false_iff_not, Bool.not_eq_true', Bool.not_eq_false'] at h2
        exact ⟨rfl, rfl⟩
    refine Then.next ?_
    refine WS.nil ?_
    refine FLQ.next ?_
    refine FL.nil ?_
    refine Then.next ?_
    refine WS.cons (WS1.ret ?_)
    refine EV.bool ?_
    exact q

end
end Mine

set_option exponentiation.threshold 17000
set_option maxHeartbeats 4000000
namespace Mine
theorem as_set {W : Wx} (h : IsW W) : findIn W.K (.ref 31) "__setattr__" = some (some (.builtin "object.__setattr__")) := by rw [h.K]; kernel_rfl
theorem as_over {W : Wx} (h : IsW W) : plainOver W.K 31 = true := by rw [h.K]; kernel_rfl
theorem as_dict {W : Wx} (h : IsW W) : hasDictIn W.K 31 = true := by rw [h.K]; kernel_rfl

theorem as_exponent_bits {W : Wx} (h : IsW W) : takerIn W.K 31 (Str.ofString "exponent_bits") = some none := by rw [h.K]; kernel_rfl
theorem as_fraction_bits {W : Wx} (h : IsW W) : takerIn W.K 31 (Str.ofString "fraction_bits") = some none := by rw [h.K]; kernel_rfl
theorem as_bias {W : Wx} (h : IsW W) : takerIn W.K 31 (Str.ofString "bias") = some none := by rw [h.K]; kernel_rfl
theorem as_top {W : Wx} (h : IsW W) : takerIn W.K 31 (Str.ofString "top") = some none := by rw [h.K]; kernel_rfl
theorem as_hidden {W : Wx} (h : IsW W) : takerIn W.K 31 (Str.ofString "hidden") = some none := by rw [h.K]; kernel_rfl
theorem as_least {W : Wx} (h : IsW W) : takerIn W.K 31 (Str.ofString "least") = some none := by rw [h.K]; kernel_rfl
theorem as_get {W : Wx} (h : IsW W) : plainGet W.K 31 (Str.ofString "bias") = true := by rw [h.K]; kernel_rfl
theorem as_bias0 {W : Wx} (h : IsW W) : findIn W.K (.ref 31) (Str.ofString "bias") = some none := by rw [h.K]; kernel_rfl
section
variable {X : Fx} {σ : Led} {ρ : Loc} {Q : PV → Led → Prop} {eb fb : Nat}

theorem OpV.shlO {n : Nat} (hn : n ≤ 1000000) (q : Q (.int ((2 ^ n : Nat) : Int)) σ) : OpV X .LShift (.int ((1 : Nat) : Int)) (.int (n : Int)) σ Q := OpV.shlN (a := 1) (k := 1) hn (by decide) (by decide) (by rw [Nat.one_mul]; exact q)
theorem RealForm_ (hW : IsW X.W) (hd : 2 ≤ X.d) (hF : OkF eb fb) (q : Q (.form (frm eb fb)) σ) : CallV X (.ref 31) [.int (eb : Int), .int (fb : Int)] σ Q := by
  have hleast : (1 : Int) - ((2 ^ (eb - 1) - 1 : Nat) : Int) - (fb : Int) = -(E0 eb fb : Int) := by
    unfold E0
    have h2 : 2 ^ 1 ≤ 2 ^ (eb - 1) := Nat.pow_le_pow_right (by decide) (by have := hF.h1; omega)
    generalize 2 ^ (eb - 1) = z at *
    omega
  refine CallV.make (f := 28) hW.K hW.C.symm ["self", "exponent_bits", "fraction_bits"] 0 (by kernel_rfl) (by kernel_rfl) (by kernel_rfl) rfl rfl (fun p => bind3 _ _ _ (fun _ _ _ => rfl)) (by decide) (by decide) (by omega) (by decide) rfl rfl rfl ?_
  intro X' e1 e2 e3 x dx hxd hap
  have hW' : IsW X'.W := e1 ▸ hW
  clear hW
  refine WS.cons (WS1.attrP (dx := dx) rfl (loc_of (by assumption) rfl) (as_set hW') (as_over hW') (as_exponent_bits hW') (as_dict hW') ?_)
  refine EV.name rfl ?_ (loc_of (by assumption) rfl)
  skip
  refine ⟨_, _, _, _, rfl, rfl, hxd, hap, rfl, Nat.le_of_ble_eq_true rfl, fun hsh1 tk1 uk1 => ?_⟩
  refine Then.next ?_
  refine WS.cons (WS1.attrP (dx := dx) rfl (loc_of (by assumption) rfl) (as_set hW') (as_over hW') (as_fraction_bits hW') (as_dict hW') ?_)
  refine EV.name rfl ?_ (loc_of (by assumption) rfl)
  skip
  refine ⟨_, _, _, _, rfl, rfl, hxd, hap, rfl, Nat.le_of_ble_eq_true rfl, fun hsh2 tk2 uk2 => ?_⟩
  refine Then.next ?_
  refine WS.cons (WS1.attrP (dx := dx) rfl (loc_of (by assumption) rfl) (as_set hW') (as_over hW') (as_bias hW') (as_dict hW') ?_)
  refine EV.bin ?_
  refine EV.bin ?_
  refine EV.intN (n := 1) rfl ?_
  refine EV.bin ?_
  refine EV.name rfl ?_ (loc_of (by assumption) rfl)
  refine EV.intN (n := 1) rfl ?_
  refine OpV.subN (by have := hF.h1; omega) ?_
  refine OpV.shlO (by have := hF.h2; omega) ?_
  refine EV.intN (n := 1) rfl ?_
  refine OpV.subN (Nat.pow_pos (by decide)) ?_
  skip
  refine ⟨_, _, _, _, rfl, rfl, hxd, hap, rfl, Nat.le_of_ble_eq_true rfl, fun hsh3 tk3 uk3 => ?_⟩
  refine Then.next ?_
  refine WS.cons (WS1.attrP (dx := dx) rfl (loc_of (by assumption) rfl) (as_set hW') (as_over hW') (as_top hW') (as_dict hW') ?_)
  refine EV.bin ?_
  refine EV.bin ?_
  refine EV.intN (n := 1) rfl ?_
  refine EV.name rfl ?_ (loc_of (by assumption) rfl)
  refine OpV.shlO (by have := hF.h2; omega) ?_
  refine EV.intN (n := 1) rfl ?_
  refine OpV.subN (Nat.pow_pos (by decide)) ?_
  skip
  refine ⟨_, _, _, _, rfl, rfl, hxd, hap, rfl, Nat.le_of_ble_eq_true rfl, fun hsh4 tk4 uk4 => ?_⟩
  refine Then.next ?_
  refine WS.cons (WS1.attrP (dx := dx) rfl (loc_of (by assumption) rfl) (as_set hW') (as_over hW') (as_hidden hW') (as_dict hW') ?_)
  refine EV.bin ?_
  refine EV.intN (n := 1) rfl ?_
  refine EV.name rfl ?_ (loc_of (by assumption) rfl)
  refine OpV.shlO (by have := hF.h4; omega) ?_
  skip
  refine ⟨_, _, _, _, rfl, rfl, hxd, hap, rfl, Nat.le_of_ble_eq_true rfl, fun hsh5 tk5 uk5 => ?_⟩
  refine Then.next ?_
  refine WS.cons (WS1.attrP (dx := dx) rfl (loc_of (by assumption) rfl) (as_set hW') (as_over hW') (as_least hW') (as_dict hW') ?_)
  refine EV.bin ?_
  refine EV.bin ?_
  refine EV.int ?_
  refine EV.attrP rfl rfl (as_get hW') (as_dict hW') (as_bias0 hW') rfl ?_ (loc_of (by assumption) rfl)
  refine OpV.sub ?_
  refine EV.name rfl ?_ (loc_of (by assumption) rfl)
  refine OpV.sub ?_
  rw [hleast]
  refine ⟨_, _, _, _, rfl, rfl, hxd, hap, rfl, Nat.le_of_ble_eq_true rfl, fun hsh6 tk6 uk6 => ?_⟩
  refine Then.next ?_
  refine WS.nil ?_
  exact ⟨rfl, _, _, frm eb fb, rfl, ⟨_, _, _, _, _, _, _, _, _, _, _, _, _, _, _, _, _, _, rfl⟩, q⟩

end
end Mine

set_option exponentiation.threshold 17000
set_option maxHeartbeats 4000000
namespace Mine
/-- the pool of the law: its cells, the spot, the word at hand -/
def IsPool (P : Addr) (c : Nat) (σ : Led) : Prop := ∃ (C : Addr) (cells : List Value) (n n2 : Nat) (spot word : Nat) (t1 t2 : Tok),
  σ = [(P, lstO [.ref C, .int (spot : Int) t1, .int (word : Int) t2] n), (C, lstO cells n2)] ∧ C ≠ P ∧ spot ≤ c ∧ 0 < cells.length ∧ cells.length ≤ 100 ∧ ∀ j, j < cells.length → ∃ i t, cells[j]? = some (.int i t)
theorem IsPool.mono {P : Addr} {c c' : Nat} {σ : Led} (h : IsPool P c σ) (hc : c ≤ c') : IsPool P c' σ := by
  obtain ⟨C, cells, n, n2, spot, word, t1, t2, h1, h2, h3, h4⟩ := h
  exact ⟨C, cells, n, n2, spot, word, t1, t2, h1, h2, Nat.le_trans h3 hc, h4⟩
theorem small_bd {sm spot : Nat} (h : sm < 2 ^ 32) (hs : spot ≤ 1000) : sm * sm + 48271 * sm + spot < 2 ^ 70 := by
  have h7 : sm * sm < 2 ^ 32 * 2 ^ 32 := Nat.mul_lt_mul_of_lt_of_le h (Nat.le_of_lt h) (by decide)
  omega
section
variable {X : Fx} {σ : Led} {ρ : Loc} {Q : PV → Led → Prop} {eb fb : Nat}

theorem law_digit_ (hW : IsW X.W) (hd : 1 ≤ X.d) {P : Addr} {c most : Nat} (hc : c ≤ 1000) (hm : 0 < most) (hm2 : most < 2 ^ 64) (hp : IsPool P c σ)
    (q : ∀ (v : Nat) (σ' : Led), v < most → IsPool P (c + 1) σ' → Q (.int (v : Int)) σ') : CallV X (.ref 240) [.addr P, .int (most : Int)] σ Q := by
  refine CallV.def hW.K ["pool", "most"] 0 rfl rfl (bind2 _ _ (fun _ _ => rfl)) (by decide) (by decide) (by omega) (by decide) rfl rfl rfl ?_
  intro X' e1 e2 e3
  have hW' : IsW X'.W := e1 ▸ hW
  clear hW
  obtain ⟨C, cells, n, n2, spot, word, t1, t2, rfl, hne, hspot, hlen0, hlen1, hcells⟩ := hp
  have hpost : ∀ p ∈ [(C, lstO cells n2)], p.1 ≠ P := fun p hp => by rw [List.mem_singleton.mp hp]; exact hne
  refine WS.cons (WS1.ite ?_)
  refine TV.cmp ?_
  refine EV.sub ?_
  refine EV.name rfl ?_ (loc_of (by assumption) rfl)
  refine EV.int ?_
  refine SubV.led (p := .int (word : Int)) List.mem_cons_self (by decide) (by decide) rfl (fun _ _ => .int _ _) ?_
  refine EV.int ?_
  refine CmpV.lt ?_
  refine ⟨_, rfl, ?_⟩
  refine ⟨fun h1 => ?_, fun h1 => ?_⟩
  · try simp only [decide_eq_true_eq, decide_eq_false_iff_not, Bool.not_eq_true', Bool.not_eq_false'] at h1
    refine WS.cons (WS1.swapped (xs := [Str.ofString "cells", Str.ofString "spot"]) (locs_of (by assumption) (by decide)) ?_ (hw := swap_of (by assumption) (by intro _ _ _ _; kernel_rfl)))
    refine EV.tuple ?_
    refine EVL.cons ?_
    refine EV.sub ?_
    refine EV.name rfl ?_ (loc_of (by assumption) rfl)
    refine EV.int ?_
    refine SubV.led (p := .addr C) List.mem_cons_self (by decide) (by decide) rfl (fun _ _ => .addr _) ?_
    refine EVL.cons ?_
    refine EV.sub ?_
    refine EV.name rfl ?_ (loc_of (by assumption) rfl)
    refine EV.int ?_
    refine SubV.led (p := .int (spot : Int)) List.mem_cons_self (by decide) (by decide) rfl (fun _ _ => .int _ _) ?_
    refine EVL.nil ?_
    refine ⟨by simp, ?_⟩
    refine ⟨_, Seq.tup _, rfl, ?_⟩
    refine Then.next ?_
    refine WS.cons (WS1.setP ?_)
    refine EV.bin ?_
    refine EV.name rfl ?_ (loc_of (by assumption) rfl)
    refine EV.intN (n := 1) rfl ?_
    refine OpV.addN ?_
    refine EV.name rfl ?_ (loc_of (by assumption) rfl)
    refine EV.int ?_
    refine ⟨_, _, P, _, n, [(C, lstO cells n2)], rfl, rfl, rfl, rfl, hpost, by decide, by simp, by decide, fun tk1 => ?_⟩
    refine Then.next ?_
    refine WS.cons (WS1.asg ?_ (loc_of (by assumption) rfl))
    refine EV.sub ?_
    refine EV.name rfl ?_ (loc_of (by assumption) rfl)
    refine EV.bin ?_
    refine EV.name rfl ?_ (loc_of (by assumption) rfl)
    refine EV.callB (g_len hW') (by boot_by_name) (loc_of (by assumption) rfl) ?_
    refine EVL.cons ?_
    refine EV.name rfl ?_ (loc_of (by assumption) rfl)
    refine EVL.nil ?_
    refine CallV.lenP (List.mem_cons_of_mem _ List.mem_cons_self) (by omega) ?_
    refine OpV.fmodN hlen0 ?_
    obtain ⟨i, tI, hcell⟩ := hcells (spot % cells.length) (Nat.mod_lt _ hlen0)
    refine SubV.led (p := .int i) (List.mem_cons_of_mem _ List.mem_cons_self) (Int.natCast_nonneg _) (by have := Nat.mod_lt spot hlen0; omega) (by rw [Int.toNat_natCast]; exact hcell) (fun _ _ => .int _ _) ?_
    refine Then.next ?_
    refine WS.cons (WS1.ite ?_)
    refine TV.and ?_
    refine TV.cmp ?_
    refine EV.name rfl ?_ (loc_of (by assumption) rfl)
    refine EV.callB (g_len hW') (by boot_by_name) (loc_of (by assumption) rfl) ?_
    refine EVL.cons ?_
    refine EV.name rfl ?_ (loc_of (by assumption) rfl)
    refine EVL.nil ?_
    refine CallV.lenP (List.mem_cons_of_mem _ List.mem_cons_self) (by omega) ?_
    refine CmpV.ltN ?_
    refine ⟨_, rfl, ?_⟩
    refine ⟨fun h2 => ?_, fun h2 => ?_⟩
    · try simp only [decide_eq_true_eq, decide_eq_false_iff_not, Bool.not_eq_true', Bool.not_eq_false'] at h2
      refine TV.and ?_
      refine TV.cmp ?_
      refine EV.name rfl ?_ (loc_of (by assumption) rfl)
      refine EV.bin ?_
      refine EV.intN (n := 10) rfl ?_
      refine EV.intN (n := 18) rfl ?_
      refine OpV.powN (by decide) (by decide) ?_
      refine CmpV.ge ?_
      refine ⟨_, rfl, ?_⟩
      refine ⟨fun h3 => ?_, fun h3 => ?_⟩
      · try simp only [decide_eq_true_eq, decide_eq_false_iff_not, Bool.not_eq_true', Bool.not_eq_false'] at h3
        refine TV.and_nil ?_
        refine ⟨fun _ => ?_, fun h => absurd h (by decide)⟩
        refine WS.cons (WS1.setP ?_)
        refine EV.bin ?_
        refine EV.name rfl ?_ (loc_of (by assumption) rfl)
        refine EV.bin ?_
        refine EV.intN (n := 10) rfl ?_
        refine EV.intN (n := 60) rfl ?_
        refine OpV.powN (by decide) (by decide) ?_
        refine OpV.fmod (by decide) ?_
        refine EV.name rfl ?_ (loc_of (by assumption) rfl)
        refine EV.int ?_
        obtain ⟨wN, hwN⟩ : ∃ w : Nat, i % ((10 ^ 60 : Nat) : Int) = (w : Int) := ⟨(i % ((10 ^ 60 : Nat) : Int)).toNat, (Int.toNat_of_nonneg (Int.emod_nonneg _ (by decide))).symm⟩
        rw [hwN]
        refine ⟨_, _, P, _, n, [(C, lstO cells n2)], rfl, rfl, rfl, rfl, hpost, by decide, by simp, by decide, fun tk2 => ?_⟩
        refine Then.next ?_
        refine WS.nil ?_
        refine Then.next ?_
        refine WS.nil ?_
        refine Then.next ?_
        refine WS.cons (WS1.asg ?_ (loc_of (by assumption) rfl))
        refine EV.bin ?_
        refine EV.sub ?_
        refine EV.name rfl ?_ (loc_of (by assumption) rfl)
        refine EV.int ?_
        refine SubV.led (p := .int (_ : Nat)) List.mem_cons_self (by decide) (by decide) rfl (fun _ _ => .int _ _) ?_
        refine EV.name rfl ?_ (loc_of (by assumption) rfl)
        refine OpV.fmodN hm ?_
        refine Then.next ?_
        refine WS.cons (WS1.setP ?_)
        refine EV.bin ?_
        refine EV.sub ?_
        refine EV.name rfl ?_ (loc_of (by assumption) rfl)
        refine EV.int ?_
        refine SubV.led (p := .int (_ : Nat)) List.mem_cons_self (by decide) (by decide) rfl (fun _ _ => .int _ _) ?_
        refine EV.name rfl ?_ (loc_of (by assumption) rfl)
        refine OpV.fdivN (k := 64) hm hm2 (by decide) ?_
        refine EV.name rfl ?_ (loc_of (by assumption) rfl)
        refine EV.int ?_
        refine ⟨_, _, P, _, n, [(C, lstO cells n2)], rfl, rfl, rfl, rfl, hpost, by decide, by simp, by decide, fun tk4 => ?_⟩
        refine Then.next ?_
        refine WS.cons (WS1.ret ?_)
        refine EV.name rfl ?_ (loc_of (by assumption) rfl)
        refine q _ _ (Nat.mod_lt _ hm) ⟨C, cells, n, n2, _, _, _, _, rfl, hne, ?_, hlen0, hlen1, hcells⟩
        omega
      · try simp only [decide_eq_true_eq, decide_eq_false_iff_not, Bool.not_eq_true', Bool.not_eq_false'] at h3
        refine ⟨fun h => absurd h (by decide), fun _ => ?_⟩
        refine WS.cons (WS1.asg ?_ (loc_of (by assumption) rfl))
        refine EV.bin ?_
        refine EV.bin ?_
        refine EV.bin ?_
        refine EV.name rfl ?_ (loc_of (by assumption) rfl)
        refine EV.intN (n := 1000000007) rfl ?_
        refine OpV.fmod (by decide) ?_
        refine EV.bin ?_
        refine EV.intN (n := 65537) rfl ?_
        refine EV.name rfl ?_ (loc_of (by assumption) rfl)
        refine OpV.mulB (k := 20) (j := 20) (Bd.nat (by decide)) (Bd.nat (by omega)) (by decide) (by decide) ?_
        refine OpV.add ?_
        refine EV.int ?_
        refine OpV.add ?_
        refine Then.next ?_
        have h0 : 0 ≤ i % ((1000000007 : Nat) : Int) := Int.emod_nonneg _ (by decide)
        have h1 : i % ((1000000007 : Nat) : Int) < ((1000000007 : Nat) : Int) := Int.emod_lt_of_pos _ (by decide)
        obtain ⟨sm, hsm⟩ : ∃ w : Nat, i % ((1000000007 : Nat) : Int) + ((65537 * spot : Nat) : Int) + 11 = (w : Int) := ⟨(i % ((1000000007 : Nat) : Int) + ((65537 * spot : Nat) : Int) + 11).toNat, by omega⟩
        rw [hsm]
        have hsm2 : sm < 2 ^ 32 := by omega
        refine WS.cons (WS1.setP ?_)
        refine EV.bin ?_
        refine EV.bin ?_
        refine EV.bin ?_
        refine EV.bin ?_
        refine EV.bin ?_
        refine EV.name rfl ?_ (loc_of (by assumption) rfl)
        refine EV.name rfl ?_ (loc_of (by assumption) rfl)
        refine OpV.mulB (k := 32) (j := 32) (Bd.nat hsm2) (Bd.nat hsm2) (by decide) (by decide) ?_
        refine EV.bin ?_
        refine EV.intN (n := 48271) rfl ?_
        refine EV.name rfl ?_ (loc_of (by assumption) rfl)
        refine OpV.mulB (k := 32) (j := 32) (Bd.nat (by decide)) (Bd.nat hsm2) (by decide) (by decide) ?_
        refine OpV.addN ?_
        refine EV.name rfl ?_ (loc_of (by assumption) rfl)
        refine OpV.addN ?_
        refine EV.intN (n := 6364136223846793005) rfl ?_
        refine OpV.mulB (k := 70) (j := 70) (Bd.nat (small_bd hsm2 (by omega))) (Bd.nat (by decide)) (by decide) (by decide) ?_
        refine EV.intN (n := 2305843009213693951) rfl ?_
        refine OpV.fmodN (by decide) ?_
        refine EV.name rfl ?_ (loc_of (by assumption) rfl)
        refine EV.int ?_
        refine ⟨_, _, P, _, n, [(C, lstO cells n2)], rfl, rfl, rfl, rfl, hpost, by decide, by simp, by decide, fun tk3 => ?_⟩
        refine Then.next ?_
        refine WS.nil ?_
        refine Then.next ?_
        refine WS.nil ?_
        refine Then.next ?_
        refine WS.cons (WS1.asg ?_ (loc_of (by assumption) rfl))
        refine EV.bin ?_
        refine EV.sub ?_
        refine EV.name rfl ?_ (loc_of (by assumption) rfl)
        refine EV.int ?_
        refine SubV.led (p := .int (_ : Nat)) List.mem_cons_self (by decide) (by decide) rfl (fun _ _ => .int _ _) ?_
        refine EV.name rfl ?_ (loc_of (by assumption) rfl)
        refine OpV.fmodN hm ?_
        refine Then.next ?_
        refine WS.cons (WS1.setP ?_)
        refine EV.bin ?_
        refine EV.sub ?_
        refine EV.name rfl ?_ (loc_of (by assumption) rfl)
        refine EV.int ?_
        refine SubV.led (p := .int (_ : Nat)) List.mem_cons_self (by decide) (by decide) rfl (fun _ _ => .int _ _) ?_
        refine EV.name rfl ?_ (loc_of (by assumption) rfl)
        refine OpV.fdivN (k := 64) hm hm2 (by decide) ?_
        refine EV.name rfl ?_ (loc_of (by assumption) rfl)
        refine EV.int ?_
        refine ⟨_, _, P, _, n, [(C, lstO cells n2)], rfl, rfl, rfl, rfl, hpost, by decide, by simp, by decide, fun tk4 => ?_⟩
        refine Then.next ?_
        refine WS.cons (WS1.ret ?_)
        refine EV.name rfl ?_ (loc_of (by assumption) rfl)
        refine q _ _ (Nat.mod_lt _ hm) ⟨C, cells, n, n2, _, _, _, _, rfl, hne, ?_, hlen0, hlen1, hcells⟩
        omega
    · try simp only [decide_eq_true_eq, decide_eq_false_iff_not, Bool.not_eq_true', Bool.not_eq_false'] at h2
      refine ⟨fun h => absurd h (by decide), fun _ => ?_⟩
      refine WS.cons (WS1.asg ?_ (loc_of (by assumption) rfl))
      refine EV.bin ?_
      refine EV.bin ?_
      refine EV.bin ?_
      refine EV.name rfl ?_ (loc_of (by assumption) rfl)
      refine EV.intN (n := 1000000007) rfl ?_
      refine OpV.fmod (by decide) ?_
      refine EV.bin ?_
      refine EV.intN (n := 65537) rfl ?_
      refine EV.name rfl ?_ (loc_of (by assumption) rfl)
      refine OpV.mulB (k := 20) (j := 20) (Bd.nat (by decide)) (Bd.nat (by omega)) (by decide) (by decide) ?_
      refine OpV.add ?_
      refine EV.int ?_
      refine OpV.add ?_
      refine Then.next ?_
      have h0 : 0 ≤ i % ((1000000007 : Nat) : Int) := Int.emod_nonneg _ (by decide)
      have h1 : i % ((1000000007 : Nat) : Int) < ((1000000007 : Nat) : Int) := Int.emod_lt_of_pos _ (by decide)
      obtain ⟨sm, hsm⟩ : ∃ w : Nat, i % ((1000000007 : Nat) : Int) + ((65537 * spot : Nat) : Int) + 11 = (w : Int) := ⟨(i % ((1000000007 : Nat) : Int) + ((65537 * spot : Nat) : Int) + 11).toNat, by omega⟩
      rw [hsm]
      have hsm2 : sm < 2 ^ 32 := by omega
      refine WS.cons (WS1.setP ?_)
      refine EV.bin ?_
      refine EV.bin ?_
      refine EV.bin ?_
      refine EV.bin ?_
      refine EV.bin ?_
      refine EV.name rfl ?_ (loc_of (by assumption) rfl)
      refine EV.name rfl ?_ (loc_of (by assumption) rfl)
      refine OpV.mulB (k := 32) (j := 32) (Bd.nat hsm2) (Bd.nat hsm2) (by decide) (by decide) ?_
      refine EV.bin ?_
      refine EV.intN (n := 48271) rfl ?_
      refine EV.name rfl ?_ (loc_of (by assumption) rfl)
      refine OpV.mulB (k := 32) (j := 32) (Bd.nat (by decide)) (Bd.nat hsm2) (by decide) (by decide) ?_
      refine OpV.addN ?_
      refine EV.name rfl ?_ (loc_of (by assumption) rfl)
      refine OpV.addN ?_
      refine EV.intN (n := 6364136223846793005) rfl ?_
      refine OpV.mulB (k := 70) (j := 70) (Bd.nat (small_bd hsm2 (by omega))) (Bd.nat (by decide)) (by decide) (by decide) ?_
      refine EV.intN (n := 2305843009213693951) rfl ?_
      refine OpV.fmodN (by decide) ?_
      refine EV.name rfl ?_ (loc_of (by assumption) rfl)
      refine EV.int ?_
      refine ⟨_, _, P, _, n, [(C, lstO cells n2)], rfl, rfl, rfl, rfl, hpost, by decide, by simp, by decide, fun tk3 => ?_⟩
      refine Then.next ?_
      refine WS.nil ?_
      refine Then.next ?_
      refine WS.nil ?_
      refine Then.next ?_
      refine WS.cons (WS1.asg ?_ (loc_of (by assumption) rfl))
      refine EV.bin ?_
      refine EV.sub ?_
      refine EV.name rfl ?_ (loc_of (by assumption) rfl)
      refine EV.int ?_
      refine SubV.led (p := .int (_ : Nat)) List.mem_cons_self (by decide) (by decide) rfl (fun _ _ => .int _ _) ?_
      refine EV.name rfl ?_ (loc_of (by assumption) rfl)
      refine OpV.fmodN hm ?_
      refine Then.next ?_
      refine WS.cons (WS1.setP ?_)
      refine EV.bin ?_
      refine EV.sub ?_
      refine EV.name rfl ?_ (loc_of (by assumption) rfl)
      refine EV.int ?_
      refine SubV.led (p := .int (_ : Nat)) List.mem_cons_self (by decide) (by decide) rfl (fun _ _ => .int _ _) ?_
      refine EV.name rfl ?_ (loc_of (by assumption) rfl)
      refine OpV.fdivN (k := 64) hm hm2 (by decide) ?_
      refine EV.name rfl ?_ (loc_of (by assumption) rfl)
      refine EV.int ?_
      refine ⟨_, _, P, _, n, [(C, lstO cells n2)], rfl, rfl, rfl, rfl, hpost, by decide, by simp, by decide, fun tk4 => ?_⟩
      refine Then.next ?_
      refine WS.cons (WS1.ret ?_)
      refine EV.name rfl ?_ (loc_of (by assumption) rfl)
      refine q _ _ (Nat.mod_lt _ hm) ⟨C, cells, n, n2, _, _, _, _, rfl, hne, ?_, hlen0, hlen1, hcells⟩
      omega
  · try simp only [decide_eq_true_eq, decide_eq_false_iff_not, Bool.not_eq_true', Bool.not_eq_false'] at h1
    refine WS.nil ?_
    refine Then.next ?_
    refine WS.cons (WS1.asg ?_ (loc_of (by assumption) rfl))
    refine EV.bin ?_
    refine EV.sub ?_
    refine EV.name rfl ?_ (loc_of (by assumption) rfl)
    refine EV.int ?_
    refine SubV.led (p := .int (_ : Nat)) List.mem_cons_self (by decide) (by decide) rfl (fun _ _ => .int _ _) ?_
    refine EV.name rfl ?_ (loc_of (by assumption) rfl)
    refine OpV.fmodN hm ?_
    refine Then.next ?_
    refine WS.cons (WS1.setP ?_)
    refine EV.bin ?_
    refine EV.sub ?_
    refine EV.name rfl ?_ (loc_of (by assumption) rfl)
    refine EV.int ?_
    refine SubV.led (p := .int (_ : Nat)) List.mem_cons_self (by decide) (by decide) rfl (fun _ _ => .int _ _) ?_
    refine EV.name rfl ?_ (loc_of (by assumption) rfl)
    refine OpV.fdivN (k := 64) hm hm2 (by decide) ?_
    refine EV.name rfl ?_ (loc_of (by assumption) rfl)
    refine EV.int ?_
    refine ⟨_, _, P, _, n, [(C, lstO cells n2)], rfl, rfl, rfl, rfl, hpost, by decide, by simp, by decide, fun tk4 => ?_⟩
    refine Then.next ?_
    refine WS.cons (WS1.ret ?_)
    refine EV.name rfl ?_ (loc_of (by assumption) rfl)
    refine q _ _ (Nat.mod_lt _ hm) ⟨C, cells, n, n2, _, _, _, _, rfl, hne, ?_, hlen0, hlen1, hcells⟩
    omega

theorem law_wide_ (hW : IsW X.W) (hd : 2 ≤ X.d) {P : Addr} {c most : Nat} (hc : c ≤ 900) (hm : 0 < most) (hm2 : most < 2 ^ 40) (hp : IsPool P c σ)
    (q : ∀ (v : Nat) (σ' : Led), v < most → IsPool P (c + 2) σ' → Q (.int (v : Int)) σ') : CallV X (.ref 247) [.addr P, .int (most : Int)] σ Q := by
  refine CallV.def hW.K ["pool", "most"] 1 rfl rfl (bind2 _ _ (fun _ _ => rfl)) (by decide) (by decide) (by omega) (by decide) rfl rfl rfl ?_
  intro X' e1 e2 e3
  have hW' : IsW X'.W := e1 ▸ hW
  clear hW
  refine WS.cons (WS1.unpack (NamesOf.cons (NamesOf.cons NamesOf.nil)) (locs_of (by assumption) (by decide)) ?_ (hw := swap_of (by assumption) (by intro _ _ _ _; kernel_rfl)))
  refine EV.tuple ?_
  refine EVL.cons ?_
  refine EV.intN (n := 0) rfl ?_
  refine EVL.cons ?_
  refine EV.intN (n := 1) rfl ?_
  refine EVL.nil ?_
  refine ⟨by simp, ?_⟩
  refine ⟨_, Seq.tup _, rfl, ?_⟩
  refine Then.next ?_
  refine WS.forget ([(Str.ofString "pool", .addr P), (Str.ofString "most", .int (most : Int)), (Str.ofString "found", .int ((0 : Nat) : Int)), (Str.ofString "cover", .int ((1048576 ^ 0 : Nat) : Int))]) ⟨rfl, rfl, rfl, rfl, trivial⟩ ?_
  refine WS.cons (WS1.while (α := Nat × Nat × Led) (fun a => [(Str.ofString "pool", .addr P), (Str.ofString "most", .int (most : Int)), (Str.ofString "found", .int ((a.2.1 : Nat) : Int)), (Str.ofString "cover", .int ((1048576 ^ a.1 : Nat) : Int))]) (fun a => a.2.2) (fun a => a.1 ≤ 2 ∧ a.2.1 < 1048576 ^ a.1 ∧ IsPool P (c + a.1) a.2.2) (fun a => 2 - a.1) (0, 0, σ) rfl rfl ⟨Nat.zero_le _, Nat.one_pos, hp⟩ ?_)
  intro ⟨j, f, σ⟩ ⟨hj, hf, hpj⟩
  simp only at hj hf hpj
  refine TV.cmp ?_
  refine EV.name rfl ?_ (loc_of (by assumption) rfl)
  refine EV.name rfl ?_ (loc_of (by assumption) rfl)
  refine CmpV.ltN ?_
  refine ⟨_, rfl, ?_⟩
  refine ⟨fun h1 => ?_, fun h1 => ?_⟩
  · try simp only [decide_eq_true_eq, decide_eq_false_iff_not, Bool.not_eq_true', Bool.not_eq_false'] at h1
    have hj2 : j < 2 := by
      rcases Nat.lt_or_ge j 2 with z | z
      · exact z
      · have : j = 2 := by omega
        subst this
        have : (1048576 : Nat) ^ 2 = 2 ^ 40 := by decide
        omega
    have hjc : 1048576 ^ j < 2 ^ 40 := by omega
    have hfc : f < 2 ^ 40 := by omega
    refine WS.cons (WS1.asg ?_ (loc_of (by assumption) rfl))
    refine EV.bin ?_
    refine EV.bin ?_
    refine EV.name rfl ?_ (loc_of (by assumption) rfl)
    refine EV.intN (n := 1048576) rfl ?_
    refine OpV.mulB (k := 40) (j := 21) (Bd.nat hfc) (Bd.nat (by decide)) (by decide) (by decide) ?_
    refine EV.callF (g_law_digit hW') (k_law_digit hW') (loc_of (by assumption) rfl) ?_
    refine EVL.cons ?_
    refine EV.name rfl ?_ (loc_of (by assumption) rfl)
    refine EVL.cons ?_
    refine EV.intN (n := 1048576) rfl ?_
    refine EVL.nil ?_
    refine law_digit_ (c := c + j) hW' (by omega) (by omega) (by decide) (by decide) hpj ?_
    intro v σ' hv hp'
    refine OpV.addN ?_
    refine Then.next ?_
    refine WS.cons (WS1.asg ?_ (loc_of (by assumption) rfl))
    refine EV.bin ?_
    refine EV.name rfl ?_ (loc_of (by assumption) rfl)
    refine EV.intN (n := 1048576) rfl ?_
    refine OpV.mulB (k := 40) (j := 21) (Bd.nat hjc) (Bd.nat (by decide)) (by decide) (by decide) ?_
    refine Then.next ?_
    refine WS.nil ?_
    refine ⟨(j + 1, f * 1048576 + v, σ'), rfl, rfl, ⟨by show j + 1 ≤ 2; omega, ?_, hp'⟩, by show 2 - (j + 1) < 2 - j; omega⟩
    show f * 1048576 + v < 1048576 ^ (j + 1)
    rw [Nat.pow_succ]; omega
  · try simp only [decide_eq_true_eq, decide_eq_false_iff_not, Bool.not_eq_true', Bool.not_eq_false'] at h1
    skip
    refine Then.next ?_
    refine WS.cons (WS1.ret ?_)
    refine EV.bin ?_
    refine EV.name rfl ?_ (loc_of (by assumption) rfl)
    refine EV.name rfl ?_ (loc_of (by assumption) rfl)
    refine OpV.fmodN hm ?_
    exact q _ _ (Nat.mod_lt _ hm) (hpj.mono (by omega))

end
end Mine

namespace Mine
theorem repL_ints {C : Addr} {R : Led} : ∀ {vs : List Value} {ns : List Int}, IntsAre vs ns → RepL C R vs (ns.map PV.int)
  | _, _, .nil => .nil
  | _, _, .cons n t h => .cons (.int n t) (repL_ints h)
theorem ints_repL {C : Addr} {R : Led} : ∀ {vs : List Value} {ns : List Int}, RepL C R vs (ns.map PV.int) → IntsAre vs ns
  | vs, [], h => by obtain rfl := h.inv_nil; exact .nil
  | vs, n :: ns, h => by
    obtain ⟨v, us, rfl, a, b⟩ := h.inv_cons
    cases a with
    | int _ t => exact .cons n t (ints_repL b)
theorem ints_len : ∀ {vs : List Value} {ns : List Int}, IntsAre vs ns → vs.length = ns.length
  | _, _, .nil => rfl
  | _, _, .cons _ _ h => congrArg Nat.succ (ints_len h)
theorem ints_get : ∀ {vs : List Value} {ns : List Int}, IntsAre vs ns → ∀ j, j < vs.length → ∃ i t, vs[j]? = some (.int i t)
  | _, _, .cons n t _, 0, _ => ⟨n, t, rfl⟩
  | _, _, .cons _ _ h, j + 1, hj => ints_get h j (Nat.lt_of_succ_lt_succ hj)
theorem ints_app {vs us : List Value} {ns ms : List Int} (h : IntsAre vs ns) (k : IntsAre us ms) : IntsAre (vs ++ us) (ns ++ ms) := by
  induction h with
  | nil => exact k
  | cons n t _ ih => exact .cons n t ih
section
variable {X : Fx} {σ : Led} {ρ : Loc} {Q : PV → Led → Prop}
/-- a list of the caller's ints, and one nought -/
theorem OpV.addInts {a : Addr} {vs : List Value} {ns : List Int} (hl : X.h₀.IsList a vs.toArray) (hI : IntsAre vs ns) (hz : ns.length ≤ 900) (q : Q (.lst ((ns ++ [0]).map PV.int)) σ) :
    OpV X .Add (.addr a) (.lst [.int 0]) σ Q := fun φ R m s va vb S ra rb => by
  cases ra
  cases rb with
  | @lst b us n _ hm hs hu =>
    have hl' : s.heap.IsList a vs.toArray := by
      obtain ⟨o, ho, h2⟩ := hl
      exact ⟨o, S.fr.keep _ _ ho, h2⟩
    have hb : s.heap.IsList b us.toArray := ⟨_, S.get hm, rfl, _, rfl⟩
    have hU : IntsAre us [0] := ints_repL (ns := [0]) hu
    have e1 := ints_len hI
    have e2 := ints_len hU
    refine add_arrays S.fr S.nw hl' hb (fun h' F' N' => ?_) (by rw [List.size_toArray, List.size_toArray, sizeLine_eq, e1, e2]; simp; omega)
    exact ⟨_, σ, _, fun p hp => List.mem_cons_of_mem _ hp, S.more F' N' (Nat.le_refl _), .lst List.mem_cons_self (by simp [e1, e2]; omega) (repL_ints (ints_app hI hU)), q⟩
theorem EV.slice_nsL {v u : Expr} {sp pos : Pos} (h : EV X ρ σ v fun a σ₁ => EV X ρ σ₁ u fun b σ₂ => ∃ (ns : List Int) (j : Int), a = .lst (ns.map PV.int) ∧ b = .int j ∧ 0 ≤ j ∧ ns.length ≤ 1000 ∧ Q (.lst ((ns.take j.toNat).map PV.int)) σ₂)
    (hs : ∀ a b, subscripted (.Slice none (some u) none sp) false (.ref a) (.ref b) = operate [.ref b, .ref a] (getItem (.ref a) (.ref b)) := by intro _ _; with_unfolding_all rfl) :
    EV X ρ σ (.Subscript v (.Slice none (some u) none sp) pos) Q := fun φ R m s S M =>
  Subscript_ (wpAny_mono (h φ R m s S M) (fun va s₁ ⟨R₁, σ₁, a, e₁, S₁, ra, h₁⟩ => wpAny_Slice (by
    rw [evalPart_none, evalPart_some]
    refine wpAny_pure (wpAny_mono (h₁ φ R₁ m s₁ S₁ (M.mono e₁)) (fun vb s₂ ⟨R₂, σ₂, b, e₂, S₂, rb, ns, j, ea, eb, hj, hz, q⟩ => ?_) noE)
    subst ea eb
    have ra' := ra.mono e₂
    cases rb with
    | int _ t =>
    cases ra' with
    | @lst a vs n _ hm hsz hl =>
    refine wpAny_pure ?_
    have hL : s₂.heap.IsList a vs.toArray := ⟨_, S₂.get hm, rfl, _, rfl⟩
    have hi : IntsAre vs ns := ints_repL hl
    have hiT : IntsAre (slicePick vs.toArray none (some j) none).toList (ns.take j.toNat) := slice_ints_uptoW hi hj
    have F := S₂.fr
    have N := S₂.nw
    refine tail_any (Heap.IsList.typeIs (s := { s₂ with heap := s₂.heap.push { cls := .type "slice", data := .fields #[.none, .int j t, .none] } }) (hL.push _)) slot_list_getitem.lookup
      (wpAny_getItem_list_slice (hL.push _) (Heap.IsSliceOf.new ..) .none (.int j t) .none (by simp) ?_ (by rw [List.size_toArray, sizeLine_eq]; omega)) (hs _ _)
    have N1 := News.push (F.push { cls := .type "slice", data := .fields #[.none, .int j t, .none] }) (N.grown fun _ _ e => Heap.get?_push_of_some _ e) { cls := .type "list", data := .seq (slicePick vs.toArray none (some j) none) }
    rw [Heap.size_push] at N1
    show PE X φ R m Q (.ref (s₂.heap.push _).objs.size) _
    rw [Heap.size_push]
    have eT := ints_len hiT
    refine ⟨_, σ₂, _, fun p hp => List.mem_cons_of_mem _ (e₂ p (e₁ p hp)), S₂.more (tk := s₂.toks) ((F.push _).push _) N1 (Nat.le_succ _), ?_, q⟩
    refine .lst (vs := (slicePick vs.toArray none (some j) none).toList) (n := 0) ?_ ?_ (repL_ints hiT)
    · exact List.mem_cons_self
    · rw [eT, List.length_take]; omega)) noE)
/-- the pool is made -/
theorem pool_step {x : Str} {p' pos : Pos} {e : Expr} {rest : List Stmt} {m : Str → Option Value} {s : Shared} {QR : Res → Led → Prop} (S : St X [] [] [] m s) (M : RepM X.W.C [] m ρ)
    (h : EV X ρ [] e fun v σ₁ => σ₁ = [] ∧ ∃ ns : List Int, 0 < ns.length ∧ ns.length ≤ 100 ∧ v = .lst [.lst (ns.map PV.int), .int 0, .int 0]) (hl : X.sc.names.lookup x = some .local)
    (k : ∀ P σ', IsPool P 0 σ' → WS X [(x, .addr P)] σ' rest QR)
    (hs : swapsWith e (some (.Name x p')) pos.line X.env = pure false := by rfl) :
    wpAny X.M X.A (execs (.Assign [.Name x p'] e pos :: rest) X.env) (fun f s' => ∃ R, PS X [] R QR f s') NoE s := by
  have st := WS1.asg (ρ := ρ) (Q := fun r σ₁ => σ₁ = [] ∧ ∃ ns : List Int, 0 < ns.length ∧ ns.length ≤ 100 ∧ r = .next (ρ.set x (.lst [.lst (ns.map PV.int), .int 0, .int 0]))) (EV.mono h fun v σ₁ ⟨a, ns, b, c, d⟩ => ⟨a, ns, b, c, by rw [d]⟩) hl hs
  refine wpAny_execs_cons (wpAny_mono (st [] [] m s S M) (fun f s₁ ⟨R₁, m₁, σ₁, r, e₁, S₁, rr, hσ, ns, h1, h2, hr⟩ => ?_) noE)
  subst hσ hr
  cases rr with
  | next M₁ =>
    obtain ⟨v, hv, rv⟩ := M₁ x _ (by rw [Loc.get_set, if_pos rfl])
    cases rv with
    | @lst P us n _ hm hsz hu =>
      obtain ⟨u0, us1, rfl, r0, hu1⟩ := hu.inv_cons
      obtain ⟨u1, us2, rfl, r1, hu2⟩ := hu1.inv_cons
      obtain ⟨u2, us3, rfl, r2, hu3⟩ := hu2.inv_cons
      obtain rfl := hu3.inv_nil
      cases r1 with
      | int _ t1 =>
      cases r2 with
      | int _ t2 =>
      cases r0 with
      | @lst C cells n2 _ hm2 hsz2 hc =>
        have hi : IntsAre cells ns := ints_repL hc
        have eL := ints_len hi
        have hne : C ≠ P := fun z => by
          subst z
          have g1 := S₁.get hm
          have g2 := S₁.get hm2
          rw [g1] at g2
          injection g2 with g2
          injection g2 with _ _ g3 _
          injection g3 with g3 _
          have g4 : [Value.ref C, .int 0 t1, .int 0 t2] = cells := by simpa using congrArg Array.toList g3
          obtain ⟨i, t, g5⟩ := ints_get hi 0 (by omega)
          rw [← g4] at g5
          injection g5 with g5
          cases g5
        have hp : IsPool P 0 [(P, lstO [.ref C, .int 0 t1, .int 0 t2] n), (C, lstO cells n2)] :=
          ⟨C, cells, n, n2, 0, 0, t1, t2, rfl, hne, Nat.le_refl _, by omega, by omega, fun j hj => ints_get hi j hj⟩
        have S' : St X [] [(P, lstO [.ref C, .int 0 t1, .int 0 t2] n), (C, lstO cells n2)] [] m₁ s₁ := by
          refine ⟨S₁.ok, S₁.fr, fun p hp' => S₁.nw p ?_, fun p hp => (by cases hp), fun p hp => (by cases hp), fun p _ q hq => (by cases hq), S₁.gens, S₁.os⟩
          have hp2 : p = (P, lstO [.ref C, .int 0 t1, .int 0 t2] n) ∨ p = (C, lstO cells n2) := by simpa using hp'
          rcases hp2 with z | z
          · rw [z]; simpa using hm
          · rw [z]; simpa using hm2
        have M' : RepM X.W.C [] m₁ [(x, .addr P)] := fun y p e => by
          unfold Loc.get at e
          by_cases z : x = y
          · rw [if_pos z] at e; cases e; exact ⟨.ref P, z ▸ hv, .addr P⟩
          · rw [if_neg z] at e; cases e
        exact wpAny_mono (k P _ hp [] [] m₁ s₁ S' M') (fun _ _ p => ⟨_, p⟩) noE
end
end Mine

set_option exponentiation.threshold 17000
set_option maxHeartbeats 4000000
namespace Mine
theorem Then.cont {X : Fx} {ρ : Loc} {σ : Led} {ts : List Stmt} {Q : Res → Led → Prop} (h : Q (.cont ρ) σ) : Then X ts Q (.cont ρ) σ := h
theorem split_bits {eb fb b : Nat} (h : b < 2 * (2 ^ eb * 2 ^ fb)) : ∃ s size, b = s * 2 ^ eb * 2 ^ fb + size ∧ s ≤ 1 ∧ size < 2 ^ eb * 2 ^ fb := by
  have h0 : 0 < 2 ^ eb * 2 ^ fb := Nat.mul_pos (Nat.pow_pos (by decide)) (Nat.pow_pos (by decide))
  refine ⟨b / (2 ^ eb * 2 ^ fb), b % (2 ^ eb * 2 ^ fb), ?_, ?_, Nat.mod_lt _ h0⟩
  · rw [Nat.mul_assoc, Nat.mul_comm]; exact (Nat.div_add_mod _ _).symm
  · have := (Nat.div_lt_iff_lt_mul h0).mpr h; omega
theorem wtx_nan {eb fb s size : Nat} {t : List Nat} (h : WTx eb fb s size t) (hs : (2 ^ eb - 1) * 2 ^ fb < size) : t = [78, 65, 78] := by
  rcases h with ⟨h1, h2⟩ | ⟨h1, h2⟩ | ⟨h1, h2⟩ | ⟨h1, h2, _⟩
  · exact h2
  · omega
  · omega
  · omega
theorem wtx_mid {eb fb s size : Nat} {t : List Nat} (hF : OkF eb fb) (hsz : size < 2 ^ eb * 2 ^ fb) (hs1 : s ≤ 1) (h : WTx eb fb s size t) (hs : ¬ (2 ^ eb - 1) * 2 ^ fb < size) :
    ∃ u, t = sgn s ++ u ∧ t.length ≤ 900 ∧ s ≤ t.length ∧ t.drop s = u ∧ (∃ c0, t[0]? = some c0 ∧ ([c0] = [45] ↔ s = 1)) ∧ (size = (2 ^ eb - 1) * 2 ^ fb → u = [73, 78, 70]) ∧ (size = 0 → u = [48, 46, 48]) ∧
      (0 < size → size < (2 ^ eb - 1) * 2 ^ fb → ∃ d P, SDok fb (E0 eb fb) size d P ∧ d < 2 ^ 950 ∧ -151 ≤ P ∧ P ≤ 1600 ∧ u = ptext d P) := by
  have top0 := size_top hF
  have gen : ∀ u c r, t = sgn s ++ u → u = c :: r → c ≠ 45 → u.length ≤ 890 → t.length ≤ 900 ∧ s ≤ t.length ∧ t.drop s = u ∧ (∃ c0, t[0]? = some c0 ∧ ([c0] = [45] ↔ s = 1)) := fun u c r e1 e2 e3 e4 => by
    rcases (show s = 0 ∨ s = 1 by omega) with z | z
    · subst z
      have e5 : t = u := e1
      rw [e5]
      exact ⟨by omega, Nat.zero_le _, rfl, c, by rw [e2]; rfl, ⟨fun z => absurd (by injection z) e3, fun z => by cases z⟩⟩
    · subst z
      have e5 : t = 45 :: u := e1
      rw [e5]
      exact ⟨by rw [List.length_cons]; omega, by rw [List.length_cons]; omega, rfl, 45, rfl, ⟨fun _ => rfl, fun _ => rfl⟩⟩
  rcases h with ⟨h1, h2⟩ | ⟨h1, h2⟩ | ⟨h1, h2⟩ | ⟨h1, h2, d, P, hsd, hdb, hP1, hP2, ht⟩
  · exact absurd h1 hs
  · obtain ⟨a, b, c, d⟩ := gen _ _ _ h2 rfl (by decide) (by decide)
    exact ⟨_, h2, a, b, c, d, fun _ => rfl, fun z => by omega, fun z1 z2 => by omega⟩
  · obtain ⟨a, b, c, d⟩ := gen _ _ _ h2 rfl (by decide) (by decide)
    exact ⟨_, h2, a, b, c, d, fun z => by omega, fun _ => rfl, fun z1 z2 => by omega⟩
  · obtain ⟨bf, bh, sc, p0, D⟩ := dec_num hF h1 h2 hsd hdb hP1 hP2
    obtain ⟨c, r, hc, hc1, hc2⟩ := dec_first D
    obtain ⟨a, b, c', d'⟩ := gen _ _ _ ht hc (by omega) D.len
    exact ⟨_, ht, a, b, c', d', fun z => by omega, fun z => by omega, fun _ _ => ⟨d, P, hsd, hdb, hP1, hP2, rfl⟩⟩
section
variable {X : Fx} {σ : Led} {ρ : Loc} {Q : PV → Led → Prop} {eb fb : Nat}
theorem OpV.fdivE {a b c k : Nat} (e : a / b = c) (h0 : 0 < b) (hb : b < 2 ^ k) (hk : k ≤ 9000) (q : Q (.int (c : Int)) σ) : OpV X .FloorDiv (.int (a : Int)) (.int (b : Int)) σ Q := OpV.fdivN h0 hb hk (e ▸ q)
theorem OpV.fmodE {a b c : Nat} (e : a % b = c) (h0 : 0 < b) (q : Q (.int (c : Int)) σ) : OpV X .Mod (.int (a : Int)) (.int (b : Int)) σ Q := OpV.fmodN h0 (e ▸ q)
theorem OpV.powE {a n c : Nat} (e : a ^ n = c) (hn : n ≤ 1000000) (ha : a < 2 ^ 64) (q : Q (.int (c : Int)) σ) : OpV X .Pow (.int (a : Int)) (.int (n : Int)) σ Q := OpV.powN hn ha (e ▸ q)

theorem law_full (hW : IsW X.W) (hd : 9 ≤ X.d) {a : Addr} {vs : List Value} {ns : List Int} (hL : X.h₀.IsList a vs.toArray) (hI : IntsAre vs ns) (hn : ns.length ≤ 63) :
    ∃ oc od name qual params body scope dV kV doc pm an cdv ct osl, (lawHeap X.W.w.params).lookup 282 = some ⟨oc, od, .func (fnOf name qual params body scope dV kV doc pm an cdv ct), osl⟩ ∧
      (X.sc = scope → ∀ m s, St X [] [] [] m s → RepM X.W.C [] m [(Str.ofString "script", .addr a)] → wpAny X.M X.A (execs body X.env) (fun f s' => ∃ R, PS X [] R (RetQ fun v _ => v = .bool true) f s') NoE s) := by
  refine ⟨_, _, _, _, _, _, _, _, _, _, _, _, _, _, _, rfl, fun e3 m s S M => ?_⟩
  refine pool_step S M ?_ (loc_of e3 rfl) ?_
  · refine EV.list ?_
    refine EVL.cons ?_
    refine EV.slice_nsL ?_
    refine EV.bin ?_
    refine EV.name rfl ?_ (loc_of e3 rfl)
    refine EV.list ?_
    refine EVL.cons ?_
    refine EV.int ?_
    refine EVL.nil ?_
    refine ⟨by simp, ?_⟩
    refine OpV.addInts hL hI (by omega) ?_
    refine EV.int ?_
    refine ⟨ns ++ [0], 40, rfl, rfl, by decide, by simp; omega, ?_⟩
    refine EVL.cons ?_
    refine EV.int ?_
    refine EVL.cons ?_
    refine EV.int ?_
    refine EVL.nil ?_
    refine ⟨by simp, ?_⟩
    exact ⟨rfl, (ns ++ [0]).take (40 : Int).toNat, by rw [List.length_take, List.length_append, List.length_singleton]; show 0 < min 40 _; omega, by rw [List.length_take]; show min 40 _ ≤ 100; omega, rfl⟩
  intro P σ hp
  clear S M
  refine WS.cons (WS1.for ?_ (loc_of (by assumption) rfl))
  refine EV.callT (g_range hW) (by boot_by_name) (loc_of (by assumption) rfl) ?_
  refine EVL.cons ?_
  refine EV.int ?_
  refine EVL.nil ?_
  refine CallV.range1 ?_
  refine ⟨[.int 0, .int 1, .int 2], Itr.rng 0 3 (by decide) (by decide) (by decide), ?_⟩
  refine FL.each (α := Nat × Led) (fun _ => [(Str.ofString "pool", .addr P)]) (fun a => a.2) (fun a r => IsPool P a.1 a.2 ∧ a.1 + 6 * r.length ≤ 18) (0, σ) (LocLe.sub ⟨rfl, trivial⟩) rfl ⟨hp, Nat.le_refl _⟩ ?_ ?_
  · rintro ⟨c, σ0⟩ tv rest ⟨hp0, hcr⟩
    have hcr' : c + 6 * (rest.length + 1) ≤ 18 := hcr
    have hp0' : IsPool P c σ0 := hp0
    refine WS.forget [(Str.ofString "pool", .addr P)] ⟨rfl, trivial⟩ ?_
    refine WS.cons (WS1.asg ?_ (loc_of (by assumption) rfl))
    refine EV.callF (g_RealForm hW) (k_RealForm hW) (loc_of (by assumption) rfl) ?_
    refine EVL.cons ?_
    refine EV.bin ?_
    refine EV.intN (n := 2) rfl ?_
    refine EV.callF (g_law_digit hW) (k_law_digit hW) (loc_of (by assumption) rfl) ?_
    refine EVL.cons ?_
    refine EV.name rfl ?_ (loc_of (by assumption) rfl)
    refine EVL.cons ?_
    refine EV.intN (n := 7) rfl ?_
    refine EVL.nil ?_
    refine law_digit_ (c := c) hW (by omega) (by omega) (by decide) (by decide) hp0' ?_
    intro v1 σ1 hv1 hp1
    refine OpV.addN ?_
    refine EVL.cons ?_
    refine EV.bin ?_
    refine EV.intN (n := 1) rfl ?_
    refine EV.callF (g_law_digit hW) (k_law_digit hW) (loc_of (by assumption) rfl) ?_
    refine EVL.cons ?_
    refine EV.name rfl ?_ (loc_of (by assumption) rfl)
    refine EVL.cons ?_
    refine EV.intN (n := 23) rfl ?_
    refine EVL.nil ?_
    refine law_digit_ (c := c + 1) hW (by omega) (by omega) (by decide) (by decide) hp1 ?_
    intro v2 σ2 hv2 hp2
    refine OpV.addN ?_
    refine EVL.nil ?_
    obtain ⟨eb, heb⟩ : ∃ eb, eb = 2 + v1 := ⟨_, rfl⟩
    obtain ⟨fb, hfb⟩ : ∃ fb, fb = 1 + v2 := ⟨_, rfl⟩
    rw [← heb, ← hfb]
    have hF : OkF eb fb := ⟨by omega, by omega, by omega, by omega⟩
    have hsp0 : 0 < 2 ^ eb * 2 ^ fb := Nat.mul_pos (Nat.pow_pos (by decide)) (Nat.pow_pos (by decide))
    have hspb : 2 ^ eb * 2 ^ fb ≤ 2 ^ 31 := by
      rw [← Nat.pow_add]; exact Nat.pow_le_pow_right (by decide) (by have := hF.h2; have := hF.h4; omega)
    have htop0 := size_top hF
    have htop1 : (2 ^ eb - 1) * 2 ^ fb < 2 ^ eb * 2 ^ fb := Nat.mul_lt_mul_of_pos_right (Nat.sub_lt (Nat.pow_pos (by decide)) Nat.one_pos) (Nat.pow_pos (by decide))
    refine RealForm_ hW (by omega) hF ?_
    refine Then.next ?_
    refine WS.cons (WS1.asg ?_ (loc_of (by assumption) rfl))
    refine EV.bin ?_
    refine EV.intN (n := 2) rfl ?_
    refine EV.bin ?_
    refine EV.attr (formK hW) rfl rfl ?_ (loc_of (by assumption) rfl)
    refine EV.attr (formK hW) rfl rfl ?_ (loc_of (by assumption) rfl)
    refine OpV.addN (a := eb) (b := fb) ?_
    refine OpV.powE (n := eb + fb) (c := 2 ^ eb * 2 ^ fb) (Nat.pow_add 2 eb fb) (by have := hF.h2; have := hF.h4; omega) (by decide) ?_
    refine Then.next ?_
    refine WS.cons (WS1.asg ?_ (loc_of (by assumption) rfl))
    refine EV.bin ?_
    refine EV.bin ?_
    refine EV.bin ?_
    refine EV.intN (n := 2) rfl ?_
    refine EV.attr (formK hW) rfl rfl ?_ (loc_of (by assumption) rfl)
    refine OpV.powN (n := eb) (by have := hF.h2; omega) (by decide) ?_
    refine EV.intN (n := 1) rfl ?_
    refine OpV.subN (Nat.pow_pos (by decide)) ?_
    refine EV.bin ?_
    refine EV.intN (n := 2) rfl ?_
    refine EV.attr (formK hW) rfl rfl ?_ (loc_of (by assumption) rfl)
    refine OpV.powN (n := fb) (by have := hF.h4; omega) (by decide) ?_
    refine OpV.mulB (k := 10) (j := 30) (Bd.nat (by have := top_le hF; omega)) (Bd.nat (by have := hid_le hF; omega)) (by decide) (by decide) ?_
    refine Then.next ?_
    refine WS.cons (WS1.for ?_ (loc_of (by assumption) rfl))
    refine EV.tuple ?_
    refine EVL.cons ?_
    refine EV.callF (g_law_wide hW) (k_law_wide hW) (loc_of (by assumption) rfl) ?_
    refine EVL.cons ?_
    refine EV.name rfl ?_ (loc_of (by assumption) rfl)
    refine EVL.cons ?_
    refine EV.bin ?_
    refine EV.intN (n := 2) rfl ?_
    refine EV.name rfl ?_ (loc_of (by assumption) rfl)
    refine OpV.mulB (k := 3) (j := 32) (Bd.nat (by decide)) (Bd.nat (by omega)) (by decide) (by decide) ?_
    refine EVL.nil ?_
    refine law_wide_ (c := c + 2) hW (by omega) (by omega) (by omega) (by omega) hp2 ?_
    intro v3 σ3 hv3 hp3
    refine EVL.cons ?_
    refine EV.bin ?_
    refine EV.bin ?_
    refine EV.name rfl ?_ (loc_of (by assumption) rfl)
    refine EV.callF (g_law_digit hW) (k_law_digit hW) (loc_of (by assumption) rfl) ?_
    refine EVL.cons ?_
    refine EV.name rfl ?_ (loc_of (by assumption) rfl)
    refine EVL.cons ?_
    refine EV.intN (n := 2) rfl ?_
    refine EVL.nil ?_
    refine law_digit_ (c := c + 4) hW (by omega) (by omega) (by decide) (by decide) hp3 ?_
    intro v4 σ4 hv4 hp4
    refine OpV.mulB (k := 32) (j := 2) (Bd.nat (by omega)) (Bd.nat (by omega)) (by decide) (by decide) ?_
    refine EV.bin ?_
    refine EV.callF (g_law_digit hW) (k_law_digit hW) (loc_of (by assumption) rfl) ?_
    refine EVL.cons ?_
    refine EV.name rfl ?_ (loc_of (by assumption) rfl)
    refine EVL.cons ?_
    refine EV.intN (n := 9) rfl ?_
    refine EVL.nil ?_
    refine law_digit_ (c := c + 5) hW (by omega) (by omega) (by decide) (by decide) hp4 ?_
    intro v5 σ5 hv5 hp5
    refine EV.name rfl ?_ (loc_of (by assumption) rfl)
    refine OpV.fmodN htop0 ?_
    refine OpV.addN ?_
    refine EVL.nil ?_
    refine ⟨by simp, ?_⟩
    refine ⟨_, Itr.tup _, ?_⟩
    refine FL.each (α := Unit) (fun _ => [(Str.ofString "pool", .addr P), (Str.ofString "form", .form (frm eb fb)), (Str.ofString "span", .int ((2 ^ eb * 2 ^ fb : Nat) : Int)), (Str.ofString "top", .int (((2 ^ eb - 1) * 2 ^ fb : Nat) : Int))]) (fun _ => σ5) (fun _ r => ∀ x ∈ r, ∃ b : Nat, x = PV.int (b : Int) ∧ b < 2 * (2 ^ eb * 2 ^ fb)) () (LocLe.sub ⟨rfl, rfl, rfl, rfl, trivial⟩) rfl ?_ ?_ ?_
    · intro x hx
      rcases List.mem_cons.mp hx with hx | hx
      · exact ⟨_, hx, hv3⟩
      · refine ⟨_, List.mem_singleton.mp hx, ?_⟩
        have h7 : 2 ^ eb * 2 ^ fb * v4 ≤ 2 ^ eb * 2 ^ fb * 1 := Nat.mul_le_mul_left _ (by omega)
        have h8 := Nat.mod_lt v5 htop0
        omega
    · rintro _ x rest2 hI
      obtain ⟨b, hxb, hb⟩ := hI x List.mem_cons_self
      subst hxb
      obtain ⟨s, size, hbs, hs, hsz⟩ := split_bits hb
      subst hbs
      obtain ⟨hbf1, hbf2, hbf3, hbf4⟩ := bits_facts (s := s) hsz
      have hIr : ∀ x ∈ rest2, ∃ b : Nat, x = PV.int (b : Int) ∧ b < 2 * (2 ^ eb * 2 ^ fb) := fun y hy => hI y (List.mem_cons_of_mem _ hy)
      refine WS.forget [(Str.ofString "pool", .addr P), (Str.ofString "form", .form (frm eb fb)), (Str.ofString "span", .int ((2 ^ eb * 2 ^ fb : Nat) : Int)), (Str.ofString "top", .int (((2 ^ eb - 1) * 2 ^ fb : Nat) : Int)), (Str.ofString "bits", .int ((s * 2 ^ eb * 2 ^ fb + size : Nat) : Int))] ⟨rfl, rfl, rfl, rfl, rfl, trivial⟩ ?_
      refine WS.cons (WS1.asg ?_ (loc_of (by assumption) rfl))
      refine EV.callF (g_write_real hW) (k_write_real hW) (loc_of (by assumption) rfl) ?_
      refine EVL.cons ?_
      refine EV.name rfl ?_ (loc_of (by assumption) rfl)
      refine EVL.cons ?_
      refine EV.name rfl ?_ (loc_of (by assumption) rfl)
      refine EVL.nil ?_
      refine write_real_ hW (by omega) hF hs hsz ?_
      intro t ht
      refine Then.next ?_
      refine WS.cons (WS1.asg ?_ (loc_of (by assumption) rfl))
      refine EV.bin ?_
      refine EV.name rfl ?_ (loc_of (by assumption) rfl)
      refine EV.name rfl ?_ (loc_of (by assumption) rfl)
      refine OpV.fmodE hbf4 hsp0 ?_
      refine Then.next ?_
      refine WS.cons (WS1.ite ?_)
      refine TV.cmp ?_
      refine EV.name rfl ?_ (loc_of (by assumption) rfl)
      refine EV.name rfl ?_ (loc_of (by assumption) rfl)
      refine CmpV.gtN ?_
      refine ⟨_, rfl, ?_⟩
      refine ⟨fun h1 => ?_, fun h1 => ?_⟩
      · try simp only [decide_eq_true_eq, decide_eq_false_iff_not, Bool.not_eq_true', Bool.not_eq_false'] at h1
        have hnan := wtx_nan ht h1
        refine WS.cons (WS1.iteF ?_ ?_)
        · refine TV.or ?_
          refine TV.cmp ?_
          refine EV.name rfl ?_ (loc_of (by assumption) rfl)
          refine EV.strS (l := [78, 65, 78]) (by decide +kernel) ?_
          refine CmpV.sneS ?_
          refine ⟨_, rfl, ?_⟩
          refine ⟨fun h2 => ?_, fun h2 => ?_⟩
          · try simp only [decide_eq_true_eq, decide_eq_false_iff_not, Bool.not_eq_true', Bool.not_eq_false'] at h2
            exfalso
            first
            | exact absurd hnan (by assumption)
            | simp at h3
          · try simp only [decide_eq_true_eq, decide_eq_false_iff_not, Bool.not_eq_true', Bool.not_eq_false'] at h2
            refine TV.or ?_
            refine TV.cmp ?_
            refine EV.callF (g_read_real hW) (k_read_real hW) (loc_of (by assumption) rfl) ?_
            refine EVL.cons ?_
            refine EV.name rfl ?_ (loc_of (by assumption) rfl)
            refine EVL.cons ?_
            refine EV.name rfl ?_ (loc_of (by assumption) rfl)
            refine EVL.nil ?_
            refine read_real_ hW (by omega) hF hs hsz ht ?_
            rw [if_pos h1]
            refine EV.tuple ?_
            refine EVL.cons ?_
            refine EV.bool ?_
            refine EVL.cons ?_
            refine EV.callF (g_not_a_number hW) (k_not_a_number hW) (loc_of (by assumption) rfl) ?_
            refine EVL.cons ?_
            refine EV.name rfl ?_ (loc_of (by assumption) rfl)
            refine EVL.nil ?_
            refine not_a_number_ hW (by omega) hF ?_
            refine EVL.nil ?_
            refine ⟨by simp, ?_⟩
            refine CmpV.pne ?_
            refine ⟨_, rfl, ?_⟩
            refine ⟨fun h3 => ?_, fun h3 => ?_⟩
            · try simp only [decide_eq_true_eq, decide_eq_false_iff_not, Bool.not_eq_true', Bool.not_eq_false'] at h3
              exfalso
              first
              | exact absurd hnan (by assumption)
              | simp at h3
            · try simp only [decide_eq_true_eq, decide_eq_false_iff_not, Bool.not_eq_true', Bool.not_eq_false'] at h3
              refine TV.or_nil ?_
              exact ⟨rfl, rfl⟩
        refine Then.next ?_
        refine WS.cons (WS1.cont ?_)
        first
        | (refine Then.cont ?_; exact EachQ.goC () ⟨rfl, rfl, rfl, rfl, trivial⟩ rfl hIr)
        | (refine Then.cont (Then.cont ?_); exact EachQ.goC () ⟨rfl, rfl, rfl, rfl, trivial⟩ rfl hIr)
      · try simp only [decide_eq_true_eq, decide_eq_false_iff_not, Bool.not_eq_true', Bool.not_eq_false'] at h1
        refine WS.nil ?_
        refine Then.next ?_
        obtain ⟨u, hu, htl, hsl, hdrop, ⟨c0, hc0, hc45⟩, hinf, hzero, hnum⟩ := wtx_mid hF hsz hs ht h1
        have hbne : (decide ([c0] = [45]) != decide (2 ^ eb * 2 ^ fb ≤ s * 2 ^ eb * 2 ^ fb + size)) = false := by
          have e : decide ([c0] = [45]) = decide (2 ^ eb * 2 ^ fb ≤ s * 2 ^ eb * 2 ^ fb + size) := decide_eq_decide.mpr (by
            rw [hc45, Nat.mul_assoc]
            rcases (show s = 0 ∨ s = 1 by omega) with z | z <;> subst z
            · omega
            · omega)
          rw [e]; simp
        refine WS.cons (WS1.iteF ?_ ?_)
        · refine TV.or ?_
          refine TV.cmp ?_
          refine EV.callF (g_read_real hW) (k_read_real hW) (loc_of (by assumption) rfl) ?_
          refine EVL.cons ?_
          refine EV.name rfl ?_ (loc_of (by assumption) rfl)
          refine EVL.cons ?_
          refine EV.name rfl ?_ (loc_of (by assumption) rfl)
          refine EVL.nil ?_
          refine read_real_ hW (by omega) hF hs hsz ht ?_
          rw [if_neg h1]
          refine EV.tuple ?_
          refine EVL.cons ?_
          refine EV.bool ?_
          refine EVL.cons ?_
          refine EV.name rfl ?_ (loc_of (by assumption) rfl)
          refine EVL.nil ?_
          refine ⟨by simp, ?_⟩
          refine CmpV.pne ?_
          refine ⟨_, rfl, ?_⟩
          refine ⟨fun h2 => ?_, fun h2 => ?_⟩
          · try simp only [decide_eq_true_eq, decide_eq_false_iff_not, Bool.not_eq_true', Bool.not_eq_false'] at h2
            exfalso
            first
            | (simp at h2; done)
            | (rw [hbne] at h3; exact absurd h3 (by decide))
          · try simp only [decide_eq_true_eq, decide_eq_false_iff_not, Bool.not_eq_true', Bool.not_eq_false'] at h2
            refine TV.or ?_
            refine TV.cmp ?_
            refine EV.cmp ?_
            refine EV.sub ?_
            refine EV.name rfl ?_ (loc_of (by assumption) rfl)
            refine EV.int ?_
            refine SubV.strS (j := 0) (c := c0) rfl (by decide) hc0 ?_
            refine EV.strS (l := [45]) (by decide +kernel) ?_
            refine CmpV.seqS ?_
            refine EV.cmp ?_
            refine EV.name rfl ?_ (loc_of (by assumption) rfl)
            refine EV.name rfl ?_ (loc_of (by assumption) rfl)
            refine CmpV.geN ?_
            refine CmpV.bne ?_
            refine ⟨_, rfl, ?_⟩
            refine ⟨fun h3 => ?_, fun h3 => ?_⟩
            · try simp only [decide_eq_true_eq, decide_eq_false_iff_not, Bool.not_eq_true', Bool.not_eq_false'] at h3
              exfalso
              first
              | (simp at h2; done)
              | (rw [hbne] at h3; exact absurd h3 (by decide))
            · try simp only [decide_eq_true_eq, decide_eq_false_iff_not, Bool.not_eq_true', Bool.not_eq_false'] at h3
              refine TV.or_nil ?_
              exact ⟨rfl, rfl⟩
        refine Then.next ?_
        refine WS.cons (WS1.ite ?_)
        refine TV.or ?_
        refine TV.cmp ?_
        refine EV.name rfl ?_ (loc_of (by assumption) rfl)
        refine EV.name rfl ?_ (loc_of (by assumption) rfl)
        refine CmpV.eqN ?_
        refine ⟨_, rfl, ?_⟩
        refine ⟨fun h2 => ?_, fun h2 => ?_⟩
        · try simp only [decide_eq_true_eq, decide_eq_false_iff_not, Bool.not_eq_true', Bool.not_eq_false'] at h2
          refine ⟨fun _ => ?_, fun h => absurd h (by decide)⟩
          have hdiv : (s * 2 ^ eb * 2 ^ fb + size) / (2 ^ eb * 2 ^ fb) = s := by
            rw [Nat.mul_assoc, Nat.mul_comm s, Nat.mul_add_div hsp0, Nat.div_eq_of_lt hsz, Nat.add_zero]
          refine WS.cons (WS1.iteF ?_ ?_)
          · refine TV.cmp ?_
            refine EV.slice_sn ?_
            refine EV.name rfl ?_ (loc_of (by assumption) rfl)
            refine EV.bin ?_
            refine EV.name rfl ?_ (loc_of (by assumption) rfl)
            refine EV.name rfl ?_ (loc_of (by assumption) rfl)
            refine OpV.fdivE (c := s) (k := 40) hdiv hsp0 (by omega) (by decide) ?_
            refine ⟨_, ((s : Nat) : Int), rfl, rfl, by rw [S_len]; omega, ?_⟩
            rw [S_from _ hsl, hdrop]
            refine EV.ife ?_
            refine TV.cmp ?_
            refine EV.name rfl ?_ (loc_of (by assumption) rfl)
            refine EV.name rfl ?_ (loc_of (by assumption) rfl)
            refine CmpV.eqN ?_
            refine ⟨_, rfl, ?_⟩
            refine ⟨fun h3 => ?_, fun h3 => ?_⟩
            · try simp only [decide_eq_true_eq, decide_eq_false_iff_not, Bool.not_eq_true', Bool.not_eq_false'] at h3
              refine EV.strS (l := [73, 78, 70]) (by decide +kernel) ?_
              refine CmpV.sneS ?_
              refine ⟨_, rfl, ?_⟩
              refine ⟨Bool.eq_false_iff.mpr fun hlast => ?_, rfl⟩
              try simp only [decide_eq_true_eq, Bool.not_eq_true'] at hlast
              first
              | exact hlast (hinf (by assumption))
              | exact hlast (hzero (by assumption))
              | contradiction
            · try simp only [decide_eq_true_eq, decide_eq_false_iff_not, Bool.not_eq_true', Bool.not_eq_false'] at h3
              refine EV.strS (l := [48, 46, 48]) (by decide +kernel) ?_
              refine CmpV.sneS ?_
              refine ⟨_, rfl, ?_⟩
              refine ⟨Bool.eq_false_iff.mpr fun hlast => ?_, rfl⟩
              try simp only [decide_eq_true_eq, Bool.not_eq_true'] at hlast
              first
              | exact hlast (hinf (by assumption))
              | exact hlast (hzero (by assumption))
              | contradiction
          refine Then.next ?_
          refine WS.cons (WS1.cont ?_)
          first
          | (refine Then.cont ?_; exact EachQ.goC () ⟨rfl, rfl, rfl, rfl, trivial⟩ rfl hIr)
          | (refine Then.cont (Then.cont ?_); exact EachQ.goC () ⟨rfl, rfl, rfl, rfl, trivial⟩ rfl hIr)
        · try simp only [decide_eq_true_eq, decide_eq_false_iff_not, Bool.not_eq_true', Bool.not_eq_false'] at h2
          refine TV.or ?_
          refine TV.cmp ?_
          refine EV.name rfl ?_ (loc_of (by assumption) rfl)
          refine EV.intN (n := 0) rfl ?_
          refine CmpV.eqN ?_
          refine ⟨_, rfl, ?_⟩
          refine ⟨fun h3 => ?_, fun h3 => ?_⟩
          · try simp only [decide_eq_true_eq, decide_eq_false_iff_not, Bool.not_eq_true', Bool.not_eq_false'] at h3
            refine ⟨fun _ => ?_, fun h => absurd h (by decide)⟩
            have hdiv : (s * 2 ^ eb * 2 ^ fb + size) / (2 ^ eb * 2 ^ fb) = s := by
              rw [Nat.mul_assoc, Nat.mul_comm s, Nat.mul_add_div hsp0, Nat.div_eq_of_lt hsz, Nat.add_zero]
            refine WS.cons (WS1.iteF ?_ ?_)
            · refine TV.cmp ?_
              refine EV.slice_sn ?_
              refine EV.name rfl ?_ (loc_of (by assumption) rfl)
              refine EV.bin ?_
              refine EV.name rfl ?_ (loc_of (by assumption) rfl)
              refine EV.name rfl ?_ (loc_of (by assumption) rfl)
              refine OpV.fdivE (c := s) (k := 40) hdiv hsp0 (by omega) (by decide) ?_
              refine ⟨_, ((s : Nat) : Int), rfl, rfl, by rw [S_len]; omega, ?_⟩
              rw [S_from _ hsl, hdrop]
              refine EV.ife ?_
              refine TV.cmp ?_
              refine EV.name rfl ?_ (loc_of (by assumption) rfl)
              refine EV.name rfl ?_ (loc_of (by assumption) rfl)
              refine CmpV.eqN ?_
              refine ⟨_, rfl, ?_⟩
              refine ⟨fun h4 => ?_, fun h4 => ?_⟩
              · try simp only [decide_eq_true_eq, decide_eq_false_iff_not, Bool.not_eq_true', Bool.not_eq_false'] at h4
                refine EV.strS (l := [73, 78, 70]) (by decide +kernel) ?_
                refine CmpV.sneS ?_
                refine ⟨_, rfl, ?_⟩
                refine ⟨Bool.eq_false_iff.mpr fun hlast => ?_, rfl⟩
                try simp only [decide_eq_true_eq, Bool.not_eq_true'] at hlast
                first
                | exact hlast (hinf (by assumption))
                | exact hlast (hzero (by assumption))
                | contradiction
              · try simp only [decide_eq_true_eq, decide_eq_false_iff_not, Bool.not_eq_true', Bool.not_eq_false'] at h4
                refine EV.strS (l := [48, 46, 48]) (by decide +kernel) ?_
                refine CmpV.sneS ?_
                refine ⟨_, rfl, ?_⟩
                refine ⟨Bool.eq_false_iff.mpr fun hlast => ?_, rfl⟩
                try simp only [decide_eq_true_eq, Bool.not_eq_true'] at hlast
                first
                | exact hlast (hinf (by assumption))
                | exact hlast (hzero (by assumption))
                | contradiction
            refine Then.next ?_
            refine WS.cons (WS1.cont ?_)
            first
            | (refine Then.cont ?_; exact EachQ.goC () ⟨rfl, rfl, rfl, rfl, trivial⟩ rfl hIr)
            | (refine Then.cont (Then.cont ?_); exact EachQ.goC () ⟨rfl, rfl, rfl, rfl, trivial⟩ rfl hIr)
          · try simp only [decide_eq_true_eq, decide_eq_false_iff_not, Bool.not_eq_true', Bool.not_eq_false'] at h3
            refine TV.or_nil ?_
            refine ⟨fun h => absurd h (by decide), fun _ => ?_⟩
            refine WS.nil ?_
            refine Then.next ?_
            obtain ⟨d, P', hsd, hdb, hP1, hP2, hud⟩ := hnum (Nat.pos_of_ne_zero h3) (by omega)
            obtain ⟨bf, bh, sc, p0, k, T0⟩ := pt_ok (P := P') hsd.pos
            obtain ⟨hl3, hpb, hil⟩ := plc_bd hdb hP1 hP2
            have T : PTx u d P' bf bh sc p0 k := hud ▸ T0
            have hul : u.length ≤ 400 := by rw [hud]; exact ptext_len hl3 hil
            refine WS.cons (WS1.unpack (NamesOf.cons (NamesOf.cons (NamesOf.cons (NamesOf.cons (NamesOf.cons NamesOf.nil))))) (locs_of (by assumption) (by decide)) ?_ )
            refine EV.callF (g_law_taken hW) (k_law_taken hW) (loc_of (by assumption) rfl) ?_
            refine EVL.cons ?_
            refine EV.name rfl ?_ (loc_of (by assumption) rfl)
            refine EVL.cons ?_
            refine EV.name rfl ?_ (loc_of (by assumption) rfl)
            refine EVL.nil ?_
            refine law_taken_ hW (by omega) T hu hul hsd.pos hsd.tail (fun h => by rw [T.p0e h]; exact hil) ?_
            refine ⟨_, Seq.tup _, rfl, ?_⟩
            refine Then.next ?_
            refine WS.cons (WS1.asg ?_ (loc_of (by assumption) rfl))
            refine EV.bin ?_
            refine EV.bin ?_
            refine EV.callB (g_len hW) (by boot_by_name) (loc_of (by assumption) rfl) ?_
            refine EVL.cons ?_
            refine EV.callT (g_str hW) (by boot_by_name) (loc_of (by assumption) rfl) ?_
            refine EVL.cons ?_
            refine EV.name rfl ?_ (loc_of (by assumption) rfl)
            refine EVL.nil ?_
            refine CallV.strN (k := 950) (Bd.nat hdb) (by decide) ?_
            refine EVL.nil ?_
            refine CallV.lenS' (by omega) ?_
            refine EV.name rfl ?_ (loc_of (by assumption) rfl)
            refine OpV.add ?_
            refine EV.int ?_
            refine OpV.subE' (c := plc d P') rfl ?_
            refine Then.next ?_
            refine WS.cons (WS1.iteF ?_ ?_)
            · refine TV.or ?_
              refine TV.cmp ?_
              refine EV.name rfl ?_ (loc_of (by assumption) rfl)
              refine EV.strS (l := []) (by decide +kernel) ?_
              refine CmpV.seqS ?_
              refine ⟨_, rfl, ?_⟩
              refine ⟨fun h4 => ?_, fun h4 => ?_⟩
              · try simp only [decide_eq_true_eq, decide_eq_false_iff_not, Bool.not_eq_true', Bool.not_eq_false'] at h4
                exfalso
                first
                | exact absurd (by assumption) T.n1
                | exact absurd (by assumption) T.n2
                | (rw [T.sci, decide_eq_true (.inl (by assumption))] at h7; exact absurd h7 (by decide))
                | (rw [T.sci, show decide (plc d P' < -4 ∨ 9 ≤ plc d P') = decide (8 < plc d P') from decide_eq_decide.mpr (by omega)] at h7; simp at h7)
              · try simp only [decide_eq_true_eq, decide_eq_false_iff_not, Bool.not_eq_true', Bool.not_eq_false'] at h4
                refine TV.or ?_
                refine TV.cmp ?_
                refine EV.name rfl ?_ (loc_of (by assumption) rfl)
                refine EV.strS (l := []) (by decide +kernel) ?_
                refine CmpV.seqS ?_
                refine ⟨_, rfl, ?_⟩
                refine ⟨fun h5 => ?_, fun h5 => ?_⟩
                · try simp only [decide_eq_true_eq, decide_eq_false_iff_not, Bool.not_eq_true', Bool.not_eq_false'] at h5
                  exfalso
                  first
                  | exact absurd (by assumption) T.n1
                  | exact absurd (by assumption) T.n2
                  | (rw [T.sci, decide_eq_true (.inl (by assumption))] at h7; exact absurd h7 (by decide))
                  | (rw [T.sci, show decide (plc d P' < -4 ∨ 9 ≤ plc d P') = decide (8 < plc d P') from decide_eq_decide.mpr (by omega)] at h7; simp at h7)
                · try simp only [decide_eq_true_eq, decide_eq_false_iff_not, Bool.not_eq_true', Bool.not_eq_false'] at h5
                  refine TV.or ?_
                  refine TV.cmp ?_
                  refine EV.name rfl ?_ (loc_of (by assumption) rfl)
                  refine EV.or ?_
                  refine EV.cmp ?_
                  refine EV.name rfl ?_ (loc_of (by assumption) rfl)
                  refine EV.un ?_
                  refine EV.int ?_
                  refine UnV.neg ?_
                  refine CmpV.lt ?_
                  refine ⟨_, rfl, fun h6 => ?_, fun h6 => ?_⟩
                  · try simp only [decide_eq_true_eq, decide_eq_false_iff_not, Bool.not_eq_true', Bool.not_eq_false'] at h6
                    refine CmpV.bne ?_
                    refine ⟨_, rfl, ?_⟩
                    refine ⟨fun h7 => ?_, fun h7 => ?_⟩
                    · try simp only [decide_eq_true_eq, decide_eq_false_iff_not, Bool.not_eq_true', Bool.not_eq_false'] at h7
                      exfalso
                      first
                      | exact absurd (by assumption) T.n1
                      | exact absurd (by assumption) T.n2
                      | (rw [T.sci, decide_eq_true (.inl (by assumption))] at h7; exact absurd h7 (by decide))
                      | (rw [T.sci, show decide (plc d P' < -4 ∨ 9 ≤ plc d P') = decide (8 < plc d P') from decide_eq_decide.mpr (by omega)] at h7; simp at h7)
                    · try simp only [decide_eq_true_eq, decide_eq_false_iff_not, Bool.not_eq_true', Bool.not_eq_false'] at h7
                      refine TV.or_nil ?_
                      exact ⟨rfl, rfl⟩
                  · try simp only [decide_eq_true_eq, decide_eq_false_iff_not, Bool.not_eq_true', Bool.not_eq_false'] at h6
                    refine EV.bo_one ?_
                    refine EV.cmp ?_
                    refine EV.name rfl ?_ (loc_of (by assumption) rfl)
                    refine EV.int ?_
                    refine CmpV.gt ?_
                    refine CmpV.bne ?_
                    refine ⟨_, rfl, ?_⟩
                    refine ⟨fun h7 => ?_, fun h7 => ?_⟩
                    · try simp only [decide_eq_true_eq, decide_eq_false_iff_not, Bool.not_eq_true', Bool.not_eq_false'] at h7
                      exfalso
                      first
                      | exact absurd (by assumption) T.n1
                      | exact absurd (by assumption) T.n2
                      | (rw [T.sci, decide_eq_true (.inl (by assumption))] at h7; exact absurd h7 (by decide))
                      | (rw [T.sci, show decide (plc d P' < -4 ∨ 9 ≤ plc d P') = decide (8 < plc d P') from decide_eq_decide.mpr (by omega)] at h7; simp at h7)
                    · try simp only [decide_eq_true_eq, decide_eq_false_iff_not, Bool.not_eq_true', Bool.not_eq_false'] at h7
                      refine TV.or_nil ?_
                      exact ⟨rfl, rfl⟩
            refine Then.next ?_
            refine WS.cons (WS1.iteF ?_ ?_)
            · refine TV.and ?_
              refine TV.plain ?_
              refine EV.name rfl ?_ (loc_of (by assumption) rfl)
              refine TrV.bool ?_
              refine ⟨fun h4 => ?_, fun h4 => ?_⟩
              · try simp only [decide_eq_true_eq, decide_eq_false_iff_not, Bool.not_eq_true', Bool.not_eq_false'] at h4
                refine TV.and ?_
                refine TV.or ?_
                refine TV.cmp ?_
                refine EV.callB (g_len hW) (by boot_by_name) (loc_of (by assumption) rfl) ?_
                refine EVL.cons ?_
                refine EV.name rfl ?_ (loc_of (by assumption) rfl)
                refine EVL.nil ?_
                refine CallV.lenS' (by have h9 := congrArg List.length T.eq; rw [List.length_append] at h9; omega) ?_
                refine EV.intN (n := 1) rfl ?_
                refine CmpV.neN ?_
                refine ⟨_, rfl, ?_⟩
                refine ⟨fun h5 => ?_, fun h5 => ?_⟩
                · try simp only [decide_eq_true_eq, decide_eq_false_iff_not, Bool.not_eq_true', Bool.not_eq_false'] at h5
                  refine ⟨fun _ => ?_, fun h => absurd h (by decide)⟩
                  refine TV.and_nil ?_
                  exfalso
                  first
                  | exact absurd (T.one h4).1 (by assumption)
                  | exact absurd (by assumption) (T.one h4).2
                · try simp only [decide_eq_true_eq, decide_eq_false_iff_not, Bool.not_eq_true', Bool.not_eq_false'] at h5
                  refine TV.or ?_
                  refine TV.cmp ?_
                  refine EV.name rfl ?_ (loc_of (by assumption) rfl)
                  refine EV.strS (l := [48]) (by decide +kernel) ?_
                  refine CmpV.seqS ?_
                  refine ⟨_, rfl, ?_⟩
                  refine ⟨fun h6 => ?_, fun h6 => ?_⟩
                  · try simp only [decide_eq_true_eq, decide_eq_false_iff_not, Bool.not_eq_true', Bool.not_eq_false'] at h6
                    refine ⟨fun _ => ?_, fun h => absurd h (by decide)⟩
                    refine TV.and_nil ?_
                    exfalso
                    first
                    | exact absurd (T.one h4).1 (by assumption)
                    | exact absurd (by assumption) (T.one h4).2
                  · try simp only [decide_eq_true_eq, decide_eq_false_iff_not, Bool.not_eq_true', Bool.not_eq_false'] at h6
                    refine TV.or_nil ?_
                    refine ⟨fun h => absurd h (by decide), fun _ => ?_⟩
                    exact ⟨rfl, rfl⟩
              · try simp only [decide_eq_true_eq, decide_eq_false_iff_not, Bool.not_eq_true', Bool.not_eq_false'] at h4
                exact ⟨rfl, rfl⟩
            refine Then.next ?_
            refine WS.cons (WS1.iteF ?_ ?_)
            · refine TV.not ?_
              refine TV.plain ?_
              refine EV.callF (g_law_shortest hW) (k_law_shortest hW) (loc_of (by assumption) rfl) ?_
              refine EVL.cons ?_
              refine EV.name rfl ?_ (loc_of (by assumption) rfl)
              refine EVL.cons ?_
              refine EV.name rfl ?_ (loc_of (by assumption) rfl)
              refine EVL.cons ?_
              refine EV.name rfl ?_ (loc_of (by assumption) rfl)
              refine EVL.cons ?_
              refine EV.name rfl ?_ (loc_of (by assumption) rfl)
              refine EVL.nil ?_
              refine law_shortest_ hW (by omega) hF (Nat.pos_of_ne_zero h3) (by omega) hsd hdb hP1 hP2 ?_
              refine TrV.bool ?_
              refine ⟨Bool.eq_false_iff.mpr fun hlast => ?_, rfl⟩
              try simp only [decide_eq_true_eq, Bool.not_eq_true'] at hlast
              first | contradiction | exact absurd hlast (by decide)
            refine Then.next ?_
            refine WS.nil ?_
            exact EachQ.goN () ⟨rfl, rfl, rfl, rfl, trivial⟩ rfl hIr
    · rintro _ ρ' hρ _
      refine Then.next (WS.sub hρ ?_)
      refine WS.nil ?_
      exact EachQ.goN (c + 6, σ5) ⟨rfl, trivial⟩ rfl ⟨hp5, by show c + 6 + 6 * rest.length ≤ 18; omega⟩
  · rintro ⟨c, σ0⟩ ρ' hρ _
    refine Then.next (WS.sub hρ ?_)
    refine WS.cons (WS1.ret ?_)
    refine EV.bool ?_
    exact rfl

end
end Mine

set_option maxHeartbeats 4000000
namespace Mine
theorem law_join {w : World} {s₁ : Shared} {mg mb : Str → Option Value} {mean : ExcName → Option Value} {loose : List Str} {prog : Program} {L : Addr} {nm : Str} {body : List Stmt} {sc : Scope} {fa : Addr} {cd : Value}
    {a : Addr} {vs : List Value} {ns : List Int} {m : Str → Option Value} {QQ : Flow → Shared → Prop} {EE : Value → Shared → Prop} {s : Shared}
    (KX : (lawHeap w.params).In s₁.heap) (T : Top lawView loose mean mg mb s₁.heap) (B : Below callerA s₁.heap [] s₁.heap)
    (hL : s₁.heap.IsList a vs.toArray) (hI : IntsAre vs ns) (hn : ¬ (63 : Int) < ns.length) (F : Fr s₁.heap L s.heap m) (N : News s₁.heap L s.heap []) (hm : m (Str.ofString "script") = some (.ref a))
    (hg : s.gens = #[]) (hos : s.os = s₁.os) (hk : sc.kind = .function)
    (hlk : ∃ oc od name qual params dV kV doc pm an cdv ct osl, (lawHeap w.params).lookup 282 = some ⟨oc, od, .func (fnOf name qual params body sc dV kV doc pm an cdv ct), osl⟩)
    (hQ : ∀ s' m', Fr s₁.heap L s'.heap m' → s'.gens = #[] → s'.os = s₁.os → QQ (.ret (.bool true)) s') :
    wpAny (model prog w) (callerA.deeper (envOf nm sc L fa cd)) (execs body (envOf nm sc L fa cd)) QQ EE s := by
  let X : Fx := { W := ⟨prog, w, lawHeap w.params, lawView, loose, mean, mg, mb, s₁.os, 31⟩, d := 20, A₀ := callerA, base := s₁.heap, outer := [], A := callerA.deeper (envOf nm sc L fa cd), h₀ := s₁.heap, L := L, nm := nm, sc := sc, fa := fa, cd := cd }
  have hW : IsW X.W := ⟨rfl, rfl⟩
  obtain ⟨oc, od, name, qual, params, body', scope', dV, kV, doc, pm, an, cdv, ct, osl, hlk2, H⟩ := law_full (X := X) hW (Nat.le_of_ble_eq_true rfl) (a := a) (vs := vs) (ns := ns) hL hI (by omega)
  obtain ⟨oc', od', name', qual', params', dV', kV', doc', pm', an', cdv', ct', osl', hlk1⟩ := hlk
  have hlk3 : (lawHeap w.params).lookup 282 = _ := hlk2
  rw [hlk1] at hlk3
  injection hlk3 with z
  injection z with _ _ z2 _
  injection z2 with z3
  have e1 : body = body' := by
    have := congrArg FuncData.body z3
    injection this
  have e2 : sc = scope' := congrArg FuncData.scope z3
  subst e1
  have ok : X.Ok := ⟨B, KX, T, rfl, rfl, hk, Nat.le_of_ble_eq_true rfl, Nat.le_of_ble_eq_true rfl⟩
  have S : St X [] [] [] m s := ⟨ok, F, N, fun p hp => (by cases hp), fun p hp => (by cases hp), fun p hp => (by cases hp), hg, hos⟩
  have M : RepM X.W.C [] m [(Str.ofString "script", .addr a)] := fun y p e => by
    unfold Loc.get at e
    by_cases c : Str.ofString "script" = y
    · rw [if_pos c] at e; cases e; exact ⟨.ref a, c ▸ hm, .addr a⟩
    · rw [if_neg c] at e; cases e
  refine wpAny_mono (H e2 m s S M) (fun f s' ⟨R, R', m', σ', r, e', S', rr, q⟩ => ?_) noE
  cases rr with
  | ret rv =>
    have q' : _ = PV.bool true := q
    subst q'
    cases rv
    exact hQ s' m' S'.fr S'.gens S'.os
  | next _ => exact absurd q (by intro z; cases z)
  | brk _ => exact q.elim
  | cont _ => exact q.elim
end Mine

set_option maxHeartbeats 8000000 in
theorem PySem.Challenge.cw_pb0344_01_holds : PySem.Challenge.rw_pb0344_01.Holds := by
  w_on
  refine holds_law Mine.lawSaid fun said => ?_
  refine holds_open (q := Mine.lawView) (loose := Mine.LawLoose) (Xt := fun s => xlAt Mine.lawView [] s && recOk (RowW.records (OpenRow.toRowW PySem.Challenge.rw_pb0344_01.row)) s) (XP := XL Mine.lawView []) (Yf := Hook.obs Mine.lawHook) (Ya := Hook.val Mine.lawHook) (YP := Hook.says Mine.lawHook) (N := 3008) Mine.lawLeft (Hook.of Mine.lawHook) (Hook.keeps Mine.lawHook) (fun s e => xl_of s (Bool.and_eq_true_iff.mp e).1) XL.keeps (by rfl) (by rfl) (by rfl) (fun s e => recFacts_of (Bool.and_eq_true_iff.mp e).2) (by rfl) (by first | assumption | decide +kernel) (by decide +kernel) ⟨rfl, rfl, rfl, rfl, rfl, by decide +kernel⟩ ?hw ?hc
  case hw => w_witness2
  intro w s₀ s₁ mg mb G Y fa o pm cd doc dV kV ho hd hcd hD hmg hg args vals as hpre hlay hrd hwl hlo
  have KX : (Mine.lawHeap w.params).In s₁.heap := kIn_of Y
  have V := (Ground.X G).2
  refine Ground.open G ?_
  intro T B D TE TW
  try (refine guard_noD D (by decide +kernel) ?_; clear D)
  obtain ⟨_, _, M⟩ := bmod_of_top T
  have TA := at_of_top T
  try (obtain ⟨_, _, he, B0⟩ := based_of_top T rfl hmg ho hd; have he' : cd = _ := he; subst he'; clear he)
  clear hmg
  wrow_args hpre hlay hrd hwl hlo
  refine enter_call ?_
  w_top on
  refine codeAny_mono ?_ (fun _ _ g => GoodW.toG g)
  w_call any ho hd hcd hD T F
  refine Mine.law_join (mean := ?me) (m := ?mm) (a := ?aa) (vs := ?vv) (ns := ?nn) (mg := ?g1) (mb := ?g2) (loose := ?lo) KX ?T (below_caller _) ?hL ?hI ?hn ?F ?N ?hm ?hg rfl rfl ⟨_, _, _, _, _, _, _, _, _, _, _, _, _, rfl⟩ ?_
  case T => assumption
  case hL => assumption
  case hI => assumption
  case hn => assumption
  case F => assumption
  case N => assumption
  case hm => rfl
  case hg => assumption
  · intro s' m' F' hg hos
    refine goodW_bool F' hg (raisesW_false ?_) ?_ hos
    · wrow_none_raised
    · wrow_post

