import PyProof.Rows.All
import Wide.All
import OpenK.AllK
import Wide.FinOn
import PySem.Challenge.RW_xm0772_01
open PySem PySem.W PyProof.Rows PySem.Calls
set_option Elab.async false
set_option maxRecDepth 100000
set_option linter.all false
set_option compiler.extract_closed false
namespace Mine
section -- KO
section
variable {a b c k m n : Nat} {x y z w : Int}
-- bounds by numbers
theorem t1 (h : a ≤ k) (d : Nat.ble k c = true) : a ≤ c := Nat.le_trans h (Nat.le_of_ble_eq_true d)
theorem t2 (h : a < k) (d : Nat.ble k (c + 1) = true) : a ≤ c := Nat.le_of_lt_succ (Nat.lt_of_lt_of_le h (Nat.le_of_ble_eq_true d))
theorem t3 (h : a ≤ k) (d : Nat.ble (k + 1) c = true) : a < c := Nat.lt_of_le_of_lt h (Nat.le_of_ble_eq_true d)
theorem t4 (h : a < k) (d : Nat.ble k c = true) : a < c := Nat.lt_of_lt_of_le h (Nat.le_of_ble_eq_true d)
theorem i1 (h : x ≤ y) (d : decide (y ≤ z) = true) : x ≤ z := Int.le_trans h (of_decide_eq_true d)
theorem i2 (h : x < y) (d : decide (y ≤ z + 1) = true) : x ≤ z := Int.le_of_lt_add_one (Int.lt_of_lt_of_le h (of_decide_eq_true d))
theorem i3 (h : x ≤ y) (d : decide (y < z) = true) : x < z := Int.lt_of_le_of_lt h (of_decide_eq_true d)
theorem i4 (h : x < y) (d : decide (y ≤ z) = true) : x < z := Int.lt_of_lt_of_le h (of_decide_eq_true d)
theorem i5 (h : y ≤ x) (d : decide (z ≤ y) = true) : z ≤ x := Int.le_trans (of_decide_eq_true d) h
theorem i6 (h : y < x) (d : decide (z ≤ y + 1) = true) : z ≤ x := Int.le_trans (of_decide_eq_true d) h
theorem i7 (h : y ≤ x) (d : decide (z < y) = true) : z < x := Int.lt_of_lt_of_le (of_decide_eq_true d) h
theorem i8 (h : y < x) (d : decide (z ≤ y) = true) : z < x := Int.lt_of_le_of_lt (of_decide_eq_true d) h
theorem q1 (e : a = b) (h : b ≤ k) (d : Nat.ble k c = true) : a ≤ c := e ▸ t1 h d
theorem q2 (e : a = b) (h : b < k) (d : Nat.ble k (c + 1) = true) : a ≤ c := e ▸ t2 h d
theorem q3 (e : a = b) (h : b ≤ k) (d : Nat.ble (k + 1) c = true) : a < c := e ▸ t3 h d
theorem q4 (e : a = b) (h : b < k) (d : Nat.ble k c = true) : a < c := e ▸ t4 h d
theorem r1 (e : b = a) (h : b ≤ k) (d : Nat.ble k c = true) : a ≤ c := e ▸ t1 h d
theorem r3 (e : b = a) (h : b ≤ k) (d : Nat.ble (k + 1) c = true) : a < c := e ▸ t3 h d
theorem c1 (h : a ≤ k) (d : decide ((k : Int) ≤ z) = true) : (a : Int) ≤ z := Int.le_trans (Int.ofNat_le.mpr h) (of_decide_eq_true d)
theorem c2 (h : a < k) (d : decide ((k : Int) ≤ z) = true) : (a : Int) < z := Int.lt_of_lt_of_le (Int.ofNat_lt.mpr h) (of_decide_eq_true d)
theorem c3 (h : a < k) (d : decide ((k : Int) ≤ z + 1) = true) : (a : Int) ≤ z := Int.le_of_lt_add_one (c2 h d)
theorem c4 (h : a ≤ k) (d : decide ((k : Int) < z) = true) : (a : Int) < z := Int.lt_of_le_of_lt (Int.ofNat_le.mpr h) (of_decide_eq_true d)
theorem c5 (d : decide (z ≤ 0) = true) : z ≤ (a : Int) := Int.le_trans (of_decide_eq_true d) (Int.natCast_nonneg _)
theorem c6 (d : decide (z ≤ 0) = true) : z ≤ 0 + (a : Int) := by rw [Int.zero_add]; exact c5 d
theorem c7 (d : decide (z ≤ 0) = true) : z ≤ (a : Int) + 1 := Int.le_trans (c5 d) (Int.le_add_of_nonneg_right (by decide))
theorem m1 (h : n ≤ k) (d : Nat.ble k c = true) : min m n ≤ c := Nat.le_trans (Nat.min_le_right _ _) (t1 h d)
theorem m2 (e : a = min m n) (h : n ≤ k) (d : Nat.ble k c = true) : a ≤ c := e ▸ m1 h d
theorem m3 (e : min m n = a) (h : n ≤ k) (d : Nat.ble k c = true) : a ≤ c := e ▸ m1 h d
theorem m4 (d : Nat.ble k c = true) : min k n ≤ c := Nat.le_trans (Nat.min_le_left _ _) (Nat.le_of_ble_eq_true d)
-- shapes
theorem ltne (h : x ≤ y) (e : x ≠ y) : x < y := Int.lt_iff_le_and_ne.mpr ⟨h, e⟩
theorem s1 (h : a + (b + 1) = c) : a + 1 + b = c := by rw [← h, Nat.add_assoc, Nat.add_comm 1 b]
theorem s2 (h : a + (b + 1) = c) : a < c := h ▸ Nat.lt_add_of_pos_right (Nat.succ_pos _)
theorem s3 (h : 0 ≤ x) : (x + (n : Int)).toNat = x.toNat + n := Int.toNat_add_nat h n
theorem s4 : (0 + (n : Int)).toNat = n := by rw [Int.zero_add]; rfl
theorem s5 (h : 0 ≤ x) : x = 0 + (x.toNat : Int) := by rw [Int.toNat_of_nonneg h, Int.zero_add]
theorem s6 (h : 0 < x) : x = (x.toNat : Int) := (Int.toNat_of_nonneg (Int.le_of_lt h)).symm
theorem s7 (h : 1 ≤ x) : x = 0 + (x.toNat : Int) := s5 (Int.le_trans (by decide) h)
theorem s8 (h : 0 ≤ x) (l : x < (n : Int)) : x.toNat < n := (Int.toNat_lt h).mpr l
theorem s9 (e : x = y + (n : Int)) : ((x - y).toNat : Int) = (n : Int) := by rw [e, Int.add_comm y, Int.add_sub_cancel]; rfl
theorem s10 (h : a < b) : b + 1 - (a + 1) < b + 1 - a := by rw [Nat.add_sub_add_right, Nat.succ_sub (Nat.le_of_lt h)]; exact Nat.lt_succ_self _
theorem s11 (h : 0 < x) (g : 0 ≤ y) : x + y = ((x.toNat + y.toNat : Nat) : Int) := by rw [Int.natCast_add, Int.toNat_of_nonneg g, Int.toNat_of_nonneg (Int.le_of_lt h)]
theorem s12 (h : 0 < x) (g : 0 ≤ y) (l : x + y ≤ (n : Int)) : x.toNat + y.toNat ≤ n := Int.ofNat_le.mp (s11 h g ▸ l)
theorem s13 (h : n < 4) : n = 0 ∨ n = 1 ∨ n = 2 ∨ n = 3 := by revert n; decide
theorem s14 (h : n < 7) : n = 0 ∨ n = 1 ∨ n = 2 ∨ n = 3 ∨ n = 4 ∨ n = 5 ∨ n = 6 := by revert n; decide
theorem s15 (h : 0 ≤ x) (l : x < 4) : x = 0 ∨ x = 1 ∨ x = 2 ∨ x = 3 := by
  rcases s13 ((Int.toNat_lt h).mpr l) with e | e | e | e <;> rw [← Int.toNat_of_nonneg h, e] <;> decide
theorem s16 (h : -1 ≤ x) (l : x < 4) : x = -1 ∨ x = 0 ∨ x = 1 ∨ x = 2 ∨ x = 3 := by
  by_cases e : x = -1
  · exact .inl e
  · exact .inr (s15 (Int.lt_iff_add_one_le.mp (ltne h (Ne.symm e))) l)
theorem s17 (h : a ≥ b) (e : a - b = 0) : a = b := Nat.le_antisymm (Nat.le_of_sub_eq_zero e) h
theorem s18 (h : a < b ∨ b < a) : b ≠ a := fun e => h.elim (fun l => Nat.lt_irrefl _ (e ▸ l)) fun l => Nat.lt_irrefl _ (e ▸ l)
theorem s19 (h : a < b ∨ b < a) : a ≠ b := (s18 h).symm
theorem s20 (h : (a : Int) ≤ x) (e : x ≠ (a : Int)) : ((a + 1 : Nat) : Int) ≤ x := ltne h (Ne.symm e)
theorem s21 (h : 1 ≤ x) : 1 ≤ x + 1 := Int.le_trans h (Int.le_add_of_nonneg_right (by decide))
theorem s22 (h : x < (n : Int)) : x < ((n + 1 : Nat) : Int) := Int.lt_trans h (Int.ofNat_lt.mpr (Nat.lt_succ_self _))
theorem s23 (e : a = b) : a ≤ b + k := e ▸ Nat.le_add_right _ _
theorem s24 (e : a = b) (h : c < a) : 0 + (c : Int) < (b : Int) := by rw [Int.zero_add]; exact Int.ofNat_lt.mpr (e ▸ h)
theorem s25 (h : c < b) : 0 + (c : Int) < (b : Int) := s24 rfl h
theorem s26 (h : c < a) (e : a = b) : 0 + (c : Int) < (b : Int) := s24 e h
theorem s27 (h : ¬x > y) : x ≤ y := Int.not_lt.mp h
theorem s28 (h : ¬x < y) : y ≤ x := Int.not_lt.mp h
theorem s29 (h : x + y ≤ (n : Int)) : ¬(n : Int) < x + y := Int.not_lt.mpr h
theorem s30 (h : a + b ≤ c) : a ≤ c := Nat.le_trans (Nat.le_add_right _ _) h
theorem s31 (h : k + 1 ≤ n) (l : a + n < c) : a + 1 + k < c := Nat.lt_of_le_of_lt (by rw [Nat.add_assoc, Nat.add_comm 1]; exact Nat.add_le_add_left h _) l
theorem s32 (h : a = b) (l : c ≤ a + k) : c ≤ b + k := h ▸ l
theorem s33 (h : -1 ≤ x) (e : x ≠ -1) : 0 ≤ x := Int.lt_iff_add_one_le.mp (ltne h (Ne.symm e))
theorem s34 (h : ¬x < (n : Int)) : n ≤ x.toNat := Int.ofNat_le.mp (Int.le_trans (Int.not_lt.mp h) (Int.self_le_toNat x))
theorem s35 : (12 + 2 * x - 12) / 2 = x := by rw [Int.add_comm, Int.add_sub_cancel]; exact Int.mul_ediv_cancel_left _ (by decide)
theorem s36 (h : 0 ≤ x) : -1 ≤ x - 1 := Int.sub_le_sub_right h 1
theorem s37 (e : x ≠ y) (f : ¬ x = z) : ¬ (x = z ∨ y = x) := fun o => o.elim f fun g => e g.symm
theorem s38 (e : ¬ x = 0) (f : ¬ x = 1) : ¬ (x = 0 ∨ x = 1) := fun o => o.elim e f
theorem s39 (h : (x : Int) ≤ n) : x + 0 ≤ n := by rw [Int.add_zero]; exact h
theorem s40 (h : 0 ≤ x ∧ x < 128) : ((x.toNat : Nat) : Int) = x := Int.toNat_of_nonneg h.1
theorem s41 (h : -128 ≤ x) : x ≠ -9223372036854775808 := fun e => by rw [e] at h; exact absurd h (by decide)
theorem s42 (h : x < 128) : x ≠ 9223372036854775807 := fun e => by rw [e] at h; exact absurd h (by decide)
theorem s43 : 0 ≤ (x % 256) := Int.emod_nonneg _ (by decide)
theorem s44 : (x % 256) < 256 := Int.emod_lt_of_pos _ (by decide)
theorem s45 (h : k + 1 ≤ n) (l : a + n < c) : a + k < c := Nat.lt_trans (Nat.add_lt_add_left h a) l
theorem s46 (h : x = 0 ∧ y = 0 ∨ x = 8 ∧ y = 0 ∨ x = 9 ∧ y = 0 ∨ x = 1 ∧ y = 1 ∨ x = 6 ∧ y = 8) : x = 0 ∨ x = 8 ∨ x = 9 ∨ x = 1 ∨ x = 6 ∨ 12 ≤ x ∧ x < 128 :=
  h.elim (fun h => .inl h.1) fun h => .inr (h.elim (fun h => .inl h.1) fun h => .inr (h.elim (fun h => .inl h.1) fun h => .inr (h.elim (fun h => .inl h.1) fun h => .inr (.inl h.1))))
theorem s47 (h : x = 0 ∧ y = 0 ∨ x = 8 ∧ y = 0 ∨ x = 9 ∧ y = 0 ∨ x = 1 ∧ y = 1 ∨ x = 6 ∧ y = 8) (a : x ≠ 0) (b : x ≠ 8) (c : x ≠ 9) : y = 1 ∨ y = 8 :=
  h.elim (fun h => absurd h.1 a) fun h => h.elim (fun h => absurd h.1 b) fun h => h.elim (fun h => absurd h.1 c) fun h => h.elim (fun h => .inl h.2) fun h => .inr h.2
theorem s48 (h : x = 0 ∧ y = 0 ∨ x = 8 ∧ y = 0 ∨ x = 9 ∧ y = 0 ∨ x = 1 ∧ y = 1 ∨ x = 6 ∧ y = 8) : x < 12 :=
  h.elim (fun h => h.1 ▸ by decide) fun h => h.elim (fun h => h.1 ▸ by decide) fun h => h.elim (fun h => h.1 ▸ by decide) fun h => h.elim (fun h => h.1 ▸ by decide) fun h => h.1 ▸ by decide
theorem s49 : (if x = 1 then (9 : Int) else if -128 ≤ x ∧ x < 128 then 1 else 6) = 0 ∨ (if x = 1 then (9 : Int) else if -128 ≤ x ∧ x < 128 then 1 else 6) = 8 ∨ (if x = 1 then (9 : Int) else if -128 ≤ x ∧ x < 128 then 1 else 6) = 9 ∨
    (if x = 1 then (9 : Int) else if -128 ≤ x ∧ x < 128 then 1 else 6) = 1 ∨ (if x = 1 then (9 : Int) else if -128 ≤ x ∧ x < 128 then 1 else 6) = 6 ∨ 12 ≤ (if x = 1 then (9 : Int) else if -128 ≤ x ∧ x < 128 then 1 else 6) ∧ (if x = 1 then (9 : Int) else if -128 ≤ x ∧ x < 128 then 1 else 6) < 128 := by
  generalize e : (if x = 1 then (9 : Int) else if -128 ≤ x ∧ x < 128 then 1 else 6) = v
  by_cases h : x = 1
  · rw [if_pos h] at e; subst e; decide
  rw [if_neg h] at e
  by_cases g : -128 ≤ x ∧ x < 128
  · rw [if_pos g] at e; subst e; decide
  · rw [if_neg g] at e; subst e; decide
theorem s50 : 0 ≤ (if x = 1 then (9 : Int) else if -128 ≤ x ∧ x < 128 then 1 else 6) ∧ (if x = 1 then (9 : Int) else if -128 ≤ x ∧ x < 128 then 1 else 6) < 128 := by
  generalize e : (if x = 1 then (9 : Int) else if -128 ≤ x ∧ x < 128 then 1 else 6) = v
  by_cases h : x = 1
  · rw [if_pos h] at e; subst e; decide
  rw [if_neg h] at e
  by_cases g : -128 ≤ x ∧ x < 128
  · rw [if_pos g] at e; subst e; decide
  · rw [if_neg g] at e; subst e; decide
theorem s51 (e : c = a) (h : a ≤ 10) (k : b ≤ 8 * a) : c + b + 1 ≤ 1000 :=
  Nat.le_trans (Nat.succ_le_succ (Nat.add_le_add (Nat.le_trans (Nat.le_of_eq e) h) (Nat.le_trans k (Nat.mul_le_mul_left 8 h)))) (by decide)
theorem s52 (h : 0 ≤ x) : x.toNat + n = (x + (n : Int)).toNat := (s3 h).symm
theorem s53 : (((0 + x - 0).toNat : Nat) : Int) = ((0 + x).toNat : Int) := by rw [Int.sub_zero]
theorem s54 : 0 + n = n := Nat.zero_add n
theorem s55 (h : x ≤ y) (d : decide (y ≤ (c : Int)) = true) : min x.toNat n ≤ c := Nat.le_trans (Nat.min_le_left _ _) (Int.toNat_le.mpr (Int.le_trans h (of_decide_eq_true d)))
theorem s56 (h : 0 ≤ x ∧ x < 4) : x = 0 ∨ x = 1 ∨ x = 2 ∨ x = 3 := s15 h.1 h.2
theorem s57 : (1 + (a : Int) + (b : Int)).toNat = 1 + a + b := by rw [show (1 : Int) + a + b = ((1 + a + b : Nat) : Int) by rw [Int.natCast_add, Int.natCast_add]; rfl]; rfl
theorem s58 : (((x % 256).toNat : Nat) : Int) = x % 256 := Int.toNat_of_nonneg s43
theorem s59 (e : y = x + (n : Int)) (h : -1000000000000 ≤ x) : -2 ^ 62 ≤ y := e ▸ Int.le_trans (i5 h rfl) (Int.le_add_of_nonneg_right (Int.natCast_nonneg n))
theorem s60 (e : y = x + (n : Int)) (h : y ≤ 1000000000000) : x < 2 ^ 62 := i3 (Int.le_trans (e ▸ Int.le_add_of_nonneg_right (Int.natCast_nonneg n)) h) rfl
theorem s61 (h : n < 4) (k : m < n) : n = 1 ∨ n = 2 ∨ n = 3 := (s13 h).elim (fun e => absurd (e ▸ k) (Nat.not_lt_zero _)) id
theorem s62 (h : n < 4) (k : m < n) : m = 0 ∨ m = 1 ∨ m = 2 := by
  have l : m < 3 := Nat.lt_of_lt_of_le k (Nat.le_of_lt_succ h)
  clear k
  revert m; decide
theorem s63 (h : x < (n : Int)) (k : n < 2 ^ 60) : x < 2 ^ 63 := Int.lt_trans h (c2 k rfl)
theorem s64 (e : (a : Int) = (b : Int)) : ((a : Int) + 1).toNat = b + 1 := by rw [e]; rfl
theorem s65 : x ≤ x := Int.le_refl x
theorem s66 (h : x = 1 ∨ x = 8) (k : n < x.toNat) : n < 8 := by
  rcases h with rfl | rfl
  · exact Nat.lt_of_lt_of_le k (by decide)
  · exact k
theorem s67 : ((n : Int) + 32).toNat = n + 32 := rfl
theorem s68 (k : m < y.toNat) (h : x + y ≤ (n : Int)) : x + (m : Int) < (n : Int) := Int.lt_of_lt_of_le (Int.add_lt_add_left (Int.lt_toNat.mp k) x) h
theorem s69 (e : x ≠ -1) (f : x ≠ y) : ¬ (x = -1 ∨ y = x) := s37 f e
theorem s70 (e : a = b) : a + c + 1 = 1 + b + c := by rw [e, Nat.add_right_comm, Nat.add_comm b 1]
theorem s71 (h : 0 ≤ x) : y + x = y + (x.toNat : Int) := by rw [Int.toNat_of_nonneg h]
theorem s72 (h : 0 ≤ (n : Int)) : ((n : Int) * 256).toNat = n * 256 := rfl
theorem s73 : 0 ≤ x * 0 := by rw [Int.mul_zero]; decide
theorem s74 : (n : Int) = 0 + (n : Int) := (Int.zero_add _).symm
theorem s75 (h : 1 ≤ x) : x = -1 + ((x + 1).toNat : Int) := by rw [Int.toNat_of_nonneg (Int.le_trans (by decide) (s21 h)), Int.add_comm x, ← Int.add_assoc]; exact (Int.zero_add x).symm
theorem s76 : x - y = x - y := rfl
theorem s77 (e : a = b) : a ≤ b + c := s23 e
theorem s78 (e : 0 + (a : Int) = x) : x = (a : Int) := by rw [← e, Int.zero_add]
theorem s79 (e : 0 + (a : Int) ≠ x) : x ≠ (a : Int) := fun q => e (by rw [q, Int.zero_add])
theorem s80 (h : 0 ≤ x) : -2 ^ 64 < 7919 * x := Int.lt_of_lt_of_le (by decide) (Int.mul_nonneg (by decide) h)
theorem s81 (l : x ≤ 1) : 7919 * x < 2 ^ 64 := Int.lt_of_le_of_lt (Int.mul_le_mul_of_nonneg_left l (by decide)) (by decide)
theorem s82 (l : 1000000000000000000 ≤ x) : 0 ≤ x * 1 := by rw [Int.mul_one]; exact i5 l rfl
theorem s83 (h : 0 ≤ x ∧ x < 128) : x.toNat < 2 ^ 8 := (Int.toNat_lt h.1).mpr (i4 h.2 rfl)
theorem s84 (h : a = b) (k : b < 4) : -((4 : Nat) : Int) ≤ 0 + (b : Int) := c6 rfl
theorem s85 (h : 0 ≤ x) : 0 ≤ x + (n : Int) := Int.add_nonneg h (Int.natCast_nonneg n)
theorem s86 (h : n < min m (b - c)) : n < m := Nat.lt_of_lt_of_le h (Nat.min_le_left _ _)
theorem m5 (h : x ≤ y) (d : decide (y ≤ (c : Int)) = true) : x.toNat ≤ c := Int.toNat_le.mpr (Int.le_trans h (of_decide_eq_true d))
theorem q5 (e : a = x.toNat) (h : x ≤ y) (d : decide (y ≤ (c : Int)) = true) : a ≤ c := e ▸ m5 h d
theorem s87 (k : n < x.toNat) (h : x ≤ 4) : n < 4 := Nat.lt_of_lt_of_le k (Int.toNat_le.mpr h)
theorem s88 (k : n < y.toNat) (o : y = 1 ∨ y = x) (h : x ≤ 2) : n < 2 := Nat.lt_of_lt_of_le k (Int.toNat_le.mpr (o.elim (fun e => e ▸ by decide) fun e => e ▸ h))
theorem s89 (k : n < (x + 1).toNat) (h : x ≤ 4) : -1 + (n : Int) < 4 := Int.lt_of_le_of_lt (Int.add_le_add_left (Int.le_trans (Int.lt_add_one_iff.mp (Int.lt_toNat.mp k)) h) (-1)) (by decide)
theorem s90 (k : n < (x + 1).toNat) (h : x ≤ 4) : -1 + (n : Int) < 2 ^ 60 := Int.lt_trans (s89 k h) (by decide)
theorem s91 (h : b ≤ 8 * a) (k : a ≤ 10) (l : c ≤ 8) (q : 1000 ≤ n) : b + c ≤ n := Nat.le_trans (Nat.le_trans (Nat.add_le_add (Nat.le_trans h (Nat.mul_le_mul_left 8 k)) l) (by decide)) q
theorem s92 (h : b ≤ 8 * a) (k : a ≤ 10) (q : 1000 ≤ n) : b ≤ n := Nat.le_trans (Nat.le_trans (Nat.le_trans h (Nat.mul_le_mul_left 8 k)) (by decide)) q
theorem s93 (e : a = b) (k : b ≤ 10) (q : 1000 ≤ n) : a + (0 + 1) ≤ n := Nat.le_trans (Nat.le_trans (Nat.add_le_add_right (e ▸ k) _) (by decide)) q
theorem s94 (h : 1 + a + b + c ≤ n) : 1 + (a : Int) + (b : Int) + (c : Int) ≤ (n : Int) := by
  have h := Int.ofNat_le.mpr h
  rw [Int.natCast_add, Int.natCast_add, Int.natCast_add] at h; exact h
theorem s95 (h : n ≤ 1000) : 0 + min m n ≤ 16777216 := by rw [Nat.zero_add]; exact m1 h rfl
theorem s96 : (x % 256).toNat < 2 ^ 8 := (Int.toNat_lt s43).mpr s44
theorem s97 : 0 < 1 + (a : Int) + (b : Int) := Int.lt_of_lt_of_le (by decide : (0 : Int) < 1) (by rw [Int.add_assoc]; exact Int.le_add_of_nonneg_right (Int.add_nonneg (Int.natCast_nonneg _) (Int.natCast_nonneg _)))
theorem s98 (h : x ≤ 4) : x + 1 ≤ 9 := Int.le_trans (Int.add_le_add_right h 1) (by decide)
theorem s99 (h : a + 16 * (b + 1) < c) (k : n ≤ 16) : a + n + 16 * b < c := Nat.lt_of_le_of_lt (by rw [Nat.mul_add, Nat.add_assoc, Nat.add_comm n]; exact Nat.add_le_add_left (Nat.add_le_add_left k _) _) h
theorem s100 (h : k + 1 ≤ n) (l : a + 16 * n < c) : a + 3 + 16 * k < c := Nat.lt_of_le_of_lt (by rw [Nat.add_assoc]; exact Nat.add_le_add_left (Nat.le_trans (by rw [Nat.mul_add, Nat.add_comm]; exact Nat.add_le_add_left (by decide) _) (Nat.mul_le_mul_left 16 h)) _) l
theorem s101 (h : k + 1 ≤ n) (l : a + 16 * n < c) : a + 1 + 16 * k < c := Nat.lt_of_le_of_lt (Nat.add_le_add_right (Nat.add_le_add_left (by decide : 1 ≤ 3) a) _) (s100 h l)
theorem s102 (k : x < y) : x < (y.toNat : Int) := Int.lt_of_lt_of_le k (Int.self_le_toNat y)
theorem s103 (e : n = x.toNat) (k : x < y + 1) (h : y ≤ 4) : n ≤ 4 := e ▸ Int.toNat_le.mpr (Int.le_trans (Int.lt_add_one_iff.mp k) h)
theorem s104 (e : n = (1 + x).toNat) (h : x < 3) : n ≤ 3 := e ▸ Int.toNat_le.mpr (by rw [Int.add_comm]; exact h)
theorem s105 : x % 2147483647 < 2147483647 := Int.emod_lt_of_pos _ (by decide)
theorem s106 : x % 2147483647 < 2 ^ 64 := Int.lt_trans s105 (by decide)
theorem s107 : 0 ≤ x % 2147483647 := Int.emod_nonneg _ (by decide)
theorem s108 : -2 ^ 64 < x % 2147483647 := Int.lt_of_lt_of_le (by decide) s107
theorem s109 (h : a + b ≤ n) : 1 + c + a + b ≤ c + n + 1 := by rw [Nat.add_comm 1 c, Nat.add_assoc (c + 1), Nat.add_right_comm c 1]; exact Nat.add_le_add_right (Nat.add_le_add_left h c) 1
theorem s110 (e : a = b) : 1 + b ≤ a + c + 1 := by rw [e, Nat.add_comm 1]; exact Nat.succ_le_succ (Nat.le_add_right _ _)
theorem s111 (h : a + (b + 1) = c) : (a : Int) + 1 < (c : Int) + 1 := Int.add_lt_add_right (Int.ofNat_lt.mpr (s2 h)) 1
theorem s112 (h : a + (b + 1) < c) : a + 1 + b < c := by rw [Nat.add_right_comm]; exact h
theorem s113 (h : x < y) (k : y ≤ z) : x < z := Int.lt_of_lt_of_le h k
theorem s115 (e : n = (1 + x).toNat) (h : 0 ≤ x) : 1 ≤ n := e ▸ Int.lt_toNat.mpr (by rw [Int.add_comm]; exact Int.lt_add_one_iff.mpr h)
end
end
section -- KX
set_option maxHeartbeats 8000000
section
variable {α : Type} {x a1 a2 a3 a4 a5 a6 a7 a8 a9 a10 a11 a12 : α} {l : List α}
theorem mem0 : x ∈ x :: l := .head _
theorem mem1 : x ∈ a1 :: x :: l := .tail _ (.head _)
theorem mem2 : x ∈ a1 :: a2 :: x :: l := .tail _ mem1
theorem mem3 : x ∈ a1 :: a2 :: a3 :: x :: l := .tail _ mem2
theorem mem4 : x ∈ a1 :: a2 :: a3 :: a4 :: x :: l := .tail _ mem3
theorem mem5 : x ∈ a1 :: a2 :: a3 :: a4 :: a5 :: x :: l := .tail _ mem4
theorem mem6 : x ∈ a1 :: a2 :: a3 :: a4 :: a5 :: a6 :: x :: l := .tail _ mem5
theorem mem7 : x ∈ a1 :: a2 :: a3 :: a4 :: a5 :: a6 :: a7 :: x :: l := .tail _ mem6
theorem mem8 : x ∈ a1 :: a2 :: a3 :: a4 :: a5 :: a6 :: a7 :: a8 :: x :: l := .tail _ mem7
theorem mem9 : x ∈ a1 :: a2 :: a3 :: a4 :: a5 :: a6 :: a7 :: a8 :: a9 :: x :: l := .tail _ mem8
theorem mem10 : x ∈ a1 :: a2 :: a3 :: a4 :: a5 :: a6 :: a7 :: a8 :: a9 :: a10 :: x :: l := .tail _ mem9
theorem mem11 : x ∈ a1 :: a2 :: a3 :: a4 :: a5 :: a6 :: a7 :: a8 :: a9 :: a10 :: a11 :: x :: l := .tail _ mem10
end
section
variable {M : Model} {A : Around} {E : Value → Shared → Prop} {env : Env} {h : Heap} {g : Array GenState} {d : Drawn} {t : Nat} {o : OsState} {pos : Pos}
theorem cInt {i : Int} {k : Nat} {Q : Value → Shared → Prop} (q : Q (.int i t) ⟨h, g, d, t + 1, o⟩) : wpAny M A (eval (.Constant (.int i) k pos) env) Q E ⟨h, g, d, t, o⟩ := wpAny_Constant_int q
theorem cStr {x : Str} {k : Nat} {Q : Value → Shared → Prop} (q : Q (.str x t) ⟨h, g, d, t + 1, o⟩) : wpAny M A (eval (.Constant (.str x) k pos) env) Q E ⟨h, g, d, t, o⟩ := wpAny_Constant_str q
end
section
variable {M : Model} {A : Around} {E : Value → Shared → Prop} {env : Env} {s : Shared} {pos : Pos}
theorem asgN {x : Str} {pos' : Pos} {value : PySem.Expr} {Q : Flow → Shared → Prop}
    (q : wpAny M A (eval value env) (fun v s₁ => wpAny M A (storeName env x v) (fun _ => Q .next) E s₁) E s)
    (hs : pure false = swapsWith value (some (.Name x pos')) pos.line env) : wpAny M A (exec (.Assign [.Name x pos'] value pos) env) Q E s := wpAny_Assign_Name q hs.symm
theorem asgA {ob : PySem.Expr} {attr : Str} {pos' : Pos} {value : PySem.Expr} {Q : Flow → Shared → Prop}
    (q : wpAny M A (eval value env) (fun v s₁ => wpAny M A (eval ob env) (fun ov s₂ => wpAny M A (setAttr ov attr v) (fun _ => Q .next) E s₂) E s₁) E s)
    (hs : pure false = swapsWith value (some (.Attribute ob attr pos')) pos.line env) : wpAny M A (exec (.Assign [.Attribute ob attr pos'] value pos) env) Q E s := plainObj_wpAny_Assign_Attribute q hs.symm
theorem cwB {id : String} {e : PySem.Expr} {rest : List PySem.Expr} {Q : Value → Shared → Prop}
    (q : wpAny M A (spliced (backTo pos (starEach (e :: rest) env))) (fun vs s₁ => wpAny M A (call (.builtin id) vs) Q E s₁) E s)
    (he : starEach (e :: rest) env = (false, eval e env) :: starEach rest env) (hplain : (backTo pos (starEach rest env)).any (·.1) = false) :
    wpAny M A (callWith pos (.builtin id) [] (backTo pos (starEach (e :: rest) env)) []) Q E s := callWith_method1 (first := []) q he hplain
theorem cwM {id : String} {f : Value} {e : PySem.Expr} {rest : List PySem.Expr} {Q : Value → Shared → Prop}
    (q : wpAny M A (spliced (backTo pos (starEach (e :: rest) env))) (fun vs s₁ => wpAny M A (call (.builtin id) (f :: vs)) Q E s₁) E s)
    (he : starEach (e :: rest) env = (false, eval e env) :: starEach rest env) (hplain : (backTo pos (starEach rest env)).any (·.1) = false) :
    wpAny M A (callWith pos (.builtin id) [f] (backTo pos (starEach (e :: rest) env)) []) Q E s := callWith_method1 (first := [f]) q he hplain
theorem cwK {w : World} {K : Frag} {f : Value} {h₀ : Heap} {e : PySem.Expr} {rest : List PySem.Expr} {prog : Program} {Q : Value → Shared → Prop} (X : K.In h₀) (hk : keepIn K f = true)
    (q : wpAny (model prog w) A (spliced (backTo pos (starEach (e :: rest) env))) (fun vs s₁ => K.In s₁.heap ∧ wpAny (model prog w) A (call f vs) Q E s₁) E s)
    (he : starEach (e :: rest) env = (false, eval e env) :: starEach rest env) (hplain : (backTo pos (starEach rest env)).any (·.1) = false) :
    wpAny (model prog w) A (callWith pos f [] (backTo pos (starEach (e :: rest) env)) []) Q E s := callWith_K (first := []) X hk q he hplain
theorem cwK1 {w : World} {K : Frag} {f x : Value} {h₀ : Heap} {e : PySem.Expr} {rest : List PySem.Expr} {prog : Program} {Q : Value → Shared → Prop} (X : K.In h₀) (hk : keepIn K f = true)
    (q : wpAny (model prog w) A (spliced (backTo pos (starEach (e :: rest) env))) (fun vs s₁ => K.In s₁.heap ∧ wpAny (model prog w) A (call f (x :: vs)) Q E s₁) E s)
    (he : starEach (e :: rest) env = (false, eval e env) :: starEach rest env) (hplain : (backTo pos (starEach rest env)).any (·.1) = false) :
    wpAny (model prog w) A (callWith pos f [x] (backTo pos (starEach (e :: rest) env)) []) Q E s := callWith_K (first := [x]) X hk q he hplain
end
section
variable {M : Model} {A : Around} {E : Value → Shared → Prop} {h₀ : Heap} {L a : Addr} {h : Heap} {g : Array GenState} {d : Drawn} {t : Nat} {o : OsState} {m : Str → Option Value} {news : List (Addr × Obj)}
theorem stL {cn : Str} {cs : Scope} {ccd : Value} {cl : List (Str × Addr)} {x : Str} {v : Value} {Q : Unit → Shared → Prop} (F : Fr h₀ L h m) (N : News h₀ L h news)
    (q : ∀ h', Fr h₀ L h' (fun y => if y = x then some v else m y) → News h₀ L h' news → Q () ⟨h', g, d, t + 1, o⟩)
    (hk : cs.kind = .function) (hx : (envX cn cs L a ccd cl).kindOf x = some .local) : wpAny M A (storeName (envX cn cs L a ccd cl) x v) Q E ⟨h, g, d, t, o⟩ :=
  storeX_L (s := ⟨h, g, d, t, o⟩) F N q hk hx
end
theorem all0 {D : Addr} : ∀ p ∈ ([] : List (Addr × Obj)), p.1 ≠ D := List.forall_mem_nil _
theorem all1 {D a : Addr} {o : Obj} {l : List (Addr × Obj)} (h : @Ne Nat a D) (k : ∀ p ∈ l, p.1 ≠ D) : ∀ p ∈ (a, o) :: l, p.1 ≠ D := List.forall_mem_cons.mpr ⟨h, k⟩
/-- a goal behind a variable: the case splits' motives stay small -/
theorem hide {P : Prop} (h : ∀ G : Prop, (P → G) → G) : P := h P id
section
variable {G : Prop}
theorem ex1 {α1 : Sort _} {p : α1 → Prop} (h : ∃ a1, p a1) (k : ∀ a1, p a1 → G) : G := Exists.elim h k
theorem ex2 {α1 α2 : Sort _} {p : α1 → α2 → Prop} (h : ∃ a1 a2, p a1 a2) (k : ∀ a1 a2, p a1 a2 → G) : G := Exists.elim h fun a b => ex1 b (k a)
theorem ex3 {α1 α2 α3 : Sort _} {p : α1 → α2 → α3 → Prop} (h : ∃ a1 a2 a3, p a1 a2 a3) (k : ∀ a1 a2 a3, p a1 a2 a3 → G) : G := Exists.elim h fun a b => ex2 b (k a)
theorem ex4 {α1 α2 α3 α4 : Sort _} {p : α1 → α2 → α3 → α4 → Prop} (h : ∃ a1 a2 a3 a4, p a1 a2 a3 a4) (k : ∀ a1 a2 a3 a4, p a1 a2 a3 a4 → G) : G := Exists.elim h fun a b => ex3 b (k a)
theorem ex5 {α1 α2 α3 α4 α5 : Sort _} {p : α1 → α2 → α3 → α4 → α5 → Prop} (h : ∃ a1 a2 a3 a4 a5, p a1 a2 a3 a4 a5) (k : ∀ a1 a2 a3 a4 a5, p a1 a2 a3 a4 a5 → G) : G := Exists.elim h fun a b => ex4 b (k a)
theorem ex6 {α1 α2 α3 α4 α5 α6 : Sort _} {p : α1 → α2 → α3 → α4 → α5 → α6 → Prop} (h : ∃ a1 a2 a3 a4 a5 a6, p a1 a2 a3 a4 a5 a6) (k : ∀ a1 a2 a3 a4 a5 a6, p a1 a2 a3 a4 a5 a6 → G) : G := Exists.elim h fun a b => ex5 b (k a)
theorem ex7 {α1 α2 α3 α4 α5 α6 α7 : Sort _} {p : α1 → α2 → α3 → α4 → α5 → α6 → α7 → Prop} (h : ∃ a1 a2 a3 a4 a5 a6 a7, p a1 a2 a3 a4 a5 a6 a7) (k : ∀ a1 a2 a3 a4 a5 a6 a7, p a1 a2 a3 a4 a5 a6 a7 → G) : G := Exists.elim h fun a b => ex6 b (k a)
theorem ex8 {α1 α2 α3 α4 α5 α6 α7 α8 : Sort _} {p : α1 → α2 → α3 → α4 → α5 → α6 → α7 → α8 → Prop} (h : ∃ a1 a2 a3 a4 a5 a6 a7 a8, p a1 a2 a3 a4 a5 a6 a7 a8) (k : ∀ a1 a2 a3 a4 a5 a6 a7 a8, p a1 a2 a3 a4 a5 a6 a7 a8 → G) : G := Exists.elim h fun a b => ex7 b (k a)
theorem ex9 {α1 α2 α3 α4 α5 α6 α7 α8 α9 : Sort _} {p : α1 → α2 → α3 → α4 → α5 → α6 → α7 → α8 → α9 → Prop} (h : ∃ a1 a2 a3 a4 a5 a6 a7 a8 a9, p a1 a2 a3 a4 a5 a6 a7 a8 a9) (k : ∀ a1 a2 a3 a4 a5 a6 a7 a8 a9, p a1 a2 a3 a4 a5 a6 a7 a8 a9 → G) : G := Exists.elim h fun a b => ex8 b (k a)
theorem an2 {p1 p2 : Prop} (h : p1 ∧ p2) (k : p1 → p2 → G) : G := k h.1 h.2
theorem an3 {p1 p2 p3 : Prop} (h : p1 ∧ p2 ∧ p3) (k : p1 → p2 → p3 → G) : G := k h.1 h.2.1 h.2.2
theorem an4 {p1 p2 p3 p4 : Prop} (h : p1 ∧ p2 ∧ p3 ∧ p4) (k : p1 → p2 → p3 → p4 → G) : G := k h.1 h.2.1 h.2.2.1 h.2.2.2
theorem an5 {p1 p2 p3 p4 p5 : Prop} (h : p1 ∧ p2 ∧ p3 ∧ p4 ∧ p5) (k : p1 → p2 → p3 → p4 → p5 → G) : G := k h.1 h.2.1 h.2.2.1 h.2.2.2.1 h.2.2.2.2
theorem an6 {p1 p2 p3 p4 p5 p6 : Prop} (h : p1 ∧ p2 ∧ p3 ∧ p4 ∧ p5 ∧ p6) (k : p1 → p2 → p3 → p4 → p5 → p6 → G) : G := k h.1 h.2.1 h.2.2.1 h.2.2.2.1 h.2.2.2.2.1 h.2.2.2.2.2
theorem an7 {p1 p2 p3 p4 p5 p6 p7 : Prop} (h : p1 ∧ p2 ∧ p3 ∧ p4 ∧ p5 ∧ p6 ∧ p7) (k : p1 → p2 → p3 → p4 → p5 → p6 → p7 → G) : G := k h.1 h.2.1 h.2.2.1 h.2.2.2.1 h.2.2.2.2.1 h.2.2.2.2.2.1 h.2.2.2.2.2.2
theorem an8 {p1 p2 p3 p4 p5 p6 p7 p8 : Prop} (h : p1 ∧ p2 ∧ p3 ∧ p4 ∧ p5 ∧ p6 ∧ p7 ∧ p8) (k : p1 → p2 → p3 → p4 → p5 → p6 → p7 → p8 → G) : G := k h.1 h.2.1 h.2.2.1 h.2.2.2.1 h.2.2.2.2.1 h.2.2.2.2.2.1 h.2.2.2.2.2.2.1 h.2.2.2.2.2.2.2
theorem an9 {p1 p2 p3 p4 p5 p6 p7 p8 p9 : Prop} (h : p1 ∧ p2 ∧ p3 ∧ p4 ∧ p5 ∧ p6 ∧ p7 ∧ p8 ∧ p9) (k : p1 → p2 → p3 → p4 → p5 → p6 → p7 → p8 → p9 → G) : G := k h.1 h.2.1 h.2.2.1 h.2.2.2.1 h.2.2.2.2.1 h.2.2.2.2.2.1 h.2.2.2.2.2.2.1 h.2.2.2.2.2.2.2.1 h.2.2.2.2.2.2.2.2
theorem an10 {p1 p2 p3 p4 p5 p6 p7 p8 p9 p10 : Prop} (h : p1 ∧ p2 ∧ p3 ∧ p4 ∧ p5 ∧ p6 ∧ p7 ∧ p8 ∧ p9 ∧ p10) (k : p1 → p2 → p3 → p4 → p5 → p6 → p7 → p8 → p9 → p10 → G) : G := k h.1 h.2.1 h.2.2.1 h.2.2.2.1 h.2.2.2.2.1 h.2.2.2.2.2.1 h.2.2.2.2.2.2.1 h.2.2.2.2.2.2.2.1 h.2.2.2.2.2.2.2.2.1 h.2.2.2.2.2.2.2.2.2
theorem an11 {p1 p2 p3 p4 p5 p6 p7 p8 p9 p10 p11 : Prop} (h : p1 ∧ p2 ∧ p3 ∧ p4 ∧ p5 ∧ p6 ∧ p7 ∧ p8 ∧ p9 ∧ p10 ∧ p11) (k : p1 → p2 → p3 → p4 → p5 → p6 → p7 → p8 → p9 → p10 → p11 → G) : G := k h.1 h.2.1 h.2.2.1 h.2.2.2.1 h.2.2.2.2.1 h.2.2.2.2.2.1 h.2.2.2.2.2.2.1 h.2.2.2.2.2.2.2.1 h.2.2.2.2.2.2.2.2.1 h.2.2.2.2.2.2.2.2.2.1 h.2.2.2.2.2.2.2.2.2.2
theorem an12 {p1 p2 p3 p4 p5 p6 p7 p8 p9 p10 p11 p12 : Prop} (h : p1 ∧ p2 ∧ p3 ∧ p4 ∧ p5 ∧ p6 ∧ p7 ∧ p8 ∧ p9 ∧ p10 ∧ p11 ∧ p12) (k : p1 → p2 → p3 → p4 → p5 → p6 → p7 → p8 → p9 → p10 → p11 → p12 → G) : G := k h.1 h.2.1 h.2.2.1 h.2.2.2.1 h.2.2.2.2.1 h.2.2.2.2.2.1 h.2.2.2.2.2.2.1 h.2.2.2.2.2.2.2.1 h.2.2.2.2.2.2.2.2.1 h.2.2.2.2.2.2.2.2.2.1 h.2.2.2.2.2.2.2.2.2.2.1 h.2.2.2.2.2.2.2.2.2.2.2
theorem an13 {p1 p2 p3 p4 p5 p6 p7 p8 p9 p10 p11 p12 p13 : Prop} (h : p1 ∧ p2 ∧ p3 ∧ p4 ∧ p5 ∧ p6 ∧ p7 ∧ p8 ∧ p9 ∧ p10 ∧ p11 ∧ p12 ∧ p13) (k : p1 → p2 → p3 → p4 → p5 → p6 → p7 → p8 → p9 → p10 → p11 → p12 → p13 → G) : G := k h.1 h.2.1 h.2.2.1 h.2.2.2.1 h.2.2.2.2.1 h.2.2.2.2.2.1 h.2.2.2.2.2.2.1 h.2.2.2.2.2.2.2.1 h.2.2.2.2.2.2.2.2.1 h.2.2.2.2.2.2.2.2.2.1 h.2.2.2.2.2.2.2.2.2.2.1 h.2.2.2.2.2.2.2.2.2.2.2.1 h.2.2.2.2.2.2.2.2.2.2.2.2
theorem an14 {p1 p2 p3 p4 p5 p6 p7 p8 p9 p10 p11 p12 p13 p14 : Prop} (h : p1 ∧ p2 ∧ p3 ∧ p4 ∧ p5 ∧ p6 ∧ p7 ∧ p8 ∧ p9 ∧ p10 ∧ p11 ∧ p12 ∧ p13 ∧ p14) (k : p1 → p2 → p3 → p4 → p5 → p6 → p7 → p8 → p9 → p10 → p11 → p12 → p13 → p14 → G) : G := k h.1 h.2.1 h.2.2.1 h.2.2.2.1 h.2.2.2.2.1 h.2.2.2.2.2.1 h.2.2.2.2.2.2.1 h.2.2.2.2.2.2.2.1 h.2.2.2.2.2.2.2.2.1 h.2.2.2.2.2.2.2.2.2.1 h.2.2.2.2.2.2.2.2.2.2.1 h.2.2.2.2.2.2.2.2.2.2.2.1 h.2.2.2.2.2.2.2.2.2.2.2.2.1 h.2.2.2.2.2.2.2.2.2.2.2.2.2
end
section
variable {prog : Program} {w : World} {A : Around} {E : Value → Shared → Prop} {h : Heap} {g : Array GenState} {d : Drawn} {t : Nat} {o : OsState} {Q : Value → Shared → Prop} {a b : Int} {u v : Tok}
theorem addI (q : Q (.int (a + b) t) ⟨h, g, d, t + 1, o⟩) : wpAny (model prog w) A (binaryOp .Add (.int a u) (.int b v)) Q E ⟨h, g, d, t, o⟩ := add_int q
theorem subI (q : Q (.int (a - b) t) ⟨h, g, d, t + 1, o⟩) : wpAny (model prog w) A (binaryOp .Sub (.int a u) (.int b v)) Q E ⟨h, g, d, t, o⟩ := sub_int q
theorem iaddI (q : Q (.int (a + b) t) ⟨h, g, d, t + 1, o⟩) : wpAny (model prog w) A (inplaceOp .Add (.int a u) (.int b v)) Q E ⟨h, g, d, t, o⟩ := iadd_int q
theorem negI (q : Q (.int (-a) t) ⟨h, g, d, t + 1, o⟩) : wpAny (model prog w) A (unaryOp .USub (.int a u)) Q E ⟨h, g, d, t, o⟩ := neg_int q
end
section
variable {M : Model} {A : Around} {E : Value → Shared → Prop} {env : Env} {s : Shared} {pos : Pos} {rest : List Stmt} {Q : Flow → Shared → Prop}
theorem seqAsg {x : Str} {pos' : Pos} {value : PySem.Expr}
    (q : wpAny M A (eval value env) (fun v s₁ => wpAny M A (storeName env x v) (fun _ s₂ => wpAny M A (execs rest env) Q E s₂) E s₁) E s)
    (hs : pure false = swapsWith value (some (.Name x pos')) pos.line env) : wpAny M A (execs (.Assign [.Name x pos'] value pos :: rest) env) Q E s := wpAny_execs_cons (wpAny_Assign_Name q hs.symm)
theorem seqAtt {ob : PySem.Expr} {attr : Str} {pos' : Pos} {value : PySem.Expr}
    (q : wpAny M A (eval value env) (fun v s₁ => wpAny M A (eval ob env) (fun ov s₂ => wpAny M A (setAttr ov attr v) (fun _ s₃ => wpAny M A (execs rest env) Q E s₃) E s₂) E s₁) E s)
    (hs : pure false = swapsWith value (some (.Attribute ob attr pos')) pos.line env) : wpAny M A (execs (.Assign [.Attribute ob attr pos'] value pos :: rest) env) Q E s := wpAny_execs_cons (plainObj_wpAny_Assign_Attribute q hs.symm)
theorem seqRet {e : PySem.Expr} (q : wpAny M A (eval e env) (fun v s₁ => Q (.ret v) s₁) E s) : wpAny M A (execs (.Return (some e) pos :: rest) env) Q E s := wpAny_execs_cons (wpAny_Return_some q)
end
section
variable {prog : Program} {w : World} {A : Around} {E : Value → Shared → Prop} {env : Env} {s : Shared} {pos : Pos} {rest : List Stmt} {Q : Flow → Shared → Prop}
theorem seqExp {e : PySem.Expr} (q : wpAny (model prog w) A (eval e env) (fun _ s₁ => wpAny (model prog w) A (execs rest env) Q E s₁) E s)
    (hi : interactive env = false) (hs : pure false = swapsWith e none pos.line env) : wpAny (model prog w) A (execs (.Expr e pos :: rest) env) Q E s := wpAny_execs_cons (wpAny_Expr_any q hi hs.symm)
end
theorem fmc {α : Type} {p : α → Prop} {a : α} {l : List α} (h : p a) (k : ∀ x, x ∈ l → p x) : ∀ x, x ∈ a :: l → p x := List.forall_mem_cons.mpr ⟨h, k⟩
section
variable {M : Model} {A : Around} {E : Value → Shared → Prop} {h₀ : Heap} {L : Addr} {h : Heap} {g : Array GenState} {d : Drawn} {t : Nat} {o : OsState} {m : Str → Option Value} {news news' : List (Addr × Obj)} {Q : Value → Shared → Prop}
theorem sz0 : ([] : List Value).length ≤ sizeLine := Nat.zero_le _
theorem sz1 {a : Value} : [a].length ≤ sizeLine := by rw [sizeLine_eq]; exact Nat.le_of_ble_eq_true rfl
theorem sz2 {a b : Value} : [a, b].length ≤ sizeLine := by rw [sizeLine_eq]; exact Nat.le_of_ble_eq_true rfl
theorem sz3 {a b c : Value} : [a, b, c].length ≤ sizeLine := by rw [sizeLine_eq]; exact Nat.le_of_ble_eq_true rfl
theorem newL {vs : List Value} (F : Fr h₀ L h m) (N : News h₀ L h news)
    (q : ∀ l h', Fr h₀ L h' m → News h₀ L h' ((l, PySem.W.listOf vs.toArray 0) :: news) → (∀ p ∈ news, p.1 < l) → Q (.ref l) ⟨h', g, d, t, o⟩) (z : vs.length ≤ sizeLine) : wpAny M A (newList vs) Q E ⟨h, g, d, t, o⟩ :=
  newList_K (s := ⟨h, g, d, t, o⟩) F N q z
theorem newT {vs : List Value} (F : Fr h₀ L h m) (N : News h₀ L h news)
    (q : ∀ D h', Fr h₀ L h' m → News h₀ L h' ((D, ({ cls := .type "tuple", data := .seq vs.toArray } : Obj)) :: news) → (∀ p ∈ news, p.1 < D) → Q (.ref D) ⟨h', g, d, t, o⟩) (z : vs.length ≤ sizeLine) : wpAny M A (newTuple vs) Q E ⟨h, g, d, t, o⟩ :=
  kup_newTuple (s := ⟨h, g, d, t, o⟩) F N q z
theorem appL {prog : Program} {w : World} {D : Addr} {its : Array Value} {n : Nat} {x : Value} (F : Fr h₀ L h m) (N : News h₀ L h news) (U : Upd D (PySem.W.listOf its n) (PySem.W.listOf (its.push x) (n + 1)) news news')
    (q : ∀ h', Fr h₀ L h' m → News h₀ L h' news' → Q .none ⟨h', g, d, t, o⟩) (z : its.size ≤ sizeLine) : wpAny (model prog w) A (call (.builtin "list.append") [.ref D, x]) Q E ⟨h, g, d, t, o⟩ :=
  append_K (s := ⟨h, g, d, t, o⟩) F N U q z
end
end
section -- KB
set_option maxHeartbeats 8000000

/-! the objects of the top that the walk reads; bodies, parameters and scopes are taken out of the row's own term -/
def stm (i : Nat) : Stmt := (PySem.Challenge.pw_xm0772_01.main.body)[i]?.getD (.Pass ⟨0, 0, 0, 0⟩)
def mth (i j : Nat) : Stmt := match stm i with
  | .ClassDef _ _ _ b _ _ _ _ _ _ _ => b[j]?.getD (.Pass ⟨0, 0, 0, 0⟩)
  | s => s
def prm : Stmt → Arguments
  | .FunctionDef _ a _ _ _ _ _ _ _ _ => a
  | _ => default
def bdy : Stmt → List Stmt
  | .FunctionDef _ _ b _ _ _ _ _ _ _ => b
  | _ => default
def scp : Stmt → Scope
  | .FunctionDef _ _ _ _ _ _ s _ _ _ => s
  | _ => default
noncomputable def kE (P : Params) (x : String) (t : Nat) (v : Value) : DictEntry := ⟨PyData.keyHash P (Str.ofString x), .str (Str.ofString x) t, v⟩
noncomputable def o3 (P : Params) : Obj := ⟨.type "dict", none, .dict (kE P "__name__" 165 (.str (Str.ofString "law_xm0772_01") 1679) :: kE P "__doc__" 166 (.none) :: kE P "__package__" 167 (.none) :: kE P "__loader__" 168 (.builtin "__main__.__loader__#opaque") :: kE P "__spec__" 169 (.none) :: kE P "__annotations__" 170 (.ref 6) :: kE P "__builtins__" 171 (.ref 4) :: kE P "__file__" 173 (.str (Str.ofString "/claim/cut.py") 172) :: kE P "__cached__" 174 (.none) :: kE P "_wall" 193 (.ref 21) :: kE P "row_value" 205 (.ref 28) :: kE P "index_key" 211 (.ref 33) :: kE P "row_of" 220 (.ref 40) :: kE P "rows_of" 226 (.ref 45) :: kE P "Node" 253 (.ref 62) :: kE P "Expr" 269 (.ref 76) :: kE P "Name" 306 (.ref 102) :: kE P "Variable" 338 (.ref 128) :: kE P "Unary" 372 (.ref 154) :: kE P "Binary" 408 (.ref 180) :: kE P "Between" 446 (.ref 206) :: kE P "InList" 482 (.ref 232) :: kE P "InSelect" 518 (.ref 258) :: kE P "Exists" 552 (.ref 284) :: kE P "Scalar" 584 (.ref 310) :: kE P "Case" 619 (.ref 334) :: kE P "Call" 657 (.ref 360) :: kE P "Cast" 691 (.ref 386) :: kE P "Collate" 725 (.ref 412) :: kE P "IsNull" 759 (.ref 438) :: kE P "Match" 800 (.ref 464) :: kE P "ColumnDef" 839 (.ref 490) :: kE P "CreateTable" 879 (.ref 516) :: kE P "PagebaseError" 910 (.ref 535) :: kE P "SqlError" 926 (.ref 548) :: kE P "CorruptError" 942 (.ref 560) :: kE P "MisuseError" 958 (.ref 572) :: kE P "WORD" 964 (.int (18446744073709551616) 963) :: kE P "SPACES" 966 (.str (Str.ofString " \t\n\x0b\x0c\x0d") 965) :: kE P "REPLACEMENT" 969 (.str (Str.ofString "�") 968) :: kE P "utf8" 979 (.ref 581) :: kE P "lead_of" 986 (.ref 588) :: kE P "text_of" 997 (.ref 595) :: kE P "code_at" 1010 (.ref 602) :: kE P "fold_ascii" 1019 (.ref 609) :: kE P "storage_class" 1026 (.ref 616) :: kE P "affinity_of_type" 1035 (.ref 623) :: kE P "NUMBER_SIZES" 1045 (.ref 624) :: kE P "ZERO_TYPE" 1047 (.int (8) 1046) :: kE P "ONE_TYPE" 1049 (.int (9) 1048) :: kE P "BLOB_TYPE" 1051 (.int (12) 1050) :: kE P "TEXT_TYPE" 1053 (.int (13) 1052) :: kE P "put_varint" 1063 (.ref 631) :: kE P "get_varint" 1074 (.ref 638) :: kE P "put_fixed" 1085 (.ref 645) :: kE P "get_fixed" 1096 (.ref 652) :: kE P "number_type" 1105 (.ref 659) :: kE P "serial_type" 1113 (.ref 666) :: kE P "serial_size" 1120 (.ref 673) :: kE P "body_of" 1128 (.ref 680) :: kE P "value_of" 1139 (.ref 687) :: kE P "head_size" 1147 (.ref 694) :: kE P "encode_record" 1158 (.ref 701) :: kE P "head_of" 1169 (.ref 708) :: kE P "decode_record" 1180 (.ref 715) :: kE P "KeyInfo" 1234 (.ref 753) :: kE P "AGGREGATES" 1261 (.ref 758) :: kE P "fits" 1269 (.ref 771) :: kE P "is_aggregate" 1279 (.ref 779) :: kE P "fold" 1287 (.ref 784) :: kE P "children" 1297 (.ref 791) :: kE P "is_aggregate_call" 1304 (.ref 798) :: kE P "aggregates_in" 1313 (.ref 805) :: kE P "has_subquery" 1319 (.ref 810) :: kE P "has_variable" 1325 (.ref 815) :: kE P "names_in" 1334 (.ref 822) :: kE P "ROWID_NAMES" 1340 (.ref 823) :: kE P "COLLATIONS" 1344 (.ref 824) :: kE P "AUTO_PREFIX" 1346 (.str (Str.ofString "pagebase_auto_") 1345) :: kE P "Column" 1381 (.ref 842) :: kE P "Index" 1434 (.ref 873) :: kE P "Table" 1497 (.ref 915) :: kE P "check_collation" 1504 (.ref 926) :: kE P "MOST_COLUMNS" 1508 (.int (2000) 1507) :: kE P "check_default" 1516 (.ref 933) :: kE P "check_check" 1523 (.ref 940) :: kE P "check_names" 1534 (.ref 947) :: kE P "is_integer_type" 1541 (.ref 954) :: kE P "TableMaker" 1668 (.ref 1040) :: kE P "table_from" 1678 (.ref 1052) :: kE P "_law_pool" 1691 (.ref 1059) :: kE P "_law_take" 1700 (.ref 1066) :: kE P "_law_one" 1708 (.ref 1073) :: kE P "_law_table" 1718 (.ref 1080) :: kE P "_law_value" 1725 (.ref 1087) :: kE P "_law_due" 1731 (.ref 1092) :: kE P "_law_right" 1737 (.ref 1097) :: kE P "law" 1745 (.ref 1104) :: []).toArray 98, [].toArray⟩
noncomputable def o27 (P : Params) : Obj := ⟨.type "code", none, .fields [.str (Str.ofString "row_value") 196, .str (Str.ofString "row_value") 197, .str (Str.ofString "/claim/cut.py") 198, .int (5) 0, .int (4) 0, .int (0) 0, .int (0) 0, .int (3) 0, .ref 22, .bool true, .int (181) 0, .ref 23, .none, .ref 24, .ref 25, .ref 26, .int (203) 0, .int (5) 0, .str (Str.ofString "/claim/cut.py") 204].toArray, [].toArray⟩
noncomputable def o28 (P : Params) : Obj := ⟨.type "function", none, .func (fnOf (Str.ofString "row_value") (Str.ofString "row_value") (prm (stm 2)) (bdy (stm 2)) (scp (stm 2)) (.none) (.none) (.none) (.str (Str.ofString "pagebase.index_check") 194) none (.ref 27) (.none)), [].toArray⟩
noncomputable def o32 (P : Params) : Obj := ⟨.type "code", none, .fields [.str (Str.ofString "index_key") 206, .str (Str.ofString "index_key") 207, .str (Str.ofString "/claim/cut.py") 208, .int (9) 0, .int (4) 0, .int (0) 0, .int (0) 0, .int (3) 0, .ref 29, .bool true, .int (181) 0, .ref 30, .none, .none, .none, .ref 31, .int (209) 0, .int (9) 0, .str (Str.ofString "/claim/cut.py") 210].toArray, [].toArray⟩
noncomputable def o33 (P : Params) : Obj := ⟨.type "function", none, .func (fnOf (Str.ofString "index_key") (Str.ofString "index_key") (prm (stm 3)) (bdy (stm 3)) (scp (stm 3)) (.none) (.none) (.none) (.str (Str.ofString "pagebase.index_check") 194) none (.ref 32) (.none)), [].toArray⟩
noncomputable def o61 (P : Params) : Obj := ⟨.type "dict", none, .dict [kE P "__module__" 234 (.str (Str.ofString "pagebase.nodes") 212), kE P "__firstlineno__" 238 (.int (18) 237), kE P "row" 245 (.ref 59), kE P "__static_attributes__" 246 (.ref 60), kE P "__dict__" 248 (.ref 63), kE P "__weakref__" 250 (.ref 64), kE P "__doc__" 251 (.none)].toArray 4, [].toArray⟩
noncomputable def o62 (P : Params) : Obj := ⟨.type "type", none, .cls { name := (Str.ofString "Node"), bases := [.type "object"], mro := [.ref 62, .type "object"], ns := 61, qualname := (Str.ofString "Node"), hasDict := true, slotNames := [], subclasses := [.ref 76, .ref 490, .ref 516], abstract := false, collection := none, hasDel := false }, [none, none, some (.str (Str.ofString "Node") 227), some (.str (Str.ofString "Node") 235), some (.builtin "object.__new__"), some (.bool true)].toArray⟩
noncomputable def o479 (P : Params) : Obj := ⟨.type "code", none, .fields [.str (Str.ofString "__init__") 813, .str (Str.ofString "ColumnDef.__init__") 814, .str (Str.ofString "/claim/cut.py") 815, .int (160) 0, .int (4) 0, .int (0) 0, .int (0) 0, .int (3) 0, .ref 474, .bool true, .int (181) 0, .ref 475, .none, .ref 476, .ref 477, .ref 478, .int (820) 0, .int (160) 0, .str (Str.ofString "/claim/cut.py") 821].toArray, [].toArray⟩
noncomputable def o480 (P : Params) : Obj := ⟨.type "function", none, .func (fnOf (Str.ofString "__init__") (Str.ofString "ColumnDef.__init__") (prm (mth 24 0)) (bdy (mth 24 0)) (scp (mth 24 0)) (.none) (.none) (.none) (.str (Str.ofString "pagebase.nodes") 212) none (.ref 479) (.none)), [].toArray⟩
noncomputable def o489 (P : Params) : Obj := ⟨.type "dict", none, .dict [kE P "__module__" 808 (.str (Str.ofString "pagebase.nodes") 212), kE P "__firstlineno__" 812 (.int (158) 811), kE P "__init__" 822 (.ref 480), kE P "row" 832 (.ref 487), kE P "__static_attributes__" 836 (.ref 488), kE P "__doc__" 837 (.none)].toArray 2, [].toArray⟩
noncomputable def o490 (P : Params) : Obj := ⟨.type "type", none, .cls { name := (Str.ofString "ColumnDef"), bases := [.ref 62], mro := [.ref 490, .ref 62, .type "object"], ns := 489, qualname := (Str.ofString "ColumnDef"), hasDict := true, slotNames := [], subclasses := [], abstract := false, collection := none, hasDel := false }, [some (.ref 467), none, some (.str (Str.ofString "ColumnDef") 801), some (.str (Str.ofString "ColumnDef") 809), some (.builtin "object.__new__"), some (.bool true)].toArray⟩
noncomputable def o505 (P : Params) : Obj := ⟨.type "code", none, .fields [.str (Str.ofString "__init__") 852, .str (Str.ofString "CreateTable.__init__") 853, .str (Str.ofString "/claim/cut.py") 854, .int (172) 0, .int (6) 0, .int (0) 0, .int (0) 0, .int (3) 0, .ref 500, .bool true, .int (181) 0, .ref 501, .none, .ref 502, .ref 503, .ref 504, .int (861) 0, .int (172) 0, .str (Str.ofString "/claim/cut.py") 862].toArray, [].toArray⟩
noncomputable def o506 (P : Params) : Obj := ⟨.type "function", none, .func (fnOf (Str.ofString "__init__") (Str.ofString "CreateTable.__init__") (prm (mth 25 0)) (bdy (mth 25 0)) (scp (mth 25 0)) (.none) (.none) (.none) (.str (Str.ofString "pagebase.nodes") 212) none (.ref 505) (.none)), [].toArray⟩
noncomputable def o515 (P : Params) : Obj := ⟨.type "dict", none, .dict [kE P "__module__" 847 (.str (Str.ofString "pagebase.nodes") 212), kE P "__firstlineno__" 851 (.int (170) 850), kE P "__init__" 863 (.ref 506), kE P "row" 870 (.ref 513), kE P "__static_attributes__" 876 (.ref 514), kE P "__doc__" 877 (.none)].toArray 2, [].toArray⟩
noncomputable def o516 (P : Params) : Obj := ⟨.type "type", none, .cls { name := (Str.ofString "CreateTable"), bases := [.ref 62], mro := [.ref 516, .ref 62, .type "object"], ns := 515, qualname := (Str.ofString "CreateTable"), hasDict := true, slotNames := [], subclasses := [], abstract := false, collection := none, hasDel := false }, [some (.ref 493), none, some (.str (Str.ofString "CreateTable") 840), some (.str (Str.ofString "CreateTable") 848), some (.builtin "object.__new__"), some (.bool true)].toArray⟩
noncomputable def o580 (P : Params) : Obj := ⟨.type "code", none, .fields [.str (Str.ofString "utf8") 970, .str (Str.ofString "utf8") 971, .str (Str.ofString "/claim/cut.py") 972, .int (196) 0, .int (1) 0, .int (0) 0, .int (0) 0, .int (3) 0, .ref 575, .bool true, .int (181) 0, .ref 576, .none, .ref 577, .ref 578, .ref 579, .int (977) 0, .int (196) 0, .str (Str.ofString "/claim/cut.py") 978].toArray, [].toArray⟩
noncomputable def o581 (P : Params) : Obj := ⟨.type "function", none, .func (fnOf (Str.ofString "utf8") (Str.ofString "utf8") (prm (stm 35)) (bdy (stm 35)) (scp (stm 35)) (.none) (.none) (.none) (.str (Str.ofString "pagebase.values") 959) none (.ref 580) (.none)), [].toArray⟩
noncomputable def o587 (P : Params) : Obj := ⟨.type "code", none, .fields [.str (Str.ofString "lead_of") 980, .str (Str.ofString "lead_of") 981, .str (Str.ofString "/claim/cut.py") 982, .int (215) 0, .int (1) 0, .int (0) 0, .int (0) 0, .int (3) 0, .ref 582, .bool true, .int (181) 0, .ref 583, .none, .ref 584, .ref 585, .ref 586, .int (984) 0, .int (215) 0, .str (Str.ofString "/claim/cut.py") 985].toArray, [].toArray⟩
noncomputable def o588 (P : Params) : Obj := ⟨.type "function", none, .func (fnOf (Str.ofString "lead_of") (Str.ofString "lead_of") (prm (stm 36)) (bdy (stm 36)) (scp (stm 36)) (.none) (.none) (.none) (.str (Str.ofString "pagebase.values") 959) none (.ref 587) (.none)), [].toArray⟩
noncomputable def o594 (P : Params) : Obj := ⟨.type "code", none, .fields [.str (Str.ofString "text_of") 987, .str (Str.ofString "text_of") 988, .str (Str.ofString "/claim/cut.py") 989, .int (225) 0, .int (1) 0, .int (0) 0, .int (0) 0, .int (3) 0, .ref 589, .bool true, .int (181) 0, .ref 590, .none, .ref 591, .ref 592, .ref 593, .int (995) 0, .int (225) 0, .str (Str.ofString "/claim/cut.py") 996].toArray, [].toArray⟩
noncomputable def o595 (P : Params) : Obj := ⟨.type "function", none, .func (fnOf (Str.ofString "text_of") (Str.ofString "text_of") (prm (stm 37)) (bdy (stm 37)) (scp (stm 37)) (.none) (.none) (.none) (.str (Str.ofString "pagebase.values") 959) none (.ref 594) (.none)), [].toArray⟩
noncomputable def o601 (P : Params) : Obj := ⟨.type "code", none, .fields [.str (Str.ofString "code_at") 998, .str (Str.ofString "code_at") 999, .str (Str.ofString "/claim/cut.py") 1000, .int (240) 0, .int (3) 0, .int (0) 0, .int (0) 0, .int (3) 0, .ref 596, .bool true, .int (181) 0, .ref 597, .none, .ref 598, .ref 599, .ref 600, .int (1008) 0, .int (240) 0, .str (Str.ofString "/claim/cut.py") 1009].toArray, [].toArray⟩
noncomputable def o602 (P : Params) : Obj := ⟨.type "function", none, .func (fnOf (Str.ofString "code_at") (Str.ofString "code_at") (prm (stm 38)) (bdy (stm 38)) (scp (stm 38)) (.none) (.none) (.none) (.str (Str.ofString "pagebase.values") 959) none (.ref 601) (.none)), [].toArray⟩
noncomputable def o608 (P : Params) : Obj := ⟨.type "code", none, .fields [.str (Str.ofString "fold_ascii") 1011, .str (Str.ofString "fold_ascii") 1012, .str (Str.ofString "/claim/cut.py") 1013, .int (251) 0, .int (1) 0, .int (0) 0, .int (0) 0, .int (3) 0, .ref 603, .bool true, .int (181) 0, .ref 604, .none, .ref 605, .ref 606, .ref 607, .int (1017) 0, .int (251) 0, .str (Str.ofString "/claim/cut.py") 1018].toArray, [].toArray⟩
noncomputable def o609 (P : Params) : Obj := ⟨.type "function", none, .func (fnOf (Str.ofString "fold_ascii") (Str.ofString "fold_ascii") (prm (stm 39)) (bdy (stm 39)) (scp (stm 39)) (.none) (.none) (.none) (.str (Str.ofString "pagebase.values") 959) none (.ref 608) (.none)), [].toArray⟩
noncomputable def o615 (P : Params) : Obj := ⟨.type "code", none, .fields [.str (Str.ofString "storage_class") 1020, .str (Str.ofString "storage_class") 1021, .str (Str.ofString "/claim/cut.py") 1022, .int (259) 0, .int (1) 0, .int (0) 0, .int (0) 0, .int (3) 0, .ref 610, .bool true, .int (181) 0, .ref 611, .none, .ref 612, .ref 613, .ref 614, .int (1024) 0, .int (259) 0, .str (Str.ofString "/claim/cut.py") 1025].toArray, [].toArray⟩
noncomputable def o616 (P : Params) : Obj := ⟨.type "function", none, .func (fnOf (Str.ofString "storage_class") (Str.ofString "storage_class") (prm (stm 40)) (bdy (stm 40)) (scp (stm 40)) (.none) (.none) (.none) (.str (Str.ofString "pagebase.values") 959) none (.ref 615) (.none)), [].toArray⟩
noncomputable def o622 (P : Params) : Obj := ⟨.type "code", none, .fields [.str (Str.ofString "affinity_of_type") 1027, .str (Str.ofString "affinity_of_type") 1028, .str (Str.ofString "/claim/cut.py") 1029, .int (269) 0, .int (1) 0, .int (0) 0, .int (0) 0, .int (3) 0, .ref 617, .bool true, .int (181) 0, .ref 618, .none, .ref 619, .ref 620, .ref 621, .int (1033) 0, .int (269) 0, .str (Str.ofString "/claim/cut.py") 1034].toArray, [].toArray⟩
noncomputable def o623 (P : Params) : Obj := ⟨.type "function", none, .func (fnOf (Str.ofString "affinity_of_type") (Str.ofString "affinity_of_type") (prm (stm 41)) (bdy (stm 41)) (scp (stm 41)) (.none) (.none) (.none) (.str (Str.ofString "pagebase.values") 959) none (.ref 622) (.none)), [].toArray⟩
noncomputable def o624 (P : Params) : Obj := ⟨.type "tuple", none, .seq [.int (0) 1038, .int (1) 1039, .int (2) 1040, .int (3) 1041, .int (4) 1042, .int (6) 1043, .int (8) 1044].toArray 0, [].toArray⟩
noncomputable def o630 (P : Params) : Obj := ⟨.type "code", none, .fields [.str (Str.ofString "put_varint") 1054, .str (Str.ofString "put_varint") 1055, .str (Str.ofString "/claim/cut.py") 1056, .int (287) 0, .int (1) 0, .int (0) 0, .int (0) 0, .int (3) 0, .ref 625, .bool true, .int (181) 0, .ref 626, .none, .ref 627, .ref 628, .ref 629, .int (1061) 0, .int (287) 0, .str (Str.ofString "/claim/cut.py") 1062].toArray, [].toArray⟩
noncomputable def o631 (P : Params) : Obj := ⟨.type "function", none, .func (fnOf (Str.ofString "put_varint") (Str.ofString "put_varint") (prm (stm 48)) (bdy (stm 48)) (scp (stm 48)) (.none) (.none) (.none) (.str (Str.ofString "pagebase.records") 1036) none (.ref 630) (.none)), [].toArray⟩
noncomputable def o637 (P : Params) : Obj := ⟨.type "code", none, .fields [.str (Str.ofString "get_varint") 1064, .str (Str.ofString "get_varint") 1065, .str (Str.ofString "/claim/cut.py") 1066, .int (304) 0, .int (2) 0, .int (0) 0, .int (0) 0, .int (3) 0, .ref 632, .bool true, .int (181) 0, .ref 633, .none, .ref 634, .ref 635, .ref 636, .int (1072) 0, .int (304) 0, .str (Str.ofString "/claim/cut.py") 1073].toArray, [].toArray⟩
noncomputable def o638 (P : Params) : Obj := ⟨.type "function", none, .func (fnOf (Str.ofString "get_varint") (Str.ofString "get_varint") (prm (stm 49)) (bdy (stm 49)) (scp (stm 49)) (.none) (.none) (.none) (.str (Str.ofString "pagebase.records") 1036) none (.ref 637) (.none)), [].toArray⟩
noncomputable def o644 (P : Params) : Obj := ⟨.type "code", none, .fields [.str (Str.ofString "put_fixed") 1075, .str (Str.ofString "put_fixed") 1076, .str (Str.ofString "/claim/cut.py") 1077, .int (317) 0, .int (2) 0, .int (0) 0, .int (0) 0, .int (3) 0, .ref 639, .bool true, .int (181) 0, .ref 640, .none, .ref 641, .ref 642, .ref 643, .int (1083) 0, .int (317) 0, .str (Str.ofString "/claim/cut.py") 1084].toArray, [].toArray⟩
noncomputable def o645 (P : Params) : Obj := ⟨.type "function", none, .func (fnOf (Str.ofString "put_fixed") (Str.ofString "put_fixed") (prm (stm 50)) (bdy (stm 50)) (scp (stm 50)) (.none) (.none) (.none) (.str (Str.ofString "pagebase.records") 1036) none (.ref 644) (.none)), [].toArray⟩
noncomputable def o651 (P : Params) : Obj := ⟨.type "code", none, .fields [.str (Str.ofString "get_fixed") 1086, .str (Str.ofString "get_fixed") 1087, .str (Str.ofString "/claim/cut.py") 1088, .int (325) 0, .int (3) 0, .int (0) 0, .int (0) 0, .int (3) 0, .ref 646, .bool true, .int (181) 0, .ref 647, .none, .ref 648, .ref 649, .ref 650, .int (1094) 0, .int (325) 0, .str (Str.ofString "/claim/cut.py") 1095].toArray, [].toArray⟩
noncomputable def o652 (P : Params) : Obj := ⟨.type "function", none, .func (fnOf (Str.ofString "get_fixed") (Str.ofString "get_fixed") (prm (stm 51)) (bdy (stm 51)) (scp (stm 51)) (.none) (.none) (.none) (.str (Str.ofString "pagebase.records") 1036) none (.ref 651) (.none)), [].toArray⟩
noncomputable def o658 (P : Params) : Obj := ⟨.type "code", none, .fields [.str (Str.ofString "number_type") 1097, .str (Str.ofString "number_type") 1098, .str (Str.ofString "/claim/cut.py") 1099, .int (332) 0, .int (1) 0, .int (0) 0, .int (0) 0, .int (3) 0, .ref 653, .bool true, .int (181) 0, .ref 654, .none, .ref 655, .ref 656, .ref 657, .int (1103) 0, .int (332) 0, .str (Str.ofString "/claim/cut.py") 1104].toArray, [].toArray⟩
noncomputable def o659 (P : Params) : Obj := ⟨.type "function", none, .func (fnOf (Str.ofString "number_type") (Str.ofString "number_type") (prm (stm 52)) (bdy (stm 52)) (scp (stm 52)) (.none) (.none) (.none) (.str (Str.ofString "pagebase.records") 1036) none (.ref 658) (.none)), [].toArray⟩
noncomputable def o665 (P : Params) : Obj := ⟨.type "code", none, .fields [.str (Str.ofString "serial_type") 1106, .str (Str.ofString "serial_type") 1107, .str (Str.ofString "/claim/cut.py") 1108, .int (342) 0, .int (1) 0, .int (0) 0, .int (0) 0, .int (3) 0, .ref 660, .bool true, .int (181) 0, .ref 661, .none, .ref 662, .ref 663, .ref 664, .int (1111) 0, .int (342) 0, .str (Str.ofString "/claim/cut.py") 1112].toArray, [].toArray⟩
noncomputable def o666 (P : Params) : Obj := ⟨.type "function", none, .func (fnOf (Str.ofString "serial_type") (Str.ofString "serial_type") (prm (stm 53)) (bdy (stm 53)) (scp (stm 53)) (.none) (.none) (.none) (.str (Str.ofString "pagebase.records") 1036) none (.ref 665) (.none)), [].toArray⟩
noncomputable def o672 (P : Params) : Obj := ⟨.type "code", none, .fields [.str (Str.ofString "serial_size") 1114, .str (Str.ofString "serial_size") 1115, .str (Str.ofString "/claim/cut.py") 1116, .int (351) 0, .int (1) 0, .int (0) 0, .int (0) 0, .int (3) 0, .ref 667, .bool true, .int (181) 0, .ref 668, .none, .ref 669, .ref 670, .ref 671, .int (1118) 0, .int (351) 0, .str (Str.ofString "/claim/cut.py") 1119].toArray, [].toArray⟩
noncomputable def o673 (P : Params) : Obj := ⟨.type "function", none, .func (fnOf (Str.ofString "serial_size") (Str.ofString "serial_size") (prm (stm 54)) (bdy (stm 54)) (scp (stm 54)) (.none) (.none) (.none) (.str (Str.ofString "pagebase.records") 1036) none (.ref 672) (.none)), [].toArray⟩
noncomputable def o679 (P : Params) : Obj := ⟨.type "code", none, .fields [.str (Str.ofString "body_of") 1121, .str (Str.ofString "body_of") 1122, .str (Str.ofString "/claim/cut.py") 1123, .int (359) 0, .int (2) 0, .int (0) 0, .int (0) 0, .int (3) 0, .ref 674, .bool true, .int (181) 0, .ref 675, .none, .ref 676, .ref 677, .ref 678, .int (1126) 0, .int (359) 0, .str (Str.ofString "/claim/cut.py") 1127].toArray, [].toArray⟩
noncomputable def o680 (P : Params) : Obj := ⟨.type "function", none, .func (fnOf (Str.ofString "body_of") (Str.ofString "body_of") (prm (stm 55)) (bdy (stm 55)) (scp (stm 55)) (.none) (.none) (.none) (.str (Str.ofString "pagebase.records") 1036) none (.ref 679) (.none)), [].toArray⟩
noncomputable def o686 (P : Params) : Obj := ⟨.type "code", none, .fields [.str (Str.ofString "value_of") 1129, .str (Str.ofString "value_of") 1130, .str (Str.ofString "/claim/cut.py") 1131, .int (367) 0, .int (3) 0, .int (0) 0, .int (0) 0, .int (3) 0, .ref 681, .bool true, .int (181) 0, .ref 682, .none, .ref 683, .ref 684, .ref 685, .int (1137) 0, .int (367) 0, .str (Str.ofString "/claim/cut.py") 1138].toArray, [].toArray⟩
noncomputable def o687 (P : Params) : Obj := ⟨.type "function", none, .func (fnOf (Str.ofString "value_of") (Str.ofString "value_of") (prm (stm 56)) (bdy (stm 56)) (scp (stm 56)) (.none) (.none) (.none) (.str (Str.ofString "pagebase.records") 1036) none (.ref 686) (.none)), [].toArray⟩
noncomputable def o693 (P : Params) : Obj := ⟨.type "code", none, .fields [.str (Str.ofString "head_size") 1140, .str (Str.ofString "head_size") 1141, .str (Str.ofString "/claim/cut.py") 1142, .int (383) 0, .int (1) 0, .int (0) 0, .int (0) 0, .int (3) 0, .ref 688, .bool true, .int (181) 0, .ref 689, .none, .ref 690, .ref 691, .ref 692, .int (1145) 0, .int (383) 0, .str (Str.ofString "/claim/cut.py") 1146].toArray, [].toArray⟩
noncomputable def o694 (P : Params) : Obj := ⟨.type "function", none, .func (fnOf (Str.ofString "head_size") (Str.ofString "head_size") (prm (stm 57)) (bdy (stm 57)) (scp (stm 57)) (.none) (.none) (.none) (.str (Str.ofString "pagebase.records") 1036) none (.ref 693) (.none)), [].toArray⟩
noncomputable def o700 (P : Params) : Obj := ⟨.type "code", none, .fields [.str (Str.ofString "encode_record") 1148, .str (Str.ofString "encode_record") 1149, .str (Str.ofString "/claim/cut.py") 1150, .int (388) 0, .int (1) 0, .int (0) 0, .int (0) 0, .int (3) 0, .ref 695, .bool true, .int (181) 0, .ref 696, .none, .ref 697, .ref 698, .ref 699, .int (1156) 0, .int (388) 0, .str (Str.ofString "/claim/cut.py") 1157].toArray, [].toArray⟩
noncomputable def o701 (P : Params) : Obj := ⟨.type "function", none, .func (fnOf (Str.ofString "encode_record") (Str.ofString "encode_record") (prm (stm 58)) (bdy (stm 58)) (scp (stm 58)) (.none) (.none) (.none) (.str (Str.ofString "pagebase.records") 1036) none (.ref 700) (.none)), [].toArray⟩
noncomputable def o707 (P : Params) : Obj := ⟨.type "code", none, .fields [.str (Str.ofString "head_of") 1159, .str (Str.ofString "head_of") 1160, .str (Str.ofString "/claim/cut.py") 1161, .int (396) 0, .int (1) 0, .int (0) 0, .int (0) 0, .int (3) 0, .ref 702, .bool true, .int (181) 0, .ref 703, .none, .ref 704, .ref 705, .ref 706, .int (1167) 0, .int (396) 0, .str (Str.ofString "/claim/cut.py") 1168].toArray, [].toArray⟩
noncomputable def o708 (P : Params) : Obj := ⟨.type "function", none, .func (fnOf (Str.ofString "head_of") (Str.ofString "head_of") (prm (stm 59)) (bdy (stm 59)) (scp (stm 59)) (.none) (.none) (.none) (.str (Str.ofString "pagebase.records") 1036) none (.ref 707) (.none)), [].toArray⟩
noncomputable def o714 (P : Params) : Obj := ⟨.type "code", none, .fields [.str (Str.ofString "decode_record") 1170, .str (Str.ofString "decode_record") 1171, .str (Str.ofString "/claim/cut.py") 1172, .int (407) 0, .int (1) 0, .int (0) 0, .int (0) 0, .int (3) 0, .ref 709, .bool true, .int (181) 0, .ref 710, .none, .ref 711, .ref 712, .ref 713, .int (1178) 0, .int (407) 0, .str (Str.ofString "/claim/cut.py") 1179].toArray, [].toArray⟩
noncomputable def o715 (P : Params) : Obj := ⟨.type "function", none, .func (fnOf (Str.ofString "decode_record") (Str.ofString "decode_record") (prm (stm 60)) (bdy (stm 60)) (scp (stm 60)) (.none) (.none) (.none) (.str (Str.ofString "pagebase.records") 1036) none (.ref 714) (.none)), [].toArray⟩
noncomputable def o728 (P : Params) : Obj := ⟨.type "code", none, .fields [.str (Str.ofString "__init__") 1193, .str (Str.ofString "KeyInfo.__init__") 1194, .str (Str.ofString "/claim/cut.py") 1195, .int (418) 0, .int (3) 0, .int (0) 0, .int (0) 0, .int (3) 0, .ref 723, .bool true, .int (181) 0, .ref 724, .none, .ref 725, .ref 726, .ref 727, .int (1199) 0, .int (418) 0, .str (Str.ofString "/claim/cut.py") 1200].toArray, [].toArray⟩
noncomputable def o729 (P : Params) : Obj := ⟨.type "function", none, .func (fnOf (Str.ofString "__init__") (Str.ofString "KeyInfo.__init__") (prm (mth 61 0)) (bdy (mth 61 0)) (scp (mth 61 0)) (.none) (.none) (.none) (.str (Str.ofString "pagebase.records") 1036) none (.ref 728) (.none)), [].toArray⟩
noncomputable def o735 (P : Params) : Obj := ⟨.type "code", none, .fields [.str (Str.ofString "count") 1202, .str (Str.ofString "KeyInfo.count") 1203, .str (Str.ofString "/claim/cut.py") 1204, .int (424) 0, .int (1) 0, .int (0) 0, .int (0) 0, .int (3) 0, .ref 730, .bool true, .int (181) 0, .ref 731, .none, .ref 732, .ref 733, .ref 734, .int (1206) 0, .int (424) 0, .str (Str.ofString "/claim/cut.py") 1207].toArray, [].toArray⟩
noncomputable def o736 (P : Params) : Obj := ⟨.type "function", none, .func (fnOf (Str.ofString "count") (Str.ofString "KeyInfo.count") (prm (mth 61 1)) (bdy (mth 61 1)) (scp (mth 61 1)) (.none) (.none) (.none) (.str (Str.ofString "pagebase.records") 1036) none (.ref 735) (.none)), [].toArray⟩
noncomputable def o752 (P : Params) : Obj := ⟨.type "dict", none, .dict [kE P "__module__" 1188 (.str (Str.ofString "pagebase.records") 1036), kE P "__firstlineno__" 1192 (.int (416) 1191), kE P "__init__" 1201 (.ref 729), kE P "count" 1208 (.ref 736), kE P "collation" 1216 (.ref 743), kE P "is_descending" 1224 (.ref 750), kE P "__static_attributes__" 1227 (.ref 751), kE P "__dict__" 1229 (.ref 754), kE P "__weakref__" 1231 (.ref 755), kE P "__doc__" 1232 (.none)].toArray 4, [].toArray⟩
noncomputable def o753 (P : Params) : Obj := ⟨.type "type", none, .cls { name := (Str.ofString "KeyInfo"), bases := [.type "object"], mro := [.ref 753, .type "object"], ns := 752, qualname := (Str.ofString "KeyInfo"), hasDict := true, slotNames := [], subclasses := [], abstract := false, collection := none, hasDel := false }, [none, none, some (.str (Str.ofString "KeyInfo") 1181), some (.str (Str.ofString "KeyInfo") 1189), some (.builtin "object.__new__"), some (.bool true)].toArray⟩
noncomputable def o783 (P : Params) : Obj := ⟨.type "code", none, .fields [.str (Str.ofString "fold") 1282, .str (Str.ofString "fold") 1283, .str (Str.ofString "/claim/cut.py") 1284, .int (444) 0, .int (1) 0, .int (0) 0, .int (0) 0, .int (3) 0, .ref 780, .bool true, .int (181) 0, .ref 781, .none, .none, .none, .ref 782, .int (1285) 0, .int (444) 0, .str (Str.ofString "/claim/cut.py") 1286].toArray, [].toArray⟩
noncomputable def o784 (P : Params) : Obj := ⟨.type "function", none, .func (fnOf (Str.ofString "fold") (Str.ofString "fold") (prm (stm 67)) (bdy (stm 67)) (scp (stm 67)) (.none) (.none) (.none) (.str (Str.ofString "pagebase.expr_tools") 1280) none (.ref 783) (.none)), [].toArray⟩
noncomputable def o823 (P : Params) : Obj := ⟨.type "tuple", none, .seq [.str (Str.ofString "rowid") 1337, .str (Str.ofString "oid") 1338, .str (Str.ofString "_rowid_") 1339].toArray 0, [].toArray⟩
noncomputable def o824 (P : Params) : Obj := ⟨.type "tuple", none, .seq [.str (Str.ofString "binary") 1341, .str (Str.ofString "nocase") 1342, .str (Str.ofString "rtrim") 1343].toArray 0, [].toArray⟩
noncomputable def o832 (P : Params) : Obj := ⟨.type "tuple", none, .seq [.none].toArray 0, [].toArray⟩
noncomputable def o838 (P : Params) : Obj := ⟨.type "code", none, .fields [.str (Str.ofString "__init__") 1359, .str (Str.ofString "Column.__init__") 1360, .str (Str.ofString "/claim/cut.py") 1361, .int (499) 0, .int (3) 0, .int (0) 0, .int (0) 0, .int (3) 0, .ref 833, .bool true, .int (181) 0, .ref 834, .none, .ref 835, .ref 836, .ref 837, .int (1365) 0, .int (499) 0, .str (Str.ofString "/claim/cut.py") 1366].toArray, [].toArray⟩
noncomputable def o839 (P : Params) : Obj := ⟨.type "function", none, .func (fnOf (Str.ofString "__init__") (Str.ofString "Column.__init__") (prm (mth 78 0)) (bdy (mth 78 0)) (scp (mth 78 0)) (.ref 832) (.none) (.none) (.str (Str.ofString "pagebase.tables") 1335) none (.ref 838) (.none)), [].toArray⟩
noncomputable def o841 (P : Params) : Obj := ⟨.type "dict", none, .dict [kE P "__module__" 1354 (.str (Str.ofString "pagebase.tables") 1335), kE P "__firstlineno__" 1358 (.int (497) 1357), kE P "__init__" 1367 (.ref 839), kE P "__static_attributes__" 1374 (.ref 840), kE P "__dict__" 1376 (.ref 843), kE P "__weakref__" 1378 (.ref 844), kE P "__doc__" 1379 (.none)].toArray 4, [].toArray⟩
noncomputable def o842 (P : Params) : Obj := ⟨.type "type", none, .cls { name := (Str.ofString "Column"), bases := [.type "object"], mro := [.ref 842, .type "object"], ns := 841, qualname := (Str.ofString "Column"), hasDict := true, slotNames := [], subclasses := [], abstract := false, collection := none, hasDel := false }, [none, none, some (.str (Str.ofString "Column") 1347), some (.str (Str.ofString "Column") 1355), some (.builtin "object.__new__"), some (.bool true)].toArray⟩
noncomputable def o859 (P : Params) : Obj := ⟨.type "code", none, .fields [.str (Str.ofString "__init__") 1394, .str (Str.ofString "Index.__init__") 1395, .str (Str.ofString "/claim/cut.py") 1396, .int (508) 0, .int (8) 0, .int (0) 0, .int (0) 0, .int (3) 0, .ref 854, .bool true, .int (181) 0, .ref 855, .none, .ref 856, .ref 857, .ref 858, .int (1405) 0, .int (508) 0, .str (Str.ofString "/claim/cut.py") 1406].toArray, [].toArray⟩
noncomputable def o860 (P : Params) : Obj := ⟨.type "function", none, .func (fnOf (Str.ofString "__init__") (Str.ofString "Index.__init__") (prm (mth 79 0)) (bdy (mth 79 0)) (scp (mth 79 0)) (.none) (.none) (.none) (.str (Str.ofString "pagebase.tables") 1335) none (.ref 859) (.none)), [].toArray⟩
noncomputable def o864 (P : Params) : Obj := ⟨.type "code", none, .fields [.str (Str.ofString "info") 1408, .str (Str.ofString "Index.info") 1409, .str (Str.ofString "/claim/cut.py") 1410, .int (517) 0, .int (1) 0, .int (0) 0, .int (0) 0, .int (3) 0, .ref 861, .bool true, .int (181) 0, .ref 862, .none, .none, .none, .ref 863, .int (1411) 0, .int (517) 0, .str (Str.ofString "/claim/cut.py") 1412].toArray, [].toArray⟩
noncomputable def o865 (P : Params) : Obj := ⟨.type "function", none, .func (fnOf (Str.ofString "info") (Str.ofString "Index.info") (prm (mth 79 1)) (bdy (mth 79 1)) (scp (mth 79 1)) (.none) (.none) (.none) (.str (Str.ofString "pagebase.tables") 1335) none (.ref 864) (.none)), [].toArray⟩
noncomputable def o872 (P : Params) : Obj := ⟨.type "dict", none, .dict [kE P "__module__" 1389 (.str (Str.ofString "pagebase.tables") 1335), kE P "__firstlineno__" 1393 (.int (506) 1392), kE P "__init__" 1407 (.ref 860), kE P "info" 1413 (.ref 865), kE P "places" 1419 (.ref 870), kE P "__static_attributes__" 1427 (.ref 871), kE P "__dict__" 1429 (.ref 874), kE P "__weakref__" 1431 (.ref 875), kE P "__doc__" 1432 (.none)].toArray 4, [].toArray⟩
noncomputable def o873 (P : Params) : Obj := ⟨.type "type", none, .cls { name := (Str.ofString "Index"), bases := [.type "object"], mro := [.ref 873, .type "object"], ns := 872, qualname := (Str.ofString "Index"), hasDict := true, slotNames := [], subclasses := [], abstract := false, collection := none, hasDel := false }, [none, none, some (.str (Str.ofString "Index") 1382), some (.str (Str.ofString "Index") 1390), some (.builtin "object.__new__"), some (.bool true)].toArray⟩
noncomputable def o890 (P : Params) : Obj := ⟨.type "code", none, .fields [.str (Str.ofString "__init__") 1447, .str (Str.ofString "Table.__init__") 1448, .str (Str.ofString "/claim/cut.py") 1449, .int (526) 0, .int (5) 0, .int (0) 0, .int (0) 0, .int (3) 0, .ref 885, .bool true, .int (181) 0, .ref 886, .none, .ref 887, .ref 888, .ref 889, .int (1455) 0, .int (526) 0, .str (Str.ofString "/claim/cut.py") 1456].toArray, [].toArray⟩
noncomputable def o891 (P : Params) : Obj := ⟨.type "function", none, .func (fnOf (Str.ofString "__init__") (Str.ofString "Table.__init__") (prm (mth 80 0)) (bdy (mth 80 0)) (scp (mth 80 0)) (.none) (.none) (.none) (.str (Str.ofString "pagebase.tables") 1335) none (.ref 890) (.none)), [].toArray⟩
noncomputable def o897 (P : Params) : Obj := ⟨.type "code", none, .fields [.str (Str.ofString "place_of") 1458, .str (Str.ofString "Table.place_of") 1459, .str (Str.ofString "/claim/cut.py") 1460, .int (536) 0, .int (2) 0, .int (0) 0, .int (0) 0, .int (3) 0, .ref 892, .bool true, .int (181) 0, .ref 893, .none, .ref 894, .ref 895, .ref 896, .int (1465) 0, .int (536) 0, .str (Str.ofString "/claim/cut.py") 1466].toArray, [].toArray⟩
noncomputable def o898 (P : Params) : Obj := ⟨.type "function", none, .func (fnOf (Str.ofString "place_of") (Str.ofString "Table.place_of") (prm (mth 80 1)) (bdy (mth 80 1)) (scp (mth 80 1)) (.none) (.none) (.none) (.str (Str.ofString "pagebase.tables") 1335) none (.ref 897) (.none)), [].toArray⟩
noncomputable def o914 (P : Params) : Obj := ⟨.type "dict", none, .dict [kE P "__module__" 1442 (.str (Str.ofString "pagebase.tables") 1335), kE P "__firstlineno__" 1446 (.int (524) 1445), kE P "__init__" 1457 (.ref 891), kE P "place_of" 1467 (.ref 898), kE P "affinities" 1474 (.ref 905), kE P "column_names" 1481 (.ref 912), kE P "__static_attributes__" 1490 (.ref 913), kE P "__dict__" 1492 (.ref 916), kE P "__weakref__" 1494 (.ref 917), kE P "__doc__" 1495 (.none)].toArray 4, [].toArray⟩
noncomputable def o915 (P : Params) : Obj := ⟨.type "type", none, .cls { name := (Str.ofString "Table"), bases := [.type "object"], mro := [.ref 915, .type "object"], ns := 914, qualname := (Str.ofString "Table"), hasDict := true, slotNames := [], subclasses := [], abstract := false, collection := none, hasDel := false }, [none, none, some (.str (Str.ofString "Table") 1435), some (.str (Str.ofString "Table") 1443), some (.builtin "object.__new__"), some (.bool true)].toArray⟩
noncomputable def o953 (P : Params) : Obj := ⟨.type "code", none, .fields [.str (Str.ofString "is_integer_type") 1535, .str (Str.ofString "is_integer_type") 1536, .str (Str.ofString "/claim/cut.py") 1537, .int (570) 0, .int (1) 0, .int (0) 0, .int (0) 0, .int (3) 0, .ref 948, .bool true, .int (181) 0, .ref 949, .none, .ref 950, .ref 951, .ref 952, .int (1539) 0, .int (570) 0, .str (Str.ofString "/claim/cut.py") 1540].toArray, [].toArray⟩
noncomputable def o954 (P : Params) : Obj := ⟨.type "function", none, .func (fnOf (Str.ofString "is_integer_type") (Str.ofString "is_integer_type") (prm (stm 87)) (bdy (stm 87)) (scp (stm 87)) (.none) (.none) (.none) (.str (Str.ofString "pagebase.table_maker") 1505) none (.ref 953) (.none)), [].toArray⟩
noncomputable def o967 (P : Params) : Obj := ⟨.type "code", none, .fields [.str (Str.ofString "__init__") 1554, .str (Str.ofString "TableMaker.__init__") 1555, .str (Str.ofString "/claim/cut.py") 1556, .int (574) 0, .int (3) 0, .int (0) 0, .int (0) 0, .int (3) 0, .ref 962, .bool true, .int (181) 0, .ref 963, .none, .ref 964, .ref 965, .ref 966, .int (1560) 0, .int (574) 0, .str (Str.ofString "/claim/cut.py") 1561].toArray, [].toArray⟩
noncomputable def o968 (P : Params) : Obj := ⟨.type "function", none, .func (fnOf (Str.ofString "__init__") (Str.ofString "TableMaker.__init__") (prm (mth 88 0)) (bdy (mth 88 0)) (scp (mth 88 0)) (.none) (.none) (.none) (.str (Str.ofString "pagebase.table_maker") 1505) none (.ref 967) (.none)), [].toArray⟩
noncomputable def o974 (P : Params) : Obj := ⟨.type "code", none, .fields [.str (Str.ofString "root_at") 1563, .str (Str.ofString "TableMaker.root_at") 1564, .str (Str.ofString "/claim/cut.py") 1565, .int (580) 0, .int (2) 0, .int (0) 0, .int (0) 0, .int (3) 0, .ref 969, .bool true, .int (181) 0, .ref 970, .none, .ref 971, .ref 972, .ref 973, .int (1568) 0, .int (580) 0, .str (Str.ofString "/claim/cut.py") 1569].toArray, [].toArray⟩
noncomputable def o975 (P : Params) : Obj := ⟨.type "function", none, .func (fnOf (Str.ofString "root_at") (Str.ofString "TableMaker.root_at") (prm (mth 88 1)) (bdy (mth 88 1)) (scp (mth 88 1)) (.none) (.none) (.none) (.str (Str.ofString "pagebase.table_maker") 1505) none (.ref 974) (.none)), [].toArray⟩
noncomputable def o981 (P : Params) : Obj := ⟨.type "code", none, .fields [.str (Str.ofString "read") 1571, .str (Str.ofString "TableMaker.read") 1572, .str (Str.ofString "/claim/cut.py") 1573, .int (583) 0, .int (1) 0, .int (0) 0, .int (0) 0, .int (3) 0, .ref 976, .bool true, .int (181) 0, .ref 977, .none, .ref 978, .ref 979, .ref 980, .int (1581) 0, .int (583) 0, .str (Str.ofString "/claim/cut.py") 1582].toArray, [].toArray⟩
noncomputable def o982 (P : Params) : Obj := ⟨.type "function", none, .func (fnOf (Str.ofString "read") (Str.ofString "TableMaker.read") (prm (mth 88 2)) (bdy (mth 88 2)) (scp (mth 88 2)) (.none) (.none) (.none) (.str (Str.ofString "pagebase.table_maker") 1505) none (.ref 981) (.none)), [].toArray⟩
noncomputable def o988 (P : Params) : Obj := ⟨.type "code", none, .fields [.str (Str.ofString "add_column") 1584, .str (Str.ofString "TableMaker.add_column") 1585, .str (Str.ofString "/claim/cut.py") 1586, .int (595) 0, .int (2) 0, .int (0) 0, .int (0) 0, .int (3) 0, .ref 983, .bool true, .int (181) 0, .ref 984, .none, .ref 985, .ref 986, .ref 987, .int (1589) 0, .int (595) 0, .str (Str.ofString "/claim/cut.py") 1590].toArray, [].toArray⟩
noncomputable def o989 (P : Params) : Obj := ⟨.type "function", none, .func (fnOf (Str.ofString "add_column") (Str.ofString "TableMaker.add_column") (prm (mth 88 3)) (bdy (mth 88 3)) (scp (mth 88 3)) (.none) (.none) (.none) (.str (Str.ofString "pagebase.table_maker") 1505) none (.ref 988) (.none)), [].toArray⟩
noncomputable def o995 (P : Params) : Obj := ⟨.type "code", none, .fields [.str (Str.ofString "add_column_constraint") 1592, .str (Str.ofString "TableMaker.add_column_constraint") 1593, .str (Str.ofString "/claim/cut.py") 1594, .int (602) 0, .int (4) 0, .int (0) 0, .int (0) 0, .int (3) 0, .ref 990, .bool true, .int (181) 0, .ref 991, .none, .ref 992, .ref 993, .ref 994, .int (1600) 0, .int (602) 0, .str (Str.ofString "/claim/cut.py") 1601].toArray, [].toArray⟩
noncomputable def o996 (P : Params) : Obj := ⟨.type "function", none, .func (fnOf (Str.ofString "add_column_constraint") (Str.ofString "TableMaker.add_column_constraint") (prm (mth 88 4)) (bdy (mth 88 4)) (scp (mth 88 4)) (.none) (.none) (.none) (.str (Str.ofString "pagebase.table_maker") 1505) none (.ref 995) (.none)), [].toArray⟩
noncomputable def o1012 (P : Params) : Obj := ⟨.type "code", none, .fields [.str (Str.ofString "add_primary") 1619, .str (Str.ofString "TableMaker.add_primary") 1620, .str (Str.ofString "/claim/cut.py") 1621, .int (638) 0, .int (3) 0, .int (0) 0, .int (0) 0, .int (3) 0, .ref 1009, .bool true, .int (181) 0, .ref 1010, .none, .none, .none, .ref 1011, .int (1622) 0, .int (638) 0, .str (Str.ofString "/claim/cut.py") 1623].toArray, [].toArray⟩
noncomputable def o1013 (P : Params) : Obj := ⟨.type "function", none, .func (fnOf (Str.ofString "add_primary") (Str.ofString "TableMaker.add_primary") (prm (mth 88 7)) (bdy (mth 88 7)) (scp (mth 88 7)) (.none) (.none) (.none) (.str (Str.ofString "pagebase.table_maker") 1505) none (.ref 1012) (.none)), [].toArray⟩
noncomputable def o1024 (P : Params) : Obj := ⟨.type "code", none, .fields [.str (Str.ofString "settle") 1634, .str (Str.ofString "TableMaker.settle") 1635, .str (Str.ofString "/claim/cut.py") 1636, .int (651) 0, .int (1) 0, .int (0) 0, .int (0) 0, .int (3) 0, .ref 1021, .bool true, .int (181) 0, .ref 1022, .none, .none, .none, .ref 1023, .int (1637) 0, .int (651) 0, .str (Str.ofString "/claim/cut.py") 1638].toArray, [].toArray⟩
noncomputable def o1025 (P : Params) : Obj := ⟨.type "function", none, .func (fnOf (Str.ofString "settle") (Str.ofString "TableMaker.settle") (prm (mth 88 9)) (bdy (mth 88 9)) (scp (mth 88 9)) (.none) (.none) (.none) (.str (Str.ofString "pagebase.table_maker") 1505) none (.ref 1024) (.none)), [].toArray⟩
noncomputable def o1039 (P : Params) : Obj := ⟨.type "dict", none, .dict [kE P "__module__" 1549 (.str (Str.ofString "pagebase.table_maker") 1505), kE P "__firstlineno__" 1553 (.int (572) 1552), kE P "__init__" 1562 (.ref 968), kE P "root_at" 1570 (.ref 975), kE P "read" 1583 (.ref 982), kE P "add_column" 1591 (.ref 989), kE P "add_column_constraint" 1602 (.ref 996), kE P "add_table_constraint" 1608 (.ref 1001), kE P "constraint_column" 1618 (.ref 1008), kE P "add_primary" 1624 (.ref 1013), kE P "add_unique" 1633 (.ref 1020), kE P "settle" 1639 (.ref 1025), kE P "settled" 1650 (.ref 1032), kE P "is_needless" 1656 (.ref 1037), kE P "__static_attributes__" 1661 (.ref 1038), kE P "__dict__" 1663 (.ref 1041), kE P "__weakref__" 1665 (.ref 1042), kE P "__doc__" 1666 (.none)].toArray 4, [].toArray⟩
noncomputable def o1040 (P : Params) : Obj := ⟨.type "type", none, .cls { name := (Str.ofString "TableMaker"), bases := [.type "object"], mro := [.ref 1040, .type "object"], ns := 1039, qualname := (Str.ofString "TableMaker"), hasDict := true, slotNames := [], subclasses := [], abstract := false, collection := none, hasDel := false }, [none, none, some (.str (Str.ofString "TableMaker") 1542), some (.str (Str.ofString "TableMaker") 1550), some (.builtin "object.__new__"), some (.bool true)].toArray⟩
noncomputable def o1045 (P : Params) : Obj := ⟨.type "tuple", none, .seq [.none].toArray 0, [].toArray⟩
noncomputable def o1051 (P : Params) : Obj := ⟨.type "code", none, .fields [.str (Str.ofString "table_from") 1669, .str (Str.ofString "table_from") 1670, .str (Str.ofString "/claim/cut.py") 1671, .int (676) 0, .int (2) 0, .int (0) 0, .int (0) 0, .int (3) 0, .ref 1046, .bool true, .int (181) 0, .ref 1047, .none, .ref 1048, .ref 1049, .ref 1050, .int (1676) 0, .int (676) 0, .str (Str.ofString "/claim/cut.py") 1677].toArray, [].toArray⟩
noncomputable def o1052 (P : Params) : Obj := ⟨.type "function", none, .func (fnOf (Str.ofString "table_from") (Str.ofString "table_from") (prm (stm 89)) (bdy (stm 89)) (scp (stm 89)) (.ref 1045) (.none) (.none) (.str (Str.ofString "pagebase.table_maker") 1505) none (.ref 1051) (.none)), [].toArray⟩
noncomputable def o1058 (P : Params) : Obj := ⟨.type "code", none, .fields [.str (Str.ofString "_law_pool") 1681, .str (Str.ofString "_law_pool") 1682, .str (Str.ofString "/claim/cut.py") 1683, .int (682) 0, .int (2) 0, .int (0) 0, .int (0) 0, .int (3) 0, .ref 1053, .bool true, .int (181) 0, .ref 1054, .none, .ref 1055, .ref 1056, .ref 1057, .int (1689) 0, .int (682) 0, .str (Str.ofString "/claim/cut.py") 1690].toArray, [].toArray⟩
noncomputable def o1059 (P : Params) : Obj := ⟨.type "function", none, .func (fnOf (Str.ofString "_law_pool") (Str.ofString "_law_pool") (prm (stm 91)) (bdy (stm 91)) (scp (stm 91)) (.none) (.none) (.none) (.str (Str.ofString "law_xm0772_01") 1679) none (.ref 1058) (.none)), [].toArray⟩
noncomputable def o1065 (P : Params) : Obj := ⟨.type "code", none, .fields [.str (Str.ofString "_law_take") 1692, .str (Str.ofString "_law_take") 1693, .str (Str.ofString "/claim/cut.py") 1694, .int (689) 0, .int (2) 0, .int (0) 0, .int (0) 0, .int (3) 0, .ref 1060, .bool true, .int (181) 0, .ref 1061, .none, .ref 1062, .ref 1063, .ref 1064, .int (1698) 0, .int (689) 0, .str (Str.ofString "/claim/cut.py") 1699].toArray, [].toArray⟩
noncomputable def o1066 (P : Params) : Obj := ⟨.type "function", none, .func (fnOf (Str.ofString "_law_take") (Str.ofString "_law_take") (prm (stm 92)) (bdy (stm 92)) (scp (stm 92)) (.none) (.none) (.none) (.str (Str.ofString "law_xm0772_01") 1679) none (.ref 1065) (.none)), [].toArray⟩
noncomputable def o1072 (P : Params) : Obj := ⟨.type "code", none, .fields [.str (Str.ofString "_law_one") 1701, .str (Str.ofString "_law_one") 1702, .str (Str.ofString "/claim/cut.py") 1703, .int (696) 0, .int (2) 0, .int (0) 0, .int (0) 0, .int (3) 0, .ref 1067, .bool true, .int (181) 0, .ref 1068, .none, .ref 1069, .ref 1070, .ref 1071, .int (1706) 0, .int (696) 0, .str (Str.ofString "/claim/cut.py") 1707].toArray, [].toArray⟩
noncomputable def o1073 (P : Params) : Obj := ⟨.type "function", none, .func (fnOf (Str.ofString "_law_one") (Str.ofString "_law_one") (prm (stm 93)) (bdy (stm 93)) (scp (stm 93)) (.none) (.none) (.none) (.str (Str.ofString "law_xm0772_01") 1679) none (.ref 1072) (.none)), [].toArray⟩
noncomputable def o1079 (P : Params) : Obj := ⟨.type "code", none, .fields [.str (Str.ofString "_law_table") 1709, .str (Str.ofString "_law_table") 1710, .str (Str.ofString "/claim/cut.py") 1711, .int (698) 0, .int (2) 0, .int (0) 0, .int (0) 0, .int (3) 0, .ref 1074, .bool true, .int (181) 0, .ref 1075, .none, .ref 1076, .ref 1077, .ref 1078, .int (1716) 0, .int (698) 0, .str (Str.ofString "/claim/cut.py") 1717].toArray, [].toArray⟩
noncomputable def o1080 (P : Params) : Obj := ⟨.type "function", none, .func (fnOf (Str.ofString "_law_table") (Str.ofString "_law_table") (prm (stm 94)) (bdy (stm 94)) (scp (stm 94)) (.none) (.none) (.none) (.str (Str.ofString "law_xm0772_01") 1679) none (.ref 1079) (.none)), [].toArray⟩
noncomputable def o1086 (P : Params) : Obj := ⟨.type "code", none, .fields [.str (Str.ofString "_law_value") 1719, .str (Str.ofString "_law_value") 1720, .str (Str.ofString "/claim/cut.py") 1721, .int (703) 0, .int (1) 0, .int (0) 0, .int (0) 0, .int (3) 0, .ref 1081, .bool true, .int (181) 0, .ref 1082, .none, .ref 1083, .ref 1084, .ref 1085, .int (1723) 0, .int (703) 0, .str (Str.ofString "/claim/cut.py") 1724].toArray, [].toArray⟩
noncomputable def o1087 (P : Params) : Obj := ⟨.type "function", none, .func (fnOf (Str.ofString "_law_value") (Str.ofString "_law_value") (prm (stm 95)) (bdy (stm 95)) (scp (stm 95)) (.none) (.none) (.none) (.str (Str.ofString "law_xm0772_01") 1679) none (.ref 1086) (.none)), [].toArray⟩
noncomputable def o1091 (P : Params) : Obj := ⟨.type "code", none, .fields [.str (Str.ofString "_law_due") 1726, .str (Str.ofString "_law_due") 1727, .str (Str.ofString "/claim/cut.py") 1728, .int (705) 0, .int (3) 0, .int (0) 0, .int (0) 0, .int (3) 0, .ref 1088, .bool true, .int (181) 0, .ref 1089, .none, .none, .none, .ref 1090, .int (1729) 0, .int (705) 0, .str (Str.ofString "/claim/cut.py") 1730].toArray, [].toArray⟩
noncomputable def o1092 (P : Params) : Obj := ⟨.type "function", none, .func (fnOf (Str.ofString "_law_due") (Str.ofString "_law_due") (prm (stm 96)) (bdy (stm 96)) (scp (stm 96)) (.none) (.none) (.none) (.str (Str.ofString "law_xm0772_01") 1679) none (.ref 1091) (.none)), [].toArray⟩
noncomputable def o1096 (P : Params) : Obj := ⟨.type "code", none, .fields [.str (Str.ofString "_law_right") 1732, .str (Str.ofString "_law_right") 1733, .str (Str.ofString "/claim/cut.py") 1734, .int (711) 0, .int (1) 0, .int (0) 0, .int (0) 0, .int (3) 0, .ref 1093, .bool true, .int (181) 0, .ref 1094, .none, .none, .none, .ref 1095, .int (1735) 0, .int (711) 0, .str (Str.ofString "/claim/cut.py") 1736].toArray, [].toArray⟩
noncomputable def o1097 (P : Params) : Obj := ⟨.type "function", none, .func (fnOf (Str.ofString "_law_right") (Str.ofString "_law_right") (prm (stm 97)) (bdy (stm 97)) (scp (stm 97)) (.none) (.none) (.none) (.str (Str.ofString "law_xm0772_01") 1679) none (.ref 1096) (.none)), [].toArray⟩
noncomputable def o1103 (P : Params) : Obj := ⟨.type "code", none, .fields [.str (Str.ofString "law") 1738, .str (Str.ofString "law") 1739, .str (Str.ofString "/claim/cut.py") 1740, .int (725) 0, .int (1) 0, .int (0) 0, .int (0) 0, .int (3) 0, .ref 1098, .bool true, .int (181) 0, .ref 1099, .none, .ref 1100, .ref 1101, .ref 1102, .int (1743) 0, .int (725) 0, .str (Str.ofString "/claim/cut.py") 1744].toArray, [].toArray⟩
noncomputable def o1104 (P : Params) : Obj := ⟨.type "function", none, .func (fnOf (Str.ofString "law") (Str.ofString "law") (prm (stm 98)) (bdy (stm 98)) (scp (stm 98)) (.none) (.none) (.none) (.str (Str.ofString "law_xm0772_01") 1679) none (.ref 1103) (.none)), [].toArray⟩
noncomputable def myK (P : Params) : Frag := ((nat_lit 3, o3 P) :: (nat_lit 27, o27 P) :: (nat_lit 28, o28 P) :: (nat_lit 32, o32 P) :: (nat_lit 33, o33 P) :: (nat_lit 61, o61 P) :: (nat_lit 62, o62 P) :: (nat_lit 479, o479 P) :: (nat_lit 480, o480 P) :: (nat_lit 489, o489 P) :: (nat_lit 490, o490 P) :: (nat_lit 505, o505 P) :: (nat_lit 506, o506 P) :: (nat_lit 515, o515 P) :: (nat_lit 516, o516 P) :: (nat_lit 580, o580 P) :: (nat_lit 581, o581 P) :: (nat_lit 587, o587 P) :: (nat_lit 588, o588 P) :: (nat_lit 594, o594 P) :: (nat_lit 595, o595 P) :: (nat_lit 601, o601 P) :: (nat_lit 602, o602 P) :: (nat_lit 608, o608 P) :: (nat_lit 609, o609 P) :: (nat_lit 615, o615 P) :: (nat_lit 616, o616 P) :: (nat_lit 622, o622 P) :: (nat_lit 623, o623 P) :: (nat_lit 624, o624 P) :: (nat_lit 630, o630 P) :: (nat_lit 631, o631 P) :: (nat_lit 637, o637 P) :: (nat_lit 638, o638 P) :: (nat_lit 644, o644 P) :: (nat_lit 645, o645 P) :: (nat_lit 651, o651 P) :: (nat_lit 652, o652 P) :: (nat_lit 658, o658 P) :: (nat_lit 659, o659 P) :: (nat_lit 665, o665 P) :: (nat_lit 666, o666 P) :: (nat_lit 672, o672 P) :: (nat_lit 673, o673 P) :: (nat_lit 679, o679 P) :: (nat_lit 680, o680 P) :: (nat_lit 686, o686 P) :: (nat_lit 687, o687 P) :: (nat_lit 693, o693 P) :: (nat_lit 694, o694 P) :: (nat_lit 700, o700 P) :: (nat_lit 701, o701 P) :: (nat_lit 707, o707 P) :: (nat_lit 708, o708 P) :: (nat_lit 714, o714 P) :: (nat_lit 715, o715 P) :: (nat_lit 728, o728 P) :: (nat_lit 729, o729 P) :: (nat_lit 735, o735 P) :: (nat_lit 736, o736 P) :: (nat_lit 752, o752 P) :: (nat_lit 753, o753 P) :: (nat_lit 783, o783 P) :: (nat_lit 784, o784 P) :: (nat_lit 823, o823 P) :: (nat_lit 824, o824 P) :: (nat_lit 832, o832 P) :: (nat_lit 838, o838 P) :: (nat_lit 839, o839 P) :: (nat_lit 841, o841 P) :: (nat_lit 842, o842 P) :: (nat_lit 859, o859 P) :: (nat_lit 860, o860 P) :: (nat_lit 864, o864 P) :: (nat_lit 865, o865 P) :: (nat_lit 872, o872 P) :: (nat_lit 873, o873 P) :: (nat_lit 890, o890 P) :: (nat_lit 891, o891 P) :: (nat_lit 897, o897 P) :: (nat_lit 898, o898 P) :: (nat_lit 914, o914 P) :: (nat_lit 915, o915 P) :: (nat_lit 953, o953 P) :: (nat_lit 954, o954 P) :: (nat_lit 967, o967 P) :: (nat_lit 968, o968 P) :: (nat_lit 974, o974 P) :: (nat_lit 975, o975 P) :: (nat_lit 981, o981 P) :: (nat_lit 982, o982 P) :: (nat_lit 988, o988 P) :: (nat_lit 989, o989 P) :: (nat_lit 995, o995 P) :: (nat_lit 996, o996 P) :: (nat_lit 1012, o1012 P) :: (nat_lit 1013, o1013 P) :: (nat_lit 1024, o1024 P) :: (nat_lit 1025, o1025 P) :: (nat_lit 1039, o1039 P) :: (nat_lit 1040, o1040 P) :: (nat_lit 1045, o1045 P) :: (nat_lit 1051, o1051 P) :: (nat_lit 1052, o1052 P) :: (nat_lit 1058, o1058 P) :: (nat_lit 1059, o1059 P) :: (nat_lit 1065, o1065 P) :: (nat_lit 1066, o1066 P) :: (nat_lit 1072, o1072 P) :: (nat_lit 1073, o1073 P) :: (nat_lit 1079, o1079 P) :: (nat_lit 1080, o1080 P) :: (nat_lit 1086, o1086 P) :: (nat_lit 1087, o1087 P) :: (nat_lit 1091, o1091 P) :: (nat_lit 1092, o1092 P) :: (nat_lit 1096, o1096 P) :: (nat_lit 1097, o1097 P) :: (nat_lit 1103, o1103 P) :: (nat_lit 1104, o1104 P) :: [])
abbrev myA : List Addr := (3 :: 27 :: 28 :: 32 :: 33 :: 61 :: 62 :: 479 :: 480 :: 489 :: 490 :: 505 :: 506 :: 515 :: 516 :: 580 :: 581 :: 587 :: 588 :: 594 :: 595 :: 601 :: 602 :: 608 :: 609 :: 615 :: 616 :: 622 :: 623 :: 624 :: 630 :: 631 :: 637 :: 638 :: 644 :: 645 :: 651 :: 652 :: 658 :: 659 :: 665 :: 666 :: 672 :: 673 :: 679 :: 680 :: 686 :: 687 :: 693 :: 694 :: 700 :: 701 :: 707 :: 708 :: 714 :: 715 :: 728 :: 729 :: 735 :: 736 :: 752 :: 753 :: 783 :: 784 :: 823 :: 824 :: 832 :: 838 :: 839 :: 841 :: 842 :: 859 :: 860 :: 864 :: 865 :: 872 :: 873 :: 890 :: 891 :: 897 :: 898 :: 914 :: 915 :: 953 :: 954 :: 967 :: 968 :: 974 :: 975 :: 981 :: 982 :: 988 :: 989 :: 995 :: 996 :: 1012 :: 1013 :: 1024 :: 1025 :: 1039 :: 1040 :: 1045 :: 1051 :: 1052 :: 1058 :: 1059 :: 1065 :: 1066 :: 1072 :: 1073 :: 1079 :: 1080 :: 1086 :: 1087 :: 1091 :: 1092 :: 1096 :: 1097 :: 1103 :: 1104 :: [])
theorem myA_is (P : Params) : myA = (myK P).map (·.1) := by kernel_rfl
end
section -- KE1
set_option maxHeartbeats 8000000


abbrev adrs (l : List (Addr × Obj)) : List Addr := l.map (fun q => q.1)

theorem enter {prog : Program} {w : World} {K : Frag} {p : Program} {loose : List Str} {mean : ExcName → Option Value} {mg mb : Str → Option Value} {h₀ : Heap}
    {A : Around} {s : Shared} {R : Result → Shared → Prop} {f : Addr} {args : Args} {binds : List (Str × Value)} {name qual : Str} {params : Arguments} {body : List Stmt} {scope : Scope} {dV kV doc pm cdv ct oc : Value} {an od : Option Addr} {osl : Array (Option Value)}
    (hid : List (Addr × Obj)) (X : K.In h₀) (T : Top p loose mean mg mb h₀) (st : h₀.StaysIn s.heap)
    (hh : ∀ q ∈ hid, s.heap.get? q.1 = some q.2 ∧ h₀.get? q.1 = none)
    (ho : K.lookup f = some ⟨oc, od, .func (fnOf name qual params body scope dV kV doc pm an cdv ct), osl⟩) (hcd : codeIn K cdv qual = true) (hroom : A.depth < recursionLimit)
    (hbind : BindsTo s (fnOf name qual params body scope dV kV doc pm an cdv ct) args binds) (hloc : ∀ y ∈ binds, scope.names.lookup y.1 = some .local)
    (h : ∀ g L' h₁, h₀.StaysIn g → s.heap.objs.size ≤ L' → (∀ b o, s.heap.get? b = some o → b ∉ adrs hid → g.get? b = some o) → K.In g → Top p loose mean mg mb g →
      Fr g L' h₁ (fun y => binds.reverse.lookup y) → News g L' h₁ hid →
      wpAny (model prog w) (A.deeper (envOf qual scope L' f cdv)) (execs body (envOf qual scope L' f cdv))
        (fun fl s' => R (.ok (.ret (match fl with | .ret v => v | _ => .none))) s') (fun _ _ => False)
        { s with heap := h₁, toks := s.toks + binds.length })
    (hco : scope.isCoroutine = false) (hgen : scope.isGenerator = false) (hk : scope.kind = .function)
    (hcell : ∀ x ∈ scope.names, x.2 ≠ .cell) : codeAny (model prog w) A (.call (.ref f) args) R s := by
  have Xs : K.In s.heap := X.keeps st
  refine codeAny_call_def (fd := fnOf name qual params body scope dV kV doc pm an cdv ct) (body := body) (binds := binds) hroom (Xs _ _ ho) rfl (T.nolimit.keeps st) (codeRec_of Xs hcd) rfl hbind hcell hloc (fun h₁ hns hk₁ => ?_) hco hgen hk
  have st' : h₀.StaysIn (hideAll s.heap (adrs hid)) := fun b o e => hideAll_get _ (st b o e) fun q => by
    (refine ex1 (List.mem_map.mp q) fun p hE9 => an2 hE9 ?_; clear hE9; rintro hp rfl)
    rw [(hh p hp).2] at e; cases e
  exact wpAny_mono (h (hideAll s.heap (adrs hid)) s.heap.objs.size h₁ st' (Nat.le_refl _) (fun b o e n => hideAll_get _ e n) (X.keeps st') (T.keeps st')
    ⟨hns, fun b o e => hk₁ b o (of_hideAll _ e), Nat.le_of_eq (hideAll_size _ _)⟩
    (fun q hq => ⟨hk₁ _ _ (hh q hq).1, Nat.ne_of_lt (Heap.lt_size (hh q hq).1), hideAll_none _ (List.mem_map_of_mem hq)⟩)) (fun fl s' hl => hl) fun _ _ y => y.elim


def KeepBut (W : List Addr) (h h' : Heap) : Prop := ∀ b o, b ∉ W → h.get? b = some o → h'.get? b = some o

/-- what a call promises: every end of it is a return that answers P, and changes nothing of what stood but W -/
def Calls7 (prog : Program) (w : World) (A : Around) (f : Addr) (args : List Value) (s : Shared) (W : List Addr) (P : Value → Heap → Prop) : Prop :=
  ∀ R : Result → Shared → Prop, (∀ v h' tk', P v h' → KeepBut W s.heap h' → s.heap.objs.size ≤ h'.objs.size → R (.ok (.ret v)) { s with heap := h', toks := tk' }) →
    codeAny (model prog w) A (.call (.ref f) ⟨args, []⟩) R s

theorem keep_back {sh g h' : Heap} {L' : Addr} {m : Str → Option Value} {hid news' : List (Addr × Obj)} (W : List Addr)
    (hg : ∀ b o, sh.get? b = some o → b ∉ adrs hid → g.get? b = some o) (hh : ∀ q ∈ hid, sh.get? q.1 = some q.2)
    (F : Fr g L' h' m) (N : News g L' h' news') (hs : ∀ q ∈ hid, q.1 ∉ W → q ∈ news') : KeepBut W sh h' := fun b o hb e => by
  by_cases q : b ∈ adrs hid
  · (refine ex1 (List.mem_map.mp q) fun p hE9 => an2 hE9 ?_; clear hE9; rintro hp rfl)
    have e2 := hh p hp
    rw [e] at e2
    have := (N p (hs p hp hb)).1
    rw [this]
    exact e2.symm
  · exact F.keep _ _ (hg b o e q)

theorem use7 {prog : Program} {w : World} {A : Around} {E : Value → Shared → Prop} {hp0 : Heap} {ge0 : Array GenState} {dr0 : Drawn} {tk0 : Nat} {os0 : OsState} {f : Addr} {args : List Value} {W : List Addr} {P : Value → Heap → Prop} {Q : Value → Shared → Prop}
    (c : Calls7 prog w A f args ⟨hp0, ge0, dr0, tk0, os0⟩ W P) (h : ∀ v h' tk', P v h' → KeepBut W hp0 h' → hp0.objs.size ≤ h'.objs.size → Q v ⟨h', ge0, dr0, tk', os0⟩) :
    wpAny (model prog w) A (call (.ref f) args) Q E ⟨hp0, ge0, dr0, tk0, os0⟩ := wpAny_call (c _ fun v h' tk' p k z => h v h' tk' p k z)

/-- a call that changes nothing of what stood -/
theorem use7p {prog : Program} {w : World} {A : Around} {E : Value → Shared → Prop} {hp0 : Heap} {ge0 : Array GenState} {dr0 : Drawn} {tk0 : Nat} {os0 : OsState} {f : Addr} {args : List Value} {P : Value → Heap → Prop} {Q : Value → Shared → Prop}
    {g : Heap} {L : Addr} {m : Str → Option Value} {news : List (Addr × Obj)} (F : Fr g L hp0 m) (N : News g L hp0 news)
    (c : Calls7 prog w A f args ⟨hp0, ge0, dr0, tk0, os0⟩ [] P) (h : ∀ v h' tk', P v h' → Fr g L h' m → News g L h' news → Q v ⟨h', ge0, dr0, tk', os0⟩) :
    wpAny (model prog w) A (call (.ref f) args) Q E ⟨hp0, ge0, dr0, tk0, os0⟩ :=
  use7 c fun v h' tk' p k _ => h v h' tk' p (F.after fun b o e => k b o (by simp) e) fun q hq => ⟨k _ _ (by simp) (N q hq).1, (N q hq).2⟩

/-- .. whose answer is known but for its mark -/
theorem use7t {prog : Program} {w : World} {A : Around} {E : Value → Shared → Prop} {hp0 : Heap} {ge0 : Array GenState} {dr0 : Drawn} {tk0 : Nat} {os0 : OsState} {f : Addr} {args : List Value} {c : Tok → Value} {Q : Value → Shared → Prop}
    {g : Heap} {L : Addr} {m : Str → Option Value} {news : List (Addr × Obj)} (F : Fr g L hp0 m) (N : News g L hp0 news)
    (k : Calls7 prog w A f args ⟨hp0, ge0, dr0, tk0, os0⟩ [] (fun v _ => ∃ t, v = c t)) (h : ∀ h' tk', Fr g L h' m → News g L h' news → ∀ t, Q (c t) ⟨h', ge0, dr0, tk', os0⟩) :
    wpAny (model prog w) A (call (.ref f) args) Q E ⟨hp0, ge0, dr0, tk0, os0⟩ := use7p F N k fun v h' tk' p F' N' => by
  refine hide fun G9 k9 => ?_
  obtain ⟨t, rfl⟩ := p
  refine k9 ?_
  clear k9 G9
  exact h h' tk' F' N' t
/-- .. whose answer is known -/
theorem use7v {prog : Program} {w : World} {A : Around} {E : Value → Shared → Prop} {hp0 : Heap} {ge0 : Array GenState} {dr0 : Drawn} {tk0 : Nat} {os0 : OsState} {f : Addr} {args : List Value} {x : Value} {Q : Value → Shared → Prop}
    {g : Heap} {L : Addr} {m : Str → Option Value} {news : List (Addr × Obj)} (F : Fr g L hp0 m) (N : News g L hp0 news)
    (k : Calls7 prog w A f args ⟨hp0, ge0, dr0, tk0, os0⟩ [] (fun v _ => v = x)) (h : ∀ h' tk', Fr g L h' m → News g L h' news → Q x ⟨h', ge0, dr0, tk', os0⟩) :
    wpAny (model prog w) A (call (.ref f) args) Q E ⟨hp0, ge0, dr0, tk0, os0⟩ := use7p F N k fun v h' tk' p F' N' => by
  subst p
  exact h h' tk' F' N'
def Live (h₀ h : Heap) (a : Addr) (o : Obj) : Prop := h.get? a = some o ∧ h₀.get? a = none

theorem Live.of {h₀ g h : Heap} {L a : Addr} {o : Obj} {news : List (Addr × Obj)} (st : h₀.StaysIn g) (N : News g L h news) (hm : (a, o) ∈ news) : Live h₀ h a o := by
  refine ⟨(N _ hm).1, ?_⟩
  cases q : h₀.get? a with
  | none => rfl
  | some o' => have := (N _ hm).2.2; rw [st _ _ q] at this; cases this

theorem stays_now {h₀ g h : Heap} {L : Addr} {m : Str → Option Value} (st : h₀.StaysIn g) (F : Fr g L h m) : h₀.StaysIn h := fun b o e => F.keep _ _ (st b o e)

/-- room for n more calls, and no exception at hand -/
structure Room (A : Around) (n : Nat) : Prop where
  depth : A.depth + n < recursionLimit
  units : A.units + 16 * n < cLine
  calm : A.handled = none
theorem Room.deeper {A : Around} {n k : Nat} {env : Env} (r : Room A n) (h : k + 1 ≤ n) : Room (A.deeper env) k :=
  ⟨by have := r.depth; show A.depth + 1 + k < _; (with_reducible exact s31 (by assumption) (by assumption)), by have := r.units; show A.units + 3 + 16 * k < _; (with_reducible exact s100 (by assumption) (by assumption)), r.calm⟩
theorem Room.in1 {A : Around} {n k : Nat} (r : Room A n) (h : k + 1 ≤ n) : Room A.in1 k :=
  ⟨by have := r.depth; show A.depth + k < _; (with_reducible exact s45 (by assumption) (by assumption)), by have := r.units; show A.units + 1 + 16 * k < _; (with_reducible exact s101 (by assumption) (by assumption)), r.calm⟩
theorem Room.now {A : Around} {n : Nat} (r : Room A n) : A.depth < recursionLimit := Nat.lt_of_le_of_lt (Nat.le_add_right _ _) r.depth
theorem Room.unit {A : Around} {n : Nat} (r : Room A n) : A.units < cLine := Nat.lt_of_le_of_lt (Nat.le_add_right _ _) r.units

section
variable {prog : Program} {w : World} {A : Around} {E : Value → Shared → Prop} {s : Shared} {g : Heap} {L : Addr} {news : List (Addr × Obj)}
theorem len_own {hp0 : Heap} {ge0 : Array GenState} {dr0 : Drawn} {tk0 : Nat} {os0 : OsState} {l : Addr} {vs : List Value} {n : Nat} {Q : Value → Shared → Prop} (N : News g L hp0 news) (hm : (l, listOf vs.toArray n) ∈ news) (hf : vs.length < 2 ^ 60)
    (h : Q (.int vs.length (tk0 + 1)) ⟨hp0, ge0, dr0, tk0 + 1 + 1, os0⟩) : wpAny (model prog w) A (call (.builtin "len") [.ref l]) Q E ⟨hp0, ge0, dr0, tk0, os0⟩ :=
  len_list (items := vs.toArray) (News.isList N hm) (by rw [List.size_toArray]; ((with_reducible refine c2 (by assumption) ?_); rfl)) (by rw [List.size_toArray]; exact h)
theorem item_own {value slice : PySem.Expr} {l : Addr} {vs : List Value} {n : Nat} {k : Int} {u : Tok} {Q : Value → Shared → Prop} (N : News g L s.heap news) (hm : (l, listOf vs.toArray n) ∈ news)
    (h0 : 0 ≤ k) (hf : vs.length < 2 ^ 60) (hk : k < vs.length) (h : Q (vs.getD k.toNat .none) s)
    (hs : subscripted slice false (.ref l) (.int k u) = operate [.ref l, .int k u] (getItem (.ref l) (.int k u))) :
    wpAny (model prog w) A (subscriptTail value slice (.ref l) (.int k u)) Q E s :=
  item_litK (News.isList N hm) h0 (by (with_reducible exact s63 (by assumption) (by assumption))) (v := vs.getD k.toNat .none) (by
    have hlt : k.toNat < vs.length := by (with_reducible exact s8 (by assumption) (by assumption))
    rw [List.getD_eq_getElem?_getD, List.getElem?_eq_getElem hlt]; rfl) h hs
end

section
variable {prog : Program} {w : World} {A : Around} {E : Value → Shared → Prop} {s : Shared} {Q : Value → Shared → Prop} {a b : Int} {t u : Tok}
theorem mod_small {hp0 : Heap} {ge0 : Array GenState} {dr0 : Drawn} {tk0 : Nat} {os0 : OsState} (h0 : 0 ≤ a) (h1 : a < b) (h : Q (.int a tk0) ⟨hp0, ge0, dr0, tk0 + 1, os0⟩) : wpAny (model prog w) A (binaryOp .Mod (.int a t) (.int b u)) Q E ⟨hp0, ge0, dr0, tk0, os0⟩ :=
  mod_int' (by omega) (by rw [Int.fmod_eq_emod_of_nonneg _ (by omega), Int.emod_eq_of_lt h0 h1]; exact h)
theorem and7_small {hp0 : Heap} {ge0 : Array GenState} {dr0 : Drawn} {tk0 : Nat} {os0 : OsState} (h0 : 0 ≤ a) (h1 : a < 128) (h : Q (.int a tk0) ⟨hp0, ge0, dr0, tk0 + 1, os0⟩) : wpAny (model prog w) A (binaryOp .BitAnd (.int a t) (.int 127 u)) Q E ⟨hp0, ge0, dr0, tk0, os0⟩ :=
  and_int (by rw [bitAnd_m7, Int.emod_eq_of_lt h0 h1]; exact h)
theorem irshift_small {hp0 : Heap} {ge0 : Array GenState} {dr0 : Drawn} {tk0 : Nat} {os0 : OsState} (hn : 0 ≤ b) (h0 : 0 ≤ a) (h1 : a < 2 ^ b.toNat) (h : Q (.int 0 tk0) ⟨hp0, ge0, dr0, tk0 + 1, os0⟩) : wpAny (model prog w) A (inplaceOp .RShift (.int a t) (.int b u)) Q E ⟨hp0, ge0, dr0, tk0, os0⟩ :=
  irshift_int hn (by rw [Int.fdiv_eq_ediv_of_nonneg _ (by exact Int.le_of_lt (Int.pow_pos (by decide))), Int.ediv_eq_zero_of_lt h0 h1]; exact h)
end

section
variable {prog : Program} {w : World} {A : Around} {E : Value → Shared → Prop} {s : Shared} {Q : Value → Shared → Prop} {g : Heap} {L : Addr} {m : Str → Option Value} {news : List (Addr × Obj)}
theorem pow_to {hp0 : Heap} {ge0 : Array GenState} {dr0 : Drawn} {tk0 : Nat} {os0 : OsState} {a b : Int} {t u : Tok} (c : Int) (hn : 0 ≤ b) (hn2 : b ≤ 1000000) (ha : a.natAbs < 2 ^ 64) (e : a ^ b.toNat = c) (h : Q (.int c tk0) ⟨hp0, ge0, dr0, tk0 + 1, os0⟩) :
    wpAny (model prog w) A (binaryOp .Pow (.int a t) (.int b u)) Q E ⟨hp0, ge0, dr0, tk0, os0⟩ := pow_int_small hn hn2 ha (by rw [e]; exact h)
theorem bytes_own {hp0 : Heap} {ge0 : Array GenState} {dr0 : Drawn} {tk0 : Nat} {os0 : OsState} {l : Addr} {vs : List Value} {ns : List Int} {n : Nat} (F : Fr g L hp0 m) (N : News g L hp0 news) (hm : (l, listOf vs.toArray n) ∈ news) (hi : IntsAre vs ns) (hr : ∀ n ∈ ns, 0 ≤ n ∧ n < 256) (hz : vs.length ≤ 1000) (hh : A.handled = none)
    (h : ∀ h' t k, Fr g L h' m → News g L h' news → Q (.bytes (byteArr ns) t) ⟨h', ge0, dr0, k, os0⟩) : wpAny (model prog w) A (call (.type "bytes") [.ref l]) Q E ⟨hp0, ge0, dr0, tk0, os0⟩ :=
  call_bytes_ints (News.isList N hm) hi hr (Nat.le_trans hz (by rw [sizeLine_eq]; decide)) hh fun h' t k hk => h h' t k (F.after hk) fun q hq => ⟨hk _ _ (N q hq).1, (N q hq).2⟩
end

theorem grown_back {sh g h' : Heap} {L' : Addr} {m : Str → Option Value} (hz : sh.objs.size ≤ L') (F : Fr g L' h' m) : sh.objs.size ≤ h'.objs.size :=
  Nat.le_trans hz (Nat.le_of_lt F.ns.lt)
end
section -- KR
open Sem (wp)

/-! A logic for stacks that bear no decoder: a bytearray asks for these. -/
def okCode : Code → Bool
  | .builtin id _ => !Builtin.Bytes.decodersThatHold.contains id
  | _ => true
def Clean (l : List (Code × Pos)) : Prop := ∀ c ∈ l, okCode c.1 = true
theorem Clean.cons {c : Code} {p : Pos} {l : List (Code × Pos)} (h : okCode c = true) (k : Clean l) : Clean ((c, p) :: l) := fun x hx => by
  rcases List.mem_cons.mp hx with rfl | hx
  · exact h
  · exact k x hx

def wpR {α : Type} (M : Model) (A : Around) (t : Sem α) (Q : α → Shared → Prop) (E : Value → Shared → Prop) (s : Shared) : Prop :=
  ∀ Γ p, Γ.In A → okCode Γ.code = true → Clean Γ.below → wp M Γ t (fun a _ s' => Q a s') (fun e _ s' => E e s') p s
def codeR (M : Model) (A : Around) (c : Code) (R : Result → Shared → Prop) (s : Shared) : Prop :=
  ∀ Γ p, Γ.code = c → Γ.Below A → Clean Γ.below → wpCode M Γ R p s

section
variable {α β : Type} {M : Model} {A : Around} {E : Value → Shared → Prop} {s : Shared}
theorem wpR_of {t : Sem α} {Q : α → Shared → Prop} (h : wpAny M A t Q E s) : wpR M A t Q E s := fun Γ p hΓ _ _ => h Γ p hΓ
theorem codeR_of {c : Code} {R : Result → Shared → Prop} (h : codeAny M A c R s) : codeR M A c R s := fun Γ p hc hΓ _ => h Γ p hc hΓ
theorem wpR_pure {a : α} {Q : α → Shared → Prop} (h : Q a s) : wpR M A (pure a) Q E s := fun _ _ _ _ _ => h
theorem wpR_mono {t : Sem α} {Q Q' : α → Shared → Prop} {E' : Value → Shared → Prop} (h : wpR M A t Q E s)
    (hQ : ∀ a s, Q a s → Q' a s) (hE : ∀ e s, E e s → E' e s) : wpR M A t Q' E' s :=
  fun Γ p hΓ h1 h2 => Sem.wp_mono M Γ t (fun a _ s => hQ a s) (fun e _ s => hE e s) p s (h Γ p hΓ h1 h2)
theorem wpR_bind {m : Sem α} {f : α → Sem β} {Q : β → Shared → Prop} (h : wpR M A m (fun a s' => wpR M A (f a) Q E s') E s) :
    wpR M A (m >>= f) Q E s := fun Γ p hΓ h1 h2 => by
  rw [Sem.wp_bind']
  exact Sem.wp_mono M Γ m (fun a p' s' h' => h' Γ p' hΓ h1 h2) (fun _ _ _ h' => h') p s (h Γ p hΓ h1 h2)
/-- the first part in the library's logic, the rest in ours -/
theorem wpR_bindA {m : Sem α} {f : α → Sem β} {Q : β → Shared → Prop} (h : wpAny M A m (fun a s' => wpR M A (f a) Q E s') E s) :
    wpR M A (m >>= f) Q E s := wpR_bind (wpR_of h)
theorem wpR_holding {vs : List Value} {m : Sem α} {Q : α → Shared → Prop} (h : wpR M A m Q E s) : wpR M A (holding vs m) Q E s :=
  fun Γ p hΓ h1 h2 => by rw [Sem.wp_holding]; exact h Γ p hΓ h1 h2
theorem wpR_onRaise {m : Sem α} {k : Value → Sem Unit} {Q : α → Shared → Prop}
    (h : wpR M A m Q (fun e s' => wpR M A (k e) (fun _ s'' => E e s'') E s') s) : wpR M A (m.onRaise k) Q E s := fun Γ p hΓ h1 h2 => by
  rw [Sem.wp_onRaise]
  exact Sem.wp_mono M Γ m (fun _ _ _ h' => h') (fun e p' s' h' => h' Γ p' hΓ h1 h2) p s (h Γ p hΓ h1 h2)
/-- no exception comes: then what is done with one does not matter -/
theorem wpR_onRaise0 {m : Sem α} {k : Value → Sem Unit} {Q : α → Shared → Prop} (h : wpR M A m Q (fun _ _ => False) s) : wpR M A (m.onRaise k) Q E s :=
  wpR_onRaise (wpR_mono h (fun _ _ x => x) fun _ _ x => x.elim)
theorem wpR_run {c : Code} {h : Option Value} {Q : Flow → Shared → Prop}
    (hc : codeR M (A.mark h) c (fun r s' => match r with | .ok f => Q f s' | .error e => E e s') s) (hnb : h ≠ some byPass := by intro x; cases x) :
    wpR M A (run c h) Q E s :=
  fun Γ p hΓ h1 h2 => by rw [Sem.wp_run]; exact hc _ p rfl (hΓ.enter c h p hnb) (Clean.cons h1 h2)
theorem wpR_runValue {c : Code} {Q : Value → Shared → Prop}
    (hc : codeR M A c (fun r s' => match r with | .ok (.ret v) => Q v s' | .ok _ => False | .error e => E e s') s) :
    wpR M A (runValue c) Q E s := fun Γ p hΓ h1 h2 => by rw [Sem.wp_runValue]; exact hc _ p rfl (hΓ.enter c none p (by intro x; cases x)) (Clean.cons h1 h2)
theorem wpR_call {f : Value} {pos : List Value} {kw : List (Str × Value)} {Q : Value → Shared → Prop}
    (hc : codeR M A (.call f ⟨pos, kw⟩) (fun r s' => match r with | .ok (.ret v) => Q v s' | .ok _ => False | .error e => E e s') s) :
    wpR M A (call f pos kw) Q E s := wpR_runValue hc
theorem codeR_mono {c : Code} {R R' : Result → Shared → Prop} (h : codeR M A c R s) (hR : ∀ r s, R r s → R' r s) : codeR M A c R' s :=
  fun Γ p hc hΓ k => wpCode_mono hR (h Γ p hc hΓ k)
theorem codeR_of_tree {c : Code} {R : Result → Shared → Prop} (ho : okCode c = true)
    (h : wpR M (A.under c) (M.den c) (fun fin s' => match fin with | .done f => R (.ok f) s' | .again c' => c'.quiet = true ∧ codeR M A c' R s')
      (fun e s' => R (.error e) s') s) : codeR M A c R s := fun Γ p hc hΓ k => by
  rw [wpCode_iff_wp, hc]
  refine Sem.wp_mono M Γ _ (fun fin p' s' h' => ?_) (fun _ _ _ h' => h') p s (h Γ p (hc ▸ hΓ.in) (hc ▸ ho) k)
  cases fin with
  | done f => exact h'
  | again c' => exact ⟨h'.1, h'.2 (Γ.goto c') p' rfl (hΓ.goto c') k⟩
theorem wpR_runOwn {c : Code} {env : Env} {Q : Flow → Shared → Prop} (hh : A.handled = none)
    (hc : codeR M A c (fun r s' => match r with | .ok f => Q f s' | .error _ => False) s) : wpR M A (runOwn c env) Q E s := by
  unfold runOwn
  refine wpR_onRaise0 (wpR_run ?_)
  (refine hide fun G9 k9 => ?_; obtain ⟨hd, d, fr, gs, u⟩ := A; refine k9 ?_; clear k9 G9)
  obtain rfl : hd = none := hh
  exact codeR_mono hc fun r s' x => by cases r <;> exact x
/-- the stack bears no code that holds this very bytearray -/
theorem wpR_stackAny {f : Code × Pos → Bool} {Q : Bool → Shared → Prop} (hg : A.guards = some []) (hf : ∀ c p, c.isGuard = false → okCode c = true → f (c, p) = false) (h : Q false s) :
    wpR M A (do return (← stack).any f) Q E s := fun Γ p hΓ h1 h2 => by
  show Q (((Γ.code, p) :: Γ.below).any f) s
  have hall : ∀ l : List (Code × Pos), guardsOf l = [] → Clean l → l.any f = false := by
    intro l
    induction l with
    | nil => intros; rfl
    | cons x l ih =>
      refine hide fun G9 k9 => ?_
      obtain ⟨c, q⟩ := x
      refine k9 ?_
      clear k9 G9
      intro hgl hcl
      rw [guardsOf_cons] at hgl
      refine hide fun G9 k9 => ?_
      obtain ⟨hg1, hg2⟩ := List.append_eq_nil_iff.mp hgl
      refine k9 ?_
      clear k9 G9
      have hcg : c.isGuard = false := by
        cases hq : c.isGuard with
        | false => rfl
        | true => simp [Code.guards, hq] at hg1
      rw [List.any_cons, hf c q hcg (hcl (c, q) (.head _)), ih hg2 fun y hy => hcl y (.tail _ hy)]
      rfl
  rw [hall _ (by rw [guardsOf_cons]; exact hΓ.2.2.2.1 _ hg) (Clean.cons h1 h2)]
  exact h
end

section
variable {prog : Program} {w : World} {A : Around} {E : Value → Shared → Prop} {s : Shared} {env : Env}
theorem codeR_func {R : Result → Shared → Prop} {body : List Stmt}
    (h : wpR (model prog w) (A.deeper env) (execs body env) (fun f s' => R (.ok (.ret (match f with | .ret v => v | _ => .none))) s') (fun _ _ => False) s) :
    codeR (model prog w) A (.func body env) R s := by
  refine codeR_of_tree rfl ?_
  show wpR _ (A.deeper env) (do point; match ← (execs body env).onRaise (leaving env) with | .ret v => ret v | _ => ret .none) _ _ s
  refine wpR_bindA (wpAny_point (wpR_bind (wpR_onRaise0 (wpR_mono h (fun f s' h' => ?_) fun _ _ x => x))))
  cases f <;> exact wpR_pure h'
theorem codeR_call_function {R : Result → Shared → Prop} {a : Addr} {args : Args} {o : Obj} {fd : FuncData} {body : List Stmt} (hroom : A.depth < recursionLimit)
    (ho : s.heap.get? a = some o)
    (hd' : o.data = .func fd) (hco : fd.scope.isCoroutine = false) (hgen : fd.scope.isGenerator = false) (hbody : fd.body = .stmts body) (hcd : s.heap.CodeRec fd.code fd.qualname)
    (h : wpAny (model prog w) A.in1 (bindArgs fd args) (fun binds s₁ =>
      wpAny (model prog w) A.in1 (newFunctionEnv fd.scope fd.globals fd.closure binds (fd.qualname ++ ".<locals>.") (some a) fd.code none fd.builtins)
        (fun env s₂ => s₂.heap.NoLimit ∧ codeR (model prog w) A (.func body env) R s₂) (fun e s' => R (.error e) s') s₁) (fun e s' => R (.error e) s') s) :
    codeR (model prog w) A (.call (.ref a) args) R s := by
  refine codeR_of_tree rfl ?_
  show wpR _ A.in1 (callAny (.ref a) args) _ _ s
  simp only [callAny]
  refine wpR_bindA (wpAny_load ho ?_)
  (refine ex4 (hcd) fun c oc vs tq hE9 => an4 hE9 ?_; clear hE9; intro hc hoc hdc hq; (try clear hcd))
  simp only [hd', callFunction, hco, hgen, hbody, hc]
  rw [hc] at h
  refine wpR_bindA (m := field (.ref c) 1) (wpAny_field hoc hdc hq (wpR_bindA (wpAny_pure ?_)))
  exact wpR_bindA (wpAny_mono h (fun binds s₁ h₁ => wpR_bindA (wpAny_mono h₁ (fun env s₂ h₂ => wpR_bindA (wpAny_enterFrame h₂.1 hroom
    (wpR_pure (And.intro rfl h₂.2)))) fun _ _ h' => h')) fun _ _ h' => h')

theorem enterR {K : Frag} {p : Program} {loose : List Str} {mean : ExcName → Option Value} {mg mb : Str → Option Value} {h₀ : Heap}
    {R : Result → Shared → Prop} {f : Addr} {args : Args} {binds : List (Str × Value)} {name qual : Str} {params : Arguments} {body : List Stmt} {scope : Scope} {dV kV doc pm cdv ct oc : Value} {an od : Option Addr} {osl : Array (Option Value)}
    (hid : List (Addr × Obj)) (X : K.In h₀) (T : Top p loose mean mg mb h₀) (st : h₀.StaysIn s.heap)
    (hh : ∀ q ∈ hid, s.heap.get? q.1 = some q.2 ∧ h₀.get? q.1 = none)
    (ho : K.lookup f = some ⟨oc, od, .func (fnOf name qual params body scope dV kV doc pm an cdv ct), osl⟩) (hcd : codeIn K cdv qual = true) (hroom : A.depth < recursionLimit)
    (hbind : BindsTo s (fnOf name qual params body scope dV kV doc pm an cdv ct) args binds) (hloc : ∀ y ∈ binds, scope.names.lookup y.1 = some .local)
    (h : ∀ g L' h₁, h₀.StaysIn g → s.heap.objs.size ≤ L' → (∀ b o, s.heap.get? b = some o → b ∉ adrs hid → g.get? b = some o) → K.In g → Top p loose mean mg mb g →
      Fr g L' h₁ (fun y => binds.reverse.lookup y) → News g L' h₁ hid →
      wpR (model prog w) (A.deeper (envOf qual scope L' f cdv)) (execs body (envOf qual scope L' f cdv))
        (fun fl s' => R (.ok (.ret (match fl with | .ret v => v | _ => .none))) s') (fun _ _ => False)
        { s with heap := h₁, toks := s.toks + binds.length })
    (hco : scope.isCoroutine = false) (hgen : scope.isGenerator = false) (hk : scope.kind = .function)
    (hcell : ∀ x ∈ scope.names, x.2 ≠ .cell) : codeR (model prog w) A (.call (.ref f) args) R s := by
  have Xs : K.In s.heap := X.keeps st
  refine codeR_call_function (fd := fnOf name qual params body scope dV kV doc pm an cdv ct) (body := body) hroom (Xs _ _ ho) rfl hco hgen rfl (codeRec_of Xs hcd) (hbind _ _ _ _ ?_)
  refine wpAny_newFunctionEnv hcell hloc (fun h₁ hns hsb => ⟨(T.nolimit.keeps st).fresh _ hsb, codeR_func ?_⟩) hk
  have hk₁ : ∀ b o, s.heap.get? b = some o → h₁.get? b = some o := fun b o e => hsb.extBut b o (Nat.ne_of_lt (Heap.lt_size e)) (Heap.get?_push_of_some _ e)
  have st' : h₀.StaysIn (hideAll s.heap (adrs hid)) := fun b o e => hideAll_get _ (st b o e) fun q => by
    (refine ex1 (List.mem_map.mp q) fun p hE9 => an2 hE9 ?_; clear hE9; rintro hp rfl)
    rw [(hh p hp).2] at e; cases e
  exact h (hideAll s.heap (adrs hid)) s.heap.objs.size h₁ st' (Nat.le_refl _) (fun b o e n => hideAll_get _ e n) (X.keeps st') (T.keeps st')
    ⟨hns, fun b o e => hk₁ b o (of_hideAll _ e), Nat.le_of_eq (hideAll_size _ _)⟩
    (fun q hq => ⟨hk₁ _ _ (hh q hq).1, Nat.ne_of_lt (Heap.lt_size (hh q hq).1), hideAll_none _ (List.mem_map_of_mem hq)⟩)
end
end
section -- KE2
section
variable {prog : Program} {w : World} {A : Around} {E : Value → Shared → Prop} {s : Shared} {env : Env} {h₀ : Heap} {x : Str} {body : List Stmt} {Q : Flow → Shared → Prop}
theorem iter_rangeU (n : Nat) {r : Addr} {a₀ b₀ : Int} {t₀ u₀ v₀ : Tok} {m₀ : Str → Option Value} {news : List (Addr × Obj)}
    (hh : A.handled = none) (hr : IsRange s.heap r a₀ b₀ 1 t₀ u₀ v₀) (h1 : -1000000000000 ≤ a₀) (h2 : b₀ ≤ 1000000000000) (hn : b₀ = a₀ + n) (F : Fr h₀ env.locals s.heap m₀) (N : News h₀ env.locals s.heap news)
    (rest₀ : ∀ I : Addr, (∀ p ∈ news, p.1 < I) → RangeRest prog w A E h₀ env x body Q s I a₀ n n 0 m₀ news) :
    wpAny (model prog w) A (pyIter (.ref r)) (fun it s₂ => LoopAtV prog w A h₀ env x body Q E it s₂) E s :=
  iter_rangeUnr hh hr (small_one (by ((with_reducible refine i5 (by assumption) ?_); rfl)) (by (with_reducible exact s60 (by assumption) (by assumption))) (by (with_reducible exact s59 (by assumption) (by assumption))) (by ((with_reducible refine i3 (by assumption) ?_); rfl))) (by rw [rangeSize_nat]; (with_reducible exact s9 (by assumption))) F N rest₀
theorem range_next {I : Addr} {a : Int} {n k i : Nat} {m : Str → Option Value} {news : List (Addr × Obj)} (v : Int) (hv : a + (i : Int) = v) (x1 x2 : Int) (h1 : a + ((i + 1 : Nat) : Int) = x1) (h2 : (n : Int) - ((i + 1 : Nat) : Int) = x2)
    (h : ∀ t h tk, Fr h₀ env.locals h (fun y => if y = x then some (.int v t) else m y) → News h₀ env.locals h ((I, itR x1 x2) :: news) →
      wpAny (model prog w) A (execs body env) (UnrPost h₀ env.locals { s with heap := h, toks := tk } I (itR x1 x2) (RangeRest prog w A E h₀ env x body Q s I a n k (i + 1)) Q) E { s with heap := h, toks := tk }) :
    RangeRest prog w A E h₀ env x body Q s I a n (k + 1) i m news := by
  subst hv h1 h2
  exact RangeRest.succ h
end
section
variable {prog : Program} {w : World} {A : Around} {E : Value → Shared → Prop} {s : Shared} {Q : Value → Shared → Prop} {a b : Int} {t u : Tok}
theorem mod_to {hp0 : Heap} {ge0 : Array GenState} {dr0 : Drawn} {tk0 : Nat} {os0 : OsState} (c : Int) (hb : 0 < b) (hc : a % b = c) (h : Q (.int c tk0) ⟨hp0, ge0, dr0, tk0 + 1, os0⟩) : wpAny (model prog w) A (binaryOp .Mod (.int a t) (.int b u)) Q E ⟨hp0, ge0, dr0, tk0, os0⟩ :=
  mod_int' (by omega) (by rw [Int.fmod_eq_emod_of_nonneg _ (by ((with_reducible refine i6 (by assumption) ?_); rfl)), hc]; exact h)
theorem and255_small {hp0 : Heap} {ge0 : Array GenState} {dr0 : Drawn} {tk0 : Nat} {os0 : OsState} (h0 : 0 ≤ a) (h1 : a < 256) (h : Q (.int a tk0) ⟨hp0, ge0, dr0, tk0 + 1, os0⟩) : wpAny (model prog w) A (binaryOp .BitAnd (.int a t) (.int 255 u)) Q E ⟨hp0, ge0, dr0, tk0, os0⟩ :=
  and_int (by rw [bitAnd_m8, Int.emod_eq_of_lt h0 h1]; exact h)
theorem and127_to {hp0 : Heap} {ge0 : Array GenState} {dr0 : Drawn} {tk0 : Nat} {os0 : OsState} (c : Int) (hc : a % 128 = c) (h : Q (.int c tk0) ⟨hp0, ge0, dr0, tk0 + 1, os0⟩) : wpAny (model prog w) A (binaryOp .BitAnd (.int a t) (.int 127 u)) Q E ⟨hp0, ge0, dr0, tk0, os0⟩ :=
  and_int (by rw [bitAnd_m7, hc]; exact h)
theorem and255_to {hp0 : Heap} {ge0 : Array GenState} {dr0 : Drawn} {tk0 : Nat} {os0 : OsState} (c : Int) (hc : a % 256 = c) (h : Q (.int c tk0) ⟨hp0, ge0, dr0, tk0 + 1, os0⟩) : wpAny (model prog w) A (binaryOp .BitAnd (.int a t) (.int 255 u)) Q E ⟨hp0, ge0, dr0, tk0, os0⟩ :=
  and_int (by rw [bitAnd_m8, hc]; exact h)
theorem irshift_to {hp0 : Heap} {ge0 : Array GenState} {dr0 : Drawn} {tk0 : Nat} {os0 : OsState} (p c : Int) (hn : 0 ≤ b) (hp : (2 : Int) ^ b.toNat = p) (hc : a / p = c) (h : Q (.int c tk0) ⟨hp0, ge0, dr0, tk0 + 1, os0⟩) : wpAny (model prog w) A (inplaceOp .RShift (.int a t) (.int b u)) Q E ⟨hp0, ge0, dr0, tk0, os0⟩ :=
  irshift_int hn (by rw [Int.fdiv_eq_ediv_of_nonneg _ (by exact Int.le_of_lt (Int.pow_pos (by decide))), hp, hc]; exact h)
end
section
variable {prog : Program} {w : World} {A : Around} {E : Value → Shared → Prop} {s : Shared} {Q : Value → Shared → Prop}
theorem byte_own {hp0 : Heap} {ge0 : Array GenState} {dr0 : Drawn} {tk0 : Nat} {os0 : OsState} {value slice : PySem.Expr} {l : List UInt8} {bt u : Tok} {k : Int} (x : Int) (hl : l.length ≤ 1000) (h0 : 0 ≤ k) (h1 : k < l.length) (hx : ((l.getD k.toNat 0).toNat : Int) = x) (h : Q (.int x tk0) ⟨hp0, ge0, dr0, tk0 + 1, os0⟩)
    (hs : subscripted slice false (.bytes l.toArray bt) (.int k u) = operate [.bytes l.toArray bt, .int k u] (getItem (.bytes l.toArray bt) (.int k u))) (hg : ∀ r, letTemporaryGo value (.bytes l.toArray bt) r = pure ()) :
    wpAny (model prog w) A (subscriptTail value slice (.bytes l.toArray bt) (.int k u)) Q E ⟨hp0, ge0, dr0, tk0, os0⟩ :=
  subscriptTail_builtin (typeIs_bytes ⟨hp0, ge0, dr0, tk0, os0⟩ _ bt) FB.slot_bytes_getitem.lookup (getItem_bytes (by ((with_reducible refine t1 (by assumption) ?_); rfl)) h0 h1 (by rw [hx]; exact h)) hs hg
theorem bitOr_zero (b : Int) (h : 0 ≤ b) : Builtin.bitOr 0 b = b := by
  rw [bitOr_and]
  have : Builtin.bitAnd 0 b = 0 := by
    unfold Builtin.bitAnd
    simp [h]
  omega
theorem or_to {hp0 : Heap} {ge0 : Array GenState} {dr0 : Drawn} {tk0 : Nat} {os0 : OsState} {a b : Int} {t u : Tok} (c : Int) (hc : Builtin.bitOr a b = c) (h : Q (.int c tk0) ⟨hp0, ge0, dr0, tk0 + 1, os0⟩) : wpAny (model prog w) A (binaryOp .BitOr (.int a t) (.int b u)) Q E ⟨hp0, ge0, dr0, tk0, os0⟩ :=
  or_int (by rw [hc]; exact h)
theorem lshift_to {hp0 : Heap} {ge0 : Array GenState} {dr0 : Drawn} {tk0 : Nat} {os0 : OsState} {a n : Int} {t u : Tok} (c : Int) (hn : 0 ≤ n) (hn2 : n ≤ 1000000) (ha : a.natAbs < 2 ^ 64) (hc : a * 2 ^ n.toNat = c) (h : Q (.int c tk0) ⟨hp0, ge0, dr0, tk0 + 1, os0⟩) : wpAny (model prog w) A (binaryOp .LShift (.int a t) (.int n u)) Q E ⟨hp0, ge0, dr0, tk0, os0⟩ :=
  lshift_int_small hn hn2 ha (by rw [hc]; exact h)
theorem or_zero {hp0 : Heap} {ge0 : Array GenState} {dr0 : Drawn} {tk0 : Nat} {os0 : OsState} {a b : Int} {t u : Tok} (ha : a = 0) (hb : 0 ≤ b) (h : Q (.int b tk0) ⟨hp0, ge0, dr0, tk0 + 1, os0⟩) : wpAny (model prog w) A (binaryOp .BitOr (.int a t) (.int b u)) Q E ⟨hp0, ge0, dr0, tk0, os0⟩ := by
  subst ha
  exact or_int (by rw [bitOr_zero b hb]; exact h)
end

abbrev tup2 (a b : Value) : Obj := { cls := .type "tuple", data := .seq #[a, b] }
abbrev tup3 (a b c : Value) : Obj := { cls := .type "tuple", data := .seq #[a, b, c] }
theorem news_live {g h : Heap} {L a : Addr} {m : Str → Option Value} {o : Obj} {news : List (Addr × Obj)} (F : Fr g L h m) (N : News g L h news) (l : Live g h a o) (hd : ∀ es n, o.data ≠ .dict es n) : News g L h ((a, o) :: news) := fun q hq => by
  rcases List.mem_cons.mp hq with rfl | hq
  · refine ⟨l.1, fun e => ?_, l.2⟩
    (refine ex3 (F.ns) fun oL es ep hE9 => an2 hE9 ?_; clear hE9; intro hL hr)
    have h1 := l.1
    rw [show a = L from e, hL] at h1
    exact hd es ep (by rw [← Option.some.inj h1]; exact hr.1)
  · exact N q hq
theorem live_own {g h : Heap} {L a : Addr} {o : Obj} {news : List (Addr × Obj)} (N : News g L h news) (hm : (a, o) ∈ news) : Live g h a o := ⟨(N _ hm).1, (N _ hm).2.2⟩
theorem fresh_own {sh g h : Heap} {L a : Addr} {o : Obj} {news : List (Addr × Obj)} (hg : ∀ b o, sh.get? b = some o → b ∉ adrs [] → g.get? b = some o) (N : News g L h news) (hm : (a, o) ∈ news) : sh.get? a = none := by
  cases e : sh.get? a with
  | none => rfl
  | some o' =>
    have := hg a o' e (by simp)
    rw [(N _ hm).2.2] at this
    cases this
theorem apart_new {g h : Heap} {L a : Addr} {news : List (Addr × Obj)} (N : News g L h news) (hn : h.get? a = none) : ∀ p ∈ news, p.1 ≠ a := fun p hp e => by
  have := (N p hp).1
  rw [e, hn] at this
  cases this
theorem neLt {a b : Nat} (h : a ≠ b) : a < b ∨ b < a := Nat.lt_or_gt_of_ne h
theorem allLt_mem {d a : Nat} {o : Obj} : ∀ {l : List (Addr × Obj)}, AllLt d l → (a, o) ∈ l → a < d
  | _ :: _, h, .head _ => h.1
  | _ :: _, h, .tail _ m => allLt_mem h.2 m
theorem off1_mem {D a : Addr} {o : Obj} : ∀ {l : List (Addr × Obj)}, LCg.Off1 D l → (a, o) ∈ l → @Ne Nat a D
  | _ :: _, h, .head _ => h.1
  | _ :: _, h, .tail _ m => off1_mem h.2 m
theorem off3_mem {I C D a : Addr} {o : Obj} : ∀ {l : List (Addr × Obj)}, LCg.Off3 I C D l → (a, o) ∈ l → (@Ne Nat a I) ∧ (@Ne Nat a C) ∧ (@Ne Nat a D)
  | _ :: _, h, .head _ => h.1
  | _ :: _, h, .tail _ m => off3_mem h.2 m
theorem lt_by {a d x : Nat} (h : d < x) (h' : a < d) : a < x := Nat.lt_trans h' h
section
variable {I C D a : Addr} {o : Obj} {l : List (Addr × Obj)}
theorem off3I (h : LCg.Off3 I C D l) (m : (a, o) ∈ l) : @Ne Nat a I := (off3_mem h m).1
theorem off3C (h : LCg.Off3 I C D l) (m : (a, o) ∈ l) : @Ne Nat a C := (off3_mem h m).2.1
theorem off3D (h : LCg.Off3 I C D l) (m : (a, o) ∈ l) : @Ne Nat a D := (off3_mem h m).2.2
theorem off3i (h : LCg.Off3 I C D l) (m : (a, o) ∈ l) : @Ne Nat I a := (off3_mem h m).1.symm
theorem off3c (h : LCg.Off3 I C D l) (m : (a, o) ∈ l) : @Ne Nat C a := (off3_mem h m).2.1.symm
theorem off3d (h : LCg.Off3 I C D l) (m : (a, o) ∈ l) : @Ne Nat D a := (off3_mem h m).2.2.symm
theorem off1i (h : LCg.Off1 D l) (m : (a, o) ∈ l) : @Ne Nat D a := (off1_mem h m).symm
end
end
section -- KD

/-! The cells that the law draws, and what a record keeps of each. -/
inductive Cell where
  | nil | int (n : Int) | tx (x : Str) | oc (l : List UInt8)

inductive Cell.Is : Cell → Value → Prop
  | nil : Cell.Is .nil .none
  | int (n : Int) (t : Tok) : Cell.Is (.int n) (.int n t)
  | tx (x : Str) (t : Tok) : Cell.Is (.tx x) (.str x t)
  | oc (l : List UInt8) (t : Tok) : Cell.Is (.oc l) (.bytes l.toArray t)

def SmallI (n : Int) : Prop := -128 ≤ n ∧ n < 128
def GoodI (n : Int) : Prop := SmallI n ∨ n = 9223372036854775807 ∨ n = -9223372036854775808
abbrev tx0 : Str := Str.ofString ""
abbrev tx1 : Str := Str.ofString "xé"
def utfL (x : Str) : List UInt8 := if x = tx1 then [120, 195, 169] else []
inductive Cell.Good : Cell → Prop
  | nil : Cell.Good .nil
  | int {n : Int} (h : GoodI n) : Cell.Good (.int n)
  | tx0 : Cell.Good (.tx tx0)
  | tx1 : Cell.Good (.tx tx1)
  | oc {l : List UInt8} (h : l.length ≤ 2) : Cell.Good (.oc l)

def kindI (n : Int) : Int := if n = 0 then 8 else if n = 1 then 9 else if -128 ≤ n ∧ n < 128 then 1 else 6
def Cell.kind : Cell → Int
  | .nil => 0
  | .int n => kindI n
  | .tx x => 13 + 2 * (utfL x).length
  | .oc l => 12 + 2 * l.length
def bodyI (n : Int) : List UInt8 :=
  if n = 0 ∨ n = 1 then [] else if n = 9223372036854775807 then [127, 255, 255, 255, 255, 255, 255, 255] else if n = -9223372036854775808 then [128, 0, 0, 0, 0, 0, 0, 0]
  else [(n % 256).toNat.toUInt8]
def Cell.body : Cell → List UInt8
  | .nil => []
  | .int n => bodyI n
  | .tx x => utfL x
  | .oc l => l

theorem kindI_lt (n : Int) : 0 ≤ kindI n ∧ kindI n < 128 := by unfold kindI; repeat' split <;> (first | decide | (with_reducible exact s50))
theorem utfL_len (x : Str) : (utfL x).length ≤ 3 := by unfold utfL; split <;> simp
theorem Cell.kind_lt {c : Cell} (h : c.Good) : 0 ≤ c.kind ∧ c.kind < 128 := by
  cases h with
  | nil => simp [Cell.kind]
  | int h => exact kindI_lt _
  | tx0 => have := utfL_len tx0; simp only [Cell.kind]; decide
  | tx1 => have := utfL_len tx1; simp only [Cell.kind]; decide
  | oc h => simp only [Cell.kind]; omega
theorem bodyI_len (n : Int) : (bodyI n).length ≤ 8 := by
  unfold bodyI
  split
  · simp
  · split
    · simp
    · split <;> simp
theorem Cell.body_len {c : Cell} (h : c.Good) : c.body.length ≤ 8 := by
  cases h with
  | nil => simp [Cell.body]
  | int h => exact bodyI_len _
  | tx0 => have := utfL_len tx0; simp only [Cell.body]; decide
  | tx1 => have := utfL_len tx1; simp only [Cell.body]; decide
  | oc h => simp only [Cell.body]; ((with_reducible refine t1 (by assumption) ?_); rfl)
theorem int_is {a b : Int} {t : Tok} (h : a = b) : ∃ t', Value.int a t = .int b t' := ⟨t, by rw [h]⟩
theorem bytes_is {a b : Array UInt8} {t : Tok} (h : a = b) : ∃ t', Value.bytes a t = .bytes b t' := ⟨t, by rw [h]⟩
end
section -- KS
open Sem (wp)

/-! The statements' and expressions' rules for clean stacks. -/
section
variable {M : Model} {A : Around} {E : Value → Shared → Prop} {s : Shared} {env : Env}
theorem execsR_nil {Q : Flow → Shared → Prop} (h : Q .next s) : wpR M A (execs [] env) Q E s := fun _ _ _ _ _ => h
theorem execsR_cons {st rest} {Q : Flow → Shared → Prop}
    (h : wpR M A (exec st env) (fun f s' => match f with | .next => wpR M A (execs rest env) Q E s' | f => Q f s') E s) : wpR M A (execs (st :: rest) env) Q E s := by
  rw [execs_cons]
  refine wpR_bind (wpR_mono h (fun f s' h' => ?_) fun _ _ x => x)
  cases f <;> first | exact h' | exact wpR_pure h'
/-- a statement in the library's logic, the rest in ours -/
theorem execsR_plain {st rest} {Q : Flow → Shared → Prop}
    (h : wpAny M A (exec st env) (fun f s' => match f with | .next => wpR M A (execs rest env) Q E s' | f => Q f s') E s) : wpR M A (execs (st :: rest) env) Q E s := execsR_cons (wpR_of h)
theorem assignR {x pos' value pos} {Q : Flow → Shared → Prop}
    (h : wpR M A (eval value env) (fun v s₁ => wpAny M A (storeName env x v) (fun _ => Q .next) E s₁) E s)
    (hs : swapsWith value (some (.Name x pos')) pos.line env = pure false := by rfl) : wpR M A (exec (.Assign [.Name x pos'] value pos) env) Q E s := fun Γ p hΓ h1 h2 => by
  simp only [exec_Assign_Name env x pos' value pos hs, Sem.wp_bind', Sem.wp_cmd_standAt, Sem.wp_bindName, Sem.wp_pure']
  exact Sem.wp_mono M Γ _ (fun v _ s₁ h₁ => h₁ Γ _ hΓ) (fun _ _ _ h' => h') _ _ (h Γ _ hΓ h1 h2)
theorem ifR {test body orelse pos} {Q : Flow → Shared → Prop}
    (h : wpR M A (isTrue test env (eval test env)) (fun b s₂ => if b then wpR M A (execs body env) Q E s₂ else wpR M A (execs orelse env) Q E s₂) E s) :
    wpR M A (exec (.If test body orelse pos) env) Q E s := fun Γ p hΓ h1 h2 => by
  simp only [exec_If, Sem.wp_bind', Sem.wp_cmd_standAt]
  refine Sem.wp_mono M Γ _ (fun b p₂ s₂ h₂ => ?_) (fun _ _ _ h' => h') _ _ (h Γ _ hΓ h1 h2)
  cases b <;> exact h₂ Γ p₂ hΓ h1 h2
theorem returnR {e pos} {Q : Flow → Shared → Prop} (h : wpR M A (eval e env) (fun v => Q (.ret v)) E s) : wpR M A (exec (.Return (some e) pos) env) Q E s := fun Γ p hΓ h1 h2 => by
  simp only [exec_Return_some, Sem.wp_bind', Sem.wp_cmd_standAt, Sem.wp_pure']; exact h Γ _ hΓ h1 h2
theorem binOpR {l op r pos} {Q : Value → Shared → Prop}
    (h : wpR M A (eval l env) (fun a s₁ => wpR M A (eval r env) (fun b s₂ => wpAny M A (binaryOp op a b) Q E s₂) E s₁) E s) : wpR M A (eval (.BinOp l op r pos) env) Q E s := fun Γ p hΓ h1 h2 => by
  simp only [eval_BinOp, Sem.wp_bind', Sem.wp_holding, Sem.wp_cmd_standAt, Sem.wp_operate]
  exact Sem.wp_mono M Γ _ (fun a p₁ s₁ h₁ => Sem.wp_mono M Γ _ (fun b _ s₂ h₂ => h₂ Γ _ hΓ) (fun _ _ _ h' => h') _ _ (h₁ Γ p₁ hΓ h1 h2))
    (fun _ _ _ h' => h') _ _ (h Γ p hΓ h1 h2)
theorem compareR {l op r pos whole} {Q : Bool → Shared → Prop}
    (h : wpR M A (eval l env) (fun a s₁ => wpAny M A (eval r env) (fun b s₂ => wpAny M A (compareOp op a b) (fun c s₃ => wpAny M A (truthy c) Q E s₃) E s₂) E s₁) E s)
    (hm : behindInMarks op r = false := by with_unfolding_all rfl) : wpR M A (isTrue (.Compare l [op] [r] pos) env whole) Q E s := fun Γ p hΓ h1 h2 => by
  simp only [isTrue_Compare1, markedBehindIn_of_false hm, Sem.wp_bind', Sem.wp_holding, Sem.wp_cmd_standAt, Sem.wp_operate]
  exact Sem.wp_mono M Γ _ (fun a p₁ s₁ h₁ => Sem.wp_mono M Γ _ (fun b _ s₂ h₂ => Sem.wp_mono M Γ _ (fun c p₃ s₃ h₃ => h₃ Γ p₃ hΓ)
    (fun _ _ _ h' => h') _ _ (h₂ Γ _ hΓ)) (fun _ _ _ h' => h') _ _ (h₁ Γ p₁ hΓ)) (fun _ _ _ h' => h') _ _ (h Γ p hΓ h1 h2)
theorem notR {x pos whole} {Q : Bool → Shared → Prop} (h : wpR M A (isTrue x env (eval x env)) (fun c s' => Q (!c) s') E s) : wpR M A (isTrue (.UnaryOp .Not x pos) env whole) Q E s := by
  show wpR M A (do return !(← isTrue x env (eval x env))) Q E s
  exact wpR_bind (wpR_mono h (fun c s' h' => wpR_pure h') fun _ _ x => x)
theorem orR_nil {pos whole} {Q : Bool → Shared → Prop} (h : Q false s) : wpR M A (isTrue (.BoolOp .Or [] pos) env whole) Q E s := wpR_pure (a := false) h
theorem orR {x rest pos whole} {Q : Bool → Shared → Prop}
    (h : wpR M A (isTrue x env (eval x env)) (fun c s' => if c then Q true s' else wpR M A (isTrue (.BoolOp .Or rest pos) env whole) Q E s') E s) :
    wpR M A (isTrue (.BoolOp .Or (x :: rest) pos) env whole) Q E s := by
  show wpR M A (do
    match BoolOp.Or, ← isTrue x env (eval x env) with
    | .And, false => pure false
    | .Or, true => pure true
    | _, _ => allTrue .Or rest env) Q E s
  refine wpR_bind (wpR_mono h (fun c s' h' => ?_) fun _ _ x => x)
  cases c with
  | false => exact h'
  | true => exact wpR_pure h'
/-- a test that an expression's own value gives -/
theorem testR {t : PySem.Expr} {Q : Bool → Shared → Prop} (h : wpR M A (eval t env) (fun v s' => wpAny M A (truthy v) Q E s') E s)
    (he : isTrue t env (eval t env) = (do truthy (← eval t env)) := by rfl) : wpR M A (isTrue t env (eval t env)) Q E s := by
  rw [he]
  exact wpR_bind (wpR_mono h (fun _ _ x => wpR_of x) fun _ _ x => x)
theorem splicedR_cons {x : Sem Value} {rest : List (Bool × Sem Value)} {Q : List Value → Shared → Prop}
    (h : wpR M A x (fun v s₁ => wpR M A (spliced rest) (fun vs s₂ => Q (v :: vs) s₂) E s₁) E s) : wpR M A (spliced ((false, x) :: rest)) Q E s := by
  rw [spliced]
  refine wpR_bind (wpR_mono h (fun v s₁ h₁ => ?_) fun _ _ x => x)
  simp only [Bool.false_eq_true, if_false]
  exact wpR_bind (wpR_pure (wpR_bind (wpR_holding (wpR_mono h₁ (fun vs s₂ h₂ => wpR_pure h₂) fun _ _ x => x))))
theorem argsR_nil {pos : Pos} {Q : List Value → Shared → Prop} (h : Q [] s) : wpR M A (spliced (backTo pos (starEach [] env))) Q E s := wpR_pure h
theorem argsR_cons {e : PySem.Expr} {rest : List PySem.Expr} {pos : Pos} {Q : List Value → Shared → Prop}
    (h : wpR M A (eval e env) (fun v s₁ => wpR M A (spliced (backTo pos (starEach rest env))) (fun vs s₂ => Q (v :: vs) s₂) E s₁) E s)
    (he : starEach (e :: rest) env = (false, eval e env) :: starEach rest env := by rfl) : wpR M A (spliced (backTo pos (starEach (e :: rest) env))) Q E s := by
  rw [he]; exact splicedR_cons h
theorem evalArgsR {f : Value} {x : Sem Value} {rest : List (Bool × Sem Value)} {Q : Args → Shared → Prop}
    (h : wpR M A (spliced ((false, x) :: rest)) (fun vs s' => Q ⟨vs, []⟩ s') E s) : wpR M A (evalArgs f true ((false, x) :: rest) []) Q E s := by
  unfold evalArgs
  show wpR M A (spliced ((false, x) :: rest) >>= _) Q E s
  refine wpR_bind (wpR_mono h (fun vs s' h' => wpR_holding ?_) fun _ _ x => x)
  exact wpR_bind (wpR_pure (wpR_bind (wpR_pure (wpR_pure h'))))
theorem wpR_keep {α : Type} {vs : List Value} {m : Sem α} {Q : α → Shared → Prop} (h : wpR M A m Q E s) : wpR M A (m.keep vs) Q E s :=
  fun Γ p hΓ h1 h2 => by rw [Sem.wp_keep]; exact h Γ p hΓ h1 h2
theorem callWithR {f : Value} {P : Heap → Prop} {pos : Pos} {first : List Value} {args : List (Bool × Sem Value)} {Q : Value → Shared → Prop} (hplain : args.any (·.1) = false)
    (hk : ∀ h, P h → ∃ k, (k = Keeper.frame ∨ k = Keeper.machine ∨ k = Keeper.boundFrame) ∧ Looks M h (keeperOf f) k)
    (h : wpR M A (evalArgs f true args []) (fun a s₁ => P s₁.heap ∧ wpR M A (call f (first ++ a.pos) a.kw) Q E s₁) E s) : wpR M A (callWith pos f first args []) Q E s := by
  unfold callWith
  refine wpR_bind (wpR_holding (wpR_mono h (fun a s₁ h₁ => wpR_bindA (wpAny_standAt ?_)) fun _ _ x => x))
  (refine ex1 (hk _ h₁.1) fun k hE9 => an2 hE9 ?_; clear hE9; intro hk' L)
  simp only [hplain, List.any_nil, Bool.or_false]
  refine wpR_bindA (L.here ?_)
  have tail : ∀ {t : Sem Value}, wpR M A t Q E s₁ → wpR M A (t >>= fun r => holding [r] point >>= fun _ => pure r) Q E s₁ :=
    fun ht => wpR_bind (wpR_mono ht (fun r s₂ hr => wpR_of (wpAny_bind (wpAny_holding (wpAny_point (wpAny_pure hr))))) fun _ _ x => x)
  have marked (mk : Value) : wpR M A (callMarked mk f (first ++ a.pos) a.kw) Q E s₁ := by unfold callMarked; exact wpR_keep h₁.2
  rcases hk' with rfl | rfl | rfl <;> dsimp only <;> first | exact tail h₁.2 | (split <;> first | exact tail h₁.2 | exact tail (marked _))
theorem keeps_builtin {id : String} (h : Heap) : True → ∃ k, (k = Keeper.frame ∨ k = Keeper.machine ∨ k = Keeper.boundFrame) ∧ Looks M h (keeperOf (.builtin id)) k := fun _ =>
  ⟨.machine, .inr (.inl rfl), .now⟩
theorem callR {func : PySem.Expr} {args : List PySem.Expr} {pos : Pos} {Q : Value → Shared → Prop}
    (h : wpAny M A (eval func env) (fun f s₁ => wpR M A (callWith pos f [] (backTo pos (starEach args env)) []) Q E s₁) E s)
    (he : eval (.Call func args [] pos) env = (do callWith pos (← eval func env) [] (backTo pos (starEach args env)) (backToKw pos (keywordEach [] env))) := by rfl) :
    wpR M A (eval (.Call func args [] pos) env) Q E s := by
  rw [he]; exact wpR_bindA h
theorem methodCallR {o : PySem.Expr} {name : Str} {apos pos : Pos} {args : List PySem.Expr} {pl : Sem Bool} {Q : Value → Shared → Prop}
    (h : wpAny M A (eval o env) (fun ov s₁ => wpAny M A (getMethod ov name pl) (fun fx s₂ => wpR M A (callWith pos fx.1 fx.2 (backTo pos (starEach args env)) []) Q E s₂) E s₁) E s)
    (he : eval (.Call (.Attribute o name apos) args [] pos) env = (do
      let ov ← eval o env
      standAt apos.atName
      let (f, first) ← holding [ov] (getMethod ov name pl)
      callWith pos f first (backTo pos (starEach args env)) []) := by rfl) :
    wpR M A (eval (.Call (.Attribute o name apos) args [] pos) env) Q E s := by
  rw [he]
  refine wpR_bindA (wpAny_mono h (fun ov s₁ h₁ => ?_) fun _ _ x => x)
  exact wpR_bindA (wpAny_standAt (wpR_bindA (wpAny_holding h₁)))
/-- a call of a def over K: its arguments in our logic -/
theorem callWithR_K {K : Frag} {f : Value} {pos : Pos} {first : List Value} {e : PySem.Expr} {rest : List PySem.Expr} {Q : Value → Shared → Prop} (hk : keepIn K f = true)
    (h : wpR M A (spliced (backTo pos (starEach (e :: rest) env))) (fun vs s₁ => K.In s₁.heap ∧ wpR M A (call f (first ++ vs)) Q E s₁) E s)
    (he : starEach (e :: rest) env = (false, eval e env) :: starEach rest env := by rfl) (hplain : (backTo pos (starEach rest env)).any (·.1) = false := by rfl) :
    wpR M A (callWith pos f first (backTo pos (starEach (e :: rest) env)) []) Q E s := by
  rw [he] at h ⊢
  exact callWithR (by show (false || (backTo pos (starEach rest env)).any (·.1)) = false; rw [hplain]; rfl) (keeps_K hk) (evalArgsR h)
theorem callWithR_builtin {id : String} {pos : Pos} {first : List Value} {e : PySem.Expr} {rest : List PySem.Expr} {Q : Value → Shared → Prop}
    (h : wpR M A (spliced (backTo pos (starEach (e :: rest) env))) (fun vs s₁ => wpR M A (call (.builtin id) (first ++ vs)) Q E s₁) E s)
    (he : starEach (e :: rest) env = (false, eval e env) :: starEach rest env := by rfl) (hplain : (backTo pos (starEach rest env)).any (·.1) = false := by rfl) :
    wpR M A (callWith pos (.builtin id) first (backTo pos (starEach (e :: rest) env)) []) Q E s := by
  rw [he] at h ⊢
  exact callWithR (P := fun _ => True) (by show (false || (backTo pos (starEach rest env)).any (·.1)) = false; rw [hplain]; rfl) (fun h t => keeps_builtin h t)
    (evalArgsR (wpR_mono h (fun _ _ x => ⟨trivial, x⟩) fun _ _ x => x))
theorem callWithR_type0 {T : String} {pos : Pos} {Q : Value → Shared → Prop} (h : wpR M A (call (.type T) []) Q E s) :
    wpR M A (callWith pos (.type T) [] (backTo pos (starEach [] env)) []) Q E s :=
  callWithR (P := fun _ => True) rfl (fun _ _ => ⟨.machine, .inr (.inl rfl), .now⟩) (wpR_of (evalArgs_nil3 ⟨trivial, h⟩))
end

section
variable {prog : Program} {w : World} {A : Around} {E : Value → Shared → Prop} {s : Shared} {env : Env}
theorem exprR {e pos} {Q : Flow → Shared → Prop} (h : wpR (model prog w) A (eval e env) (fun _ => Q .next) E s)
    (hi : interactive env = false := by rfl) (hs : swapsWith e none pos.line env = pure false := by rfl) : wpR (model prog w) A (exec (.Expr e pos) env) Q E s := by
  rw [exec_Expr env e pos hi hs]
  exact wpR_bindA (wpAny_standAt (wpR_bind (wpR_mono h (fun v s' h' => wpR_of (wpAny_dropValue h')) fun _ _ x => x)))
theorem forR {target iter body pos} {Q : Flow → Shared → Prop} (hh : A.handled = none)
    (h : wpAny (model prog w) A (eval iter env) (fun x s₁ => wpAny (model prog w) A (pyIter x) (fun it s₂ =>
      codeR (model prog w) A (.forLoop target it body [] env) (fun r s' => match r with | .ok f => Q f s' | .error _ => False) s₂) E s₁) E s)
    (hs : ∀ x, foldedSetIterable iter env x = pure x := by intro _; rfl) :
    wpR (model prog w) A (exec (.For target iter body [] pos) env) Q E s := by
  rw [exec_For]
  exact wpR_bindA (wpAny_standAt (wpR_bindA (wpAny_mono h (fun x s₁ h₁ => wpR_bindA (wpAny_of_eq (hs x) (wpR_bindA (wpAny_standAt (wpR_bindA (wpAny_holding
    (wpAny_mono h₁ (fun it s₂ h₂ => wpR_runOwn hh h₂) fun _ _ h' => h'))))))) fun _ _ h' => h')))
/-- one turn of a loop -/
theorem turnR {R : Result → Shared → Prop} {target it body}
    (h : wpAny (model prog w) A (pyNext it) (fun r s₁ => match r with
      | none => R (.ok .next) s₁
      | some v => wpAny (model prog w) A (assign target env v) (fun _ s₂ => wpR (model prog w) A (execs body env) (fun f s₃ => match f with
          | .next | .cont => codeR (model prog w) A (.forLoop target it body [] env) R s₃
          | .brk => R (.ok .next) s₃
          | .ret v => R (.ok (.ret v)) s₃) (fun _ _ => False) s₂) (fun _ _ => False) s₁) (fun _ _ => False) s)
    (ht : ∀ v, letOwnedTupleGo target it v = pure () := by intro _; rfl) : codeR (model prog w) A (.forLoop target it body [] env) R s := by
  refine codeR_of_tree rfl ?_
  show wpR _ A ((forTurn target it body [] env).onRaise (fun x => do noteFrame x env; theTreesLotGoes x)) _ _ s
  refine wpR_onRaise0 ?_
  simp only [forTurn]
  refine wpR_bindA (wpAny_standAt (wpR_bind (wpR_onRaise0 (wpR_mono (wpR_of h) (fun r s₁ h₁ => ?_) fun _ _ x => x))))
  cases r with
  | none => exact wpR_pure ⟨rfl, codeR_of (codeAny_block (wpAny_execs_nil h₁))⟩
  | some v =>
    refine wpR_bindA (wpAny_of_eq (ht v) ?_)
    refine wpR_bindA (wpAny_mono h₁ (fun _ s₂ h₂ => wpR_bind (wpR_mono h₂ (fun f s₃ h₃ => ?_) fun _ _ h' => h')) fun _ _ h' => h')
    cases f with
    | next => exact wpR_pure ⟨rfl, h₃⟩
    | cont => exact wpR_pure ⟨rfl, h₃⟩
    | brk => exact wpR_pure h₃
    | ret v => exact wpR_pure h₃
end
end
section -- KT
open Sem (wp)

/-! bytearray, on clean stacks -/
namespace BA
theorem slot_append : Slot "bytearray" "append" "bytearray.append" :=
  .of (owner := "bytearray") (n := "append") (by rw [typeLookup_type, builtinLookup_eq_fast]; kernel_rfl) (by decide +kernel) (by decide +kernel) (by decide +kernel)
    (by first | exact .inl (by decide +kernel) | exact .inr (by decide +kernel)) (by rw [isSubtype_type]; kernel_rfl)
theorem type_append : typeOf (.builtin "bytearray.append") = pure (.type "method_descriptor") := by show builtinType _ = _; rw [builtinType_eq_fast]; kernel_rfl
theorem entry_append : entryFor table "bytearray.append" = some Builtin.«bytearray.append» := entryFor_of_tree (by kernel_rfl)
theorem slot_extend : Slot "bytearray" "extend" "bytearray.extend" :=
  .of (owner := "bytearray") (n := "extend") (by rw [typeLookup_type, builtinLookup_eq_fast]; kernel_rfl) (by decide +kernel) (by decide +kernel) (by decide +kernel)
    (by first | exact .inl (by decide +kernel) | exact .inr (by decide +kernel)) (by rw [isSubtype_type]; kernel_rfl)
theorem type_extend : typeOf (.builtin "bytearray.extend") = pure (.type "method_descriptor") := by show builtinType _ = _; rw [builtinType_eq_fast]; kernel_rfl
theorem entry_extend : entryFor table "bytearray.extend" = some Builtin.«bytearray.extend» := entryFor_of_tree (by kernel_rfl)
theorem slot_init : Slot "bytearray" "__init__" "bytearray.__init__" :=
  .of (owner := "bytearray") (n := "__init__") (by rw [typeLookup_type, builtinLookup_eq_fast]; kernel_rfl) (by decide +kernel) (by decide +kernel) (by decide +kernel)
    (by first | exact .inl (by decide +kernel) | exact .inr (by decide +kernel)) (by rw [isSubtype_type]; kernel_rfl)
theorem entry_init : entryFor table "bytearray.__init__" = some Builtin.«bytearray.__init__» := entryFor_of_tree (by kernel_rfl)
theorem entry_new : entryFor table "bytearray.__new__" = some Builtin.«list.__new__» := entryFor_alias (id' := "list.__new__") (by rw [fastTable_eq_tree]; kernel_rfl) rfl (by decide +kernel) (by rw [fastTable_eq_tree]; kernel_rfl)
theorem attrs : PlainAttrs "bytearray" :=
  ⟨⟨"bytearray.__getattribute__", by rw [typeLookup_type, builtinLookup_eq_fast]; kernel_rfl, by decide +kernel⟩, by rw [typeLookup_type, builtinLookup_eq_fast]; kernel_rfl⟩
theorem mro : mroOf (.type "bytearray") = pure [.type "bytearray", .type "object"] := by rw [mroOf_type]; kernel_rfl
theorem lookup_new : typeLookup (.type "bytearray") "__new__" = pure (some (.builtin "bytearray.__new__")) := by rw [typeLookup_type, builtinLookup_eq_fast]; kernel_rfl
theorem sub : isSubtype (.type "bytearray") (.type "bytearray") = pure true := by rw [isSubtype_type]; kernel_rfl
theorem called : TypeCalled "bytearray" "bytearray.__new__" "bytearray.__init__" :=
  ⟨by decide +kernel, by decide +kernel, ⟨_, _, mro⟩, madeBy_type mro lookup_new (by decide +kernel), by decide +kernel, sub, slot_init⟩
theorem typeCall : checkTypeCall "bytearray" ⟨[], []⟩ = pure () := by kernel_rfl
theorem newCall : checkBuiltinCall "bytearray.__new__" ⟨[.type "bytearray"], []⟩ = pure () := by kernel_rfl
theorem plain_new : plainId "bytearray.__new__" = true := by decide +kernel
set_option maxRecDepth 1000000 in
set_option maxHeartbeats 4000000 in
theorem owner_new : ("bytearray.__new__".splitOn ".__new__").headD "" = "bytearray" := by simp +decide [String.splitOn, String.splitOnAux]
theorem ok_append {a : List Value} {k : List (Str × Value)} : okCode (.builtin "bytearray.append" ⟨a, k⟩) = true := by
  show (!Builtin.Bytes.decodersThatHold.contains "bytearray.append") = true
  decide +kernel
theorem ok_extend {a : List Value} {k : List (Str × Value)} : okCode (.builtin "bytearray.extend" ⟨a, k⟩) = true := by
  show (!Builtin.Bytes.decodersThatHold.contains "bytearray.extend") = true
  decide +kernel
theorem ok_init {a : List Value} {k : List (Str × Value)} : okCode (.builtin "bytearray.__init__" ⟨a, k⟩) = true := by
  show (!Builtin.Bytes.decodersThatHold.contains "bytearray.__init__") = true
  decide +kernel
theorem ok_call {a : List Value} {k : List (Str × Value)} : okCode (.builtin "type.__call__" ⟨a, k⟩) = true := by
  show (!Builtin.Bytes.decodersThatHold.contains "type.__call__") = true
  decide +kernel
theorem args_append (a b : Value) : argsOk "bytearray.append" ⟨[a, b], []⟩ := by unfold argsOk; kernel_rfl
theorem args_extend (a b : Value) : argsOk "bytearray.extend" ⟨[a, b], []⟩ := by unfold argsOk; kernel_rfl
theorem args_init (a : Value) : argsOk "bytearray.__init__" ⟨[a], []⟩ := by unfold argsOk; kernel_rfl
theorem bind_init : Builtin.Bytes.bindOptional "bytearray.__init__" "bytearray" ["source", "encoding", "errors"] [] [] = pure [none, none, none] := by kernel_rfl
theorem guard {id : String} {a : Args} : (Code.builtin id a).isGuard = guardIds.contains id := rfl
theorem buf_bytes : typeLookup (.type "bytes") "__buffer__" = pure (some (.builtin "bytes.__buffer__")) := by rw [typeLookup_type, builtinLookup_eq_fast]; kernel_rfl
theorem rel_bytearray : typeLookup (.type "bytearray") "__release_buffer__" = pure (some (.builtin "bytearray.__release_buffer__")) := by rw [typeLookup_type, builtinLookup_eq_fast]; kernel_rfl
theorem rel_bytes : typeLookup (.type "bytes") "__release_buffer__" = pure none := by rw [typeLookup_type, builtinLookup_eq_fast]; kernel_rfl
end BA

def baOf (b : Array UInt8) : Obj := { cls := .type "bytearray", data := .bytearray b }

section
variable {prog : Program} {w : World} {A : Around} {E : Value → Shared → Prop} {s : Shared}
theorem ba_type {a : Addr} {b : Array UInt8} (h : s.heap.get? a = some (baOf b)) : s.TypeIs (.ref a) "bytearray" := ⟨_, h, rfl⟩

/-- a builtin of a slot, on a clean stack -/
theorem codeR_slot {T : String} {name : Str} {id : String} {b : Builtin} {self : Value} {rest : List Value} {R : Result → Shared → Prop} (h : Slot T name id) (hT : s.TypeIs self T)
    (hb : entryFor table id = some b) (ha : argsOk id ⟨self :: rest, []⟩) (ho : okCode (.builtin id ⟨self :: rest, []⟩) = true)
    (hc : wpR (model prog w) A.in1 (b ⟨self :: rest, []⟩) (fun fin s' => ∃ f, fin = .done f ∧ R (.ok f) s') (fun e s' => R (.error e) s') s) :
    codeR (model prog w) A (.call (.builtin id) ⟨self :: rest, []⟩) R s := by
  refine codeR_of_tree rfl ?_
  show wpR _ A.in1 (do checkBuiltinCall id ⟨self :: rest, []⟩; again (.builtin id ⟨self :: rest, []⟩)) _ _ s
  refine wpR_bindA (h.check _ _ _ _ _ _ _ _ hT ha (wpR_pure ⟨plainId_quiet h.plain _, codeR_of_tree ho ?_⟩))
  rw [Around.under_plainId h.plain _]
  show wpR _ _ (match entryFor table id with | some b => b ⟨self :: rest, []⟩ | none => unsupported ((withoutEnding? id "#data").getD id)) _ _ s
  rw [hb]
  refine wpR_mono hc (fun fin s' h' => ?_) fun _ _ x => x
  (refine ex1 (h') fun f hE9 => an2 hE9 ?_; clear hE9; rintro rfl h')
  exact h'

theorem ba_inst {a : Addr} {b : Array UInt8} {x : String} {Q : Bool → Shared → Prop} {M : Model} (hx : x = "bytearray") (h : s.heap.get? a = some (baOf b)) (hQ : Q true s) : wpAny M A (isInstance (.ref a) (.type x)) Q E s := by
  subst hx
  exact wpAny_isInstance (ba_type h) BA.sub hQ
theorem ba_own {a : Addr} {b : Array UInt8} {Q : Bool → Shared → Prop} {M : Model} (h : s.heap.get? a = some (baOf b)) (hQ : Q false s) : wpAny M A (Builtin.Bytes.ownRelease (.ref a)) Q E s := by
  unfold Builtin.Bytes.ownRelease Builtin.Bytes.slotIsOwn
  refine wpAny_bind (wpAny_bind (wpAny_specialOf (ba_type h) BA.rel_bytearray ?_))
  refine bm_if_false (by decide +kernel) ?_
  exact ba_inst (by decide +kernel) h (wpAny_pure hQ)

theorem ba_payload {a : Addr} {b : Array UInt8} {Q : Array UInt8 → Shared → Prop} {M : Model} (h : s.heap.get? a = some (baOf b)) (hQ : Q b s) : wpAny M A (Builtin.Bytes.payload (.ref a)) Q E s := by
  unfold Builtin.Bytes.payload Builtin.Bytes.payload?
  exact wpAny_bind (wpAny_bind (wpAny_load h (wpAny_pure (wpAny_pure hQ))))

theorem ba_exported {a : Addr} {Q : Bool → Shared → Prop} (hg : A.guards = some []) (hQ : Q false s) : wpR (model prog w) A (Builtin.Bytes.exported (.ref a)) Q E s := by
  unfold Builtin.Bytes.exported
  refine wpR_stackAny hg (fun c p hc ho => ?_) hQ
  cases c with
  | builtin id args =>
    by_cases h1 : id = "bytearray.__contains__"
    · subst h1; exact absurd hc (by rw [BA.guard]; decide +kernel)
    by_cases h2 : id = "bytearray.__mod__"
    · subst h2; exact absurd hc (by rw [BA.guard]; decide +kernel)
    by_cases h3 : id = "bytearray.__rmod__"
    · subst h3; exact absurd hc (by rw [BA.guard]; decide +kernel)
    by_cases h4 : id = "_struct.pack_into.held"
    · subst h4; exact absurd hc (by rw [BA.guard]; decide +kernel)
    by_cases h5 : id = "bytearray.find.held"
    · subst h5; exact absurd hc (by rw [BA.guard]; decide +kernel)
    refine hide fun G9 k9 => ?_
    obtain ⟨pos, kw⟩ := args
    refine k9 ?_
    clear k9 G9
    have h0 : Builtin.Bytes.decodersThatHold.contains id = false := by simpa [okCode] using ho
    delta Builtin.Bytes.exported.match_1
    with_reducible (conv => lhs; whnf)
    rw [dif_neg h1, dif_neg h2, dif_neg h3, dif_neg h4, dif_neg h5]
    cases pos with
    | nil => rfl
    | cons v t =>
      show (Builtin.Bytes.sameRef v (.ref a) && _) = false
      rw [h0, Bool.and_false]
  | _ => rfl
theorem ba_exports {a : Addr} {b : Array UInt8} {Q : Nat → Shared → Prop} {M : Model} (h : s.heap.get? a = some (baOf b)) (hQ : Q 0 s) : wpAny M A (Builtin.Bytes.exportsOf (.ref a)) Q E s := by
  unfold Builtin.Bytes.exportsOf
  exact wpAny_bind (wpAny_load h (wpAny_pure hQ))

theorem ba_check {a : Addr} {b : Array UInt8} {Q : Unit → Shared → Prop} (hg : A.guards = some []) (h : s.heap.get? a = some (baOf b)) (hQ : Q () s) : wpR (model prog w) A (Builtin.Bytes.checkResize (.ref a)) Q E s := by
  unfold Builtin.Bytes.checkResize
  refine wpR_bind (wpR_bind (ba_exported hg ?_))
  refine wpR_of (wpAny_bind (ba_exports h (wpAny_pure ?_)))
  exact wpR_pure hQ

theorem ba_write {a : Addr} {b : Array UInt8} {f : Array UInt8 → Array UInt8} {Q : Unit → Shared → Prop} {M : Model} (h : s.heap.get? a = some (baOf b)) (hz : (f b).size ≤ sizeLine)
    (hQ : ∀ h', h'.get? a = some (baOf (f b)) → Heap.SameBut a s.heap h' → Q () { s with heap := h' }) : wpAny M A (Builtin.Bytes.write (.ref a) f) Q E s := by
  show wpAny _ _ (updateBytearray a f) _ _ _
  unfold updateBytearray
  refine wpAny_bind (wpAny_load h ?_)
  show wpAny _ _ (update a (Obj.mapBytearray f) >>= fun _ => lookBehind a) _ _ _
  refine wpAny_bind (wpAny_update h ?_)
  have h2 : (s.heap.update a (Obj.mapBytearray f)).get? a = some (baOf (f b)) := Heap.get?_update_self (Obj.mapBytearray f) h rfl
  refine wpAny_lookBehind h2 ?_ (hQ _ h2 (Heap.SameBut.update ..))
  show (if (f b).size > sizeLine then some "bytearray:memory" else none) = none
  rw [if_neg (by omega)]

theorem bytes_inst {v : Value} {x : String} {Q : Bool → Shared → Prop} {M : Model} (hx : x = "bytes") (h : s.TypeIs v "bytes") (hQ : Q true s) : wpAny M A (isInstance v (.type x)) Q E s := by
  subst hx
  exact wpAny_isInstance h F.bm_sub hQ

theorem ba_append {a : Addr} {b : Array UInt8} {n : Int} {t : Tok} {Q : Value → Shared → Prop} (hg : A.guards = some []) (h : s.heap.get? a = some (baOf b)) (hn : 0 ≤ n) (hn2 : n < 256) (hz : b.size < sizeLine)
    (hQ : ∀ h', h'.get? a = some (baOf (b.push n.toNat.toUInt8)) → Heap.SameBut a s.heap h' → Q .none { s with heap := h' }) :
    wpR (model prog w) A (call (.builtin "bytearray.append") [.ref a, .int n t]) Q E s := by
  refine wpR_call (codeR_slot BA.slot_append (ba_type h) BA.entry_append (BA.args_append _ _) BA.ok_append ?_)
  unfold Builtin.«bytearray.append»
  refine wpR_bindA (wpAny_of_eq (a := (Value.ref a, Value.int n t)) rfl ?_)
  refine wpR_bindA ?_
  unfold Builtin.Bytes.byteValue
  refine wpAny_bind (wpAny_of_eq (rfl : asIndex (.int n t) = pure n) ?_)
  refine bm_if_false (by simp only [Bool.or_eq_false_iff, decide_eq_false_iff_not]; omega) ?_
  refine wpAny_pure (wpR_bind (ba_check hg h (wpR_bindA (ba_write h (by rw [Array.size_push]; omega) fun h' e k => ?_))))
  exact wpR_of (wpAny_pure ⟨_, rfl, hQ h' e k⟩)

theorem ba_extend {a : Addr} {b c : Array UInt8} {t : Tok} {Q : Value → Shared → Prop} (hg : A.guards = some []) (h : s.heap.get? a = some (baOf b)) (hz : b.size + c.size ≤ sizeLine)
    (hQ : ∀ h', h'.get? a = some (baOf (b ++ c)) → Heap.SameBut a s.heap h' → Q .none { s with heap := h' }) :
    wpR (model prog w) A (call (.builtin "bytearray.extend") [.ref a, .bytes c t]) Q E s := by
  have hB : s.TypeIs (.bytes c t) "bytes" := typeIs_bytes _ _ _
  refine wpR_call (codeR_slot BA.slot_extend (ba_type h) BA.entry_extend (BA.args_extend _ _) BA.ok_extend ?_)
  unfold Builtin.«bytearray.extend»
  refine wpR_bindA (wpAny_of_eq (a := (Value.ref a, Value.bytes c t)) rfl ?_)
  refine wpR_bindA (wpAny_specialOf hB BA.buf_bytes ?_)
  show wpR _ _ (if true = true then _ else _) _ _ _
  rw [if_pos rfl]
  refine wpR_bindA (wpAny_rule (wpR_bindA (ba_payload h (wpR_bindA ?_))))
  have hown : ∀ {M : Model} {A : Around} {E : Value → Shared → Prop} {Q : Bool → Shared → Prop}, Q true s → wpAny M A (Builtin.Bytes.slotIsOwn (.bytes c t) "__buffer__") Q E s := fun hq => by
    unfold Builtin.Bytes.slotIsOwn
    refine wpAny_bind (wpAny_specialOf hB BA.buf_bytes ?_)
    refine bm_if_false (by decide +kernel) ?_
    exact bytes_inst (by decide +kernel) hB hq
  unfold Builtin.Bytes.takeBufferQuiet?
  refine wpAny_bind (wpAny_attempt ?_)
  unfold Builtin.Bytes.takeBuffer?
  refine wpAny_bind (wpAny_specialOf hB BA.buf_bytes ?_)
  refine wpAny_bind (hown ?_)
  refine bm_if_false rfl ?_
  refine wpAny_bind (wpAny_specialOf hB BA.buf_bytes ?_)
  refine wpAny_bind ?_
  unfold Builtin.Bytes.buffer?
  refine wpAny_bind (wpAny_specialOf hB BA.buf_bytes ?_)
  refine wpAny_bind (hown ?_)
  refine bm_if_false rfl ?_
  refine wpAny_bind (wpAny_specialOf hB BA.buf_bytes ?_)
  refine wpAny_bind ?_
  unfold Builtin.Bytes.ownRelease
  refine wpAny_bind ?_
  unfold Builtin.Bytes.slotIsOwn
  refine wpAny_bind (wpAny_specialOf hB BA.rel_bytes ?_)
  refine wpAny_pure (wpAny_pure ?_)
  refine bm_if_false rfl ?_
  refine wpAny_bind (wpAny_of_eq (rfl : Builtin.Bytes.payload (.bytes c t) = pure c) ?_)
  refine wpAny_pure (wpAny_pure ?_)
  refine wpAny_pure ?_
  show wpR _ _ (if true = true then _ else _) _ _ _
  rw [if_pos rfl]
  have fin : wpR (model prog w) A.in1 (do Builtin.Bytes.write (.ref a) (· ++ c); ret .none) (fun fin s' => ∃ f, fin = .done f ∧ wants Q E (.ok f) s') (fun e s' => wants Q E (.error e) s') s :=
    wpR_bindA (ba_write h (by rw [Array.size_append]; exact hz) fun h' e k => wpR_of (wpAny_pure ⟨_, rfl, hQ h' e k⟩))
  show wpR _ _ (if (!c.isEmpty) = true then _ else _) _ _ _
  cases hc : c.isEmpty with
  | true => exact fin
  | false => exact wpR_bind (ba_check hg h fin)

theorem ba_code_new {Q₁ : Value → Shared → Prop} (h : Q₁ (.ref s.heap.objs.size) { s with heap := s.heap.push (baOf #[]) }) :
    codeAny (model prog w) A (.call (.builtin "bytearray.__new__") ⟨[.type "bytearray"], []⟩) (wants Q₁ E) s := by
  refine codeAny_of_tree ?_
  show wpAny _ A.in1 (do checkBuiltinCall "bytearray.__new__" ⟨[.type "bytearray"], []⟩; again (.builtin "bytearray.__new__" ⟨[.type "bytearray"], []⟩)) _ _ s
  refine wpAny_bind (wpAny_of_eq BA.newCall (wpAny_pure ⟨plainId_quiet BA.plain_new _, codeAny_builtin_stack BA.entry_new rfl fun p st => ?_⟩))
  rw [Around.under_plainId BA.plain_new _]
  have hsub := BA.sub
  have hown := BA.owner_new
  (refine hide fun G9 k9 => ?_; obtain ⟨hp, g, d, tk, os⟩ := s; refine k9 ?_; clear k9 G9)
  simp only [hown]
  wp_walk
  exact h

end
end
section -- KT2
open Sem (wp)

section
variable {prog : Program} {w : World} {A : Around} {E : Value → Shared → Prop} {s : Shared}
theorem codeR_builtin {id : String} {args : Args} {b : Builtin} {R : Result → Shared → Prop} (hb : entryFor table id = some b) (ho : okCode (.builtin id args) = true)
    (h : wpR (model prog w) (A.under (.builtin id args)) (b args) (fun fin s' => match fin with | .done f => R (.ok f) s' | .again c' => c'.quiet = true ∧ codeR (model prog w) A c' R s') (fun e s' => R (.error e) s') s) :
    codeR (model prog w) A (.builtin id args) R s := by
  refine codeR_of_tree ho ?_
  have e : (model prog w).den (.builtin id args) = b args := by
    show (match entryFor table id with | some b => b args | none => unsupported ((withoutEnding? id "#data").getD id)) = _
    rw [hb]
  rw [e]
  exact h
theorem ba_new {Q : Value → Shared → Prop} (hg : A.guards = some [])
    (hQ : ∀ h', h'.get? s.heap.objs.size = some (baOf #[]) → Heap.SameBut s.heap.objs.size (s.heap.push (baOf #[])) h' → Q (.ref s.heap.objs.size) { s with heap := h' }) :
    wpR (model prog w) A (call (.type "bytearray") []) Q E s := by
  refine wpR_call (codeR_of_tree rfl ?_)
  show wpR _ _ (callAny (.type "bytearray") _) _ _ _
  refine wpR_pure ⟨Code.quiet_builtin _ (by decide +kernel), codeR_builtin F.entry_type_call BA.ok_call ?_⟩
  rw [Around.under_plain (weight_type_call_type "bytearray" [] []) (units_type_call_type "bytearray" [] [])]
  unfold Builtin.«type.__call__»
  refine wpR_bindA (m := checkTypeCall "bytearray" ⟨[], []⟩) ?_
  refine wpAny_of_eq BA.typeCall ?_
  refine wpR_bindA (wpAny_of_eq BA.mro ?_)
  show wpR _ _ (if false = true then _ else _) _ _ _
  rw [if_neg Bool.false_ne_true]
  refine wpR_bindA (wpAny_of_eq BA.called.made ?_)
  refine wpR_bindA (wpAny_pure ?_)
  have h0 : ({ s with heap := s.heap.push (baOf #[]) } : Shared).heap.get? s.heap.objs.size = some (baOf #[]) := Heap.get?_push_size _ rfl
  refine wpR_bindA (wpAny_holding (wpAny_call (ba_code_new ?_)))
  refine wpR_bindA (wpAny_isInstance (ba_type h0) BA.sub ?_)
  show wpR _ _ (if false = true then _ else _) _ _ _
  rw [if_neg Bool.false_ne_true]
  refine wpR_bind (wpR_holding ?_)
  unfold callSpecial?
  refine wpR_bindA (wpAny_specialOf (ba_type h0) BA.slot_init.lookup ?_)
  refine wpR_holding (wpR_bindA (wpAny_of_eq (BA.slot_init.bind _) ?_))
  refine wpR_bind (wpR_call (codeR_slot BA.slot_init (ba_type h0) BA.entry_init (BA.args_init _) BA.ok_init ?_))
  unfold Builtin.«bytearray.__init__»
  refine wpR_bindA (ba_own h0 ?_)
  show wpR _ _ (if false = true then _ else _) _ _ _
  rw [if_neg Bool.false_ne_true]
  refine wpR_bindA (wpAny_of_eq BA.bind_init ?_)
  refine wpR_bindA (wpAny_of_eq (a := ()) rfl ?_)
  refine wpR_bindA (wpAny_of_eq (a := ()) rfl ?_)
  refine wpR_bind (wpR_bind (ba_exported hg ?_))
  refine wpR_of (wpAny_bind (ba_exports h0 (wpAny_pure ?_)))
  show wpR _ _ (if false = true then _ else _) _ _ _
  rw [if_neg Bool.false_ne_true]
  refine wpR_bindA (ba_write h0 (Nat.zero_le _) fun h' e k => ?_)
  refine wpR_of ?_
  first
    | exact wpAny_pure ⟨_, rfl, wpR_pure (wpR_pure (hQ h' e k))⟩
    | exact wpAny_bind (wpAny_pure (wpAny_pure ⟨_, rfl, wpR_pure (wpR_pure (hQ h' e k))⟩))
    | trace_state
end
end
section -- KT3
open Sem (wp)
namespace BA
theorem slot_len : Slot "bytearray" "__len__" "bytearray.__len__" :=
  .of (owner := "bytearray") (n := "__len__") (by rw [typeLookup_type, builtinLookup_eq_fast]; kernel_rfl) (by decide +kernel) (by decide +kernel) (by decide +kernel)
    (by first | exact .inl (by decide +kernel) | exact .inr (by decide +kernel)) (by rw [isSubtype_type]; kernel_rfl)
theorem entry_len : entryFor table "bytearray.__len__" = some Builtin.«bytearray.__len__» := entryFor_of_tree (by kernel_rfl)
theorem args_len (a : Value) : argsOk "bytearray.__len__" ⟨[a], []⟩ := by unfold argsOk; kernel_rfl
theorem no_bytes : typeLookup (.type "bytearray") "__bytes__" = pure none := by rw [typeLookup_type, builtinLookup_eq_fast]; kernel_rfl
theorem noIndex : typeLookup (.type "bytearray") "__index__" = pure none := by rw [typeLookup_type, builtinLookup_eq_fast]; kernel_rfl
theorem buf : typeLookup (.type "bytearray") "__buffer__" = pure (some (.builtin "bytearray.__buffer__")) := by rw [typeLookup_type, builtinLookup_eq_fast]; kernel_rfl
theorem bytes_bytes : typeLookup (.type "bytes") "__bytes__" = pure (some (.builtin "bytes.__bytes__")) := by rw [typeLookup_type, builtinLookup_eq_fast]; kernel_rfl
end BA
section
variable {prog : Program} {w : World} {A : Around} {E : Value → Shared → Prop} {s : Shared}
theorem ba_len {a : Addr} {b : Array UInt8} {Q : Value → Shared → Prop} (hl : s.heap.get? a = some (baOf b)) (hz : b.size < 2 ^ 60)
    (h : Q (.int b.size (s.toks + 1)) { s with toks := s.toks + 1 + 1 }) : wpAny (model prog w) A (call (.builtin "len") [.ref a]) Q E s := by
  refine call_function_entry kind_len plain_len entry_len (args_len1 _) ?_
  unfold Builtin.«len»
  refine wpAny_bind (m := oneArg "len" _) (wpAny_pure ?_)
  refine wpAny_bind (m := callSpecial? (.ref a) (Str.ofString "__len__")) (wpAny_callSpecial?_slot (name := Str.ofString "__len__") (ba_type hl) BA.slot_len
    (wpAny_call_entry BA.slot_len (ba_type hl) BA.entry_len ?_ (BA.args_len _)))
  show wpAny _ _ (do retInt (← Builtin.Bytes.payload (.ref a)).size) _ _ s
  refine wpAny_bind (ba_payload hl ?_)
  refine wpAny_bind (wpAny_mkInt (wpAny_pure ⟨_, rfl, ?_⟩))
  show wpAny _ _ _ _ _ { s with toks := s.toks + 1 }
  refine wpAny_bind (wpAny_holding (wpAny_pure ?_))
  refine wpAny_bind (wpAny_letGo ?_)
  show wpAny _ _ (if (b.size : Int) < 0 then _ else _) _ _ _
  rw [if_neg (by omega)]
  show wpAny _ _ (if (b.size : Int) ≥ 2 ^ 63 then _ else _) _ _ _
  rw [if_neg (by omega)]
  exact wpAny_bind (wpAny_mkInt (wpAny_pure ⟨_, rfl, h⟩))

theorem bytes_call {v : Value} {r : Nat → Value} {k : Nat → Nat} {Q : Value → Shared → Prop}
    (hnew : ∀ (A : Around) (R : Result → Shared → Prop), R (.ok (.ret (r s.toks))) { s with toks := k s.toks } → wpAny (model prog w) A.in1 (Builtin.«bytes.__new__» ⟨[.type "bytes", v], []⟩)
      (fun fin s' => match fin with | .done f => R (.ok f) s' | .again c' => c'.quiet = true ∧ codeAny (model prog w) A c' R s') (fun e s' => R (.error e) s') s)
    (hT : ∀ (s' : Shared), s'.TypeIs (r s.toks) "bytes")
    (hQ : Q (r s.toks) { s with toks := k s.toks }) : wpAny (model prog w) A (call (.type "bytes") [v]) Q E s := by
  refine callType_codes (Q₁ := fun obj s₁ => s₁.TypeIs obj "bytes" ∧ Q obj s₁) F.bm_called (F.bm_typeCall _) F.entry_object_init ?_ fun obj s₁ h₁ => ?_
  · refine codeAny_of_tree ?_
    show wpAny _ _ (do checkBuiltinCall "bytes.__new__" ⟨[.type "bytes", v], []⟩; again (.builtin "bytes.__new__" ⟨[.type "bytes", v], []⟩)) _ _ s
    refine wpAny_bind (wpAny_of_eq (F.bm_newCall _) (wpAny_pure ⟨plainId_quiet F.bm_plain _, codeAny_builtin F.bm_entry ?_⟩))
    rw [Around.under_plainId F.bm_plain _]
    exact hnew _ _ ⟨hT _, hQ⟩
  · exact ⟨h₁.1, F.args_object_init_2 obj _, object_init_meets F.bm_called.init.lookup F.bm_called.made (by decide) prog w A.in1 _ s₁ ⟨h₁.1, rfl, h₁.2⟩⟩

/-- bytes of bytes are these bytes -/
theorem bytes_of_bytes {c : Array UInt8} {t : Tok} {Q : Value → Shared → Prop} (hQ : Q (.bytes c t) s) : wpAny (model prog w) A (call (.type "bytes") [.bytes c t]) Q E s := by
  refine bytes_call (r := fun _ => .bytes c t) (k := id) (fun A R hR => ?_) (fun _ => typeIs_bytes _ _ _) hQ
  have hT : s.TypeIs (.bytes c t) "bytes" := typeIs_bytes _ _ _
  unfold Builtin.«bytes.__new__»
  refine wpAny_bind (wpAny_of_eq (a := true) rfl ?_)
  refine bm_if_false rfl ?_
  refine wpAny_bind (wpAny_of_eq F.bm_sub ?_)
  refine bm_if_false rfl ?_
  refine wpAny_bind (wpAny_of_eq (F.bm_bind _) ?_)
  refine wpAny_bind (wpAny_of_eq (a := ()) rfl ?_)
  refine wpAny_bind (wpAny_of_eq (a := ()) rfl ?_)
  refine bm_if_false rfl ?_
  refine wpAny_bind (wpAny_specialOf hT BA.bytes_bytes ?_)
  refine wpAny_bind (wpAny_rule (wpAny_bind (wpAny_typeOf hT ?_)))
  refine bm_if_true (by decide) ?_
  refine bm_if_true (by decide) ?_
  first
    | exact wpAny_pure hR
    | exact hR
    | refine wpAny_bind (wpAny_pure (wpAny_pure hR))
    | trace_state

/-- bytes of a bytearray -/
theorem bytes_of_ba {a : Addr} {b : Array UInt8} {Q : Value → Shared → Prop} (hl : s.heap.get? a = some (baOf b)) (hz : b.size ≤ sizeLine)
    (hQ : Q (.bytes b s.toks) { s with toks := s.toks + 1 }) : wpAny (model prog w) A (call (.type "bytes") [.ref a]) Q E s := by
  refine bytes_call (r := fun t => .bytes b t) (k := fun t => t + 1) (fun A R hR => ?_) (fun _ => typeIs_bytes _ _ _) hQ
  have hT := ba_type hl
  unfold Builtin.«bytes.__new__»
  refine wpAny_bind (wpAny_of_eq (a := true) rfl ?_)
  refine bm_if_false rfl ?_
  refine wpAny_bind (wpAny_of_eq F.bm_sub ?_)
  refine bm_if_false rfl ?_
  refine wpAny_bind (wpAny_of_eq (F.bm_bind _) ?_)
  refine wpAny_bind (wpAny_of_eq (a := ()) rfl ?_)
  refine wpAny_bind (wpAny_of_eq (a := ()) rfl ?_)
  refine bm_if_false rfl ?_
  refine wpAny_bind (wpAny_specialOf hT BA.no_bytes ?_)
  refine wpAny_bind (wpAny_bind ?_)
  show wpAny _ _ (load a >>= _) _ _ _
  refine wpAny_bind (wpAny_load hl ?_)
  refine wpAny_pure (wpAny_pure ?_)
  refine bm_if_false rfl ?_
  refine wpAny_bind (wpAny_specialOf hT BA.noIndex ?_)
  refine bm_if_true rfl ?_
  have hown : ∀ {M : Model} {A : Around} {E : Value → Shared → Prop} {Q : Bool → Shared → Prop}, Q true s → wpAny M A (Builtin.Bytes.slotIsOwn (.ref a) "__buffer__") Q E s := fun hq => by
    unfold Builtin.Bytes.slotIsOwn
    refine wpAny_bind (wpAny_specialOf hT BA.buf ?_)
    refine bm_if_false (by decide +kernel) ?_
    exact ba_inst (by decide +kernel) hl hq
  have key : ∀ {M : Model} {A : Around} {E : Value → Shared → Prop} {Q : Option (Array UInt8) → Shared → Prop}, Q (some b) s → wpAny M A (Builtin.Bytes.buffer? "bytes.__new__" (.ref a) true) Q E s := fun hq => by
    unfold Builtin.Bytes.buffer?
    refine wpAny_bind (wpAny_specialOf hT BA.buf ?_)
    refine wpAny_bind (hown ?_)
    refine bm_if_false rfl ?_
    refine wpAny_bind (wpAny_specialOf hT BA.buf ?_)
    refine wpAny_bind (ba_own hl ?_)
    refine bm_if_false rfl ?_
    exact wpAny_bind (ba_payload hl (wpAny_pure hq))
  show wpAny _ _ (Builtin.Bytes.buffer? "bytes.__new__" (.ref a) true >>= _) _ _ _
  refine wpAny_bind (key ?_)
  refine wpAny_bind (wpAny_rule (wpAny_bind (wpAny_mkBytes ?_ hz)))
  refine bm_if_true (by decide) ?_
  first
    | exact wpAny_pure hR
    | exact hR
    | refine wpAny_bind (wpAny_pure (wpAny_pure hR))
    | trace_state
end
end
section -- KE3
theorem picked_run (l : List UInt8) (k n : Nat) (h : k + n ≤ l.length) : KBy.picked l.toArray (some (k : Int)) (some ((k + n : Nat) : Int)) = ((l.drop k).take n).toArray := by
  unfold KBy.picked Builtin.Bytes.sliced
  rw [sliceBounds_plain]
  simp only [Option.elim, clipAt_nat, List.size_toArray, sliceRange_one, Nat.min_eq_left h, Nat.min_eq_left (show k ≤ l.length by (with_reducible exact s30 (by assumption)))]
  rw [pick_run l.toArray k (k + n - k), Nat.add_sub_cancel_left]
theorem whole_not (l : List UInt8) (k n : Nat) (h : k + n ≤ l.length) (h0 : 0 < k) : KBy.whole l.toArray (some (k : Int)) (some ((k + n : Nat) : Int)) = false := by
  unfold KBy.whole
  rw [sliceBounds_plain]
  simp only [Option.elim, clipAt_nat, List.size_toArray, Nat.min_eq_left h, Nat.min_eq_left (show k ≤ l.length by (with_reducible exact s30 (by assumption)))]
  have : (((k : Nat) : Int) == 0) = false := by simp; omega
  simp [this]
theorem picked_int (l : List UInt8) (k n : Int) (h0 : 0 < k) (h1 : 0 ≤ n) (h : k + n ≤ l.length) : KBy.picked l.toArray (some k) (some (k + n)) = ((l.drop k.toNat).take n.toNat).toArray := by
  have := picked_run l k.toNat n.toNat (by (with_reducible exact s12 (by assumption) (by assumption) (by assumption)))
  rw [← this]
  congr 2 <;> (first | (with_reducible exact s6 (by assumption)) | (with_reducible exact s11 (by assumption) (by assumption)))
theorem whole_int (l : List UInt8) (k n : Int) (h0 : 0 < k) (h1 : 0 ≤ n) (h : k + n ≤ l.length) : KBy.whole l.toArray (some k) (some (k + n)) = false := by
  have := whole_not l k.toNat n.toNat (by (with_reducible exact s12 (by assumption) (by assumption) (by assumption))) (by omega)
  rw [← this]
  congr 2 <;> (first | (with_reducible exact s6 (by assumption)) | (with_reducible exact s11 (by assumption) (by assumption)))
end
section -- KE4
/-- a goal that the walker leaves alone -/
def Hold (P : Prop) : Prop := P
theorem hold {P : Prop} (h : Hold P) : P := h
/-- how a turn ends that goes on -/
def TurnedW (g : Heap) (L : Addr) (J : (Str → Option Value) → List (Addr × Obj) → Prop) (s : Shared) (f : Flow) (s₂ : Shared) : Prop :=
  f = .next ∧ ∃ h tk m' news', s₂ = { s with heap := h, toks := tk } ∧ Fr g L h m' ∧ News g L h news' ∧ J m' news'
def TurnedF (g : Heap) (L I : Addr) (o : Obj) (J : (Str → Option Value) → List (Addr × Obj) → Prop) (s : Shared) (f : Flow) (s₂ : Shared) : Prop :=
  f = .next ∧ ∃ h tk m' news', s₂ = { s with heap := h, toks := tk } ∧ Fr g L h m' ∧ News g L h ((I, o) :: news') ∧ (∀ q ∈ news', q.1 ≠ I) ∧ J m' news'
section
variable {prog : Program} {w : World} {A : Around} {E : Value → Shared → Prop} {s : Shared} {g : Heap} {L : Addr} {m : Str → Option Value} {news : List (Addr × Obj)} {env : Env}
theorem TurnedW.intro {J : (Str → Option Value) → List (Addr × Obj) → Prop} {h : Heap} {tk : Nat} {all : List (Addr × Obj)} (F : Fr g L h m) (N : News g L h all) (news' : List (Addr × Obj)) (m' : Str → Option Value) (hs : ∀ q ∈ news', q ∈ all) (hm : ∀ y, m y = m' y) (hJ : J m' news') :
    TurnedW g L J s .next { s with heap := h, toks := tk } := ⟨rfl, h, tk, m', news', rfl, (funext hm : m = m') ▸ F, fun q hq => N q (hs q hq), hJ⟩
theorem TurnedF.intro {J : (Str → Option Value) → List (Addr × Obj) → Prop} {h : Heap} {tk : Nat} {I : Addr} {o : Obj} {all : List (Addr × Obj)} (F : Fr g L h m) (N : News g L h all) (news' : List (Addr × Obj)) (m' : Str → Option Value) (hs : ∀ q ∈ (I, o) :: news', q ∈ all) (off : ∀ q ∈ news', q.1 ≠ I) (hm : ∀ y, m y = m' y) (hJ : J m' news') :
    TurnedF g L I o J s .next { s with heap := h, toks := tk } := ⟨rfl, h, tk, m', news', rfl, (funext hm : m = m') ▸ F, fun q hq => N q (hs q hq), off, hJ⟩
/-- a while over the ledger: J counts down; no exception comes -/
theorem whileLoop {test : PySem.Expr} {body : List Stmt} {pos : Pos} {Q : Flow → Shared → Prop} (J : Nat → (Str → Option Value) → List (Addr × Obj) → Prop) (i : Nat)
    (F : Fr g L s.heap m) (N : News g L s.heap news) (h0 : J i m news)
    (step : ∀ i m news h tk, J (i + 1) m news → Fr g L h m → News g L h news →
      wpAny (model prog w) A (isTrue test env (eval test env)) (fun b s₂ => if b then wpAny (model prog w) A (execs body env) (TurnedW g L (J i) s) (fun _ _ => False) s₂ else False) (fun _ _ => False) { s with heap := h, toks := tk })
    (fin : ∀ m news h tk, J 0 m news → Fr g L h m → News g L h news →
      wpAny (model prog w) A (isTrue test env (eval test env)) (fun b s₂ => if b then False else Q .next s₂) (fun _ _ => False) { s with heap := h, toks := tk }) :
    wpAny (model prog w) A (exec (.While test body [] pos) env) Q E s := by
  refine wpAny_While (codeAny_mono (R := fun r s' => match r with | .ok f => Q f s' | .error _ => False) ?_ fun r s' x => by cases r <;> first | exact x | exact x.elim)
  refine codeAny_whileLoop (fun n s₁ => ∃ m news h tk, s₁ = { s with heap := h, toks := tk } ∧ J n m news ∧ Fr g L h m ∧ News g L h news) (fun n s₁ hI => ?_) i ⟨m, news, _, _, rfl, h0, F, N⟩
  (refine ex4 (hI) fun m₁ news₁ h tk hE9 => an4 hE9 ?_; clear hE9; rintro rfl hJ F₁ N₁; (try clear hI))
  cases n with
  | zero =>
    refine wpAny_mono (fin m₁ news₁ h tk hJ F₁ N₁) (fun b s₂ x => ?_) fun _ _ x => x.elim
    cases b with
    | true => exact x.elim
    | false => exact wpAny_execs_nil x
  | succ n =>
    refine wpAny_mono (step n m₁ news₁ h tk hJ F₁ N₁) (fun b s₂ x => ?_) fun _ _ x => x.elim
    cases b with
    | false => exact absurd x (by simp)
    | true =>
      refine wpAny_mono x (fun f s₃ y => ?_) fun _ _ y => y.elim
      (refine hide fun G9 k9 => ?_; obtain ⟨rfl, h', tk', m', news', rfl, F', N', J'⟩ := y; refine k9 ?_; clear k9 G9)
      exact ⟨n, Nat.lt_succ_self n, m', news', h', tk', rfl, J', F', N'⟩
/-- a for over the ledger -/
theorem forW {x : Str} {body : List Stmt} {Q : Flow → Shared → Prop} {I : Addr} {fp : List Addr} {n : Nat} {P : Nat → Value → Prop} {St : Nat → Heap → Prop} (W : Walks prog w A I fp [I] n P St)
    (J : Nat → (Str → Option Value) → List (Addr × Obj) → Prop) (hIL : I ≠ env.locals) (hIf : I ∈ fp) (hfp : ∀ b ∈ fp, b = I ∨ ∃ o, ∀ i m nw, J i m nw → (b, o) ∈ nw) (hgI : g.get? I = none) (off : ∀ p ∈ news, p.1 ≠ I) (hIo : ∀ i h, St i h → ∃ o, h.get? I = some o)
    (hst : St 0 s.heap) (F : Fr g env.locals s.heap m) (N : News g env.locals s.heap news) (h0 : J 0 m news)
    (step : ∀ i v m news o h tk, i < n → P i v → J i m news → (∀ q ∈ news, q.1 ≠ I) → Fr g env.locals h (fun z => if z = x then some v else m z) → News g env.locals h ((I, o) :: news) →
      wpAny (model prog w) A (execs body env) (TurnedF g env.locals I o (J (i + 1)) s) (fun _ _ => False) { s with heap := h, toks := tk })
    (fin : ∀ h tk m news, J n m news → Fr g env.locals h m → News g env.locals h news → Q .next { s with heap := h, toks := tk }) :
    LoopAtV prog w A g env x body Q E (.ref I) s := by
  refine ⟨I, fp, [I], n, P, St, m, news, J, rfl, W, fun hb => ?_, fun b hb => (List.mem_singleton.mp hb) ▸ hgI, fun p hp hb => off p hp (List.mem_singleton.mp hb), hst, F, N, h0, ?_, fun h' tk m' news' F' N' _ hJ => fin h' tk m' news' hJ F' N'⟩
  · rcases hfp _ hb with e | ⟨o, ho⟩
    · exact hIL e.symm
    · exact (N _ (ho _ _ _ h0)).2.1 rfl
  · intro i v m₁ news₁ s₁ own hJ9p6 hi hP hJ hoff hown hget hin hst₁ F₁ N₁
    (refine ex2 (hJ9p6) fun h tk hE9 => ?_; revert hE9; rintro rfl; (try clear hJ9p6))
    refine hide fun G9 k9 => ?_
    obtain ⟨o, ho⟩ := hIo _ _ hst₁
    refine k9 ?_
    clear k9 G9
    have hIo := hin I hIf hgI o ho
    refine wpAny_mono (step i v m₁ news₁ o h tk hi hP hJ (fun q hq e => hoff q hq (List.mem_singleton.mpr e)) F₁ (fun q hq => ?_)) (fun f s₃ y => ?_) fun _ _ y => y.elim
    · rcases List.mem_cons.mp hq with rfl | hq
      · exact N₁ _ (List.mem_append_left _ hIo)
      · exact N₁ _ (List.mem_append_right _ hq)
    · (refine hide fun G9 k9 => ?_; obtain ⟨rfl, h', tk', m', news', rfl, F', N', off', J'⟩ := y; refine k9 ?_; clear k9 G9)
      refine LoopStepV.ofU (LoopStepU.intro F' (fun q hq => ?_) (fun q hq e => off' q hq (List.mem_singleton.mp e)) J')
      rcases List.mem_append.mp hq with hq | hq
      · refine hide fun G9 k9 => ?_
        obtain ⟨b, ob⟩ := q
        refine k9 ?_
        clear k9 G9
        have e1 : h.get? b = some ob := hget _ hq
        rcases hfp _ (hown _ hq) with e | ⟨o', ho'⟩
        · have e : b = I := e
          subst e
          have ho : h.get? b = some o := ho
          rw [ho] at e1
          cases e1
          exact N' _ (.head _)
        · have e2 : h.get? b = some o' := (N₁ _ (List.mem_append_right own (ho' _ _ _ hJ))).1
          rw [e2] at e1
          cases e1
          exact N' _ (.tail _ (ho' _ _ _ J'))
      · exact N' _ (.tail _ hq)
theorem forList {x : Str} {body : List Stmt} {Q : Flow → Shared → Prop} (lv : Addr) (vs : List Value) (k : Nat) (J : Nat → (Str → Option Value) → List (Addr × Obj) → Prop) (hh : A.handled = none) (hLe : env.locals = L)
    (hJl : ∀ i m news, J i m news → (lv, listOf vs.toArray k) ∈ news)
    (F : Fr g L s.heap m) (N : News g L s.heap news) (h0 : J 0 m news)
    (step : ∀ i v m news I o h tk, vs[i]? = some v → J i m news → (∀ q ∈ news, q.1 ≠ I) → Fr g L h (fun z => if z = x then some v else m z) → News g L h ((I, o) :: news) →
      wpAny (model prog w) A (execs body env) (TurnedF g L I o (J (i + 1)) s) (fun _ _ => False) { s with heap := h, toks := tk })
    (fin : ∀ h tk m news, J vs.length m news → Fr g L h m → News g L h news → Q .next { s with heap := h, toks := tk }) :
    wpAny (model prog w) A (pyIter (.ref lv)) (fun it s₂ => LoopAtV prog w A g env x body Q E it s₂) E s := by
  subst hLe
  have hlN := N _ (hJl _ _ _ h0)
  refine wpAny_pyIter_list (items := vs.toArray) (News.isList N (hJl _ _ _ h0)) ?_
  have W0 : Walks prog w A s.heap.objs.size [s.heap.objs.size, lv] [s.heap.objs.size] vs.toArray.size _ _ := Walks.list hh s.heap.objs.size lv (Nat.ne_of_lt (Heap.lt_size hlN.1)) vs.toArray
  refine forW W0 J (Nat.ne_of_gt F.ns.lt) (.head _) (fun b hb => ?_) (next_is_new F) (fun p hp => Nat.ne_of_lt (Heap.lt_size (N p hp).1)) (fun i h st => let ⟨o, e, _⟩ := st.1; ⟨o, e⟩)
    ⟨⟨_, Heap.get?_push_size _ rfl, rfl, rfl⟩, (News.isList N (hJl _ _ _ h0)).push _⟩ (F.push _) (fun q hq => N.push F _ rfl q (.tail _ hq)) h0 ?_ ?_
  · rcases List.mem_cons.mp hb with rfl | hb
    · exact .inl rfl
    · exact .inr ⟨_, fun i m nw h => (List.mem_singleton.mp hb) ▸ hJl i m nw h⟩
  · intro i v m news o h tk hi hP hJ off F' N'
    exact step i v m news _ o h tk (by simpa using hP) hJ off F' N'
  · intro h tk m news hJ F' N'
    exact fin h tk m news (by simpa using hJ) F' N'
theorem forRange {x : Str} {body : List Stmt} {Q : Flow → Shared → Prop} {r : Addr} {a b : Int} {t₀ u₀ v₀ : Tok} (n : Nat) (J : Nat → (Str → Option Value) → List (Addr × Obj) → Prop) (hh : A.handled = none) (hLe : env.locals = L)
    (hr : IsRange s.heap r a b 1 t₀ u₀ v₀) (h1 : -1000000000000 ≤ a) (h2 : b ≤ 1000000000000) (hn : b = a + n)
    (F : Fr g L s.heap m) (N : News g L s.heap news) (h0 : J 0 m news)
    (step : ∀ i t m news I o h tk, i < n → J i m news → (∀ q ∈ news, q.1 ≠ I) → Fr g L h (fun z => if z = x then some (.int (a + (i : Int)) t) else m z) → News g L h ((I, o) :: news) →
      wpAny (model prog w) A (execs body env) (TurnedF g L I o (J (i + 1)) s) (fun _ _ => False) { s with heap := h, toks := tk })
    (fin : ∀ h tk m news, J n m news → Fr g L h m → News g L h news → Q .next { s with heap := h, toks := tk }) :
    wpAny (model prog w) A (pyIter (.ref r)) (fun it s₂ => LoopAtV prog w A g env x body Q E it s₂) E s := by
  subst hLe
  have hz : Builtin.Range.rangeSize a b 1 = ((n : Nat) : Int) := by rw [rangeSize_nat]; (with_reducible exact s9 (by assumption))
  refine wpAny_pyIter_range hr (small_one (by ((with_reducible refine i5 (by assumption) ?_); rfl)) (by (with_reducible exact s60 (by assumption) (by assumption))) (by (with_reducible exact s59 (by assumption) (by assumption))) (by ((with_reducible refine i3 (by assumption) ?_); rfl))) ?_
  refine forW (LCg.range_walks hh a n) J (Nat.ne_of_gt F.ns.lt) (.head _) (fun b hb => .inl (List.mem_singleton.mp hb)) (next_is_new F) (fun p hp => Nat.ne_of_lt (Heap.lt_size (N p hp).1)) (fun i h st => ⟨_, st⟩)
    (by show IsRangeIter _ _ _ _ _; rw [hz]; simpa using Heap.get?_push_size _ rfl) (F.push _) (fun q hq => N.push F _ rfl q (.tail _ hq)) h0 ?_ ?_
  · intro i v m news o h tk hi hJ9p8 hJ off F' N'
    refine hide fun G9 k9 => ?_
    obtain ⟨t, rfl⟩ := hJ9p8
    refine k9 ?_
    clear k9 G9
    exact step i t m news _ o h tk hi hJ off F' N'
  · intro h tk m news hJ F' N'
    exact fin h tk m news hJ F' N'
end
end
section -- KE5
/-- entering a def some of whose names lie in cells -/
theorem enterC {prog : Program} {w : World} {K : Frag} {p : Program} {loose : List Str} {mean : ExcName → Option Value} {mg mb : Str → Option Value} {h₀ : Heap}
    {A : Around} {s : Shared} {R : Result → Shared → Prop} {f : Addr} {args : Args} {binds : List (Str × Value)} {name qual : Str} {params : Arguments} {body : List Stmt} {scope : Scope} {dV kV doc pm cdv ct oc : Value} {an od : Option Addr} {osl : Array (Option Value)}
    (hid : List (Addr × Obj)) (X : K.In h₀) (T : Top p loose mean mg mb h₀) (st : h₀.StaysIn s.heap)
    (hh : ∀ q ∈ hid, s.heap.get? q.1 = some q.2 ∧ h₀.get? q.1 = none)
    (ho : K.lookup f = some ⟨oc, od, .func (fnOf name qual params body scope dV kV doc pm an cdv ct), osl⟩) (hcd : codeIn K cdv qual = true) (hroom : A.depth < recursionLimit)
    (hbind : BindsTo s (fnOf name qual params body scope dV kV doc pm an cdv ct) args binds) (hkind : (binds.all fun y => scope.names.lookup y.1 == some .local || scope.names.lookup y.1 == some .cell) = true)
    (hnd : ((cellsFrom 0 scope.names []).map (·.1)).Nodup)
    (h : ∀ g L' h₁ tk cells, h₀.StaysIn g → s.heap.objs.size ≤ L' → (∀ b o, s.heap.get? b = some o → b ∉ adrs hid → g.get? b = some o) → K.In g → Top p loose mean mg mb g →
      Fr g L' h₁ (bindL (envOfC qual scope L' f cdv).kindOf binds fun _ => none) → News g L' h₁ (cells ++ hid) → CellsAre (bindC (envOfC qual scope L' f cdv).kindOf binds fun _ => none) (cellsFrom (L' + 1) scope.names []) cells → (∀ q ∈ hid, q.1 < L') →
      wpAny (model prog w) (A.deeper (envOfC qual scope L' f cdv)) (execs body (envOfC qual scope L' f cdv))
        (fun fl s' => R (.ok (.ret (match fl with | .ret v => v | _ => .none))) s') (fun _ _ => False)
        { s with heap := h₁, toks := tk })
    (hco : scope.isCoroutine = false) (hgen : scope.isGenerator = false) (hk : scope.kind = .function) : codeAny (model prog w) A (.call (.ref f) args) R s := by
  have Xs : K.In s.heap := X.keeps st
  refine codeAny_call_function hroom (Xs _ _ ho) rfl hco hgen rfl (codeRec_of Xs hcd) (hbind _ _ _ _ ?_)
  refine wpAny_newFunctionEnv_cells hk (kindsX hkind _) fun env' he s' x => ?_
  subst he
  refine ⟨(T.nolimit.keeps st).keeps x.toInCall.keep, codeAny_func ?_⟩
  (refine ex2 (x.done) fun h₁ tk hE9 => an2 hE9 ?_; clear hE9; rintro rfl _)
  have hk₁ := x.toInCall.keep
  have st' : h₀.StaysIn (hideAll s.heap (adrs hid)) := fun b o e => hideAll_get _ (st b o e) fun q => by
    (refine ex1 (List.mem_map.mp q) fun p hE9 => an2 hE9 ?_; clear hE9; rintro hp rfl)
    rw [(hh p hp).2] at e; cases e
  refine hide fun G9 k9 => ?_
  obtain ⟨cells, NC, Y⟩ := Cl.news (h₀ := s.heap) (Nat.le_refl _) fun n c hm => ⟨x.cell n c (lookup_of_mem_nodup (cellsFrom_names scope.names 0 (s.heap.objs.size + 1) [] [] rfl ▸ hnd) hm), x.above n c hm⟩
  refine k9 ?_
  clear k9 G9
  refine wpAny_mono (h (hideAll s.heap (adrs hid)) s.heap.objs.size h₁ tk cells st' (Nat.le_refl _) (fun b o e n => hideAll_get _ e n) (X.keeps st') (T.keeps st')
    ⟨x.toInCall.ns, fun b o e => hk₁ b o (of_hideAll _ e), Nat.le_of_eq (hideAll_size _ _)⟩ (fun q hq => ?_) Y fun q hq => Heap.lt_size (hh q hq).1) (fun fl s' hl => hl) fun _ _ y => y.elim
  rcases List.mem_append.mp hq with hq | hq
  · refine ⟨(NC q hq).1, (NC q hq).2.1, ?_⟩
    cases e : (hideAll s.heap (adrs hid)).get? q.1 with
    | none => rfl
    | some o => have := of_hideAll _ e; rw [(NC q hq).2.2] at this; cases this
  · exact ⟨hk₁ _ _ (hh q hq).1, Nat.ne_of_lt (Heap.lt_size (hh q hq).1), hideAll_none _ (List.mem_map_of_mem hq)⟩

theorem enterRC {prog : Program} {w : World} {K : Frag} {p : Program} {loose : List Str} {mean : ExcName → Option Value} {mg mb : Str → Option Value} {h₀ : Heap}
    {A : Around} {s : Shared} {R : Result → Shared → Prop} {f : Addr} {args : Args} {binds : List (Str × Value)} {name qual : Str} {params : Arguments} {body : List Stmt} {scope : Scope} {dV kV doc pm cdv ct oc : Value} {an od : Option Addr} {osl : Array (Option Value)}
    (hid : List (Addr × Obj)) (X : K.In h₀) (T : Top p loose mean mg mb h₀) (st : h₀.StaysIn s.heap)
    (hh : ∀ q ∈ hid, s.heap.get? q.1 = some q.2 ∧ h₀.get? q.1 = none)
    (ho : K.lookup f = some ⟨oc, od, .func (fnOf name qual params body scope dV kV doc pm an cdv ct), osl⟩) (hcd : codeIn K cdv qual = true) (hroom : A.depth < recursionLimit)
    (hbind : BindsTo s (fnOf name qual params body scope dV kV doc pm an cdv ct) args binds) (hkind : (binds.all fun y => scope.names.lookup y.1 == some .local || scope.names.lookup y.1 == some .cell) = true)
    (hnd : ((cellsFrom 0 scope.names []).map (·.1)).Nodup)
    (h : ∀ g L' h₁ tk cells, h₀.StaysIn g → s.heap.objs.size ≤ L' → (∀ b o, s.heap.get? b = some o → b ∉ adrs hid → g.get? b = some o) → K.In g → Top p loose mean mg mb g →
      Fr g L' h₁ (bindL (envOfC qual scope L' f cdv).kindOf binds fun _ => none) → News g L' h₁ (cells ++ hid) → CellsAre (bindC (envOfC qual scope L' f cdv).kindOf binds fun _ => none) (cellsFrom (L' + 1) scope.names []) cells → (∀ q ∈ hid, q.1 < L') →
      wpR (model prog w) (A.deeper (envOfC qual scope L' f cdv)) (execs body (envOfC qual scope L' f cdv))
        (fun fl s' => R (.ok (.ret (match fl with | .ret v => v | _ => .none))) s') (fun _ _ => False)
        { s with heap := h₁, toks := tk })
    (hco : scope.isCoroutine = false) (hgen : scope.isGenerator = false) (hk : scope.kind = .function) : codeR (model prog w) A (.call (.ref f) args) R s := by
  have Xs : K.In s.heap := X.keeps st
  refine codeR_call_function hroom (Xs _ _ ho) rfl hco hgen rfl (codeRec_of Xs hcd) (hbind _ _ _ _ ?_)
  refine wpAny_newFunctionEnv_cells hk (kindsX hkind _) fun env' he s' x => ?_
  subst he
  refine ⟨(T.nolimit.keeps st).keeps x.toInCall.keep, codeR_func ?_⟩
  (refine ex2 (x.done) fun h₁ tk hE9 => an2 hE9 ?_; clear hE9; rintro rfl _)
  have hk₁ := x.toInCall.keep
  have st' : h₀.StaysIn (hideAll s.heap (adrs hid)) := fun b o e => hideAll_get _ (st b o e) fun q => by
    (refine ex1 (List.mem_map.mp q) fun p hE9 => an2 hE9 ?_; clear hE9; rintro hp rfl)
    rw [(hh p hp).2] at e; cases e
  refine hide fun G9 k9 => ?_
  obtain ⟨cells, NC, Y⟩ := Cl.news (h₀ := s.heap) (Nat.le_refl _) fun n c hm => ⟨x.cell n c (lookup_of_mem_nodup (cellsFrom_names scope.names 0 (s.heap.objs.size + 1) [] [] rfl ▸ hnd) hm), x.above n c hm⟩
  refine k9 ?_
  clear k9 G9
  refine wpR_mono (h (hideAll s.heap (adrs hid)) s.heap.objs.size h₁ tk cells st' (Nat.le_refl _) (fun b o e n => hideAll_get _ e n) (X.keeps st') (T.keeps st')
    ⟨x.toInCall.ns, fun b o e => hk₁ b o (of_hideAll _ e), Nat.le_of_eq (hideAll_size _ _)⟩ (fun q hq => ?_) Y fun q hq => Heap.lt_size (hh q hq).1) (fun fl s' hl => hl) fun _ _ y => y.elim
  rcases List.mem_append.mp hq with hq | hq
  · refine ⟨(NC q hq).1, (NC q hq).2.1, ?_⟩
    cases e : (hideAll s.heap (adrs hid)).get? q.1 with
    | none => rfl
    | some o => have := of_hideAll _ e; rw [(NC q hq).2.2] at this; cases this
  · exact ⟨hk₁ _ _ (hh q hq).1, Nat.ne_of_lt (Heap.lt_size (hh q hq).1), hideAll_none _ (List.mem_map_of_mem hq)⟩

section
variable {prog : Program} {w : World} {A : Around} {E : Value → Shared → Prop} {s : Shared} {h₀ : Heap} {L : Addr} {m : Str → Option Value} {env : Env}
open LCg in
/-- all turns of a comprehension, by what holds of the list so far -/
theorem compAll {elt : PySem.Expr} {x : Str} {scope : Scope} {cl : List (Str × Addr)} {S : List (Addr × Obj) → Prop} {P : Nat → Value → Prop} {Fin : List Value → List (Addr × Obj) → Prop} {news : List (Addr × Obj)} (n : Nat)
    (J : Nat → List Value → List (Addr × Obj) → Prop) (h0 : J 0 [] news)
    (turn : ∀ i ys news v I oI C oC D m₂ h tk, i < n → ys.length = i → J i ys news → P i v → NsObj oC m₂ → m₂ x = some v → Fr h₀ L h m → News h₀ L h ((I, oI) :: (C, oC) :: (D, lst ys) :: news) → Off3 I C D news → ((@Ne Nat I C) ∧ (@Ne Nat I D) ∧ (@Ne Nat C D)) →
      wpAny (model prog w) A (eval elt (compEnvC scope cl C env)) (CompEnd h₀ L m { s with heap := h, toks := tk } I oI C oC D (lst ys) S (fun y news' => J (i + 1) (ys ++ [y]) news')) (fun _ _ => False) { s with heap := h, toks := tk })
    (fin : ∀ ys news, ys.length = n → J n ys news → Fin ys news) : CompRest prog w A h₀ L m env elt x scope cl s S P Fin n 0 [] news := by
  have key : ∀ (k i : Nat) (ys : List Value) (news : List (Addr × Obj)), i + k = n → ys.length = i → J i ys news → CompRest prog w A h₀ L m env elt x scope cl s S P Fin k i ys news := by
    intro k
    induction k with
    | zero =>
      intro i ys news hi hy hJ
      have : i = n := by omega
      subst this
      exact CompRest.zero (fin ys news hy hJ)
    | succ k ih =>
      intro i ys news hi hy hJ
      refine CompRest.succ ?_
      intro v I oI C oC D m₂ h tk E' hv hC hx F N off ne
      refine wpAny_mono (turn i ys news v I oI C oC D m₂ h tk (by (with_reducible exact s2 (by assumption))) hy hJ hv hC hx F N off ne) (fun y s₂ hq => ?_) fun _ _ e => e.elim
      (refine ex3 (hq) fun h' tk' nw hE9 => an6 hE9 ?_; clear hE9; intro e F' N' off' hS hJ'; (try clear hq))
      exact ⟨h', tk', nw, e, F', N', off', hS, ih (i + 1) _ nw (by (with_reducible exact s1 (by assumption))) (by rw [List.length_append, hy]; rfl) hJ'⟩
  exact key n 0 [] news (by (with_reducible exact s54)) rfl h0
open LCg LCt in
theorem compAllT {ct elt : PySem.Expr} {x : Str} {scope : Scope} {cl : List (Str × Addr)} {S : List (Addr × Obj) → Prop} {P : Nat → Value → Prop} {Fin : List Value → List (Addr × Obj) → Prop} {news : List (Addr × Obj)} (n : Nat)
    (J : Nat → List Value → List (Addr × Obj) → Prop) (h0 : J 0 [] news)
    (turn : ∀ i ys news v I oI C oC D m₂ h tk, i < n → J i ys news → P i v → NsObj oC m₂ → m₂ x = some v → Fr h₀ L h m → News h₀ L h ((I, oI) :: (C, oC) :: (D, lst ys) :: news) → Off3 I C D news → ((@Ne Nat I C) ∧ (@Ne Nat I D) ∧ (@Ne Nat C D)) →
      wpAny (model prog w) A (isTrue ct (compEnvC scope cl C env) (eval ct (compEnvC scope cl C env))) (fun ok s' => if ok = true then
        wpAny (model prog w) A (eval elt (compEnvC scope cl C env)) (CompEnd h₀ L m { s with heap := h, toks := tk } I oI C oC D (lst ys) S (fun y news' => J (i + 1) (ys ++ [y]) news')) (fun _ _ => False) s'
        else CompEnd h₀ L m { s with heap := h, toks := tk } I oI C oC D (lst ys) S (fun _ news' => J (i + 1) ys news') Value.none s') (fun _ _ => False) { s with heap := h, toks := tk })
    (fin : ∀ ys news, J n ys news → Fin ys news) : CompRestT prog w A h₀ L m env ct elt x scope cl s S P Fin n 0 [] news := by
  have key : ∀ (k i : Nat) (ys : List Value) (news : List (Addr × Obj)), i + k = n → J i ys news → CompRestT prog w A h₀ L m env ct elt x scope cl s S P Fin k i ys news := by
    intro k
    induction k with
    | zero =>
      intro i ys news hi hJ
      have : i = n := by omega
      subst this
      exact CompRestT.zero (fin ys news hJ)
    | succ k ih =>
      intro i ys news hi hJ
      refine CompRestT.succ ?_
      intro v I oI C oC D m₂ h tk E' hv hC hx F N off ne
      refine wpAny_mono (turn i ys news v I oI C oC D m₂ h tk (by (with_reducible exact s2 (by assumption))) hJ hv hC hx F N off ne) (fun ok s₂ hq => ?_) fun _ _ e => e.elim
      cases ok with
      | true =>
        simp only [if_true] at hq ⊢
        refine wpAny_mono hq (fun y s₃ hq => ?_) fun _ _ e => e.elim
        (refine ex3 (hq) fun h' tk' nw hE9 => an6 hE9 ?_; clear hE9; intro e F' N' off' hS hJ'; (try clear hq))
        exact ⟨h', tk', nw, e, F', N', off', hS, ih (i + 1) _ nw (by (with_reducible exact s1 (by assumption))) hJ'⟩
      | false =>
        simp only [Bool.false_eq_true, if_false] at hq ⊢
        (refine ex3 (hq) fun h' tk' nw hE9 => an6 hE9 ?_; clear hE9; intro e F' N' off' hS hJ'; (try clear hq))
        exact ⟨h', tk', nw, e, F', N', off', hS, ih (i + 1) _ nw (by (with_reducible exact s1 (by assumption))) hJ'⟩
  exact key n 0 [] news (by (with_reducible exact s54)) h0
theorem snoc_at {ys : List Value} {y v : Value} {j : Nat} (h : (ys ++ [y])[j]? = some v) : (j < ys.length ∧ ys[j]? = some v) ∨ (j = ys.length ∧ v = y) := by
  rcases Nat.lt_or_ge j ys.length with hj | hj
  · rw [List.getElem?_append_left hj] at h; exact .inl ⟨hj, h⟩
  · rw [List.getElem?_append_right hj] at h
    rcases Nat.eq_zero_or_pos (j - ys.length) with h0 | h0
    · rw [h0] at h
      simp only [List.getElem?_cons_zero, Option.some.injEq] at h
      exact .inr ⟨by (with_reducible exact s17 (by assumption) (by assumption)), h.symm⟩
    · rw [List.getElem?_eq_none (show [y].length ≤ j - ys.length from h0)] at h; cases h
theorem fresh_hid {sh g h : Heap} {L a : Addr} {o : Obj} {news hid : List (Addr × Obj)} (hg : ∀ b o, sh.get? b = some o → b ∉ adrs hid → g.get? b = some o) (N : News g L h news) (hm : (a, o) ∈ news) (hne : ∀ q ∈ hid, q.1 ≠ a) : sh.get? a = none := by
  cases e : sh.get? a with
  | none => rfl
  | some o' =>
    have := hg a o' e (fun hb => by obtain ⟨q, hq, hqa⟩ := List.mem_map.mp hb; exact hne q hq hqa)
    rw [(N _ hm).2.2] at this
    cases this
/-- what a turn leaves that only reads -/
def KeptC (h₀ : Heap) (L : Addr) (m : Str → Option Value) (s : Shared) (led : List (Addr × Obj)) (f : Value → Prop) (y : Value) (s₂ : Shared) : Prop :=
  ∃ h' tk', s₂ = { s with heap := h', toks := tk' } ∧ Fr h₀ L h' m ∧ News h₀ L h' led ∧ f y
theorem KeptC.intro {led : List (Addr × Obj)} {f : Value → Prop} {y : Value} {h' : Heap} {tk' : Nat} (F : Fr h₀ L h' m) (N : News h₀ L h' led) (hf : f y) : KeptC h₀ L m s led f y { s with heap := h', toks := tk' } := ⟨h', tk', rfl, F, N, hf⟩
theorem KeptC.intro' {led all : List (Addr × Obj)} {f : Value → Prop} {y : Value} {h' : Heap} {tk' : Nat} (F : Fr h₀ L h' m) (N : News h₀ L h' all) (hs : ∀ q ∈ led, q ∈ all) (hf : f y) : KeptC h₀ L m s led f y { s with heap := h', toks := tk' } := ⟨h', tk', rfl, F, fun q hq => N q (hs q hq), hf⟩
open LCg in
/-- a comprehension that leaves the ledger as it is, item by item -/
theorem compMap {elt : PySem.Expr} {x : Str} {scope : Scope} {cl : List (Str × Addr)} {S : List (Addr × Obj) → Prop} {P : Nat → Value → Prop} {Fin : List Value → List (Addr × Obj) → Prop} {news : List (Addr × Obj)} (n : Nat)
    (f : Nat → Value → Prop) (hS : S news)
    (turn : ∀ i ys v I oI C oC D m₂ h tk, i < n → ys.length = i → P i v → NsObj oC m₂ → m₂ x = some v → Fr h₀ L h m → News h₀ L h ((I, oI) :: (C, oC) :: (D, lst ys) :: news) → Off3 I C D news → ((@Ne Nat I C) ∧ (@Ne Nat I D) ∧ (@Ne Nat C D)) →
      wpAny (model prog w) A (eval elt (compEnvC scope cl C env)) (KeptC h₀ L m s ((I, oI) :: (C, oC) :: (D, lst ys) :: news) (f i)) (fun _ _ => False) { s with heap := h, toks := tk })
    (fin : ∀ ys, ys.length = n → (∀ (i : Nat) (y : Value), ys[i]? = some y → f i y) → Fin ys news) : CompRest prog w A h₀ L m env elt x scope cl s S P Fin n 0 [] news := by
  refine compAll n (fun i ys nw => nw = news ∧ ∀ (j : Nat) (y : Value), ys[j]? = some y → f j y) ⟨rfl, fun j y h => by simp at h⟩ ?_ ?_
  · intro i ys nw v I oI C oC D m₂ h tk hi hy hJ9p14 hv hC hx F N off ne
    refine hide fun G9 k9 => ?_
    obtain ⟨rfl, hJ⟩ := hJ9p14
    refine k9 ?_
    clear k9 G9
    refine wpAny_mono (turn i ys v I oI C oC D m₂ h tk hi hy hv hC hx F N off ne) (fun y s₂ hq => ?_) fun _ _ e => e
    (refine ex2 (hq) fun h' tk' hE9 => an4 hE9 ?_; clear hE9; intro e F' N' hf; (try clear hq))
    refine ⟨h', tk', nw, e, F', N', off, hS, rfl, fun j v hv => ?_⟩
    rcases snoc_at hv with ⟨_, h1⟩ | ⟨rfl, rfl⟩
    · exact hJ j v h1
    · rw [hy]; exact hf
  · intro ys nw hy hJ9p3
    refine hide fun G9 k9 => ?_
    obtain ⟨rfl, hJ⟩ := hJ9p3
    refine k9 ?_
    clear k9 G9
    exact fin ys hy hJ
end
end
section -- KE6
/-! the source that the law draws from: a list of two ints, turned by each draw -/
abbrev srcO (a b : Int) (ta tb : Tok) (n : Nat) : Obj := W.listOf [Value.int a ta, Value.int b tb].toArray n
structure SrcV (a b : Int) : Prop where
  a0 : 0 ≤ a
  b0 : 0 ≤ b
  b1 : b < 2147483647
def SrcIn (h : Heap) (sa : Addr) : Prop := ∃ a b ta tb n, SrcV a b ∧ h.get? sa = some (srcO a b ta tb n)
theorem useS {prog : Program} {w : World} {A : Around} {E : Value → Shared → Prop} {hp0 : Heap} {ge0 : Array GenState} {dr0 : Drawn} {tk0 : Nat} {os0 : OsState} {f : Addr} {args : List Value} {Pv : Value → Prop} {Q : Value → Shared → Prop}
    {g : Heap} {L sa : Addr} {o : Obj} {m : Str → Option Value} {news : List (Addr × Obj)} {gg : Obj → List (Addr × Obj)} (F : Fr g L hp0 m) (N : News g L hp0 news) (U : UpdF sa o news gg)
    (c : Calls7 prog w A f args ⟨hp0, ge0, dr0, tk0, os0⟩ [sa] (fun v h => Pv v ∧ SrcIn h sa))
    (h : ∀ v h' tk' a' b' ta' tb' n', Pv v → SrcV a' b' → Fr g L h' m → News g L h' (gg (srcO a' b' ta' tb' n')) → Q v ⟨h', ge0, dr0, tk', os0⟩) :
    wpAny (model prog w) A (call (.ref f) args) Q E ⟨hp0, ge0, dr0, tk0, os0⟩ := use7 c fun v h' tk' p k _ => by
  (refine hide fun G9 k9 => ?_; obtain ⟨hp, a, b, ta, tb, n, hv, ho⟩ := p; refine k9 ?_; clear k9 G9)
  obtain ⟨own, rest, rfl, hg, h1, h2⟩ := U.split
  have hmem := N (sa, o) (List.mem_append_right _ (.head _))
  refine h v h' tk' a b ta tb n hp hv ⟨?_, fun b' ob e => k b' ob (fun q => ?_) (F.keep b' ob e), F.above⟩ ?_
  · exact F.ns.at' fun o e => k _ _ (by simpa using Ne.symm hmem.2.1) e
  · rw [List.mem_singleton.mp q, hmem.2.2] at e; cases e
  · rw [hg]
    intro q hq
    rcases List.mem_append.mp hq with hq | hq
    · exact ⟨k _ _ (by simpa using h1 q hq) (N q (List.mem_append_left _ hq)).1, (N q (List.mem_append_left _ hq)).2⟩
    · rcases List.mem_cons.mp hq with rfl | hq
      · exact ⟨ho, hmem.2⟩
      · exact ⟨k _ _ (by simpa using h2 q hq) (N q (List.mem_append_right _ (.tail _ hq))).1, (N q (List.mem_append_right _ (.tail _ hq))).2⟩
end
section -- KM
/-! objects made by a class's call, their `__init__` taken by its contract; objects that lie in the base, borrowed -/
theorem Room.make {A : Around} {n : Nat} (r : Room A (n + 1)) (C : Addr) (args : List Value) : Room (A.under (.builtin "type.__call__" ⟨.ref C :: args, []⟩)) n := by
  have hu : (Code.builtin "type.__call__" ⟨.ref C :: args, []⟩).cUnits ≤ 16 := Nat.le_of_ble_eq_true (by kernel_rfl)
  have h1 := r.depth
  have h2 := r.units
  exact ⟨by show A.depth + 1 + n < _; (with_reducible exact s112 (by assumption)), by show A.units + (Code.builtin "type.__call__" ⟨.ref C :: args, []⟩).cUnits + 16 * n < _; (with_reducible exact s99 (by assumption) (by assumption)), r.calm⟩
theorem emptyDict_is : emptyDict = dictOf [] 0 := rfl
section
variable {prog : Program} {w : World} {A : Around} {E : Value → Shared → Prop} {s : Shared} {K : Frag} {h₀ g : Heap} {L : Addr} {m : Str → Option Value} {news : List (Addr × Obj)}
theorem useMake {hp0 : Heap} {ge0 : Array GenState} {dr0 : Drawn} {tk0 : Nat} {os0 : OsState} {C fI : Addr} {args : List Value} {Q : Value → Shared → Prop} {P : Addr → Value → Heap → Prop} (F : Fr g L hp0 m) (N : News g L hp0 news) (X : K.In h₀) (st : h₀.StaysIn g) (hm : makesIn K C = true)
    (hi : findIn K (.ref C) "__init__" = some (some (.ref fI))) (hf : typeIn K (.ref fI) = some (.type "function"))
    (c : ∀ x dx (s₁ : Shared), Fr g L s₁.heap m → News g L s₁.heap ((x, instObj C dx) :: (dx, dictOf [] 0) :: news) → (∀ p ∈ news, p.1 < dx) → dx < x →
      Calls7 prog w (A.under (.builtin "type.__call__" ⟨.ref C :: args, []⟩)) fI (.ref x :: args) s₁ [dx] (P dx))
    (h : ∀ x dx v h' tk', P dx v h' → Fr g L h' m → News g L h' ((x, instObj C dx) :: news) → (∀ p ∈ news, p.1 < dx) → dx < x → dx ≠ L → g.get? dx = none → v = .none ∧ Q (.ref x) ⟨h', ge0, dr0, tk', os0⟩) :
    wpAny (model prog w) A (call (.ref C) args) Q E ⟨hp0, ge0, dr0, tk0, os0⟩ := by
  refine wpAny_call (make_K F N ((X.keeps st).keeps F.keep) hm hi hf fun x dx h₁ F₁ N₁ lo hlt => ?_)
  have hdx := N₁ (dx, emptyDict) mem1
  refine c x dx ⟨h₁, ge0, dr0, tk0, os0⟩ F₁ N₁ lo hlt _ fun v h' tk' hP hk hz => ?_
  have F₂ : Fr g L h' m := ⟨F₁.ns.at' fun o e => hk _ _ (by simpa using Ne.symm hdx.2.1) e, fun b o e => hk b o (fun q => by rw [List.mem_singleton.mp q, hdx.2.2] at e; cases e) (F₁.keep b o e), F₁.above⟩
  have N₂ : News g L h' ((x, instObj C dx) :: news) := fun q hq => by
    rcases List.mem_cons.mp hq with rfl | hq
    · have := N₁ (x, instObj C dx) (.head _)
      exact ⟨hk _ _ (fun e => absurd hlt (by rw [show x = dx from List.mem_singleton.mp e]; exact Nat.lt_irrefl _)) this.1, this.2⟩
    · have := N₁ q (.tail _ (.tail _ hq))
      exact ⟨hk _ _ (fun e => absurd (lo q hq) (by rw [List.mem_singleton.mp e]; exact Nat.lt_irrefl _)) this.1, this.2⟩
  exact h x dx v h' tk' hP F₂ N₂ lo hlt hdx.2.1 hdx.2.2
end
theorem item_val {prog : Program} {w : World} {A : Around} {E : Value → Shared → Prop} {s : Shared} {g : Heap} {L : Addr} {news : List (Addr × Obj)} {value slice : PySem.Expr} {l : Addr} {vs : List Value} {n : Nat} {k : Int} {u : Tok} {v : Value} {Q : Value → Shared → Prop} (N : News g L s.heap news) (hm : (l, W.listOf vs.toArray n) ∈ news)
    (h0 : 0 ≤ k) (hf : vs.length < 2 ^ 60) (hk : k < vs.length) (hv : vs.getD k.toNat .none = v) (h : Q v s)
    (hs : subscripted slice false (.ref l) (.int k u) = operate [.ref l, .int k u] (getItem (.ref l) (.int k u))) :
    wpAny (model prog w) A (subscriptTail value slice (.ref l) (.int k u)) Q E s := by
  subst hv
  exact item_own N hm h0 hf hk h hs
/-- what stood when the def was entered, and is not changed, still stands -/
theorem still {sh g h : Heap} {L x : Addr} {o : Obj} {m : Str → Option Value} {hid led : List (Addr × Obj)} (hg : ∀ b o, sh.get? b = some o → b ∉ adrs hid → g.get? b = some o) (hh : ∀ q ∈ hid, sh.get? q.1 = some q.2)
    (F : Fr g L h m) (N : News g L h led) (hs : ∀ q ∈ hid, q ∈ led) (e : sh.get? x = some o) : h.get? x = some o := by
  by_cases q : x ∈ adrs hid
  · (refine ex1 (List.mem_map.mp q) fun p hE9 => an2 hE9 ?_; clear hE9; rintro hp rfl)
    have e2 := hh p hp
    rw [e] at e2
    rw [(N p (hs p hp)).1, e2]
  · exact F.keep _ _ (hg x o e q)
/-- objects are taken into the ledger for a while -/
theorem borrow {h₀ g h : Heap} {L : Addr} {m : Str → Option Value} {news : List (Addr × Obj)} (objs : List (Addr × Obj)) (st : h₀.StaysIn g) (F : Fr g L h m) (N : News g L h news) (ho : ∀ q ∈ objs, h.get? q.1 = some q.2 ∧ h₀.get? q.1 = none ∧ q.1 ≠ L) :
    h₀.StaysIn (hideAll g (adrs objs)) ∧ Fr (hideAll g (adrs objs)) L h m ∧ News (hideAll g (adrs objs)) L h (objs ++ news) := by
  refine ⟨fun b o e => hideAll_get _ (st b o e) fun q => ?_, ⟨F.ns, fun b o e => F.keep b o (of_hideAll _ e), Nat.le_trans (Nat.le_of_eq (hideAll_size _ _)) F.above⟩, fun q hq => ?_⟩
  · (refine ex1 (List.mem_map.mp q) fun p hE9 => an2 hE9 ?_; clear hE9; rintro hp rfl)
    rw [(ho p hp).2.1] at e; cases e
  · rcases List.mem_append.mp hq with hq | hq
    · exact ⟨(ho q hq).1, (ho q hq).2.2, hideAll_none _ (List.mem_map_of_mem hq)⟩
    · refine ⟨(N q hq).1, (N q hq).2.1, ?_⟩
      cases e : (hideAll g (adrs objs)).get? q.1 with
      | none => rfl
      | some o => have := of_hideAll _ e; rw [(N q hq).2.2] at this; cases this
/-- and given back -/
theorem payback {g h h' : Heap} {L : Addr} {m m' : Str → Option Value} {news all : List (Addr × Obj)} (objs : List (Addr × Obj)) (F₀ : Fr g L h m) (ho : ∀ q ∈ objs, h.get? q.1 = some q.2)
    (F : Fr (hideAll g (adrs objs)) L h' m') (N : News (hideAll g (adrs objs)) L h' all) (hm : ∀ q ∈ objs, q ∈ all)
    (hn : ∀ q ∈ news, q ∈ all ∧ g.get? q.1 = none) : Fr g L h' m' ∧ News g L h' news := by
  refine ⟨⟨F.ns, fun b o e => ?_, Nat.le_trans (Nat.le_of_eq (hideAll_size _ _).symm) F.above⟩, fun q hq => ⟨(N q (hn q hq).1).1, (N q (hn q hq).1).2.1, (hn q hq).2⟩⟩
  by_cases hb : b ∈ adrs objs
  · (refine ex1 (List.mem_map.mp hb) fun p hE9 => an2 hE9 ?_; clear hE9; rintro hp rfl)
    have := F₀.keep _ _ e
    rw [ho p hp] at this
    cases this
    exact (N p (hm p hp)).1
  · exact F.keep b o (hideAll_get _ e hb)
end
section -- KA
/-! an object's own dict, by what it tells of each name -/
structure DA (es : List DictEntry) (f : Str → Option Value) (k : Nat) : Prop where
  get : ∀ x, getL x es = some (f x)
  ref : es.any (·.refKey) = false
  len : es.length ≤ k
theorem DA.nil : DA [] (fun _ => none) 0 := ⟨fun _ => rfl, rfl, Nat.le_refl _⟩
theorem DA.at {es : List DictEntry} {f : Str → Option Value} {k : Nat} {x : Str} {r : Option Value} (h : DA es f k) (e : f x = r) : getL x es = some r := by rw [h.get x, e]
theorem isStr_str (x y : Str) (t : Tok) : (Value.str x t).isStr y = decide (x = y) := by
  show (x == y) = _
  by_cases h : x = y
  · subst h; simp
  · simp [h]
theorem isStr_inj {v : Value} {x y : Str} (h1 : v.isStr x = true) (h2 : v.isStr y = true) : x = y := by
  cases v with
  | str z t =>
    rw [isStr_str] at h1 h2
    exact (of_decide_eq_true h1).symm.trans (of_decide_eq_true h2)
  | _ => cases h1
theorem getL_put (x y : Str) (hsh : Int) (t : Tok) (v : Value) : ∀ es : List DictEntry, ((putL x hsh (.str x t) v es).find? (·.key.isStr y)).map (·.val) = if y = x then some v else (es.find? (·.key.isStr y)).map (·.val)
  | [] => by
    show (List.find? _ [_]).map _ = _
    rw [List.find?_cons]
    simp only [isStr_str, List.find?_nil]
    by_cases h : y = x
    · subst h; simp
    · rw [if_neg h, decide_eq_false (fun e => h e.symm)]
  | e :: r => by
    have ih := getL_put x y hsh t v r
    unfold putL
    by_cases he : e.key.isStr x = true
    · rw [if_pos he, List.find?_cons, List.find?_cons]
      by_cases hy : e.key.isStr y = true
      · have := isStr_inj hy he
        subst this
        simp [hy]
      · have : y ≠ x := fun q => hy (q ▸ he)
        simp only [hy, if_neg this]
    · rw [if_neg he, List.find?_cons, List.find?_cons]
      by_cases hy : e.key.isStr y = true
      · have : y ≠ x := fun q => he (q ▸ hy)
        simp [hy, this]
      · simp only [hy]
        exact ih
theorem ref_put (x : Str) (hsh : Int) (t : Tok) (v : Value) : ∀ es : List DictEntry, es.any (·.refKey) = false → (putL x hsh (.str x t) v es).any (·.refKey) = false
  | [], _ => rfl
  | e :: r, h => by
    rw [List.any_cons, Bool.or_eq_false_iff] at h
    unfold putL
    split
    · rw [List.any_cons, h.2, Bool.or_false]; exact h.1
    · rw [List.any_cons, h.1, ref_put x hsh t v r h.2]; rfl
theorem len_put (x : Str) (hsh : Int) (t : Tok) (v : Value) : ∀ es : List DictEntry, (putL x hsh (.str x t) v es).length ≤ es.length + 1
  | [] => Nat.le_refl _
  | e :: r => by
    unfold putL
    split
    · exact Nat.le_succ _
    · exact Nat.succ_le_succ (len_put x hsh t v r)
theorem DA.put {es : List DictEntry} {f : Str → Option Value} {k : Nat} (h : DA es f k) (x : Str) (hsh : Int) (t : Tok) (v : Value) : DA (putL x hsh (.str x t) v es) (fun y => if y = x then some v else f y) (k + 1) := by
  refine ⟨fun y => ?_, ref_put x hsh t v es h.ref, Nat.le_trans (len_put x hsh t v es) (Nat.succ_le_succ h.len)⟩
  have h1 := getL_put x y hsh t v es
  have h2 := h.get y
  have h3 := ref_put x hsh t v es h.ref
  unfold getL at h2 ⊢
  rw [h3]
  rw [h.ref] at h2
  by_cases hy : y = x
  · rw [if_pos hy] at h1 ⊢
    cases q : (putL x hsh (.str x t) v es).find? (·.key.isStr y) with
    | none => rw [q] at h1; cases h1
    | some e => rw [q] at h1; simp only [Option.map_some, Option.some.injEq] at h1; simp only [h1]
  · rw [if_neg hy] at h1 ⊢
    rw [← h2]
    cases q : (putL x hsh (.str x t) v es).find? (·.key.isStr y) with
    | none =>
      rw [q] at h1
      cases q2 : es.find? (·.key.isStr y) with
      | none => rfl
      | some e => rw [q2] at h1; cases h1
    | some e =>
      rw [q] at h1
      cases q2 : es.find? (·.key.isStr y) with
      | none => rw [q2] at h1; cases h1
      | some e2 => rw [q2] at h1; simp only [Option.map_some, Option.some.injEq] at h1; simp only [h1]
theorem DA.congr {es : List DictEntry} {f f' : Str → Option Value} {k : Nat} (h : DA es f k) (e : ∀ y, f y = f' y) : DA es f' k := (funext e : f = f') ▸ h
theorem neCls {g h : Heap} {L a b : Addr} {o o' : Obj} {news : List (Addr × Obj)} (N : News g L h news) (h1 : (a, o) ∈ news) (h2 : (b, o') ∈ news) (hc : o.cls ≠ o'.cls) : @Ne Nat a b := fun e => by
  have e : a = b := e
  subst e
  have x := (N _ h1).1
  rw [(N _ h2).1] at x
  exact hc (congrArg Obj.cls (Option.some.inj x)).symm
/-- what a table's dict and a reader's dict tell -/
def tabF (cl rp il kl pl nm root sql : Value) : Str → Option Value := fun y => if y = Str.ofString "columns" then some cl else if y = Str.ofString "rowid_place" then some rp else if y = Str.ofString "indexes" then some il else if y = Str.ofString "checks" then some kl
  else if y = Str.ofString "primary" then some pl else if y = Str.ofString "name" then some nm else if y = Str.ofString "root" then some root else if y = Str.ofString "sql" then some sql else none
def rdF (tx hp st rs : Value) : Str → Option Value := fun y => if y = Str.ofString "table" then some tx else if y = Str.ofString "has_primary" then some hp else if y = Str.ofString "statement" then some st else if y = Str.ofString "roots" then some rs else none
section
variable {prog : Program} {w : World} {A : Around} {E : Value → Shared → Prop} {s : Shared} {K : Frag} {C x dx : Addr} {h₀ g : Heap} {L : Addr} {m : Str → Option Value} {news news' : List (Addr × Obj)}
theorem set_sym {hp0 : Heap} {ge0 : Array GenState} {dr0 : Drawn} {tk0 : Nat} {os0 : OsState} {name : Str} {es : List DictEntry} {n : Nat} {f : Str → Option Value} {k : Nat} {v : Value} {gg : Obj → List (Addr × Obj)} {Q : Unit → Shared → Prop} (F : Fr g L hp0 m) (X₀ : K.In g) (N : News g L hp0 news) (hx : (x, instObj C dx) ∈ news) (U : UpdF dx (dictOf es n) news gg) (D : DA es f k)
    (hs : findIn K (.ref C) "__setattr__" = some (some (.builtin "object.__setattr__"))) (hp : plainOver K C = true) (ht : takerIn K C name = some none) (hh : hasDictIn K C = true) (hk : k < 900)
    (h : ∀ es' n' h', DA es' (fun y => if y = name then some v else f y) (k + 1) → Fr g L h' m → News g L h' (gg (dictOf es' n')) → Q () ⟨h', ge0, dr0, tk0 + 2, os0⟩) :
    wpAny (model prog w) A (setAttr (.ref x) name v) Q E ⟨hp0, ge0, dr0, tk0, os0⟩ := by
  (refine ex2 (U.split) fun pre post hE9 => an4 hE9 ?_; clear hE9; rintro rfl hg h1 h2)
  have U' : ∀ o', Upd dx (dictOf es n) o' (pre ++ (dx, dictOf es n) :: post) (pre ++ (dx, o') :: post) := fun o' => by
    clear hg N hx U
    induction pre with
    | nil => exact .head h2
    | cons p r ih => exact .tail (h1 p (.head _)) (ih (fun q hq => h1 q (.tail _ hq)))
  refine set_dict (es' := putL name (PyData.keyHash w.params name) (.str name (tk0 + 1)) v es) (n' := putN name es n) F X₀ N (InstAt.of_news N hx (List.mem_append_right _ (.head _))) rfl hs hp ht hh ?_ rfl (U' _) ?_ fun h' F' N' => ?_
  · rw [D.get name]; rfl
  · exact Nat.le_trans (D.put name _ _ _).len (by omega)
  · exact h _ _ h' (D.put name _ _ _) F' (by rw [hg]; exact N')
/-- a call of a class, its `__init__` by its contract -/
theorem useMk {hp0 : Heap} {ge0 : Array GenState} {dr0 : Drawn} {tk0 : Nat} {os0 : OsState} {C fI : Addr} {args : List Value} {Q : Value → Shared → Prop} {Pf : (Str → Option Value) → Prop} (F : Fr g L hp0 m) (N : News g L hp0 news) (X : K.In h₀) (st : h₀.StaysIn g) (hm : makesIn K C = true)
    (hi : findIn K (.ref C) "__init__" = some (some (.ref fI))) (hf : typeIn K (.ref fI) = some (.type "function"))
    (c : ∀ x dx (s₁ : Shared), h₀.StaysIn s₁.heap → Live h₀ s₁.heap x (instObj C dx) → Live h₀ s₁.heap dx (dictOf [] 0) → (@LT.lt Nat _ dx x) →
      Calls7 prog w (A.under (.builtin "type.__call__" ⟨.ref C :: args, []⟩)) fI (.ref x :: args) s₁ [dx] (fun v h => v = .none ∧ ∃ es n f, h.get? dx = some (dictOf es n) ∧ DA es f 20 ∧ Pf f))
    (h : ∀ x dx es n f h' tk', DA es f 20 → Pf f → Fr g L h' m → News g L h' ((x, instObj C dx) :: (dx, dictOf es n) :: news) → (∀ p ∈ news, p.1 < dx) → (@LT.lt Nat _ dx x) → Q (.ref x) ⟨h', ge0, dr0, tk', os0⟩) :
    wpAny (model prog w) A (call (.ref C) args) Q E ⟨hp0, ge0, dr0, tk0, os0⟩ := by
  refine useMake F N X st hm hi hf (fun x dx s₁ F₁ N₁ lo hlt => c x dx s₁ (stays_now st F₁) (Live.of st N₁ (.head _)) (Live.of st N₁ mem1) hlt) fun x dx v h' tk' hP F' N' lo hlt hL hg => ?_
  (refine hide fun G9 k9 => ?_; obtain ⟨rfl, es, n, f, hd, hD, hp⟩ := hP; refine k9 ?_; clear k9 G9)
  refine ⟨rfl, h x dx es n f h' tk' hD hp F' (fun q hq => ?_) lo hlt⟩
  rcases List.mem_cons.mp hq with rfl | hq
  · exact N' _ (.head _)
  · rcases List.mem_cons.mp hq with rfl | hq
    · exact ⟨hd, hL, hg⟩
    · exact N' _ (.tail _ hq)
/-- a call that changes objects of the ledger -/
theorem useWs {hp0 : Heap} {ge0 : Array GenState} {dr0 : Drawn} {tk0 : Nat} {os0 : OsState} {f : Addr} {args : List Value} {W : List Addr} {P : Value → Heap → Prop} {Q : Value → Shared → Prop} {rest : List (Addr × Obj)} (F : Fr g L hp0 m) (N : News g L hp0 news)
    (c : Calls7 prog w A f args ⟨hp0, ge0, dr0, tk0, os0⟩ W P) (hW : ∀ a ∈ W, ∃ o, (a, o) ∈ news) (hs : ∀ q ∈ rest, q ∈ news) (ho : ∀ q ∈ rest, ∀ a ∈ W, @Ne Nat q.1 a)
    (h : ∀ v h' tk', P v h' → Fr g L h' m → News g L h' rest → (∀ a ∈ W, a ≠ L ∧ g.get? a = none) → Q v ⟨h', ge0, dr0, tk', os0⟩) :
    wpAny (model prog w) A (call (.ref f) args) Q E ⟨hp0, ge0, dr0, tk0, os0⟩ := use7 c fun v h' tk' p k _ => by
  have hw : ∀ a ∈ W, a ≠ L ∧ g.get? a = none := fun a ha => by obtain ⟨o, hm⟩ := hW a ha; exact (N _ hm).2
  refine h v h' tk' p ⟨F.ns.at' fun o e => k _ _ (fun q => (hw _ q).1 rfl) e, fun b o e => k b o (fun q => by rw [(hw _ q).2] at e; cases e) (F.keep b o e), F.above⟩ (fun q hq => ?_) hw
  exact ⟨k _ _ (fun q' => ho q hq _ q' rfl) (N q (hs q hq)).1, (N q (hs q hq)).2⟩
theorem news_add {h : Heap} {a : Addr} {o : Obj} (N : News g L h news) (e : h.get? a = some o) (hw : a ≠ L ∧ g.get? a = none) : News g L h ((a, o) :: news) := fun q hq => by
  rcases List.mem_cons.mp hq with rfl | hq
  · exact ⟨e, hw⟩
  · exact N q hq
theorem free_add {h : Heap} {a : Addr} (F : Fr g L h m) (e : h.get? a = none) : a ≠ L ∧ g.get? a = none := by
  refine ⟨fun q => ?_, ?_⟩
  · (refine ex3 (F.ns) fun oL _ _ hE9 => an2 hE9 ?_; clear hE9; intro hL _)
    rw [q, hL] at e; cases e
  · cases q : g.get? a with
    | none => rfl
    | some o => rw [F.keep _ _ q] at e; cases e
/-- a call of a class, the heap at its `__init__` kept in sight -/
theorem useMakeS {hp0 : Heap} {ge0 : Array GenState} {dr0 : Drawn} {tk0 : Nat} {os0 : OsState} {C fI : Addr} {args : List Value} {Q : Value → Shared → Prop} {P : Addr → Heap → Value → Heap → Prop} (F : Fr g L hp0 m) (N : News g L hp0 news) (X : K.In h₀) (st : h₀.StaysIn g) (hm : makesIn K C = true)
    (hi : findIn K (.ref C) "__init__" = some (some (.ref fI))) (hf : typeIn K (.ref fI) = some (.type "function"))
    (c : ∀ x dx (s₁ : Shared), h₀.StaysIn s₁.heap → Fr g L s₁.heap m → News g L s₁.heap ((x, instObj C dx) :: (dx, dictOf [] 0) :: news) → (@LT.lt Nat _ dx x) →
      Calls7 prog w (A.under (.builtin "type.__call__" ⟨.ref C :: args, []⟩)) fI (.ref x :: args) s₁ [dx] (fun v h => v = .none ∧ P dx s₁.heap v h))
    (h : ∀ x dx v h₁ h' tk', P dx h₁ v h' → Fr g L h₁ m → (∀ q ∈ news, h₁.get? q.1 = some q.2) → Fr g L h' m → News g L h' ((x, instObj C dx) :: news) → (∀ p ∈ news, p.1 < dx) → (@LT.lt Nat _ dx x) → dx ≠ L → g.get? dx = none → Q (.ref x) ⟨h', ge0, dr0, tk', os0⟩) :
    wpAny (model prog w) A (call (.ref C) args) Q E ⟨hp0, ge0, dr0, tk0, os0⟩ := by
  refine useMake (P := fun dx v h' => v = .none ∧ ∃ h₁, P dx h₁ v h' ∧ Fr g L h₁ m ∧ ∀ q ∈ news, h₁.get? q.1 = some q.2) F N X st hm hi hf (fun x dx s₁ F₁ N₁ lo hlt R ret => c x dx s₁ (stays_now st F₁) F₁ N₁ hlt R fun v h' tk' p k z => ret v h' tk' ⟨p.1, s₁.heap, p.2, F₁, fun q hq => (N₁ q (.tail _ (.tail _ hq))).1⟩ k z) fun x dx v h' tk' hP F' N' lo hlt hL hg => ?_
  (refine hide fun G9 k9 => ?_; obtain ⟨rfl, h₁, hp, F₁, N₁⟩ := hP; refine k9 ?_; clear k9 G9)
  exact ⟨rfl, h x dx _ h₁ h' tk' hp F₁ N₁ F' N' lo hlt hL hg⟩
end
end
section -- KF
/-! a for over a list of pairs, unpacked -/
section
variable {prog : Program} {w : World} {A : Around} {E : Value → Shared → Prop} {s : Shared} {g : Heap} {L : Addr} {m : Str → Option Value} {news : List (Addr × Obj)} {env : Env}
def LoopT (prog : Program) (w : World) (A : Around) (env : Env) (target : PySem.Expr) (body : List Stmt) (Q : Flow → Shared → Prop) (it : Value) (s₂ : Shared) : Prop :=
  codeAny (model prog w) A (.forLoop target it body [] env) (fun r s' => match r with | .ok f => Q f s' | .error _ => False) s₂
theorem forTup {target iter : PySem.Expr} {body : List Stmt} {pos : Pos} {Q : Flow → Shared → Prop} (hh : A.handled = none)
    (h : wpAny (model prog w) A (eval iter env) (fun x s₁ => wpAny (model prog w) A (pyIter x) (LoopT prog w A env target body Q) (fun _ _ => False) s₁) (fun _ _ => False) s)
    (hs : ∀ x, foldedSetIterable iter env x = pure x := by intro _; rfl) :
    wpAny (model prog w) A (exec (.For target iter body [] pos) env) Q E s := by
  refine wpAny_For (wpAny_mono h (fun x s₁ h₁ => wpAny_mono h₁ (fun it s₂ h₂ => ?_) fun _ _ e => e.elim) fun _ _ e => e.elim) hs
  refine codeAny_mono (show codeAny _ _ _ (fun r s' => match r with | .ok f => Q f s' | .error _ => False) s₂ from h₂) fun r s' q => ?_
  cases r with
  | ok f => exact q
  | error e => exact q.elim
theorem forPairs {x y : Str} {px py tp : Pos} {tkn : Nat} {body : List Stmt} {Q : Flow → Shared → Prop} (lv : Addr) (vs : List Value) (k : Nat) (J : Nat → (Str → Option Value) → List (Addr × Obj) → Prop) (hh : A.handled = none) (hLe : env.locals = L)
    (hx : env.kindOf x = some .local) (hy : env.kindOf y = some .local) (hp : (env.scope.kind == .class || (env.scope.kind == .module && env.locals != env.globals)) = false)
    (hJl : ∀ i m news, J i m news → (lv, W.listOf vs.toArray k) ∈ news) (hJt : ∀ (i : Nat) (v : Value), vs[i]? = some v → ∃ (t : Addr) (a b : Value), v = .ref t ∧ ∀ i m news, J i m news → (t, tup2 a b) ∈ news)
    (F : Fr g L s.heap m) (N : News g L s.heap news) (h0 : J 0 m news)
    (step : ∀ i t a b m news I o h tk, vs[i]? = some (.ref t) → (t, tup2 a b) ∈ news → J i m news → (∀ q ∈ news, q.1 ≠ I) → Fr g L h (fun z => if z = y then some b else if z = x then some a else m z) → News g L h ((I, o) :: news) →
      wpAny (model prog w) A (execs body env) (TurnedF g L I o (J (i + 1)) s) (fun _ _ => False) { s with heap := h, toks := tk })
    (fin : ∀ h tk m news, J vs.length m news → Fr g L h m → News g L h news → Q .next { s with heap := h, toks := tk }) :
    wpAny (model prog w) A (pyIter (.ref lv)) (LoopT prog w A env (.Tuple [.Name x px, .Name y py] tkn tp) body Q) E s := by
  subst hLe
  have hlN := N _ (hJl _ _ _ h0)
  refine wpAny_pyIter_list (items := vs.toArray) (News.isList N (hJl _ _ _ h0)) ?_
  have hlt := Heap.lt_size hlN.1
  have offI : ∀ q ∈ news, q.1 ≠ s.heap.objs.size := fun q hq => Nat.ne_of_lt (Heap.lt_size (N q hq).1)
  have gI : g.get? s.heap.objs.size = none := next_is_new F
  have W : Walks prog w A s.heap.objs.size [s.heap.objs.size, lv] [s.heap.objs.size] vs.toArray.size _ _ := Walks.list hh s.heap.objs.size lv (Nat.ne_of_lt hlt) vs.toArray
  unfold LoopT
  refine codeAny_forLoop_any
    (fun n s' => ∃ h tk i o m news, s' = { s with heap := h, toks := tk } ∧ i ≤ vs.length ∧ n = vs.length + 1 - i ∧ h.IsListIter s.heap.objs.size lv i ∧ h.get? s.heap.objs.size = some o ∧ Fr g env.locals h m ∧ News g env.locals h news ∧ (∀ q ∈ news, q.1 ≠ s.heap.objs.size) ∧ J i m news) ?_ (vs.length + 1)
    ⟨_, _, 0, _, m, news, rfl, Nat.zero_le _, rfl, ⟨_, Heap.get?_push_size _ rfl, rfl, rfl⟩, Heap.get?_push_size _ rfl, F.push _, fun q hq => N.push F _ rfl q (.tail _ hq), offI, h0⟩
  intro n s' hJ9p2
  (refine ex6 (hJ9p2) fun h tk i o m' news' hE9 => an9 hE9 ?_; clear hE9; rintro rfl hi rfl hI hIo F' N' off' hJ; (try clear hJ9p2))
  have hl' := News.isList N' (hJl _ _ _ hJ)
  have nk : ∀ h₂ : Heap, (∀ b o, b ∉ [s.heap.objs.size] → h.get? b = some o → h₂.get? b = some o) → Fr g env.locals h₂ m' ∧ News g env.locals h₂ news' := fun h₂ hk =>
    ⟨⟨F'.ns.at' fun o e => hk _ _ (fun q => by
        have := F.ns.lt
        rw [List.mem_singleton.mp q] at this
        exact absurd this (Nat.lt_irrefl _)) e, fun b o e => hk b o (fun q => by rw [List.mem_singleton.mp q, gI] at e; cases e) (F'.keep b o e), F'.above⟩,
      fun q hq => ⟨hk _ _ (fun e => off' q hq (List.mem_singleton.mp e)) (N' q hq).1, (N' q hq).2⟩⟩
  by_cases hlt' : i < vs.length
  · refine W.item i _ _ _ (by rw [List.size_toArray]; exact hlt') ⟨hI, hl'⟩ fun v h₂ tk₂ hv hst₂ hk₂ => ?_
    have hv' : vs[i]? = some v := by simpa using hv
    (refine ex3 (hJt i v hv') fun t a b hE9 => an2 hE9 ?_; clear hE9; rintro rfl ht)
    refine hide fun G9 k9 => ?_
    obtain ⟨F2, N2⟩ := nk h₂ hk₂
    refine k9 ?_
    clear k9 G9
    (refine ex1 (id hst₂.1) fun oI hE9 => an3 hE9 ?_; clear hE9; intro hoI hoc hod)
    refine wpAny_letOwnedTupleGo_listiter hst₂.1 ?_
    refine assign_Tuple_tuple hh ⟨_, (N2 _ (ht _ _ _ hJ)).1, rfl, _, rfl⟩ rfl rfl fun h₅ he₅ => ?_
    have k5 : ∀ b o, h₂.get? b = some o → h₅.get? b = some o := fun b o e => he₅ b o (Nat.ne_of_lt (Heap.lt_size e)) e
    have F5 := F2.after k5
    refine assignInOrder_cons (wpAny_assign_Name (wpAny_storeName_local hx F5.ns (fun h₆ hn₆ hs₆ => ?_) hp))
    refine assignInOrder_cons (wpAny_assign_Name (wpAny_storeName_local hy hn₆ (fun h₇ hn₇ hs₇ => ?_) hp))
    refine assignInOrder_nil ?_
    have F7 := (F5.set hn₆ hs₆).set hn₇ hs₇
    have IL : s.heap.objs.size ≠ env.locals := Nat.ne_of_gt F.ns.lt
    have N7 : News g env.locals h₇ ((s.heap.objs.size, oI) :: news') := fun q hq => by
      rcases List.mem_cons.mp hq with rfl | hq
      · exact ⟨(hs₇.2 _ IL).trans ((hs₆.2 _ IL).trans (k5 _ _ hoI)), IL, gI⟩
      · have := N2 q hq
        exact ⟨(hs₇.2 _ this.2.1).trans ((hs₆.2 _ this.2.1).trans (k5 _ _ this.1)), this.2⟩
    refine wpAny_mono (step i t a b m' news' _ oI h₇ _ hv' (ht _ _ _ hJ) hJ off' F7 N7) (fun f s₃ y => ?_) fun _ _ y => y.elim
    (refine hide fun G9 k9 => ?_; obtain ⟨rfl, h', tk', m2, news2, rfl, F8, N8, off8, J8⟩ := y; refine k9 ?_; clear k9 G9)
    exact ⟨vs.length + 1 - (i + 1), by (with_reducible exact s10 (by assumption)), h', tk', i + 1, oI, m2, news2, rfl, hlt', rfl, ⟨oI, (N8 _ (.head _)).1, hoc, hod⟩, (N8 _ (.head _)).1, F8, fun q hq => N8 q (.tail _ hq), off8, J8⟩
  · have hi' : i = vs.length := Nat.le_antisymm hi (Nat.not_lt.mp hlt')
    subst hi'
    refine W.done _ _ _ ⟨by simpa using hI, hl'⟩ fun h₂ tk₂ hk₂ => ?_
    refine hide fun G9 k9 => ?_
    obtain ⟨F2, N2⟩ := nk h₂ hk₂
    refine k9 ?_
    clear k9 G9
    exact wpAny_execs_nil (fin h₂ tk₂ m' news' hJ F2 N2)
theorem forPairs0 {x y : Str} {px py tp : Pos} {tkn : Nat} {body : List Stmt} {Q : Flow → Shared → Prop} {lv : Addr} {k : Nat} (hh : A.handled = none) (hLe : env.locals = L)
    (hx : env.kindOf x = some .local) (hy : env.kindOf y = some .local) (hp : (env.scope.kind == .class || (env.scope.kind == .module && env.locals != env.globals)) = false)
    (hm : (lv, W.listOf ([] : List Value).toArray k) ∈ news) (F : Fr g L s.heap m) (N : News g L s.heap news)
    (fin : ∀ h tk, Fr g L h m → News g L h news → Q .next { s with heap := h, toks := tk }) :
    wpAny (model prog w) A (pyIter (.ref lv)) (LoopT prog w A env (.Tuple [.Name x px, .Name y py] tkn tp) body Q) E s :=
  forPairs lv [] k (fun _ m' news' => m' = m ∧ news' = news) hh hLe hx hy hp (fun _ _ _ h => by rw [h.2]; exact hm) (fun i v h => by simp at h) F N ⟨rfl, rfl⟩
    (fun i t a b m news I o h tk hv => by simp at hv) fun h tk m' news' hJ F' N' => by obtain ⟨rfl, rfl⟩ := hJ; exact fin h tk F' N'
theorem forPairs1 {x y : Str} {px py tp : Pos} {tkn : Nat} {body : List Stmt} {Q : Flow → Shared → Prop} {lv t : Addr} {a b : Value} {k : Nat} (J : (Str → Option Value) → List (Addr × Obj) → Prop) (hh : A.handled = none) (hLe : env.locals = L)
    (hx : env.kindOf x = some .local) (hy : env.kindOf y = some .local) (hp : (env.scope.kind == .class || (env.scope.kind == .module && env.locals != env.globals)) = false)
    (hm : (lv, W.listOf [Value.ref t].toArray k) ∈ news) (ht : (t, tup2 a b) ∈ news) (hJ : ∀ m news, J m news → (lv, W.listOf [Value.ref t].toArray k) ∈ news ∧ (t, tup2 a b) ∈ news) (F : Fr g L s.heap m) (N : News g L s.heap news)
    (step : ∀ I o h tk, (∀ q ∈ news, q.1 ≠ I) → Fr g L h (fun z => if z = y then some b else if z = x then some a else m z) → News g L h ((I, o) :: news) →
      wpAny (model prog w) A (execs body env) (TurnedF g L I o J s) (fun _ _ => False) { s with heap := h, toks := tk })
    (fin : ∀ h tk m news, J m news → Fr g L h m → News g L h news → Q .next { s with heap := h, toks := tk }) :
    wpAny (model prog w) A (pyIter (.ref lv)) (LoopT prog w A env (.Tuple [.Name x px, .Name y py] tkn tp) body Q) E s :=
  forPairs lv [.ref t] k (fun i m' news' => (i = 0 ∧ m' = m ∧ news' = news) ∨ (i = 1 ∧ J m' news')) hh hLe hx hy hp (fun i m' news' h => by rcases h with ⟨_, _, rfl⟩ | ⟨_, h⟩; exact hm; exact (hJ _ _ h).1)
    (fun i v h => by
      match i, h with
      | 0, h => cases h; exact ⟨t, a, b, rfl, fun i m' news' h => by rcases h with ⟨_, _, rfl⟩ | ⟨_, h⟩; exact ht; exact (hJ _ _ h).2⟩
      | i + 1, h => simp at h) F N (.inl ⟨rfl, rfl, rfl⟩)
    (fun i t' a' b' m' news' I o h tk hv ht' hj off F' N' => by
      rcases hj with ⟨rfl, rfl, rfl⟩ | ⟨rfl, _⟩
      · cases hv
        have e1 := (N' _ (.tail _ ht)).1
        rw [(N' _ (.tail _ ht')).1] at e1
        cases e1
        refine wpAny_mono (step I o h tk off F' N') (fun f s₃ y => ?_) fun _ _ y => y
        (refine hide fun G9 k9 => ?_; obtain ⟨rfl, h', tk', m2, news2, rfl, F8, N8, off8, J8⟩ := y; refine k9 ?_; clear k9 G9)
        exact ⟨rfl, h', tk', m2, news2, rfl, F8, N8, off8, .inr ⟨rfl, J8⟩⟩
      · simp at hv)
    fun h tk m' news' hj F' N' => by
      rcases hj with ⟨h0, _⟩ | ⟨_, hj⟩
      · cases h0
      · exact fin h tk m' news' hj F' N'
theorem forList0 {x : Str} {body : List Stmt} {Q : Flow → Shared → Prop} {lv : Addr} {k : Nat} (hh : A.handled = none) (hLe : env.locals = L)
    (hm : (lv, W.listOf ([] : List Value).toArray k) ∈ news) (F : Fr g L s.heap m) (N : News g L s.heap news)
    (fin : ∀ h tk, Fr g L h m → News g L h news → Q .next { s with heap := h, toks := tk }) :
    wpAny (model prog w) A (pyIter (.ref lv)) (fun it s₂ => LoopAtV prog w A g env x body Q E it s₂) E s :=
  forList lv [] k (fun _ m' news' => m' = m ∧ news' = news) hh hLe (fun _ _ _ h => by rw [h.2]; exact hm) F N ⟨rfl, rfl⟩
    (fun i v m news I o h tk hv => by simp at hv) fun h tk m' news' hJ F' N' => by obtain ⟨rfl, rfl⟩ := hJ; exact fin h tk F' N'
theorem forRange0 {x : Str} {body : List Stmt} {Q : Flow → Shared → Prop} {r : Addr} {b : Int} {t₀ u₀ v₀ : Tok} (hh : A.handled = none) (hLe : env.locals = L)
    (hr : IsRange s.heap r 0 b 1 t₀ u₀ v₀) (hb : b = 0) (F : Fr g L s.heap m) (N : News g L s.heap news)
    (fin : ∀ h tk, Fr g L h m → News g L h news → Q .next { s with heap := h, toks := tk }) :
    wpAny (model prog w) A (pyIter (.ref r)) (fun it s₂ => LoopAtV prog w A g env x body Q E it s₂) E s :=
  forRange 0 (fun _ m' news' => m' = m ∧ news' = news) hh hLe hr (by decide) (by rw [hb]; decide) (by rw [hb]; rfl) F N ⟨rfl, rfl⟩
    (fun i t m news I o h tk hi => absurd hi (Nat.not_lt_zero _)) fun h tk m' news' hJ F' N' => by obtain ⟨rfl, rfl⟩ := hJ; exact fin h tk F' N'
end
end
section -- KL
open Sem (wp)

/-! Loops and bytearrays of clean stacks, over the ledger. -/
theorem news_put {g h h' : Heap} {L a : Addr} {o o' : Obj} {news : List (Addr × Obj)} (N : News g L h ((a, o) :: news)) (off : ∀ q ∈ news, q.1 ≠ a) (hs : Heap.SameBut a h h') (e : h'.get? a = some o') : News g L h' ((a, o') :: news) := fun q hq => by
  rcases List.mem_cons.mp hq with rfl | hq
  · exact ⟨e, (N (a, o) (.head _)).2⟩
  · exact ⟨(hs.2 _ (off q hq)).trans (N q (.tail _ hq)).1, (N q (.tail _ hq)).2⟩

section
variable {prog : Program} {w : World} {A : Around} {E : Value → Shared → Prop} {s : Shared} {g : Heap} {L : Addr} {m : Str → Option Value} {news : List (Addr × Obj)}
theorem ba_newK {Q : Value → Shared → Prop} (hg : A.guards = some []) (F : Fr g L s.heap m) (N : News g L s.heap news)
    (h : ∀ fb h', Fr g L h' m → News g L h' ((fb, baOf #[]) :: news) → (∀ q ∈ news, q.1 ≠ fb) → (∀ b o, s.heap.get? b = some o → h'.get? b = some o) → g.get? fb = none → Q (.ref fb) { s with heap := h' }) :
    wpR (model prog w) A (call (.type "bytearray") []) Q E s := by
  refine ba_new hg fun h' e k => ?_
  have kk : ∀ b o, s.heap.get? b = some o → h'.get? b = some o := fun b o eb =>
    (k.2 b (Nat.ne_of_lt (Heap.lt_size eb))).trans (Heap.get?_push_of_some _ eb)
  have hn := next_is_new F
  refine h _ h' (F.after kk) (fun q hq => ?_) (fun q hq => ?_) kk hn
  · rcases List.mem_cons.mp hq with rfl | hq
    · exact ⟨e, fun x => absurd F.ns.lt (by rw [← x]; exact Nat.lt_irrefl _), hn⟩
    · exact ⟨kk _ _ (N q hq).1, (N q hq).2⟩
  · exact Nat.ne_of_lt (Heap.lt_size (N q hq).1)
theorem ba_appendK {fb : Addr} {b : Array UInt8} {n : Int} {t : Tok} {Q : Value → Shared → Prop} (hg : A.guards = some []) (F : Fr g L s.heap m) (N : News g L s.heap ((fb, baOf b) :: news)) (off : ∀ q ∈ news, q.1 ≠ fb)
    (hn : 0 ≤ n) (hn2 : n < 256) (hz : b.size < sizeLine) (h : ∀ h', Fr g L h' m → News g L h' ((fb, baOf (b.push n.toNat.toUInt8)) :: news) → Q .none { s with heap := h' }) :
    wpR (model prog w) A (call (.builtin "bytearray.append") [.ref fb, .int n t]) Q E s :=
  ba_append hg (N (fb, baOf b) (.head _)).1 hn hn2 hz fun h' e k => h h' (F.change k (N (fb, baOf b) (.head _)).2.1 (N (fb, baOf b) (.head _)).2.2) (news_put N off k e)
theorem ba_extendK {fb : Addr} {b c : Array UInt8} {t : Tok} {Q : Value → Shared → Prop} (hg : A.guards = some []) (F : Fr g L s.heap m) (N : News g L s.heap ((fb, baOf b) :: news)) (off : ∀ q ∈ news, q.1 ≠ fb)
    (hz : b.size + c.size ≤ sizeLine) (h : ∀ h', Fr g L h' m → News g L h' ((fb, baOf (b ++ c)) :: news) → Q .none { s with heap := h' }) :
    wpR (model prog w) A (call (.builtin "bytearray.extend") [.ref fb, .bytes c t]) Q E s :=
  ba_extend hg (N (fb, baOf b) (.head _)).1 hz fun h' e k => h h' (F.change k (N (fb, baOf b) (.head _)).2.1 (N (fb, baOf b) (.head _)).2.2) (news_put N off k e)
theorem ba_method {M : Model} {fb : Addr} {b : Array UInt8} {name : Str} {id : String} {pl : Sem Bool} {Q : Value × List Value → Shared → Prop} (N : News g L s.heap news) (hm : (fb, baOf b) ∈ news)
    (slot : Slot "bytearray" name id) (hty : typeOf (.builtin id) = pure (.type "method_descriptor")) (h : Q (.builtin id, [.ref fb]) s) : wpAny M A (getMethod (.ref fb) name pl) Q E s :=
  getMethod_builtin (ba_type (N _ hm).1) BA.attrs slot hty (fun a e => by cases e; exact ⟨_, (N _ hm).1, rfl⟩) h

/-- one turn of a loop over whatever walks -/
theorem turnW {nm : Str} {scope : Scope} {a : Addr} {cd : Value} {R : Result → Shared → Prop} {x : Str} {px : Pos} {body : List Stmt} {I : Addr} {fp : List Addr} {n i : Nat} {P : Nat → Value → Prop} {St : Nat → Heap → Prop}
    (W : Walks prog w A I fp [I] n P St) (hst : St i s.heap) (hi : i < n) (hx : (envOf nm scope L a cd).kindOf x = some .local) (hk : scope.kind = .function)
    (hL : L ∉ fp) (hIf : I ∈ fp) (hlive : ∀ h, St (i + 1) h → ∃ o, h.get? I = some o) (hfl : ∀ b ∈ fp, b = I ∨ ∃ o, s.heap.get? b = some o)
    (F : Fr g L s.heap m) (N : News g L s.heap news) (off : ∀ q ∈ news, q.1 ≠ I) (hgI : g.get? I = none)
    (h : ∀ v h₁ tk o, P i v → St (i + 1) h₁ → Fr g L h₁ (fun y => if y = x then some v else m y) → News g L h₁ ((I, o) :: news) →
      wpR (model prog w) A (execs body (envOf nm scope L a cd)) (fun f s₃ => match f with
          | .next | .cont => codeR (model prog w) A (.forLoop (.Name x px) (.ref I) body [] (envOf nm scope L a cd)) R s₃
          | .brk => R (.ok .next) s₃
          | .ret v => R (.ok (.ret v)) s₃) (fun _ _ => False) { s with heap := h₁, toks := tk }) :
    codeR (model prog w) A (.forLoop (.Name x px) (.ref I) body [] (envOf nm scope L a cd)) R s := by
  refine turnR (W.item i s _ _ hi hst fun v h₁ tk hP hS hk₁ => ?_)
  have hIL : I ≠ L := fun e => hL (e ▸ hIf)
  have N₁ : News g L h₁ news := fun q hq => ⟨hk₁ _ _ (by simpa using off q hq) (N q hq).1, (N q hq).2⟩
  have F₁ : Fr g L h₁ m := ⟨F.ns.at' fun o e => hk₁ _ _ (by simpa using hIL.symm) e, fun b o e => hk₁ _ _ (by
    intro hb
    rw [List.mem_singleton.mp hb, hgI] at e
    cases e) (F.keep b o e), F.above⟩
  refine wpAny_assign_Name (wpAny_storeName_local hx F₁.ns (fun h' hn hs => ?_) (by show (scope.kind == .class || (scope.kind == .module && L != mainGlobals)) = false; rw [hk]; rfl))
  have hS' : St (i + 1) h' := W.frame _ h₁ h' hS fun b hb o e => (hs.2 b (fun q => hL ((show b = L from q) ▸ hb))).trans e
  refine hide fun G9 k9 => ?_
  obtain ⟨o, ho⟩ := hlive _ hS'
  refine k9 ?_
  clear k9 G9
  refine h v h' _ o hP hS' (F₁.set hn hs) (fun q hq => ?_)
  rcases List.mem_cons.mp hq with rfl | hq
  · exact ⟨ho, hIL, hgI⟩
  · exact N₁.set hs q hq

theorem doneW {env : Env} {R : Result → Shared → Prop} {x : Str} {px : Pos} {body : List Stmt} {I : Addr} {fp : List Addr} {n : Nat} {P : Nat → Value → Prop} {St : Nat → Heap → Prop}
    (W : Walks prog w A I fp [I] n P St) (hst : St n s.heap) (hIL : I ≠ L)
    (F : Fr g L s.heap m) (N : News g L s.heap news) (off : ∀ q ∈ news, q.1 ≠ I) (hgI : g.get? I = none)
    (h : ∀ h₁ tk, Fr g L h₁ m → News g L h₁ news → R (.ok .next) { s with heap := h₁, toks := tk }) :
    codeR (model prog w) A (.forLoop (.Name x px) (.ref I) body [] env) R s := by
  refine turnR (W.done s _ _ hst fun h₁ tk hk₁ => ?_)
  refine h h₁ tk ⟨F.ns.at' fun o e => hk₁ _ _ (by simpa using hIL.symm) e, fun b o e => hk₁ _ _ (by
    intro hb
    rw [List.mem_singleton.mp hb, hgI] at e
    cases e) (F.keep b o e), F.above⟩ fun q hq => ⟨hk₁ _ _ (by simpa using off q hq) (N q hq).1, (N q hq).2⟩
end

/-- what a call promises, on clean stacks -/
def Calls7R (prog : Program) (w : World) (A : Around) (f : Addr) (args : List Value) (s : Shared) (W : List Addr) (P : Value → Heap → Prop) : Prop :=
  ∀ R : Result → Shared → Prop, (∀ v h' tk', P v h' → KeepBut W s.heap h' → s.heap.objs.size ≤ h'.objs.size → R (.ok (.ret v)) { s with heap := h', toks := tk' }) →
    codeR (model prog w) A (.call (.ref f) ⟨args, []⟩) R s
theorem Calls7.clean {prog : Program} {w : World} {A : Around} {f : Addr} {args : List Value} {s : Shared} {W : List Addr} {P : Value → Heap → Prop} (c : Calls7 prog w A f args s W P) : Calls7R prog w A f args s W P :=
  fun R h => codeR_of (c R h)
theorem use7R {prog : Program} {w : World} {A : Around} {E : Value → Shared → Prop} {hp0 : Heap} {ge0 : Array GenState} {dr0 : Drawn} {tk0 : Nat} {os0 : OsState} {f : Addr} {args : List Value} {P : Value → Heap → Prop} {Q : Value → Shared → Prop}
    {g : Heap} {L : Addr} {m : Str → Option Value} {news : List (Addr × Obj)} (F : Fr g L hp0 m) (N : News g L hp0 news)
    (c : Calls7R prog w A f args ⟨hp0, ge0, dr0, tk0, os0⟩ [] P) (h : ∀ v h' tk', P v h' → Fr g L h' m → News g L h' news → Q v ⟨h', ge0, dr0, tk', os0⟩) :
    wpR (model prog w) A (call (.ref f) args) Q E ⟨hp0, ge0, dr0, tk0, os0⟩ :=
  wpR_call (c _ fun v h' tk' p k _ => h v h' tk' p (F.after fun b o e => k b o (by simp) e) fun q hq => ⟨k _ _ (by simp) (N q hq).1, (N q hq).2⟩)
end
section -- KL2
open Sem (wp)
theorem off_of_cls {g h : Heap} {L a : Addr} {o : Obj} {news : List (Addr × Obj)} (N : News g L h ((a, o) :: news)) (hc : ∀ q ∈ news, q.2.cls ≠ o.cls) : ∀ q ∈ news, q.1 ≠ a := fun q hq e => by
  have h1 := (N q (.tail _ hq)).1
  rw [e, (N (a, o) (.head _)).1] at h1
  exact hc q hq (congrArg Obj.cls (Option.some.inj h1).symm)

theorem strIterType_or (x : Str) : strIterType x = "str_iterator" ∨ strIterType x = "str_ascii_iterator" := by
  unfold strIterType
  split
  · exact .inr rfl
  · exact .inl rfl
section
variable {prog : Program} {w : World} {A : Around} {E : Value → Shared → Prop} {s : Shared} {g : Heap} {L : Addr} {m : Str → Option Value} {news : List (Addr × Obj)}
  {nm : Str} {scope : Scope} {a : Addr} {cd : Value} {R : Result → Shared → Prop} {x : Str} {px : Pos} {body : List Stmt} {I : Addr}

theorem strStartR {y : Str} {t : Tok} (F : Fr g L s.heap m) (N : News g L s.heap news)
    (h : ∀ I h' o, o.cls = .type (strIterType y) → o.data = .fields #[.str y t, .int 0 0] → Fr g L h' m → News g L h' ((I, o) :: news) → (∀ q ∈ news, q.1 ≠ I) →
      codeR (model prog w) A (.forLoop (.Name x px) (.ref I) body [] (envOf nm scope L a cd)) R { s with heap := h' }) :
    wpAny (model prog w) A (pyIter (.str y t)) (fun it s₂ => codeR (model prog w) A (.forLoop (.Name x px) it body [] (envOf nm scope L a cd)) R s₂) E s := by
  refine wpAny_pyIter_strU ?_
  exact h _ _ _ rfl rfl (F.push _) (N.push F _) fun q hq => Nat.ne_of_lt (Heap.lt_size (N q hq).1)

theorem strTurnR {y : Str} {t : Tok} {o : Obj} {ty : String} {i : Nat} (c : Nat) (hh : A.handled = none) (hty : ty = "str_iterator" ∨ ty = "str_ascii_iterator") (ho : o.cls = .type ty) (hd : o.data = .fields #[.str y t, .int i 0]) (hc : y.cps[i]? = some c)
    (hx : (envOf nm scope L a cd).kindOf x = some .local) (hk : scope.kind = .function)
    (F : Fr g L s.heap m) (N : News g L s.heap ((I, o) :: news)) (off : ∀ q ∈ news, q.1 ≠ I)
    (h : ∀ u h₁ tk o, o.cls = .type ty → o.data = .fields #[.str y t, .int ((i + 1 : Nat) : Int) 0] → Fr g L h₁ (fun z => if z = x then some (.str ⟨#[c]⟩ u) else m z) → News g L h₁ ((I, o) :: news) →
      wpR (model prog w) A (execs body (envOf nm scope L a cd)) (fun f s₃ => match f with
          | .next | .cont => codeR (model prog w) A (.forLoop (.Name x px) (.ref I) body [] (envOf nm scope L a cd)) R s₃
          | .brk => R (.ok .next) s₃
          | .ret v => R (.ok (.ret v)) s₃) (fun _ _ => False) { s with heap := h₁, toks := tk }) :
    codeR (model prog w) A (.forLoop (.Name x px) (.ref I) body [] (envOf nm scope L a cd)) R s := by
  have hi : i < y.cps.size := (Array.getElem?_eq_some_iff.mp hc).1
  have hN := N (I, o) (.head _)
  have hst : s.heap.IsStrIter I ty y t i := ⟨o, hN.1, ho, hd⟩
  have W : Walks prog w A I [I] [I] y.cps.size (SignAt y) (fun i h => h.IsStrIter I ty y t i) := by
    rcases hty with rfl | rfl
    · exact Walks.strWide hh I y t
    · exact Walks.strAscii hh I y t
  refine turnW W hst hi hx hk (fun q => hN.2.1 (List.mem_singleton.mp q).symm) (.head _) (fun h ⟨o, e, _⟩ => ⟨o, e⟩) (fun b hb => .inl (List.mem_singleton.mp hb)) F (fun q hq => N q (.tail _ hq)) off hN.2.2 ?_
  intro v h₁ tk o₁ hJ9p4 hJ9p5 F₁ N₁
  (refine ex2 (hJ9p4) fun c' u hE9 => an2 hE9 ?_; clear hE9; rintro hc' rfl; (try clear hJ9p4))
  (refine ex1 (hJ9p5) fun o₂ hE9 => an3 hE9 ?_; clear hE9; intro e2 h2 h3; (try clear hJ9p5))
  have e1 := (N₁ (I, o₁) (.head _)).1
  rw [hc] at hc'
  cases hc'
  rw [e1] at e2
  cases e2
  exact h u h₁ tk o₁ h2 h3 F₁ N₁

theorem strDoneR {y : Str} {t : Tok} {o : Obj} {ty : String} {i : Nat} {env : Env} (hh : A.handled = none) (hty : ty = "str_iterator" ∨ ty = "str_ascii_iterator") (ho : o.cls = .type ty) (hd : o.data = .fields #[.str y t, .int i 0]) (hi : i = y.cps.size)
    (F : Fr g L s.heap m) (N : News g L s.heap ((I, o) :: news)) (off : ∀ q ∈ news, q.1 ≠ I)
    (h : ∀ h₁ tk, Fr g L h₁ m → News g L h₁ news → R (.ok .next) { s with heap := h₁, toks := tk }) :
    codeR (model prog w) A (.forLoop (.Name x px) (.ref I) body [] env) R s := by
  have hN := N (I, o) (.head _)
  subst hi
  have hst : s.heap.IsStrIter I ty y t y.cps.size := ⟨o, hN.1, ho, hd⟩
  have W : Walks prog w A I [I] [I] y.cps.size (SignAt y) (fun i h => h.IsStrIter I ty y t i) := by
    rcases hty with rfl | rfl
    · exact Walks.strWide hh I y t
    · exact Walks.strAscii hh I y t
  exact doneW W hst hN.2.1 F (fun q hq => N q (.tail _ hq)) off hN.2.2 h
end
end
section -- KL3
open Sem (wp)
theorem fr_eq {g h : Heap} {L : Addr} {m m' : Str → Option Value} (F : Fr g L h m) (e : ∀ y, m y = m' y) : Fr g L h m' := (funext e : m = m') ▸ F

section
variable {prog : Program} {w : World} {A : Around} {E : Value → Shared → Prop} {s : Shared} {g : Heap} {L : Addr} {m : Str → Option Value} {news : List (Addr × Obj)}
  {nm : Str} {scope : Scope} {a : Addr} {cd : Value} {R : Result → Shared → Prop} {x : Str} {px : Pos} {body : List Stmt}

/-- how a turn of a loop ends that goes on -/
def Turned (g : Heap) (L I : Addr) (o : Obj) (J : (Str → Option Value) → List (Addr × Obj) → Prop) (s : Shared) (f : Flow) (s₂ : Shared) : Prop :=
  f = .next ∧ ∃ h tk m' news', s₂ = { s with heap := h, toks := tk } ∧ Fr g L h m' ∧ News g L h ((I, o) :: news') ∧ (∀ q ∈ news', q.1 ≠ I) ∧ J m' news'

theorem listLoopR (lv : Addr) (vs : List Value) (n : Nat) (J : Nat → (Str → Option Value) → List (Addr × Obj) → Prop) (hh : A.handled = none)
    (hx : (envOf nm scope L a cd).kindOf x = some .local) (hk : scope.kind = .function)
    (hJl : ∀ i m news, J i m news → (lv, listOf vs.toArray n) ∈ news)
    (F : Fr g L s.heap m) (N : News g L s.heap news) (h0 : J 0 m news)
    (step : ∀ i v m news I o h tk, vs[i]? = some v → J i m news → (∀ q ∈ news, q.1 ≠ I) → Fr g L h (fun z => if z = x then some v else m z) → News g L h ((I, o) :: news) → o.cls = .type "list_iterator" →
      wpR (model prog w) A (execs body (envOf nm scope L a cd)) (Turned g L I o (J (i + 1)) s) (fun _ _ => False) { s with heap := h, toks := tk })
    (fin : ∀ h tk m news, J vs.length m news → Fr g L h m → News g L h news → R (.ok .next) { s with heap := h, toks := tk }) :
    wpAny (model prog w) A (pyIter (.ref lv)) (fun it s₂ => codeR (model prog w) A (.forLoop (.Name x px) it body [] (envOf nm scope L a cd)) R s₂) E s := by
  refine wpAny_pyIter_list (items := vs.toArray) (News.isList N (hJl _ _ _ h0)) ?_
  have main : ∀ k i I o (m : Str → Option Value) news h tk, i + k = vs.length → o.cls = .type "list_iterator" → o.data = .fields #[.ref lv, .int i 0] → J i m news → Fr g L h m → News g L h ((I, o) :: news) → (∀ q ∈ news, q.1 ≠ I) →
      codeR (model prog w) A (.forLoop (.Name x px) (.ref I) body [] (envOf nm scope L a cd)) R { s with heap := h, toks := tk } := by
    intro k
    induction k with
    | zero =>
      intro i I o m news h tk hik hc hd hJ F N off
      have hi : i = vs.length := by omega
      subst hi
      have hN := N (I, o) (.head _)
      have hl : h.IsList lv vs.toArray := News.isList N (.tail _ (hJl _ _ _ hJ))
      have W : Walks prog w A I [I, lv] [I] vs.toArray.size _ _ := Walks.list hh I lv (off _ (hJl _ _ _ hJ)) vs.toArray
      exact doneW (s := { s with heap := h, toks := tk }) W ⟨⟨o, hN.1, hc, by simpa using hd⟩, hl⟩ hN.2.1 F (fun q hq => N q (.tail _ hq)) off hN.2.2 fun h₁ tk₁ F₁ N₁ => fin h₁ tk₁ m news hJ F₁ N₁
    | succ k ih =>
      intro i I o m news h tk hik hc hd hJ F N off
      have hi : i < vs.toArray.size := by rw [List.size_toArray]; (with_reducible exact s2 (by assumption))
      have hN := N (I, o) (.head _)
      have hl : h.IsList lv vs.toArray := News.isList N (.tail _ (hJl _ _ _ hJ))
      have hlN := N _ (List.mem_cons_of_mem (I, o) (hJl _ _ _ hJ))
      have W : Walks prog w A I [I, lv] [I] vs.toArray.size _ _ := Walks.list hh I lv (off _ (hJl _ _ _ hJ)) vs.toArray
      refine turnW (s := { s with heap := h, toks := tk }) W ⟨⟨o, hN.1, hc, hd⟩, hl⟩ hi hx hk (fun q => ?_) (.head _) (fun h q => let ⟨⟨o, e, _⟩, _⟩ := q; ⟨o, e⟩) (fun b hb => ?_) F (fun q hq => N q (.tail _ hq)) off hN.2.2 ?_
      · rcases List.mem_cons.mp q with q | q
        · exact hN.2.1 q.symm
        · exact hlN.2.1 (List.mem_singleton.mp q).symm
      · rcases List.mem_cons.mp hb with q | q
        · exact .inl q
        · exact .inr ⟨_, (List.mem_singleton.mp q) ▸ hlN.1⟩
      · intro v h₁ tk₁ o₁ hv hJ9p5 F₁ N₁
        refine hide fun G9 k9 => ?_
        obtain ⟨⟨o₂, e2, h2, h3⟩, _⟩ := hJ9p5
        refine k9 ?_
        clear k9 G9
        have e1 := (N₁ (I, o₁) (.head _)).1
        rw [e1] at e2
        cases e2
        refine wpR_mono (step i v m news I o₁ h₁ tk₁ (by simpa using hv) hJ off F₁ N₁ h2) (fun f s₂ q => ?_) fun _ _ q => q
        (refine hide fun G9 k9 => ?_; obtain ⟨rfl, h', tk', m', news', rfl, F', N', off', hJ'⟩ := q; refine k9 ?_; clear k9 G9)
        exact ih (i + 1) I o₁ m' news' h' tk' (by (with_reducible exact s1 (by assumption))) h2 h3 hJ' F' N' off'
  exact main vs.length 0 _ _ m news _ _ (by (with_reducible exact s54)) rfl rfl h0 (F.push _) (N.push F _) fun q hq => Nat.ne_of_lt (Heap.lt_size (N q hq).1)
end
end
section -- KC
section
variable {prog : Program} {w : World} {A : Around} {E : Value → Shared → Prop} {s : Shared} {h₀ : Heap} {L : Addr} {m : Str → Option Value} {env : Env}
def StrSrc (prog : Program) (w : World) (A : Around) (h₀ : Heap) (L : Addr) (m : Str → Option Value) (env : Env) (elt : PySem.Expr) (x : Str) (scope : Scope) (cl : List (Str × Addr)) (Q : Value → Shared → Prop) (xv : Value) (s₁ : Shared) : Prop :=
  ∃ (y : Str) (t : Tok) (news : List (Addr × Obj)), xv = .str y t ∧ A.handled = none ∧ Fr h₀ L s₁.heap m ∧ News h₀ L s₁.heap news ∧ y.cps.size ≤ sizeLine ∧
    ∀ g, LCg.CompRest prog w A h₀ L m env elt x scope cl { s₁ with heap := g } (fun _ => True) (SignAt y) (LCg.FinE h₀ L m { s₁ with heap := g } Q) y.cps.size 0 [] news
theorem StrSrc.intro {elt : PySem.Expr} {x : Str} {scope : Scope} {cl : List (Str × Addr)} {Q : Value → Shared → Prop} {y : Str} {t : Tok} {news : List (Addr × Obj)} (n : Nat) (hn : y.cps.size = n) (hh : A.handled = none) (F : Fr h₀ L s.heap m) (N : News h₀ L s.heap news) (hsz : n ≤ sizeLine)
    (h : ∀ g, LCg.CompRest prog w A h₀ L m env elt x scope cl { s with heap := g } (fun _ => True) (SignAt y) (LCg.FinE h₀ L m { s with heap := g } Q) n 0 [] news) : StrSrc prog w A h₀ L m env elt x scope cl Q (.str y t) s := by
  subst hn; exact ⟨y, t, news, rfl, hh, F, N, hsz, h⟩
theorem ListComp_S {elt iter : PySem.Expr} {x : Str} {px : Pos} {scope : Scope} {cl : List (Str × Addr)} {pos : Pos} {Q : Value → Shared → Prop} (F₀ : Fr h₀ L s.heap m)
    (hclos : closureFor scope env = pure cl) (hcell : ∀ y ∈ scope.names, y.2 ≠ .cell) (hkind : scope.kind = .function)
    (hnames : ∀ y ∈ scope.names, y.2 = .local → scope.names.lookup y.1 = some .local) (hx : scope.names.lookup x = some .local)
    (h : wpAny (model prog w) A (eval iter env) (StrSrc prog w A h₀ L m env elt x scope cl Q) E s)
    (hs : ∀ x, foldedSetIterable iter env x = pure x := by intro _; rfl) :
    wpAny (model prog w) A (eval (.ListComp elt [⟨.Name x px, iter, [], 0⟩] scope pos) env) Q E s := by
  rw [eval_ListComp]
  refine wpAny_comprehension_free (use := none) rfl hs hclos hkind hnames (wpAny_mono h (fun xv s₁ h₁ => ?_) fun _ _ e => e)
  (refine ex3 (h₁) fun y t news hE9 => an6 hE9 ?_; clear hE9; rintro rfl hh F N hsz R; (try clear h₁))
  refine wpAny_pyIter_strU ?_
  have W : Walks prog w A s₁.heap.objs.size [s₁.heap.objs.size] [s₁.heap.objs.size] y.cps.size (SignAt y) (fun i h => h.IsStrIter s₁.heap.objs.size (strIterType y) y t i) := by
    have hty : strIterType y = "str_iterator" ∨ strIterType y = "str_ascii_iterator" := by
      unfold strIterType
      split
      · exact .inr rfl
      · exact .inl rfl
    rcases hty with e | e <;> rw [e]
    · exact Walks.strWide hh s₁.heap.objs.size y t
    · exact Walks.strAscii hh s₁.heap.objs.size y t
  refine LCg.block_U (S := fun _ => True) W hsz (fun i h ⟨o, e, _⟩ => ⟨o, e⟩) (fun i h h' o nw st e e' _ _ _ => ?_) hcell hkind hx ⟨_, Heap.get?_push_size _ rfl, rfl, rfl⟩ (fun b hb => ?_)
    (F.keeps fun _ _ e => Heap.get?_push_of_some _ e) (N.grown fun _ _ e => Heap.get?_push_of_some _ e) (Nat.ne_of_lt F.ns.lt) (next_is_new F) (fun p hp => Nat.ne_of_lt (Heap.lt_size (N p hp).1)) trivial (R _) ?_
  · (refine ex1 (st) fun o' hE9 => an2 hE9 ?_; clear hE9; intro q r; (try clear st))
    rw [e] at q
    cases q
    exact ⟨o, e', r⟩
  · rw [List.mem_singleton.mp hb]
    show s₁.heap.objs.size < (s₁.heap.push _).objs.size
    rw [Heap.size_push]; exact Nat.lt_succ_self _
  · intro D C h tk m' ys news' F' N' o1 hn hC₀ hD₀ hCL hDL hCD offC fin
    refine ⟨m', hn, fun h'' hs'' => fin D h'' tk (F'.change hs'' hCL hC₀) (fun p hp => ?_) o1⟩
    refine ⟨hs''.extBut _ _ ?_ (N' p hp).1, (N' p hp).2⟩
    rcases List.mem_cons.mp hp with rfl | hp
    · exact Ne.symm hCD
    · exact offC p hp
theorem forStr {x : Str} {body : List Stmt} {Q : Flow → Shared → Prop} (y : Str) {t : Tok} (J : Nat → (Str → Option Value) → List (Addr × Obj) → Prop) (hh : A.handled = none) (hLe : env.locals = L)
    (F : Fr h₀ L s.heap m) {news : List (Addr × Obj)} (N : News h₀ L s.heap news) (hJ : J 0 m news)
    (step : ∀ i c u m news I o h tk, y.cps[i]? = some c → J i m news → (∀ q ∈ news, q.1 ≠ I) → Fr h₀ L h (fun z => if z = x then some (.str ⟨#[c]⟩ u) else m z) → News h₀ L h ((I, o) :: news) →
      wpAny (model prog w) A (execs body env) (TurnedF h₀ L I o (J (i + 1)) s) (fun _ _ => False) { s with heap := h, toks := tk })
    (fin : ∀ h tk m news, J y.cps.size m news → Fr h₀ L h m → News h₀ L h news → Q .next { s with heap := h, toks := tk }) :
    wpAny (model prog w) A (pyIter (.str y t)) (fun it s₂ => LoopAtV prog w A h₀ env x body Q E it s₂) E s := by
  subst hLe
  refine wpAny_pyIter_strU ?_
  have W : Walks prog w A s.heap.objs.size [s.heap.objs.size] [s.heap.objs.size] y.cps.size (SignAt y) (fun i h => h.IsStrIter s.heap.objs.size (strIterType y) y t i) := by
    have hty : strIterType y = "str_iterator" ∨ strIterType y = "str_ascii_iterator" := by
      unfold strIterType
      split
      · exact .inr rfl
      · exact .inl rfl
    rcases hty with e | e <;> rw [e]
    · exact Walks.strWide hh s.heap.objs.size y t
    · exact Walks.strAscii hh s.heap.objs.size y t
  refine forW W J (Nat.ne_of_gt F.ns.lt) (.head _) (fun b hb => .inl (List.mem_singleton.mp hb)) (next_is_new F) (fun p hp => Nat.ne_of_lt (Heap.lt_size (N p hp).1)) (fun i h ⟨o, e, _⟩ => ⟨o, e⟩)
    ⟨_, Heap.get?_push_size _ rfl, rfl, rfl⟩ (F.push _) (fun q hq => N.push F _ rfl q (.tail _ hq)) hJ ?_ ?_
  · intro i v m news o h tk hi hJ9p8 hJ off F' N'
    (refine ex2 (hJ9p8) fun c u hE9 => an2 hE9 ?_; clear hE9; rintro hc rfl; (try clear hJ9p8))
    exact step i c u m news _ o h tk hc hJ off F' N'
  · intro h tk m news hJ F' N'
    exact fin h tk m news hJ F' N'
end
end
section -- KC3
/-! comprehensions that take one item out of each triple of a list -/
def TripsAt (h : Heap) (vs : List Value) (ts : List (Value × Value × Value)) : Prop :=
  vs.length = ts.length ∧ ∀ (i : Nat) (v : Value), vs[i]? = some v → ∃ t a b c, v = .ref t ∧ ts[i]? = some (a, b, c) ∧ h.get? t = some (tup3 a b c)
section
variable {prog : Program} {w : World} {A : Around} {E : Value → Shared → Prop} {s : Shared} {env : Env}
def TripSrc (pick : Value → Value → Value → Value) (Q : Value → Shared → Prop) (xv : Value) (s₁ : Shared) : Prop :=
  ∃ la vs n ts, xv = .ref la ∧ s₁.heap.get? la = some (W.listOf vs.toArray n) ∧ TripsAt s₁.heap vs ts ∧ vs.length ≤ 1000 ∧
    ∀ D h' tk, s₁.heap.get? D = none → (∀ b o, s₁.heap.get? b = some o → h'.get? b = some o) → h'.get? D = some (LCg.lst (ts.map fun t => pick t.1 t.2.1 t.2.2)) → Q (.ref D) { s₁ with heap := h', toks := tk }
theorem comp3 {e x y z : Str} {iter : PySem.Expr} {pe px py pz tp pos : Pos} {tk : Nat} {scope : Scope} {cl : List (Str × Addr)} {Q : Value → Shared → Prop} (pick : Value → Value → Value → Value) (hh : A.handled = none)
    (hclos : closureFor scope env = pure cl) (hcell : ∀ y ∈ scope.names, y.2 ≠ .cell) (hkind : scope.kind = .function)
    (hnames : ∀ y ∈ scope.names, y.2 = .local → scope.names.lookup y.1 = some .local) (hx : scope.names.lookup x = some .local) (hy : scope.names.lookup y = some .local) (hz : scope.names.lookup z = some .local) (he : scope.names.lookup e = some .local)
    (hpick : ∀ (m : Str → Option Value) a b c, (fun q => if q = z then some c else if q = y then some b else if q = x then some a else m q) e = some (pick a b c)) (hd : (e == ("__debug__" : Str)) = false)
    (h : wpAny (model prog w) A (eval iter env) (TripSrc pick Q) E s)
    (hs : ∀ x, foldedSetIterable iter env x = pure x := by intro _; rfl) :
    wpAny (model prog w) A (eval (.ListComp (.Name e pe) [⟨.Tuple [.Name x px, .Name y py, .Name z pz] tk tp, iter, [], 0⟩] scope pos) env) Q E s := by
  rw [eval_ListComp]
  refine wpAny_comprehension_free (use := none) rfl hs hclos hkind hnames (wpAny_mono h (fun xv s₁ h₁ => ?_) fun _ _ e => e)
  (refine ex4 (h₁) fun la vs n ts hE9 => an5 hE9 ?_; clear hE9; rintro rfl hla hT hsz fin; (try clear h₁))
  have hl : s₁.heap.IsList la vs.toArray := ⟨_, hla, rfl, _, rfl⟩
  have hlt : la < s₁.heap.objs.size := Heap.lt_size hla
  refine wpAny_pyIter_list hl (wpAny_newObj_type (wpAny_newFunctionEnv hcell (by intro y hy; simp at hy) (fun h₁ hns₁ hsb₁ => ?_) hkind))
  dsimp only at hns₁ hsb₁ ⊢
  simp only [Heap.size_push] at hns₁ hsb₁ ⊢
  generalize hI : s₁.heap.objs.size = I at *
  have old : ∀ b o, s₁.heap.get? b = some o → h₁.get? b = some o := fun b o e => by
    have hb : b < I := hI ▸ Heap.lt_size e
    exact hsb₁.extBut b o (Nat.ne_of_lt (Nat.lt_succ_of_lt (Nat.lt_succ_of_lt hb))) (Heap.get?_push_of_some _ (Heap.get?_push_of_some _ (Heap.get?_push_of_some _ e)))
  have hit : h₁.IsListIter I la 0 := by
    refine ⟨_, hsb₁.extBut _ _ (Nat.ne_of_lt (Nat.lt_succ_of_lt (Nat.lt_succ_self _))) (Heap.get?_push_of_some _ (Heap.get?_push_of_some _ (hI ▸ Heap.get?_push_size _ rfl))), rfl, rfl⟩
  have hacc : h₁.get? (I + 1) = some (LCg.lst []) := by
    refine hsb₁.extBut _ _ (Nat.ne_of_lt (Nat.lt_succ_self _)) (Heap.get?_push_of_some _ ?_)
    have := Heap.get?_push_size (s₁.heap.push { cls := .type "list_iterator", data := .fields #[.ref la, .int 0 0] }) (o := LCg.lst []) rfl
    rw [Heap.size_push, hI] at this
    exact this
  have none₁ : ∀ b, I ≤ b → s₁.heap.get? b = none := fun b hb => by
    cases q : s₁.heap.get? b with
    | none => rfl
    | some o => exact absurd (Heap.lt_size q) (Nat.not_lt.mpr (hI ▸ hb))
  have cI : ¬ (I + 1 + 1 = I) := by omega
  have dI : ¬ (I + 1 = I) := by omega
  have dC : ¬ (I + 1 = I + 1 + 1) := by omega
  have W : Walks prog w A I [I, la] [I] vs.toArray.size _ _ := Walks.list hh I la (Nat.ne_of_lt hlt) vs.toArray
  have loop : ∀ s₃ : Shared, s₃ = { s₁ with heap := h₁, toks := s₁.toks + ([] : List (Str × Value)).length } →
      codeAny (model prog w) A (.compLoop (.ListComp (.Name e pe) [⟨.Tuple [.Name x px, .Name y py, .Name z pz] tk tp, iter, [], 0⟩] scope pos) 0 (.ref I) (.ref (I + 1)) (compEnvC scope cl (I + 1 + 1) env))
        (compPost (model prog w) A E none Q (.ref (I + 1)) (I + 1 + 1)) s₃ := by
    rintro s₃ rfl
    refine LCp.codeAny_compLoop_pair
      (fun k s' => ∃ h' tk i m', s' = { s₁ with heap := h', toks := tk } ∧ i ≤ vs.length ∧ k = vs.length + 1 - i ∧ (∀ b o, s₁.heap.get? b = some o → h'.get? b = some o) ∧ h'.IsListIter I la i ∧
        h'.get? (I + 1) = some (LCg.lst ((ts.take i).map fun t => pick t.1 t.2.1 t.2.2)) ∧ h'.Ns (I + 1 + 1) m') ?_ (vs.length + 1)
      ⟨h₁, _, 0, _, rfl, Nat.zero_le _, rfl, old, hit, hacc, hns₁⟩
    intro k s' hJ9p2
    (refine ex4 (hJ9p2) fun h' tk' i m' hE9 => an7 hE9 ?_; clear hE9; rintro rfl hi rfl kp hI' hD' hn'; (try clear hJ9p2))
    have hl' : h'.IsList la vs.toArray := ⟨_, kp _ _ hla, rfl, _, rfl⟩
    by_cases hlt' : i < vs.length
    · refine W.item i _ _ _ (by rw [List.size_toArray]; exact hlt') ⟨hI', hl'⟩ fun v h₂ tk₂ hv hst₂ hk₂ => ?_
      (refine ex4 (hT.2 i v (by simpa using hv)) fun t a b c hE9 => an3 hE9 ?_; clear hE9; rintro rfl hts ht)
      have k2 : ∀ b o, s₁.heap.get? b = some o → h₂.get? b = some o := fun b o e => hk₂ b o (fun q => by rw [List.mem_singleton.mp q, none₁ I (Nat.le_refl _)] at e; cases e) (kp b o e)
      refine wpAny_letOwnedTupleGo_listiter hst₂.1 ?_
      refine assign_Tuple_tuple hh ⟨_, k2 _ _ ht, rfl, _, rfl⟩ rfl rfl fun h₅ he₅ => ?_
      have k5 : ∀ b o, h₂.get? b = some o → h₅.get? b = some o := fun b o e => he₅ b o (Nat.ne_of_lt (Heap.lt_size e)) e
      have hn5 : h₅.Ns (I + 1 + 1) m' := (hn'.at' fun o e => hk₂ _ o (fun q => absurd (List.mem_singleton.mp q) cI) e).at' fun o e => k5 _ o e
      have hkl : ((compEnvC scope cl (I + 1 + 1) env).scope.kind == .class || ((compEnvC scope cl (I + 1 + 1) env).scope.kind == .module && (compEnvC scope cl (I + 1 + 1) env).locals != (compEnvC scope cl (I + 1 + 1) env).globals)) = false := by simp [compEnvC, relabel, hkind]
      refine assignInOrder_cons (wpAny_assign_Name (wpAny_storeName_local (lookup_relabel_local hx) hn5 (fun h₆ hn₆ hs₆ => ?_) hkl))
      refine assignInOrder_cons (wpAny_assign_Name (wpAny_storeName_local (lookup_relabel_local hy) hn₆ (fun h₇ hn₇ hs₇ => ?_) hkl))
      refine assignInOrder_cons (wpAny_assign_Name (wpAny_storeName_local (lookup_relabel_local hz) hn₇ (fun h₈ hn₈ hs₈ => ?_) hkl))
      refine assignInOrder_nil ?_
      have back : ∀ b o, b ≠ I + 1 + 1 → h₂.get? b = some o → h₈.get? b = some o := fun b o hb e => hs₈.extBut b o hb (hs₇.extBut b o hb (hs₆.extBut b o hb (k5 b o e)))
      refine ldVarK hn₈ (hpick _ a b c) ?_ (by simp [compEnvC, relabel, hkind]) (lookup_relabel_local he) hd
      have hD8 := back _ _ dC (hk₂ _ _ (fun q => dI (List.mem_singleton.mp q)) hD')
      refine append_at hD8 (fun h₉ hs₉ hD₉ => ?_) (by rw [List.size_toArray, List.length_map, List.length_take, sizeLine_eq]; omega)
      refine ⟨vs.length + 1 - (i + 1), by (with_reducible exact s10 (by assumption)), h₉, _, i + 1, _, rfl, hlt', rfl, fun b o e => ?_, ?_, ?_, hn₈.sameBut hs₉ (Ne.symm dC)⟩
      · have hb : b < I := hI ▸ Heap.lt_size e
        exact hs₉.extBut b o (Nat.ne_of_lt (Nat.lt_succ_of_lt hb)) (back b o (Nat.ne_of_lt (Nat.lt_succ_of_lt (Nat.lt_succ_of_lt hb))) (k2 b o e))
      · exact (hst₂.1.at fun o e => back _ o (fun q => cI q.symm) e).at fun o e => hs₉.extBut _ o (fun q => dI q.symm) e
      · rw [hD₉, LCg.lst_snoc, List.take_add_one, hts]
        simp
    · have hi' : i = vs.length := Nat.le_antisymm hi (Nat.not_lt.mp hlt')
      subst hi'
      refine W.done _ _ _ ⟨by simpa using hI', hl'⟩ fun h₂ tk₂ hk₂ => ?_
      have k2 : ∀ b o, s₁.heap.get? b = some o → h₂.get? b = some o := fun b o e => hk₂ b o (fun q => by rw [List.mem_singleton.mp q, none₁ I (Nat.le_refl _)] at e; cases e) (kp b o e)
      have hD2 := hk₂ _ _ (fun q => dI (List.mem_singleton.mp q)) hD'
      rw [hT.1, List.take_length] at hD2
      refine ⟨m', hn'.at' fun o e => hk₂ _ o (fun q => cI (List.mem_singleton.mp q)) e, fun h'' hs'' => fin (I + 1) h'' tk₂ (none₁ _ (Nat.le_succ _)) (fun b o e => hs''.extBut b o (fun q => by rw [q, none₁ _ (Nat.le_succ_of_le (Nat.le_succ _))] at e; cases e) (k2 b o e)) (hs''.extBut _ _ dC hD2)⟩
  exact codeAny_compStart_list (loop _ rfl) (W.self 0 _ _ _ ⟨hit, ⟨_, old _ _ hla, rfl, _, rfl⟩⟩ (loop _ rfl))
theorem off1_of {D : Addr} : ∀ {l : List (Addr × Obj)}, (∀ p ∈ l, p.1 ≠ D) → LCg.Off1 D l
  | [], _ => trivial
  | _ :: _, h => ⟨h _ List.mem_cons_self, off1_of fun p hp => h p (List.mem_cons_of_mem _ hp)⟩
theorem TripSrc.intro {pick : Value → Value → Value → Value} {Q : Value → Shared → Prop} {g : Heap} {L la : Addr} {m : Str → Option Value} {news : List (Addr × Obj)} {vs : List Value} {n : Nat} {ts : List (Value × Value × Value)} (F : Fr g L s.heap m) (N : News g L s.heap news) (hm : (la, W.listOf vs.toArray n) ∈ news) (hT : TripsAt s.heap vs ts) (hz : vs.length ≤ 1000)
    (h : ∀ D h' tk, Fr g L h' m → News g L h' ((D, LCg.lst (ts.map fun t => pick t.1 t.2.1 t.2.2)) :: news) → LCg.Off1 D news → (∀ b o, s.heap.get? b = some o → h'.get? b = some o) → Q (.ref D) { s with heap := h', toks := tk }) : TripSrc pick Q (.ref la) s := by
  refine ⟨la, vs, n, ts, rfl, (N _ hm).1, hT, hz, fun D h' tk hD hk hD2 => h D h' tk (F.after hk) (fun q hq => ?_) (off1_of fun p hp e => ?_) hk⟩
  · rcases List.mem_cons.mp hq with rfl | hq
    · refine ⟨hD2, fun e => ?_, ?_⟩
      · (refine ex3 (F.ns) fun oL _ _ hE9 => an2 hE9 ?_; clear hE9; intro hL _)
        rw [show D = L from e, hL] at hD; cases hD
      · cases q : g.get? D with
        | none => rfl
        | some o => rw [F.keep _ _ q] at hD; cases hD
    · exact ⟨hk _ _ (N q hq).1, (N q hq).2⟩
  · have := (N p hp).1
    rw [e, hD] at this; cases this
end
end
section -- KI
/-! ints as octets -/
theorem and_shift {x b : Int} (hx : 0 ≤ x) (hb : 0 ≤ b) (hb2 : b < 256) : Builtin.bitAnd (x * 256) b = 0 := by
  refine hide fun G9 k9 => ?_
  obtain ⟨X, rfl⟩ := Int.eq_ofNat_of_zero_le hx
  refine k9 ?_
  clear k9 G9
  refine hide fun G9 k9 => ?_
  obtain ⟨B, rfl⟩ := Int.eq_ofNat_of_zero_le hb
  refine k9 ?_
  clear k9 G9
  have hB : B < 2 ^ 8 := by omega
  have e : Nat.land (X * 256) B = 0 := by
    show (X * 2 ^ 8) &&& B = 0
    refine Nat.eq_of_testBit_eq fun i => ?_
    rw [Nat.testBit_and, Nat.testBit_mul_two_pow, Nat.zero_testBit]
    by_cases hi : 8 ≤ i
    · rw [Nat.testBit_lt_two_pow (Nat.lt_of_lt_of_le hB (Nat.pow_le_pow_right (by decide) hi)), Bool.and_false]
    · simp [hi]
  unfold Builtin.bitAnd
  have h1 : (0 : Int) ≤ (X : Int) * 256 := by omega
  have h2 : ((X : Int) * 256).toNat = X * 256 := by (with_reducible exact s72 (by assumption))
  simp [h1, h2]
  exact e
theorem or_shift {x b : Int} (hx : 0 ≤ x) (hb : 0 ≤ b) (hb2 : b < 256) : Builtin.bitOr (x * 256) b = x * 256 + b := by rw [bitOr_and, and_shift hx hb hb2]; omega
theorem Calls7.weaken {prog : Program} {w : World} {A : Around} {f : Addr} {args : List Value} {s : Shared} {W : List Addr} {P P' : Value → Heap → Prop} (c : Calls7 prog w A f args s W P) (h : ∀ v h, P v h → P' v h) : Calls7 prog w A f args s W P' :=
  fun R ret => c R fun v h' tk' p k z => ret v h' tk' (h v h' p) k z
theorem pow256_pos (z : Nat) : (0 : Int) < 256 ^ z := Int.pow_pos (by decide)
/-- what is left of n after i octets, and its octets -/
def restAt (n : Int) (z : Nat) (i : Nat) : Int := n % 256 ^ z / 256 ^ i
def octsAt (n : Int) (z : Nat) (i : Nat) : List Int := (List.range i).map fun j => restAt n z j % 256
theorem restAt_zero (n : Int) (z : Nat) : restAt n z 0 = n % 256 ^ z := by simp [restAt]
theorem restAt_succ (n : Int) (z i : Nat) : restAt n z (i + 1) = restAt n z i / 256 := by
  unfold restAt
  rw [Int.pow_succ, Int.ediv_ediv_of_nonneg (Int.le_of_lt (pow256_pos i))]
theorem octsAt_succ (n : Int) (z i : Nat) : octsAt n z (i + 1) = octsAt n z i ++ [restAt n z i % 256] := by simp [octsAt, List.range_succ]
theorem octsAt_len (n : Int) (z i : Nat) : (octsAt n z i).length = i := by simp [octsAt]
theorem octsAt_lt {n : Int} {z i : Nat} : ∀ x ∈ octsAt n z i, 0 ≤ x ∧ x < 256 := fun x hx => by
  (refine ex1 (List.mem_map.mp hx) fun j hE9 => an2 hE9 ?_; clear hE9; rintro _ rfl)
  exact ⟨Int.emod_nonneg _ (by decide), Int.emod_lt_of_pos _ (by decide)⟩
theorem intsAre_snoc {vs : List Value} {ns : List Int} {n : Int} {t : Tok} (h : IntsAre vs ns) : IntsAre (vs ++ [.int n t]) (ns ++ [n]) := h.append (.cons n t .nil)
end
section -- KP
section
variable {prog : Program} {w : World} {A : Around} {E : Value → Shared → Prop} {s : Shared}
theorem keys_miss : typeLookup (.type "list") "keys" = pure none := by rw [typeLookup_type, builtinLookup_eq_fast]; kernel_rfl
theorem noKeys {a : Addr} {o : Obj} {xs : Array Value} {k : Nat} {Q : Option Value → Shared → Prop}
    (hx : s.heap.get? a = some o) (hc : o.cls = .type "list") (hdat : o.data = .seq xs k) (hd : o.dict = none) (hA : A.handled = none)
    (h : ∀ h' tk, (∀ b o, s.heap.get? b = some o → h'.get? b = some o) → Q none { s with heap := h', toks := tk }) : wpAny (model prog w) A (getAttr? (.ref a) "keys") Q E s := by
  (refine hide fun G9 k9 => ?_; obtain ⟨cls, dict, data, sl⟩ := o; refine k9 ?_; clear k9 G9)
  obtain rfl : cls = _ := hc
  obtain rfl : data = _ := hdat
  obtain rfl : dict = _ := hd
  (refine hide fun G9 k9 => ?_; obtain ⟨hp, g, d, tk, os⟩ := s; refine k9 ?_; clear k9 G9)
  have hT : ∀ tk', (⟨hp, g, d, tk', os⟩ : Shared).TypeIs (.ref a) "list" := fun _ => ⟨_, hx, rfl⟩
  have f1 := sub_AttributeError
  have f3 := F.slot_list_getattribute.lookup
  have f4 := F.slot_list_getattribute.bind (.ref a)
  have f5 := am_list_getattr_none
  unfold getAttr? getAttrBy?
  repeat (any_goals (first | assumption | exact hT _ | ((with_reducible show wpAny _ _ (call (Value.builtin "list.__getattribute__") _ _) _ _ _); refine call_meets F.slot_list_getattribute (hT _) am_entry_list_getattribute (F.args_list_getattribute_2 _ _) (meets_getattribute_miss_list a xs k sl "keys" _ keys_miss (by decide) (by size_fits)) ⟨hx, hA, fun h' tk' e hx' => ?_⟩) | wp_step))
  (refine ex2 (hx'.there) fun t' u' hE9 => ?_; revert hE9; intro he)
  show wpAny _ _ (getattributeRaised _ _ _ _ _ _ _) _ _ _
  unfold getattributeRaised
  repeat (any_goals (first | assumption | wp_step))
  exact h _ _ fun b o e => hx'.1 b o e
theorem plain_loop : plainId "dict.update.loop" = true := by decide +kernel
theorem entry_loop : entryFor table "dict.update.loop" = some Builtin.«dict.update.loop» := entryFor_of_tree (by kernel_rfl)
/-- a list of pairs, whose first items are ints -/
def PairsAt (h : Heap) (vs : List Value) (ps : List (Int × Value)) : Prop :=
  vs.length = ps.length ∧ ∀ (i : Nat) (v : Value), vs[i]? = some v → ∃ t k tk x, v = .ref t ∧ ps[i]? = some (k, x) ∧ h.get? t = some (tup2 (.int k tk) x)
theorem pairs_loop {R : Result → Shared → Prop} {d la I : Addr} {vs : List Value} {ps : List (Int × Value)} (hh : A.handled = none) (hne : la ≠ I) (hdI : d ≠ I) (hz : ps.length ≤ 1000) (result : Value) :
    ∀ (k i : Nat) (s : Shared) (ti : Tok), i + k = vs.length → PairsAt s.heap vs ps → (∀ (i : Nat) (v : Value), vs[i]? = some v → v ≠ .ref I ∧ v ≠ .ref d) → s.heap.IsListIter I la i → s.heap.IsList la vs.toArray → la ≠ d → s.heap.DictOf (intKind prog w) d (merged [] (ps.take i)) →
      (∀ h' tk, h'.DictOf (intKind prog w) d (merged [] ps) → (∀ b o, b ≠ I → b ≠ d → s.heap.get? b = some o → h'.get? b = some o) → R (.ok (.ret result)) { s with heap := h', toks := tk }) →
      codeAny (model prog w) A (.builtin "dict.update.loop" ⟨[.ref d, .ref I, .int i ti, result], []⟩) R s := by
  intro k
  induction k with
  | zero =>
    intro i s ti hi hP hnv hI hl hld hd hR
    refine codeAny_builtin entry_loop ?_
    rw [Around.under_plainId plain_loop _]
    have W := Walks.list (prog := prog) (w := w) (A := A.in1) hh I la hne vs.toArray
    show wpAny _ A.in1 (pyNext (.ref I) >>= _) _ _ s
    have hi' : i = vs.toArray.size := by rw [List.size_toArray]; omega
    subst hi'
    refine wpAny_bind (W.done s _ _ ⟨hI, hl⟩ fun h' tk hk => ?_)
    show wpAny _ _ (Builtin.Dict.addKeywords d [] >>= _) _ _ _
    have hd' : h'.DictOf (intKind prog w) d (merged [] ps) := by
      have := Heap.DictOf.at hd (fun o e => hk d o (by simpa using hdI) e)
      rwa [List.take_of_length_le (by rw [← hP.1]; simp)] at this
    exact wpAny_bind (wpAny_pure (wpAny_pure (hR h' tk hd' fun b o h1 _ e => hk b o (by simpa using h1) e)))
  | succ k ih =>
    intro i s ti hi hP hnv hI hl hld hd hR
    refine codeAny_builtin entry_loop ?_
    rw [Around.under_plainId plain_loop _]
    have W := Walks.list (prog := prog) (w := w) (A := A.in1) hh I la hne vs.toArray
    show wpAny _ A.in1 (pyNext (.ref I) >>= _) _ _ s
    refine wpAny_bind (W.item i s _ _ (by rw [List.size_toArray]; (with_reducible exact s2 (by assumption))) ⟨hI, hl⟩ fun v h' tk hv hst hk => ?_)
    (refine ex4 (hP.2 i v (by simpa using hv)) fun t kk tk' x hE9 => an3 hE9 ?_; clear hE9; rintro rfl hp ht)
    have ht' : h'.get? t = some (tup2 (.int kk tk') x) := hk _ _ (fun hm => (hnv i _ (by simpa using hv)).1 (by rw [List.mem_singleton.mp hm])) ht
    refine wpAny_bind (wpAny_holding (wpAny_bind (wpAny_tryCatch ?_)))
    unfold Builtin.Dict.pairItems
    have hT : ({ s with heap := h', toks := tk } : Shared).TypeIs (.ref t) "tuple" := ⟨_, ht', rfl⟩
    refine wpAny_bind (wpAny_typeOf hT ?_)
    refine wpAny_bind (wpAny_seqItems ht' rfl (wpAny_pure ?_))
    show wpAny _ _ (holding [.int kk tk', x] (dictSet d (.int kk tk') x)) _ _ _
    refine wpAny_holding ?_
    unfold dictSet
    refine wpAny_holding (wpAny_bind (wpAny_pyHash_int ?_))
    have hd' : h'.DictOf (intKind prog w) d (merged [] (ps.take i)) := Heap.DictOf.at hd (fun o e => hk d o (by simpa using hdI) e)
    refine wpAny_dictSetHashed_pairs (knd := intKind prog w) (k := kk) (intKind_is prog w kk tk') hd' (fun h'' hd'' hs'' => ?_) (Nat.le_trans (merged_length_le _ _) (by rw [sizeLine_eq]; simp only [List.length_nil, List.length_take]; (with_reducible exact s95 (by assumption))))
    refine wpAny_pure ⟨plainId_quiet plain_loop _, ?_⟩
    rw [← merged_take_succ [] ps i (kk, x) hp] at hd''
    have kp : ∀ b o, b ≠ I → b ≠ d → s.heap.get? b = some o → h''.get? b = some o := fun b o h1 h2 e => (hs''.2 b h2).trans (hk b o (by simpa using h1) e)
    refine ih (i + 1) _ _ (by (with_reducible exact s1 (by assumption))) ⟨hP.1, fun j v hv => ?_⟩ hnv ?_ ?_ hld hd'' fun h3 tk3 hd3 hk3 => hR h3 tk3 hd3 fun b o h1 h2 e => hk3 b o h1 h2 (kp b o h1 h2 e)
    · (refine ex4 (hP.2 j v hv) fun t2 k2 tk2 x2 hE9 => an3 hE9 ?_; clear hE9; rintro rfl e1 e2)
      exact ⟨t2, k2, tk2, x2, rfl, e1, kp _ _ (fun q => (hnv j _ hv).1 (by rw [q])) (fun q => (hnv j _ hv).2 (by rw [q])) e2⟩
    · exact hst.1.at fun o e => (hs''.2 I (Ne.symm hdI)).trans e
    · exact hst.2.at fun o e => (hs''.2 la hld).trans e
/-- dict(a list of pairs) -/
theorem dict_pairs {la : Addr} {o : Obj} {n : Nat} {vs : List Value} {ps : List (Int × Value)} {Q : Value → Shared → Prop} (hh : A.handled = none) (hla : s.heap.get? la = some o) (ho : o = W.listOf vs.toArray n)
    (hP : PairsAt s.heap vs ps) (hz : ps.length ≤ 1000) (hnd : (ps.map (·.1)).Nodup)
    (h : ∀ h' tk, h'.DictOf (intKind prog w) s.heap.objs.size ps → (∀ b o, s.heap.get? b = some o → h'.get? b = some o) → Q (.ref s.heap.objs.size) { s with heap := h', toks := tk }) :
    wpAny (model prog w) A (call (.type "dict") [.ref la]) Q E s := by
  subst ho
  have hval : ∀ (i : Nat) (v : Value), vs[i]? = some v → ∃ t, v = .ref t ∧ t < s.heap.objs.size := fun i v hv => by
    (refine ex4 (hP.2 i v hv) fun t k tk x hE9 => an3 hE9 ?_; clear hE9; rintro rfl _ e)
    exact ⟨t, rfl, Heap.lt_size e⟩
  refine callType_codes (Q₁ := fun obj s₁ => obj = .ref s.heap.objs.size ∧ s₁ = { s with heap := s.heap.push { cls := .type "dict", data := .dict #[] } }) F.kt_called_dict (F.kt_typeCall_dict_1 _) F.entry_dict_init (kt_code_dict_new _ ⟨rfl, rfl⟩) ?_
  intro obj s₁ hJ9p2
  refine hide fun G9 k9 => ?_
  obtain ⟨rfl, rfl⟩ := hJ9p2
  refine k9 ?_
  clear k9 G9
  have hnew : (s.heap.push { cls := .type "dict", data := .dict #[] }).DictOf (intKind prog w) s.heap.objs.size [] := Heap.DictOf.new s.heap
  refine ⟨hnew.typeIs, F.args_dict_init_2 _ _, ?_⟩
  unfold Builtin.«dict.__init__»
  refine wpAny_bind ?_
  unfold Builtin.Dict.selfAndRest
  refine wpAny_bind (wpAny_notOrdered_dict hnew.typeIs ?_)
  show wpAny _ _ (pure (s.heap.objs.size, [Value.ref la])) _ _ _
  refine wpAny_pure ?_
  show wpAny _ _ (Builtin.Dict.updateFrom "dict.__init__" s.heap.objs.size (.ref la) [] .none) _ _ _
  unfold Builtin.Dict.updateFrom
  have hl1 : (s.heap.push { cls := .type "dict", data := .dict #[] }).get? la = some (W.listOf vs.toArray n) := Heap.get?_push_of_some _ hla
  refine wpAny_bind (wpAny_typeOf (T := "list") ⟨_, hl1, rfl⟩ ?_)
  rw [if_pos (by decide)]
  refine wpAny_bind (noKeys hl1 rfl rfl rfl hh fun h1 tk1 hk1 => ?_)
  simp only [Option.isNone_none, if_true]
  have hl2 : h1.IsList la vs.toArray := ⟨_, hk1 _ _ hl1, rfl, _, rfl⟩
  have hd1 : h1.DictOf (intKind prog w) s.heap.objs.size [] := hnew.at fun o e => hk1 _ o e
  have hdlt : s.heap.objs.size < h1.objs.size := by obtain ⟨_, _, _, e, _⟩ := hd1; exact Heap.lt_size e
  have hlalt : la < s.heap.objs.size := Heap.lt_size hla
  have kp : ∀ b o, s.heap.get? b = some o → (h1.push { cls := .type "list_iterator", data := .fields #[.ref la, .int 0 0] }).get? b = some o := fun b o e => Heap.get?_push_of_some _ (hk1 _ _ (Heap.get?_push_of_some _ e))
  refine wpAny_bind (wpAny_rule ?_)
  refine wpAny_bind (wpAny_pyIter_list hl2 ?_)
  refine wpAny_pure ⟨plainId_quiet plain_loop _, ?_⟩
  refine pairs_loop (A := A.in1) (vs := vs) (ps := ps) (la := la) (show A.in1.handled = none from hh) ?_ ?_ hz .none vs.length 0 _ _ (Nat.zero_add _) ?_ ?_ ?_ ?_ ?_ ?_ ?_
  · exact Nat.ne_of_lt (Nat.lt_trans hlalt hdlt)
  · exact Nat.ne_of_lt hdlt
  · refine ⟨hP.1, fun i v hv => ?_⟩
    (refine ex4 (hP.2 i v hv) fun t k tk x hE9 => an3 hE9 ?_; clear hE9; rintro rfl e1 e2)
    exact ⟨t, k, tk, x, rfl, e1, kp _ _ e2⟩
  · intro i v hv
    (refine ex1 (hval i v hv) fun t hE9 => an2 hE9 ?_; clear hE9; rintro rfl ht)
    exact ⟨fun e => by cases e; exact absurd (Nat.lt_trans ht hdlt) (Nat.lt_irrefl _), fun e => by cases e; exact absurd ht (Nat.lt_irrefl _)⟩
  · exact ⟨_, Heap.get?_push_size _ rfl, rfl, rfl⟩
  · exact hl2.push _
  · exact Nat.ne_of_lt hlalt
  · exact hd1.push _
  · refine fun h' tk hd hk => ⟨rfl, h h' tk ?_ fun b o e => ?_⟩
    · rwa [merged_nil_of_nodup ps hnd] at hd
    · have hb := Heap.lt_size e
      exact hk b o (Nat.ne_of_lt (Nat.lt_trans hb hdlt)) (Nat.ne_of_lt hb) (kp b o e)
end
end
section -- KH
open Sem (wp)

/-! The head for stacks without decoders: the caller's own stack is such a one. -/
theorem caller_clean : okCode (.builtin "claim.caller" {}) = true := by decide +kernel

theorem ends_clean {prog : Program} {w : World} {t : Sem Fin} {s : Shared} {R : Result → Shared → Prop} (hreg : s.asleep)
    (h : wpR (model prog w) callerA t (fun fin s' => ∃ f, fin = .done f ∧ (R (.ok f) s' ∧ AllBare s'.gens)) (fun e s' => R (.error e) s' ∧ AllBare s'.gens) s) :
    ∃ n r s' s'', runN (denote table) prog w n s ⟨t, .builtin "claim.caller" {}, default, []⟩ = .halted (outcomeOf r) s' ∧
      schedN (denote table) prog w n (.single s ⟨t, .builtin "claim.caller" {}, default, []⟩) = .halted (outcomeOf r) s' ∧ s'.forget = s''.forget ∧ R r s'' := by
  have hw := h ⟨.builtin "claim.caller" {}, none, none, [], none⟩ default caller_in caller_clean (fun _ hx => nomatch hx)
  refine hide fun G9 k9 => ?_
  obtain ⟨n, r, s₁, s₂, a, b, c, d⟩ := wp_halts_full (M := model prog w) (R := fun r s' => R r s') hreg
    (Sem.wp_mono (model prog w) _ t (fun fin p' s' x => by
      (refine ex1 (x) fun f hE9 => an3 hE9 ?_; clear hE9; rintro rfl x y)
      exact ⟨x, leftWithCleanup_false_of_bare y⟩) (fun e p' s' x => ⟨x.1, leftWithCleanup_false_of_bare x.2⟩) default s hw)
  refine k9 ?_
  clear k9 G9
  exact ⟨n, r, s₂, s₁, b, a, c, d⟩

/-- the walk's goal, said of clean stacks alone -/
abbrev WalkR (q : Program) (loose : List Str) (XP : (Str → Option Value) → Heap → Prop) (YP : World → Heap → Prop) (r : RowW) (d : DefRec) (kwd : List (Str × Expr)) (run : Value → List Value → Sem Value) : Prop :=
  ∀ (w : World) (s₀ s₁ : Shared) (mg mb : Str → Option Value) (h₀ : Heap), Ground q loose r.records XP w s₀ mg mb h₀ → YP w h₀ → h₀.StaysIn s₁.heap → ∀ (a : Addr), mg d.name = some (.ref a) → s₁.gens = #[] →
    ∀ (args : List WData) (vals : List Value) (as : List Addr), r.claim.pre args = true → WData.layableAll args = true → ReadsAllW r.records (classAt s₀.heap) s₁.heap vals args as → (∀ a ∈ as, h₀.get? a = none) → WellAll w.params s₁.heap vals args → (∀ a ∈ as, (a == sysModules) = false) →
      wpR (model r.prog w) callerA (run (.ref a) vals) (fun v s' => GoodWG r.claim (classAt s₀.heap) (ExcName.means s₀.heap) args s₁ (.ok (.ret v)) s')
        (fun e s' => GoodWG r.claim (classAt s₀.heap) (ExcName.means s₀.heap) args s₁ (.error e) s') s₁

theorem from_clean {c : ClaimW} {tree : List Value → Sem Fin} {w : World} {s : Shared} {free : Addr → Prop} {gens : Prop} {kept : Heap → Prop} (hz : s.asleep) (hgens : s.gens = #[])
    (h : ∀ args, c.pre args = true → WData.layableAll args = true → ∀ ord : List DictEntry → List DictEntry, (∀ l, (ord l).Perm l) →
      ∃ vs s₁, layAllW c.records (classAt s.heap) w.params ord args s = some (vs, s₁) ∧
        wpR (model c.prog w) callerA (tree vs) (fun fin s' => ∃ f, fin = .done f ∧ ((c.Ends s args vs s₁ (.ok f) s' ∧ s'.os = s.os ∧ kept s'.heap) ∧ AllBare s'.gens))
          (fun e s' => (c.Ends s args vs s₁ (.error e) s' ∧ s'.os = s.os ∧ kept s'.heap) ∧ AllBare s'.gens) s₁) :
    c.CallFrom (fun vs => ⟨tree vs, .builtin "claim.caller" {}, default, []⟩) w free gens kept s := by
  intro args hpre hlay ord hord
  (refine ex2 (h args hpre hlay ord hord) fun vs s₁ hE9 => an2 hE9 ?_; clear hE9; intro hlaid hcode)
  have hal := layAllW_rest _ _ _ hlaid
  refine hide fun G9 k9 => ?_
  obtain ⟨k, r, s', s'', hrun, hsched, hfo, hcase, hos, hkp⟩ := ends_clean (R := fun r s' => c.Ends s args vs s₁ r s' ∧ s'.os = s.os ∧ kept s'.heap) (Shared.asleep_of_life hal.2.2.2 hz) hcode
  refine k9 ?_
  clear k9 G9
  (refine an5 (Shared.forget_eq hfo) ?_; intro eh _ _ eo _)
  replace hcase := hcase.congr eh
  replace hkp : kept s'.heap := by rw [eh]; exact hkp
  rw [← eo] at hos
  refine ⟨vs, s₁, hlaid, k, _, s', hsched, ?_, (fun _ i x hx => by rw [hgens] at hx; simp at hx), hkp, by rw [(runN_life _ _ _ hrun).trans hal.2.2.2], Shared.rest_eq hos⟩
  rcases hcase with ⟨v, rfl, d1, d2, d3, d4, d5⟩ | ⟨e, ob, cls, rfl, d1, d2, d3, d4, d5⟩
  · exact .inl ⟨v, rfl, d1, d2, d3, fun b o y _ => d4 b o y, d5⟩
  · exact .inr ⟨e, ob, cls, rfl, d1, d2, d3, d4, fun b o y _ => d5 b o y⟩

namespace PySem.W
/-- the library's head of a law, from a walk over clean stacks -/
theorem holds_open {r : OpenRow} {q : Program} {loose : List Str} {Xt : Shared → Bool} {XP : (Str → Option Value) → Heap → Prop} {α : Type} {Yf : Shared → α} {Ya : World → α} {YP : World → Heap → Prop} {d : DefRec} {kwd : List (Str × Expr)} {N : Nat}
    (left : LeftO r.prog q loose Xt Yf Ya N) (hY : ∀ w s, Yf s = Ya w → YP w s.heap) (hYk : ∀ w h h', YP w h → (∀ b o, h.get? b = some o → h'.get? b = some o) → YP w h')
    (hX : ∀ s, Xt s = true → XP (s.heap.nsMap mainGlobals) s.heap) (hXk : ∀ mg h h', XP mg h → (∀ b o, h.get? b = some o → h'.get? b = some o) → XP mg h')
    (hdef : defOf q r.name = some (d, kwd)) (hp : r.prog.theDef r.name = some (d.params, d.body, d.scope)) (hk : kwWritten? d.params.kwonlyargs d.params.kw_defaults = some kwd) (hRf : ∀ s, Xt s = true → RecFacts r.records s.heap) (hwr : (!r.writes || r.records.isEmpty) = true)
    (k1 : r.wellSaid = true) (ok : (chainsOk q && opensWell r.prog && (frees r.toRowW && r.within.isEmpty)) = true) (hb : r.prog.bare) (hw : r.toRowW.promised)
    (call : WalkR q loose XP YP r.toRowW d kwd fun f vs => PySem.call f vs) : r.Holds := by
  refine hide fun G9 k9 => ?_
  obtain ⟨⟨hch, ho1⟩, hfr, hin⟩ : ((chainsOk q = true ∧ opensWell r.prog = true) ∧ frees r.toRowW = true ∧ r.within.isEmpty = true) := by simpa using ok
  refine k9 ?_
  clear k9 G9
  (refine an5 (frees_parts hfr) ?_; intro hsame hu ha hap hm)
  have hi := ident_freeW hu ha hap
  have hwi : r.toRowW.claim.within = [] := List.isEmpty_iff.mp hin
  have B := fun w => left.behind (XP := fun mg h => XP mg h ∧ RecFacts r.records h) (fun s hs => ⟨hX s hs, hRf s hs⟩) hch w
  refine ⟨k1, hw, ⟨hb, ho1, by show r.toRowW.makers.map _ = []; rw [hm]; rfl⟩, hw.witness, fun w => ⟨(B w).1, fun s' hs' => ?_⟩⟩
  (refine hide fun G9 k9 => ?_; obtain ⟨s₀, hf, hg0, s, hT, hz, hgens, hg, G0, y⟩ := (B w).2 s' hs'; refine k9 ?_; clear k9 G9)
  obtain ⟨X0, RF⟩ := G0.X
  have G1 : Ground q loose [] XP w s (s.heap.nsMap mainGlobals) (s.heap.nsMap builtinsNs) s.heap := ⟨G0.T, G0.B, G0.D, G0.TE, G0.TD, G0.W, X0, G0.cls, G0.has, G0.apart, G0.once, G0.K⟩
  have G : Ground q loose r.records XP w s _ _ s.heap := RF.ground G1
  have hgens : s.gens = #[] := Array.eq_empty_of_size_eq_zero (beq_iff_eq.mp hgens)
  refine ⟨s₀, hf, hg0, s, hT, fun n hn => ?_, RF.1, RF.2.1, from_clean (c := r.toRowW.claim) hz hgens fun args hpre hlay ord hord => ?_⟩
  · obtain rfl : n = r.name := by split at hn <;> simp_all
    exact pinned_of_view hg G1 hdef hp hk
  refine hide fun G9 k9 => ?_
  obtain ⟨⟨vs, s₁⟩, hlaid⟩ := Option.isSome_iff_exists.mp (layAllW_isSome (P := w.params) (ord := ord) G.has args r.args s (pre_splitW hpre).1)
  refine k9 ?_
  clear k9 G9
  have keeps := layAllW_keeps _ _ _ hlaid
  have hal := layAllW_rest _ _ _ hlaid
  (refine ex1 (reads_layAllW hord _ _ _ hlaid hlay s₁.heap (fun _ _ e => e)) fun as hE9 => an3 hE9 ?_; clear hE9; intro hrd hin' hold)
  have L : Laid r.records w s s₁ args vs as := ⟨⟨ord, hord, hlaid⟩, hrd, hin', hold, keeps, hal.1.trans hgens, hal.2.2.1⟩
  have G₁ := G.keeps hXk keeps
  (refine ex7 (G₁.fn hdef) fun a o pm cd doc dV kV hE9 => an5 hE9 ?_; clear hE9; intro h1 h2 h3 h4 h5)
  have hc := call w s s₁ _ _ s.heap G (hY w s y) keeps a (defOf_name hdef ▸ h1) L.gens args vs as hpre hlay L.reads (fun x hx => Heap.get?_none_of_le (L.within.2.2 x hx).1) L.well (L.low G.low)
  refine ⟨vs, s₁, hlaid, wpR_bindA (wpAny_nsGet G₁.T.g ?_)⟩
  rw [h1]
  refine wpR_bind (wpR_mono hc (fun v s' g => wpR_pure ⟨_, rfl, ?_⟩) fun e s' g => ?_)
  all_goals
    have z := g.laid (c := r.toRowW.claim) hsame hwi hi L
    exact ⟨⟨z.1, z.2.1, fun q => ⟨namesKept_of hT hg _ keeps g.2.1.old, noTable hwr q⟩⟩, z.2.2⟩
end PySem.W
end
set_option rowWalk.seconds 0
set_option hygiene false
local macro_rules | `(tactic| walk_at "exec Assign") => `(tactic| (k_dflt (refine asgN ?_ (Eq.refl (pure false)))))
local macro_rules | `(tactic| walk_at "execs cons") => `(tactic| first | (with_reducible refine seqRet ?_) | ((fail_if_success (with_reducible show wpAny _ _ (execs (Stmt.Assign _ (PySem.Expr.ListComp _ _ _ _) _ :: _) _) _ _ _)); first | ((with_reducible refine seqAsg ?_ ?sw); (case sw => k_dflt (exact Eq.refl (pure false)))) | ((with_reducible refine seqAtt ?_ ?sw); (case sw => k_dflt (exact Eq.refl (pure false)))) | ((with_reducible refine seqExp ?_ ?si ?sw); (case si => k_dflt rfl); (case sw => k_dflt (exact Eq.refl (pure false))))) | ((with_reducible refine wpAny_execs_cons ?_); try dsimp only))
local macro_rules | `(tactic| walk_at "eval Call") => `(tactic| (k_dflt (refine Call_ ?_)))
local macro_rules | `(tactic| walk_at "eval Call Attribute") => `(tactic| (k_dflt (refine MethodCall_ ?_)))
local macro_rules | `(tactic| walk_at "callWith") => `(tactic| (first | with_reducible refine callWith_method0 ?_ | ((with_reducible show wpAny _ _ (callWith _ (Value.builtin _) _ _ _) _ _ _); k_dflt (first | ((with_reducible show wpAny _ _ (callWith _ _ [] _ _) _ _ _); refine cwB ?_ rfl rfl) | ((with_reducible show wpAny _ _ (callWith _ _ [_] _ _) _ _ _); refine cwM ?_ rfl rfl) | refine callWith_method1 ?_)) | ((with_reducible show wpAny _ _ (callWith _ (Value.type _) _ _ _) _ _ _); (first | refine callWith_type1 ?_ | refine callWith_type0 ?_)) | (k_here; (with_reducible show wpAny _ _ (callWith _ (Value.ref _) _ _ _) _ _ _); k_dflt (first | ((with_reducible show wpAny _ _ (callWith _ _ [] _ _) _ _ _); refine' cwK ?k1 ?k2 ?_ rfl rfl; (case k1 => k_asm); (case k2 => k_is); k_whole) | (refine' cwK1 ?k1 ?k2 ?_ rfl rfl; (case k1 => k_asm); (case k2 => k_is); k_whole)))))
local macro_rules | `(tactic| walk_at "spliced") => `(tactic| (k_dflt (first | refine args_cons ?_ | refine args_nil ⟨Fr.keep (by assumption) _ _ (by assumption), ?_⟩ | (refine args_nil ?_; try simp only [List.cons_append, List.nil_append]))))
local macro_rules | `(tactic| walk_at "exec Expr") => `(tactic| (k_here; k_dflt (refine wpAny_Expr_any ?_)))
local macro_rules | `(tactic| walk_at "loadName") => `(tactic| (k_dflt (refine ldn (by k_asm) (by rfl) ?_)))
local macro_rules | `(tactic| walk_at "eval Name") => `(tactic| (k_here; (fail_if_success (with_reducible show wpAny _ _ (eval _ (compEnvC _ _ _ _)) _ _ _)); k_dflt (first
  | (refine' nameX_L ?F ?v ?_ ?a ?b; (case F => k_asm); (case a => rfl); (case b => exact Eq.refl (some _)); (case v => exact Eq.refl (some _)); k_whole)
  | (refine' nameX_K ?F ?X ?T ?e ?_ ?a ?b; (case F => k_asm); (case X => k_asm); (case T => k_asm); (case a => rfl); (case b => exact Eq.refl (some _)); (case e => k_is); k_whole)
  | (refine' nameX_B ?F ?X ?T ?e ?v ?n ?_ ?a ?b; (case F => k_asm); (case X => k_asm); (case T => k_asm); (case a => rfl); (case b => exact Eq.refl (some _)); (case e => k_is); (case v => boot_fast); (case n => decide); k_whole))))
local macro_rules | `(tactic| walk_at "isTrue Compare") => `(tactic| (with_reducible refine wpAny_isTrue_Compare1 ?_))
local macro_rules | `(tactic| walk_at "eval BinOp") => `(tactic| (with_reducible refine wpAny_BinOp ?_))
local macro_rules | `(tactic| walk_at "exec If") => `(tactic| (with_reducible refine wpAny_If ?_))
local macro_rules | `(tactic| walk_at "exec Return some") => `(tactic| (with_reducible refine wpAny_Return_some ?_))
local macro_rules | `(tactic| walk_at "eval IfExp") => `(tactic| (with_reducible refine IfExp_ ?_))
local macro_rules | `(tactic| walk_at "execs nil") => `(tactic| (with_reducible refine wpAny_execs_nil ?_))
local macro_rules | `(tactic| walk_at "eval Constant int") => `(tactic| (with_reducible refine cInt ?_))
local macro_rules | `(tactic| walk_at "eval Constant str") => `(tactic| (with_reducible refine cStr ?_))
local macro_rules | `(tactic| k_mem) => `(tactic| first | exact mem0 | exact mem1 | exact mem2 | exact mem3 | exact mem4 | exact mem5 | exact mem6 | exact mem7 | exact mem8 | exact mem9 | exact mem10 | exact mem11)
local macro_rules | `(tactic| k_get) => `(tactic| assumption)
local macro_rules | `(tactic| k_lt $h) => `(tactic| (replace $h := allLt_of $h))
local macro_rules | `(tactic| walk_at "lt") => `(tactic| with_reducible first | assumption | exact Nat.lt_succ_self _ | exact allLt_mem (by assumption) (by k_mem) | (refine Nat.lt_succ_of_lt ?_; walk_at "lt") | exact lt_by (by assumption) (allLt_mem (by assumption) (by k_mem)))
local macro_rules | `(tactic| k_all) => `(tactic| first | exact all0 | (refine' all1 ?a ?b; (case a => k_ne); (case b => k_all)))
local macro_rules | `(tactic| walk_at "ne") => `(tactic| with_reducible first | assumption | exact Ne.symm (by assumption) | exact off1_mem (by assumption) (by k_mem) | exact off1i (by assumption) (by k_mem) | exact off3I (by assumption) (by k_mem) | exact off3C (by assumption) (by k_mem) | exact off3D (by assumption) (by k_mem) | exact off3i (by assumption) (by k_mem) | exact off3c (by assumption) (by k_mem) | exact off3d (by assumption) (by k_mem) | exact Nat.ne_of_gt (by walk_at "lt") | exact Nat.ne_of_lt (by walk_at "lt"))
local macro_rules | `(tactic| k_ne) => `(tactic| first | walk_at "ne" | (refine neN ?_; (try dsimp only); first | walk_at "ne" | omega | (simp only [AllLt, LCg.Off1, LCg.Off3, and_true] at *; omega)))
set_option hygiene true
local macro_rules | `(tactic| walk_at "storeName") => `(tactic| (k_here; k_dflt (refine' stL ?F ?N ?_ ?a ?b; (case F => k_asm); (case N => k_asm); (case a => rfl); (case b => exact Eq.refl (some _)); k_whole; intro h' F' N'; (try k_sweep))))
section -- K2
set_option maxHeartbeats 2000000


/-- the key's column: none, or a place -/
inductive KeyV : Value → Option Int → Prop
  | none : KeyV .none none
  | int (i : Int) (t : Tok) : KeyV (.int i t) (some i)

def rowVal (key : Option Int) (p : Int) (rv : Value) (vs : List Value) : Value :=
  if p = -1 ∨ key = some p then rv else vs.getD p.toNat .none

theorem row_value_ok {w : World} {p : Program} {loose : List Str} {mean : ExcName → Option Value} {mg mb : Str → Option Value} {h₀ : Heap} {A : Around} {s : Shared} {tx tdx : Addr} {es : List DictEntry} {n : Nat} {kv : Value} {key : Option Int} {lv : Addr} {vs : List Value} {nv : Nat} {rv : Value} {pl : Int} {pt : Tok}
    (X : (Mine.myK w.params).In h₀) (T : Top p loose mean mg mb h₀) (st : h₀.StaysIn s.heap) (hroom : Room A 5) (hx : Live h₀ s.heap tx (instObj 915 tdx)) (hd : Live h₀ s.heap tdx (dictOf es n)) (hv : Live h₀ s.heap lv (listOf vs.toArray nv)) (hlen : vs.length < 2 ^ 60)
    (hk : getL "rowid_place" es = some (some kv)) (hkv : KeyV kv key) (hp : -1 ≤ pl) (hp2 : pl < 2 ^ 60) :
    Calls7 PySem.Challenge.rw_xm0772_01.row.prog w A 28 [.ref tx, .int pl pt, rv, .ref lv] s [] (fun v _ => v = rowVal key pl rv vs) := by
  intro R ret
  have hcalm := hroom.calm
  revert X; k_fill; intro X
  have hh0 : ∀ q ∈ ([(tx, instObj 915 tdx), (tdx, dictOf es n), (lv, listOf vs.toArray nv)] : List (Addr × Obj)), s.heap.get? q.1 = some q.2 ∧ h₀.get? q.1 = none := fmc hx (fmc hd (fmc hv (List.forall_mem_nil _)))
  k_dflt (refine' enter (binds := [(Str.ofString "table", .ref tx), (Str.ofString "place", .int pl pt), (Str.ofString "rowid", rv), (Str.ofString "values", .ref lv)]) _ X T st hh0 ?k6 ?k7 ?k8 ?k9 ?kB ?_ ?c2 ?c3 ?c4 ?c5)
  case k6 => k_is
  case k7 => k_is
  case k8 => exact hroom.now
  case k9 => first | exact BindsTo.of_eq rfl | exact binds_K (X.keeps st) rfl (by k_is) rfl rfl rfl
  case kB => exact locs rfl
  case c2 => exact rfl
  case c3 => exact rfl
  case c4 => exact rfl
  case c5 => decide
  intro g L' h₁ stg hz hg Xg Tg F N
  k_dflt (show wpAny _ (Around.deeper _ (envOf _ ⟨_, _, _, _, _⟩ _ _ _)) (execs (_ :: _) (envOf _ ⟨_, _, _, _, _⟩ _ _ _)) _ _ _)
  k_fold
  cases hkv
  all_goals (repeat' (first | (k_unfold; (try dsimp only)) | (k_end; wrow_close) | (with_reducible ((with_reducible show wpAny _ _ (unaryOp UnaryOp.USub (Value.int _ _)) _ _ _); (with_reducible refine negI ?_))) | (with_reducible (k_here; (with_reducible show wpAny _ _ (call (Value.builtin "len") [Value.ref _]) _ _ _); k_dflt (refine' len_own ?k1 ?k2 ?k3 ?_; (case k1 => k_asm); (case k2 => k_mem); (case k3 => assumption); k_whole))) | (with_reducible (k_here; (with_reducible show wpAny _ _ (subscriptTail _ _ (Value.ref _) (Value.int _ _)) _ _ _); k_dflt (refine' item_own ?k1 ?k2 ?k3 ?k4 ?k5 ?_ ?k6; (case k1 => k_asm); (case k2 => k_mem); (case k3 => (with_reducible exact s33 (by assumption) (by assumption))); (case k4 => assumption); (case k5 => (with_reducible assumption)); (case k6 => with_unfolding_all rfl); k_whole))) | walk1 | (dsimp only; walk1) | (leave1; try dsimp only)))
  all_goals (refine ret _ _ _ ?_ (keep_back _ hg (fun q hq => (hh0 q hq).1) (by k_asm) (by k_asm) (by repeat' (first | exact List.forall_mem_nil _ | refine fmc (fun _ => by k_mem) ?_ | refine fmc (fun h9 => absurd (by k_mem) h9) ?_))) (grown_back hz (by k_asm)))
  all_goals (try dsimp only)
  all_goals (unfold rowVal; split <;> rename_i hc <;> (try simp only [Option.some.injEq, reduceCtorEq, or_false] at hc) <;> first | rfl | (exfalso; omega) | (rw [List.getD_eq_getElem?_getD, List.getElem?_eq_none (by (with_reducible exact s34 (by assumption)))]; rfl))

end
section -- K33
set_option maxHeartbeats 2000000


section
variable {prog : Program} {w : World} {A : Around} {E : Value → Shared → Prop} {s : Shared} {g : Heap} {L : Addr} {news : List (Addr × Obj)}
/-- whatever is a list of these values -/
def IsL (o : Obj) (vs : List Value) : Prop := o.cls = .type "list" ∧ ∃ n, o.data = .seq vs.toArray n
theorem len_any {hp0 : Heap} {ge0 : Array GenState} {dr0 : Drawn} {tk0 : Nat} {os0 : OsState} {l : Addr} {o : Obj} {vs : List Value} {Q : Value → Shared → Prop} (N : News g L hp0 news) (hm : (l, o) ∈ news) (ho : IsL o vs) (hf : vs.length < 2 ^ 60)
    (h : Q (.int vs.length (tk0 + 1)) ⟨hp0, ge0, dr0, tk0 + 1 + 1, os0⟩) : wpAny (model prog w) A (call (.builtin "len") [.ref l]) Q E ⟨hp0, ge0, dr0, tk0, os0⟩ :=
  len_list (items := vs.toArray) ⟨o, (N _ hm).1, ho⟩ (by rw [List.size_toArray]; ((with_reducible refine c2 (by assumption) ?_); rfl)) (by rw [List.size_toArray]; exact h)
theorem item_any {value slice : PySem.Expr} {l : Addr} {o : Obj} {vs : List Value} {ns : List Int} {k : Int} {u : Tok} {Q : Value → Shared → Prop} (N : News g L s.heap news) (hm : (l, o) ∈ news) (ho : IsL o vs) (hi : IntsAre vs ns)
    (h0 : 0 ≤ k) (hf : vs.length < 2 ^ 60) (hk : k < vs.length) (h : ∀ n t, Q (.int n t) s)
    (hs : subscripted slice false (.ref l) (.int k u) = operate [.ref l, .int k u] (getItem (.ref l) (.int k u))) :
    wpAny (model prog w) A (subscriptTail value slice (.ref l) (.int k u)) Q E s := by
  have hlt : k.toNat < vs.length := by (with_reducible exact s8 (by assumption) (by assumption))
  (refine ex2 (hi.at k.toNat _ (List.getElem?_eq_getElem hlt)) fun n t hE9 => an2 hE9 ?_; clear hE9; intro e _)
  exact item_litK (vs := vs) ⟨o, (N _ hm).1, ho⟩ h0 (by (with_reducible exact s63 (by assumption) (by assumption))) (v := .int n t) (by rw [← e]; simp [hlt]) (h n t) hs
theorem max_own {hp0 : Heap} {ge0 : Array GenState} {dr0 : Drawn} {tk0 : Nat} {os0 : OsState} {m : Str → Option Value} {a b : Int} {t u : Tok} {Q : Value → Shared → Prop} (hh : A.handled = none) (F : Fr g L hp0 m) (N : News g L hp0 news)
    (h : ∀ M t' h' tk, a ≤ M → b ≤ M → (M = a ∨ M = b) → Fr g L h' m → News g L h' news → Q (.int M t') ⟨h', ge0, dr0, tk, os0⟩) :
    wpAny (model prog w) A (call (.builtin "max") [.int a t, .int b u]) Q E ⟨hp0, ge0, dr0, tk0, os0⟩ :=
  max_two_N hh F N fun h' tk F' N' => h _ _ h' tk (by split <;> (first | (with_reducible exact s65) | omega)) (by split <;> (first | (with_reducible exact s27 (by assumption)) | (with_reducible exact s65))) (by split <;> simp) F' N'
theorem min_own {hp0 : Heap} {ge0 : Array GenState} {dr0 : Drawn} {tk0 : Nat} {os0 : OsState} {m : Str → Option Value} {a b : Int} {t u : Tok} {Q : Value → Shared → Prop} (hh : A.handled = none) (F : Fr g L hp0 m) (N : News g L hp0 news)
    (h : ∀ M t' h' tk, M ≤ a → M ≤ b → (M = a ∨ M = b) → Fr g L h' m → News g L h' news → Q (.int M t') ⟨h', ge0, dr0, tk, os0⟩) :
    wpAny (model prog w) A (call (.builtin "min") [.int a t, .int b u]) Q E ⟨hp0, ge0, dr0, tk0, os0⟩ :=
  min_two_N hh F N fun h' tk F' N' => h _ _ h' tk (by split <;> (first | (with_reducible exact s65) | omega)) (by split <;> (first | (with_reducible exact s27 (by assumption)) | (with_reducible exact s65))) (by split <;> simp) F' N'
end

theorem pool_ok {w : World} {p : Program} {loose : List Str} {mean : ExcName → Option Value} {mg mb : Str → Option Value} {h₀ : Heap} {A : Around} {s : Shared} {sc : Addr} {so : Obj} {k : Int} {kt : Tok} {vs : List Value} {ns : List Int}
    (X : (Mine.myK w.params).In h₀) (T : Top p loose mean mg mb h₀) (st : h₀.StaysIn s.heap) (hroom : Room A 5) (hl : Live h₀ s.heap sc so) (hso : IsL so vs) (hk0 : 0 ≤ k) (hk1 : k ≤ 1) (hvn : IntsAre vs ns) (hlen : vs.length ≤ 63) :
    Calls7 PySem.Challenge.rw_xm0772_01.row.prog w A 1059 [.ref sc, .int k kt] s [] (fun v h => ∃ D a b ta tb n, v = .ref D ∧ SrcV a b ∧ Live h₀ h D (srcO a b ta tb n) ∧ s.heap.get? D = none) := by
  intro R ret
  have hcalm := hroom.calm
  revert X; k_fill; intro X
  have hh0 : ∀ q ∈ ([(sc, so)] : List (Addr × Obj)), s.heap.get? q.1 = some q.2 ∧ h₀.get? q.1 = none := fmc hl (List.forall_mem_nil _)
  k_dflt (refine' enter (binds := [(Str.ofString "script", .ref sc), (Str.ofString "k", .int k kt)]) _ X T st hh0 ?k6 ?k7 ?k8 ?k9 ?kB ?_ ?c2 ?c3 ?c4 ?c5)
  case k6 => k_is
  case k7 => k_is
  case k8 => exact hroom.now
  case k9 => first | exact BindsTo.of_eq rfl | exact binds_K (X.keeps st) rfl (by k_is) rfl rfl rfl
  case kB => exact locs rfl
  case c2 => exact rfl
  case c3 => exact rfl
  case c4 => exact rfl
  case c5 => decide
  intro g L' h₁ stg hz hg Xg Tg F N
  k_dflt (show wpAny _ (Around.deeper _ (envOf _ ⟨_, _, _, _, _⟩ _ _ _)) (execs (_ :: _) (envOf _ ⟨_, _, _, _, _⟩ _ _ _)) _ _ _)
  k_fold
  have hlen60 : vs.length < 2 ^ 60 := by ((with_reducible refine t3 (by assumption) ?_); rfl)
  (repeat' (first | (k_unfold; (try dsimp only)) | (k_end; wrow_close) | (with_reducible ((with_reducible show wpAny _ _ (binaryOp Operator.Sub (Value.int _ _) (Value.int _ _)) _ _ _); (with_reducible refine subI ?_))) | (with_reducible ((with_reducible show wpAny _ _ (binaryOp Operator.Add (Value.int _ _) (Value.int _ _)) _ _ _); (with_reducible refine addI ?_))) | (with_reducible ((with_reducible show wpAny _ _ (binaryOp Operator.Pow (Value.int _ _) (Value.int _ _)) _ _ _); k_here; (first | (with_reducible refine' pow_to (a := 2) (b := 56) 72057594037927936 ?z1 ?z2 ?z3 ?z4 ?_) | (with_reducible refine' pow_to (a := 2) (b := 63) 9223372036854775808 ?z1 ?z2 ?z3 ?z4 ?_) | (with_reducible refine' pow_to (a := 2) (b := 64) 18446744073709551616 ?z1 ?z2 ?z3 ?z4 ?_) | (with_reducible refine' pow_to (a := 10) (b := 18) 1000000000000000000 ?z1 ?z2 ?z3 ?z4 ?_) | (with_reducible refine' pow_to (a := 256) (b := 0) 1 ?z1 ?z2 ?z3 ?z4 ?_) | (with_reducible refine' pow_to (a := 256) (b := 1) 256 ?z1 ?z2 ?z3 ?z4 ?_) | (with_reducible refine' pow_to (a := 256) (b := 2) 65536 ?z1 ?z2 ?z3 ?z4 ?_) | (with_reducible refine' pow_to (a := 256) (b := 3) 16777216 ?z1 ?z2 ?z3 ?z4 ?_) | (with_reducible refine' pow_to (a := 256) (b := 4) 4294967296 ?z1 ?z2 ?z3 ?z4 ?_) | (with_reducible refine' pow_to (a := 256) (b := 6) 281474976710656 ?z1 ?z2 ?z3 ?z4 ?_) | (with_reducible refine' pow_to (a := 256) (b := 8) 18446744073709551616 ?z1 ?z2 ?z3 ?z4 ?_)); (case z1 => decide); (case z2 => decide); (case z3 => decide); (case z4 => decide +kernel))) | (with_reducible (k_here; (with_reducible show wpAny _ _ (binaryOp Operator.Mod (Value.int _ _) (Value.int _ _)) _ _ _); k_dflt (first | (refine' mod_to _ ?k1 ?k2 ?_; (case k1 => decide); (case k2 => (simp only [Int.reduceMod, Int.reduceNeg]; rfl)); k_whole) | (refine' mod_small ?k1 ?k2 ?_; (case k1 => (first | (with_reducible assumption) | omega)); (case k2 => omega); k_whole) | (refine' mod_to _ ?k1 ?k2 ?_; (case k1 => decide); (case k2 => rfl); k_whole)))) | (with_reducible ((with_reducible show wpAny _ _ (unaryOp UnaryOp.USub (Value.int _ _)) _ _ _); (with_reducible refine negI ?_))) | (with_reducible (k_here; (with_reducible show wpAny _ _ (call (Value.builtin "len") [Value.ref _]) _ _ _); k_dflt (refine' len_any ?k1 ?k2 ?k3 ?k4 ?_; (case k1 => k_asm); (case k2 => k_mem); (case k3 => assumption); (case k4 => assumption); k_whole))) | (with_reducible (k_here; (with_reducible show wpAny _ _ (call (Value.builtin "max") [Value.int _ _, Value.int _ _]) _ _ _); k_dflt (refine' max_own ?k1 ?k2 ?k3 ?_; (case k1 => assumption); (case k2 => k_asm); (case k3 => k_asm); k_whole); intro _ _ _ _ _ _ _ _ _)) | (with_reducible (k_here; (with_reducible show wpAny _ _ (subscriptTail _ _ (Value.ref _) (Value.int _ _)) _ _ _); k_dflt (refine' item_any ?k1 ?k2 ?k3 ?k8 ?k4 ?k5 ?k6 ?_ ?k7; (case k1 => k_asm); (case k2 => k_mem); (case k3 => assumption); (case k8 => assumption); (case k4 => (with_reducible assumption)); (case k5 => assumption); (case k6 => (with_reducible assumption)); (case k7 => with_unfolding_all rfl); k_whole); intro _ _)) | (with_reducible (k_here; (with_reducible show wpAny _ _ (newList _) _ _ _); k_dflt (refine' newL ?k1 ?k2 ?_ ?z; (case k1 => k_asm); (case k2 => k_asm); (case z => first | exact sz0 | exact sz1 | exact sz2 | exact sz3 | size_fits); k_whole); intro _ _ _ _ l1; (try k_lt l1); (try (revert l1; intros)); (try k_sweep))) | walk1 | (dsimp only; walk1) | (leave1; try dsimp only)))
  all_goals (refine ret _ _ _ ?_ (keep_back [] hg (fun q hq => (hh0 q hq).1) (by k_asm) (by k_asm) (by repeat' (first | exact List.forall_mem_nil _ | refine fmc (fun _ => by k_mem) ?_ | refine fmc (fun h9 => absurd (by k_mem) h9) ?_))) (grown_back hz (by k_asm)))
  all_goals (refine ⟨_, _, _, _, _, _, rfl, ⟨?_, Int.emod_nonneg _ (by decide), Int.emod_lt_of_pos _ (by decide)⟩, Live.of stg (by k_asm) (by k_mem), fresh_hid hg (by k_asm) (by k_mem) (fmc (by k_ne) (List.forall_mem_nil _))⟩)
  all_goals (split <;> rename_i hd0 <;> (try simp only [decide_eq_true_eq] at hd0) <;> (first | (with_reducible exact s73) | (with_reducible exact s82 (by assumption))))

theorem pool_el {prog : Program} {w : World} {A : Around} {E : Value → Shared → Prop} {hp0 : Heap} {ge0 : Array GenState} {dr0 : Drawn} {tk0 : Nat} {os0 : OsState} {f : Addr} {args : List Value} {Q : Value → Shared → Prop} {g : Heap} {L : Addr} {m : Str → Option Value} {news : List (Addr × Obj)} {h₀ : Heap}
    (F : Fr g L hp0 m) (N : News g L hp0 news) (c : Calls7 prog w A f args ⟨hp0, ge0, dr0, tk0, os0⟩ [] (fun v h => ∃ (D : Addr) (a b : Int) (ta tb : Tok) (n : Nat), v = .ref D ∧ (SrcV a b) ∧ (Live h₀ h D (srcO a b ta tb n)) ∧ (hp0.get? D = none)))
    (k : ∀ (D : Addr) (a b : Int) (ta tb : Tok) (n : Nat) (h' : Heap) (tk' : Nat), (SrcV a b) → (Live h₀ h' D (srcO a b ta tb n)) → (hp0.get? D = none) → Fr g L h' m → News g L h' news → Q (.ref D) ⟨h', ge0, dr0, tk', os0⟩) : wpAny (model prog w) A (call (.ref f) args) Q E ⟨hp0, ge0, dr0, tk0, os0⟩ :=
  use7p F N c fun v h' tk' p' F' N' => by
    (refine ex6 (p') fun D a b ta tb n hE9 => an4 hE9 ?_; clear hE9; rintro rfl a0 a1 a2; (try clear p'))
    exact k D a b ta tb n h' tk' a0 a1 a2 F' N'

end
local macro_rules | `(tactic| k_get) => `(tactic| exact DA.at (by assumption) (by first | assumption | rfl))
section -- K39
set_option maxHeartbeats 2000000


theorem coldef_init {w : World} {p : Program} {loose : List Str} {mean : ExcName → Option Value} {mg mb : Str → Option Value} {h₀ : Heap} {A : Around} {s : Shared} {x dx : Addr} {v1 v2 v3 : Value}
    (X : (Mine.myK w.params).In h₀) (T : Top p loose mean mg mb h₀) (st : h₀.StaysIn s.heap) (hroom : Room A 5) (hx : Live h₀ s.heap x (instObj 490 dx)) (hdx : Live h₀ s.heap dx (dictOf [] 0)) (hlt : @LT.lt Nat _ dx x)  :
    Calls7 PySem.Challenge.rw_xm0772_01.row.prog w A 480 [.ref x, v1, v2, v3] s [dx] (fun v h => v = .none ∧ ∃ es n f, h.get? dx = some (dictOf es n) ∧ DA es f 20 ∧ f (Str.ofString "name") = some v1 ∧ f (Str.ofString "type_name") = some v2 ∧ f (Str.ofString "constraints") = some v3) := by
  intro R ret
  have hcalm := hroom.calm
  revert X; k_fill; intro X
  have hh0 : ∀ q ∈ ([(x, instObj 490 dx), (dx, dictOf [] 0)] : List (Addr × Obj)), s.heap.get? q.1 = some q.2 ∧ h₀.get? q.1 = none := fmc hx (fmc hdx (List.forall_mem_nil _))
  k_dflt (refine' enter (binds := [(Str.ofString "self", .ref x), (Str.ofString "name", v1), (Str.ofString "type_name", v2), (Str.ofString "constraints", v3)]) _ X T st hh0 ?k6 ?k7 ?k8 ?k9 ?kB ?_ ?c2 ?c3 ?c4 ?c5)
  case k6 => k_is
  case k7 => k_is
  case k8 => exact hroom.now
  case k9 => first | exact BindsTo.of_eq rfl | exact binds_K (X.keeps st) rfl (by k_is) rfl rfl rfl
  case kB => exact locs rfl
  case c2 => exact rfl
  case c3 => exact rfl
  case c4 => exact rfl
  case c5 => decide
  intro g L' h₁ stg hz hg Xg Tg F N
  k_dflt (show wpAny _ (Around.deeper _ (envOf _ ⟨_, _, _, _, _⟩ _ _ _)) (execs (_ :: _) (envOf _ ⟨_, _, _, _, _⟩ _ _ _)) _ _ _)
  k_fold
  have D0 := DA.nil
  (repeat' (first | (k_unfold; (try dsimp only)) | (k_end; wrow_close) | (with_reducible ((with_reducible show wpAny _ _ (setAttr (Value.ref _) _ _) _ _ _); k_here; k_dflt (refine' set_sym ?F ?X ?N ?x ?U ?D ?a ?b ?c ?d ?e ?_; (case F => k_asm); (case X => k_asm); (case N => k_asm); (case x => k_mem); (case U => k_updF); (case D => assumption); (case a => k_is); (case b => k_is); (case c => k_is); (case d => k_is); (case e => first | decide | omega); k_whole); intro _ _ _ _ _ N'; (try dsimp only at N'); (try (revert N'; intros)))) | walk1 | (dsimp only; walk1) | (leave1; try dsimp only)))
  refine ret _ _ _ ?_ (keep_back [dx] hg (fun q hq => (hh0 q hq).1) (by k_asm) (by k_asm) (by repeat' (first | exact List.forall_mem_nil _ | refine fmc (fun _ => by k_mem) ?_ | refine fmc (fun h9 => absurd (by k_mem) h9) ?_))) (grown_back hz (by k_asm))
  (rename News _ _ _ _ => N9); (rename DA _ _ _ => D9)
  exact ⟨rfl, _, _, _, (N9 (dx, _) (by k_mem)).1, ⟨D9.get, D9.ref, Nat.le_trans D9.len (by decide)⟩, rfl, rfl, rfl⟩

theorem create_init {w : World} {p : Program} {loose : List Str} {mean : ExcName → Option Value} {mg mb : Str → Option Value} {h₀ : Heap} {A : Around} {s : Shared} {x dx : Addr} {v1 v2 v3 v4 v5 : Value}
    (X : (Mine.myK w.params).In h₀) (T : Top p loose mean mg mb h₀) (st : h₀.StaysIn s.heap) (hroom : Room A 5) (hx : Live h₀ s.heap x (instObj 516 dx)) (hdx : Live h₀ s.heap dx (dictOf [] 0)) (hlt : @LT.lt Nat _ dx x)  :
    Calls7 PySem.Challenge.rw_xm0772_01.row.prog w A 506 [.ref x, v1, v2, v3, v4, v5] s [dx] (fun v h => v = .none ∧ ∃ es n f, h.get? dx = some (dictOf es n) ∧ DA es f 20 ∧ f (Str.ofString "name") = some v1 ∧ f (Str.ofString "columns") = some v2 ∧ f (Str.ofString "constraints") = some v3 ∧ f (Str.ofString "text") = some v5) := by
  intro R ret
  have hcalm := hroom.calm
  revert X; k_fill; intro X
  have hh0 : ∀ q ∈ ([(x, instObj 516 dx), (dx, dictOf [] 0)] : List (Addr × Obj)), s.heap.get? q.1 = some q.2 ∧ h₀.get? q.1 = none := fmc hx (fmc hdx (List.forall_mem_nil _))
  k_dflt (refine' enter (binds := [(Str.ofString "self", .ref x), (Str.ofString "name", v1), (Str.ofString "columns", v2), (Str.ofString "constraints", v3), (Str.ofString "if_missing", v4), (Str.ofString "text", v5)]) _ X T st hh0 ?k6 ?k7 ?k8 ?k9 ?kB ?_ ?c2 ?c3 ?c4 ?c5)
  case k6 => k_is
  case k7 => k_is
  case k8 => exact hroom.now
  case k9 => first | exact BindsTo.of_eq rfl | exact binds_K (X.keeps st) rfl (by k_is) rfl rfl rfl
  case kB => exact locs rfl
  case c2 => exact rfl
  case c3 => exact rfl
  case c4 => exact rfl
  case c5 => decide
  intro g L' h₁ stg hz hg Xg Tg F N
  k_dflt (show wpAny _ (Around.deeper _ (envOf _ ⟨_, _, _, _, _⟩ _ _ _)) (execs (_ :: _) (envOf _ ⟨_, _, _, _, _⟩ _ _ _)) _ _ _)
  k_fold
  have D0 := DA.nil
  (repeat' (first | (k_unfold; (try dsimp only)) | (k_end; wrow_close) | (with_reducible ((with_reducible show wpAny _ _ (setAttr (Value.ref _) _ _) _ _ _); k_here; k_dflt (refine' set_sym ?F ?X ?N ?x ?U ?D ?a ?b ?c ?d ?e ?_; (case F => k_asm); (case X => k_asm); (case N => k_asm); (case x => k_mem); (case U => k_updF); (case D => assumption); (case a => k_is); (case b => k_is); (case c => k_is); (case d => k_is); (case e => first | decide | omega); k_whole); intro _ _ _ _ _ N'; (try dsimp only at N'); (try (revert N'; intros)))) | walk1 | (dsimp only; walk1) | (leave1; try dsimp only)))
  refine ret _ _ _ ?_ (keep_back [dx] hg (fun q hq => (hh0 q hq).1) (by k_asm) (by k_asm) (by repeat' (first | exact List.forall_mem_nil _ | refine fmc (fun _ => by k_mem) ?_ | refine fmc (fun h9 => absurd (by k_mem) h9) ?_))) (grown_back hz (by k_asm))
  (rename News _ _ _ _ => N9); (rename DA _ _ _ => D9)
  exact ⟨rfl, _, _, _, (N9 (dx, _) (by k_mem)).1, ⟨D9.get, D9.ref, Nat.le_trans D9.len (by decide)⟩, rfl, rfl, rfl, rfl⟩

theorem index_init {w : World} {p : Program} {loose : List Str} {mean : ExcName → Option Value} {mg mb : Str → Option Value} {h₀ : Heap} {A : Around} {s : Shared} {x dx : Addr} {v1 v2 v3 v4 v5 v6 v7 : Value}
    (X : (Mine.myK w.params).In h₀) (T : Top p loose mean mg mb h₀) (st : h₀.StaysIn s.heap) (hroom : Room A 5) (hx : Live h₀ s.heap x (instObj 873 dx)) (hdx : Live h₀ s.heap dx (dictOf [] 0)) (hlt : @LT.lt Nat _ dx x)  :
    Calls7 PySem.Challenge.rw_xm0772_01.row.prog w A 860 [.ref x, v1, v2, v3, v4, v5, v6, v7] s [dx] (fun v h => v = .none ∧ ∃ es n f, h.get? dx = some (dictOf es n) ∧ DA es f 20 ∧ f (Str.ofString "columns") = some v4 ∧ f (Str.ofString "info") = none) := by
  intro R ret
  have hcalm := hroom.calm
  revert X; k_fill; intro X
  have hh0 : ∀ q ∈ ([(x, instObj 873 dx), (dx, dictOf [] 0)] : List (Addr × Obj)), s.heap.get? q.1 = some q.2 ∧ h₀.get? q.1 = none := fmc hx (fmc hdx (List.forall_mem_nil _))
  k_dflt (refine' enter (binds := [(Str.ofString "self", .ref x), (Str.ofString "name", v1), (Str.ofString "table", v2), (Str.ofString "root", v3), (Str.ofString "columns", v4), (Str.ofString "unique", v5), (Str.ofString "origin", v6), (Str.ofString "sql", v7)]) _ X T st hh0 ?k6 ?k7 ?k8 ?k9 ?kB ?_ ?c2 ?c3 ?c4 ?c5)
  case k6 => k_is
  case k7 => k_is
  case k8 => exact hroom.now
  case k9 => first | exact BindsTo.of_eq rfl | exact binds_K (X.keeps st) rfl (by k_is) rfl rfl rfl
  case kB => exact locs rfl
  case c2 => exact rfl
  case c3 => exact rfl
  case c4 => exact rfl
  case c5 => decide
  intro g L' h₁ stg hz hg Xg Tg F N
  k_dflt (show wpAny _ (Around.deeper _ (envOf _ ⟨_, _, _, _, _⟩ _ _ _)) (execs (_ :: _) (envOf _ ⟨_, _, _, _, _⟩ _ _ _)) _ _ _)
  k_fold
  have D0 := DA.nil
  (repeat' (first | (k_unfold; (try dsimp only)) | (k_end; wrow_close) | (with_reducible ((with_reducible show wpAny _ _ (setAttr (Value.ref _) _ _) _ _ _); k_here; k_dflt (refine' set_sym ?F ?X ?N ?x ?U ?D ?a ?b ?c ?d ?e ?_; (case F => k_asm); (case X => k_asm); (case N => k_asm); (case x => k_mem); (case U => k_updF); (case D => assumption); (case a => k_is); (case b => k_is); (case c => k_is); (case d => k_is); (case e => first | decide | omega); k_whole); intro _ _ _ _ _ N'; (try dsimp only at N'); (try (revert N'; intros)))) | walk1 | (dsimp only; walk1) | (leave1; try dsimp only)))
  refine ret _ _ _ ?_ (keep_back [dx] hg (fun q hq => (hh0 q hq).1) (by k_asm) (by k_asm) (by repeat' (first | exact List.forall_mem_nil _ | refine fmc (fun _ => by k_mem) ?_ | refine fmc (fun h9 => absurd (by k_mem) h9) ?_))) (grown_back hz (by k_asm))
  (rename News _ _ _ _ => N9); (rename DA _ _ _ => D9)
  exact ⟨rfl, _, _, _, (N9 (dx, _) (by k_mem)).1, ⟨D9.get, D9.ref, Nat.le_trans D9.len (by decide)⟩, rfl, rfl⟩

theorem table_init {w : World} {p : Program} {loose : List Str} {mean : ExcName → Option Value} {mg mb : Str → Option Value} {h₀ : Heap} {A : Around} {s : Shared} {x dx : Addr} {v1 v2 v3 v4 : Value}
    (X : (Mine.myK w.params).In h₀) (T : Top p loose mean mg mb h₀) (st : h₀.StaysIn s.heap) (hroom : Room A 5) (hx : Live h₀ s.heap x (instObj 915 dx)) (hdx : Live h₀ s.heap dx (dictOf [] 0)) (hlt : @LT.lt Nat _ dx x)  :
    Calls7 PySem.Challenge.rw_xm0772_01.row.prog w A 891 [.ref x, v1, v2, v3, v4] s [dx] (fun v h => v = .none ∧ ∃ es n il kl pl, h.get? dx = some (dictOf es n) ∧ DA es (tabF v3 .none (.ref il) (.ref kl) (.ref pl) v1 v2 v4) 20 ∧ Live h₀ h il (W.listOf [].toArray 0) ∧ Live h₀ h kl (W.listOf [].toArray 0) ∧ s.heap.get? il = none ∧ s.heap.get? kl = none ∧ (@Ne Nat il kl)) := by
  intro R ret
  have hcalm := hroom.calm
  revert X; k_fill; intro X
  have hh0 : ∀ q ∈ ([(x, instObj 915 dx), (dx, dictOf [] 0)] : List (Addr × Obj)), s.heap.get? q.1 = some q.2 ∧ h₀.get? q.1 = none := fmc hx (fmc hdx (List.forall_mem_nil _))
  k_dflt (refine' enter (binds := [(Str.ofString "self", .ref x), (Str.ofString "name", v1), (Str.ofString "root", v2), (Str.ofString "columns", v3), (Str.ofString "sql", v4)]) _ X T st hh0 ?k6 ?k7 ?k8 ?k9 ?kB ?_ ?c2 ?c3 ?c4 ?c5)
  case k6 => k_is
  case k7 => k_is
  case k8 => exact hroom.now
  case k9 => first | exact BindsTo.of_eq rfl | exact binds_K (X.keeps st) rfl (by k_is) rfl rfl rfl
  case kB => exact locs rfl
  case c2 => exact rfl
  case c3 => exact rfl
  case c4 => exact rfl
  case c5 => decide
  intro g L' h₁ stg hz hg Xg Tg F N
  k_dflt (show wpAny _ (Around.deeper _ (envOf _ ⟨_, _, _, _, _⟩ _ _ _)) (execs (_ :: _) (envOf _ ⟨_, _, _, _, _⟩ _ _ _)) _ _ _)
  k_fold
  have D0 := DA.nil
  (repeat' (first | (k_unfold; (try dsimp only)) | (k_end; wrow_close) | (with_reducible ((with_reducible show wpAny _ _ (setAttr (Value.ref _) _ _) _ _ _); k_here; k_dflt (refine' set_sym ?F ?X ?N ?x ?U ?D ?a ?b ?c ?d ?e ?_; (case F => k_asm); (case X => k_asm); (case N => k_asm); (case x => k_mem); (case U => k_updF); (case D => assumption); (case a => k_is); (case b => k_is); (case c => k_is); (case d => k_is); (case e => first | decide | omega); k_whole); intro _ _ _ _ _ N'; (try dsimp only at N'); (try (revert N'; intros)))) | (with_reducible (k_here; (with_reducible show wpAny _ _ (newList _) _ _ _); k_dflt (refine' newL ?k1 ?k2 ?_ ?z; (case k1 => k_asm); (case k2 => k_asm); (case z => first | exact sz0 | exact sz1 | exact sz2 | exact sz3 | size_fits); k_whole); intro _ _ _ _ l1; (try k_lt l1); (try (revert l1; intros)); (try k_sweep))) | walk1 | (dsimp only; walk1) | (leave1; try dsimp only)))
  refine ret _ _ _ ?_ (keep_back [dx] hg (fun q hq => (hh0 q hq).1) (by k_asm) (by k_asm) (by repeat' (first | exact List.forall_mem_nil _ | refine fmc (fun _ => by k_mem) ?_ | refine fmc (fun h9 => absurd (by k_mem) h9) ?_))) (grown_back hz (by k_asm))
  (rename News _ _ _ _ => N9); (rename DA _ _ _ => D9)
  rename_i il a1 a2 a3 a4 a5 a6 kl b1 b2 b3 b4 b5 b6 b7 b8 b9 b10 pl c1 c2 c3 c4 c5 c6 c7 c8
  refine ⟨rfl, _, _, il, kl, pl, (N9 (dx, _) (by k_mem)).1, DA.congr ⟨D9.get, D9.ref, Nat.le_trans D9.len (by decide)⟩ (fun y => ?_), Live.of stg N9 (by k_mem), Live.of stg N9 (by k_mem), fresh_hid hg N9 (o := W.listOf [].toArray 0) (a := il) (by k_mem) (fmc (by k_ne) (fmc (by k_ne) (List.forall_mem_nil _))), fresh_hid hg N9 (o := W.listOf [].toArray 0) (a := kl) (by k_mem) (fmc (by k_ne) (fmc (by k_ne) (List.forall_mem_nil _))), by k_ne⟩
  unfold tabF
  by_cases h0 : y = Str.ofString "primary"
  · subst h0; rfl
  by_cases h1 : y = Str.ofString "sql"
  · subst h1; rfl
  by_cases h2 : y = Str.ofString "checks"
  · subst h2; rfl
  by_cases h3 : y = Str.ofString "indexes"
  · subst h3; rfl
  by_cases h4 : y = Str.ofString "rowid_place"
  · subst h4; rfl
  by_cases h5 : y = Str.ofString "columns"
  · subst h5; rfl
  by_cases h6 : y = Str.ofString "root"
  · subst h6; rfl
  by_cases h7 : y = Str.ofString "name"
  · subst h7; rfl
  simp only [h0, h1, h2, h3, h4, h5, h6, h7, if_false]

end
section -- K35
set_option maxHeartbeats 2000000
theorem sign_at {x : Str} {i : Nat} {v : Value} (c : Nat) (hc : x.cps[i]? = some c) (h : SignAt x i v) : ∃ u, v = .str ⟨#[c]⟩ u := by
  (refine ex2 (h) fun c' u hE9 => an2 hE9 ?_; clear hE9; rintro h1 rfl; (try clear h))
  rw [hc] at h1
  cases h1
  exact ⟨u, rfl⟩

theorem str_is {a b : Str} {t : Tok} (h : a = b) : ∃ t', Value.str a t = .str b t' := ⟨t, by rw [h]⟩

theorem fold_a {w : World} {p : Program} {loose : List Str} {mean : ExcName → Option Value} {mg mb : Str → Option Value} {h₀ : Heap} {A : Around} {s : Shared} {nt : Tok}
    (X : (Mine.myK w.params).In h₀) (T : Top p loose mean mg mb h₀) (st : h₀.StaysIn s.heap) (hroom : Room A 5)  :
    Calls7 PySem.Challenge.rw_xm0772_01.row.prog w A 784 [.str (Str.ofString "a") nt] s [] (fun v h => ∃ t, v = .str (Str.ofString "a") t) := by
  intro R ret
  have hcalm := hroom.calm
  revert X; k_fill; intro X
  have hh0 : ∀ q ∈ ([] : List (Addr × Obj)), s.heap.get? q.1 = some q.2 ∧ h₀.get? q.1 = none := List.forall_mem_nil _
  k_dflt (refine' enter (binds := [(Str.ofString "name", .str (Str.ofString "a") nt)]) _ X T st hh0 ?k6 ?k7 ?k8 ?k9 ?kB ?_ ?c2 ?c3 ?c4 ?c5)
  case k6 => k_is
  case k7 => k_is
  case k8 => exact hroom.now
  case k9 => first | exact BindsTo.of_eq rfl | exact binds_K (X.keeps st) rfl (by k_is) rfl rfl rfl
  case kB => exact locs rfl
  case c2 => exact rfl
  case c3 => exact rfl
  case c4 => exact rfl
  case c5 => decide
  intro g L' h₁ stg hz hg Xg Tg F N
  k_dflt (show wpAny _ (Around.deeper _ (envOf _ ⟨_, _, _, _, _⟩ _ _ _)) (execs (_ :: _) (envOf _ ⟨_, _, _, _, _⟩ _ _ _)) _ _ _)
  k_fold
  (repeat' (first | (k_unfold; (try dsimp only)) | (k_end; wrow_close) | (with_reducible ((with_reducible show wpAny _ _ (eval (PySem.Expr.ListComp _ _ _ _) _) _ _ _); k_here; k_dflt (refine ListComp_S (F₀ := by k_asm) (by with_unfolding_all rfl) (by decide) (by rfl) (by decide) (by rfl) ?_))) | (with_reducible ((with_reducible show LCg.CompRest _ _ _ _ _ _ _ _ _ _ _ _ _ _ _ _ _ _ _); with_unfolding_all first | (refine LCg.CompRest.succ ?_; intro _ _ _ _ _ _ _ _ _ _ hv' _ _ _ _ off' _; obtain ⟨_, hv9'⟩ := sign_at (h := hv') _ rfl; subst hv9'; clear hv'; (try simp only [LCg.Off3, and_true] at off')) | refine LCg.CompRest.zero ?_; (try (revert off'; intros)))) | (with_reducible ((with_reducible show StrSrc _ _ _ _ _ _ _ _ _ _ _ _ _ _); k_here; (rename Fr _ _ _ _ => cF'); (rename News _ _ _ _ => cN'); k_dflt (refine StrSrc.intro _ (by rfl) (by assumption) cF' cN' (by rw [sizeLine_eq]; decide) ?_); clear cF' cN'; intro _)) | (with_reducible ((with_reducible show LCg.FinE _ _ _ _ _ _ _); (unfold LCg.FinE); intro _ _ _ _ N' _; (try simp only [List.nil_append, List.cons_append] at N'); (try (revert N'; intros)); (try dsimp only))) | walk1 | (dsimp only; walk1) | (leave1; try dsimp only)))
  all_goals (refine ret _ _ _ ?_ (keep_back _ hg (fun q hq => (hh0 q hq).1) (by k_asm) (by k_asm) (by repeat' (first | exact List.forall_mem_nil _ | refine fmc (fun _ => by k_mem) ?_ | refine fmc (fun h9 => absurd (by k_mem) h9) ?_))) (grown_back hz (by k_asm)))
  all_goals (try dsimp only)
  all_goals (exact str_is (by decide +kernel))

theorem fold_b {w : World} {p : Program} {loose : List Str} {mean : ExcName → Option Value} {mg mb : Str → Option Value} {h₀ : Heap} {A : Around} {s : Shared} {nt : Tok}
    (X : (Mine.myK w.params).In h₀) (T : Top p loose mean mg mb h₀) (st : h₀.StaysIn s.heap) (hroom : Room A 5)  :
    Calls7 PySem.Challenge.rw_xm0772_01.row.prog w A 784 [.str (Str.ofString "b") nt] s [] (fun v h => ∃ t, v = .str (Str.ofString "b") t) := by
  intro R ret
  have hcalm := hroom.calm
  revert X; k_fill; intro X
  have hh0 : ∀ q ∈ ([] : List (Addr × Obj)), s.heap.get? q.1 = some q.2 ∧ h₀.get? q.1 = none := List.forall_mem_nil _
  k_dflt (refine' enter (binds := [(Str.ofString "name", .str (Str.ofString "b") nt)]) _ X T st hh0 ?k6 ?k7 ?k8 ?k9 ?kB ?_ ?c2 ?c3 ?c4 ?c5)
  case k6 => k_is
  case k7 => k_is
  case k8 => exact hroom.now
  case k9 => first | exact BindsTo.of_eq rfl | exact binds_K (X.keeps st) rfl (by k_is) rfl rfl rfl
  case kB => exact locs rfl
  case c2 => exact rfl
  case c3 => exact rfl
  case c4 => exact rfl
  case c5 => decide
  intro g L' h₁ stg hz hg Xg Tg F N
  k_dflt (show wpAny _ (Around.deeper _ (envOf _ ⟨_, _, _, _, _⟩ _ _ _)) (execs (_ :: _) (envOf _ ⟨_, _, _, _, _⟩ _ _ _)) _ _ _)
  k_fold
  (repeat' (first | (k_unfold; (try dsimp only)) | (k_end; wrow_close) | (with_reducible ((with_reducible show wpAny _ _ (eval (PySem.Expr.ListComp _ _ _ _) _) _ _ _); k_here; k_dflt (refine ListComp_S (F₀ := by k_asm) (by with_unfolding_all rfl) (by decide) (by rfl) (by decide) (by rfl) ?_))) | (with_reducible ((with_reducible show LCg.CompRest _ _ _ _ _ _ _ _ _ _ _ _ _ _ _ _ _ _ _); with_unfolding_all first | (refine LCg.CompRest.succ ?_; intro _ _ _ _ _ _ _ _ _ _ hv' _ _ _ _ off' _; obtain ⟨_, hv9'⟩ := sign_at (h := hv') _ rfl; subst hv9'; clear hv'; (try simp only [LCg.Off3, and_true] at off')) | refine LCg.CompRest.zero ?_; (try (revert off'; intros)))) | (with_reducible ((with_reducible show StrSrc _ _ _ _ _ _ _ _ _ _ _ _ _ _); k_here; (rename Fr _ _ _ _ => cF'); (rename News _ _ _ _ => cN'); k_dflt (refine StrSrc.intro _ (by rfl) (by assumption) cF' cN' (by rw [sizeLine_eq]; decide) ?_); clear cF' cN'; intro _)) | (with_reducible ((with_reducible show LCg.FinE _ _ _ _ _ _ _); (unfold LCg.FinE); intro _ _ _ _ N' _; (try simp only [List.nil_append, List.cons_append] at N'); (try (revert N'; intros)); (try dsimp only))) | walk1 | (dsimp only; walk1) | (leave1; try dsimp only)))
  all_goals (refine ret _ _ _ ?_ (keep_back _ hg (fun q hq => (hh0 q hq).1) (by k_asm) (by k_asm) (by repeat' (first | exact List.forall_mem_nil _ | refine fmc (fun _ => by k_mem) ?_ | refine fmc (fun h9 => absurd (by k_mem) h9) ?_))) (grown_back hz (by k_asm)))
  all_goals (try dsimp only)
  all_goals (exact str_is (by decide +kernel))

theorem fold_c {w : World} {p : Program} {loose : List Str} {mean : ExcName → Option Value} {mg mb : Str → Option Value} {h₀ : Heap} {A : Around} {s : Shared} {nt : Tok}
    (X : (Mine.myK w.params).In h₀) (T : Top p loose mean mg mb h₀) (st : h₀.StaysIn s.heap) (hroom : Room A 5)  :
    Calls7 PySem.Challenge.rw_xm0772_01.row.prog w A 784 [.str (Str.ofString "c") nt] s [] (fun v h => ∃ t, v = .str (Str.ofString "c") t) := by
  intro R ret
  have hcalm := hroom.calm
  revert X; k_fill; intro X
  have hh0 : ∀ q ∈ ([] : List (Addr × Obj)), s.heap.get? q.1 = some q.2 ∧ h₀.get? q.1 = none := List.forall_mem_nil _
  k_dflt (refine' enter (binds := [(Str.ofString "name", .str (Str.ofString "c") nt)]) _ X T st hh0 ?k6 ?k7 ?k8 ?k9 ?kB ?_ ?c2 ?c3 ?c4 ?c5)
  case k6 => k_is
  case k7 => k_is
  case k8 => exact hroom.now
  case k9 => first | exact BindsTo.of_eq rfl | exact binds_K (X.keeps st) rfl (by k_is) rfl rfl rfl
  case kB => exact locs rfl
  case c2 => exact rfl
  case c3 => exact rfl
  case c4 => exact rfl
  case c5 => decide
  intro g L' h₁ stg hz hg Xg Tg F N
  k_dflt (show wpAny _ (Around.deeper _ (envOf _ ⟨_, _, _, _, _⟩ _ _ _)) (execs (_ :: _) (envOf _ ⟨_, _, _, _, _⟩ _ _ _)) _ _ _)
  k_fold
  (repeat' (first | (k_unfold; (try dsimp only)) | (k_end; wrow_close) | (with_reducible ((with_reducible show wpAny _ _ (eval (PySem.Expr.ListComp _ _ _ _) _) _ _ _); k_here; k_dflt (refine ListComp_S (F₀ := by k_asm) (by with_unfolding_all rfl) (by decide) (by rfl) (by decide) (by rfl) ?_))) | (with_reducible ((with_reducible show LCg.CompRest _ _ _ _ _ _ _ _ _ _ _ _ _ _ _ _ _ _ _); with_unfolding_all first | (refine LCg.CompRest.succ ?_; intro _ _ _ _ _ _ _ _ _ _ hv' _ _ _ _ off' _; obtain ⟨_, hv9'⟩ := sign_at (h := hv') _ rfl; subst hv9'; clear hv'; (try simp only [LCg.Off3, and_true] at off')) | refine LCg.CompRest.zero ?_; (try (revert off'; intros)))) | (with_reducible ((with_reducible show StrSrc _ _ _ _ _ _ _ _ _ _ _ _ _ _); k_here; (rename Fr _ _ _ _ => cF'); (rename News _ _ _ _ => cN'); k_dflt (refine StrSrc.intro _ (by rfl) (by assumption) cF' cN' (by rw [sizeLine_eq]; decide) ?_); clear cF' cN'; intro _)) | (with_reducible ((with_reducible show LCg.FinE _ _ _ _ _ _ _); (unfold LCg.FinE); intro _ _ _ _ N' _; (try simp only [List.nil_append, List.cons_append] at N'); (try (revert N'; intros)); (try dsimp only))) | walk1 | (dsimp only; walk1) | (leave1; try dsimp only)))
  all_goals (refine ret _ _ _ ?_ (keep_back _ hg (fun q hq => (hh0 q hq).1) (by k_asm) (by k_asm) (by repeat' (first | exact List.forall_mem_nil _ | refine fmc (fun _ => by k_mem) ?_ | refine fmc (fun h9 => absurd (by k_mem) h9) ?_))) (grown_back hz (by k_asm)))
  all_goals (try dsimp only)
  all_goals (exact str_is (by decide +kernel))

theorem fold_d {w : World} {p : Program} {loose : List Str} {mean : ExcName → Option Value} {mg mb : Str → Option Value} {h₀ : Heap} {A : Around} {s : Shared} {nt : Tok}
    (X : (Mine.myK w.params).In h₀) (T : Top p loose mean mg mb h₀) (st : h₀.StaysIn s.heap) (hroom : Room A 5)  :
    Calls7 PySem.Challenge.rw_xm0772_01.row.prog w A 784 [.str (Str.ofString "d") nt] s [] (fun v h => ∃ t, v = .str (Str.ofString "d") t) := by
  intro R ret
  have hcalm := hroom.calm
  revert X; k_fill; intro X
  have hh0 : ∀ q ∈ ([] : List (Addr × Obj)), s.heap.get? q.1 = some q.2 ∧ h₀.get? q.1 = none := List.forall_mem_nil _
  k_dflt (refine' enter (binds := [(Str.ofString "name", .str (Str.ofString "d") nt)]) _ X T st hh0 ?k6 ?k7 ?k8 ?k9 ?kB ?_ ?c2 ?c3 ?c4 ?c5)
  case k6 => k_is
  case k7 => k_is
  case k8 => exact hroom.now
  case k9 => first | exact BindsTo.of_eq rfl | exact binds_K (X.keeps st) rfl (by k_is) rfl rfl rfl
  case kB => exact locs rfl
  case c2 => exact rfl
  case c3 => exact rfl
  case c4 => exact rfl
  case c5 => decide
  intro g L' h₁ stg hz hg Xg Tg F N
  k_dflt (show wpAny _ (Around.deeper _ (envOf _ ⟨_, _, _, _, _⟩ _ _ _)) (execs (_ :: _) (envOf _ ⟨_, _, _, _, _⟩ _ _ _)) _ _ _)
  k_fold
  (repeat' (first | (k_unfold; (try dsimp only)) | (k_end; wrow_close) | (with_reducible ((with_reducible show wpAny _ _ (eval (PySem.Expr.ListComp _ _ _ _) _) _ _ _); k_here; k_dflt (refine ListComp_S (F₀ := by k_asm) (by with_unfolding_all rfl) (by decide) (by rfl) (by decide) (by rfl) ?_))) | (with_reducible ((with_reducible show LCg.CompRest _ _ _ _ _ _ _ _ _ _ _ _ _ _ _ _ _ _ _); with_unfolding_all first | (refine LCg.CompRest.succ ?_; intro _ _ _ _ _ _ _ _ _ _ hv' _ _ _ _ off' _; obtain ⟨_, hv9'⟩ := sign_at (h := hv') _ rfl; subst hv9'; clear hv'; (try simp only [LCg.Off3, and_true] at off')) | refine LCg.CompRest.zero ?_; (try (revert off'; intros)))) | (with_reducible ((with_reducible show StrSrc _ _ _ _ _ _ _ _ _ _ _ _ _ _); k_here; (rename Fr _ _ _ _ => cF'); (rename News _ _ _ _ => cN'); k_dflt (refine StrSrc.intro _ (by rfl) (by assumption) cF' cN' (by rw [sizeLine_eq]; decide) ?_); clear cF' cN'; intro _)) | (with_reducible ((with_reducible show LCg.FinE _ _ _ _ _ _ _); (unfold LCg.FinE); intro _ _ _ _ N' _; (try simp only [List.nil_append, List.cons_append] at N'); (try (revert N'; intros)); (try dsimp only))) | walk1 | (dsimp only; walk1) | (leave1; try dsimp only)))
  all_goals (refine ret _ _ _ ?_ (keep_back _ hg (fun q hq => (hh0 q hq).1) (by k_asm) (by k_asm) (by repeat' (first | exact List.forall_mem_nil _ | refine fmc (fun _ => by k_mem) ?_ | refine fmc (fun h9 => absurd (by k_mem) h9) ?_))) (grown_back hz (by k_asm)))
  all_goals (try dsimp only)
  all_goals (exact str_is (by decide +kernel))

theorem fold_int {w : World} {p : Program} {loose : List Str} {mean : ExcName → Option Value} {mg mb : Str → Option Value} {h₀ : Heap} {A : Around} {s : Shared} {nt : Tok}
    (X : (Mine.myK w.params).In h₀) (T : Top p loose mean mg mb h₀) (st : h₀.StaysIn s.heap) (hroom : Room A 5)  :
    Calls7 PySem.Challenge.rw_xm0772_01.row.prog w A 784 [.str (Str.ofString "INTEGER") nt] s [] (fun v h => ∃ t, v = .str (Str.ofString "integer") t) := by
  intro R ret
  have hcalm := hroom.calm
  revert X; k_fill; intro X
  have hh0 : ∀ q ∈ ([] : List (Addr × Obj)), s.heap.get? q.1 = some q.2 ∧ h₀.get? q.1 = none := List.forall_mem_nil _
  k_dflt (refine' enter (binds := [(Str.ofString "name", .str (Str.ofString "INTEGER") nt)]) _ X T st hh0 ?k6 ?k7 ?k8 ?k9 ?kB ?_ ?c2 ?c3 ?c4 ?c5)
  case k6 => k_is
  case k7 => k_is
  case k8 => exact hroom.now
  case k9 => first | exact BindsTo.of_eq rfl | exact binds_K (X.keeps st) rfl (by k_is) rfl rfl rfl
  case kB => exact locs rfl
  case c2 => exact rfl
  case c3 => exact rfl
  case c4 => exact rfl
  case c5 => decide
  intro g L' h₁ stg hz hg Xg Tg F N
  k_dflt (show wpAny _ (Around.deeper _ (envOf _ ⟨_, _, _, _, _⟩ _ _ _)) (execs (_ :: _) (envOf _ ⟨_, _, _, _, _⟩ _ _ _)) _ _ _)
  k_fold
  (repeat' (first | (k_unfold; (try dsimp only)) | (k_end; wrow_close) | (with_reducible ((with_reducible show wpAny _ _ (binaryOp Operator.Add (Value.int _ _) (Value.int _ _)) _ _ _); (with_reducible refine addI ?_))) | (with_reducible ((with_reducible show wpAny _ _ (eval (PySem.Expr.ListComp _ _ _ _) _) _ _ _); k_here; k_dflt (refine ListComp_S (F₀ := by k_asm) (by with_unfolding_all rfl) (by decide) (by rfl) (by decide) (by rfl) ?_))) | (with_reducible ((with_reducible show LCg.CompRest _ _ _ _ _ _ _ _ _ _ _ _ _ _ _ _ _ _ _); with_unfolding_all first | (refine LCg.CompRest.succ ?_; intro _ _ _ _ _ _ _ _ _ _ hv' _ _ _ _ off' _; obtain ⟨_, hv9'⟩ := sign_at (h := hv') _ rfl; subst hv9'; clear hv'; (try simp only [LCg.Off3, and_true] at off')) | refine LCg.CompRest.zero ?_; (try (revert off'; intros)))) | (with_reducible ((with_reducible show StrSrc _ _ _ _ _ _ _ _ _ _ _ _ _ _); k_here; (rename Fr _ _ _ _ => cF'); (rename News _ _ _ _ => cN'); k_dflt (refine StrSrc.intro _ (by rfl) (by assumption) cF' cN' (by rw [sizeLine_eq]; decide) ?_); clear cF' cN'; intro _)) | (with_reducible ((with_reducible show LCg.FinE _ _ _ _ _ _ _); (unfold LCg.FinE); intro _ _ _ _ N' _; (try simp only [List.nil_append, List.cons_append] at N'); (try (revert N'; intros)); (try dsimp only))) | walk1 | (dsimp only; walk1) | (leave1; try dsimp only)))
  all_goals (refine ret _ _ _ ?_ (keep_back _ hg (fun q hq => (hh0 q hq).1) (by k_asm) (by k_asm) (by repeat' (first | exact List.forall_mem_nil _ | refine fmc (fun _ => by k_mem) ?_ | refine fmc (fun h9 => absurd (by k_mem) h9) ?_))) (grown_back hz (by k_asm)))
  all_goals (try dsimp only)
  all_goals (exact str_is (by decide +kernel))

end
section -- K40
set_option maxHeartbeats 2000000


/-- the columns' names -/
def abc (j : Nat) : Str := ([Str.ofString "a", Str.ofString "b", Str.ofString "c", Str.ofString "d"][j]?).getD (Str.ofString "a")
def INT : Str := Str.ofString "INTEGER"
/-- the columns made so far -/
def ColsAt (h₀ h : Heap) (vs : List Value) : Prop := ∀ (j : Nat) (v : Value), vs[j]? = some v → ∃ x dx es n f nt tt, v = .ref x ∧ Live h₀ h x (instObj 842 dx) ∧ Live h₀ h dx (dictOf es n) ∧ DA es f 20 ∧ f (Str.ofString "name") = some (.str (abc j) nt) ∧ f (Str.ofString "type_name") = some (.str INT tt)
theorem abc_ne {i j : Nat} (hi : i < 4) (hj : j < i) : (abc j == abc i) = false := by
  have h : (i = 1 ∨ i = 2 ∨ i = 3) := by (with_reducible exact s61 (by assumption) (by assumption))
  have h2 : j = 0 ∨ j = 1 ∨ j = 2 := by (with_reducible exact s62 (by assumption) (by assumption))
  rcases h with rfl | rfl | rfl <;> rcases h2 with rfl | rfl | rfl <;> first | (first | decide | omega) | decide +kernel

theorem fold_abc {w : World} {p : Program} {loose : List Str} {mean : ExcName → Option Value} {mg mb : Str → Option Value} {h₀ : Heap} {A : Around} {s : Shared} {j : Nat} {nt : Tok} (X : (Mine.myK w.params).In h₀) (T : Top p loose mean mg mb h₀) (st : h₀.StaysIn s.heap) (hroom : Room A 5) (hj : j < 4) :
    Calls7 PySem.Challenge.rw_xm0772_01.row.prog w A 784 [.str (abc j) nt] s [] (fun v h => ∃ t, v = .str (abc j) t) := by
  have h : j = 0 ∨ j = 1 ∨ j = 2 ∨ j = 3 := by (with_reducible exact s13 (by assumption))
  rcases h with rfl | rfl | rfl | rfl
  · exact fold_a X T st hroom
  · exact fold_b X T st hroom
  · exact fold_c X T st hroom
  · exact fold_d X T st hroom
local macro_rules | `(tactic| k_get) => `(tactic| exact DA.at (by assumption) (by assumption))

def placeMap (wanted self name : Value) (m0 : Str → Option Value) : Str → Option Value := fun y => if y = Str.ofString "wanted" then some wanted else if y = Str.ofString "self" then some self else if y = Str.ofString "name" then some name else m0 y

theorem place_ok {w : World} {p : Program} {loose : List Str} {mean : ExcName → Option Value} {mg mb : Str → Option Value} {h₀ : Heap} {A : Around} {s : Shared} {tx td cl : Addr} {es : List DictEntry} {n k kd : Nat} {f : Str → Option Value} {vs : List Value} {nt : Tok}
    (X : (Mine.myK w.params).In h₀) (T : Top p loose mean mg mb h₀) (st : h₀.StaysIn s.heap) (hroom : Room A 7) (hx : Live h₀ s.heap tx (instObj 915 td)) (hd : Live h₀ s.heap td (dictOf es n)) (hl : Live h₀ s.heap cl (W.listOf vs.toArray k)) (hD : DA es f kd) (hf : f (Str.ofString "columns") = some (.ref cl)) (hcols : ColsAt h₀ s.heap vs) (h3 : vs.length < 4) :
    Calls7 PySem.Challenge.rw_xm0772_01.row.prog w A 898 [.ref tx, .str (abc vs.length) nt] s [] (fun v h => v = .none) := by
  intro R ret
  have hcalm := hroom.calm
  revert X; k_fill; intro X
  have hh0 : ∀ q ∈ ([(tx, instObj 915 td), (td, dictOf es n), (cl, W.listOf vs.toArray k)] : List (Addr × Obj)), s.heap.get? q.1 = some q.2 ∧ h₀.get? q.1 = none := fmc hx (fmc hd (fmc hl (List.forall_mem_nil _)))
  k_dflt (refine' enter (binds := [(Str.ofString "self", .ref tx), (Str.ofString "name", .str (abc vs.length) nt)]) _ X T st hh0 ?k6 ?k7 ?k8 ?k9 ?kB ?_ ?c2 ?c3 ?c4 ?c5)
  case k6 => k_is
  case k7 => k_is
  case k8 => exact hroom.now
  case k9 => first | exact BindsTo.of_eq rfl | exact binds_K (X.keeps st) rfl (by k_is) rfl rfl rfl
  case kB => exact locs rfl
  case c2 => exact rfl
  case c3 => exact rfl
  case c4 => exact rfl
  case c5 => decide
  intro g L' h₁ stg hz hg Xg Tg F N
  k_dflt (show wpAny _ (Around.deeper _ (envOf _ ⟨_, _, _, _, _⟩ _ _ _)) (execs (_ :: _) (envOf _ ⟨_, _, _, _, _⟩ _ _ _)) _ _ _)
  k_fold
  have hlen : vs.length < 2 ^ 60 := by ((with_reducible refine t4 (by assumption) ?_); rfl)
  have h823 := Xg 823 (o823 w.params) (by k_is)
  (repeat' (first | (k_unfold; (try dsimp only)) | (k_end; wrow_close) | (with_reducible ((with_reducible show wpAny _ _ (pyIter (Value.ref _)) _ _ _); refine hold ?_)) | (with_reducible (k_here; (with_reducible show wpAny _ _ (call (Value.ref 784) _) _ _ _); (rename Fr _ _ _ _ => cF'); (rename News _ _ _ _ => cN'); k_dflt (refine' use7t cF' cN' (fold_abc ?X ?T (stays_now ?st cF') ?room ?h0) ?_); (case st => assumption); (case X => assumption); (case T => assumption); (case room => exact Room.deeper (by assumption) (by decide)); (case h0 => (with_reducible assumption)); (intro _ _ _ _ _); (try clear cF' cN'))) | (with_reducible ((with_reducible show wpAny _ _ (call (Value.type "range") _) _ _ _); k_here; (rename Fr _ _ _ _ => cF'); (rename News _ _ _ _ => cN'); k_dflt (first | (refine range1_rows cF' cN' ?_) | (refine range2_rows cF' cN' ?_)); clear cF' cN'; intro _ _ _ _ _ _ _ _ k'; clear k')) | (with_reducible (k_here; (with_reducible show wpAny _ _ (call (Value.builtin "len") [Value.ref _]) _ _ _); k_dflt (refine' len_own ?k1 ?k2 ?k3 ?_; (case k1 => k_asm); (case k2 => k_mem); (case k3 => assumption); k_whole))) | walk1 | (dsimp only; walk1) | (leave1; try dsimp only)))
  unfold Hold
  (rename Fr _ _ _ _ => F1); (rename News _ _ _ _ => N1); (rename IsRange _ _ _ _ _ _ _ _ => R1)
  rename_i h2 tk2 wt h3' h4 tk4 t4 u4 v4
  refine forRange (L := L') vs.length (fun i m news => ∃ (m0 : Str → Option Value), news = [(tx, instObj 915 td), (td, dictOf es n), (cl, W.listOf vs.toArray k)] ∧ ∀ y, m y = placeMap (.str (abc vs.length) wt) (.ref tx) (.str (abc vs.length) nt) m0 y) hcalm rfl R1 (by decide) (by omega) (by (with_reducible exact s74)) F1 N1 ⟨(fun y => List.lookup y [(Str.ofString "self", Value.ref tx), (Str.ofString "name", Value.str (abc vs.length) nt)].reverse), rfl, fun y => ?map⟩ ?step ?fin
  case map =>
    unfold placeMap
    by_cases h0 : y = Str.ofString "wanted"
    · subst h0; rfl
    by_cases h1 : y = Str.ofString "self"
    · subst h1; rfl
    by_cases h2 : y = Str.ofString "name"
    · subst h2; rfl
    simp only [h0, h1, h2, if_false]
  case step =>
    clear F1 N1 R1
    intro i t0 m news I o h tk hi hJ9 off F4 N4
    k_fold
    (refine ex1 (hJ9) fun m0 hE9 => an2 hE9 ?_; clear hE9; rintro rfl hm; (try clear hJ9))
    have F5 : Fr g L' h (fun z => if z = Str.ofString "place" then some (.int (0 + (i : Int)) t0) else placeMap (.str (abc vs.length) wt) (.ref tx) (.str (abc vs.length) nt) m0 z) := fr_eq F4 fun y => by simp only [hm]
    clear F4 hm
    unfold placeMap at F5
    refine hide fun G9 k9 => ?_
    obtain ⟨v, hv⟩ : ∃ v, vs[i]? = some v := ⟨_, List.getElem?_eq_getElem hi⟩
    refine k9 ?_
    clear k9 G9
    (refine ex7 (hcols i v hv) fun x dx esc nc fc nt2 tt2 hE9 => an6 hE9 ?_; clear hE9; rintro rfl hcx hcd hcD hcn hct)
    have ex := still hg (fun q hq => (hh0 q hq).1) F5 N4 (fun q hq => .tail _ hq) hcx.1
    have ed := still hg (fun q hq => (hh0 q hq).1) F5 N4 (fun q hq => .tail _ hq) hcd.1
    have lt1 : x ≠ L' := Nat.ne_of_lt (Nat.lt_of_lt_of_le (Heap.lt_size hcx.1) hz)
    have lt2 : dx ≠ L' := Nat.ne_of_lt (Nat.lt_of_lt_of_le (Heap.lt_size hcd.1) hz)
    have ho : ∀ q ∈ [(x, instObj 842 dx), (dx, dictOf esc nc)], h.get? q.1 = some q.2 ∧ h₀.get? q.1 = none ∧ q.1 ≠ L' := fun q hq => by
      simp only [List.mem_cons, List.not_mem_nil, or_false] at hq
      rcases hq with rfl | rfl
      · exact ⟨ex, hcx.2, lt1⟩
      · exact ⟨ed, hcd.2, lt2⟩
    (refine an3 (borrow [(x, instObj 842 dx), (dx, dictOf esc nc)] stg F5 N4 ho) ?_; intro st2 F6 N6)
    have X2 := X.keeps st2
    have T2 := T.keeps st2
    simp only [List.cons_append, List.nil_append] at N6
    have keepF := hold (P := Hold (Fr g L' h _)) F5
    have keepN := hold (P := Hold (News g L' h _)) N4
    have hne := abc_ne h3 hi
    have hgd : vs.getD (0 + (i : Int)).toNat .none = .ref x := by
      rw [show (0 + (i : Int)).toNat = i by (with_reducible exact s4), List.getD_eq_getElem?_getD, hv]; rfl
    clear F5 N4 Xg Tg
    (repeat' (first | (k_unfold; (try dsimp only)) | (k_end; wrow_close) | (with_reducible (k_here; (with_reducible show wpAny _ _ (call (Value.ref 784) _) _ _ _); (rename Fr _ _ _ _ => cF'); (rename News _ _ _ _ => cN'); k_dflt (refine' use7t cF' cN' (fold_abc ?X ?T (stays_now ?st cF') ?room ?h0) ?_); (case st => assumption); (case X => assumption); (case T => assumption); (case room => exact Room.deeper (by assumption) (by decide)); (case h0 => omega); (intro _ _ _ _ _); (try clear cF' cN'))) | (with_reducible (k_here; (with_reducible show wpAny _ _ (subscriptTail _ _ (Value.ref _) (Value.int _ _)) _ _ _); k_dflt (refine' item_val ?k1 ?k2 ?k3 ?k4 ?k5 ?kv ?_ ?k6; (case k1 => k_asm); (case k2 => k_mem); (case k3 => ((with_reducible refine c6 ?_); rfl)); (case k4 => assumption); (case k5 => (with_reducible exact s25 (by assumption))); (case kv => assumption); (case k6 => with_unfolding_all rfl); k_whole))) | walk1 | (dsimp only; walk1) | (leave1; try dsimp only)))
    (rename Fr _ _ _ _ => F7); (rename News _ _ _ _ => N7)
    refine hide fun G9 k9 => ?_
    obtain ⟨F8, N8⟩ := payback (news := [(I, o), (tx, instObj 915 td), (td, dictOf es n), (cl, W.listOf vs.toArray k)]) [(x, instObj 842 dx), (dx, dictOf esc nc)] keepF (fun q hq => (ho q hq).1) F7 N7 (fun q hq => by
      rcases List.mem_cons.mp hq with rfl | hq
      · exact .head _
      · rw [List.mem_singleton.mp hq]; exact mem1) (fun q hq => ⟨.tail _ (.tail _ hq), (keepN q hq).2.2⟩)
    refine k9 ?_
    clear k9 G9
    refine TurnedF.intro F8 N8 [(tx, instObj 915 td), (td, dictOf es n), (cl, W.listOf vs.toArray k)] (placeMap (.str (abc vs.length) wt) (.ref tx) (.str (abc vs.length) nt) (fun y => if y = Str.ofString "place" then some (.int (0 + (i : Int)) t0) else m0 y)) (fun q hq => hq) off (fun y => ?_) ⟨_, rfl, fun y => rfl⟩
    unfold placeMap
    by_cases h0 : y = Str.ofString "place"
    · subst h0; rfl
    by_cases h1 : y = Str.ofString "wanted"
    · subst h1; rfl
    by_cases h2 : y = Str.ofString "self"
    · subst h2; rfl
    by_cases h3 : y = Str.ofString "name"
    · subst h3; rfl
    simp only [h0, h1, h2, h3, if_false]
  case fin =>
    clear F1 N1 R1
    intro h tk m news hJ9p4 F4 N4
    refine hide fun G9 k9 => ?_
    obtain ⟨m0, rfl, hm⟩ := hJ9p4
    refine k9 ?_
    clear k9 G9
    have F5 := fr_eq F4 hm
    clear F4 hm
    unfold placeMap at F5
    have ha : abc vs.length = Str.ofString "a" ∨ abc vs.length = Str.ofString "b" ∨ abc vs.length = Str.ofString "c" ∨ abc vs.length = Str.ofString "d" := by
      have h4 : vs.length = 0 ∨ vs.length = 1 ∨ vs.length = 2 ∨ vs.length = 3 := by (with_reducible exact s13 (by assumption))
      rcases h4 with e | e | e | e <;> rw [e]
      · exact .inl rfl
      · exact .inr (.inl rfl)
      · exact .inr (.inr (.inl rfl))
      · exact .inr (.inr (.inr rfl))
    rcases ha with e | e | e | e
    all_goals (rw [e] at F5; clear e)
    all_goals (repeat' (first | (k_unfold; (try dsimp only)) | (k_end; wrow_close) | (with_reducible ((with_reducible show wpAny _ _ (compareOp .In (Value.str _ _) (Value.ref _)) _ _ _); k_here; (rename Fr _ _ _ _ => cF'); (rename Heap.get? _ 823 = _ => h8'); k_dflt (refine in_tuple_strs (ys := [Str.ofString "rowid", Str.ofString "oid", Str.ofString "_rowid_"]) ⟨_, cF'.keep _ _ h8', rfl, _, rfl⟩ (.cons _ _ (.cons _ _ (.cons _ _ .nil))) ?_); k_whole)) | walk1 | (dsimp only; walk1) | (leave1; try dsimp only)))
    all_goals (refine ret _ _ _ ?_ (keep_back _ hg (fun q hq => (hh0 q hq).1) (by k_asm) (by k_asm) (by repeat' (first | exact List.forall_mem_nil _ | refine fmc (fun _ => by k_mem) ?_ | refine fmc (fun h9 => absurd (by k_mem) h9) ?_))) (grown_back hz (by k_asm)))
    all_goals rfl

end
section -- K37
set_option maxHeartbeats 2000000


def ascMap (signs text : Value) (m0 : Str → Option Value) : Str → Option Value := fun y => if y = Str.ofString "signs" then some signs else if y = Str.ofString "text" then some text else m0 y
theorem strsAre_snoc : ∀ {vs : List Value} {xs : List Str} {y : Str} {t : Tok}, StrsAre vs xs → StrsAre (vs ++ [.str y t]) (xs ++ [y])
  | _, _, _, _, .nil => .cons _ _ .nil
  | _, _, _, _, .cons a b r => .cons a b (strsAre_snoc r)

theorem asc_ok {w : World} {p : Program} {loose : List Str} {mean : ExcName → Option Value} {mg mb : Str → Option Value} {h₀ : Heap} {A : Around} {s : Shared} {nt : Tok}
    (X : (Mine.myK w.params).In h₀) (T : Top p loose mean mg mb h₀) (st : h₀.StaysIn s.heap) (hroom : Room A 5)  :
    Calls7 PySem.Challenge.rw_xm0772_01.row.prog w A 609 [.str (Str.ofString "INTEGER") nt] s [] (fun v h => ∃ t, v = .str (Str.ofString "integer") t) := by
  intro R ret
  have hcalm := hroom.calm
  revert X; k_fill; intro X
  have hh0 : ∀ q ∈ ([] : List (Addr × Obj)), s.heap.get? q.1 = some q.2 ∧ h₀.get? q.1 = none := List.forall_mem_nil _
  k_dflt (refine' enter (binds := [(Str.ofString "text", .str (Str.ofString "INTEGER") nt)]) _ X T st hh0 ?k6 ?k7 ?k8 ?k9 ?kB ?_ ?c2 ?c3 ?c4 ?c5)
  case k6 => k_is
  case k7 => k_is
  case k8 => exact hroom.now
  case k9 => first | exact BindsTo.of_eq rfl | exact binds_K (X.keeps st) rfl (by k_is) rfl rfl rfl
  case kB => exact locs rfl
  case c2 => exact rfl
  case c3 => exact rfl
  case c4 => exact rfl
  case c5 => decide
  intro g L' h₁ stg hz hg Xg Tg F N
  k_dflt (show wpAny _ (Around.deeper _ (envOf _ ⟨_, _, _, _, _⟩ _ _ _)) (execs (_ :: _) (envOf _ ⟨_, _, _, _, _⟩ _ _ _)) _ _ _)
  k_fold
  (repeat' (first | (k_unfold; (try dsimp only)) | (k_end; wrow_close) | (with_reducible ((with_reducible show wpAny _ _ (pyIter (Value.str _ _)) _ _ _); refine hold ?_)) | (with_reducible (k_here; (with_reducible show wpAny _ _ (newList _) _ _ _); k_dflt (refine' newL ?k1 ?k2 ?_ ?z; (case k1 => k_asm); (case k2 => k_asm); (case z => first | exact sz0 | exact sz1 | exact sz2 | exact sz3 | size_fits); k_whole); intro _ _ _ _ l1; (try k_lt l1); (try (revert l1; intros)); (try k_sweep))) | walk1 | (dsimp only; walk1) | (leave1; try dsimp only)))
  unfold Hold
  (rename Fr _ _ _ _ => F1); (rename News _ _ _ _ => N1)
  rename_i lt ha l1 hb
  refine forStr (L := L') (Str.ofString "INTEGER") (fun i m news => ∃ (vs : List Value) (n : Nat) (m0 : Str → Option Value), StrsAre vs (([105, 110, 116, 101, 103, 101, 114].take i).map fun c => (⟨#[c]⟩ : Str)) ∧ news = [(lt, W.listOf vs.toArray n)] ∧ ∀ y, m y = ascMap (.ref lt) (.str (Str.ofString "INTEGER") nt) m0 y) hcalm rfl F1 N1 ⟨[], 0, (fun y => List.lookup y [(Str.ofString "text", .str (Str.ofString "INTEGER") nt)].reverse), .nil, rfl, fun y => ?map⟩ ?step ?fin
  case map =>
    unfold ascMap
    by_cases h0 : y = Str.ofString "signs"
    · subst h0; rfl
    by_cases h1 : y = Str.ofString "text"
    · subst h1; rfl
    simp only [h0, h1, if_false]
  case step =>
    clear F1 N1
    intro i c u m news I o h tk hc hJ9 off F4 N4
    k_fold
    (refine ex3 (hJ9) fun vs n m0 hE9 => an3 hE9 ?_; clear hE9; rintro hvs rfl hm; (try clear hJ9))
    have F5 : Fr g L' h (fun z => if z = Str.ofString "sign" then some (.str ⟨#[c]⟩ u) else ascMap (.ref lt) (.str (Str.ofString "INTEGER") nt) m0 z) := fr_eq F4 fun y => by simp only [hm]
    clear F4 hm
    unfold ascMap at F5
    have hi : i < 7 := by
      rcases Nat.lt_or_ge i 7 with h7 | h7
      · exact h7
      · rw [Array.getElem?_eq_none (show (7 : Nat) ≤ i from h7)] at hc; cases hc
    have hc2 : 65 ≤ c ∧ c ≤ 90 ∧ [105, 110, 116, 101, 103, 101, 114][i]? = some (c + 32) := by
      have hi' : i = 0 ∨ i = 1 ∨ i = 2 ∨ i = 3 ∨ i = 4 ∨ i = 5 ∨ i = 6 := by (with_reducible exact s14 (by assumption))
      rcases hi' with rfl | rfl | rfl | rfl | rfl | rfl | rfl <;> cases hc <;> decide
    have hvl := hvs.length
    rw [List.length_map, List.length_take] at hvl
    have d1 := neLt (off _ (.head _))
    (refine an3 (hc2) ?_; intro hc3 hc4 hc5; (try clear hc2))
    have hA : ¬ ({ cps := #[c] } : Str).cps.toList < (Str.ofString "A").cps.toList := by
      rw [show (Str.ofString "A").cps.toList = [65] by decide +kernel]
      intro h
      rcases List.cons_lt_cons_iff.mp h with h | ⟨_, h⟩
      · omega
      · exact absurd h (List.not_lt_nil _)
    have hZ : ¬ (Str.ofString "Z").cps.toList < ({ cps := #[c] } : Str).cps.toList := by
      rw [show (Str.ofString "Z").cps.toList = [90] by decide +kernel]
      intro h
      rcases List.cons_lt_cons_iff.mp h with h | ⟨_, h⟩
      · omega
      · exact absurd h (List.not_lt_nil _)
    (repeat' (first | (k_unfold; (try dsimp only)) | (k_end; wrow_close) | (with_reducible ((with_reducible show wpAny _ _ (binaryOp Operator.Add (Value.int _ _) (Value.int _ _)) _ _ _); (with_reducible refine addI ?_))) | (with_reducible (k_here; (with_reducible show wpAny _ _ (call (Value.builtin "list.append") [Value.ref _, _]) _ _ _); k_dflt (refine' appL ?k1 ?k2 ?k3 ?_ ?z; (case k1 => k_asm); (case k2 => k_asm); (case k3 => k_upd); (case z => first | exact sz0 | size_fits); k_whole); intro _ _ _; (try k_sweep))) | walk1 | (dsimp only; walk1) | (leave1; try dsimp only)))
    (rename Fr _ _ _ _ => F1); (rename News _ _ _ _ => N1)
    have hs2 : StrsAre (vs ++ [Value.str { cps := #[((c : Int) + 32).toNat] } (tk + 1 + 1 + 1 + 1 + 1)]) (([105, 110, 116, 101, 103, 101, 114].take (i + 1)).map fun c => (⟨#[c]⟩ : Str)) := by
      rw [List.take_add_one, hc5, List.map_append, show ((c : Int) + 32).toNat = c + 32 by (with_reducible exact s67)]
      exact strsAre_snoc hvs
    refine TurnedF.intro F1 N1 [(lt, W.listOf (vs ++ [Value.str { cps := #[((c : Int) + 32).toNat] } (tk + 1 + 1 + 1 + 1 + 1)]).toArray (n + 1))] _ (fun q hq => ?_) (fun q hq => ?_) (fun y => ?_) ⟨_, n + 1, (fun y => if y = Str.ofString "sign" then some (.str ⟨#[c]⟩ u) else m0 y), hs2, rfl, fun y => rfl⟩
    · rw [← List.push_toArray] at hq; exact hq
    · rw [List.mem_singleton.mp hq]; exact off (lt, W.listOf vs.toArray n) (.head _)
    · unfold ascMap
      by_cases h0 : y = Str.ofString "sign"
      · subst h0; rfl
      by_cases h1 : y = Str.ofString "signs"
      · subst h1; rfl
      by_cases h2 : y = Str.ofString "text"
      · subst h2; rfl
      simp only [h0, h1, h2, if_false]
  case fin =>
    clear F1 N1
    intro h tk m news hJ9p4 F4 N4
    refine hide fun G9 k9 => ?_
    obtain ⟨vs, n, m0, hvs, rfl, hm⟩ := hJ9p4
    refine k9 ?_
    clear k9 G9
    have F5 := fr_eq F4 hm
    clear F4 hm
    unfold ascMap at F5
    (repeat' (first | (k_unfold; (try dsimp only)) | (k_end; wrow_close) | (with_reducible (k_here; (with_reducible show wpAny _ _ (call (Value.builtin "str.join") [Value.str _ _, Value.ref _]) _ _ _); k_dflt (refine' join_list (News.isList (by k_asm) (by k_mem)) (by assumption) ?ok ?_; (case ok => decide); k_whole); intro _ _)) | walk1 | (dsimp only; walk1) | (leave1; try dsimp only)))
    refine ret _ _ _ ?_ (keep_back _ hg (fun q hq => (hh0 q hq).1) (by k_asm) (by k_asm) (by repeat' (first | exact List.forall_mem_nil _ | refine fmc (fun _ => by k_mem) ?_ | refine fmc (fun h9 => absurd (by k_mem) h9) ?_))) (grown_back hz (by k_asm))
    exact str_is (by decide +kernel)

end
section -- K36
set_option maxHeartbeats 2000000


theorem aff_ok {w : World} {p : Program} {loose : List Str} {mean : ExcName → Option Value} {mg mb : Str → Option Value} {h₀ : Heap} {A : Around} {s : Shared} {nt : Tok}
    (X : (Mine.myK w.params).In h₀) (T : Top p loose mean mg mb h₀) (st : h₀.StaysIn s.heap) (hroom : Room A 7)  :
    Calls7 PySem.Challenge.rw_xm0772_01.row.prog w A 623 [.str (Str.ofString "INTEGER") nt] s [] (fun v h => ∃ t, v = .str (Str.ofString "integer") t) := by
  intro R ret
  have hcalm := hroom.calm
  revert X; k_fill; intro X
  have hh0 : ∀ q ∈ ([] : List (Addr × Obj)), s.heap.get? q.1 = some q.2 ∧ h₀.get? q.1 = none := List.forall_mem_nil _
  k_dflt (refine' enter (binds := [(Str.ofString "type_name", .str (Str.ofString "INTEGER") nt)]) _ X T st hh0 ?k6 ?k7 ?k8 ?k9 ?kB ?_ ?c2 ?c3 ?c4 ?c5)
  case k6 => k_is
  case k7 => k_is
  case k8 => exact hroom.now
  case k9 => first | exact BindsTo.of_eq rfl | exact binds_K (X.keeps st) rfl (by k_is) rfl rfl rfl
  case kB => exact locs rfl
  case c2 => exact rfl
  case c3 => exact rfl
  case c4 => exact rfl
  case c5 => decide
  intro g L' h₁ stg hz hg Xg Tg F N
  k_dflt (show wpAny _ (Around.deeper _ (envOf _ ⟨_, _, _, _, _⟩ _ _ _)) (execs (_ :: _) (envOf _ ⟨_, _, _, _, _⟩ _ _ _)) _ _ _)
  k_fold
  have hin : (Builtin.Str.occurrences (Str.ofString "integer") (Str.ofString "int") 0 (Str.ofString "integer").length 1).isEmpty = false := by decide +kernel
  (repeat' (first | (k_unfold; (try dsimp only)) | (k_end; wrow_close) | (with_reducible (k_here; (with_reducible show wpAny _ _ (call (Value.ref 609) _) _ _ _); (rename Fr _ _ _ _ => cF'); (rename News _ _ _ _ => cN'); k_dflt (refine' use7t cF' cN' (asc_ok ?X ?T (stays_now ?st cF') ?room ) ?_); (case st => assumption); (case X => assumption); (case T => assumption); (case room => exact Room.deeper (by assumption) (by decide)); (intro _ _ _ _ _); (try clear cF' cN'))) | (with_reducible (k_here; (with_reducible show wpAny _ _ (newTuple _) _ _ _); kup_bare; k_dflt (refine' newT ?F ?N ?_ ?z; (case F => k_asm); (case N => k_asm); (case z => first | exact sz0 | exact sz1 | exact sz2 | exact sz3 | kmk_size)); intro _ _ _ _ l1; (try k_lt l1); (try (revert l1; intros)); (try k_sweep))) | walk1 | (dsimp only; walk1) | (leave1; try dsimp only)))
  all_goals (try (exfalso; (rename List.isEmpty _ = true => z9); rw [hin] at z9; cases z9))
  all_goals (refine ret _ _ _ ?_ (keep_back _ hg (fun q hq => (hh0 q hq).1) (by k_asm) (by k_asm) (by repeat' (first | exact List.forall_mem_nil _ | refine fmc (fun _ => by k_mem) ?_ | refine fmc (fun h9 => absurd (by k_mem) h9) ?_))) (grown_back hz (by k_asm)))
  all_goals (try dsimp only)
  all_goals (exact ⟨_, rfl⟩)

end
section -- K38
set_option maxHeartbeats 2000000


theorem column_init {w : World} {p : Program} {loose : List Str} {mean : ExcName → Option Value} {mg mb : Str → Option Value} {h₀ : Heap} {A : Around} {s : Shared} {x dx : Addr} {nm : Str} {nt tt : Tok}
    (X : (Mine.myK w.params).In h₀) (T : Top p loose mean mg mb h₀) (st : h₀.StaysIn s.heap) (hroom : Room A 9) (hx : Live h₀ s.heap x (instObj 842 dx)) (hdx : Live h₀ s.heap dx (dictOf [] 0)) (hlt : @LT.lt Nat _ dx x)  :
    Calls7 PySem.Challenge.rw_xm0772_01.row.prog w A 839 [.ref x, .str nm nt, .str (Str.ofString "INTEGER") tt] s [dx] (fun v h => v = .none ∧ ∃ es n f, h.get? dx = some (dictOf es n) ∧ DA es f 20 ∧ f (Str.ofString "name") = some (.str nm nt) ∧ f (Str.ofString "type_name") = some (.str (Str.ofString "INTEGER") tt)) := by
  intro R ret
  have hcalm := hroom.calm
  revert X; k_fill; intro X
  have hh0 : ∀ q ∈ ([(x, instObj 842 dx), (dx, dictOf [] 0)] : List (Addr × Obj)), s.heap.get? q.1 = some q.2 ∧ h₀.get? q.1 = none := fmc hx (fmc hdx (List.forall_mem_nil _))
  k_dflt (refine' enter (binds := [(Str.ofString "self", .ref x), (Str.ofString "name", .str nm nt), (Str.ofString "type_name", .str (Str.ofString "INTEGER") tt)]) _ X T st hh0 ?k6 ?k7 ?k8 ?k9 ?kB ?_ ?c2 ?c3 ?c4 ?c5)
  case k6 => k_is
  case k7 => k_is
  case k8 => exact hroom.now
  case k9 => first | exact BindsTo.of_eq rfl | exact binds_K (X.keeps st) rfl (by k_is) rfl rfl rfl
  case kB => exact locs rfl
  case c2 => exact rfl
  case c3 => exact rfl
  case c4 => exact rfl
  case c5 => decide
  intro g L' h₁ stg hz hg Xg Tg F N
  k_dflt (show wpAny _ (Around.deeper _ (envOf _ ⟨_, _, _, _, _⟩ _ _ _)) (execs (_ :: _) (envOf _ ⟨_, _, _, _, _⟩ _ _ _)) _ _ _)
  k_fold
  have D0 := DA.nil
  (repeat' (first | (k_unfold; (try dsimp only)) | (k_end; wrow_close) | (with_reducible (k_here; (with_reducible show wpAny _ _ (call (Value.ref 623) _) _ _ _); (rename Fr _ _ _ _ => cF'); (rename News _ _ _ _ => cN'); k_dflt (refine' use7t cF' cN' (aff_ok ?X ?T (stays_now ?st cF') ?room ) ?_); (case st => assumption); (case X => assumption); (case T => assumption); (case room => exact Room.deeper (by assumption) (by decide)); (intro _ _ _ _ _); (try clear cF' cN'))) | (with_reducible ((with_reducible show wpAny _ _ (setAttr (Value.ref _) _ _) _ _ _); k_here; k_dflt (refine' set_sym ?F ?X ?N ?x ?U ?D ?a ?b ?c ?d ?e ?_; (case F => k_asm); (case X => k_asm); (case N => k_asm); (case x => k_mem); (case U => k_updF); (case D => assumption); (case a => k_is); (case b => k_is); (case c => k_is); (case d => k_is); (case e => first | decide | omega); k_whole); intro _ _ _ _ _ N'; (try dsimp only at N'); (try (revert N'; intros)))) | walk1 | (dsimp only; walk1) | (leave1; try dsimp only)))
  refine ret _ _ _ ?_ (keep_back [dx] hg (fun q hq => (hh0 q hq).1) (by k_asm) (by k_asm) (by repeat' (first | exact List.forall_mem_nil _ | refine fmc (fun _ => by k_mem) ?_ | refine fmc (fun h9 => absurd (by k_mem) h9) ?_))) (grown_back hz (by k_asm))
  (rename News _ _ _ _ => N9); (rename DA _ _ _ => D9)
  exact ⟨rfl, _, _, _, (N9 (dx, _) (by k_mem)).1, ⟨D9.get, D9.ref, Nat.le_trans D9.len (by decide)⟩, rfl, rfl⟩

end
section -- K41
set_option maxHeartbeats 2000000


theorem ColsAt.still {h₀ sh g h : Heap} {L : Addr} {m : Str → Option Value} {hid led : List (Addr × Obj)} {vs : List Value} (c : ColsAt h₀ sh vs) (hg : ∀ b o, sh.get? b = some o → b ∉ adrs hid → g.get? b = some o) (hh : ∀ q ∈ hid, sh.get? q.1 = some q.2)
    (F : Fr g L h m) (N : News g L h led) (hs : ∀ q ∈ hid, q ∈ led) : ColsAt h₀ h vs := fun j v hv => by
  (refine ex7 (c j v hv) fun x dx es n f nt tt hE9 => an4 hE9 ?_; clear hE9; intro e hx hd r)
  exact ⟨x, dx, es, n, f, nt, tt, e, ⟨Mine.still hg hh F N hs hx.1, hx.2⟩, ⟨Mine.still hg hh F N hs hd.1, hd.2⟩, r⟩
theorem ColsAt.keep {h₀ sh h : Heap} {W : List Addr} {vs : List Value} (c : ColsAt h₀ sh vs) (k : KeepBut W sh h) (hw : ∀ a o, sh.get? a = some o → o.cls ≠ .type "list" → a ∉ W) : ColsAt h₀ h vs := fun j v hv => by
  (refine ex7 (c j v hv) fun x dx es n f nt tt hE9 => an4 hE9 ?_; clear hE9; intro e hx hd r)
  exact ⟨x, dx, es, n, f, nt, tt, e, ⟨k _ _ (hw _ _ hx.1 (by show Value.ref _ ≠ _; simp)) hx.1, hx.2⟩, ⟨k _ _ (hw _ _ hd.1 (by show Value.type _ ≠ _; simp)) hd.1, hd.2⟩, r⟩
theorem ColsAt.snoc {h₀ h : Heap} {vs : List Value} {x dx : Addr} {es : List DictEntry} {n : Nat} {f : Str → Option Value} {nt tt : Tok} (c : ColsAt h₀ h vs) (hx : Live h₀ h x (instObj 842 dx)) (hd : Live h₀ h dx (dictOf es n)) (hD : DA es f 20)
    (h1 : f (Str.ofString "name") = some (.str (abc vs.length) nt)) (h2 : f (Str.ofString "type_name") = some (.str INT tt)) : ColsAt h₀ h (vs ++ [.ref x]) := fun j v hv => by
  rcases snoc_at hv with ⟨_, hv⟩ | ⟨rfl, rfl⟩
  · exact c j v hv
  · exact ⟨x, dx, es, n, f, nt, tt, rfl, hx, hd, hD, h1, h2⟩
section
variable {prog : Program} {w : World} {A : Around} {E : Value → Shared → Prop} {s : Shared} {g : Heap} {L : Addr} {news : List (Addr × Obj)}
theorem notin_none {a : Addr} {n : Int} {u : Tok} {Q : Value → Shared → Prop} (N : News g L s.heap news) (hm : (a, ({ cls := .type "tuple", data := .seq #[.none, .int n u] } : Obj)) ∈ news) (h : Q (.bool false) s) :
    wpAny (model prog w) A (compareOp .NotIn .none (.ref a)) Q E s := by
  refine SeqAt.notIn_tupleAt (fun y => match y with | .none => true | _ => false) ⟨_, (N _ hm).1, rfl, _, rfl⟩ (fun y hy => ?_) ?_
  · rcases List.mem_cons.mp (Array.mem_def.mp hy) with rfl | hy
    · exact SeqAt.EqAt.same _
    · rw [List.mem_singleton.mp hy]
      exact SeqAt.EqAt.int_none _ _
  · simpa using h
end

theorem addcol_ok {w : World} {p : Program} {loose : List Str} {mean : ExcName → Option Value} {mg mb : Str → Option Value} {h₀ : Heap} {A : Around} {s : Shared} {rx rd tx td cl ox od : Addr} {er et eo : List DictEntry} {nr n no k kr kd ko : Nat} {fo : Str → Option Value} {hp sv rs rp il kl pl nm rt sq : Value} {vs : List Value} {nt tt : Tok}
    (X : (Mine.myK w.params).In h₀) (T : Top p loose mean mg mb h₀) (st : h₀.StaysIn s.heap) (hroom : Room A 12) (hrx : Live h₀ s.heap rx (instObj 1040 rd)) (hrd : Live h₀ s.heap rd (dictOf er nr)) (hrD : DA er (rdF (.ref tx) hp sv rs) kr) (hx : Live h₀ s.heap tx (instObj 915 td)) (hd : Live h₀ s.heap td (dictOf et n)) (hl : Live h₀ s.heap cl (W.listOf vs.toArray k)) (hD : DA et (tabF (.ref cl) rp il kl pl nm rt sq) kd) (hcols : ColsAt h₀ s.heap vs) (h3 : vs.length < 4) (hox : Live h₀ s.heap ox (instObj 490 od)) (hod : Live h₀ s.heap od (dictOf eo no)) (hoD : DA eo fo ko) (hon : fo (Str.ofString "name") = some (.str (abc vs.length) nt)) (hot : fo (Str.ofString "type_name") = some (.str INT tt)) :
    Calls7 PySem.Challenge.rw_xm0772_01.row.prog w A 989 [.ref rx, .ref ox] s [cl] (fun v h => v = .none ∧ ∃ x dx es n f nt tt k', h.get? cl = some (W.listOf (vs ++ [Value.ref x]).toArray k') ∧ Live h₀ h x (instObj 842 dx) ∧ Live h₀ h dx (dictOf es n) ∧ DA es f 20 ∧ f (Str.ofString "name") = some (.str (abc vs.length) nt) ∧ f (Str.ofString "type_name") = some (.str INT tt) ∧ s.heap.get? x = none ∧ s.heap.get? dx = none) := by
  intro R ret
  have hcalm := hroom.calm
  revert X; k_fill; intro X
  have hh0 : ∀ q ∈ ([(rx, instObj 1040 rd), (rd, dictOf er nr), (tx, instObj 915 td), (td, dictOf et n), (cl, W.listOf vs.toArray k), (ox, instObj 490 od), (od, dictOf eo no)] : List (Addr × Obj)), s.heap.get? q.1 = some q.2 ∧ h₀.get? q.1 = none := fmc hrx (fmc hrd (fmc hx (fmc hd (fmc hl (fmc hox (fmc hod (List.forall_mem_nil _)))))))
  k_dflt (refine' enter (binds := [(Str.ofString "self", .ref rx), (Str.ofString "told", .ref ox)]) _ X T st hh0 ?k6 ?k7 ?k8 ?k9 ?kB ?_ ?c2 ?c3 ?c4 ?c5)
  case k6 => k_is
  case k7 => k_is
  case k8 => exact hroom.now
  case k9 => first | exact BindsTo.of_eq rfl | exact binds_K (X.keeps st) rfl (by k_is) rfl rfl rfl
  case kB => exact locs rfl
  case c2 => exact rfl
  case c3 => exact rfl
  case c4 => exact rfl
  case c5 => decide
  intro g L' h₁ stg hz hg Xg Tg F N
  k_dflt (show wpAny _ (Around.deeper _ (envOf _ ⟨_, _, _, _, _⟩ _ _ _)) (execs (_ :: _) (envOf _ ⟨_, _, _, _, _⟩ _ _ _)) _ _ _)
  k_fold
  have hlen : vs.length < 2 ^ 60 := by ((with_reducible refine t4 (by assumption) ?_); rfl)
  have hh1 : ∀ q ∈ [(rx, instObj 1040 rd), (rd, dictOf er nr), (tx, instObj 915 td), (td, dictOf et n), (cl, W.listOf vs.toArray k), (ox, instObj 490 od), (od, dictOf eo no)], s.heap.get? q.1 = some q.2 := fun q hq => (hh0 q hq).1
  have ne_rx := neCls N (a := rx) (b := cl) (o := instObj 1040 rd) (o' := W.listOf vs.toArray k) (by k_mem) (by k_mem) (by show Value.ref _ ≠ Value.type _; simp)
  have ne_rd := neCls N (a := rd) (b := cl) (o := dictOf er nr) (o' := W.listOf vs.toArray k) (by k_mem) (by k_mem) (by show Value.type _ ≠ Value.type _; simp)
  have ne_tx := neCls N (a := tx) (b := cl) (o := instObj 915 td) (o' := W.listOf vs.toArray k) (by k_mem) (by k_mem) (by show Value.ref _ ≠ Value.type _; simp)
  have ne_td := neCls N (a := td) (b := cl) (o := dictOf et n) (o' := W.listOf vs.toArray k) (by k_mem) (by k_mem) (by show Value.type _ ≠ Value.type _; simp)
  have ne_ox := neCls N (a := ox) (b := cl) (o := instObj 490 od) (o' := W.listOf vs.toArray k) (by k_mem) (by k_mem) (by show Value.ref _ ≠ Value.type _; simp)
  have ne_od := neCls N (a := od) (b := cl) (o := dictOf eo no) (o' := W.listOf vs.toArray k) (by k_mem) (by k_mem) (by show Value.type _ ≠ Value.type _; simp)
  (repeat' (first | (k_unfold; (try dsimp only)) | (k_end; wrow_close) | (with_reducible ((with_reducible show wpAny _ _ (unaryOp UnaryOp.USub (Value.int _ _)) _ _ _); (with_reducible refine negI ?_))) | (with_reducible (k_here; (with_reducible show wpAny _ _ (call (Value.ref 842) _) _ _ _); (rename Fr _ _ _ _ => cF'); (rename News _ _ _ _ => cN'); k_dflt (refine' useMk (fI := 839) cF' cN' ?X ?st ?hm ?hi ?hf (fun x9 dx9 s9 st9 hx9 hd9 lt9 => column_init ?X2 ?T st9 (Room.make (n := 9) ?room _ _) hx9 hd9 lt9 ) ?_); (case st => assumption); (case X2 => assumption); (case X => assumption); (case T => assumption); (case hm => k_is); (case hi => k_is); (case hf => k_is); (case room => exact Room.deeper (k := 10) (by assumption) (by decide)); (intro _ _ _ _ _ _ _ _ _ _ _ lo' _); (try k_lt lo'); (try (revert lo'; intros)); (try clear cF' cN'))) | (k_here; (with_reducible show wpAny _ _ (call (Value.ref 898) _) _ _ _); (rename Fr _ _ _ _ => cF'); (rename News _ _ _ _ => cN'); (rename ColsAt _ _ _ => cC'); k_dflt (refine' use7p cF' cN' (place_ok ?X ?T (stays_now ?st cF') ?room ?h0 ?h1 ?h2 ?h3 ?h4 ?h5 ?h6) ?_); (case st => assumption); (case X => assumption); (case T => assumption); (case room => exact Room.deeper (by assumption) (by decide)); (case h0 => exact Live.of (by assumption) cN' (by k_mem)); (case h1 => exact Live.of (by assumption) cN' (by k_mem)); (case h2 => exact Live.of (by assumption) cN' (by k_mem)); (case h3 => assumption); (case h4 => first | assumption | rfl); (case h5 => exact ColsAt.still cC' (by assumption) (by assumption) cF' cN' (by lcg_sub)); (case h6 => assumption); (intro _ _ _ p' _ _); subst p'; (try clear cF' cN')) | (with_reducible (k_here; (with_reducible show wpAny _ _ (compareOp _ Value.none (Value.ref _)) _ _ _); k_dflt (refine' notin_none ?k1 ?k2 ?_; (case k1 => k_asm); (case k2 => k_mem); k_whole))) | (with_reducible (k_here; (with_reducible show wpAny _ _ (call (Value.builtin "list.append") [Value.ref _, _]) _ _ _); k_dflt (refine' appL ?k1 ?k2 ?k3 ?_ ?z; (case k1 => k_asm); (case k2 => k_asm); (case k3 => k_upd); (case z => first | exact sz0 | size_fits); k_whole); intro _ _ _; (try k_sweep))) | (with_reducible (k_here; (with_reducible show wpAny _ _ (call (Value.builtin "len") [Value.ref _]) _ _ _); k_dflt (refine' len_own ?k1 ?k2 ?k3 ?_; (case k1 => k_asm); (case k2 => k_mem); (case k3 => assumption); k_whole))) | (with_reducible (k_here; (with_reducible show wpAny _ _ (newTuple _) _ _ _); kup_bare; k_dflt (refine' newT ?F ?N ?_ ?z; (case F => k_asm); (case N => k_asm); (case z => first | exact sz0 | exact sz1 | exact sz2 | exact sz3 | kmk_size)); intro _ _ _ _ l1; (try k_lt l1); (try (revert l1; intros)); (try k_sweep))) | walk1 | (dsimp only; walk1) | (leave1; try dsimp only)))
  · exfalso; omega
  · (rename Fr _ _ _ _ => F9); (rename News _ _ _ _ => N9); (rename DA _ _ 20 => D9); (rename _ = some (Value.str _ _) ∧ _ => p9); (rename ColsAt _ _ _ => c9)
    have kb := keep_back [cl] hg hh1 F9 N9 (by repeat' (first | exact List.forall_mem_nil _ | refine fmc (fun _ => by k_mem) ?_ | refine fmc (fun h9 => absurd (by k_mem) h9) ?_))
    refine ret _ _ _ ?_ kb (grown_back hz F9)
    exact ⟨rfl, _, _, _, _, _, _, _, _, by rw [← List.push_toArray]; exact (N9 (cl, _) (by k_mem)).1, Live.of stg N9 (by k_mem), Live.of stg N9 (by k_mem), D9, p9.1, p9.2, fresh_hid hg N9 (o := instObj 842 _) (by k_mem) (fmc (by k_ne) (fmc (by k_ne) (fmc (by k_ne) (fmc (by k_ne) (fmc (by k_ne) (fmc (by k_ne) (fmc (by k_ne) (List.forall_mem_nil _)))))))), fresh_hid hg N9 (o := dictOf _ _) mem1 (fmc (by k_ne) (fmc (by k_ne) (fmc (by k_ne) (fmc (by k_ne) (fmc (by k_ne) (fmc (by k_ne) (fmc (by k_ne) (List.forall_mem_nil _))))))))⟩

theorem addcol_el {prog : Program} {w : World} {A : Around} {E : Value → Shared → Prop} {hp0 : Heap} {ge0 : Array GenState} {dr0 : Drawn} {tk0 : Nat} {os0 : OsState} {f : Addr} {args : List Value} {Q : Value → Shared → Prop} {g : Heap} {L : Addr} {m : Str → Option Value} {news rest : List (Addr × Obj)} {Wl : List Addr} {h₀ : Heap} {cl : Addr} {vs : List Value}
    (F : Fr g L hp0 m) (N : News g L hp0 news) (c : Calls7 prog w A f args ⟨hp0, ge0, dr0, tk0, os0⟩ Wl (fun v h => v = .none ∧ ∃ (x dx : Addr) (es : List DictEntry) (n : Nat) (f' : Str → Option Value) (nt tt : Tok) (k' : Nat), (h.get? cl = some (W.listOf (vs ++ [Value.ref x]).toArray k')) ∧ (Live h₀ h x (instObj 842 dx)) ∧ (Live h₀ h dx (dictOf es n)) ∧ (DA es f' 20) ∧ (f' (Str.ofString "name") = some (.str (abc vs.length) nt)) ∧ (f' (Str.ofString "type_name") = some (.str INT tt)) ∧ (hp0.get? x = none) ∧ (hp0.get? dx = none))) (hW : ∀ a ∈ Wl, ∃ o, (a, o) ∈ news) (hs : ∀ q ∈ rest, q ∈ news) (ho : ∀ q ∈ rest, ∀ a ∈ Wl, @Ne Nat q.1 a)
    (k : ∀ (x dx : Addr) (es : List DictEntry) (n : Nat) (f' : Str → Option Value) (nt tt : Tok) (k' : Nat) (h' : Heap) (tk' : Nat), (h'.get? cl = some (W.listOf (vs ++ [Value.ref x]).toArray k')) → (Live h₀ h' x (instObj 842 dx)) → (Live h₀ h' dx (dictOf es n)) → (DA es f' 20) → (f' (Str.ofString "name") = some (.str (abc vs.length) nt)) → (f' (Str.ofString "type_name") = some (.str INT tt)) → (hp0.get? x = none) → (hp0.get? dx = none) → Fr g L h' m → News g L h' rest → (∀ a ∈ Wl, a ≠ L ∧ g.get? a = none) → Q (.none) ⟨h', ge0, dr0, tk', os0⟩) : wpAny (model prog w) A (call (.ref f) args) Q E ⟨hp0, ge0, dr0, tk0, os0⟩ :=
  useWs F N c hW hs ho fun v h' tk' p' F' N' hw => by
    (refine hide fun G9 k9 => ?_; obtain ⟨rfl, x, dx, es, n, f', nt, tt, k', a0, a1, a2, a3, a4, a5, a6, a7⟩ := p'; refine k9 ?_; clear k9 G9)
    exact k x dx es n f' nt tt k' h' tk' a0 a1 a2 a3 a4 a5 a6 a7 F' N' hw

end
section -- K42
set_option maxHeartbeats 2000000


theorem isint_ok {w : World} {p : Program} {loose : List Str} {mean : ExcName → Option Value} {mg mb : Str → Option Value} {h₀ : Heap} {A : Around} {s : Shared} {x dx : Addr} {es : List DictEntry} {n kd : Nat} {f : Str → Option Value} {tt : Tok}
    (X : (Mine.myK w.params).In h₀) (T : Top p loose mean mg mb h₀) (st : h₀.StaysIn s.heap) (hroom : Room A 7) (hx : Live h₀ s.heap x (instObj 842 dx)) (hd : Live h₀ s.heap dx (dictOf es n)) (hD : DA es f kd) (hf : f (Str.ofString "type_name") = some (.str INT tt)) :
    Calls7 PySem.Challenge.rw_xm0772_01.row.prog w A 954 [.ref x] s [] (fun v h => v = .bool true) := by
  intro R ret
  have hcalm := hroom.calm
  revert X; k_fill; intro X
  have hh0 : ∀ q ∈ ([(x, instObj 842 dx), (dx, dictOf es n)] : List (Addr × Obj)), s.heap.get? q.1 = some q.2 ∧ h₀.get? q.1 = none := fmc hx (fmc hd (List.forall_mem_nil _))
  k_dflt (refine' enter (binds := [(Str.ofString "column", .ref x)]) _ X T st hh0 ?k6 ?k7 ?k8 ?k9 ?kB ?_ ?c2 ?c3 ?c4 ?c5)
  case k6 => k_is
  case k7 => k_is
  case k8 => exact hroom.now
  case k9 => first | exact BindsTo.of_eq rfl | exact binds_K (X.keeps st) rfl (by k_is) rfl rfl rfl
  case kB => exact locs rfl
  case c2 => exact rfl
  case c3 => exact rfl
  case c4 => exact rfl
  case c5 => decide
  intro g L' h₁ stg hz hg Xg Tg F N
  k_dflt (show wpAny _ (Around.deeper _ (envOf _ ⟨_, _, _, _, _⟩ _ _ _)) (execs (_ :: _) (envOf _ ⟨_, _, _, _, _⟩ _ _ _)) _ _ _)
  k_fold
  (repeat' (first | (k_unfold; (try dsimp only)) | (k_end; wrow_close) | (with_reducible (k_here; (with_reducible show wpAny _ _ (call (Value.ref 784) _) _ _ _); (rename Fr _ _ _ _ => cF'); (rename News _ _ _ _ => cN'); k_dflt (refine' use7t cF' cN' (fold_int ?X ?T (stays_now ?st cF') ?room ) ?_); (case st => assumption); (case X => assumption); (case T => assumption); (case room => exact Room.deeper (by assumption) (by decide)); (intro _ _ _ _ _); (try clear cF' cN'))) | walk1 | (dsimp only; walk1) | (leave1; try dsimp only)))
  all_goals (refine ret _ _ _ ?_ (keep_back _ hg (fun q hq => (hh0 q hq).1) (by k_asm) (by k_asm) (by repeat' (first | exact List.forall_mem_nil _ | refine fmc (fun _ => by k_mem) ?_ | refine fmc (fun h9 => absurd (by k_mem) h9) ?_))) (grown_back hz (by k_asm)))
  all_goals (try dsimp only)
  all_goals (exact congrArg Value.bool (by decide +kernel))

end
section -- K43
set_option maxHeartbeats 2000000


theorem addprim_ok {w : World} {p : Program} {loose : List Str} {mean : ExcName → Option Value} {mg mb : Str → Option Value} {h₀ : Heap} {A : Around} {s : Shared} {rx rd tx td ca ta : Addr} {er et : List DictEntry} {nr n k kr kd : Nat} {sv rs cl rp il kl pl nm rt sq pv v2 v3 : Value}
    (X : (Mine.myK w.params).In h₀) (T : Top p loose mean mg mb h₀) (st : h₀.StaysIn s.heap) (hroom : Room A 5) (hrx : Live h₀ s.heap rx (instObj 1040 rd)) (hrd : Live h₀ s.heap rd (dictOf er nr)) (hrD : DA er (rdF (.ref tx) (.bool false) sv rs) kr) (hx : Live h₀ s.heap tx (instObj 915 td)) (hd : Live h₀ s.heap td (dictOf et n)) (hD : DA et (tabF cl rp il kl pl nm rt sq) kd) (hne : @Ne Nat rd td) (hca : Live h₀ s.heap ca (W.listOf [Value.ref ta].toArray k)) (hta : Live h₀ s.heap ta (tup3 pv v2 v3)) (hk1 : kr < 800) (hk2 : kd < 800) :
    Calls7 PySem.Challenge.rw_xm0772_01.row.prog w A 1013 [.ref rx, .ref ca, .bool true] s [rd, td] (fun v h => v = .none ∧ ∃ er' nr' kr' et' n' kd' pl', h.get? rd = some (dictOf er' nr') ∧ h.get? td = some (dictOf et' n') ∧ DA er' (rdF (.ref tx) (.bool true) sv rs) kr' ∧ DA et' (tabF cl pv il kl pl' nm rt sq) kd' ∧ kr' ≤ kr + 1 ∧ kd' ≤ kd + 2) := by
  intro R ret
  have hcalm := hroom.calm
  revert X; k_fill; intro X
  have hh0 : ∀ q ∈ ([(rx, instObj 1040 rd), (rd, dictOf er nr), (tx, instObj 915 td), (td, dictOf et n), (ca, W.listOf [Value.ref ta].toArray k), (ta, tup3 pv v2 v3)] : List (Addr × Obj)), s.heap.get? q.1 = some q.2 ∧ h₀.get? q.1 = none := fmc hrx (fmc hrd (fmc hx (fmc hd (fmc hca (fmc hta (List.forall_mem_nil _))))))
  k_dflt (refine' enter (binds := [(Str.ofString "self", .ref rx), (Str.ofString "columns", .ref ca), (Str.ofString "is_rowid", .bool true)]) _ X T st hh0 ?k6 ?k7 ?k8 ?k9 ?kB ?_ ?c2 ?c3 ?c4 ?c5)
  case k6 => k_is
  case k7 => k_is
  case k8 => exact hroom.now
  case k9 => first | exact BindsTo.of_eq rfl | exact binds_K (X.keeps st) rfl (by k_is) rfl rfl rfl
  case kB => exact locs rfl
  case c2 => exact rfl
  case c3 => exact rfl
  case c4 => exact rfl
  case c5 => decide
  intro g L' h₁ stg hz hg Xg Tg F N
  k_dflt (show wpAny _ (Around.deeper _ (envOf _ ⟨_, _, _, _, _⟩ _ _ _)) (execs (_ :: _) (envOf _ ⟨_, _, _, _, _⟩ _ _ _)) _ _ _)
  k_fold
  have ne_rx_rd := neCls N (a := rx) (b := rd) (o := instObj 1040 rd) (o' := dictOf er nr) (by k_mem) (by k_mem) (by show _ ≠ _; simp)
  have ne_rx_td := neCls N (a := rx) (b := td) (o := instObj 1040 rd) (o' := dictOf et n) (by k_mem) (by k_mem) (by show _ ≠ _; simp)
  have ne_tx_rd := neCls N (a := tx) (b := rd) (o := instObj 915 td) (o' := dictOf er nr) (by k_mem) (by k_mem) (by show _ ≠ _; simp)
  have ne_tx_td := neCls N (a := tx) (b := td) (o := instObj 915 td) (o' := dictOf et n) (by k_mem) (by k_mem) (by show _ ≠ _; simp)
  have ne_ca_rd := neCls N (a := ca) (b := rd) (o := W.listOf [Value.ref ta].toArray k) (o' := dictOf er nr) (by k_mem) (by k_mem) (by show _ ≠ _; simp)
  have ne_ca_td := neCls N (a := ca) (b := td) (o := W.listOf [Value.ref ta].toArray k) (o' := dictOf et n) (by k_mem) (by k_mem) (by show _ ≠ _; simp)
  have ne_ta_rd := neCls N (a := ta) (b := rd) (o := tup3 pv v2 v3) (o' := dictOf er nr) (by k_mem) (by k_mem) (by show _ ≠ _; simp)
  have ne_ta_td := neCls N (a := ta) (b := td) (o := tup3 pv v2 v3) (o' := dictOf et n) (by k_mem) (by k_mem) (by show _ ≠ _; simp)
  (repeat' (first | (k_unfold; (try dsimp only)) | (k_end; wrow_close) | (with_reducible ((with_reducible show wpAny _ _ (eval (PySem.Expr.ListComp _ _ _ _) _) _ _ _); k_here; k_dflt (first | (refine comp3 (fun a _ _ => a) (by assumption) (by with_unfolding_all rfl) (by decide) (by rfl) (by decide) (by rfl) (by rfl) (by rfl) (by rfl) (by intro m a b c; rfl) (by decide) ?_) | (refine comp3 (fun _ b _ => b) (by assumption) (by with_unfolding_all rfl) (by decide) (by rfl) (by decide) (by rfl) (by rfl) (by rfl) (by rfl) (by intro m a b c; rfl) (by decide) ?_) | (refine comp3 (fun _ _ c => c) (by assumption) (by with_unfolding_all rfl) (by decide) (by rfl) (by decide) (by rfl) (by rfl) (by rfl) (by rfl) (by intro m a b c; rfl) (by decide) ?_)); (try (revert m; intros)); (try (revert a; intros)); (try (revert b; intros)); (try (revert c; intros)))) | (with_reducible ((with_reducible show wpAny _ _ (setAttr (Value.ref _) _ _) _ _ _); k_here; k_dflt (refine' set_sym ?F ?X ?N ?x ?U ?D ?a ?b ?c ?d ?e ?_; (case F => k_asm); (case X => k_asm); (case N => k_asm); (case x => k_mem); (case U => k_updF); (case D => assumption); (case a => k_is); (case b => k_is); (case c => k_is); (case d => k_is); (case e => first | decide | ((with_reducible refine t4 (by assumption) ?_); rfl)); k_whole); intro _ _ _ _ _ N'; (try dsimp only at N'); (try (revert N'; intros)))) | (with_reducible ((with_reducible show TripSrc _ _ _ _); refine hold ?_)) | walk1 | (dsimp only; walk1) | (leave1; try dsimp only)))
  unfold Hold
  (rename Fr _ _ _ _ => F1); (rename News _ _ _ _ => N1)
  refine TripSrc.intro (vs := [Value.ref ta]) F1 N1 (by k_mem) (ts := [(pv, v2, v3)]) ⟨rfl, fun i v hv => ?_⟩ (show 1 ≤ 1000 by decide) (fun D h' tk F2 N2 o2 _ => ?_)
  · match i, hv with
    | 0, hv => cases hv; exact ⟨ta, _, _, _, rfl, rfl, (N1 (ta, tup3 pv v2 v3) (by k_mem)).1⟩
    | i + 1, hv => simp at hv
  · clear F1 N1
    (repeat' (first | (k_unfold; (try dsimp only)) | (k_end; wrow_close) | (with_reducible ((with_reducible show wpAny _ _ (setAttr (Value.ref _) _ _) _ _ _); k_here; k_dflt (refine' set_sym ?F ?X ?N ?x ?U ?D ?a ?b ?c ?d ?e ?_; (case F => k_asm); (case X => k_asm); (case N => k_asm); (case x => k_mem); (case U => k_updF); (case D => assumption); (case a => k_is); (case b => k_is); (case c => k_is); (case d => k_is); (case e => first | decide | (first | ((with_reducible refine t4 (by assumption) ?_); rfl) | omega)); k_whole); intro _ _ _ _ _ N'; (try dsimp only at N'); (try (revert N'; intros)))) | walk1 | (dsimp only; walk1) | (leave1; try dsimp only)))
    (rename Fr _ _ _ _ => F9); (rename News _ _ _ _ => N9); (rename DA _ (fun y => if y = Str.ofString "rowid_place" then _ else _) _ => Dt); (rename DA _ (fun y => if y = Str.ofString "has_primary" then _ else _) _ => Dr)
    refine ret _ _ _ ?_ (keep_back [rd, td] hg (fun q hq => (hh0 q hq).1) F9 N9 (by repeat' (first | exact List.forall_mem_nil _ | refine fmc (fun _ => by k_mem) ?_ | refine fmc (fun h9 => absurd (by k_mem) h9) ?_))) (grown_back hz F9)
    refine ⟨rfl, _, _, _, _, _, _, .ref D, (N9 (rd, _) (by k_mem)).1, (N9 (td, _) (by k_mem)).1, DA.congr Dr fun y => ?_, DA.congr Dt fun y => ?_, Nat.le_refl _, Nat.le_refl _⟩
    · unfold rdF
      by_cases h0 : y = Str.ofString "has_primary"
      · subst h0; rfl
      by_cases h1 : y = Str.ofString "table"
      · subst h1; rfl
      by_cases h2 : y = Str.ofString "statement"
      · subst h2; rfl
      by_cases h3 : y = Str.ofString "roots"
      · subst h3; rfl
      simp only [h0, h1, h2, h3, if_false]
    · unfold tabF
      by_cases h0 : y = Str.ofString "rowid_place"
      · subst h0; rfl
      by_cases h1 : y = Str.ofString "primary"
      · subst h1; rfl
      by_cases h2 : y = Str.ofString "columns"
      · subst h2; rfl
      by_cases h3 : y = Str.ofString "indexes"
      · subst h3; rfl
      by_cases h4 : y = Str.ofString "checks"
      · subst h4; rfl
      by_cases h5 : y = Str.ofString "name"
      · subst h5; rfl
      by_cases h6 : y = Str.ofString "root"
      · subst h6; rfl
      by_cases h7 : y = Str.ofString "sql"
      · subst h7; rfl
      simp only [h0, h1, h2, h3, h4, h5, h6, h7, if_false]

end
section -- K44
set_option maxHeartbeats 2000000


theorem constr_ok {w : World} {p : Program} {loose : List Str} {mean : ExcName → Option Value} {mg mb : Str → Option Value} {h₀ : Heap} {A : Around} {s : Shared} {rx rd tx td cl : Addr} {er et : List DictEntry} {nr n k kr kd : Nat} {sv rs rp il kl pv nm rt sq : Value} {vs : List Value} {pl : Int} {pt wt : Tok}
    (X : (Mine.myK w.params).In h₀) (T : Top p loose mean mg mb h₀) (st : h₀.StaysIn s.heap) (hroom : Room A 9) (hrx : Live h₀ s.heap rx (instObj 1040 rd)) (hrd : Live h₀ s.heap rd (dictOf er nr)) (hrD : DA er (rdF (.ref tx) (.bool false) sv rs) kr) (hx : Live h₀ s.heap tx (instObj 915 td)) (hd : Live h₀ s.heap td (dictOf et n)) (hD : DA et (tabF (.ref cl) rp il kl pv nm rt sq) kd) (hne : @Ne Nat rd td) (hl : Live h₀ s.heap cl (W.listOf vs.toArray k)) (hcols : ColsAt h₀ s.heap vs) (h4 : vs.length ≤ 4) (hp0 : 0 ≤ pl) (hp1 : pl < vs.length) (hk1 : kr < 800) (hk2 : kd < 800) :
    Calls7 PySem.Challenge.rw_xm0772_01.row.prog w A 996 [.ref rx, .int pl pt, .str (Str.ofString "primary key") wt, .bool false] s [rd, td] (fun v h => v = .none ∧ ∃ er' nr' kr' et' n' kd' pv' pk', h.get? rd = some (dictOf er' nr') ∧ h.get? td = some (dictOf et' n') ∧ DA er' (rdF (.ref tx) (.bool true) sv rs) kr' ∧ DA et' (tabF (.ref cl) (.int pl pk') il kl pv' nm rt sq) kd' ∧ kr' ≤ kr + 1 ∧ kd' ≤ kd + 2) := by
  intro R ret
  have hcalm := hroom.calm
  revert X; k_fill; intro X
  have hh0 : ∀ q ∈ ([(rx, instObj 1040 rd), (rd, dictOf er nr), (tx, instObj 915 td), (td, dictOf et n), (cl, W.listOf vs.toArray k)] : List (Addr × Obj)), s.heap.get? q.1 = some q.2 ∧ h₀.get? q.1 = none := fmc hrx (fmc hrd (fmc hx (fmc hd (fmc hl (List.forall_mem_nil _)))))
  k_dflt (refine' enter (binds := [(Str.ofString "self", .ref rx), (Str.ofString "place", .int pl pt), (Str.ofString "word", .str (Str.ofString "primary key") wt), (Str.ofString "detail", .bool false)]) _ X T st hh0 ?k6 ?k7 ?k8 ?k9 ?kB ?_ ?c2 ?c3 ?c4 ?c5)
  case k6 => k_is
  case k7 => k_is
  case k8 => exact hroom.now
  case k9 => first | exact BindsTo.of_eq rfl | exact binds_K (X.keeps st) rfl (by k_is) rfl rfl rfl
  case kB => exact locs rfl
  case c2 => exact rfl
  case c3 => exact rfl
  case c4 => exact rfl
  case c5 => decide
  intro g L' h₁ stg hz hg Xg Tg F N
  k_dflt (show wpAny _ (Around.deeper _ (envOf _ ⟨_, _, _, _, _⟩ _ _ _)) (execs (_ :: _) (envOf _ ⟨_, _, _, _, _⟩ _ _ _)) _ _ _)
  k_fold
  have hlen : vs.length < 2 ^ 60 := by ((with_reducible refine t3 (by assumption) ?_); rfl)
  have hh1 : ∀ q ∈ [(rx, instObj 1040 rd), (rd, dictOf er nr), (tx, instObj 915 td), (td, dictOf et n), (cl, W.listOf vs.toArray k)], s.heap.get? q.1 = some q.2 := fun q hq => (hh0 q hq).1
  refine hide fun G9 k9 => ?_
  obtain ⟨v, hv⟩ : ∃ v, vs[pl.toNat]? = some v := ⟨_, List.getElem?_eq_getElem (by (with_reducible exact s8 (by assumption) (by assumption)))⟩
  refine k9 ?_
  clear k9 G9
  (refine ex7 (hcols _ v hv) fun x dx esc nc fc nt2 tt2 hE9 => an6 hE9 ?_; clear hE9; rintro rfl ⟨hcx1, hcx2⟩ ⟨hcd1, hcd2⟩ hcD hcn hct)
  have hgd : vs.getD pl.toNat .none = .ref x := by rw [List.getD_eq_getElem?_getD, hv]; rfl
  have ne_rx_rd := neCls N (a := rx) (b := rd) (o := instObj 1040 rd) (o' := dictOf er nr) (by k_mem) (by k_mem) (by show _ ≠ _; simp)
  have ne_rx_td := neCls N (a := rx) (b := td) (o := instObj 1040 rd) (o' := dictOf et n) (by k_mem) (by k_mem) (by show _ ≠ _; simp)
  have ne_tx_rd := neCls N (a := tx) (b := rd) (o := instObj 915 td) (o' := dictOf er nr) (by k_mem) (by k_mem) (by show _ ≠ _; simp)
  have ne_tx_td := neCls N (a := tx) (b := td) (o := instObj 915 td) (o' := dictOf et n) (by k_mem) (by k_mem) (by show _ ≠ _; simp)
  have ne_cl_rd := neCls N (a := cl) (b := rd) (o := W.listOf vs.toArray k) (o' := dictOf er nr) (by k_mem) (by k_mem) (by show _ ≠ _; simp)
  have ne_cl_td := neCls N (a := cl) (b := td) (o := W.listOf vs.toArray k) (o' := dictOf et n) (by k_mem) (by k_mem) (by show _ ≠ _; simp)
  (repeat' (first | (k_unfold; (try dsimp only)) | (k_end; wrow_close) | (with_reducible (k_here; (with_reducible show wpAny _ _ (call (Value.ref 954) _) _ _ _); (rename Fr _ _ _ _ => cF'); (rename News _ _ _ _ => cN'); k_dflt (refine' use7p cF' cN' (isint_ok ?X ?T (stays_now ?st cF') ?room ⟨?h0, ?h1⟩ ⟨?h2, ?h3⟩ ?h4 ?h5) ?_); (case st => assumption); (case X => assumption); (case T => assumption); (case room => exact Room.deeper (by assumption) (by decide)); (case h0 => exact still (by assumption) (by assumption) cF' cN' (by lcg_sub) (by assumption)); (case h1 => assumption); (case h2 => exact still (by assumption) (by assumption) cF' cN' (by lcg_sub) (by assumption)); (case h3 => assumption); (case h4 => assumption); (case h5 => assumption); (intro _ _ _ p' _ _); subst p'; (try clear cF' cN'))) | (with_reducible ((with_reducible show wpAny _ _ (call (Value.ref 1013) _) _ _ _); (refine hold ?_))) | (with_reducible (k_here; (with_reducible show wpAny _ _ (subscriptTail _ _ (Value.ref _) (Value.int _ _)) _ _ _); k_dflt (refine' item_val ?k1 ?k2 ?k3 ?k4 ?k5 ?kv ?_ ?k6; (case k1 => k_asm); (case k2 => k_mem); (case k3 => (with_reducible assumption)); (case k4 => assumption); (case k5 => (with_reducible assumption)); (case kv => assumption); (case k6 => with_unfolding_all rfl); k_whole))) | (with_reducible (k_here; (with_reducible show wpAny _ _ (newTuple _) _ _ _); kup_bare; k_dflt (refine' newT ?F ?N ?_ ?z; (case F => k_asm); (case N => k_asm); (case z => first | exact sz0 | exact sz1 | exact sz2 | exact sz3 | kmk_size)); intro _ _ _ _ l1; (try k_lt l1); (try (revert l1; intros)); (try k_sweep))) | (with_reducible (k_here; (with_reducible show wpAny _ _ (newList _) _ _ _); k_dflt (refine' newL ?k1 ?k2 ?_ ?z; (case k1 => k_asm); (case k2 => k_asm); (case z => first | exact sz0 | exact sz1 | exact sz2 | exact sz3 | size_fits); k_whole); intro _ _ _ _ l1; (try k_lt l1); (try (revert l1; intros)); (try k_sweep))) | walk1 | (dsimp only; walk1) | (leave1; try dsimp only)))
  unfold Hold
  (rename Fr _ _ _ _ => F1); (rename News _ _ _ _ => N1)
  (try k_fold)
  refine useWs (rest := [(rx, instObj 1040 rd), (tx, instObj 915 td), (cl, W.listOf vs.toArray k)]) F1 N1 (addprim_ok X T (stays_now stg F1) (Room.deeper (k := 5) hroom (by decide)) (Live.of stg N1 (by k_mem)) (Live.of stg N1 (by k_mem)) hrD (Live.of stg N1 (by k_mem)) (Live.of stg N1 (by k_mem)) hD hne (Live.of stg N1 (by k_mem)) (Live.of stg N1 (by k_mem)) hk1 hk2) (fmc ⟨_, by k_mem⟩ (fmc ⟨_, by k_mem⟩ (List.forall_mem_nil _))) (by lcg_sub) (fmc (fmc (by k_ne) (fmc (by k_ne) (List.forall_mem_nil _))) (fmc (fmc (by k_ne) (fmc (by k_ne) (List.forall_mem_nil _))) (fmc (fmc (by k_ne) (fmc (by k_ne) (List.forall_mem_nil _))) (List.forall_mem_nil _)))) (fun v' h' tk' p' F2 N2 hw => ?_)
  clear F1 N1
  (refine hide fun G9 k9 => ?_; obtain ⟨rfl, er', nr', kr', et', n', kd', pl', hr, ht, D1, D2, l1, l2⟩ := p'; refine k9 ?_; clear k9 G9)
  k_steps
  refine ret _ _ _ ?_ (keep_back [rd, td] hg hh1 F2 N2 (by repeat' (first | exact List.forall_mem_nil _ | refine fmc (fun _ => by k_mem) ?_ | refine fmc (fun h9 => absurd (by k_mem) h9) ?_))) (grown_back hz F2)
  exact ⟨rfl, er', nr', kr', et', n', kd', pl', _, hr, ht, D1, D2, l1, l2⟩

theorem constr_el {prog : Program} {w : World} {A : Around} {E : Value → Shared → Prop} {hp0 : Heap} {ge0 : Array GenState} {dr0 : Drawn} {tk0 : Nat} {os0 : OsState} {f : Addr} {args : List Value} {Q : Value → Shared → Prop} {g : Heap} {L : Addr} {m : Str → Option Value} {news rest : List (Addr × Obj)} {Wl : List Addr} {rd td tx cl : Addr} {kr kd : Nat} {pl : Int} {sv rs il kl nm rt sq : Value}
    (F : Fr g L hp0 m) (N : News g L hp0 news) (c : Calls7 prog w A f args ⟨hp0, ge0, dr0, tk0, os0⟩ Wl (fun v h => v = .none ∧ ∃ (er' : List DictEntry) (nr' kr' : Nat) (et' : List DictEntry) (n' kd' : Nat) (pv' : Value) (pk' : Tok), (h.get? rd = some (dictOf er' nr')) ∧ (h.get? td = some (dictOf et' n')) ∧ (DA er' (rdF (.ref tx) (.bool true) sv rs) kr') ∧ (DA et' (tabF (.ref cl) (.int pl pk') il kl pv' nm rt sq) kd') ∧ (kr' ≤ kr + 1) ∧ (kd' ≤ kd + 2))) (hW : ∀ a ∈ Wl, ∃ o, (a, o) ∈ news) (hs : ∀ q ∈ rest, q ∈ news) (ho : ∀ q ∈ rest, ∀ a ∈ Wl, @Ne Nat q.1 a)
    (k : ∀ (er' : List DictEntry) (nr' kr' : Nat) (et' : List DictEntry) (n' kd' : Nat) (pv' : Value) (pk' : Tok) (h' : Heap) (tk' : Nat), (h'.get? rd = some (dictOf er' nr')) → (h'.get? td = some (dictOf et' n')) → (DA er' (rdF (.ref tx) (.bool true) sv rs) kr') → (DA et' (tabF (.ref cl) (.int pl pk') il kl pv' nm rt sq) kd') → (kr' ≤ kr + 1) → (kd' ≤ kd + 2) → Fr g L h' m → News g L h' rest → (∀ a ∈ Wl, a ≠ L ∧ g.get? a = none) → Q (.none) ⟨h', ge0, dr0, tk', os0⟩) : wpAny (model prog w) A (call (.ref f) args) Q E ⟨hp0, ge0, dr0, tk0, os0⟩ :=
  useWs F N c hW hs ho fun v h' tk' p' F' N' hw => by
    (refine hide fun G9 k9 => ?_; obtain ⟨rfl, er', nr', kr', et', n', kd', pv', pk', a0, a1, a2, a3, a4, a5⟩ := p'; refine k9 ?_; clear k9 G9)
    exact k er' nr' kr' et' n' kd' pv' pk' h' tk' a0 a1 a2 a3 a4 a5 F' N' hw

end
section -- K45
set_option maxHeartbeats 2000000


structure ColR where
  x : Addr
  dx : Addr
  es : List DictEntry
  n : Nat
  f : Str → Option Value
  nt : Tok
  tt : Tok
def ColR.ok (c : ColR) (j : Nat) : Prop := DA c.es c.f 20 ∧ c.f (Str.ofString "name") = some (.str (abc j) c.nt) ∧ c.f (Str.ofString "type_name") = some (.str INT c.tt)
def colLed : List ColR → List (Addr × Obj)
  | [] => []
  | c :: r => (c.x, instObj 842 c.dx) :: (c.dx, dictOf c.es c.n) :: colLed r
def colVals (cols : List ColR) : List Value := cols.map fun c => Value.ref c.x
def ColsOk (cols : List ColR) : Prop := ∀ (j : Nat) (c : ColR), cols[j]? = some c → c.ok j
theorem colLed_append (a b : List ColR) : colLed (a ++ b) = colLed a ++ colLed b := by
  induction a with
  | nil => rfl
  | cons c r ih => simp [colLed, ih]
theorem colLed_snoc {cols : List ColR} {c : ColR} {P : Addr × Obj → Prop} (h : ∀ q ∈ colLed cols, P q) (h1 : P (c.x, instObj 842 c.dx)) (h2 : P (c.dx, dictOf c.es c.n)) : ∀ q ∈ colLed (cols ++ [c]), P q := fun q hq => by
  rw [colLed_append] at hq
  rcases List.mem_append.mp hq with hq | hq
  · exact h q hq
  · rcases List.mem_cons.mp hq with rfl | hq
    · exact h1
    · rw [List.mem_singleton.mp hq]; exact h2
theorem colLed_mem {cols : List ColR} {c : ColR} (h : c ∈ cols) : (c.x, instObj 842 c.dx) ∈ colLed cols ∧ (c.dx, dictOf c.es c.n) ∈ colLed cols := by
  induction cols with
  | nil => cases h
  | cons d r ih =>
    rcases List.mem_cons.mp h with rfl | h
    · exact ⟨.head _, mem1⟩
    · exact ⟨.tail _ (.tail _ (ih h).1), .tail _ (.tail _ (ih h).2)⟩
theorem colLed_cls : ∀ {cols : List ColR} {q : Addr × Obj}, q ∈ colLed cols → q.2.cls ≠ .type "list"
  | [], _, h => by cases h
  | c :: r, q, h => by
    rcases List.mem_cons.mp h with rfl | h
    · show Value.ref _ ≠ _; simp
    · rcases List.mem_cons.mp h with rfl | h
      · show Value.type _ ≠ _; simp
      · exact colLed_cls h
theorem cols_at {h₀ g h : Heap} {L : Addr} {led : List (Addr × Obj)} {cols : List ColR} (st : h₀.StaysIn g) (N : News g L h led) (hs : ∀ q ∈ colLed cols, q ∈ led) (ok : ColsOk cols) : ColsAt h₀ h (colVals cols) := fun j v hv => by
  unfold colVals at hv
  rw [List.getElem?_map] at hv
  cases hc : cols[j]? with
  | none => rw [hc] at hv; cases hv
  | some c =>
    rw [hc] at hv
    simp only [Option.map_some, Option.some.injEq] at hv
    (refine an3 (ok j c hc) ?_; intro hD h1 h2)
    obtain ⟨m1, m2⟩ := colLed_mem (List.mem_of_getElem? hc)
    exact ⟨c.x, c.dx, c.es, c.n, c.f, c.nt, c.tt, hv.symm, Live.of st N (hs _ m1), Live.of st N (hs _ m2), hD, h1, h2⟩
theorem ColsOk.snoc {cols : List ColR} {c : ColR} (h : ColsOk cols) (hc : c.ok cols.length) : ColsOk (cols ++ [c]) := fun j d hd => by
  rcases Nat.lt_or_ge j cols.length with hj | hj
  · rw [List.getElem?_append_left hj] at hd; exact h j d hd
  · rw [List.getElem?_append_right hj] at hd
    rcases Nat.eq_zero_or_pos (j - cols.length) with h0 | h0
    · rw [h0] at hd
      simp only [List.getElem?_cons_zero, Option.some.injEq] at hd
      subst hd
      rw [show j = cols.length by (with_reducible exact s17 (by assumption) (by assumption))]; exact hc
    · rw [List.getElem?_eq_none (show [c].length ≤ j - cols.length from h0)] at hd; cases hd
/-- the columns' definitions, none of whose objects is of W; the one at key bears the constraint -/
def DefsAt (Wa : List Addr) (h₀ h : Heap) (dvs : List Value) (key : Option Int) : Prop := ∀ (i : Nat) (v : Value), dvs[i]? = some v → ∃ x dx es n f nt tt l k cvs, v = .ref x ∧ Live h₀ h x (instObj 490 dx) ∧ Live h₀ h dx (dictOf es n) ∧ DA es f 20 ∧
  f (Str.ofString "name") = some (.str (abc i) nt) ∧ f (Str.ofString "type_name") = some (.str INT tt) ∧ f (Str.ofString "constraints") = some (.ref l) ∧ Live h₀ h l (W.listOf cvs.toArray k) ∧ x ∉ Wa ∧ dx ∉ Wa ∧ l ∉ Wa ∧
  ((key ≠ some (i : Int) ∧ cvs = []) ∨ (key = some (i : Int) ∧ ∃ t t1, cvs = [Value.ref t] ∧ Live h₀ h t (tup2 (.str (Str.ofString "primary key") t1) (.bool false)) ∧ t ∉ Wa))
/-- what the second loop turns -/
structure RdSt where
  er : List DictEntry
  nr : Nat
  kr : Nat
  et : List DictEntry
  n : Nat
  kd : Nat
  pv : Value
  rp : Value
  hp : Value
structure RdC where
  er : List DictEntry
  nr : Nat
  kr : Nat
  et : List DictEntry
  n : Nat
  kd : Nat
  pv : Value
  pk : Tok
theorem DefsAt.el {Wa : List Addr} {h₀ h : Heap} {dvs : List Value} {key : Option Int} {i : Nat} {v : Value} {G : Prop} (H : DefsAt Wa h₀ h dvs key) (hv : dvs[i]? = some v)
    (k : ∀ (x dx : Addr) (es : List DictEntry) (n : Nat) (f : Str → Option Value) (nt tt : Tok) (l : Addr) (kk : Nat) (cvs : List Value), v = .ref x → Live h₀ h x (instObj 490 dx) → Live h₀ h dx (dictOf es n) → DA es f 20 →
      f (Str.ofString "name") = some (.str (abc i) nt) → f (Str.ofString "type_name") = some (.str INT tt) → f (Str.ofString "constraints") = some (.ref l) → Live h₀ h l (W.listOf cvs.toArray kk) → x ∉ Wa → dx ∉ Wa → l ∉ Wa →
      ((key ≠ some (i : Int) ∧ cvs = []) ∨ (key = some (i : Int) ∧ ∃ t t1, cvs = [Value.ref t] ∧ Live h₀ h t (tup2 (.str (Str.ofString "primary key") t1) (.bool false)) ∧ t ∉ Wa)) → G) : G := by
  (refine hide fun G9 k9 => ?_; obtain ⟨x, dx, es, n, f, nt, tt, l, kk, cvs, e, a1, a2, a3, a4, a5, a6, a7, a8, a9, b1, b2⟩ := H i v hv; refine k9 ?_; clear k9 G9)
  exact k x dx es n f nt tt l kk cvs e a1 a2 a3 a4 a5 a6 a7 a8 a9 b1 b2
def readMap (self : Value) (m0 : Str → Option Value) : Str → Option Value := fun y => if y = Str.ofString "self" then some self else m0 y

theorem read_ok {w : World} {p : Program} {loose : List Str} {mean : ExcName → Option Value} {mg mb : Str → Option Value} {h₀ : Heap} {A : Around} {s : Shared} {rx rd tx td cl sx sd dl ql kl : Addr} {er et es : List DictEntry} {nr n k kr kd ks ns kdl kq kk : Nat} {rs il pv nm rt sq : Value} {sf : Str → Option Value} {dvs : List Value} {key : Option Int}
    (X : (Mine.myK w.params).In h₀) (T : Top p loose mean mg mb h₀) (st : h₀.StaysIn s.heap) (hroom : Room A 14) (hrx : Live h₀ s.heap rx (instObj 1040 rd)) (htx : Live h₀ s.heap tx (instObj 915 td)) (hsx : Live h₀ s.heap sx (instObj 516 sd)) (hsd : Live h₀ s.heap sd (dictOf es ns)) (hdl : Live h₀ s.heap dl (W.listOf dvs.toArray kdl)) (hql : Live h₀ s.heap ql (W.listOf [].toArray kq)) (hkl : Live h₀ s.heap kl (W.listOf [].toArray kk)) (hrd : Live h₀ s.heap rd (dictOf er nr)) (htd : Live h₀ s.heap td (dictOf et n)) (hcl : Live h₀ s.heap cl (W.listOf [].toArray k)) (hrD : DA er (rdF (.ref tx) (.bool false) (.ref sx) rs) kr) (hD : DA et (tabF (.ref cl) .none il (.ref kl) pv nm rt sq) kd) (hsD : DA es sf ks) (hsc : sf (Str.ofString "columns") = some (.ref dl)) (hsq : sf (Str.ofString "constraints") = some (.ref ql)) (hne1 : @Ne Nat rd td) (hne2 : @Ne Nat dl cl) (hne3 : @Ne Nat ql cl) (hne4 : @Ne Nat kl cl) (hne5 : @Ne Nat sd rd) (hne6 : @Ne Nat sd td) (hdefs : DefsAt [rd, td, cl] h₀ s.heap dvs key) (h4 : dvs.length ≤ 4) (hkey : ∀ j, key = some j → 0 ≤ j ∧ j < dvs.length) (hk1 : kr < 700) (hk2 : kd < 700) :
    Calls7 PySem.Challenge.rw_xm0772_01.row.prog w A 982 [.ref rx] s [rd, td, cl] (fun v h => v = .ref tx ∧ ∃ er' nr' kr' et' n' kd' pv' rp' hp', h.get? rd = some (dictOf er' nr') ∧ h.get? td = some (dictOf et' n') ∧ DA er' (rdF (.ref tx) hp' (.ref sx) rs) kr' ∧ DA et' (tabF (.ref cl) rp' il (.ref kl) pv' nm rt sq) kd' ∧ KeyV rp' key ∧ kr' ≤ kr + 1 ∧ kd' ≤ kd + 2) := by
  intro R ret
  have hcalm := hroom.calm
  revert X; k_fill; intro X
  have hh0 : ∀ q ∈ ([(rx, instObj 1040 rd), (tx, instObj 915 td), (sx, instObj 516 sd), (sd, dictOf es ns), (dl, W.listOf dvs.toArray kdl), (ql, W.listOf [].toArray kq), (kl, W.listOf [].toArray kk), (rd, dictOf er nr), (td, dictOf et n), (cl, W.listOf [].toArray k)] : List (Addr × Obj)), s.heap.get? q.1 = some q.2 ∧ h₀.get? q.1 = none := fmc hrx (fmc htx (fmc hsx (fmc hsd (fmc hdl (fmc hql (fmc hkl (fmc hrd (fmc htd (fmc hcl (List.forall_mem_nil _))))))))))
  k_dflt (refine' enter (binds := [(Str.ofString "self", .ref rx)]) _ X T st hh0 ?k6 ?k7 ?k8 ?k9 ?kB ?_ ?c2 ?c3 ?c4 ?c5)
  case k6 => k_is
  case k7 => k_is
  case k8 => exact hroom.now
  case k9 => first | exact BindsTo.of_eq rfl | exact binds_K (X.keeps st) rfl (by k_is) rfl rfl rfl
  case kB => exact locs rfl
  case c2 => exact rfl
  case c3 => exact rfl
  case c4 => exact rfl
  case c5 => decide
  intro g L' h₁ stg hz hg Xg Tg F N
  k_dflt (show wpAny _ (Around.deeper _ (envOf _ ⟨_, _, _, _, _⟩ _ _ _)) (execs (_ :: _) (envOf _ ⟨_, _, _, _, _⟩ _ _ _)) _ _ _)
  k_fold
  have hlen : dvs.length < 2 ^ 60 := by ((with_reducible refine t3 (by assumption) ?_); rfl)
  have hh1 : ∀ q ∈ [(rx, instObj 1040 rd), (tx, instObj 915 td), (sx, instObj 516 sd), (sd, dictOf es ns), (dl, W.listOf dvs.toArray kdl), (ql, W.listOf [].toArray kq), (kl, W.listOf [].toArray kk), (rd, dictOf er nr), (td, dictOf et n), (cl, W.listOf [].toArray k)], s.heap.get? q.1 = some q.2 := fun q hq => (hh0 q hq).1
  have ne_rx_rd := neCls N (a := rx) (b := rd) (o := instObj 1040 rd) (o' := dictOf er nr) (by k_mem) (by k_mem) (by show _ ≠ _; simp)
  have ne_rx_td := neCls N (a := rx) (b := td) (o := instObj 1040 rd) (o' := dictOf et n) (by k_mem) (by k_mem) (by show _ ≠ _; simp)
  have ne_rx_cl := neCls N (a := rx) (b := cl) (o := instObj 1040 rd) (o' := W.listOf [].toArray k) (by k_mem) (by k_mem) (by show _ ≠ _; simp)
  have ne_tx_rd := neCls N (a := tx) (b := rd) (o := instObj 915 td) (o' := dictOf er nr) (by k_mem) (by k_mem) (by show _ ≠ _; simp)
  have ne_tx_td := neCls N (a := tx) (b := td) (o := instObj 915 td) (o' := dictOf et n) (by k_mem) (by k_mem) (by show _ ≠ _; simp)
  have ne_tx_cl := neCls N (a := tx) (b := cl) (o := instObj 915 td) (o' := W.listOf [].toArray k) (by k_mem) (by k_mem) (by show _ ≠ _; simp)
  have ne_sx_rd := neCls N (a := sx) (b := rd) (o := instObj 516 sd) (o' := dictOf er nr) (by k_mem) (by k_mem) (by show _ ≠ _; simp)
  have ne_sx_td := neCls N (a := sx) (b := td) (o := instObj 516 sd) (o' := dictOf et n) (by k_mem) (by k_mem) (by show _ ≠ _; simp)
  have ne_sx_cl := neCls N (a := sx) (b := cl) (o := instObj 516 sd) (o' := W.listOf [].toArray k) (by k_mem) (by k_mem) (by show _ ≠ _; simp)
  have ne_dl_rd := neCls N (a := dl) (b := rd) (o := W.listOf dvs.toArray kdl) (o' := dictOf er nr) (by k_mem) (by k_mem) (by show _ ≠ _; simp)
  have ne_dl_td := neCls N (a := dl) (b := td) (o := W.listOf dvs.toArray kdl) (o' := dictOf et n) (by k_mem) (by k_mem) (by show _ ≠ _; simp)
  have ne_ql_rd := neCls N (a := ql) (b := rd) (o := W.listOf [].toArray kq) (o' := dictOf er nr) (by k_mem) (by k_mem) (by show _ ≠ _; simp)
  have ne_ql_td := neCls N (a := ql) (b := td) (o := W.listOf [].toArray kq) (o' := dictOf et n) (by k_mem) (by k_mem) (by show _ ≠ _; simp)
  have ne_kl_rd := neCls N (a := kl) (b := rd) (o := W.listOf [].toArray kk) (o' := dictOf er nr) (by k_mem) (by k_mem) (by show _ ≠ _; simp)
  have ne_kl_td := neCls N (a := kl) (b := td) (o := W.listOf [].toArray kk) (o' := dictOf et n) (by k_mem) (by k_mem) (by show _ ≠ _; simp)
  have ne_rd_cl := neCls N (a := rd) (b := cl) (o := dictOf er nr) (o' := W.listOf [].toArray k) (by k_mem) (by k_mem) (by show _ ≠ _; simp)
  have ne_td_cl := neCls N (a := td) (b := cl) (o := dictOf et n) (o' := W.listOf [].toArray k) (by k_mem) (by k_mem) (by show _ ≠ _; simp)
  have ne_sd_cl := neCls N (a := sd) (b := cl) (o := dictOf es ns) (o' := W.listOf [].toArray k) (by k_mem) (by k_mem) (by show _ ≠ _; simp)
  (repeat' (first | (k_unfold; (try dsimp only)) | (k_end; wrow_close) | (with_reducible ((with_reducible show wpAny _ _ (pyIter (Value.ref _)) _ _ _); refine hold ?_)) | walk1 | (dsimp only; walk1) | (leave1; try dsimp only)))
  unfold Hold
  (rename Fr _ _ _ _ => F1); (rename News _ _ _ _ => N1)
  refine forList (L := L') dl dvs kdl (fun i m news => ∃ (cols : List ColR) (kc : Nat) (m0 : Str → Option Value), cols.length = i ∧ ColsOk cols ∧ (∀ q ∈ colLed cols, @Ne Nat q.1 rd ∧ @Ne Nat q.1 td) ∧ news = [(rx, instObj 1040 rd), (tx, instObj 915 td), (sx, instObj 516 sd), (sd, dictOf es ns), (dl, W.listOf dvs.toArray kdl), (ql, W.listOf [].toArray kq), (kl, W.listOf [].toArray kk), (rd, dictOf er nr), (td, dictOf et n), (cl, W.listOf (colVals cols).toArray kc)] ++ colLed cols ∧ ∀ y, m y = readMap (.ref rx) m0 y) hcalm rfl (fun i m news h => by obtain ⟨cols, kc, m0, h1, h2, _, rfl, h3⟩ := h; exact mem4) F1 N1 ⟨[], k, (fun y => List.lookup y [(Str.ofString "self", Value.ref rx)].reverse), rfl, (fun j c h => by simp at h), (fun q hq => by cases hq), rfl, fun y => ?map⟩ ?step ?fin
  case map =>
    unfold readMap
    by_cases h0 : y = Str.ofString "self"
    · subst h0; rfl
    simp only [h0, if_false]
  case step =>
    clear F1 N1
    intro i v m news I o h tk hv hJ9 off F4 N4
    k_fold
    (refine ex3 (hJ9) fun cols kc m0 hE9 => an5 hE9 ?_; clear hE9; rintro hcl' hok hapart rfl hm; (try clear hJ9))
    have F5 : Fr g L' h (fun z => if z = Str.ofString "told" then some v else readMap (.ref rx) m0 z) := fr_eq F4 fun y => by simp only [hm]
    clear F4 hm
    unfold readMap at F5
    simp only [List.cons_append, List.nil_append] at N4 off
    have i4 : i < dvs.length := (List.getElem?_eq_some_iff.mp hv).1
    refine hdefs.el hv (fun ox od eo no fo nt2 tt2 lc klc cvs ev hox hod hoD hon hot hoc hlc hw1 hw2 hw3 _ => ?_)
    subst ev
    have kb := keep_back [rd, td, cl] hg hh1 F5 N4 (by repeat' (first | exact List.forall_mem_nil _ | refine fmc (fun _ => by k_mem) ?_ | refine fmc (fun h9 => absurd (by k_mem) h9) ?_))
    have lox : Live h₀ h ox (instObj 490 od) := ⟨kb _ _ hw1 hox.1, hox.2⟩
    have lod : Live h₀ h od (dictOf eo no) := ⟨kb _ _ hw2 hod.1, hod.2⟩
    have hcs := cols_at stg N4 (fun q hq => by repeat (first | exact hq | refine .tail _ ?_)) hok
    have hcv : (colVals cols).length = i := by simp [colVals, hcl']
    (repeat' (first | (k_unfold; (try dsimp only)) | (k_end; wrow_close) | (with_reducible ((with_reducible show wpAny _ _ (call (Value.ref 989) _) _ _ _); (refine hold ?_))) | walk1 | (dsimp only; walk1) | (leave1; try dsimp only)))
    unfold Hold
    k_fold
    refine addcol_el (rest := [(I, o), (rx, instObj 1040 rd), (tx, instObj 915 td), (sx, instObj 516 sd), (sd, dictOf es ns), (dl, W.listOf dvs.toArray kdl), (ql, W.listOf [].toArray kq), (kl, W.listOf [].toArray kk), (rd, dictOf er nr), (td, dictOf et n)] ++ colLed cols) F5 N4 (addcol_ok (vs := colVals cols) X T (stays_now stg F5) (Room.deeper (k := 12) hroom (by decide)) (Live.of stg N4 (by k_mem)) (Live.of stg N4 (by k_mem)) hrD (Live.of stg N4 (by k_mem)) (Live.of stg N4 (by k_mem)) (Live.of stg N4 (by k_mem)) hD hcs (by rw [hcv]; omega) lox lod hoD (by rw [hcv]; exact hon) hot) (fmc ⟨_, by k_mem⟩ (List.forall_mem_nil _)) (List.forall_mem_append.mpr ⟨by lcg_sub, fun q hq => by repeat (first | exact hq | refine .tail _ ?_)⟩) (List.forall_mem_append.mpr ⟨?o1, fun q hq a ha => ?o2⟩) (fun x dx es2 n2 f2 nt3 tt3 k' h' tk' hcl2 hx2 hdx2 hD2 hn2 ht2 fx fdx F7 N7 hw => ?_)
    case o1 =>
      have hIc : @Ne Nat I cl := Ne.symm (off (cl, W.listOf (colVals cols).toArray kc) mem9)
      exact (fmc (fmc hIc (List.forall_mem_nil _)) (fmc (fmc ne_rx_cl (List.forall_mem_nil _)) (fmc (fmc ne_tx_cl (List.forall_mem_nil _)) (fmc (fmc ne_sx_cl (List.forall_mem_nil _)) (fmc (fmc ne_sd_cl (List.forall_mem_nil _)) (fmc (fmc hne2 (List.forall_mem_nil _)) (fmc (fmc hne3 (List.forall_mem_nil _)) (fmc (fmc hne4 (List.forall_mem_nil _)) (fmc (fmc ne_rd_cl (List.forall_mem_nil _)) (fmc (fmc ne_td_cl (List.forall_mem_nil _)) (List.forall_mem_nil _)))))))))))
    case o2 =>
      rw [List.mem_singleton.mp ha]
      exact neCls N4 (o' := W.listOf (colVals cols).toArray kc) (show (q.1, q.2) ∈ _ from by repeat (first | exact hq | refine .tail _ ?_)) (by k_mem) (colLed_cls hq)
    have N8 := news_add (news_add (news_add N7 hcl2 (hw cl (.head _))) hx2.1 (free_add F5 fx)) hdx2.1 (free_add F5 fdx)
    have hIx : x ≠ I := fun e => by rw [e, (N4 (I, o) (.head _)).1] at fx; cases fx
    have hIdx : dx ≠ I := fun e => by rw [e, (N4 (I, o) (.head _)).1] at fdx; cases fdx
    have hfr : ∀ {a b : Addr} {o : Obj}, h.get? a = none → h.get? b = some o → @Ne Nat a b := fun e1 e2 e => by have e := (show _ = _ from e); rw [e, e2] at e1; cases e1
    have hapart2 : ∀ q ∈ colLed (cols ++ [⟨x, dx, es2, n2, f2, nt3, tt3⟩]), @Ne Nat q.1 rd ∧ @Ne Nat q.1 td := colLed_snoc hapart ⟨hfr fx (N4 (rd, dictOf er nr) mem8).1, hfr fx (N4 (td, dictOf et n) mem9).1⟩ ⟨hfr fdx (N4 (rd, dictOf er nr) mem8).1, hfr fdx (N4 (td, dictOf et n) mem9).1⟩
    clear N7
    simp only [List.cons_append, List.nil_append] at N8
    have hcol : ColsOk (cols ++ [⟨x, dx, es2, n2, f2, nt3, tt3⟩]) := hok.snoc ⟨hD2, by rw [← show (colVals cols).length = cols.length by simp [colVals]]; exact hn2, ht2⟩
    have hcvs : colVals cols ++ [Value.ref x] = colVals (cols ++ [⟨x, dx, es2, n2, f2, nt3, tt3⟩]) := by simp [colVals]
    rw [hcvs] at N8
    clear F5 N4
    k_steps
    refine TurnedF.intro F7 N8 ([(rx, instObj 1040 rd), (tx, instObj 915 td), (sx, instObj 516 sd), (sd, dictOf es ns), (dl, W.listOf dvs.toArray kdl), (ql, W.listOf [].toArray kq), (kl, W.listOf [].toArray kk), (rd, dictOf er nr), (td, dictOf et n), (cl, W.listOf (colVals (cols ++ [⟨x, dx, es2, n2, f2, nt3, tt3⟩])).toArray k')] ++ colLed (cols ++ [⟨x, dx, es2, n2, f2, nt3, tt3⟩])) (readMap (.ref rx) (fun y => if y = Str.ofString "told" then some (.ref ox) else m0 y)) (fmc (by k_mem) (List.forall_mem_append.mpr ⟨by lcg_sub, colLed_snoc (fun q hq => by repeat (first | exact hq | refine .tail _ ?_)) (by k_mem) (by k_mem)⟩)) (List.forall_mem_append.mpr ⟨(fmc (off (rx, instObj 1040 rd) (.head _)) (fmc (off (tx, instObj 915 td) mem1) (fmc (off (sx, instObj 516 sd) mem2) (fmc (off (sd, dictOf es ns) mem3) (fmc (off (dl, W.listOf dvs.toArray kdl) mem4) (fmc (off (ql, W.listOf [].toArray kq) mem5) (fmc (off (kl, W.listOf [].toArray kk) mem6) (fmc (off (rd, dictOf er nr) mem7) (fmc (off (td, dictOf et n) mem8) (fmc (off (cl, W.listOf (colVals cols).toArray kc) mem9) (List.forall_mem_nil _))))))))))), colLed_snoc (fun q hq => off q (by repeat (first | exact hq | refine .tail _ ?_))) hIx hIdx⟩) (fun y => ?_) ⟨_, k', _, by simp [hcl'], hcol, hapart2, rfl, fun y => rfl⟩
    · unfold readMap
      by_cases h0 : y = Str.ofString "told"
      · subst h0; rfl
      by_cases h1 : y = Str.ofString "self"
      · subst h1; rfl
      simp only [h0, h1, if_false]
  case fin =>
    clear F1 N1
    intro h tk m news hJ9p4 F4 N4
    refine hide fun G9 k9 => ?_
    obtain ⟨cols, kc, m0, hcl', hok, hapart, rfl, hm⟩ := hJ9p4
    refine k9 ?_
    clear k9 G9
    have F5 := fr_eq F4 hm
    clear F4 hm
    unfold readMap at F5
    simp only [List.cons_append, List.nil_append] at N4
    (repeat' (first | (k_unfold; (try dsimp only)) | (k_end; wrow_close) | (with_reducible ((with_reducible show wpAny _ _ (pyIter (Value.ref _)) _ _ _); refine hold ?_)) | (with_reducible ((with_reducible show wpAny _ _ (call (Value.type "range") _) _ _ _); k_here; (rename Fr _ _ _ _ => cF'); (rename News _ _ _ _ => cN'); k_dflt (first | (refine range1_rows cF' cN' ?_) | (refine range2_rows cF' cN' ?_)); clear cF' cN'; intro _ _ _ _ _ _ _ _ k'; clear k')) | (with_reducible (k_here; (with_reducible show wpAny _ _ (call (Value.builtin "len") [Value.ref _]) _ _ _); k_dflt (refine' len_own ?k1 ?k2 ?k3 ?_; (case k1 => k_asm); (case k2 => k_mem); (case k3 => assumption); k_whole))) | walk1 | (dsimp only; walk1) | (leave1; try dsimp only)))
    unfold Hold
    (rename Fr _ _ _ _ => F1); (rename News _ _ _ _ => N1); (rename IsRange _ _ _ _ _ _ _ _ => R1)
    refine forRange (L := L') dvs.length (fun i m news => ∃ (c : RdSt) (m0 : Str → Option Value), DA c.er (rdF (.ref tx) c.hp (.ref sx) rs) c.kr ∧ DA c.et (tabF (.ref cl) c.rp il (.ref kl) c.pv nm rt sq) c.kd ∧ (((∀ j, key = some j → (i : Int) ≤ j) ∧ c.hp = .bool false ∧ c.rp = .none ∧ c.kr = kr ∧ c.kd = kd) ∨ ((∃ j, key = some j ∧ j < (i : Int)) ∧ KeyV c.rp key ∧ c.kr ≤ kr + 1 ∧ c.kd ≤ kd + 2)) ∧ news = [(rx, instObj 1040 rd), (tx, instObj 915 td), (sx, instObj 516 sd), (sd, dictOf es ns), (dl, W.listOf dvs.toArray kdl), (ql, W.listOf [].toArray kq), (kl, W.listOf [].toArray kk), (rd, dictOf c.er c.nr), (td, dictOf c.et c.n), (cl, W.listOf (colVals cols).toArray kc)] ++ colLed cols ∧ ∀ y, m y = readMap (.ref rx) m0 y) hcalm rfl R1 (by decide) (by ((with_reducible refine c1 (by assumption) ?_); rfl)) (by (with_reducible exact s74)) F1 N1 ⟨⟨er, nr, kr, et, n, kd, pv, .none, .bool false⟩, m0, hrD, hD, .inl ⟨fun j hj => (hkey j hj).1, rfl, rfl, rfl, rfl⟩, rfl, fun y => rfl⟩ ?step2 ?fin2
    case step2 =>
      clear F1 N1 R1
      intro i t0 m news I o h tk hi hJ9 off F4 N4
      k_fold
      (refine hide fun G9 k9 => ?_; obtain ⟨⟨er, nr, kr', et, n, kd', pv, rp, hp⟩, m0, hrD, hD, hst, rfl, hm⟩ := hJ9; refine k9 ?_; clear k9 G9)
      (try dsimp only at hrD hD hst off N4)
      have F5 : Fr g L' h (fun z => if z = Str.ofString "place" then some (.int (0 + (i : Int)) t0) else readMap (.ref rx) m0 z) := fr_eq F4 fun y => by simp only [hm]
      clear F4 hm
      unfold readMap at F5
      simp only [List.cons_append, List.nil_append] at N4 off
      refine hide fun G9 k9 => ?_
      obtain ⟨v, hv⟩ : ∃ v, dvs[i]? = some v := ⟨_, List.getElem?_eq_getElem hi⟩
      refine k9 ?_
      clear k9 G9
      refine hdefs.el hv (fun ox od eo no fo nt2 tt2 lc klc cvs ev hox hod hoD hon hot hoc hlc hw1 hw2 hw3 hcase => ?_)
      subst ev
      have kb := keep_back [rd, td, cl] hg hh1 F5 N4 (by repeat' (first | exact List.forall_mem_nil _ | refine fmc (fun _ => by k_mem) ?_ | refine fmc (fun h9 => absurd (by k_mem) h9) ?_))
      have lt := fun (a : Addr) (o : Obj) (e : s.heap.get? a = some o) => (show a ≠ L' from Nat.ne_of_lt (Nat.lt_of_lt_of_le (Heap.lt_size e) hz))
      have hgd : dvs.getD (0 + (i : Int)).toNat .none = .ref ox := by
        rw [show (0 + (i : Int)).toNat = i by (with_reducible exact s4), List.getD_eq_getElem?_getD, hv]; rfl
      have keepF := hold (P := Hold (Fr g L' h _)) F5
      have keepN := hold (P := Hold (News g L' h _)) N4
      rcases hcase with ⟨hkn, rfl⟩ | ⟨hks, t, t1, rfl, hlt, hw4⟩
      · have ho : ∀ q ∈ [(ox, instObj 490 od), (od, dictOf eo no), (lc, W.listOf [].toArray klc)], h.get? q.1 = some q.2 ∧ h₀.get? q.1 = none ∧ q.1 ≠ L' :=
          fmc ⟨kb _ _ hw1 hox.1, hox.2, lt _ _ hox.1⟩ (fmc ⟨kb _ _ hw2 hod.1, hod.2, lt _ _ hod.1⟩ (fmc ⟨kb _ _ hw3 hlc.1, hlc.2, lt _ _ hlc.1⟩ (List.forall_mem_nil _)))
        (refine an3 (borrow _ stg F5 N4 ho) ?_; intro st2 F6 N6)
        have X2 := X.keeps st2
        have T2 := T.keeps st2
        simp only [List.cons_append, List.nil_append] at N6
        clear F5 N4 Xg Tg
        (repeat' (first | (k_unfold; (try dsimp only)) | (k_end; wrow_close) | (with_reducible ((with_reducible show wpAny _ _ (pyIter (Value.ref _)) _ _ _); refine hold ?_)) | (with_reducible (k_here; (with_reducible show wpAny _ _ (exec (Stmt.For (Expr.Tuple _ _ _) _ _ [] _) _) _ _ _); k_dflt (refine forTup (by assumption) ?_))) | (with_reducible (k_here; (with_reducible show wpAny _ _ (subscriptTail _ _ (Value.ref _) (Value.int _ _)) _ _ _); k_dflt (refine' item_val ?k1 ?k2 ?k3 ?k4 ?k5 ?kv ?_ ?k6; (case k1 => k_asm); (case k2 => k_mem); (case k3 => ((with_reducible refine c6 ?_); rfl)); (case k4 => assumption); (case k5 => (with_reducible exact s25 (by assumption))); (case kv => assumption); (case k6 => with_unfolding_all rfl); k_whole))) | walk1 | (dsimp only; walk1) | (leave1; try dsimp only)))
        unfold Hold
        refine forPairs0 hcalm rfl rfl rfl rfl (by k_mem) F6 N6 (fun h2 tk2 F8 N8 => ?_)
        (try dsimp only)
        k_steps
        refine hide fun G9 k9 => ?_
        obtain ⟨F9, N9⟩ := payback (news := [(I, o), (rx, instObj 1040 rd), (tx, instObj 915 td), (sx, instObj 516 sd), (sd, dictOf es ns), (dl, W.listOf dvs.toArray kdl), (ql, W.listOf [].toArray kq), (kl, W.listOf [].toArray kk), (rd, dictOf er nr), (td, dictOf et n), (cl, W.listOf (colVals cols).toArray kc)] ++ colLed cols) _ keepF (fun q hq => (ho q hq).1) F8 N8 (by lcg_sub) (fun q hq => ⟨.tail _ (.tail _ (.tail _ hq)), (keepN q hq).2.2⟩)
        refine k9 ?_
        clear k9 G9
        refine TurnedF.intro F9 N9 _ (readMap (.ref rx) (fun y => if y = Str.ofString "place" then some (.int (0 + (i : Int)) t0) else m0 y)) (fun q hq => hq) off (fun y => ?_) ⟨⟨er, nr, kr', et, n, kd', pv, rp, hp⟩, _, hrD, hD, ?_, rfl, fun y => rfl⟩
        · unfold readMap
          by_cases h0 : y = Str.ofString "place"
          · subst h0; rfl
          by_cases h1 : y = Str.ofString "self"
          · subst h1; rfl
          simp only [h0, h1, if_false]
        · rcases hst with ⟨h1, h2⟩ | ⟨⟨j, h1, h2⟩, h3⟩
          · exact .inl ⟨fun j hj => by
              have := h1 j hj
              have : j ≠ (i : Int) := fun e => hkn (by rw [hj, e])
              (with_reducible exact s20 (by assumption) (by assumption)), h2⟩
          · exact .inr ⟨⟨j, h1, by (with_reducible exact s22 (by assumption))⟩, h3⟩
      · have ho : ∀ q ∈ [(ox, instObj 490 od), (od, dictOf eo no), (lc, W.listOf [Value.ref t].toArray klc), (t, tup2 (.str (Str.ofString "primary key") t1) (.bool false))], h.get? q.1 = some q.2 ∧ h₀.get? q.1 = none ∧ q.1 ≠ L' :=
          fmc ⟨kb _ _ hw1 hox.1, hox.2, lt _ _ hox.1⟩ (fmc ⟨kb _ _ hw2 hod.1, hod.2, lt _ _ hod.1⟩ (fmc ⟨kb _ _ hw3 hlc.1, hlc.2, lt _ _ hlc.1⟩ (fmc ⟨kb _ _ hw4 hlt.1, hlt.2, lt _ _ hlt.1⟩ (List.forall_mem_nil _))))
        (refine an3 (borrow _ stg F5 N4 ho) ?_; intro st2 F6 N6)
        have X2 := X.keeps st2
        have T2 := T.keeps st2
        simp only [List.cons_append, List.nil_append] at N6
        clear F5 N4 Xg Tg
        have hki : key = some (i : Int) := hks
        rcases hst with ⟨h1, rfl, rfl, e1, e2⟩ | ⟨⟨j, h1, h2⟩, h3⟩
        · (repeat' (first | (k_unfold; (try dsimp only)) | (k_end; wrow_close) | (with_reducible ((with_reducible show wpAny _ _ (pyIter (Value.ref _)) _ _ _); refine hold ?_)) | (with_reducible (k_here; (with_reducible show wpAny _ _ (exec (Stmt.For (Expr.Tuple _ _ _) _ _ [] _) _) _ _ _); k_dflt (refine forTup (by assumption) ?_))) | (with_reducible (k_here; (with_reducible show wpAny _ _ (subscriptTail _ _ (Value.ref _) (Value.int _ _)) _ _ _); k_dflt (refine' item_val ?k1 ?k2 ?k3 ?k4 ?k5 ?kv ?_ ?k6; (case k1 => k_asm); (case k2 => k_mem); (case k3 => ((with_reducible refine c6 ?_); rfl)); (case k4 => assumption); (case k5 => (with_reducible exact s25 (by assumption))); (case kv => assumption); (case k6 => with_unfolding_all rfl); k_whole))) | walk1 | (dsimp only; walk1) | (leave1; try dsimp only)))
          unfold Hold
          refine forPairs1 (fun m' news' => ∃ (c : RdC) (m2 : Str → Option Value), DA c.er (rdF (.ref tx) (.bool true) (.ref sx) rs) c.kr ∧ DA c.et (tabF (.ref cl) (.int (0 + (i : Int)) c.pk) il (.ref kl) c.pv nm rt sq) c.kd ∧ c.kr ≤ kr' + 1 ∧ c.kd ≤ kd' + 2 ∧ news' = [(ox, instObj 490 od), (od, dictOf eo no), (lc, W.listOf [Value.ref t].toArray klc), (t, tup2 (.str (Str.ofString "primary key") t1) (.bool false)), (I, o), (rx, instObj 1040 rd), (tx, instObj 915 td), (sx, instObj 516 sd), (sd, dictOf es ns), (dl, W.listOf dvs.toArray kdl), (ql, W.listOf [].toArray kq), (kl, W.listOf [].toArray kk), (rd, dictOf c.er c.nr), (td, dictOf c.et c.n), (cl, W.listOf (colVals cols).toArray kc)] ++ colLed cols ∧ ∀ y, m' y = readMap (.ref rx) m2 y) hcalm rfl rfl rfl rfl (by k_mem) (by k_mem) (fun m' news' hj => by obtain ⟨_, _, _, _, _, _, rfl, _⟩ := hj; exact ⟨mem2, mem3⟩) F6 N6 (fun I2 o2 h2 tk2 off2 F7 N7 => ?_) (fun h3 tk3 m3 news3 hj F9 N9 => ?_)
          · clear F6 N6
            have hcs := cols_at st2 N7 (fun q hq => by repeat (first | exact hq | refine .tail _ ?_)) hok
            have hcv : (colVals cols).length = dvs.length := by simp [colVals, hcl']
            (repeat' (first | (k_unfold; (try dsimp only)) | (k_end; wrow_close) | (with_reducible ((with_reducible show wpAny _ _ (call (Value.ref 996) _) _ _ _); (refine hold ?_))) | walk1 | (dsimp only; walk1) | (leave1; try dsimp only)))
            unfold Hold
            k_fold
            refine constr_el (rest := [(I2, o2), (ox, instObj 490 od), (od, dictOf eo no), (lc, W.listOf [Value.ref t].toArray klc), (t, tup2 (.str (Str.ofString "primary key") t1) (.bool false)), (I, o), (rx, instObj 1040 rd), (tx, instObj 915 td), (sx, instObj 516 sd), (sd, dictOf es ns), (dl, W.listOf dvs.toArray kdl), (ql, W.listOf [].toArray kq), (kl, W.listOf [].toArray kk), (cl, W.listOf (colVals cols).toArray kc)] ++ colLed cols) F7 N7 (constr_ok (vs := colVals cols) X T (stays_now st2 F7) (Room.deeper (k := 9) hroom (by decide)) (Live.of st2 N7 (by k_mem)) (Live.of st2 N7 (by k_mem)) hrD (Live.of st2 N7 (by k_mem)) (Live.of st2 N7 (by k_mem)) hD hne1 (Live.of st2 N7 (by k_mem)) hcs (by rw [hcv]; exact h4) (by ((with_reducible refine c6 ?_); rfl)) (by rw [hcv]; (with_reducible exact s25 (by assumption))) (by ((with_reducible refine q4 (by assumption) (by assumption) ?_); rfl)) (by ((with_reducible refine q4 (by assumption) (by assumption) ?_); rfl))) (fmc ⟨_, by k_mem⟩ (fmc ⟨_, by k_mem⟩ (List.forall_mem_nil _))) (List.forall_mem_append.mpr ⟨by lcg_sub, fun q hq => by repeat (first | exact hq | refine .tail _ ?_)⟩) (List.forall_mem_append.mpr ⟨?o1, fun q hq a ha => ?o2⟩) (fun er' nr' kr2 et' n' kd2 pv' pk' h' tk' hr ht D1 D2 l1 l2 F8 N8 hw => ?_)
            case o1 =>
              have hI2r : @Ne Nat I2 rd := Ne.symm (off2 (rd, dictOf er nr) (.tail _ mem11))
              have hI2t : @Ne Nat I2 td := Ne.symm (off2 (td, dictOf et n) (.tail _ (.tail _ mem11)))
              have hIr : @Ne Nat I rd := Ne.symm (off (rd, dictOf er nr) mem7)
              have hIt : @Ne Nat I td := Ne.symm (off (td, dictOf et n) mem8)
              have a1 : @Ne Nat ox rd ∧ @Ne Nat ox td := ⟨fun e => hw1 (by rw [show ox = rd from e]; exact .head _), fun e => hw1 (by rw [show ox = td from e]; exact mem1)⟩
              have a2 : @Ne Nat od rd ∧ @Ne Nat od td := ⟨fun e => hw2 (by rw [show od = rd from e]; exact .head _), fun e => hw2 (by rw [show od = td from e]; exact mem1)⟩
              have a3 : @Ne Nat lc rd ∧ @Ne Nat lc td := ⟨fun e => hw3 (by rw [show lc = rd from e]; exact .head _), fun e => hw3 (by rw [show lc = td from e]; exact mem1)⟩
              have a4 : @Ne Nat t rd ∧ @Ne Nat t td := ⟨fun e => hw4 (by rw [show t = rd from e]; exact .head _), fun e => hw4 (by rw [show t = td from e]; exact mem1)⟩
              exact (fmc (fmc hI2r (fmc hI2t (List.forall_mem_nil _))) (fmc (fmc a1.1 (fmc a1.2 (List.forall_mem_nil _))) (fmc (fmc a2.1 (fmc a2.2 (List.forall_mem_nil _))) (fmc (fmc a3.1 (fmc a3.2 (List.forall_mem_nil _))) (fmc (fmc a4.1 (fmc a4.2 (List.forall_mem_nil _))) (fmc (fmc hIr (fmc hIt (List.forall_mem_nil _))) (fmc (fmc ne_rx_rd (fmc ne_rx_td (List.forall_mem_nil _))) (fmc (fmc ne_tx_rd (fmc ne_tx_td (List.forall_mem_nil _))) (fmc (fmc ne_sx_rd (fmc ne_sx_td (List.forall_mem_nil _))) (fmc (fmc hne5 (fmc hne6 (List.forall_mem_nil _))) (fmc (fmc ne_dl_rd (fmc ne_dl_td (List.forall_mem_nil _))) (fmc (fmc ne_ql_rd (fmc ne_ql_td (List.forall_mem_nil _))) (fmc (fmc ne_kl_rd (fmc ne_kl_td (List.forall_mem_nil _))) (fmc (fmc (Ne.symm ne_rd_cl) (fmc (Ne.symm ne_td_cl) (List.forall_mem_nil _))) (List.forall_mem_nil _)))))))))))))))
            case o2 =>
              rcases List.mem_cons.mp ha with rfl | ha
              · exact (hapart q hq).1
              · rw [List.mem_singleton.mp ha]; exact (hapart q hq).2
            have N9 := news_add (news_add N8 hr (hw rd (.head _))) ht (hw td mem1)
            clear N8 N7
            simp only [List.cons_append, List.nil_append] at N9
            k_steps
            refine TurnedF.intro F8 N9 ([(ox, instObj 490 od), (od, dictOf eo no), (lc, W.listOf [Value.ref t].toArray klc), (t, tup2 (.str (Str.ofString "primary key") t1) (.bool false)), (I, o), (rx, instObj 1040 rd), (tx, instObj 915 td), (sx, instObj 516 sd), (sd, dictOf es ns), (dl, W.listOf dvs.toArray kdl), (ql, W.listOf [].toArray kq), (kl, W.listOf [].toArray kk), (rd, dictOf er' nr'), (td, dictOf et' n'), (cl, W.listOf (colVals cols).toArray kc)] ++ colLed cols) (readMap (.ref rx) (fun y => if y = Str.ofString "detail" then some (.bool false) else if y = Str.ofString "word" then some (.str (Str.ofString "primary key") t1) else if y = Str.ofString "place" then some (.int (0 + (i : Int)) t0) else m0 y)) (fmc (by k_mem) (List.forall_mem_append.mpr ⟨by lcg_sub, fun q hq => by repeat (first | exact hq | refine .tail _ ?_)⟩)) (List.forall_mem_append.mpr ⟨(fmc (off2 (ox, instObj 490 od) (.head _)) (fmc (off2 (od, dictOf eo no) mem1) (fmc (off2 (lc, W.listOf [Value.ref t].toArray klc) mem2) (fmc (off2 (t, tup2 (.str (Str.ofString "primary key") t1) (.bool false)) mem3) (fmc (off2 (I, o) mem4) (fmc (off2 (rx, instObj 1040 rd) mem5) (fmc (off2 (tx, instObj 915 td) mem6) (fmc (off2 (sx, instObj 516 sd) mem7) (fmc (off2 (sd, dictOf es ns) mem8) (fmc (off2 (dl, W.listOf dvs.toArray kdl) mem9) (fmc (off2 (ql, W.listOf [].toArray kq) mem10) (fmc (off2 (kl, W.listOf [].toArray kk) mem11) (fmc (off2 (rd, dictOf er nr) (.tail _ mem11)) (fmc (off2 (td, dictOf et n) (.tail _ (.tail _ mem11))) (fmc (off2 (cl, W.listOf (colVals cols).toArray kc) (.tail _ (.tail _ (.tail _ mem11)))) (List.forall_mem_nil _)))))))))))))))), fun q hq => off2 q (by repeat (first | exact hq | refine .tail _ ?_))⟩) (fun y => ?_) ⟨⟨er', nr', kr2, et', n', kd2, pv', pk'⟩, _, D1, D2, l1, l2, rfl, fun y => rfl⟩
            · unfold readMap
              by_cases h0 : y = Str.ofString "detail"
              · subst h0; rfl
              by_cases h1 : y = Str.ofString "word"
              · subst h1; rfl
              by_cases h2 : y = Str.ofString "place"
              · subst h2; rfl
              by_cases h3 : y = Str.ofString "self"
              · subst h3; rfl
              simp only [h0, h1, h2, h3, if_false]
          · (refine hide fun G9 k9 => ?_; obtain ⟨⟨er', nr', kr2, et', n', kd2, pv', pk'⟩, m2, D1, D2, l1, l2, rfl, hm3⟩ := hj; refine k9 ?_; clear k9 G9)
            (try dsimp only at D1 D2 l1 l2 N9)
            have F10 := fr_eq F9 hm3
            clear F9 F6 N6
            simp only [List.cons_append, List.nil_append] at N9
            (try dsimp only)
            k_steps
            have hgn : ∀ q ∈ [(I, o), (rx, instObj 1040 rd), (tx, instObj 915 td), (sx, instObj 516 sd), (sd, dictOf es ns), (dl, W.listOf dvs.toArray kdl), (ql, W.listOf [].toArray kq), (kl, W.listOf [].toArray kk), (rd, dictOf er' nr'), (td, dictOf et' n'), (cl, W.listOf (colVals cols).toArray kc)] ++ colLed cols, g.get? q.1 = none := List.forall_mem_append.mpr ⟨(fmc ((keepN (I, o) (.head _)).2.2) (fmc ((keepN (rx, instObj 1040 rd) mem1).2.2) (fmc ((keepN (tx, instObj 915 td) mem2).2.2) (fmc ((keepN (sx, instObj 516 sd) mem3).2.2) (fmc ((keepN (sd, dictOf es ns) mem4).2.2) (fmc ((keepN (dl, W.listOf dvs.toArray kdl) mem5).2.2) (fmc ((keepN (ql, W.listOf [].toArray kq) mem6).2.2) (fmc ((keepN (kl, W.listOf [].toArray kk) mem7).2.2) (fmc ((keepN (rd, dictOf er nr) mem8).2.2) (fmc ((keepN (td, dictOf et n) mem9).2.2) (fmc ((keepN (cl, W.listOf (colVals cols).toArray kc) mem10).2.2) (List.forall_mem_nil _)))))))))))), fun q hq => (keepN q (by repeat (first | exact hq | refine .tail _ ?_))).2.2⟩
            refine hide fun G9 k9 => ?_
            obtain ⟨F11, N11⟩ := payback (news := [(I, o), (rx, instObj 1040 rd), (tx, instObj 915 td), (sx, instObj 516 sd), (sd, dictOf es ns), (dl, W.listOf dvs.toArray kdl), (ql, W.listOf [].toArray kq), (kl, W.listOf [].toArray kk), (rd, dictOf er' nr'), (td, dictOf et' n'), (cl, W.listOf (colVals cols).toArray kc)] ++ colLed cols) _ keepF (fun q hq => (ho q hq).1) F10 N9 (by lcg_sub) (fun q hq => ⟨.tail _ (.tail _ (.tail _ (.tail _ hq))), hgn q hq⟩)
            refine k9 ?_
            clear k9 G9
            refine TurnedF.intro F11 N11 _ (readMap (.ref rx) m2) (fun q hq => hq) (List.forall_mem_append.mpr ⟨(fmc (off (rx, instObj 1040 rd) (.head _)) (fmc (off (tx, instObj 915 td) mem1) (fmc (off (sx, instObj 516 sd) mem2) (fmc (off (sd, dictOf es ns) mem3) (fmc (off (dl, W.listOf dvs.toArray kdl) mem4) (fmc (off (ql, W.listOf [].toArray kq) mem5) (fmc (off (kl, W.listOf [].toArray kk) mem6) (fmc (off (rd, dictOf er nr) mem7) (fmc (off (td, dictOf et n) mem8) (fmc (off (cl, W.listOf (colVals cols).toArray kc) mem9) (List.forall_mem_nil _))))))))))), fun q hq => off q (by repeat (first | exact hq | refine .tail _ ?_))⟩) (fun y => rfl) ⟨⟨er', nr', kr2, et', n', kd2, pv', _, .bool true⟩, _, D1, D2, .inr ⟨⟨i, hki, by omega⟩, ?_, (by show kr2 ≤ kr + 1; (with_reducible exact s32 (by assumption) (by assumption))), (by show kd2 ≤ kd + 2; (with_reducible exact s32 (by assumption) (by assumption)))⟩, rfl, fun y => rfl⟩
            (try dsimp only)
            rw [hki, show (0 : Int) + (i : Int) = i by omega]; exact .int _ _
        · rw [hki] at h1
          cases h1
          exact absurd h2 (Int.lt_irrefl _)
    case fin2 =>
      clear F1 N1 R1
      intro h tk m news hJ9p4 F4 N4
      refine hide fun G9 k9 => ?_
      obtain ⟨⟨er2, nr2, kr2, et2, n2, kd2, pv2, rp2, hp2⟩, m2, hrD2, hD2, hst, rfl, hm⟩ := hJ9p4
      refine k9 ?_
      clear k9 G9
      (try dsimp only at hrD2 hD2 hst N4)
      have F5 := fr_eq F4 hm
      clear F4 hm
      unfold readMap at F5
      simp only [List.cons_append, List.nil_append] at N4
      (repeat' (first | (k_unfold; (try dsimp only)) | (k_end; wrow_close) | (with_reducible ((with_reducible show wpAny _ _ (pyIter (Value.ref _)) _ _ _); refine hold ?_)) | walk1 | (dsimp only; walk1) | (leave1; try dsimp only)))
      unfold Hold
      (rename Fr _ _ _ _ => F6); (rename News _ _ _ _ => N6)
      refine forList0 (L := L') hcalm rfl (by k_mem) F6 N6 (fun h7 tk7 F7 N7 => ?_)
      clear F6 N6
      (repeat' (first | (k_unfold; (try dsimp only)) | (k_end; wrow_close) | (with_reducible ((with_reducible show wpAny _ _ (pyIter (Value.ref _)) _ _ _); refine hold ?_)) | walk1 | (dsimp only; walk1) | (leave1; try dsimp only)))
      unfold Hold
      (rename Fr _ _ _ _ => F8); (rename News _ _ _ _ => N8)
      refine forList0 (L := L') hcalm rfl (by k_mem) F8 N8 (fun h9 tk9 F9 N9 => ?_)
      clear F8 N8
      k_steps
      refine ret _ _ _ ?_ (keep_back [rd, td, cl] hg hh1 F9 N9 (by repeat' (first | exact List.forall_mem_nil _ | refine fmc (fun _ => by k_mem) ?_ | refine fmc (fun h9 => absurd (by k_mem) h9) ?_))) (grown_back hz F9)
      refine ⟨rfl, er2, nr2, kr2, et2, n2, kd2, pv2, rp2, hp2, (N9 (rd, _) (by k_mem)).1, (N9 (td, _) (by k_mem)).1, hrD2, hD2, ?_, ?_, ?_⟩
      · rcases hst with ⟨h1, rfl, rfl, _, _⟩ | ⟨_, h2, _⟩
        · cases key with
          | none => exact .none
          | some j => have e1 := h1 j rfl; have e2 := (hkey j rfl).2; omega
        · exact h2
      · rcases hst with ⟨_, _, _, e, _⟩ | ⟨_, _, e, _⟩ <;> (first | (with_reducible assumption) | (with_reducible exact s23 (by assumption)))
      · rcases hst with ⟨_, _, _, _, e⟩ | ⟨_, _, _, e⟩ <;> (first | (with_reducible assumption) | (with_reducible exact s23 (by assumption)))

end
section -- K46
set_option maxHeartbeats 2000000


theorem root_ok {w : World} {p : Program} {loose : List Str} {mean : ExcName → Option Value} {mg mb : Str → Option Value} {h₀ : Heap} {A : Around} {s : Shared} {rx rd ro : Addr} {er : List DictEntry} {nr kr kro : Nat} {fr : Str → Option Value} {pt : Tok}
    (X : (Mine.myK w.params).In h₀) (T : Top p loose mean mg mb h₀) (st : h₀.StaysIn s.heap) (hroom : Room A 5) (hrx : Live h₀ s.heap rx (instObj 1040 rd)) (hrd : Live h₀ s.heap rd (dictOf er nr)) (hD : DA er fr kr) (hr : fr (Str.ofString "roots") = some (.ref ro)) (hro : Live h₀ s.heap ro (W.listOf [].toArray kro)) :
    Calls7 PySem.Challenge.rw_xm0772_01.row.prog w A 975 [.ref rx, .int 0 pt] s [] (fun v h => ∃ t, v = .int 0 t) := by
  intro R ret
  have hcalm := hroom.calm
  revert X; k_fill; intro X
  have hh0 : ∀ q ∈ ([(rx, instObj 1040 rd), (rd, dictOf er nr), (ro, W.listOf [].toArray kro)] : List (Addr × Obj)), s.heap.get? q.1 = some q.2 ∧ h₀.get? q.1 = none := fmc hrx (fmc hrd (fmc hro (List.forall_mem_nil _)))
  k_dflt (refine' enter (binds := [(Str.ofString "self", .ref rx), (Str.ofString "place", .int 0 pt)]) _ X T st hh0 ?k6 ?k7 ?k8 ?k9 ?kB ?_ ?c2 ?c3 ?c4 ?c5)
  case k6 => k_is
  case k7 => k_is
  case k8 => exact hroom.now
  case k9 => first | exact BindsTo.of_eq rfl | exact binds_K (X.keeps st) rfl (by k_is) rfl rfl rfl
  case kB => exact locs rfl
  case c2 => exact rfl
  case c3 => exact rfl
  case c4 => exact rfl
  case c5 => decide
  intro g L' h₁ stg hz hg Xg Tg F N
  k_dflt (show wpAny _ (Around.deeper _ (envOf _ ⟨_, _, _, _, _⟩ _ _ _)) (execs (_ :: _) (envOf _ ⟨_, _, _, _, _⟩ _ _ _)) _ _ _)
  k_fold
  have hlen : ([] : List Value).length < 2 ^ 60 := by decide
  (repeat' (first | (k_unfold; (try dsimp only)) | (k_end; wrow_close) | (with_reducible (k_here; (with_reducible show wpAny _ _ (call (Value.builtin "len") [Value.ref _]) _ _ _); k_dflt (refine' len_own ?k1 ?k2 ?k3 ?_; (case k1 => k_asm); (case k2 => k_mem); (case k3 => assumption); k_whole))) | walk1 | (dsimp only; walk1) | (leave1; try dsimp only)))
  all_goals (refine ret _ _ _ ?_ (keep_back _ hg (fun q hq => (hh0 q hq).1) (by k_asm) (by k_asm) (by repeat' (first | exact List.forall_mem_nil _ | refine fmc (fun _ => by k_mem) ?_ | refine fmc (fun h9 => absurd (by k_mem) h9) ?_))) (grown_back hz (by k_asm)))
  all_goals (try dsimp only)
  all_goals (exact ⟨_, rfl⟩)

theorem maker_init {w : World} {p : Program} {loose : List Str} {mean : ExcName → Option Value} {mg mb : Str → Option Value} {h₀ : Heap} {A : Around} {s : Shared} {x dx sx sd : Addr} {es : List DictEntry} {ns ks : Nat} {sf : Str → Option Value} {n1 n2 : Str} {t1 t2 : Tok}
    (X : (Mine.myK w.params).In h₀) (T : Top p loose mean mg mb h₀) (st : h₀.StaysIn s.heap) (hroom : Room A 12) (hx : Live h₀ s.heap x (instObj 1040 dx)) (hdx : Live h₀ s.heap dx (dictOf [] 0)) (hlt : @LT.lt Nat _ dx x) (hsx : Live h₀ s.heap sx (instObj 516 sd)) (hsd : Live h₀ s.heap sd (dictOf es ns)) (hsD : DA es sf ks) (hs1 : sf (Str.ofString "name") = some (.str n1 t1)) (hs2 : sf (Str.ofString "text") = some (.str n2 t2)) (hne : @Ne Nat sd dx) :
    Calls7 PySem.Challenge.rw_xm0772_01.row.prog w A 968 [.ref x, .ref sx, .none] s [dx] (fun v h => v = .none ∧ ∃ er nr tx td et nt cl il kl pl ro nm rt sq, h.get? dx = some (dictOf er nr) ∧ DA er (rdF (.ref tx) (.bool false) (.ref sx) (.ref ro)) 20 ∧ Live h₀ h tx (instObj 915 td) ∧ Live h₀ h td (dictOf et nt) ∧ DA et (tabF (.ref cl) .none (.ref il) (.ref kl) (.ref pl) nm rt sq) 20 ∧ Live h₀ h cl (W.listOf [].toArray 0) ∧ Live h₀ h il (W.listOf [].toArray 0) ∧ Live h₀ h kl (W.listOf [].toArray 0) ∧ s.heap.get? tx = none ∧ s.heap.get? td = none ∧ s.heap.get? cl = none ∧ s.heap.get? il = none ∧ s.heap.get? kl = none ∧ (@Ne Nat kl cl) ∧ (@Ne Nat il cl)) := by
  intro R ret
  have hcalm := hroom.calm
  revert X; k_fill; intro X
  have hh0 : ∀ q ∈ ([(x, instObj 1040 dx), (dx, dictOf [] 0), (sx, instObj 516 sd), (sd, dictOf es ns)] : List (Addr × Obj)), s.heap.get? q.1 = some q.2 ∧ h₀.get? q.1 = none := fmc hx (fmc hdx (fmc hsx (fmc hsd (List.forall_mem_nil _))))
  k_dflt (refine' enter (binds := [(Str.ofString "self", .ref x), (Str.ofString "statement", .ref sx), (Str.ofString "roots", .none)]) _ X T st hh0 ?k6 ?k7 ?k8 ?k9 ?kB ?_ ?c2 ?c3 ?c4 ?c5)
  case k6 => k_is
  case k7 => k_is
  case k8 => exact hroom.now
  case k9 => first | exact BindsTo.of_eq rfl | exact binds_K (X.keeps st) rfl (by k_is) rfl rfl rfl
  case kB => exact locs rfl
  case c2 => exact rfl
  case c3 => exact rfl
  case c4 => exact rfl
  case c5 => decide
  intro g L' h₁ stg hz hg Xg Tg F N
  k_dflt (show wpAny _ (Around.deeper _ (envOf _ ⟨_, _, _, _, _⟩ _ _ _)) (execs (_ :: _) (envOf _ ⟨_, _, _, _, _⟩ _ _ _)) _ _ _)
  k_fold
  have D0 := DA.nil
  have ne_sx_dx := neCls N (a := sx) (b := dx) (o := instObj 516 sd) (o' := dictOf [] 0) (by k_mem) (by k_mem) (by show _ ≠ _; simp)
  (repeat' (first | (k_unfold; (try dsimp only)) | (k_end; wrow_close) | (with_reducible ((with_reducible show wpAny _ _ (call (Value.ref 915) _) _ _ _); (refine hold ?_))) | (k_here; (with_reducible show wpAny _ _ (call (Value.ref 975) _) _ _ _); (rename Fr _ _ _ _ => cF'); (rename News _ _ _ _ => cN'); k_dflt (refine' use7t cF' cN' (root_ok ?X ?T (stays_now ?st cF') ?room ?h0 ?h1 ?h2 ?h3 ?h4) ?_); (case st => assumption); (case X => assumption); (case T => assumption); (case room => exact Room.deeper (by assumption) (by decide)); (case h0 => exact Live.of (by assumption) (by assumption) (by k_mem)); (case h1 => exact Live.of (by assumption) (by assumption) (by k_mem)); (case h2 => assumption); (case h3 => first | assumption | rfl); (case h4 => exact Live.of (by assumption) (by assumption) (by k_mem)); (intro _ _ _ _ _); (try clear cF' cN')) | (with_reducible ((with_reducible show wpAny _ _ (setAttr (Value.ref _) _ _) _ _ _); k_here; k_dflt (refine' set_sym ?F ?X ?N ?x ?U ?D ?a ?b ?c ?d ?e ?_; (case F => k_asm); (case X => k_asm); (case N => k_asm); (case x => k_mem); (case U => k_updF); (case D => assumption); (case a => k_is); (case b => k_is); (case c => k_is); (case d => k_is); (case e => first | decide | omega); k_whole); intro _ _ _ _ _ N'; (try dsimp only at N'); (try (revert N'; intros)))) | (with_reducible (k_here; (with_reducible show wpAny _ _ (newList _) _ _ _); k_dflt (refine' newL ?k1 ?k2 ?_ ?z; (case k1 => k_asm); (case k2 => k_asm); (case z => first | exact sz0 | exact sz1 | exact sz2 | exact sz3 | size_fits); k_whole); intro _ _ _ _ l1; (try k_lt l1); (try (revert l1; intros)); (try k_sweep))) | walk1 | (dsimp only; walk1) | (leave1; try dsimp only)))
  unfold Hold
  (rename Fr _ _ _ _ => F1); (rename News _ _ _ _ => N1)
  rename_i ro a1 a2 a3 a4 a5 a6 er0 nr0 b1 Dr b2 b3 b4 cl h0 l1
  (try k_fold)
  refine useMakeS (fI := 891) (K := Mine.myK w.params) F1 N1 X stg (by k_is) (by k_is) (by k_is) (P := fun td h₁ v h => ∃ et nt il kl pl, h.get? td = some (dictOf et nt) ∧ DA et (tabF (.ref cl) .none (.ref il) (.ref kl) (.ref pl) (.str n1 t1) (.int 0 b4) (.str n2 t2)) 20 ∧ Live h₀ h il (W.listOf [].toArray 0) ∧ Live h₀ h kl (W.listOf [].toArray 0) ∧ h₁.get? il = none ∧ h₁.get? kl = none ∧ (@Ne Nat il kl)) (fun tx td s₁ st₁ F₂ N₂ lt => table_init X T st₁ (Room.make (n := 5) (Room.deeper (k := 6) hroom (by decide)) _ _) (Live.of stg N₂ (.head _)) (Live.of stg N₂ mem1) lt) (fun tx td v h₁ h' tk' hP F₂ hn₂ F₃ N₃ lo lt hL hg' => ?_)
  (refine ex5 (hP) fun et nt il kl pl hE9 => an7 hE9 ?_; clear hE9; intro htd hD hil hkl fil fkl hne2; (try clear hP))
  have N4 := news_add (news_add (news_add N₃ htd ⟨hL, hg'⟩) hil.1 (free_add F₂ fil)) hkl.1 (free_add F₂ fkl)
  have hf : ∀ {a b : Addr} {o : Obj}, h₁.get? a = none → (b, o) ∈ [(cl, W.listOf [].toArray 0), (ro, W.listOf [].toArray 0), (x, instObj 1040 dx), (dx, dictOf er0 nr0), (sx, instObj 516 sd), (sd, dictOf es ns)] → @Ne Nat a b := fun e1 hm e => by
    have e2 := hn₂ _ hm
    rw [show _ = _ from e] at e1
    rw [e1] at e2; cases e2
  have hf_il_x := hf (b := x) fil (by k_mem)
  have hf_il_dx := hf (b := dx) fil (by k_mem)
  have hf_il_sx := hf (b := sx) fil (by k_mem)
  have hf_il_sd := hf (b := sd) fil (by k_mem)
  have hf_il_ro := hf (b := ro) fil (by k_mem)
  have hf_kl_x := hf (b := x) fkl (by k_mem)
  have hf_kl_dx := hf (b := dx) fkl (by k_mem)
  have hf_kl_sx := hf (b := sx) fkl (by k_mem)
  have hf_kl_sd := hf (b := sd) fkl (by k_mem)
  have hf_kl_ro := hf (b := ro) fkl (by k_mem)
  have hfcl1 := hf (b := cl) fil (by k_mem)
  have hfcl2 := hf (b := cl) fkl (by k_mem)
  (try k_lt lo)
  clear F1 N1 N₃ hn₂
  (repeat' (first | (k_unfold; (try dsimp only)) | (k_end; wrow_close) | (with_reducible ((with_reducible show wpAny _ _ (setAttr (Value.ref _) _ _) _ _ _); k_here; k_dflt (refine' set_sym ?F ?X ?N ?x ?U ?D ?a ?b ?c ?d ?e ?_; (case F => k_asm); (case X => k_asm); (case N => k_asm); (case x => k_mem); (case U => k_updF); (case D => assumption); (case a => k_is); (case b => k_is); (case c => k_is); (case d => k_is); (case e => first | decide | omega); k_whole); intro _ _ _ _ _ N'; (try dsimp only at N'); (try (revert N'; intros)))) | walk1 | (dsimp only; walk1) | (leave1; try dsimp only)))
  (rename Fr _ _ _ _ => F9); (rename News _ _ _ _ => N9); (rename DA _ (fun y => if y = Str.ofString "has_primary" then _ else _) _ => D9)
  refine ret _ _ _ ?_ (keep_back [dx] hg (fun q hq => (hh0 q hq).1) F9 N9 (by repeat' (first | exact List.forall_mem_nil _ | refine fmc (fun _ => by k_mem) ?_ | refine fmc (fun h9 => absurd (by k_mem) h9) ?_))) (grown_back hz F9)
  refine ⟨rfl, _, _, tx, td, et, nt, cl, il, kl, pl, ro, _, _, _, (N9 (dx, _) (by k_mem)).1, DA.congr ⟨D9.get, D9.ref, Nat.le_trans D9.len (by decide)⟩ (fun y => ?_), Live.of stg N9 (by k_mem), Live.of stg N9 (by k_mem), hD, Live.of stg N9 (by k_mem), Live.of stg N9 (by k_mem), Live.of stg N9 (by k_mem), fresh_hid hg N9 (a := tx) (o := instObj 915 td) (by k_mem) (fmc (by k_ne) (fmc (by k_ne) (fmc (by k_ne) (fmc (by k_ne) (List.forall_mem_nil _))))), fresh_hid hg N9 (a := td) (o := dictOf et nt) (by k_mem) (fmc (by k_ne) (fmc (by k_ne) (fmc (by k_ne) (fmc (by k_ne) (List.forall_mem_nil _))))), fresh_hid hg N9 (a := cl) (o := W.listOf [].toArray 0) (by k_mem) (fmc (by k_ne) (fmc (by k_ne) (fmc (by k_ne) (fmc (by k_ne) (List.forall_mem_nil _))))), fresh_hid hg N9 (a := il) (o := W.listOf [].toArray 0) (by k_mem) (fmc (by k_ne) (fmc (by k_ne) (fmc (by k_ne) (fmc (by k_ne) (List.forall_mem_nil _))))), fresh_hid hg N9 (a := kl) (o := W.listOf [].toArray 0) (by k_mem) (fmc (by k_ne) (fmc (by k_ne) (fmc (by k_ne) (fmc (by k_ne) (List.forall_mem_nil _))))), hfcl2, hfcl1⟩
  unfold rdF
  by_cases h0 : y = Str.ofString "has_primary"
  · subst h0; rfl
  by_cases h1 : y = Str.ofString "table"
  · subst h1; rfl
  by_cases h2 : y = Str.ofString "statement"
  · subst h2; rfl
  by_cases h3 : y = Str.ofString "roots"
  · subst h3; rfl
  simp only [h0, h1, h2, h3, if_false]

end
section -- K47
set_option maxHeartbeats 2000000


theorem settle_ok {w : World} {p : Program} {loose : List Str} {mean : ExcName → Option Value} {mg mb : Str → Option Value} {h₀ : Heap} {A : Around} {s : Shared} {rx rd tx td il : Addr} {er et : List DictEntry} {nr n kil kr kd : Nat} {hp sv rs cl rp kl pl nm rt sq : Value}
    (X : (Mine.myK w.params).In h₀) (T : Top p loose mean mg mb h₀) (st : h₀.StaysIn s.heap) (hroom : Room A 5)  (hrx : Live h₀ s.heap rx (instObj 1040 rd)) (hrd : Live h₀ s.heap rd (dictOf er nr)) (hrD : DA er (rdF (.ref tx) hp sv rs) kr) (hx : Live h₀ s.heap tx (instObj 915 td)) (hd : Live h₀ s.heap td (dictOf et n)) (hD : DA et (tabF cl rp (.ref il) kl pl nm rt sq) kd) (hil : Live h₀ s.heap il (W.listOf [].toArray kil)) (hne : @Ne Nat rd td) (hk2 : kd < 800) :
    Calls7 PySem.Challenge.rw_xm0772_01.row.prog w A 1025 [.ref rx] s [td] (fun v h => v = .none ∧ ∃ et' n' il', h.get? td = some (dictOf et' n') ∧ DA et' (tabF cl rp (.ref il') kl pl nm rt sq) (kd + 1)) := by
  intro R ret
  have hcalm := hroom.calm
  revert X; k_fill; intro X
  have hh0 : ∀ q ∈ ([(rx, instObj 1040 rd), (rd, dictOf er nr), (tx, instObj 915 td), (td, dictOf et n), (il, W.listOf [].toArray kil)] : List (Addr × Obj)), s.heap.get? q.1 = some q.2 ∧ h₀.get? q.1 = none := fmc hrx (fmc hrd (fmc hx (fmc hd (fmc hil (List.forall_mem_nil _)))))
  k_dflt (refine' enterC (binds := [(Str.ofString "self", .ref rx)]) _ X T st hh0 ?k6 ?k7 ?k8 ?k9 ?kB ?kD ?_ ?c2 ?c3 ?c4)
  case k6 => k_is
  case k7 => k_is
  case k8 => exact hroom.now
  case k9 => first | exact BindsTo.of_eq rfl | exact binds_K (X.keeps st) rfl (by k_is) rfl rfl rfl
  case kB => exact rfl
  case kD => decide +kernel
  case c2 => exact rfl
  case c3 => exact rfl
  case c4 => exact rfl
  intro g L' h₁ tk₁ cells' stg hz hg Xg Tg F N Y lL
  (try k_lt lL)
  k_cells Y
  rename_i c1 dc1
  (try simp only [List.cons_append, List.nil_append] at N)
  (try dsimp only)
  k_dflt (show wpAny _ (Around.deeper _ (envX _ ⟨_, _, _, _, _⟩ _ _ _ _)) (execs (_ :: _) (envX _ ⟨_, _, _, _, _⟩ _ _ _ _)) _ _ _)
  k_fold
  have hlen : ([] : List Value).length < 2 ^ 60 := by decide
  have ne_rx_td := neCls N (a := rx) (b := td) (o := instObj 1040 rd) (o' := dictOf et n) (by k_mem) (by k_mem) (by show _ ≠ _; simp)
  have ne_tx_td := neCls N (a := tx) (b := td) (o := instObj 915 td) (o' := dictOf et n) (by k_mem) (by k_mem) (by show _ ≠ _; simp)
  have ne_il_td := neCls N (a := il) (b := td) (o := W.listOf [].toArray kil) (o' := dictOf et n) (by k_mem) (by k_mem) (by show _ ≠ _; simp)
  (repeat' (first | (k_unfold; (try dsimp only)) | (k_end; wrow_close) | (with_reducible ((with_reducible show wpAny _ _ (pyIter (Value.ref _)) _ _ _); refine hold ?_)) | (with_reducible (k_here; (with_reducible show wpAny _ _ (newList _) _ _ _); k_dflt (refine' newL ?k1 ?k2 ?_ ?z; (case k1 => k_asm); (case k2 => k_asm); (case z => first | exact sz0 | exact sz1 | exact sz2 | exact sz3 | size_fits); k_whole); intro _ _ _ _ l1; (try k_lt l1); (try (revert l1; intros)); (try k_sweep))) | walk1 | (dsimp only; walk1) | (leave1; try dsimp only)))
  unfold Hold
  (rename Fr _ _ _ _ => F1); (rename News _ _ _ _ => N1)
  rename_i kt ha l1 hb
  refine forList0 (L := L') hcalm rfl (by k_mem) F1 N1 (fun h7 tk7 F7 N7 => ?_)
  clear F1 N1
  (repeat' (first | (k_unfold; (try dsimp only)) | (k_end; wrow_close) | (with_reducible ((with_reducible show wpAny _ _ (pyIter (Value.ref _)) _ _ _); refine hold ?_)) | (with_reducible ((with_reducible show wpAny _ _ (call (Value.type "range") _) _ _ _); k_here; (rename Fr _ _ _ _ => cF'); (rename News _ _ _ _ => cN'); k_dflt (first | (refine range1_rows cF' cN' ?_) | (refine range2_rows cF' cN' ?_)); clear cF' cN'; intro _ _ _ _ _ _ _ _ k'; clear k')) | (with_reducible (k_here; (with_reducible show wpAny _ _ (call (Value.builtin "len") [Value.ref _]) _ _ _); k_dflt (refine' len_own ?k1 ?k2 ?k3 ?_; (case k1 => k_asm); (case k2 => k_mem); (case k3 => assumption); k_whole))) | walk1 | (dsimp only; walk1) | (leave1; try dsimp only)))
  unfold Hold
  (rename Fr _ _ _ _ => F1); (rename News _ _ _ _ => N1); (rename IsRange _ _ _ _ _ _ _ _ => R1)
  refine forRange0 (L := L') hcalm rfl R1 (by rfl) F1 N1 (fun h8 tk8 F8 N8 => ?_)
  clear F1 N1 R1
  (repeat' (first | (k_unfold; (try dsimp only)) | (k_end; wrow_close) | (with_reducible ((with_reducible show wpAny _ _ (setAttr (Value.ref _) _ _) _ _ _); k_here; k_dflt (refine' set_sym ?F ?X ?N ?x ?U ?D ?a ?b ?c ?d ?e ?_; (case F => k_asm); (case X => k_asm); (case N => k_asm); (case x => k_mem); (case U => k_updF); (case D => assumption); (case a => k_is); (case b => k_is); (case c => k_is); (case d => k_is); (case e => first | decide | ((with_reducible refine t4 (by assumption) ?_); rfl)); k_whole); intro _ _ _ _ _ N'; (try dsimp only at N'); (try (revert N'; intros)))) | walk1 | (dsimp only; walk1) | (leave1; try dsimp only)))
  (rename Fr _ _ _ _ => F9); (rename News _ _ _ _ => N9); (rename DA _ (fun y => if y = Str.ofString "indexes" then _ else _) _ => D9)
  refine ret _ _ _ ?_ (keep_back [td] hg (fun q hq => (hh0 q hq).1) F9 N9 (by repeat' (first | exact List.forall_mem_nil _ | refine fmc (fun _ => by k_mem) ?_ | refine fmc (fun h9 => absurd (by k_mem) h9) ?_))) (grown_back hz F9)
  refine ⟨rfl, _, _, kt, (N9 (td, _) (by k_mem)).1, DA.congr D9 fun y => ?_⟩
  unfold tabF
  by_cases h0 : y = Str.ofString "indexes"
  · subst h0; rfl
  by_cases h1 : y = Str.ofString "columns"
  · subst h1; rfl
  by_cases h2 : y = Str.ofString "rowid_place"
  · subst h2; rfl
  simp only [h0, h1, h2, if_false]

end
section -- K48
set_option maxHeartbeats 2000000


theorem DefsAt.avoid {Wa : List Addr} {h₀ sh h : Heap} {dvs : List Value} {key : Option Int} (hw : ∀ a ∈ Wa, sh.get? a = none) (k : KeepBut [] sh h) (d : DefsAt [] h₀ sh dvs key) : DefsAt Wa h₀ h dvs key := fun i v hv => by
  have ne : ∀ {a : Addr} {o : Obj}, sh.get? a = some o → a ∉ Wa := fun e hm => by rw [hw _ hm] at e; cases e
  have kl : ∀ {a : Addr} {o : Obj}, Live h₀ sh a o → Live h₀ h a o := fun e => ⟨k _ _ (by simp) e.1, e.2⟩
  (refine hide fun G9 k9 => ?_; obtain ⟨x, dx, es, n, f, nt, tt, l, kk, cvs, e, h1, h2, h3, h4, h5, h6, h7, _, _, _, hc⟩ := d i v hv; refine k9 ?_; clear k9 G9)
  refine ⟨x, dx, es, n, f, nt, tt, l, kk, cvs, e, kl h1, kl h2, h3, h4, h5, h6, kl h7, ne h1.1, ne h2.1, ne h7.1, ?_⟩
  rcases hc with hc | ⟨hc, t, t1, e1, h8, _⟩
  · exact .inl hc
  · exact .inr ⟨hc, t, t1, e1, kl h8, ne h8.1⟩

theorem useMakeL {prog : Program} {w : World} {A : Around} {E : Value → Shared → Prop} {hp0 : Heap} {ge0 : Array GenState} {dr0 : Drawn} {tk0 : Nat} {os0 : OsState} {K : Frag} {h₀ g : Heap} {L : Addr} {m : Str → Option Value} {news : List (Addr × Obj)} {C fI : Addr} {args : List Value} {Q : Value → Shared → Prop} {P : Addr → Heap → Value → Heap → Prop} (F : Fr g L hp0 m) (N : News g L hp0 news) (X : K.In h₀) (st : h₀.StaysIn g) (hm : makesIn K C = true)
    (hi : findIn K (.ref C) "__init__" = some (some (.ref fI))) (hf : typeIn K (.ref fI) = some (.type "function"))
    (c : ∀ x dx (s₁ : Shared), h₀.StaysIn s₁.heap → Fr g L s₁.heap m → News g L s₁.heap ((x, instObj C dx) :: (dx, dictOf [] 0) :: news) → (∀ q ∈ news, @LT.lt Nat _ q.1 dx) → (@LT.lt Nat _ dx x) →
      Calls7 prog w (A.under (.builtin "type.__call__" ⟨.ref C :: args, []⟩)) fI (.ref x :: args) s₁ [dx] (fun v h => v = .none ∧ P dx s₁.heap v h))
    (h : ∀ x dx v h₁ h' tk', P dx h₁ v h' → h₁.get? dx = some (dictOf [] 0) → Fr g L h₁ m → News g L h₁ news → Fr g L h' m → News g L h' ((x, instObj C dx) :: news) → (∀ q ∈ news, @LT.lt Nat _ q.1 dx) → (@LT.lt Nat _ dx x) → dx ≠ L → g.get? dx = none → Q (.ref x) ⟨h', ge0, dr0, tk', os0⟩) :
    wpAny (model prog w) A (call (.ref C) args) Q E ⟨hp0, ge0, dr0, tk0, os0⟩ := by
  refine useMake (P := fun dx v h' => v = .none ∧ ∃ h₁, P dx h₁ v h' ∧ h₁.get? dx = some (dictOf [] 0) ∧ Fr g L h₁ m ∧ News g L h₁ news) F N X st hm hi hf (fun x dx s₁ F₁ N₁ lo hlt R ret => c x dx s₁ (stays_now st F₁) F₁ N₁ lo hlt R fun v h' tk' p k z => ret v h' tk' ⟨p.1, s₁.heap, p.2, (N₁ _ mem1).1, F₁, fun q hq => N₁ q (.tail _ (.tail _ hq))⟩ k z) fun x dx v h' tk' hP F' N' lo hlt hL hg => ?_
  (refine hide fun G9 k9 => ?_; obtain ⟨rfl, h₁, hp, hd, F₁, N₁⟩ := hP; refine k9 ?_; clear k9 G9)
  exact ⟨rfl, h x dx _ h₁ h' tk' hp hd F₁ N₁ F' N' lo hlt hL hg⟩
theorem not_there {sh h : Heap} {a : Addr} (k : KeepBut [] sh h) (e : h.get? a = none) : sh.get? a = none := by
  cases q : sh.get? a with
  | none => rfl
  | some o => rw [k _ _ (by simp) q] at e; cases e
theorem not_in {h : Heap} {a b : Addr} {o : Obj} (e : h.get? a = some o) (n : h.get? b = none) : @Ne Nat a b := fun q => by
  have q : a = b := q
  rw [q, n] at e; cases e

theorem from_ok {w : World} {p : Program} {loose : List Str} {mean : ExcName → Option Value} {mg mb : Str → Option Value} {h₀ : Heap} {A : Around} {s : Shared} {sx sd dl ql : Addr} {es : List DictEntry} {ns kdl kq ks : Nat} {sf : Str → Option Value} {dvs : List Value} {key : Option Int} {n1 n2 : Str} {t1 t2 : Tok}
    (X : (Mine.myK w.params).In h₀) (T : Top p loose mean mg mb h₀) (st : h₀.StaysIn s.heap) (hroom : Room A 16) (hsx : Live h₀ s.heap sx (instObj 516 sd)) (hsd : Live h₀ s.heap sd (dictOf es ns)) (hdl : Live h₀ s.heap dl (W.listOf dvs.toArray kdl)) (hql : Live h₀ s.heap ql (W.listOf [].toArray kq)) (hsD : DA es sf ks) (hs1 : sf (Str.ofString "name") = some (.str n1 t1)) (hs2 : sf (Str.ofString "text") = some (.str n2 t2)) (hsc : sf (Str.ofString "columns") = some (.ref dl)) (hsq : sf (Str.ofString "constraints") = some (.ref ql)) (hdefs : DefsAt [] h₀ s.heap dvs key) (h4 : dvs.length ≤ 4) (hkey : ∀ j, key = some j → 0 ≤ j ∧ j < dvs.length) :
    Calls7 PySem.Challenge.rw_xm0772_01.row.prog w A 1052 [.ref sx] s [] (fun v h => ∃ tx td et n kv, v = .ref tx ∧ Live h₀ h tx (instObj 915 td) ∧ Live h₀ h td (dictOf et n) ∧ getL (Str.ofString "rowid_place") et = some (some kv) ∧ KeyV kv key ∧ s.heap.get? tx = none ∧ s.heap.get? td = none) := by
  intro R ret
  have hcalm := hroom.calm
  revert X; k_fill; intro X
  have hh0 : ∀ q ∈ ([(sx, instObj 516 sd), (sd, dictOf es ns), (dl, W.listOf dvs.toArray kdl), (ql, W.listOf [].toArray kq)] : List (Addr × Obj)), s.heap.get? q.1 = some q.2 ∧ h₀.get? q.1 = none := fmc hsx (fmc hsd (fmc hdl (fmc hql (List.forall_mem_nil _))))
  k_dflt (refine' enter (binds := [(Str.ofString "statement", .ref sx), (Str.ofString "roots", .none)]) _ X T st hh0 ?k6 ?k7 ?k8 ?k9 ?kB ?_ ?c2 ?c3 ?c4 ?c5)
  case k6 => k_is
  case k7 => k_is
  case k8 => exact hroom.now
  case k9 => first | exact BindsTo.of_eq rfl | exact binds_K (X.keeps st) rfl (by k_is) rfl rfl rfl
  case kB => exact locs rfl
  case c2 => exact rfl
  case c3 => exact rfl
  case c4 => exact rfl
  case c5 => decide
  intro g L' h₁ stg hz hg Xg Tg F N
  k_dflt (show wpAny _ (Around.deeper _ (envOf _ ⟨_, _, _, _, _⟩ _ _ _)) (execs (_ :: _) (envOf _ ⟨_, _, _, _, _⟩ _ _ _)) _ _ _)
  k_fold
  have hh1 : ∀ q ∈ [(sx, instObj 516 sd), (sd, dictOf es ns), (dl, W.listOf dvs.toArray kdl), (ql, W.listOf [].toArray kq)], s.heap.get? q.1 = some q.2 := fun q hq => (hh0 q hq).1
  (repeat' (first | (k_unfold; (try dsimp only)) | (k_end; wrow_close) | (with_reducible ((with_reducible show wpAny _ _ (call (Value.ref 1040) _) _ _ _); (refine hold ?_))) | walk1 | (dsimp only; walk1) | (leave1; try dsimp only)))
  unfold Hold
  (rename Fr _ _ _ _ => F1); (rename News _ _ _ _ => N1)
  (try k_fold)
  refine useMakeL (fI := 968) (K := Mine.myK w.params) F1 N1 X stg (by k_is) (by k_is) (by k_is) (P := fun dx h₁ v h => ∃ er nr tx td et nt cl il kl pl ro nm rt sq, h.get? dx = some (dictOf er nr) ∧ DA er (rdF (.ref tx) (.bool false) (.ref sx) (.ref ro)) 20 ∧ Live h₀ h tx (instObj 915 td) ∧ Live h₀ h td (dictOf et nt) ∧ DA et (tabF (.ref cl) .none (.ref il) (.ref kl) (.ref pl) nm rt sq) 20 ∧ Live h₀ h cl (W.listOf [].toArray 0) ∧ Live h₀ h il (W.listOf [].toArray 0) ∧ Live h₀ h kl (W.listOf [].toArray 0) ∧ h₁.get? tx = none ∧ h₁.get? td = none ∧ h₁.get? cl = none ∧ h₁.get? il = none ∧ h₁.get? kl = none ∧ (@Ne Nat kl cl) ∧ (@Ne Nat il cl)) (fun x dx s₁ st₁ F₂ N₂ lo lt => maker_init X T st₁ (Room.make (n := 12) (Room.deeper (k := 13) hroom (by decide)) _ _) (Live.of stg N₂ (.head _)) (Live.of stg N₂ mem1) lt (Live.of stg N₂ (by k_mem)) (Live.of stg N₂ (by k_mem)) hsD hs1 hs2 (Nat.ne_of_lt (lo (sd, dictOf es ns) (by k_mem)))) (fun rx rd v h₁ h' tk' hP hrd0 F₂ N₂ F₃ N₃ lo lt hL hg' => ?_)
  (refine hide fun G9 k9 => ?_; obtain ⟨er, nr, tx, td, et, nt, cl, il, kl, pl, ro, nm, rt, sq, hrd, hrD, htx, htd, htD, hcl, hil, hkl, nx, nd, ncl, nil', nkl, ne1, ne2⟩ := hP; refine k9 ?_; clear k9 G9)
  clear F1 N1
  have k0 : KeepBut [] s.heap h₁ := keep_back [] hg (fun q hq => (hh0 q hq).1) F₂ N₂ (fun q hq _ => hq)
  have frd : s.heap.get? rd = none := by
    cases e : s.heap.get? rd with
    | none => rfl
    | some o =>
      by_cases q : rd ∈ adrs ([(sx, instObj 516 sd), (sd, dictOf es ns), (dl, W.listOf dvs.toArray kdl), (ql, W.listOf [].toArray kq)])
      · (refine ex1 (List.mem_map.mp q) fun p hE9 => an2 hE9 ?_; clear hE9; intro hp hq)
        exact absurd (lo p hp) (by rw [show p.1 = rd from hq]; exact Nat.lt_irrefl _)
      · rw [hg rd o e q] at hg'; cases hg'
  have ftd := not_there k0 nd
  have ftx := not_there k0 nx
  have fcl := not_there k0 ncl
  have frs := (List.forall_mem_cons (p := fun a => s.heap.get? a = none)).mpr ⟨frd, (List.forall_mem_cons (p := fun a => s.heap.get? a = none)).mpr ⟨ftd, (List.forall_mem_cons (p := fun a => s.heap.get? a = none)).mpr ⟨fcl, List.forall_mem_nil _⟩⟩⟩
  have b1 := news_add N₃ hrd ⟨hL, hg'⟩
  have b2 := news_add b1 htx.1 (free_add F₂ nx)
  have b3 := news_add b2 htd.1 (free_add F₂ nd)
  have b4 := news_add b3 hcl.1 (free_add F₂ ncl)
  have b5 := news_add b4 hil.1 (free_add F₂ nil')
  have b6 := news_add b5 hkl.1 (free_add F₂ nkl)
  clear b1 b2 b3 b4 b5 N₃
  have ne_sd_rd : @Ne Nat sd rd := Nat.ne_of_lt (lo (sd, dictOf es ns) (by k_mem))
  have ne_sd_td := not_in hsd.1 ftd
  have ne_rx_rd := neCls b6 (a := rx) (b := rd) (o := instObj 1040 rd) (o' := dictOf er nr) (by k_mem) (by k_mem) (by show _ ≠ _; simp)
  have ne_rx_td := neCls b6 (a := rx) (b := td) (o := instObj 1040 rd) (o' := dictOf et nt) (by k_mem) (by k_mem) (by show _ ≠ _; simp)
  have ne_rx_cl := neCls b6 (a := rx) (b := cl) (o := instObj 1040 rd) (o' := W.listOf [].toArray 0) (by k_mem) (by k_mem) (by show _ ≠ _; simp)
  have ne_tx_rd := neCls b6 (a := tx) (b := rd) (o := instObj 915 td) (o' := dictOf er nr) (by k_mem) (by k_mem) (by show _ ≠ _; simp)
  have ne_tx_td := neCls b6 (a := tx) (b := td) (o := instObj 915 td) (o' := dictOf et nt) (by k_mem) (by k_mem) (by show _ ≠ _; simp)
  have ne_tx_cl := neCls b6 (a := tx) (b := cl) (o := instObj 915 td) (o' := W.listOf [].toArray 0) (by k_mem) (by k_mem) (by show _ ≠ _; simp)
  have ne_sx_rd := neCls b6 (a := sx) (b := rd) (o := instObj 516 sd) (o' := dictOf er nr) (by k_mem) (by k_mem) (by show _ ≠ _; simp)
  have ne_sx_td := neCls b6 (a := sx) (b := td) (o := instObj 516 sd) (o' := dictOf et nt) (by k_mem) (by k_mem) (by show _ ≠ _; simp)
  have ne_sx_cl := neCls b6 (a := sx) (b := cl) (o := instObj 516 sd) (o' := W.listOf [].toArray 0) (by k_mem) (by k_mem) (by show _ ≠ _; simp)
  have ne_sd_cl := neCls b6 (a := sd) (b := cl) (o := dictOf es ns) (o' := W.listOf [].toArray 0) (by k_mem) (by k_mem) (by show _ ≠ _; simp)
  have ne_dl_rd := neCls b6 (a := dl) (b := rd) (o := W.listOf dvs.toArray kdl) (o' := dictOf er nr) (by k_mem) (by k_mem) (by show _ ≠ _; simp)
  have ne_dl_td := neCls b6 (a := dl) (b := td) (o := W.listOf dvs.toArray kdl) (o' := dictOf et nt) (by k_mem) (by k_mem) (by show _ ≠ _; simp)
  have ne_ql_rd := neCls b6 (a := ql) (b := rd) (o := W.listOf [].toArray kq) (o' := dictOf er nr) (by k_mem) (by k_mem) (by show _ ≠ _; simp)
  have ne_ql_td := neCls b6 (a := ql) (b := td) (o := W.listOf [].toArray kq) (o' := dictOf et nt) (by k_mem) (by k_mem) (by show _ ≠ _; simp)
  have ne_kl_rd := neCls b6 (a := kl) (b := rd) (o := W.listOf [].toArray 0) (o' := dictOf er nr) (by k_mem) (by k_mem) (by show _ ≠ _; simp)
  have ne_kl_td := neCls b6 (a := kl) (b := td) (o := W.listOf [].toArray 0) (o' := dictOf et nt) (by k_mem) (by k_mem) (by show _ ≠ _; simp)
  have ne_il_rd := neCls b6 (a := il) (b := rd) (o := W.listOf [].toArray 0) (o' := dictOf er nr) (by k_mem) (by k_mem) (by show _ ≠ _; simp)
  have ne_il_td := neCls b6 (a := il) (b := td) (o := W.listOf [].toArray 0) (o' := dictOf et nt) (by k_mem) (by k_mem) (by show _ ≠ _; simp)
  have ne_dl_cl := not_in hdl.1 fcl
  have ne_ql_cl := not_in hql.1 fcl
  have ne_rd_td : @Ne Nat rd td := not_in hrd0 nd
  clear hrd htx htd hcl hil hkl F₂ N₂
  (repeat' (first | (k_unfold; (try dsimp only)) | (k_end; wrow_close) | (with_reducible ((with_reducible show wpAny _ _ (call (Value.ref 982) _) _ _ _); (refine hold ?_))) | walk1 | (dsimp only; walk1) | (leave1; try dsimp only)))
  unfold Hold
  (rename Fr _ _ _ _ => F1); (rename News _ _ _ _ => N1)
  have defs1 := DefsAt.avoid frs (keep_back [] hg (fun q hq => (hh0 q hq).1) F1 N1 (fun q hq _ => (by repeat (first | exact hq | refine .tail _ ?_)))) hdefs
  (try k_fold)
  refine useWs (rest := [(rx, instObj 1040 rd), (tx, instObj 915 td), (sx, instObj 516 sd), (sd, dictOf es ns), (dl, W.listOf dvs.toArray kdl), (ql, W.listOf [].toArray kq), (kl, W.listOf [].toArray 0), (il, W.listOf [].toArray 0)]) F1 N1 (read_ok X T (stays_now stg F1) (Room.deeper hroom (by decide)) (Live.of stg N1 (a := rx) (o := instObj 1040 rd) (by k_mem)) (Live.of stg N1 (a := tx) (o := instObj 915 td) (by k_mem)) (Live.of stg N1 (a := sx) (o := instObj 516 sd) (by k_mem)) (Live.of stg N1 (a := sd) (o := dictOf es ns) (by k_mem)) (Live.of stg N1 (a := dl) (o := W.listOf dvs.toArray kdl) (by k_mem)) (Live.of stg N1 (a := ql) (o := W.listOf [].toArray kq) (by k_mem)) (Live.of stg N1 (a := kl) (o := W.listOf [].toArray 0) (by k_mem)) (Live.of stg N1 (a := rd) (o := dictOf er nr) (by k_mem)) (Live.of stg N1 (a := td) (o := dictOf et nt) (by k_mem)) (Live.of stg N1 (a := cl) (o := W.listOf [].toArray 0) (by k_mem)) hrD htD hsD hsc hsq ne_rd_td ne_dl_cl ne_ql_cl ne1 ne_sd_rd ne_sd_td ?dat h4 hkey (by decide) (by decide)) (fmc ⟨_, by k_mem⟩ (fmc ⟨_, by k_mem⟩ (fmc ⟨_, by k_mem⟩ (List.forall_mem_nil _)))) (fmc (by k_mem) (fmc (by k_mem) (fmc (by k_mem) (fmc (by k_mem) (fmc (by k_mem) (fmc (by k_mem) (fmc (by k_mem) (fmc (by k_mem) (List.forall_mem_nil _))))))))) (fmc (fmc (by k_ne) (fmc (by k_ne) (fmc (by k_ne) (List.forall_mem_nil _)))) (fmc (fmc (by k_ne) (fmc (by k_ne) (fmc (by k_ne) (List.forall_mem_nil _)))) (fmc (fmc (by k_ne) (fmc (by k_ne) (fmc (by k_ne) (List.forall_mem_nil _)))) (fmc (fmc (by k_ne) (fmc (by k_ne) (fmc (by k_ne) (List.forall_mem_nil _)))) (fmc (fmc (by k_ne) (fmc (by k_ne) (fmc (by k_ne) (List.forall_mem_nil _)))) (fmc (fmc (by k_ne) (fmc (by k_ne) (fmc (by k_ne) (List.forall_mem_nil _)))) (fmc (fmc (by k_ne) (fmc (by k_ne) (fmc (by k_ne) (List.forall_mem_nil _)))) (fmc (fmc (by k_ne) (fmc (by k_ne) (fmc (by k_ne) (List.forall_mem_nil _)))) (List.forall_mem_nil _))))))))) (fun v2 h2 tk2 hP2 F4 N4 hW => ?_)
  case dat => exact defs1
  (refine hide fun G9 k9 => ?_; obtain ⟨rfl, er', nr', kr', et', n', kd', pv', rp', hp', hrd2, htd2, hrD2, htD2, hkv, hkr, hkd⟩ := hP2; refine k9 ?_; clear k9 G9)
  have c1 := news_add N4 hrd2 (hW rd (.head _))
  have c2 := news_add c1 htd2 (hW td mem1)
  clear c1 N4 F1 N1 hrD htD hW
  (repeat' (first | (k_unfold; (try dsimp only)) | (k_end; wrow_close) | (with_reducible ((with_reducible show wpAny _ _ (call (Value.ref 1025) _) _ _ _); (refine hold ?_))) | walk1 | (dsimp only; walk1) | (leave1; try dsimp only)))
  unfold Hold
  (rename Fr _ _ _ _ => F1); (rename News _ _ _ _ => N1)
  (try k_fold)
  refine useWs (rest := [(rd, dictOf er' nr'), (rx, instObj 1040 rd), (tx, instObj 915 td), (sx, instObj 516 sd), (sd, dictOf es ns), (dl, W.listOf dvs.toArray kdl), (ql, W.listOf [].toArray kq), (kl, W.listOf [].toArray 0), (il, W.listOf [].toArray 0)]) F1 N1 (settle_ok X T (stays_now stg F1) (Room.deeper hroom (by decide)) (Live.of stg N1 (a := rx) (o := instObj 1040 rd) (by k_mem)) (Live.of stg N1 (a := rd) (o := dictOf er' nr') (by k_mem)) hrD2 (Live.of stg N1 (a := tx) (o := instObj 915 td) (by k_mem)) (Live.of stg N1 (a := td) (o := dictOf et' n') (by k_mem)) htD2 (Live.of stg N1 (a := il) (o := W.listOf [].toArray 0) (by k_mem)) ne_rd_td (by ((with_reducible refine t3 (by assumption) ?_); rfl))) (fmc ⟨_, by k_mem⟩ (List.forall_mem_nil _)) (fmc (by k_mem) (fmc (by k_mem) (fmc (by k_mem) (fmc (by k_mem) (fmc (by k_mem) (fmc (by k_mem) (fmc (by k_mem) (fmc (by k_mem) (fmc (by k_mem) (List.forall_mem_nil _)))))))))) (fmc (fmc (by k_ne) (List.forall_mem_nil _)) (fmc (fmc (by k_ne) (List.forall_mem_nil _)) (fmc (fmc (by k_ne) (List.forall_mem_nil _)) (fmc (fmc (by k_ne) (List.forall_mem_nil _)) (fmc (fmc (by k_ne) (List.forall_mem_nil _)) (fmc (fmc (by k_ne) (List.forall_mem_nil _)) (fmc (fmc (by k_ne) (List.forall_mem_nil _)) (fmc (fmc (by k_ne) (List.forall_mem_nil _)) (fmc (fmc (by k_ne) (List.forall_mem_nil _)) (List.forall_mem_nil _)))))))))) (fun v3 h3 tk3 hP3 F5 N5 hW => ?_)
  (refine hide fun G9 k9 => ?_; obtain ⟨rfl, et3, n3, il3, htd3, htD3⟩ := hP3; refine k9 ?_; clear k9 G9)
  have c3 := news_add N5 htd3 (hW td (.head _))
  clear N5 F1 N1 hrD2 htD2 hW
  k_steps
  (rename Fr _ _ _ _ => F9); (rename News _ _ _ _ => N9)
  refine ret _ _ _ ?_ (keep_back [] hg (fun q hq => (hh0 q hq).1) F9 N9 (by repeat' (first | exact List.forall_mem_nil _ | refine fmc (fun _ => by k_mem) ?_ | refine fmc (fun h9 => absurd (by k_mem) h9) ?_))) (grown_back hz F9)
  exact ⟨tx, td, et3, n3, rp', rfl, Live.of stg N9 (by k_mem), Live.of stg N9 (by k_mem), DA.at htD3 rfl, hkv, ftx, ftd⟩

end
section -- K49
set_option maxHeartbeats 2000000

local macro_rules | `(tactic| k_all) => `(tactic| assumption)
theorem small4 {vs : List Value} (h : vs.length ≤ 4) : vs.toArray.size ≤ sizeLine := Nat.le_trans (by simpa using h) (by decide)
/-- the definitions made so far, objects of the ledger D -/
def DefsL (D : List (Addr × Obj)) (dvs : List Value) (key : Option Int) : Prop := ∀ (i : Nat) (v : Value), dvs[i]? = some v → ∃ x dx es n f nt tt l k cvs, v = .ref x ∧ (x, instObj 490 dx) ∈ D ∧ (dx, dictOf es n) ∈ D ∧ DA es f 20 ∧
  f (Str.ofString "name") = some (.str (abc i) nt) ∧ f (Str.ofString "type_name") = some (.str INT tt) ∧ f (Str.ofString "constraints") = some (.ref l) ∧ (l, W.listOf (List.toArray cvs) k) ∈ D ∧
  ((key ≠ some (i : Int) ∧ cvs = []) ∨ (key = some (i : Int) ∧ ∃ t t1, cvs = [Value.ref t] ∧ (t, tup2 (.str (Str.ofString "primary key") t1) (.bool false)) ∈ D))
theorem abcd_item {i : Nat} (h : i < 4) : Txt.item (Str.ofString "abcd") (0 + (i : Int)) = abc i := by
  have : i = 0 ∨ i = 1 ∨ i = 2 ∨ i = 3 := by (with_reducible exact s13 (by assumption))
  rcases this with rfl | rfl | rfl | rfl <;> decide +kernel
theorem DefsL.snoc {D D' : List (Addr × Obj)} {dvs : List Value} {key : Option Int} {x dx l : Addr} {es : List DictEntry} {n k : Nat} {f : Str → Option Value} {cvs : List Value} {nt tt : Tok} {nm : Str} (d : DefsL D dvs key) (sub : ∀ q ∈ D, q ∈ D') (hx : (x, instObj 490 dx) ∈ D') (hdx : (dx, dictOf es n) ∈ D') (hD : DA es f 20)
    (h1 : f (Str.ofString "name") = some (.str nm nt)) (hn : nm = abc dvs.length) (h2 : f (Str.ofString "type_name") = some (.str (Str.ofString "INTEGER") tt)) (h3 : f (Str.ofString "constraints") = some (.ref l)) (hl : (l, W.listOf (List.toArray cvs) k) ∈ D')
    (hc : (key ≠ some (dvs.length : Int) ∧ cvs = []) ∨ (key = some (dvs.length : Int) ∧ ∃ t t1, cvs = [Value.ref t] ∧ (t, tup2 (.str (Str.ofString "primary key") t1) (.bool false)) ∈ D')) : DefsL D' (dvs ++ [.ref x]) key := fun i v hv => by
  subst hn
  by_cases hi : i < dvs.length
  · rw [List.getElem?_append_left hi] at hv
    (refine hide fun G9 k9 => ?_; obtain ⟨y, dy, e, m, g, nt', tt', l', k', c', a1, a2, a3, a4, a5, a6, a7, a8, a9⟩ := d i v hv; refine k9 ?_; clear k9 G9)
    refine ⟨y, dy, e, m, g, nt', tt', l', k', c', a1, sub _ a2, sub _ a3, a4, a5, a6, a7, sub _ a8, ?_⟩
    rcases a9 with a9 | ⟨a9, t, t1, b1, b2⟩
    · exact .inl a9
    · exact .inr ⟨a9, t, t1, b1, sub _ b2⟩
  · have hv0 : i < (dvs ++ [Value.ref x]).length := (List.getElem?_eq_some_iff.mp hv).1
    rw [List.length_append, List.length_singleton] at hv0
    have e : i = dvs.length := by omega
    subst e
    rw [List.getElem?_append_right (Nat.le_refl _), Nat.sub_self] at hv
    cases hv
    exact ⟨x, dx, es, n, f, nt, tt, l, k, cvs, rfl, hx, hdx, hD, h1, h2, h3, hl, hc⟩
theorem DefsL.at {h₀ g h : Heap} {L : Addr} {D all : List (Addr × Obj)} {dvs : List Value} {key : Option Int} (st : h₀.StaysIn g) (N : News g L h all) (sub : ∀ q ∈ D, q ∈ all) (d : DefsL D dvs key) : DefsAt [] h₀ h dvs key := fun i v hv => by
  (refine hide fun G9 k9 => ?_; obtain ⟨y, dy, e, m, f, nt', tt', l', k', c', a1, a2, a3, a4, a5, a6, a7, a8, a9⟩ := d i v hv; refine k9 ?_; clear k9 G9)
  refine ⟨y, dy, e, m, f, nt', tt', l', k', c', a1, Live.of st N (sub _ a2), Live.of st N (sub _ a3), a4, a5, a6, a7, Live.of st N (sub _ a8), by simp, by simp, by simp, ?_⟩
  rcases a9 with a9 | ⟨a9, t, t1, b1, b2⟩
  · exact .inl a9
  · exact .inr ⟨a9, t, t1, b1, Live.of st N (sub _ b2), by simp⟩
def lawMap (many key cols : Value) (m0 : Str → Option Value) : Str → Option Value := fun y => if y = Str.ofString "many" then some many else if y = Str.ofString "key" then some key else if y = Str.ofString "columns" then some cols else m0 y

theorem table_ok {w : World} {p : Program} {loose : List Str} {mean : ExcName → Option Value} {mg mb : Str → Option Value} {h₀ : Heap} {A : Around} {s : Shared} {mn : Int} {tm : Tok} {kvv : Value} {key : Option Int}
    (X : (Mine.myK w.params).In h₀) (T : Top p loose mean mg mb h₀) (st : h₀.StaysIn s.heap) (hroom : Room A 20) (hm1 : 1 ≤ mn) (hm4 : mn ≤ 4) (hkv : KeyV kvv key) (hkey : ∀ j, key = some j → 0 ≤ j ∧ j < mn) :
    Calls7 PySem.Challenge.rw_xm0772_01.row.prog w A 1080 [.int mn tm, kvv] s [] (fun v h => ∃ tx td et n kv, v = .ref tx ∧ Live h₀ h tx (instObj 915 td) ∧ Live h₀ h td (dictOf et n) ∧ getL (Str.ofString "rowid_place") et = some (some kv) ∧ KeyV kv key ∧ s.heap.get? tx = none ∧ s.heap.get? td = none) := by
  intro R ret
  have hcalm := hroom.calm
  revert X; k_fill; intro X
  have hh0 : ∀ q ∈ ([] : List (Addr × Obj)), s.heap.get? q.1 = some q.2 ∧ h₀.get? q.1 = none := List.forall_mem_nil _
  k_dflt (refine' enter (binds := [(Str.ofString "many", .int mn tm), (Str.ofString "key", kvv)]) _ X T st hh0 ?k6 ?k7 ?k8 ?k9 ?kB ?_ ?c2 ?c3 ?c4 ?c5)
  case k6 => k_is
  case k7 => k_is
  case k8 => exact hroom.now
  case k9 => first | exact BindsTo.of_eq rfl | exact binds_K (X.keeps st) rfl (by k_is) rfl rfl rfl
  case kB => exact locs rfl
  case c2 => exact rfl
  case c3 => exact rfl
  case c4 => exact rfl
  case c5 => decide
  intro g L' h₁ stg hz hg Xg Tg F N
  k_dflt (show wpAny _ (Around.deeper _ (envOf _ ⟨_, _, _, _, _⟩ _ _ _)) (execs (_ :: _) (envOf _ ⟨_, _, _, _, _⟩ _ _ _)) _ _ _)
  k_fold
  (repeat' (first | (k_unfold; (try dsimp only)) | (k_end; wrow_close) | (with_reducible ((with_reducible show wpAny _ _ (pyIter (Value.ref _)) _ _ _); refine hold ?_)) | (with_reducible ((with_reducible show wpAny _ _ (call (Value.type "range") _) _ _ _); k_here; (rename Fr _ _ _ _ => cF'); (rename News _ _ _ _ => cN'); k_dflt (first | (refine range1_rows cF' cN' ?_) | (refine range2_rows cF' cN' ?_)); clear cF' cN'; intro _ _ _ _ _ _ _ _ k'; clear k')) | (with_reducible (k_here; (with_reducible show wpAny _ _ (newList _) _ _ _); k_dflt (refine' newL ?k1 ?k2 ?_ ?z; (case k1 => k_asm); (case k2 => k_asm); (case z => first | exact sz0 | exact sz1 | exact sz2 | exact sz3 | size_fits); k_whole); intro _ _ _ _ l1; (try k_lt l1); (try (revert l1; intros)); (try k_sweep))) | walk1 | (dsimp only; walk1) | (leave1; try dsimp only)))
  unfold Hold
  (rename Fr _ _ _ _ => F1); (rename News _ _ _ _ => N1); (rename IsRange _ _ _ _ _ _ _ _ => R1)
  rename_i cl hb9 tr9 ha9 hr9 tk9 b1 b2 b3
  refine forRange (L := L') mn.toNat (fun i m news => ∃ (dvs : List Value) (cn : Nat) (D : List (Addr × Obj)) (m0 : Str → Option Value), news = (cl, W.listOf dvs.toArray cn) :: D ∧ (∀ p ∈ D, @Ne Nat p.1 cl) ∧ dvs.length = i ∧ DefsL D dvs key ∧ ∀ y, m y = lawMap (.int mn tm) kvv (.ref cl) m0 y) hcalm rfl R1 (by decide) (by ((with_reducible refine i1 (by assumption) ?_); rfl)) (by (with_reducible exact s7 (by assumption))) F1 N1 ⟨[], 0, [], fun _ => none, rfl, List.forall_mem_nil _, rfl, fun i v hv => by simp at hv, fun y => ?m1⟩ ?step2 ?fin2
  case m1 =>
    unfold lawMap
    by_cases h0 : y = Str.ofString "many"
    · subst h0; rfl
    by_cases h1 : y = Str.ofString "key"
    · subst h1; rfl
    by_cases h2 : y = Str.ofString "columns"
    · subst h2; rfl
    simp only [h0, h1, h2, if_false]
    have e0 : (y == Str.ofString "many") = false := by simpa using h0
    have e1 : (y == Str.ofString "key") = false := by simpa using h1
    simp only [List.reverse_cons, List.reverse_nil, List.nil_append, List.cons_append, List.lookup_cons, List.lookup_nil, e0, e1]

  case step2 =>
    clear F1 N1 R1
    intro i t0 m news I o h tk hi hJ9 off F4 N4
    (try k_fold)
    (refine ex4 (hJ9) fun dvs cn D m0 hE9 => an5 hE9 ?_; clear hE9; rintro rfl hoD hlen hDL hm; (try clear hJ9))
    have F5 : Fr g L' h (fun z => if z = Str.ofString "at" then some (.int (0 + (i : Int)) t0) else lawMap (.int mn tm) kvv (.ref cl) m0 z) := fr_eq F4 fun y => by simp only [hm]
    clear F4 hm
    unfold lawMap at F5
    have hi4 : i < 4 := by (with_reducible exact s87 (by assumption) (by assumption))
    have hl4 : dvs.length ≤ 4 := by ((with_reducible refine q2 (by assumption) (by assumption) ?_); rfl)
    have hIc : @Ne Nat I cl := Ne.symm (off (cl, _) (.head _))
    cases hkv with
    | none =>
      (repeat' (first | (k_unfold; (try dsimp only)) | (k_end; wrow_close) | (with_reducible (k_here; (with_reducible show wpAny _ _ (call (Value.ref 490) _) _ _ _); (rename Fr _ _ _ _ => cF'); (rename News _ _ _ _ => cN'); k_dflt (refine' useMk (fI := 480) cF' cN' ?X ?st ?hm ?hi ?hf (fun x9 dx9 s9 st9 hx9 hd9 lt9 => coldef_init ?X2 ?T st9 (Room.make (n := 5) ?room _ _) hx9 hd9 lt9 ) ?_); (case st => assumption); (case X2 => assumption); (case X => assumption); (case T => assumption); (case hm => k_is); (case hi => k_is); (case hf => k_is); (case room => exact Room.deeper (k := 6) (by assumption) (by decide)); (intro _ _ _ _ _ _ _ _ _ _ _ lo' _); (try k_lt lo'); (try (revert lo'; intros)); (try clear cF' cN'))) | (with_reducible (k_here; (with_reducible show wpAny _ _ (call (Value.builtin "list.append") [Value.ref _, _]) _ _ _); k_dflt (refine' appL ?k1 ?k2 ?k3 ?_ ?z; (case k1 => k_asm); (case k2 => k_asm); (case k3 => k_upd); (case z => first | exact sz0 | size_fits); k_whole); intro _ _ _; (try k_sweep))) | (with_reducible (k_here; (with_reducible show wpAny _ _ (newList _) _ _ _); k_dflt (refine' newL ?k1 ?k2 ?_ ?z; (case k1 => k_asm); (case k2 => k_asm); (case z => first | exact sz0 | exact sz1 | exact sz2 | exact sz3 | size_fits); k_whole); intro _ _ _ _ l1; (try k_lt l1); (try (revert l1; intros)); (try k_sweep))) | walk1 | (dsimp only; walk1) | (leave1; try dsimp only)))
      rename_i l9 h7 l19 x9 dx9 es9 n9 f9 h8 tk8 D9 p9 lt9 lo9 h9 F9 N9
      rw [List.push_toArray] at N9
      have e9 := DefsL.snoc (D' := (x9, instObj 490 dx9) :: (dx9, dictOf es9 n9) :: (l9, W.listOf [].toArray 0) :: D) (cvs := []) (k := 0) hDL (fun q hq => by repeat (first | exact hq | refine .tail _ ?_)) (by k_mem) (by k_mem) D9 p9.1 (by rw [hlen]; exact abcd_item hi4) p9.2.1 p9.2.2 (by k_mem) (.inl ⟨by simp, rfl⟩)
      refine TurnedF.intro F9 N9 ((cl, W.listOf (dvs ++ [Value.ref x9]).toArray (cn + 1)) :: (x9, instObj 490 dx9) :: (dx9, dictOf es9 n9) :: (l9, W.listOf [].toArray 0) :: D) (lawMap (.int mn tm) _ (.ref cl) (fun y => if y = Str.ofString "at" then some (.int (0 + (i : Int)) t0) else m0 y)) (fmc (by k_mem) (fmc (by k_mem) (fmc (by k_mem) (fmc (by k_mem) (fmc (by k_mem) (fun q hq => by repeat (first | exact hq | refine .tail _ ?_))))))) (fmc (by k_ne) (fmc (by k_ne) (fmc (by k_ne) (fmc (by k_ne) (fun q hq => off q (.tail _ hq)))))) (fun y => ?_) ⟨_, _, _, _, rfl, (fmc (by k_ne) (fmc (by k_ne) (fmc (by k_ne) hoD))), by rw [List.length_append, List.length_singleton, hlen], e9, fun y => rfl⟩
      unfold lawMap
      by_cases h0 : y = Str.ofString "at"
      · subst h0; rfl
      by_cases h1 : y = Str.ofString "many"
      · subst h1; rfl
      by_cases h2 : y = Str.ofString "key"
      · subst h2; rfl
      by_cases h3 : y = Str.ofString "columns"
      · subst h3; rfl
      simp only [h0, h1, h2, h3, if_false]
    | int j tj =>
      (repeat' (first | (k_unfold; (try dsimp only)) | (k_end; wrow_close) | (with_reducible (k_here; (with_reducible show wpAny _ _ (call (Value.ref 490) _) _ _ _); (rename Fr _ _ _ _ => cF'); (rename News _ _ _ _ => cN'); k_dflt (refine' useMk (fI := 480) cF' cN' ?X ?st ?hm ?hi ?hf (fun x9 dx9 s9 st9 hx9 hd9 lt9 => coldef_init ?X2 ?T st9 (Room.make (n := 5) ?room _ _) hx9 hd9 lt9 ) ?_); (case st => assumption); (case X2 => assumption); (case X => assumption); (case T => assumption); (case hm => k_is); (case hi => k_is); (case hf => k_is); (case room => exact Room.deeper (k := 6) (by assumption) (by decide)); (intro _ _ _ _ _ _ _ _ _ _ _ lo' _); (try k_lt lo'); (try (revert lo'; intros)); (try clear cF' cN'))) | (with_reducible (k_here; (with_reducible show wpAny _ _ (call (Value.builtin "list.append") [Value.ref _, _]) _ _ _); k_dflt (refine' appL ?k1 ?k2 ?k3 ?_ ?z; (case k1 => k_asm); (case k2 => k_asm); (case k3 => k_upd); (case z => first | exact sz0 | size_fits); k_whole); intro _ _ _; (try k_sweep))) | (with_reducible (k_here; (with_reducible show wpAny _ _ (newTuple _) _ _ _); kup_bare; k_dflt (refine' newT ?F ?N ?_ ?z; (case F => k_asm); (case N => k_asm); (case z => first | exact sz0 | exact sz1 | exact sz2 | exact sz3 | kmk_size)); intro _ _ _ _ l1; (try k_lt l1); (try (revert l1; intros)); (try k_sweep))) | (with_reducible (k_here; (with_reducible show wpAny _ _ (newList _) _ _ _); k_dflt (refine' newL ?k1 ?k2 ?_ ?z; (case k1 => k_asm); (case k2 => k_asm); (case z => first | exact sz0 | exact sz1 | exact sz2 | exact sz3 | size_fits); k_whole); intro _ _ _ _ l1; (try k_lt l1); (try (revert l1; intros)); (try k_sweep))) | walk1 | (dsimp only; walk1) | (leave1; try dsimp only)))
      · rename_i t9 h6 l18 l9 h7 l19 x9 dx9 es9 n9 f9 h8 tk8 D9 p9 lt9 lo9 h9 F9 N9
        rw [List.push_toArray] at N9
        refine hide fun G9 k9 => ?_
        obtain ⟨u9, N10⟩ : ∃ u9, News g L' h9 ((x9, instObj 490 dx9) :: (dx9, dictOf es9 n9) :: (l9, W.listOf [Value.ref t9].toArray 0) :: (t9, tup2 (.str (Str.ofString "primary key") u9) (.bool false)) :: (I, o) :: (cl, W.listOf (dvs ++ [Value.ref x9]).toArray (cn + 1)) :: D) := ⟨_, N9⟩
        refine k9 ?_
        clear k9 G9
        clear N9
        have N9 := N10
        have e9 := DefsL.snoc (D' := (x9, instObj 490 dx9) :: (dx9, dictOf es9 n9) :: (l9, W.listOf [Value.ref t9].toArray 0) :: (t9, tup2 (.str (Str.ofString "primary key") u9) (.bool false)) :: D) (cvs := [Value.ref t9]) (k := 0) hDL (fun q hq => by repeat (first | exact hq | refine .tail _ ?_)) (by k_mem) (by k_mem) D9 p9.1 (by rw [hlen]; exact abcd_item hi4) p9.2.1 p9.2.2 (by k_mem) (.inr ⟨by rw [hlen]; congr 1; (with_reducible exact s78 (by assumption)), _, _, rfl, by k_mem⟩)
        refine TurnedF.intro F9 N9 ((cl, W.listOf (dvs ++ [Value.ref x9]).toArray (cn + 1)) :: (x9, instObj 490 dx9) :: (dx9, dictOf es9 n9) :: (l9, W.listOf [Value.ref t9].toArray 0) :: (t9, tup2 (.str (Str.ofString "primary key") u9) (.bool false)) :: D) (lawMap (.int mn tm) _ (.ref cl) (fun y => if y = Str.ofString "at" then some (.int (0 + (i : Int)) t0) else m0 y)) (fmc (by k_mem) (fmc (by k_mem) (fmc (by k_mem) (fmc (by k_mem) (fmc (by k_mem) (fmc (by k_mem) (fun q hq => by repeat (first | exact hq | refine .tail _ ?_)))))))) (fmc (by k_ne) (fmc (by k_ne) (fmc (by k_ne) (fmc (by k_ne) (fmc (by k_ne) (fun q hq => off q (.tail _ hq))))))) (fun y => ?_) ⟨_, _, _, _, rfl, (fmc (by k_ne) (fmc (by k_ne) (fmc (by k_ne) (fmc (by k_ne) hoD)))), by rw [List.length_append, List.length_singleton, hlen], e9, fun y => rfl⟩
        unfold lawMap
        by_cases h0 : y = Str.ofString "at"
        · subst h0; rfl
        by_cases h1 : y = Str.ofString "many"
        · subst h1; rfl
        by_cases h2 : y = Str.ofString "key"
        · subst h2; rfl
        by_cases h3 : y = Str.ofString "columns"
        · subst h3; rfl
        simp only [h0, h1, h2, h3, if_false]
      · rename_i l9 h7 l19 x9 dx9 es9 n9 f9 h8 tk8 D9 p9 lt9 lo9 h9 F9 N9
        rw [List.push_toArray] at N9
        have e9 := DefsL.snoc (D' := (x9, instObj 490 dx9) :: (dx9, dictOf es9 n9) :: (l9, W.listOf [].toArray 0) :: D) (cvs := []) (k := 0) hDL (fun q hq => by repeat (first | exact hq | refine .tail _ ?_)) (by k_mem) (by k_mem) D9 p9.1 (by rw [hlen]; exact abcd_item hi4) p9.2.1 p9.2.2 (by k_mem) (.inl ⟨fun e => by rw [hlen] at e; injection e with e; omega, rfl⟩)
        refine TurnedF.intro F9 N9 ((cl, W.listOf (dvs ++ [Value.ref x9]).toArray (cn + 1)) :: (x9, instObj 490 dx9) :: (dx9, dictOf es9 n9) :: (l9, W.listOf [].toArray 0) :: D) (lawMap (.int mn tm) _ (.ref cl) (fun y => if y = Str.ofString "at" then some (.int (0 + (i : Int)) t0) else m0 y)) (fmc (by k_mem) (fmc (by k_mem) (fmc (by k_mem) (fmc (by k_mem) (fmc (by k_mem) (fun q hq => by repeat (first | exact hq | refine .tail _ ?_))))))) (fmc (by k_ne) (fmc (by k_ne) (fmc (by k_ne) (fmc (by k_ne) (fun q hq => off q (.tail _ hq)))))) (fun y => ?_) ⟨_, _, _, _, rfl, (fmc (by k_ne) (fmc (by k_ne) (fmc (by k_ne) hoD))), by rw [List.length_append, List.length_singleton, hlen], e9, fun y => rfl⟩
        unfold lawMap
        by_cases h0 : y = Str.ofString "at"
        · subst h0; rfl
        by_cases h1 : y = Str.ofString "many"
        · subst h1; rfl
        by_cases h2 : y = Str.ofString "key"
        · subst h2; rfl
        by_cases h3 : y = Str.ofString "columns"
        · subst h3; rfl
        simp only [h0, h1, h2, h3, if_false]
  case fin2 =>
    clear F1 N1 R1
    intro h tk m news hJ9p4 F4 N4
    refine hide fun G9 k9 => ?_
    obtain ⟨dvs, cn, D, m0, rfl, hoD, hlen, hDL, hm⟩ := hJ9p4
    refine k9 ?_
    clear k9 G9
    have F5 := fr_eq F4 hm
    clear F4 hm
    unfold lawMap at F5
    (repeat' (first | (k_unfold; (try dsimp only)) | (k_end; wrow_close) | (with_reducible ((with_reducible show wpAny _ _ (call (Value.ref 1052) _) _ _ _); (refine hold ?_))) | (with_reducible (k_here; (with_reducible show wpAny _ _ (call (Value.ref 516) _) _ _ _); (rename Fr _ _ _ _ => cF'); (rename News _ _ _ _ => cN'); k_dflt (refine' useMk (fI := 506) cF' cN' ?X ?st ?hm ?hi ?hf (fun x9 dx9 s9 st9 hx9 hd9 lt9 => create_init ?X2 ?T st9 (Room.make (n := 5) ?room _ _) hx9 hd9 lt9 ) ?_); (case st => assumption); (case X2 => assumption); (case X => assumption); (case T => assumption); (case hm => k_is); (case hi => k_is); (case hf => k_is); (case room => exact Room.deeper (k := 6) (by assumption) (by decide)); (intro _ _ _ _ _ _ _ _ _ _ _ lo' _); (try k_lt lo'); (try (revert lo'; intros)); (try clear cF' cN'))) | (with_reducible (k_here; (with_reducible show wpAny _ _ (newList _) _ _ _); k_dflt (refine' newL ?k1 ?k2 ?_ ?z; (case k1 => k_asm); (case k2 => k_asm); (case z => first | exact sz0 | exact sz1 | exact sz2 | exact sz3 | size_fits); k_whole); intro _ _ _ _ l1; (try k_lt l1); (try (revert l1; intros)); (try k_sweep))) | walk1 | (dsimp only; walk1) | (leave1; try dsimp only)))
    unfold Hold
    rename_i ql h7 l19 x9 dx9 es9 n9 f9 h8 tk8 D9 p9 F9 N9 lt9 lo9
    (refine an4 (p9) ?_; intro q1 q2 q3 q4; (try clear p9))
    have z1 := Live.of stg N9 (a := x9) (o := instObj 516 dx9) (by k_mem)
    have z2 := Live.of stg N9 (a := dx9) (o := dictOf es9 n9) (by k_mem)
    have z3 := Live.of stg N9 (a := cl) (o := W.listOf dvs.toArray cn) (by k_mem)
    have z4 := Live.of stg N9 (a := ql) (o := W.listOf [].toArray 0) (by k_mem)
    have z5 := DefsL.at (D := D) stg N9 (fun q hq => .tail _ (.tail _ (.tail _ (.tail _ hq)))) hDL
    have hk9 : ∀ j, key = some j → 0 ≤ j ∧ j < dvs.length := fun j hj => ⟨(hkey j hj).1, by have h0 := (hkey j hj).2; rw [hlen]; (with_reducible exact s102 (by assumption))⟩
    (try k_fold)
    refine use7p F9 N9 (from_ok X T (stays_now stg F9) (Room.deeper hroom (by decide)) z1 z2 z3 z4 D9 q1 q4 q2 q3 z5 (by ((with_reducible refine q5 (by assumption) (by assumption) ?_); rfl)) hk9) (fun v8 h9 tk9 p8 F8 N8 => ?_)
    (refine ex5 (p8) fun tx td et n kv hE9 => an7 hE9 ?_; clear hE9; rintro rfl a1 a2 a3 a4 a5 a6; (try clear p8))
    have kb := keep_back [] hg (fun q hq => (hh0 q hq).1) F9 N9 (by repeat' (first | exact List.forall_mem_nil _ | refine fmc (fun _ => by k_mem) ?_ | refine fmc (fun h9 => absurd (by k_mem) h9) ?_))
    refine ret _ _ _ ⟨tx, td, et, n, kv, rfl, a1, a2, a3, a4, not_there kb a5, not_there kb a6⟩ (keep_back [] hg (fun q hq => (hh0 q hq).1) F8 N8 (by repeat' (first | exact List.forall_mem_nil _ | refine fmc (fun _ => by k_mem) ?_ | refine fmc (fun h9 => absurd (by k_mem) h9) ?_))) (grown_back hz F8)

theorem table_el {prog : Program} {w : World} {A : Around} {E : Value → Shared → Prop} {hp0 : Heap} {ge0 : Array GenState} {dr0 : Drawn} {tk0 : Nat} {os0 : OsState} {f : Addr} {args : List Value} {Q : Value → Shared → Prop} {g : Heap} {L : Addr} {m : Str → Option Value} {news : List (Addr × Obj)} {h₀ : Heap} {key : Option Int}
    (F : Fr g L hp0 m) (N : News g L hp0 news) (c : Calls7 prog w A f args ⟨hp0, ge0, dr0, tk0, os0⟩ [] (fun v h => ∃ (tx : Addr) (td : Addr) (et : List DictEntry) (n : Nat) (kv : Value), v = .ref tx ∧ (Live h₀ h tx (instObj 915 td)) ∧ (Live h₀ h td (dictOf et n)) ∧ (getL (Str.ofString "rowid_place") et = some (some kv)) ∧ (KeyV kv key) ∧ (hp0.get? tx = none) ∧ (hp0.get? td = none)))
    (k : ∀ (tx : Addr) (td : Addr) (et : List DictEntry) (n : Nat) (kv : Value) (h' : Heap) (tk' : Nat), (Live h₀ h' tx (instObj 915 td)) → (Live h₀ h' td (dictOf et n)) → (getL (Str.ofString "rowid_place") et = some (some kv)) → (KeyV kv key) → (hp0.get? tx = none) → (hp0.get? td = none) → Fr g L h' m → News g L h' news → Q (.ref tx) ⟨h', ge0, dr0, tk', os0⟩) : wpAny (model prog w) A (call (.ref f) args) Q E ⟨hp0, ge0, dr0, tk0, os0⟩ :=
  use7p F N c fun v h' tk' p' F' N' => by
    (refine ex5 (p') fun tx td et n kv hE9 => an7 hE9 ?_; clear hE9; rintro rfl a0 a1 a2 a3 a4 a5; (try clear p'))
    exact k tx td et n kv h' tk' a0 a1 a2 a3 a4 a5 F' N'

end
section -- K3
set_option maxHeartbeats 2000000


theorem put_varint_ok {w : World} {p : Program} {loose : List Str} {mean : ExcName → Option Value} {mg mb : Str → Option Value} {h₀ : Heap} {A : Around} {s : Shared} {n : Int} {nt : Tok}
    (X : (Mine.myK w.params).In h₀) (T : Top p loose mean mg mb h₀) (st : h₀.StaysIn s.heap) (hroom : Room A 5) (hn : 0 ≤ n) (hn2 : n < 128) :
    Calls7 PySem.Challenge.rw_xm0772_01.row.prog w A 631 [.int n nt] s [] (fun v _ => ∃ t, v = .bytes (byteArr [n]) t) := by
  intro R ret
  have hcalm := hroom.calm
  revert X; k_fill; intro X
  have hh0 : ∀ q ∈ ([] : List (Addr × Obj)), s.heap.get? q.1 = some q.2 ∧ h₀.get? q.1 = none := List.forall_mem_nil _
  k_dflt (refine' enter (binds := [(Str.ofString "n", .int n nt)]) _ X T st hh0 ?k6 ?k7 ?k8 ?k9 ?kB ?_ ?c2 ?c3 ?c4 ?c5)
  case k6 => k_is
  case k7 => k_is
  case k8 => exact hroom.now
  case k9 => first | exact BindsTo.of_eq rfl | exact binds_K (X.keeps st) rfl (by k_is) rfl rfl rfl
  case kB => exact locs rfl
  case c2 => exact rfl
  case c3 => exact rfl
  case c4 => exact rfl
  case c5 => decide
  intro g L' h₁ stg hz hg Xg Tg F N
  k_dflt (show wpAny _ (Around.deeper _ (envOf _ ⟨_, _, _, _, _⟩ _ _ _)) (execs (_ :: _) (envOf _ ⟨_, _, _, _, _⟩ _ _ _)) _ _ _)
  k_fold
  (repeat' (first | (k_unfold; (try dsimp only)) | (k_end; wrow_close) | (with_reducible ((with_reducible show wpAny _ _ (inplaceOp Operator.RShift (Value.int _ _) (Value.int _ _)) _ _ _); k_dflt (refine irshift_small (by decide) (by (with_reducible assumption)) (by show _ < (2 : Int) ^ (7 : Nat); ((with_reducible refine i4 (by assumption) ?_); rfl)) ?_))) | (with_reducible ((with_reducible show wpAny _ _ (binaryOp Operator.BitAnd (Value.int _ _) (Value.int _ _)) _ _ _); k_dflt (refine and7_small (by (with_reducible assumption)) (by (with_reducible assumption)) ?_))) | (with_reducible ((with_reducible show wpAny _ _ (binaryOp Operator.Mod (Value.int _ _) (Value.int _ _)) _ _ _); k_dflt (refine mod_small (by (with_reducible assumption)) (by ((with_reducible refine i4 (by assumption) ?_); rfl)) ?_))) | (with_reducible ((with_reducible show wpAny _ _ (binaryOp Operator.Pow (Value.int _ _) (Value.int _ _)) _ _ _); k_here; (first | (with_reducible refine' pow_to (a := 2) (b := 56) 72057594037927936 ?z1 ?z2 ?z3 ?z4 ?_) | (with_reducible refine' pow_to (a := 2) (b := 63) 9223372036854775808 ?z1 ?z2 ?z3 ?z4 ?_) | (with_reducible refine' pow_to (a := 2) (b := 64) 18446744073709551616 ?z1 ?z2 ?z3 ?z4 ?_) | (with_reducible refine' pow_to (a := 10) (b := 18) 1000000000000000000 ?z1 ?z2 ?z3 ?z4 ?_) | (with_reducible refine' pow_to (a := 256) (b := 0) 1 ?z1 ?z2 ?z3 ?z4 ?_) | (with_reducible refine' pow_to (a := 256) (b := 1) 256 ?z1 ?z2 ?z3 ?z4 ?_) | (with_reducible refine' pow_to (a := 256) (b := 2) 65536 ?z1 ?z2 ?z3 ?z4 ?_) | (with_reducible refine' pow_to (a := 256) (b := 3) 16777216 ?z1 ?z2 ?z3 ?z4 ?_) | (with_reducible refine' pow_to (a := 256) (b := 4) 4294967296 ?z1 ?z2 ?z3 ?z4 ?_) | (with_reducible refine' pow_to (a := 256) (b := 6) 281474976710656 ?z1 ?z2 ?z3 ?z4 ?_) | (with_reducible refine' pow_to (a := 256) (b := 8) 18446744073709551616 ?z1 ?z2 ?z3 ?z4 ?_)); (case z1 => decide); (case z2 => decide); (case z3 => decide); (case z4 => decide +kernel))) | (with_reducible (k_here; (with_reducible show wpAny _ _ (call (Value.builtin "list.append") [Value.ref _, _]) _ _ _); k_dflt (refine' appL ?k1 ?k2 ?k3 ?_ ?z; (case k1 => k_asm); (case k2 => k_asm); (case k3 => k_upd); (case z => first | exact sz0 | size_fits); k_whole); intro _ _ _; (try k_sweep))) | (with_reducible (k_here; (with_reducible show wpAny _ _ (call (Value.type "bytes") [Value.ref _]) _ _ _); k_dflt (refine' bytes_own ?k1 ?k2 ?k3 ?k4 ?k5 ?k6 ?k7 ?_; (case k1 => k_asm); (case k2 => k_asm); (case k3 => k_mem); (case k4 => first | assumption | (repeat' constructor)); (case k5 => (simp only [List.mem_cons, List.not_mem_nil, or_false, forall_eq_or_imp, forall_eq]; omega)); (case k6 => first | decide | (simp only [List.length_cons, List.length_nil]; decide)); (case k7 => assumption); k_whole); intro _ _ _ _ _; (try k_sweep))) | (with_reducible (k_here; (with_reducible show wpAny _ _ (newList _) _ _ _); k_dflt (refine' newL ?k1 ?k2 ?_ ?z; (case k1 => k_asm); (case k2 => k_asm); (case z => first | exact sz0 | exact sz1 | exact sz2 | exact sz3 | size_fits); k_whole); intro _ _ _ _ l1; (try k_lt l1); (try (revert l1; intros)); (try k_sweep))) | walk1 | (dsimp only; walk1) | (leave1; try dsimp only)))
  all_goals (refine ret _ _ _ ?_ (keep_back _ hg (fun q hq => (hh0 q hq).1) (by k_asm) (by k_asm) (by repeat' (first | exact List.forall_mem_nil _ | refine fmc (fun _ => by k_mem) ?_ | refine fmc (fun h9 => absurd (by k_mem) h9) ?_))) (grown_back hz (by k_asm)))
  all_goals (try dsimp only)
  all_goals (exact ⟨_, rfl⟩)

end
section -- K9
set_option maxHeartbeats 2000000


theorem head_size_ok {w : World} {p : Program} {loose : List Str} {mean : ExcName → Option Value} {mg mb : Str → Option Value} {h₀ : Heap} {A : Around} {s : Shared} {n : Int} {nt : Tok}
    (X : (Mine.myK w.params).In h₀) (T : Top p loose mean mg mb h₀) (st : h₀.StaysIn s.heap) (hroom : Room A 8) (h0 : 0 ≤ n) (h1 : n < 100) :
    Calls7 PySem.Challenge.rw_xm0772_01.row.prog w A 694 [.int n nt] s [] (fun v _ => ∃ t, v = .int (n + 1) t) := by
  intro R ret
  have hcalm := hroom.calm
  revert X; k_fill; intro X
  have hh0 : ∀ q ∈ ([] : List (Addr × Obj)), s.heap.get? q.1 = some q.2 ∧ h₀.get? q.1 = none := List.forall_mem_nil _
  k_dflt (refine' enter (binds := [(Str.ofString "many", .int n nt)]) _ X T st hh0 ?k6 ?k7 ?k8 ?k9 ?kB ?_ ?c2 ?c3 ?c4 ?c5)
  case k6 => k_is
  case k7 => k_is
  case k8 => exact hroom.now
  case k9 => first | exact BindsTo.of_eq rfl | exact binds_K (X.keeps st) rfl (by k_is) rfl rfl rfl
  case kB => exact locs rfl
  case c2 => exact rfl
  case c3 => exact rfl
  case c4 => exact rfl
  case c5 => decide
  intro g L' h₁ stg hz hg Xg Tg F N
  k_dflt (show wpAny _ (Around.deeper _ (envOf _ ⟨_, _, _, _, _⟩ _ _ _)) (execs (_ :: _) (envOf _ ⟨_, _, _, _, _⟩ _ _ _)) _ _ _)
  k_fold
  (repeat' (first | (k_unfold; (try dsimp only)) | (k_end; wrow_close) | (with_reducible ((with_reducible show wpAny _ _ (binaryOp Operator.Add (Value.int _ _) (Value.int _ _)) _ _ _); (with_reducible refine addI ?_))) | (with_reducible ((with_reducible show wpAny _ _ (exec (Stmt.While _ _ _ _) _) _ _ _); k_here; k_dflt (refine whl_start 100 ?_))) | (with_reducible (k_here; (with_reducible show wpAny _ _ (call (Value.ref 631) _) _ _ _); (rename Fr _ _ _ _ => cF'); (rename News _ _ _ _ => cN'); k_dflt (refine' use7t cF' cN' (put_varint_ok ?X ?T (stays_now ?st cF') ?room ?h0 ?h1) ?_); (case st => assumption); (case X => assumption); (case T => assumption); (case room => exact Room.deeper (by assumption) (by decide)); (case h0 => omega); (case h1 => omega); (intro _ _ _ _ _); (try clear cF' cN'))) | walk1 | (dsimp only; walk1) | (leave1; try dsimp only)))
  all_goals (refine ret _ _ _ ?_ (keep_back _ hg (fun q hq => (hh0 q hq).1) (by k_asm) (by k_asm) (by repeat' (first | exact List.forall_mem_nil _ | refine fmc (fun _ => by k_mem) ?_ | refine fmc (fun h9 => absurd (by k_mem) h9) ?_))) (grown_back hz (by k_asm)))
  all_goals (try dsimp only)
  all_goals (exact int_is (by omega))

end
section -- K4
set_option maxHeartbeats 2000000


theorem class_none {w : World} {p : Program} {loose : List Str} {mean : ExcName → Option Value} {mg mb : Str → Option Value} {h₀ : Heap} {A : Around} {s : Shared} 
    (X : (Mine.myK w.params).In h₀) (T : Top p loose mean mg mb h₀) (st : h₀.StaysIn s.heap) (hroom : Room A 5)  :
    Calls7 PySem.Challenge.rw_xm0772_01.row.prog w A 616 [.none] s [] (fun v _ => ∃ t, v = .str (Str.ofString "null") t) := by
  intro R ret
  have hcalm := hroom.calm
  revert X; k_fill; intro X
  have hh0 : ∀ q ∈ ([] : List (Addr × Obj)), s.heap.get? q.1 = some q.2 ∧ h₀.get? q.1 = none := List.forall_mem_nil _
  k_dflt (refine' enter (binds := [(Str.ofString "v", .none)]) _ X T st hh0 ?k6 ?k7 ?k8 ?k9 ?kB ?_ ?c2 ?c3 ?c4 ?c5)
  case k6 => k_is
  case k7 => k_is
  case k8 => exact hroom.now
  case k9 => first | exact BindsTo.of_eq rfl | exact binds_K (X.keeps st) rfl (by k_is) rfl rfl rfl
  case kB => exact locs rfl
  case c2 => exact rfl
  case c3 => exact rfl
  case c4 => exact rfl
  case c5 => decide
  intro g L' h₁ stg hz hg Xg Tg F N
  k_dflt (show wpAny _ (Around.deeper _ (envOf _ ⟨_, _, _, _, _⟩ _ _ _)) (execs (_ :: _) (envOf _ ⟨_, _, _, _, _⟩ _ _ _)) _ _ _)
  k_fold
  k_steps
  all_goals (refine ret _ _ _ ?_ (keep_back _ hg (fun q hq => (hh0 q hq).1) (by k_asm) (by k_asm) (by repeat' (first | exact List.forall_mem_nil _ | refine fmc (fun _ => by k_mem) ?_ | refine fmc (fun h9 => absurd (by k_mem) h9) ?_))) (grown_back hz (by k_asm)))
  all_goals (try dsimp only)
  all_goals (exact ⟨_, rfl⟩)

theorem class_int {w : World} {p : Program} {loose : List Str} {mean : ExcName → Option Value} {mg mb : Str → Option Value} {h₀ : Heap} {A : Around} {s : Shared} {n : Int} {nt : Tok}
    (X : (Mine.myK w.params).In h₀) (T : Top p loose mean mg mb h₀) (st : h₀.StaysIn s.heap) (hroom : Room A 5)  :
    Calls7 PySem.Challenge.rw_xm0772_01.row.prog w A 616 [.int n nt] s [] (fun v _ => ∃ t, v = .str (Str.ofString "integer") t) := by
  intro R ret
  have hcalm := hroom.calm
  revert X; k_fill; intro X
  have hh0 : ∀ q ∈ ([] : List (Addr × Obj)), s.heap.get? q.1 = some q.2 ∧ h₀.get? q.1 = none := List.forall_mem_nil _
  k_dflt (refine' enter (binds := [(Str.ofString "v", .int n nt)]) _ X T st hh0 ?k6 ?k7 ?k8 ?k9 ?kB ?_ ?c2 ?c3 ?c4 ?c5)
  case k6 => k_is
  case k7 => k_is
  case k8 => exact hroom.now
  case k9 => first | exact BindsTo.of_eq rfl | exact binds_K (X.keeps st) rfl (by k_is) rfl rfl rfl
  case kB => exact locs rfl
  case c2 => exact rfl
  case c3 => exact rfl
  case c4 => exact rfl
  case c5 => decide
  intro g L' h₁ stg hz hg Xg Tg F N
  k_dflt (show wpAny _ (Around.deeper _ (envOf _ ⟨_, _, _, _, _⟩ _ _ _)) (execs (_ :: _) (envOf _ ⟨_, _, _, _, _⟩ _ _ _)) _ _ _)
  k_fold
  k_steps
  all_goals (refine ret _ _ _ ?_ (keep_back _ hg (fun q hq => (hh0 q hq).1) (by k_asm) (by k_asm) (by repeat' (first | exact List.forall_mem_nil _ | refine fmc (fun _ => by k_mem) ?_ | refine fmc (fun h9 => absurd (by k_mem) h9) ?_))) (grown_back hz (by k_asm)))
  all_goals (try dsimp only)
  all_goals (exact ⟨_, rfl⟩)

theorem class_str {w : World} {p : Program} {loose : List Str} {mean : ExcName → Option Value} {mg mb : Str → Option Value} {h₀ : Heap} {A : Around} {s : Shared} {x : Str} {nt : Tok}
    (X : (Mine.myK w.params).In h₀) (T : Top p loose mean mg mb h₀) (st : h₀.StaysIn s.heap) (hroom : Room A 5)  :
    Calls7 PySem.Challenge.rw_xm0772_01.row.prog w A 616 [.str x nt] s [] (fun v _ => ∃ t, v = .str (Str.ofString "text") t) := by
  intro R ret
  have hcalm := hroom.calm
  revert X; k_fill; intro X
  have hh0 : ∀ q ∈ ([] : List (Addr × Obj)), s.heap.get? q.1 = some q.2 ∧ h₀.get? q.1 = none := List.forall_mem_nil _
  k_dflt (refine' enter (binds := [(Str.ofString "v", .str x nt)]) _ X T st hh0 ?k6 ?k7 ?k8 ?k9 ?kB ?_ ?c2 ?c3 ?c4 ?c5)
  case k6 => k_is
  case k7 => k_is
  case k8 => exact hroom.now
  case k9 => first | exact BindsTo.of_eq rfl | exact binds_K (X.keeps st) rfl (by k_is) rfl rfl rfl
  case kB => exact locs rfl
  case c2 => exact rfl
  case c3 => exact rfl
  case c4 => exact rfl
  case c5 => decide
  intro g L' h₁ stg hz hg Xg Tg F N
  k_dflt (show wpAny _ (Around.deeper _ (envOf _ ⟨_, _, _, _, _⟩ _ _ _)) (execs (_ :: _) (envOf _ ⟨_, _, _, _, _⟩ _ _ _)) _ _ _)
  k_fold
  k_steps
  all_goals (refine ret _ _ _ ?_ (keep_back _ hg (fun q hq => (hh0 q hq).1) (by k_asm) (by k_asm) (by repeat' (first | exact List.forall_mem_nil _ | refine fmc (fun _ => by k_mem) ?_ | refine fmc (fun h9 => absurd (by k_mem) h9) ?_))) (grown_back hz (by k_asm)))
  all_goals (try dsimp only)
  all_goals (exact ⟨_, rfl⟩)

theorem class_bytes {w : World} {p : Program} {loose : List Str} {mean : ExcName → Option Value} {mg mb : Str → Option Value} {h₀ : Heap} {A : Around} {s : Shared} {b : Array UInt8} {nt : Tok}
    (X : (Mine.myK w.params).In h₀) (T : Top p loose mean mg mb h₀) (st : h₀.StaysIn s.heap) (hroom : Room A 5)  :
    Calls7 PySem.Challenge.rw_xm0772_01.row.prog w A 616 [.bytes b nt] s [] (fun v _ => ∃ t, v = .str (Str.ofString "blob") t) := by
  intro R ret
  have hcalm := hroom.calm
  revert X; k_fill; intro X
  have hh0 : ∀ q ∈ ([] : List (Addr × Obj)), s.heap.get? q.1 = some q.2 ∧ h₀.get? q.1 = none := List.forall_mem_nil _
  k_dflt (refine' enter (binds := [(Str.ofString "v", .bytes b nt)]) _ X T st hh0 ?k6 ?k7 ?k8 ?k9 ?kB ?_ ?c2 ?c3 ?c4 ?c5)
  case k6 => k_is
  case k7 => k_is
  case k8 => exact hroom.now
  case k9 => first | exact BindsTo.of_eq rfl | exact binds_K (X.keeps st) rfl (by k_is) rfl rfl rfl
  case kB => exact locs rfl
  case c2 => exact rfl
  case c3 => exact rfl
  case c4 => exact rfl
  case c5 => decide
  intro g L' h₁ stg hz hg Xg Tg F N
  k_dflt (show wpAny _ (Around.deeper _ (envOf _ ⟨_, _, _, _, _⟩ _ _ _)) (execs (_ :: _) (envOf _ ⟨_, _, _, _, _⟩ _ _ _)) _ _ _)
  k_fold
  k_steps
  all_goals (refine ret _ _ _ ?_ (keep_back _ hg (fun q hq => (hh0 q hq).1) (by k_asm) (by k_asm) (by repeat' (first | exact List.forall_mem_nil _ | refine fmc (fun _ => by k_mem) ?_ | refine fmc (fun h9 => absurd (by k_mem) h9) ?_))) (grown_back hz (by k_asm)))
  all_goals (try dsimp only)
  all_goals (exact ⟨_, rfl⟩)

end
section -- K5
set_option maxHeartbeats 2000000


theorem number_small {w : World} {p : Program} {loose : List Str} {mean : ExcName → Option Value} {mg mb : Str → Option Value} {h₀ : Heap} {A : Around} {s : Shared} {n : Int} {nt : Tok}
    (X : (Mine.myK w.params).In h₀) (T : Top p loose mean mg mb h₀) (st : h₀.StaysIn s.heap) (hroom : Room A 5) (h0 : -128 ≤ n) (h1 : n < 128) :
    Calls7 PySem.Challenge.rw_xm0772_01.row.prog w A 659 [.int n nt] s [] (fun v _ => ∃ t, v = .int (kindI n) t) := by
  intro R ret
  have hcalm := hroom.calm
  revert X; k_fill; intro X
  have hh0 : ∀ q ∈ ([] : List (Addr × Obj)), s.heap.get? q.1 = some q.2 ∧ h₀.get? q.1 = none := List.forall_mem_nil _
  k_dflt (refine' enter (binds := [(Str.ofString "n", .int n nt)]) _ X T st hh0 ?k6 ?k7 ?k8 ?k9 ?kB ?_ ?c2 ?c3 ?c4 ?c5)
  case k6 => k_is
  case k7 => k_is
  case k8 => exact hroom.now
  case k9 => first | exact BindsTo.of_eq rfl | exact binds_K (X.keeps st) rfl (by k_is) rfl rfl rfl
  case kB => exact locs rfl
  case c2 => exact rfl
  case c3 => exact rfl
  case c4 => exact rfl
  case c5 => decide
  intro g L' h₁ stg hz hg Xg Tg F N
  k_dflt (show wpAny _ (Around.deeper _ (envOf _ ⟨_, _, _, _, _⟩ _ _ _)) (execs (_ :: _) (envOf _ ⟨_, _, _, _, _⟩ _ _ _)) _ _ _)
  k_fold
  (repeat' (first | (k_unfold; (try dsimp only)) | (k_end; wrow_close) | (with_reducible ((with_reducible show wpAny _ _ (binaryOp Operator.Pow (Value.int _ _) (Value.int _ _)) _ _ _); k_here; (first | (with_reducible refine' pow_to (a := 2) (b := 56) 72057594037927936 ?z1 ?z2 ?z3 ?z4 ?_) | (with_reducible refine' pow_to (a := 2) (b := 63) 9223372036854775808 ?z1 ?z2 ?z3 ?z4 ?_) | (with_reducible refine' pow_to (a := 2) (b := 64) 18446744073709551616 ?z1 ?z2 ?z3 ?z4 ?_) | (with_reducible refine' pow_to (a := 10) (b := 18) 1000000000000000000 ?z1 ?z2 ?z3 ?z4 ?_) | (with_reducible refine' pow_to (a := 256) (b := 0) 1 ?z1 ?z2 ?z3 ?z4 ?_) | (with_reducible refine' pow_to (a := 256) (b := 1) 256 ?z1 ?z2 ?z3 ?z4 ?_) | (with_reducible refine' pow_to (a := 256) (b := 2) 65536 ?z1 ?z2 ?z3 ?z4 ?_) | (with_reducible refine' pow_to (a := 256) (b := 3) 16777216 ?z1 ?z2 ?z3 ?z4 ?_) | (with_reducible refine' pow_to (a := 256) (b := 4) 4294967296 ?z1 ?z2 ?z3 ?z4 ?_) | (with_reducible refine' pow_to (a := 256) (b := 6) 281474976710656 ?z1 ?z2 ?z3 ?z4 ?_) | (with_reducible refine' pow_to (a := 256) (b := 8) 18446744073709551616 ?z1 ?z2 ?z3 ?z4 ?_)); (case z1 => decide); (case z2 => decide); (case z3 => decide); (case z4 => decide +kernel))) | (with_reducible ((with_reducible show wpAny _ _ (unaryOp UnaryOp.USub (Value.int _ _)) _ _ _); (with_reducible refine negI ?_))) | (with_reducible ((with_reducible show wpAny _ _ (pyIter (Value.ref _)) (fun it s₂ => LoopAtV _ _ _ _ _ _ _ _ _ it s₂) _ _); l_hasStore; (rename Fr _ _ _ _ => lF'); (rename News _ _ _ _ => lN'); (rename IsRange _ _ _ _ _ _ _ _ => lR'); (with_unfolding_all first | refine iter_rangeU 0 (by assumption) lR' (by decide) (by decide) (by omega) lF' lN' ?_ | refine iter_rangeU 1 (by assumption) lR' (by decide) (by decide) (by omega) lF' lN' ?_ | refine iter_rangeU 2 (by assumption) lR' (by decide) (by decide) (by omega) lF' lN' ?_ | refine iter_rangeU 3 (by assumption) lR' (by decide) (by decide) (by omega) lF' lN' ?_ | refine iter_rangeU 4 (by assumption) lR' (by decide) (by decide) (by omega) lF' lN' ?_ | refine iter_rangeU 6 (by assumption) lR' (by decide) (by decide) (by decide) lF' lN' ?_ | refine iter_rangeU 8 (by assumption) lR' (by omega) (by omega) (by omega) lF' lN' ?_ | refine iter_rangeU 9 (by assumption) lR' (by omega) (by omega) (by omega) lF' lN' ?_); clear lF' lN' lR'; intro _ l1; (try k_lt l1); (try (revert l1; intros)))) | (with_reducible ((with_reducible show RangeRest _ _ _ _ _ _ _ _ _ _ _ _ _ _ _ _ _); with_unfolding_all first | (refine range_next _ (by simp; rfl) _ _ (by simp; rfl) (by simp; rfl) (fun t' h' tk' F' N' => ?_)) | (refine RangeRest.zero (fun h' tk' F' N' => ?_)))) | walk1 | (dsimp only; walk1) | (leave1; try dsimp only)))
  all_goals (refine ret _ _ _ ?_ (keep_back _ hg (fun q hq => (hh0 q hq).1) (by k_asm) (by k_asm) (by repeat' (first | exact List.forall_mem_nil _ | refine fmc (fun _ => by k_mem) ?_ | refine fmc (fun h9 => absurd (by k_mem) h9) ?_))) (grown_back hz (by k_asm)))
  all_goals (try dsimp only)
  all_goals (exact int_is (by unfold kindI; (repeat' split) <;> (first | decide | omega)))

theorem number_big {w : World} {p : Program} {loose : List Str} {mean : ExcName → Option Value} {mg mb : Str → Option Value} {h₀ : Heap} {A : Around} {s : Shared} {nt : Tok}
    (X : (Mine.myK w.params).In h₀) (T : Top p loose mean mg mb h₀) (st : h₀.StaysIn s.heap) (hroom : Room A 5)  :
    Calls7 PySem.Challenge.rw_xm0772_01.row.prog w A 659 [.int 9223372036854775807 nt] s [] (fun v _ => ∃ t, v = .int (kindI 9223372036854775807) t) := by
  intro R ret
  have hcalm := hroom.calm
  revert X; k_fill; intro X
  have hh0 : ∀ q ∈ ([] : List (Addr × Obj)), s.heap.get? q.1 = some q.2 ∧ h₀.get? q.1 = none := List.forall_mem_nil _
  k_dflt (refine' enter (binds := [(Str.ofString "n", .int 9223372036854775807 nt)]) _ X T st hh0 ?k6 ?k7 ?k8 ?k9 ?kB ?_ ?c2 ?c3 ?c4 ?c5)
  case k6 => k_is
  case k7 => k_is
  case k8 => exact hroom.now
  case k9 => first | exact BindsTo.of_eq rfl | exact binds_K (X.keeps st) rfl (by k_is) rfl rfl rfl
  case kB => exact locs rfl
  case c2 => exact rfl
  case c3 => exact rfl
  case c4 => exact rfl
  case c5 => decide
  intro g L' h₁ stg hz hg Xg Tg F N
  k_dflt (show wpAny _ (Around.deeper _ (envOf _ ⟨_, _, _, _, _⟩ _ _ _)) (execs (_ :: _) (envOf _ ⟨_, _, _, _, _⟩ _ _ _)) _ _ _)
  k_fold
  (repeat' (first | (k_unfold; (try dsimp only)) | (k_end; wrow_close) | (with_reducible ((with_reducible show wpAny _ _ (binaryOp Operator.Pow (Value.int _ _) (Value.int _ _)) _ _ _); k_here; (first | (with_reducible refine' pow_to (a := 2) (b := 56) 72057594037927936 ?z1 ?z2 ?z3 ?z4 ?_) | (with_reducible refine' pow_to (a := 2) (b := 63) 9223372036854775808 ?z1 ?z2 ?z3 ?z4 ?_) | (with_reducible refine' pow_to (a := 2) (b := 64) 18446744073709551616 ?z1 ?z2 ?z3 ?z4 ?_) | (with_reducible refine' pow_to (a := 10) (b := 18) 1000000000000000000 ?z1 ?z2 ?z3 ?z4 ?_) | (with_reducible refine' pow_to (a := 256) (b := 0) 1 ?z1 ?z2 ?z3 ?z4 ?_) | (with_reducible refine' pow_to (a := 256) (b := 1) 256 ?z1 ?z2 ?z3 ?z4 ?_) | (with_reducible refine' pow_to (a := 256) (b := 2) 65536 ?z1 ?z2 ?z3 ?z4 ?_) | (with_reducible refine' pow_to (a := 256) (b := 3) 16777216 ?z1 ?z2 ?z3 ?z4 ?_) | (with_reducible refine' pow_to (a := 256) (b := 4) 4294967296 ?z1 ?z2 ?z3 ?z4 ?_) | (with_reducible refine' pow_to (a := 256) (b := 6) 281474976710656 ?z1 ?z2 ?z3 ?z4 ?_) | (with_reducible refine' pow_to (a := 256) (b := 8) 18446744073709551616 ?z1 ?z2 ?z3 ?z4 ?_)); (case z1 => decide); (case z2 => decide); (case z3 => decide); (case z4 => decide +kernel))) | (with_reducible ((with_reducible show wpAny _ _ (unaryOp UnaryOp.USub (Value.int _ _)) _ _ _); (with_reducible refine negI ?_))) | (with_reducible ((with_reducible show wpAny _ _ (pyIter (Value.ref _)) (fun it s₂ => LoopAtV _ _ _ _ _ _ _ _ _ it s₂) _ _); l_hasStore; (rename Fr _ _ _ _ => lF'); (rename News _ _ _ _ => lN'); (rename IsRange _ _ _ _ _ _ _ _ => lR'); (with_unfolding_all first | refine iter_rangeU 0 (by assumption) lR' (by decide) (by decide) (by omega) lF' lN' ?_ | refine iter_rangeU 1 (by assumption) lR' (by decide) (by decide) (by omega) lF' lN' ?_ | refine iter_rangeU 2 (by assumption) lR' (by decide) (by decide) (by omega) lF' lN' ?_ | refine iter_rangeU 3 (by assumption) lR' (by decide) (by decide) (by omega) lF' lN' ?_ | refine iter_rangeU 4 (by assumption) lR' (by decide) (by decide) (by omega) lF' lN' ?_ | refine iter_rangeU 6 (by assumption) lR' (by decide) (by decide) (by decide) lF' lN' ?_ | refine iter_rangeU 8 (by assumption) lR' (by omega) (by omega) (by omega) lF' lN' ?_ | refine iter_rangeU 9 (by assumption) lR' (by omega) (by omega) (by omega) lF' lN' ?_); clear lF' lN' lR'; intro _ l1; (try k_lt l1); (try (revert l1; intros)))) | (with_reducible ((with_reducible show RangeRest _ _ _ _ _ _ _ _ _ _ _ _ _ _ _ _ _); with_unfolding_all first | (refine range_next _ (by simp; rfl) _ _ (by simp; rfl) (by simp; rfl) (fun t' h' tk' F' N' => ?_)) | (refine RangeRest.zero (fun h' tk' F' N' => ?_)))) | walk1 | (dsimp only; walk1) | (leave1; try dsimp only)))
  all_goals (refine ret _ _ _ ?_ (keep_back _ hg (fun q hq => (hh0 q hq).1) (by k_asm) (by k_asm) (by repeat' (first | exact List.forall_mem_nil _ | refine fmc (fun _ => by k_mem) ?_ | refine fmc (fun h9 => absurd (by k_mem) h9) ?_))) (grown_back hz (by k_asm)))
  all_goals (try dsimp only)
  all_goals (exact int_is (by decide))

theorem number_low {w : World} {p : Program} {loose : List Str} {mean : ExcName → Option Value} {mg mb : Str → Option Value} {h₀ : Heap} {A : Around} {s : Shared} {nt : Tok}
    (X : (Mine.myK w.params).In h₀) (T : Top p loose mean mg mb h₀) (st : h₀.StaysIn s.heap) (hroom : Room A 5)  :
    Calls7 PySem.Challenge.rw_xm0772_01.row.prog w A 659 [.int (-9223372036854775808) nt] s [] (fun v _ => ∃ t, v = .int (kindI (-9223372036854775808)) t) := by
  intro R ret
  have hcalm := hroom.calm
  revert X; k_fill; intro X
  have hh0 : ∀ q ∈ ([] : List (Addr × Obj)), s.heap.get? q.1 = some q.2 ∧ h₀.get? q.1 = none := List.forall_mem_nil _
  k_dflt (refine' enter (binds := [(Str.ofString "n", .int (-9223372036854775808) nt)]) _ X T st hh0 ?k6 ?k7 ?k8 ?k9 ?kB ?_ ?c2 ?c3 ?c4 ?c5)
  case k6 => k_is
  case k7 => k_is
  case k8 => exact hroom.now
  case k9 => first | exact BindsTo.of_eq rfl | exact binds_K (X.keeps st) rfl (by k_is) rfl rfl rfl
  case kB => exact locs rfl
  case c2 => exact rfl
  case c3 => exact rfl
  case c4 => exact rfl
  case c5 => decide
  intro g L' h₁ stg hz hg Xg Tg F N
  k_dflt (show wpAny _ (Around.deeper _ (envOf _ ⟨_, _, _, _, _⟩ _ _ _)) (execs (_ :: _) (envOf _ ⟨_, _, _, _, _⟩ _ _ _)) _ _ _)
  k_fold
  (repeat' (first | (k_unfold; (try dsimp only)) | (k_end; wrow_close) | (with_reducible ((with_reducible show wpAny _ _ (binaryOp Operator.Pow (Value.int _ _) (Value.int _ _)) _ _ _); k_here; (first | (with_reducible refine' pow_to (a := 2) (b := 56) 72057594037927936 ?z1 ?z2 ?z3 ?z4 ?_) | (with_reducible refine' pow_to (a := 2) (b := 63) 9223372036854775808 ?z1 ?z2 ?z3 ?z4 ?_) | (with_reducible refine' pow_to (a := 2) (b := 64) 18446744073709551616 ?z1 ?z2 ?z3 ?z4 ?_) | (with_reducible refine' pow_to (a := 10) (b := 18) 1000000000000000000 ?z1 ?z2 ?z3 ?z4 ?_) | (with_reducible refine' pow_to (a := 256) (b := 0) 1 ?z1 ?z2 ?z3 ?z4 ?_) | (with_reducible refine' pow_to (a := 256) (b := 1) 256 ?z1 ?z2 ?z3 ?z4 ?_) | (with_reducible refine' pow_to (a := 256) (b := 2) 65536 ?z1 ?z2 ?z3 ?z4 ?_) | (with_reducible refine' pow_to (a := 256) (b := 3) 16777216 ?z1 ?z2 ?z3 ?z4 ?_) | (with_reducible refine' pow_to (a := 256) (b := 4) 4294967296 ?z1 ?z2 ?z3 ?z4 ?_) | (with_reducible refine' pow_to (a := 256) (b := 6) 281474976710656 ?z1 ?z2 ?z3 ?z4 ?_) | (with_reducible refine' pow_to (a := 256) (b := 8) 18446744073709551616 ?z1 ?z2 ?z3 ?z4 ?_)); (case z1 => decide); (case z2 => decide); (case z3 => decide); (case z4 => decide +kernel))) | (with_reducible ((with_reducible show wpAny _ _ (unaryOp UnaryOp.USub (Value.int _ _)) _ _ _); (with_reducible refine negI ?_))) | (with_reducible ((with_reducible show wpAny _ _ (pyIter (Value.ref _)) (fun it s₂ => LoopAtV _ _ _ _ _ _ _ _ _ it s₂) _ _); l_hasStore; (rename Fr _ _ _ _ => lF'); (rename News _ _ _ _ => lN'); (rename IsRange _ _ _ _ _ _ _ _ => lR'); (with_unfolding_all first | refine iter_rangeU 0 (by assumption) lR' (by decide) (by decide) (by omega) lF' lN' ?_ | refine iter_rangeU 1 (by assumption) lR' (by decide) (by decide) (by omega) lF' lN' ?_ | refine iter_rangeU 2 (by assumption) lR' (by decide) (by decide) (by omega) lF' lN' ?_ | refine iter_rangeU 3 (by assumption) lR' (by decide) (by decide) (by omega) lF' lN' ?_ | refine iter_rangeU 4 (by assumption) lR' (by decide) (by decide) (by omega) lF' lN' ?_ | refine iter_rangeU 6 (by assumption) lR' (by decide) (by decide) (by decide) lF' lN' ?_ | refine iter_rangeU 8 (by assumption) lR' (by omega) (by omega) (by omega) lF' lN' ?_ | refine iter_rangeU 9 (by assumption) lR' (by omega) (by omega) (by omega) lF' lN' ?_); clear lF' lN' lR'; intro _ l1; (try k_lt l1); (try (revert l1; intros)))) | (with_reducible ((with_reducible show RangeRest _ _ _ _ _ _ _ _ _ _ _ _ _ _ _ _ _); with_unfolding_all first | (refine range_next _ (by simp; rfl) _ _ (by simp; rfl) (by simp; rfl) (fun t' h' tk' F' N' => ?_)) | (refine RangeRest.zero (fun h' tk' F' N' => ?_)))) | walk1 | (dsimp only; walk1) | (leave1; try dsimp only)))
  all_goals (refine ret _ _ _ ?_ (keep_back _ hg (fun q hq => (hh0 q hq).1) (by k_asm) (by k_asm) (by repeat' (first | exact List.forall_mem_nil _ | refine fmc (fun _ => by k_mem) ?_ | refine fmc (fun h9 => absurd (by k_mem) h9) ?_))) (grown_back hz (by k_asm)))
  all_goals (try dsimp only)
  all_goals (exact int_is (by decide))

end
section -- K10
set_option maxHeartbeats 2000000


theorem utf8_nil {w : World} {p : Program} {loose : List Str} {mean : ExcName → Option Value} {mg mb : Str → Option Value} {h₀ : Heap} {A : Around} {s : Shared} {xt : Tok}
    (X : (Mine.myK w.params).In h₀) (T : Top p loose mean mg mb h₀) (st : h₀.StaysIn s.heap) (hroom : Room A 5) (hgd : A.guards = some [])  :
    Calls7R PySem.Challenge.rw_xm0772_01.row.prog w A 581 [.str tx0 xt] s [] (fun v _ => ∃ t, v = .bytes ([] : List UInt8).toArray t) := by
  intro R ret
  have hcalm := hroom.calm
  revert X; k_fill; intro X
  have hh0 : ∀ q ∈ ([] : List (Addr × Obj)), s.heap.get? q.1 = some q.2 ∧ h₀.get? q.1 = none := List.forall_mem_nil _
  k_dflt (refine' enterR (binds := [(Str.ofString "text", .str tx0 xt)]) _ X T st hh0 ?k6 ?k7 ?k8 ?k9 ?kB ?_ ?c2 ?c3 ?c4 ?c5)
  case k6 => k_is
  case k7 => k_is
  case k8 => exact hroom.now
  case k9 => first | exact BindsTo.of_eq rfl | exact binds_K (X.keeps st) rfl (by k_is) rfl rfl rfl
  case kB => exact locs rfl
  case c2 => exact rfl
  case c3 => exact rfl
  case c4 => exact rfl
  case c5 => decide
  intro g L' h₁ stg hz hg Xg Tg F N
  k_dflt (show wpR _ (Around.deeper _ (envOf _ ⟨_, _, _, _, _⟩ _ _ _)) (execs (_ :: _) (envOf _ ⟨_, _, _, _, _⟩ _ _ _)) _ _ _)
  k_dflt (refine execsR_cons (assignR (callR ?_)))
  k_steps
  refine callWithR_type0 ?_
  (rename Fr _ _ _ _ => F1); (rename News _ _ _ _ => N1)
  refine ba_newK hgd F1 N1 ?_
  clear F1 N1
  intro fb h2 F2 N2 off2 kk2 gn2
  k_steps
  k_dflt (refine execsR_cons (forR hcalm ?_))
  k_steps
  (rename Fr _ _ _ _ => F1); (rename News _ _ _ _ => N1)
  refine strStartR F1 N1 ?_
  clear F1 N1
  intro I h3 o3 hc3 hd3 F3 N3 off3
  (try dsimp only)
  refine strDoneR (m := _) hcalm (ty := strIterType tx0) (strIterType_or _) hc3 hd3 rfl F3 N3 off3 ?_
  clear F3 N3
  intro h4 tk4 F4 N4
  (try dsimp only)
  refine execsR_cons (wpR_of ?_)
  (repeat' (first | (k_unfold; (try dsimp only)) | (k_end; wrow_close) | (with_reducible (k_here; (with_reducible show wpAny _ _ (call (Value.type "bytes") [Value.ref _]) _ _ _); (rename News _ _ _ _ => bN'); k_dflt (refine' bytes_of_ba (bN' (_, baOf _) ?m).1 ?z ?_; (case m => k_mem); (case z => decide +kernel); k_whole))) | walk1 | (dsimp only; walk1) | (leave1; try dsimp only)))

  all_goals (refine ret _ _ _ ?_ (keep_back _ hg (fun q hq => (hh0 q hq).1) (by k_asm) (by k_asm) (by repeat' (first | exact List.forall_mem_nil _ | refine fmc (fun _ => by k_mem) ?_ | refine fmc (fun h9 => absurd (by k_mem) h9) ?_))) (grown_back hz (by k_asm)))
  all_goals (try dsimp only)
  all_goals (exact bytes_is rfl)

theorem utf8_one {w : World} {p : Program} {loose : List Str} {mean : ExcName → Option Value} {mg mb : Str → Option Value} {h₀ : Heap} {A : Around} {s : Shared} {xt : Tok}
    (X : (Mine.myK w.params).In h₀) (T : Top p loose mean mg mb h₀) (st : h₀.StaysIn s.heap) (hroom : Room A 5) (hgd : A.guards = some [])  :
    Calls7R PySem.Challenge.rw_xm0772_01.row.prog w A 581 [.str tx1 xt] s [] (fun v _ => ∃ t, v = .bytes ([120, 195, 169] : List UInt8).toArray t) := by
  intro R ret
  have hcalm := hroom.calm
  revert X; k_fill; intro X
  have hh0 : ∀ q ∈ ([] : List (Addr × Obj)), s.heap.get? q.1 = some q.2 ∧ h₀.get? q.1 = none := List.forall_mem_nil _
  k_dflt (refine' enterR (binds := [(Str.ofString "text", .str tx1 xt)]) _ X T st hh0 ?k6 ?k7 ?k8 ?k9 ?kB ?_ ?c2 ?c3 ?c4 ?c5)
  case k6 => k_is
  case k7 => k_is
  case k8 => exact hroom.now
  case k9 => first | exact BindsTo.of_eq rfl | exact binds_K (X.keeps st) rfl (by k_is) rfl rfl rfl
  case kB => exact locs rfl
  case c2 => exact rfl
  case c3 => exact rfl
  case c4 => exact rfl
  case c5 => decide
  intro g L' h₁ stg hz hg Xg Tg F N
  k_dflt (show wpR _ (Around.deeper _ (envOf _ ⟨_, _, _, _, _⟩ _ _ _)) (execs (_ :: _) (envOf _ ⟨_, _, _, _, _⟩ _ _ _)) _ _ _)
  k_dflt (refine execsR_cons (assignR (callR ?_)))
  k_steps
  refine callWithR_type0 ?_
  (rename Fr _ _ _ _ => F1); (rename News _ _ _ _ => N1)
  refine ba_newK hgd F1 N1 ?_
  clear F1 N1
  intro fb h2 F2 N2 off2 kk2 gn2
  k_steps
  k_dflt (refine execsR_cons (forR hcalm ?_))
  k_steps
  (rename Fr _ _ _ _ => F1); (rename News _ _ _ _ => N1)
  refine strStartR F1 N1 ?_
  clear F1 N1
  intro I h3 o3 hc3 hd3 F3 N3 off3
  (try dsimp only)
  (rename Fr _ _ _ _ => F1); (rename News _ _ _ _ => N1)
  have off1 : ∀ (ob : Obj), ∀ q ∈ [(fb, ob)], q.1 ≠ I := fun ob q hq => by rw [List.mem_singleton.mp hq]; exact off3 (fb, baOf #[]) (.head _)
  refine strTurnR (ty := strIterType tx1) 120 hcalm (strIterType_or _) hc3 hd3 rfl rfl rfl F1 N1 (off1 _) ?_
  clear F1 N1 off1
  intro u5 h5 tk5 o5 hc5 hd5 F5 N5
  k_dflt (refine execsR_cons (wpR_of ?_))
  k_steps
  k_dflt (refine execsR_cons (ifR (wpR_of ?_)))
  k_steps
  k_dflt (refine execsR_cons (exprR (methodCallR ?_)))
  (repeat' (first | (k_unfold; (try dsimp only)) | (k_end; wrow_close) | (with_reducible (k_here; (with_reducible show wpAny _ _ (getMethod (Value.ref _) (PySem.Str.ofString "append") _) _ _ _); k_dflt (refine' ba_method ?N ?m BA.slot_append BA.type_append ?_; (case N => k_asm); (case m => k_mem)))) | walk1 | (dsimp only; walk1) | (leave1; try dsimp only)))
  k_dflt (refine callWithR_builtin (argsR_cons (wpR_of ?_)))
  k_steps
  refine argsR_nil ?_
  (try dsimp only [List.nil_append, List.cons_append])
  (rename Fr _ _ _ _ => F1); (rename News _ _ _ _ => N1)
  refine ba_appendK hgd F1 (show News _ _ _ ((fb, _) :: [(I, o5)]) from fun q hq => N1 q (by simp only [List.mem_cons, List.not_mem_nil, or_false] at hq ⊢; exact hq.symm)) (fun q hq => ?_) (by decide) (by decide) (by decide +kernel) ?_
  · rw [List.mem_singleton.mp hq]; exact (off3 (fb, _) (.head _)).symm
  clear F1 N1
  intro h6 F6 N6
  (try dsimp only)
  have N7 : News g L' h6 ((I, o5) :: [(fb, _)]) := fun q hq => N6 q (by simp only [List.mem_cons, List.not_mem_nil, or_false] at hq ⊢; exact hq.symm)
  clear N6
  refine execsR_nil ?_
  (try dsimp only)
  refine execsR_nil ?_
  (try dsimp only)
  (rename Fr _ _ _ _ => F1); (rename News _ _ _ _ => N1)
  have off1 : ∀ (ob : Obj), ∀ q ∈ [(fb, ob)], q.1 ≠ I := fun ob q hq => by rw [List.mem_singleton.mp hq]; exact off3 (fb, baOf #[]) (.head _)
  refine strTurnR (ty := strIterType tx1) 233 hcalm (strIterType_or _) hc5 hd5 rfl rfl rfl F1 N1 (off1 _) ?_
  clear F1 N1 off1
  intro u6 h5 tk5 o6 hc6 hd6 F5 N5
  k_dflt (refine execsR_cons (wpR_of ?_))
  k_steps
  k_dflt (refine execsR_cons (ifR (wpR_of ?_)))
  k_steps
  k_dflt (refine execsR_cons (ifR (wpR_of ?_)))
  k_steps
  k_dflt (refine execsR_cons (exprR (methodCallR ?_)))
  (repeat' (first | (k_unfold; (try dsimp only)) | (k_end; wrow_close) | (with_reducible (k_here; (with_reducible show wpAny _ _ (getMethod (Value.ref _) (PySem.Str.ofString "append") _) _ _ _); k_dflt (refine' ba_method ?N ?m BA.slot_append BA.type_append ?_; (case N => k_asm); (case m => k_mem)))) | walk1 | (dsimp only; walk1) | (leave1; try dsimp only)))
  k_dflt (refine callWithR_builtin (argsR_cons (wpR_of ?_)))
  k_steps
  refine argsR_nil ?_
  (try dsimp only [List.nil_append, List.cons_append])
  (rename Fr _ _ _ _ => F1); (rename News _ _ _ _ => N1)
  refine ba_appendK hgd F1 (show News _ _ _ ((fb, _) :: [(I, o6)]) from fun q hq => N1 q (by simp only [List.mem_cons, List.not_mem_nil, or_false] at hq ⊢; exact hq.symm)) (fun q hq => ?_) (by decide) (by decide) (by decide +kernel) ?_
  · rw [List.mem_singleton.mp hq]; exact (off3 (fb, _) (.head _)).symm
  clear F1 N1
  intro h6 F6 N6
  (try dsimp only)
  have N7 : News g L' h6 ((I, o6) :: [(fb, _)]) := fun q hq => N6 q (by simp only [List.mem_cons, List.not_mem_nil, or_false] at hq ⊢; exact hq.symm)
  clear N6
  k_dflt (refine execsR_cons (exprR (methodCallR ?_)))
  (repeat' (first | (k_unfold; (try dsimp only)) | (k_end; wrow_close) | (with_reducible (k_here; (with_reducible show wpAny _ _ (getMethod (Value.ref _) (PySem.Str.ofString "append") _) _ _ _); k_dflt (refine' ba_method ?N ?m BA.slot_append BA.type_append ?_; (case N => k_asm); (case m => k_mem)))) | walk1 | (dsimp only; walk1) | (leave1; try dsimp only)))
  k_dflt (refine callWithR_builtin (argsR_cons (wpR_of ?_)))
  k_steps
  refine argsR_nil ?_
  (try dsimp only [List.nil_append, List.cons_append])
  (rename Fr _ _ _ _ => F1); (rename News _ _ _ _ => N1)
  refine ba_appendK hgd F1 (show News _ _ _ ((fb, _) :: [(I, o6)]) from fun q hq => N1 q (by simp only [List.mem_cons, List.not_mem_nil, or_false] at hq ⊢; exact hq.symm)) (fun q hq => ?_) (by decide) (by decide) (by decide +kernel) ?_
  · rw [List.mem_singleton.mp hq]; exact (off3 (fb, _) (.head _)).symm
  clear F1 N1
  intro h6 F6 N6
  (try dsimp only)
  have N7 : News g L' h6 ((I, o6) :: [(fb, _)]) := fun q hq => N6 q (by simp only [List.mem_cons, List.not_mem_nil, or_false] at hq ⊢; exact hq.symm)
  clear N6
  refine execsR_nil ?_
  (try dsimp only)
  refine execsR_nil ?_
  (try dsimp only)
  refine execsR_nil ?_
  (try dsimp only)
  (rename Fr _ _ _ _ => F1); (rename News _ _ _ _ => N1)
  have off1 : ∀ (ob : Obj), ∀ q ∈ [(fb, ob)], q.1 ≠ I := fun ob q hq => by rw [List.mem_singleton.mp hq]; exact off3 (fb, baOf #[]) (.head _)
  refine strDoneR (ty := strIterType tx1) hcalm (strIterType_or _) hc6 hd6 rfl F1 N1 (off1 _) ?_
  clear F1 N1
  intro h4 tk4 F4 N4
  (try dsimp only)
  refine execsR_cons (wpR_of ?_)
  (repeat' (first | (k_unfold; (try dsimp only)) | (k_end; wrow_close) | (with_reducible (k_here; (with_reducible show wpAny _ _ (call (Value.type "bytes") [Value.ref _]) _ _ _); (rename News _ _ _ _ => bN'); k_dflt (refine' bytes_of_ba (bN' (_, baOf _) ?m).1 ?z ?_; (case m => k_mem); (case z => decide +kernel); k_whole))) | walk1 | (dsimp only; walk1) | (leave1; try dsimp only)))

  all_goals (refine ret _ _ _ ?_ (keep_back _ hg (fun q hq => (hh0 q hq).1) (by k_asm) (by k_asm) (by repeat' (first | exact List.forall_mem_nil _ | refine fmc (fun _ => by k_mem) ?_ | refine fmc (fun h9 => absurd (by k_mem) h9) ?_))) (grown_back hz (by k_asm)))
  all_goals (try dsimp only)
  all_goals (exact bytes_is (by decide +kernel))

theorem utf8_ok {w : World} {p : Program} {loose : List Str} {mean : ExcName → Option Value} {mg mb : Str → Option Value} {h₀ : Heap} {A : Around} {s : Shared} {x : Str} {xt : Tok}
    (X : (Mine.myK w.params).In h₀) (T : Top p loose mean mg mb h₀) (st : h₀.StaysIn s.heap) (hroom : Room A 5) (hgd : A.guards = some []) (hx : x = tx0 ∨ x = tx1) :
    Calls7R PySem.Challenge.rw_xm0772_01.row.prog w A 581 [.str x xt] s [] (fun v _ => ∃ t, v = .bytes (utfL x).toArray t) := by
  rcases hx with rfl | rfl
  · exact utf8_nil X T st hroom hgd
  · exact utf8_one X T st hroom hgd

end
section -- K11
set_option maxHeartbeats 2000000


theorem serial_nil {w : World} {p : Program} {loose : List Str} {mean : ExcName → Option Value} {mg mb : Str → Option Value} {h₀ : Heap} {A : Around} {s : Shared} 
    (X : (Mine.myK w.params).In h₀) (T : Top p loose mean mg mb h₀) (st : h₀.StaysIn s.heap) (hroom : Room A 8)  :
    Calls7 PySem.Challenge.rw_xm0772_01.row.prog w A 666 [.none] s [] (fun v _ => ∃ t, v = .int 0 t) := by
  intro R ret
  have hcalm := hroom.calm
  revert X; k_fill; intro X
  have hh0 : ∀ q ∈ ([] : List (Addr × Obj)), s.heap.get? q.1 = some q.2 ∧ h₀.get? q.1 = none := List.forall_mem_nil _
  k_dflt (refine' enter (binds := [(Str.ofString "v", .none)]) _ X T st hh0 ?k6 ?k7 ?k8 ?k9 ?kB ?_ ?c2 ?c3 ?c4 ?c5)
  case k6 => k_is
  case k7 => k_is
  case k8 => exact hroom.now
  case k9 => first | exact BindsTo.of_eq rfl | exact binds_K (X.keeps st) rfl (by k_is) rfl rfl rfl
  case kB => exact locs rfl
  case c2 => exact rfl
  case c3 => exact rfl
  case c4 => exact rfl
  case c5 => decide
  intro g L' h₁ stg hz hg Xg Tg F N
  k_dflt (show wpAny _ (Around.deeper _ (envOf _ ⟨_, _, _, _, _⟩ _ _ _)) (execs (_ :: _) (envOf _ ⟨_, _, _, _, _⟩ _ _ _)) _ _ _)
  k_fold
  (repeat' (first | (k_unfold; (try dsimp only)) | (k_end; wrow_close) | (with_reducible (k_here; (with_reducible show wpAny _ _ (call (Value.ref 616) _) _ _ _); (rename Fr _ _ _ _ => cF'); (rename News _ _ _ _ => cN'); k_dflt (refine' use7t cF' cN' (class_none ?X ?T (stays_now ?st cF') ?room ) ?_); (case st => assumption); (case X => assumption); (case T => assumption); (case room => exact Room.deeper (by assumption) (by decide)); (intro _ _ _ _ _); (try clear cF' cN'))) | walk1 | (dsimp only; walk1) | (leave1; try dsimp only)))
  all_goals (refine ret _ _ _ ?_ (keep_back _ hg (fun q hq => (hh0 q hq).1) (by k_asm) (by k_asm) (by repeat' (first | exact List.forall_mem_nil _ | refine fmc (fun _ => by k_mem) ?_ | refine fmc (fun h9 => absurd (by k_mem) h9) ?_))) (grown_back hz (by k_asm)))
  all_goals (try dsimp only)
  all_goals (exact int_is rfl)

theorem serial_small {w : World} {p : Program} {loose : List Str} {mean : ExcName → Option Value} {mg mb : Str → Option Value} {h₀ : Heap} {A : Around} {s : Shared} {n : Int} {nt : Tok}
    (X : (Mine.myK w.params).In h₀) (T : Top p loose mean mg mb h₀) (st : h₀.StaysIn s.heap) (hroom : Room A 8) (h0 : -128 ≤ n) (h1 : n < 128) :
    Calls7 PySem.Challenge.rw_xm0772_01.row.prog w A 666 [.int n nt] s [] (fun v _ => ∃ t, v = .int (kindI n) t) := by
  intro R ret
  have hcalm := hroom.calm
  revert X; k_fill; intro X
  have hh0 : ∀ q ∈ ([] : List (Addr × Obj)), s.heap.get? q.1 = some q.2 ∧ h₀.get? q.1 = none := List.forall_mem_nil _
  k_dflt (refine' enter (binds := [(Str.ofString "v", .int n nt)]) _ X T st hh0 ?k6 ?k7 ?k8 ?k9 ?kB ?_ ?c2 ?c3 ?c4 ?c5)
  case k6 => k_is
  case k7 => k_is
  case k8 => exact hroom.now
  case k9 => first | exact BindsTo.of_eq rfl | exact binds_K (X.keeps st) rfl (by k_is) rfl rfl rfl
  case kB => exact locs rfl
  case c2 => exact rfl
  case c3 => exact rfl
  case c4 => exact rfl
  case c5 => decide
  intro g L' h₁ stg hz hg Xg Tg F N
  k_dflt (show wpAny _ (Around.deeper _ (envOf _ ⟨_, _, _, _, _⟩ _ _ _)) (execs (_ :: _) (envOf _ ⟨_, _, _, _, _⟩ _ _ _)) _ _ _)
  k_fold
  (repeat' (first | (k_unfold; (try dsimp only)) | (k_end; wrow_close) | (with_reducible (k_here; (with_reducible show wpAny _ _ (call (Value.ref 659) _) _ _ _); (rename Fr _ _ _ _ => cF'); (rename News _ _ _ _ => cN'); k_dflt (refine' use7t cF' cN' (number_small ?X ?T (stays_now ?st cF') ?room ?h0 ?h1) ?_); (case st => assumption); (case X => assumption); (case T => assumption); (case room => exact Room.deeper (by assumption) (by decide)); (case h0 => (with_reducible assumption)); (case h1 => (with_reducible assumption)); (intro _ _ _ _ _); (try clear cF' cN'))) | (with_reducible (k_here; (with_reducible show wpAny _ _ (call (Value.ref 616) _) _ _ _); (rename Fr _ _ _ _ => cF'); (rename News _ _ _ _ => cN'); k_dflt (refine' use7t cF' cN' (class_int ?X ?T (stays_now ?st cF') ?room ) ?_); (case st => assumption); (case X => assumption); (case T => assumption); (case room => exact Room.deeper (by assumption) (by decide)); (intro _ _ _ _ _); (try clear cF' cN'))) | walk1 | (dsimp only; walk1) | (leave1; try dsimp only)))
  all_goals (refine ret _ _ _ ?_ (keep_back _ hg (fun q hq => (hh0 q hq).1) (by k_asm) (by k_asm) (by repeat' (first | exact List.forall_mem_nil _ | refine fmc (fun _ => by k_mem) ?_ | refine fmc (fun h9 => absurd (by k_mem) h9) ?_))) (grown_back hz (by k_asm)))
  all_goals (try dsimp only)
  all_goals (exact int_is rfl)

theorem serial_big {w : World} {p : Program} {loose : List Str} {mean : ExcName → Option Value} {mg mb : Str → Option Value} {h₀ : Heap} {A : Around} {s : Shared} {nt : Tok}
    (X : (Mine.myK w.params).In h₀) (T : Top p loose mean mg mb h₀) (st : h₀.StaysIn s.heap) (hroom : Room A 8)  :
    Calls7 PySem.Challenge.rw_xm0772_01.row.prog w A 666 [.int 9223372036854775807 nt] s [] (fun v _ => ∃ t, v = .int (kindI 9223372036854775807) t) := by
  intro R ret
  have hcalm := hroom.calm
  revert X; k_fill; intro X
  have hh0 : ∀ q ∈ ([] : List (Addr × Obj)), s.heap.get? q.1 = some q.2 ∧ h₀.get? q.1 = none := List.forall_mem_nil _
  k_dflt (refine' enter (binds := [(Str.ofString "v", .int 9223372036854775807 nt)]) _ X T st hh0 ?k6 ?k7 ?k8 ?k9 ?kB ?_ ?c2 ?c3 ?c4 ?c5)
  case k6 => k_is
  case k7 => k_is
  case k8 => exact hroom.now
  case k9 => first | exact BindsTo.of_eq rfl | exact binds_K (X.keeps st) rfl (by k_is) rfl rfl rfl
  case kB => exact locs rfl
  case c2 => exact rfl
  case c3 => exact rfl
  case c4 => exact rfl
  case c5 => decide
  intro g L' h₁ stg hz hg Xg Tg F N
  k_dflt (show wpAny _ (Around.deeper _ (envOf _ ⟨_, _, _, _, _⟩ _ _ _)) (execs (_ :: _) (envOf _ ⟨_, _, _, _, _⟩ _ _ _)) _ _ _)
  k_fold
  (repeat' (first | (k_unfold; (try dsimp only)) | (k_end; wrow_close) | (with_reducible (k_here; (with_reducible show wpAny _ _ (call (Value.ref 659) _) _ _ _); (rename Fr _ _ _ _ => cF'); (rename News _ _ _ _ => cN'); k_dflt (refine' use7t cF' cN' (number_big ?X ?T (stays_now ?st cF') ?room ) ?_); (case st => assumption); (case X => assumption); (case T => assumption); (case room => exact Room.deeper (by assumption) (by decide)); (intro _ _ _ _ _); (try clear cF' cN'))) | (with_reducible (k_here; (with_reducible show wpAny _ _ (call (Value.ref 616) _) _ _ _); (rename Fr _ _ _ _ => cF'); (rename News _ _ _ _ => cN'); k_dflt (refine' use7t cF' cN' (class_int ?X ?T (stays_now ?st cF') ?room ) ?_); (case st => assumption); (case X => assumption); (case T => assumption); (case room => exact Room.deeper (by assumption) (by decide)); (intro _ _ _ _ _); (try clear cF' cN'))) | walk1 | (dsimp only; walk1) | (leave1; try dsimp only)))
  all_goals (refine ret _ _ _ ?_ (keep_back _ hg (fun q hq => (hh0 q hq).1) (by k_asm) (by k_asm) (by repeat' (first | exact List.forall_mem_nil _ | refine fmc (fun _ => by k_mem) ?_ | refine fmc (fun h9 => absurd (by k_mem) h9) ?_))) (grown_back hz (by k_asm)))
  all_goals (try dsimp only)
  all_goals (exact int_is rfl)

theorem serial_low {w : World} {p : Program} {loose : List Str} {mean : ExcName → Option Value} {mg mb : Str → Option Value} {h₀ : Heap} {A : Around} {s : Shared} {nt : Tok}
    (X : (Mine.myK w.params).In h₀) (T : Top p loose mean mg mb h₀) (st : h₀.StaysIn s.heap) (hroom : Room A 8)  :
    Calls7 PySem.Challenge.rw_xm0772_01.row.prog w A 666 [.int (-9223372036854775808) nt] s [] (fun v _ => ∃ t, v = .int (kindI (-9223372036854775808)) t) := by
  intro R ret
  have hcalm := hroom.calm
  revert X; k_fill; intro X
  have hh0 : ∀ q ∈ ([] : List (Addr × Obj)), s.heap.get? q.1 = some q.2 ∧ h₀.get? q.1 = none := List.forall_mem_nil _
  k_dflt (refine' enter (binds := [(Str.ofString "v", .int (-9223372036854775808) nt)]) _ X T st hh0 ?k6 ?k7 ?k8 ?k9 ?kB ?_ ?c2 ?c3 ?c4 ?c5)
  case k6 => k_is
  case k7 => k_is
  case k8 => exact hroom.now
  case k9 => first | exact BindsTo.of_eq rfl | exact binds_K (X.keeps st) rfl (by k_is) rfl rfl rfl
  case kB => exact locs rfl
  case c2 => exact rfl
  case c3 => exact rfl
  case c4 => exact rfl
  case c5 => decide
  intro g L' h₁ stg hz hg Xg Tg F N
  k_dflt (show wpAny _ (Around.deeper _ (envOf _ ⟨_, _, _, _, _⟩ _ _ _)) (execs (_ :: _) (envOf _ ⟨_, _, _, _, _⟩ _ _ _)) _ _ _)
  k_fold
  (repeat' (first | (k_unfold; (try dsimp only)) | (k_end; wrow_close) | (with_reducible (k_here; (with_reducible show wpAny _ _ (call (Value.ref 659) _) _ _ _); (rename Fr _ _ _ _ => cF'); (rename News _ _ _ _ => cN'); k_dflt (refine' use7t cF' cN' (number_low ?X ?T (stays_now ?st cF') ?room ) ?_); (case st => assumption); (case X => assumption); (case T => assumption); (case room => exact Room.deeper (by assumption) (by decide)); (intro _ _ _ _ _); (try clear cF' cN'))) | (with_reducible (k_here; (with_reducible show wpAny _ _ (call (Value.ref 616) _) _ _ _); (rename Fr _ _ _ _ => cF'); (rename News _ _ _ _ => cN'); k_dflt (refine' use7t cF' cN' (class_int ?X ?T (stays_now ?st cF') ?room ) ?_); (case st => assumption); (case X => assumption); (case T => assumption); (case room => exact Room.deeper (by assumption) (by decide)); (intro _ _ _ _ _); (try clear cF' cN'))) | walk1 | (dsimp only; walk1) | (leave1; try dsimp only)))
  all_goals (refine ret _ _ _ ?_ (keep_back _ hg (fun q hq => (hh0 q hq).1) (by k_asm) (by k_asm) (by repeat' (first | exact List.forall_mem_nil _ | refine fmc (fun _ => by k_mem) ?_ | refine fmc (fun h9 => absurd (by k_mem) h9) ?_))) (grown_back hz (by k_asm)))
  all_goals (try dsimp only)
  all_goals (exact int_is rfl)

theorem serial_bytes {w : World} {p : Program} {loose : List Str} {mean : ExcName → Option Value} {mg mb : Str → Option Value} {h₀ : Heap} {A : Around} {s : Shared} {l : List UInt8} {nt : Tok}
    (X : (Mine.myK w.params).In h₀) (T : Top p loose mean mg mb h₀) (st : h₀.StaysIn s.heap) (hroom : Room A 8) (hl : l.length ≤ 1000) :
    Calls7 PySem.Challenge.rw_xm0772_01.row.prog w A 666 [.bytes l.toArray nt] s [] (fun v _ => ∃ t, v = .int (12 + 2 * (l.length : Int)) t) := by
  intro R ret
  have hcalm := hroom.calm
  revert X; k_fill; intro X
  have hh0 : ∀ q ∈ ([] : List (Addr × Obj)), s.heap.get? q.1 = some q.2 ∧ h₀.get? q.1 = none := List.forall_mem_nil _
  k_dflt (refine' enter (binds := [(Str.ofString "v", .bytes l.toArray nt)]) _ X T st hh0 ?k6 ?k7 ?k8 ?k9 ?kB ?_ ?c2 ?c3 ?c4 ?c5)
  case k6 => k_is
  case k7 => k_is
  case k8 => exact hroom.now
  case k9 => first | exact BindsTo.of_eq rfl | exact binds_K (X.keeps st) rfl (by k_is) rfl rfl rfl
  case kB => exact locs rfl
  case c2 => exact rfl
  case c3 => exact rfl
  case c4 => exact rfl
  case c5 => decide
  intro g L' h₁ stg hz hg Xg Tg F N
  k_dflt (show wpAny _ (Around.deeper _ (envOf _ ⟨_, _, _, _, _⟩ _ _ _)) (execs (_ :: _) (envOf _ ⟨_, _, _, _, _⟩ _ _ _)) _ _ _)
  k_fold
  (repeat' (first | (k_unfold; (try dsimp only)) | (k_end; wrow_close) | (with_reducible ((with_reducible show wpAny _ _ (binaryOp Operator.Add (Value.int _ _) (Value.int _ _)) _ _ _); (with_reducible refine addI ?_))) | (with_reducible (k_here; (with_reducible show wpAny _ _ (call (Value.ref 616) _) _ _ _); (rename Fr _ _ _ _ => cF'); (rename News _ _ _ _ => cN'); k_dflt (refine' use7t cF' cN' (class_bytes ?X ?T (stays_now ?st cF') ?room ) ?_); (case st => assumption); (case X => assumption); (case T => assumption); (case room => exact Room.deeper (by assumption) (by decide)); (intro _ _ _ _ _); (try clear cF' cN'))) | walk1 | (dsimp only; walk1) | (leave1; try dsimp only)))
  all_goals (refine ret _ _ _ ?_ (keep_back _ hg (fun q hq => (hh0 q hq).1) (by k_asm) (by k_asm) (by repeat' (first | exact List.forall_mem_nil _ | refine fmc (fun _ => by k_mem) ?_ | refine fmc (fun h9 => absurd (by k_mem) h9) ?_))) (grown_back hz (by k_asm)))
  all_goals (try dsimp only)
  all_goals (exact int_is (by simp))

end
section -- K12
set_option maxHeartbeats 2000000


theorem serial_str {w : World} {p : Program} {loose : List Str} {mean : ExcName → Option Value} {mg mb : Str → Option Value} {h₀ : Heap} {A : Around} {s : Shared} {x : Str} {nt : Tok}
    (X : (Mine.myK w.params).In h₀) (T : Top p loose mean mg mb h₀) (st : h₀.StaysIn s.heap) (hroom : Room A 8) (hgd : A.guards = some []) (hx : x = tx0 ∨ x = tx1) :
    Calls7R PySem.Challenge.rw_xm0772_01.row.prog w A 666 [.str x nt] s [] (fun v _ => ∃ t, v = .int (13 + 2 * ((utfL x).length : Int)) t) := by
  intro R ret
  have hcalm := hroom.calm
  revert X; k_fill; intro X
  have hh0 : ∀ q ∈ ([] : List (Addr × Obj)), s.heap.get? q.1 = some q.2 ∧ h₀.get? q.1 = none := List.forall_mem_nil _
  k_dflt (refine' enterR (binds := [(Str.ofString "v", .str x nt)]) _ X T st hh0 ?k6 ?k7 ?k8 ?k9 ?kB ?_ ?c2 ?c3 ?c4 ?c5)
  case k6 => k_is
  case k7 => k_is
  case k8 => exact hroom.now
  case k9 => first | exact BindsTo.of_eq rfl | exact binds_K (X.keeps st) rfl (by k_is) rfl rfl rfl
  case kB => exact locs rfl
  case c2 => exact rfl
  case c3 => exact rfl
  case c4 => exact rfl
  case c5 => decide
  intro g L' h₁ stg hz hg Xg Tg F N
  k_dflt (show wpR _ (Around.deeper _ (envOf _ ⟨_, _, _, _, _⟩ _ _ _)) (execs (_ :: _) (envOf _ ⟨_, _, _, _, _⟩ _ _ _)) _ _ _)
  have hul := utfL_len x
  k_dflt (refine execsR_cons (wpR_of ?_))
  (repeat' (first | (k_unfold; (try dsimp only)) | (k_end; wrow_close) | (with_reducible (k_here; (with_reducible show wpAny _ _ (call (Value.ref 616) _) _ _ _); (rename Fr _ _ _ _ => cF'); (rename News _ _ _ _ => cN'); k_dflt (refine' use7t cF' cN' (class_str ?X ?T (stays_now ?st cF') ?room ) ?_); (case st => assumption); (case X => assumption); (case T => assumption); (case room => exact Room.deeper (by assumption) (by decide)); (intro _ _ _ _ _); (try clear cF' cN'))) | walk1 | (dsimp only; walk1) | (leave1; try dsimp only)))
  k_dflt (refine execsR_cons (ifR (wpR_of ?_)))
  k_steps
  refine execsR_nil ?_
  (try dsimp only)
  k_dflt (refine execsR_cons (ifR (wpR_of ?_)))
  k_steps
  refine execsR_nil ?_
  (try dsimp only)
  k_dflt (refine execsR_cons (ifR (wpR_of ?_)))
  k_steps
  k_dflt (refine execsR_cons (returnR (binOpR (wpR_of ?_))))
  k_steps
  k_dflt (refine binOpR (wpR_of ?_))
  k_steps
  k_dflt (refine callR ?_)
  k_steps
  k_dflt (refine callWithR_builtin (argsR_cons (callR ?_)))
  k_steps
  k_dflt (refine callWithR_K (K := Mine.myK w.params) (by k_is) (argsR_cons (wpR_of ?_)))
  k_steps
  refine argsR_nil ?_
  (try dsimp only [List.nil_append, List.cons_append])
  (rename Fr _ _ _ _ => F1); (rename News _ _ _ _ => N1)
  refine ⟨Xg.keeps F1.keep, use7R F1 N1 (utf8_ok X T (stays_now stg F1) (hroom.deeper (by decide)) hgd hx) ?_⟩
  clear F1 N1
  intro v' h' tk' hJ9p3 F' N'
  refine hide fun G9 k9 => ?_
  obtain ⟨t', rfl⟩ := hJ9p3
  refine k9 ?_
  clear k9 G9
  refine argsR_nil ?_
  (try dsimp only [List.nil_append, List.cons_append])
  refine wpR_of ?_
  (repeat' (first | (k_unfold; (try dsimp only)) | (k_end; wrow_close) | (with_reducible ((with_reducible show wpAny _ _ (binaryOp Operator.Add (Value.int _ _) (Value.int _ _)) _ _ _); (with_reducible refine addI ?_))) | walk1 | (dsimp only; walk1) | (leave1; try dsimp only)))

  all_goals (refine ret _ _ _ ?_ (keep_back _ hg (fun q hq => (hh0 q hq).1) (by k_asm) (by k_asm) (by repeat' (first | exact List.forall_mem_nil _ | refine fmc (fun _ => by k_mem) ?_ | refine fmc (fun h9 => absurd (by k_mem) h9) ?_))) (grown_back hz (by k_asm)))
  all_goals (try dsimp only)
  all_goals (exact int_is (by simp))

end
section -- K7
set_option maxHeartbeats 2000000

def putMap (rest n size found : Value) (m0 : Str → Option Value) : Str → Option Value := fun y => if y = Str.ofString "rest" then some rest else if y = Str.ofString "n" then some n else if y = Str.ofString "size" then some size else if y = Str.ofString "found" then some found else m0 y

theorem put_fixed_ok {w : World} {p : Program} {loose : List Str} {mean : ExcName → Option Value} {mg mb : Str → Option Value} {h₀ : Heap} {A : Around} {s : Shared} {n z : Int} {nt zt : Tok}
    (X : (Mine.myK w.params).In h₀) (T : Top p loose mean mg mb h₀) (st : h₀.StaysIn s.heap) (hroom : Room A 5) (hz0 : 0 ≤ z) (hz8 : z ≤ 8) :
    Calls7 PySem.Challenge.rw_xm0772_01.row.prog w A 645 [.int n nt, .int z zt] s [] (fun v _ => ∃ t, v = .bytes (byteArr (octsAt n z.toNat z.toNat).reverse) t) := by
  intro R ret
  have hcalm := hroom.calm
  revert X; k_fill; intro X
  have hh0 : ∀ q ∈ ([] : List (Addr × Obj)), s.heap.get? q.1 = some q.2 ∧ h₀.get? q.1 = none := List.forall_mem_nil _
  k_dflt (refine' enter (binds := [(Str.ofString "n", .int n nt), (Str.ofString "size", .int z zt)]) _ X T st hh0 ?k6 ?k7 ?k8 ?k9 ?kB ?_ ?c2 ?c3 ?c4 ?c5)
  case k6 => k_is
  case k7 => k_is
  case k8 => exact hroom.now
  case k9 => first | exact BindsTo.of_eq rfl | exact binds_K (X.keeps st) rfl (by k_is) rfl rfl rfl
  case kB => exact locs rfl
  case c2 => exact rfl
  case c3 => exact rfl
  case c4 => exact rfl
  case c5 => decide
  intro g L' h₁ stg hz hg Xg Tg F N
  k_dflt (show wpAny _ (Around.deeper _ (envOf _ ⟨_, _, _, _, _⟩ _ _ _)) (execs (_ :: _) (envOf _ ⟨_, _, _, _, _⟩ _ _ _)) _ _ _)
  k_fold
  (repeat' (first | (k_unfold; (try dsimp only)) | (k_end; wrow_close) | (with_reducible ((with_reducible show wpAny _ _ (binaryOp Operator.Mod (Value.int _ _) (Value.int _ _)) _ _ _); k_dflt (refine mod_to _ (pow256_pos _) rfl ?_))) | (with_reducible ((with_reducible show wpAny _ _ (binaryOp Operator.Pow (Value.int _ _) (Value.int _ _)) _ _ _); k_dflt (refine pow_to _ (by assumption) (by ((with_reducible refine i1 (by assumption) ?_); rfl)) (by decide) rfl ?_))) | (with_reducible ((with_reducible show wpAny _ _ (pyIter (Value.ref _)) _ _ _); refine hold ?_)) | (with_reducible ((with_reducible show wpAny _ _ (call (Value.type "range") _) _ _ _); k_here; (rename Fr _ _ _ _ => cF'); (rename News _ _ _ _ => cN'); k_dflt (first | (refine range1_rows cF' cN' ?_) | (refine range2_rows cF' cN' ?_)); clear cF' cN'; intro _ _ _ _ _ _ _ _ k'; clear k')) | (with_reducible (k_here; (with_reducible show wpAny _ _ (newList _) _ _ _); k_dflt (refine' newL ?k1 ?k2 ?_ ?z; (case k1 => k_asm); (case k2 => k_asm); (case z => first | exact sz0 | exact sz1 | exact sz2 | exact sz3 | size_fits); k_whole); intro _ _ _ _ l1; (try k_lt l1); (try (revert l1; intros)); (try k_sweep))) | walk1 | (dsimp only; walk1) | (leave1; try dsimp only)))
  unfold Hold
  rename_i h9 l9 h8 l8 h7 h6 tk9 t9 u9 v9 R9 F9 N9
  refine hide fun G9 k9 => ?_
  obtain ⟨rt0, F10⟩ : ∃ rt0, Fr g L' h6 (fun y => if y = Str.ofString "found" then some (.ref l9) else if y = Str.ofString "rest" then some (.int (n % 256 ^ z.toNat) rt0) else List.lookup y [(Str.ofString "n", Value.int n nt), (Str.ofString "size", Value.int z zt)].reverse) := ⟨_, F9⟩
  refine k9 ?_
  clear k9 G9
  clear F9
  refine forRange (L := L') z.toNat (fun i m news => ∃ (vs : List Value) (k : Nat) (rt : Tok) (m0 : Str → Option Value), IntsAre vs (octsAt n z.toNat i) ∧ news = [(l9, W.listOf vs.toArray k)] ∧ ∀ y, m y = putMap (.int (restAt n z.toNat i) rt) (.int n nt) (.int z zt) (.ref l9) m0 y) hcalm rfl R9 (by decide) (by ((with_reducible refine i1 (by assumption) ?_); rfl)) (by (with_reducible exact s5 (by assumption))) F10 N9 ⟨[], 0, rt0, fun _ => none, .nil, rfl, fun y => ?m1⟩ ?step ?fin
  case m1 =>
    rw [restAt_zero]
    unfold putMap
    by_cases h0 : y = Str.ofString "rest"
    · subst h0; rfl
    by_cases h1 : y = Str.ofString "n"
    · subst h1; rfl
    by_cases h2 : y = Str.ofString "size"
    · subst h2; rfl
    by_cases h3 : y = Str.ofString "found"
    · subst h3; rfl
    simp only [h0, h1, h2, h3, if_false]
    have e1 : (y == Str.ofString "n") = false := by simpa using h1
    have e2 : (y == Str.ofString "size") = false := by simpa using h2
    simp only [List.reverse_cons, List.reverse_nil, List.nil_append, List.cons_append, List.lookup_cons, List.lookup_nil, e1, e2]
  case step =>
    clear F10 N9 R9
    intro i t m news I o h tk hi hJ9 off F4 N4
    k_fold
    (refine ex4 (hJ9) fun vs k rt m0 hE9 => an3 hE9 ?_; clear hE9; rintro hvs rfl hm; (try clear hJ9))
    have F5 : Fr g L' h (fun y => if y = Str.ofString "turn" then some (.int (0 + (i : Int)) t) else putMap (.int (restAt n z.toNat i) rt) (.int n nt) (.int z zt) (.ref l9) m0 y) := fr_eq F4 fun y => by simp only [hm]
    clear F4 hm
    unfold putMap at F5
    have hvl := hvs.length
    rw [octsAt_len] at hvl
    have d1 := neLt (off _ (.head _))
    (repeat' (first | (k_unfold; (try dsimp only)) | (k_end; wrow_close) | (with_reducible (k_here; (with_reducible show wpAny _ _ (inplaceOp Operator.RShift (Value.int _ _) (Value.int _ _)) _ _ _); k_dflt (first | (refine' irshift_to _ _ ?k1 ?k2 ?k3 ?_; (case k1 => decide); (case k2 => exact rfl); (case k3 => (simp only [Int.reducePow, Int.reduceToNat, Int.reduceDiv, Int.reduceNeg]; rfl)); k_whole) | (refine' irshift_small ?k1 ?k2 ?k3 ?_; (case k1 => decide); (case k2 => omega); (case k3 => first | (show _ < (2 : Int) ^ (7 : Nat); omega) | (show _ < (2 : Int) ^ (8 : Nat); omega)); k_whole)))) | (with_reducible (k_here; first | ((with_reducible show wpAny _ _ (binaryOp Operator.BitAnd (Value.int _ _) (Value.int 127 _)) _ _ _); k_dflt (first | (refine' and127_to _ ?k2 ?_; (case k2 => (simp only [Int.reduceMod, Int.reduceNeg]; rfl)); k_whole) | (refine' and7_small ?k1 ?k2 ?_; (case k1 => omega); (case k2 => omega); k_whole) | (refine' and127_to _ ?k2 ?_; (case k2 => rfl); k_whole))) | ((with_reducible show wpAny _ _ (binaryOp Operator.BitAnd (Value.int _ _) (Value.int 255 _)) _ _ _); k_dflt (first | (refine' and255_to _ ?k2 ?_; (case k2 => (simp only [Int.reduceMod, Int.reduceNeg]; rfl)); k_whole) | (refine' and255_small ?k1 ?k2 ?_; (case k1 => omega); (case k2 => omega); k_whole) | (refine' and255_to _ ?k2 ?_; (case k2 => rfl); k_whole))))) | walk1 | (dsimp only; walk1) | (leave1; try dsimp only)))
    (rename Fr _ _ _ _ => F6); (rename News _ _ _ _ => N6)
    refine hide fun G9 k9 => ?_
    obtain ⟨tq, N7⟩ : ∃ tq, News g L' _ [(I, o), (l9, W.listOf (vs.toArray.push (.int (restAt n z.toNat i % 256) tq)) (k + 1))] := ⟨_, N6⟩
    refine k9 ?_
    clear k9 G9
    refine hide fun G9 k9 => ?_
    obtain ⟨tr, F7⟩ : ∃ tr, Fr g L' _ (fun y => if y = Str.ofString "rest" then some (.int (restAt n z.toNat i / 256) tr) else if y = Str.ofString "turn" then some (.int (0 + (i : Int)) t) else if y = Str.ofString "rest" then some (.int (restAt n z.toNat i) rt) else if y = Str.ofString "n" then some (.int n nt) else if y = Str.ofString "size" then some (.int z zt) else if y = Str.ofString "found" then some (.ref l9) else m0 y) := ⟨_, F6⟩
    refine k9 ?_
    clear k9 G9
    refine TurnedF.intro F7 N7 [(l9, W.listOf (vs ++ [Value.int (restAt n z.toNat i % 256) tq]).toArray (k + 1))] _ (fun q hq => ?_) (fun q hq => ?_) (fun y => ?_) ⟨_, k + 1, tr, (fun y => if y = Str.ofString "turn" then some (.int (0 + (i : Int)) t) else m0 y), octsAt_succ n z.toNat i ▸ intsAre_snoc hvs, rfl, fun y => rfl⟩
    · rw [← List.push_toArray] at hq; exact hq
    · rw [List.mem_singleton.mp hq]; exact off (l9, W.listOf vs.toArray k) (.head _)
    · rw [restAt_succ]
      unfold putMap
      by_cases h0 : y = Str.ofString "turn"
      · subst h0; rfl
      by_cases h1 : y = Str.ofString "rest"
      · subst h1; rfl
      by_cases h2 : y = Str.ofString "n"
      · subst h2; rfl
      by_cases h3 : y = Str.ofString "size"
      · subst h3; rfl
      by_cases h4 : y = Str.ofString "found"
      · subst h4; rfl
      simp only [h0, h1, h2, h3, h4, if_false]
  case fin =>
    clear F10 N9 R9
    intro h tk m news hJ9p4 F4 N4
    refine hide fun G9 k9 => ?_
    obtain ⟨vs, k, rt, m0, hvs, rfl, hm⟩ := hJ9p4
    refine k9 ?_
    clear k9 G9
    have F5 := fr_eq F4 hm
    clear F4 hm
    unfold putMap at F5
    have hvl := hvs.length
    rw [octsAt_len] at hvl
    have hrev : IntsAre vs.toArray.toList.reverse (octsAt n z.toNat z.toNat).reverse := hvs.reverse
    have hrl : vs.toArray.toList.reverse.length ≤ 1000 := by rw [List.length_reverse]; show vs.length ≤ 1000; ((with_reducible refine q5 (by assumption) (by assumption) ?_); rfl)
    have hlt : ∀ x ∈ (octsAt n z.toNat z.toNat).reverse, 0 ≤ x ∧ x < 256 := fun x hx => octsAt_lt x (List.mem_reverse.mp hx)
    (repeat' (first | (k_unfold; (try dsimp only)) | (k_end; wrow_close) | (with_reducible ((with_reducible show wpAny _ _ (call (Value.type "bytes") _) _ _ _); k_dflt (refine bytes_own (by k_asm) (by k_asm) (by k_mem) (by assumption) (by assumption) (by assumption) (by assumption) ?_); intro _ _ _ _ _)) | walk1 | (dsimp only; walk1) | (leave1; try dsimp only)))
    refine ret _ _ _ ⟨_, rfl⟩ (keep_back _ hg (fun q hq => (hh0 q hq).1) (by k_asm) (by k_asm) (List.forall_mem_nil _)) (grown_back hz (by k_asm))

theorem put_fixed_1 {w : World} {p : Program} {loose : List Str} {mean : ExcName → Option Value} {mg mb : Str → Option Value} {h₀ : Heap} {A : Around} {s : Shared} {n : Int} {nt zt : Tok} (X : (Mine.myK w.params).In h₀) (T : Top p loose mean mg mb h₀) (st : h₀.StaysIn s.heap) (hroom : Room A 5) (h0 : -128 ≤ n) (h1 : n < 128) :
    Calls7 PySem.Challenge.rw_xm0772_01.row.prog w A 645 [.int n nt, .int 1 zt] s [] (fun v _ => ∃ t, v = .bytes [(n % 256).toNat.toUInt8].toArray t) :=
  (put_fixed_ok X T st hroom (by decide) (by decide)).weaken fun v _ ⟨t, e⟩ => ⟨t, by
    rw [e]; simp [octsAt, restAt, byteArr, List.range_succ]⟩
theorem put_fixed_big {w : World} {p : Program} {loose : List Str} {mean : ExcName → Option Value} {mg mb : Str → Option Value} {h₀ : Heap} {A : Around} {s : Shared} {nt zt : Tok} (X : (Mine.myK w.params).In h₀) (T : Top p loose mean mg mb h₀) (st : h₀.StaysIn s.heap) (hroom : Room A 5) :
    Calls7 PySem.Challenge.rw_xm0772_01.row.prog w A 645 [.int 9223372036854775807 nt, .int 8 zt] s [] (fun v _ => ∃ t, v = .bytes [127, 255, 255, 255, 255, 255, 255, 255].toArray t) :=
  (put_fixed_ok X T st hroom (by decide) (by decide)).weaken fun v _ ⟨t, e⟩ => ⟨t, by rw [e, show byteArr (octsAt 9223372036854775807 (Int.toNat 8) (Int.toNat 8)).reverse = [127, 255, 255, 255, 255, 255, 255, 255].toArray from by decide +kernel]⟩
theorem put_fixed_low {w : World} {p : Program} {loose : List Str} {mean : ExcName → Option Value} {mg mb : Str → Option Value} {h₀ : Heap} {A : Around} {s : Shared} {nt zt : Tok} (X : (Mine.myK w.params).In h₀) (T : Top p loose mean mg mb h₀) (st : h₀.StaysIn s.heap) (hroom : Room A 5) :
    Calls7 PySem.Challenge.rw_xm0772_01.row.prog w A 645 [.int (-9223372036854775808) nt, .int 8 zt] s [] (fun v _ => ∃ t, v = .bytes [128, 0, 0, 0, 0, 0, 0, 0].toArray t) :=
  (put_fixed_ok X T st hroom (by decide) (by decide)).weaken fun v _ ⟨t, e⟩ => ⟨t, by rw [e, show byteArr (octsAt (-9223372036854775808) (Int.toNat 8) (Int.toNat 8)).reverse = [128, 0, 0, 0, 0, 0, 0, 0].toArray from by decide +kernel]⟩

end
section -- K13
set_option maxHeartbeats 2000000


theorem body_nil {w : World} {p : Program} {loose : List Str} {mean : ExcName → Option Value} {mg mb : Str → Option Value} {h₀ : Heap} {A : Around} {s : Shared} {kt : Tok}
    (X : (Mine.myK w.params).In h₀) (T : Top p loose mean mg mb h₀) (st : h₀.StaysIn s.heap) (hroom : Room A 8)  :
    Calls7 PySem.Challenge.rw_xm0772_01.row.prog w A 680 [.none, .int 0 kt] s [] (fun v _ => ∃ t, v = .bytes ([] : List UInt8).toArray t) := by
  intro R ret
  have hcalm := hroom.calm
  revert X; k_fill; intro X
  have hh0 : ∀ q ∈ ([] : List (Addr × Obj)), s.heap.get? q.1 = some q.2 ∧ h₀.get? q.1 = none := List.forall_mem_nil _
  k_dflt (refine' enter (binds := [(Str.ofString "v", .none), (Str.ofString "kind", .int 0 kt)]) _ X T st hh0 ?k6 ?k7 ?k8 ?k9 ?kB ?_ ?c2 ?c3 ?c4 ?c5)
  case k6 => k_is
  case k7 => k_is
  case k8 => exact hroom.now
  case k9 => first | exact BindsTo.of_eq rfl | exact binds_K (X.keeps st) rfl (by k_is) rfl rfl rfl
  case kB => exact locs rfl
  case c2 => exact rfl
  case c3 => exact rfl
  case c4 => exact rfl
  case c5 => decide
  intro g L' h₁ stg hz hg Xg Tg F N
  k_dflt (show wpAny _ (Around.deeper _ (envOf _ ⟨_, _, _, _, _⟩ _ _ _)) (execs (_ :: _) (envOf _ ⟨_, _, _, _, _⟩ _ _ _)) _ _ _)
  k_fold
  k_steps
  all_goals (refine ret _ _ _ ?_ (keep_back _ hg (fun q hq => (hh0 q hq).1) (by k_asm) (by k_asm) (by repeat' (first | exact List.forall_mem_nil _ | refine fmc (fun _ => by k_mem) ?_ | refine fmc (fun h9 => absurd (by k_mem) h9) ?_))) (grown_back hz (by k_asm)))
  all_goals (try dsimp only)
  all_goals (exact bytes_is rfl)

theorem body_none8 {w : World} {p : Program} {loose : List Str} {mean : ExcName → Option Value} {mg mb : Str → Option Value} {h₀ : Heap} {A : Around} {s : Shared} {n k : Int} {nt kt : Tok}
    (X : (Mine.myK w.params).In h₀) (T : Top p loose mean mg mb h₀) (st : h₀.StaysIn s.heap) (hroom : Room A 8) (hk : k = 8 ∨ k = 9) :
    Calls7 PySem.Challenge.rw_xm0772_01.row.prog w A 680 [.int n nt, .int k kt] s [] (fun v _ => ∃ t, v = .bytes ([] : List UInt8).toArray t) := by
  intro R ret
  have hcalm := hroom.calm
  revert X; k_fill; intro X
  have hh0 : ∀ q ∈ ([] : List (Addr × Obj)), s.heap.get? q.1 = some q.2 ∧ h₀.get? q.1 = none := List.forall_mem_nil _
  k_dflt (refine' enter (binds := [(Str.ofString "v", .int n nt), (Str.ofString "kind", .int k kt)]) _ X T st hh0 ?k6 ?k7 ?k8 ?k9 ?kB ?_ ?c2 ?c3 ?c4 ?c5)
  case k6 => k_is
  case k7 => k_is
  case k8 => exact hroom.now
  case k9 => first | exact BindsTo.of_eq rfl | exact binds_K (X.keeps st) rfl (by k_is) rfl rfl rfl
  case kB => exact locs rfl
  case c2 => exact rfl
  case c3 => exact rfl
  case c4 => exact rfl
  case c5 => decide
  intro g L' h₁ stg hz hg Xg Tg F N
  k_dflt (show wpAny _ (Around.deeper _ (envOf _ ⟨_, _, _, _, _⟩ _ _ _)) (execs (_ :: _) (envOf _ ⟨_, _, _, _, _⟩ _ _ _)) _ _ _)
  k_fold
  rcases hk with rfl | rfl
  all_goals (repeat' (first | (k_unfold; (try dsimp only)) | (k_end; wrow_close) | (with_reducible (k_here; (with_reducible show wpAny _ _ (newTuple _) _ _ _); kup_bare; k_dflt (refine' newT ?F ?N ?_ ?z; (case F => k_asm); (case N => k_asm); (case z => first | exact sz0 | exact sz1 | exact sz2 | exact sz3 | kmk_size)); intro _ _ _ _ l1; (try k_lt l1); (try (revert l1; intros)); (try k_sweep))) | walk1 | (dsimp only; walk1) | (leave1; try dsimp only)))
  all_goals (refine ret _ _ _ ?_ (keep_back _ hg (fun q hq => (hh0 q hq).1) (by k_asm) (by k_asm) (by repeat' (first | exact List.forall_mem_nil _ | refine fmc (fun _ => by k_mem) ?_ | refine fmc (fun h9 => absurd (by k_mem) h9) ?_))) (grown_back hz (by k_asm)))
  all_goals (try dsimp only)
  all_goals (exact bytes_is rfl)

theorem body_one {w : World} {p : Program} {loose : List Str} {mean : ExcName → Option Value} {mg mb : Str → Option Value} {h₀ : Heap} {A : Around} {s : Shared} {n : Int} {nt kt : Tok}
    (X : (Mine.myK w.params).In h₀) (T : Top p loose mean mg mb h₀) (st : h₀.StaysIn s.heap) (hroom : Room A 8) (h0 : -128 ≤ n) (h1 : n < 128) :
    Calls7 PySem.Challenge.rw_xm0772_01.row.prog w A 680 [.int n nt, .int 1 kt] s [] (fun v _ => ∃ t, v = .bytes [(n % 256).toNat.toUInt8].toArray t) := by
  intro R ret
  have hcalm := hroom.calm
  revert X; k_fill; intro X
  have hh0 : ∀ q ∈ ([] : List (Addr × Obj)), s.heap.get? q.1 = some q.2 ∧ h₀.get? q.1 = none := List.forall_mem_nil _
  k_dflt (refine' enter (binds := [(Str.ofString "v", .int n nt), (Str.ofString "kind", .int 1 kt)]) _ X T st hh0 ?k6 ?k7 ?k8 ?k9 ?kB ?_ ?c2 ?c3 ?c4 ?c5)
  case k6 => k_is
  case k7 => k_is
  case k8 => exact hroom.now
  case k9 => first | exact BindsTo.of_eq rfl | exact binds_K (X.keeps st) rfl (by k_is) rfl rfl rfl
  case kB => exact locs rfl
  case c2 => exact rfl
  case c3 => exact rfl
  case c4 => exact rfl
  case c5 => decide
  intro g L' h₁ stg hz hg Xg Tg F N
  k_dflt (show wpAny _ (Around.deeper _ (envOf _ ⟨_, _, _, _, _⟩ _ _ _)) (execs (_ :: _) (envOf _ ⟨_, _, _, _, _⟩ _ _ _)) _ _ _)
  k_fold
  (repeat' (first | (k_unfold; (try dsimp only)) | (k_end; wrow_close) | (with_reducible (k_here; (with_reducible show wpAny _ _ (call (Value.ref 645) _) _ _ _); (rename Fr _ _ _ _ => cF'); (rename News _ _ _ _ => cN'); k_dflt (refine' use7t cF' cN' (put_fixed_1 ?X ?T (stays_now ?st cF') ?room ?h0 ?h1) ?_); (case st => assumption); (case X => assumption); (case T => assumption); (case room => exact Room.deeper (by assumption) (by decide)); (case h0 => (with_reducible assumption)); (case h1 => (with_reducible assumption)); (intro _ _ _ _ _); (try clear cF' cN'))) | (with_reducible (k_here; (with_reducible show wpAny _ _ (newTuple _) _ _ _); kup_bare; k_dflt (refine' newT ?F ?N ?_ ?z; (case F => k_asm); (case N => k_asm); (case z => first | exact sz0 | exact sz1 | exact sz2 | exact sz3 | kmk_size)); intro _ _ _ _ l1; (try k_lt l1); (try (revert l1; intros)); (try k_sweep))) | walk1 | (dsimp only; walk1) | (leave1; try dsimp only)))
  all_goals (refine ret _ _ _ ?_ (keep_back _ hg (fun q hq => (hh0 q hq).1) (by k_asm) (by k_asm) (by repeat' (first | exact List.forall_mem_nil _ | refine fmc (fun _ => by k_mem) ?_ | refine fmc (fun h9 => absurd (by k_mem) h9) ?_))) (grown_back hz (by k_asm)))
  all_goals (try dsimp only)
  all_goals (exact bytes_is rfl)

theorem body_big {w : World} {p : Program} {loose : List Str} {mean : ExcName → Option Value} {mg mb : Str → Option Value} {h₀ : Heap} {A : Around} {s : Shared} {nt kt : Tok}
    (X : (Mine.myK w.params).In h₀) (T : Top p loose mean mg mb h₀) (st : h₀.StaysIn s.heap) (hroom : Room A 8)  :
    Calls7 PySem.Challenge.rw_xm0772_01.row.prog w A 680 [.int 9223372036854775807 nt, .int 6 kt] s [] (fun v _ => ∃ t, v = .bytes [127, 255, 255, 255, 255, 255, 255, 255].toArray t) := by
  intro R ret
  have hcalm := hroom.calm
  revert X; k_fill; intro X
  have hh0 : ∀ q ∈ ([] : List (Addr × Obj)), s.heap.get? q.1 = some q.2 ∧ h₀.get? q.1 = none := List.forall_mem_nil _
  k_dflt (refine' enter (binds := [(Str.ofString "v", .int 9223372036854775807 nt), (Str.ofString "kind", .int 6 kt)]) _ X T st hh0 ?k6 ?k7 ?k8 ?k9 ?kB ?_ ?c2 ?c3 ?c4 ?c5)
  case k6 => k_is
  case k7 => k_is
  case k8 => exact hroom.now
  case k9 => first | exact BindsTo.of_eq rfl | exact binds_K (X.keeps st) rfl (by k_is) rfl rfl rfl
  case kB => exact locs rfl
  case c2 => exact rfl
  case c3 => exact rfl
  case c4 => exact rfl
  case c5 => decide
  intro g L' h₁ stg hz hg Xg Tg F N
  k_dflt (show wpAny _ (Around.deeper _ (envOf _ ⟨_, _, _, _, _⟩ _ _ _)) (execs (_ :: _) (envOf _ ⟨_, _, _, _, _⟩ _ _ _)) _ _ _)
  k_fold
  (repeat' (first | (k_unfold; (try dsimp only)) | (k_end; wrow_close) | (with_reducible (k_here; (with_reducible show wpAny _ _ (call (Value.ref 645) _) _ _ _); (rename Fr _ _ _ _ => cF'); (rename News _ _ _ _ => cN'); k_dflt (refine' use7t cF' cN' (put_fixed_big ?X ?T (stays_now ?st cF') ?room ) ?_); (case st => assumption); (case X => assumption); (case T => assumption); (case room => exact Room.deeper (by assumption) (by decide)); (intro _ _ _ _ _); (try clear cF' cN'))) | (with_reducible (k_here; (with_reducible show wpAny _ _ (newTuple _) _ _ _); kup_bare; k_dflt (refine' newT ?F ?N ?_ ?z; (case F => k_asm); (case N => k_asm); (case z => first | exact sz0 | exact sz1 | exact sz2 | exact sz3 | kmk_size)); intro _ _ _ _ l1; (try k_lt l1); (try (revert l1; intros)); (try k_sweep))) | walk1 | (dsimp only; walk1) | (leave1; try dsimp only)))
  all_goals (refine ret _ _ _ ?_ (keep_back _ hg (fun q hq => (hh0 q hq).1) (by k_asm) (by k_asm) (by repeat' (first | exact List.forall_mem_nil _ | refine fmc (fun _ => by k_mem) ?_ | refine fmc (fun h9 => absurd (by k_mem) h9) ?_))) (grown_back hz (by k_asm)))
  all_goals (try dsimp only)
  all_goals (exact bytes_is rfl)

theorem body_low {w : World} {p : Program} {loose : List Str} {mean : ExcName → Option Value} {mg mb : Str → Option Value} {h₀ : Heap} {A : Around} {s : Shared} {nt kt : Tok}
    (X : (Mine.myK w.params).In h₀) (T : Top p loose mean mg mb h₀) (st : h₀.StaysIn s.heap) (hroom : Room A 8)  :
    Calls7 PySem.Challenge.rw_xm0772_01.row.prog w A 680 [.int (-9223372036854775808) nt, .int 6 kt] s [] (fun v _ => ∃ t, v = .bytes [128, 0, 0, 0, 0, 0, 0, 0].toArray t) := by
  intro R ret
  have hcalm := hroom.calm
  revert X; k_fill; intro X
  have hh0 : ∀ q ∈ ([] : List (Addr × Obj)), s.heap.get? q.1 = some q.2 ∧ h₀.get? q.1 = none := List.forall_mem_nil _
  k_dflt (refine' enter (binds := [(Str.ofString "v", .int (-9223372036854775808) nt), (Str.ofString "kind", .int 6 kt)]) _ X T st hh0 ?k6 ?k7 ?k8 ?k9 ?kB ?_ ?c2 ?c3 ?c4 ?c5)
  case k6 => k_is
  case k7 => k_is
  case k8 => exact hroom.now
  case k9 => first | exact BindsTo.of_eq rfl | exact binds_K (X.keeps st) rfl (by k_is) rfl rfl rfl
  case kB => exact locs rfl
  case c2 => exact rfl
  case c3 => exact rfl
  case c4 => exact rfl
  case c5 => decide
  intro g L' h₁ stg hz hg Xg Tg F N
  k_dflt (show wpAny _ (Around.deeper _ (envOf _ ⟨_, _, _, _, _⟩ _ _ _)) (execs (_ :: _) (envOf _ ⟨_, _, _, _, _⟩ _ _ _)) _ _ _)
  k_fold
  (repeat' (first | (k_unfold; (try dsimp only)) | (k_end; wrow_close) | (with_reducible (k_here; (with_reducible show wpAny _ _ (call (Value.ref 645) _) _ _ _); (rename Fr _ _ _ _ => cF'); (rename News _ _ _ _ => cN'); k_dflt (refine' use7t cF' cN' (put_fixed_low ?X ?T (stays_now ?st cF') ?room ) ?_); (case st => assumption); (case X => assumption); (case T => assumption); (case room => exact Room.deeper (by assumption) (by decide)); (intro _ _ _ _ _); (try clear cF' cN'))) | (with_reducible (k_here; (with_reducible show wpAny _ _ (newTuple _) _ _ _); kup_bare; k_dflt (refine' newT ?F ?N ?_ ?z; (case F => k_asm); (case N => k_asm); (case z => first | exact sz0 | exact sz1 | exact sz2 | exact sz3 | kmk_size)); intro _ _ _ _ l1; (try k_lt l1); (try (revert l1; intros)); (try k_sweep))) | walk1 | (dsimp only; walk1) | (leave1; try dsimp only)))
  all_goals (refine ret _ _ _ ?_ (keep_back _ hg (fun q hq => (hh0 q hq).1) (by k_asm) (by k_asm) (by repeat' (first | exact List.forall_mem_nil _ | refine fmc (fun _ => by k_mem) ?_ | refine fmc (fun h9 => absurd (by k_mem) h9) ?_))) (grown_back hz (by k_asm)))
  all_goals (try dsimp only)
  all_goals (exact bytes_is rfl)

theorem body_bytes {w : World} {p : Program} {loose : List Str} {mean : ExcName → Option Value} {mg mb : Str → Option Value} {h₀ : Heap} {A : Around} {s : Shared} {b : Array UInt8} {k : Int} {nt kt : Tok}
    (X : (Mine.myK w.params).In h₀) (T : Top p loose mean mg mb h₀) (st : h₀.StaysIn s.heap) (hroom : Room A 8)  :
    Calls7 PySem.Challenge.rw_xm0772_01.row.prog w A 680 [.bytes b nt, .int k kt] s [] (fun v _ => ∃ t, v = .bytes b t) := by
  intro R ret
  have hcalm := hroom.calm
  revert X; k_fill; intro X
  have hh0 : ∀ q ∈ ([] : List (Addr × Obj)), s.heap.get? q.1 = some q.2 ∧ h₀.get? q.1 = none := List.forall_mem_nil _
  k_dflt (refine' enter (binds := [(Str.ofString "v", .bytes b nt), (Str.ofString "kind", .int k kt)]) _ X T st hh0 ?k6 ?k7 ?k8 ?k9 ?kB ?_ ?c2 ?c3 ?c4 ?c5)
  case k6 => k_is
  case k7 => k_is
  case k8 => exact hroom.now
  case k9 => first | exact BindsTo.of_eq rfl | exact binds_K (X.keeps st) rfl (by k_is) rfl rfl rfl
  case kB => exact locs rfl
  case c2 => exact rfl
  case c3 => exact rfl
  case c4 => exact rfl
  case c5 => decide
  intro g L' h₁ stg hz hg Xg Tg F N
  k_dflt (show wpAny _ (Around.deeper _ (envOf _ ⟨_, _, _, _, _⟩ _ _ _)) (execs (_ :: _) (envOf _ ⟨_, _, _, _, _⟩ _ _ _)) _ _ _)
  k_fold
  k_steps
  all_goals (refine ret _ _ _ ?_ (keep_back _ hg (fun q hq => (hh0 q hq).1) (by k_asm) (by k_asm) (by repeat' (first | exact List.forall_mem_nil _ | refine fmc (fun _ => by k_mem) ?_ | refine fmc (fun h9 => absurd (by k_mem) h9) ?_))) (grown_back hz (by k_asm)))
  all_goals (try dsimp only)
  all_goals (exact bytes_is rfl)

theorem body_str {w : World} {p : Program} {loose : List Str} {mean : ExcName → Option Value} {mg mb : Str → Option Value} {h₀ : Heap} {A : Around} {s : Shared} {x : Str} {k : Int} {nt kt : Tok}
    (X : (Mine.myK w.params).In h₀) (T : Top p loose mean mg mb h₀) (st : h₀.StaysIn s.heap) (hroom : Room A 8) (hgd : A.guards = some []) (hx : x = tx0 ∨ x = tx1) :
    Calls7R PySem.Challenge.rw_xm0772_01.row.prog w A 680 [.str x nt, .int k kt] s [] (fun v _ => ∃ t, v = .bytes (utfL x).toArray t) := by
  intro R ret
  have hcalm := hroom.calm
  revert X; k_fill; intro X
  have hh0 : ∀ q ∈ ([] : List (Addr × Obj)), s.heap.get? q.1 = some q.2 ∧ h₀.get? q.1 = none := List.forall_mem_nil _
  k_dflt (refine' enterR (binds := [(Str.ofString "v", .str x nt), (Str.ofString "kind", .int k kt)]) _ X T st hh0 ?k6 ?k7 ?k8 ?k9 ?kB ?_ ?c2 ?c3 ?c4 ?c5)
  case k6 => k_is
  case k7 => k_is
  case k8 => exact hroom.now
  case k9 => first | exact BindsTo.of_eq rfl | exact binds_K (X.keeps st) rfl (by k_is) rfl rfl rfl
  case kB => exact locs rfl
  case c2 => exact rfl
  case c3 => exact rfl
  case c4 => exact rfl
  case c5 => decide
  intro g L' h₁ stg hz hg Xg Tg F N
  k_dflt (show wpR _ (Around.deeper _ (envOf _ ⟨_, _, _, _, _⟩ _ _ _)) (execs (_ :: _) (envOf _ ⟨_, _, _, _, _⟩ _ _ _)) _ _ _)
  k_dflt (refine execsR_cons (ifR (wpR_of ?_)))
  k_steps
  k_dflt (refine execsR_cons (returnR (callR ?_)))
  k_steps
  k_dflt (refine callWithR_K (K := Mine.myK w.params) (by k_is) (argsR_cons (wpR_of ?_)))
  k_steps
  refine argsR_nil ?_
  (try dsimp only [List.nil_append, List.cons_append])
  (rename Fr _ _ _ _ => F1); (rename News _ _ _ _ => N1)
  refine ⟨Xg.keeps F1.keep, use7R F1 N1 (utf8_ok X T (stays_now stg F1) (hroom.deeper (by decide)) hgd hx) ?_⟩
  clear F1 N1
  intro v' h' tk' hJ9p3 F' N'
  refine hide fun G9 k9 => ?_
  obtain ⟨t', rfl⟩ := hJ9p3
  refine k9 ?_
  clear k9 G9
  (try dsimp only)

  all_goals (refine ret _ _ _ ?_ (keep_back _ hg (fun q hq => (hh0 q hq).1) (by k_asm) (by k_asm) (by repeat' (first | exact List.forall_mem_nil _ | refine fmc (fun _ => by k_mem) ?_ | refine fmc (fun h9 => absurd (by k_mem) h9) ?_))) (grown_back hz (by k_asm)))
  all_goals (try dsimp only)
  all_goals (exact bytes_is rfl)

end
section -- K14
set_option maxHeartbeats 2000000

theorem serial_ok {w : World} {p : Program} {loose : List Str} {mean : ExcName → Option Value} {mg mb : Str → Option Value} {h₀ : Heap} {A : Around} {s : Shared} {c : Cell} {v : Value}
    (X : (Mine.myK w.params).In h₀) (T : Top p loose mean mg mb h₀) (st : h₀.StaysIn s.heap) (hroom : Room A 8) (hgd : A.guards = some []) (hc : c.Good) (hv : c.Is v) : Calls7R PySem.Challenge.rw_xm0772_01.row.prog w A 666 [v] s [] (fun r _ => ∃ t, r = .int c.kind t) := by
  cases hv with
  | nil => exact (serial_nil X T st hroom).clean
  | int n t =>
    cases hc with
    | int h =>
      rcases h with h | rfl | rfl
      · exact (serial_small X T st hroom h.1 h.2).clean
      · exact (serial_big X T st hroom).clean
      · exact (serial_low X T st hroom).clean
  | tx x t =>
    cases hc with
    | tx0 => exact serial_str X T st hroom hgd (.inl rfl)
    | tx1 => exact serial_str X T st hroom hgd (.inr rfl)
  | oc l t =>
    cases hc with
    | oc h => exact (serial_bytes X T st hroom (by ((with_reducible refine t1 (by assumption) ?_); rfl))).clean
theorem body_ok {w : World} {p : Program} {loose : List Str} {mean : ExcName → Option Value} {mg mb : Str → Option Value} {h₀ : Heap} {A : Around} {s : Shared} {c : Cell} {v : Value} {kt : Tok}
    (X : (Mine.myK w.params).In h₀) (T : Top p loose mean mg mb h₀) (st : h₀.StaysIn s.heap) (hroom : Room A 8) (hgd : A.guards = some []) (hc : c.Good) (hv : c.Is v) : Calls7R PySem.Challenge.rw_xm0772_01.row.prog w A 680 [v, .int c.kind kt] s [] (fun r _ => ∃ t, r = .bytes c.body.toArray t) := by
  cases hv with
  | nil => exact (body_nil X T st hroom).clean
  | int n t =>
    cases hc with
    | int h =>
      rcases h with h | rfl | rfl
      · by_cases h0 : n = 0
        · subst h0; exact (body_none8 (k := 8) X T st hroom (.inl rfl)).clean
        · by_cases h1 : n = 1
          · subst h1; exact (body_none8 (k := 9) X T st hroom (.inr rfl)).clean
          · have hk : kindI n = 1 := by unfold kindI; rw [if_neg h0, if_neg h1, if_pos ⟨h.1, by have := h.2; (with_reducible assumption)⟩]
            have hb : bodyI n = [(n % 256).toNat.toUInt8] := by
              have := h.1; have := h.2
              unfold bodyI; rw [if_neg (by (with_reducible exact s38 (by assumption) (by assumption))), if_neg (by (with_reducible exact s42 (by assumption))), if_neg (by (with_reducible exact s41 (by assumption)))]
            show Calls7R _ _ _ _ [_, .int (kindI n) kt] _ _ (fun r _ => ∃ t, r = .bytes (bodyI n).toArray t)
            rw [hk, hb]
            exact (body_one X T st hroom h.1 h.2).clean
      · exact (body_big X T st hroom).clean
      · exact (body_low X T st hroom).clean
  | tx x t =>
    cases hc with
    | tx0 => exact body_str X T st hroom hgd (.inl rfl)
    | tx1 => exact body_str X T st hroom hgd (.inr rfl)
  | oc l t => exact (body_bytes X T st hroom).clean
end
section -- K15
set_option maxHeartbeats 2000000


def kindsOf (cs : List Cell) : List UInt8 := cs.map fun c => c.kind.toNat.toUInt8
def bodiesOf (cs : List Cell) : List UInt8 := cs.flatMap Cell.body
def recordOf (cs : List Cell) : List UInt8 := (cs.length + 1).toUInt8 :: (kindsOf cs ++ bodiesOf cs)
inductive Cells : List Cell → List Value → Prop
  | nil : Cells [] []
  | cons {c : Cell} {v : Value} {cs : List Cell} {vs : List Value} (h : c.Is v) (r : Cells cs vs) : Cells (c :: cs) (v :: vs)
theorem Cells.length : ∀ {cs vs}, Cells cs vs → cs.length = vs.length
  | _, _, .nil => rfl
  | _, _, .cons _ r => by simp [r.length]
theorem Cells.at : ∀ {cs vs}, Cells cs vs → ∀ (i : Nat) (v : Value), vs[i]? = some v → ∃ c, cs[i]? = some c ∧ c.Is v
  | _, _, .nil, i, v, h => by simp at h
  | _, _, .cons h r, 0, v, e => by
    simp at e; subst e; exact ⟨_, rfl, h⟩
  | _, _, .cons h r, i + 1, v, e => by
    simpa using r.at i v (by simpa using e)
theorem kindsOf_take {cs : List Cell} {i : Nat} {c : Cell} (h : cs[i]? = some c) : kindsOf (cs.take (i + 1)) = kindsOf (cs.take i) ++ [c.kind.toNat.toUInt8] := by
  unfold kindsOf; rw [List.take_add_one, h]; simp
theorem bodiesOf_take {cs : List Cell} {i : Nat} {c : Cell} (h : cs[i]? = some c) : bodiesOf (cs.take (i + 1)) = bodiesOf (cs.take i) ++ c.body := by
  unfold bodiesOf; rw [List.take_add_one, h]; simp
theorem kindsOf_len (cs : List Cell) : (kindsOf cs).length = cs.length := by simp [kindsOf]
theorem bodiesOf_len : ∀ {cs : List Cell}, (∀ c ∈ cs, c.Good) → (bodiesOf cs).length ≤ 8 * cs.length
  | [], _ => by simp [bodiesOf]
  | c :: cs, h => by
    have h1 := Cell.body_len (h c (.head _))
    have h2 := bodiesOf_len fun d hd => h d (.tail _ hd)
    simp only [bodiesOf, List.flatMap_cons, List.length_append, List.length_cons] at h2 ⊢
    omega
theorem ne_cls {g h : Heap} {L a b : Addr} {o o' : Obj} {news : List (Addr × Obj)} (N : News g L h news) (h1 : (a, o) ∈ news) (h2 : (b, o') ∈ news) (hc : o.cls ≠ o'.cls) : a ≠ b := fun e => by
  subst e
  have x := (N _ h1).1
  rw [(N _ h2).1] at x
  exact hc (congrArg Obj.cls (Option.some.inj x)).symm
def encLed (tb bb lv : Addr) (lo : Obj) (cs : List Cell) (i : Nat) : List (Addr × Obj) :=
  [(tb, baOf (kindsOf (cs.take i)).toArray), (bb, baOf (bodiesOf (cs.take i)).toArray), (lv, lo)]
def encMap (tb bb : Addr) (m0 : Str → Option Value) : Str → Option Value := fun y => if y = Str.ofString "bodies" then some (.ref bb) else if y = Str.ofString "types" then some (.ref tb) else m0 y

theorem encode_ok {w : World} {p : Program} {loose : List Str} {mean : ExcName → Option Value} {mg mb : Str → Option Value} {h₀ : Heap} {A : Around} {s : Shared} {lv : Addr} {vs : List Value} {nv : Nat} {cs : List Cell}
    (X : (Mine.myK w.params).In h₀) (T : Top p loose mean mg mb h₀) (st : h₀.StaysIn s.heap) (hroom : Room A 12) (hgd : A.guards = some []) (hl : Live h₀ s.heap lv (listOf vs.toArray nv)) (hcs : Cells cs vs) (hgood : ∀ c ∈ cs, c.Good) (hlen : cs.length ≤ 10) :
    Calls7R PySem.Challenge.rw_xm0772_01.row.prog w A 701 [.ref lv] s [] (fun v _ => ∃ t, v = .bytes (recordOf cs).toArray t) := by
  intro R ret
  have hcalm := hroom.calm
  revert X; k_fill; intro X
  have hh0 : ∀ q ∈ ([(lv, listOf vs.toArray nv)] : List (Addr × Obj)), s.heap.get? q.1 = some q.2 ∧ h₀.get? q.1 = none := fmc hl (List.forall_mem_nil _)
  k_dflt (refine' enterR (binds := [(Str.ofString "values", .ref lv)]) _ X T st hh0 ?k6 ?k7 ?k8 ?k9 ?kB ?_ ?c2 ?c3 ?c4 ?c5)
  case k6 => k_is
  case k7 => k_is
  case k8 => exact hroom.now
  case k9 => first | exact BindsTo.of_eq rfl | exact binds_K (X.keeps st) rfl (by k_is) rfl rfl rfl
  case kB => exact locs rfl
  case c2 => exact rfl
  case c3 => exact rfl
  case c4 => exact rfl
  case c5 => decide
  intro g L' h₁ stg hz hg Xg Tg F N
  k_dflt (show wpR _ (Around.deeper _ (envOf _ ⟨_, _, _, _, _⟩ _ _ _)) (execs (_ :: _) (envOf _ ⟨_, _, _, _, _⟩ _ _ _)) _ _ _)
  k_dflt (refine execsR_cons (assignR (callR ?_)))
  k_steps
  refine callWithR_type0 ?_
  (rename Fr _ _ _ _ => F1); (rename News _ _ _ _ => N1)
  refine ba_newK hgd F1 N1 ?_
  clear F1 N1
  intro tb h2 F2 N2 off2 kk2 gn2
  k_steps
  k_dflt (refine execsR_cons (assignR (callR ?_)))
  k_steps
  refine callWithR_type0 ?_
  (rename Fr _ _ _ _ => F1); (rename News _ _ _ _ => N1)
  refine ba_newK hgd F1 N1 ?_
  clear F1 N1
  intro bb h3 F3 N3 off3 kk3 gn3
  k_steps
  k_dflt (refine execsR_cons (forR hcalm ?_))
  k_steps
  (rename Fr _ _ _ _ => F1); (rename News _ _ _ _ => N1)
  have htb : tb ≠ bb := off3 (tb, _) (.head _)
  have N2 : News g L' _ (encLed tb bb lv (listOf vs.toArray nv) cs 0) := fun q hq => N1 q (by simp only [encLed, List.mem_cons, List.not_mem_nil, or_false] at hq ⊢; rcases hq with rfl | rfl | rfl; exact .inr (.inl rfl); exact .inl rfl; exact .inr (.inr rfl))
  refine listLoopR lv vs nv (fun i m news => (∃ m0, ∀ y, m y = encMap tb bb m0 y) ∧ news = encLed tb bb lv (listOf vs.toArray nv) cs i) hcalm rfl rfl (fun i m news hj => by rw [hj.2]; simp [encLed]) F1 N2 ⟨⟨_, fun y => rfl⟩, rfl⟩ ?step ?fin
  case step =>
    clear F1 N1 N2
    intro i v m news I o h tk hv hJ9p9 off F4 N4 ho
    refine hide fun G9 k9 => ?_
    obtain ⟨⟨m0, hm⟩, rfl⟩ := hJ9p9
    refine k9 ?_
    clear k9 G9
    have F5 : Fr g L' h (fun z => if z = Str.ofString "v" then some v else encMap tb bb m0 z) := fr_eq F4 fun y => by simp only [hm]
    clear F4 hm
    (refine ex1 (hcs.at i v hv) fun c hE9 => an2 hE9 ?_; clear hE9; intro hci hcv)
    have hcg := hgood c (List.mem_of_getElem? hci)
    have hck := Cell.kind_lt hcg
    have hcb := Cell.body_len hcg
    have hk1 := kindsOf_len (cs.take i)
    have hb1 := bodiesOf_len (cs := cs.take i) fun d hd => hgood d (List.mem_of_mem_take hd)
    have htl : (cs.take i).length ≤ 10 := by rw [List.length_take]; ((with_reducible refine m1 (by assumption) ?_); rfl)
    have hzl : (1000 : Nat) ≤ sizeLine := by rw [sizeLine_eq]; decide
    unfold encLed at N4 off
    have o3 : lv ≠ tb := ne_cls N4 mem3 mem1 (by show Value.type "list" ≠ Value.type "bytearray"; decide)
    have o4 : lv ≠ bb := ne_cls N4 mem3 mem2 (by show Value.type "list" ≠ Value.type "bytearray"; decide)
    unfold encMap at F5
    k_dflt (refine execsR_cons (assignR ?_))
    k_dflt (refine callR ?_)
    k_steps
    k_dflt (refine callWithR_K (K := Mine.myK w.params) (by k_is) (argsR_cons (wpR_of ?_)))
    k_steps
    refine argsR_nil ?_
    (try dsimp only [List.nil_append, List.cons_append])
    (rename Fr _ _ _ _ => F1); (rename News _ _ _ _ => N1)
    refine ⟨Xg.keeps F1.keep, use7R F1 N1 (serial_ok X T (stays_now stg F1) (hroom.deeper (by decide)) hgd hcg hcv) ?_⟩
    clear F1 N1
    intro v' h' tk' hJ9p3 F' N'
    refine hide fun G9 k9 => ?_
    obtain ⟨t', rfl⟩ := hJ9p3
    refine k9 ?_
    clear k9 G9
    k_steps
    k_dflt (refine execsR_cons (exprR (methodCallR ?_)))
    (repeat' (first | (k_unfold; (try dsimp only)) | (k_end; wrow_close) | (with_reducible (k_here; (with_reducible show wpAny _ _ (getMethod (Value.ref _) (PySem.Str.ofString "extend") _) _ _ _); k_dflt (refine' ba_method ?N ?m BA.slot_extend BA.type_extend ?_; (case N => k_asm); (case m => k_mem)))) | walk1 | (dsimp only; walk1) | (leave1; try dsimp only)))
    k_dflt (refine callWithR_builtin (argsR_cons (wpR_of ?_)))
    (repeat' (first | (k_unfold; (try dsimp only)) | (k_end; wrow_close) | (with_reducible (k_here; (with_reducible show wpAny _ _ (call (Value.ref 631) _) _ _ _); (rename Fr _ _ _ _ => cF'); (rename News _ _ _ _ => cN'); k_dflt (refine' use7t cF' cN' (put_varint_ok ?X ?T (stays_now ?st cF') ?room ?h0 ?h1) ?_); (case st => assumption); (case X => assumption); (case T => assumption); (case room => exact Room.deeper (by assumption) (by decide)); (case h0 => omega); (case h1 => omega); (intro _ _ _ _ _); (try clear cF' cN'))) | walk1 | (dsimp only; walk1) | (leave1; try dsimp only)))
    refine argsR_nil ?_
    (try dsimp only [List.nil_append, List.cons_append])
    (rename Fr _ _ _ _ => F1); (rename News _ _ _ _ => N1)
    have o1 : I ≠ tb := (off _ (.head _)).symm
    have o2 : I ≠ bb := (off _ mem1).symm
    refine ba_extendK hgd F1 (show News _ _ _ ((tb, baOf (kindsOf (cs.take i)).toArray) :: [(bb, baOf (bodiesOf (cs.take i)).toArray), (lv, W.listOf vs.toArray nv), (I, o)]) from fun q hq => N1 q (by simp only [List.mem_cons, List.not_mem_nil, or_false] at hq ⊢; rcases hq with rfl | rfl | rfl | rfl <;> simp)) (fun q hq => ?_) (by simp only [List.size_toArray, byteArr_size, List.length_cons, List.length_nil]; (with_reducible exact s93 (by assumption) (by assumption) (by assumption))) ?_
    · simp only [List.mem_cons, List.not_mem_nil, or_false] at hq
      rcases hq with rfl | rfl | rfl
      · exact htb.symm
      · exact o3
      · exact o1
    clear F1 N1
    intro h6 F6 N6
    (try dsimp only)
    k_dflt (refine execsR_cons (exprR (methodCallR ?_)))
    (repeat' (first | (k_unfold; (try dsimp only)) | (k_end; wrow_close) | (with_reducible (k_here; (with_reducible show wpAny _ _ (getMethod (Value.ref _) (PySem.Str.ofString "extend") _) _ _ _); k_dflt (refine' ba_method ?N ?m BA.slot_extend BA.type_extend ?_; (case N => k_asm); (case m => k_mem)))) | walk1 | (dsimp only; walk1) | (leave1; try dsimp only)))
    k_dflt (refine callWithR_builtin (argsR_cons ?_))
    k_dflt (refine callR ?_)
    k_steps
    k_dflt (refine callWithR_K (K := Mine.myK w.params) (by k_is) (argsR_cons (wpR_of ?_)))
    k_steps
    k_dflt (refine argsR_cons (wpR_of ?_))
    k_steps
    refine argsR_nil ?_
    (try dsimp only [List.nil_append, List.cons_append])
    (rename Fr _ _ _ _ => F1); (rename News _ _ _ _ => N1)
    refine ⟨Xg.keeps F1.keep, use7R F1 N1 (body_ok X T (stays_now stg F1) (hroom.deeper (by decide)) hgd hcg hcv) ?_⟩
    clear F1 N1
    intro v'' h'' tk'' hJ9p3 F' N'
    refine hide fun G9 k9 => ?_
    obtain ⟨t'', rfl⟩ := hJ9p3
    refine k9 ?_
    clear k9 G9
    refine argsR_nil ?_
    (try dsimp only [List.nil_append, List.cons_append])
    (rename Fr _ _ _ _ => F1); (rename News _ _ _ _ => N1)
    refine ba_extendK hgd F1 (show News _ _ _ ((bb, baOf (bodiesOf (cs.take i)).toArray) :: [(tb, baOf ((kindsOf (cs.take i)).toArray ++ byteArr [c.kind])), (lv, W.listOf vs.toArray nv), (I, o)]) from fun q hq => N1 q (by simp only [List.mem_cons, List.not_mem_nil, or_false] at hq ⊢; rcases hq with rfl | rfl | rfl | rfl <;> simp)) (fun q hq => ?_) (by simp only [List.size_toArray]; (with_reducible exact s91 (by assumption) (by assumption) (by assumption) (by assumption))) ?_
    · simp only [List.mem_cons, List.not_mem_nil, or_false] at hq
      rcases hq with rfl | rfl | rfl
      · exact htb
      · exact o4
      · exact o2
    clear F1 N1
    intro h7 F7 N7
    (try dsimp only)
    refine execsR_nil ?_
    refine ⟨rfl, _, _, _, encLed tb bb lv (listOf vs.toArray nv) cs (i + 1), rfl, F7, fun q hq => ?_, fun q hq => ?_, ⟨fun y => if y = Str.ofString "kind" then some (.int c.kind t') else if y = Str.ofString "v" then some v else m0 y, fun y => ?_⟩, rfl⟩
    · refine N7 q ?_
      simp only [encLed, kindsOf_take hci, bodiesOf_take hci, List.mem_cons, List.not_mem_nil, or_false] at hq ⊢
      rcases hq with rfl | rfl | rfl | rfl <;> simp [byteArr]
    · simp only [encLed, List.mem_cons, List.not_mem_nil, or_false] at hq
      rcases hq with rfl | rfl | rfl
      · exact o1.symm
      · exact o2.symm
      · exact off (lv, _) mem2
    · unfold encMap
      by_cases h1 : y = Str.ofString "bodies"
      · subst h1; rfl
      · by_cases h2 : y = Str.ofString "types"
        · subst h2; rfl
        · simp only [h1, h2, if_false]
  case fin =>
    clear F1 N1 N2
    intro h tk m news hJ9p4 F4 N4
    refine hide fun G9 k9 => ?_
    obtain ⟨⟨m0, hm⟩, rfl⟩ := hJ9p4
    refine k9 ?_
    clear k9 G9
    (try dsimp only)
    have F5 : Fr g L' h (encMap tb bb m0) := fr_eq F4 hm
    clear F4 hm
    rw [← hcs.length, show encLed tb bb lv (listOf vs.toArray nv) cs cs.length = [(tb, baOf (kindsOf cs).toArray), (bb, baOf (bodiesOf cs).toArray), (lv, listOf vs.toArray nv)] by simp [encLed]] at N4
    unfold encMap at F5
    have hk1 : ((kindsOf cs).toArray.size : Int) = cs.length := by simp [kindsOf_len]
    have hk2 : (kindsOf cs).toArray.size < 2 ^ 60 := by simp only [List.size_toArray, kindsOf_len]; ((with_reducible refine t3 (by assumption) ?_); rfl)
    have hzl : (1000 : Nat) ≤ sizeLine := by rw [sizeLine_eq]; decide
    have hk3 : (kindsOf cs).toArray.size ≤ sizeLine := by simp only [List.size_toArray, kindsOf_len]; ((with_reducible refine t1 (by assumption) ?_); rfl)
    have hk0 := kindsOf_len cs
    have hb1 := bodiesOf_len hgood
    have hb3 : (bodiesOf cs).toArray.size ≤ sizeLine := by simp only [List.size_toArray]; (with_reducible exact s92 (by assumption) (by assumption) (by assumption))
    refine execsR_cons (wpR_of ?_)
    (repeat' (first | (k_unfold; (try dsimp only)) | (k_end; wrow_close) | (with_reducible (k_here; (with_reducible show wpAny _ _ (binaryOp Operator.Add (Value.bytes _ _) (Value.bytes _ _)) _ _ _); (refine KBy.add_bytes (by simp only [List.size_toArray, byteArr_size, Array.size_append, List.length_cons, List.length_nil]; omega) ?_); intro _ _)) | (with_reducible (k_here; (with_reducible show wpAny _ _ (call (Value.ref 694) _) _ _ _); (rename Fr _ _ _ _ => cF'); (rename News _ _ _ _ => cN'); k_dflt (refine' use7t cF' cN' (head_size_ok ?X ?T (stays_now ?st cF') ?room ?h0 ?h1) ?_); (case st => assumption); (case X => assumption); (case T => assumption); (case room => exact Room.deeper (by assumption) (by decide)); (case h0 => omega); (case h1 => omega); (intro _ _ _ _ _); (try clear cF' cN'))) | (with_reducible (k_here; (with_reducible show wpAny _ _ (call (Value.ref 631) _) _ _ _); (rename Fr _ _ _ _ => cF'); (rename News _ _ _ _ => cN'); k_dflt (refine' use7t cF' cN' (put_varint_ok ?X ?T (stays_now ?st cF') ?room ?h0 ?h1) ?_); (case st => assumption); (case X => assumption); (case T => assumption); (case room => exact Room.deeper (by assumption) (by decide)); (case h0 => omega); (case h1 => omega); (intro _ _ _ _ _); (try clear cF' cN'))) | (with_reducible (k_here; (with_reducible show wpAny _ _ (call (Value.builtin "len") [Value.ref _]) _ _ _); (rename News _ _ _ _ => bN'); k_dflt (refine' ba_len (bN' (_, baOf _) ?m).1 ?z ?_; (case m => k_mem); (case z => assumption); k_whole))) | (with_reducible (k_here; (with_reducible show wpAny _ _ (call (Value.type "bytes") [Value.ref _]) _ _ _); (rename News _ _ _ _ => bN'); k_dflt (refine' bytes_of_ba (bN' (_, baOf _) ?m).1 ?z ?_; (case m => k_mem); (case z => first | assumption | decide +kernel); k_whole))) | walk1 | (dsimp only; walk1) | (leave1; try dsimp only)))
    have hk4 : (((kindsOf cs).toArray.size : Int) + 1).toNat = cs.length + 1 := by (with_reducible exact s64 (by assumption))
    refine ret _ _ _ ?_ (keep_back _ hg (fun q hq => (hh0 q hq).1) (by k_asm) (by k_asm) (by repeat' (first | exact List.forall_mem_nil _ | refine fmc (fun _ => by k_mem) ?_ | refine fmc (fun h9 => absurd (by k_mem) h9) ?_))) (grown_back hz (by k_asm))
    (try dsimp only)
    refine bytes_is ?_
    have e : byteArr [((kindsOf cs).toArray.size : Int) + 1] = [(cs.length + 1).toUInt8].toArray := by unfold byteArr; simp only [List.map_cons, List.map_nil, hk4]
    rw [e]
    simp [recordOf]


end
section -- K16
set_option maxHeartbeats 2000000


theorem get_varint_ok {w : World} {p : Program} {loose : List Str} {mean : ExcName → Option Value} {mg mb : Str → Option Value} {h₀ : Heap} {A : Around} {s : Shared} {l : List UInt8} {bt it : Tok} {k x : Int}
    (X : (Mine.myK w.params).In h₀) (T : Top p loose mean mg mb h₀) (st : h₀.StaysIn s.heap) (hroom : Room A 5) (hl : l.length ≤ 1000) (h0 : 0 ≤ k) (h1 : k < l.length) (hx : ((l.getD k.toNat 0).toNat : Int) = x) (hx0 : 0 ≤ x) (hx7 : x < 128) :
    Calls7 PySem.Challenge.rw_xm0772_01.row.prog w A 638 [.bytes l.toArray bt, .int k it] s [] (fun v h => ∃ a t u, v = .ref a ∧ Live h₀ h a (tup2 (.int x t) (.int (k + 1) u)) ∧ s.heap.get? a = none) := by
  intro R ret
  have hcalm := hroom.calm
  revert X; k_fill; intro X
  have hh0 : ∀ q ∈ ([] : List (Addr × Obj)), s.heap.get? q.1 = some q.2 ∧ h₀.get? q.1 = none := List.forall_mem_nil _
  k_dflt (refine' enter (binds := [(Str.ofString "octets", .bytes l.toArray bt), (Str.ofString "at", .int k it)]) _ X T st hh0 ?k6 ?k7 ?k8 ?k9 ?kB ?_ ?c2 ?c3 ?c4 ?c5)
  case k6 => k_is
  case k7 => k_is
  case k8 => exact hroom.now
  case k9 => first | exact BindsTo.of_eq rfl | exact binds_K (X.keeps st) rfl (by k_is) rfl rfl rfl
  case kB => exact locs rfl
  case c2 => exact rfl
  case c3 => exact rfl
  case c4 => exact rfl
  case c5 => decide
  intro g L' h₁ stg hz hg Xg Tg F N
  k_dflt (show wpAny _ (Around.deeper _ (envOf _ ⟨_, _, _, _, _⟩ _ _ _)) (execs (_ :: _) (envOf _ ⟨_, _, _, _, _⟩ _ _ _)) _ _ _)
  k_fold
  (repeat' (first | (k_unfold; (try dsimp only)) | (k_end; wrow_close) | (with_reducible (k_here; (with_reducible show wpAny _ _ (binaryOp Operator.LShift (Value.int _ _) (Value.int _ _)) _ _ _); k_dflt (refine' lshift_to _ ?k1 ?k2 ?k3 ?k4 ?_; (case k1 => decide); (case k2 => decide); (case k3 => decide); (case k4 => (simp only [Int.reduceToNat, Int.reducePow, Int.reduceMul]; rfl)); k_whole))) | (with_reducible ((with_reducible show wpAny _ _ (binaryOp Operator.BitOr (Value.int _ _) (Value.int _ _)) _ _ _); k_dflt (refine or_zero (by decide) (by first | decide | (with_reducible assumption)) ?_))) | (with_reducible ((with_reducible show wpAny _ _ (inplaceOp Operator.Add (Value.int _ _) (Value.int _ _)) _ _ _); (with_reducible refine iaddI ?_))) | (with_reducible (k_here; first | ((with_reducible show wpAny _ _ (binaryOp Operator.BitAnd (Value.int _ _) (Value.int 127 _)) _ _ _); k_dflt (first | (refine' and127_to _ ?k2 ?_; (case k2 => (simp only [Int.reduceMod, Int.reduceNeg]; rfl)); k_whole) | (refine' and7_small ?k1 ?k2 ?_; (case k1 => (with_reducible assumption)); (case k2 => (with_reducible assumption)); k_whole) | (refine' and127_to _ ?k2 ?_; (case k2 => rfl); k_whole))) | ((with_reducible show wpAny _ _ (binaryOp Operator.BitAnd (Value.int _ _) (Value.int 255 _)) _ _ _); k_dflt (first | (refine' and255_to _ ?k2 ?_; (case k2 => (simp only [Int.reduceMod, Int.reduceNeg]; rfl)); k_whole) | (refine' and255_small ?k1 ?k2 ?_; (case k1 => omega); (case k2 => omega); k_whole) | (refine' and255_to _ ?k2 ?_; (case k2 => rfl); k_whole))))) | (with_reducible ((with_reducible show wpAny _ _ (pyIter (Value.ref _)) (fun it s₂ => LoopAtV _ _ _ _ _ _ _ _ _ it s₂) _ _); l_hasStore; (rename Fr _ _ _ _ => lF'); (rename News _ _ _ _ => lN'); (rename IsRange _ _ _ _ _ _ _ _ => lR'); (with_unfolding_all first | refine iter_rangeU 0 (by assumption) lR' (by decide) (by decide) (by omega) lF' lN' ?_ | refine iter_rangeU 1 (by assumption) lR' (by decide) (by decide) (by omega) lF' lN' ?_ | refine iter_rangeU 2 (by assumption) lR' (by decide) (by decide) (by omega) lF' lN' ?_ | refine iter_rangeU 3 (by assumption) lR' (by decide) (by decide) (by omega) lF' lN' ?_ | refine iter_rangeU 4 (by assumption) lR' (by decide) (by decide) (by omega) lF' lN' ?_ | refine iter_rangeU 6 (by assumption) lR' (by decide) (by decide) (by omega) lF' lN' ?_ | refine iter_rangeU 8 (by assumption) lR' (by decide) (by decide) (by omega) lF' lN' ?_ | refine iter_rangeU 9 (by assumption) lR' (by decide) (by decide) (by decide) lF' lN' ?_); clear lF' lN' lR'; intro _ l1; (try k_lt l1); (try (revert l1; intros)))) | (with_reducible (k_here; (with_reducible show wpAny _ _ (subscriptTail _ _ (Value.bytes (List.toArray _) _) (Value.int _ _)) _ _ _); k_dflt (refine' byte_own _ ?k1 ?k2 ?k3 ?k4 ?_ ?k6 ?k7; (case k4 => first | assumption | with_unfolding_all rfl); (case k1 => assumption); (case k2 => (with_reducible assumption)); (case k3 => (with_reducible assumption)); (case k6 => with_unfolding_all rfl); (case k7 => (intro _; with_unfolding_all rfl)); k_whole))) | (with_reducible (k_here; (with_reducible show wpAny _ _ (newTuple _) _ _ _); kup_bare; k_dflt (refine' newT ?F ?N ?_ ?z; (case F => k_asm); (case N => k_asm); (case z => first | exact sz0 | exact sz1 | exact sz2 | exact sz3 | kmk_size)); intro _ _ _ _ l1; (try k_lt l1); (try (revert l1; intros)); (try k_sweep))) | (with_reducible ((with_reducible show RangeRest _ _ _ _ _ _ _ _ _ _ _ _ _ _ _ _ _); with_unfolding_all first | (refine range_next _ (by simp; rfl) _ _ (by simp; rfl) (by simp; rfl) (fun t' h' tk' F' N' => ?_)) | (refine RangeRest.zero (fun h' tk' F' N' => ?_)))) | walk1 | (dsimp only; walk1) | (leave1; try dsimp only)))
  all_goals (refine ret _ _ _ ?_ (keep_back _ hg (fun q hq => (hh0 q hq).1) (by k_asm) (by k_asm) (by repeat' (first | exact List.forall_mem_nil _ | refine fmc (fun _ => by k_mem) ?_ | refine fmc (fun h9 => absurd (by k_mem) h9) ?_))) (grown_back hz (by k_asm)))
  all_goals (try dsimp only)
  all_goals (exact ⟨_, _, _, rfl, Live.of stg (by k_asm) (by k_mem), fresh_own hg (by k_asm) (by k_mem)⟩)

end
section -- K8
set_option maxHeartbeats 2000000


def sizeK (k : Int) : Int := if k ≥ 12 then (k - 12) / 2 else if k = 1 then 1 else if k = 6 then 8 else 0

theorem serial_size_ok {w : World} {p : Program} {loose : List Str} {mean : ExcName → Option Value} {mg mb : Str → Option Value} {h₀ : Heap} {A : Around} {s : Shared} {k : Int} {kt : Tok}
    (X : (Mine.myK w.params).In h₀) (T : Top p loose mean mg mb h₀) (st : h₀.StaysIn s.heap) (hroom : Room A 5) (hk : k = 0 ∨ k = 8 ∨ k = 9 ∨ k = 1 ∨ k = 6 ∨ (12 ≤ k ∧ k < 128)) :
    Calls7 PySem.Challenge.rw_xm0772_01.row.prog w A 673 [.int k kt] s [] (fun v _ => ∃ t, v = .int (sizeK k) t) := by
  intro R ret
  have hcalm := hroom.calm
  revert X; k_fill; intro X
  have hh0 : ∀ q ∈ ([] : List (Addr × Obj)), s.heap.get? q.1 = some q.2 ∧ h₀.get? q.1 = none := List.forall_mem_nil _
  k_dflt (refine' enter (binds := [(Str.ofString "t", .int k kt)]) _ X T st hh0 ?k6 ?k7 ?k8 ?k9 ?kB ?_ ?c2 ?c3 ?c4 ?c5)
  case k6 => k_is
  case k7 => k_is
  case k8 => exact hroom.now
  case k9 => first | exact BindsTo.of_eq rfl | exact binds_K (X.keeps st) rfl (by k_is) rfl rfl rfl
  case kB => exact locs rfl
  case c2 => exact rfl
  case c3 => exact rfl
  case c4 => exact rfl
  case c5 => decide
  intro g L' h₁ stg hz hg Xg Tg F N
  k_dflt (show wpAny _ (Around.deeper _ (envOf _ ⟨_, _, _, _, _⟩ _ _ _)) (execs (_ :: _) (envOf _ ⟨_, _, _, _, _⟩ _ _ _)) _ _ _)
  k_fold
  rcases hk with rfl | rfl | rfl | rfl | rfl | ⟨hk0, hk1⟩
  all_goals (repeat' (first | (k_unfold; (try dsimp only)) | (k_end; wrow_close) | (with_reducible ((with_reducible show wpAny _ _ (binaryOp Operator.Sub (Value.int _ _) (Value.int _ _)) _ _ _); (with_reducible refine subI ?_))) | (with_reducible (k_here; (with_reducible show wpAny _ _ (newTuple _) _ _ _); kup_bare; k_dflt (refine' newT ?F ?N ?_ ?z; (case F => k_asm); (case N => k_asm); (case z => first | exact sz0 | exact sz1 | exact sz2 | exact sz3 | kmk_size)); intro _ _ _ _ l1; (try k_lt l1); (try (revert l1; intros)); (try k_sweep))) | walk1 | (dsimp only; walk1) | (leave1; try dsimp only)))
  all_goals (refine ret _ _ _ ?_ (keep_back _ hg (fun q hq => (hh0 q hq).1) (by k_asm) (by k_asm) (by repeat' (first | exact List.forall_mem_nil _ | refine fmc (fun _ => by k_mem) ?_ | refine fmc (fun h9 => absurd (by k_mem) h9) ?_))) (grown_back hz (by k_asm)))
  all_goals (try dsimp only)
  all_goals (exact int_is (by unfold sizeK; (try rw [Int.fdiv_eq_ediv_of_nonneg _ (by decide)]); (repeat' split) <;> (first | (with_reducible assumption) | decide | omega)))

end
section -- K18
set_option maxHeartbeats 2000000

/-- the number that i octets from k on tell -/
def numAt (l : List UInt8) (k : Nat) : Nat → Int
  | 0 => 0
  | i + 1 => numAt l k i * 256 + ((l.getD (k + i) 0).toNat : Int)
theorem octet_lt (l : List UInt8) (k : Nat) : 0 ≤ (((l.getD k 0).toNat : Nat) : Int) ∧ (((l.getD k 0).toNat : Nat) : Int) < 256 := by
  have := (l.getD k 0).toNat_lt
  omega
theorem numAt_lt (l : List UInt8) (k : Nat) : ∀ i, 0 ≤ numAt l k i ∧ numAt l k i < 256 ^ i
  | 0 => by simp [numAt]
  | i + 1 => by
    have h1 := numAt_lt l k i
    have h2 := octet_lt l (k + i)
    rw [Int.pow_succ]
    unfold numAt
    omega
theorem numAt_small {l : List UInt8} {k i : Nat} (h : i < 8) : (numAt l k i).natAbs < 2 ^ 64 := by
  have h1 := numAt_lt l k i
  have h2 : (256 : Nat) ^ i ≤ 256 ^ 7 := Nat.pow_le_pow_right (by decide) (Nat.le_of_lt_succ h)
  have h3 : ((256 ^ i : Nat) : Int) ≤ ((256 ^ 7 : Nat) : Int) := Int.ofNat_le.mpr h2
  rw [Int.natCast_pow] at h3
  have h4 : ((256 ^ 7 : Nat) : Int) = 72057594037927936 := by decide
  rw [h4] at h3
  have h5 : ((256 : Nat) : Int) = 256 := rfl
  rw [h5] at h3
  clear h2 h4 h5
  omega
theorem toNat_add {k : Int} (h0 : 0 ≤ k) (i : Nat) : k.toNat + i = (k + (i : Int)).toNat := by (with_reducible exact s52 (by assumption))
def signedOf (z : Nat) (N : Int) : Int := if 256 ^ z ≤ 2 * N then N - 256 ^ z else N
def getMap (number octets at' size : Value) (m0 : Str → Option Value) : Str → Option Value := fun y => if y = Str.ofString "number" then some number else if y = Str.ofString "octets" then some octets else if y = Str.ofString "at" then some at' else if y = Str.ofString "size" then some size else m0 y

theorem get_fixed_ok {w : World} {p : Program} {loose : List Str} {mean : ExcName → Option Value} {mg mb : Str → Option Value} {h₀ : Heap} {A : Around} {s : Shared} {l : List UInt8} {bt it zt : Tok} {k z : Int}
    (X : (Mine.myK w.params).In h₀) (T : Top p loose mean mg mb h₀) (st : h₀.StaysIn s.heap) (hroom : Room A 5) (hl : l.length ≤ 1000) (h0 : 0 ≤ k) (h1 : k + z ≤ l.length) (hz18 : z = 1 ∨ z = 8) :
    Calls7 PySem.Challenge.rw_xm0772_01.row.prog w A 652 [.bytes l.toArray bt, .int k it, .int z zt] s [] (fun v h => ∃ t, v = .int (signedOf z.toNat (numAt l k.toNat z.toNat)) t) := by
  intro R ret
  have hcalm := hroom.calm
  revert X; k_fill; intro X
  have hh0 : ∀ q ∈ ([] : List (Addr × Obj)), s.heap.get? q.1 = some q.2 ∧ h₀.get? q.1 = none := List.forall_mem_nil _
  k_dflt (refine' enter (binds := [(Str.ofString "octets", .bytes l.toArray bt), (Str.ofString "at", .int k it), (Str.ofString "size", .int z zt)]) _ X T st hh0 ?k6 ?k7 ?k8 ?k9 ?kB ?_ ?c2 ?c3 ?c4 ?c5)
  case k6 => k_is
  case k7 => k_is
  case k8 => exact hroom.now
  case k9 => first | exact BindsTo.of_eq rfl | exact binds_K (X.keeps st) rfl (by k_is) rfl rfl rfl
  case kB => exact locs rfl
  case c2 => exact rfl
  case c3 => exact rfl
  case c4 => exact rfl
  case c5 => decide
  intro g L' h₁ stg hz hg Xg Tg F N
  k_dflt (show wpAny _ (Around.deeper _ (envOf _ ⟨_, _, _, _, _⟩ _ _ _)) (execs (_ :: _) (envOf _ ⟨_, _, _, _, _⟩ _ _ _)) _ _ _)
  k_fold
  have hz0 : 0 ≤ z := by omega
  (repeat' (first | (k_unfold; (try dsimp only)) | (k_end; wrow_close) | (with_reducible ((with_reducible show wpAny _ _ (binaryOp Operator.Add (Value.int _ _) (Value.int _ _)) _ _ _); (with_reducible refine addI ?_))) | (with_reducible ((with_reducible show wpAny _ _ (pyIter (Value.ref _)) _ _ _); refine hold ?_)) | (with_reducible ((with_reducible show wpAny _ _ (call (Value.type "range") _) _ _ _); k_here; (rename Fr _ _ _ _ => cF'); (rename News _ _ _ _ => cN'); k_dflt (first | (refine range1_rows cF' cN' ?_) | (refine range2_rows cF' cN' ?_)); clear cF' cN'; intro _ _ _ _ _ _ _ _ k'; clear k')) | walk1 | (dsimp only; walk1) | (leave1; try dsimp only)))
  unfold Hold
  rename_i h9 h8 tk9 t9 u9 v9 R9 F9 N9
  refine hide fun G9 k9 => ?_
  obtain ⟨nt0, F10⟩ : ∃ nt0, Fr g L' _ (fun y => if y = Str.ofString "number" then some (.int 0 nt0) else List.lookup y [(Str.ofString "octets", Value.bytes l.toArray bt), (Str.ofString "at", Value.int k it), (Str.ofString "size", Value.int z zt)].reverse) := ⟨_, F9⟩
  refine k9 ?_
  clear k9 G9
  clear F9
  refine forRange (L := L') z.toNat (fun i m news => ∃ (nt : Tok) (m0 : Str → Option Value), news = [] ∧ ∀ y, m y = getMap (.int (numAt l k.toNat i) nt) (.bytes l.toArray bt) (.int k it) (.int z zt) m0 y) hcalm rfl R9 (by ((with_reducible refine i5 (by assumption) ?_); rfl)) (by omega) (by (with_reducible exact s71 (by assumption))) F10 N9 ⟨nt0, fun _ => none, rfl, fun y => ?m1⟩ ?step ?fin
  case m1 =>
    unfold getMap
    by_cases h0 : y = Str.ofString "number"
    · subst h0; rfl
    by_cases h1 : y = Str.ofString "octets"
    · subst h1; rfl
    by_cases h2 : y = Str.ofString "at"
    · subst h2; rfl
    by_cases h3 : y = Str.ofString "size"
    · subst h3; rfl
    simp only [h0, h1, h2, h3, if_false]
    have e1 : (y == Str.ofString "octets") = false := by simpa using h1
    have e2 : (y == Str.ofString "at") = false := by simpa using h2
    have e3 : (y == Str.ofString "size") = false := by simpa using h3
    simp only [List.reverse_cons, List.reverse_nil, List.nil_append, List.cons_append, List.lookup_cons, List.lookup_nil, e1, e2, e3]
  case step =>
    clear F10 N9 R9
    intro i t m news I o h tk hi hJ9 off F4 N4
    k_fold
    (refine ex2 (hJ9) fun nt m0 hE9 => an2 hE9 ?_; clear hE9; rintro rfl hm; (try clear hJ9))
    have F5 : Fr g L' h (fun y => if y = Str.ofString "place" then some (.int (k + (i : Int)) t) else getMap (.int (numAt l k.toNat i) nt) (.bytes l.toArray bt) (.int k it) (.int z zt) m0 y) := fr_eq F4 fun y => by simp only [hm]
    clear F4 hm
    unfold getMap at F5
    have hx : ((l.getD (k + (i : Int)).toNat 0).toNat : Int) = ((l.getD (k.toNat + i) 0).toNat : Int) := by rw [show (k + (i : Int)).toNat = k.toNat + i by (with_reducible exact s3 (by assumption))]
    have hi8 : i < 8 := by (with_reducible exact s66 (by assumption) (by assumption))
    have hsm := numAt_small (l := l) (k := k.toNat) hi8
    have hor : Builtin.bitOr (numAt l k.toNat i * 2 ^ Int.toNat 8) ((l.getD (k.toNat + i) 0).toNat : Int) = numAt l k.toNat (i + 1) := or_shift (numAt_lt l k.toNat i).1 (octet_lt l _).1 (octet_lt l _).2
    (repeat' (first | (k_unfold; (try dsimp only)) | (k_end; wrow_close) | (with_reducible ((with_reducible show wpAny _ _ (binaryOp Operator.BitOr (Value.int _ _) (Value.int _ _)) _ _ _); k_dflt (refine or_to _ (by assumption) ?_))) | (with_reducible ((with_reducible show wpAny _ _ (binaryOp Operator.LShift (Value.int _ _) (Value.int _ _)) _ _ _); k_dflt (refine lshift_to _ (by decide) (by decide) (by assumption) (by rfl) ?_))) | (with_reducible ((with_reducible show wpAny _ _ (subscriptTail _ _ _ _) _ _ _); k_dflt (refine byte_own _ (by assumption) (by (with_reducible exact s85 (by assumption))) (by (with_reducible exact s68 (by assumption) (by assumption))) (by assumption) ?_ (by with_unfolding_all rfl) (by intro _; with_unfolding_all rfl)))) | walk1 | (dsimp only; walk1) | (leave1; try dsimp only)))
    (rename Fr _ _ _ _ => F6); (rename News _ _ _ _ => N6)
    refine hide fun G9 k9 => ?_
    obtain ⟨tr, F7⟩ : ∃ tr, Fr g L' _ (fun y => if y = Str.ofString "number" then some (.int (numAt l k.toNat (i + 1)) tr) else if y = Str.ofString "place" then some (.int (k + (i : Int)) t) else if y = Str.ofString "number" then some (.int (numAt l k.toNat i) nt) else if y = Str.ofString "octets" then some (.bytes l.toArray bt) else if y = Str.ofString "at" then some (.int k it) else if y = Str.ofString "size" then some (.int z zt) else m0 y) := ⟨_, F6⟩
    refine k9 ?_
    clear k9 G9
    refine TurnedF.intro F7 N6 [] _ (fun q hq => hq) (List.forall_mem_nil _) (fun y => ?_) ⟨tr, (fun y => if y = Str.ofString "place" then some (.int (k + (i : Int)) t) else m0 y), rfl, fun y => rfl⟩
    unfold getMap
    by_cases h0 : y = Str.ofString "place"
    · subst h0; rfl
    by_cases h1 : y = Str.ofString "number"
    · subst h1; rfl
    by_cases h2 : y = Str.ofString "octets"
    · subst h2; rfl
    by_cases h3 : y = Str.ofString "at"
    · subst h3; rfl
    by_cases h4 : y = Str.ofString "size"
    · subst h4; rfl
    simp only [h0, h1, h2, h3, h4, if_false]
  case fin =>
    clear F10 N9 R9
    intro h tk m news hJ9p4 F4 N4
    refine hide fun G9 k9 => ?_
    obtain ⟨nt, m0, rfl, hm⟩ := hJ9p4
    refine k9 ?_
    clear k9 G9
    have F5 := fr_eq F4 hm
    clear F4 hm
    unfold getMap at F5
    have hb := numAt_lt l k.toNat z.toNat
    refine hide fun G9 k9 => ?_
    obtain ⟨N9, hN⟩ : ∃ N9, numAt l k.toNat z.toNat = N9 := ⟨_, rfl⟩
    refine k9 ?_
    clear k9 G9
    rw [hN] at F5 hb
    have hfd1 : Int.fdiv 256 2 = 128 := by decide
    have hfd8 : Int.fdiv 18446744073709551616 2 = 9223372036854775808 := by decide
    rcases hz18 with rfl | rfl
    all_goals (repeat' (first | (k_unfold; (try dsimp only)) | (k_end; wrow_close) | (with_reducible ((with_reducible show wpAny _ _ (binaryOp Operator.Sub (Value.int _ _) (Value.int _ _)) _ _ _); (with_reducible refine subI ?_))) | (with_reducible ((with_reducible show wpAny _ _ (binaryOp Operator.Pow (Value.int _ _) (Value.int _ _)) _ _ _); k_here; (first | (with_reducible refine' pow_to (a := 2) (b := 56) 72057594037927936 ?z1 ?z2 ?z3 ?z4 ?_) | (with_reducible refine' pow_to (a := 2) (b := 63) 9223372036854775808 ?z1 ?z2 ?z3 ?z4 ?_) | (with_reducible refine' pow_to (a := 2) (b := 64) 18446744073709551616 ?z1 ?z2 ?z3 ?z4 ?_) | (with_reducible refine' pow_to (a := 10) (b := 18) 1000000000000000000 ?z1 ?z2 ?z3 ?z4 ?_) | (with_reducible refine' pow_to (a := 256) (b := 0) 1 ?z1 ?z2 ?z3 ?z4 ?_) | (with_reducible refine' pow_to (a := 256) (b := 1) 256 ?z1 ?z2 ?z3 ?z4 ?_) | (with_reducible refine' pow_to (a := 256) (b := 2) 65536 ?z1 ?z2 ?z3 ?z4 ?_) | (with_reducible refine' pow_to (a := 256) (b := 3) 16777216 ?z1 ?z2 ?z3 ?z4 ?_) | (with_reducible refine' pow_to (a := 256) (b := 4) 4294967296 ?z1 ?z2 ?z3 ?z4 ?_) | (with_reducible refine' pow_to (a := 256) (b := 6) 281474976710656 ?z1 ?z2 ?z3 ?z4 ?_) | (with_reducible refine' pow_to (a := 256) (b := 8) 18446744073709551616 ?z1 ?z2 ?z3 ?z4 ?_)); (case z1 => decide); (case z2 => decide); (case z3 => decide); (case z4 => decide +kernel))) | walk1 | (dsimp only; walk1) | (leave1; try dsimp only)))
    all_goals (refine ret _ _ _ ?_ (keep_back _ hg (fun q hq => (hh0 q hq).1) (by k_asm) (by k_asm) (List.forall_mem_nil _)) (grown_back hz (by k_asm)))
    all_goals (refine int_is ?_)
    all_goals (rw [hN]; simp only [show Int.toNat 1 = 1 from rfl, show Int.toNat 8 = 8 from rfl, show (256 : Int) ^ 1 = 256 by decide, show (256 : Int) ^ 8 = 18446744073709551616 by decide] at hb; simp only [signedOf, show Int.toNat 1 = 1 from rfl, show Int.toNat 8 = 8 from rfl, show (256 : Int) ^ 1 = 256 by decide, show (256 : Int) ^ 8 = 18446744073709551616 by decide]; split <;> (first | (with_reducible exact s76) | omega))

theorem signed_one {l : List UInt8} {k x : Int} (hx : ((l.getD k.toNat 0).toNat : Int) = x) (hx0 : 0 ≤ x) (hx7 : x < 256) : signedOf 1 (numAt l k.toNat 1) = if x ≥ 128 then x - 256 else x := by
  have e2 : numAt l k.toNat 1 = x := by
    unfold numAt numAt
    rw [Nat.add_zero, hx]; omega
  rw [e2]
  unfold signedOf
  rw [show (256 : Int) ^ 1 = 256 by decide]
  split <;> split <;> (first | (with_reducible exact s76) | omega)
theorem signed_big {l : List UInt8} {k : Int} (h0 : 0 ≤ k) (hb0 : ((l.getD (k).toNat 0).toNat : Int) = 127) (hb1 : ((l.getD (k + 1).toNat 0).toNat : Int) = 255) (hb2 : ((l.getD (k + 2).toNat 0).toNat : Int) = 255) (hb3 : ((l.getD (k + 3).toNat 0).toNat : Int) = 255) (hb4 : ((l.getD (k + 4).toNat 0).toNat : Int) = 255) (hb5 : ((l.getD (k + 5).toNat 0).toNat : Int) = 255) (hb6 : ((l.getD (k + 6).toNat 0).toNat : Int) = 255) (hb7 : ((l.getD (k + 7).toNat 0).toNat : Int) = 255) : signedOf 8 (numAt l k.toNat 8) = 9223372036854775807 := by
  have e2 : numAt l k.toNat 8 = 9223372036854775807 := by
    simp only [numAt, Nat.add_zero]
    rw [show k.toNat + 1 = (k + 1).toNat from toNat_add h0 1, show k.toNat + 2 = (k + 2).toNat from toNat_add h0 2, show k.toNat + 3 = (k + 3).toNat from toNat_add h0 3, show k.toNat + 4 = (k + 4).toNat from toNat_add h0 4, show k.toNat + 5 = (k + 5).toNat from toNat_add h0 5, show k.toNat + 6 = (k + 6).toNat from toNat_add h0 6, show k.toNat + 7 = (k + 7).toNat from toNat_add h0 7, hb0, hb1, hb2, hb3, hb4, hb5, hb6, hb7]
    decide
  rw [e2, show signedOf 8 9223372036854775807 = 9223372036854775807 by decide +kernel]
theorem signed_low {l : List UInt8} {k : Int} (h0 : 0 ≤ k) (hb0 : ((l.getD (k).toNat 0).toNat : Int) = 128) (hb1 : ((l.getD (k + 1).toNat 0).toNat : Int) = 0) (hb2 : ((l.getD (k + 2).toNat 0).toNat : Int) = 0) (hb3 : ((l.getD (k + 3).toNat 0).toNat : Int) = 0) (hb4 : ((l.getD (k + 4).toNat 0).toNat : Int) = 0) (hb5 : ((l.getD (k + 5).toNat 0).toNat : Int) = 0) (hb6 : ((l.getD (k + 6).toNat 0).toNat : Int) = 0) (hb7 : ((l.getD (k + 7).toNat 0).toNat : Int) = 0) : signedOf 8 (numAt l k.toNat 8) = -9223372036854775808 := by
  have e2 : numAt l k.toNat 8 = 9223372036854775808 := by
    simp only [numAt, Nat.add_zero]
    rw [show k.toNat + 1 = (k + 1).toNat from toNat_add h0 1, show k.toNat + 2 = (k + 2).toNat from toNat_add h0 2, show k.toNat + 3 = (k + 3).toNat from toNat_add h0 3, show k.toNat + 4 = (k + 4).toNat from toNat_add h0 4, show k.toNat + 5 = (k + 5).toNat from toNat_add h0 5, show k.toNat + 6 = (k + 6).toNat from toNat_add h0 6, show k.toNat + 7 = (k + 7).toNat from toNat_add h0 7, hb0, hb1, hb2, hb3, hb4, hb5, hb6, hb7]
    decide
  rw [e2, show signedOf 8 9223372036854775808 = -9223372036854775808 by decide +kernel]

end
section -- K22
set_option maxHeartbeats 2000000


/-- what a number's kind tells -/
def NumIs (l : List UInt8) (k : Nat) (K S : Int) (v : Value) : Prop := (K = 0 ∧ v = .none) ∨ (K = 8 ∧ ∃ t, v = .int 0 t) ∨ (K = 9 ∧ ∃ t, v = .int 1 t) ∨ (K ≠ 0 ∧ K ≠ 8 ∧ K ≠ 9 ∧ ∃ t, v = .int (signedOf S.toNat (numAt l k S.toNat)) t)

theorem value_num {w : World} {p : Program} {loose : List Str} {mean : ExcName → Option Value} {mg mb : Str → Option Value} {h₀ : Heap} {A : Around} {s : Shared} {l : List UInt8} {bt it kt : Tok} {k : Int} {K S : Int}
    (X : (Mine.myK w.params).In h₀) (T : Top p loose mean mg mb h₀) (st : h₀.StaysIn s.heap) (hroom : Room A 8) (hl : l.length ≤ 1000) (h0 : 0 ≤ k) (hS : sizeK K = S) (hKS : (K = 0 ∧ S = 0) ∨ (K = 8 ∧ S = 0) ∨ (K = 9 ∧ S = 0) ∨ (K = 1 ∧ S = 1) ∨ (K = 6 ∧ S = 8)) (h1 : k + S ≤ l.length) :
    Calls7 PySem.Challenge.rw_xm0772_01.row.prog w A 687 [.bytes l.toArray bt, .int k it, .int K kt] s [] (fun v _ => NumIs l k.toNat K S v) := by
  intro R ret
  have hcalm := hroom.calm
  revert X; k_fill; intro X
  have hh0 : ∀ q ∈ ([] : List (Addr × Obj)), s.heap.get? q.1 = some q.2 ∧ h₀.get? q.1 = none := List.forall_mem_nil _
  k_dflt (refine' enter (binds := [(Str.ofString "octets", .bytes l.toArray bt), (Str.ofString "at", .int k it), (Str.ofString "kind", .int K kt)]) _ X T st hh0 ?k6 ?k7 ?k8 ?k9 ?kB ?_ ?c2 ?c3 ?c4 ?c5)
  case k6 => k_is
  case k7 => k_is
  case k8 => exact hroom.now
  case k9 => first | exact BindsTo.of_eq rfl | exact binds_K (X.keeps st) rfl (by k_is) rfl rfl rfl
  case kB => exact locs rfl
  case c2 => exact rfl
  case c3 => exact rfl
  case c4 => exact rfl
  case c5 => decide
  intro g L' h₁ stg hz hg Xg Tg F N
  k_dflt (show wpAny _ (Around.deeper _ (envOf _ ⟨_, _, _, _, _⟩ _ _ _)) (execs (_ :: _) (envOf _ ⟨_, _, _, _, _⟩ _ _ _)) _ _ _)
  k_fold
  have hlen : ((l.toArray.size : Nat) : Int) = l.length := by simp
  (repeat' (first | (k_unfold; (try dsimp only)) | (k_end; wrow_close) | (with_reducible ((with_reducible show wpAny _ _ (binaryOp Operator.Add (Value.int _ _) (Value.int _ _)) _ _ _); (with_reducible refine addI ?_))) | (with_reducible (k_here; (with_reducible show wpAny _ _ (call (Value.ref 652) _) _ _ _); (rename Fr _ _ _ _ => cF'); (rename News _ _ _ _ => cN'); k_dflt (refine' use7t cF' cN' (get_fixed_ok ?X ?T (stays_now ?st cF') ?room ?h0 ?h1 ?h2 ?h3) ?_); (case st => assumption); (case X => assumption); (case T => assumption); (case room => exact Room.deeper (by assumption) (by decide)); (case h0 => assumption); (case h1 => (with_reducible assumption)); (case h2 => (with_reducible assumption)); (case h3 => (with_reducible exact s47 (by assumption) (by assumption) (by assumption) (by assumption))); (intro _ _ _ _ _); (try clear cF' cN'))) | (with_reducible (k_here; (with_reducible show wpAny _ _ (call (Value.ref 673) _) _ _ _); (rename Fr _ _ _ _ => cF'); (rename News _ _ _ _ => cN'); k_dflt (refine' use7t cF' cN' (serial_size_ok ?X ?T (stays_now ?st cF') ?room ?h0) ?_); (case st => assumption); (case X => assumption); (case T => assumption); (case room => exact Room.deeper (by assumption) (by decide)); (case h0 => (with_reducible exact s46 (by assumption))); (intro _ _ _ _ _); (rw [show sizeK _ = _ from ‹sizeK _ = _›]); (try clear cF' cN'))) | (with_reducible (k_here; (with_reducible show wpAny _ _ (call (Value.builtin "len") [Value.bytes _ _]) _ _ _); k_dflt (refine' len_bytes ?k1 ?_; (case k1 => (simp only [List.size_toArray]; ((with_reducible refine t1 (by assumption) ?_); rfl))); k_whole))) | walk1 | (dsimp only; walk1) | (leave1; try dsimp only)))
  all_goals (refine ret _ _ _ ?_ (keep_back _ hg (fun q hq => (hh0 q hq).1) (by k_asm) (by k_asm) (List.forall_mem_nil _)) (grown_back hz (by k_asm)))
  all_goals (first | exact .inl ⟨by assumption, rfl⟩ | exact .inr (.inl ⟨by assumption, _, rfl⟩) | exact .inr (.inr (.inl ⟨by assumption, _, rfl⟩)) | exact .inr (.inr (.inr ⟨by assumption, by assumption, by assumption, _, rfl⟩)))
theorem value_nil {w : World} {p : Program} {loose : List Str} {mean : ExcName → Option Value} {mg mb : Str → Option Value} {h₀ : Heap} {A : Around} {s : Shared} {l : List UInt8} {bt it kt : Tok} {k : Int} (X : (Mine.myK w.params).In h₀) (T : Top p loose mean mg mb h₀) (st : h₀.StaysIn s.heap) (hroom : Room A 8) (hl : l.length ≤ 1000) (h0 : 0 ≤ k) (h1 : k ≤ l.length) :
    Calls7 PySem.Challenge.rw_xm0772_01.row.prog w A 687 [.bytes l.toArray bt, .int k it, .int 0 kt] s [] (fun v _ => v = .none) :=
  (value_num (S := 0) X T st hroom hl h0 (by decide) (by decide) (by (with_reducible exact s39 (by assumption)))).weaken fun v _ h => by
    rcases h with ⟨h, e⟩ | ⟨h, e⟩ | ⟨h, e⟩ | ⟨h1, h2, h3, t, e⟩
    · exact e
    · exact absurd h (by decide)
    · exact absurd h (by decide)
    · exact absurd rfl (by assumption)
theorem value_8 {w : World} {p : Program} {loose : List Str} {mean : ExcName → Option Value} {mg mb : Str → Option Value} {h₀ : Heap} {A : Around} {s : Shared} {l : List UInt8} {bt it kt : Tok} {k : Int} (X : (Mine.myK w.params).In h₀) (T : Top p loose mean mg mb h₀) (st : h₀.StaysIn s.heap) (hroom : Room A 8) (hl : l.length ≤ 1000) (h0 : 0 ≤ k) (h1 : k ≤ l.length) :
    Calls7 PySem.Challenge.rw_xm0772_01.row.prog w A 687 [.bytes l.toArray bt, .int k it, .int 8 kt] s [] (fun v _ => ∃ t, v = .int 0 t) :=
  (value_num (S := 0) X T st hroom hl h0 (by decide) (by decide) (by (with_reducible exact s39 (by assumption)))).weaken fun v _ h => by
    rcases h with ⟨h, e⟩ | ⟨h, e⟩ | ⟨h, e⟩ | ⟨h1, h2, h3, t, e⟩
    · exact absurd h (by decide)
    · exact e
    · exact absurd h (by decide)
    · exact absurd rfl (by assumption)
theorem value_9 {w : World} {p : Program} {loose : List Str} {mean : ExcName → Option Value} {mg mb : Str → Option Value} {h₀ : Heap} {A : Around} {s : Shared} {l : List UInt8} {bt it kt : Tok} {k : Int} (X : (Mine.myK w.params).In h₀) (T : Top p loose mean mg mb h₀) (st : h₀.StaysIn s.heap) (hroom : Room A 8) (hl : l.length ≤ 1000) (h0 : 0 ≤ k) (h1 : k ≤ l.length) :
    Calls7 PySem.Challenge.rw_xm0772_01.row.prog w A 687 [.bytes l.toArray bt, .int k it, .int 9 kt] s [] (fun v _ => ∃ t, v = .int 1 t) :=
  (value_num (S := 0) X T st hroom hl h0 (by decide) (by decide) (by (with_reducible exact s39 (by assumption)))).weaken fun v _ h => by
    rcases h with ⟨h, e⟩ | ⟨h, e⟩ | ⟨h, e⟩ | ⟨h1, h2, h3, t, e⟩
    · exact absurd h (by decide)
    · exact absurd h (by decide)
    · exact e
    · exact absurd rfl (by assumption)
theorem value_one {w : World} {p : Program} {loose : List Str} {mean : ExcName → Option Value} {mg mb : Str → Option Value} {h₀ : Heap} {A : Around} {s : Shared} {l : List UInt8} {bt it kt : Tok} {k x : Int} (X : (Mine.myK w.params).In h₀) (T : Top p loose mean mg mb h₀) (st : h₀.StaysIn s.heap) (hroom : Room A 8) (hl : l.length ≤ 1000) (h0 : 0 ≤ k) (h1 : k < l.length) (hx : ((l.getD k.toNat 0).toNat : Int) = x) (hx0 : 0 ≤ x) (hx7 : x < 256) :
    Calls7 PySem.Challenge.rw_xm0772_01.row.prog w A 687 [.bytes l.toArray bt, .int k it, .int 1 kt] s [] (fun v _ => ∃ t, v = .int (if x ≥ 128 then x - 256 else x) t) :=
  (value_num (S := 1) X T st hroom hl h0 (by decide) (by decide) (by omega)).weaken fun v _ h => by
    rcases h with ⟨h, e⟩ | ⟨h, e⟩ | ⟨h, e⟩ | ⟨h1, h2, h3, t, e⟩
    · exact absurd h (by decide)
    · exact absurd h (by decide)
    · exact absurd h (by decide)
    · exact ⟨t, e.trans (by rw [show Int.toNat 1 = 1 from rfl, signed_one hx hx0 hx7])⟩
theorem value_big {w : World} {p : Program} {loose : List Str} {mean : ExcName → Option Value} {mg mb : Str → Option Value} {h₀ : Heap} {A : Around} {s : Shared} {l : List UInt8} {bt it kt : Tok} {k : Int} (X : (Mine.myK w.params).In h₀) (T : Top p loose mean mg mb h₀) (st : h₀.StaysIn s.heap) (hroom : Room A 8) (hl : l.length ≤ 1000) (h0 : 0 ≤ k) (h1 : k + 8 ≤ l.length) (hb0 : ((l.getD (k).toNat 0).toNat : Int) = 127) (hb1 : ((l.getD (k + 1).toNat 0).toNat : Int) = 255) (hb2 : ((l.getD (k + 2).toNat 0).toNat : Int) = 255) (hb3 : ((l.getD (k + 3).toNat 0).toNat : Int) = 255) (hb4 : ((l.getD (k + 4).toNat 0).toNat : Int) = 255) (hb5 : ((l.getD (k + 5).toNat 0).toNat : Int) = 255) (hb6 : ((l.getD (k + 6).toNat 0).toNat : Int) = 255) (hb7 : ((l.getD (k + 7).toNat 0).toNat : Int) = 255) :
    Calls7 PySem.Challenge.rw_xm0772_01.row.prog w A 687 [.bytes l.toArray bt, .int k it, .int 6 kt] s [] (fun v _ => ∃ t, v = .int (9223372036854775807) t) :=
  (value_num (S := 8) X T st hroom hl h0 (by decide) (by decide) (by (with_reducible assumption))).weaken fun v _ h => by
    rcases h with ⟨h, e⟩ | ⟨h, e⟩ | ⟨h, e⟩ | ⟨h1, h2, h3, t, e⟩
    · exact absurd h (by decide)
    · exact absurd h (by decide)
    · exact absurd h (by decide)
    · exact ⟨t, e.trans (by rw [show Int.toNat 8 = 8 from rfl, signed_big h0 hb0 hb1 hb2 hb3 hb4 hb5 hb6 hb7])⟩
theorem value_low {w : World} {p : Program} {loose : List Str} {mean : ExcName → Option Value} {mg mb : Str → Option Value} {h₀ : Heap} {A : Around} {s : Shared} {l : List UInt8} {bt it kt : Tok} {k : Int} (X : (Mine.myK w.params).In h₀) (T : Top p loose mean mg mb h₀) (st : h₀.StaysIn s.heap) (hroom : Room A 8) (hl : l.length ≤ 1000) (h0 : 0 ≤ k) (h1 : k + 8 ≤ l.length) (hb0 : ((l.getD (k).toNat 0).toNat : Int) = 128) (hb1 : ((l.getD (k + 1).toNat 0).toNat : Int) = 0) (hb2 : ((l.getD (k + 2).toNat 0).toNat : Int) = 0) (hb3 : ((l.getD (k + 3).toNat 0).toNat : Int) = 0) (hb4 : ((l.getD (k + 4).toNat 0).toNat : Int) = 0) (hb5 : ((l.getD (k + 5).toNat 0).toNat : Int) = 0) (hb6 : ((l.getD (k + 6).toNat 0).toNat : Int) = 0) (hb7 : ((l.getD (k + 7).toNat 0).toNat : Int) = 0) :
    Calls7 PySem.Challenge.rw_xm0772_01.row.prog w A 687 [.bytes l.toArray bt, .int k it, .int 6 kt] s [] (fun v _ => ∃ t, v = .int (-9223372036854775808) t) :=
  (value_num (S := 8) X T st hroom hl h0 (by decide) (by decide) (by (with_reducible assumption))).weaken fun v _ h => by
    rcases h with ⟨h, e⟩ | ⟨h, e⟩ | ⟨h, e⟩ | ⟨h1, h2, h3, t, e⟩
    · exact absurd h (by decide)
    · exact absurd h (by decide)
    · exact absurd h (by decide)
    · exact ⟨t, e.trans (by rw [show Int.toNat 8 = 8 from rfl, signed_low h0 hb0 hb1 hb2 hb3 hb4 hb5 hb6 hb7])⟩

end
section -- K24
set_option maxHeartbeats 2000000


theorem value_bytes {w : World} {p : Program} {loose : List Str} {mean : ExcName → Option Value} {mg mb : Str → Option Value} {h₀ : Heap} {A : Around} {s : Shared} {l : List UInt8} {bt it kt : Tok} {k n : Int}
    (X : (Mine.myK w.params).In h₀) (T : Top p loose mean mg mb h₀) (st : h₀.StaysIn s.heap) (hroom : Room A 8) (hl : l.length ≤ 1000) (h0 : 0 < k) (hn : 0 ≤ n) (hn2 : n ≤ 2) (h1 : k + n ≤ l.length) :
    Calls7 PySem.Challenge.rw_xm0772_01.row.prog w A 687 [.bytes l.toArray bt, .int k it, .int (12 + 2 * n) kt] s [] (fun v _ => ∃ t, v = .bytes ((l.drop k.toNat).take n.toNat).toArray t) := by
  intro R ret
  have hcalm := hroom.calm
  revert X; k_fill; intro X
  have hh0 : ∀ q ∈ ([] : List (Addr × Obj)), s.heap.get? q.1 = some q.2 ∧ h₀.get? q.1 = none := List.forall_mem_nil _
  k_dflt (refine' enter (binds := [(Str.ofString "octets", .bytes l.toArray bt), (Str.ofString "at", .int k it), (Str.ofString "kind", .int (12 + 2 * n) kt)]) _ X T st hh0 ?k6 ?k7 ?k8 ?k9 ?kB ?_ ?c2 ?c3 ?c4 ?c5)
  case k6 => k_is
  case k7 => k_is
  case k8 => exact hroom.now
  case k9 => first | exact BindsTo.of_eq rfl | exact binds_K (X.keeps st) rfl (by k_is) rfl rfl rfl
  case kB => exact locs rfl
  case c2 => exact rfl
  case c3 => exact rfl
  case c4 => exact rfl
  case c5 => decide
  intro g L' h₁ stg hz hg Xg Tg F N
  k_dflt (show wpAny _ (Around.deeper _ (envOf _ ⟨_, _, _, _, _⟩ _ _ _)) (execs (_ :: _) (envOf _ ⟨_, _, _, _, _⟩ _ _ _)) _ _ _)
  k_fold
  have hlen : ((l.toArray.size : Nat) : Int) = l.length := by simp
  have hsz : sizeK (12 + 2 * n) = n := by unfold sizeK; rw [if_pos (by omega)]; (with_reducible exact s35)
  (repeat' (first | (k_unfold; (try dsimp only)) | (k_end; wrow_close) | (with_reducible ((with_reducible show wpAny _ _ (binaryOp Operator.Add (Value.int _ _) (Value.int _ _)) _ _ _); (with_reducible refine addI ?_))) | (with_reducible (k_here; (with_reducible show wpAny _ _ (binaryOp Operator.Mod (Value.int _ _) (Value.int _ _)) _ _ _); k_dflt (first | (refine' mod_to _ ?k1 ?k2 ?_; (case k1 => decide); (case k2 => (simp only [Int.reduceMod, Int.reduceNeg]; rfl)); k_whole) | (refine' mod_small ?k1 ?k2 ?_; (case k1 => omega); (case k2 => omega); k_whole) | (refine' mod_to _ ?k1 ?k2 ?_; (case k1 => decide); (case k2 => rfl); k_whole)))) | (with_reducible (k_here; (with_reducible show wpAny _ _ (call (Value.type "bytes") [Value.bytes _ _]) _ _ _); k_dflt (refine' bytes_of_bytes ?_))) | (with_reducible (k_here; (with_reducible show wpAny _ _ (call (Value.ref 673) _) _ _ _); (rename Fr _ _ _ _ => cF'); (rename News _ _ _ _ => cN'); k_dflt (refine' use7p cF' cN' (serial_size_ok ?X ?T (stays_now ?st cF') ?room ?h0) ?_); (case st => assumption); (case X => assumption); (case T => assumption); (case room => exact Room.deeper (by assumption) (by decide)); (case h0 => omega); (intro _ _ _ p' _ _); (obtain ⟨_, e'⟩ := p'); subst e'; (rw [show sizeK _ = _ from ‹sizeK _ = _›]); (try clear cF' cN'))) | (with_reducible (k_here; (with_reducible show wpAny _ _ (call (Value.builtin "len") [Value.bytes _ _]) _ _ _); k_dflt (refine' len_bytes ?k1 ?_; (case k1 => (simp only [List.size_toArray]; ((with_reducible refine t1 (by assumption) ?_); rfl))); k_whole))) | (with_reducible (k_here; (with_reducible show wpAny _ _ (subscriptTail _ (PySem.Expr.Slice _ _ none _) (Value.bytes _ _) (Value.ref _)) _ _ _); (with_reducible rename Fr _ _ _ _ => F'); (with_reducible rename News _ _ _ _ => N'); (refine KBy.slice_N (s := ⟨_, _, _, _, _⟩) F' N' (by constructor) (by constructor) (whole_int _ _ _ (by (with_reducible assumption)) (by (with_reducible assumption)) (by (with_reducible assumption))) (by rw [picked_int _ _ _ (by (with_reducible assumption)) (by (with_reducible assumption)) (by (with_reducible assumption))]; simp only [List.size_toArray, List.length_take]; omega) ?_); rw [picked_int _ _ _ (by (with_reducible assumption)) (by (with_reducible assumption)) (by (with_reducible assumption))]; intro _ _ _ _ _)) | walk1 | (dsimp only; walk1) | (leave1; try dsimp only)))
  all_goals (try (exfalso; omega))
  all_goals (refine ret _ _ _ ?_ (keep_back _ hg (fun q hq => (hh0 q hq).1) (by k_asm) (by k_asm) (by repeat' (first | exact List.forall_mem_nil _ | refine fmc (fun _ => by k_mem) ?_ | refine fmc (fun h9 => absurd (by k_mem) h9) ?_))) (grown_back hz (by k_asm)))
  all_goals (try dsimp only)
  all_goals (exact bytes_is rfl)

end
section -- K19
set_option maxHeartbeats 2000000


theorem text_nil {w : World} {p : Program} {loose : List Str} {mean : ExcName → Option Value} {mg mb : Str → Option Value} {h₀ : Heap} {A : Around} {s : Shared} {bt : Tok}
    (X : (Mine.myK w.params).In h₀) (T : Top p loose mean mg mb h₀) (st : h₀.StaysIn s.heap) (hroom : Room A 12)  :
    Calls7 PySem.Challenge.rw_xm0772_01.row.prog w A 595 [.bytes ([] : List UInt8).toArray bt] s [] (fun v h => ∃ t, v = .str tx0 t) := by
  intro R ret
  have hcalm := hroom.calm
  revert X; k_fill; intro X
  have hh0 : ∀ q ∈ ([] : List (Addr × Obj)), s.heap.get? q.1 = some q.2 ∧ h₀.get? q.1 = none := List.forall_mem_nil _
  k_dflt (refine' enter (binds := [(Str.ofString "octets", .bytes ([] : List UInt8).toArray bt)]) _ X T st hh0 ?k6 ?k7 ?k8 ?k9 ?kB ?_ ?c2 ?c3 ?c4 ?c5)
  case k6 => k_is
  case k7 => k_is
  case k8 => exact hroom.now
  case k9 => first | exact BindsTo.of_eq rfl | exact binds_K (X.keeps st) rfl (by k_is) rfl rfl rfl
  case kB => exact locs rfl
  case c2 => exact rfl
  case c3 => exact rfl
  case c4 => exact rfl
  case c5 => decide
  intro g L' h₁ stg hz hg Xg Tg F N
  k_dflt (show wpAny _ (Around.deeper _ (envOf _ ⟨_, _, _, _, _⟩ _ _ _)) (execs (_ :: _) (envOf _ ⟨_, _, _, _, _⟩ _ _ _)) _ _ _)
  k_fold
  (repeat' (first | (k_unfold; (try dsimp only)) | (k_end; wrow_close) | (with_reducible ((with_reducible show wpAny _ _ (exec (Stmt.While _ _ _ _) _) _ _ _); k_here; k_dflt (refine whl_start 100 ?_))) | (with_reducible (k_here; (with_reducible show wpAny _ _ (newList _) _ _ _); k_dflt (refine' newL ?k1 ?k2 ?_ ?z; (case k1 => k_asm); (case k2 => k_asm); (case z => first | exact sz0 | exact sz1 | exact sz2 | exact sz3 | size_fits); k_whole); intro _ _ _ _ l1; (try k_lt l1); (try (revert l1; intros)); (try k_sweep))) | walk1 | (dsimp only; walk1) | (leave1; try dsimp only)))
  all_goals (refine ret _ _ _ ?_ (keep_back _ hg (fun q hq => (hh0 q hq).1) (by k_asm) (by k_asm) (by repeat' (first | exact List.forall_mem_nil _ | refine fmc (fun _ => by k_mem) ?_ | refine fmc (fun h9 => absurd (by k_mem) h9) ?_))) (grown_back hz (by k_asm)))
  all_goals (try dsimp only)
  all_goals (exact ⟨_, rfl⟩)

end
section -- K20
set_option maxHeartbeats 2000000


theorem lead_x {w : World} {p : Program} {loose : List Str} {mean : ExcName → Option Value} {mg mb : Str → Option Value} {h₀ : Heap} {A : Around} {s : Shared} {ot : Tok}
    (X : (Mine.myK w.params).In h₀) (T : Top p loose mean mg mb h₀) (st : h₀.StaysIn s.heap) (hroom : Room A 5)  :
    Calls7 PySem.Challenge.rw_xm0772_01.row.prog w A 588 [.int 120 ot] s [] (fun v h => ∃ a t1 t2 t3, v = .ref a ∧ Live h₀ h a (tup3 (.int 0 t1) (.int 120 t2) (.int 0 t3)) ∧ s.heap.get? a = none) := by
  intro R ret
  have hcalm := hroom.calm
  revert X; k_fill; intro X
  have hh0 : ∀ q ∈ ([] : List (Addr × Obj)), s.heap.get? q.1 = some q.2 ∧ h₀.get? q.1 = none := List.forall_mem_nil _
  k_dflt (refine' enter (binds := [(Str.ofString "octet", .int 120 ot)]) _ X T st hh0 ?k6 ?k7 ?k8 ?k9 ?kB ?_ ?c2 ?c3 ?c4 ?c5)
  case k6 => k_is
  case k7 => k_is
  case k8 => exact hroom.now
  case k9 => first | exact BindsTo.of_eq rfl | exact binds_K (X.keeps st) rfl (by k_is) rfl rfl rfl
  case kB => exact locs rfl
  case c2 => exact rfl
  case c3 => exact rfl
  case c4 => exact rfl
  case c5 => decide
  intro g L' h₁ stg hz hg Xg Tg F N
  k_dflt (show wpAny _ (Around.deeper _ (envOf _ ⟨_, _, _, _, _⟩ _ _ _)) (execs (_ :: _) (envOf _ ⟨_, _, _, _, _⟩ _ _ _)) _ _ _)
  k_fold
  (repeat' (first | (k_unfold; (try dsimp only)) | (k_end; wrow_close) | (with_reducible (k_here; (with_reducible show wpAny _ _ (newTuple _) _ _ _); kup_bare; k_dflt (refine' newT ?F ?N ?_ ?z; (case F => k_asm); (case N => k_asm); (case z => first | exact sz0 | exact sz1 | exact sz2 | exact sz3 | kmk_size)); intro _ _ _ _ l1; (try k_lt l1); (try (revert l1; intros)); (try k_sweep))) | walk1 | (dsimp only; walk1) | (leave1; try dsimp only)))
  all_goals (refine ret _ _ _ ?_ (keep_back _ hg (fun q hq => (hh0 q hq).1) (by k_asm) (by k_asm) (by repeat' (first | exact List.forall_mem_nil _ | refine fmc (fun _ => by k_mem) ?_ | refine fmc (fun h9 => absurd (by k_mem) h9) ?_))) (grown_back hz (by k_asm)))
  all_goals (try dsimp only)
  all_goals (exact ⟨_, _, _, _, rfl, Live.of stg (by k_asm) (by k_mem), fresh_own hg (by k_asm) (by k_mem)⟩)

theorem lead_e {w : World} {p : Program} {loose : List Str} {mean : ExcName → Option Value} {mg mb : Str → Option Value} {h₀ : Heap} {A : Around} {s : Shared} {ot : Tok}
    (X : (Mine.myK w.params).In h₀) (T : Top p loose mean mg mb h₀) (st : h₀.StaysIn s.heap) (hroom : Room A 5)  :
    Calls7 PySem.Challenge.rw_xm0772_01.row.prog w A 588 [.int 195 ot] s [] (fun v h => ∃ a t1 t2 t3, v = .ref a ∧ Live h₀ h a (tup3 (.int 1 t1) (.int 3 t2) (.int 128 t3)) ∧ s.heap.get? a = none) := by
  intro R ret
  have hcalm := hroom.calm
  revert X; k_fill; intro X
  have hh0 : ∀ q ∈ ([] : List (Addr × Obj)), s.heap.get? q.1 = some q.2 ∧ h₀.get? q.1 = none := List.forall_mem_nil _
  k_dflt (refine' enter (binds := [(Str.ofString "octet", .int 195 ot)]) _ X T st hh0 ?k6 ?k7 ?k8 ?k9 ?kB ?_ ?c2 ?c3 ?c4 ?c5)
  case k6 => k_is
  case k7 => k_is
  case k8 => exact hroom.now
  case k9 => first | exact BindsTo.of_eq rfl | exact binds_K (X.keeps st) rfl (by k_is) rfl rfl rfl
  case kB => exact locs rfl
  case c2 => exact rfl
  case c3 => exact rfl
  case c4 => exact rfl
  case c5 => decide
  intro g L' h₁ stg hz hg Xg Tg F N
  k_dflt (show wpAny _ (Around.deeper _ (envOf _ ⟨_, _, _, _, _⟩ _ _ _)) (execs (_ :: _) (envOf _ ⟨_, _, _, _, _⟩ _ _ _)) _ _ _)
  k_fold
  (repeat' (first | (k_unfold; (try dsimp only)) | (k_end; wrow_close) | (with_reducible (k_here; (with_reducible show wpAny _ _ (newTuple _) _ _ _); kup_bare; k_dflt (refine' newT ?F ?N ?_ ?z; (case F => k_asm); (case N => k_asm); (case z => first | exact sz0 | exact sz1 | exact sz2 | exact sz3 | kmk_size)); intro _ _ _ _ l1; (try k_lt l1); (try (revert l1; intros)); (try k_sweep))) | walk1 | (dsimp only; walk1) | (leave1; try dsimp only)))
  all_goals (refine ret _ _ _ ?_ (keep_back _ hg (fun q hq => (hh0 q hq).1) (by k_asm) (by k_asm) (by repeat' (first | exact List.forall_mem_nil _ | refine fmc (fun _ => by k_mem) ?_ | refine fmc (fun h9 => absurd (by k_mem) h9) ?_))) (grown_back hz (by k_asm)))
  all_goals (try dsimp only)
  all_goals (exact ⟨_, _, _, _, rfl, Live.of stg (by k_asm) (by k_mem), fresh_own hg (by k_asm) (by k_mem)⟩)

theorem code_x {w : World} {p : Program} {loose : List Str} {mean : ExcName → Option Value} {mg mb : Str → Option Value} {h₀ : Heap} {A : Around} {s : Shared} {bt it t1 t2 t3 : Tok} {la : Addr}
    (X : (Mine.myK w.params).In h₀) (T : Top p loose mean mg mb h₀) (st : h₀.StaysIn s.heap) (hroom : Room A 5) (hla : Live h₀ s.heap la ({ cls := .type "tuple", data := .seq #[.int 0 t1, .int 120 t2, .int 0 t3] } : Obj)) :
    Calls7 PySem.Challenge.rw_xm0772_01.row.prog w A 602 [.bytes ([120, 195, 169] : List UInt8).toArray bt, .int 1 it, .ref la] s [] (fun v h => ∃ t, v = .int 120 t) := by
  intro R ret
  have hcalm := hroom.calm
  revert X; k_fill; intro X
  have hh0 : ∀ q ∈ ([(la, ({ cls := .type "tuple", data := .seq #[.int 0 t1, .int 120 t2, .int 0 t3] } : Obj))] : List (Addr × Obj)), s.heap.get? q.1 = some q.2 ∧ h₀.get? q.1 = none := fmc hla (List.forall_mem_nil _)
  k_dflt (refine' enter (binds := [(Str.ofString "octets", .bytes ([120, 195, 169] : List UInt8).toArray bt), (Str.ofString "at", .int 1 it), (Str.ofString "lead", .ref la)]) _ X T st hh0 ?k6 ?k7 ?k8 ?k9 ?kB ?_ ?c2 ?c3 ?c4 ?c5)
  case k6 => k_is
  case k7 => k_is
  case k8 => exact hroom.now
  case k9 => first | exact BindsTo.of_eq rfl | exact binds_K (X.keeps st) rfl (by k_is) rfl rfl rfl
  case kB => exact locs rfl
  case c2 => exact rfl
  case c3 => exact rfl
  case c4 => exact rfl
  case c5 => decide
  intro g L' h₁ stg hz hg Xg Tg F N
  k_dflt (show wpAny _ (Around.deeper _ (envOf _ ⟨_, _, _, _, _⟩ _ _ _)) (execs (_ :: _) (envOf _ ⟨_, _, _, _, _⟩ _ _ _)) _ _ _)
  k_fold
  (repeat' (first | (k_unfold; (try dsimp only)) | (k_end; wrow_close) | (with_reducible ((with_reducible show wpAny _ _ (binaryOp Operator.Add (Value.int _ _) (Value.int _ _)) _ _ _); (with_reducible refine addI ?_))) | (with_reducible (k_here; (with_reducible show wpAny _ _ (assign (Expr.Tuple _ _ _) _ (Value.ref _)) _ _ _); k_dflt (refine' unpackN_ ?F ?N ?T ?k1 ?k2 ?k3 ?_; (case F => k_asm); (case N => k_asm); (case T => (refine News.isTup (by k_asm) (by k_mem))); (case k1 => assumption); (case k2 => exact rfl); (case k3 => exact rfl)); intro _ _ _; (try k_sweep))) | (with_reducible ((with_reducible show wpAny _ _ (pyIter (Value.ref _)) (fun it s₂ => LoopAtV _ _ _ _ _ _ _ _ _ it s₂) _ _); l_hasStore; (rename Fr _ _ _ _ => lF'); (rename News _ _ _ _ => lN'); (rename IsRange _ _ _ _ _ _ _ _ => lR'); (with_unfolding_all first | refine iter_rangeU 0 (by assumption) lR' (by decide) (by decide) (by decide) lF' lN' ?_ | refine iter_rangeU 1 (by assumption) lR' (by omega) (by omega) (by omega) lF' lN' ?_ | refine iter_rangeU 2 (by assumption) lR' (by omega) (by omega) (by omega) lF' lN' ?_ | refine iter_rangeU 3 (by assumption) lR' (by omega) (by omega) (by omega) lF' lN' ?_ | refine iter_rangeU 4 (by assumption) lR' (by omega) (by omega) (by omega) lF' lN' ?_ | refine iter_rangeU 6 (by assumption) lR' (by omega) (by omega) (by omega) lF' lN' ?_ | refine iter_rangeU 8 (by assumption) lR' (by omega) (by omega) (by omega) lF' lN' ?_ | refine iter_rangeU 9 (by assumption) lR' (by omega) (by omega) (by omega) lF' lN' ?_); clear lF' lN' lR'; intro _ l1; (try k_lt l1); (try (revert l1; intros)))) | (with_reducible ((with_reducible show RangeRest _ _ _ _ _ _ _ _ _ _ _ _ _ _ _ _ _); with_unfolding_all first | (refine range_next _ (by simp; rfl) _ _ (by simp; rfl) (by simp; rfl) (fun t' h' tk' F' N' => ?_)) | (refine RangeRest.zero (fun h' tk' F' N' => ?_)))) | walk1 | (dsimp only; walk1) | (leave1; try dsimp only)))
  all_goals (refine ret _ _ _ ?_ (keep_back _ hg (fun q hq => (hh0 q hq).1) (by k_asm) (by k_asm) (by repeat' (first | exact List.forall_mem_nil _ | refine fmc (fun _ => by k_mem) ?_ | refine fmc (fun h9 => absurd (by k_mem) h9) ?_))) (grown_back hz (by k_asm)))
  all_goals (try dsimp only)
  all_goals (exact int_is (by decide +kernel))

theorem code_e {w : World} {p : Program} {loose : List Str} {mean : ExcName → Option Value} {mg mb : Str → Option Value} {h₀ : Heap} {A : Around} {s : Shared} {bt it t1 t2 t3 : Tok} {la : Addr}
    (X : (Mine.myK w.params).In h₀) (T : Top p loose mean mg mb h₀) (st : h₀.StaysIn s.heap) (hroom : Room A 5) (hla : Live h₀ s.heap la ({ cls := .type "tuple", data := .seq #[.int 1 t1, .int 3 t2, .int 128 t3] } : Obj)) :
    Calls7 PySem.Challenge.rw_xm0772_01.row.prog w A 602 [.bytes ([120, 195, 169] : List UInt8).toArray bt, .int 2 it, .ref la] s [] (fun v h => ∃ t, v = .int 233 t) := by
  intro R ret
  have hcalm := hroom.calm
  revert X; k_fill; intro X
  have hh0 : ∀ q ∈ ([(la, ({ cls := .type "tuple", data := .seq #[.int 1 t1, .int 3 t2, .int 128 t3] } : Obj))] : List (Addr × Obj)), s.heap.get? q.1 = some q.2 ∧ h₀.get? q.1 = none := fmc hla (List.forall_mem_nil _)
  k_dflt (refine' enter (binds := [(Str.ofString "octets", .bytes ([120, 195, 169] : List UInt8).toArray bt), (Str.ofString "at", .int 2 it), (Str.ofString "lead", .ref la)]) _ X T st hh0 ?k6 ?k7 ?k8 ?k9 ?kB ?_ ?c2 ?c3 ?c4 ?c5)
  case k6 => k_is
  case k7 => k_is
  case k8 => exact hroom.now
  case k9 => first | exact BindsTo.of_eq rfl | exact binds_K (X.keeps st) rfl (by k_is) rfl rfl rfl
  case kB => exact locs rfl
  case c2 => exact rfl
  case c3 => exact rfl
  case c4 => exact rfl
  case c5 => decide
  intro g L' h₁ stg hz hg Xg Tg F N
  k_dflt (show wpAny _ (Around.deeper _ (envOf _ ⟨_, _, _, _, _⟩ _ _ _)) (execs (_ :: _) (envOf _ ⟨_, _, _, _, _⟩ _ _ _)) _ _ _)
  k_fold
  (repeat' (first | (k_unfold; (try dsimp only)) | (k_end; wrow_close) | (with_reducible ((with_reducible show wpAny _ _ (binaryOp Operator.Add (Value.int _ _) (Value.int _ _)) _ _ _); (with_reducible refine addI ?_))) | (with_reducible (k_here; (with_reducible show wpAny _ _ (assign (Expr.Tuple _ _ _) _ (Value.ref _)) _ _ _); k_dflt (refine' unpackN_ ?F ?N ?T ?k1 ?k2 ?k3 ?_; (case F => k_asm); (case N => k_asm); (case T => (refine News.isTup (by k_asm) (by k_mem))); (case k1 => assumption); (case k2 => exact rfl); (case k3 => exact rfl)); intro _ _ _; (try k_sweep))) | (with_reducible ((with_reducible show wpAny _ _ (pyIter (Value.ref _)) (fun it s₂ => LoopAtV _ _ _ _ _ _ _ _ _ it s₂) _ _); l_hasStore; (rename Fr _ _ _ _ => lF'); (rename News _ _ _ _ => lN'); (rename IsRange _ _ _ _ _ _ _ _ => lR'); (with_unfolding_all first | refine iter_rangeU 0 (by assumption) lR' (by decide) (by decide) (by omega) lF' lN' ?_ | refine iter_rangeU 1 (by assumption) lR' (by decide) (by decide) (by decide) lF' lN' ?_ | refine iter_rangeU 2 (by assumption) lR' (by omega) (by omega) (by omega) lF' lN' ?_ | refine iter_rangeU 3 (by assumption) lR' (by omega) (by omega) (by omega) lF' lN' ?_ | refine iter_rangeU 4 (by assumption) lR' (by omega) (by omega) (by omega) lF' lN' ?_ | refine iter_rangeU 6 (by assumption) lR' (by omega) (by omega) (by omega) lF' lN' ?_ | refine iter_rangeU 8 (by assumption) lR' (by omega) (by omega) (by omega) lF' lN' ?_ | refine iter_rangeU 9 (by assumption) lR' (by omega) (by omega) (by omega) lF' lN' ?_); clear lF' lN' lR'; intro _ l1; (try k_lt l1); (try (revert l1; intros)))) | (with_reducible ((with_reducible show RangeRest _ _ _ _ _ _ _ _ _ _ _ _ _ _ _ _ _); with_unfolding_all first | (refine range_next _ (by simp; rfl) _ _ (by simp; rfl) (by simp; rfl) (fun t' h' tk' F' N' => ?_)) | (refine RangeRest.zero (fun h' tk' F' N' => ?_)))) | walk1 | (dsimp only; walk1) | (leave1; try dsimp only)))
  all_goals (refine ret _ _ _ ?_ (keep_back _ hg (fun q hq => (hh0 q hq).1) (by k_asm) (by k_asm) (by repeat' (first | exact List.forall_mem_nil _ | refine fmc (fun _ => by k_mem) ?_ | refine fmc (fun h9 => absurd (by k_mem) h9) ?_))) (grown_back hz (by k_asm)))
  all_goals (try dsimp only)
  all_goals (exact int_is (by decide +kernel))

end
section -- K21
set_option maxHeartbeats 2000000


theorem text_one {w : World} {p : Program} {loose : List Str} {mean : ExcName → Option Value} {mg mb : Str → Option Value} {h₀ : Heap} {A : Around} {s : Shared} {bt : Tok}
    (X : (Mine.myK w.params).In h₀) (T : Top p loose mean mg mb h₀) (st : h₀.StaysIn s.heap) (hroom : Room A 12)  :
    Calls7 PySem.Challenge.rw_xm0772_01.row.prog w A 595 [.bytes ([120, 195, 169] : List UInt8).toArray bt] s [] (fun v h => ∃ t, v = .str tx1 t) := by
  intro R ret
  have hcalm := hroom.calm
  revert X; k_fill; intro X
  have hh0 : ∀ q ∈ ([] : List (Addr × Obj)), s.heap.get? q.1 = some q.2 ∧ h₀.get? q.1 = none := List.forall_mem_nil _
  k_dflt (refine' enter (binds := [(Str.ofString "octets", .bytes ([120, 195, 169] : List UInt8).toArray bt)]) _ X T st hh0 ?k6 ?k7 ?k8 ?k9 ?kB ?_ ?c2 ?c3 ?c4 ?c5)
  case k6 => k_is
  case k7 => k_is
  case k8 => exact hroom.now
  case k9 => first | exact BindsTo.of_eq rfl | exact binds_K (X.keeps st) rfl (by k_is) rfl rfl rfl
  case kB => exact locs rfl
  case c2 => exact rfl
  case c3 => exact rfl
  case c4 => exact rfl
  case c5 => decide
  intro g L' h₁ stg hz hg Xg Tg F N
  k_dflt (show wpAny _ (Around.deeper _ (envOf _ ⟨_, _, _, _, _⟩ _ _ _)) (execs (_ :: _) (envOf _ ⟨_, _, _, _, _⟩ _ _ _)) _ _ _)
  k_fold
  (repeat' (first | (k_unfold; (try dsimp only)) | (k_end; wrow_close) | (with_reducible ((with_reducible show wpAny _ _ (inplaceOp Operator.Add (Value.int _ _) (Value.int _ _)) _ _ _); (with_reducible refine iaddI ?_))) | (with_reducible ((with_reducible show wpAny _ _ (binaryOp Operator.Add (Value.int _ _) (Value.int _ _)) _ _ _); (with_reducible refine addI ?_))) | (with_reducible ((with_reducible show wpAny _ _ (exec (Stmt.While _ _ _ _) _) _ _ _); k_here; k_dflt (refine whl_start 100 ?_))) | (with_reducible (k_here; (with_reducible show wpAny _ _ (call (Value.ref 602) _) _ _ _); (rename Fr _ _ _ _ => cF'); (rename News _ _ _ _ => cN'); k_dflt (refine' use7t cF' cN' (code_e ?X ?T (Fr.keep cF') ?room ?h0) ?_); (case X => assumption); (case T => assumption); (case room => exact Room.deeper (by assumption) (by decide)); (case h0 => exact live_own (by assumption) (by k_mem)); (intro _ _ _ _ _); (try clear cF' cN'))) | (with_reducible (k_here; (with_reducible show wpAny _ _ (call (Value.ref 602) _) _ _ _); (rename Fr _ _ _ _ => cF'); (rename News _ _ _ _ => cN'); k_dflt (refine' use7t cF' cN' (code_x ?X ?T (Fr.keep cF') ?room ?h0) ?_); (case X => assumption); (case T => assumption); (case room => exact Room.deeper (by assumption) (by decide)); (case h0 => exact live_own (by assumption) (by k_mem)); (intro _ _ _ _ _); (try clear cF' cN'))) | (k_here; (with_reducible show wpAny _ _ (call (Value.ref 588) _) _ _ _); (rename Fr _ _ _ _ => cF'); (rename News _ _ _ _ => cN'); k_dflt (refine' use7p cF' cN' (lead_e ?X ?T (Fr.keep cF') ?room ) ?_); (case X => assumption); (case T => assumption); (case room => exact Room.deeper (by assumption) (by decide)); (intro _ _ _ p' F' N'); (obtain ⟨_, _, _, _, e', l', n'⟩ := p'); subst e'; (have d' := apart_new cN' n'); (try (simp only [List.forall_mem_cons] at d')); (try (have d2' := neLt d'.1)); (try (revert d2'; intros)); (try (have d3' := neLt d'.2.1)); (try (revert d3'; intros)); (try (have d4' := neLt d'.2.2.1)); (try (revert d4'; intros)); (try (have d5' := neLt d'.2.2.2.1)); (try (revert d5'; intros)); (try (have d6' := neLt d'.2.2.2.2.1)); (try (revert d6'; intros)); clear d'; (have N2' := news_live F' N' l' (by intro _ _ e; cases e)); (try (revert F'; intros)); (try (revert e; intros)); (try (revert N2'; intros)); clear N' l' n'; (try clear cF' cN')) | (k_here; (with_reducible show wpAny _ _ (call (Value.ref 588) _) _ _ _); (rename Fr _ _ _ _ => cF'); (rename News _ _ _ _ => cN'); k_dflt (refine' use7p cF' cN' (lead_x ?X ?T (Fr.keep cF') ?room ) ?_); (case X => assumption); (case T => assumption); (case room => exact Room.deeper (by assumption) (by decide)); (intro _ _ _ p' F' N'); (obtain ⟨_, _, _, _, e', l', n'⟩ := p'); subst e'; (have d' := apart_new cN' n'); (try (simp only [List.forall_mem_cons] at d')); (try (have d2' := neLt d'.1)); (try (revert d2'; intros)); (try (have d3' := neLt d'.2.1)); (try (revert d3'; intros)); (try (have d4' := neLt d'.2.2.1)); (try (revert d4'; intros)); (try (have d5' := neLt d'.2.2.2.1)); (try (revert d5'; intros)); (try (have d6' := neLt d'.2.2.2.2.1)); (try (revert d6'; intros)); clear d'; (have N2' := news_live F' N' l' (by intro _ _ e; cases e)); (try (revert F'; intros)); (try (revert e; intros)); (try (revert N2'; intros)); clear N' l' n'; (try clear cF' cN')) | (with_reducible (k_here; (with_reducible show wpAny _ _ (call (Value.builtin "list.append") [Value.ref _, _]) _ _ _); k_dflt (refine' appL ?k1 ?k2 ?k3 ?_ ?z; (case k1 => k_asm); (case k2 => k_asm); (case k3 => k_upd); (case z => first | exact sz0 | size_fits); k_whole); intro _ _ _; (try k_sweep))) | (with_reducible (k_here; (with_reducible show wpAny _ _ (newList _) _ _ _); k_dflt (refine' newL ?k1 ?k2 ?_ ?z; (case k1 => k_asm); (case k2 => k_asm); (case z => first | exact sz0 | exact sz1 | exact sz2 | exact sz3 | size_fits); k_whole); intro _ _ _ _ l1; (try k_lt l1); (try (revert l1; intros)); (try k_sweep))) | walk1 | (dsimp only; walk1) | (leave1; try dsimp only)))
  all_goals (refine ret _ _ _ ?_ (keep_back _ hg (fun q hq => (hh0 q hq).1) (by k_asm) (by k_asm) (by repeat' (first | exact List.forall_mem_nil _ | refine fmc (fun _ => by k_mem) ?_ | refine fmc (fun h9 => absurd (by k_mem) h9) ?_))) (grown_back hz (by k_asm)))
  all_goals (try dsimp only)
  all_goals (exact ⟨_, rfl⟩)

end
section -- K25
set_option maxHeartbeats 2000000


theorem value_text_nil {w : World} {p : Program} {loose : List Str} {mean : ExcName → Option Value} {mg mb : Str → Option Value} {h₀ : Heap} {A : Around} {s : Shared} {l : List UInt8} {bt it kt : Tok} {k : Int}
    (X : (Mine.myK w.params).In h₀) (T : Top p loose mean mg mb h₀) (st : h₀.StaysIn s.heap) (hroom : Room A 14) (hl : l.length ≤ 1000) (h0 : 0 < k) (h1 : k + 0 ≤ l.length) (hb : (l.drop k.toNat).take 0 = []) :
    Calls7 PySem.Challenge.rw_xm0772_01.row.prog w A 687 [.bytes l.toArray bt, .int k it, .int 13 kt] s [] (fun v _ => ∃ t, v = .str tx0 t) := by
  intro R ret
  have hcalm := hroom.calm
  revert X; k_fill; intro X
  have hh0 : ∀ q ∈ ([] : List (Addr × Obj)), s.heap.get? q.1 = some q.2 ∧ h₀.get? q.1 = none := List.forall_mem_nil _
  k_dflt (refine' enter (binds := [(Str.ofString "octets", .bytes l.toArray bt), (Str.ofString "at", .int k it), (Str.ofString "kind", .int 13 kt)]) _ X T st hh0 ?k6 ?k7 ?k8 ?k9 ?kB ?_ ?c2 ?c3 ?c4 ?c5)
  case k6 => k_is
  case k7 => k_is
  case k8 => exact hroom.now
  case k9 => first | exact BindsTo.of_eq rfl | exact binds_K (X.keeps st) rfl (by k_is) rfl rfl rfl
  case kB => exact locs rfl
  case c2 => exact rfl
  case c3 => exact rfl
  case c4 => exact rfl
  case c5 => decide
  intro g L' h₁ stg hz hg Xg Tg F N
  k_dflt (show wpAny _ (Around.deeper _ (envOf _ ⟨_, _, _, _, _⟩ _ _ _)) (execs (_ :: _) (envOf _ ⟨_, _, _, _, _⟩ _ _ _)) _ _ _)
  k_fold
  have hlen : ((l.toArray.size : Nat) : Int) = l.length := by simp
  have hsz : sizeK 13 = 0 := by decide
  have hb2 : (l.drop k.toNat).take (0 : Int).toNat = [] := hb
  (repeat' (first | (k_unfold; (try dsimp only)) | (k_end; wrow_close) | (with_reducible ((with_reducible show wpAny _ _ (binaryOp Operator.Add (Value.int _ _) (Value.int _ _)) _ _ _); (with_reducible refine addI ?_))) | (with_reducible (k_here; (with_reducible show wpAny _ _ (binaryOp Operator.Mod (Value.int _ _) (Value.int _ _)) _ _ _); k_dflt (first | (refine' mod_to _ ?k1 ?k2 ?_; (case k1 => decide); (case k2 => (simp only [Int.reduceMod, Int.reduceNeg]; rfl)); k_whole) | (refine' mod_small ?k1 ?k2 ?_; (case k1 => omega); (case k2 => omega); k_whole) | (refine' mod_to _ ?k1 ?k2 ?_; (case k1 => omega); (case k2 => rfl); k_whole)))) | (with_reducible (k_here; (with_reducible show wpAny _ _ (call (Value.ref 595) _) _ _ _); (rename Fr _ _ _ _ => cF'); (rename News _ _ _ _ => cN'); k_dflt (refine' use7t cF' cN' (text_nil ?X ?T (stays_now ?st cF') ?room ) ?_); (case st => assumption); (case X => assumption); (case T => assumption); (case room => exact Room.deeper (by assumption) (by decide)); (intro _ _ _ _ _); (try clear cF' cN'))) | (with_reducible (k_here; (with_reducible show wpAny _ _ (call (Value.type "bytes") [Value.bytes _ _]) _ _ _); k_dflt (refine' bytes_of_bytes ?_))) | (with_reducible (k_here; (with_reducible show wpAny _ _ (call (Value.ref 673) _) _ _ _); (rename Fr _ _ _ _ => cF'); (rename News _ _ _ _ => cN'); k_dflt (refine' use7p cF' cN' (serial_size_ok ?X ?T (stays_now ?st cF') ?room ?h0) ?_); (case st => assumption); (case X => assumption); (case T => assumption); (case room => exact Room.deeper (by assumption) (by decide)); (case h0 => decide); (intro _ _ _ p' _ _); (obtain ⟨_, e'⟩ := p'); subst e'; (rw [show sizeK _ = _ from ‹sizeK _ = _›]); (try clear cF' cN'))) | (with_reducible (k_here; (with_reducible show wpAny _ _ (call (Value.builtin "len") [Value.bytes _ _]) _ _ _); k_dflt (refine' len_bytes ?k1 ?_; (case k1 => (simp only [List.size_toArray]; ((with_reducible refine t1 (by assumption) ?_); rfl))); k_whole))) | (with_reducible (k_here; (with_reducible show wpAny _ _ (subscriptTail _ (PySem.Expr.Slice _ _ none _) (Value.bytes _ _) (Value.ref _)) _ _ _); (with_reducible rename Fr _ _ _ _ => F'); (with_reducible rename News _ _ _ _ => N'); (refine KBy.slice_N (s := ⟨_, _, _, _, _⟩) F' N' (by constructor) (by constructor) (whole_int _ _ _ (by (with_reducible assumption)) (by decide) (by (with_reducible assumption))) (by rw [picked_int _ _ _ (by (with_reducible assumption)) (by decide) (by (with_reducible assumption))]; simp only [List.size_toArray, List.length_take]; omega) ?_); rw [picked_int _ _ _ (by (with_reducible assumption)) (by decide) (by (with_reducible assumption)), show List.take _ _ = _ from ‹List.take (Int.toNat _) _ = _›]; intro _ _ _ _ _)) | walk1 | (dsimp only; walk1) | (leave1; try dsimp only)))
  all_goals (refine ret _ _ _ ?_ (keep_back _ hg (fun q hq => (hh0 q hq).1) (by k_asm) (by k_asm) (by repeat' (first | exact List.forall_mem_nil _ | refine fmc (fun _ => by k_mem) ?_ | refine fmc (fun h9 => absurd (by k_mem) h9) ?_))) (grown_back hz (by k_asm)))
  all_goals (try dsimp only)
  all_goals (exact ⟨_, rfl⟩)

theorem value_text_one {w : World} {p : Program} {loose : List Str} {mean : ExcName → Option Value} {mg mb : Str → Option Value} {h₀ : Heap} {A : Around} {s : Shared} {l : List UInt8} {bt it kt : Tok} {k : Int}
    (X : (Mine.myK w.params).In h₀) (T : Top p loose mean mg mb h₀) (st : h₀.StaysIn s.heap) (hroom : Room A 14) (hl : l.length ≤ 1000) (h0 : 0 < k) (h1 : k + 3 ≤ l.length) (hb : (l.drop k.toNat).take 3 = [120, 195, 169]) :
    Calls7 PySem.Challenge.rw_xm0772_01.row.prog w A 687 [.bytes l.toArray bt, .int k it, .int 19 kt] s [] (fun v _ => ∃ t, v = .str tx1 t) := by
  intro R ret
  have hcalm := hroom.calm
  revert X; k_fill; intro X
  have hh0 : ∀ q ∈ ([] : List (Addr × Obj)), s.heap.get? q.1 = some q.2 ∧ h₀.get? q.1 = none := List.forall_mem_nil _
  k_dflt (refine' enter (binds := [(Str.ofString "octets", .bytes l.toArray bt), (Str.ofString "at", .int k it), (Str.ofString "kind", .int 19 kt)]) _ X T st hh0 ?k6 ?k7 ?k8 ?k9 ?kB ?_ ?c2 ?c3 ?c4 ?c5)
  case k6 => k_is
  case k7 => k_is
  case k8 => exact hroom.now
  case k9 => first | exact BindsTo.of_eq rfl | exact binds_K (X.keeps st) rfl (by k_is) rfl rfl rfl
  case kB => exact locs rfl
  case c2 => exact rfl
  case c3 => exact rfl
  case c4 => exact rfl
  case c5 => decide
  intro g L' h₁ stg hz hg Xg Tg F N
  k_dflt (show wpAny _ (Around.deeper _ (envOf _ ⟨_, _, _, _, _⟩ _ _ _)) (execs (_ :: _) (envOf _ ⟨_, _, _, _, _⟩ _ _ _)) _ _ _)
  k_fold
  have hlen : ((l.toArray.size : Nat) : Int) = l.length := by simp
  have hsz : sizeK 19 = 3 := by decide
  have hb2 : (l.drop k.toNat).take (3 : Int).toNat = [120, 195, 169] := hb
  (repeat' (first | (k_unfold; (try dsimp only)) | (k_end; wrow_close) | (with_reducible ((with_reducible show wpAny _ _ (binaryOp Operator.Add (Value.int _ _) (Value.int _ _)) _ _ _); (with_reducible refine addI ?_))) | (with_reducible (k_here; (with_reducible show wpAny _ _ (binaryOp Operator.Mod (Value.int _ _) (Value.int _ _)) _ _ _); k_dflt (first | (refine' mod_to _ ?k1 ?k2 ?_; (case k1 => decide); (case k2 => (simp only [Int.reduceMod, Int.reduceNeg]; rfl)); k_whole) | (refine' mod_small ?k1 ?k2 ?_; (case k1 => omega); (case k2 => omega); k_whole) | (refine' mod_to _ ?k1 ?k2 ?_; (case k1 => omega); (case k2 => rfl); k_whole)))) | (with_reducible (k_here; (with_reducible show wpAny _ _ (call (Value.ref 595) _) _ _ _); (rename Fr _ _ _ _ => cF'); (rename News _ _ _ _ => cN'); k_dflt (refine' use7t cF' cN' (text_one ?X ?T (stays_now ?st cF') ?room ) ?_); (case st => assumption); (case X => assumption); (case T => assumption); (case room => exact Room.deeper (by assumption) (by decide)); (intro _ _ _ _ _); (try clear cF' cN'))) | (with_reducible (k_here; (with_reducible show wpAny _ _ (call (Value.type "bytes") [Value.bytes _ _]) _ _ _); k_dflt (refine' bytes_of_bytes ?_))) | (with_reducible (k_here; (with_reducible show wpAny _ _ (call (Value.ref 673) _) _ _ _); (rename Fr _ _ _ _ => cF'); (rename News _ _ _ _ => cN'); k_dflt (refine' use7p cF' cN' (serial_size_ok ?X ?T (stays_now ?st cF') ?room ?h0) ?_); (case st => assumption); (case X => assumption); (case T => assumption); (case room => exact Room.deeper (by assumption) (by decide)); (case h0 => decide); (intro _ _ _ p' _ _); (obtain ⟨_, e'⟩ := p'); subst e'; (rw [show sizeK _ = _ from ‹sizeK _ = _›]); (try clear cF' cN'))) | (with_reducible (k_here; (with_reducible show wpAny _ _ (call (Value.builtin "len") [Value.bytes _ _]) _ _ _); k_dflt (refine' len_bytes ?k1 ?_; (case k1 => (simp only [List.size_toArray]; ((with_reducible refine t1 (by assumption) ?_); rfl))); k_whole))) | (with_reducible (k_here; (with_reducible show wpAny _ _ (subscriptTail _ (PySem.Expr.Slice _ _ none _) (Value.bytes _ _) (Value.ref _)) _ _ _); (with_reducible rename Fr _ _ _ _ => F'); (with_reducible rename News _ _ _ _ => N'); (refine KBy.slice_N (s := ⟨_, _, _, _, _⟩) F' N' (by constructor) (by constructor) (whole_int _ _ _ (by (with_reducible assumption)) (by decide) (by (with_reducible assumption))) (by rw [picked_int _ _ _ (by (with_reducible assumption)) (by decide) (by (with_reducible assumption))]; simp only [List.size_toArray, List.length_take]; omega) ?_); rw [picked_int _ _ _ (by (with_reducible assumption)) (by decide) (by (with_reducible assumption)), show List.take _ _ = _ from ‹List.take (Int.toNat _) _ = _›]; intro _ _ _ _ _)) | walk1 | (dsimp only; walk1) | (leave1; try dsimp only)))
  all_goals (refine ret _ _ _ ?_ (keep_back _ hg (fun q hq => (hh0 q hq).1) (by k_asm) (by k_asm) (by repeat' (first | exact List.forall_mem_nil _ | refine fmc (fun _ => by k_mem) ?_ | refine fmc (fun h9 => absurd (by k_mem) h9) ?_))) (grown_back hz (by k_asm)))
  all_goals (try dsimp only)
  all_goals (exact ⟨_, rfl⟩)

end
section -- K26
theorem getD_run {l bs : List UInt8} {k n : Nat} (h : (l.drop k).take n = bs) (i : Nat) (hi : i < bs.length) : l.getD (k + i) 0 = bs.getD i 0 := by
  subst h
  rw [List.length_take, List.length_drop] at hi
  rw [List.getD_eq_getElem?_getD, List.getD_eq_getElem?_getD, List.getElem?_take, if_pos (by (with_reducible exact s86 (by assumption))), List.getElem?_drop]
theorem byte_at {l bs : List UInt8} {k : Int} {n : Nat} (h0 : 0 ≤ k) (h : (l.drop k.toNat).take n = bs) (i : Nat) (hi : i < bs.length) (x : Int) (hx : ((bs.getD i 0).toNat : Int) = x) : ((l.getD (k + i).toNat 0).toNat : Int) = x := by
  rw [show (k + i).toNat = k.toNat + i by (with_reducible exact s3 (by assumption)), getD_run h i hi, hx]
theorem value_ok {w : World} {p : Program} {loose : List Str} {mean : ExcName → Option Value} {mg mb : Str → Option Value} {h₀ : Heap} {A : Around} {s : Shared} {c : Cell} {l : List UInt8} {k : Int} {bt it kt : Tok}
    (X : (Mine.myK w.params).In h₀) (T : Top p loose mean mg mb h₀) (st : h₀.StaysIn s.heap) (hroom : Room A 14) (hc : c.Good) (hl : l.length ≤ 1000) (h0 : 0 < k) (h1 : k + c.body.length ≤ l.length) (hb : (l.drop k.toNat).take c.body.length = c.body) :
    Calls7 PySem.Challenge.rw_xm0772_01.row.prog w A 687 [.bytes l.toArray bt, .int k it, .int c.kind kt] s [] (fun v _ => c.Is v) := by
  have r8 : Room A 8 := ⟨by have := hroom.depth; omega, by have := hroom.units; omega, hroom.calm⟩
  have wk : ∀ {P Q : Value → Heap → Prop} {args}, (∀ v h, P v h → Q v h) → Calls7 PySem.Challenge.rw_xm0772_01.row.prog w A 687 args s [] P → Calls7 PySem.Challenge.rw_xm0772_01.row.prog w A 687 args s [] Q :=
    fun hPQ hP R ret => hP R fun v h' tk' hp hk hz => ret v h' tk' (hPQ _ _ hp) hk hz
  cases hc with
  | nil => exact wk (fun v h e => by subst e; exact .nil) (value_nil X T st r8 hl (by ((with_reducible refine i6 (by assumption) ?_); rfl)) (by simpa [Cell.body] using h1))
  | tx0 => exact wk (fun v h ⟨t, e⟩ => by subst e; exact .tx _ _) (value_text_nil X T st hroom hl h0 (by have : (k : Int) + ((Cell.tx tx0).body.length : Nat) ≤ l.length := h1; omega) (by simp))
  | tx1 => exact wk (fun v h ⟨t, e⟩ => by subst e; exact .tx _ _) (value_text_one X T st hroom hl h0 (by simpa [Cell.body, utfL] using h1) (by simpa [Cell.body, utfL] using hb))
  | oc h =>
    rename_i b
    refine wk (fun v h ⟨t, e⟩ => ?_) (value_bytes (n := (b.length : Int)) X T st r8 hl h0 (by ((with_reducible refine c5 ?_); rfl)) (by ((with_reducible refine c1 (by assumption) ?_); rfl)) h1)
    subst e
    have : (l.drop k.toNat).take (b.length : Int).toNat = b := hb
    rw [this]
    exact .oc _ _
  | int h =>
    rename_i n
    rcases h with h | rfl | rfl
    · by_cases e0 : n = 0
      · subst e0
        exact wk (fun v h ⟨t, e⟩ => by subst e; exact .int _ _) (value_8 X T st r8 hl (by ((with_reducible refine i6 (by assumption) ?_); rfl)) (by simpa [Cell.body, bodyI] using h1))
      · by_cases e1 : n = 1
        · subst e1
          exact wk (fun v h ⟨t, e⟩ => by subst e; exact .int _ _) (value_9 X T st r8 hl (by ((with_reducible refine i6 (by assumption) ?_); rfl)) (by simpa [Cell.body, bodyI] using h1))
        · have hs0 := h.1
          have hs1 := h.2
          have hk : kindI n = 1 := by unfold kindI; rw [if_neg e0, if_neg e1, if_pos ⟨hs0, by (with_reducible assumption)⟩]
          have hbo : bodyI n = [(n % 256).toNat.toUInt8] := by unfold bodyI; rw [if_neg (by (with_reducible exact s38 (by assumption) (by assumption))), if_neg (by (with_reducible exact s42 (by assumption))), if_neg (by (with_reducible exact s41 (by assumption)))]
          simp only [Cell.body, hbo] at h1 hb
          show Calls7 _ _ _ _ [_, _, .int (kindI n) kt] _ _ _
          rw [hk]
          have hx := byte_at (x := n % 256) (by ((with_reducible refine i6 (by assumption) ?_); rfl)) hb 0 (by simp) (by
            simp only [List.getD_cons_zero]
            show ((((n % 256).toNat.toUInt8).toNat : Nat) : Int) = n % 256
            rw [UInt8.toNat_ofNat', Nat.mod_eq_of_lt (by (with_reducible exact s96))]
            (with_reducible exact s58))
          simp only [Int.natCast_zero, Int.add_zero] at hx
          refine wk (fun v h ⟨t, e⟩ => ?_) (value_one (x := n % 256) X T st r8 hl (by ((with_reducible refine i6 (by assumption) ?_); rfl)) (by simp at h1; omega) hx (by (with_reducible exact s43)) (by (with_reducible exact s44)))
          have : (if n % 256 ≥ 128 then n % 256 - 256 else n % 256) = n := by split <;> omega
          rw [this] at e
          subst e
          exact .int _ _
    · have hbo : bodyI (9223372036854775807) = [127, 255, 255, 255, 255, 255, 255, 255] := by decide
      simp only [Cell.body, hbo] at h1 hb
      exact wk (fun v h ⟨t, e⟩ => by subst e; exact .int _ _) (value_big X T st r8 hl (by ((with_reducible refine i6 (by assumption) ?_); rfl)) (by simpa using h1) (by simpa using byte_at (x := 127) (by ((with_reducible refine i6 (by assumption) ?_); rfl)) hb 0 (by simp) (by decide)) (by simpa using byte_at (x := 255) (by ((with_reducible refine i6 (by assumption) ?_); rfl)) hb 1 (by simp) (by decide)) (by simpa using byte_at (x := 255) (by ((with_reducible refine i6 (by assumption) ?_); rfl)) hb 2 (by simp) (by decide)) (by simpa using byte_at (x := 255) (by ((with_reducible refine i6 (by assumption) ?_); rfl)) hb 3 (by simp) (by decide)) (by simpa using byte_at (x := 255) (by ((with_reducible refine i6 (by assumption) ?_); rfl)) hb 4 (by simp) (by decide)) (by simpa using byte_at (x := 255) (by ((with_reducible refine i6 (by assumption) ?_); rfl)) hb 5 (by simp) (by decide)) (by simpa using byte_at (x := 255) (by ((with_reducible refine i6 (by assumption) ?_); rfl)) hb 6 (by simp) (by decide)) (by simpa using byte_at (x := 255) (by ((with_reducible refine i6 (by assumption) ?_); rfl)) hb 7 (by simp) (by decide)))
    · have hbo : bodyI (-9223372036854775808) = [128, 0, 0, 0, 0, 0, 0, 0] := by decide
      simp only [Cell.body, hbo] at h1 hb
      exact wk (fun v h ⟨t, e⟩ => by subst e; exact .int _ _) (value_low X T st r8 hl (by ((with_reducible refine i6 (by assumption) ?_); rfl)) (by simpa using h1) (by simpa using byte_at (x := 128) (by ((with_reducible refine i6 (by assumption) ?_); rfl)) hb 0 (by simp) (by decide)) (by simpa using byte_at (x := 0) (by ((with_reducible refine i6 (by assumption) ?_); rfl)) hb 1 (by simp) (by decide)) (by simpa using byte_at (x := 0) (by ((with_reducible refine i6 (by assumption) ?_); rfl)) hb 2 (by simp) (by decide)) (by simpa using byte_at (x := 0) (by ((with_reducible refine i6 (by assumption) ?_); rfl)) hb 3 (by simp) (by decide)) (by simpa using byte_at (x := 0) (by ((with_reducible refine i6 (by assumption) ?_); rfl)) hb 4 (by simp) (by decide)) (by simpa using byte_at (x := 0) (by ((with_reducible refine i6 (by assumption) ?_); rfl)) hb 5 (by simp) (by decide)) (by simpa using byte_at (x := 0) (by ((with_reducible refine i6 (by assumption) ?_); rfl)) hb 6 (by simp) (by decide)) (by simpa using byte_at (x := 0) (by ((with_reducible refine i6 (by assumption) ?_); rfl)) hb 7 (by simp) (by decide)))
end
section -- K27
set_option maxHeartbeats 2000000


/-- the kinds that a record's head keeps, as values -/
def KV (cs : List Cell) (vs : List Value) : Prop := vs.length = cs.length ∧ ∀ (i : Nat) (v : Value), vs[i]? = some v → ∃ (c : Cell) (t : Tok), cs[i]? = some c ∧ v = .int c.kind t
theorem KV.snoc {cs : List Cell} {vs : List Value} {j : Nat} {c : Cell} {t : Tok} (h : KV (cs.take j) vs) (hc : cs[j]? = some c) : KV (cs.take (j + 1)) (vs ++ [.int c.kind t]) := by
  have e : cs.take (j + 1) = cs.take j ++ [c] := by rw [List.take_add_one, hc]; rfl
  refine ⟨by rw [e, List.length_append, List.length_append, h.1]; rfl, fun i v hv => ?_⟩
  rw [e]
  rcases Nat.lt_or_ge i vs.length with hi | hi
  · rw [List.getElem?_append_left hi] at hv
    (refine ex2 (h.2 i v hv) fun c' t' hE9 => an2 hE9 ?_; clear hE9; intro h1 h2)
    exact ⟨c', t', by rw [List.getElem?_append_left (by rw [← h.1]; exact hi)]; exact h1, h2⟩
  · rw [List.getElem?_append_right hi] at hv
    have : i - vs.length = 0 := by
      rcases Nat.eq_zero_or_pos (i - vs.length) with h0 | h0
      · exact h0
      · rw [List.getElem?_eq_none (show [_].length ≤ i - vs.length from h0)] at hv; cases hv
    rw [this] at hv
    simp only [List.getElem?_cons_zero, Option.some.injEq] at hv
    refine ⟨c, t, ?_, hv.symm⟩
    rw [List.getElem?_append_right (by rw [← h.1]; exact hi), ← h.1, this]
    rfl
theorem kind_at {cs : List Cell} {j : Nat} {c : Cell} (hc : cs[j]? = some c) (hg : c.Good) : (((recordOf cs).getD (j + 1) 0).toNat : Int) = c.kind := by
  have hk := Cell.kind_lt hg
  have hj : j < cs.length := (List.getElem?_eq_some_iff.mp hc).1
  have : (recordOf cs).getD (j + 1) 0 = c.kind.toNat.toUInt8 := by
    unfold recordOf
    rw [List.getD_eq_getElem?_getD, List.getElem?_cons_succ, List.getElem?_append_left (by rw [kindsOf_len]; exact hj)]
    unfold kindsOf
    rw [List.getElem?_map, hc]
    rfl
  rw [this]
  show ((((c.kind.toNat).toUInt8).toNat : Nat) : Int) = _
  rw [UInt8.toNat_ofNat', Nat.mod_eq_of_lt (by (with_reducible exact s83 (by assumption)))]
  (with_reducible exact s40 (by assumption))
def headMap (at' types end' octets : Value) (m0 : Str → Option Value) : Str → Option Value := fun y => if y = Str.ofString "at" then some at' else if y = Str.ofString "types" then some types else if y = Str.ofString "end" then some end' else if y = Str.ofString "octets" then some octets else m0 y

theorem head_ok {w : World} {p : Program} {loose : List Str} {mean : ExcName → Option Value} {mg mb : Str → Option Value} {h₀ : Heap} {A : Around} {s : Shared} {cs : List Cell} {bt : Tok}
    (X : (Mine.myK w.params).In h₀) (T : Top p loose mean mg mb h₀) (st : h₀.StaysIn s.heap) (hroom : Room A 12) (hgood : ∀ c ∈ cs, c.Good) (hlen : cs.length ≤ 10) :
    Calls7 PySem.Challenge.rw_xm0772_01.row.prog w A 708 [.bytes (recordOf cs).toArray bt] s [] (fun v h => ∃ a lt vs n t, v = .ref a ∧ Live h₀ h a (tup2 (.ref lt) (.int ((cs.length : Int) + 1) t)) ∧ Live h₀ h lt (listOf vs.toArray n) ∧ KV cs vs ∧ s.heap.get? a = none ∧ s.heap.get? lt = none ∧ lt < a) := by
  intro R ret
  have hcalm := hroom.calm
  revert X; k_fill; intro X
  have hh0 : ∀ q ∈ ([] : List (Addr × Obj)), s.heap.get? q.1 = some q.2 ∧ h₀.get? q.1 = none := List.forall_mem_nil _
  k_dflt (refine' enter (binds := [(Str.ofString "octets", .bytes (recordOf cs).toArray bt)]) _ X T st hh0 ?k6 ?k7 ?k8 ?k9 ?kB ?_ ?c2 ?c3 ?c4 ?c5)
  case k6 => k_is
  case k7 => k_is
  case k8 => exact hroom.now
  case k9 => first | exact BindsTo.of_eq rfl | exact binds_K (X.keeps st) rfl (by k_is) rfl rfl rfl
  case kB => exact locs rfl
  case c2 => exact rfl
  case c3 => exact rfl
  case c4 => exact rfl
  case c5 => decide
  intro g L' h₁ stg hz hg Xg Tg F N
  k_dflt (show wpAny _ (Around.deeper _ (envOf _ ⟨_, _, _, _, _⟩ _ _ _)) (execs (_ :: _) (envOf _ ⟨_, _, _, _, _⟩ _ _ _)) _ _ _)
  k_fold
  have hl : (recordOf cs).length ≤ 1000 := by
    have := bodiesOf_len hgood
    have := kindsOf_len cs
    simp only [recordOf, List.length_cons, List.length_append]; (with_reducible exact s51 (by assumption) (by assumption) (by assumption))
  have hl1 : 1 + cs.length ≤ (recordOf cs).length := by
    have := kindsOf_len cs
    simp only [recordOf, List.length_cons, List.length_append]; (with_reducible exact s110 (by assumption))
  have hlen2 : (((recordOf cs).toArray.size : Nat) : Int) = (recordOf cs).length := by simp
  have hx : (((recordOf cs).getD (0 : Int).toNat 0).toNat : Int) = cs.length + 1 := by
    show ((((cs.length + 1).toUInt8).toNat : Nat) : Int) = _
    rw [UInt8.toNat_ofNat', Nat.mod_eq_of_lt (by omega)]
    omega
  have hx0 : (0 : Int) ≤ cs.length + 1 := by ((with_reducible refine c7 ?_); rfl)
  have hx7 : (cs.length : Int) + 1 < 128 := by omega
  (repeat' (first | (k_unfold; (try dsimp only)) | (k_end; wrow_close) | (with_reducible ((with_reducible show wpAny _ _ (exec (Stmt.While _ _ _ _) _) _ _ _); refine hold ?_)) | (k_here; (with_reducible show wpAny _ _ (call (Value.ref 638) _) _ _ _); (rename Fr _ _ _ _ => cF'); (rename News _ _ _ _ => cN'); k_dflt (refine' use7p cF' cN' (get_varint_ok ?X ?T (Fr.keep cF') ?room ?h0 ?h1 ?h2 ?h3 ?h4 ?h5) ?_); (case X => assumption); (case T => assumption); (case room => exact Room.deeper (by assumption) (by decide)); (case h0 => assumption); (case h1 => decide); (case h2 => omega); (case h3 => assumption); (case h4 => assumption); (case h5 => assumption); (intro _ _ _ p' F' N'); (obtain ⟨_, _, _, e', l', n'⟩ := p'); subst e'; (have d' := apart_new cN' n'); (try (simp only [List.forall_mem_cons] at d')); (try (have d2' := neLt d'.1)); (try (revert d2'; intros)); (try (have d3' := neLt d'.2.1)); (try (revert d3'; intros)); (try (have d4' := neLt d'.2.2.1)); (try (revert d4'; intros)); (try (have d5' := neLt d'.2.2.2.1)); (try (revert d5'; intros)); (try (have d6' := neLt d'.2.2.2.2.1)); (try (revert d6'; intros)); clear d'; (have N2' := news_live F' N' l' (by intro _ _ e; cases e)); (try (revert F'; intros)); (try (revert e; intros)); (try (revert N2'; intros)); clear N' l' n'; (try clear cF' cN')) | (with_reducible (k_here; (with_reducible show wpAny _ _ (call (Value.builtin "len") [Value.bytes _ _]) _ _ _); k_dflt (refine' len_bytes ?k1 ?_; (case k1 => (simp only [List.size_toArray]; ((with_reducible refine t1 (by assumption) ?_); rfl))); k_whole))) | (with_reducible (k_here; (with_reducible show wpAny _ _ (assign (Expr.Tuple _ _ _) _ (Value.ref _)) _ _ _); k_dflt (refine' unpackN_ ?F ?N ?T ?k1 ?k2 ?k3 ?_; (case F => k_asm); (case N => k_asm); (case T => (refine News.isTup (by k_asm) (by k_mem))); (case k1 => assumption); (case k2 => exact rfl); (case k3 => exact rfl)); intro _ _ _; (try k_sweep))) | (with_reducible (k_here; (with_reducible show wpAny _ _ (newList _) _ _ _); k_dflt (refine' newL ?k1 ?k2 ?_ ?z; (case k1 => k_asm); (case k2 => k_asm); (case z => first | exact sz0 | exact sz1 | exact sz2 | exact sz3 | size_fits); k_whole); intro _ _ _ _ l1; (try k_lt l1); (try (revert l1; intros)); (try k_sweep))) | walk1 | (dsimp only; walk1) | (leave1; try dsimp only)))
  (rename Fr _ _ _ _ => F1); (rename News _ _ _ _ => N1)
  unfold Hold
  refine whileLoop (fun i m news => ∃ (j : Nat) (lt : Addr) (vs : List Value) (n : Nat) (m0 : Str → Option Value) (ta te : Tok), j + i = cs.length ∧ KV (cs.take j) vs ∧ news = [(lt, listOf vs.toArray n)] ∧ ∀ y, m y = headMap (.int ((j : Int) + 1) ta) (.ref lt) (.int ((cs.length : Int) + 1) te) (.bytes (recordOf cs).toArray bt) m0 y) cs.length F1 (fun q hq => N1 q (List.mem_cons.mpr (.inl (List.mem_singleton.mp hq)))) ?map ?step ?fin
  case map =>
    refine' ⟨0, _, [], 0, (fun y => List.lookup y [(Str.ofString "octets", .bytes (recordOf cs).toArray bt)].reverse), _, _, Nat.zero_add _, ⟨rfl, fun i v h => nomatch h⟩, rfl, fun y => _⟩
    rotate_left 2
    unfold headMap
    by_cases h0 : y = Str.ofString "types"
    · subst h0; rfl
    by_cases h1 : y = Str.ofString "at"
    · subst h1; rfl
    by_cases h2 : y = Str.ofString "end"
    · subst h2; rfl
    by_cases h3 : y = Str.ofString "octets"
    · subst h3; rfl
    simp only [h0, h1, h2, h3, if_false]
  case step =>
    clear F1 N1 hx hx0 hx7
    intro i m news h tk hJ9p5 F4 N4
    refine hide fun G9 k9 => ?_
    obtain ⟨j, lt, vs, n, m0, ta, te, hji, hkv, rfl, hm⟩ := hJ9p5
    refine k9 ?_
    clear k9 G9
    have F5 := fr_eq F4 hm
    clear F4 hm
    unfold headMap at F5
    refine hide fun G9 k9 => ?_
    obtain ⟨c, hc⟩ : ∃ c, cs[j]? = some c := ⟨_, List.getElem?_eq_getElem (by (with_reducible exact s2 (by assumption)))⟩
    refine k9 ?_
    clear k9 G9
    have hcg := hgood c (List.mem_of_getElem? hc)
    have hk := Cell.kind_lt hcg
    have hx0 := hk.1
    have hx7 := hk.2
    have hx : (((recordOf cs).getD ((j : Int) + 1).toNat 0).toNat : Int) = c.kind := kind_at hc hcg
    have hvl := hkv.1
    rw [List.length_take] at hvl
    (repeat' (first | (k_unfold; (try dsimp only)) | (k_end; wrow_close) | (k_here; (with_reducible show wpAny _ _ (call (Value.ref 638) _) _ _ _); (rename Fr _ _ _ _ => cF'); (rename News _ _ _ _ => cN'); k_dflt (refine' use7p cF' cN' (get_varint_ok ?X ?T (Fr.keep cF') ?room ?h0 ?h1 ?h2 ?h3 ?h4 ?h5) ?_); (case X => assumption); (case T => assumption); (case room => exact Room.deeper (by assumption) (by decide)); (case h0 => assumption); (case h1 => ((with_reducible refine c7 ?_); rfl)); (case h2 => omega); (case h3 => assumption); (case h4 => assumption); (case h5 => assumption); (intro _ _ _ p' F' N'); (obtain ⟨_, _, _, e', l', n'⟩ := p'); subst e'; (have d' := apart_new cN' n'); (try (simp only [List.forall_mem_cons] at d')); (try (have d2' := neLt d'.1)); (try (revert d2'; intros)); (try (have d3' := neLt d'.2.1)); (try (revert d3'; intros)); (try (have d4' := neLt d'.2.2.1)); (try (revert d4'; intros)); (try (have d5' := neLt d'.2.2.2.1)); (try (revert d5'; intros)); (try (have d6' := neLt d'.2.2.2.2.1)); (try (revert d6'; intros)); clear d'; (have N2' := news_live F' N' l' (by intro _ _ e; cases e)); (try (revert F'; intros)); (try (revert e; intros)); (try (revert N2'; intros)); clear N' l' n'; (try clear cF' cN')) | (with_reducible (k_here; (with_reducible show wpAny _ _ (call (Value.builtin "list.append") [Value.ref _, _]) _ _ _); k_dflt (refine' appL ?k1 ?k2 ?k3 ?_ ?z; (case k1 => k_asm); (case k2 => k_asm); (case k3 => k_upd); (case z => first | exact sz0 | size_fits); k_whole); intro _ _ _; (try k_sweep))) | (with_reducible (k_here; (with_reducible show wpAny _ _ (assign (Expr.Tuple _ _ _) _ (Value.ref _)) _ _ _); k_dflt (refine' unpackN_ ?F ?N ?T ?k1 ?k2 ?k3 ?_; (case F => k_asm); (case N => k_asm); (case T => (refine News.isTup (by k_asm) (by k_mem))); (case k1 => assumption); (case k2 => exact rfl); (case k3 => exact rfl)); intro _ _ _; (try k_sweep))) | walk1 | (dsimp only; walk1) | (leave1; try dsimp only)))
    (rename Fr _ _ _ _ => F1); (rename News _ _ _ _ => N1)
    rename_i t0 t1 t2 d2 ha hb hc' hd
    refine TurnedW.intro F1 N1 [(lt, W.listOf (vs ++ [Value.int c.kind t1]).toArray (n + 1))] _ (fun q hq => ?_) (fun y => ?_) ⟨j + 1, lt, vs ++ [Value.int c.kind t1], n + 1, (fun y => if y = Str.ofString "kind" then some (.int c.kind t1) else m0 y), t2, te, by (with_reducible exact s1 (by assumption)), hkv.snoc hc, rfl, fun y => rfl⟩
    · rw [List.mem_singleton.mp hq, ← List.push_toArray]; exact mem1
    · unfold headMap
      by_cases h1 : y = Str.ofString "at"
      · subst h1; rfl
      · by_cases h2 : y = Str.ofString "kind"
        · subst h2; rfl
        · simp only [h1, h2, if_false]
  case fin =>
    clear F1 N1 hx hx0 hx7
    intro m news h tk hJ9p4 F4 N4
    refine hide fun G9 k9 => ?_
    obtain ⟨j, lt, vs, n, m0, ta, te, hji, hkv, rfl, hm⟩ := hJ9p4
    refine k9 ?_
    clear k9 G9
    have F5 := fr_eq F4 hm
    clear F4 hm
    unfold headMap at F5
    have hjl : j = cs.length := by omega
    subst hjl
    rw [List.take_length] at hkv
    (repeat' (first | (k_unfold; (try dsimp only)) | (k_end; wrow_close) | (with_reducible (k_here; (with_reducible show wpAny _ _ (newTuple _) _ _ _); kup_bare; k_dflt (refine' newT ?F ?N ?_ ?z; (case F => k_asm); (case N => k_asm); (case z => first | exact sz0 | exact sz1 | exact sz2 | exact sz3 | kmk_size)); intro _ _ _ _ l1; (try k_lt l1); (try (revert l1; intros)); (try k_sweep))) | walk1 | (dsimp only; walk1) | (leave1; try dsimp only)))
    · exfalso; omega
    · refine ret _ _ _ ?_ (keep_back _ hg (fun q hq => (hh0 q hq).1) (by k_asm) (by k_asm) (by repeat' (first | exact List.forall_mem_nil _ | refine fmc (fun _ => by k_mem) ?_ | refine fmc (fun h9 => absurd (by k_mem) h9) ?_))) (grown_back hz (by k_asm))
      exact ⟨_, lt, vs, n, te, rfl, Live.of stg (by k_asm) (by k_mem), Live.of stg (by k_asm) (by k_mem), hkv, fresh_own hg (by k_asm) (by k_mem), fresh_own hg (by k_asm) (by k_mem), allLt_mem (by assumption) (by k_mem)⟩

end
section -- K28
set_option maxHeartbeats 2000000


theorem Cells.snoc : ∀ {cs : List Cell} {vs : List Value} {c : Cell} {v : Value}, Cells cs vs → c.Is v → Cells (cs ++ [c]) (vs ++ [v])
  | _, _, _, _, .nil, h => .cons h .nil
  | _, _, _, _, .cons h r, k => .cons h (r.snoc k)
theorem sizeK_ok {c : Cell} (h : c.Good) : sizeK c.kind = c.body.length := by
  cases h with
  | nil => rfl
  | tx0 => decide
  | tx1 => decide
  | oc h =>
    rename_i l
    show sizeK (12 + 2 * (l.length : Int)) = (l.length : Int)
    unfold sizeK
    rw [if_pos (by omega)]
    (with_reducible exact s35)
  | int h =>
    rename_i n
    rcases h with h | rfl | rfl
    · have h0 := h.1
      have h1 := h.2
      simp only [Cell.kind, Cell.body]
      by_cases e0 : n = 0
      · subst e0; decide
      · by_cases e1 : n = 1
        · subst e1; decide
        · have hk : kindI n = 1 := by unfold kindI; rw [if_neg e0, if_neg e1, if_pos ⟨h0, by (with_reducible assumption)⟩]
          have hbo : bodyI n = [(n % 256).toNat.toUInt8] := by unfold bodyI; rw [if_neg (by (with_reducible exact s38 (by assumption) (by assumption))), if_neg (by (with_reducible exact s42 (by assumption))), if_neg (by (with_reducible exact s41 (by assumption)))]
          rw [hk, hbo]; rfl
    · decide
    · decide
theorem kinds_ok {c : Cell} (h : c.Good) : c.kind = 0 ∨ c.kind = 8 ∨ c.kind = 9 ∨ c.kind = 1 ∨ c.kind = 6 ∨ (12 ≤ c.kind ∧ c.kind < 128) := by
  cases h with
  | nil => exact .inl rfl
  | tx0 => decide
  | tx1 => decide
  | oc h => simp only [Cell.kind]; omega
  | int h => simp only [Cell.kind, kindI]; repeat' split <;> (first | decide | (with_reducible exact s49))
/-- the octets of cell j lie behind those of the cells ahead of it -/
theorem body_at {cs : List Cell} {j : Nat} {c : Cell} (hc : cs[j]? = some c) : ((recordOf cs).drop (1 + cs.length + (bodiesOf (cs.take j)).length)).take c.body.length = c.body := by
  have hj : j < cs.length := (List.getElem?_eq_some_iff.mp hc).1
  have hs : cs = cs.take j ++ c :: cs.drop (j + 1) := by
    have := List.getElem?_eq_some_iff.mp hc
    rw [← this.2, List.getElem_cons_drop, List.take_append_drop]
  have hb : bodiesOf cs = bodiesOf (cs.take j) ++ (c.body ++ bodiesOf (cs.drop (j + 1))) := by
    conv => lhs; rw [hs]
    simp [bodiesOf]
  unfold recordOf
  rw [show 1 + cs.length + (bodiesOf (cs.take j)).length = (cs.length + (bodiesOf (cs.take j)).length) + 1 by omega, List.drop_succ_cons, hb, ← List.append_assoc, List.drop_append_of_le_length (by simp [kindsOf_len])]
  rw [List.drop_eq_nil_of_le (by simp [kindsOf_len]), List.nil_append, List.take_left]
theorem body_fits {cs : List Cell} {j : Nat} {c : Cell} (hc : cs[j]? = some c) : 1 + cs.length + (bodiesOf (cs.take j)).length + c.body.length ≤ (recordOf cs).length := by
  have h1 := bodiesOf_take hc
  have h2 : (bodiesOf (cs.take (j + 1))).length ≤ (bodiesOf cs).length := by
    conv => rhs; rw [← List.take_append_drop (j + 1) cs]
    unfold bodiesOf
    rw [List.flatMap_append, List.length_append]
    omega
  rw [h1, List.length_append] at h2
  simp only [recordOf, List.length_cons, List.length_append, kindsOf_len]
  (with_reducible exact s109 (by assumption))
def decMap (at' types values octets : Value) (m0 : Str → Option Value) : Str → Option Value := fun y => if y = Str.ofString "at" then some at' else if y = Str.ofString "values" then some values else if y = Str.ofString "types" then some types else if y = Str.ofString "octets" then some octets else m0 y

theorem decode_ok {w : World} {p : Program} {loose : List Str} {mean : ExcName → Option Value} {mg mb : Str → Option Value} {h₀ : Heap} {A : Around} {s : Shared} {cs : List Cell} {bt : Tok}
    (X : (Mine.myK w.params).In h₀) (T : Top p loose mean mg mb h₀) (st : h₀.StaysIn s.heap) (hroom : Room A 16) (hgood : ∀ c ∈ cs, c.Good) (hlen : cs.length ≤ 10) :
    Calls7 PySem.Challenge.rw_xm0772_01.row.prog w A 715 [.bytes (recordOf cs).toArray bt] s [] (fun v h => ∃ lv vs n, v = .ref lv ∧ Live h₀ h lv (listOf vs.toArray n) ∧ Cells cs vs ∧ s.heap.get? lv = none) := by
  intro R ret
  have hcalm := hroom.calm
  revert X; k_fill; intro X
  have hh0 : ∀ q ∈ ([] : List (Addr × Obj)), s.heap.get? q.1 = some q.2 ∧ h₀.get? q.1 = none := List.forall_mem_nil _
  k_dflt (refine' enter (binds := [(Str.ofString "octets", .bytes (recordOf cs).toArray bt)]) _ X T st hh0 ?k6 ?k7 ?k8 ?k9 ?kB ?_ ?c2 ?c3 ?c4 ?c5)
  case k6 => k_is
  case k7 => k_is
  case k8 => exact hroom.now
  case k9 => first | exact BindsTo.of_eq rfl | exact binds_K (X.keeps st) rfl (by k_is) rfl rfl rfl
  case kB => exact locs rfl
  case c2 => exact rfl
  case c3 => exact rfl
  case c4 => exact rfl
  case c5 => decide
  intro g L' h₁ stg hz hg Xg Tg F N
  k_dflt (show wpAny _ (Around.deeper _ (envOf _ ⟨_, _, _, _, _⟩ _ _ _)) (execs (_ :: _) (envOf _ ⟨_, _, _, _, _⟩ _ _ _)) _ _ _)
  k_fold
  have hl : (recordOf cs).length ≤ 1000 := by
    have := bodiesOf_len hgood
    have := kindsOf_len cs
    simp only [recordOf, List.length_cons, List.length_append]; (with_reducible exact s51 (by assumption) (by assumption) (by assumption))
  have hl1 : (recordOf cs).length = 1 + cs.length + (bodiesOf cs).length := by
    have := kindsOf_len cs
    simp only [recordOf, List.length_cons, List.length_append]; (with_reducible exact s70 (by assumption))
  have hlen2 : (((recordOf cs).toArray.size : Nat) : Int) = (recordOf cs).length := by simp
  (repeat' (first | (k_unfold; (try dsimp only)) | (k_end; wrow_close) | (k_here; (with_reducible show wpAny _ _ (call (Value.ref 708) _) _ _ _); (rename Fr _ _ _ _ => cF'); (rename News _ _ _ _ => cN'); k_dflt (refine' use7p cF' cN' (head_ok ?X ?T (Fr.keep cF') ?room ?h0 ?h1) ?_); (case X => assumption); (case T => assumption); (case room => exact Room.deeper (by assumption) (by decide)); (case h0 => assumption); (case h1 => assumption); (intro _ _ _ p' F' N'); (obtain ⟨_, _, _, _, _, e', l1', l2', _, n1', n2', _⟩ := p'); subst e'; (have N2' := news_live F' (news_live F' N' l2' (by intro _ _ e; cases e)) l1' (by intro _ _ e; cases e)); (try (revert F'; intros)); (try (revert e; intros)); (try (revert N2'; intros)); clear N' l1' l2' n1' n2'; (try clear cF' cN')) | (with_reducible ((with_reducible show wpAny _ _ (pyIter (Value.ref _)) _ _ _); refine hold ?_)) | (with_reducible (k_here; (with_reducible show wpAny _ _ (assign (Expr.Tuple _ _ _) _ (Value.ref _)) _ _ _); k_dflt (refine' unpackN_ ?F ?N ?T ?k1 ?k2 ?k3 ?_; (case F => k_asm); (case N => k_asm); (case T => (refine News.isTup (by k_asm) (by k_mem))); (case k1 => assumption); (case k2 => exact rfl); (case k3 => exact rfl)); intro _ _ _; (try k_sweep))) | (with_reducible (k_here; (with_reducible show wpAny _ _ (newList _) _ _ _); k_dflt (refine' newL ?k1 ?k2 ?_ ?z; (case k1 => k_asm); (case k2 => k_asm); (case z => first | exact sz0 | exact sz1 | exact sz2 | exact sz3 | size_fits); k_whole); intro _ _ _ _ l1; (try k_lt l1); (try (revert l1; intros)); (try k_sweep))) | walk1 | (dsimp only; walk1) | (leave1; try dsimp only)))
  unfold Hold
  (rename Fr _ _ _ _ => F1); (rename News _ _ _ _ => N1)
  rename_i ta lt kvs kn tt hkv hlt ha hb hc' lv hd l1 he
  refine forList (L := L') lt kvs kn (fun i m news => ∃ (vs : List Value) (n : Nat) (m0 : Str → Option Value) (ta : Tok), Cells (cs.take i) vs ∧ news = [(lv, W.listOf vs.toArray n), (lt, W.listOf kvs.toArray kn)] ∧ ∀ y, m y = decMap (.int ((1 : Int) + cs.length + (bodiesOf (cs.take i)).length) ta) (.ref lt) (.ref lv) (.bytes (recordOf cs).toArray bt) m0 y) hcalm rfl (fun i m news h => by obtain ⟨vs, n, m0, ta, h1, rfl, h2⟩ := h; exact mem1) F1 (show News g L' _ [(lv, W.listOf ([] : List Value).toArray 0), (lt, W.listOf kvs.toArray kn)] from fun q hq => N1 q (by simp only [List.mem_cons, List.not_mem_nil, or_false] at hq ⊢; rcases hq with rfl | rfl; exact .inl rfl; exact .inr (.inr rfl))) ?map ?step ?fin
  case map =>
    refine' ⟨[], 0, (fun y => List.lookup y [(Str.ofString "octets", .bytes (recordOf cs).toArray bt)].reverse), tt, .nil, rfl, fun y => _⟩
    unfold decMap
    rw [show (1 : Int) + cs.length + ((bodiesOf (cs.take 0)).length : Nat) = (cs.length : Int) + 1 by simp [bodiesOf]; omega]
    by_cases h0 : y = Str.ofString "values"
    · subst h0; rfl
    by_cases h1 : y = Str.ofString "at"
    · subst h1; rfl
    by_cases h2 : y = Str.ofString "types"
    · subst h2; rfl
    by_cases h3 : y = Str.ofString "octets"
    · subst h3; rfl
    simp only [h0, h1, h2, h3, if_false]
  case step =>
    clear F1 N1
    intro i v m news I o h tk hv hJ9 off F4 N4
    k_fold
    (refine ex4 (hJ9) fun vs n m0 ta hE9 => an3 hE9 ?_; clear hE9; rintro hcs rfl hm; (try clear hJ9))
    obtain ⟨c, kt, hci, rfl⟩ := hkv.2 i v hv
    have F5 : Fr g L' h (fun z => if z = Str.ofString "kind" then some (.int c.kind kt) else decMap (.int ((1 : Int) + cs.length + (bodiesOf (cs.take i)).length) ta) (.ref lt) (.ref lv) (.bytes (recordOf cs).toArray bt) m0 z) := fr_eq F4 fun y => by simp only [hm]
    clear F4 hm
    unfold decMap at F5
    have hcg := hgood c (List.mem_of_getElem? hci)
    have hb0 := body_at hci
    have hb1 := body_fits hci
    have hb2 := bodiesOf_take hci
    have hks := kinds_ok hcg
    have hsz := sizeK_ok hcg
    have hb3 : ((recordOf cs).drop ((1 : Int) + cs.length + (bodiesOf (cs.take i)).length).toNat).take c.body.length = c.body := by
      rw [show ((1 : Int) + cs.length + (bodiesOf (cs.take i)).length).toNat = 1 + cs.length + (bodiesOf (cs.take i)).length by (with_reducible exact s57)]; exact hb0
    have hvl := hcs.length
    rw [List.length_take] at hvl
    have d1 := neLt (off _ (.head _))
    have d2 := neLt (off _ mem1)
    (repeat' (first | (k_unfold; (try dsimp only)) | (k_end; wrow_close) | (with_reducible ((with_reducible show wpAny _ _ (inplaceOp Operator.Add (Value.int _ _) (Value.int _ _)) _ _ _); (with_reducible refine iaddI ?_))) | (with_reducible (k_here; (with_reducible show wpAny _ _ (call (Value.ref 673) _) _ _ _); (rename Fr _ _ _ _ => cF'); (rename News _ _ _ _ => cN'); k_dflt (refine' use7t cF' cN' (serial_size_ok ?X ?T (stays_now ?st cF') ?room ?h0) ?_); (case st => assumption); (case X => assumption); (case T => assumption); (case room => exact Room.deeper (by assumption) (by decide)); (case h0 => assumption); (intro _ _ _ _ _); (try clear cF' cN'))) | (with_reducible (k_here; (with_reducible show wpAny _ _ (call (Value.ref 687) _) _ _ _); (rename Fr _ _ _ _ => cF'); (rename News _ _ _ _ => cN'); k_dflt (refine' use7p cF' cN' (value_ok ?X ?T (stays_now ?st cF') ?room ?h0 ?h1 ?h2 ?h3 ?h4) ?_); (case st => assumption); (case X => assumption); (case T => assumption); (case room => exact Room.deeper (by assumption) (by decide)); (case h0 => assumption); (case h1 => assumption); (case h2 => (with_reducible exact s97)); (case h3 => (with_reducible exact s94 (by assumption))); (case h4 => assumption); (intro _ _ _ _ _ _); skip; (try clear cF' cN'))) | (with_reducible (k_here; (with_reducible show wpAny _ _ (call (Value.builtin "list.append") [Value.ref _, _]) _ _ _); k_dflt (refine' appL ?k1 ?k2 ?k3 ?_ ?z; (case k1 => k_asm); (case k2 => k_asm); (case k3 => k_upd); (case z => first | exact sz0 | size_fits); k_whole); intro _ _ _; (try k_sweep))) | walk1 | (dsimp only; walk1) | (leave1; try dsimp only)))
    (rename Fr _ _ _ _ => F1); (rename News _ _ _ _ => N1)
    (try dsimp only at F1)
    rename_i v' ha tk1 hcv hb hc tk2 t2 hd
    rw [hsz] at F1
    have hcs' := hcs.snoc hcv
    rw [show cs.take i ++ [c] = cs.take (i + 1) by rw [List.take_add_one, hci]; rfl] at hcs'
    refine TurnedF.intro F1 N1 [(lv, W.listOf (vs ++ [v']).toArray (n + 1)), (lt, W.listOf kvs.toArray kn)] _ (fun q hq => ?_) (fun q hq => ?_) (fun y => ?_) ⟨vs ++ [v'], n + 1, (fun y => if y = Str.ofString "kind" then some (.int c.kind kt) else m0 y), tk2, hcs', rfl, fun y => rfl⟩
    · rw [← List.push_toArray] at hq; exact hq
    · rcases List.mem_cons.mp hq with rfl | hq
      · exact off (lv, W.listOf vs.toArray n) (.head _)
      · exact off _ (.tail _ hq)
    · unfold decMap
      rw [hb2, List.length_append, Int.natCast_add, ← Int.add_assoc]
      by_cases h0 : y = Str.ofString "at"
      · subst h0; rfl
      by_cases h1 : y = Str.ofString "kind"
      · subst h1; rfl
      by_cases h2 : y = Str.ofString "values"
      · subst h2; rfl
      by_cases h3 : y = Str.ofString "types"
      · subst h3; rfl
      by_cases h4 : y = Str.ofString "octets"
      · subst h4; rfl
      simp only [h0, h1, h2, h3, h4, if_false]
  case fin =>
    clear F1 N1
    intro h tk m news hJ9p4 F4 N4
    refine hide fun G9 k9 => ?_
    obtain ⟨vs, n, m0, ta, hcs, rfl, hm⟩ := hJ9p4
    refine k9 ?_
    clear k9 G9
    have F5 := fr_eq F4 hm
    clear F4 hm
    rw [hkv.1, List.take_length] at hcs
    rw [hkv.1, List.take_length] at F5
    unfold decMap at F5
    (repeat' (first | (k_unfold; (try dsimp only)) | (k_end; wrow_close) | (with_reducible (k_here; (with_reducible show wpAny _ _ (call (Value.builtin "len") [Value.bytes _ _]) _ _ _); k_dflt (refine' len_bytes ?k1 ?_; (case k1 => (simp only [List.size_toArray]; ((with_reducible refine t1 (by assumption) ?_); rfl))); k_whole))) | walk1 | (dsimp only; walk1) | (leave1; try dsimp only)))
    · exfalso; omega
    · refine ret _ _ _ ?_ (keep_back _ hg (fun q hq => (hh0 q hq).1) (by k_asm) (by k_asm) (by repeat' (first | exact List.forall_mem_nil _ | refine fmc (fun _ => by k_mem) ?_ | refine fmc (fun h9 => absurd (by k_mem) h9) ?_))) (grown_back hz (by k_asm))
      exact ⟨lv, vs, n, rfl, Live.of stg (by k_asm) (by k_mem), hcs, fresh_own hg (by k_asm) (by k_mem)⟩

theorem decode_el {prog : Program} {w : World} {A : Around} {E : Value → Shared → Prop} {hp0 : Heap} {ge0 : Array GenState} {dr0 : Drawn} {tk0 : Nat} {os0 : OsState} {f : Addr} {args : List Value} {Q : Value → Shared → Prop} {g : Heap} {L : Addr} {m : Str → Option Value} {news : List (Addr × Obj)} {h₀ : Heap} {cs : List Cell}
    (F : Fr g L hp0 m) (N : News g L hp0 news) (c : Calls7 prog w A f args ⟨hp0, ge0, dr0, tk0, os0⟩ [] (fun v h => ∃ (lv : Addr) (vs : List Value) (n : Nat), v = .ref lv ∧ (Live h₀ h lv (listOf vs.toArray n)) ∧ (Cells cs vs) ∧ (hp0.get? lv = none)))
    (k : ∀ (lv : Addr) (vs : List Value) (n : Nat) (h' : Heap) (tk' : Nat), (Live h₀ h' lv (listOf vs.toArray n)) → (Cells cs vs) → (hp0.get? lv = none) → Fr g L h' m → News g L h' news → Q (.ref lv) ⟨h', ge0, dr0, tk', os0⟩) : wpAny (model prog w) A (call (.ref f) args) Q E ⟨hp0, ge0, dr0, tk0, os0⟩ :=
  use7p F N c fun v h' tk' p' F' N' => by
    (refine ex3 (p') fun lv vs n hE9 => an4 hE9 ?_; clear hE9; rintro rfl a0 a1 a2; (try clear p'))
    exact k lv vs n h' tk' a0 a1 a2 F' N'

end
section -- K29
set_option maxHeartbeats 2000000


/-- an index's columns: tuples whose first item is a place -/
def PlacesAt (h : Heap) (cs : List Value) (ps : List Int) : Prop := cs.length = ps.length ∧ ∀ (i : Nat) (v : Value), cs[i]? = some v → ∃ (t : Addr) (p : Int) (tk : Tok) (b c : Value), v = .ref t ∧ ps[i]? = some p ∧ h.get? t = some (tup3 (.int p tk) b c) ∧ -1 ≤ p ∧ p < 4
section
variable {prog : Program} {w : World} {A : Around} {E : Value → Shared → Prop} {s : Shared} {g : Heap} {L : Addr} {m : Str → Option Value}
theorem first_base {value slice : PySem.Expr} {t : Addr} {u : Tok} {a b c : Value} {Q : Value → Shared → Prop} (F : Fr g L s.heap m) (hb : g.get? t = some (tup3 a b c)) (h : Q a s)
    (hs : subscripted slice false (.ref t) (.int 0 u) = operate [.ref t, .int 0 u] (getItem (.ref t) (.int 0 u))) (hg : ∀ r, letTemporaryGo value (.ref t) r = pure ()) : wpAny (model prog w) A (subscriptTail value slice (.ref t) (.int 0 u)) Q E s :=
  item_tupleL (l := [a, b, c]) (j := 0) ⟨_, F.keep _ _ hb, rfl, _, rfl⟩ (by decide) (by decide) rfl rfl h hs hg
end
local macro_rules | `(tactic| walk_at "CompSrc") => `(tactic| (refine hold ?_))
local macro_rules | `(tactic| walk_at "CompEnd") => `(tactic| (refine hold ?_))

theorem index_key_ok {w : World} {p : Program} {loose : List Str} {mean : ExcName → Option Value} {mg mb : Str → Option Value} {h₀ : Heap} {A : Around} {s : Shared} {tx tdx ix dix cl lv : Addr} {es es2 : List DictEntry} {n n2 nv nc : Nat} {kv : Value} {key : Option Int} {vs : List Value} {cs : List Value} {ps : List Int} {rv : Value}
    (X : (Mine.myK w.params).In h₀) (T : Top p loose mean mg mb h₀) (st : h₀.StaysIn s.heap) (hroom : Room A 8)  (hx : Live h₀ s.heap tx (instObj 915 tdx)) (hd : Live h₀ s.heap tdx (dictOf es n)) (hv : Live h₀ s.heap lv (listOf vs.toArray nv)) (hlen : vs.length < 2 ^ 60) (hk : getL "rowid_place" es = some (some kv)) (hkv : KeyV kv key) (hix : Live h₀ s.heap ix (instObj 873 dix)) (hdx : Live h₀ s.heap dix (dictOf es2 n2)) (hcl : Live h₀ s.heap cl (listOf cs.toArray nc)) (hcol : getL "columns" es2 = some (some (.ref cl))) (hcl3 : cs.length ≤ 3) (hcs : PlacesAt s.heap cs ps) :
    Calls7 PySem.Challenge.rw_xm0772_01.row.prog w A 33 [.ref tx, .ref ix, rv, .ref lv] s [] (fun v h => ∃ D, v = .ref D ∧ Live h₀ h D (LCg.lst ((ps.map fun p => rowVal key p rv vs) ++ [rv])) ∧ s.heap.get? D = none) := by
  intro R ret
  have hcalm := hroom.calm
  revert X; k_fill; intro X
  have hh0 : ∀ q ∈ ([(ix, instObj 873 dix), (dix, dictOf es2 n2), (cl, listOf cs.toArray nc), (tx, instObj 915 tdx), (tdx, dictOf es n), (lv, listOf vs.toArray nv)] : List (Addr × Obj)), s.heap.get? q.1 = some q.2 ∧ h₀.get? q.1 = none := fmc hix (fmc hdx (fmc hcl (fmc hx (fmc hd (fmc hv (List.forall_mem_nil _))))))
  k_dflt (refine' enterC (binds := [(Str.ofString "table", .ref tx), (Str.ofString "index", .ref ix), (Str.ofString "rowid", rv), (Str.ofString "values", .ref lv)]) _ X T st hh0 ?k6 ?k7 ?k8 ?k9 ?kB ?kD ?_ ?c2 ?c3 ?c4)
  case k6 => k_is
  case k7 => k_is
  case k8 => exact hroom.now
  case k9 => first | exact BindsTo.of_eq rfl | exact binds_K (X.keeps st) rfl (by k_is) rfl rfl rfl
  case kB => exact rfl
  case kD => decide +kernel
  case c2 => exact rfl
  case c3 => exact rfl
  case c4 => exact rfl
  intro g L' h₁ tk₁ cells' stg hz hg Xg Tg F N Y lL
  (try k_lt lL)
  k_cells Y
  rename_i c1 c2 c3 dc1 dc2 dc3
  (try simp only [List.cons_append, List.nil_append] at N)
  (try dsimp only)
  k_dflt (show wpAny _ (Around.deeper _ (envX _ ⟨_, _, _, _, _⟩ _ _ _ _)) (execs (_ :: _) (envX _ ⟨_, _, _, _, _⟩ _ _ _ _)) _ _ _)
  k_fold
  k_steps
  unfold Hold
  (rename Fr _ _ _ _ => F1); (rename News _ _ _ _ => N1)
  have hbase : ∀ t a b c, s.heap.get? t = some (tup3 a b c) → g.get? t = some (tup3 a b c) := fun t a b c e => hg t _ e (by
    have ne : ∀ {x : Addr} {o : Obj}, s.heap.get? x = some o → o.cls ≠ .type "tuple" → t ≠ x := fun h1 h2 q => by
      subst q; rw [e] at h1; exact h2 (congrArg Obj.cls (Option.some.inj h1)).symm
    simp only [adrs, List.map_cons, List.map_nil, List.mem_cons, List.not_mem_nil, or_false, not_or]
    exact ⟨ne hix.1 (by show Value.ref _ ≠ _; simp), ne hdx.1 (by show Value.type _ ≠ _; simp), ne hcl.1 (by show Value.type _ ≠ _; simp), ne hx.1 (by show Value.ref _ ≠ _; simp), ne hd.1 (by show Value.type _ ≠ _; simp), ne hv.1 (by show Value.type _ ≠ _; simp)⟩)
  refine LCg.CompSrc.ledger hcalm F1 N1 (by k_mem) (by rw [List.size_toArray]; exact Nat.le_trans hcl3 (by rw [sizeLine_eq]; decide)) ?_
  intro g'
  refine compMap _ (fun i y => ∃ q, ps[i]? = some q ∧ y = rowVal key q rv vs) (.inr ⟨_, by k_mem, rfl, nc, rfl⟩) ?turn ?fin
  case turn =>
    clear F1 N1
    intro i ys v I oI C oC D m₂ h tk hi hy hv hC hx F1 N1 off ne
    (refine ex5 (hcs.2 i v (by simpa using hv)) fun t p tk' b c hE9 => an5 hE9 ?_; clear hE9; rintro rfl hp hg' hp1 hp2)
    have hgt := hbase _ _ _ _ hg'
    (repeat' (first | (k_unfold; (try dsimp only)) | (k_end; wrow_close) | (with_reducible (k_here; (with_reducible show wpAny _ _ (call (Value.ref 28) _) _ _ _); (rename Fr _ _ _ _ => cF'); (rename News _ _ _ _ => cN'); k_dflt (refine' use7v cF' cN' (row_value_ok ?X ?T (stays_now ?st cF') ?room ?h0 ?h1 ?h2 ?h3 ?h4 ?h5 ?h6 ?h7) ?_); (case st => assumption); (case X => assumption); (case T => assumption); (case room => exact Room.deeper (by assumption) (by decide)); (case h0 => exact Live.of (by assumption) (by assumption) (by k_mem)); (case h1 => exact Live.of (by assumption) (by assumption) (by k_mem)); (case h2 => exact Live.of (by assumption) (by assumption) (by k_mem)); (case h3 => assumption); (case h4 => assumption); (case h5 => assumption); (case h6 => (with_reducible assumption)); (case h7 => omega); (intro _ _ _ _); (try clear cF' cN'))) | (with_reducible (k_here; (with_reducible show wpAny _ _ (subscriptTail _ _ (Value.ref _) (Value.int 0 _)) _ _ _); k_dflt (refine' first_base ?k1 ?k2 ?_ ?k6 ?k7; (case k1 => assumption); (case k2 => assumption); (case k6 => with_unfolding_all rfl); (case k7 => (intro _; with_unfolding_all rfl)); k_whole))) | walk1 | (dsimp only; walk1) | (leave1; try dsimp only)))
    exact KeptC.intro (by assumption) (by assumption) ⟨p, hp, rfl⟩
  case fin =>
    clear F1 N1
    intro ys hy hf
    (repeat' (first | (k_unfold; (try dsimp only)) | (k_end; wrow_close) | (with_reducible (k_here; (with_reducible show wpAny _ _ (call (Value.builtin "list.append") [Value.ref _, _]) _ _ _); k_dflt (refine' appL ?k1 ?k2 ?k3 ?_ ?z; (case k1 => k_asm); (case k2 => k_asm); (case k3 => k_upd); (case z => first | exact sz0 | size_fits); k_whole); intro _ _ _; (try k_sweep))) | (with_reducible ((with_reducible show LCg.FinA _ _ _ _ _ _ _ _); (unfold LCg.FinA); intro _ _ _ _ N' _; (try simp only [List.nil_append, List.cons_append] at N'); (try (revert N'; intros)); (try dsimp only))) | walk1 | (dsimp only; walk1) | (leave1; try dsimp only)))
    refine ret _ _ _ ?_ (keep_back _ hg (fun q hq => (hh0 q hq).1) (by k_asm) (by k_asm) (by repeat' (first | exact List.forall_mem_nil _ | refine fmc (fun _ => by k_mem) ?_ | refine fmc (fun h9 => absurd (by k_mem) h9) ?_))) (grown_back hz (by k_asm))
    have hys : ys = ps.map fun p => rowVal key p rv vs := by
      refine List.ext_getElem? fun i => ?_
      rw [List.getElem?_map]
      rcases Nat.lt_or_ge i ys.length with hi | hi
      · (refine ex1 (hf i _ (List.getElem?_eq_getElem hi)) fun q hE9 => an2 hE9 ?_; clear hE9; intro h1 h2)
        rw [List.getElem?_eq_getElem hi, h1, h2]; rfl
      · rw [List.getElem?_eq_none hi, List.getElem?_eq_none (by rw [← hcs.1]; simpa [hy] using hi)]; rfl
    subst hys
    exact ⟨_, rfl, by rw [← LCg.lst_snoc]; exact Live.of stg (by k_asm) (by k_mem), fresh_hid hg (by k_asm) (by k_mem) (fmc (by k_ne) (fmc (by k_ne) (fmc (by k_ne) (fmc (by k_ne) (fmc (by k_ne) (fmc (by k_ne) (List.forall_mem_nil _)))))))⟩

theorem key_el {prog : Program} {w : World} {A : Around} {E : Value → Shared → Prop} {hp0 : Heap} {ge0 : Array GenState} {dr0 : Drawn} {tk0 : Nat} {os0 : OsState} {f : Addr} {args : List Value} {Q : Value → Shared → Prop} {g : Heap} {L : Addr} {m : Str → Option Value} {news : List (Addr × Obj)} {h₀ : Heap} {vs : List Value}
    (F : Fr g L hp0 m) (N : News g L hp0 news) (c : Calls7 prog w A f args ⟨hp0, ge0, dr0, tk0, os0⟩ [] (fun v h => ∃ (D : Addr), v = .ref D ∧ (Live h₀ h D (LCg.lst vs)) ∧ (hp0.get? D = none)))
    (k : ∀ (D : Addr) (h' : Heap) (tk' : Nat), (Live h₀ h' D (LCg.lst vs)) → (hp0.get? D = none) → Fr g L h' m → News g L h' news → Q (.ref D) ⟨h', ge0, dr0, tk', os0⟩) : wpAny (model prog w) A (call (.ref f) args) Q E ⟨hp0, ge0, dr0, tk0, os0⟩ :=
  use7p F N c fun v h' tk' p' F' N' => by
    (refine ex1 (p') fun D hE9 => an3 hE9 ?_; clear hE9; rintro rfl a0 a1; (try clear p'))
    exact k D h' tk' a0 a1 F' N'

end
section -- K30
set_option maxHeartbeats 2000000


theorem take_ok {w : World} {p : Program} {loose : List Str} {mean : ExcName → Option Value} {mg mb : Str → Option Value} {h₀ : Heap} {A : Around} {s : Shared} {sa : Addr} {a b : Int} {ta tb : Tok} {n : Nat} {top : Int} {tt : Tok}
    (X : (Mine.myK w.params).In h₀) (T : Top p loose mean mg mb h₀) (st : h₀.StaysIn s.heap) (hroom : Room A 5) (hl : Live h₀ s.heap sa (srcO a b ta tb n)) (hsv : SrcV a b) (ht : 1 ≤ top) (ht2 : top ≤ 9) :
    Calls7 PySem.Challenge.rw_xm0772_01.row.prog w A 1066 [.ref sa, .int top tt] s [sa] (fun v h => (∃ d t, v = .int d t ∧ 0 ≤ d ∧ d < top) ∧ SrcIn h sa) := by
  intro R ret
  have hcalm := hroom.calm
  revert X; k_fill; intro X
  have hh0 : ∀ q ∈ ([(sa, srcO a b ta tb n)] : List (Addr × Obj)), s.heap.get? q.1 = some q.2 ∧ h₀.get? q.1 = none := fmc hl (List.forall_mem_nil _)
  k_dflt (refine' enter (binds := [(Str.ofString "source", .ref sa), (Str.ofString "top", .int top tt)]) _ X T st hh0 ?k6 ?k7 ?k8 ?k9 ?kB ?_ ?c2 ?c3 ?c4 ?c5)
  case k6 => k_is
  case k7 => k_is
  case k8 => exact hroom.now
  case k9 => first | exact BindsTo.of_eq rfl | exact binds_K (X.keeps st) rfl (by k_is) rfl rfl rfl
  case kB => exact locs rfl
  case c2 => exact rfl
  case c3 => exact rfl
  case c4 => exact rfl
  case c5 => decide
  intro g L' h₁ stg hz hg Xg Tg F N
  k_dflt (show wpAny _ (Around.deeper _ (envOf _ ⟨_, _, _, _, _⟩ _ _ _)) (execs (_ :: _) (envOf _ ⟨_, _, _, _, _⟩ _ _ _)) _ _ _)
  k_fold
  have ha := hsv.a0
  have hb := hsv.b0
  have hb2 := hsv.b1
  (repeat' (first | (k_unfold; (try dsimp only)) | (k_end; wrow_close) | (with_reducible (k_here; (with_reducible show wpAny _ _ (subscriptTail _ _ (Value.ref _) (Value.int _ _)) _ _ _); (with_unfolding_all refine' item_litK ?k1 ?k2 ?k3 ?k4 ?_ ?k6; (case k1 => is_list); (case k2 => decide); (case k3 => decide); (case k4 => rfl); (case k6 => with_unfolding_all rfl); k_whole))) | (with_reducible ((with_reducible show wpAny _ _ (binaryOp Operator.Add (Value.int _ _) (Value.int _ _)) _ _ _); (with_reducible refine addI ?_))) | (with_reducible (k_here; (with_reducible show wpAny _ _ (binaryOp Operator.Mod (Value.int _ _) (Value.int _ _)) _ _ _); k_dflt (first | (refine' mod_to _ ?k1 ?k2 ?_; (case k1 => decide); (case k2 => (simp only [Int.reduceMod, Int.reduceNeg]; rfl)); k_whole) | (refine' mod_small ?k1 ?k2 ?_; (case k1 => (first | (with_reducible assumption) | omega)); (case k2 => omega); k_whole) | (refine' mod_to _ ?k1 ?k2 ?_; (case k1 => (first | decide | ((with_reducible refine i7 (by assumption) ?_); rfl))); (case k2 => rfl); k_whole)))) | walk1 | (dsimp only; walk1) | (leave1; try dsimp only)))
  all_goals (refine ret _ _ _ ?_ (keep_back [sa] hg (fun q hq => (hh0 q hq).1) (by k_asm) (by k_asm) (by repeat' (first | exact List.forall_mem_nil _ | refine fmc (fun _ => by k_mem) ?_ | refine fmc (fun h9 => absurd (by k_mem) h9) ?_))) (grown_back hz (by k_asm)))
  all_goals (try dsimp only)
  all_goals (rename News _ _ _ _ => N9)
  all_goals (refine ⟨⟨_, _, rfl, Int.emod_nonneg _ (by omega), Int.emod_lt_of_pos _ (by ((with_reducible refine i7 (by assumption) ?_); rfl))⟩, _, _, _, _, _, ⟨?_, ?_, ?_⟩, (N9 _ (.head _)).1⟩)
  all_goals first | assumption | (first | (with_reducible exact s105) | (with_reducible exact s107)) | (rw [Int.fdiv_eq_ediv_of_nonneg _ (by ((with_reducible refine i5 (by assumption) ?_); rfl))]; exact Int.ediv_nonneg (by (with_reducible assumption)) (by ((with_reducible refine i5 (by assumption) ?_); rfl)))

end
section -- K31
set_option maxHeartbeats 2000000


theorem one_ok {w : World} {p : Program} {loose : List Str} {mean : ExcName → Option Value} {mg mb : Str → Option Value} {h₀ : Heap} {A : Around} {s : Shared} {sa : Addr} {a b : Int} {ta tb : Tok} {n : Nat} {la : Addr} {vs : List Value} {k : Nat}
    (X : (Mine.myK w.params).In h₀) (T : Top p loose mean mg mb h₀) (st : h₀.StaysIn s.heap) (hroom : Room A 7) (hl : Live h₀ s.heap sa (srcO a b ta tb n)) (hsv : SrcV a b) (hla : Live h₀ s.heap la (W.listOf vs.toArray k)) (hne : @Ne Nat sa la) (hv1 : 1 ≤ vs.length) (hv2 : vs.length ≤ 9) :
    Calls7 PySem.Challenge.rw_xm0772_01.row.prog w A 1073 [.ref sa, .ref la] s [sa] (fun v h => v ∈ vs ∧ SrcIn h sa) := by
  intro R ret
  have hcalm := hroom.calm
  revert X; k_fill; intro X
  have hh0 : ∀ q ∈ ([(sa, srcO a b ta tb n), (la, W.listOf vs.toArray k)] : List (Addr × Obj)), s.heap.get? q.1 = some q.2 ∧ h₀.get? q.1 = none := fmc hl (fmc hla (List.forall_mem_nil _))
  k_dflt (refine' enter (binds := [(Str.ofString "source", .ref sa), (Str.ofString "things", .ref la)]) _ X T st hh0 ?k6 ?k7 ?k8 ?k9 ?kB ?_ ?c2 ?c3 ?c4 ?c5)
  case k6 => k_is
  case k7 => k_is
  case k8 => exact hroom.now
  case k9 => first | exact BindsTo.of_eq rfl | exact binds_K (X.keeps st) rfl (by k_is) rfl rfl rfl
  case kB => exact locs rfl
  case c2 => exact rfl
  case c3 => exact rfl
  case c4 => exact rfl
  case c5 => decide
  intro g L' h₁ stg hz hg Xg Tg F N
  k_dflt (show wpAny _ (Around.deeper _ (envOf _ ⟨_, _, _, _, _⟩ _ _ _)) (execs (_ :: _) (envOf _ ⟨_, _, _, _, _⟩ _ _ _)) _ _ _)
  k_fold
  have hlen : vs.length < 2 ^ 60 := by ((with_reducible refine t3 (by assumption) ?_); rfl)
  (repeat' (first | (k_unfold; (try dsimp only)) | (k_end; wrow_close) | (with_reducible (k_here; (with_reducible show wpAny _ _ (call (Value.ref 1066) _) _ _ _); (rename Fr _ _ _ _ => cF'); (rename News _ _ _ _ => cN'); k_dflt (refine' useS cF' cN' ?U (take_ok ?X ?T (stays_now ?st cF') ?room ?h0 ?h1 ?h2 ?h3) ?_); (case st => assumption); (case X => assumption); (case T => assumption); (case room => exact Room.deeper (by assumption) (by decide)); (case h0 => exact Live.of (by assumption) (by assumption) (by k_mem)); (case h1 => assumption); (case h2 => omega); (case h3 => omega); (case U => k_updF); (intro _ _ _ _ _ _ _ _ p' _ _ N'); (try dsimp only at N'); (try (revert N'; intros)); (obtain ⟨_, _, e', _, _⟩ := p'); subst e'; (try clear cF' cN'))) | (with_reducible (k_here; (with_reducible show wpAny _ _ (call (Value.builtin "len") [Value.ref _]) _ _ _); k_dflt (refine' len_own ?k1 ?k2 ?k3 ?_; (case k1 => k_asm); (case k2 => k_mem); (case k3 => assumption); k_whole))) | (with_reducible (k_here; (with_reducible show wpAny _ _ (subscriptTail _ _ (Value.ref _) (Value.int _ _)) _ _ _); k_dflt (refine' item_own ?k1 ?k2 ?k3 ?k4 ?k5 ?_ ?k6; (case k1 => k_asm); (case k2 => k_mem); (case k3 => (with_reducible assumption)); (case k4 => assumption); (case k5 => (with_reducible assumption)); (case k6 => with_unfolding_all rfl); k_whole))) | walk1 | (dsimp only; walk1) | (leave1; try dsimp only)))
  refine ret _ _ _ ?_ (keep_back [sa] hg (fun q hq => (hh0 q hq).1) (by k_asm) (by k_asm) ?_) (grown_back hz (by k_asm))
  · rename News _ _ _ _ => N9
    rename_i d0 t0 h10 h20
    exact ⟨by rw [List.getD_eq_getElem?_getD, List.getElem?_eq_getElem (by (with_reducible exact s8 (by assumption) (by assumption)))]; exact List.getElem_mem _, _, _, _, _, _, by assumption, (N9 _ (.head _)).1⟩
  · intro q hq hn
    simp only [List.mem_cons, List.not_mem_nil, or_false] at hq hn
    rcases hq with rfl | rfl
    · exact absurd rfl hn
    · exact mem1

end
section -- K32
set_option maxHeartbeats 2000000


theorem lvalue_ok {w : World} {p : Program} {loose : List Str} {mean : ExcName → Option Value} {mg mb : Str → Option Value} {h₀ : Heap} {A : Around} {s : Shared} {sa : Addr} {a b : Int} {ta tb : Tok} {n : Nat}
    (X : (Mine.myK w.params).In h₀) (T : Top p loose mean mg mb h₀) (st : h₀.StaysIn s.heap) (hroom : Room A 9) (hl : Live h₀ s.heap sa (srcO a b ta tb n)) (hsv : SrcV a b) :
    Calls7 PySem.Challenge.rw_xm0772_01.row.prog w A 1087 [.ref sa] s [sa] (fun v h => (∃ c : Cell, c.Good ∧ c.Is v) ∧ SrcIn h sa) := by
  intro R ret
  have hcalm := hroom.calm
  revert X; k_fill; intro X
  have hh0 : ∀ q ∈ ([(sa, srcO a b ta tb n)] : List (Addr × Obj)), s.heap.get? q.1 = some q.2 ∧ h₀.get? q.1 = none := fmc hl (List.forall_mem_nil _)
  k_dflt (refine' enter (binds := [(Str.ofString "source", .ref sa)]) _ X T st hh0 ?k6 ?k7 ?k8 ?k9 ?kB ?_ ?c2 ?c3 ?c4 ?c5)
  case k6 => k_is
  case k7 => k_is
  case k8 => exact hroom.now
  case k9 => first | exact BindsTo.of_eq rfl | exact binds_K (X.keeps st) rfl (by k_is) rfl rfl rfl
  case kB => exact locs rfl
  case c2 => exact rfl
  case c3 => exact rfl
  case c4 => exact rfl
  case c5 => decide
  intro g L' h₁ stg hz hg Xg Tg F N
  k_dflt (show wpAny _ (Around.deeper _ (envOf _ ⟨_, _, _, _, _⟩ _ _ _)) (execs (_ :: _) (envOf _ ⟨_, _, _, _, _⟩ _ _ _)) _ _ _)
  k_fold
  (repeat' (first | (k_unfold; (try dsimp only)) | (k_end; wrow_close) | (with_reducible ((with_reducible show wpAny _ _ (binaryOp Operator.Sub (Value.int _ _) (Value.int _ _)) _ _ _); (with_reducible refine subI ?_))) | (with_reducible ((with_reducible show wpAny _ _ (binaryOp Operator.Pow (Value.int _ _) (Value.int _ _)) _ _ _); k_here; (first | (with_reducible refine' pow_to (a := 2) (b := 56) 72057594037927936 ?z1 ?z2 ?z3 ?z4 ?_) | (with_reducible refine' pow_to (a := 2) (b := 63) 9223372036854775808 ?z1 ?z2 ?z3 ?z4 ?_) | (with_reducible refine' pow_to (a := 2) (b := 64) 18446744073709551616 ?z1 ?z2 ?z3 ?z4 ?_) | (with_reducible refine' pow_to (a := 10) (b := 18) 1000000000000000000 ?z1 ?z2 ?z3 ?z4 ?_) | (with_reducible refine' pow_to (a := 256) (b := 0) 1 ?z1 ?z2 ?z3 ?z4 ?_) | (with_reducible refine' pow_to (a := 256) (b := 1) 256 ?z1 ?z2 ?z3 ?z4 ?_) | (with_reducible refine' pow_to (a := 256) (b := 2) 65536 ?z1 ?z2 ?z3 ?z4 ?_) | (with_reducible refine' pow_to (a := 256) (b := 3) 16777216 ?z1 ?z2 ?z3 ?z4 ?_) | (with_reducible refine' pow_to (a := 256) (b := 4) 4294967296 ?z1 ?z2 ?z3 ?z4 ?_) | (with_reducible refine' pow_to (a := 256) (b := 6) 281474976710656 ?z1 ?z2 ?z3 ?z4 ?_) | (with_reducible refine' pow_to (a := 256) (b := 8) 18446744073709551616 ?z1 ?z2 ?z3 ?z4 ?_)); (case z1 => decide); (case z2 => decide); (case z3 => decide); (case z4 => decide +kernel))) | (with_reducible ((with_reducible show wpAny _ _ (unaryOp UnaryOp.USub (Value.int _ _)) _ _ _); (with_reducible refine negI ?_))) | (with_reducible (k_here; (with_reducible show wpAny _ _ (call (Value.ref 1073) _) _ _ _); (rename Fr _ _ _ _ => cF'); (rename News _ _ _ _ => cN'); k_dflt (refine' useS cF' cN' ?U (one_ok ?X ?T (stays_now ?st cF') ?room ?h0 ?h1 ?h2 ?h3 ?h4 ?h5) ?_); (case st => assumption); (case X => assumption); (case T => assumption); (case room => exact Room.deeper (by assumption) (by decide)); (case h0 => exact Live.of (by assumption) (by assumption) (by k_mem)); (case h1 => assumption); (case h2 => exact Live.of (by assumption) (by assumption) (by k_mem)); (case h3 => first | assumption | k_ne); (case h4 => (simp only [List.length_cons, List.length_nil]; decide)); (case h5 => (simp only [List.length_cons, List.length_nil]; decide)); (case U => k_updF); (intro _ _ _ _ _ _ _ _ _ _ _ N'); (try dsimp only at N'); (try (revert N'; intros)); skip; (try clear cF' cN'))) | (with_reducible (k_here; (with_reducible show wpAny _ _ (newList _) _ _ _); k_dflt (refine' newL ?k1 ?k2 ?_ ?z; (case k1 => k_asm); (case k2 => k_asm); (case z => first | exact sz0 | exact sz1 | exact sz2 | exact sz3 | size_fits); k_whole); intro _ _ _ _ l1; (try k_lt l1); (try (revert l1; intros)); (try k_sweep))) | walk1 | (dsimp only; walk1) | (leave1; try dsimp only)))
  (rename News _ _ _ _ => N9); (rename _ ∈ _ => pm)
  refine ret _ _ _ ⟨?_, _, _, _, _, _, by assumption, (N9 _ mem1).1⟩ (keep_back [sa] hg (fun q hq => (hh0 q hq).1) (by k_asm) (by k_asm) (by repeat' (first | exact List.forall_mem_nil _ | refine fmc (fun _ => by k_mem) ?_ | refine fmc (fun h9 => absurd (by k_mem) h9) ?_))) (grown_back hz (by k_asm))
  simp only [List.mem_cons, List.not_mem_nil, or_false] at pm
  rcases pm with rfl | rfl | rfl | rfl | rfl | rfl | rfl | rfl | rfl
  · exact ⟨.nil, .nil, .nil⟩
  · exact ⟨.int 0, .int (.inl ⟨by decide, by decide⟩), .int _ _⟩
  · exact ⟨.int (-7), .int (.inl ⟨by decide, by decide⟩), .int _ _⟩
  · exact ⟨.int (9223372036854775808 - 1), .int (.inr (.inl (by decide))), .int _ _⟩
  · exact ⟨.tx tx0, .tx0, .tx _ _⟩
  · exact ⟨.tx tx1, .tx1, .tx _ _⟩
  · exact ⟨.oc [], .oc (by decide), .oc [] _⟩
  · exact ⟨.oc [97, 98], .oc (by decide), .oc [97, 98] _⟩
  · exact ⟨.int 5, .int (.inl ⟨by decide, by decide⟩), .int _ _⟩

end
section -- K34
set_option maxHeartbeats 2000000

local macro_rules | `(tactic| walk_at "CompSrc") => `(tactic| (refine hold ?_))
local macro_rules | `(tactic| walk_at "CompEnd") => `(tactic| (refine hold ?_))

/-- the pairs of the due row, the newest first -/
def dueLed (vs : List Value) (ts : List (Addr × Tok)) : List (Addr × Obj) := (ts.zipIdx.map fun q => (q.1.1, tup2 (.int (0 + (q.2 : Int)) q.1.2) (vs.getD q.2 .none))).reverse
theorem dueLed_snoc (vs : List Value) (ts : List (Addr × Tok)) (t : Addr × Tok) : dueLed vs (ts ++ [t]) = (t.1, tup2 (.int (0 + (ts.length : Int)) t.2) (vs.getD ts.length .none)) :: dueLed vs ts := by
  unfold dueLed
  rw [List.zipIdx_append, List.map_append, List.reverse_append]
  simp

section
variable {prog : Program} {w : World} {A : Around} {E : Value → Shared → Prop} {s : Shared} {g : Heap} {L : Addr} {m : Str → Option Value} {news : List (Addr × Obj)}
theorem set_own {hp0 : Heap} {ge0 : Array GenState} {dr0 : Drawn} {tk0 : Nat} {os0 : OsState} {d : Addr} {o : Obj} {kvs : List (Int × Value)} {k : Int} {t : Tok} {v : Value} {gg : Obj → List (Addr × Obj)} {Q : Unit → Shared → Prop} (F : Fr g L hp0 m) (N : News g L hp0 news) (U : UpdF d o news gg) (hd : o.IsDictOf (intKind prog w) kvs) (hz : kvs.length ≤ 1000)
    (h : ∀ h' o', Fr g L h' m → News g L h' (gg o') → o'.IsDictOf (intKind prog w) (stored kvs k v) → Q () ⟨h', ge0, dr0, tk0 + 1, os0⟩) : wpAny (model prog w) A (setItem (.ref d) (.int k t) v) Q E ⟨hp0, ge0, dr0, tk0, os0⟩ := by
  (refine ex2 (U.split) fun own rest hE9 => an4 hE9 ?_; clear hE9; rintro rfl hg h1 h2)
  have hm := N (d, o) (List.mem_append_right _ (.head _))
  refine wpAny_setItem_pairs (hsz := by rw [sizeLine_eq]; ((with_reducible refine t1 (by assumption) ?_); rfl)) (intKind_is prog w k t) (Heap.dictOf_iff.mpr ⟨o, hm.1, hd⟩) fun h' hmm hs => ?_
  (refine ex1 (Heap.dictOf_iff.mp hmm) fun o' hE9 => an2 hE9 ?_; clear hE9; intro ho' hd')
  exact h h' o' (F.change hs hm.2.1 hm.2.2) (hg o' ▸ N.setAt h1 h2 hs ho') hd'
end
theorem due_vals {vs : List Value} {rv : Value} {key : Option Int} (h4 : vs.length ≤ 4) (hk : ∀ k, key = some k → 0 ≤ k ∧ k < 4) (p : Int) (h0 : -1 ≤ p) (h1 : p < 4) :
    valueAt (match key with | none => stored [(0, vs.getD 0 .none), (1, vs.getD 1 .none), (2, vs.getD 2 .none), (3, vs.getD 3 .none)] (-1) rv | some k => stored (stored [(0, vs.getD 0 .none), (1, vs.getD 1 .none), (2, vs.getD 2 .none), (3, vs.getD 3 .none)] (-1) rv) k rv) p = some (rowVal key p rv vs) := by
  have hp : p = -1 ∨ p = 0 ∨ p = 1 ∨ p = 2 ∨ p = 3 := by (with_reducible exact s16 (by assumption) (by assumption))
  cases key with
  | none => rcases hp with rfl | rfl | rfl | rfl | rfl <;> rfl
  | some k =>
    have := hk k rfl
    have hk' : k = 0 ∨ k = 1 ∨ k = 2 ∨ k = 3 := by (with_reducible exact s56 (by assumption))
    rcases hk' with rfl | rfl | rfl | rfl <;> rcases hp with rfl | rfl | rfl | rfl | rfl <;> rfl

theorem due_ok {w : World} {p : Program} {loose : List Str} {mean : ExcName → Option Value} {mg mb : Str → Option Value} {h₀ : Heap} {A : Around} {s : Shared} {lv : Addr} {nv : Nat} {kv : Value} {key : Option Int} {vs : List Value} {rv : Value}
    (X : (Mine.myK w.params).In h₀) (T : Top p loose mean mg mb h₀) (st : h₀.StaysIn s.heap) (hroom : Room A 5)  (hv : Live h₀ s.heap lv (listOf vs.toArray nv)) (hlen4 : vs.length ≤ 4) (hkv : KeyV kv key) (hk4 : ∀ k, key = some k → 0 ≤ k ∧ k < 4) :
    Calls7 PySem.Challenge.rw_xm0772_01.row.prog w A 1092 [rv, .ref lv, kv] s [] (fun v h => ∃ D o kvs, v = .ref D ∧ Live h₀ h D o ∧ o.IsDictOf (intKind PySem.Challenge.rw_xm0772_01.row.prog w) kvs ∧ (∀ p : Int, -1 ≤ p → p < 4 → valueAt kvs p = some (rowVal key p rv vs)) ∧ s.heap.get? D = none) := by
  intro R ret
  have hcalm := hroom.calm
  revert X; k_fill; intro X
  have hh0 : ∀ q ∈ ([(lv, listOf vs.toArray nv)] : List (Addr × Obj)), s.heap.get? q.1 = some q.2 ∧ h₀.get? q.1 = none := fmc hv (List.forall_mem_nil _)
  k_dflt (refine' enterC (binds := [(Str.ofString "rowid", rv), (Str.ofString "values", .ref lv), (Str.ofString "key", kv)]) _ X T st hh0 ?k6 ?k7 ?k8 ?k9 ?kB ?kD ?_ ?c2 ?c3 ?c4)
  case k6 => k_is
  case k7 => k_is
  case k8 => exact hroom.now
  case k9 => first | exact BindsTo.of_eq rfl | exact binds_K (X.keeps st) rfl (by k_is) rfl rfl rfl
  case kB => exact rfl
  case kD => decide +kernel
  case c2 => exact rfl
  case c3 => exact rfl
  case c4 => exact rfl
  intro g L' h₁ tk₁ cells' stg hz hg Xg Tg F N Y lL
  (try k_lt lL)
  k_cells Y
  rename_i c1 dc1
  (try simp only [List.cons_append, List.nil_append] at N)
  (try dsimp only)
  k_dflt (show wpAny _ (Around.deeper _ (envX _ ⟨_, _, _, _, _⟩ _ _ _ _)) (execs (_ :: _) (envX _ ⟨_, _, _, _, _⟩ _ _ _ _)) _ _ _)
  k_fold
  have hlen : vs.length < 2 ^ 60 := by ((with_reducible refine t3 (by assumption) ?_); rfl)
  k_steps
  unfold Hold
  (rename Fr _ _ _ _ => F1); (rename News _ _ _ _ => N1); (rename IsRange _ _ _ _ _ _ _ _ => R1)
  rename_i h9 tk9 t9 u9 v9 hk9
  refine LCg.CompSrc.range (n := 4) hcalm F1 N1 R1 (by decide) (by decide) (by rw [sizeLine_eq]; decide) ?_
  intro g'
  refine compAll 4 (fun i ys nw => ∃ ts : List (Addr × Tok), ts.length = i ∧ ys = ts.map (fun t => Value.ref t.1) ∧ nw = [(L' + 1, c1), (lv, W.listOf vs.toArray nv)] ++ dueLed vs ts) ⟨[], rfl, rfl, rfl⟩ ?turn ?fin
  case turn =>
    clear F1 N1
    intro i ys nw v I oI C oC D m₂ h tk hi hy hJ9p14 hJ9p15 hC hx F1 N1 off ne
    refine hide fun G9 k9 => ?_
    obtain ⟨ts, hts, rfl, rfl⟩ := hJ9p14
    obtain ⟨t0, rfl⟩ := hJ9p15
    refine k9 ?_
    clear k9 G9
    have off0 := off
    simp only [List.cons_append, List.nil_append] at N1
    simp only [List.cons_append, List.nil_append, LCg.Off3] at off
    (repeat' (first | (k_unfold; (try dsimp only)) | (k_end; wrow_close) | (with_reducible (k_here; (with_reducible show wpAny _ _ (call (Value.builtin "len") [Value.ref _]) _ _ _); k_dflt (refine' len_own ?k1 ?k2 ?k3 ?_; (case k1 => k_asm); (case k2 => k_mem); (case k3 => assumption); k_whole))) | (with_reducible (k_here; (with_reducible show wpAny _ _ (newTuple _) _ _ _); kup_bare; k_dflt (refine' newT ?F ?N ?_ ?z; (case F => k_asm); (case N => k_asm); (case z => first | exact sz0 | exact sz1 | exact sz2 | exact sz3 | kmk_size)); intro _ _ _ _ l1; (try k_lt l1); (try (revert l1; intros)); (try k_sweep))) | (with_reducible (k_here; (with_reducible show wpAny _ _ (subscriptTail _ _ (Value.ref _) (Value.int _ _)) _ _ _); k_dflt (refine' item_own ?k1 ?k2 ?k3 ?k4 ?k5 ?_ ?k6; (case k1 => k_asm); (case k2 => k_mem); (case k3 => ((with_reducible refine c6 ?_); rfl)); (case k4 => assumption); (case k5 => (with_reducible assumption)); (case k6 => with_unfolding_all rfl); k_whole))) | walk1 | (dsimp only; walk1) | (leave1; try dsimp only)))
    · unfold Hold
      (rename Fr _ _ _ _ => F2); (rename News _ _ _ _ => N2)
      rename_i hlt T9 hh9 l9
      subst hts
      have e : vs.getD ts.length .none = vs.getD (0 + (ts.length : Int)).toNat .none := by rw [show (0 + (ts.length : Int)).toNat = ts.length by (with_reducible exact s4)]
      refine LCg.CompEnd.intro F2 N2 ((L' + 1, c1) :: (lv, W.listOf vs.toArray nv) :: dueLed vs (ts ++ [(T9, t0)])) (fun q hq => ?_) ?_ trivial ⟨ts ++ [(T9, t0)], by simp, by simp, rfl⟩
      · rw [dueLed_snoc, e] at hq
        simp only [List.mem_cons] at hq ⊢
        rcases hq with h | h | h | h | h | h | h
        · exact .inr (.inl h)
        · exact .inr (.inr (.inl h))
        · exact .inr (.inr (.inr (.inl h)))
        · exact .inr (.inr (.inr (.inr (.inl h))))
        · exact .inr (.inr (.inr (.inr (.inr (.inl h)))))
        · exact .inl h
        · exact .inr (.inr (.inr (.inr (.inr (.inr h)))))
      · rw [dueLed_snoc]
        exact ⟨off.1, off.2.1, ⟨Nat.ne_of_gt l9.1, Nat.ne_of_gt l9.2.1, Nat.ne_of_gt l9.2.2.1⟩, off.2.2⟩
    · unfold Hold
      (rename Fr _ _ _ _ => F2); (rename News _ _ _ _ => N2)
      rename_i hlt T9 hh9 l9
      subst hts
      have e : vs.getD ts.length .none = .none := by rw [List.getD_eq_getElem?_getD, List.getElem?_eq_none (by omega)]; rfl
      refine LCg.CompEnd.intro F2 N2 ((L' + 1, c1) :: (lv, W.listOf vs.toArray nv) :: dueLed vs (ts ++ [(T9, t0)])) (fun q hq => ?_) ?_ trivial ⟨ts ++ [(T9, t0)], by simp, by simp, rfl⟩
      · rw [dueLed_snoc, e] at hq
        simp only [List.mem_cons] at hq ⊢
        rcases hq with h | h | h | h | h | h | h
        · exact .inr (.inl h)
        · exact .inr (.inr (.inl h))
        · exact .inr (.inr (.inr (.inl h)))
        · exact .inr (.inr (.inr (.inr (.inl h))))
        · exact .inr (.inr (.inr (.inr (.inr (.inl h)))))
        · exact .inl h
        · exact .inr (.inr (.inr (.inr (.inr (.inr h)))))
      · rw [dueLed_snoc]
        exact ⟨off.1, off.2.1, ⟨Nat.ne_of_gt l9.1, Nat.ne_of_gt l9.2.1, Nat.ne_of_gt l9.2.2.1⟩, off.2.2⟩
  case fin =>
    clear F1 N1
    intro ys nw hy hJ9p3
    refine hide fun G9 k9 => ?_
    obtain ⟨ts, hts, rfl, rfl⟩ := hJ9p3
    refine k9 ?_
    clear k9 G9
    refine hide fun G9 k9 => ?_
    obtain ⟨⟨a0, t0⟩, ⟨a1, t1⟩, ⟨a2, t2⟩, ⟨a3, t3⟩, rfl⟩ : ∃ q0 q1 q2 q3, ts = [q0, q1, q2, q3] := by
      match ts, hts with
      | [q0, q1, q2, q3], _ => exact ⟨q0, q1, q2, q3, rfl⟩
    refine k9 ?_
    clear k9 G9
    simp only [dueLed, List.zipIdx_cons, List.zipIdx_nil, List.map_cons, List.map_nil, List.reverse_cons, List.reverse_nil, List.nil_append, List.cons_append]
    (repeat' (first | (k_unfold; (try dsimp only)) | (k_end; wrow_close) | (with_reducible ((with_reducible show wpAny _ _ (call (Value.type "dict") _) _ _ _); refine hold ?_)) | (with_reducible ((with_reducible show LCg.FinE _ _ _ _ _ _ _); (unfold LCg.FinE); intro _ _ _ _ N' _; (try simp only [List.nil_append, List.cons_append] at N'); (try (revert N'; intros)); (try dsimp only))) | walk1 | (dsimp only; walk1) | (leave1; try dsimp only)))
    unfold Hold
    (rename Fr _ _ _ _ => F2); (rename News _ _ _ _ => N2)
    rename_i D9 hh9 tk9 o9
    refine dict_pairs (ps := [(0, vs.getD 0 .none), (1, vs.getD 1 .none), (2, vs.getD 2 .none), (3, vs.getD 3 .none)]) hcalm (N2 _ (.head _)).1 rfl ?_ (show 4 ≤ 1000 by decide) (show ([0, 1, 2, 3] : List Int).Nodup by decide) (fun h3 tk3 hd3 hk3 => ?_)
    · refine ⟨rfl, fun i v hv => ?_⟩
      match i, hv with
      | 0, hv => cases hv; exact ⟨a0, 0, t0, _, rfl, rfl, (N2 (a0, tup2 (.int 0 t0) (vs.getD 0 .none)) mem6).1⟩
      | 1, hv => cases hv; exact ⟨a1, 1, t1, _, rfl, rfl, (N2 (a1, tup2 (.int 1 t1) (vs.getD 1 .none)) mem5).1⟩
      | 2, hv => cases hv; exact ⟨a2, 2, t2, _, rfl, rfl, (N2 (a2, tup2 (.int 2 t2) (vs.getD 2 .none)) mem4).1⟩
      | 3, hv => cases hv; exact ⟨a3, 3, t3, _, rfl, rfl, (N2 (a3, tup2 (.int 3 t3) (vs.getD 3 .none)) mem3).1⟩
      | i + 4, hv => simp at hv
    · (refine ex1 (Heap.dictOf_iff.mp hd3) fun od hE9 => an2 hE9 ?_; clear hE9; intro hod hdd)
      have hod : h3.get? hh9.objs.size = some od := hod
      have F3 := F2.after hk3
      have N3 : News g L' h3 [(hh9.objs.size, od), (L' + 1, c1), (lv, W.listOf vs.toArray nv)] := fun q hq => by
        rcases List.mem_cons.mp hq with rfl | hq
        · exact ⟨hod, Nat.ne_of_gt F2.ns.lt, next_is_new F2⟩
        · have := N2 q (.tail _ (by rcases List.mem_cons.mp hq with rfl | hq; exact .head _; rw [List.mem_singleton.mp hq]; exact mem1))
          exact ⟨hk3 _ _ this.1, this.2⟩
      have l3 : @Ne Nat (L' + 1) hh9.objs.size := Nat.ne_of_lt (Heap.lt_size (N2 (L' + 1, c1) mem1).1)
      have l4 : @Ne Nat lv hh9.objs.size := Nat.ne_of_lt (Heap.lt_size (N2 (lv, W.listOf vs.toArray nv) mem2).1)
      generalize hD : hh9.objs.size = D3 at *
      clear F2 N2
      cases hkv
      all_goals (repeat' (first | (k_unfold; (try dsimp only)) | (k_end; wrow_close) | (with_reducible ((with_reducible show wpAny _ _ (unaryOp UnaryOp.USub (Value.int _ _)) _ _ _); (with_reducible refine negI ?_))) | walk1 | (dsimp only; walk1) | (leave1; try dsimp only)))
      all_goals (refine ret _ _ _ ?_ (keep_back [] hg (fun q hq => (hh0 q hq).1) (by k_asm) (by k_asm) (by repeat' (first | exact List.forall_mem_nil _ | refine fmc (fun _ => by k_mem) ?_ | refine fmc (fun h9 => absurd (by k_mem) h9) ?_))) (grown_back hz (by k_asm)))
      all_goals (refine ⟨_, _, _, rfl, Live.of stg (by k_asm) (.head _), by assumption, fun p h0 h1 => due_vals hlen4 hk4 p h0 h1, fresh_hid hg (by k_asm) (.head _) (fmc (by k_ne) (List.forall_mem_nil _))⟩)

theorem due_el {prog : Program} {w : World} {A : Around} {E : Value → Shared → Prop} {hp0 : Heap} {ge0 : Array GenState} {dr0 : Drawn} {tk0 : Nat} {os0 : OsState} {f : Addr} {args : List Value} {Q : Value → Shared → Prop} {g : Heap} {L : Addr} {m : Str → Option Value} {news : List (Addr × Obj)} {h₀ : Heap} {key : Option Int} {rv : Value} {vs : List Value}
    (F : Fr g L hp0 m) (N : News g L hp0 news) (c : Calls7 prog w A f args ⟨hp0, ge0, dr0, tk0, os0⟩ [] (fun v h => ∃ (D : Addr) (o : Obj) (kvs : List (Int × Value)), v = .ref D ∧ (Live h₀ h D o) ∧ (o.IsDictOf (intKind prog w) kvs) ∧ (∀ p : Int, -1 ≤ p → p < 4 → valueAt kvs p = some (rowVal key p rv vs)) ∧ (hp0.get? D = none)))
    (k : ∀ (D : Addr) (o : Obj) (kvs : List (Int × Value)) (h' : Heap) (tk' : Nat), (Live h₀ h' D o) → (o.IsDictOf (intKind prog w) kvs) → (∀ p : Int, -1 ≤ p → p < 4 → valueAt kvs p = some (rowVal key p rv vs)) → (hp0.get? D = none) → Fr g L h' m → News g L h' news → Q (.ref D) ⟨h', ge0, dr0, tk', os0⟩) : wpAny (model prog w) A (call (.ref f) args) Q E ⟨hp0, ge0, dr0, tk0, os0⟩ :=
  use7p F N c fun v h' tk' p' F' N' => by
    (refine ex3 (p') fun D o kvs hE9 => an5 hE9 ?_; clear hE9; rintro rfl a0 a1 a2 a3; (try clear p'))
    exact k D o kvs h' tk' a0 a1 a2 a3 F' N'

end
section -- K50
set_option maxHeartbeats 2000000

abbrev tupV (vs : List Value) : Obj := { cls := .type "tuple", data := .seq vs.toArray }
theorem TripsAt.up {sh h : Heap} {vs : List Value} {ts : List (Value × Value × Value)} (T : TripsAt sh vs ts) (k : KeepBut [] sh h) : TripsAt h vs ts := ⟨T.1, fun i v hv => by
  (refine ex4 (T.2 i v hv) fun t a b c hE9 => an3 hE9 ?_; clear hE9; intro e e2 e3)
  exact ⟨t, a, b, c, e, e2, k _ _ (by simp) e3⟩⟩

theorem keyinfo_init {w : World} {p : Program} {loose : List Str} {mean : ExcName → Option Value} {mg mb : Str → Option Value} {h₀ : Heap} {A : Around} {s : Shared} {x dx : Addr} {ta tb : Addr} {cs ds : List Value} {z : Int}
    (X : (Mine.myK w.params).In h₀) (T : Top p loose mean mg mb h₀) (st : h₀.StaysIn s.heap) (hroom : Room A 5) (hx : Live h₀ s.heap x (instObj 753 dx)) (hdx : Live h₀ s.heap dx (dictOf [] 0)) (hlt : @LT.lt Nat _ dx x) (hta : Live h₀ s.heap ta (tupV cs)) (htb : Live h₀ s.heap tb (tupV ds)) (hcz : (cs.toArray.size : Int) = z) (hdz : (ds.toArray.size : Int) = z) (hz : z ≤ 16384) :
    Calls7 PySem.Challenge.rw_xm0772_01.row.prog w A 729 [.ref x, .ref ta, .ref tb] s [dx] (fun v h => v = .none ∧ ∃ es n f, h.get? dx = some (dictOf es n) ∧ DA es f 20 ∧ f (Str.ofString "collations") = some (.ref ta) ∧ f (Str.ofString "count") = none) := by
  intro R ret
  have hcalm := hroom.calm
  revert X; k_fill; intro X
  have hh0 : ∀ q ∈ ([(x, instObj 753 dx), (dx, dictOf [] 0), (ta, tupV cs), (tb, tupV ds)] : List (Addr × Obj)), s.heap.get? q.1 = some q.2 ∧ h₀.get? q.1 = none := fmc hx (fmc hdx (fmc hta (fmc htb (List.forall_mem_nil _))))
  k_dflt (refine' enter (binds := [(Str.ofString "self", .ref x), (Str.ofString "collations", .ref ta), (Str.ofString "descending", .ref tb)]) _ X T st hh0 ?k6 ?k7 ?k8 ?k9 ?kB ?_ ?c2 ?c3 ?c4 ?c5)
  case k6 => k_is
  case k7 => k_is
  case k8 => exact hroom.now
  case k9 => first | exact BindsTo.of_eq rfl | exact binds_K (X.keeps st) rfl (by k_is) rfl rfl rfl
  case kB => exact locs rfl
  case c2 => exact rfl
  case c3 => exact rfl
  case c4 => exact rfl
  case c5 => decide
  intro g L' h₁ stg hz hg Xg Tg F N
  k_dflt (show wpAny _ (Around.deeper _ (envOf _ ⟨_, _, _, _, _⟩ _ _ _)) (execs (_ :: _) (envOf _ ⟨_, _, _, _, _⟩ _ _ _)) _ _ _)
  k_fold
  have D0 := DA.nil
  have ne_ta_dx := neCls N (a := ta) (b := dx) (o := tupV cs) (o' := dictOf [] 0) (by k_mem) (by k_mem) (by show _ ≠ _; simp)
  have ne_tb_dx := neCls N (a := tb) (b := dx) (o := tupV ds) (o' := dictOf [] 0) (by k_mem) (by k_mem) (by show _ ≠ _; simp)
  have ne_x_dx := neCls N (a := x) (b := dx) (o := instObj 753 dx) (o' := dictOf [] 0) (by k_mem) (by k_mem) (by show _ ≠ _; simp)
  (repeat' (first | (k_unfold; (try dsimp only)) | (k_end; wrow_close) | (with_reducible (k_here; (with_reducible show wpAny _ _ (call (Value.type _) [Value.ref _]) _ _ _); k_dflt (refine' call_tuple_tup ?k1 ?_; (case k1 => exact News.isTup (by k_asm) (by k_mem)); k_whole))) | (with_reducible (k_here; (with_reducible show wpAny _ _ (call (Value.builtin "len") [Value.ref _]) _ _ _); k_dflt (refine' kun_lenT ?k1 ?k2 ?k3 ?_; (case k1 => exact News.isTup (by k_asm) (by k_mem)); (case k2 => assumption); (case k3 => assumption); k_whole))) | (with_reducible ((with_reducible show wpAny _ _ (setAttr (Value.ref _) _ _) _ _ _); k_here; k_dflt (refine' set_sym ?F ?X ?N ?x ?U ?D ?a ?b ?c ?d ?e ?_; (case F => k_asm); (case X => k_asm); (case N => k_asm); (case x => k_mem); (case U => k_updF); (case D => assumption); (case a => k_is); (case b => k_is); (case c => k_is); (case d => k_is); (case e => first | decide | omega); k_whole); intro _ _ _ _ _ N'; (try dsimp only at N'); (try (revert N'; intros)))) | walk1 | (dsimp only; walk1) | (leave1; try dsimp only)))
  · rename_i hzz; exact absurd rfl hzz
  refine ret _ _ _ ?_ (keep_back [dx] hg (fun q hq => (hh0 q hq).1) (by k_asm) (by k_asm) (by repeat' (first | exact List.forall_mem_nil _ | refine fmc (fun _ => by k_mem) ?_ | refine fmc (fun h9 => absurd (by k_mem) h9) ?_))) (grown_back hz (by k_asm))
  (rename News _ _ _ _ => N9); (rename DA _ _ _ => D9)
  exact ⟨rfl, _, _, _, (N9 (dx, _) (by k_mem)).1, ⟨D9.get, D9.ref, Nat.le_trans D9.len (by decide)⟩, rfl, rfl⟩

theorem count_ok {w : World} {p : Program} {loose : List Str} {mean : ExcName → Option Value} {mg mb : Str → Option Value} {h₀ : Heap} {A : Around} {s : Shared} {x dx ta : Addr} {es : List DictEntry} {nd kd : Nat} {f : Str → Option Value} {cs : List Value} {z : Int}
    (X : (Mine.myK w.params).In h₀) (T : Top p loose mean mg mb h₀) (st : h₀.StaysIn s.heap) (hroom : Room A 5) (hx : Live h₀ s.heap x (instObj 753 dx)) (hd : Live h₀ s.heap dx (dictOf es nd)) (hD : DA es f kd) (hf : f (Str.ofString "collations") = some (.ref ta)) (hta : Live h₀ s.heap ta (tupV cs)) (hcz : (cs.toArray.size : Int) = z) (hz : z ≤ 16384) :
    Calls7 PySem.Challenge.rw_xm0772_01.row.prog w A 736 [.ref x] s [] (fun v h => ∃ t, v = .int z t) := by
  intro R ret
  have hcalm := hroom.calm
  revert X; k_fill; intro X
  have hh0 : ∀ q ∈ ([(x, instObj 753 dx), (dx, dictOf es nd), (ta, tupV cs)] : List (Addr × Obj)), s.heap.get? q.1 = some q.2 ∧ h₀.get? q.1 = none := fmc hx (fmc hd (fmc hta (List.forall_mem_nil _)))
  k_dflt (refine' enter (binds := [(Str.ofString "self", .ref x)]) _ X T st hh0 ?k6 ?k7 ?k8 ?k9 ?kB ?_ ?c2 ?c3 ?c4 ?c5)
  case k6 => k_is
  case k7 => k_is
  case k8 => exact hroom.now
  case k9 => first | exact BindsTo.of_eq rfl | exact binds_K (X.keeps st) rfl (by k_is) rfl rfl rfl
  case kB => exact locs rfl
  case c2 => exact rfl
  case c3 => exact rfl
  case c4 => exact rfl
  case c5 => decide
  intro g L' h₁ stg hz hg Xg Tg F N
  k_dflt (show wpAny _ (Around.deeper _ (envOf _ ⟨_, _, _, _, _⟩ _ _ _)) (execs (_ :: _) (envOf _ ⟨_, _, _, _, _⟩ _ _ _)) _ _ _)
  k_fold
  (repeat' (first | (k_unfold; (try dsimp only)) | (k_end; wrow_close) | (with_reducible (k_here; (with_reducible show wpAny _ _ (call (Value.builtin "len") [Value.ref _]) _ _ _); k_dflt (refine' kun_lenT ?k1 ?k2 ?k3 ?_; (case k1 => exact News.isTup (by k_asm) (by k_mem)); (case k2 => assumption); (case k3 => assumption); k_whole))) | walk1 | (dsimp only; walk1) | (leave1; try dsimp only)))
  all_goals (refine ret _ _ _ ?_ (keep_back _ hg (fun q hq => (hh0 q hq).1) (by k_asm) (by k_asm) (by repeat' (first | exact List.forall_mem_nil _ | refine fmc (fun _ => by k_mem) ?_ | refine fmc (fun h9 => absurd (by k_mem) h9) ?_))) (grown_back hz (by k_asm)))
  all_goals (try dsimp only)
  all_goals (exact ⟨_, rfl⟩)

end
section -- K51
set_option maxHeartbeats 2000000


theorem info_ok {w : World} {p : Program} {loose : List Str} {mean : ExcName → Option Value} {mg mb : Str → Option Value} {h₀ : Heap} {A : Around} {s : Shared} {ix id cl : Addr} {es : List DictEntry} {nd kd n : Nat} {f : Str → Option Value} {vs : List Value} {ts : List (Value × Value × Value)}
    (X : (Mine.myK w.params).In h₀) (T : Top p loose mean mg mb h₀) (st : h₀.StaysIn s.heap) (hroom : Room A 12) (hx : Live h₀ s.heap ix (instObj 873 id)) (hd : Live h₀ s.heap id (dictOf es nd)) (hD : DA es f kd) (hf : f (Str.ofString "columns") = some (.ref cl)) (hcl : Live h₀ s.heap cl (W.listOf vs.toArray n)) (hts : TripsAt s.heap vs ts) (hv4 : vs.length ≤ 4) (hv1 : 1 ≤ vs.length) :
    Calls7 PySem.Challenge.rw_xm0772_01.row.prog w A 865 [.ref ix] s [] (fun v h => ∃ kx kd es n f ta cs, v = .ref kx ∧ Live h₀ h kx (instObj 753 kd) ∧ Live h₀ h kd (dictOf es n) ∧ DA es f 20 ∧ f (Str.ofString "collations") = some (.ref ta) ∧ f (Str.ofString "count") = none ∧ Live h₀ h ta (tupV cs) ∧ (cs.toArray.size : Int) = vs.length + 1 ∧ s.heap.get? kx = none ∧ s.heap.get? kd = none ∧ s.heap.get? ta = none) := by
  intro R ret
  have hcalm := hroom.calm
  revert X; k_fill; intro X
  have hh0 : ∀ q ∈ ([(ix, instObj 873 id), (id, dictOf es nd), (cl, W.listOf vs.toArray n)] : List (Addr × Obj)), s.heap.get? q.1 = some q.2 ∧ h₀.get? q.1 = none := fmc hx (fmc hd (fmc hcl (List.forall_mem_nil _)))
  k_dflt (refine' enter (binds := [(Str.ofString "self", .ref ix)]) _ X T st hh0 ?k6 ?k7 ?k8 ?k9 ?kB ?_ ?c2 ?c3 ?c4 ?c5)
  case k6 => k_is
  case k7 => k_is
  case k8 => exact hroom.now
  case k9 => first | exact BindsTo.of_eq rfl | exact binds_K (X.keeps st) rfl (by k_is) rfl rfl rfl
  case kB => exact locs rfl
  case c2 => exact rfl
  case c3 => exact rfl
  case c4 => exact rfl
  case c5 => decide
  intro g L' h₁ stg hz hg Xg Tg F N
  k_dflt (show wpAny _ (Around.deeper _ (envOf _ ⟨_, _, _, _, _⟩ _ _ _)) (execs (_ :: _) (envOf _ ⟨_, _, _, _, _⟩ _ _ _)) _ _ _)
  k_fold
  have htl := hts.1
  (repeat' (first | (k_unfold; (try dsimp only)) | (k_end; wrow_close) | (with_reducible ((with_reducible show wpAny _ _ (eval (PySem.Expr.ListComp _ _ _ _) _) _ _ _); k_here; k_dflt (first | (refine comp3 (fun a _ _ => a) (by assumption) (by with_unfolding_all rfl) (by decide) (by rfl) (by decide) (by rfl) (by rfl) (by rfl) (by rfl) (by intro m a b c; rfl) (by decide) ?_) | (refine comp3 (fun _ b _ => b) (by assumption) (by with_unfolding_all rfl) (by decide) (by rfl) (by decide) (by rfl) (by rfl) (by rfl) (by rfl) (by intro m a b c; rfl) (by decide) ?_) | (refine comp3 (fun _ _ c => c) (by assumption) (by with_unfolding_all rfl) (by decide) (by rfl) (by decide) (by rfl) (by rfl) (by rfl) (by rfl) (by intro m a b c; rfl) (by decide) ?_)); (try (revert m; intros)); (try (revert a; intros)); (try (revert b; intros)); (try (revert c; intros)))) | (with_reducible ((with_reducible show TripSrc _ _ _ _); refine hold ?_)) | walk1 | (dsimp only; walk1) | (leave1; try dsimp only)))
  unfold Hold
  (rename Fr _ _ _ _ => F1); (rename News _ _ _ _ => N1)
  refine TripSrc.intro F1 N1 (by k_mem) (hts.up (keep_back [] hg (fun q hq => (hh0 q hq).1) F1 N1 (by repeat' (first | exact List.forall_mem_nil _ | refine fmc (fun _ => by k_mem) ?_ | refine fmc (fun h9 => absurd (by k_mem) h9) ?_)))) (by ((with_reducible refine t1 (by assumption) ?_); rfl)) (fun D1 h1 tk1 F2 N2 o1 _ => ?_)
  clear F1 N1
  (repeat' (first | (k_unfold; (try dsimp only)) | (k_end; wrow_close) | (with_reducible ((with_reducible show wpAny _ _ (call (Value.type "tuple") _) _ _ _); refine hold ?_)) | walk1 | (dsimp only; walk1) | (leave1; try dsimp only)))
  unfold Hold
  (rename Fr _ _ _ _ => F1); (rename News _ _ _ _ => N1)
  refine kde_tupleOf (zs := ts.map fun t => t.2.1) F1 N1 ⟨_, (N1 (D1, _) (by k_mem)).1, rfl, _, rfl⟩ ?z1 ?e1 (fun E1 g1 F3 N3 l1 => ?_)
  case z1 => simp only [List.size_toArray, List.length_map]; ((with_reducible refine r1 (by assumption) (by assumption) ?_); rfl)
  case e1 => rfl
  clear F1 N1
  (try k_lt l1)
  (repeat' (first | (k_unfold; (try dsimp only)) | (k_end; wrow_close) | (with_reducible ((with_reducible show wpAny _ _ (eval (PySem.Expr.ListComp _ _ _ _) _) _ _ _); k_here; k_dflt (first | (refine comp3 (fun a _ _ => a) (by assumption) (by with_unfolding_all rfl) (by decide) (by rfl) (by decide) (by rfl) (by rfl) (by rfl) (by rfl) (by intro m a b c; rfl) (by decide) ?_) | (refine comp3 (fun _ b _ => b) (by assumption) (by with_unfolding_all rfl) (by decide) (by rfl) (by decide) (by rfl) (by rfl) (by rfl) (by rfl) (by intro m a b c; rfl) (by decide) ?_) | (refine comp3 (fun _ _ c => c) (by assumption) (by with_unfolding_all rfl) (by decide) (by rfl) (by decide) (by rfl) (by rfl) (by rfl) (by rfl) (by intro m a b c; rfl) (by decide) ?_)); (try (revert m; intros)); (try (revert a; intros)); (try (revert b; intros)); (try (revert c; intros)))) | (with_reducible ((with_reducible show TripSrc _ _ _ _); refine hold ?_)) | walk1 | (dsimp only; walk1) | (leave1; try dsimp only)))
  unfold Hold
  (rename Fr _ _ _ _ => F1); (rename News _ _ _ _ => N1)
  refine TripSrc.intro F1 N1 (by k_mem) (hts.up (keep_back [] hg (fun q hq => (hh0 q hq).1) F1 N1 (by repeat' (first | exact List.forall_mem_nil _ | refine fmc (fun _ => by k_mem) ?_ | refine fmc (fun h9 => absurd (by k_mem) h9) ?_)))) (by ((with_reducible refine t1 (by assumption) ?_); rfl)) (fun D2 h2 tk2 F2 N2 o2 _ => ?_)
  clear F1 N1
  (repeat' (first | (k_unfold; (try dsimp only)) | (k_end; wrow_close) | (with_reducible ((with_reducible show wpAny _ _ (call (Value.type "tuple") _) _ _ _); refine hold ?_)) | walk1 | (dsimp only; walk1) | (leave1; try dsimp only)))
  unfold Hold
  (rename Fr _ _ _ _ => F1); (rename News _ _ _ _ => N1)
  refine kde_tupleOf (zs := ts.map fun t => t.2.2) F1 N1 ⟨_, (N1 (D2, _) (by k_mem)).1, rfl, _, rfl⟩ ?z2 ?e2 (fun E2 g2 F3 N3 l2 => ?_)
  case z2 => simp only [List.size_toArray, List.length_map]; ((with_reducible refine r1 (by assumption) (by assumption) ?_); rfl)
  case e2 => rfl
  clear F1 N1
  (try k_lt l2)
  (repeat' (first | (k_unfold; (try dsimp only)) | (k_end; wrow_close) | (with_reducible ((with_reducible show wpAny _ _ (binaryOp Operator.Add (Value.ref _) (Value.ref _)) _ _ _); refine hold ?_)) | (with_reducible (k_here; (with_reducible show wpAny _ _ (newTuple _) _ _ _); kup_bare; k_dflt (refine' newT ?F ?N ?_ ?z; (case F => k_asm); (case N => k_asm); (case z => first | exact sz0 | exact sz1 | exact sz2 | exact sz3 | kmk_size)); intro _ _ _ _ l1; (try k_lt l1); (try (revert l1; intros)); (try k_sweep))) | walk1 | (dsimp only; walk1) | (leave1; try dsimp only)))
  unfold Hold
  (rename Fr _ _ _ _ => F1); (rename News _ _ _ _ => N1)
  refine kde_addT (zs := (ts.map fun t => t.2.1) ++ [.str (Str.ofString "binary") (tk2 + 1)]) F1 N1 (News.isTup N1 (by k_mem)) (News.isTup N1 (by k_mem)) ?n3 ?m3 ?z3 ?e3 (fun G3 f3 F3 N3 l3 => ?_)
  case n3 => exact fun e => by have e2 : ts.length = 0 := (by simpa using congrArg List.length e); omega
  case m3 => simp
  case z3 => simp; ((with_reducible refine r1 (by assumption) (by assumption) ?_); rfl)
  case e3 => simp
  clear F1 N1
  (try k_lt l3)
  (repeat' (first | (k_unfold; (try dsimp only)) | (k_end; wrow_close) | (with_reducible ((with_reducible show wpAny _ _ (binaryOp Operator.Add (Value.ref _) (Value.ref _)) _ _ _); refine hold ?_)) | (with_reducible (k_here; (with_reducible show wpAny _ _ (newTuple _) _ _ _); kup_bare; k_dflt (refine' newT ?F ?N ?_ ?z; (case F => k_asm); (case N => k_asm); (case z => first | exact sz0 | exact sz1 | exact sz2 | exact sz3 | kmk_size)); intro _ _ _ _ l1; (try k_lt l1); (try (revert l1; intros)); (try k_sweep))) | walk1 | (dsimp only; walk1) | (leave1; try dsimp only)))
  unfold Hold
  (rename Fr _ _ _ _ => F1); (rename News _ _ _ _ => N1)
  refine kde_addT (zs := (ts.map fun t => t.2.2) ++ [.bool false]) F1 N1 (News.isTup N1 (by k_mem)) (News.isTup N1 (by k_mem)) ?n4 ?m4 ?z4 ?e4 (fun G4 f4 F3 N3 l4 => ?_)
  case n4 => exact fun e => by have e2 : ts.length = 0 := (by simpa using congrArg List.length e); omega
  case m4 => simp
  case z4 => simp; ((with_reducible refine r1 (by assumption) (by assumption) ?_); rfl)
  case e4 => simp
  clear F1 N1
  (try k_lt l4)
  (repeat' (first | (k_unfold; (try dsimp only)) | (k_end; wrow_close) | (with_reducible ((with_reducible show wpAny _ _ (call (Value.ref 753) _) _ _ _); (refine hold ?_))) | walk1 | (dsimp only; walk1) | (leave1; try dsimp only)))
  unfold Hold
  (rename Fr _ _ _ _ => F1); (rename News _ _ _ _ => N1)
  (try k_fold)
  refine useMakeL (fI := 729) (K := Mine.myK w.params) F1 N1 X stg (by k_is) (by k_is) (by k_is) (P := fun dx h₁ v h => ∃ es n f, h.get? dx = some (dictOf es n) ∧ DA es f 20 ∧ f (Str.ofString "collations") = some (.ref G3) ∧ f (Str.ofString "count") = none) (fun x dx s₁ st₁ F₂ N₂ lo lt => keyinfo_init (z := vs.length + 1) X T st₁ (Room.make (n := 5) (Room.deeper (k := 6) hroom (by decide)) _ _) (Live.of stg N₂ (.head _)) (Live.of stg N₂ mem1) lt (Live.of stg N₂ (by k_mem)) (Live.of stg N₂ (by k_mem)) (by simp; omega) (by simp; omega) (by omega)) (fun kx kd v h₁ h' tk' hP hkd0 F₂ N₂ F₃ N₃ lo lt hL hg' => ?_)
  (refine ex3 (hP) fun es9 n9 f9 hE9 => an4 hE9 ?_; clear hE9; intro hkd hkD hkf hkc; (try clear hP))
  k_lt lo
  have N9 := news_add N₃ hkd ⟨hL, hg'⟩
  refine ret _ _ _ ?_ (keep_back [] hg (fun q hq => (hh0 q hq).1) F₃ N9 (by repeat' (first | exact List.forall_mem_nil _ | refine fmc (fun _ => by k_mem) ?_ | refine fmc (fun h9 => absurd (by k_mem) h9) ?_))) (grown_back hz F₃)
  refine ⟨kx, kd, es9, n9, f9, G3, (ts.map fun t => t.2.1) ++ [.str (Str.ofString "binary") (tk2 + 1)], rfl, Live.of stg N9 (by k_mem), Live.of stg N9 (by k_mem), hkD, hkf, hkc, Live.of stg N9 (by k_mem), ?_, fresh_hid hg N9 (o := instObj 753 kd) (a := kx) (by k_mem) (fmc (by k_ne) (fmc (by k_ne) (fmc (by k_ne) (List.forall_mem_nil _)))), fresh_hid hg N9 (o := dictOf es9 n9) (a := kd) (by k_mem) (fmc (by k_ne) (fmc (by k_ne) (fmc (by k_ne) (List.forall_mem_nil _)))), fresh_hid hg N9 (o := tupV ((ts.map fun t => t.2.1) ++ [.str (Str.ofString "binary") (tk2 + 1)])) (a := G3) (by k_mem) (fmc (by k_ne) (fmc (by k_ne) (fmc (by k_ne) (List.forall_mem_nil _))))⟩
  simp; omega

theorem info_el {prog : Program} {w : World} {A : Around} {E : Value → Shared → Prop} {hp0 : Heap} {ge0 : Array GenState} {dr0 : Drawn} {tk0 : Nat} {os0 : OsState} {f : Addr} {args : List Value} {Q : Value → Shared → Prop} {g : Heap} {L : Addr} {m : Str → Option Value} {news : List (Addr × Obj)} {h₀ : Heap} {z : Int}
    (F : Fr g L hp0 m) (N : News g L hp0 news) (c : Calls7 prog w A f args ⟨hp0, ge0, dr0, tk0, os0⟩ [] (fun v h => ∃ (kx : Addr) (kd : Addr) (es : List DictEntry) (n : Nat) (f' : Str → Option Value) (ta : Addr) (cs : List Value), v = .ref kx ∧ (Live h₀ h kx (instObj 753 kd)) ∧ (Live h₀ h kd (dictOf es n)) ∧ (DA es f' 20) ∧ (f' (Str.ofString "collations") = some (.ref ta)) ∧ (f' (Str.ofString "count") = none) ∧ (Live h₀ h ta (tupV cs)) ∧ ((cs.toArray.size : Int) = z) ∧ (hp0.get? kx = none) ∧ (hp0.get? kd = none) ∧ (hp0.get? ta = none)))
    (k : ∀ (kx : Addr) (kd : Addr) (es : List DictEntry) (n : Nat) (f' : Str → Option Value) (ta : Addr) (cs : List Value) (h' : Heap) (tk' : Nat), (Live h₀ h' kx (instObj 753 kd)) → (Live h₀ h' kd (dictOf es n)) → (DA es f' 20) → (f' (Str.ofString "collations") = some (.ref ta)) → (f' (Str.ofString "count") = none) → (Live h₀ h' ta (tupV cs)) → ((cs.toArray.size : Int) = z) → (hp0.get? kx = none) → (hp0.get? kd = none) → (hp0.get? ta = none) → Fr g L h' m → News g L h' news → Q (.ref kx) ⟨h', ge0, dr0, tk', os0⟩) : wpAny (model prog w) A (call (.ref f) args) Q E ⟨hp0, ge0, dr0, tk0, os0⟩ :=
  use7p F N c fun v h' tk' p' F' N' => by
    (refine ex7 (p') fun kx kd es n f' ta cs hE9 => an11 hE9 ?_; clear hE9; rintro rfl a0 a1 a2 a3 a4 a5 a6 a7 a8 a9; (try clear p'))
    exact k kx kd es n f' ta cs h' tk' a0 a1 a2 a3 a4 a5 a6 a7 a8 a9 F' N'

end
section -- KN
/-! `!=` of the law's values and of lists of them -/
section
variable {prog : Program} {w : World} {A : Around} {E : Value → Shared → Prop} {s : Shared}
theorem eqAt_cells {c : Cell} {v v' : Value} (h : c.Is v) (h' : c.Is v') : SeqAt.EqAt A s v v' true := by
  cases h <;> cases h'
  · exact SeqAt.EqAt.same _
  · have := SeqAt.EqAt.int_int (A := A) (s := s) ‹Int› ‹Tok› ‹Int› ‹Tok›
    rename_i n t u
    simpa using SeqAt.EqAt.int_int (A := A) (s := s) n t n u
  · rename_i x t u
    simpa using SeqAt.EqAt.str_str (A := A) (s := s) x t x u
  · intro prog w E Q hq
    exact eqBool_bytes (by simpa using hq)
theorem ne_cell_self {c : Cell} {v : Value} {Q : Value → Shared → Prop} (h : c.Is v) (hq : Q (.bool false) s) : wpAny (model prog w) A (compareOp .NotEq v v) Q E s := by
  cases h
  · exact EqNone.ne_none_none hq
  · exact PyProof.Rows.ne_int (by simpa using hq)
  · exact PyProof.Rows.ne_str (by simpa using hq)
  · exact W.ne_bytes (by simpa using hq)
theorem isList_of {h : Heap} {l : Addr} {vs : List Value} {n : Nat} (e : h.get? l = some (W.listOf vs.toArray n)) : h.IsList l vs.toArray := ⟨_, e, rfl, n, rfl⟩
theorem ne_lists {l b : Addr} {vs vs' : List Value} {n n' : Nat} {Q : Value → Shared → Prop} (e : Nat → Bool) (r : Bool) (hl : s.heap.get? l = some (W.listOf vs.toArray n)) (hb : s.heap.get? b = some (W.listOf vs'.toArray n')) (hz : vs.length = vs'.length) (hu : A.units < cLine)
    (he : ∀ (j : Nat) (v v' : Value), vs[j]? = some v → vs'[j]? = some v' → SeqAt.EqAt A.in1 s v v' (e j)) (hr : (!(List.range vs.length).all e) = r) (hq : Q (.bool r) s) : wpAny (model prog w) A (compareOp .NotEq (.ref l) (.ref b)) Q E s := by
  subst hr
  refine SeqAt.RcNeAt.lists (e := e) (isList_of hl) (isList_of hb) (by simpa using hz) hu (fun j h1 h2 => he j _ _ (by simp) (by simp)) prog w E Q ?_
  simpa using hq
theorem all_true {n : Nat} {e : Nat → Bool} (h : ∀ j, e j = true) : (!(List.range n).all e) = false := by simp [h]
theorem ne_same {l b : Addr} {vs : List Value} {n n' : Nat} {Q : Value → Shared → Prop} (hl : s.heap.get? l = some (W.listOf vs.toArray n)) (hb : s.heap.get? b = some (W.listOf vs.toArray n')) (hu : A.units < cLine) (hq : Q (.bool false) s) :
    wpAny (model prog w) A (compareOp .NotEq (.ref l) (.ref b)) Q E s :=
  ne_lists (fun _ => true) false hl hb rfl hu (fun j v v' h h' => by rw [h] at h'; cases h'; exact SeqAt.EqAt.same _) (all_true fun _ => rfl) hq
theorem ne_cells {l b : Addr} {cs : List Cell} {vs vs' : List Value} {n n' : Nat} {Q : Value → Shared → Prop} (h : Cells cs vs) (h' : Cells cs vs') (hl : s.heap.get? l = some (W.listOf vs.toArray n)) (hb : s.heap.get? b = some (W.listOf vs'.toArray n')) (hu : A.units < cLine) (hq : Q (.bool false) s) :
    wpAny (model prog w) A (compareOp .NotEq (.ref l) (.ref b)) Q E s :=
  ne_lists (fun _ => true) false hl hb (h.length.symm.trans h'.length) hu (fun j v v' e e' => by
    (refine ex1 (h.at j v e) fun c hE9 => an2 hE9 ?_; clear hE9; intro e1 i1)
    (refine ex1 (h'.at j v' e') fun c' hE9 => an2 hE9 ?_; clear hE9; intro e2 i2)
    rw [e1] at e2
    cases e2
    exact eqAt_cells i1 i2) (all_true fun _ => rfl) hq
/-- the key of a row: what the index's places tell, and the rowid -/
def keyVals (key : Option Int) (ps : List Int) (rv : Value) (vs : List Value) : List Value := (ps.map fun p => rowVal key p rv vs) ++ [rv]
theorem keyVals_len {key : Option Int} {ps : List Int} {rv : Value} {vs : List Value} : (keyVals key ps rv vs).length = ps.length + 1 := by simp [keyVals]
theorem ne_keys {l b : Addr} {key : Option Int} {ps : List Int} {x y : Int} {t u : Tok} {vs : List Value} {n n' : Nat} {Q : Value → Shared → Prop} (hxy : x ≠ y) (hl : s.heap.get? l = some (W.listOf (keyVals key ps (.int x t) vs).toArray n)) (hb : s.heap.get? b = some (W.listOf (keyVals key ps (.int y u) vs).toArray n')) (hu : A.units < cLine) (hq : Q (.bool true) s) :
    wpAny (model prog w) A (compareOp .NotEq (.ref l) (.ref b)) Q E s := by
  have hne : (x == y) = false := by simpa using hxy
  refine ne_lists (fun j => match ps[j]? with | some p => !decide (p = -1 ∨ key = some p) | none => false) true hl hb (by rw [keyVals_len, keyVals_len]) hu (fun j v v' e e' => ?_) ?_ hq
  · unfold keyVals at e e'
    by_cases hj : j < ps.length
    · rw [List.getElem?_append_left (by simpa using hj), List.getElem?_map, List.getElem?_eq_getElem hj] at e e'
      simp only [Option.map_some, Option.some.injEq] at e e'
      subst e e'
      simp only [List.getElem?_eq_getElem hj]
      unfold rowVal
      by_cases hc : ps[j] = -1 ∨ key = some ps[j]
      · simp only [hc, if_true, decide_true, Bool.not_true]
        rw [← hne]
        exact SeqAt.EqAt.int_int x t y u
      · simp only [hc, if_false, decide_false, Bool.not_false]
        exact SeqAt.EqAt.same _
    · have hj' : ps.length ≤ j := Nat.le_of_not_lt hj
      rw [List.getElem?_append_right (by simpa using hj')] at e e'
      have h1 := (List.getElem?_eq_some_iff.mp e).1
      simp only [List.length_singleton, List.length_map] at h1
      simp only [List.length_map, show j - ps.length = 0 by omega, List.getElem?_cons_zero, Option.some.injEq] at e e'
      subst e e'
      simp only [List.getElem?_eq_none hj']
      rw [← hne]
      exact SeqAt.EqAt.int_int x t y u
  · rw [keyVals_len]
    simp only [List.range_succ, List.all_append, List.all_cons, List.all_nil, Bool.and_true, List.getElem?_eq_none (Nat.le_refl _), Bool.and_false, Bool.not_false]
end
end
section -- K53
set_option maxHeartbeats 2000000

local macro_rules | `(tactic| walk_at "call type:range") => `(tactic| (k_here; (rename Fr _ _ _ _ => cF'); (rename News _ _ _ _ => cN'); k_dflt (first | (refine range1_rows cF' cN' ?_) | (refine range2_rows cF' cN' ?_)); clear cF' cN'; intro h' tk' t1' u1' v1' r' F' N' k'; clear k'))
local macro_rules | `(tactic| walk_at "CompSrc") => `(tactic| (refine hold ?_))
local macro_rules | `(tactic| walk_at "CompEnd") => `(tactic| (refine hold ?_))
local macro_rules | `(tactic| walk_at "CompSrcT") => `(tactic| (refine hold ?_))
local macro_rules | `(tactic| k_all) => `(tactic| assumption)
/-- the due row's dict, by what it tells of each place -/
local macro_rules | `(tactic| walk_at "compareOp NotEq ref ref") => `(tactic| (refine hold ?_))
structure DueV (kvs : List (Int × Value)) (f : Int → Value) : Prop where
  tells : ∀ p : Int, -1 ≤ p → p < 4 → valueAt kvs p = some (f p)
/-! small sums, apart from the walk's many facts -/
theorem B1 {n : Nat} (h : n ≤ 4) : n < 2 ^ 60 := Nat.lt_of_le_of_lt h (by decide)
theorem B2 {j m : Int} (h : j < m) (h4 : m ≤ 4) : j < 4 := Int.lt_of_lt_of_le h h4
theorem small9 {m : Int} (h1 : 1 ≤ m) (h4 : m ≤ 4) : Builtin.Range.small (-1) m 1 = true := small_one (by decide) (by decide) (by ((with_reducible refine i5 (by assumption) ?_); rfl)) (by ((with_reducible refine i3 (by assumption) ?_); rfl))
theorem size9 {m : Int} (h1 : 1 ≤ m) : Builtin.Range.rangeSize (-1) m 1 = (((m + 1).toNat : Nat) : Int) := by
  have e : m = -1 + (((m + 1).toNat : Nat) : Int) := by (with_reducible exact s75 (by assumption))
  conv => lhs; rw [e]
  rw [rangeSize_nat]
  omega
theorem line9 {m : Int} (h4 : m ≤ 4) : (m + 1).toNat ≤ sizeLine := by rw [sizeLine_eq]; omega
theorem B6 {d k p : Nat} (e : d = k) (e2 : k = p + 1) (h : p ≤ 3) : d ≤ 10 := by omega
theorem B7 {k p : Nat} (e2 : k = p + 1) (h : p ≤ 3) : k < 2 ^ 60 := by omega
theorem B9 {a b : Nat} (e : a = b) (h : b ≤ 3) : (a : Int) + 1 ≤ 16384 := by omega
theorem B10 {a b k p : Nat} (h9 : b = p) (hk : k = p + 1) (e : a = b) : ((k : Int) == (a : Int) + 1) = true := beq_iff_eq.mpr (by omega)
theorem A1 {d m : Int} (h : 0 ≤ d) (e : 1 + d = m) : 1 ≤ m := by omega
theorem A2 {d m : Int} (h : d < 4) (e : 1 + d = m) : m ≤ 4 := by omega
theorem A3 {v m : Int} (h : v < m + 1) (h4 : m ≤ 4) : v ≤ 1000 := by omega
theorem A4 {p : Int} (h : 0 ≤ p) : 0 ≤ 1 + p := by omega
theorem A5 {p : Int} (h : p < 3) : 1 + p ≤ 1000 := by omega
theorem A6 {d : Int} (h : 0 ≤ d) : -1 ≤ d - 1 := by (with_reducible exact s36 (by assumption))
theorem A7 {d m : Int} (h : d < m + 1) : d - 1 < m := by omega
theorem A8 {n : Nat} {p : Int} (e : n = (1 + p).toNat) (h : p < 3) : n ≤ 3 := by (with_reducible exact s104 (by assumption) (by assumption))
theorem A9 {n : Nat} {p : Int} (e : n = (1 + p).toNat) (h : 0 ≤ p) : 1 ≤ n := by (with_reducible exact s115 (by assumption) (by assumption))
theorem A10 {n : Nat} {v m : Int} (e : n = v.toNat) (h : v < m + 1) (h4 : m ≤ 4) : n ≤ 4 := by (with_reducible exact s103 (by assumption) (by assumption) (by assumption))
/-- the places drawn -/
def PlV (many : Int) (ys : List Value) (ps : List Int) : Prop := ys.length = ps.length ∧ ∀ (i : Nat) (v : Value), ys[i]? = some v → ∃ (p : Int) (t : Tok), v = .int p t ∧ ps[i]? = some p ∧ -1 ≤ p ∧ p < many
theorem PlV.nil {many : Int} : PlV many [] [] := ⟨rfl, fun i v h => by simp at h⟩
theorem PlV.snoc {many p : Int} {t : Tok} {ys : List Value} {ps : List Int} (h : PlV many ys ps) (h1 : -1 ≤ p) (h2 : p < many) : PlV many (ys ++ [.int p t]) (ps ++ [p]) := ⟨by simp [h.1], fun i v hv => by
  rcases snoc_at hv with ⟨hi, e⟩ | ⟨rfl, rfl⟩
  · (refine ex2 (h.2 i v e) fun q u hE9 => an4 hE9 ?_; clear hE9; intro e1 e2 e3 e4)
    exact ⟨q, u, e1, by rw [List.getElem?_append_left (by rw [← h.1]; exact hi)]; exact e2, e3, e4⟩
  · exact ⟨p, t, rfl, by rw [List.getElem?_append_right (by rw [h.1]; exact Nat.le_refl _), h.1, Nat.sub_self]; rfl, h1, h2⟩⟩
/-- the index's columns -/
def IdxV (TL : List (Addr × Obj)) (ys : List Value) (ps : List Int) : Prop := (∀ q ∈ TL, ∀ r, q.2.data ≠ .cell r) ∧ ∀ (i : Nat) (v : Value), ys[i]? = some v → ∃ (t : Addr) (p : Int) (tk u : Tok), v = .ref t ∧ ps[i]? = some p ∧ (t, tup3 (.int p tk) (.str (Str.ofString "binary") u) (.bool false)) ∈ TL
theorem IdxV.nil {ps : List Int} : IdxV [] [] ps := ⟨List.forall_mem_nil _, fun i v h => by simp at h⟩
theorem IdxV.snoc {TL : List (Addr × Obj)} {ys : List Value} {ps : List Int} {t : Addr} {p : Int} {tk u : Tok} (h : IdxV TL ys ps) (hp : ps[ys.length]? = some p) : IdxV ((t, tup3 (.int p tk) (.str (Str.ofString "binary") u) (.bool false)) :: TL) (ys ++ [.ref t]) ps := ⟨fmc (fun r e => by simp at e) h.1, fun i v hv => by
  rcases snoc_at hv with ⟨_, e⟩ | ⟨rfl, rfl⟩
  · (refine ex4 (h.2 i v e) fun a q c d hE9 => an3 hE9 ?_; clear hE9; intro e1 e2 e3)
    exact ⟨a, q, c, d, e1, e2, .tail _ e3⟩
  · exact ⟨t, p, tk, u, rfl, hp, .head _⟩⟩
theorem PlV.bound {many p : Int} {ys : List Value} {ps : List Int} (h : PlV many ys ps) {i : Nat} (e : ps[i]? = some p) : -1 ≤ p ∧ p < many := by
  have hi : i < ys.length := by rw [h.1]; exact (List.getElem?_eq_some_iff.mp e).1
  (refine ex2 (h.2 i _ (List.getElem?_eq_getElem hi)) fun q u hE9 => an4 hE9 ?_; clear hE9; intro _ e2 e3 e4)
  rw [e] at e2
  cases e2
  exact ⟨e3, e4⟩
theorem IdxV.places {g h : Heap} {L : Addr} {TL led : List (Addr × Obj)} {ys ys2 : List Value} {ps : List Int} {many : Int} (x : IdxV TL ys ps) (hp : PlV many ys2 ps) (hl : ys.length = ys2.length) (h4 : many ≤ 4) (N : News g L h led) (sub : ∀ q ∈ TL, q ∈ led) : PlacesAt h ys ps :=
  ⟨hl.trans hp.1, fun i v hv => by
    (refine ex4 (x.2 i v hv) fun t p tk u hE9 => an3 hE9 ?_; clear hE9; intro e1 e2 e3)
    have := hp.bound e2
    exact ⟨t, p, tk, _, _, e1, e2, (N _ (sub _ e3)).1, this.1, by omega⟩⟩
theorem trips_of {h : Heap} : ∀ {vs : List Value}, (∀ v ∈ vs, ∃ t a b c, v = .ref t ∧ h.get? t = some (tup3 a b c)) → ∃ ts, TripsAt h vs ts
  | [], _ => ⟨[], rfl, fun i v e => by simp at e⟩
  | v :: vs, x => by
    (refine ex4 (x v (.head _)) fun t a b c hE9 => an2 hE9 ?_; clear hE9; intro e ht)
    obtain ⟨ts, h1, h2⟩ := trips_of (vs := vs) fun y hy => x y (.tail _ hy)
    refine ⟨(a, b, c) :: ts, by simp [h1], fun i y hy => ?_⟩
    cases i with
    | zero =>
      simp only [List.getElem?_cons_zero, Option.some.injEq] at hy
      subst hy
      exact ⟨t, a, b, c, e, rfl, ht⟩
    | succ i =>
      simp only [List.getElem?_cons_succ] at hy ⊢
      exact h2 i y hy
theorem IdxV.trips {g h : Heap} {L : Addr} {TL led : List (Addr × Obj)} {ys : List Value} {ps : List Int} (x : IdxV TL ys ps) (N : News g L h led) (sub : ∀ q ∈ TL, q ∈ led) : ∃ ts, TripsAt h ys ts :=
  trips_of fun v hv => by
    refine hide fun G9 k9 => ?_
    obtain ⟨i, hi⟩ := List.getElem?_of_mem hv
    refine k9 ?_
    clear k9 G9
    (refine ex4 (x.2 i v hi) fun t p tk u hE9 => an3 hE9 ?_; clear hE9; intro e1 e2 e3)
    exact ⟨t, _, _, _, e1, (N _ (sub _ e3)).1⟩
theorem off_free {g h : Heap} {L a : Addr} {news : List (Addr × Obj)} (N : News g L h news) (e : h.get? a = none) : LCg.Off1 a news := off1_of fun p hp q => by
  have z := (N p hp).1
  rw [show p.1 = a from q, e] at z; cases z
/-- a cell lies apart from what is no cell -/
theorem off_cell {g h : Heap} {L a : Addr} {o : Obj} {r : Option Value} {led rest : List (Addr × Obj)} (N : News g L h led) (hm : (a, o) ∈ led) (ho : o.data = .cell r) (hs : ∀ q ∈ rest, q ∈ led ∧ ∀ r, q.2.data ≠ .cell r) : ∀ q ∈ rest, @Ne Nat q.1 a := fun q hq e => by
  have z := (N q (hs q hq).1).1
  rw [show q.1 = a from e, (N _ hm).1] at z
  cases z
  exact (hs q hq).2 _ ho
theorem Cells.vals {key : Option Int} {rz : Int} {rt : Tok} {ys : List Value} {cs : List Cell} (hcs : Cells cs ys) (hg : ∀ c ∈ cs, c.Good) (hr : (Cell.int rz).Good) (p : Int) : ∃ c : Cell, c.Good ∧ c.Is (rowVal key p (.int rz rt) ys) := by
  unfold rowVal
  split
  · exact ⟨_, hr, .int _ _⟩
  · rw [List.getD_eq_getElem?_getD]
    cases e : ys[p.toNat]? with
    | none => exact ⟨.nil, .nil, .nil⟩
    | some v =>
      (refine ex1 (hcs.at _ v e) fun c hE9 => an2 hE9 ?_; clear hE9; intro h1 h2)
      exact ⟨c, hg c (List.mem_of_getElem? h1), h2⟩
theorem keyCells {key : Option Int} {rz : Int} {rt : Tok} {ys : List Value} {cs : List Cell} (hcs : Cells cs ys) (hg : ∀ c ∈ cs, c.Good) (hr : (Cell.int rz).Good) : ∀ ps : List Int, ∃ ds, Cells ds (keyVals key ps (.int rz rt) ys) ∧ (∀ c ∈ ds, c.Good)
  | [] => ⟨[.int rz], .cons (.int _ _) .nil, fun c hc => by rw [List.mem_singleton.mp hc]; exact hr⟩
  | p :: ps => by
    obtain ⟨ds, h1, h2⟩ := keyCells hcs hg hr ps
    refine hide fun G9 k9 => ?_
    obtain ⟨c, h3, h4⟩ := Cells.vals (key := key) (rt := rt) hcs hg hr p
    refine k9 ?_
    clear k9 G9
    exact ⟨c :: ds, .cons h4 h1, fmc h3 h2⟩

theorem right_tail {w : World} {p : Program} {loose : List Str} {mean : ExcName → Option Value} {mg mb : Str → Option Value} {h₀ : Heap} {A : Around} {s : Shared} {g : Heap} {L' : Addr} {h : Heap} {tk : Nat} {vk kv : Value} {key : Option Int} {many rz : Int} {mt rt : Tok} {tx td lv pl il ix idx sa : Addr} {et es : List DictEntry} {nt n : Nat} {ys ys2 ys3 : List Value} {ps : List Int} {cs : List Cell} {f : Str → Option Value} {m0 : Str → Option Value}
    {c1 o1 o2 o3 o4 c6 so : Obj} {TL : List (Addr × Obj)} {r0 : Option Value} {Q : Flow → Shared → Prop} {E : Value → Shared → Prop}
    (X : (Mine.myK w.params).In h₀) (T : Top p loose mean mg mb h₀) (hroom : Room A 26) (hgd : A.guards = some []) (stg : h₀.StaysIn g) (Xg : (Mine.myK w.params).In g) (Tg : Top p loose mean mg mb g)
    (F : Fr g L' h (fun y => if y = Str.ofString "index" then some (.ref ix) else if y = Str.ofString "places" then some (.ref pl) else if y = Str.ofString "key" then some vk else m0 y))
    (N : News g L' h ((ix, instObj 873 idx) :: (idx, dictOf es n) :: (il, LCg.lst ys3) :: (pl, LCg.lst ys2) :: (lv, LCg.lst ys) :: (tx, instObj 915 td) :: (td, dictOf et nt) :: (L' + 1 + 1 + 1 + 1 + 1 + 1, c1) :: (L' + 1 + 1 + 1 + 1 + 1, o2) :: (L' + 1 + 1 + 1 + 1, o3) :: (L' + 1 + 1 + 1, o4) :: (L' + 1 + 1, o1) :: (L' + 1, c6) :: (sa, so) :: TL))
    (hc1 : c1.data = .cell r0) (hcm : o1.data = .cell (some (.int many mt))) (hc2 : o2.data = .cell (some (.ref lv))) (hc3 : o3.data = .cell (some (.int rz rt))) (hc4 : o4.data = .cell (some (.ref tx))) (hso : so.data ≠ .cell none ∧ ∀ r, so.data ≠ .cell r)
    (hm1 : 1 ≤ many) (hm4 : many ≤ 4) (hkv : KeyV vk key) (hkey : ∀ j, key = some j → 0 ≤ j ∧ j < many) (hkr : getL (Str.ofString "rowid_place") et = some (some kv)) (hkvr : KeyV kv key)
    (hr6 : rz ≠ 6) (hrg : (Cell.int rz).Good) (hcs : Cells cs ys) (hgood : ∀ c ∈ cs, c.Good) (hyl : ys.length ≤ 4) (hps : PlV many ys2 ps) (hy2 : ys2.length ≤ 3) (hy20 : 1 ≤ ys2.length) (hy3 : ys3.length = ys2.length) (hTL : IdxV TL ys3 ps) (hD : DA es f 20) (hf : f (Str.ofString "columns") = some (.ref il)) (hfi : f (Str.ofString "info") = none)
    (ret : ∀ h' tk' m' news', Fr g L' h' m' → News g L' h' news' → Q (.ret (.bool true)) { s with heap := h', toks := tk' }) :
    wpR (model PySem.Challenge.rw_xm0772_01.row.prog w) (A.deeper (envX (Str.ofString "_law_right") (scp (stm 97)) L' 1097 (.ref 1096) (cellsFrom (L' + 1) (scp (stm 97)).names []))) (execs ((bdy (stm 97)).drop 6) (envX (Str.ofString "_law_right") (scp (stm 97)) L' 1097 (.ref 1096) (cellsFrom (L' + 1) (scp (stm 97)).names []))) Q E { s with heap := h, toks := tk } := by
  have hcalm := hroom.calm
  have hlen : ys.length < 2 ^ 60 := B1 hyl
  revert X; k_fill; intro X
  revert Xg; intro Xg
  k_dflt (show wpR _ (Around.deeper _ (envX _ ⟨_, _, _, _, _⟩ _ _ _ _)) (execs (_ :: _) (envX _ ⟨_, _, _, _, _⟩ _ _ _ _)) _ _ _)
  have ne6 := off_cell (rest := (ix, instObj 873 idx) :: (idx, dictOf es n) :: (il, LCg.lst ys3) :: (pl, LCg.lst ys2) :: (lv, LCg.lst ys) :: (tx, instObj 915 td) :: (td, dictOf et nt) :: (sa, so) :: TL) N (a := L' + 1 + 1 + 1 + 1 + 1 + 1) (by k_mem) hc1
    (fmc ⟨by k_mem, fun r e => by cases e⟩ (fmc ⟨by k_mem, fun r e => by cases e⟩ (fmc ⟨by k_mem, fun r e => by cases e⟩ (fmc ⟨by k_mem, fun r e => by cases e⟩ (fmc ⟨by k_mem, fun r e => by cases e⟩ (fmc ⟨by k_mem, fun r e => by cases e⟩ (fmc ⟨by k_mem, fun r e => by cases e⟩ (fmc ⟨by k_mem, hso.2⟩ (fun q hq => ⟨(by repeat (first | exact hq | refine .tail _ ?_)), hTL.1 q hq⟩)))))))))
  have off6 := off1_of ne6
  have neT : ∀ q ∈ TL, @Ne Nat q.1 (L' + 1 + 1 + 1 + 1 + 1 + 1) := fun q hq => ne6 q (by repeat (first | exact hq | refine .tail _ ?_))
  clear ne6
  k_dflt (refine execsR_plain ?_)
  (repeat' (first | (k_unfold; (try dsimp only)) | (k_end; wrow_close) | (with_reducible ((with_reducible show wpAny _ _ (call (Value.ref 1092) _) _ _ _); (refine hold ?_))) | walk1 | (dsimp only; walk1) | (leave1; try dsimp only)))
  unfold Hold
  (rename Fr _ _ _ _ => F2); (rename News _ _ _ _ => N2)
  refine due_el F2 N2 (due_ok X T (stays_now stg F2) (Room.deeper hroom (by decide)) (Live.of stg N2 (by k_mem)) hyl hkv (fun j hj => ⟨(hkey j hj).1, B2 (hkey j hj).2 hm4⟩)) (fun D oD kvs h3 tk3 hD1 hD2 hval hfree F3 N3 => ?_)
  have offD := off_free N2 hfree
  have N4 := news_add N3 hD1.1 (free_add F2 hfree)
  replace hval : DueV kvs (fun p => rowVal key p (.int rz rt) ys) := ⟨hval⟩
  clear N3 F2 N2 hfree hD1
  k_steps
  rename_i h4 oR F5 N5 hcr
  let led2 : List (Addr × Obj) := ((D, oD) :: (ix, instObj 873 idx) :: (idx, dictOf es n) :: (il, LCg.lst ys3) :: (pl, LCg.lst ys2) :: (lv, LCg.lst ys) :: (tx, instObj 915 td) :: (td, dictOf et nt) :: (L' + 1 + 1 + 1 + 1 + 1 + 1, oR) :: (L' + 1 + 1 + 1 + 1 + 1, o2) :: (L' + 1 + 1 + 1 + 1, o3) :: (L' + 1 + 1 + 1, o4) :: (L' + 1 + 1, o1) :: (L' + 1, c6) :: (sa, so) :: TL)
  have N5' : News g L' h4 led2 := N5
  clear N5
  k_dflt (refine execsR_plain ?_)
  k_steps
  unfold Hold
  rename_i h5 tk5 t1 t2 t3 R5 F6 N6
  refine LCt.CompSrcT.range (n := (many + 1).toNat) hcalm F6 N6 R5 (small9 hm1 hm4) (size9 hm1) (line9 hm4) ?_
  intro g5
  refine compAllT _ (fun i yz news => yz = [] ∧ news = led2) ⟨rfl, rfl⟩ ?turnT ?finT
  case turnT =>
    clear F6 N6 R5
    intro i yz news v I oI C oC D' m₂ h6 tk6 hi hJ9p13 hJ9p14 hC hx F7 N7 off ne
    refine hide fun G9 k9 => ?_
    obtain ⟨rfl, rfl⟩ := hJ9p13
    obtain ⟨t0, rfl⟩ := hJ9p14
    refine k9 ?_
    clear k9 G9
    refine hide fun G9 k9 => ?_
    obtain ⟨cc, cg, ci⟩ := Cells.vals (key := key) (rt := rt) hcs hgood hrg (-1 + (i : Int))
    refine k9 ?_
    clear k9 G9
    (repeat' (first | (k_unfold; (try dsimp only)) | (k_end; wrow_close) | (with_reducible (k_here; (with_reducible show wpAny _ _ (compareOp .NotEq (rowVal _ _ _ _) (rowVal _ _ _ _)) _ _ _); (refine ne_cell_self (by assumption) ?_))) | (with_reducible (k_here; (with_reducible show wpAny _ _ (call (Value.ref 28) _) _ _ _); (rename Fr _ _ _ _ => cF'); (rename News _ _ _ _ => cN'); k_dflt (refine' use7v cF' cN' (row_value_ok ?X ?T (stays_now ?st cF') ?room ?h0 ?h1 ?h2 ?h3 ?h4 ?h5 ?h6 ?h7) ?_); (case st => assumption); (case X => assumption); (case T => assumption); (case room => exact Room.deeper (by assumption) (by decide)); (case h0 => exact Live.of (by assumption) (by assumption) (by k_mem)); (case h1 => exact Live.of (by assumption) (by assumption) (by k_mem)); (case h2 => exact Live.of (by assumption) (by assumption) (by k_mem)); (case h3 => assumption); (case h4 => assumption); (case h5 => assumption); (case h6 => omega); (case h7 => (with_reducible exact s90 (by assumption) (by assumption))); (intro _ _ _ _); (try clear cF' cN'))) | (with_reducible (k_here; (with_reducible show wpAny _ _ (subscriptTail _ _ (Value.ref _) (Value.int _ _)) _ _ _); (rename DueV _ _ => hv'); k_dflt (refine' kda_item (knd := PySem.intKind _ _) ?a ?b ?c (intKind_is _ _ _ _) ?v ?_; (case a => k_asm); (case b => k_mem); (case c => assumption); (case v => exact hv'.tells _ (by omega) (by (with_reducible exact s89 (by assumption) (by assumption))))); clear hv')) | walk1 | (dsimp only; walk1) | (leave1; try dsimp only)))
    unfold Hold
    (rename Fr _ _ _ _ => F8); (rename News _ _ _ _ => N8)
    exact LCg.CompEnd.intro F8 N8 led2 (fun q hq => hq) off trivial ⟨trivial, rfl⟩
  case finT =>
    clear F6 N6 R5
    intro yz news hJ9p2
    refine hide fun G9 k9 => ?_
    obtain ⟨rfl, rfl⟩ := hJ9p2
    refine k9 ?_
    clear k9 G9
    (repeat' (first | (k_unfold; (try dsimp only)) | (k_end; wrow_close) | (with_reducible (k_here; (with_reducible show wpAny _ _ (newList _) _ _ _); k_dflt (refine' newL ?k1 ?k2 ?_ ?z; (case k1 => k_asm); (case k2 => k_asm); (case z => first | exact sz0 | exact sz1 | exact sz2 | exact sz3 | size_fits); k_whole); intro _ _ _ _ l1; (try k_lt l1); (try (revert l1; intros)); (try k_sweep))) | (with_reducible ((with_reducible show LCg.FinE _ _ _ _ _ _ _); (unfold LCg.FinE); intro _ _ _ _ N' _; (try simp only [List.nil_append, List.cons_append] at N'); (try (revert N'; intros)); (try dsimp only))) | walk1 | (dsimp only; walk1) | (leave1; try dsimp only)))
    unfold Hold
    rename_i e1 h7 tk7 e1of e2 h8 F8 N8 e2lt
    refine ne_same (vs := []) (N8 (e1, _) (by k_mem)).1 (N8 (e2, _) (by k_mem)).1 (Room.unit (Room.deeper (k := 1) hroom (by decide))) ?_
    have N9 : News g L' _ led2 := fun q hq => N8 q (.tail _ (.tail _ hq))
    clear N8 e1of e2lt
    k_steps
    k_dflt (refine execsR_plain ?_)
    (repeat' (first | (k_unfold; (try dsimp only)) | (k_end; wrow_close) | (with_reducible ((with_reducible show wpAny _ _ (call (Value.ref 33) _) _ _ _); (refine hold ?_))) | walk1 | (dsimp only; walk1) | (leave1; try dsimp only)))
    unfold Hold
    refine key_el F8 N9 (index_key_ok X T (stays_now stg F8) (Room.deeper hroom (by decide)) (Live.of stg N9 (by k_mem)) (Live.of stg N9 (by k_mem)) (Live.of stg N9 (by k_mem)) hlen hkr hkvr (Live.of stg N9 (by k_mem)) (Live.of stg N9 (by k_mem)) (Live.of stg N9 (by k_mem)) (hD.at hf) (hy3 ▸ hy2) (hTL.places hps hy3 hm4 N9 (fun q hq => (by repeat (first | exact hq | refine .tail _ ?_))))) (fun tD h9 tk9 hT1 hTfree F9 N10 => ?_)
    have offT := off_free N9 hTfree
    have N11 : News g L' h9 ((tD, LCg.lst (keyVals key ps (.int rz rt) ys)) :: led2) := news_add N10 hT1.1 (free_add F8 hTfree)
    refine hide fun G9 k9 => ?_
    obtain ⟨ds, hds, hdg⟩ := keyCells (key := key) (rt := rt) hcs hgood hrg ps
    refine k9 ?_
    clear k9 G9
    have hkl : (keyVals key ps (.int rz rt) ys).length = ps.length + 1 := keyVals_len
    have hpl : ps.length ≤ 3 := hps.1 ▸ hy2
    have hdl := hds.length
    clear N10 N9 F8 hT1 hTfree
    k_steps
    refine execsR_cons (ifR (orR (wpR_of ?_)))
    k_steps
    unfold Hold
    rename_i h10 F10 N12
    refine LCg.CompSrc.ledger (ax := pl) (its := ys2.toArray) (k := ys2.length) hcalm F10 N12 (by k_mem) (by rw [List.size_toArray]; exact Nat.le_trans hy2 (by rw [sizeLine_eq]; decide)) ?_
    intro g6
    refine compMap _ (fun i y => ∃ q, ps[i]? = some q ∧ y = rowVal key q (.int rz rt) ys) (.inr ⟨_, by k_mem, rfl, _, rfl⟩) ?turn4 ?fin4
    case turn4 =>
      clear F10 N12
      intro i yz v I oI C oC D' m₂ h11 tk11 hi hy hv hC hx F11 N13 off ne
      (refine ex2 (hps.2 i v (by simpa using hv)) fun p pt hE9 => an4 hE9 ?_; clear hE9; rintro rfl hp hp1 hp2)
      (repeat' (first | (k_unfold; (try dsimp only)) | (k_end; wrow_close) | (with_reducible (k_here; (with_reducible show wpAny _ _ (subscriptTail _ _ (Value.ref _) (Value.int _ _)) _ _ _); (rename DueV _ _ => hv'); k_dflt (refine' kda_item (knd := PySem.intKind _ _) ?a ?b ?c (intKind_is _ _ _ _) ?v ?_; (case a => k_asm); (case b => k_mem); (case c => assumption); (case v => exact hv'.tells _ (by (with_reducible assumption)) (by (with_reducible exact s113 (by assumption) (by assumption))))); clear hv')) | walk1 | (dsimp only; walk1) | (leave1; try dsimp only)))
      exact KeptC.intro (by assumption) (by assumption) ⟨p, hp, rfl⟩
    case fin4 =>
      clear F10 N12
      intro yz hyz hf4
      obtain rfl : yz = ps.map fun p => rowVal key p (.int rz rt) ys := by
        refine List.ext_getElem? fun i => ?_
        rw [List.getElem?_map]
        rcases Nat.lt_or_ge i yz.length with hi | hi
        · (refine ex1 (hf4 i _ (List.getElem?_eq_getElem hi)) fun q hE9 => an2 hE9 ?_; clear hE9; intro h1 h2)
          rw [List.getElem?_eq_getElem hi, h1, h2]; rfl
        · rw [List.getElem?_eq_none hi, List.getElem?_eq_none (by rw [← hps.1]; simpa [hyz] using hi)]; rfl
      (repeat' (first | (k_unfold; (try dsimp only)) | (k_end; wrow_close) | (with_reducible (k_here; (with_reducible show wpAny _ _ (newList _) _ _ _); k_dflt (refine' newL ?k1 ?k2 ?_ ?z; (case k1 => k_asm); (case k2 => k_asm); (case z => first | exact sz0 | exact sz1 | exact sz2 | exact sz3 | size_fits); k_whole); intro _ _ _ _ l1; (try k_lt l1); (try (revert l1; intros)); (try k_sweep))) | (with_reducible ((with_reducible show LCg.FinE _ _ _ _ _ _ _); (unfold LCg.FinE); intro _ _ _ _ N' _; (try simp only [List.nil_append, List.cons_append] at N'); (try (revert N'; intros)); (try dsimp only))) | walk1 | (dsimp only; walk1) | (leave1; try dsimp only)))
      unfold Hold
      rename_i b1 h11 tk11 b1of b2 h12 F11 N13 b2lt h13 F12 N14
      refine ne_same (vs := keyVals key ps (.int rz rt) ys) (n' := 0) (N14 (tD, _) (by k_mem)).1 (N14 _ (.head _)).1 (Room.unit (Room.deeper (k := 1) hroom (by decide))) ?_
      have N15 : News g L' h13 ((tD, LCg.lst (keyVals key ps (.int rz rt) ys)) :: led2) := fun q hq => N14 q (.tail _ (.tail _ (.tail _ hq)))
      clear N13 N14 F11 b1of b2lt hf4 hyz
      k_steps
      refine orR (compareR ?_)
      k_dflt (refine callR ?_)
      k_steps
      k_dflt (refine callWithR_K (K := Mine.myK w.params) (by k_is) (argsR_cons ?_))
      k_dflt (refine callR ?_)
      k_steps
      k_dflt (refine callWithR_K (K := Mine.myK w.params) (by k_is) (argsR_cons (wpR_of ?_)))
      k_steps
      refine argsR_nil ?_
      (try dsimp only [List.nil_append, List.cons_append])
      refine ⟨Xg.keeps F12.keep, use7R F12 N15 (encode_ok X T (stays_now stg F12) (hroom.deeper (by decide)) hgd (Live.of stg N15 (by k_mem)) hds hdg (B6 hdl hkl hpl)) ?_⟩
      clear F12 N15
      intro v5 h14 tk14 hJ9p3 F13 N16
      refine hide fun G9 k9 => ?_
      obtain ⟨t5, rfl⟩ := hJ9p3
      refine k9 ?_
      clear k9 G9
      refine argsR_nil ?_
      (try dsimp only [List.nil_append, List.cons_append])
      refine ⟨Xg.keeps F13.keep, wpR_of (decode_el F13 N16 (decode_ok X T (stays_now stg F13) (hroom.deeper (by decide)) hdg (B6 hdl hkl hpl)) ?_)⟩
      rintro lz vz nz h15 tk15 hz1 hz2 hz3 F14 N17
      have N18 := news_add N17 hz1.1 (free_add F13 hz3)
      clear N16 N17 F13
      (try dsimp only)
      k_steps
      unfold Hold
      refine ne_cells hz2 hds (N18 (lz, _) (by k_mem)).1 (N18 (tD, _) (by k_mem)).1 (Room.unit (Room.deeper (k := 1) hroom (by decide))) ?_
      have N19 : News g L' h15 ((tD, LCg.lst (keyVals key ps (.int rz rt) ys)) :: led2) := fun q hq => N18 q (.tail _ hq)
      clear N18 hz1 hz2 hz3
      k_steps
      refine orR_nil ?_
      simp only [Bool.false_eq_true, if_false]
      refine execsR_nil ?_
      (try dsimp only)
      k_dflt (refine execsR_plain ?_)
      (repeat' (first | (k_unfold; (try dsimp only)) | (k_end; wrow_close) | (with_reducible ((with_reducible show wpAny _ _ (call (Value.ref 33) _) _ _ _); (refine hold ?_))) | walk1 | (dsimp only; walk1) | (leave1; try dsimp only)))
      unfold Hold
      refine key_el F14 N19 (index_key_ok X T (stays_now stg F14) (Room.deeper hroom (by decide)) (Live.of stg N19 (by k_mem)) (Live.of stg N19 (by k_mem)) (Live.of stg N19 (by k_mem)) hlen hkr hkvr (Live.of stg N19 (by k_mem)) (Live.of stg N19 (by k_mem)) (Live.of stg N19 (by k_mem)) (hD.at hf) (hy3 ▸ hy2) (hTL.places hps hy3 hm4 N19 (fun q hq => (by repeat (first | exact hq | refine .tail _ ?_))))) (fun t6 h16 tk16 hS1 hSfree F15 N20 => ?_)
      have N21 := news_add N20 hS1.1 (free_add F14 hSfree)
      clear N19 N20 F14
      k_steps
      unfold Hold
      refine ne_keys (x := 6) (y := rz) (key := key) (ps := ps) (vs := ys) (Ne.symm hr6) (N21 (t6, _) (by k_mem)).1 (N21 (tD, _) (by k_mem)).1 (Room.unit (Room.deeper (k := 1) hroom (by decide))) ?_
      have N22 : News g L' h16 ((tD, LCg.lst (keyVals key ps (.int rz rt) ys)) :: led2) := fun q hq => N21 q (.tail _ hq)
      clear N21 hS1 hSfree
      have hk60 : (keyVals key ps (.int rz rt) ys).length < 2 ^ 60 := B7 hkl hpl
      (repeat' (first | (k_unfold; (try dsimp only)) | (k_end; wrow_close) | (with_reducible ((with_reducible show wpAny _ _ (call (Value.ref 865) _) _ _ _); (refine hold ?_))) | (with_reducible (k_here; (with_reducible show wpAny _ _ (call (Value.builtin "len") [Value.ref _]) _ _ _); k_dflt (refine' len_own ?k1 ?k2 ?k3 ?_; (case k1 => k_asm); (case k2 => k_mem); (case k3 => assumption); k_whole))) | walk1 | (dsimp only; walk1) | (leave1; try dsimp only)))
      unfold Hold
      (rename Fr _ _ _ _ => F16); (rename News _ _ _ _ => N23)
      obtain ⟨ts, hts⟩ := hTL.trips N23 (fun q hq => (by repeat (first | exact hq | refine .tail _ ?_)))
      refine info_el F16 N23 (info_ok X T (stays_now stg F16) (Room.deeper hroom (by decide)) (Live.of stg N23 (by k_mem)) (Live.of stg N23 (by k_mem)) hD hf (Live.of stg N23 (by k_mem)) hts (Nat.le_succ_of_le (hy3 ▸ hy2)) (hy3 ▸ hy20)) (fun kx kd ek nk fk kt ck h17 tk17 kh1 kh2 kh3 kh4 kh5 kh6 kh7 kh8 kh9 kh10 F17 N24 => ?_)
      have N25 := news_add (news_add (news_add N24 kh6.1 (free_add F16 kh10)) kh2.1 (free_add F16 kh9)) kh1.1 (free_add F16 kh8)
      clear N23 N24 F16
      (repeat' (first | (k_unfold; (try dsimp only)) | (k_end; wrow_close) | (with_reducible ((with_reducible show wpAny _ _ (call (Value.ref 736) _) _ _ _); (refine hold ?_))) | walk1 | (dsimp only; walk1) | (leave1; try dsimp only)))
      unfold Hold
      (try dsimp only [List.append_nil])
      refine use7t F17 N25 (count_ok X T (stays_now stg F17) (Room.deeper hroom (by decide)) (Live.of stg N25 (by k_mem)) (Live.of stg N25 (by k_mem)) kh3 kh4 (Live.of stg N25 (by k_mem)) kh7 (B9 hy3 hy2)) (fun h18 tk18 F18 N26 t9 => ?_)
      k_steps
      have e9 : (((keyVals key ps (.int rz rt) ys).length : Int) == (ys3.length : Int) + 1) = true := B10 hps.1 hkl hy3
      rw [e9]
      exact ret h18 tk18 _ _ F18 N26

end
section -- K52
set_option maxHeartbeats 2000000

local macro_rules | `(tactic| walk_at "CompSrc") => `(tactic| (refine hold ?_))
local macro_rules | `(tactic| walk_at "CompEnd") => `(tactic| (refine hold ?_))
theorem compRange {prog : Program} {w : World} {A : Around} {h₀ : Heap} {L : Addr} {m : Str → Option Value} {env : Env} {elt : PySem.Expr} {x : Str} {scope : Scope} {cl : List (Str × Addr)} {Fin : Shared → List Value → List (Addr × Obj) → Prop} {r : Addr} {d : Int} {t u v : Tok} {news : List (Addr × Obj)} {s₁ : Shared}
    (hh : A.handled = none) (F : Fr h₀ L s₁.heap m) (N : News h₀ L s₁.heap news) (hr : IsRange s₁.heap r 0 d 1 t u v) (h0 : 0 ≤ d) (h1 : d ≤ 1000)
    (h : ∀ g, LCg.CompRest prog w A h₀ L m env elt x scope cl { s₁ with heap := g } (fun _ => True) (fun i v => ∃ t, v = .int (0 + (i : Int)) t) (Fin { s₁ with heap := g }) d.toNat 0 [] news) :
    LCg.CompSrc prog w A h₀ L m env elt x scope cl Fin (.ref r) s₁ :=
  LCg.CompSrc.range hh F N hr (small_one (by decide) (by decide) (by ((with_reducible refine i5 (by assumption) ?_); rfl)) (by ((with_reducible refine i3 (by assumption) ?_); rfl))) (by
    have hd : d = 0 + ((d.toNat : Nat) : Int) := by (with_reducible exact s5 (by assumption))
    rw [hd, rangeSize_nat]; (with_reducible exact s53)) (by rw [sizeLine_eq]; ((with_reducible refine m5 (by assumption) ?_); rfl)) h

theorem right_ok {w : World} {p : Program} {loose : List Str} {mean : ExcName → Option Value} {mg mb : Str → Option Value} {h₀ : Heap} {A : Around} {s : Shared} {sa : Addr} {a b : Int} {ta tb : Tok} {n : Nat}
    (X : (Mine.myK w.params).In h₀) (T : Top p loose mean mg mb h₀) (st : h₀.StaysIn s.heap) (hroom : Room A 26) (hgd : A.guards = some []) (hl : Live h₀ s.heap sa (srcO a b ta tb n)) (hsv : SrcV a b) :
    Calls7R PySem.Challenge.rw_xm0772_01.row.prog w A 1097 [.ref sa] s [sa] (fun v h => v = .bool true) := by
  intro R ret
  have hcalm := hroom.calm
  revert X; k_fill; intro X
  have hh0 : ∀ q ∈ ([(sa, srcO a b ta tb n)] : List (Addr × Obj)), s.heap.get? q.1 = some q.2 ∧ h₀.get? q.1 = none := fmc hl (List.forall_mem_nil _)
  k_dflt (refine' enterRC (binds := [(Str.ofString "source", .ref sa)]) _ X T st hh0 ?k6 ?k7 ?k8 ?k9 ?kB ?kD ?_ ?c2 ?c3 ?c4)
  case k6 => k_is
  case k7 => k_is
  case k8 => exact hroom.now
  case k9 => first | exact BindsTo.of_eq rfl | exact binds_K (X.keeps st) rfl (by k_is) rfl rfl rfl
  case kB => exact rfl
  case kD => decide +kernel
  case c2 => exact rfl
  case c3 => exact rfl
  case c4 => exact rfl
  intro g L' h₁ tk₁ cells' stg hz hg Xg Tg F N Y lL
  (try k_lt lL)
  k_cells Y
  rename_i c1 c2 c3 c4 c5 c6 dc1 dc2 dc3 dc4 dc5 dc6
  (try simp only [List.cons_append, List.nil_append] at N)
  (try dsimp only)
  k_dflt (show wpR _ (Around.deeper _ (envX _ ⟨_, _, _, _, _⟩ _ _ _ _)) (execs (_ :: _) (envX _ ⟨_, _, _, _, _⟩ _ _ _ _)) _ _ _)
  skip
  k_dflt (refine execsR_plain ?_)
  (repeat' (first | (k_unfold; (try dsimp only)) | (k_end; wrow_close) | (with_reducible ((with_reducible show wpAny _ _ (binaryOp Operator.Add (Value.int _ _) (Value.int _ _)) _ _ _); (with_reducible refine addI ?_))) | (with_reducible (k_here; (with_reducible show wpAny _ _ (call (Value.ref 1066) _) _ _ _); (rename Fr _ _ _ _ => cF'); (rename News _ _ _ _ => cN'); k_dflt (refine' useS cF' cN' ?U (take_ok ?X ?T (stays_now ?st cF') ?room ?h0 ?h1 ?h2 ?h3) ?_); (case st => assumption); (case X => assumption); (case T => assumption); (case room => exact Room.deeper (by assumption) (by decide)); (case h0 => exact Live.of (by assumption) (by assumption) (by k_mem)); (case h1 => assumption); (case h2 => decide); (case h3 => decide); (case U => k_updF); (intro _ _ _ _ _ _ _ _ p' _ _ N'); (try dsimp only at N'); (try (revert N'; intros)); (obtain ⟨_, _, e', _, _⟩ := p'); subst e'; (try clear cF' cN'))) | walk1 | (dsimp only; walk1) | (leave1; try dsimp only)))
  rename_i h1a tk1 a1 b1 ta1 tb1 n1 sv1 d1 t1 hd1 hd2 h1b o1 F1 N1 hc1
  generalize hmany : (1 : Int) + d1 = many at hc1
  have hm1 : 1 ≤ many := A1 hd1 hmany
  have hm4 : many ≤ 4 := A2 hd2 hmany
  clear hmany
  k_dflt (refine execsR_plain ?_)
  (repeat' (first | (k_unfold; (try dsimp only)) | (k_end; wrow_close) | (with_reducible ((with_reducible show wpAny _ _ (binaryOp Operator.Sub (Value.int _ _) (Value.int _ _)) _ _ _); (with_reducible refine subI ?_))) | (with_reducible (k_here; (with_reducible show wpAny _ _ (call (Value.ref 1073) _) _ _ _); (rename Fr _ _ _ _ => cF'); (rename News _ _ _ _ => cN'); k_dflt (refine' useS cF' cN' ?U (one_ok ?X ?T (stays_now ?st cF') ?room ?h0 ?h1 ?h2 ?h3 ?h4 ?h5) ?_); (case st => assumption); (case X => assumption); (case T => assumption); (case room => exact Room.deeper (by assumption) (by decide)); (case h0 => exact Live.of (by assumption) (by assumption) (by k_mem)); (case h1 => assumption); (case h2 => exact Live.of (by assumption) (by assumption) (by k_mem)); (case h3 => first | assumption | k_ne); (case h4 => (simp only [List.length_cons, List.length_nil]; decide)); (case h5 => (simp only [List.length_cons, List.length_nil]; decide)); (case U => k_updF); (intro _ _ _ _ _ _ _ _ _ _ _ N'); (try dsimp only at N'); (try (revert N'; intros)); skip; (try clear cF' cN'))) | (with_reducible (k_here; (with_reducible show wpAny _ _ (newList _) _ _ _); k_dflt (refine' newL ?k1 ?k2 ?_ ?z; (case k1 => k_asm); (case k2 => k_asm); (case z => first | exact sz0 | exact sz1 | exact sz2 | exact sz3 | size_fits); k_whole); intro _ _ _ _ l1; (try k_lt l1); (try (revert l1; intros)); (try k_sweep))) | walk1 | (dsimp only; walk1) | (leave1; try dsimp only)))
  k_dflt (refine execsR_plain ?_)
  (repeat' (first | (k_unfold; (try dsimp only)) | (k_end; wrow_close) | (with_reducible ((with_reducible show wpAny _ _ (call (Value.ref 1080) _) _ _ _); (refine hold ?_))) | walk1 | (dsimp only; walk1) | (leave1; try dsimp only)))
  unfold Hold
  rename_i l2 h2a l2lt vk h2b tk2 a2 b2 ta2 tb2 n2 pk sv2 h2c F2 N2
  refine hide fun G9 k9 => ?_
  obtain ⟨key, hkv, hkey⟩ : ∃ key, KeyV vk key ∧ ∀ j, key = some j → 0 ≤ j ∧ j < many := by
    simp only [List.mem_cons, List.not_mem_nil, or_false] at pk
    rcases pk with rfl | rfl | rfl
    · exact ⟨none, .none, fun j e => by cases e⟩
    · exact ⟨some 0, .int _ _, fun j e => by cases e; omega⟩
    · exact ⟨some (many - 1), .int _ _, fun j e => by cases e; omega⟩
  refine k9 ?_
  clear k9 G9
  clear pk
  refine table_el F2 N2 (table_ok X T (stays_now stg F2) (Room.deeper hroom (by decide)) hm1 hm4 hkv hkey) (fun tx td et nt kv h3 tk3 htx htd hkr hkvr ftx ftd F3 N3 => ?_)
  have otx := off_free N2 ftx
  have otd := off_free N2 ftd
  have N4 := news_add (news_add N3 htd.1 (free_add F2 ftd)) htx.1 (free_add F2 ftx)
  have nxd := neCls N4 (a := tx) (b := td) (o := instObj 915 td) (o' := dictOf et nt) (by k_mem) (by k_mem) (by show _ ≠ _; simp)
  clear N3 F2 N2 htx htd ftx ftd
  (repeat' (first | (k_unfold; (try dsimp only)) | (k_end; wrow_close) | (with_reducible ((with_reducible show wpAny _ _ (binaryOp Operator.Sub (Value.int _ _) (Value.int _ _)) _ _ _); (with_reducible refine subI ?_))) | (with_reducible ((with_reducible show wpAny _ _ (binaryOp Operator.Pow (Value.int _ _) (Value.int _ _)) _ _ _); k_here; (first | (with_reducible refine' pow_to (a := 2) (b := 56) 72057594037927936 ?z1 ?z2 ?z3 ?z4 ?_) | (with_reducible refine' pow_to (a := 2) (b := 63) 9223372036854775808 ?z1 ?z2 ?z3 ?z4 ?_) | (with_reducible refine' pow_to (a := 2) (b := 64) 18446744073709551616 ?z1 ?z2 ?z3 ?z4 ?_) | (with_reducible refine' pow_to (a := 10) (b := 18) 1000000000000000000 ?z1 ?z2 ?z3 ?z4 ?_) | (with_reducible refine' pow_to (a := 256) (b := 0) 1 ?z1 ?z2 ?z3 ?z4 ?_) | (with_reducible refine' pow_to (a := 256) (b := 1) 256 ?z1 ?z2 ?z3 ?z4 ?_) | (with_reducible refine' pow_to (a := 256) (b := 2) 65536 ?z1 ?z2 ?z3 ?z4 ?_) | (with_reducible refine' pow_to (a := 256) (b := 3) 16777216 ?z1 ?z2 ?z3 ?z4 ?_) | (with_reducible refine' pow_to (a := 256) (b := 4) 4294967296 ?z1 ?z2 ?z3 ?z4 ?_) | (with_reducible refine' pow_to (a := 256) (b := 6) 281474976710656 ?z1 ?z2 ?z3 ?z4 ?_) | (with_reducible refine' pow_to (a := 256) (b := 8) 18446744073709551616 ?z1 ?z2 ?z3 ?z4 ?_)); (case z1 => decide); (case z2 => decide); (case z3 => decide); (case z4 => decide +kernel))) | (with_reducible ((with_reducible show wpAny _ _ (unaryOp UnaryOp.USub (Value.int _ _)) _ _ _); (with_reducible refine negI ?_))) | (with_reducible (k_here; (with_reducible show wpAny _ _ (call (Value.ref 1073) _) _ _ _); (rename Fr _ _ _ _ => cF'); (rename News _ _ _ _ => cN'); k_dflt (refine' useS cF' cN' ?U (one_ok ?X ?T (stays_now ?st cF') ?room ?h0 ?h1 ?h2 ?h3 ?h4 ?h5) ?_); (case st => assumption); (case X => assumption); (case T => assumption); (case room => exact Room.deeper (by assumption) (by decide)); (case h0 => exact Live.of (by assumption) (by assumption) (by k_mem)); (case h1 => assumption); (case h2 => exact Live.of (by assumption) (by assumption) (by k_mem)); (case h3 => first | assumption | k_ne); (case h4 => (simp only [List.length_cons, List.length_nil]; decide)); (case h5 => (simp only [List.length_cons, List.length_nil]; decide)); (case U => k_updF); (intro _ _ _ _ _ _ _ _ _ _ _ N'); (try dsimp only at N'); (try (revert N'; intros)); skip; (try clear cF' cN'))) | (with_reducible (k_here; (with_reducible show wpAny _ _ (assign (Expr.Tuple _ _ _) _ (Value.ref _)) _ _ _); k_dflt (refine' unpackN_ ?F ?N ?T ?k1 ?k2 ?k3 ?_; (case F => k_asm); (case N => k_asm); (case T => (refine News.isTup (by k_asm) (by k_mem))); (case k1 => assumption); (case k2 => exact rfl); (case k3 => exact rfl)); intro _ _ _; (try k_sweep))) | (with_reducible (k_here; (with_reducible show wpAny _ _ (newTuple _) _ _ _); kup_bare; k_dflt (refine' newT ?F ?N ?_ ?z; (case F => k_asm); (case N => k_asm); (case z => first | exact sz0 | exact sz1 | exact sz2 | exact sz3 | kmk_size)); intro _ _ _ _ l1; (try k_lt l1); (try (revert l1; intros)); (try k_sweep))) | (with_reducible (k_here; (with_reducible show wpAny _ _ (newList _) _ _ _); k_dflt (refine' newL ?k1 ?k2 ?_ ?z; (case k1 => k_asm); (case k2 => k_asm); (case z => first | exact sz0 | exact sz1 | exact sz2 | exact sz3 | size_fits); k_whole); intro _ _ _ _ l1; (try k_lt l1); (try (revert l1; intros)); (try k_sweep))) | walk1 | (dsimp only; walk1) | (leave1; try dsimp only)))
  rename_i l3 h3a l3lt vr h3b tk4 a3 b3 ta3 tb3 n3 pr sv3 D3 h3c D3lt h3d h3e o4 hc4 h3f o3 F3 N3 hc3
  refine hide fun G9 k9 => ?_
  obtain ⟨rz, rt, rfl, hr6, hrg⟩ : ∃ rz rt, vr = .int rz rt ∧ rz ≠ 6 ∧ Cell.Good (.int rz) := by
    simp only [List.mem_cons, List.not_mem_nil, or_false] at pr
    rcases pr with rfl | rfl | rfl | rfl | rfl | rfl
    · exact ⟨_, _, rfl, by decide, .int (.inl ⟨by decide, by decide⟩)⟩
    · exact ⟨_, _, rfl, by decide, .int (.inl ⟨by decide, by decide⟩)⟩
    · exact ⟨_, _, rfl, by decide, .int (.inl ⟨by decide, by decide⟩)⟩
    · exact ⟨_, _, rfl, by decide, .int (.inr (.inl (by decide)))⟩
    · exact ⟨_, _, rfl, by decide, .int (.inr (.inr (by decide)))⟩
    · exact ⟨_, _, rfl, by decide, .int (.inl ⟨by decide, by decide⟩)⟩
  refine k9 ?_
  clear k9 G9
  clear pr
  k_dflt (refine execsR_plain ?_)
  (repeat' (first | (k_unfold; (try dsimp only)) | (k_end; wrow_close) | (with_reducible ((with_reducible show wpAny _ _ (binaryOp Operator.Add (Value.int _ _) (Value.int _ _)) _ _ _); (with_reducible refine addI ?_))) | (with_reducible (k_here; (with_reducible show wpAny _ _ (call (Value.ref 1066) _) _ _ _); (rename Fr _ _ _ _ => cF'); (rename News _ _ _ _ => cN'); k_dflt (refine' useS cF' cN' ?U (take_ok ?X ?T (stays_now ?st cF') ?room ?h0 ?h1 ?h2 ?h3) ?_); (case st => assumption); (case X => assumption); (case T => assumption); (case room => exact Room.deeper (by assumption) (by decide)); (case h0 => exact Live.of (by assumption) (by assumption) (by k_mem)); (case h1 => assumption); (case h2 => (with_reducible exact s21 (by assumption))); (case h3 => (with_reducible exact s98 (by assumption))); (case U => k_updF); (intro _ _ _ _ _ _ _ _ p' _ _ N'); (try dsimp only at N'); (try (revert N'; intros)); (obtain ⟨_, _, e', _, _⟩ := p'); subst e'; (try clear cF' cN'))) | (with_reducible ((with_reducible show wpAny _ _ (call (Value.type "range") _) _ _ _); k_here; (rename Fr _ _ _ _ => cF'); (rename News _ _ _ _ => cN'); k_dflt (first | (refine range1_rows cF' cN' ?_) | (refine range2_rows cF' cN' ?_)); clear cF' cN'; intro _ _ _ _ _ _ _ _ k'; clear k')) | walk1 | (dsimp only; walk1) | (leave1; try dsimp only)))
  unfold Hold
  rename_i h4a tk5 a4 b4 ta4 tb4 n4 sv4 vn vnt hvn1 hvn2 h4b tk6 r1 r2 r3 R4 F4 N4
  have N5 : News g L' _ [(tx, instObj 915 td), (td, dictOf et nt), (L' + 1 + 1 + 1 + 1 + 1 + 1, c1), (L' + 1 + 1 + 1 + 1 + 1, c2), (L' + 1 + 1 + 1 + 1, o3), (L' + 1 + 1 + 1, o4), (L' + 1 + 1, o1), (L' + 1, c6), (sa, srcO a4 b4 ta4 tb4 n4)] := fun q hq => N4 q ((fmc (by k_mem) (fmc (by k_mem) (fmc (by k_mem) (fmc (by k_mem) (fmc (by k_mem) (fmc (by k_mem) (fmc (by k_mem) (fmc (by k_mem) (fmc (by k_mem) (List.forall_mem_nil _)))))))))) q hq)
  clear N4
  refine compRange hcalm F4 N5 R4 hvn1 (A3 hvn2 hm4) ?_
  intro g'
  refine compAll _ (fun i ys news => ∃ (cs : List Cell) (a b : Int) (ta tb : Tok) (n : Nat), SrcV a b ∧ Cells cs ys ∧ (∀ c ∈ cs, c.Good) ∧ news = [(tx, instObj 915 td), (td, dictOf et nt), (L' + 1 + 1 + 1 + 1 + 1 + 1, c1), (L' + 1 + 1 + 1 + 1 + 1, c2), (L' + 1 + 1 + 1 + 1, o3), (L' + 1 + 1 + 1, o4), (L' + 1 + 1, o1), (L' + 1, c6), (sa, srcO a b ta tb n)]) ⟨[], a4, b4, ta4, tb4, n4, sv4, .nil, List.forall_mem_nil _, rfl⟩ ?turn1 ?fin1
  case turn1 =>
    clear F4 N5 R4
    intro i ys news v I oI C oC D m₂ h tk hi hy hJ9 hv hC hx F5 N5 off ne
    k_fold
    (refine ex6 (hJ9) fun cs a b ta tb n hE9 => an4 hE9 ?_; clear hE9; rintro hsv hcs hgood rfl; (try clear hJ9))
    (repeat' (first | (k_unfold; (try dsimp only)) | (k_end; wrow_close) | (with_reducible (k_here; (with_reducible show wpAny _ _ (call (Value.ref 1087) _) _ _ _); (rename Fr _ _ _ _ => cF'); (rename News _ _ _ _ => cN'); k_dflt (refine' useS cF' cN' ?U (lvalue_ok ?X ?T (stays_now ?st cF') ?room ?h0 ?h1) ?_); (case st => assumption); (case X => assumption); (case T => assumption); (case room => exact Room.deeper (by assumption) (by decide)); (case h0 => exact Live.of (by assumption) (by assumption) (by k_mem)); (case h1 => assumption); (case U => k_updF); (intro _ _ _ _ _ _ _ _ _ _ _ N'); (try dsimp only at N'); (try (revert N'; intros)); skip; (try clear cF' cN'))) | walk1 | (dsimp only; walk1) | (leave1; try dsimp only)))
    unfold Hold
    rename_i vv h6 tk7 a6 b6 ta6 tb6 n6 p6 sv6 F6 N6
    (refine ex1 (p6) fun c hE9 => an2 hE9 ?_; clear hE9; intro hcg hci; (try clear p6))
    refine LCg.CompEnd.intro F6 N6 [(tx, instObj 915 td), (td, dictOf et nt), (L' + 1 + 1 + 1 + 1 + 1 + 1, c1), (L' + 1 + 1 + 1 + 1 + 1, c2), (L' + 1 + 1 + 1 + 1, o3), (L' + 1 + 1 + 1, o4), (L' + 1 + 1, o1), (L' + 1, c6), (sa, srcO a6 b6 ta6 tb6 n6)] (fun q hq => hq) off trivial ⟨cs ++ [c], a6, b6, ta6, tb6, n6, sv6, hcs.snoc hci, ?_, rfl⟩
    intro d hd
    rcases List.mem_append.mp hd with hd | hd
    · exact hgood d hd
    · rw [List.mem_singleton.mp hd]; exact hcg
  case fin1 =>
    clear F4 N5 R4
    intro ys news hy hJ9p3
    refine hide fun G9 k9 => ?_
    obtain ⟨cs, a5, b5, ta5, tb5, n5, sv5, hcs, hgood, rfl⟩ := hJ9p3
    refine k9 ?_
    clear k9 G9
    (repeat' (first | (k_unfold; (try dsimp only)) | (k_end; wrow_close) | (with_reducible ((with_reducible show LCg.FinE _ _ _ _ _ _ _); (unfold LCg.FinE); intro _ _ _ _ N' _; (try simp only [List.nil_append, List.cons_append] at N'); (try (revert N'; intros)); (try dsimp only))) | walk1 | (dsimp only; walk1) | (leave1; try dsimp only)))
    rename_i lv h6 tk7 lvo h7 o2 F6 N6 hc2
    k_dflt (refine execsR_plain ?_)
    (repeat' (first | (k_unfold; (try dsimp only)) | (k_end; wrow_close) | (with_reducible ((with_reducible show wpAny _ _ (binaryOp Operator.Add (Value.int _ _) (Value.int _ _)) _ _ _); (with_reducible refine addI ?_))) | (with_reducible (k_here; (with_reducible show wpAny _ _ (call (Value.ref 1066) _) _ _ _); (rename Fr _ _ _ _ => cF'); (rename News _ _ _ _ => cN'); k_dflt (refine' useS cF' cN' ?U (take_ok ?X ?T (stays_now ?st cF') ?room ?h0 ?h1 ?h2 ?h3) ?_); (case st => assumption); (case X => assumption); (case T => assumption); (case room => exact Room.deeper (by assumption) (by decide)); (case h0 => exact Live.of (by assumption) (by assumption) (by k_mem)); (case h1 => assumption); (case h2 => decide); (case h3 => decide); (case U => k_updF); (intro _ _ _ _ _ _ _ _ p' _ _ N'); (try dsimp only at N'); (try (revert N'; intros)); (obtain ⟨_, _, e', _, _⟩ := p'); subst e'; (try clear cF' cN'))) | (with_reducible ((with_reducible show wpAny _ _ (call (Value.type "range") _) _ _ _); k_here; (rename Fr _ _ _ _ => cF'); (rename News _ _ _ _ => cN'); k_dflt (first | (refine range1_rows cF' cN' ?_) | (refine range2_rows cF' cN' ?_)); clear cF' cN'; intro _ _ _ _ _ _ _ _ k'; clear k')) | walk1 | (dsimp only; walk1) | (leave1; try dsimp only)))
    unfold Hold
    rename_i h8a tk8 a7 b7 ta7 tb7 n7 sv7 pn pnt hpn1 hpn2 h8b tk9 r4 r5 r6 R8 F8 N8
    refine compRange hcalm F8 N8 R8 (A4 hpn1) (A5 hpn2) ?_
    intro g9
    refine compAll _ (fun i ys2 news => ∃ (ps : List Int) (a b : Int) (ta tb : Tok) (n : Nat), SrcV a b ∧ PlV many ys2 ps ∧ news = [(lv, LCg.lst ys), (tx, instObj 915 td), (td, dictOf et nt), (L' + 1 + 1 + 1 + 1 + 1 + 1, c1), (L' + 1 + 1 + 1 + 1 + 1, o2), (L' + 1 + 1 + 1 + 1, o3), (L' + 1 + 1 + 1, o4), (L' + 1 + 1, o1), (L' + 1, c6), (sa, srcO a b ta tb n)]) ⟨[], a7, b7, ta7, tb7, n7, sv7, .nil, rfl⟩ ?turn2 ?fin2
    case turn2 =>
      clear F8 N8 R8
      intro i ys2 news v I oI C oC D m₂ h tk hi hy hJ9 hv hC hx F9 N9 off ne
      k_fold
      (refine ex6 (hJ9) fun ps a b ta tb n hE9 => an3 hE9 ?_; clear hE9; rintro hsv hps rfl; (try clear hJ9))
      (repeat' (first | (k_unfold; (try dsimp only)) | (k_end; wrow_close) | (with_reducible ((with_reducible show wpAny _ _ (binaryOp Operator.Sub (Value.int _ _) (Value.int _ _)) _ _ _); (with_reducible refine subI ?_))) | (with_reducible ((with_reducible show wpAny _ _ (binaryOp Operator.Add (Value.int _ _) (Value.int _ _)) _ _ _); (with_reducible refine addI ?_))) | (k_here; (with_reducible show wpAny _ _ (call (Value.ref 1066) _) _ _ _); (rename Fr _ _ _ _ => cF'); (rename News _ _ _ _ => cN'); k_dflt (refine' useS cF' cN' ?U (take_ok ?X ?T (stays_now ?st cF') ?room ?h0 ?h1 ?h2 ?h3) ?_); (case st => assumption); (case X => assumption); (case T => assumption); (case room => exact Room.deeper (by assumption) (by decide)); (case h0 => exact Live.of (by assumption) (by assumption) (by k_mem)); (case h1 => assumption); (case h2 => (with_reducible exact s21 (by assumption))); (case h3 => (with_reducible exact s98 (by assumption))); (case U => k_updF); (intro _ _ _ _ _ _ _ _ p' _ _ N'); (try dsimp only at N'); (try (revert N'; intros)); (obtain ⟨_, _, e', _, _⟩ := p'); subst e'; (try clear cF' cN')) | walk1 | (dsimp only; walk1) | (leave1; try dsimp only)))
      unfold Hold
      rename_i h6 tk7 a6 b6 ta6 tb6 n6 sv6 F6 N6 d6 t6 hd61 hd62
      exact LCg.CompEnd.intro F6 N6 [(lv, LCg.lst ys), (tx, instObj 915 td), (td, dictOf et nt), (L' + 1 + 1 + 1 + 1 + 1 + 1, c1), (L' + 1 + 1 + 1 + 1 + 1, o2), (L' + 1 + 1 + 1 + 1, o3), (L' + 1 + 1 + 1, o4), (L' + 1 + 1, o1), (L' + 1, c6), (sa, srcO a6 b6 ta6 tb6 n6)] (fun q hq => hq) off trivial ⟨ps ++ [d6 - 1], a6, b6, ta6, tb6, n6, sv6, hps.snoc (A6 hd61) (A7 hd62), rfl⟩
    case fin2 =>
      clear F8 N8 R8
      intro ys2 news hy2 hJ9p3
      refine hide fun G9 k9 => ?_
      obtain ⟨ps, a5, b5, ta5, tb5, n5, sv5, hps, rfl⟩ := hJ9p3
      refine k9 ?_
      clear k9 G9
      (repeat' (first | (k_unfold; (try dsimp only)) | (k_end; wrow_close) | (with_reducible ((with_reducible show LCg.FinA _ _ _ _ _ _ _ _); (unfold LCg.FinA); intro _ _ _ _ N' _; (try simp only [List.nil_append, List.cons_append] at N'); (try (revert N'; intros)); (try dsimp only))) | walk1 | (dsimp only; walk1) | (leave1; try dsimp only)))
      rename_i pl h8 tk8' F8 N8 pofs
      k_dflt (refine execsR_plain ?_)
      k_steps
      unfold Hold
      have hy2l : ys2.length ≤ 3 := A8 hy2 hpn2
      (rename Fr _ _ _ _ => F9); (rename News _ _ _ _ => N9)
      refine LCg.CompSrc.ledger (ax := pl) (its := ys2.toArray) (k := ys2.length) hcalm F9 N9 (by k_mem) (by rw [List.size_toArray]; exact Nat.le_trans hy2l (by rw [sizeLine_eq]; decide)) ?_
      intro g3
      refine compAll _ (fun i ys3 news => ∃ TL, news = ((pl, LCg.lst ys2) :: (lv, LCg.lst ys) :: (tx, instObj 915 td) :: (td, dictOf et nt) :: (L' + 1 + 1 + 1 + 1 + 1 + 1, c1) :: (L' + 1 + 1 + 1 + 1 + 1, o2) :: (L' + 1 + 1 + 1 + 1, o3) :: (L' + 1 + 1 + 1, o4) :: (L' + 1 + 1, o1) :: (L' + 1, c6) :: (sa, srcO a5 b5 ta5 tb5 n5) :: TL) ∧ IdxV TL ys3 ps) ⟨[], rfl, IdxV.nil⟩ ?turn3 ?fin3
      case turn3 =>
        clear F9 N9
        intro i ys3 news v I oI C oC D m₂ h tk hi hy hJ9 hv hC hx F9 N9 off ne
        k_fold
        (refine ex1 (hJ9) fun TL hE9 => an2 hE9 ?_; clear hE9; rintro rfl hTL; (try clear hJ9))
        obtain ⟨p, pt, rfl, hp, hp1, hp2⟩ := hps.2 i v (by simpa using hv)
        (repeat' (first | (k_unfold; (try dsimp only)) | (k_end; wrow_close) | (with_reducible (k_here; (with_reducible show wpAny _ _ (newTuple _) _ _ _); kup_bare; k_dflt (refine' newT ?F ?N ?_ ?z; (case F => k_asm); (case N => k_asm); (case z => first | exact sz0 | exact sz1 | exact sz2 | exact sz3 | kmk_size)); intro _ _ _ _ l1; (try k_lt l1); (try (revert l1; intros)); (try k_sweep))) | walk1 | (dsimp only; walk1) | (leave1; try dsimp only)))
        unfold Hold
        (rename Fr _ _ _ _ => F2); (rename News _ _ _ _ => N2)
        rename_i tD h6' lt6
        refine LCg.CompEnd.intro F2 N2 ((pl, LCg.lst ys2) :: (lv, LCg.lst ys) :: (tx, instObj 915 td) :: (td, dictOf et nt) :: (L' + 1 + 1 + 1 + 1 + 1 + 1, c1) :: (L' + 1 + 1 + 1 + 1 + 1, o2) :: (L' + 1 + 1 + 1 + 1, o3) :: (L' + 1 + 1 + 1, o4) :: (L' + 1 + 1, o1) :: (L' + 1, c6) :: (sa, srcO a5 b5 ta5 tb5 n5) :: (tD, tup3 (.int p pt) (.str (Str.ofString "binary") tk) (.bool false)) :: TL)
          (fmc (by k_mem) (fmc (by k_mem) (fmc (by k_mem) (fmc (by k_mem) (fmc (by k_mem) (fmc (by k_mem) (fmc (by k_mem) (fmc (by k_mem) (fmc (by k_mem) (fmc (by k_mem) (fmc (by k_mem) (fmc (by k_mem) (fmc (by k_mem) (fmc (by k_mem) (fmc (by k_mem) (fun q hq => (by repeat (first | exact hq | refine .tail _ ?_)))))))))))))))))) ⟨off.1, off.2.1, off.2.2.1, off.2.2.2.1, off.2.2.2.2.1, off.2.2.2.2.2.1, off.2.2.2.2.2.2.1, off.2.2.2.2.2.2.2.1, off.2.2.2.2.2.2.2.2.1, off.2.2.2.2.2.2.2.2.2.1, off.2.2.2.2.2.2.2.2.2.2.1, ⟨Nat.ne_of_gt lt6.1, Nat.ne_of_gt lt6.2.1, Nat.ne_of_gt lt6.2.2.1⟩, off.2.2.2.2.2.2.2.2.2.2.2⟩ (.inr ⟨_, .head _, rfl, _, rfl⟩) ⟨_, rfl, hTL.snoc (by rw [hy]; exact hp)⟩
      case fin3 =>
        clear F9 N9
        intro ys3 news hy3 hJ9p3
        refine hide fun G9 k9 => ?_
        obtain ⟨TL, rfl, hTL⟩ := hJ9p3
        refine k9 ?_
        clear k9 G9
        (repeat' (first | (k_unfold; (try dsimp only)) | (k_end; wrow_close) | (with_reducible (k_here; (with_reducible show wpAny _ _ (call (Value.ref 873) _) _ _ _); (rename Fr _ _ _ _ => cF'); (rename News _ _ _ _ => cN'); k_dflt (refine' useMk (fI := 860) cF' cN' ?X ?st ?hm ?hi ?hf (fun x9 dx9 s9 st9 hx9 hd9 lt9 => index_init ?X2 ?T st9 (Room.make (n := 5) ?room _ _) hx9 hd9 lt9 ) ?_); (case st => assumption); (case X2 => assumption); (case X => assumption); (case T => assumption); (case hm => k_is); (case hi => k_is); (case hf => k_is); (case room => exact Room.deeper (k := 6) (by assumption) (by decide)); (intro _ _ _ _ _ _ _ _ _ _ _ lo' _); (try k_lt lo'); (try (revert lo'; intros)); (try clear cF' cN'))) | (with_reducible ((with_reducible show LCg.FinE _ _ _ _ _ _ _); (unfold LCg.FinE); intro _ _ _ _ N' _; (try simp only [List.nil_append, List.cons_append] at N'); (try (revert N'; intros)); (try dsimp only))) | walk1 | (dsimp only; walk1) | (leave1; try dsimp only)))
        (rename Fr _ _ _ _ => F20); (rename News _ _ _ _ => N20)
        rename_i il h9 tk9 ilof ix idx es9 n9 f9 h10 tk10 D9 p9 ixlt idlo h11
        refine right_tail X T hroom hgd stg Xg Tg F20 N20 dc1 hc1 hc2 hc3 hc4 ⟨(fun e => by cases e), (fun r e => by cases e)⟩ hm1 hm4 hkv hkey hkr hkvr hr6 hrg hcs hgood (A10 hy hvn2 hm4) hps hy2l (A9 hy2 hpn1) (by simpa using hy3) hTL D9 p9.1 p9.2 (fun h' tk' m' news' F' N' => ?_)
        exact ret _ _ _ rfl (keep_back [sa] hg (fun q hq => (hh0 q hq).1) F' N' (fun q hq hn => absurd (by rw [List.mem_singleton.mp hq]; exact List.mem_singleton.mpr rfl) hn)) (grown_back hz F')

end
section -- K54
set_option maxHeartbeats 2000000

section
variable {prog : Program} {w : World} {A : Around} {E : Value → Shared → Prop} {s : Shared} {g : Heap} {L : Addr} {m : Str → Option Value} {news : List (Addr × Obj)}
  {nm : Str} {scope : Scope} {a : Addr} {cd : Value} {R : Result → Shared → Prop} {x : Str} {px : Pos} {body : List Stmt}
/-- a loop over a range, on clean stacks -/
theorem rangeLoopR {r : Addr} {lo hi : Int} {t₀ u₀ v₀ : Tok} (n : Nat) (J : Nat → (Str → Option Value) → List (Addr × Obj) → Prop) (hh : A.handled = none)
    (hx : (envOf nm scope L a cd).kindOf x = some .local) (hk : scope.kind = .function)
    (hr : IsRange s.heap r lo hi 1 t₀ u₀ v₀) (h1 : -1000000000000 ≤ lo) (h2 : hi ≤ 1000000000000) (hn : hi = lo + n)
    (F : Fr g L s.heap m) (N : News g L s.heap news) (h0 : J 0 m news)
    (step : ∀ i t m news I o h tk, i < n → J i m news → (∀ q ∈ news, q.1 ≠ I) → Fr g L h (fun z => if z = x then some (.int (lo + (i : Int)) t) else m z) → News g L h ((I, o) :: news) →
      wpR (model prog w) A (execs body (envOf nm scope L a cd)) (Turned g L I o (J (i + 1)) s) (fun _ _ => False) { s with heap := h, toks := tk })
    (fin : ∀ h tk m news, J n m news → Fr g L h m → News g L h news → R (.ok .next) { s with heap := h, toks := tk }) :
    wpAny (model prog w) A (pyIter (.ref r)) (fun it s₂ => codeR (model prog w) A (.forLoop (.Name x px) it body [] (envOf nm scope L a cd)) R s₂) E s := by
  have hz : Builtin.Range.rangeSize lo hi 1 = ((n : Nat) : Int) := by rw [rangeSize_nat]; (with_reducible exact s9 (by assumption))
  refine wpAny_pyIter_range hr (small_one (by ((with_reducible refine i5 (by assumption) ?_); rfl)) (by (with_reducible exact s60 (by assumption) (by assumption))) (by (with_reducible exact s59 (by assumption) (by assumption))) (by ((with_reducible refine i3 (by assumption) ?_); rfl))) ?_
  have W := LCg.range_walks (prog := prog) (w := w) (I := s.heap.objs.size) hh lo n
  have IL : s.heap.objs.size ≠ L := Nat.ne_of_gt F.ns.lt
  have gI : g.get? s.heap.objs.size = none := next_is_new F
  have main : ∀ k i o (m : Str → Option Value) news h tk, i + k = n → IsRangeIter h s.heap.objs.size (lo + (i : Nat) * 1) ((n : Int) - (i : Nat)) 1 → J i m news → Fr g L h m → News g L h ((s.heap.objs.size, o) :: news) → (∀ q ∈ news, q.1 ≠ s.heap.objs.size) →
      codeR (model prog w) A (.forLoop (.Name x px) (.ref s.heap.objs.size) body [] (envOf nm scope L a cd)) R { s with heap := h, toks := tk } := by
    intro k
    induction k with
    | zero =>
      intro i o m news h tk hik hst hJ F N off
      have hi : i = n := by omega
      subst hi
      exact doneW (s := { s with heap := h, toks := tk }) W hst IL F (fun q hq => N q (.tail _ hq)) off gI fun h₁ tk₁ F₁ N₁ => fin h₁ tk₁ m news hJ F₁ N₁
    | succ k ih =>
      intro i o m news h tk hik hst hJ F N off
      refine turnW (s := { s with heap := h, toks := tk }) W hst (by (with_reducible exact s2 (by assumption))) hx hk (fun q => IL (List.mem_singleton.mp q).symm) (.head _) (fun h st => ⟨_, st⟩) (fun b hb => .inl (List.mem_singleton.mp hb)) F (fun q hq => N q (.tail _ hq)) off gI ?_
      intro v h₁ tk₁ o₁ hJ9p4 hS F₁ N₁
      refine hide fun G9 k9 => ?_
      obtain ⟨t, rfl⟩ := hJ9p4
      refine k9 ?_
      clear k9 G9
      refine wpR_mono (step i t m news _ o₁ h₁ tk₁ (by (with_reducible exact s2 (by assumption))) hJ off F₁ N₁) (fun f s₂ q => ?_) fun _ _ q => q
      (refine hide fun G9 k9 => ?_; obtain ⟨rfl, h', tk', m', news', rfl, F', N', off', hJ'⟩ := q; refine k9 ?_; clear k9 G9)
      refine ih (i + 1) o₁ m' news' h' tk' (by (with_reducible exact s1 (by assumption))) (W.frame (i + 1) h₁ h' hS fun b hb ob e => ?_) hJ' F' N' off'
      have e1 := (N₁ (_, o₁) (.head _)).1
      rw [List.mem_singleton.mp hb] at e ⊢
      rw [e] at e1
      rw [Option.some.inj e1]
      exact (N' (_, o₁) (.head _)).1
  exact main n 0 _ m news _ _ (by (with_reducible exact s54)) (by show IsRangeIter _ _ _ _ _; rw [hz]; simpa using Heap.get?_push_size _ rfl) h0 (F.push _) (N.push F _) fun q hq => Nat.ne_of_lt (Heap.lt_size (N q hq).1)
theorem isTrueR {M : Model} {A : Around} {E : Value → Shared → Prop} {s : Shared} {env : Env} {e : PySem.Expr} {whole : Sem Value} {Q : Bool → Shared → Prop} (h : wpR M A whole (fun v s₁ => wpAny M A (truthy v) Q E s₁) E s)
    (he : isTrue e env whole = (do let v ← whole; standAt e.pos; holding [v] (truthy v)) := by rfl) : wpR M A (isTrue e env whole) Q E s := by
  rw [he]
  exact wpR_bind (wpR_mono h (fun v s₁ h₁ => wpR_of (wpAny_bind (wpAny_standAt (wpAny_holding h₁)))) fun _ _ x => x)
/-- a call that changes one object of the ledger, on clean stacks -/
theorem useWR {hp0 : Heap} {ge0 : Array GenState} {dr0 : Drawn} {tk0 : Nat} {os0 : OsState} {f sa : Addr} {o : Obj} {args : List Value} {P : Value → Heap → Prop} {Q : Value → Shared → Prop} (F : Fr g L hp0 m) (N : News g L hp0 ((sa, o) :: news)) (off : ∀ q ∈ news, q.1 ≠ sa)
    (c : Calls7R prog w A f args ⟨hp0, ge0, dr0, tk0, os0⟩ [sa] P) (h : ∀ v h' tk', P v h' → Fr g L h' m → News g L h' news → Q v ⟨h', ge0, dr0, tk', os0⟩) :
    wpR (model prog w) A (call (.ref f) args) Q E ⟨hp0, ge0, dr0, tk0, os0⟩ := wpR_call (c _ fun v h' tk' p k _ => by
  have hm := N (sa, o) (.head _)
  refine h v h' tk' p ⟨F.ns.at' fun o e => k _ _ (by simpa using Ne.symm hm.2.1) e, fun b ob e => k b ob (fun q => ?_) (F.keep b ob e), F.above⟩ (fun q hq => ?_)
  · rw [List.mem_singleton.mp q, hm.2.2] at e; cases e
  · exact ⟨k _ _ (by simpa using off q hq) (N q (.tail _ hq)).1, (N q (.tail _ hq)).2⟩)
end
def lawM (script : Value) (m0 : Str → Option Value) : Str → Option Value := fun y => if y = Str.ofString "script" then some script else m0 y

theorem law_ok {w : World} {p : Program} {loose : List Str} {mean : ExcName → Option Value} {mg mb : Str → Option Value} {h₀ : Heap} {A : Around} {s : Shared} {sc : Addr} {so : Obj} {vs : List Value} {ns : List Int}
    (X : (Mine.myK w.params).In h₀) (T : Top p loose mean mg mb h₀) (st : h₀.StaysIn s.heap) (hroom : Room A 28) (hgd : A.guards = some []) (hl : Live h₀ s.heap sc so) (hso : IsL so vs) (hvn : IntsAre vs ns) (hlen : vs.length ≤ 63) :
    Calls7R PySem.Challenge.rw_xm0772_01.row.prog w A 1104 [.ref sc] s [] (fun v h => v = .bool true) := by
  intro R ret
  have hcalm := hroom.calm
  revert X; k_fill; intro X
  have hh0 : ∀ q ∈ ([(sc, so)] : List (Addr × Obj)), s.heap.get? q.1 = some q.2 ∧ h₀.get? q.1 = none := fmc hl (List.forall_mem_nil _)
  k_dflt (refine' enterR (binds := [(Str.ofString "script", .ref sc)]) _ X T st hh0 ?k6 ?k7 ?k8 ?k9 ?kB ?_ ?c2 ?c3 ?c4 ?c5)
  case k6 => k_is
  case k7 => k_is
  case k8 => exact hroom.now
  case k9 => first | exact BindsTo.of_eq rfl | exact binds_K (X.keeps st) rfl (by k_is) rfl rfl rfl
  case kB => exact locs rfl
  case c2 => exact rfl
  case c3 => exact rfl
  case c4 => exact rfl
  case c5 => decide
  intro g L' h₁ stg hz hg Xg Tg F N
  k_dflt (show wpR _ (Around.deeper _ (envOf _ ⟨_, _, _, _, _⟩ _ _ _)) (execs (_ :: _) (envOf _ ⟨_, _, _, _, _⟩ _ _ _)) _ _ _)
  k_dflt (refine execsR_plain ?_)
  (repeat' (first | (k_unfold; (try dsimp only)) | (k_end; wrow_close) | (with_reducible ((with_reducible show wpAny _ _ (call (Value.ref 1080) _) _ _ _); (refine hold ?_))) | walk1 | (dsimp only; walk1) | (leave1; try dsimp only)))
  unfold Hold
  (rename Fr _ _ _ _ => F2); (rename News _ _ _ _ => N2)
  refine table_el F2 N2 (table_ok (key := some 1) X T (stays_now stg F2) (Room.deeper hroom (by decide)) (by decide) (by decide) (.int _ _) (fun j e => by cases e; exact ⟨by decide, by decide⟩)) (fun tx td et nt kv h3 tk3 htx htd hkr hkvr ftx ftd F3 N3 => ?_)
  have N4 := news_add (news_add N3 htd.1 (free_add F2 ftd)) htx.1 (free_add F2 ftx)
  clear N3 F2 N2 htx htd ftx ftd
  (repeat' (first | (k_unfold; (try dsimp only)) | (k_end; wrow_close) | (with_reducible ((with_reducible show wpAny _ _ (call (Value.ref 28) _) _ _ _); (refine hold ?_))) | (with_reducible (k_here; (with_reducible show wpAny _ _ (newList _) _ _ _); k_dflt (refine' newL ?k1 ?k2 ?_ ?z; (case k1 => k_asm); (case k2 => k_asm); (case z => first | exact sz0 | exact sz1 | exact sz2 | exact sz3 | size_fits); k_whole); intro _ _ _ _ l1; (try k_lt l1); (try (revert l1; intros)); (try k_sweep))) | walk1 | (dsimp only; walk1) | (leave1; try dsimp only)))
  unfold Hold
  (rename Fr _ _ _ _ => F5); (rename News _ _ _ _ => N5)
  refine use7v F5 N5 (row_value_ok X T (stays_now stg F5) (Room.deeper hroom (by decide)) (Live.of stg N5 (by k_mem)) (Live.of stg N5 (by k_mem)) (Live.of stg N5 (.head _)) (vs := [_, _]) (show (2 : Nat) < 2 ^ 60 by decide) hkr hkvr (by decide) (by decide)) (x := .int 9 (tk3 + 1)) (fun h4 tk4 F6 N6 => ?_)
  have N7 : News g L' h4 [(sc, so)] := fun q hq => N6 q (.tail _ (.tail _ (.tail _ hq)))
  clear N5 N6 F5 hkr hkvr
  (repeat' (first | (k_unfold; (try dsimp only)) | (k_end; wrow_close) | (with_reducible ((with_reducible show wpAny _ _ (call (Value.ref 1080) _) _ _ _); (refine hold ?_))) | walk1 | (dsimp only; walk1) | (leave1; try dsimp only)))
  unfold Hold
  refine table_el F6 N7 (table_ok (key := none) X T (stays_now stg F6) (Room.deeper hroom (by decide)) (by decide) (by decide) .none (fun j e => by cases e)) (fun tx td et nt kv h3 tk3 htx htd hkr hkvr ftx ftd F3 N3 => ?_)
  have N4 := news_add (news_add N3 htd.1 (free_add F6 ftd)) htx.1 (free_add F6 ftx)
  clear N3 F6 N7 htx htd ftx ftd
  (repeat' (first | (k_unfold; (try dsimp only)) | (k_end; wrow_close) | (with_reducible ((with_reducible show wpAny _ _ (call (Value.ref 28) _) _ _ _); (refine hold ?_))) | (with_reducible (k_here; (with_reducible show wpAny _ _ (newList _) _ _ _); k_dflt (refine' newL ?k1 ?k2 ?_ ?z; (case k1 => k_asm); (case k2 => k_asm); (case z => first | exact sz0 | exact sz1 | exact sz2 | exact sz3 | size_fits); k_whole); intro _ _ _ _ l1; (try k_lt l1); (try (revert l1; intros)); (try k_sweep))) | walk1 | (dsimp only; walk1) | (leave1; try dsimp only)))
  unfold Hold
  (rename Fr _ _ _ _ => F5); (rename News _ _ _ _ => N5)
  refine use7v F5 N5 (row_value_ok X T (stays_now stg F5) (Room.deeper hroom (by decide)) (Live.of stg N5 (by k_mem)) (Live.of stg N5 (by k_mem)) (Live.of stg N5 (.head _)) (vs := [_]) (show (1 : Nat) < 2 ^ 60 by decide) hkr hkvr (by decide) (by decide)) (x := .none) (fun h4 tk4 F6 N6 => ?_)
  have N7 : News g L' h4 [(sc, so)] := fun q hq => N6 q (.tail _ (.tail _ (.tail _ hq)))
  clear N5 N6 F5 hkr hkvr
  k_steps
  (try dsimp only)
  have hl60 : vs.length < 2 ^ 60 := by ((with_reducible refine t3 (by assumption) ?_); rfl)
  k_dflt (refine execsR_cons (forR hcalm ?_))
  (repeat' (first | (k_unfold; (try dsimp only)) | (k_end; wrow_close) | (with_reducible ((with_reducible show wpAny _ _ (pyIter (Value.ref _)) _ _ _); refine hold ?_)) | (with_reducible (k_here; (with_reducible show wpAny _ _ (call (Value.builtin "min") [Value.int _ _, Value.int _ _]) _ _ _); k_dflt (refine' min_own ?k1 ?k2 ?k3 ?_; (case k1 => assumption); (case k2 => k_asm); (case k3 => k_asm); k_whole); intro _ _ _ _ _ _ _ _ _)) | (with_reducible (k_here; (with_reducible show wpAny _ _ (call (Value.builtin "max") [Value.int _ _, Value.int _ _]) _ _ _); k_dflt (refine' max_own ?k1 ?k2 ?k3 ?_; (case k1 => assumption); (case k2 => k_asm); (case k3 => k_asm); k_whole); intro _ _ _ _ _ _ _ _ _)) | (with_reducible (k_here; (with_reducible show wpAny _ _ (call (Value.builtin "len") [Value.ref _]) _ _ _); k_dflt (refine' len_any ?k1 ?k2 ?k3 ?k4 ?_; (case k1 => k_asm); (case k2 => k_mem); (case k3 => assumption); (case k4 => assumption); k_whole))) | (with_reducible ((with_reducible show wpAny _ _ (call (Value.type "range") _) _ _ _); k_here; (rename Fr _ _ _ _ => cF'); (rename News _ _ _ _ => cN'); k_dflt (first | (refine range1_rows cF' cN' ?_) | (refine range2_rows cF' cN' ?_)); clear cF' cN'; intro _ _ _ _ _ _ _ _ k'; clear k')) | walk1 | (dsimp only; walk1) | (leave1; try dsimp only)))
  unfold Hold
  (rename IsRange _ _ _ _ _ _ _ _ => R1)
  rename_i M1 t1 h5 tk5 l1 l2 e1 F8 N8 M2 t2 h6 tk6 l3 l4 e2 h7 tk7 t3 t4 t5 F9 N9
  refine rangeLoopR (L := L') M2.toNat (fun i m news => (∃ m0, ∀ y, m y = lawM (.ref sc) m0 y) ∧ news = [(sc, so)]) hcalm rfl rfl R1 (by decide) (by omega) (by (with_reducible exact s7 (by assumption))) F9 N9 ⟨⟨fun _ => none, fun y => ?m1⟩, rfl⟩ ?step ?fin
  case m1 =>
    unfold lawM
    by_cases h0 : y = Str.ofString "script"
    · subst h0; rfl
    have e0 : (y == Str.ofString "script") = false := by simpa using h0
    simp only [List.reverse_cons, List.reverse_nil, List.nil_append, List.lookup_cons, List.lookup_nil, e0, h0, if_false]
  case step =>
    clear F6 N7 F8 N8 F9 N9 R1
    intro i t m news I o h8 tk8 hi hJ9p9 off F10 N10
    refine hide fun G9 k9 => ?_
    obtain ⟨⟨m0, hm⟩, rfl⟩ := hJ9p9
    refine k9 ?_
    clear k9 G9
    have F11 : Fr g L' h8 (fun z => if z = Str.ofString "k" then some (.int (0 + (i : Int)) t) else lawM (.ref sc) m0 z) := fr_eq F10 fun y => by simp only [hm]
    clear F10 hm
    unfold lawM at F11
    have hi2 : i < 2 := by (with_reducible exact s88 (by assumption) (by assumption) (by assumption))
    refine execsR_cons (ifR (notR (isTrueR (callR ?_))))
    k_steps
    k_dflt (refine callWithR_K (K := Mine.myK w.params) (by k_is) (argsR_cons (wpR_of ?_)))
    (repeat' (first | (k_unfold; (try dsimp only)) | (k_end; wrow_close) | (with_reducible ((with_reducible show wpAny _ _ (call (Value.ref 1059) _) _ _ _); (refine hold ?_))) | walk1 | (dsimp only; walk1) | (leave1; try dsimp only)))
    unfold Hold
    (rename Fr _ _ _ _ => F12); (rename News _ _ _ _ => N12)
    refine pool_el F12 N12 (pool_ok X T (stays_now stg F12) (Room.deeper hroom (by decide)) (Live.of stg N12 (by k_mem)) hso (by ((with_reducible refine c6 ?_); rfl)) (by omega) hvn hlen) (fun D a b ta tb nd h9 tk9 hsv hD hfree F13 N13 => ?_)
    have N14 := news_add N13 hD.1 (free_add F12 hfree)
    refine argsR_nil ?_
    (try dsimp only [List.nil_append, List.cons_append])
    refine ⟨Xg.keeps F13.keep, useWR F13 N14 (apart_new N12 hfree) (right_ok X T (stays_now stg F13) (hroom.deeper (by decide)) hgd (Live.of stg N14 (.head _)) hsv) ?_⟩
    rintro v10 h10 tk10 rfl F14 N15
    (try dsimp only)
    clear F12 N12 F13 N13 N14
    k_steps
    refine execsR_nil ?_
    (try dsimp only)
    refine execsR_nil ?_
    refine ⟨rfl, _, _, _, [(sc, so)], rfl, F14, N15, fun q hq => off q hq, ⟨⟨fun y => if y = Str.ofString "k" then some (.int (0 + (i : Int)) t) else m0 y, fun y => ?_⟩, rfl⟩⟩
    unfold lawM
    by_cases h0 : y = Str.ofString "k"
    · subst h0; rfl
    by_cases h1 : y = Str.ofString "script"
    · subst h1; rfl
    simp only [h0, h1, if_false]
  case fin =>
    clear F6 N7 F8 N8 F9 N9 R1
    intro h8 tk8 m news hJ9p4 F10 N10
    refine hide fun G9 k9 => ?_
    obtain ⟨⟨m0, hm⟩, rfl⟩ := hJ9p4
    refine k9 ?_
    clear k9 G9
    (try dsimp only)
    refine wpR_of ?_
    k_steps
    exact ret _ _ _ rfl (keep_back _ hg (fun q hq => (hh0 q hq).1) F10 N10 (fun q hq _ => hq)) (grown_back hz F10)


end
section -- K55
set_option maxHeartbeats 2000000
theorem walk (q : Program) (loose : List Str) (XP : (Str → Option Value) → Heap → Prop) (d : DefRec) (kwd : List (Str × Expr)) (hd : d.name = Str.ofString "law") :
    WalkR q loose XP (Hook.says (kHook myK myA myA_is)) PySem.Challenge.rw_xm0772_01.row.toRowW d kwd fun f vs => PySem.call f vs := by
  intro w s₀ s₁ mg mb h₀ G Y st a hmg hgens args vals as hpre hlay hrd hfree hwl hlo
  have X := kIn_of Y
  revert X; k_fill; intro X
  have e := mg_of (n := Str.ofString "law") (v := .ref 1104) X G.T.g (by k_is)
  rw [hd, e] at hmg
  obtain rfl : a = 1104 := by cases hmg; rfl
  clear hmg e
  wrow_args hpre hlay hrd hwl hlo
  rename_i ns hs hlay0 hly hr1 hl2 as1 as2 sc vs as3 hL ra w1 r0 hI hr hc1 hc2
  (refine ex1 (hL) fun so hE9 => an2 hE9 ?_; clear hE9; intro hso hsl)
  have hfr : h₀.get? sc = none := hfree sc (List.mem_append_left _ (by cases r0; exact .head _))
  have hn : vs.length ≤ 63 := by
    have := hI.length
    omega
  refine wpR_call (law_ok X G.T st ⟨by decide, by decide, rfl⟩ rfl ⟨hso, hfr⟩ hsl hI hn _ fun v h' tk' hv k z => ?_)
  subst hv
  exact GoodW.toG ⟨.inl ⟨_, .bool true, [], rfl, fun _ => rfl, .bool true, by wrow_post, fun _ => ⟨List.nodup_nil, List.forall_mem_nil _⟩⟩, fun b o e => k b o List.not_mem_nil e, rfl, hgens⟩
end
section -- HdD
set_option maxHeartbeats 8000000
set_option Elab.async true
namespace hd
theorem tw4971549296188076032 : True := True.intro
theorem tw8735263284916673568 : True := True.intro
theorem tw2712736395085177888 : True := True.intro
theorem tw1800889605409440832 : True := True.intro
theorem tw546821695630378048 : True := True.intro
theorem tw6276725880618359904 : True := True.intro
theorem tw17470177872615007328 : True := True.intro
theorem tw16412773359747925120 : True := True.intro
theorem tw5292301768408028288 : True := True.intro
theorem tw6830512106363814048 : True := True.intro
theorem tw17950676927832955104 : True := True.intro
theorem tw10458740792067480800 : True := True.intro
theorem tw2739504486584576224 : True := True.intro
theorem tw17956543221229664512 : True := True.intro
theorem tw16759147789766475008 : True := True.intro
theorem tw11109741339103130912 : True := True.intro
theorem tw10259988299927297344 : True := True.intro
theorem tw17387473266821786944 : True := True.intro
theorem tw10763509664835889504 : True := True.intro
theorem tw6352655612330318208 : True := True.intro
theorem tw11289215743573008768 : True := True.intro
theorem tw8912348807662434688 : True := True.intro
theorem tw7023726343779634624 : True := True.intro
theorem tw6646985988748340704 : True := True.intro
theorem tw8134915037123179040 : True := True.intro
theorem tw1359830224848277088 : True := True.intro
theorem tw4494801613693538912 : True := True.intro
theorem tw4946210868454251104 : True := True.intro
theorem tw7541792107247259296 : True := True.intro
theorem tw12070654863422294720 : True := True.intro
theorem tw16154546982801380032 : True := True.intro
theorem tw3861751355019981504 : True := True.intro
theorem tw4730091804998409952 : True := True.intro
theorem tw16694946328126371552 : True := True.intro
theorem tw7080932558258925280 : True := True.intro
theorem tw5715356086224469760 : True := True.intro
theorem tw17183224562656869120 : True := True.intro
theorem tw15278966056882409248 : True := True.intro
theorem tw5983496337302601536 : True := True.intro
theorem tw16635604280276938560 : True := True.intro
theorem tw3350930974749635488 : True := True.intro
theorem tw17252143746492648416 : True := True.intro
theorem tw7691918140598264929 : True := True.intro
theorem tw10752148897807903841 : True := True.intro
theorem tw12127338746724423809 : True := True.intro
theorem tw7610815399733428385 : True := True.intro
theorem tw10403243965636340961 : True := True.intro
theorem tw18097678490905228609 : True := True.intro
theorem tw13129650132239662433 : True := True.intro
theorem tw16403607337374819745 : True := True.intro
theorem tw13786400029259127201 : True := True.intro
theorem tw4111692666942324129 : True := True.intro
theorem tw4086058157674990017 : True := True.intro
theorem tw9429285754427346401 : True := True.intro
theorem tw15220180469806662145 : True := True.intro
theorem tw16037735763661986305 : True := True.intro
theorem tw2315301623876862497 : True := True.intro
theorem tw17336936450418997793 : True := True.intro
theorem tw4367455430839740993 : True := True.intro
theorem tw8773699223549846113 : True := True.intro
theorem tw13330244855972007585 : True := True.intro
theorem tw2371736936440567457 : True := True.intro
theorem tw7955510936560370401 : True := True.intro
theorem tw2799716289819351777 : True := True.intro
theorem tw5343241284826551009 : True := True.intro
theorem tw16547865195752855329 : True := True.intro
theorem tw6046454685291232161 : True := True.intro
theorem tw8887996145723391905 : True := True.intro
theorem tw12602439190401603521 : True := True.intro
theorem tw7914949630228597729 : True := True.intro
theorem tw11210553801493137410 : True := True.intro
theorem tw8609351116199087170 : True := True.intro
theorem tw14745743045033390146 : True := True.intro
theorem tw15630680890609703042 : True := True.intro
theorem tw6308581086252854402 : True := True.intro
theorem tw7135881778739340450 : True := True.intro
theorem tw9731375825926819010 : True := True.intro
theorem tw4272726840584523970 : True := True.intro
theorem tw13171141561276507362 : True := True.intro
theorem tw13919464512627920130 : True := True.intro
theorem tw4702841417184801058 : True := True.intro
theorem tw12337632362937886050 : True := True.intro
theorem tw758273949599710562 : True := True.intro
theorem tw11052946933831473538 : True := True.intro
theorem tw11713075325732132258 : True := True.intro
theorem tw11912922877643110818 : True := True.intro
theorem tw12271959270614036898 : True := True.intro
theorem tw11053918530259517922 : True := True.intro
theorem tw5781342201191254626 : True := True.intro
theorem tw7031273417212677730 : True := True.intro
theorem tw4521580383011477154 : True := True.intro
theorem tw15064902949301533346 : True := True.intro
theorem tw5190246844813560578 : True := True.intro
theorem tw1448358952932078338 : True := True.intro
theorem tw13064122474441708322 : True := True.intro
theorem tw7525542149764818722 : True := True.intro
theorem tw3173010612589774626 : True := True.intro
theorem tw14446474709323646786 : True := True.intro
theorem tw9960721518486171458 : True := True.intro
theorem tw4581847759332874082 : True := True.intro
theorem tw5360435025570183010 : True := True.intro
theorem tw2674002104343415650 : True := True.intro
theorem tw10365702040365258594 : True := True.intro
theorem tw17895171251205151618 : True := True.intro
theorem tw8450674356893351874 : True := True.intro
theorem tw8179070454071193570 : True := True.intro
theorem tw2263123870574935043 : True := True.intro
theorem tw5378308252288859171 : True := True.intro
theorem tw12364972598781006883 : True := True.intro
theorem tw5318216170032084099 : True := True.intro
theorem tw8816905875899384995 : True := True.intro
theorem tw2304311442786299043 : True := True.intro
theorem tw13001811119718631651 : True := True.intro
theorem tw12704988097186499811 : True := True.intro
theorem tw16904818350239718627 : True := True.intro
theorem tw15924899543223041283 : True := True.intro
theorem tw10847404155465417027 : True := True.intro
theorem tw1033889070964956483 : True := True.intro
theorem tw7489763959799892387 : True := True.intro
theorem tw1760603350576429475 : True := True.intro
theorem tw9153386212771759811 : True := True.intro
theorem tw17002781174329755331 : True := True.intro
theorem tw11513968764499736323 : True := True.intro
theorem tw9908193460736022307 : True := True.intro
theorem tw2480057099694739299 : True := True.intro
theorem tw18293851220164018083 : True := True.intro
theorem tw519851828213033955 : True := True.intro
theorem tw17843490464661113860 : True := True.intro
theorem tw16477043939570097188 : True := True.intro
theorem tw14859038896228082724 : True := True.intro
theorem tw6060742912462422084 : True := True.intro
theorem tw6320253292602491972 : True := True.intro
theorem tw14896477498954680388 : True := True.intro
theorem tw6213412439835118660 : True := True.intro
theorem tw6407587892757256292 : True := True.intro
theorem tw17696971302532935780 : True := True.intro
theorem tw6785817131721698500 : True := True.intro
theorem tw5278057926702712004 : True := True.intro
theorem tw2441609540285265092 : True := True.intro
theorem tw10841399608879689956 : True := True.intro
theorem tw1299046323782801668 : True := True.intro
theorem tw10507497572311344420 : True := True.intro
theorem tw14706022693812145444 : True := True.intro
theorem tw14892549342360969540 : True := True.intro
theorem tw9330943631129107780 : True := True.intro
theorem tw8068729725432388964 : True := True.intro
theorem tw3722166409189360004 : True := True.intro
theorem tw18358800413957953924 : True := True.intro
theorem tw3219085151875037572 : True := True.intro
theorem tw6178411432499460516 : True := True.intro
theorem tw1445366717492459972 : True := True.intro
theorem tw12861998865439983172 : True := True.intro
theorem tw8493152586797012548 : True := True.intro
theorem tw7175568609137494628 : True := True.intro
theorem tw10949625832625181284 : True := True.intro
theorem tw7379015992945566340 : True := True.intro
theorem tw2323474266016966308 : True := True.intro
theorem tw9013056391748086436 : True := True.intro
theorem tw5732804406350252772 : True := True.intro
theorem tw1852308525546674916 : True := True.intro
theorem tw1241404454085649124 : True := True.intro
theorem tw9990345226319884068 : True := True.intro
theorem tw17583924267553061668 : True := True.intro
theorem tw8684328023851190084 : True := True.intro
theorem tw18241275227582772068 : True := True.intro
theorem tw8458067239894703972 : True := True.intro
theorem tw3789350110615891812 : True := True.intro
theorem tw14991384322417631237 : True := True.intro
theorem tw13931416462566266981 : True := True.intro
theorem tw13122850982685727845 : True := True.intro
theorem tw8356816923877370021 : True := True.intro
theorem tw8881176148764397765 : True := True.intro
theorem tw7355570028127101125 : True := True.intro
theorem tw12414669353804360901 : True := True.intro
theorem tw1608453256928411877 : True := True.intro
theorem tw4074112789689628901 : True := True.intro
theorem tw11375277706881905925 : True := True.intro
theorem tw4292457097857839397 : True := True.intro
theorem tw6305734824756694309 : True := True.intro
theorem tw9702936160620672325 : True := True.intro
theorem tw10258999931320997221 : True := True.intro
theorem tw11893437276241958245 : True := True.intro
theorem tw15910714762333108613 : True := True.intro
theorem tw12399718760709695909 : True := True.intro
theorem tw5976792059365374437 : True := True.intro
theorem tw1847840615245081061 : True := True.intro
theorem tw7721951785955056133 : True := True.intro
theorem tw11623594800819314181 : True := True.intro
theorem tw5167245352685981253 : True := True.intro
theorem tw18160293313031310949 : True := True.intro
theorem tw9842699097658496709 : True := True.intro
theorem tw11251137523995926341 : True := True.intro
theorem tw10031445930688152421 : True := True.intro
theorem tw6438293893037913957 : True := True.intro
theorem tw15637593595834871717 : True := True.intro
theorem tw5505005885091257285 : True := True.intro
theorem tw17491280204586788870 : True := True.intro
theorem tw13475242022060392486 : True := True.intro
theorem tw17817282136336807974 : True := True.intro
theorem tw6555240042291301478 : True := True.intro
theorem tw16692772259055178886 : True := True.intro
theorem tw10583446816852156582 : True := True.intro
theorem tw13466754112058979494 : True := True.intro
theorem tw5899666649113621702 : True := True.intro
theorem tw2871226400543044806 : True := True.intro
theorem tw3484992998616243462 : True := True.intro
theorem tw7628703163842673926 : True := True.intro
theorem tw8472141830624432390 : True := True.intro
theorem tw8268277133935991078 : True := True.intro
theorem tw16211521421427940678 : True := True.intro
theorem tw212345690472687942 : True := True.intro
theorem tw7523672394736509286 : True := True.intro
theorem tw3673020696563887462 : True := True.intro
theorem tw11778180911958503814 : True := True.intro
theorem tw991583007596301734 : True := True.intro
theorem tw102014493982917126 : True := True.intro
theorem tw13066319289922817542 : True := True.intro
theorem tw8311865607074365958 : True := True.intro
theorem tw2386827423013361158 : True := True.intro
theorem tw3795277891434052102 : True := True.intro
theorem tw10424393626065333798 : True := True.intro
theorem tw6988595667528144454 : True := True.intro
theorem tw5927567313105069670 : True := True.intro
theorem tw17258206423299326598 : True := True.intro
theorem tw17562767543260142214 : True := True.intro
theorem tw2195365466389143174 : True := True.intro
theorem tw13903934854276604550 : True := True.intro
theorem tw8158104758559485606 : True := True.intro
theorem tw1865391376527767206 : True := True.intro
theorem tw4993660671451451078 : True := True.intro
theorem tw1506431575118746342 : True := True.intro
theorem tw8990313861142287110 : True := True.intro
theorem tw1383871802546835238 : True := True.intro
theorem tw13893168526513508166 : True := True.intro
theorem tw3044193314922437478 : True := True.intro
theorem tw7153062008950511462 : True := True.intro
theorem tw6014424301940151174 : True := True.intro
theorem tw9386895884608548742 : True := True.intro
theorem tw3039998526598829958 : True := True.intro
theorem tw8934143017859847078 : True := True.intro
theorem tw10117440562283002822 : True := True.intro
theorem tw1589133516308662214 : True := True.intro
theorem tw2450686747263038406 : True := True.intro
theorem tw5978321128707920903 : True := True.intro
theorem tw5574845727924001799 : True := True.intro
theorem tw10844753989422098599 : True := True.intro
theorem tw7151981184983211207 : True := True.intro
theorem tw17919194246423945575 : True := True.intro
theorem tw17062030032774818151 : True := True.intro
theorem tw8977307856219701671 : True := True.intro
theorem tw14612060388864693735 : True := True.intro
theorem tw12954956518458727911 : True := True.intro
theorem tw5635641802508607975 : True := True.intro
theorem tw9783614193127449063 : True := True.intro
theorem tw17876089906941426215 : True := True.intro
theorem tw9557236495431379559 : True := True.intro
theorem tw13280443560766958183 : True := True.intro
theorem tw12058812876911547015 : True := True.intro
theorem tw244737055928404615 : True := True.intro
theorem tw12901994302517312135 : True := True.intro
theorem tw4449123307109862055 : True := True.intro
theorem tw11660266114150955751 : True := True.intro
theorem tw16246848685605474055 : True := True.intro
theorem tw5054737718236178183 : True := True.intro
theorem tw8960069828448710407 : True := True.intro
theorem tw17672654358674132775 : True := True.intro
theorem tw6469175993241445255 : True := True.intro
theorem tw7028611270464810887 : True := True.intro
theorem tw701787995468756871 : True := True.intro
theorem tw8545014587354053640 : True := True.intro
theorem tw190519026028168232 : True := True.intro
theorem tw4282304852377368616 : True := True.intro
theorem tw7372000682148998216 : True := True.intro
theorem tw8671608845466749128 : True := True.intro
theorem tw4091639524402994376 : True := True.intro
theorem tw10286656452748174568 : True := True.intro
theorem tw13642289790063256904 : True := True.intro
theorem tw17570734847185409352 : True := True.intro
theorem tw16920754564084929960 : True := True.intro
theorem tw6824622198901579176 : True := True.intro
theorem tw13562760996464443880 : True := True.intro
theorem tw12949589719889679912 : True := True.intro
theorem tw14457593812595234344 : True := True.intro
theorem tw6038821095411175016 : True := True.intro
theorem tw5464967688985200232 : True := True.intro
theorem tw18268791191939849864 : True := True.intro
theorem tw2708950531961675432 : True := True.intro
theorem tw4642405928176397000 : True := True.intro
theorem tw4297731678662094536 : True := True.intro
theorem tw162610821266807592 : True := True.intro
theorem tw14205177575709318024 : True := True.intro
theorem tw302100336521851816 : True := True.intro
theorem tw6627881031435992008 : True := True.intro
theorem tw16376525773666504680 : True := True.intro
theorem tw3259873300814134281 : True := True.intro
theorem tw4310969922304039945 : True := True.intro
theorem tw9850052858527491113 : True := True.intro
theorem tw17066044127408595049 : True := True.intro
theorem tw8959176491354863721 : True := True.intro
theorem tw12565835363266740329 : True := True.intro
theorem tw14567429538950270057 : True := True.intro
theorem tw4527685146903026889 : True := True.intro
theorem tw8652628183442184457 : True := True.intro
theorem tw10788059911547816233 : True := True.intro
theorem tw3890083515106143593 : True := True.intro
theorem tw9244321171653502345 : True := True.intro
theorem tw8479784124755550697 : True := True.intro
theorem tw8184699220007379433 : True := True.intro
theorem tw15054049728407801353 : True := True.intro
theorem tw567884609423149705 : True := True.intro
theorem tw15801637453660337897 : True := True.intro
theorem tw9627899436633539337 : True := True.intro
theorem tw14817486215969520457 : True := True.intro
theorem tw2580477087445282633 : True := True.intro
theorem tw9566141503761928105 : True := True.intro
theorem tw5148922909946612681 : True := True.intro
theorem tw11407884054146074569 : True := True.intro
theorem tw7923561978577021897 : True := True.intro
theorem tw714852897916480489 : True := True.intro
theorem tw3915529967508079626 : True := True.intro
theorem tw487960524631912522 : True := True.intro
theorem tw18264374347568628810 : True := True.intro
theorem tw15042006015671813226 : True := True.intro
theorem tw6906073325868019850 : True := True.intro
theorem tw13217225542625558698 : True := True.intro
theorem tw6898005170327248138 : True := True.intro
theorem tw14143348200573808938 : True := True.intro
theorem tw9406673726873002282 : True := True.intro
theorem tw7626941382939369770 : True := True.intro
theorem tw6804821044290156842 : True := True.intro
theorem tw16794629799341752650 : True := True.intro
theorem tw7654286748164834634 : True := True.intro
theorem tw5416991563250132298 : True := True.intro
theorem tw4383666589626881386 : True := True.intro
theorem tw17447410573909459338 : True := True.intro
theorem tw9864973744126774698 : True := True.intro
theorem tw15337868472472888810 : True := True.intro
theorem tw242841246431481386 : True := True.intro
theorem tw2731447403869805098 : True := True.intro
theorem tw14492701947808656938 : True := True.intro
theorem tw6528754448969337418 : True := True.intro
theorem tw15591429051563716170 : True := True.intro
theorem tw10603584201595350602 : True := True.intro
theorem tw3058821109629397610 : True := True.intro
theorem tw4360684699965382250 : True := True.intro
theorem tw9132557439983319658 : True := True.intro
theorem tw10170382586518783626 : True := True.intro
theorem tw1563692795949630186 : True := True.intro
theorem tw12487502673411948298 : True := True.intro
theorem tw1809687716253123402 : True := True.intro
theorem tw4478964076566166474 : True := True.intro
theorem tw12112201142124510154 : True := True.intro
theorem tw9271970288684553227 : True := True.intro
theorem tw6769732088879122475 : True := True.intro
theorem tw5513025101015932971 : True := True.intro
theorem tw1335065189686863947 : True := True.intro
theorem tw8244733829118024811 : True := True.intro
theorem tw12239354291974867115 : True := True.intro
theorem tw11128854368766332075 : True := True.intro
theorem tw13277076834127875243 : True := True.intro
theorem tw3443669649825651883 : True := True.intro
theorem tw14865394789452777675 : True := True.intro
theorem tw9449672872311958731 : True := True.intro
theorem tw12832683148521936107 : True := True.intro
theorem tw18176940659606848779 : True := True.intro
theorem tw4646195459632187659 : True := True.intro
theorem tw11917015161858427179 : True := True.intro
theorem tw13855881374063213867 : True := True.intro
theorem tw6449127861642672459 : True := True.intro
theorem tw17070941380808615275 : True := True.intro
theorem tw9170477692918782315 : True := True.intro
theorem tw10030107230732127627 : True := True.intro
theorem tw15463257786427224491 : True := True.intro
theorem tw1511243299971373483 : True := True.intro
theorem tw17054507655720011243 : True := True.intro
theorem tw14727110085682223627 : True := True.intro
theorem tw313027258313007627 : True := True.intro
theorem tw6683769817339685419 : True := True.intro
theorem tw16742648372681657963 : True := True.intro
theorem tw7534799579077118603 : True := True.intro
theorem tw9741134391959003819 : True := True.intro
theorem tw15089522573102190283 : True := True.intro
theorem tw14333710738500927179 : True := True.intro
theorem tw10743916045514856203 : True := True.intro
theorem tw9748044761591592747 : True := True.intro
theorem tw8727321023445011275 : True := True.intro
theorem tw8242931771332617035 : True := True.intro
theorem tw6196171512934965099 : True := True.intro
theorem tw16896567674234606475 : True := True.intro
theorem tw7640094616464845771 : True := True.intro
theorem tw15033227074091944939 : True := True.intro
theorem tw6264232113106981867 : True := True.intro
theorem tw12353913968525425643 : True := True.intro
theorem tw4315991029959535628 : True := True.intro
theorem tw4136554803537287180 : True := True.intro
theorem tw1836080755315867724 : True := True.intro
theorem tw13217827037086042188 : True := True.intro
theorem tw3922637787740509324 : True := True.intro
theorem tw6186238094035137676 : True := True.intro
theorem tw1043307727769730188 : True := True.intro
theorem tw17679848547673146604 : True := True.intro
theorem tw5667655126489319660 : True := True.intro
theorem tw14060154772996877548 : True := True.intro
theorem tw16650738400726616396 : True := True.intro
theorem tw16299908979028503884 : True := True.intro
theorem tw12092154237167983948 : True := True.intro
theorem tw2930668341846507884 : True := True.intro
theorem tw15856727013471470956 : True := True.intro
theorem tw5535567543195554156 : True := True.intro
theorem tw17711083657039698284 : True := True.intro
theorem tw6957150274394394060 : True := True.intro
theorem tw5873113503399164460 : True := True.intro
theorem tw15687388767607454252 : True := True.intro
theorem tw6482722132109649516 : True := True.intro
theorem tw5130813555471234732 : True := True.intro
theorem tw5322579261384874668 : True := True.intro
theorem tw8004679753235328684 : True := True.intro
theorem tw15923250282426842828 : True := True.intro
theorem tw12588582704262371052 : True := True.intro
theorem tw9459050058782445324 : True := True.intro
theorem tw13297550312455915276 : True := True.intro
theorem tw14683707025165767436 : True := True.intro
theorem tw10292235466723388172 : True := True.intro
theorem tw6819123309680001836 : True := True.intro
theorem tw15368132723985388332 : True := True.intro
theorem tw12023040214023829324 : True := True.intro
theorem tw16171809288044610508 : True := True.intro
theorem tw10781468475247234061 : True := True.intro
theorem tw15837987909243819085 : True := True.intro
theorem tw1409312971732116557 : True := True.intro
theorem tw5010264101278932077 : True := True.intro
theorem tw4833718069199227053 : True := True.intro
theorem tw16332348944364537037 : True := True.intro
theorem tw6877226645827823821 : True := True.intro
theorem tw1013155817946168525 : True := True.intro
theorem tw14060237666301923597 : True := True.intro
theorem tw14743440263598761229 : True := True.intro
theorem tw13321331477185743149 : True := True.intro
theorem tw1820180628909398317 : True := True.intro
theorem tw9325612240067072397 : True := True.intro
theorem tw16345102440705955213 : True := True.intro
theorem tw6079173187612997037 : True := True.intro
theorem tw9135094705627611597 : True := True.intro
theorem tw8457440626546761165 : True := True.intro
theorem tw17386561741084979693 : True := True.intro
theorem tw4377701919642642989 : True := True.intro
theorem tw3404104791013757517 : True := True.intro
theorem tw16828841361933241965 : True := True.intro
theorem tw13315304624776755853 : True := True.intro
theorem tw6184208073178115725 : True := True.intro
theorem tw13172843250190940813 : True := True.intro
theorem tw5036846961687405229 : True := True.intro
theorem tw4734902545126651661 : True := True.intro
theorem tw17606422857730326317 : True := True.intro
theorem tw11249132867342737325 : True := True.intro
theorem tw10404513684093684653 : True := True.intro
theorem tw13929354066492186541 : True := True.intro
theorem tw1088296927520436173 : True := True.intro
theorem tw16156708551869547534 : True := True.intro
theorem tw10614716105012338702 : True := True.intro
theorem tw11801993109049149486 : True := True.intro
theorem tw14980023328507725902 : True := True.intro
theorem tw11968265576560266318 : True := True.intro
theorem tw7880807054014371918 : True := True.intro
theorem tw14444963742821833902 : True := True.intro
theorem tw12232750017996463310 : True := True.intro
theorem tw17076082267592564974 : True := True.intro
theorem tw14914937398881237230 : True := True.intro
theorem tw5715734110848049390 : True := True.intro
theorem tw4654797750381630734 : True := True.intro
theorem tw16124447700955497774 : True := True.intro
theorem tw17989097746536338734 : True := True.intro
theorem tw9617658007855726926 : True := True.intro
theorem tw678209747344391502 : True := True.intro
theorem tw5490696432328200686 : True := True.intro
theorem tw185848376630758926 : True := True.intro
theorem tw12900700647772717614 : True := True.intro
theorem tw9330823016148744750 : True := True.intro
theorem tw3429492842335990350 : True := True.intro
theorem tw10531373872144210542 : True := True.intro
theorem tw12940713784782232206 : True := True.intro
theorem tw2839761810297210574 : True := True.intro
theorem tw1870067075039425230 : True := True.intro
theorem tw1781861727890032366 : True := True.intro
theorem tw9555612238305686254 : True := True.intro
theorem tw3196399650302076718 : True := True.intro
theorem tw4159134105002834734 : True := True.intro
theorem tw16722109127936396110 : True := True.intro
theorem tw2004659784336800654 : True := True.intro
theorem tw6780557218761844654 : True := True.intro
theorem tw14553816603554493358 : True := True.intro
theorem tw9345929723534960622 : True := True.intro
theorem tw12268275109542032366 : True := True.intro
theorem tw6818987989461384207 : True := True.intro
theorem tw15424705756172794927 : True := True.intro
theorem tw1452849714261714991 : True := True.intro
theorem tw5289708365253275695 : True := True.intro
theorem tw1736311965527578767 : True := True.intro
theorem tw10376703724636587151 : True := True.intro
theorem tw15616948245753086127 : True := True.intro
theorem tw17172931820748874959 : True := True.intro
theorem tw3969467460574380271 : True := True.intro
theorem tw13606922415975196911 : True := True.intro
theorem tw17330132731328240911 : True := True.intro
theorem tw17449393022594162991 : True := True.intro
theorem tw17688779612395485551 : True := True.intro
theorem tw2845207389951388047 : True := True.intro
theorem tw12579596248316191183 : True := True.intro
theorem tw6082411064634330575 : True := True.intro
theorem tw3493717111155160527 : True := True.intro
theorem tw16158619036321959407 : True := True.intro
theorem tw15228807520496212463 : True := True.intro
theorem tw11024222330075796079 : True := True.intro
theorem tw12631932088317031055 : True := True.intro
theorem tw10012880186880212623 : True := True.intro
theorem tw11709330566771433103 : True := True.intro
theorem tw5987830557187376847 : True := True.intro
theorem tw17471934795394947791 : True := True.intro
theorem tw17273587926920868623 : True := True.intro
theorem tw18095200977026478895 : True := True.intro
theorem tw6679266806504041263 : True := True.intro
theorem tw2101469004524951375 : True := True.intro
theorem tw11319892378374348655 : True := True.intro
theorem tw9657781627882305391 : True := True.intro
theorem tw13315533130655954831 : True := True.intro
theorem tw8879563391730754479 : True := True.intro
theorem tw16649331688326792143 : True := True.intro
theorem tw8811097733284410319 : True := True.intro
theorem tw1197925565968671727 : True := True.intro
theorem tw15207398651663016943 : True := True.intro
theorem tw18421049791903953903 : True := True.intro
theorem tw402640490398009360 : True := True.intro
theorem tw6412770499399676944 : True := True.intro
theorem tw15427206886491885616 : True := True.intro
theorem tw5303092186841521200 : True := True.intro
theorem tw8801323125487838256 : True := True.intro
theorem tw8898355551111435312 : True := True.intro
theorem tw16011055738799735888 : True := True.intro
theorem tw16639802674150441104 : True := True.intro
theorem tw10216474801634566288 : True := True.intro
theorem tw6669269137521125552 : True := True.intro
theorem tw7182994202766372144 : True := True.intro
theorem tw10643592516055977328 : True := True.intro
theorem tw10491609206876299696 : True := True.intro
theorem tw11115866451450875312 : True := True.intro
theorem tw7891253978561527248 : True := True.intro
theorem tw940617070666608080 : True := True.intro
theorem tw5135410709514514960 : True := True.intro
theorem tw13285133528070534704 : True := True.intro
theorem tw11448603824021199408 : True := True.intro
theorem tw16853341256802265648 : True := True.intro
theorem tw12995909851351757392 : True := True.intro
theorem tw3364418463632694928 : True := True.intro
theorem tw7382370116671421104 : True := True.intro
theorem tw14667805832236412624 : True := True.intro
theorem tw11224897151958998736 : True := True.intro
theorem tw8351282476255451920 : True := True.intro
theorem tw11551083187376567056 : True := True.intro
theorem tw651126834518081296 : True := True.intro
theorem tw12614811148066621264 : True := True.intro
theorem tw17902569758825723728 : True := True.intro
theorem tw6755925336976613232 : True := True.intro
theorem tw7752569895197466512 : True := True.intro
theorem tw15279998641719260112 : True := True.intro
theorem tw16178712458983371728 : True := True.intro
theorem tw3434918251397683217 : True := True.intro
theorem tw155142512498542641 : True := True.intro
theorem tw13790719812936386609 : True := True.intro
theorem tw876933089483189297 : True := True.intro
theorem tw15527848837575444561 : True := True.intro
theorem tw17213754286329925777 : True := True.intro
theorem tw5247051413645994129 : True := True.intro
theorem tw4768578896829404305 : True := True.intro
theorem tw10472018719410664625 : True := True.intro
theorem tw280609765759037681 : True := True.intro
theorem tw432457690288141553 : True := True.intro
theorem tw14705683404202351889 : True := True.intro
theorem tw100483095206116625 : True := True.intro
theorem tw15946356160694317329 : True := True.intro
theorem tw6882427118574961969 : True := True.intro
theorem tw1005483496087919985 : True := True.intro
theorem tw17903497710992402801 : True := True.intro
theorem tw6615107907471364465 : True := True.intro
theorem tw16634568088961857937 : True := True.intro
theorem tw15852365999677673905 : True := True.intro
theorem tw16056359734778111409 : True := True.intro
theorem tw2598446214317162929 : True := True.intro
theorem tw7082855905992002993 : True := True.intro
theorem tw14246236162039180721 : True := True.intro
theorem tw11034497122203965937 : True := True.intro
theorem tw13478424178397462001 : True := True.intro
theorem tw4691279627582602737 : True := True.intro
theorem tw8015326511298524721 : True := True.intro
theorem tw94963384534068785 : True := True.intro
theorem tw13220430256171166289 : True := True.intro
theorem tw3828038474966422129 : True := True.intro
theorem tw12113243949977362033 : True := True.intro
theorem tw908340440784498289 : True := True.intro
theorem tw5961118342813265553 : True := True.intro
theorem tw1603739661141634737 : True := True.intro
theorem tw8117029840178788049 : True := True.intro
theorem tw10933677585905718993 : True := True.intro
theorem tw6278647508926252785 : True := True.intro
theorem tw1208734638264122097 : True := True.intro
theorem tw6545403380812914513 : True := True.intro
theorem tw7317836474542784337 : True := True.intro
theorem tw8191903926673212241 : True := True.intro
theorem tw16053994301053490033 : True := True.intro
theorem tw9341642984632610673 : True := True.intro
theorem tw5716766192118558609 : True := True.intro
theorem tw16029623286316568529 : True := True.intro
theorem tw6759412095888398321 : True := True.intro
theorem tw8683856772340465682 : True := True.intro
theorem tw16661405048812198066 : True := True.intro
theorem tw14586822029978311858 : True := True.intro
theorem tw8025032847418708242 : True := True.intro
theorem tw11749099774412794130 : True := True.intro
theorem tw4432475053497693458 : True := True.intro
theorem tw9641152695372364146 : True := True.intro
theorem tw14772383043592177042 : True := True.intro
theorem tw15813434630575017362 : True := True.intro
theorem tw7754304195085646258 : True := True.intro
theorem tw12778418089203562962 : True := True.intro
theorem tw5366084841770067474 : True := True.intro
theorem tw2167537188350426706 : True := True.intro
theorem tw2042874687063273074 : True := True.intro
theorem tw17377529257436501650 : True := True.intro
theorem tw250903467453971090 : True := True.intro
theorem tw7657299143145469618 : True := True.intro
theorem tw15963624873386084050 : True := True.intro
theorem tw15606596725942863602 : True := True.intro
theorem tw10465514089279642386 : True := True.intro
theorem tw8053944837975664402 : True := True.intro
theorem tw14560493823538711346 : True := True.intro
theorem tw9298403506768410418 : True := True.intro
theorem tw12629568148972539762 : True := True.intro
theorem tw2139204274930982770 : True := True.intro
theorem tw6293948785866598258 : True := True.intro
theorem tw16587392273704687506 : True := True.intro
theorem tw7296583596125217682 : True := True.intro
theorem tw15083628210047938546 : True := True.intro
theorem tw12680359339953738771 : True := True.intro
theorem tw9513423893830186035 : True := True.intro
theorem tw10601615944963115059 : True := True.intro
theorem tw561391293025646643 : True := True.intro
theorem tw4724112764586752083 : True := True.intro
theorem tw17429513623812275283 : True := True.intro
theorem tw8538877666451538035 : True := True.intro
theorem tw2520547789009102003 : True := True.intro
theorem tw6295535725891239091 : True := True.intro
theorem tw3694398316872202419 : True := True.intro
theorem tw10806950440038215891 : True := True.intro
theorem tw9184186324627900627 : True := True.intro
theorem tw5657824000916062451 : True := True.intro
theorem tw17454471701868102899 : True := True.intro
theorem tw5567388512258382067 : True := True.intro
theorem tw5238241317806426387 : True := True.intro
theorem tw12590977762386282803 : True := True.intro
theorem tw16945582573551092051 : True := True.intro
theorem tw14168552714766633299 : True := True.intro
theorem tw16502264421070913907 : True := True.intro
theorem tw17495340751864218003 : True := True.intro
theorem tw1382963296337349011 : True := True.intro
theorem tw16432713993328977331 : True := True.intro
theorem tw8311109941518608819 : True := True.intro
theorem tw7793673504863384051 : True := True.intro
theorem tw17772917993097084435 : True := True.intro
theorem tw9258706019582205459 : True := True.intro
theorem tw18103342009636024947 : True := True.intro
theorem tw14984183105004643987 : True := True.intro
theorem tw4115565904173853331 : True := True.intro
theorem tw3008623586974134963 : True := True.intro
theorem tw9813410681712176819 : True := True.intro
theorem tw920214292312260371 : True := True.intro
theorem tw16640546478005224243 : True := True.intro
theorem tw15948780112781908787 : True := True.intro
theorem tw11852641145169952659 : True := True.intro
theorem tw15889433306838628275 : True := True.intro
theorem tw10845626234925267891 : True := True.intro
theorem tw13409441903868389331 : True := True.intro
theorem tw4851647983119433812 : True := True.intro
theorem tw9215163618515126356 : True := True.intro
theorem tw12487542160262675636 : True := True.intro
theorem tw13463106324228987060 : True := True.intro
theorem tw14151535006965253332 : True := True.intro
theorem tw4367231431732253908 : True := True.intro
theorem tw4823875265637086484 : True := True.intro
theorem tw15529170255622000948 : True := True.intro
theorem tw6164396464334811476 : True := True.intro
theorem tw7540655947842036084 : True := True.intro
theorem tw10905181550472923540 : True := True.intro
theorem tw7339039647409124788 : True := True.intro
theorem tw9976723597467198900 : True := True.intro
theorem tw15422856539912107476 : True := True.intro
theorem tw6998783941825042932 : True := True.intro
theorem tw7366208706002141716 : True := True.intro
theorem tw10273187271170590260 : True := True.intro
theorem tw4725425184044842548 : True := True.intro
theorem tw7540741092611519060 : True := True.intro
theorem tw11256106856564762260 : True := True.intro
theorem tw18293732401869909652 : True := True.intro
theorem tw17143746779515762356 : True := True.intro
theorem tw9131607905817354932 : True := True.intro
theorem tw13994979335412520660 : True := True.intro
theorem tw14439243815434019604 : True := True.intro
theorem tw7289601568589263668 : True := True.intro
theorem tw697623264460660564 : True := True.intro
theorem tw6136932545381038964 : True := True.intro
theorem tw9258712216579463092 : True := True.intro
theorem tw17542962492245011380 : True := True.intro
theorem tw5629675986466331604 : True := True.intro
theorem tw6598312636042714100 : True := True.intro
theorem tw15625209780758371316 : True := True.intro
theorem tw1439246655266547700 : True := True.intro
theorem tw11915594877312485397 : True := True.intro
theorem tw13566260322249332789 : True := True.intro
theorem tw11162318198679636149 : True := True.intro
theorem tw9496365245306024149 : True := True.intro
theorem tw12870888531099404533 : True := True.intro
theorem tw9753359207989701909 : True := True.intro
theorem tw13225837485096350037 : True := True.intro
theorem tw6442067068224118133 : True := True.intro
theorem tw14106227501169856981 : True := True.intro
theorem tw14103535550066685397 : True := True.intro
theorem tw2608437505485318709 : True := True.intro
theorem tw17673860158736603733 : True := True.intro
theorem tw3571134770919094901 : True := True.intro
theorem tw16357263729072622229 : True := True.intro
theorem tw9215827820722605749 : True := True.intro
theorem tw3973766799837268725 : True := True.intro
theorem tw2042292140826266357 : True := True.intro
theorem tw15508949281206285077 : True := True.intro
theorem tw5486487638281291605 : True := True.intro
theorem tw16302227732802510677 : True := True.intro
theorem tw13609717118414637909 : True := True.intro
theorem tw13483081372092288885 : True := True.intro
theorem tw9427301549700849589 : True := True.intro
theorem tw3941438180925939637 : True := True.intro
theorem tw1425423193147277237 : True := True.intro
theorem tw6820862383352777685 : True := True.intro
theorem tw10919297434634762262 : True := True.intro
theorem tw7240586211207864342 : True := True.intro
theorem tw18439511094173506614 : True := True.intro
theorem tw18355956095166494838 : True := True.intro
theorem tw5643178794243155062 : True := True.intro
theorem tw10522781889535271158 : True := True.intro
theorem tw8343274005884668182 : True := True.intro
theorem tw1848646778235469078 : True := True.intro
theorem tw7941745277869089046 : True := True.intro
theorem tw3513125359445811510 : True := True.intro
theorem tw4126306136578151734 : True := True.intro
theorem tw1413172679324656950 : True := True.intro
theorem tw16473244170626142550 : True := True.intro
theorem tw16713699803418581334 : True := True.intro
theorem tw3452082135128663414 : True := True.intro
theorem tw1331487369976884630 : True := True.intro
theorem tw11814627755841444246 : True := True.intro
theorem tw15610959940260225430 : True := True.intro
theorem tw17640862679970642326 : True := True.intro
theorem tw11213053971927718326 : True := True.intro
theorem tw7261450039545342454 : True := True.intro
theorem tw17577478241444706838 : True := True.intro
theorem tw12480425521718506038 : True := True.intro
theorem tw12131494931117144662 : True := True.intro
theorem tw617508947420966582 : True := True.intro
theorem tw15179676742415161110 : True := True.intro
theorem tw8428860471423672150 : True := True.intro
theorem tw7872162285098387286 : True := True.intro
theorem tw4138081844389336918 : True := True.intro
theorem tw7829580234814923638 : True := True.intro
theorem tw8770659054964912022 : True := True.intro
theorem tw3312855554403267510 : True := True.intro
theorem tw4609310046291750870 : True := True.intro
theorem tw8721321648031231958 : True := True.intro
theorem tw15367242080415987702 : True := True.intro
theorem tw6184460063843016694 : True := True.intro
theorem tw15615537253650120727 : True := True.intro
theorem tw11905163887095721015 : True := True.intro
theorem tw10098268173465320503 : True := True.intro
theorem tw18406568778348887127 : True := True.intro
theorem tw2216850387143573719 : True := True.intro
theorem tw6506366617586733335 : True := True.intro
theorem tw18368451091360184599 : True := True.intro
theorem tw6709418730364537143 : True := True.intro
theorem tw1717729237380139383 : True := True.intro
theorem tw2448417245163862455 : True := True.intro
theorem tw5283464899586487735 : True := True.intro
theorem tw10955317050725887447 : True := True.intro
theorem tw16970440968685349367 : True := True.intro
theorem tw3442329435671937591 : True := True.intro
theorem tw13783031573616600631 : True := True.intro
theorem tw3673089383077640791 : True := True.intro
theorem tw8044012406986999415 : True := True.intro
theorem tw14438451200097066615 : True := True.intro
theorem tw15416985209724490359 : True := True.intro
theorem tw7292484366425897655 : True := True.intro
theorem tw12393119488966705847 : True := True.intro
theorem tw13574768056931433239 : True := True.intro
theorem tw3381375190539634487 : True := True.intro
theorem tw13468300074154594103 : True := True.intro
theorem tw307737655149646647 : True := True.intro
theorem tw10482398316924776279 : True := True.intro
theorem tw9073681462420916055 : True := True.intro
theorem tw11434409384045074295 : True := True.intro
theorem tw15026137623113221015 : True := True.intro
theorem tw6879831473291441079 : True := True.intro
theorem tw11389486352061984695 : True := True.intro
theorem tw8377043916266704855 : True := True.intro
theorem tw11136197038861592535 : True := True.intro
theorem tw7712819752767893495 : True := True.intro
theorem tw6140570298594658328 : True := True.intro
theorem tw2951005344575393816 : True := True.intro
theorem tw10654345511274693656 : True := True.intro
theorem tw9345676750909349944 : True := True.intro
theorem tw1643121930917553208 : True := True.intro
theorem tw8803977449572941912 : True := True.intro
theorem tw16456969618363192440 : True := True.intro
theorem tw18300207936620678264 : True := True.intro
theorem tw5562173858411828344 : True := True.intro
theorem tw262745018181394680 : True := True.intro
theorem tw17650839729002327288 : True := True.intro
theorem tw2799067240506288376 : True := True.intro
theorem tw14835919218567510360 : True := True.intro
theorem tw2274498078352570744 : True := True.intro
theorem tw14768889098011018680 : True := True.intro
theorem tw9983964734214183352 : True := True.intro
theorem tw15759970867653108152 : True := True.intro
theorem tw5511420028821071320 : True := True.intro
theorem tw13267510147771200024 : True := True.intro
theorem tw7191455744419660376 : True := True.intro
theorem tw12769127236821124696 : True := True.intro
theorem tw15048261121198461528 : True := True.intro
theorem tw14176624398918483544 : True := True.intro
theorem tw3333446698644548216 : True := True.intro
theorem tw1584506945513601688 : True := True.intro
theorem tw11984409736253958808 : True := True.intro
theorem tw8516288146210602744 : True := True.intro
theorem tw8770205317985620760 : True := True.intro
theorem tw3920623390966001496 : True := True.intro
theorem tw701333769924781912 : True := True.intro
theorem tw10778013660560245624 : True := True.intro
theorem tw10860895700388868024 : True := True.intro
theorem tw15987713032478767096 : True := True.intro
theorem tw12994019391074448376 : True := True.intro
theorem tw4065347644161347641 : True := True.intro
theorem tw17088047866570459193 : True := True.intro
theorem tw4788038989552484473 : True := True.intro
theorem tw728884934406724761 : True := True.intro
theorem tw1588505670450824345 : True := True.intro
theorem tw15213948185873263833 : True := True.intro
theorem tw2603259988358896889 : True := True.intro
theorem tw5859118754885311737 : True := True.intro
theorem tw9467313397243273497 : True := True.intro
theorem tw2845679848157327705 : True := True.intro
theorem tw18291419657060728153 : True := True.intro
theorem tw17789176322338366841 : True := True.intro
theorem tw3536873572635521401 : True := True.intro
theorem tw14006173549557618073 : True := True.intro
theorem tw1222794163293265305 : True := True.intro
theorem tw10784824025267889561 : True := True.intro
theorem tw11399449904127653305 : True := True.intro
theorem tw4051861999690219993 : True := True.intro
theorem tw2922222751358710265 : True := True.intro
theorem tw11119798521548139033 : True := True.intro
theorem tw3953601041324332601 : True := True.intro
theorem tw8317466277049474617 : True := True.intro
theorem tw12350410155528471161 : True := True.intro
theorem tw881544763273948857 : True := True.intro
theorem tw16684818696116721337 : True := True.intro
theorem tw2658526732547218105 : True := True.intro
theorem tw16772102934027710169 : True := True.intro
theorem tw3940546777539579641 : True := True.intro
theorem tw15539972788704006969 : True := True.intro
theorem tw17574625026820762457 : True := True.intro
theorem tw17330945745186091897 : True := True.intro
theorem tw15102309248680683417 : True := True.intro
theorem tw10737458330869947321 : True := True.intro
theorem tw8081886968326746073 : True := True.intro
theorem tw6982297934935202809 : True := True.intro
theorem tw17047115858639842297 : True := True.intro
theorem tw13047593935725612058 : True := True.intro
theorem tw13132618709999183898 : True := True.intro
theorem tw7854228177987924090 : True := True.intro
theorem tw5902613922787404954 : True := True.intro
theorem tw15673258824015622330 : True := True.intro
theorem tw11953376511379268794 : True := True.intro
theorem tw14673209030070457562 : True := True.intro
theorem tw541196102884509978 : True := True.intro
theorem tw578887228443019578 : True := True.intro
theorem tw12050417470231563642 : True := True.intro
theorem tw2114630138375439770 : True := True.intro
theorem tw5592360268479517082 : True := True.intro
theorem tw1147470481896660410 : True := True.intro
theorem tw6868836192036940282 : True := True.intro
theorem tw8388490664507918906 : True := True.intro
theorem tw1600037746751723098 : True := True.intro
theorem tw7526368328331116154 : True := True.intro
theorem tw2900905267640511130 : True := True.intro
theorem tw16157073509204512506 : True := True.intro
theorem tw2578790182627478330 : True := True.intro
theorem tw11232374478483605306 : True := True.intro
theorem tw12394076208661396346 : True := True.intro
theorem tw11652457597714270106 : True := True.intro
theorem tw13038990169509382042 : True := True.intro
theorem tw16414904818172857274 : True := True.intro
theorem tw10283529075043463162 : True := True.intro
theorem tw2001351230973187099 : True := True.intro
theorem tw1936894748134917147 : True := True.intro
theorem tw1610171440888473627 : True := True.intro
theorem tw13534587687697041467 : True := True.intro
theorem tw7927469264209771579 : True := True.intro
theorem tw13372043803930879067 : True := True.intro
theorem tw12685813987229840507 : True := True.intro
theorem tw14137390275340422267 : True := True.intro
theorem tw11032806212648032379 : True := True.intro
theorem tw15103106377680225435 : True := True.intro
theorem tw5362516397382645915 : True := True.intro
theorem tw14353793391729792155 : True := True.intro
theorem tw11672842613191775419 : True := True.intro
theorem tw11079593142295127227 : True := True.intro
theorem tw128412058910260475 : True := True.intro
theorem tw15675198926951892251 : True := True.intro
theorem tw14478148883734587675 : True := True.intro
theorem tw11472165163037031739 : True := True.intro
theorem tw1976262728313527643 : True := True.intro
theorem tw5073084297179040123 : True := True.intro
theorem tw10024716035694756283 : True := True.intro
theorem tw5220083430330967483 : True := True.intro
theorem tw13828106393651249627 : True := True.intro
theorem tw6848782300941138395 : True := True.intro
theorem tw17491317419825422843 : True := True.intro
theorem tw2808349399557158395 : True := True.intro
theorem tw5388632664720090651 : True := True.intro
theorem tw16007149819294483003 : True := True.intro
theorem tw14120982254508448379 : True := True.intro
theorem tw518976864732996251 : True := True.intro
theorem tw9087110039335098043 : True := True.intro
theorem tw9719896912496429819 : True := True.intro
theorem tw8945485805214734075 : True := True.intro
theorem tw4883613257557613307 : True := True.intro
theorem tw1792636949448641307 : True := True.intro
theorem tw4299596416071116603 : True := True.intro
theorem tw404451572033071931 : True := True.intro
theorem tw3878383114103592795 : True := True.intro
theorem tw6965799899956892507 : True := True.intro
theorem tw3215350286424857435 : True := True.intro
theorem tw461538923250603899 : True := True.intro
theorem tw7492773218913965947 : True := True.intro
theorem tw1154801424537406331 : True := True.intro
theorem tw5189956158058943387 : True := True.intro
theorem tw11898664097942606779 : True := True.intro
theorem tw15642763164714097627 : True := True.intro
theorem tw1582976572388173787 : True := True.intro
theorem tw13770079208771991547 : True := True.intro
theorem tw7268811288439504891 : True := True.intro
theorem tw15766875824913328220 : True := True.intro
theorem tw1118553966540926140 : True := True.intro
theorem tw15634565183472343292 : True := True.intro
theorem tw11319097763535126812 : True := True.intro
theorem tw13365295217650922812 : True := True.intro
theorem tw2336748640663733628 : True := True.intro
theorem tw395138700845864316 : True := True.intro
theorem tw2468469042602058204 : True := True.intro
theorem tw4817003022231809500 : True := True.intro
theorem tw15615420239508185596 : True := True.intro
theorem tw12591134339009171964 : True := True.intro
theorem tw16091413853298234908 : True := True.intro
theorem tw2887051446865420828 : True := True.intro
theorem tw7578210074245671484 : True := True.intro
theorem tw1699103778626983548 : True := True.intro
theorem tw10210669037155785340 : True := True.intro
theorem tw3451239065008710300 : True := True.intro
theorem tw17599816209265215132 : True := True.intro
theorem tw2327210489368252092 : True := True.intro
theorem tw13262116225945230012 : True := True.intro
theorem tw2252305205657439004 : True := True.intro
theorem tw689954013368505116 : True := True.intro
theorem tw6019021122589006684 : True := True.intro
theorem tw13160604113216922460 : True := True.intro
theorem tw1194904439430580092 : True := True.intro
theorem tw17335414052712997756 : True := True.intro
theorem tw4402725079659364252 : True := True.intro
theorem tw1331086792558400476 : True := True.intro
theorem tw14852329139284432860 : True := True.intro
theorem tw11117797201346649052 : True := True.intro
theorem tw18219297243305740317 : True := True.intro
theorem tw922143313871775805 : True := True.intro
theorem tw15199589371867527261 : True := True.intro
theorem tw15697423400787487869 : True := True.intro
theorem tw10508133024638518461 : True := True.intro
theorem tw4363365295628954845 : True := True.intro
theorem tw15992342658441690333 : True := True.intro
theorem tw6199765714743212253 : True := True.intro
theorem tw3876449026389394717 : True := True.intro
theorem tw5433107678231618845 : True := True.intro
theorem tw17714235663813219645 : True := True.intro
theorem tw10102539355485613405 : True := True.intro
theorem tw2457190517430149469 : True := True.intro
theorem tw2855845756224970109 : True := True.intro
theorem tw16868993833207775613 : True := True.intro
theorem tw4478177076189095293 : True := True.intro
theorem tw6924109203229866365 : True := True.intro
theorem tw11636924220087485885 : True := True.intro
theorem tw9390866547671247325 : True := True.intro
theorem tw10792051664901133789 : True := True.intro
theorem tw14462709497994964445 : True := True.intro
theorem tw5608270528595127837 : True := True.intro
theorem tw13532847315355080253 : True := True.intro
theorem tw18330183385023645277 : True := True.intro
theorem tw3646829019195819677 : True := True.intro
theorem tw13531707123254989501 : True := True.intro
theorem tw526207354791536317 : True := True.intro
theorem tw15578025631644234493 : True := True.intro
theorem tw845060206244984605 : True := True.intro
theorem tw13051953538815563581 : True := True.intro
theorem tw2489000522355961661 : True := True.intro
theorem tw8226494294326810461 : True := True.intro
theorem tw17217394356764393341 : True := True.intro
theorem tw12509009523430927325 : True := True.intro
theorem tw9277588360372424766 : True := True.intro
theorem tw3182187488490625086 : True := True.intro
theorem tw16194383521188589630 : True := True.intro
theorem tw11631869004601391166 : True := True.intro
theorem tw7746578258024575070 : True := True.intro
theorem tw3386092968808520798 : True := True.intro
theorem tw9741966583888296062 : True := True.intro
theorem tw6123773746684550334 : True := True.intro
theorem tw6838551448383532254 : True := True.intro
theorem tw511748877826530558 : True := True.intro
theorem tw16169374299450900766 : True := True.intro
theorem tw18087722134493236510 : True := True.intro
theorem tw10835030195340973342 : True := True.intro
theorem tw13638418597567726942 : True := True.intro
theorem tw4172343393113369950 : True := True.intro
theorem tw17681399029576232318 : True := True.intro
theorem tw13431754692932380062 : True := True.intro
theorem tw8664936974563722654 : True := True.intro
theorem tw8312999807965096350 : True := True.intro
theorem tw1810128313956251070 : True := True.intro
theorem tw17901334829092211166 : True := True.intro
theorem tw8210421348078903774 : True := True.intro
theorem tw17739348878880393726 : True := True.intro
theorem tw13293453174229064190 : True := True.intro
theorem tw2329189449893159454 : True := True.intro
theorem tw9533747618267967006 : True := True.intro
theorem tw3763122126050802206 : True := True.intro
theorem tw18233516762306594366 : True := True.intro
theorem tw3480954088277226078 : True := True.intro
theorem tw9763420282994701918 : True := True.intro
theorem tw16301592386811335294 : True := True.intro
theorem tw7510230149288206974 : True := True.intro
theorem tw17312999752573914782 : True := True.intro
theorem tw12744807935193187038 : True := True.intro
theorem tw8047900516022102942 : True := True.intro
theorem tw14734422494747241438 : True := True.intro
theorem tw6423634429210846174 : True := True.intro
theorem tw14955159897011116063 : True := True.intro
theorem tw6931407450589930559 : True := True.intro
theorem tw12070051907170230399 : True := True.intro
theorem tw3530705653197291679 : True := True.intro
theorem tw6761669909254768831 : True := True.intro
theorem tw4478166936697009375 : True := True.intro
theorem tw6902198413751149823 : True := True.intro
theorem tw7712595579559962911 : True := True.intro
theorem tw5505332120971382143 : True := True.intro
theorem tw825126770350376351 : True := True.intro
theorem tw9420132969298855359 : True := True.intro
theorem tw15277330632498426303 : True := True.intro
theorem tw2781682124601125471 : True := True.intro
theorem tw11283319371284918911 : True := True.intro
theorem tw10543509907540572799 : True := True.intro
theorem tw5245234834050458271 : True := True.intro
theorem tw442638132926106271 : True := True.intro
theorem tw14400467628812073631 : True := True.intro
theorem tw8589211134812392127 : True := True.intro
theorem tw3309697970292668127 : True := True.intro
theorem tw7006195865600381663 : True := True.intro
theorem tw442598702932729631 : True := True.intro
theorem tw9077708301081682751 : True := True.intro
theorem tw14685462170515437407 : True := True.intro
theorem tw1051681510052472703 : True := True.intro
theorem tw6109525258741381055 : True := True.intro
theorem tw10558106933452604415 : True := True.intro
theorem tw8527621272656059169 : True := True.intro
theorem tw10710366107781943918 : True := True.intro
theorem tw16014735704396241088 : True := True.intro
theorem tw903710072131421504 : True := True.intro
theorem tw14542477753969601888 : True := True.intro
theorem tw14385737353155494336 : True := True.intro
theorem tw13891968929593616864 : True := True.intro
theorem tw8039371943186304896 : True := True.intro
theorem tw9243512112332666848 : True := True.intro
theorem tw143743069176825665 : True := True.intro
theorem tw5098321944479015937 : True := True.intro
theorem tw5105964889138650625 : True := True.intro
theorem tw1004238801687271554 : True := True.intro
theorem tw17356079562337369282 : True := True.intro
theorem tw17276288508023261506 : True := True.intro
theorem tw244873865359720387 : True := True.intro
theorem tw11663684413504578691 : True := True.intro
theorem tw4252139128383103427 : True := True.intro
theorem tw13539768667926661284 : True := True.intro
theorem tw6965649161740922116 : True := True.intro
theorem tw6534853529427597060 : True := True.intro
theorem tw14661338273414851460 : True := True.intro
theorem tw9890969818722798468 : True := True.intro
theorem tw8105106791180821189 : True := True.intro
theorem tw13674302018524248965 : True := True.intro
theorem tw11946373258849568677 : True := True.intro
theorem tw4111317327965557701 : True := True.intro
theorem tw341820401321547014 : True := True.intro
theorem tw10772216173909347750 : True := True.intro
theorem tw11089330025113058311 : True := True.intro
theorem tw13953224674816840999 : True := True.intro
theorem tw11143315561309040935 : True := True.intro
theorem tw11836995389068667431 : True := True.intro
theorem tw3804101130629673543 : True := True.intro
theorem tw5460382040090221287 : True := True.intro
theorem tw5956159591556548744 : True := True.intro
theorem tw8549085191483862152 : True := True.intro
theorem tw2176396418334246056 : True := True.intro
theorem tw17990052215477064904 : True := True.intro
theorem tw13368907331878050536 : True := True.intro
theorem tw11049477426961365545 : True := True.intro
theorem tw8292428783781607337 : True := True.intro
theorem tw11556547117343562602 : True := True.intro
theorem tw15919743651299728714 : True := True.intro
theorem tw1452323189478189194 : True := True.intro
theorem tw3068626590216125067 : True := True.intro
theorem tw731358910480959467 : True := True.intro
theorem tw15375227678747585548 : True := True.intro
theorem tw7745708289991266380 : True := True.intro
theorem tw17357382880675425580 : True := True.intro
theorem tw11064887992039522860 : True := True.intro
theorem tw352588473869434700 : True := True.intro
theorem tw6723779790479834988 : True := True.intro
theorem tw7664696099033534861 : True := True.intro
theorem tw1969906451046445517 : True := True.intro
theorem tw13526583936194387533 : True := True.intro
theorem tw4151116448690869837 : True := True.intro
theorem tw5709861780791126829 : True := True.intro
theorem tw14051791100685154350 : True := True.intro
theorem tw4915161079310192046 : True := True.intro
theorem tw13635129878441299406 : True := True.intro
theorem tw8694004520119643630 : True := True.intro
theorem tw2097680816901411726 : True := True.intro
theorem tw5124161298454374415 : True := True.intro
theorem tw16363664528195695695 : True := True.intro
theorem tw7733176289682358447 : True := True.intro
theorem tw8999134797652655375 : True := True.intro
theorem tw18038281197376885455 : True := True.intro
theorem tw11444202928732768047 : True := True.intro
theorem tw8068496957233503087 : True := True.intro
theorem tw17917119361391261808 : True := True.intro
theorem tw10379442696754522256 : True := True.intro
theorem tw2231743366245817488 : True := True.intro
theorem tw16663394860563009872 : True := True.intro
theorem tw15536900936745235856 : True := True.intro
theorem tw8490177021903193680 : True := True.intro
theorem tw9372937879197021201 : True := True.intro
theorem tw12652655798378041425 : True := True.intro
theorem tw502745375322424593 : True := True.intro
theorem tw1367144153088436689 : True := True.intro
theorem tw6109431441050809937 : True := True.intro
theorem tw13352402155397119506 : True := True.intro
theorem tw5010907636083844690 : True := True.intro
theorem tw13287924156821601106 : True := True.intro
theorem tw2786436171457423346 : True := True.intro
theorem tw10064886333464016051 : True := True.intro
theorem tw11774225606250059059 : True := True.intro
theorem tw6127398856752478515 : True := True.intro
theorem tw16964718364466963891 : True := True.intro
theorem tw10297815791343757875 : True := True.intro
theorem tw16746282723141077875 : True := True.intro
theorem tw633567430033295251 : True := True.intro
theorem tw7834022774083366867 : True := True.intro
theorem tw11422787209282011123 : True := True.intro
theorem tw3215794943727491444 : True := True.intro
theorem tw6249758972716995188 : True := True.intro
theorem tw132015784616639284 : True := True.intro
theorem tw15659018829163451220 : True := True.intro
theorem tw11645945743676507124 : True := True.intro
theorem tw15811581484700849941 : True := True.intro
theorem tw3688161783237433397 : True := True.intro
theorem tw8642242292437057365 : True := True.intro
theorem tw2044286867509539094 : True := True.intro
theorem tw9627792062320971286 : True := True.intro
theorem tw8118994958719940150 : True := True.intro
theorem tw18302324863663760086 : True := True.intro
theorem tw16423609249724011478 : True := True.intro
theorem tw6723734420912230455 : True := True.intro
theorem tw7676551415503813815 : True := True.intro
theorem tw17627028057903351991 : True := True.intro
theorem tw476731581301967223 : True := True.intro
theorem tw4744680148050362775 : True := True.intro
theorem tw10787066837457580471 : True := True.intro
theorem tw6583065555048444727 : True := True.intro
theorem tw18427712015126628984 : True := True.intro
theorem tw5489657046097688697 : True := True.intro
theorem tw12438618735747964505 : True := True.intro
theorem tw15618065613118150233 : True := True.intro
theorem tw855141152536209049 : True := True.intro
theorem tw772622182569526009 : True := True.intro
theorem tw8248448463837893401 : True := True.intro
theorem tw4906139425530541146 : True := True.intro
theorem tw18246323882658239002 : True := True.intro
theorem tw8980651311111672570 : True := True.intro
theorem tw15433049194421409562 : True := True.intro
theorem tw9969309209821462875 : True := True.intro
theorem tw751078404293980123 : True := True.intro
theorem tw14409080867774154364 : True := True.intro
theorem tw5588706630758264349 : True := True.intro
theorem tw1247576604252535325 : True := True.intro
theorem tw17621353552769401565 : True := True.intro
theorem tw5477367815616820061 : True := True.intro
theorem tw8791149770479183486 : True := True.intro
theorem tw17516563652736396190 : True := True.intro
theorem tw12751447791616757663 : True := True.intro
end hd
theorem hd : PySem.Challenge.rw_xm0772_01.Holds := by
  (w_on; o_law; (o_head (kHook myK myA myA_is)); (case hw => w_witness2); exact walk _ _ _ _ _ rfl)
end
end Mine

theorem PySem.Challenge.cw_xm0772_01_holds : PySem.Challenge.rw_xm0772_01.Holds :=
  Mine.hd
