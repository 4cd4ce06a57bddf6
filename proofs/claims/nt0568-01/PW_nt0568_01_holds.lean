import PyProof.Rows.All
import Wide.All
import OpenK.AllK
import Wide.FinOn
import Lean
import PySem.Challenge.RW_nt0568_01
set_option Elab.async false
set_option maxRecDepth 100000
set_option linter.all false
set_option compiler.extract_closed false
set_option maxHeartbeats 4000000
section
namespace Mine
theorem n1 {a b c : Nat} (h : a < b) (k : Nat.ble b c = true) : a < c := Nat.lt_of_lt_of_le h (Nat.le_of_ble_eq_true k)
theorem n2 {a b c : Nat} (h : a < b) (k : Nat.ble b (c + 1) = true) : a ≤ c := Nat.le_of_lt_succ (Nat.lt_of_lt_of_le h (Nat.le_of_ble_eq_true k))
theorem n3 {a b c : Nat} (h : a ≤ b) (k : Nat.ble b c = true) : a ≤ c := Nat.le_trans h (Nat.le_of_ble_eq_true k)
theorem n4 {a b c : Nat} (h : a ≤ b) (k : Nat.ble (b + 1) c = true) : a < c := Nat.lt_of_le_of_lt h (Nat.le_of_ble_eq_true k)
theorem n5 {a b c d : Nat} (h : a < b) (h2 : b ≤ c) (k : Nat.ble c d = true) : a < d := Nat.lt_of_lt_of_le h (Nat.le_trans h2 (Nat.le_of_ble_eq_true k))
theorem n6 {a b c d : Nat} (h : a < b) (h2 : b = c) (k : Nat.ble c d = true) : a < d := n5 h (Nat.le_of_eq h2) k
theorem n7 {a b c d : Nat} (h : a = b) (h2 : b ≤ c) (k : Nat.ble c d = true) : a ≤ d := h ▸ n3 h2 k
theorem n8 {a b c d : Nat} (h : a = b) (h2 : b < c) (k : Nat.ble c (d + 1) = true) : a ≤ d := h ▸ n2 h2 k
theorem n9 {a b c d : Nat} (h : a = b) (h2 : b < c) (k : Nat.ble c d = true) : a < d := h ▸ n1 h2 k
theorem n10 {a b c d : Nat} (h : a = b) (h2 : b ≤ c) (k : Nat.ble (c + 1) d = true) : a < d := h ▸ n4 h2 k
theorem n11 {a b c d : Nat} (h : a < b) (h2 : b < c) (k : Nat.ble c d = true) : a < d := Nat.lt_trans h (n1 h2 k)
theorem n12 {a b c d : Nat} (h : a < b) (h2 : b < c) (k : Nat.ble c (d + 1) = true) : a ≤ d := Nat.le_of_lt (Nat.lt_of_lt_of_le h (n2 h2 k))
theorem n13 {a b c d : Nat} (h : a + d < b) (k : Nat.ble b c = true) : a < c := n1 (Nat.lt_of_le_of_lt (Nat.le_add_right a d) h) k
theorem p1 {a b c : Nat} (h : a < b) (k : Nat.ble b (c + 1) = true) : a + 1 ≤ c + 1 := n1 h k
theorem p2 {a b c n : Nat} (h : a < b) (k : Nat.ble (b + n) c = true) : a + n < c := n1 (Nat.add_lt_add_right h n) k
theorem p3 {a b c n : Nat} (h : a < b) (k : Nat.ble (b + n) (c + 1) = true) : a + n ≤ c := n2 (Nat.add_lt_add_right h n) k
theorem p4 {a b c n : Nat} (h : a ≤ b) (k : Nat.ble (b + n) c = true) : a + n ≤ c := n3 (Nat.add_le_add_right h n) k
theorem p5 {a b c d e : Nat} (h : a < b) (h2 : c ≤ d) (k : Nat.ble (b + d) e = true) : a + c < e := n1 (Nat.add_lt_add_of_lt_of_le h h2) k
theorem p6 {a b c n : Nat} (h : a ≤ n * b) (h2 : b < c) (m : Nat) (k : Nat.ble (n * c) m = true) (h0 : Nat.ble 1 n = true) : a < m :=
  Nat.lt_of_le_of_lt h (Nat.lt_of_lt_of_le ((Nat.mul_lt_mul_left (Nat.le_of_ble_eq_true h0)).mpr h2) (Nat.le_of_ble_eq_true k))
theorem z1 {a b : Nat} {M : Int} (h : a < b) (k : decide ((b : Int) ≤ M) = true) : (a : Int) < M := Int.lt_of_lt_of_le (Int.ofNat_lt.mpr h) (of_decide_eq_true k)
theorem z2 {a b : Nat} {M : Int} (h : a < b) (k : decide ((b : Int) ≤ M + 1) = true) : (a : Int) ≤ M := Int.le_of_lt_add_one (z1 h k)
theorem z3 {a b : Nat} {M : Int} (h : a ≤ b) (k : decide ((b : Int) ≤ M) = true) : (a : Int) ≤ M := Int.le_trans (Int.ofNat_le.mpr h) (of_decide_eq_true k)
theorem z4 {a b : Nat} {M : Int} (h : a ≤ b) (k : decide ((b : Int) < M) = true) : (a : Int) < M := Int.lt_of_le_of_lt (Int.ofNat_le.mpr h) (of_decide_eq_true k)
theorem z5 {a : Nat} {M : Int} (k : decide (M < 0) = true) : M < (a : Int) := Int.lt_of_lt_of_le (of_decide_eq_true k) (Int.natCast_nonneg a)
theorem z6 {a : Nat} {M : Int} (k : decide (M ≤ 0) = true) : M ≤ (a : Int) := Int.le_trans (of_decide_eq_true k) (Int.natCast_nonneg a)
theorem z7 {x L M : Int} (h : x < L) (k : decide (L ≤ M) = true) : x < M := Int.lt_of_lt_of_le h (of_decide_eq_true k)
theorem z8 {x L M : Int} (h : x ≤ L) (k : decide (L ≤ M) = true) : x ≤ M := Int.le_trans h (of_decide_eq_true k)
theorem z9 {x L M : Int} (h : L ≤ x) (k : decide (M ≤ L) = true) : M ≤ x := Int.le_trans (of_decide_eq_true k) h
theorem z10 {x L M : Int} (h : L ≤ x) (k : decide (M < L) = true) : M < x := Int.lt_of_lt_of_le (of_decide_eq_true k) h
theorem z11 {x L M : Int} (h : L < x) (k : decide (M ≤ L) = true) : M < x := Int.lt_of_le_of_lt (of_decide_eq_true k) h
theorem z12 {x L M : Int} (h : L < x) (k : decide (M ≤ L + 1) = true) : M ≤ x := Int.le_trans (of_decide_eq_true k) (Int.add_one_le_of_lt h)
theorem z13 {x L M : Int} (h : x < L) (k : decide (L ≤ M + 1) = true) : x ≤ M := Int.le_of_lt_add_one (z7 h k)
theorem z14 {x L M : Int} (h : x ≤ L) (k : decide (L < M) = true) : x < M := Int.lt_of_le_of_lt h (of_decide_eq_true k)
theorem z15 {a b n : Nat} {M : Int} (h : a < b) (k : decide (((n + b : Nat) : Int) ≤ M) = true) : (n : Int) + (a : Int) < M := Int.lt_of_lt_of_le (Int.ofNat_lt.mpr (Nat.add_lt_add_left h n)) (of_decide_eq_true k)
theorem ia1 (k : Int) (i : Nat) : k + (i : Int) + 1 = k + ((i + 1 : Nat) : Int) := Int.add_assoc k i 1
theorem ia2 (i j : Nat) : (i : Int) + (j : Int) + 1 = ((i + j + 1 : Nat) : Int) := rfl
theorem nat_i {a : Nat} : ((a : Int)).toNat = a := rfl
theorem sub1 {a b : Nat} (h : b < a) : a - b = a - b - 1 + 1 := (Nat.sub_add_cancel (Nat.sub_pos_of_lt h)).symm
theorem subc {a b : Nat} (h : b ≤ a) : ((a - b : Nat) : Int) = (a : Int) - b := Int.ofNat_sub h
theorem u1 {a b d : Nat} (h : a + 8 * d < b) (e : Nat) (k : e ≤ d) : a + 8 * e < b := Nat.lt_of_le_of_lt (Nat.add_le_add_left (Nat.mul_le_mul_left 8 k) a) h
theorem u2 {a b d : Nat} (h : a + d < b) {e : Nat} (k : e ≤ d) : a + e < b := Nat.lt_of_le_of_lt (Nat.add_le_add_left k a) h
theorem f1 {a b : Nat} (h : a < b) (k : a = b) : False := Nat.lt_irrefl _ (k ▸ h)
theorem f2 {a b : Nat} (h : a < b) (k : b = a) : False := Nat.lt_irrefl _ (k ▸ h)
theorem f3 {a b : Nat} (h : a < b) (k : b ≤ a) : False := Nat.lt_irrefl _ (Nat.lt_of_lt_of_le h k)
theorem e1 {a b : Nat} (h : a ≤ b) (k : ¬ a < b) : a = b := Nat.le_antisymm h (Nat.le_of_not_lt k)
theorem e2 {a b : Nat} (h : a < b + 1) (k : b ≤ a) : a = b := Nat.le_antisymm (Nat.le_of_lt_succ h) k
theorem e3 {a b : Nat} (h : a ≤ b) (k : ¬ a = b) : a + 1 ≤ b := Nat.lt_of_le_of_ne h k
theorem ab1 {a b : Int} (h : a.natAbs < 2 ^ 14) (k : b.natAbs < 2 ^ 14) : (a - b).natAbs < 2 ^ 15 :=
  Nat.lt_of_le_of_lt (Int.natAbs_sub_le a b) (Nat.lt_of_lt_of_le (Nat.add_lt_add h k) (by decide))
theorem ab2 {x P : Int} {Q : Prop} (h : 0 ≤ x ∧ x < P) (k : Q ∧ P ≤ 16384) : x.natAbs < 2 ^ 14 :=
  Int.ofNat_lt.mp (by rw [Int.natAbs_of_nonneg h.1]; exact Int.lt_of_lt_of_le h.2 k.2)
theorem ab3 {v : Int} {M : Nat} (h : v.natAbs < M) : (-v).natAbs < M := by rw [Int.natAbs_neg]; exact h
theorem tn1 {n i : Nat} (h : i < n) : ((n : Int) - 1 + (i : Int) * -1).toNat = n - 1 - i := by
  rw [Int.mul_neg, Int.mul_one, ← Int.sub_eq_add_neg, show (n : Int) - 1 = ((n - 1 : Nat) : Int) from (Int.ofNat_sub (Nat.zero_lt_of_lt h)).symm]; exact Int.toNat_sub _ _
theorem tn2 (n : Nat) : ((n : Int) - 1).toNat = n - 1 := Int.toNat_sub n 1
theorem tn3 (n : Nat) : ((n : Int) - 8).toNat = n - 8 := Int.toNat_sub n 8
theorem tn4 (i : Nat) : (1 + (i : Int)).toNat = i + 1 := by rw [Int.add_comm]; rfl
theorem tn5 (i : Nat) : (1 + (i : Int) - 1).toNat = i := by rw [Int.add_comm, Int.add_sub_cancel]; rfl
theorem tn6 (i : Nat) : 0 ≤ 1 + (i : Int) - 1 := by rw [Int.add_comm, Int.add_sub_cancel]; exact Int.natCast_nonneg i
theorem tn7 {r M : Int} {m : Nat} (h0 : 0 ≤ r) (h : r < M) (k : decide (M ≤ (m : Int)) = true) : r.toNat < m :=
  (Int.toNat_lt h0).mpr (Int.lt_of_lt_of_le h (of_decide_eq_true k))
theorem rc1 {r : Int} (h : 0 ≤ r) : 1 + r = ((1 + r.toNat : Nat) : Int) := by rw [Int.natCast_add, Int.toNat_of_nonneg h]; rfl
theorem rc2 {r : Int} (h : 0 ≤ r) : 2 + 2 * r = ((2 + 2 * r.toNat : Nat) : Int) := by rw [Int.natCast_add, Int.natCast_mul, Int.toNat_of_nonneg h]; rfl
theorem rc3 {r : Int} (h : 0 ≤ r) : 1 + r - 0 = (((1 + r).toNat : Nat) : Int) := by rw [Int.sub_zero, Int.toNat_of_nonneg (Int.add_nonneg (by decide) h)]
theorem rc4 {r : Int} (h : 0 ≤ r) {n : Nat} (k : n = (1 + r).toNat) : 1 ≤ n := by rw [k, Int.add_comm, Int.toNat_add h (by decide)]; exact Nat.le_add_left _ _
theorem rc5 {x : Int} {n : Nat} (h : x = (n : Int)) : ((x.toNat : Nat) : Int) = (n : Int) := by rw [h]; rfl
theorem sb1 {i n : Nat} (h : i < n) : n + 1 - (i + 1) < n + 1 - i := Nat.sub_lt_sub_left (Nat.lt_succ_of_lt h) (Nat.lt_succ_self i)
theorem sb2 {k a b n : Nat} (h : k + a < n) : n + 1 - (k + (b + 1)) < n + 1 - k :=
  Nat.sub_lt_sub_left (Nat.lt_of_le_of_lt (Nat.le_add_right k a) (Nat.lt_succ_of_lt h)) (Nat.lt_add_of_pos_right (Nat.succ_pos b))
theorem sb3 {k r n : Nat} (h : k + r < n) : n + 1 - (k + r + 1) < n + 1 - k :=
  Nat.sub_lt_sub_left (Nat.lt_of_le_of_lt (Nat.le_add_right k r) (Nat.lt_succ_of_lt h)) (Nat.lt_succ_of_le (Nat.le_add_right k r))
theorem sb4 {k n : Nat} (h : k < n) : n - k = n - (k + 1) + 1 := sub1 h
theorem sb5 {i n : Nat} (h : i < n) : (n - 1 - i).succ = n + 1 - 1 - i := by rw [Nat.sub_right_comm]; exact Nat.sub_add_cancel (Nat.sub_pos_of_lt h)
theorem sb6 {k r n : Nat} (h : k + r ≤ n) : n - k = r + (n - (k + r)) := by rw [Nat.sub_add_eq, Nat.add_sub_of_le (Nat.le_sub_of_add_le' h)]
theorem sb7 {k q : Nat} (h : k < q) : min 8 (8 * q - 8 * k) = 8 := by
  rw [← Nat.mul_sub]; exact Nat.min_eq_left (Nat.le_mul_of_pos_right 8 (Nat.sub_pos_of_lt h))
theorem sb8 {k n : Nat} (h : k ≤ n) : min k n + (n - k) = n := by rw [Nat.min_eq_left h]; exact Nat.add_sub_of_le h
theorem sb9 {i n M : Nat} (h : n < M) : n - 1 - i < M := Nat.lt_of_le_of_lt (Nat.le_trans (Nat.sub_le _ _) (Nat.sub_le _ _)) h
theorem u4 {a b d e : Nat} (h : a + d < b) (k : e + 1 ≤ d) : a + 1 + e < b := by rw [Nat.add_right_comm]; exact u2 h k
theorem u5 {a b d e : Nat} (h : a + 8 * d < b) (k : e + 1 ≤ d) : a + 1 + 8 * e < b := by
  rw [Nat.add_assoc]; exact u2 h (Nat.le_trans (show 1 + 8 * e ≤ 8 * (e + 1) by rw [Nat.mul_succ, Nat.add_comm]; exact Nat.add_le_add_left (by decide) _) (Nat.mul_le_mul_left 8 k))
theorem u6 {a b d n : Nat} (h : a + 8 * d < b) (k : n ≤ d) : a + n < b := u2 h (Nat.le_trans k (Nat.le_mul_of_pos_left d (by decide)))
theorem pd1 {L d : Nat} (h : L ≤ 64 * d) (k : d < 900) : L + (8 - L % 8) % 8 < 2 ^ 20 :=
  Nat.lt_of_lt_of_le (Nat.add_lt_add_of_le_of_lt (Nat.le_trans h (Nat.mul_le_mul_left 64 (Nat.le_of_lt k))) (Nat.mod_lt _ (by decide))) (show 64 * 900 + 8 ≤ 2 ^ 20 by decide)
theorem pd2 (L : Nat) : L + (8 - L % 8) % 8 ≤ L + 8 := Nat.add_le_add_left (Nat.le_of_lt (Nat.mod_lt _ (by decide))) _
theorem pl1 {L d x : Nat} (h : L ≤ 64 * d) (k : d < 900) (k2 : x ≤ 50) : L + x ≤ 2 ^ 20 :=
  Nat.le_trans (Nat.add_le_add (Nat.le_trans h (Nat.mul_le_mul_left 64 (Nat.le_of_lt k))) k2) (show 64 * 900 + 50 ≤ 2 ^ 20 by decide)
theorem pl2 {nb : Nat} (h : nb < 20) : nb + 1 ≤ 50 := Nat.le_trans h (by decide)
theorem pl3 {nb c : Nat} (h : nb < 20) (k : c ≤ 15) : nb + 1 + c ≤ 50 := Nat.le_trans (Nat.add_le_add h k) (by decide)
theorem pl4 {L n x : Nat} (h : L ≤ 64 * n) (k : x ≤ 64) : L + x ≤ 64 * (n + 1) := Nat.add_le_add h k
theorem cp1 {f N X : Nat} (h : 8 * f + N = X) (k : 8 ≤ N) : 8 * (f + 1) + (N - 8) = X := by rw [Nat.mul_succ, Nat.add_assoc, Nat.add_sub_of_le k]; exact h
theorem aa1 {k r L m : Nat} (h : k + r + L = m) (h2 : 15 < r) : k + 16 + (r - 16) + L = m := by rw [Nat.add_assoc k 16, Nat.add_sub_of_le h2]; exact h
theorem aa2 {k r L m : Nat} (h : k + r + (L + 1) = m) : k + r + 1 + 0 + L = m := by rw [← h, Nat.add_zero, Nat.add_assoc, Nat.add_comm 1]
theorem aa3 (k r : Nat) : r = k + r + 0 - k := (Nat.add_sub_cancel_left k r).symm
theorem mi1 {a k s b c : Nat} (h : a = min k s) (h2 : s < b) (k2 : Nat.ble b (c + 1) = true) : a ≤ c := h ▸ Nat.le_trans (Nat.min_le_right k s) (n2 h2 k2)
theorem mi2 {k s b c : Nat} (h2 : s < b) (k2 : Nat.ble b (c + 1) = true) : min k s ≤ c := Nat.le_trans (Nat.min_le_right k s) (n2 h2 k2)
theorem p7 {n : Nat} (h : 1 ≤ n) : 0 < n := h
theorem oa1 {r s : Nat} (h : r + (s + 1) ≤ 15) : 0 + s ≤ 15 := by rw [Nat.zero_add]; exact Nat.le_trans (Nat.le_trans (Nat.le_succ s) (Nat.le_add_left _ r)) h
theorem b8 {x r : Nat} (h : x = 8 * r) : 8 + x = 8 * (r + 1) := by rw [h, Nat.mul_succ, Nat.add_comm]
theorem neg8 (n : Nat) : (-(n : Int)) % 8 = (((8 - n % 8) % 8 : Nat) : Int) := by
  have h := Nat.div_add_mod n 8
  have h2 := Nat.mod_lt n (show 0 < 8 by decide)
  generalize n % 8 = r at h h2
  rw [← h, Int.natCast_add, Int.natCast_mul, Int.neg_add, ← Int.mul_neg, Int.add_comm]
  show (-(r : Int) + 8 * -((n / 8 : Nat) : Int)) % 8 = _
  rw [Int.add_mul_emod_self_left]
  exact (by decide : ∀ r < 8, (-((r : Nat) : Int)) % 8 = (((8 - r) % 8 : Nat) : Int)) r h2
theorem aa4 {k r L m : Nat} (h : k + r + L = m) (h2 : 15 < r) : k + 15 < m := Nat.lt_of_lt_of_le (Nat.add_lt_add_left h2 k) (h ▸ Nat.le_add_right _ _)
theorem aa5 {k r L m : Nat} (h : k + r + (L + 1) = m) : k + (r + 1) + L = m := (Nat.add_right_comm (k + r) 1 L).trans h
theorem aa6 {k r L m : Nat} (h : k + r + 1 + L = m) : k + (r + (L + 1)) = m := by
  show k + (r + L) + 1 = m
  rw [← h, ← Nat.add_assoc, Nat.add_right_comm (k + r) 1 L]
theorem sb10 (i : Nat) : i + 1 - 1 - i = 0 := Nat.sub_self i
theorem sb11 {N : Nat} (h : 8 ≤ N) : N - 8 < N := Nat.sub_lt (Nat.lt_of_lt_of_le (by decide) h) (by decide)
theorem n14 {a b c d : Nat} (h : a = b) (h2 : b < c) (h3 : c ≤ d) : a ≤ d := h ▸ Nat.le_of_lt (Nat.lt_of_lt_of_le h2 h3)
theorem tn8 (k : Nat) : (0 + (0 + (k : Int))).toNat = k := by rw [Int.zero_add, Int.zero_add]; rfl
theorem ia3 (i : Nat) : 0 + (i : Int) * 8 + 8 = ((8 * i + 8 : Nat) : Int) := by rw [Int.zero_add, Int.mul_comm]; rfl
theorem p8 {n : Nat} (h : 0 < n) : n = n - 1 + 1 := (Nat.sub_add_cancel h).symm
theorem u7 {a b d : Nat} (h : a + 8 * (d + 1) < b) : a + 3 + 8 * d < b :=
  Nat.lt_of_le_of_lt (by rw [Nat.mul_succ, Nat.add_assoc, Nat.add_comm 3]; exact Nat.add_le_add_left (Nat.add_le_add_left (by decide) _) _) h
theorem rc6 {r : Int} (h : 0 ≤ r) (h2 : r < 2) : 2 ≤ 2 + 2 * r.toNat ∧ 2 + 2 * r.toNat ≤ 4 :=
  ⟨Nat.le_add_right _ _, Nat.add_le_add_left (Nat.mul_le_mul_left 2 (Nat.le_of_lt_succ ((Int.toNat_lt h).mpr h2))) 2⟩
end Mine
end
namespace Mine
theorem omW : True := by
  k_with "o" => first | with_reducible exact (by assumption) | with_reducible exact (by decide) | with_reducible exact (ia1 _ _) | with_reducible exact (ia2 _ _) | with_reducible exact (n1 (by assumption) (by decide)) | with_reducible exact (n2 (by assumption) (by decide)) | with_reducible exact (n3 (by assumption) (by decide)) | with_reducible exact (n4 (by assumption) (by decide)) | with_reducible exact (z1 (by assumption) (by decide)) | with_reducible exact (z2 (by assumption) (by decide)) | with_reducible exact (z3 (by assumption) (by decide)) | with_reducible exact (z4 (by assumption) (by decide)) | with_reducible exact (z5 (by decide)) | with_reducible exact (z6 (by decide)) | with_reducible exact (z7 (by assumption) (by decide)) | with_reducible exact (z8 (by assumption) (by decide)) | with_reducible exact (z9 (by assumption) (by decide)) | with_reducible exact (z10 (by assumption) (by decide)) | with_reducible exact (z11 (by assumption) (by decide)) | with_reducible exact (z12 (by assumption) (by decide)) | with_reducible exact (z13 (by assumption) (by decide)) | with_reducible exact (z14 (by assumption) (by decide)) | with_reducible exact (z15 (by assumption) (by decide)) | with_reducible exact (Nat.le_of_lt (by assumption)) | with_reducible exact (Nat.succ_le_of_lt (by assumption)) | with_reducible exact (Nat.lt_succ_of_le (by assumption)) | with_reducible exact (Nat.le_of_lt_succ (by assumption)) | with_reducible exact (Nat.le_of_not_lt (by assumption)) | with_reducible exact (Nat.lt_of_not_le (by assumption)) | with_reducible exact (Nat.pos_of_ne_zero (by assumption)) | with_reducible exact (Nat.eq_zero_of_not_pos (by assumption)) | with_reducible exact (Nat.le_of_eq (by assumption)) | with_reducible exact (Nat.le_of_eq (Eq.symm (by assumption))) | with_reducible exact (Eq.symm (by assumption)) | with_reducible exact (e1 (by assumption) (by assumption)) | with_reducible exact (e2 (by assumption) (by assumption)) | with_reducible exact (e3 (by assumption) (by assumption)) | with_reducible exact (f1 (by assumption) (by assumption)) | with_reducible exact (f2 (by assumption) (by assumption)) | with_reducible exact (f3 (by assumption) (by assumption)) | with_reducible exact (Iff.mpr Int.ofNat_lt (by assumption)) | with_reducible exact (Iff.mpr Int.ofNat_le (by assumption)) | with_reducible exact (Int.add_nonneg (by assumption) (by assumption)) | with_reducible exact (Int.add_nonneg (by assumption) (z6 (by decide))) | with_reducible exact (Int.add_nonneg (z6 (by decide)) (z6 (by decide))) | with_reducible exact (Int.add_nonneg (Int.add_nonneg (by assumption) (z6 (by decide))) (z6 (by decide))) | with_reducible exact (Int.add_nonneg (by decide) (z6 (by decide))) | with_reducible exact (Int.toNat_sub _ _) | with_reducible exact (Int.add_assoc _ _ _) | with_reducible exact (Nat.add_assoc _ _ _) | with_reducible exact (Eq.symm (Nat.add_assoc _ _ _)) | with_reducible exact (Nat.add_comm _ _) | with_reducible exact (Nat.add_right_comm _ _ _) | with_reducible exact (Eq.trans (Nat.add_comm _ _) (by assumption)) | with_reducible exact (Nat.le_add_right _ _) | with_reducible exact (Nat.le_add_left _ _) | with_reducible exact (Nat.sub_add_cancel (by assumption)) | with_reducible exact (Nat.sub_add_cancel (Nat.le_of_lt (by assumption))) | with_reducible exact (Nat.add_sub_of_le (by assumption)) | with_reducible exact (Nat.add_sub_of_le (Nat.le_of_lt (by assumption))) | with_reducible exact (Nat.add_sub_cancel _ _) | with_reducible exact (Eq.symm (Nat.add_sub_cancel _ _)) | with_reducible exact (Nat.add_sub_cancel_left ..) | with_reducible exact (Nat.min_eq_left (by assumption)) | with_reducible exact (Nat.min_eq_left (Nat.le_of_lt (by assumption))) | with_reducible exact (Nat.min_eq_right (by assumption)) | with_reducible exact (sub1 (by assumption)) | with_reducible exact (Eq.symm (subc (by assumption))) | with_reducible exact (Eq.symm (subc (Nat.succ_le_of_lt (by assumption)))) | with_reducible exact (Eq.symm (subc (Nat.le_of_lt (by assumption)))) | with_reducible exact (Nat.sub_lt (by assumption) (by decide)) | with_reducible exact (Nat.sub_lt (n1 (Nat.zero_lt_of_lt (by assumption)) (by decide)) (by decide)) | with_reducible exact (Nat.sub_lt (Nat.zero_lt_of_lt (by assumption)) (by decide)) | with_reducible exact (Nat.sub_lt (n4 (by assumption) (by decide)) (by decide)) | with_reducible exact (u1 (by assumption) _ (by assumption)) | with_reducible exact (u2 (by assumption) (by assumption)) | with_reducible exact (u2 (by assumption) (by decide)) | with_reducible exact (p2 (by assumption) (by decide)) | with_reducible exact (p3 (by assumption) (by decide)) | with_reducible exact (p4 (by assumption) (by decide)) | with_reducible exact (p6 (by assumption) (by assumption) _ (by decide) (by decide)) | with_reducible exact (n5 (by assumption) (by assumption) (by decide)) | with_reducible exact (n6 (by assumption) (by assumption) (by decide)) | with_reducible exact (n7 (by assumption) (by assumption) (by decide)) | with_reducible exact (n8 (by assumption) (by assumption) (by decide)) | with_reducible exact (n9 (by assumption) (by assumption) (by decide)) | with_reducible exact (n10 (by assumption) (by assumption) (by decide)) | with_reducible exact (n11 (by assumption) (by assumption) (by decide)) | with_reducible exact (n12 (by assumption) (by assumption) (by decide)) | with_reducible exact (n7 (Eq.symm (by assumption)) (by assumption) (by decide)) | with_reducible exact (n9 (Eq.symm (by assumption)) (by assumption) (by decide)) | with_reducible exact (Nat.lt_of_lt_of_le (by assumption) (by assumption)) | with_reducible exact (Nat.lt_of_le_of_lt (by assumption) (by assumption)) | with_reducible exact (Nat.lt_trans (by assumption) (by assumption)) | with_reducible exact (Nat.le_trans (by assumption) (by assumption)) | with_reducible exact (Nat.lt_of_lt_of_eq (by assumption) (by assumption)) | with_reducible exact (Nat.lt_of_lt_of_eq (by assumption) (Eq.symm (by assumption))) | with_reducible exact (Eq.trans (by assumption) (by assumption)) | with_reducible exact (Eq.trans (by assumption) (Eq.symm (by assumption))) | with_reducible exact (Eq.trans (Eq.symm (by assumption)) (by assumption)) | with_reducible exact (Nat.le_trans (Nat.le_add_left _ _) (by assumption)) | with_reducible exact (Nat.le_trans (Nat.le_add_right _ _) (by assumption)) | with_reducible exact (Nat.lt_of_le_of_lt (Nat.le_add_right _ _) (by assumption)) | with_reducible exact (Nat.lt_of_le_of_lt (Nat.le_add_left _ _) (by assumption)) | with_reducible exact (Nat.lt_of_le_of_lt (Nat.le_add_right _ _) (n4 (by assumption) (by decide))) | with_reducible exact (Nat.lt_of_le_of_lt (Nat.le_add_right _ _) (n1 (by assumption) (by decide))) | with_reducible exact (n4 (Nat.le_of_not_lt (by assumption)) (by decide)) | with_reducible exact (n4 (And.right (by assumption)) (by decide)) | with_reducible exact (n3 (And.right (by assumption)) (by decide)) | with_reducible exact (z7 (And.right (by assumption)) (by decide)) | with_reducible exact (z9 (And.left (by assumption)) (by decide)) | with_reducible exact (z10 (And.left (by assumption)) (by decide)) | with_reducible exact (n3 (Nat.add_le_add_left (by assumption) _) (by decide)) | with_reducible exact (n3 (Nat.add_le_add (Nat.succ_le_of_lt (by assumption)) (by assumption)) (by decide)) | with_reducible exact (n2 (Nat.lt_of_le_of_lt (by assumption) (Nat.add_lt_add_left (by assumption) _)) (by decide)) | with_reducible exact (And.intro (by assumption) (by assumption)) | with_reducible exact (And.intro (z9 (by assumption) (by decide)) (z14 (by assumption) (by decide))) | with_reducible exact (And.intro (z9 (by assumption) (by decide)) (z8 (by assumption) (by decide))) | with_reducible exact (And.intro (z9 (by assumption) (by decide)) (z7 (by assumption) (by decide))) | with_reducible exact (And.intro (by decide) (z6 (by decide))) | with_reducible exact (ab1 (by assumption) (by assumption)) | with_reducible exact (ab2 (by assumption) (by assumption)) | with_reducible exact (ab3 (by assumption)) | with_reducible exact (tn1 (by assumption)) | with_reducible exact (tn2 _) | with_reducible exact (tn3 _) | with_reducible exact (tn4 _) | with_reducible exact (tn5 _) | with_reducible exact (tn6 _) | with_reducible exact (tn7 (by assumption) (by assumption) (by decide)) | with_reducible exact (rc1 (by assumption)) | with_reducible exact (rc2 (by assumption)) | with_reducible exact (rc3 (by assumption)) | with_reducible exact (rc4 (by assumption) (by assumption)) | with_reducible exact (rc5 (by assumption)) | with_reducible exact (sb1 (by assumption)) | with_reducible exact (sb2 (by assumption)) | with_reducible exact (sb3 (by assumption)) | with_reducible exact (sb4 (by assumption)) | with_reducible exact (sb5 (by assumption)) | with_reducible exact (sb6 (by assumption)) | with_reducible exact (sb7 (by assumption)) | with_reducible exact (sb8 (by assumption)) | with_reducible exact (sb9 (by assumption)) | with_reducible exact (u4 (by assumption) (by assumption)) | with_reducible exact (u5 (by assumption) (by assumption)) | with_reducible exact (u6 (by assumption) (by assumption)) | with_reducible exact (u6 (by assumption) (by decide)) | with_reducible exact (pd1 (by assumption) (by assumption)) | with_reducible exact (Nat.le_of_lt (pd1 (by assumption) (by assumption))) | with_reducible exact (pd2 _) | with_reducible exact (pl1 (by assumption) (by assumption) (pl2 (by assumption))) | with_reducible exact (pl1 (by assumption) (Nat.lt_trans (by assumption) (by assumption)) (pl2 (by assumption))) | with_reducible exact (pl1 (by assumption) (by assumption) (pl3 (by assumption) (by assumption))) | with_reducible exact (pl1 (by assumption) (Nat.lt_trans (by assumption) (by assumption)) (pl3 (by assumption) (by assumption))) | with_reducible exact (pl4 (by assumption) (by assumption)) | with_reducible exact (pl4 (by assumption) (n2 (by assumption) (by decide))) | with_reducible exact (pl4 (by assumption) (n1 (by assumption) (by decide))) | with_reducible exact (pl4 (by assumption) (Nat.le_of_lt (by assumption))) | with_reducible exact (pl4 (by assumption) (Nat.le_trans (pl2 (by assumption)) (by decide))) | with_reducible exact (cp1 (by assumption) (by assumption)) | with_reducible exact (aa1 (by assumption) (by assumption)) | with_reducible exact (aa2 (by assumption)) | with_reducible exact (aa3 _ _) | with_reducible exact (mi1 (by assumption) (by assumption) (by decide)) | with_reducible exact (mi2 (by assumption) (by decide)) | with_reducible exact (p7 (by assumption)) | with_reducible exact (oa1 (by assumption)) | with_reducible exact (b8 (by assumption)) | with_reducible exact (Eq.symm (Nat.add_sub_of_le (Nat.succ_le_of_lt (by assumption)))) | with_reducible exact (aa4 (by assumption) (by assumption)) | with_reducible exact (aa5 (by assumption)) | with_reducible exact (aa6 (by assumption)) | with_reducible exact (sb10 _) | with_reducible exact (sb11 (by assumption)) | with_reducible exact (n14 (by assumption) (by assumption) (by assumption)) | with_reducible exact (tn8 _) | with_reducible exact (ia3 _) | with_reducible exact (p8 (by assumption)) | with_reducible exact (u7 (by assumption)) | with_reducible exact (rc6 (by assumption) (by assumption)) | with_reducible exact (Nat.le_trans (Nat.sub_le _ _) (by assumption)) | with_reducible exact (ab3 (ab2 (by assumption) (by assumption))) | with_reducible exact (Nat.lt_of_lt_of_le (by decide) (And.left (by assumption))) | omega
  trivial
end Mine
section
open PySem PySem.W PyProof.Rows PySem.Calls PySem.Spec
namespace Mine
section
noncomputable def bitsN (v : Nat) : Nat → List Bool
  | 0 => []
  | n + 1 => bitsN (v / 2) n ++ [decide (v % 2 = 1)]
noncomputable def valN (l : List Bool) : Nat := l.foldl (fun a b => 2 * a + b.toNat) 0
theorem bitsN_len (n : Nat) : ∀ v, (bitsN v n).length = n := by
  induction n with
  | zero => intro v; rfl
  | succ n ih => intro v; rw [bitsN, List.length_append, ih]; rfl
theorem bitsN_cat (z : Nat) : ∀ {a v n : Nat}, v < 2 ^ z → bitsN (a * 2 ^ z + v) (n + z) = bitsN a n ++ bitsN v z := by
  induction z with
  | zero =>
    intro a v n h
    have : v = 0 := by simpa using h
    subst this
    simp [bitsN]
  | succ z ih =>
    intro a v n h
    have e1 : (a * 2 ^ (z + 1) + v) / 2 = a * 2 ^ z + v / 2 := by rw [Nat.pow_succ, ← Nat.mul_assoc, Nat.mul_comm _ 2, Nat.mul_add_div (by decide)]
    have e2 : (a * 2 ^ (z + 1) + v) % 2 = v % 2 := by rw [Nat.pow_succ, ← Nat.mul_assoc, Nat.mul_comm _ 2, Nat.mul_add_mod]
    have h2 : v / 2 < 2 ^ z := Nat.div_lt_of_lt_mul (by rw [Nat.mul_comm]; exact h)
    show bitsN ((a * 2 ^ (z + 1) + v) / 2) (n + z) ++ [decide ((a * 2 ^ (z + 1) + v) % 2 = 1)] = _
    rw [e1, e2, ih h2, List.append_assoc]
    rfl
theorem valN_append (l r : List Bool) : valN (l ++ r) = valN l * 2 ^ r.length + valN r := by
  have key : ∀ (r : List Bool) (a : Nat), r.foldl (fun a b => 2 * a + b.toNat) a = a * 2 ^ r.length + r.foldl (fun a b => 2 * a + b.toNat) 0 := by
    intro r
    induction r with
    | nil => intro a; simp
    | cons b r ih =>
      intro a
      rw [List.foldl_cons, ih, List.foldl_cons, ih (2 * 0 + b.toNat), List.length_cons, Nat.pow_succ, Nat.add_mul, Nat.add_mul]
      have : 2 * a * 2 ^ r.length = a * (2 ^ r.length * 2) := by rw [Nat.mul_comm 2 a, Nat.mul_assoc, Nat.mul_comm 2]
      rw [this, Nat.mul_zero, Nat.zero_mul, Nat.zero_add, Nat.add_assoc]
  unfold valN
  rw [List.foldl_append, key]
theorem valN_bitsN (n : Nat) : ∀ v, valN (bitsN v n) = v % 2 ^ n := by
  induction n with
  | zero => intro v; simp [bitsN, valN, Nat.mod_one]
  | succ n ih =>
    intro v
    have hb : valN [decide (v % 2 = 1)] = v % 2 := by
      rcases Nat.mod_two_eq_zero_or_one v with h | h <;> simp [valN, h]
    rw [bitsN, valN_append, ih, hb, List.length_singleton, Nat.pow_one, Nat.pow_succ, Nat.mul_comm (2 ^ n) 2, Nat.mod_mul]
    exact (Nat.add_comm _ _).trans (congrArg (v % 2 + ·) (Nat.mul_comm _ _))
theorem valN_lt (l : List Bool) : valN l < 2 ^ l.length := by
  have key : ∀ l : List Bool, valN l.reverse < 2 ^ l.length := by
    intro l
    induction l with
    | nil => simp [valN]
    | cons b r ih =>
      simp only [List.reverse_cons, valN_append, List.length_cons, List.length_nil, Nat.pow_succ]
      have : valN [b] < 2 := by cases b <;> simp [valN]
      k_extra "o"
  have := key l.reverse
  rwa [List.reverse_reverse, List.length_reverse] at this
noncomputable def octB (l : List UInt8) : List Bool := l.flatMap fun b => bitsN b.toNat 8
theorem octB_len (l : List UInt8) : (octB l).length = 8 * l.length := by
  induction l with
  | nil => rfl
  | cons b r ih => rw [octB, List.flatMap_cons, List.length_append, bitsN_len, List.length_cons]; unfold octB at ih; k_extra "o"
theorem octB_append (l r : List UInt8) : octB (l ++ r) = octB l ++ octB r := by unfold octB; rw [List.flatMap_append]
theorem octB_put {l : List UInt8} {R N : Nat} (h : R < 2 ^ N) (hN : 8 ≤ N) : octB (l ++ [(R / 2 ^ (N - 8)).toUInt8]) ++ bitsN (R % 2 ^ (N - 8)) (N - 8) = octB l ++ bitsN R N := by
  have hd : R / 2 ^ (N - 8) < 256 := by
    rw [Nat.div_lt_iff_lt_mul (Nat.two_pow_pos _)]
    have : (256 : Nat) * 2 ^ (N - 8) = 2 ^ N := by
      rw [show (256 : Nat) = 2 ^ 8 from rfl, ← Nat.pow_add]; congr 1; k_extra "o"
    rw [this]; exact h
  have he : ((R / 2 ^ (N - 8)).toUInt8).toNat = R / 2 ^ (N - 8) := by
    rw [Nat.toUInt8, UInt8.toNat_ofNat']
    exact Nat.mod_eq_of_lt hd
  have hs : R = R / 2 ^ (N - 8) * 2 ^ (N - 8) + R % 2 ^ (N - 8) := by rw [Nat.mul_comm]; exact (Nat.div_add_mod _ _).symm
  have hc := bitsN_cat (N - 8) (a := R / 2 ^ (N - 8)) (n := 8) (Nat.mod_lt R (Nat.two_pow_pos (N - 8)))
  rw [← hs, show 8 + (N - 8) = N by k_extra "o"] at hc
  rw [octB_append, List.append_assoc, hc]
  congr 1
  show ([(R / 2 ^ (N - 8)).toUInt8].flatMap fun b => bitsN b.toNat 8) ++ _ = _
  rw [List.flatMap_cons, List.flatMap_nil, List.append_nil, he]
theorem shr_is {R N : Nat} {a : Int} (h : a.toNat = N) : (R : Int).fdiv (2 ^ a.toNat) = ((R / 2 ^ N : Nat) : Int) := by
  rw [h, Int.fdiv_eq_ediv_of_nonneg _ (by exact_mod_cast Nat.zero_le (2 ^ N))]
  push_cast
  rfl
theorem mask_is {R N : Nat} {a : Int} (h : a.toNat = N) : Builtin.bitAnd (R : Int) (1 * 2 ^ a.toNat - 1) = ((R % 2 ^ N : Nat) : Int) := by
  rw [h, Int.one_mul, kbt_mask]
  push_cast
  rfl
theorem bitOr_nat (a b : Nat) : Builtin.bitOr (a : Int) (b : Int) = ((a ||| b : Nat) : Int) := by
  rw [← bitOr_eq]
  have n1 : ∀ x : Nat, Spec.bitNot (x : Int) = -(x : Int) - 1 := fun x => by unfold Spec.bitNot; k_extra "o"
  unfold Spec.bitOr
  rw [n1, n1]
  unfold Spec.bitAnd
  rw [show decide (0 ≤ -(a : Int) - 1) = false by simp; k_extra "o", show decide (0 ≤ -(b : Int) - 1) = false by simp; k_extra "o"]
  dsimp only
  have e1 : Spec.bitNot (-(a : Int) - 1) = a := by unfold Spec.bitNot; k_extra "o"
  have e2 : Spec.bitNot (-(b : Int) - 1) = b := by unfold Spec.bitNot; k_extra "o"
  rw [e1, e2, Int.toNat_natCast, Int.toNat_natCast, n1]
  unfold Spec.bitNot
  k_extra "o"
theorem bitOr_cat {r v z : Nat} (h : v < 2 ^ z) : Builtin.bitOr ((r : Int) * 2 ^ ((z : Int).toNat)) (v : Int) = ((r * 2 ^ z + v : Nat) : Int) := by
  rw [Int.toNat_natCast, show (r : Int) * 2 ^ z = ((r * 2 ^ z : Nat) : Int) by push_cast; rfl, bitOr_nat]
  congr 1
  rw [Nat.mul_comm r, Nat.two_pow_add_eq_or_of_lt h]
end
section
noncomputable def ch (b : Bool) : Nat := if b then 49 else 48
noncomputable def strB (l : List Bool) : Str := ⟨(l.map ch).toArray⟩
theorem strB_len (l : List Bool) : (strB l).length = l.length := by
  show (l.map ch).toArray.size = _
  rw [List.size_toArray, List.length_map]
theorem strB_app (a b : List Bool) : strB a ++ strB b = strB (a ++ b) := by
  have e : (strB a ++ strB b).cps = (strB (a ++ b)).cps := by
    rw [PySem.Str.cps_append]
    show (a.map ch).toArray ++ (b.map ch).toArray = ((a ++ b).map ch).toArray
    rw [List.map_append, List.append_toArray]
  exact congrArg PySem.Str.mk e
noncomputable def nval (x : (int_private% "Numeral")) : Option Int := (int_private% "Numeral.casesOn") (motive := fun _ => Option Int) x none (fun _ => none) none (fun i => some i)
theorem nval_eq {x : (int_private% "Numeral")} {i : Int} (h : nval x = some i) : x = (int_private% "Numeral.value") i := by
  cases x <;> first | (cases h; rfl) | cases h
theorem read8 : ∀ a b c d e f g h : Bool, nval ((int_private% "readNumeral") 0 2 ([a, b, c, d, e, f, g, h].map ch)) = some (valN [a, b, c, d, e, f, g, h] : Int) := by decide +kernel
theorem read2 {l : List Bool} (h : l.length = 8) : (int_private% "readNumeral") 0 2 (l.map ch) = (int_private% "Numeral.value") (valN l : Int) := by
  obtain ⟨a, r, rfl⟩ := List.exists_cons_of_length_eq_add_one h
  have h := Nat.succ.inj h
  obtain ⟨b, r, rfl⟩ := List.exists_cons_of_length_eq_add_one h
  have h := Nat.succ.inj h
  obtain ⟨c, r, rfl⟩ := List.exists_cons_of_length_eq_add_one h
  have h := Nat.succ.inj h
  obtain ⟨d, r, rfl⟩ := List.exists_cons_of_length_eq_add_one h
  have h := Nat.succ.inj h
  obtain ⟨e, r, rfl⟩ := List.exists_cons_of_length_eq_add_one h
  have h := Nat.succ.inj h
  obtain ⟨f, r, rfl⟩ := List.exists_cons_of_length_eq_add_one h
  have h := Nat.succ.inj h
  obtain ⟨g, r, rfl⟩ := List.exists_cons_of_length_eq_add_one h
  have h := Nat.succ.inj h
  obtain ⟨i, r, rfl⟩ := List.exists_cons_of_length_eq_add_one h
  have h := Nat.succ.inj h
  cases List.eq_nil_of_length_eq_zero h
  exact nval_eq (read8 a b c d e f g i)
theorem ch_ne (b : Bool) : (ch b != 0) = true := by cases b <;> rfl
theorem ch_lt (b : Bool) : decide (ch b < 128) = true := by cases b <;> rfl
theorem ch_while (l : List Bool) : (l.map ch).takeWhile (· != 0) = l.map ch := by
  induction l with
  | nil => rfl
  | cons b r ih => rw [List.map_cons, List.takeWhile_cons, if_pos (ch_ne b), ih]
structure Hid (p : Prop) : Prop where
  out : p
theorem wp_text2 {M : Model} {A : Around} {E : Value → Shared → Prop} {s : Shared} {Q : Value → Shared → Prop} {v : Value} {text : List Nat} {n : Int} (h1 : text.takeWhile (· != 0) = text) (hs : text.length ≤ 640)
    (hr : (int_private% "readNumeral") 0 2 text = (int_private% "Numeral.value") n) (h : Q (.int n s.toks) { s with toks := s.toks + 1 }) : wpAny M A ((int_private% "intFromText") v text 2) Q E s := by
  have ha : (text.length == text.length) = true := beq_self_eq_true _
  obtain ⟨hp, g, d, tk, os⟩ := s
  repeat (any_goals (first
    | assumption
    | (with_reducible refine wpAny_ite_true (decide_eq_true hs) ?_)
    | (with_reducible refine wpAny_ite_true (decide_eq_true ha) ?_)
    | rw [h1]
    | wp_step))
  rw [hr]
  dsimp only
  repeat (any_goals (first
    | assumption
    | (with_reducible refine wpAny_ite_true (decide_eq_true ha) ?_)
    | wp_step))
theorem gives_text2 {x : PySem.Str} {u v : Tok} {n : Int} (ha : x.cps.all (· < 128) = true) (h1 : x.cps.toList.takeWhile (· != 0) = x.cps.toList) (hs : x.cps.toList.length ≤ 640) (hr : (int_private% "readNumeral") 0 2 x.cps.toList = (int_private% "Numeral.value") n) :
    Gives (Builtin.«int.__new__» ⟨[.type "int", .str x u, .int 2 v], []⟩) (.int n) :=
  .of_wp fun M A E s Q h => by
    obtain ⟨hp, g, d, tk, os⟩ := s
    have f1 := F.conv_sub_int
    have f2 := F.madeHere_int
    have hk := Hid.mk (And.intro ha (And.intro h1 (And.intro hs hr)))
    clear ha h1 hs hr
    repeat (any_goals (first
      | assumption
      | ((with_reducible show wpAny _ _ ((int_private% "intFromText") _ _ _) _ _ _); rw [if_pos hk.out.1]; refine wp_text2 hk.out.2.1 hk.out.2.2.1 hk.out.2.2.2 ?_)
      | wp_step))
    all_goals exact ⟨_, rfl, h⟩
theorem typeCall_int_2 (a b : Value) : checkTypeCall "int" ⟨[a, b], []⟩ = pure () := by kernel_rfl
theorem newCall_int_2 (a b : Value) : checkBuiltinCall "int.__new__" ⟨[.type "int", a, b], []⟩ = pure () := by kernel_rfl
theorem argsObj3 (obj a b : Value) : argsOk "object.__init__" ⟨[obj, a, b], []⟩ := by unfold argsOk; kernel_rfl
theorem call_bits8 {prog : Program} {w : World} {A : Around} {E : Value → Shared → Prop} {s : Shared} {Q : Value → Shared → Prop} {l : List Bool} {t u : Tok} (h8 : l.length = 8) (h : Q (.int (valN l) s.toks) { s with toks := s.toks + 1 }) :
    wpAny (model prog w) A (PySem.call (.type "int") [.str (strB l) t, .int 2 u]) Q E s := by
  have g : Gives (Builtin.«int.__new__» ⟨[.type "int", .str (strB l) t, .int 2 u], []⟩) (.int (valN l)) := by
    refine gives_text2 ?_ (ch_while l) ?_ (read2 h8)
    · show (l.map ch).toArray.all (· < 128) = true
      rw [List.all_toArray, List.all_eq_true]
      intro x hx
      obtain ⟨b, _, rfl⟩ := List.mem_map.mp hx
      exact ch_lt b
    · show (l.map ch).length ≤ 640
      rw [List.length_map, h8]; decide
  exact callType_new F.called_int F.newNe_int (typeCall_int_2 _ _) (newCall_int_2 _ _) (fun obj => argsObj3 obj _ _) F.entry_int_new g.meets (show (Made.int (valN l)).post _ s from ⟨rfl, h⟩)
end
section

noncomputable def cleanCode : Code → Bool
  | .builtin id _ => !(["bytearray.__contains__", "bytearray.__mod__", "bytearray.__rmod__", "_struct.pack_into.held", "bytearray.find.held"] ++ Builtin.Bytes.decodersThatHold).contains id
  | _ => true
noncomputable def CleanC (Γ : PySem.Ctx) : Prop := cleanCode Γ.code = true ∧ ∀ x ∈ Γ.below, cleanCode x.1 = true
theorem CleanC.enter {Γ : PySem.Ctx} (h : CleanC Γ) {c : Code} (hc : cleanCode c = true) (hd : Option Value) (p : Pos) : CleanC (Γ.enter c hd p) :=
  ⟨hc, fun x hx => by
    rcases List.mem_cons.mp hx with rfl | hx
    · exact h.1
    · exact h.2 x hx⟩
theorem CleanC.goto {Γ : PySem.Ctx} (h : CleanC Γ) {c : Code} (hc : cleanCode c = true) : CleanC (Γ.goto c) := ⟨hc, h.2⟩

noncomputable def wpS {α : Type} (M : Model) (A : Around) (t : Sem α) (Q : α → Shared → Prop) (E : Value → Shared → Prop) (s : Shared) : Prop :=
  ∀ Γ p, Γ.In A → CleanC Γ → Sem.wp M Γ t (fun a _ s' => Q a s') (fun e _ s' => E e s') p s
noncomputable def codeS (M : Model) (A : Around) (c : Code) (R : Result → Shared → Prop) (s : Shared) : Prop :=
  ∀ Γ p, Γ.code = c → Γ.Below A → CleanC Γ → wpCode M Γ R p s

section
variable {α β : Type} {M : Model} {A : Around} {E : Value → Shared → Prop} {s : Shared}
theorem wpS.lift {t : Sem α} {Q : α → Shared → Prop} (h : wpAny M A t Q E s) : wpS M A t Q E s := fun Γ p hΓ _ => h Γ p hΓ
theorem codeS.lift {c : Code} {R : Result → Shared → Prop} (h : codeAny M A c R s) : codeS M A c R s := fun Γ p hc hΓ _ => h Γ p hc hΓ
theorem wpS.pure {a : α} {Q : α → Shared → Prop} (h : Q a s) : wpS M A (pure a) Q E s := fun _ _ _ _ => h
theorem wpS.mono {t : Sem α} {Q Q' : α → Shared → Prop} {E' : Value → Shared → Prop} (h : wpS M A t Q E s) (hQ : ∀ a s, Q a s → Q' a s) (hE : ∀ e s, E e s → E' e s) : wpS M A t Q' E' s :=
  fun Γ p hΓ hC => Sem.wp_mono M Γ t (fun a _ s => hQ a s) (fun e _ s => hE e s) p s (h Γ p hΓ hC)
theorem wpS.bind {m : Sem α} {f : α → Sem β} {Q : β → Shared → Prop} (h : wpS M A m (fun a s' => wpS M A (f a) Q E s') E s) : wpS M A (m >>= f) Q E s := fun Γ p hΓ hC => by
  rw [Sem.wp_bind']
  exact Sem.wp_mono M Γ m (fun a p' s' h' => h' Γ p' hΓ hC) (fun _ _ _ h' => h') p s (h Γ p hΓ hC)
theorem wpS.bindA {m : Sem α} {f : α → Sem β} {Q : β → Shared → Prop} (h : wpAny M A m (fun a s' => wpS M A (f a) Q E s') E s) : wpS M A (m >>= f) Q E s := wpS.bind (wpS.lift h)
theorem wpS.onRaise {m : Sem α} {k : Value → Sem Unit} {Q : α → Shared → Prop} (h : wpS M A m Q (fun e s' => wpS M A (k e) (fun _ s'' => E e s'') E s') s) : wpS M A (m.onRaise k) Q E s := fun Γ p hΓ hC => by
  rw [Sem.wp_onRaise]
  exact Sem.wp_mono M Γ m (fun _ _ _ h' => h') (fun e p' s' h' => h' Γ p' hΓ hC) p s (h Γ p hΓ hC)
theorem wpS.holding {vs : List Value} {m : Sem α} {Q : α → Shared → Prop} (h : wpS M A m Q E s) : wpS M A (holding vs m) Q E s := fun Γ p hΓ hC => by rw [Sem.wp_holding]; exact h Γ p hΓ hC
theorem wpS.keep {vs : List Value} {m : Sem α} {Q : α → Shared → Prop} (h : wpS M A m Q E s) : wpS M A (m.keep vs) Q E s := fun Γ p hΓ hC => by rw [Sem.wp_keep]; exact h Γ p hΓ hC
theorem wpS.standAt {pos : Pos} {Q : Unit → Shared → Prop} (h : Q () s) : wpS M A (standAt pos) Q E s := fun _ _ _ _ => h
theorem wpS.ofEq {t : Sem α} {a : α} {Q : α → Shared → Prop} (e : t = Pure.pure a) (h : Q a s) : wpS M A t Q E s := by subst e; exact wpS.pure h

theorem codeS.mono {c : Code} {R R' : Result → Shared → Prop} (h : codeS M A c R s) (hR : ∀ r s, R r s → R' r s) : codeS M A c R' s := fun Γ p hc hΓ hC => wpCode_mono hR (h Γ p hc hΓ hC)
theorem codeS.tree {c : Code} {R : Result → Shared → Prop}
    (h : wpS M (A.under c) (M.den c) (fun fin s' => match fin with | .done f => R (.ok f) s' | .again c' => cleanCode c' = true ∧ c'.quiet = true ∧ codeS M A c' R s') (fun e s' => R (.error e) s') s) : codeS M A c R s := fun Γ p hc hΓ hC => by
  rw [wpCode_iff_wp, hc]
  refine Sem.wp_mono M Γ _ (fun fin p' s' h' => ?_) (fun _ _ _ h' => h') p s (h Γ p (hc ▸ hΓ.in) hC)
  cases fin with
  | done f => exact h'
  | again c' => exact ⟨h'.2.1, h'.2.2 (Γ.goto c') p' rfl (hΓ.goto c') (hC.goto h'.1)⟩
theorem wpS.runValue {c : Code} {Q : Value → Shared → Prop} (hcl : cleanCode c = true)
    (hc : codeS M A c (fun r s' => match r with | .ok (.ret v) => Q v s' | .ok _ => False | .error e => E e s') s) : wpS M A (runValue c) Q E s := fun Γ p hΓ hC => by
  rw [Sem.wp_runValue]; exact hc _ p rfl (hΓ.enter c none p (by intro x; cases x)) (hC.enter hcl none p)
theorem wpS.call {f : Value} {pos : List Value} {kw : List (Str × Value)} {Q : Value → Shared → Prop}
    (hc : codeS M A (.call f ⟨pos, kw⟩) (fun r s' => match r with | .ok (.ret v) => Q v s' | .ok _ => False | .error e => E e s') s) : wpS M A (PySem.call f pos kw) Q E s := wpS.runValue rfl hc
theorem wpS.run {c : Code} {Q : Flow → Shared → Prop} (hcl : cleanCode c = true)
    (hc : codeS M A c (fun r s' => match r with | .ok f => Q f s' | .error e => E e s') s) : wpS M A (run c none) Q E s := fun Γ p hΓ hC => by
  rw [Sem.wp_run]; exact hc _ p rfl (hΓ.enter c none p (by intro x; cases x)) (hC.enter hcl none p)
theorem codeS.loop {c : Code} {R : Result → Shared → Prop} (hq : c.quiet = true) (hcl : cleanCode c = true) (I : Nat → Shared → Prop)
    (turn : ∀ n s, I n s → wpS M (A.under c) (M.den c) (fun fin s' => match fin with
        | .done f => R (.ok f) s'
        | .again c' => (c' = c ∧ ∃ m, m < n ∧ I m s') ∨ (cleanCode c' = true ∧ c'.quiet = true ∧ codeS M A c' R s')) (fun e s' => R (.error e) s') s)
    (n : Nat) (h : I n s) : codeS M A c R s := by
  induction n using Nat.strongRecOn generalizing s with
  | ind n ih =>
    refine codeS.tree (wpS.mono (turn n s h) (fun fin s' hf => ?_) fun _ _ h' => h')
    cases fin with
    | done f => exact hf
    | again c' =>
      rcases hf with ⟨rfl, m, hm, hI⟩ | hf
      · exact ⟨hcl, hq, ih m hm hI⟩
      · exact hf
end
theorem caller_clean : CleanC (⟨.builtin "claim.caller" {}, none, none, [], none⟩ : PySem.Ctx) := ⟨by decide +kernel, fun _ h => nomatch h⟩
theorem wp_of_wpS {M : Model} {t : Sem Fin} {R : Result → Shared → Prop} {s : Shared}
    (h : wpS M callerA t (fun fin s' => ∃ f, fin = .done f ∧ R (.ok f) s') (fun e s' => R (.error e) s') s) (p : Pos) :
    Sem.wp M ⟨.builtin "claim.caller" {}, none, none, [], none⟩ t (Sem.finPost M ⟨.builtin "claim.caller" {}, none, none, [], none⟩ R) (fun e _ s' => R (.error e) s') p s := by
  refine Sem.wp_mono M _ t (fun fin p' s' h' => ?_) (fun _ _ _ h' => h') p s (h _ p caller_in caller_clean)
  obtain ⟨f, rfl, hf⟩ := h'
  exact hf

theorem callFromS {c : ClaimW} {tree : List Value → Sem Fin} {w : World} {s : Shared} {free : Addr → Prop} {gens : Prop} {kept : Heap → Prop} (hz : s.asleep) (hgens : s.gens = #[])
    (hspec : ∀ args, c.pre args = true → WData.layableAll args = true → ∀ ord : List DictEntry → List DictEntry, (∀ l, (ord l).Perm l) →
      ∃ vs s₁, layAllW c.records (classAt s.heap) w.params ord args s = some (vs, s₁) ∧
        wpS (model c.prog w) callerA (tree vs) (fun fin s' => ∃ f, fin = .done f ∧ (c.Ends s args vs s₁ (.ok f) s' ∧ s'.os = s.os ∧ AllBare s'.gens ∧ kept s'.heap))
          (fun e s' => c.Ends s args vs s₁ (.error e) s' ∧ s'.os = s.os ∧ AllBare s'.gens ∧ kept s'.heap) s₁) :
    c.CallFrom (fun vs => ⟨tree vs, .builtin "claim.caller" {}, default, []⟩) w free gens kept s := by
  intro args hpre hlay ord hord
  obtain ⟨vs, s₁, hl, hc⟩ := hspec args hpre hlay ord hord
  have hal := layAllW_rest _ _ _ hl
  have hwp := wp_of_wpS (R := fun r s' => (c.Ends s args vs s₁ r s' ∧ s'.os = s.os ∧ kept s'.heap) ∧ leftWithCleanup s'.gens = false)
    (wpS.mono hc (fun fin s' ⟨f, e, h1, h2, h3, h4⟩ => ⟨f, e, ⟨h1, h2, h4⟩, leftWithCleanup_false_of_bare h3⟩) fun e s' ⟨h1, h2, h3, h4⟩ => ⟨⟨h1, h2, h4⟩, leftWithCleanup_false_of_bare h3⟩) default
  obtain ⟨k, r, sA, sB, hsched, hrun, hfo, hends, hos, hkept⟩ := wp_halts_full (Shared.asleep_of_life hal.2.2.2 hz) hwp
  obtain ⟨eh, _, _, eo, _⟩ := Shared.forget_eq hfo
  have hends' := hends.congr eh
  have hlife : sB.heap.life = s.heap.life := (runN_life _ _ _ hrun).trans hal.2.2.2
  refine ⟨vs, s₁, hl, k, _, sB, hsched, ?_, (fun _ i x hx => by rw [hgens] at hx; simp at hx), by rw [eh]; exact hkept, by rw [hlife], Shared.rest_eq (eo.trans hos)⟩
  rcases hends' with ⟨v, rfl, d1, d2, d3, d4, d5⟩ | ⟨e, ob, cls, rfl, d1, d2, d3, d4, d5⟩
  · exact .inl ⟨v, rfl, d1, d2, d3, fun b o y _ => d4 b o y, d5⟩
  · exact .inr ⟨e, ob, cls, rfl, d1, d2, d3, d4, fun b o y _ => d5 b o y⟩
end
section

noncomputable abbrev NoE : Value → Shared → Prop := fun _ _ => False
theorem wpS.noE {α : Type} {M : Model} {A : Around} {t : Sem α} {Q : α → Shared → Prop} {E : Value → Shared → Prop} {s : Shared} (h : wpS M A t Q NoE s) : wpS M A t Q E s := wpS.mono h (fun _ _ x => x) fun _ _ x => x.elim

section
variable {M : Model} {A : Around} {E : Value → Shared → Prop} {s : Shared} {env : Env}
theorem wpS.execs_nil {Q : Flow → Shared → Prop} (h : Q .next s) : wpS M A (execs [] env) Q E s := wpS.lift (wpAny_execs_nil h)
theorem wpS.dirty {st : Stmt} {rest : List Stmt} {Q : Flow → Shared → Prop} (h : wpS M A (exec st env) (fun f s' => match f with | .next => wpS M A (execs rest env) Q E s' | f => Q f s') E s) : wpS M A (execs (st :: rest) env) Q E s := by
  rw [execs_cons]
  refine wpS.bind (wpS.mono h (fun f s' h' => ?_) fun _ _ x => x)
  cases f <;> first | exact h' | exact wpS.pure h'
theorem wpS.Assign_Name {x pos' value pos} {Q : Flow → Shared → Prop}
    (h : wpS M A (eval value env) (fun v s₁ => wpAny M A (storeName env x v) (fun _ => Q .next) E s₁) E s)
    (hs : swapsWith value (some (.Name x pos')) pos.line env = Pure.pure false := by rfl) : wpS M A (exec (.Assign [.Name x pos'] value pos) env) Q E s := by
  rw [exec_Assign_Name env x pos' value pos hs]
  refine wpS.bind (wpS.standAt (wpS.bind (wpS.mono h (fun v s' h' => ?_) fun _ _ x => x)))
  refine wpS.bind (wpS.standAt (wpS.bindA (wpAny_bindName (wpAny_mono h' (fun _ s'' h'' => wpS.pure h'') fun _ _ x => x))))
theorem wpS.Return_some {e pos} {Q : Flow → Shared → Prop} (h : wpS M A (eval e env) (fun v => Q (.ret v)) E s) : wpS M A (exec (.Return (some e) pos) env) Q E s := by
  rw [exec_Return_some env]
  exact wpS.bind (wpS.standAt (wpS.bind (wpS.mono h (fun v s' h' => wpS.pure h') fun _ _ x => x)))
theorem wpS.Call_m {o : PySem.Expr} {name : Str} {apos pos : Pos} {args : List PySem.Expr} {pl : Sem Bool} {Q : Value → Shared → Prop}
    (h : wpAny M A (eval o env) (fun ov s₁ => wpAny M A (getMethod ov name pl) (fun fx s₂ => wpS M A (callWith pos fx.1 fx.2 (backTo pos (starEach args env)) []) Q E s₂) E s₁) E s)
    (he : eval (.Call (.Attribute o name apos) args [] pos) env = (do
      let ov ← eval o env
      PySem.standAt apos.atName
      let (f, first) ← PySem.holding [ov] (getMethod ov name pl)
      callWith pos f first (backTo pos (starEach args env)) []) := by rfl) : wpS M A (eval (.Call (.Attribute o name apos) args [] pos) env) Q E s := by
  rw [he]
  refine wpS.bindA (wpAny_mono h (fun ov s₁ h₁ => ?_) fun _ _ x => x)
  exact wpS.bind (wpS.standAt (wpS.bindA (wpAny_holding (wpAny_mono h₁ (fun fx s₂ h₂ => h₂) fun _ _ x => x))))
theorem wpS.callWith_of {P : Heap → Prop} {f : Value} {first : List Value} {pos : Pos} {args : List (Bool × Sem Value)} {Q : Value → Shared → Prop} (hplain : args.any (·.1) = false)
    (hk : ∀ h, P h → ∃ k, (k = Keeper.frame ∨ k = Keeper.machine ∨ k = Keeper.boundFrame) ∧ Looks M h (keeperOf f) k)
    (h : wpS M A (evalArgs f true args []) (fun a s₁ => P s₁.heap ∧ wpS M A (PySem.call f (first ++ a.pos) a.kw) Q E s₁) E s) : wpS M A (callWith pos f first args []) Q E s := by
  delta callWith
  refine wpS.bind (wpS.holding (wpS.mono h (fun a s₁ h₁ => wpS.bind (wpS.standAt ?_)) fun _ _ x => x))
  obtain ⟨k, hk', L⟩ := hk _ h₁.1
  have hp : (args.any (·.1) || ([] : List (Option Str × Sem Value)).any (·.1.isNone)) = false := by rw [hplain]; rfl
  rw [hp]
  refine wpS.bindA (L.here ?_)
  have tail : ∀ {t : Sem Value}, wpS M A t Q E s₁ → wpS M A (t >>= fun r => PySem.holding [r] point >>= fun _ => Pure.pure r) Q E s₁ :=
    fun ht => wpS.bind (wpS.mono ht (fun r s₂ hr => wpS.bind (wpS.holding (wpS.lift (wpAny_point (wpS.pure hr))))) fun _ _ x => x)
  have marked (mk : Value) : wpS M A (callMarked mk f (first ++ a.pos) a.kw) Q E s₁ := by unfold callMarked; exact wpS.keep h₁.2
  rcases hk' with rfl | rfl | rfl <;> dsimp only <;> first | exact tail h₁.2 | (split <;> first | exact tail h₁.2 | exact tail (marked _))
theorem wpS.callWith_K0 {K : Frag} {f : Value} {first : List Value} {pos : Pos} {Q : Value → Shared → Prop} (X : K.In s.heap) (hk : keepIn K f = true) (h : wpS M A (PySem.call f (first ++ [])) Q E s) : wpS M A (callWith pos f first (backTo pos (starEach [] env)) []) Q E s :=
  wpS.callWith_of rfl (keeps_K hk) (wpS.lift (PySem.evalArgs_none ⟨X, h⟩))
theorem wpS.runOwn {c : Code} {Q : Flow → Shared → Prop} (hcl : cleanCode c = true) (hc : codeS M A c (fun r s' => match r with | .ok f => Q f s' | .error _ => False) s) : wpS M A (runOwn c env none) Q E s := by
  unfold PySem.runOwn
  exact wpS.noE (wpS.onRaise (E := NoE) (wpS.mono (wpS.run (E := NoE) hcl (codeS.mono hc fun r s h => by cases r <;> exact h)) (fun _ _ x => x) fun _ _ x => x.elim))
end

section
variable {prog : Program} {w : World} {A : Around} {s : Shared}
theorem codeS.block {stmts : List Stmt} {env : Env} {R : Result → Shared → Prop} (h : wpS (model prog w) A (execs stmts env) (fun f s' => R (.ok f) s') NoE s) : codeS (model prog w) A (.block stmts env) R s := by
  refine codeS.tree ?_
  show wpS _ _ (do return Fin.done (← (execs stmts env).onRaise (fun x => do noteFrame x env; theTreesLotGoes x))) _ _ s
  exact wpS.bind (wpS.onRaise (wpS.mono h (fun f s' h' => wpS.pure h') fun _ _ x => x.elim))
theorem codeS.forLoop {R : Result → Shared → Prop} {target it body env} (I : Nat → Shared → Prop)
    (turn : ∀ n s, I n s → wpAny (model prog w) A (pyNext it) (fun r s₁ => match r with
      | none => R (.ok .next) s₁
      | some v => wpAny (model prog w) A (letOwnedTupleGo target it v) (fun _ s₁' =>
          wpAny (model prog w) A (assign target env v) (fun _ s₂ => wpS (model prog w) A (execs body env) (fun f s₃ => match f with
            | .next | .cont => ∃ m, m < n ∧ I m s₃
            | .brk => R (.ok .next) s₃
            | .ret v => R (.ok (.ret v)) s₃) NoE s₂) NoE s₁') NoE s₁) NoE s)
    (n : Nat) (h : I n s) : codeS (model prog w) A (.forLoop target it body [] env) R s := by
  refine codeS.loop rfl rfl I (fun n s hI => ?_) n h
  rw [Around.under_of_weight rfl]
  show wpS _ A ((forTurn target it body [] env).onRaise (fun x => do noteFrame x env; theTreesLotGoes x)) _ _ s
  refine wpS.onRaise (wpS.mono (E := NoE) ?_ (fun _ _ x => x) fun _ _ x => x.elim)
  delta forTurn
  refine wpS.bind (wpS.standAt (wpS.bindA (wpAny_onRaise (wpAny_mono (turn n s hI) (fun r s₁ h₁ => ?_) fun _ _ h' => h'.elim))))
  cases r with
  | none => exact wpS.pure (.inr ⟨rfl, rfl, codeS.block (wpS.execs_nil h₁)⟩)
  | some v =>
    refine wpS.bindA (wpAny_mono h₁ (fun _ s₁' h₁' => ?_) fun _ _ h' => h')
    refine wpS.bindA (wpAny_mono h₁' (fun _ s₂ h₂ => wpS.bind (wpS.mono h₂ (fun f s₃ h₃ => ?_) fun _ _ h' => h')) fun _ _ h' => h')
    cases f with
    | next => exact wpS.pure (.inl ⟨rfl, h₃⟩)
    | cont => exact wpS.pure (.inl ⟨rfl, h₃⟩)
    | brk => exact wpS.pure h₃
    | ret v => exact wpS.pure h₃
theorem codeS.func {body env} {R : Result → Shared → Prop} (h : wpS (model prog w) (A.deeper env) (execs body env) (fun f s' => R (.ok (.ret (match f with | .ret v => v | _ => .none))) s') NoE s) :
    codeS (model prog w) A (.func body env) R s := by
  refine codeS.tree ?_
  show wpS _ (A.deeper env) (do point; match ← (execs body env).onRaise (leaving env) with | .ret v => ret v | _ => ret .none) _ _ s
  refine wpS.bindA (wpAny_point (wpS.bind (wpS.onRaise (wpS.mono h (fun f s' h' => ?_) fun _ _ h' => h'.elim))))
  cases f <;> exact wpS.pure h'
theorem codeS.call_def {R : Result → Shared → Prop} {a : Addr} {o : Obj} {fd : FuncData} {body : List Stmt} {args : Args} {binds : List (Str × Value)}
    (hroom : A.depth < recursionLimit) (ho : s.heap.get? a = some o) (hdata : o.data = .func fd) (hlim : s.heap.NoLimit) (hcd : s.heap.CodeRec fd.code fd.qualname)
    (hbody : fd.body = .stmts body) (hbind : BindsTo s fd args binds)
    (hcell : ∀ x ∈ fd.scope.names, x.2 ≠ .cell) (hloc : ∀ x ∈ binds, fd.scope.names.lookup x.1 = some .local)
    (h : ∀ h₀, h₀.Ns s.heap.objs.size (fun x => binds.reverse.lookup x) → (∀ b o, s.heap.get? b = some o → h₀.get? b = some o) →
      wpS (model prog w) (A.deeper (callEnv fd s.heap.objs.size a)) (execs body (callEnv fd s.heap.objs.size a)) (fun f s' => R (.ok (.ret (match f with | .ret v => v | _ => .none))) s') NoE
        { s with heap := h₀, toks := s.toks + binds.length })
    (hco : fd.scope.isCoroutine = false := by rfl) (hgen : fd.scope.isGenerator = false := by rfl) (hk : fd.scope.kind = .function := by rfl) :
    codeS (model prog w) A (.call (.ref a) args) R s := by
  refine codeS.tree (wpS.lift ?_)
  show wpAny _ A.in1 (callAny (.ref a) args) _ _ s
  refine wpAny_bind (m := load a) (wpAny_load ho ?_)
  obtain ⟨c, oc, vs, tq, hc, hoc, hdc, hq⟩ := hcd
  rw [hdata]
  show wpAny _ _ (callFunction a fd _) _ _ _
  delta callFunction
  rw [hco, hgen, hbody, hc]
  refine wpAny_bind (m := field (.ref c) 1) (wpAny_field hoc hdc hq (wpAny_bind (wpAny_pure ?_)))
  refine wpAny_bind (hbind _ _ _ _ (wpAny_bind ?_))
  rw [← hc]
  refine wpAny_newFunctionEnv hcell hloc (fun h₀ hns₀ hsb₀ => wpAny_bind (wpAny_enterFrame (hlim.fresh _ hsb₀) hroom (wpAny_pure ?_))) hk
  exact ⟨rfl, rfl, codeS.func (h h₀ hns₀ fun b o e => hsb₀.extBut b o (Nat.ne_of_lt (Heap.lt_size e)) (Heap.get?_push_of_some _ e))⟩
end
end
section
theorem plainAttrs_ba : PlainAttrs "bytearray" :=
  ⟨⟨"bytearray.__getattribute__", by rw [typeLookup_type, builtinLookup_eq_fast]; kernel_rfl, by decide +kernel⟩, by rw [typeLookup_type, builtinLookup_eq_fast]; kernel_rfl⟩
theorem slot_ba_append : Slot "bytearray" "append" "bytearray.append" :=
  .of (owner := "bytearray") (n := "append") (by rw [typeLookup_type, builtinLookup_eq_fast]; kernel_rfl) (by decide +kernel) (by decide +kernel) (by decide +kernel)
    (by first | exact .inl (by decide +kernel) | exact .inr (by decide +kernel)) (by rw [isSubtype_type]; kernel_rfl)
theorem type_ba_append : typeOf (.builtin "bytearray.append") = pure (.type "method_descriptor") := by show builtinType _ = _; rw [builtinType_eq_fast]; kernel_rfl
theorem entry_ba_append : entryFor table "bytearray.append" = some Builtin.«bytearray.append» := entryFor_of_tree (by kernel_rfl)
theorem args_ba_append (a b : Value) : argsOk "bytearray.append" ⟨[a, b], []⟩ := by unfold argsOk; kernel_rfl

section
variable {prog : Program} {w : World} {A : Around} {E : Value → Shared → Prop} {s : Shared}
theorem codeS.call_builtin {id : String} {args : Args} {b : Builtin} {Q : Value → Shared → Prop} (hq : plainId id = true) (hcl : cleanCode (.builtin id args) = true) (hb : entryFor table id = some b)
    (h : wpAny (model prog w) A.in1 (checkBuiltinCall id args) (fun _ s₁ => wpS (model prog w) A.in1 (b args) (fun fin s' => ∃ v, fin = .done (.ret v) ∧ Q v s') NoE s₁) NoE s) :
    codeS (model prog w) A (.call (.builtin id) args) (fun r s' => match r with | .ok (.ret v) => Q v s' | _ => False) s := by
  refine codeS.tree (wpS.lift ?_)
  show wpAny _ A.in1 (do checkBuiltinCall id args; again (.builtin id args)) _ _ s
  refine wpAny_bind (wpAny_mono h (fun _ s₁ h₁ => wpAny_pure ⟨hcl, plainId_quiet hq args, codeS.tree ?_⟩) fun _ _ h' => h')
  rw [Around.under_plainId hq args]
  show wpS _ _ (match entryFor table id with | some b => b args | none => unsupported ((withoutEnding? id "#data").getD id)) _ _ s₁
  rw [hb]
  refine wpS.mono h₁ (fun fin s' hf => ?_) fun _ _ x => x.elim
  obtain ⟨v, rfl, hv⟩ := hf
  exact hv
theorem ids_clean {id : String} {args : Args} (h : cleanCode (.builtin id args) = true) : id ≠ "bytearray.__contains__" ∧ id ≠ "bytearray.__mod__" ∧ id ≠ "bytearray.__rmod__" ∧ id ≠ "_struct.pack_into.held" ∧ id ≠ "bytearray.find.held" ∧ Builtin.Bytes.decodersThatHold.contains id = false := by
  unfold cleanCode at h
  dsimp only at h
  simp only [Bool.not_eq_true', List.contains_append, Bool.or_eq_false_iff] at h
  have h1 := h.1
  simp only [List.contains_cons, Bool.or_eq_false_iff, beq_eq_false_iff_ne] at h1
  exact ⟨h1.1, h1.2.1, h1.2.2.1, h1.2.2.2.1, h1.2.2.2.2.1, h.2⟩
theorem wpS.exported {a : Addr} {Q : Bool → Shared → Prop} (h : Q false s) : wpS (model prog w) A (Builtin.Bytes.exported (.ref a)) Q E s := fun Γ p hΓ hC => by
  have h0 : ∀ x ∈ (Γ.code, p) :: Γ.below, cleanCode x.1 = true := fun x hx => by
    rcases List.mem_cons.mp hx with rfl | hx
    · exact hC.1
    · exact hC.2 x hx
  show Q (((Γ.code, p) :: Γ.below).any _) s
  rw [List.any_eq_false.mpr]
  · exact h
  · rintro ⟨c, q⟩ hx
    have hc := h0 _ hx
    clear h0 hx
    cases c with
    | builtin id args =>
      obtain ⟨n1, n2, n3, n4, n5, n6⟩ := ids_clean hc
      obtain ⟨vs, kw⟩ := args
      delta Builtin.Bytes.exported.match_1
      show ¬ (dite (id = "bytearray.__contains__") _ _ = true)
      rw [dif_neg n1, dif_neg n2, dif_neg n3, dif_neg n4, dif_neg n5]
      cases vs with
      | nil => exact Bool.false_ne_true
      | cons v r =>
        show ¬ ((_ && Builtin.Bytes.decodersThatHold.contains id) = true)
        rw [n6, Bool.and_false]
        exact Bool.false_ne_true
    | _ => exact Bool.false_ne_true

noncomputable abbrev baO (bs : List UInt8) : Obj := { cls := .type "bytearray", data := .bytearray bs.toArray 0 }
theorem append_at_ba {ba : Addr} {bs : List UInt8} {v : Int} {t : Tok} {Q : Value → Shared → Prop} (ho : s.heap.get? ba = some (baO bs)) (h0 : 0 ≤ v) (h1 : v < 256) (hl : bs.length < 2 ^ 20)
    (h : Q .none { s with heap := s.heap.update ba (Obj.mapBytearray (·.push v.toNat.toUInt8)) }) : wpS (model prog w) A (PySem.call (.builtin "bytearray.append") [.ref ba, .int v t]) Q E s := by
  refine wpS.call (codeS.mono (codeS.call_builtin (Q := Q) slot_ba_append.plain (by simp [cleanCode, Builtin.Bytes.decodersThatHold]) entry_ba_append (slot_ba_append.check _ _ _ _ _ _ _ _ ⟨_, ho, rfl⟩ (args_ba_append _ _) ?_)) fun r s' z => ?_)
  · have e1 : PySem.selfAndOne "bytearray.append" ⟨[.ref ba, .int v t], []⟩ = pure (.ref ba, .int v t) := rfl
    have e2 : Builtin.Bytes.byteValue (.int v t) = pure v.toNat.toUInt8 := by
      show (if (decide (v < 0) || decide (v ≥ 256)) = true then _ else _) = _
      rw [if_neg (by simp; k_extra "o")]
    unfold Builtin.«bytearray.append»
    rw [e1]
    refine wpS.bind (wpS.pure ?_)
    dsimp only
    rw [e2]
    refine wpS.bind (wpS.pure (wpS.bind ?_))
    unfold Builtin.Bytes.checkResize
    have hsz : (bs.toArray.push v.toNat.toUInt8).size ≤ sizeLine := by
      rw [Array.size_push, List.size_toArray]
      exact Nat.le_trans (show bs.length + 1 ≤ 2 ^ 20 by k_extra "o") (by decide)
    refine wpS.bind (wpS.bind (wpS.exported ?_))
    show wpS _ _ (do let d ← Builtin.Bytes.exportsOf (.ref ba); Pure.pure (decide (d > 0))) _ _ _
    refine wpS.bindA (wpAny_bind (wpAny_load ho (wpAny_pure (wpS.pure ?_))))
    refine wpS.pure (wpS.bindA ?_)
    show wpAny _ _ (updateBytearray ba fun x => x.push v.toNat.toUInt8) _ _ _
    refine wpAny_bind (wpAny_load ho (wpAny_bind (wpAny_update ho ?_)))
    refine wpAny_lookBehind (Heap.get?_update_self _ ho rfl) (by show (if _ > sizeLine then _ else none) = none; rw [if_neg (Nat.not_lt.mpr hsz)]) ?_
    exact wpS.pure ⟨_, rfl, h⟩
  · rcases r with e | (v | _ | _ | _) <;> first | exact z | exact z.elim
theorem append_ba {h₀ : Heap} {L ba : Addr} {m : Str → Option Value} {news news' : List (Addr × Obj)} {bs : List UInt8} {v : Int} {t : Tok} {Q : Value → Shared → Prop} (F : Fr h₀ L s.heap m) (N : News h₀ L s.heap news) (U : Upd ba (baO bs) (baO (bs ++ [v.toNat.toUInt8])) news news')
    (h0 : 0 ≤ v) (h1 : v < 256) (hl : bs.length < 2 ^ 20) (h : ∀ h', Fr h₀ L h' m → News h₀ L h' news' → Q .none { s with heap := h' }) : wpS (model prog w) A (PySem.call (.builtin "bytearray.append") [.ref ba, .int v t]) Q E s := by
  obtain ⟨pre, post, rfl, rfl, a, b⟩ := U.split
  have z := N (ba, baO bs) (List.mem_append.mpr (.inr (.head _)))
  have hs := Heap.SameBut.update (h := s.heap) (a := ba) (f := Obj.mapBytearray (·.push v.toNat.toUInt8))
  refine append_at_ba z.1 h0 h1 hl (h _ (F.change hs z.2.1 z.2.2) (news_set N a b hs ?_))
  have e : Obj.mapBytearray (·.push v.toNat.toUInt8) (baO bs) = baO (bs ++ [v.toNat.toUInt8]) := by
    show (⟨_, _, .bytearray (bs.toArray.push v.toNat.toUInt8) 0, _⟩ : Obj) = _
    rw [List.push_toArray]
  rw [← e]
  exact Heap.get?_update_self _ z.1 rfl
end
end
end Mine
end
section
open PySem PySem.W PySem.Calls PyProof.Rows PySem.Challenge
namespace Top
open PySem.Str (ofString)
noncomputable abbrev pw : Program := pw_nt0568_01
noncomputable def stAt : List Stmt → Nat → Stmt
  | [], _ => .Pass ⟨0, 0, 0, 0⟩
  | s :: _, 0 => s
  | _ :: l, n + 1 => stAt l n
noncomputable def inCls : Stmt → List Stmt
  | .ClassDef _ _ _ body _ _ _ _ _ _ _ => body
  | _ => []
noncomputable def st (i : Nat) : Stmt := stAt pw.main.body i
noncomputable def st2 (i j : Nat) : Stmt := stAt (inCls (st i)) j
noncomputable def fParams : Stmt → Arguments
  | .FunctionDef _ args _ _ _ _ _ _ _ _ => args
  | _ => ⟨[], [], none, [], [], none, []⟩
noncomputable def fBody : Stmt → List Stmt
  | .FunctionDef _ _ body _ _ _ _ _ _ _ => body
  | _ => []
noncomputable def fScope : Stmt → Scope
  | .FunctionDef _ _ _ _ _ _ scope _ _ _ => scope
  | _ => { kind := .function, names := [], isGenerator := false, isCoroutine := false }
noncomputable def x2 (P : Params) : Obj := { cls := .none, data := .dict #[{ hash := PyData.keyHash P (ofString "type.__subclasses__.Exception.0"), key := .str (ofString "type.__subclasses__.Exception.0") 221, val := .int 38 0 }, { hash := PyData.keyHash P (ofString "type.__subclasses__.Exception.n"), key := .str (ofString "type.__subclasses__.Exception.n") 222, val := .int 1 0 }] 2 }
noncomputable def x3 (P : Params) : Obj := { cls := .type "dict", data := .dict #[{ hash := PyData.keyHash P (ofString "__name__"), key := .str (ofString "__name__") 165, val := .str (ofString "law_nt0568_01") 832 }, { hash := PyData.keyHash P (ofString "__doc__"), key := .str (ofString "__doc__") 166, val := .none }, { hash := PyData.keyHash P (ofString "__package__"), key := .str (ofString "__package__") 167, val := .none }, { hash := PyData.keyHash P (ofString "__loader__"), key := .str (ofString "__loader__") 168, val := .builtin "__main__.__loader__#opaque" }, { hash := PyData.keyHash P (ofString "__spec__"), key := .str (ofString "__spec__") 169, val := .none }, { hash := PyData.keyHash P (ofString "__annotations__"), key := .str (ofString "__annotations__") 170, val := .ref 6 }, { hash := PyData.keyHash P (ofString "__builtins__"), key := .str (ofString "__builtins__") 171, val := .ref 4 }, { hash := PyData.keyHash P (ofString "__file__"), key := .str (ofString "__file__") 173, val := .str (ofString "/claim/cut.py") 172 }, { hash := PyData.keyHash P (ofString "__cached__"), key := .str (ofString "__cached__") 174, val := .none }, { hash := PyData.keyHash P (ofString "_wall"), key := .str (ofString "_wall") 193, val := .ref 21 }, { hash := PyData.keyHash P (ofString "PressError"), key := .str (ofString "PressError") 224, val := .ref 38 }, { hash := PyData.keyHash P (ofString "TableError"), key := .str (ofString "TableError") 240, val := .ref 51 }, { hash := PyData.keyHash P (ofString "CodeError"), key := .str (ofString "CodeError") 256, val := .ref 63 }, { hash := PyData.keyHash P (ofString "CutError"), key := .str (ofString "CutError") 272, val := .ref 75 }, { hash := PyData.keyHash P (ofString "RangeError"), key := .str (ofString "RangeError") 288, val := .ref 87 }, { hash := PyData.keyHash P (ofString "MOST_BITS"), key := .str (ofString "MOST_BITS") 292, val := .int 16 291 }, { hash := PyData.keyHash P (ofString "MOST_SYMBOLS"), key := .str (ofString "MOST_SYMBOLS") 294, val := .int 256 293 }, { hash := PyData.keyHash P (ofString "code_rows"), key := .str (ofString "code_rows") 306, val := .ref 96 }, { hash := PyData.keyHash P (ofString "check_told"), key := .str (ofString "check_told") 316, val := .ref 103 }, { hash := PyData.keyHash P (ofString "HuffTable"), key := .str (ofString "HuffTable") 375, val := .ref 134 }, { hash := PyData.keyHash P (ofString "Scan"), key := .str (ofString "Scan") 432, val := .ref 169 }, { hash := PyData.keyHash P (ofString "BitWriter"), key := .str (ofString "BitWriter") 487, val := .ref 211 }, { hash := PyData.keyHash P (ofString "BitReader"), key := .str (ofString "BitReader") 542, val := .ref 253 }, { hash := PyData.keyHash P (ofString "category"), key := .str (ofString "category") 551, val := .ref 264 }, { hash := PyData.keyHash P (ofString "bits_of"), key := .str (ofString "bits_of") 559, val := .ref 271 }, { hash := PyData.keyHash P (ofString "value_of"), key := .str (ofString "value_of") 567, val := .ref 278 }, { hash := PyData.keyHash P (ofString "ZEROS"), key := .str (ofString "ZEROS") 571, val := .int 240 570 }, { hash := PyData.keyHash P (ofString "MOST_SIZE"), key := .str (ofString "MOST_SIZE") 573, val := .int 15 572 }, { hash := PyData.keyHash P (ofString "put_number"), key := .str (ofString "put_number") 584, val := .ref 285 }, { hash := PyData.keyHash P (ofString "SequentialWriter"), key := .str (ofString "SequentialWriter") 644, val := .ref 323 }, { hash := PyData.keyHash P (ofString "SequentialReader"), key := .str (ofString "SequentialReader") 717, val := .ref 372 }, { hash := PyData.keyHash P (ofString "CodeSink"), key := .str (ofString "CodeSink") 777, val := .ref 414 }, { hash := PyData.keyHash P (ofString "CountSink"), key := .str (ofString "CountSink") 831, val := .ref 456 }, { hash := PyData.keyHash P (ofString "_law_pool"), key := .str (ofString "_law_pool") 843, val := .ref 467 }, { hash := PyData.keyHash P (ofString "_law_take"), key := .str (ofString "_law_take") 852, val := .ref 474 }, { hash := PyData.keyHash P (ofString "_law_number"), key := .str (ofString "_law_number") 860, val := .ref 481 }, { hash := PyData.keyHash P (ofString "_law_blocks"), key := .str (ofString "_law_blocks") 866, val := .ref 486 }, { hash := PyData.keyHash P (ofString "_law_coded"), key := .str (ofString "_law_coded") 876, val := .ref 493 }, { hash := PyData.keyHash P (ofString "_law_figures"), key := .str (ofString "_law_figures") 882, val := .ref 498 }, { hash := PyData.keyHash P (ofString "_law_number_text"), key := .str (ofString "_law_number_text") 894, val := .ref 505 }, { hash := PyData.keyHash P (ofString "_law_octets"), key := .str (ofString "_law_octets") 900, val := .ref 510 }, { hash := PyData.keyHash P (ofString "_law_zeros_right"), key := .str (ofString "_law_zeros_right") 913, val := .ref 517 }, { hash := PyData.keyHash P (ofString "_law_refused"), key := .str (ofString "_law_refused") 920, val := .ref 524 }, { hash := PyData.keyHash P (ofString "law"), key := .str (ofString "law") 926, val := .ref 529 }] 44 }
noncomputable def x11 (P : Params) : Obj := { cls := .type "tuple", data := .seq #[] }
noncomputable def x12 (P : Params) : Obj := { cls := .none, data := .fields #[.int 1 0, .int 0 0, .ref 20, .int 5 0, .int 0 0, .ref 27, .int 10 0, .int 0 0, .ref 47, .int 12 0, .int 0 0, .ref 59, .int 14 0, .int 0 0, .ref 71, .int 16 0, .int 0 0, .ref 83, .int 21 0, .int 0 0, .ref 95, .int 33 0, .int 0 0, .ref 102, .int 43 0, .int 0 0, .ref 109, .int 70 0, .int 0 0, .ref 144, .int 87 0, .int 0 0, .ref 179, .int 110 0, .int 0 0, .ref 221, .int 134 0, .int 0 0, .ref 263, .int 136 0, .int 0 0, .ref 270, .int 140 0, .int 0 0, .ref 277, .int 147 0, .int 0 0, .ref 284, .int 153 0, .int 0 0, .ref 291, .int 183 0, .int 0 0, .ref 333, .int 227 0, .int 0 0, .ref 382, .int 245 0, .int 0 0, .ref 424, .int 260 0, .int 0 0, .ref 466, .int 267 0, .int 0 0, .ref 473, .int 274 0, .int 0 0, .ref 480, .int 277 0, .int 0 0, .ref 485, .int 279 0, .int 0 0, .ref 492, .int 284 0, .int 0 0, .ref 497, .int 286 0, .int 0 0, .ref 504, .int 290 0, .int 0 0, .ref 509, .int 307 0, .int 0 0, .ref 516, .int 318 0, .int 0 0, .ref 523, .int 324 0, .int 0 0, .ref 528] }
noncomputable def x13 (P : Params) : Obj := { cls := .type "code", data := .fields #[.str (ofString "<module>") 182, .str (ofString "<module>") 183, .str (ofString "/claim/cut.py") 184, .int 1 0, .int 0 0, .int 0 0, .int 0 0, .int 0 0, .ref 11, .bool false, .int 181 0, .ref 12, .none, .none, .none, .none, .int 185 0, .int 1 0, .str (ofString "/claim/cut.py") 186] }
noncomputable def x14 (P : Params) : Obj := { cls := .type "frame", slots := #[some (.ref 13), some (.ref 3), some (.ref 3), none, some (.str (ofString "__main__") 164), none, some (.ref 0)] }
noncomputable def x15 (P : Params) : Obj := { cls := .type "tuple", data := .seq #[] }
noncomputable def x16 (P : Params) : Obj := { cls := .none, data := .fields #[] }
noncomputable def x17 (P : Params) : Obj := { cls := .type "tuple", data := .seq #[.str (ofString "k") 190] }
noncomputable def x18 (P : Params) : Obj := { cls := .type "tuple", data := .seq #[] }
noncomputable def x19 (P : Params) : Obj := { cls := .none, data := .func { name := ofString "_wall", qualname := ofString "_wall", params := (fParams (st 0)), body := FuncBody.stmts (fBody (st 0)), scope := (fScope (st 0)), globals := 0, closure := [], defaults := .none, kwdefaults := .none } }
noncomputable def x20 (P : Params) : Obj := { cls := .type "code", data := .fields #[.str (ofString "_wall") 187, .str (ofString "_wall") 188, .str (ofString "/claim/cut.py") 189, .int 1 0, .int 1 0, .int 0 0, .int 0 0, .int 3 0, .ref 15, .bool true, .int 181 0, .ref 16, .none, .ref 17, .ref 18, .ref 19, .int 191 0, .int 1 0, .str (ofString "/claim/cut.py") 192] }
noncomputable def x21 (P : Params) : Obj := { cls := .type "function", data := .func { name := ofString "_wall", qualname := ofString "_wall", params := (fParams (st 0)), body := FuncBody.stmts (fBody (st 0)), scope := (fScope (st 0)), globals := 3, closure := [], defaults := .none, kwdefaults := .none, pyModule := .str (ofString "__main__") 164, code := .ref 20 } }
noncomputable def x22 (P : Params) : Obj := { cls := .type "tuple", data := .seq #[.type "Exception"] }
noncomputable def x23 (P : Params) : Obj := { cls := .type "builtin_function_or_method", data := .fields #[.builtin "type.__prepare__", .type "type"] }
noncomputable def x24 (P : Params) : Obj := { cls := .type "dict", data := .dict #[{ hash := PyData.keyHash P (ofString "__module__"), key := .str (ofString "__module__") 203, val := .str (ofString "pixelpress.errors") 194 }, { hash := PyData.keyHash P (ofString "__qualname__"), key := .str (ofString "__qualname__") 205, val := .str (ofString "PressError") 204 }, { hash := PyData.keyHash P (ofString "__firstlineno__"), key := .str (ofString "__firstlineno__") 207, val := .int 5 206 }, { hash := PyData.keyHash P (ofString "__init__"), key := .str (ofString "__init__") 215, val := .ref 35 }, { hash := PyData.keyHash P (ofString "__static_attributes__"), key := .str (ofString "__static_attributes__") 217, val := .ref 36 }] 5 }
noncomputable def x25 (P : Params) : Obj := { cls := .type "tuple", data := .seq #[] }
noncomputable def x26 (P : Params) : Obj := { cls := .none, data := .fields #[.int 7 0, .int 4 0, .ref 34] }
noncomputable def x27 (P : Params) : Obj := { cls := .type "code", data := .fields #[.str (ofString "PressError") 198, .str (ofString "PressError") 199, .str (ofString "/claim/cut.py") 200, .int 5 0, .int 0 0, .int 0 0, .int 0 0, .int 0 0, .ref 25, .bool false, .int 181 0, .ref 26, .none, .none, .none, .none, .int 201 0, .int 5 0, .str (ofString "/claim/cut.py") 202] }
noncomputable def x28 (P : Params) : Obj := { cls := .type "frame", slots := #[some (.ref 27), some (.ref 3), some (.ref 24), none, some (.str (ofString "pixelpress.errors") 194), none, some (.ref 0)] }
noncomputable def x29 (P : Params) : Obj := { cls := .type "tuple", data := .seq #[] }
noncomputable def x30 (P : Params) : Obj := { cls := .none, data := .fields #[] }
noncomputable def x31 (P : Params) : Obj := { cls := .type "tuple", data := .seq #[.str (ofString "self") 211, .str (ofString "message") 212] }
noncomputable def x32 (P : Params) : Obj := { cls := .type "tuple", data := .seq #[] }
noncomputable def x33 (P : Params) : Obj := { cls := .none, data := .func { name := ofString "__init__", qualname := ofString "PressError.__init__", params := (fParams (st2 2 0)), body := FuncBody.stmts (fBody (st2 2 0)), scope := (fScope (st2 2 0)), globals := 0, closure := [], defaults := .none, kwdefaults := .none } }
noncomputable def x34 (P : Params) : Obj := { cls := .type "code", data := .fields #[.str (ofString "__init__") 208, .str (ofString "PressError.__init__") 209, .str (ofString "/claim/cut.py") 210, .int 7 0, .int 2 0, .int 0 0, .int 0 0, .int 3 0, .ref 29, .bool true, .int 181 0, .ref 30, .none, .ref 31, .ref 32, .ref 33, .int 213 0, .int 7 0, .str (ofString "/claim/cut.py") 214] }
noncomputable def x35 (P : Params) : Obj := { cls := .type "function", data := .func { name := ofString "__init__", qualname := ofString "PressError.__init__", params := (fParams (st2 2 0)), body := FuncBody.stmts (fBody (st2 2 0)), scope := (fScope (st2 2 0)), globals := 3, closure := [], defaults := .none, kwdefaults := .none, pyModule := .str (ofString "pixelpress.errors") 194, code := .ref 34 } }
noncomputable def x36 (P : Params) : Obj := { cls := .type "tuple", data := .seq #[.str (ofString "message") 216] }
noncomputable def x37 (P : Params) : Obj := { cls := .type "dict", data := .dict #[{ hash := PyData.keyHash P (ofString "__module__"), key := .str (ofString "__module__") 203, val := .str (ofString "pixelpress.errors") 194 }, { hash := PyData.keyHash P (ofString "__firstlineno__"), key := .str (ofString "__firstlineno__") 207, val := .int 5 206 }, { hash := PyData.keyHash P (ofString "__init__"), key := .str (ofString "__init__") 215, val := .ref 35 }, { hash := PyData.keyHash P (ofString "__static_attributes__"), key := .str (ofString "__static_attributes__") 217, val := .ref 36 }, { hash := PyData.keyHash P (ofString "__weakref__"), key := .str (ofString "__weakref__") 219, val := .ref 39 }, { hash := PyData.keyHash P (ofString "__doc__"), key := .str (ofString "__doc__") 220, val := .none }] 3 }
noncomputable def x38 (P : Params) : Obj := { cls := .type "type", data := .cls { name := ofString "PressError", bases := [.type "Exception"], mro := [.ref 38, .type "Exception", .type "BaseException", .type "object"], ns := 37, qualname := ofString "PressError", subclasses := [.ref 51, .ref 63, .ref 75, .ref 87] }, slots := #[some (.ref 22), none, some (.str (ofString "PressError") 196), some (.str (ofString "PressError") 204), some (.builtin "Exception.__new__"), some (.bool true)] }
noncomputable def x39 (P : Params) : Obj := { cls := .type "getset_descriptor", data := .fields #[.str (ofString "__weakref__") 218, .ref 38, .builtin "ExceptionGroup.__weakref__", .none] }
noncomputable def x40 (P : Params) : Obj := { cls := .type "super", data := .fields #[.ref 38, .ref 38, .ref 38] }
noncomputable def x41 (P : Params) : Obj := { cls := .type "builtin_function_or_method", data := .fields #[.builtin "object.__init_subclass__", .ref 38] }
noncomputable def x42 (P : Params) : Obj := { cls := .type "tuple", data := .seq #[.ref 38] }
noncomputable def x43 (P : Params) : Obj := { cls := .type "builtin_function_or_method", data := .fields #[.builtin "type.__prepare__", .type "type"] }
noncomputable def x44 (P : Params) : Obj := { cls := .type "dict", data := .dict #[{ hash := PyData.keyHash P (ofString "__module__"), key := .str (ofString "__module__") 232, val := .str (ofString "pixelpress.errors") 194 }, { hash := PyData.keyHash P (ofString "__qualname__"), key := .str (ofString "__qualname__") 234, val := .str (ofString "TableError") 233 }, { hash := PyData.keyHash P (ofString "__firstlineno__"), key := .str (ofString "__firstlineno__") 236, val := .int 10 235 }, { hash := PyData.keyHash P (ofString "__static_attributes__"), key := .str (ofString "__static_attributes__") 237, val := .ref 49 }] 4 }
noncomputable def x45 (P : Params) : Obj := { cls := .type "tuple", data := .seq #[] }
noncomputable def x46 (P : Params) : Obj := { cls := .none, data := .fields #[] }
noncomputable def x47 (P : Params) : Obj := { cls := .type "code", data := .fields #[.str (ofString "TableError") 227, .str (ofString "TableError") 228, .str (ofString "/claim/cut.py") 229, .int 10 0, .int 0 0, .int 0 0, .int 0 0, .int 0 0, .ref 45, .bool false, .int 181 0, .ref 46, .none, .none, .none, .none, .int 230 0, .int 10 0, .str (ofString "/claim/cut.py") 231] }
noncomputable def x48 (P : Params) : Obj := { cls := .type "frame", slots := #[some (.ref 47), some (.ref 3), some (.ref 44), none, some (.str (ofString "pixelpress.errors") 194), none, some (.ref 0)] }
noncomputable def x49 (P : Params) : Obj := { cls := .type "tuple", data := .seq #[] }
noncomputable def x50 (P : Params) : Obj := { cls := .type "dict", data := .dict #[{ hash := PyData.keyHash P (ofString "__module__"), key := .str (ofString "__module__") 232, val := .str (ofString "pixelpress.errors") 194 }, { hash := PyData.keyHash P (ofString "__firstlineno__"), key := .str (ofString "__firstlineno__") 236, val := .int 10 235 }, { hash := PyData.keyHash P (ofString "__static_attributes__"), key := .str (ofString "__static_attributes__") 237, val := .ref 49 }, { hash := PyData.keyHash P (ofString "__doc__"), key := .str (ofString "__doc__") 238, val := .none }] 2 }
noncomputable def x51 (P : Params) : Obj := { cls := .type "type", data := .cls { name := ofString "TableError", bases := [.ref 38], mro := [.ref 51, .ref 38, .type "Exception", .type "BaseException", .type "object"], ns := 50, qualname := ofString "TableError" }, slots := #[some (.ref 42), none, some (.str (ofString "TableError") 225), some (.str (ofString "TableError") 233), some (.builtin "Exception.__new__"), some (.bool true)] }
noncomputable def x52 (P : Params) : Obj := { cls := .type "super", data := .fields #[.ref 51, .ref 51, .ref 51] }
noncomputable def x53 (P : Params) : Obj := { cls := .type "builtin_function_or_method", data := .fields #[.builtin "object.__init_subclass__", .ref 51] }
noncomputable def x54 (P : Params) : Obj := { cls := .type "tuple", data := .seq #[.ref 38] }
noncomputable def x55 (P : Params) : Obj := { cls := .type "builtin_function_or_method", data := .fields #[.builtin "type.__prepare__", .type "type"] }
noncomputable def x56 (P : Params) : Obj := { cls := .type "dict", data := .dict #[{ hash := PyData.keyHash P (ofString "__module__"), key := .str (ofString "__module__") 248, val := .str (ofString "pixelpress.errors") 194 }, { hash := PyData.keyHash P (ofString "__qualname__"), key := .str (ofString "__qualname__") 250, val := .str (ofString "CodeError") 249 }, { hash := PyData.keyHash P (ofString "__firstlineno__"), key := .str (ofString "__firstlineno__") 252, val := .int 12 251 }, { hash := PyData.keyHash P (ofString "__static_attributes__"), key := .str (ofString "__static_attributes__") 253, val := .ref 61 }] 4 }
noncomputable def x57 (P : Params) : Obj := { cls := .type "tuple", data := .seq #[] }
noncomputable def x58 (P : Params) : Obj := { cls := .none, data := .fields #[] }
noncomputable def x59 (P : Params) : Obj := { cls := .type "code", data := .fields #[.str (ofString "CodeError") 243, .str (ofString "CodeError") 244, .str (ofString "/claim/cut.py") 245, .int 12 0, .int 0 0, .int 0 0, .int 0 0, .int 0 0, .ref 57, .bool false, .int 181 0, .ref 58, .none, .none, .none, .none, .int 246 0, .int 12 0, .str (ofString "/claim/cut.py") 247] }
noncomputable def x60 (P : Params) : Obj := { cls := .type "frame", slots := #[some (.ref 59), some (.ref 3), some (.ref 56), none, some (.str (ofString "pixelpress.errors") 194), none, some (.ref 0)] }
noncomputable def x61 (P : Params) : Obj := { cls := .type "tuple", data := .seq #[] }
noncomputable def x62 (P : Params) : Obj := { cls := .type "dict", data := .dict #[{ hash := PyData.keyHash P (ofString "__module__"), key := .str (ofString "__module__") 248, val := .str (ofString "pixelpress.errors") 194 }, { hash := PyData.keyHash P (ofString "__firstlineno__"), key := .str (ofString "__firstlineno__") 252, val := .int 12 251 }, { hash := PyData.keyHash P (ofString "__static_attributes__"), key := .str (ofString "__static_attributes__") 253, val := .ref 61 }, { hash := PyData.keyHash P (ofString "__doc__"), key := .str (ofString "__doc__") 254, val := .none }] 2 }
noncomputable def x63 (P : Params) : Obj := { cls := .type "type", data := .cls { name := ofString "CodeError", bases := [.ref 38], mro := [.ref 63, .ref 38, .type "Exception", .type "BaseException", .type "object"], ns := 62, qualname := ofString "CodeError" }, slots := #[some (.ref 54), none, some (.str (ofString "CodeError") 241), some (.str (ofString "CodeError") 249), some (.builtin "Exception.__new__"), some (.bool true)] }
noncomputable def x64 (P : Params) : Obj := { cls := .type "super", data := .fields #[.ref 63, .ref 63, .ref 63] }
noncomputable def x65 (P : Params) : Obj := { cls := .type "builtin_function_or_method", data := .fields #[.builtin "object.__init_subclass__", .ref 63] }
noncomputable def x66 (P : Params) : Obj := { cls := .type "tuple", data := .seq #[.ref 38] }
noncomputable def x67 (P : Params) : Obj := { cls := .type "builtin_function_or_method", data := .fields #[.builtin "type.__prepare__", .type "type"] }
noncomputable def x68 (P : Params) : Obj := { cls := .type "dict", data := .dict #[{ hash := PyData.keyHash P (ofString "__module__"), key := .str (ofString "__module__") 264, val := .str (ofString "pixelpress.errors") 194 }, { hash := PyData.keyHash P (ofString "__qualname__"), key := .str (ofString "__qualname__") 266, val := .str (ofString "CutError") 265 }, { hash := PyData.keyHash P (ofString "__firstlineno__"), key := .str (ofString "__firstlineno__") 268, val := .int 14 267 }, { hash := PyData.keyHash P (ofString "__static_attributes__"), key := .str (ofString "__static_attributes__") 269, val := .ref 73 }] 4 }
noncomputable def x69 (P : Params) : Obj := { cls := .type "tuple", data := .seq #[] }
noncomputable def x70 (P : Params) : Obj := { cls := .none, data := .fields #[] }
noncomputable def x71 (P : Params) : Obj := { cls := .type "code", data := .fields #[.str (ofString "CutError") 259, .str (ofString "CutError") 260, .str (ofString "/claim/cut.py") 261, .int 14 0, .int 0 0, .int 0 0, .int 0 0, .int 0 0, .ref 69, .bool false, .int 181 0, .ref 70, .none, .none, .none, .none, .int 262 0, .int 14 0, .str (ofString "/claim/cut.py") 263] }
noncomputable def x72 (P : Params) : Obj := { cls := .type "frame", slots := #[some (.ref 71), some (.ref 3), some (.ref 68), none, some (.str (ofString "pixelpress.errors") 194), none, some (.ref 0)] }
noncomputable def x73 (P : Params) : Obj := { cls := .type "tuple", data := .seq #[] }
noncomputable def x74 (P : Params) : Obj := { cls := .type "dict", data := .dict #[{ hash := PyData.keyHash P (ofString "__module__"), key := .str (ofString "__module__") 264, val := .str (ofString "pixelpress.errors") 194 }, { hash := PyData.keyHash P (ofString "__firstlineno__"), key := .str (ofString "__firstlineno__") 268, val := .int 14 267 }, { hash := PyData.keyHash P (ofString "__static_attributes__"), key := .str (ofString "__static_attributes__") 269, val := .ref 73 }, { hash := PyData.keyHash P (ofString "__doc__"), key := .str (ofString "__doc__") 270, val := .none }] 2 }
noncomputable def x75 (P : Params) : Obj := { cls := .type "type", data := .cls { name := ofString "CutError", bases := [.ref 38], mro := [.ref 75, .ref 38, .type "Exception", .type "BaseException", .type "object"], ns := 74, qualname := ofString "CutError" }, slots := #[some (.ref 66), none, some (.str (ofString "CutError") 257), some (.str (ofString "CutError") 265), some (.builtin "Exception.__new__"), some (.bool true)] }
noncomputable def x76 (P : Params) : Obj := { cls := .type "super", data := .fields #[.ref 75, .ref 75, .ref 75] }
noncomputable def x77 (P : Params) : Obj := { cls := .type "builtin_function_or_method", data := .fields #[.builtin "object.__init_subclass__", .ref 75] }
noncomputable def x78 (P : Params) : Obj := { cls := .type "tuple", data := .seq #[.ref 38] }
noncomputable def x79 (P : Params) : Obj := { cls := .type "builtin_function_or_method", data := .fields #[.builtin "type.__prepare__", .type "type"] }
noncomputable def x80 (P : Params) : Obj := { cls := .type "dict", data := .dict #[{ hash := PyData.keyHash P (ofString "__module__"), key := .str (ofString "__module__") 280, val := .str (ofString "pixelpress.errors") 194 }, { hash := PyData.keyHash P (ofString "__qualname__"), key := .str (ofString "__qualname__") 282, val := .str (ofString "RangeError") 281 }, { hash := PyData.keyHash P (ofString "__firstlineno__"), key := .str (ofString "__firstlineno__") 284, val := .int 16 283 }, { hash := PyData.keyHash P (ofString "__static_attributes__"), key := .str (ofString "__static_attributes__") 285, val := .ref 85 }] 4 }
noncomputable def x81 (P : Params) : Obj := { cls := .type "tuple", data := .seq #[] }
noncomputable def x82 (P : Params) : Obj := { cls := .none, data := .fields #[] }
noncomputable def x83 (P : Params) : Obj := { cls := .type "code", data := .fields #[.str (ofString "RangeError") 275, .str (ofString "RangeError") 276, .str (ofString "/claim/cut.py") 277, .int 16 0, .int 0 0, .int 0 0, .int 0 0, .int 0 0, .ref 81, .bool false, .int 181 0, .ref 82, .none, .none, .none, .none, .int 278 0, .int 16 0, .str (ofString "/claim/cut.py") 279] }
noncomputable def x84 (P : Params) : Obj := { cls := .type "frame", slots := #[some (.ref 83), some (.ref 3), some (.ref 80), none, some (.str (ofString "pixelpress.errors") 194), none, some (.ref 0)] }
noncomputable def x85 (P : Params) : Obj := { cls := .type "tuple", data := .seq #[] }
noncomputable def x86 (P : Params) : Obj := { cls := .type "dict", data := .dict #[{ hash := PyData.keyHash P (ofString "__module__"), key := .str (ofString "__module__") 280, val := .str (ofString "pixelpress.errors") 194 }, { hash := PyData.keyHash P (ofString "__firstlineno__"), key := .str (ofString "__firstlineno__") 284, val := .int 16 283 }, { hash := PyData.keyHash P (ofString "__static_attributes__"), key := .str (ofString "__static_attributes__") 285, val := .ref 85 }, { hash := PyData.keyHash P (ofString "__doc__"), key := .str (ofString "__doc__") 286, val := .none }] 2 }
noncomputable def x87 (P : Params) : Obj := { cls := .type "type", data := .cls { name := ofString "RangeError", bases := [.ref 38], mro := [.ref 87, .ref 38, .type "Exception", .type "BaseException", .type "object"], ns := 86, qualname := ofString "RangeError" }, slots := #[some (.ref 78), none, some (.str (ofString "RangeError") 273), some (.str (ofString "RangeError") 281), some (.builtin "Exception.__new__"), some (.bool true)] }
noncomputable def x88 (P : Params) : Obj := { cls := .type "super", data := .fields #[.ref 87, .ref 87, .ref 87] }
noncomputable def x89 (P : Params) : Obj := { cls := .type "builtin_function_or_method", data := .fields #[.builtin "object.__init_subclass__", .ref 87] }
noncomputable def x90 (P : Params) : Obj := { cls := .type "tuple", data := .seq #[] }
noncomputable def x91 (P : Params) : Obj := { cls := .none, data := .fields #[] }
noncomputable def x92 (P : Params) : Obj := { cls := .type "tuple", data := .seq #[.str (ofString "counts") 298, .str (ofString "rows") 299, .str (ofString "code") 300, .str (ofString "place") 301, .str (ofString "size") 302, .str (ofString "many") 303] }
noncomputable def x93 (P : Params) : Obj := { cls := .type "tuple", data := .seq #[] }
noncomputable def x94 (P : Params) : Obj := { cls := .none, data := .func { name := ofString "code_rows", qualname := ofString "code_rows", params := (fParams (st 10)), body := FuncBody.stmts (fBody (st 10)), scope := (fScope (st 10)), globals := 0, closure := [], defaults := .none, kwdefaults := .none } }
noncomputable def x95 (P : Params) : Obj := { cls := .type "code", data := .fields #[.str (ofString "code_rows") 295, .str (ofString "code_rows") 296, .str (ofString "/claim/cut.py") 297, .int 21 0, .int 1 0, .int 0 0, .int 0 0, .int 3 0, .ref 90, .bool true, .int 181 0, .ref 91, .none, .ref 92, .ref 93, .ref 94, .int 304 0, .int 21 0, .str (ofString "/claim/cut.py") 305] }
noncomputable def x96 (P : Params) : Obj := { cls := .type "function", data := .func { name := ofString "code_rows", qualname := ofString "code_rows", params := (fParams (st 10)), body := FuncBody.stmts (fBody (st 10)), scope := (fScope (st 10)), globals := 3, closure := [], defaults := .none, kwdefaults := .none, pyModule := .str (ofString "pixelpress.huffman") 289, code := .ref 95 } }
noncomputable def x97 (P : Params) : Obj := { cls := .type "tuple", data := .seq #[] }
noncomputable def x98 (P : Params) : Obj := { cls := .none, data := .fields #[] }
noncomputable def x99 (P : Params) : Obj := { cls := .type "tuple", data := .seq #[.str (ofString "counts") 310, .str (ofString "symbols") 311, .str (ofString "met") 312, .str (ofString "symbol") 313] }
noncomputable def x100 (P : Params) : Obj := { cls := .type "tuple", data := .seq #[] }
noncomputable def x101 (P : Params) : Obj := { cls := .none, data := .func { name := ofString "check_told", qualname := ofString "check_told", params := (fParams (st 11)), body := FuncBody.stmts (fBody (st 11)), scope := (fScope (st 11)), globals := 0, closure := [], defaults := .none, kwdefaults := .none } }
noncomputable def x102 (P : Params) : Obj := { cls := .type "code", data := .fields #[.str (ofString "check_told") 307, .str (ofString "check_told") 308, .str (ofString "/claim/cut.py") 309, .int 33 0, .int 2 0, .int 0 0, .int 0 0, .int 3 0, .ref 97, .bool true, .int 181 0, .ref 98, .none, .ref 99, .ref 100, .ref 101, .int 314 0, .int 33 0, .str (ofString "/claim/cut.py") 315] }
noncomputable def x103 (P : Params) : Obj := { cls := .type "function", data := .func { name := ofString "check_told", qualname := ofString "check_told", params := (fParams (st 11)), body := FuncBody.stmts (fBody (st 11)), scope := (fScope (st 11)), globals := 3, closure := [], defaults := .none, kwdefaults := .none, pyModule := .str (ofString "pixelpress.huffman") 289, code := .ref 102 } }
noncomputable def x104 (P : Params) : Obj := { cls := .type "tuple", data := .seq #[] }
noncomputable def x105 (P : Params) : Obj := { cls := .type "builtin_function_or_method", data := .fields #[.builtin "type.__prepare__", .type "type"] }
noncomputable def x106 (P : Params) : Obj := { cls := .type "dict", data := .dict #[{ hash := PyData.keyHash P (ofString "__module__"), key := .str (ofString "__module__") 324, val := .str (ofString "pixelpress.huffman") 289 }, { hash := PyData.keyHash P (ofString "__qualname__"), key := .str (ofString "__qualname__") 326, val := .str (ofString "HuffTable") 325 }, { hash := PyData.keyHash P (ofString "__firstlineno__"), key := .str (ofString "__firstlineno__") 328, val := .int 43 327 }, { hash := PyData.keyHash P (ofString "__init__"), key := .str (ofString "__init__") 342, val := .ref 117 }, { hash := PyData.keyHash P (ofString "code"), key := .str (ofString "code") 351, val := .ref 124 }, { hash := PyData.keyHash P (ofString "read"), key := .str (ofString "read") 363, val := .ref 131 }, { hash := PyData.keyHash P (ofString "__static_attributes__"), key := .str (ofString "__static_attributes__") 368, val := .ref 132 }] 7 }
noncomputable def x107 (P : Params) : Obj := { cls := .type "tuple", data := .seq #[] }
noncomputable def x108 (P : Params) : Obj := { cls := .none, data := .fields #[.int 45 0, .int 4 0, .ref 116, .int 56 0, .int 4 0, .ref 123, .int 62 0, .int 4 0, .ref 130] }
noncomputable def x109 (P : Params) : Obj := { cls := .type "code", data := .fields #[.str (ofString "HuffTable") 319, .str (ofString "HuffTable") 320, .str (ofString "/claim/cut.py") 321, .int 43 0, .int 0 0, .int 0 0, .int 0 0, .int 0 0, .ref 107, .bool false, .int 181 0, .ref 108, .none, .none, .none, .none, .int 322 0, .int 43 0, .str (ofString "/claim/cut.py") 323] }
noncomputable def x110 (P : Params) : Obj := { cls := .type "frame", slots := #[some (.ref 109), some (.ref 3), some (.ref 106), none, some (.str (ofString "pixelpress.huffman") 289), none, some (.ref 0)] }
noncomputable def x111 (P : Params) : Obj := { cls := .type "tuple", data := .seq #[] }
noncomputable def x112 (P : Params) : Obj := { cls := .none, data := .fields #[] }
noncomputable def x113 (P : Params) : Obj := { cls := .type "tuple", data := .seq #[.str (ofString "self") 332, .str (ofString "counts") 333, .str (ofString "symbols") 334, .str (ofString "size") 335, .str (ofString "first") 336, .str (ofString "many") 337, .str (ofString "place") 338, .str (ofString "k") 339] }
noncomputable def x114 (P : Params) : Obj := { cls := .type "tuple", data := .seq #[] }
noncomputable def x115 (P : Params) : Obj := { cls := .none, data := .func { name := ofString "__init__", qualname := ofString "HuffTable.__init__", params := (fParams (st2 12 0)), body := FuncBody.stmts (fBody (st2 12 0)), scope := (fScope (st2 12 0)), globals := 0, closure := [], defaults := .none, kwdefaults := .none } }
noncomputable def x116 (P : Params) : Obj := { cls := .type "code", data := .fields #[.str (ofString "__init__") 329, .str (ofString "HuffTable.__init__") 330, .str (ofString "/claim/cut.py") 331, .int 45 0, .int 3 0, .int 0 0, .int 0 0, .int 3 0, .ref 111, .bool true, .int 181 0, .ref 112, .none, .ref 113, .ref 114, .ref 115, .int 340 0, .int 45 0, .str (ofString "/claim/cut.py") 341] }
noncomputable def x117 (P : Params) : Obj := { cls := .type "function", data := .func { name := ofString "__init__", qualname := ofString "HuffTable.__init__", params := (fParams (st2 12 0)), body := FuncBody.stmts (fBody (st2 12 0)), scope := (fScope (st2 12 0)), globals := 3, closure := [], defaults := .none, kwdefaults := .none, pyModule := .str (ofString "pixelpress.huffman") 289, code := .ref 116 } }
noncomputable def x118 (P : Params) : Obj := { cls := .type "tuple", data := .seq #[] }
noncomputable def x119 (P : Params) : Obj := { cls := .none, data := .fields #[] }
noncomputable def x120 (P : Params) : Obj := { cls := .type "tuple", data := .seq #[.str (ofString "self") 346, .str (ofString "symbol") 347, .str (ofString "found") 348] }
noncomputable def x121 (P : Params) : Obj := { cls := .type "tuple", data := .seq #[] }
noncomputable def x122 (P : Params) : Obj := { cls := .none, data := .func { name := ofString "code", qualname := ofString "HuffTable.code", params := (fParams (st2 12 1)), body := FuncBody.stmts (fBody (st2 12 1)), scope := (fScope (st2 12 1)), globals := 0, closure := [], defaults := .none, kwdefaults := .none } }
noncomputable def x123 (P : Params) : Obj := { cls := .type "code", data := .fields #[.str (ofString "code") 343, .str (ofString "HuffTable.code") 344, .str (ofString "/claim/cut.py") 345, .int 56 0, .int 2 0, .int 0 0, .int 0 0, .int 3 0, .ref 118, .bool true, .int 181 0, .ref 119, .none, .ref 120, .ref 121, .ref 122, .int 349 0, .int 56 0, .str (ofString "/claim/cut.py") 350] }
noncomputable def x124 (P : Params) : Obj := { cls := .type "function", data := .func { name := ofString "code", qualname := ofString "HuffTable.code", params := (fParams (st2 12 1)), body := FuncBody.stmts (fBody (st2 12 1)), scope := (fScope (st2 12 1)), globals := 3, closure := [], defaults := .none, kwdefaults := .none, pyModule := .str (ofString "pixelpress.huffman") 289, code := .ref 123 } }
noncomputable def x125 (P : Params) : Obj := { cls := .type "tuple", data := .seq #[] }
noncomputable def x126 (P : Params) : Obj := { cls := .none, data := .fields #[] }
noncomputable def x127 (P : Params) : Obj := { cls := .type "tuple", data := .seq #[.str (ofString "self") 355, .str (ofString "reader") 356, .str (ofString "code") 357, .str (ofString "first") 358, .str (ofString "many") 359, .str (ofString "place") 360] }
noncomputable def x128 (P : Params) : Obj := { cls := .type "tuple", data := .seq #[] }
noncomputable def x129 (P : Params) : Obj := { cls := .none, data := .func { name := ofString "read", qualname := ofString "HuffTable.read", params := (fParams (st2 12 2)), body := FuncBody.stmts (fBody (st2 12 2)), scope := (fScope (st2 12 2)), globals := 0, closure := [], defaults := .none, kwdefaults := .none } }
noncomputable def x130 (P : Params) : Obj := { cls := .type "code", data := .fields #[.str (ofString "read") 352, .str (ofString "HuffTable.read") 353, .str (ofString "/claim/cut.py") 354, .int 62 0, .int 2 0, .int 0 0, .int 0 0, .int 3 0, .ref 125, .bool true, .int 181 0, .ref 126, .none, .ref 127, .ref 128, .ref 129, .int 361 0, .int 62 0, .str (ofString "/claim/cut.py") 362] }
noncomputable def x131 (P : Params) : Obj := { cls := .type "function", data := .func { name := ofString "read", qualname := ofString "HuffTable.read", params := (fParams (st2 12 2)), body := FuncBody.stmts (fBody (st2 12 2)), scope := (fScope (st2 12 2)), globals := 3, closure := [], defaults := .none, kwdefaults := .none, pyModule := .str (ofString "pixelpress.huffman") 289, code := .ref 130 } }
noncomputable def x132 (P : Params) : Obj := { cls := .type "tuple", data := .seq #[.str (ofString "codes") 364, .str (ofString "counts") 365, .str (ofString "rows") 366, .str (ofString "symbols") 367] }
noncomputable def x133 (P : Params) : Obj := { cls := .type "dict", data := .dict #[{ hash := PyData.keyHash P (ofString "__module__"), key := .str (ofString "__module__") 324, val := .str (ofString "pixelpress.huffman") 289 }, { hash := PyData.keyHash P (ofString "__firstlineno__"), key := .str (ofString "__firstlineno__") 328, val := .int 43 327 }, { hash := PyData.keyHash P (ofString "__init__"), key := .str (ofString "__init__") 342, val := .ref 117 }, { hash := PyData.keyHash P (ofString "code"), key := .str (ofString "code") 351, val := .ref 124 }, { hash := PyData.keyHash P (ofString "read"), key := .str (ofString "read") 363, val := .ref 131 }, { hash := PyData.keyHash P (ofString "__static_attributes__"), key := .str (ofString "__static_attributes__") 368, val := .ref 132 }, { hash := PyData.keyHash P (ofString "__dict__"), key := .str (ofString "__dict__") 370, val := .ref 135 }, { hash := PyData.keyHash P (ofString "__weakref__"), key := .str (ofString "__weakref__") 372, val := .ref 136 }, { hash := PyData.keyHash P (ofString "__doc__"), key := .str (ofString "__doc__") 373, val := .none }] 4 }
noncomputable def x134 (P : Params) : Obj := { cls := .type "type", data := .cls { name := ofString "HuffTable", bases := [.type "object"], mro := [.ref 134, .type "object"], ns := 133, qualname := ofString "HuffTable" }, slots := #[none, none, some (.str (ofString "HuffTable") 317), some (.str (ofString "HuffTable") 325), some (.builtin "object.__new__"), some (.bool true)] }
noncomputable def x135 (P : Params) : Obj := { cls := .type "getset_descriptor", data := .fields #[.str (ofString "__dict__") 369, .ref 134, .builtin "function.__dict__", .builtin "function.__dict__#set"] }
noncomputable def x136 (P : Params) : Obj := { cls := .type "getset_descriptor", data := .fields #[.str (ofString "__weakref__") 371, .ref 134, .builtin "ExceptionGroup.__weakref__", .none] }
noncomputable def x137 (P : Params) : Obj := { cls := .type "super", data := .fields #[.ref 134, .ref 134, .ref 134] }
noncomputable def x138 (P : Params) : Obj := { cls := .type "builtin_function_or_method", data := .fields #[.builtin "object.__init_subclass__", .ref 134] }
noncomputable def x139 (P : Params) : Obj := { cls := .type "tuple", data := .seq #[] }
noncomputable def x140 (P : Params) : Obj := { cls := .type "builtin_function_or_method", data := .fields #[.builtin "type.__prepare__", .type "type"] }
noncomputable def x141 (P : Params) : Obj := { cls := .type "dict", data := .dict #[{ hash := PyData.keyHash P (ofString "__module__"), key := .str (ofString "__module__") 385, val := .str (ofString "pixelpress.scans") 376 }, { hash := PyData.keyHash P (ofString "__qualname__"), key := .str (ofString "__qualname__") 387, val := .str (ofString "Scan") 386 }, { hash := PyData.keyHash P (ofString "__firstlineno__"), key := .str (ofString "__firstlineno__") 389, val := .int 70 388 }, { hash := PyData.keyHash P (ofString "__init__"), key := .str (ofString "__init__") 403, val := .ref 152 }, { hash := PyData.keyHash P (ofString "is_alone"), key := .str (ofString "is_alone") 410, val := .ref 159 }, { hash := PyData.keyHash P (ofString "is_finer"), key := .str (ofString "is_finer") 417, val := .ref 166 }, { hash := PyData.keyHash P (ofString "__static_attributes__"), key := .str (ofString "__static_attributes__") 425, val := .ref 167 }] 7 }
noncomputable def x142 (P : Params) : Obj := { cls := .type "tuple", data := .seq #[] }
noncomputable def x143 (P : Params) : Obj := { cls := .none, data := .fields #[.int 72 0, .int 4 0, .ref 151, .int 81 0, .int 4 0, .ref 158, .int 84 0, .int 4 0, .ref 165] }
noncomputable def x144 (P : Params) : Obj := { cls := .type "code", data := .fields #[.str (ofString "Scan") 380, .str (ofString "Scan") 381, .str (ofString "/claim/cut.py") 382, .int 70 0, .int 0 0, .int 0 0, .int 0 0, .int 0 0, .ref 142, .bool false, .int 181 0, .ref 143, .none, .none, .none, .none, .int 383 0, .int 70 0, .str (ofString "/claim/cut.py") 384] }
noncomputable def x145 (P : Params) : Obj := { cls := .type "frame", slots := #[some (.ref 144), some (.ref 3), some (.ref 141), none, some (.str (ofString "pixelpress.scans") 376), none, some (.ref 0)] }
noncomputable def x146 (P : Params) : Obj := { cls := .type "tuple", data := .seq #[] }
noncomputable def x147 (P : Params) : Obj := { cls := .none, data := .fields #[] }
noncomputable def x148 (P : Params) : Obj := { cls := .type "tuple", data := .seq #[.str (ofString "self") 393, .str (ofString "places") 394, .str (ofString "dc_slots") 395, .str (ofString "ac_slots") 396, .str (ofString "start") 397, .str (ofString "end") 398, .str (ofString "high") 399, .str (ofString "low") 400] }
noncomputable def x149 (P : Params) : Obj := { cls := .type "tuple", data := .seq #[] }
noncomputable def x150 (P : Params) : Obj := { cls := .none, data := .func { name := ofString "__init__", qualname := ofString "Scan.__init__", params := (fParams (st2 14 0)), body := FuncBody.stmts (fBody (st2 14 0)), scope := (fScope (st2 14 0)), globals := 0, closure := [], defaults := .none, kwdefaults := .none } }
noncomputable def x151 (P : Params) : Obj := { cls := .type "code", data := .fields #[.str (ofString "__init__") 390, .str (ofString "Scan.__init__") 391, .str (ofString "/claim/cut.py") 392, .int 72 0, .int 8 0, .int 0 0, .int 0 0, .int 3 0, .ref 146, .bool true, .int 181 0, .ref 147, .none, .ref 148, .ref 149, .ref 150, .int 401 0, .int 72 0, .str (ofString "/claim/cut.py") 402] }
noncomputable def x152 (P : Params) : Obj := { cls := .type "function", data := .func { name := ofString "__init__", qualname := ofString "Scan.__init__", params := (fParams (st2 14 0)), body := FuncBody.stmts (fBody (st2 14 0)), scope := (fScope (st2 14 0)), globals := 3, closure := [], defaults := .none, kwdefaults := .none, pyModule := .str (ofString "pixelpress.scans") 376, code := .ref 151 } }
noncomputable def x153 (P : Params) : Obj := { cls := .type "tuple", data := .seq #[] }
noncomputable def x154 (P : Params) : Obj := { cls := .none, data := .fields #[] }
noncomputable def x155 (P : Params) : Obj := { cls := .type "tuple", data := .seq #[.str (ofString "self") 407] }
noncomputable def x156 (P : Params) : Obj := { cls := .type "tuple", data := .seq #[] }
noncomputable def x157 (P : Params) : Obj := { cls := .none, data := .func { name := ofString "is_alone", qualname := ofString "Scan.is_alone", params := (fParams (st2 14 1)), body := FuncBody.stmts (fBody (st2 14 1)), scope := (fScope (st2 14 1)), globals := 0, closure := [], defaults := .none, kwdefaults := .none } }
noncomputable def x158 (P : Params) : Obj := { cls := .type "code", data := .fields #[.str (ofString "is_alone") 404, .str (ofString "Scan.is_alone") 405, .str (ofString "/claim/cut.py") 406, .int 81 0, .int 1 0, .int 0 0, .int 0 0, .int 3 0, .ref 153, .bool true, .int 181 0, .ref 154, .none, .ref 155, .ref 156, .ref 157, .int 408 0, .int 81 0, .str (ofString "/claim/cut.py") 409] }
noncomputable def x159 (P : Params) : Obj := { cls := .type "function", data := .func { name := ofString "is_alone", qualname := ofString "Scan.is_alone", params := (fParams (st2 14 1)), body := FuncBody.stmts (fBody (st2 14 1)), scope := (fScope (st2 14 1)), globals := 3, closure := [], defaults := .none, kwdefaults := .none, pyModule := .str (ofString "pixelpress.scans") 376, code := .ref 158 } }
noncomputable def x160 (P : Params) : Obj := { cls := .type "tuple", data := .seq #[] }
noncomputable def x161 (P : Params) : Obj := { cls := .none, data := .fields #[] }
noncomputable def x162 (P : Params) : Obj := { cls := .type "tuple", data := .seq #[.str (ofString "self") 414] }
noncomputable def x163 (P : Params) : Obj := { cls := .type "tuple", data := .seq #[] }
noncomputable def x164 (P : Params) : Obj := { cls := .none, data := .func { name := ofString "is_finer", qualname := ofString "Scan.is_finer", params := (fParams (st2 14 2)), body := FuncBody.stmts (fBody (st2 14 2)), scope := (fScope (st2 14 2)), globals := 0, closure := [], defaults := .none, kwdefaults := .none } }
noncomputable def x165 (P : Params) : Obj := { cls := .type "code", data := .fields #[.str (ofString "is_finer") 411, .str (ofString "Scan.is_finer") 412, .str (ofString "/claim/cut.py") 413, .int 84 0, .int 1 0, .int 0 0, .int 0 0, .int 3 0, .ref 160, .bool true, .int 181 0, .ref 161, .none, .ref 162, .ref 163, .ref 164, .int 415 0, .int 84 0, .str (ofString "/claim/cut.py") 416] }
noncomputable def x166 (P : Params) : Obj := { cls := .type "function", data := .func { name := ofString "is_finer", qualname := ofString "Scan.is_finer", params := (fParams (st2 14 2)), body := FuncBody.stmts (fBody (st2 14 2)), scope := (fScope (st2 14 2)), globals := 3, closure := [], defaults := .none, kwdefaults := .none, pyModule := .str (ofString "pixelpress.scans") 376, code := .ref 165 } }
noncomputable def x167 (P : Params) : Obj := { cls := .type "tuple", data := .seq #[.str (ofString "ac_slots") 418, .str (ofString "dc_slots") 419, .str (ofString "end") 420, .str (ofString "high") 421, .str (ofString "low") 422, .str (ofString "places") 423, .str (ofString "start") 424] }
noncomputable def x168 (P : Params) : Obj := { cls := .type "dict", data := .dict #[{ hash := PyData.keyHash P (ofString "__module__"), key := .str (ofString "__module__") 385, val := .str (ofString "pixelpress.scans") 376 }, { hash := PyData.keyHash P (ofString "__firstlineno__"), key := .str (ofString "__firstlineno__") 389, val := .int 70 388 }, { hash := PyData.keyHash P (ofString "__init__"), key := .str (ofString "__init__") 403, val := .ref 152 }, { hash := PyData.keyHash P (ofString "is_alone"), key := .str (ofString "is_alone") 410, val := .ref 159 }, { hash := PyData.keyHash P (ofString "is_finer"), key := .str (ofString "is_finer") 417, val := .ref 166 }, { hash := PyData.keyHash P (ofString "__static_attributes__"), key := .str (ofString "__static_attributes__") 425, val := .ref 167 }, { hash := PyData.keyHash P (ofString "__dict__"), key := .str (ofString "__dict__") 427, val := .ref 170 }, { hash := PyData.keyHash P (ofString "__weakref__"), key := .str (ofString "__weakref__") 429, val := .ref 171 }, { hash := PyData.keyHash P (ofString "__doc__"), key := .str (ofString "__doc__") 430, val := .none }] 4 }
noncomputable def x169 (P : Params) : Obj := { cls := .type "type", data := .cls { name := ofString "Scan", bases := [.type "object"], mro := [.ref 169, .type "object"], ns := 168, qualname := ofString "Scan" }, slots := #[none, none, some (.str (ofString "Scan") 378), some (.str (ofString "Scan") 386), some (.builtin "object.__new__"), some (.bool true)] }
noncomputable def x170 (P : Params) : Obj := { cls := .type "getset_descriptor", data := .fields #[.str (ofString "__dict__") 426, .ref 169, .builtin "function.__dict__", .builtin "function.__dict__#set"] }
noncomputable def x171 (P : Params) : Obj := { cls := .type "getset_descriptor", data := .fields #[.str (ofString "__weakref__") 428, .ref 169, .builtin "ExceptionGroup.__weakref__", .none] }
noncomputable def x172 (P : Params) : Obj := { cls := .type "super", data := .fields #[.ref 169, .ref 169, .ref 169] }
noncomputable def x173 (P : Params) : Obj := { cls := .type "builtin_function_or_method", data := .fields #[.builtin "object.__init_subclass__", .ref 169] }
noncomputable def x174 (P : Params) : Obj := { cls := .type "tuple", data := .seq #[] }
noncomputable def x175 (P : Params) : Obj := { cls := .type "builtin_function_or_method", data := .fields #[.builtin "type.__prepare__", .type "type"] }
noncomputable def x176 (P : Params) : Obj := { cls := .type "dict", data := .dict #[{ hash := PyData.keyHash P (ofString "__module__"), key := .str (ofString "__module__") 442, val := .str (ofString "pixelpress.bits") 433 }, { hash := PyData.keyHash P (ofString "__qualname__"), key := .str (ofString "__qualname__") 444, val := .str (ofString "BitWriter") 443 }, { hash := PyData.keyHash P (ofString "__firstlineno__"), key := .str (ofString "__firstlineno__") 446, val := .int 87 445 }, { hash := PyData.keyHash P (ofString "__init__"), key := .str (ofString "__init__") 453, val := .ref 187 }, { hash := PyData.keyHash P (ofString "put"), key := .str (ofString "put") 462, val := .ref 194 }, { hash := PyData.keyHash P (ofString "pad"), key := .str (ofString "pad") 469, val := .ref 201 }, { hash := PyData.keyHash P (ofString "octets"), key := .str (ofString "octets") 476, val := .ref 208 }, { hash := PyData.keyHash P (ofString "__static_attributes__"), key := .str (ofString "__static_attributes__") 480, val := .ref 209 }] 8 }
noncomputable def x177 (P : Params) : Obj := { cls := .type "tuple", data := .seq #[] }
noncomputable def x178 (P : Params) : Obj := { cls := .none, data := .fields #[.int 89 0, .int 4 0, .ref 186, .int 94 0, .int 4 0, .ref 193, .int 104 0, .int 4 0, .ref 200, .int 108 0, .int 4 0, .ref 207] }
noncomputable def x179 (P : Params) : Obj := { cls := .type "code", data := .fields #[.str (ofString "BitWriter") 437, .str (ofString "BitWriter") 438, .str (ofString "/claim/cut.py") 439, .int 87 0, .int 0 0, .int 0 0, .int 0 0, .int 0 0, .ref 177, .bool false, .int 181 0, .ref 178, .none, .none, .none, .none, .int 440 0, .int 87 0, .str (ofString "/claim/cut.py") 441] }
noncomputable def x180 (P : Params) : Obj := { cls := .type "frame", slots := #[some (.ref 179), some (.ref 3), some (.ref 176), none, some (.str (ofString "pixelpress.bits") 433), none, some (.ref 0)] }
noncomputable def x181 (P : Params) : Obj := { cls := .type "tuple", data := .seq #[] }
noncomputable def x182 (P : Params) : Obj := { cls := .none, data := .fields #[] }
noncomputable def x183 (P : Params) : Obj := { cls := .type "tuple", data := .seq #[.str (ofString "self") 450] }
noncomputable def x184 (P : Params) : Obj := { cls := .type "tuple", data := .seq #[] }
noncomputable def x185 (P : Params) : Obj := { cls := .none, data := .func { name := ofString "__init__", qualname := ofString "BitWriter.__init__", params := (fParams (st2 16 0)), body := FuncBody.stmts (fBody (st2 16 0)), scope := (fScope (st2 16 0)), globals := 0, closure := [], defaults := .none, kwdefaults := .none } }
noncomputable def x186 (P : Params) : Obj := { cls := .type "code", data := .fields #[.str (ofString "__init__") 447, .str (ofString "BitWriter.__init__") 448, .str (ofString "/claim/cut.py") 449, .int 89 0, .int 1 0, .int 0 0, .int 0 0, .int 3 0, .ref 181, .bool true, .int 181 0, .ref 182, .none, .ref 183, .ref 184, .ref 185, .int 451 0, .int 89 0, .str (ofString "/claim/cut.py") 452] }
noncomputable def x187 (P : Params) : Obj := { cls := .type "function", data := .func { name := ofString "__init__", qualname := ofString "BitWriter.__init__", params := (fParams (st2 16 0)), body := FuncBody.stmts (fBody (st2 16 0)), scope := (fScope (st2 16 0)), globals := 3, closure := [], defaults := .none, kwdefaults := .none, pyModule := .str (ofString "pixelpress.bits") 433, code := .ref 186 } }
noncomputable def x188 (P : Params) : Obj := { cls := .type "tuple", data := .seq #[] }
noncomputable def x189 (P : Params) : Obj := { cls := .none, data := .fields #[] }
noncomputable def x190 (P : Params) : Obj := { cls := .type "tuple", data := .seq #[.str (ofString "self") 457, .str (ofString "value") 458, .str (ofString "size") 459] }
noncomputable def x191 (P : Params) : Obj := { cls := .type "tuple", data := .seq #[] }
noncomputable def x192 (P : Params) : Obj := { cls := .none, data := .func { name := ofString "put", qualname := ofString "BitWriter.put", params := (fParams (st2 16 1)), body := FuncBody.stmts (fBody (st2 16 1)), scope := (fScope (st2 16 1)), globals := 0, closure := [], defaults := .none, kwdefaults := .none } }
noncomputable def x193 (P : Params) : Obj := { cls := .type "code", data := .fields #[.str (ofString "put") 454, .str (ofString "BitWriter.put") 455, .str (ofString "/claim/cut.py") 456, .int 94 0, .int 3 0, .int 0 0, .int 0 0, .int 3 0, .ref 188, .bool true, .int 181 0, .ref 189, .none, .ref 190, .ref 191, .ref 192, .int 460 0, .int 94 0, .str (ofString "/claim/cut.py") 461] }
noncomputable def x194 (P : Params) : Obj := { cls := .type "function", data := .func { name := ofString "put", qualname := ofString "BitWriter.put", params := (fParams (st2 16 1)), body := FuncBody.stmts (fBody (st2 16 1)), scope := (fScope (st2 16 1)), globals := 3, closure := [], defaults := .none, kwdefaults := .none, pyModule := .str (ofString "pixelpress.bits") 433, code := .ref 193 } }
noncomputable def x195 (P : Params) : Obj := { cls := .type "tuple", data := .seq #[] }
noncomputable def x196 (P : Params) : Obj := { cls := .none, data := .fields #[] }
noncomputable def x197 (P : Params) : Obj := { cls := .type "tuple", data := .seq #[.str (ofString "self") 466] }
noncomputable def x198 (P : Params) : Obj := { cls := .type "tuple", data := .seq #[] }
noncomputable def x199 (P : Params) : Obj := { cls := .none, data := .func { name := ofString "pad", qualname := ofString "BitWriter.pad", params := (fParams (st2 16 2)), body := FuncBody.stmts (fBody (st2 16 2)), scope := (fScope (st2 16 2)), globals := 0, closure := [], defaults := .none, kwdefaults := .none } }
noncomputable def x200 (P : Params) : Obj := { cls := .type "code", data := .fields #[.str (ofString "pad") 463, .str (ofString "BitWriter.pad") 464, .str (ofString "/claim/cut.py") 465, .int 104 0, .int 1 0, .int 0 0, .int 0 0, .int 3 0, .ref 195, .bool true, .int 181 0, .ref 196, .none, .ref 197, .ref 198, .ref 199, .int 467 0, .int 104 0, .str (ofString "/claim/cut.py") 468] }
noncomputable def x201 (P : Params) : Obj := { cls := .type "function", data := .func { name := ofString "pad", qualname := ofString "BitWriter.pad", params := (fParams (st2 16 2)), body := FuncBody.stmts (fBody (st2 16 2)), scope := (fScope (st2 16 2)), globals := 3, closure := [], defaults := .none, kwdefaults := .none, pyModule := .str (ofString "pixelpress.bits") 433, code := .ref 200 } }
noncomputable def x202 (P : Params) : Obj := { cls := .type "tuple", data := .seq #[] }
noncomputable def x203 (P : Params) : Obj := { cls := .none, data := .fields #[] }
noncomputable def x204 (P : Params) : Obj := { cls := .type "tuple", data := .seq #[.str (ofString "self") 473] }
noncomputable def x205 (P : Params) : Obj := { cls := .type "tuple", data := .seq #[] }
noncomputable def x206 (P : Params) : Obj := { cls := .none, data := .func { name := ofString "octets", qualname := ofString "BitWriter.octets", params := (fParams (st2 16 3)), body := FuncBody.stmts (fBody (st2 16 3)), scope := (fScope (st2 16 3)), globals := 0, closure := [], defaults := .none, kwdefaults := .none } }
noncomputable def x207 (P : Params) : Obj := { cls := .type "code", data := .fields #[.str (ofString "octets") 470, .str (ofString "BitWriter.octets") 471, .str (ofString "/claim/cut.py") 472, .int 108 0, .int 1 0, .int 0 0, .int 0 0, .int 3 0, .ref 202, .bool true, .int 181 0, .ref 203, .none, .ref 204, .ref 205, .ref 206, .int 474 0, .int 108 0, .str (ofString "/claim/cut.py") 475] }
noncomputable def x208 (P : Params) : Obj := { cls := .type "function", data := .func { name := ofString "octets", qualname := ofString "BitWriter.octets", params := (fParams (st2 16 3)), body := FuncBody.stmts (fBody (st2 16 3)), scope := (fScope (st2 16 3)), globals := 3, closure := [], defaults := .none, kwdefaults := .none, pyModule := .str (ofString "pixelpress.bits") 433, code := .ref 207 } }
noncomputable def x209 (P : Params) : Obj := { cls := .type "tuple", data := .seq #[.str (ofString "full") 477, .str (ofString "rest") 478, .str (ofString "size") 479] }
noncomputable def x210 (P : Params) : Obj := { cls := .type "dict", data := .dict #[{ hash := PyData.keyHash P (ofString "__module__"), key := .str (ofString "__module__") 442, val := .str (ofString "pixelpress.bits") 433 }, { hash := PyData.keyHash P (ofString "__firstlineno__"), key := .str (ofString "__firstlineno__") 446, val := .int 87 445 }, { hash := PyData.keyHash P (ofString "__init__"), key := .str (ofString "__init__") 453, val := .ref 187 }, { hash := PyData.keyHash P (ofString "put"), key := .str (ofString "put") 462, val := .ref 194 }, { hash := PyData.keyHash P (ofString "pad"), key := .str (ofString "pad") 469, val := .ref 201 }, { hash := PyData.keyHash P (ofString "octets"), key := .str (ofString "octets") 476, val := .ref 208 }, { hash := PyData.keyHash P (ofString "__static_attributes__"), key := .str (ofString "__static_attributes__") 480, val := .ref 209 }, { hash := PyData.keyHash P (ofString "__dict__"), key := .str (ofString "__dict__") 482, val := .ref 212 }, { hash := PyData.keyHash P (ofString "__weakref__"), key := .str (ofString "__weakref__") 484, val := .ref 213 }, { hash := PyData.keyHash P (ofString "__doc__"), key := .str (ofString "__doc__") 485, val := .none }] 4 }
noncomputable def x211 (P : Params) : Obj := { cls := .type "type", data := .cls { name := ofString "BitWriter", bases := [.type "object"], mro := [.ref 211, .type "object"], ns := 210, qualname := ofString "BitWriter" }, slots := #[none, none, some (.str (ofString "BitWriter") 435), some (.str (ofString "BitWriter") 443), some (.builtin "object.__new__"), some (.bool true)] }
noncomputable def x212 (P : Params) : Obj := { cls := .type "getset_descriptor", data := .fields #[.str (ofString "__dict__") 481, .ref 211, .builtin "function.__dict__", .builtin "function.__dict__#set"] }
noncomputable def x213 (P : Params) : Obj := { cls := .type "getset_descriptor", data := .fields #[.str (ofString "__weakref__") 483, .ref 211, .builtin "ExceptionGroup.__weakref__", .none] }
noncomputable def x214 (P : Params) : Obj := { cls := .type "super", data := .fields #[.ref 211, .ref 211, .ref 211] }
noncomputable def x215 (P : Params) : Obj := { cls := .type "builtin_function_or_method", data := .fields #[.builtin "object.__init_subclass__", .ref 211] }
noncomputable def x216 (P : Params) : Obj := { cls := .type "tuple", data := .seq #[] }
noncomputable def x217 (P : Params) : Obj := { cls := .type "builtin_function_or_method", data := .fields #[.builtin "type.__prepare__", .type "type"] }
noncomputable def x218 (P : Params) : Obj := { cls := .type "dict", data := .dict #[{ hash := PyData.keyHash P (ofString "__module__"), key := .str (ofString "__module__") 495, val := .str (ofString "pixelpress.bits") 433 }, { hash := PyData.keyHash P (ofString "__qualname__"), key := .str (ofString "__qualname__") 497, val := .str (ofString "BitReader") 496 }, { hash := PyData.keyHash P (ofString "__firstlineno__"), key := .str (ofString "__firstlineno__") 499, val := .int 110 498 }, { hash := PyData.keyHash P (ofString "__init__"), key := .str (ofString "__init__") 507, val := .ref 229 }, { hash := PyData.keyHash P (ofString "left"), key := .str (ofString "left") 514, val := .ref 236 }, { hash := PyData.keyHash P (ofString "bit"), key := .str (ofString "bit") 522, val := .ref 243 }, { hash := PyData.keyHash P (ofString "bits"), key := .str (ofString "bits") 532, val := .ref 250 }, { hash := PyData.keyHash P (ofString "__static_attributes__"), key := .str (ofString "__static_attributes__") 535, val := .ref 251 }] 8 }
noncomputable def x219 (P : Params) : Obj := { cls := .type "tuple", data := .seq #[] }
noncomputable def x220 (P : Params) : Obj := { cls := .none, data := .fields #[.int 112 0, .int 4 0, .ref 228, .int 116 0, .int 4 0, .ref 235, .int 119 0, .int 4 0, .ref 242, .int 126 0, .int 4 0, .ref 249] }
noncomputable def x221 (P : Params) : Obj := { cls := .type "code", data := .fields #[.str (ofString "BitReader") 490, .str (ofString "BitReader") 491, .str (ofString "/claim/cut.py") 492, .int 110 0, .int 0 0, .int 0 0, .int 0 0, .int 0 0, .ref 219, .bool false, .int 181 0, .ref 220, .none, .none, .none, .none, .int 493 0, .int 110 0, .str (ofString "/claim/cut.py") 494] }
noncomputable def x222 (P : Params) : Obj := { cls := .type "frame", slots := #[some (.ref 221), some (.ref 3), some (.ref 218), none, some (.str (ofString "pixelpress.bits") 433), none, some (.ref 0)] }
noncomputable def x223 (P : Params) : Obj := { cls := .type "tuple", data := .seq #[] }
noncomputable def x224 (P : Params) : Obj := { cls := .none, data := .fields #[] }
noncomputable def x225 (P : Params) : Obj := { cls := .type "tuple", data := .seq #[.str (ofString "self") 503, .str (ofString "octets") 504] }
noncomputable def x226 (P : Params) : Obj := { cls := .type "tuple", data := .seq #[] }
noncomputable def x227 (P : Params) : Obj := { cls := .none, data := .func { name := ofString "__init__", qualname := ofString "BitReader.__init__", params := (fParams (st2 17 0)), body := FuncBody.stmts (fBody (st2 17 0)), scope := (fScope (st2 17 0)), globals := 0, closure := [], defaults := .none, kwdefaults := .none } }
noncomputable def x228 (P : Params) : Obj := { cls := .type "code", data := .fields #[.str (ofString "__init__") 500, .str (ofString "BitReader.__init__") 501, .str (ofString "/claim/cut.py") 502, .int 112 0, .int 2 0, .int 0 0, .int 0 0, .int 3 0, .ref 223, .bool true, .int 181 0, .ref 224, .none, .ref 225, .ref 226, .ref 227, .int 505 0, .int 112 0, .str (ofString "/claim/cut.py") 506] }
noncomputable def x229 (P : Params) : Obj := { cls := .type "function", data := .func { name := ofString "__init__", qualname := ofString "BitReader.__init__", params := (fParams (st2 17 0)), body := FuncBody.stmts (fBody (st2 17 0)), scope := (fScope (st2 17 0)), globals := 3, closure := [], defaults := .none, kwdefaults := .none, pyModule := .str (ofString "pixelpress.bits") 433, code := .ref 228 } }
noncomputable def x230 (P : Params) : Obj := { cls := .type "tuple", data := .seq #[] }
noncomputable def x231 (P : Params) : Obj := { cls := .none, data := .fields #[] }
noncomputable def x232 (P : Params) : Obj := { cls := .type "tuple", data := .seq #[.str (ofString "self") 511] }
noncomputable def x233 (P : Params) : Obj := { cls := .type "tuple", data := .seq #[] }
noncomputable def x234 (P : Params) : Obj := { cls := .none, data := .func { name := ofString "left", qualname := ofString "BitReader.left", params := (fParams (st2 17 1)), body := FuncBody.stmts (fBody (st2 17 1)), scope := (fScope (st2 17 1)), globals := 0, closure := [], defaults := .none, kwdefaults := .none } }
noncomputable def x235 (P : Params) : Obj := { cls := .type "code", data := .fields #[.str (ofString "left") 508, .str (ofString "BitReader.left") 509, .str (ofString "/claim/cut.py") 510, .int 116 0, .int 1 0, .int 0 0, .int 0 0, .int 3 0, .ref 230, .bool true, .int 181 0, .ref 231, .none, .ref 232, .ref 233, .ref 234, .int 512 0, .int 116 0, .str (ofString "/claim/cut.py") 513] }
noncomputable def x236 (P : Params) : Obj := { cls := .type "function", data := .func { name := ofString "left", qualname := ofString "BitReader.left", params := (fParams (st2 17 1)), body := FuncBody.stmts (fBody (st2 17 1)), scope := (fScope (st2 17 1)), globals := 3, closure := [], defaults := .none, kwdefaults := .none, pyModule := .str (ofString "pixelpress.bits") 433, code := .ref 235 } }
noncomputable def x237 (P : Params) : Obj := { cls := .type "tuple", data := .seq #[] }
noncomputable def x238 (P : Params) : Obj := { cls := .none, data := .fields #[] }
noncomputable def x239 (P : Params) : Obj := { cls := .type "tuple", data := .seq #[.str (ofString "self") 518, .str (ofString "found") 519] }
noncomputable def x240 (P : Params) : Obj := { cls := .type "tuple", data := .seq #[] }
noncomputable def x241 (P : Params) : Obj := { cls := .none, data := .func { name := ofString "bit", qualname := ofString "BitReader.bit", params := (fParams (st2 17 2)), body := FuncBody.stmts (fBody (st2 17 2)), scope := (fScope (st2 17 2)), globals := 0, closure := [], defaults := .none, kwdefaults := .none } }
noncomputable def x242 (P : Params) : Obj := { cls := .type "code", data := .fields #[.str (ofString "bit") 515, .str (ofString "BitReader.bit") 516, .str (ofString "/claim/cut.py") 517, .int 119 0, .int 1 0, .int 0 0, .int 0 0, .int 3 0, .ref 237, .bool true, .int 181 0, .ref 238, .none, .ref 239, .ref 240, .ref 241, .int 520 0, .int 119 0, .str (ofString "/claim/cut.py") 521] }
noncomputable def x243 (P : Params) : Obj := { cls := .type "function", data := .func { name := ofString "bit", qualname := ofString "BitReader.bit", params := (fParams (st2 17 2)), body := FuncBody.stmts (fBody (st2 17 2)), scope := (fScope (st2 17 2)), globals := 3, closure := [], defaults := .none, kwdefaults := .none, pyModule := .str (ofString "pixelpress.bits") 433, code := .ref 242 } }
noncomputable def x244 (P : Params) : Obj := { cls := .type "tuple", data := .seq #[] }
noncomputable def x245 (P : Params) : Obj := { cls := .none, data := .fields #[] }
noncomputable def x246 (P : Params) : Obj := { cls := .type "tuple", data := .seq #[.str (ofString "self") 526, .str (ofString "size") 527, .str (ofString "found") 528, .str (ofString "turn") 529] }
noncomputable def x247 (P : Params) : Obj := { cls := .type "tuple", data := .seq #[] }
noncomputable def x248 (P : Params) : Obj := { cls := .none, data := .func { name := ofString "bits", qualname := ofString "BitReader.bits", params := (fParams (st2 17 3)), body := FuncBody.stmts (fBody (st2 17 3)), scope := (fScope (st2 17 3)), globals := 0, closure := [], defaults := .none, kwdefaults := .none } }
noncomputable def x249 (P : Params) : Obj := { cls := .type "code", data := .fields #[.str (ofString "bits") 523, .str (ofString "BitReader.bits") 524, .str (ofString "/claim/cut.py") 525, .int 126 0, .int 2 0, .int 0 0, .int 0 0, .int 3 0, .ref 244, .bool true, .int 181 0, .ref 245, .none, .ref 246, .ref 247, .ref 248, .int 530 0, .int 126 0, .str (ofString "/claim/cut.py") 531] }
noncomputable def x250 (P : Params) : Obj := { cls := .type "function", data := .func { name := ofString "bits", qualname := ofString "BitReader.bits", params := (fParams (st2 17 3)), body := FuncBody.stmts (fBody (st2 17 3)), scope := (fScope (st2 17 3)), globals := 3, closure := [], defaults := .none, kwdefaults := .none, pyModule := .str (ofString "pixelpress.bits") 433, code := .ref 249 } }
noncomputable def x251 (P : Params) : Obj := { cls := .type "tuple", data := .seq #[.str (ofString "at") 533, .str (ofString "source") 534] }
noncomputable def x252 (P : Params) : Obj := { cls := .type "dict", data := .dict #[{ hash := PyData.keyHash P (ofString "__module__"), key := .str (ofString "__module__") 495, val := .str (ofString "pixelpress.bits") 433 }, { hash := PyData.keyHash P (ofString "__firstlineno__"), key := .str (ofString "__firstlineno__") 499, val := .int 110 498 }, { hash := PyData.keyHash P (ofString "__init__"), key := .str (ofString "__init__") 507, val := .ref 229 }, { hash := PyData.keyHash P (ofString "left"), key := .str (ofString "left") 514, val := .ref 236 }, { hash := PyData.keyHash P (ofString "bit"), key := .str (ofString "bit") 522, val := .ref 243 }, { hash := PyData.keyHash P (ofString "bits"), key := .str (ofString "bits") 532, val := .ref 250 }, { hash := PyData.keyHash P (ofString "__static_attributes__"), key := .str (ofString "__static_attributes__") 535, val := .ref 251 }, { hash := PyData.keyHash P (ofString "__dict__"), key := .str (ofString "__dict__") 537, val := .ref 254 }, { hash := PyData.keyHash P (ofString "__weakref__"), key := .str (ofString "__weakref__") 539, val := .ref 255 }, { hash := PyData.keyHash P (ofString "__doc__"), key := .str (ofString "__doc__") 540, val := .none }] 4 }
noncomputable def x253 (P : Params) : Obj := { cls := .type "type", data := .cls { name := ofString "BitReader", bases := [.type "object"], mro := [.ref 253, .type "object"], ns := 252, qualname := ofString "BitReader" }, slots := #[none, none, some (.str (ofString "BitReader") 488), some (.str (ofString "BitReader") 496), some (.builtin "object.__new__"), some (.bool true)] }
noncomputable def x254 (P : Params) : Obj := { cls := .type "getset_descriptor", data := .fields #[.str (ofString "__dict__") 536, .ref 253, .builtin "function.__dict__", .builtin "function.__dict__#set"] }
noncomputable def x255 (P : Params) : Obj := { cls := .type "getset_descriptor", data := .fields #[.str (ofString "__weakref__") 538, .ref 253, .builtin "ExceptionGroup.__weakref__", .none] }
noncomputable def x256 (P : Params) : Obj := { cls := .type "super", data := .fields #[.ref 253, .ref 253, .ref 253] }
noncomputable def x257 (P : Params) : Obj := { cls := .type "builtin_function_or_method", data := .fields #[.builtin "object.__init_subclass__", .ref 253] }
noncomputable def x258 (P : Params) : Obj := { cls := .type "tuple", data := .seq #[] }
noncomputable def x259 (P : Params) : Obj := { cls := .none, data := .fields #[] }
noncomputable def x260 (P : Params) : Obj := { cls := .type "tuple", data := .seq #[.str (ofString "v") 548] }
noncomputable def x261 (P : Params) : Obj := { cls := .type "tuple", data := .seq #[] }
noncomputable def x262 (P : Params) : Obj := { cls := .none, data := .func { name := ofString "category", qualname := ofString "category", params := (fParams (st 19)), body := FuncBody.stmts (fBody (st 19)), scope := (fScope (st 19)), globals := 0, closure := [], defaults := .none, kwdefaults := .none } }
noncomputable def x263 (P : Params) : Obj := { cls := .type "code", data := .fields #[.str (ofString "category") 545, .str (ofString "category") 546, .str (ofString "/claim/cut.py") 547, .int 134 0, .int 1 0, .int 0 0, .int 0 0, .int 3 0, .ref 258, .bool true, .int 181 0, .ref 259, .none, .ref 260, .ref 261, .ref 262, .int 549 0, .int 134 0, .str (ofString "/claim/cut.py") 550] }
noncomputable def x264 (P : Params) : Obj := { cls := .type "function", data := .func { name := ofString "category", qualname := ofString "category", params := (fParams (st 19)), body := FuncBody.stmts (fBody (st 19)), scope := (fScope (st 19)), globals := 3, closure := [], defaults := .none, kwdefaults := .none, pyModule := .str (ofString "pixelpress.magnitude") 543, code := .ref 263 } }
noncomputable def x265 (P : Params) : Obj := { cls := .type "tuple", data := .seq #[] }
noncomputable def x266 (P : Params) : Obj := { cls := .none, data := .fields #[] }
noncomputable def x267 (P : Params) : Obj := { cls := .type "tuple", data := .seq #[.str (ofString "v") 555, .str (ofString "size") 556] }
noncomputable def x268 (P : Params) : Obj := { cls := .type "tuple", data := .seq #[] }
noncomputable def x269 (P : Params) : Obj := { cls := .none, data := .func { name := ofString "bits_of", qualname := ofString "bits_of", params := (fParams (st 20)), body := FuncBody.stmts (fBody (st 20)), scope := (fScope (st 20)), globals := 0, closure := [], defaults := .none, kwdefaults := .none } }
noncomputable def x270 (P : Params) : Obj := { cls := .type "code", data := .fields #[.str (ofString "bits_of") 552, .str (ofString "bits_of") 553, .str (ofString "/claim/cut.py") 554, .int 136 0, .int 2 0, .int 0 0, .int 0 0, .int 3 0, .ref 265, .bool true, .int 181 0, .ref 266, .none, .ref 267, .ref 268, .ref 269, .int 557 0, .int 136 0, .str (ofString "/claim/cut.py") 558] }
noncomputable def x271 (P : Params) : Obj := { cls := .type "function", data := .func { name := ofString "bits_of", qualname := ofString "bits_of", params := (fParams (st 20)), body := FuncBody.stmts (fBody (st 20)), scope := (fScope (st 20)), globals := 3, closure := [], defaults := .none, kwdefaults := .none, pyModule := .str (ofString "pixelpress.magnitude") 543, code := .ref 270 } }
noncomputable def x272 (P : Params) : Obj := { cls := .type "tuple", data := .seq #[] }
noncomputable def x273 (P : Params) : Obj := { cls := .none, data := .fields #[] }
noncomputable def x274 (P : Params) : Obj := { cls := .type "tuple", data := .seq #[.str (ofString "bits") 563, .str (ofString "size") 564] }
noncomputable def x275 (P : Params) : Obj := { cls := .type "tuple", data := .seq #[] }
noncomputable def x276 (P : Params) : Obj := { cls := .none, data := .func { name := ofString "value_of", qualname := ofString "value_of", params := (fParams (st 21)), body := FuncBody.stmts (fBody (st 21)), scope := (fScope (st 21)), globals := 0, closure := [], defaults := .none, kwdefaults := .none } }
noncomputable def x277 (P : Params) : Obj := { cls := .type "code", data := .fields #[.str (ofString "value_of") 560, .str (ofString "value_of") 561, .str (ofString "/claim/cut.py") 562, .int 140 0, .int 2 0, .int 0 0, .int 0 0, .int 3 0, .ref 272, .bool true, .int 181 0, .ref 273, .none, .ref 274, .ref 275, .ref 276, .int 565 0, .int 140 0, .str (ofString "/claim/cut.py") 566] }
noncomputable def x278 (P : Params) : Obj := { cls := .type "function", data := .func { name := ofString "value_of", qualname := ofString "value_of", params := (fParams (st 21)), body := FuncBody.stmts (fBody (st 21)), scope := (fScope (st 21)), globals := 3, closure := [], defaults := .none, kwdefaults := .none, pyModule := .str (ofString "pixelpress.magnitude") 543, code := .ref 277 } }
noncomputable def x279 (P : Params) : Obj := { cls := .type "tuple", data := .seq #[] }
noncomputable def x280 (P : Params) : Obj := { cls := .none, data := .fields #[] }
noncomputable def x281 (P : Params) : Obj := { cls := .type "tuple", data := .seq #[.str (ofString "sink") 577, .str (ofString "key") 578, .str (ofString "run") 579, .str (ofString "v") 580, .str (ofString "size") 581] }
noncomputable def x282 (P : Params) : Obj := { cls := .type "tuple", data := .seq #[] }
noncomputable def x283 (P : Params) : Obj := { cls := .none, data := .func { name := ofString "put_number", qualname := ofString "put_number", params := (fParams (st 25)), body := FuncBody.stmts (fBody (st 25)), scope := (fScope (st 25)), globals := 0, closure := [], defaults := .none, kwdefaults := .none } }
noncomputable def x284 (P : Params) : Obj := { cls := .type "code", data := .fields #[.str (ofString "put_number") 574, .str (ofString "put_number") 575, .str (ofString "/claim/cut.py") 576, .int 147 0, .int 4 0, .int 0 0, .int 0 0, .int 3 0, .ref 279, .bool true, .int 181 0, .ref 280, .none, .ref 281, .ref 282, .ref 283, .int 582 0, .int 147 0, .str (ofString "/claim/cut.py") 583] }
noncomputable def x285 (P : Params) : Obj := { cls := .type "function", data := .func { name := ofString "put_number", qualname := ofString "put_number", params := (fParams (st 25)), body := FuncBody.stmts (fBody (st 25)), scope := (fScope (st 25)), globals := 3, closure := [], defaults := .none, kwdefaults := .none, pyModule := .str (ofString "pixelpress.sequential") 568, code := .ref 284 } }
noncomputable def x286 (P : Params) : Obj := { cls := .type "tuple", data := .seq #[] }
noncomputable def x287 (P : Params) : Obj := { cls := .type "builtin_function_or_method", data := .fields #[.builtin "type.__prepare__", .type "type"] }
noncomputable def x288 (P : Params) : Obj := { cls := .type "dict", data := .dict #[{ hash := PyData.keyHash P (ofString "__module__"), key := .str (ofString "__module__") 592, val := .str (ofString "pixelpress.sequential") 568 }, { hash := PyData.keyHash P (ofString "__qualname__"), key := .str (ofString "__qualname__") 594, val := .str (ofString "SequentialWriter") 593 }, { hash := PyData.keyHash P (ofString "__firstlineno__"), key := .str (ofString "__firstlineno__") 596, val := .int 153 595 }, { hash := PyData.keyHash P (ofString "__init__"), key := .str (ofString "__init__") 606, val := .ref 299 }, { hash := PyData.keyHash P (ofString "start"), key := .str (ofString "start") 613, val := .ref 306 }, { hash := PyData.keyHash P (ofString "code"), key := .str (ofString "code") 625, val := .ref 313 }, { hash := PyData.keyHash P (ofString "finish"), key := .str (ofString "finish") 632, val := .ref 320 }, { hash := PyData.keyHash P (ofString "__static_attributes__"), key := .str (ofString "__static_attributes__") 637, val := .ref 321 }] 8 }
noncomputable def x289 (P : Params) : Obj := { cls := .type "tuple", data := .seq #[] }
noncomputable def x290 (P : Params) : Obj := { cls := .none, data := .fields #[.int 155 0, .int 4 0, .ref 298, .int 161 0, .int 4 0, .ref 305, .int 164 0, .int 4 0, .ref 312, .int 181 0, .int 4 0, .ref 319] }
noncomputable def x291 (P : Params) : Obj := { cls := .type "code", data := .fields #[.str (ofString "SequentialWriter") 587, .str (ofString "SequentialWriter") 588, .str (ofString "/claim/cut.py") 589, .int 153 0, .int 0 0, .int 0 0, .int 0 0, .int 0 0, .ref 289, .bool false, .int 181 0, .ref 290, .none, .none, .none, .none, .int 590 0, .int 153 0, .str (ofString "/claim/cut.py") 591] }
noncomputable def x292 (P : Params) : Obj := { cls := .type "frame", slots := #[some (.ref 291), some (.ref 3), some (.ref 288), none, some (.str (ofString "pixelpress.sequential") 568), none, some (.ref 0)] }
noncomputable def x293 (P : Params) : Obj := { cls := .type "tuple", data := .seq #[] }
noncomputable def x294 (P : Params) : Obj := { cls := .none, data := .fields #[] }
noncomputable def x295 (P : Params) : Obj := { cls := .type "tuple", data := .seq #[.str (ofString "self") 600, .str (ofString "scan") 601, .str (ofString "n") 602, .str (ofString "sink") 603] }
noncomputable def x296 (P : Params) : Obj := { cls := .type "tuple", data := .seq #[] }
noncomputable def x297 (P : Params) : Obj := { cls := .none, data := .func { name := ofString "__init__", qualname := ofString "SequentialWriter.__init__", params := (fParams (st2 26 0)), body := FuncBody.stmts (fBody (st2 26 0)), scope := (fScope (st2 26 0)), globals := 0, closure := [], defaults := .none, kwdefaults := .none } }
noncomputable def x298 (P : Params) : Obj := { cls := .type "code", data := .fields #[.str (ofString "__init__") 597, .str (ofString "SequentialWriter.__init__") 598, .str (ofString "/claim/cut.py") 599, .int 155 0, .int 4 0, .int 0 0, .int 0 0, .int 3 0, .ref 293, .bool true, .int 181 0, .ref 294, .none, .ref 295, .ref 296, .ref 297, .int 604 0, .int 155 0, .str (ofString "/claim/cut.py") 605] }
noncomputable def x299 (P : Params) : Obj := { cls := .type "function", data := .func { name := ofString "__init__", qualname := ofString "SequentialWriter.__init__", params := (fParams (st2 26 0)), body := FuncBody.stmts (fBody (st2 26 0)), scope := (fScope (st2 26 0)), globals := 3, closure := [], defaults := .none, kwdefaults := .none, pyModule := .str (ofString "pixelpress.sequential") 568, code := .ref 298 } }
noncomputable def x300 (P : Params) : Obj := { cls := .type "tuple", data := .seq #[] }
noncomputable def x301 (P : Params) : Obj := { cls := .none, data := .fields #[] }
noncomputable def x302 (P : Params) : Obj := { cls := .type "tuple", data := .seq #[.str (ofString "self") 610] }
noncomputable def x303 (P : Params) : Obj := { cls := .type "tuple", data := .seq #[] }
noncomputable def x304 (P : Params) : Obj := { cls := .none, data := .func { name := ofString "start", qualname := ofString "SequentialWriter.start", params := (fParams (st2 26 1)), body := FuncBody.stmts (fBody (st2 26 1)), scope := (fScope (st2 26 1)), globals := 0, closure := [], defaults := .none, kwdefaults := .none } }
noncomputable def x305 (P : Params) : Obj := { cls := .type "code", data := .fields #[.str (ofString "start") 607, .str (ofString "SequentialWriter.start") 608, .str (ofString "/claim/cut.py") 609, .int 161 0, .int 1 0, .int 0 0, .int 0 0, .int 3 0, .ref 300, .bool true, .int 181 0, .ref 301, .none, .ref 302, .ref 303, .ref 304, .int 611 0, .int 161 0, .str (ofString "/claim/cut.py") 612] }
noncomputable def x306 (P : Params) : Obj := { cls := .type "function", data := .func { name := ofString "start", qualname := ofString "SequentialWriter.start", params := (fParams (st2 26 1)), body := FuncBody.stmts (fBody (st2 26 1)), scope := (fScope (st2 26 1)), globals := 3, closure := [], defaults := .none, kwdefaults := .none, pyModule := .str (ofString "pixelpress.sequential") 568, code := .ref 305 } }
noncomputable def x307 (P : Params) : Obj := { cls := .type "tuple", data := .seq #[] }
noncomputable def x308 (P : Params) : Obj := { cls := .none, data := .fields #[] }
noncomputable def x309 (P : Params) : Obj := { cls := .type "tuple", data := .seq #[.str (ofString "self") 617, .str (ofString "place") 618, .str (ofString "row") 619, .str (ofString "key") 620, .str (ofString "run") 621, .str (ofString "k") 622] }
noncomputable def x310 (P : Params) : Obj := { cls := .type "tuple", data := .seq #[] }
noncomputable def x311 (P : Params) : Obj := { cls := .none, data := .func { name := ofString "code", qualname := ofString "SequentialWriter.code", params := (fParams (st2 26 2)), body := FuncBody.stmts (fBody (st2 26 2)), scope := (fScope (st2 26 2)), globals := 0, closure := [], defaults := .none, kwdefaults := .none } }
noncomputable def x312 (P : Params) : Obj := { cls := .type "code", data := .fields #[.str (ofString "code") 614, .str (ofString "SequentialWriter.code") 615, .str (ofString "/claim/cut.py") 616, .int 164 0, .int 3 0, .int 0 0, .int 0 0, .int 3 0, .ref 307, .bool true, .int 181 0, .ref 308, .none, .ref 309, .ref 310, .ref 311, .int 623 0, .int 164 0, .str (ofString "/claim/cut.py") 624] }
noncomputable def x313 (P : Params) : Obj := { cls := .type "function", data := .func { name := ofString "code", qualname := ofString "SequentialWriter.code", params := (fParams (st2 26 2)), body := FuncBody.stmts (fBody (st2 26 2)), scope := (fScope (st2 26 2)), globals := 3, closure := [], defaults := .none, kwdefaults := .none, pyModule := .str (ofString "pixelpress.sequential") 568, code := .ref 312 } }
noncomputable def x314 (P : Params) : Obj := { cls := .type "tuple", data := .seq #[] }
noncomputable def x315 (P : Params) : Obj := { cls := .none, data := .fields #[] }
noncomputable def x316 (P : Params) : Obj := { cls := .type "tuple", data := .seq #[.str (ofString "self") 629] }
noncomputable def x317 (P : Params) : Obj := { cls := .type "tuple", data := .seq #[] }
noncomputable def x318 (P : Params) : Obj := { cls := .none, data := .func { name := ofString "finish", qualname := ofString "SequentialWriter.finish", params := (fParams (st2 26 3)), body := FuncBody.stmts (fBody (st2 26 3)), scope := (fScope (st2 26 3)), globals := 0, closure := [], defaults := .none, kwdefaults := .none } }
noncomputable def x319 (P : Params) : Obj := { cls := .type "code", data := .fields #[.str (ofString "finish") 626, .str (ofString "SequentialWriter.finish") 627, .str (ofString "/claim/cut.py") 628, .int 181 0, .int 1 0, .int 0 0, .int 0 0, .int 3 0, .ref 314, .bool true, .int 181 0, .ref 315, .none, .ref 316, .ref 317, .ref 318, .int 630 0, .int 181 0, .str (ofString "/claim/cut.py") 631] }
noncomputable def x320 (P : Params) : Obj := { cls := .type "function", data := .func { name := ofString "finish", qualname := ofString "SequentialWriter.finish", params := (fParams (st2 26 3)), body := FuncBody.stmts (fBody (st2 26 3)), scope := (fScope (st2 26 3)), globals := 3, closure := [], defaults := .none, kwdefaults := .none, pyModule := .str (ofString "pixelpress.sequential") 568, code := .ref 319 } }
noncomputable def x321 (P : Params) : Obj := { cls := .type "tuple", data := .seq #[.str (ofString "before") 633, .str (ofString "many") 634, .str (ofString "scan") 635, .str (ofString "sink") 636] }
noncomputable def x322 (P : Params) : Obj := { cls := .type "dict", data := .dict #[{ hash := PyData.keyHash P (ofString "__module__"), key := .str (ofString "__module__") 592, val := .str (ofString "pixelpress.sequential") 568 }, { hash := PyData.keyHash P (ofString "__firstlineno__"), key := .str (ofString "__firstlineno__") 596, val := .int 153 595 }, { hash := PyData.keyHash P (ofString "__init__"), key := .str (ofString "__init__") 606, val := .ref 299 }, { hash := PyData.keyHash P (ofString "start"), key := .str (ofString "start") 613, val := .ref 306 }, { hash := PyData.keyHash P (ofString "code"), key := .str (ofString "code") 625, val := .ref 313 }, { hash := PyData.keyHash P (ofString "finish"), key := .str (ofString "finish") 632, val := .ref 320 }, { hash := PyData.keyHash P (ofString "__static_attributes__"), key := .str (ofString "__static_attributes__") 637, val := .ref 321 }, { hash := PyData.keyHash P (ofString "__dict__"), key := .str (ofString "__dict__") 639, val := .ref 324 }, { hash := PyData.keyHash P (ofString "__weakref__"), key := .str (ofString "__weakref__") 641, val := .ref 325 }, { hash := PyData.keyHash P (ofString "__doc__"), key := .str (ofString "__doc__") 642, val := .none }] 4 }
noncomputable def x323 (P : Params) : Obj := { cls := .type "type", data := .cls { name := ofString "SequentialWriter", bases := [.type "object"], mro := [.ref 323, .type "object"], ns := 322, qualname := ofString "SequentialWriter" }, slots := #[none, none, some (.str (ofString "SequentialWriter") 585), some (.str (ofString "SequentialWriter") 593), some (.builtin "object.__new__"), some (.bool true)] }
noncomputable def x324 (P : Params) : Obj := { cls := .type "getset_descriptor", data := .fields #[.str (ofString "__dict__") 638, .ref 323, .builtin "function.__dict__", .builtin "function.__dict__#set"] }
noncomputable def x325 (P : Params) : Obj := { cls := .type "getset_descriptor", data := .fields #[.str (ofString "__weakref__") 640, .ref 323, .builtin "ExceptionGroup.__weakref__", .none] }
noncomputable def x326 (P : Params) : Obj := { cls := .type "super", data := .fields #[.ref 323, .ref 323, .ref 323] }
noncomputable def x327 (P : Params) : Obj := { cls := .type "builtin_function_or_method", data := .fields #[.builtin "object.__init_subclass__", .ref 323] }
noncomputable def x328 (P : Params) : Obj := { cls := .type "tuple", data := .seq #[] }
noncomputable def x329 (P : Params) : Obj := { cls := .type "builtin_function_or_method", data := .fields #[.builtin "type.__prepare__", .type "type"] }
noncomputable def x330 (P : Params) : Obj := { cls := .type "dict", data := .dict #[{ hash := PyData.keyHash P (ofString "__module__"), key := .str (ofString "__module__") 652, val := .str (ofString "pixelpress.sequential") 568 }, { hash := PyData.keyHash P (ofString "__qualname__"), key := .str (ofString "__qualname__") 654, val := .str (ofString "SequentialReader") 653 }, { hash := PyData.keyHash P (ofString "__firstlineno__"), key := .str (ofString "__firstlineno__") 656, val := .int 183 655 }, { hash := PyData.keyHash P (ofString "__init__"), key := .str (ofString "__init__") 666, val := .ref 341 }, { hash := PyData.keyHash P (ofString "start"), key := .str (ofString "start") 674, val := .ref 348 }, { hash := PyData.keyHash P (ofString "number"), key := .str (ofString "number") 682, val := .ref 355 }, { hash := PyData.keyHash P (ofString "read"), key := .str (ofString "read") 697, val := .ref 362 }, { hash := PyData.keyHash P (ofString "finish"), key := .str (ofString "finish") 704, val := .ref 369 }, { hash := PyData.keyHash P (ofString "__static_attributes__"), key := .str (ofString "__static_attributes__") 710, val := .ref 370 }] 9 }
noncomputable def x331 (P : Params) : Obj := { cls := .type "tuple", data := .seq #[] }
noncomputable def x332 (P : Params) : Obj := { cls := .none, data := .fields #[.int 185 0, .int 4 0, .ref 340, .int 192 0, .int 4 0, .ref 347, .int 196 0, .int 4 0, .ref 354, .int 199 0, .int 4 0, .ref 361, .int 223 0, .int 4 0, .ref 368] }
noncomputable def x333 (P : Params) : Obj := { cls := .type "code", data := .fields #[.str (ofString "SequentialReader") 647, .str (ofString "SequentialReader") 648, .str (ofString "/claim/cut.py") 649, .int 183 0, .int 0 0, .int 0 0, .int 0 0, .int 0 0, .ref 331, .bool false, .int 181 0, .ref 332, .none, .none, .none, .none, .int 650 0, .int 183 0, .str (ofString "/claim/cut.py") 651] }
noncomputable def x334 (P : Params) : Obj := { cls := .type "frame", slots := #[some (.ref 333), some (.ref 3), some (.ref 330), none, some (.str (ofString "pixelpress.sequential") 568), none, some (.ref 0)] }
noncomputable def x335 (P : Params) : Obj := { cls := .type "tuple", data := .seq #[] }
noncomputable def x336 (P : Params) : Obj := { cls := .none, data := .fields #[] }
noncomputable def x337 (P : Params) : Obj := { cls := .type "tuple", data := .seq #[.str (ofString "self") 660, .str (ofString "scan") 661, .str (ofString "n") 662, .str (ofString "tables") 663] }
noncomputable def x338 (P : Params) : Obj := { cls := .type "tuple", data := .seq #[] }
noncomputable def x339 (P : Params) : Obj := { cls := .none, data := .func { name := ofString "__init__", qualname := ofString "SequentialReader.__init__", params := (fParams (st2 27 0)), body := FuncBody.stmts (fBody (st2 27 0)), scope := (fScope (st2 27 0)), globals := 0, closure := [], defaults := .none, kwdefaults := .none } }
noncomputable def x340 (P : Params) : Obj := { cls := .type "code", data := .fields #[.str (ofString "__init__") 657, .str (ofString "SequentialReader.__init__") 658, .str (ofString "/claim/cut.py") 659, .int 185 0, .int 4 0, .int 0 0, .int 0 0, .int 3 0, .ref 335, .bool true, .int 181 0, .ref 336, .none, .ref 337, .ref 338, .ref 339, .int 664 0, .int 185 0, .str (ofString "/claim/cut.py") 665] }
noncomputable def x341 (P : Params) : Obj := { cls := .type "function", data := .func { name := ofString "__init__", qualname := ofString "SequentialReader.__init__", params := (fParams (st2 27 0)), body := FuncBody.stmts (fBody (st2 27 0)), scope := (fScope (st2 27 0)), globals := 3, closure := [], defaults := .none, kwdefaults := .none, pyModule := .str (ofString "pixelpress.sequential") 568, code := .ref 340 } }
noncomputable def x342 (P : Params) : Obj := { cls := .type "tuple", data := .seq #[] }
noncomputable def x343 (P : Params) : Obj := { cls := .none, data := .fields #[] }
noncomputable def x344 (P : Params) : Obj := { cls := .type "tuple", data := .seq #[.str (ofString "self") 670, .str (ofString "octets") 671] }
noncomputable def x345 (P : Params) : Obj := { cls := .type "tuple", data := .seq #[] }
noncomputable def x346 (P : Params) : Obj := { cls := .none, data := .func { name := ofString "start", qualname := ofString "SequentialReader.start", params := (fParams (st2 27 1)), body := FuncBody.stmts (fBody (st2 27 1)), scope := (fScope (st2 27 1)), globals := 0, closure := [], defaults := .none, kwdefaults := .none } }
noncomputable def x347 (P : Params) : Obj := { cls := .type "code", data := .fields #[.str (ofString "start") 667, .str (ofString "SequentialReader.start") 668, .str (ofString "/claim/cut.py") 669, .int 192 0, .int 2 0, .int 0 0, .int 0 0, .int 3 0, .ref 342, .bool true, .int 181 0, .ref 343, .none, .ref 344, .ref 345, .ref 346, .int 672 0, .int 192 0, .str (ofString "/claim/cut.py") 673] }
noncomputable def x348 (P : Params) : Obj := { cls := .type "function", data := .func { name := ofString "start", qualname := ofString "SequentialReader.start", params := (fParams (st2 27 1)), body := FuncBody.stmts (fBody (st2 27 1)), scope := (fScope (st2 27 1)), globals := 3, closure := [], defaults := .none, kwdefaults := .none, pyModule := .str (ofString "pixelpress.sequential") 568, code := .ref 347 } }
noncomputable def x349 (P : Params) : Obj := { cls := .type "tuple", data := .seq #[] }
noncomputable def x350 (P : Params) : Obj := { cls := .none, data := .fields #[] }
noncomputable def x351 (P : Params) : Obj := { cls := .type "tuple", data := .seq #[.str (ofString "self") 678, .str (ofString "size") 679] }
noncomputable def x352 (P : Params) : Obj := { cls := .type "tuple", data := .seq #[] }
noncomputable def x353 (P : Params) : Obj := { cls := .none, data := .func { name := ofString "number", qualname := ofString "SequentialReader.number", params := (fParams (st2 27 2)), body := FuncBody.stmts (fBody (st2 27 2)), scope := (fScope (st2 27 2)), globals := 0, closure := [], defaults := .none, kwdefaults := .none } }
noncomputable def x354 (P : Params) : Obj := { cls := .type "code", data := .fields #[.str (ofString "number") 675, .str (ofString "SequentialReader.number") 676, .str (ofString "/claim/cut.py") 677, .int 196 0, .int 2 0, .int 0 0, .int 0 0, .int 3 0, .ref 349, .bool true, .int 181 0, .ref 350, .none, .ref 351, .ref 352, .ref 353, .int 680 0, .int 196 0, .str (ofString "/claim/cut.py") 681] }
noncomputable def x355 (P : Params) : Obj := { cls := .type "function", data := .func { name := ofString "number", qualname := ofString "SequentialReader.number", params := (fParams (st2 27 2)), body := FuncBody.stmts (fBody (st2 27 2)), scope := (fScope (st2 27 2)), globals := 3, closure := [], defaults := .none, kwdefaults := .none, pyModule := .str (ofString "pixelpress.sequential") 568, code := .ref 354 } }
noncomputable def x356 (P : Params) : Obj := { cls := .type "tuple", data := .seq #[] }
noncomputable def x357 (P : Params) : Obj := { cls := .none, data := .fields #[] }
noncomputable def x358 (P : Params) : Obj := { cls := .type "tuple", data := .seq #[.str (ofString "self") 686, .str (ofString "place") 687, .str (ofString "row") 688, .str (ofString "found") 689, .str (ofString "size") 690, .str (ofString "table") 691, .str (ofString "k") 692, .str (ofString "symbol") 693, .str (ofString "run") 694] }
noncomputable def x359 (P : Params) : Obj := { cls := .type "tuple", data := .seq #[] }
noncomputable def x360 (P : Params) : Obj := { cls := .none, data := .func { name := ofString "read", qualname := ofString "SequentialReader.read", params := (fParams (st2 27 3)), body := FuncBody.stmts (fBody (st2 27 3)), scope := (fScope (st2 27 3)), globals := 0, closure := [], defaults := .none, kwdefaults := .none } }
noncomputable def x361 (P : Params) : Obj := { cls := .type "code", data := .fields #[.str (ofString "read") 683, .str (ofString "SequentialReader.read") 684, .str (ofString "/claim/cut.py") 685, .int 199 0, .int 3 0, .int 0 0, .int 0 0, .int 3 0, .ref 356, .bool true, .int 181 0, .ref 357, .none, .ref 358, .ref 359, .ref 360, .int 695 0, .int 199 0, .str (ofString "/claim/cut.py") 696] }
noncomputable def x362 (P : Params) : Obj := { cls := .type "function", data := .func { name := ofString "read", qualname := ofString "SequentialReader.read", params := (fParams (st2 27 3)), body := FuncBody.stmts (fBody (st2 27 3)), scope := (fScope (st2 27 3)), globals := 3, closure := [], defaults := .none, kwdefaults := .none, pyModule := .str (ofString "pixelpress.sequential") 568, code := .ref 361 } }
noncomputable def x363 (P : Params) : Obj := { cls := .type "tuple", data := .seq #[] }
noncomputable def x364 (P : Params) : Obj := { cls := .none, data := .fields #[] }
noncomputable def x365 (P : Params) : Obj := { cls := .type "tuple", data := .seq #[.str (ofString "self") 701] }
noncomputable def x366 (P : Params) : Obj := { cls := .type "tuple", data := .seq #[] }
noncomputable def x367 (P : Params) : Obj := { cls := .none, data := .func { name := ofString "finish", qualname := ofString "SequentialReader.finish", params := (fParams (st2 27 4)), body := FuncBody.stmts (fBody (st2 27 4)), scope := (fScope (st2 27 4)), globals := 0, closure := [], defaults := .none, kwdefaults := .none } }
noncomputable def x368 (P : Params) : Obj := { cls := .type "code", data := .fields #[.str (ofString "finish") 698, .str (ofString "SequentialReader.finish") 699, .str (ofString "/claim/cut.py") 700, .int 223 0, .int 1 0, .int 0 0, .int 0 0, .int 3 0, .ref 363, .bool true, .int 181 0, .ref 364, .none, .ref 365, .ref 366, .ref 367, .int 702 0, .int 223 0, .str (ofString "/claim/cut.py") 703] }
noncomputable def x369 (P : Params) : Obj := { cls := .type "function", data := .func { name := ofString "finish", qualname := ofString "SequentialReader.finish", params := (fParams (st2 27 4)), body := FuncBody.stmts (fBody (st2 27 4)), scope := (fScope (st2 27 4)), globals := 3, closure := [], defaults := .none, kwdefaults := .none, pyModule := .str (ofString "pixelpress.sequential") 568, code := .ref 368 } }
noncomputable def x370 (P : Params) : Obj := { cls := .type "tuple", data := .seq #[.str (ofString "before") 705, .str (ofString "many") 706, .str (ofString "reader") 707, .str (ofString "scan") 708, .str (ofString "tables") 709] }
noncomputable def x371 (P : Params) : Obj := { cls := .type "dict", data := .dict #[{ hash := PyData.keyHash P (ofString "__module__"), key := .str (ofString "__module__") 652, val := .str (ofString "pixelpress.sequential") 568 }, { hash := PyData.keyHash P (ofString "__firstlineno__"), key := .str (ofString "__firstlineno__") 656, val := .int 183 655 }, { hash := PyData.keyHash P (ofString "__init__"), key := .str (ofString "__init__") 666, val := .ref 341 }, { hash := PyData.keyHash P (ofString "start"), key := .str (ofString "start") 674, val := .ref 348 }, { hash := PyData.keyHash P (ofString "number"), key := .str (ofString "number") 682, val := .ref 355 }, { hash := PyData.keyHash P (ofString "read"), key := .str (ofString "read") 697, val := .ref 362 }, { hash := PyData.keyHash P (ofString "finish"), key := .str (ofString "finish") 704, val := .ref 369 }, { hash := PyData.keyHash P (ofString "__static_attributes__"), key := .str (ofString "__static_attributes__") 710, val := .ref 370 }, { hash := PyData.keyHash P (ofString "__dict__"), key := .str (ofString "__dict__") 712, val := .ref 373 }, { hash := PyData.keyHash P (ofString "__weakref__"), key := .str (ofString "__weakref__") 714, val := .ref 374 }, { hash := PyData.keyHash P (ofString "__doc__"), key := .str (ofString "__doc__") 715, val := .none }] 4 }
noncomputable def x372 (P : Params) : Obj := { cls := .type "type", data := .cls { name := ofString "SequentialReader", bases := [.type "object"], mro := [.ref 372, .type "object"], ns := 371, qualname := ofString "SequentialReader" }, slots := #[none, none, some (.str (ofString "SequentialReader") 645), some (.str (ofString "SequentialReader") 653), some (.builtin "object.__new__"), some (.bool true)] }
noncomputable def x373 (P : Params) : Obj := { cls := .type "getset_descriptor", data := .fields #[.str (ofString "__dict__") 711, .ref 372, .builtin "function.__dict__", .builtin "function.__dict__#set"] }
noncomputable def x374 (P : Params) : Obj := { cls := .type "getset_descriptor", data := .fields #[.str (ofString "__weakref__") 713, .ref 372, .builtin "ExceptionGroup.__weakref__", .none] }
noncomputable def x375 (P : Params) : Obj := { cls := .type "super", data := .fields #[.ref 372, .ref 372, .ref 372] }
noncomputable def x376 (P : Params) : Obj := { cls := .type "builtin_function_or_method", data := .fields #[.builtin "object.__init_subclass__", .ref 372] }
noncomputable def x377 (P : Params) : Obj := { cls := .type "tuple", data := .seq #[] }
noncomputable def x378 (P : Params) : Obj := { cls := .type "builtin_function_or_method", data := .fields #[.builtin "type.__prepare__", .type "type"] }
noncomputable def x379 (P : Params) : Obj := { cls := .type "dict", data := .dict #[{ hash := PyData.keyHash P (ofString "__module__"), key := .str (ofString "__module__") 727, val := .str (ofString "pixelpress.sinks") 718 }, { hash := PyData.keyHash P (ofString "__qualname__"), key := .str (ofString "__qualname__") 729, val := .str (ofString "CodeSink") 728 }, { hash := PyData.keyHash P (ofString "__firstlineno__"), key := .str (ofString "__firstlineno__") 731, val := .int 227 730 }, { hash := PyData.keyHash P (ofString "__init__"), key := .str (ofString "__init__") 739, val := .ref 390 }, { hash := PyData.keyHash P (ofString "symbol"), key := .str (ofString "symbol") 750, val := .ref 397 }, { hash := PyData.keyHash P (ofString "bits"), key := .str (ofString "bits") 759, val := .ref 404 }, { hash := PyData.keyHash P (ofString "finish"), key := .str (ofString "finish") 767, val := .ref 411 }, { hash := PyData.keyHash P (ofString "__static_attributes__"), key := .str (ofString "__static_attributes__") 770, val := .ref 412 }] 8 }
noncomputable def x380 (P : Params) : Obj := { cls := .type "tuple", data := .seq #[] }
noncomputable def x381 (P : Params) : Obj := { cls := .none, data := .fields #[.int 229 0, .int 4 0, .ref 389, .int 233 0, .int 4 0, .ref 396, .int 237 0, .int 4 0, .ref 403, .int 240 0, .int 4 0, .ref 410] }
noncomputable def x382 (P : Params) : Obj := { cls := .type "code", data := .fields #[.str (ofString "CodeSink") 722, .str (ofString "CodeSink") 723, .str (ofString "/claim/cut.py") 724, .int 227 0, .int 0 0, .int 0 0, .int 0 0, .int 0 0, .ref 380, .bool false, .int 181 0, .ref 381, .none, .none, .none, .none, .int 725 0, .int 227 0, .str (ofString "/claim/cut.py") 726] }
noncomputable def x383 (P : Params) : Obj := { cls := .type "frame", slots := #[some (.ref 382), some (.ref 3), some (.ref 379), none, some (.str (ofString "pixelpress.sinks") 718), none, some (.ref 0)] }
noncomputable def x384 (P : Params) : Obj := { cls := .type "tuple", data := .seq #[] }
noncomputable def x385 (P : Params) : Obj := { cls := .none, data := .fields #[] }
noncomputable def x386 (P : Params) : Obj := { cls := .type "tuple", data := .seq #[.str (ofString "self") 735, .str (ofString "tables") 736] }
noncomputable def x387 (P : Params) : Obj := { cls := .type "tuple", data := .seq #[] }
noncomputable def x388 (P : Params) : Obj := { cls := .none, data := .func { name := ofString "__init__", qualname := ofString "CodeSink.__init__", params := (fParams (st2 29 0)), body := FuncBody.stmts (fBody (st2 29 0)), scope := (fScope (st2 29 0)), globals := 0, closure := [], defaults := .none, kwdefaults := .none } }
noncomputable def x389 (P : Params) : Obj := { cls := .type "code", data := .fields #[.str (ofString "__init__") 732, .str (ofString "CodeSink.__init__") 733, .str (ofString "/claim/cut.py") 734, .int 229 0, .int 2 0, .int 0 0, .int 0 0, .int 3 0, .ref 384, .bool true, .int 181 0, .ref 385, .none, .ref 386, .ref 387, .ref 388, .int 737 0, .int 229 0, .str (ofString "/claim/cut.py") 738] }
noncomputable def x390 (P : Params) : Obj := { cls := .type "function", data := .func { name := ofString "__init__", qualname := ofString "CodeSink.__init__", params := (fParams (st2 29 0)), body := FuncBody.stmts (fBody (st2 29 0)), scope := (fScope (st2 29 0)), globals := 3, closure := [], defaults := .none, kwdefaults := .none, pyModule := .str (ofString "pixelpress.sinks") 718, code := .ref 389 } }
noncomputable def x391 (P : Params) : Obj := { cls := .type "tuple", data := .seq #[] }
noncomputable def x392 (P : Params) : Obj := { cls := .none, data := .fields #[] }
noncomputable def x393 (P : Params) : Obj := { cls := .type "tuple", data := .seq #[.str (ofString "self") 743, .str (ofString "key") 744, .str (ofString "s") 745, .str (ofString "bits") 746, .str (ofString "size") 747] }
noncomputable def x394 (P : Params) : Obj := { cls := .type "tuple", data := .seq #[] }
noncomputable def x395 (P : Params) : Obj := { cls := .none, data := .func { name := ofString "symbol", qualname := ofString "CodeSink.symbol", params := (fParams (st2 29 1)), body := FuncBody.stmts (fBody (st2 29 1)), scope := (fScope (st2 29 1)), globals := 0, closure := [], defaults := .none, kwdefaults := .none } }
noncomputable def x396 (P : Params) : Obj := { cls := .type "code", data := .fields #[.str (ofString "symbol") 740, .str (ofString "CodeSink.symbol") 741, .str (ofString "/claim/cut.py") 742, .int 233 0, .int 3 0, .int 0 0, .int 0 0, .int 3 0, .ref 391, .bool true, .int 181 0, .ref 392, .none, .ref 393, .ref 394, .ref 395, .int 748 0, .int 233 0, .str (ofString "/claim/cut.py") 749] }
noncomputable def x397 (P : Params) : Obj := { cls := .type "function", data := .func { name := ofString "symbol", qualname := ofString "CodeSink.symbol", params := (fParams (st2 29 1)), body := FuncBody.stmts (fBody (st2 29 1)), scope := (fScope (st2 29 1)), globals := 3, closure := [], defaults := .none, kwdefaults := .none, pyModule := .str (ofString "pixelpress.sinks") 718, code := .ref 396 } }
noncomputable def x398 (P : Params) : Obj := { cls := .type "tuple", data := .seq #[] }
noncomputable def x399 (P : Params) : Obj := { cls := .none, data := .fields #[] }
noncomputable def x400 (P : Params) : Obj := { cls := .type "tuple", data := .seq #[.str (ofString "self") 754, .str (ofString "v") 755, .str (ofString "size") 756] }
noncomputable def x401 (P : Params) : Obj := { cls := .type "tuple", data := .seq #[] }
noncomputable def x402 (P : Params) : Obj := { cls := .none, data := .func { name := ofString "bits", qualname := ofString "CodeSink.bits", params := (fParams (st2 29 2)), body := FuncBody.stmts (fBody (st2 29 2)), scope := (fScope (st2 29 2)), globals := 0, closure := [], defaults := .none, kwdefaults := .none } }
noncomputable def x403 (P : Params) : Obj := { cls := .type "code", data := .fields #[.str (ofString "bits") 751, .str (ofString "CodeSink.bits") 752, .str (ofString "/claim/cut.py") 753, .int 237 0, .int 3 0, .int 0 0, .int 0 0, .int 3 0, .ref 398, .bool true, .int 181 0, .ref 399, .none, .ref 400, .ref 401, .ref 402, .int 757 0, .int 237 0, .str (ofString "/claim/cut.py") 758] }
noncomputable def x404 (P : Params) : Obj := { cls := .type "function", data := .func { name := ofString "bits", qualname := ofString "CodeSink.bits", params := (fParams (st2 29 2)), body := FuncBody.stmts (fBody (st2 29 2)), scope := (fScope (st2 29 2)), globals := 3, closure := [], defaults := .none, kwdefaults := .none, pyModule := .str (ofString "pixelpress.sinks") 718, code := .ref 403 } }
noncomputable def x405 (P : Params) : Obj := { cls := .type "tuple", data := .seq #[] }
noncomputable def x406 (P : Params) : Obj := { cls := .none, data := .fields #[] }
noncomputable def x407 (P : Params) : Obj := { cls := .type "tuple", data := .seq #[.str (ofString "self") 763, .str (ofString "found") 764] }
noncomputable def x408 (P : Params) : Obj := { cls := .type "tuple", data := .seq #[] }
noncomputable def x409 (P : Params) : Obj := { cls := .none, data := .func { name := ofString "finish", qualname := ofString "CodeSink.finish", params := (fParams (st2 29 3)), body := FuncBody.stmts (fBody (st2 29 3)), scope := (fScope (st2 29 3)), globals := 0, closure := [], defaults := .none, kwdefaults := .none } }
noncomputable def x410 (P : Params) : Obj := { cls := .type "code", data := .fields #[.str (ofString "finish") 760, .str (ofString "CodeSink.finish") 761, .str (ofString "/claim/cut.py") 762, .int 240 0, .int 1 0, .int 0 0, .int 0 0, .int 3 0, .ref 405, .bool true, .int 181 0, .ref 406, .none, .ref 407, .ref 408, .ref 409, .int 765 0, .int 240 0, .str (ofString "/claim/cut.py") 766] }
noncomputable def x411 (P : Params) : Obj := { cls := .type "function", data := .func { name := ofString "finish", qualname := ofString "CodeSink.finish", params := (fParams (st2 29 3)), body := FuncBody.stmts (fBody (st2 29 3)), scope := (fScope (st2 29 3)), globals := 3, closure := [], defaults := .none, kwdefaults := .none, pyModule := .str (ofString "pixelpress.sinks") 718, code := .ref 410 } }
noncomputable def x412 (P : Params) : Obj := { cls := .type "tuple", data := .seq #[.str (ofString "tables") 768, .str (ofString "writer") 769] }
noncomputable def x413 (P : Params) : Obj := { cls := .type "dict", data := .dict #[{ hash := PyData.keyHash P (ofString "__module__"), key := .str (ofString "__module__") 727, val := .str (ofString "pixelpress.sinks") 718 }, { hash := PyData.keyHash P (ofString "__firstlineno__"), key := .str (ofString "__firstlineno__") 731, val := .int 227 730 }, { hash := PyData.keyHash P (ofString "__init__"), key := .str (ofString "__init__") 739, val := .ref 390 }, { hash := PyData.keyHash P (ofString "symbol"), key := .str (ofString "symbol") 750, val := .ref 397 }, { hash := PyData.keyHash P (ofString "bits"), key := .str (ofString "bits") 759, val := .ref 404 }, { hash := PyData.keyHash P (ofString "finish"), key := .str (ofString "finish") 767, val := .ref 411 }, { hash := PyData.keyHash P (ofString "__static_attributes__"), key := .str (ofString "__static_attributes__") 770, val := .ref 412 }, { hash := PyData.keyHash P (ofString "__dict__"), key := .str (ofString "__dict__") 772, val := .ref 415 }, { hash := PyData.keyHash P (ofString "__weakref__"), key := .str (ofString "__weakref__") 774, val := .ref 416 }, { hash := PyData.keyHash P (ofString "__doc__"), key := .str (ofString "__doc__") 775, val := .none }] 4 }
noncomputable def x414 (P : Params) : Obj := { cls := .type "type", data := .cls { name := ofString "CodeSink", bases := [.type "object"], mro := [.ref 414, .type "object"], ns := 413, qualname := ofString "CodeSink" }, slots := #[none, none, some (.str (ofString "CodeSink") 720), some (.str (ofString "CodeSink") 728), some (.builtin "object.__new__"), some (.bool true)] }
noncomputable def x415 (P : Params) : Obj := { cls := .type "getset_descriptor", data := .fields #[.str (ofString "__dict__") 771, .ref 414, .builtin "function.__dict__", .builtin "function.__dict__#set"] }
noncomputable def x416 (P : Params) : Obj := { cls := .type "getset_descriptor", data := .fields #[.str (ofString "__weakref__") 773, .ref 414, .builtin "ExceptionGroup.__weakref__", .none] }
noncomputable def x417 (P : Params) : Obj := { cls := .type "super", data := .fields #[.ref 414, .ref 414, .ref 414] }
noncomputable def x418 (P : Params) : Obj := { cls := .type "builtin_function_or_method", data := .fields #[.builtin "object.__init_subclass__", .ref 414] }
noncomputable def x419 (P : Params) : Obj := { cls := .type "tuple", data := .seq #[] }
noncomputable def x420 (P : Params) : Obj := { cls := .type "builtin_function_or_method", data := .fields #[.builtin "type.__prepare__", .type "type"] }
noncomputable def x421 (P : Params) : Obj := { cls := .type "dict", data := .dict #[{ hash := PyData.keyHash P (ofString "__module__"), key := .str (ofString "__module__") 785, val := .str (ofString "pixelpress.sinks") 718 }, { hash := PyData.keyHash P (ofString "__qualname__"), key := .str (ofString "__qualname__") 787, val := .str (ofString "CountSink") 786 }, { hash := PyData.keyHash P (ofString "__firstlineno__"), key := .str (ofString "__firstlineno__") 789, val := .int 245 788 }, { hash := PyData.keyHash P (ofString "__init__"), key := .str (ofString "__init__") 796, val := .ref 432 }, { hash := PyData.keyHash P (ofString "symbol"), key := .str (ofString "symbol") 806, val := .ref 439 }, { hash := PyData.keyHash P (ofString "bits"), key := .str (ofString "bits") 815, val := .ref 446 }, { hash := PyData.keyHash P (ofString "finish"), key := .str (ofString "finish") 822, val := .ref 453 }, { hash := PyData.keyHash P (ofString "__static_attributes__"), key := .str (ofString "__static_attributes__") 824, val := .ref 454 }] 8 }
noncomputable def x422 (P : Params) : Obj := { cls := .type "tuple", data := .seq #[] }
noncomputable def x423 (P : Params) : Obj := { cls := .none, data := .fields #[.int 247 0, .int 4 0, .ref 431, .int 250 0, .int 4 0, .ref 438, .int 254 0, .int 4 0, .ref 445, .int 257 0, .int 4 0, .ref 452] }
noncomputable def x424 (P : Params) : Obj := { cls := .type "code", data := .fields #[.str (ofString "CountSink") 780, .str (ofString "CountSink") 781, .str (ofString "/claim/cut.py") 782, .int 245 0, .int 0 0, .int 0 0, .int 0 0, .int 0 0, .ref 422, .bool false, .int 181 0, .ref 423, .none, .none, .none, .none, .int 783 0, .int 245 0, .str (ofString "/claim/cut.py") 784] }
noncomputable def x425 (P : Params) : Obj := { cls := .type "frame", slots := #[some (.ref 424), some (.ref 3), some (.ref 421), none, some (.str (ofString "pixelpress.sinks") 718), none, some (.ref 0)] }
noncomputable def x426 (P : Params) : Obj := { cls := .type "tuple", data := .seq #[] }
noncomputable def x427 (P : Params) : Obj := { cls := .none, data := .fields #[] }
noncomputable def x428 (P : Params) : Obj := { cls := .type "tuple", data := .seq #[.str (ofString "self") 793] }
noncomputable def x429 (P : Params) : Obj := { cls := .type "tuple", data := .seq #[] }
noncomputable def x430 (P : Params) : Obj := { cls := .none, data := .func { name := ofString "__init__", qualname := ofString "CountSink.__init__", params := (fParams (st2 30 0)), body := FuncBody.stmts (fBody (st2 30 0)), scope := (fScope (st2 30 0)), globals := 0, closure := [], defaults := .none, kwdefaults := .none } }
noncomputable def x431 (P : Params) : Obj := { cls := .type "code", data := .fields #[.str (ofString "__init__") 790, .str (ofString "CountSink.__init__") 791, .str (ofString "/claim/cut.py") 792, .int 247 0, .int 1 0, .int 0 0, .int 0 0, .int 3 0, .ref 426, .bool true, .int 181 0, .ref 427, .none, .ref 428, .ref 429, .ref 430, .int 794 0, .int 247 0, .str (ofString "/claim/cut.py") 795] }
noncomputable def x432 (P : Params) : Obj := { cls := .type "function", data := .func { name := ofString "__init__", qualname := ofString "CountSink.__init__", params := (fParams (st2 30 0)), body := FuncBody.stmts (fBody (st2 30 0)), scope := (fScope (st2 30 0)), globals := 3, closure := [], defaults := .none, kwdefaults := .none, pyModule := .str (ofString "pixelpress.sinks") 718, code := .ref 431 } }
noncomputable def x433 (P : Params) : Obj := { cls := .type "tuple", data := .seq #[] }
noncomputable def x434 (P : Params) : Obj := { cls := .none, data := .fields #[] }
noncomputable def x435 (P : Params) : Obj := { cls := .type "tuple", data := .seq #[.str (ofString "self") 800, .str (ofString "key") 801, .str (ofString "s") 802, .str (ofString "told") 803] }
noncomputable def x436 (P : Params) : Obj := { cls := .type "tuple", data := .seq #[] }
noncomputable def x437 (P : Params) : Obj := { cls := .none, data := .func { name := ofString "symbol", qualname := ofString "CountSink.symbol", params := (fParams (st2 30 1)), body := FuncBody.stmts (fBody (st2 30 1)), scope := (fScope (st2 30 1)), globals := 0, closure := [], defaults := .none, kwdefaults := .none } }
noncomputable def x438 (P : Params) : Obj := { cls := .type "code", data := .fields #[.str (ofString "symbol") 797, .str (ofString "CountSink.symbol") 798, .str (ofString "/claim/cut.py") 799, .int 250 0, .int 3 0, .int 0 0, .int 0 0, .int 3 0, .ref 433, .bool true, .int 181 0, .ref 434, .none, .ref 435, .ref 436, .ref 437, .int 804 0, .int 250 0, .str (ofString "/claim/cut.py") 805] }
noncomputable def x439 (P : Params) : Obj := { cls := .type "function", data := .func { name := ofString "symbol", qualname := ofString "CountSink.symbol", params := (fParams (st2 30 1)), body := FuncBody.stmts (fBody (st2 30 1)), scope := (fScope (st2 30 1)), globals := 3, closure := [], defaults := .none, kwdefaults := .none, pyModule := .str (ofString "pixelpress.sinks") 718, code := .ref 438 } }
noncomputable def x440 (P : Params) : Obj := { cls := .type "tuple", data := .seq #[] }
noncomputable def x441 (P : Params) : Obj := { cls := .none, data := .fields #[] }
noncomputable def x442 (P : Params) : Obj := { cls := .type "tuple", data := .seq #[.str (ofString "self") 810, .str (ofString "v") 811, .str (ofString "size") 812] }
noncomputable def x443 (P : Params) : Obj := { cls := .type "tuple", data := .seq #[] }
noncomputable def x444 (P : Params) : Obj := { cls := .none, data := .func { name := ofString "bits", qualname := ofString "CountSink.bits", params := (fParams (st2 30 2)), body := FuncBody.stmts (fBody (st2 30 2)), scope := (fScope (st2 30 2)), globals := 0, closure := [], defaults := .none, kwdefaults := .none } }
noncomputable def x445 (P : Params) : Obj := { cls := .type "code", data := .fields #[.str (ofString "bits") 807, .str (ofString "CountSink.bits") 808, .str (ofString "/claim/cut.py") 809, .int 254 0, .int 3 0, .int 0 0, .int 0 0, .int 3 0, .ref 440, .bool true, .int 181 0, .ref 441, .none, .ref 442, .ref 443, .ref 444, .int 813 0, .int 254 0, .str (ofString "/claim/cut.py") 814] }
noncomputable def x446 (P : Params) : Obj := { cls := .type "function", data := .func { name := ofString "bits", qualname := ofString "CountSink.bits", params := (fParams (st2 30 2)), body := FuncBody.stmts (fBody (st2 30 2)), scope := (fScope (st2 30 2)), globals := 3, closure := [], defaults := .none, kwdefaults := .none, pyModule := .str (ofString "pixelpress.sinks") 718, code := .ref 445 } }
noncomputable def x447 (P : Params) : Obj := { cls := .type "tuple", data := .seq #[] }
noncomputable def x448 (P : Params) : Obj := { cls := .none, data := .fields #[] }
noncomputable def x449 (P : Params) : Obj := { cls := .type "tuple", data := .seq #[.str (ofString "self") 819] }
noncomputable def x450 (P : Params) : Obj := { cls := .type "tuple", data := .seq #[] }
noncomputable def x451 (P : Params) : Obj := { cls := .none, data := .func { name := ofString "finish", qualname := ofString "CountSink.finish", params := (fParams (st2 30 3)), body := FuncBody.stmts (fBody (st2 30 3)), scope := (fScope (st2 30 3)), globals := 0, closure := [], defaults := .none, kwdefaults := .none } }
noncomputable def x452 (P : Params) : Obj := { cls := .type "code", data := .fields #[.str (ofString "finish") 816, .str (ofString "CountSink.finish") 817, .str (ofString "/claim/cut.py") 818, .int 257 0, .int 1 0, .int 0 0, .int 0 0, .int 3 0, .ref 447, .bool true, .int 181 0, .ref 448, .none, .ref 449, .ref 450, .ref 451, .int 820 0, .int 257 0, .str (ofString "/claim/cut.py") 821] }
noncomputable def x453 (P : Params) : Obj := { cls := .type "function", data := .func { name := ofString "finish", qualname := ofString "CountSink.finish", params := (fParams (st2 30 3)), body := FuncBody.stmts (fBody (st2 30 3)), scope := (fScope (st2 30 3)), globals := 3, closure := [], defaults := .none, kwdefaults := .none, pyModule := .str (ofString "pixelpress.sinks") 718, code := .ref 452 } }
noncomputable def x454 (P : Params) : Obj := { cls := .type "tuple", data := .seq #[.str (ofString "counts") 823] }
noncomputable def x455 (P : Params) : Obj := { cls := .type "dict", data := .dict #[{ hash := PyData.keyHash P (ofString "__module__"), key := .str (ofString "__module__") 785, val := .str (ofString "pixelpress.sinks") 718 }, { hash := PyData.keyHash P (ofString "__firstlineno__"), key := .str (ofString "__firstlineno__") 789, val := .int 245 788 }, { hash := PyData.keyHash P (ofString "__init__"), key := .str (ofString "__init__") 796, val := .ref 432 }, { hash := PyData.keyHash P (ofString "symbol"), key := .str (ofString "symbol") 806, val := .ref 439 }, { hash := PyData.keyHash P (ofString "bits"), key := .str (ofString "bits") 815, val := .ref 446 }, { hash := PyData.keyHash P (ofString "finish"), key := .str (ofString "finish") 822, val := .ref 453 }, { hash := PyData.keyHash P (ofString "__static_attributes__"), key := .str (ofString "__static_attributes__") 824, val := .ref 454 }, { hash := PyData.keyHash P (ofString "__dict__"), key := .str (ofString "__dict__") 826, val := .ref 457 }, { hash := PyData.keyHash P (ofString "__weakref__"), key := .str (ofString "__weakref__") 828, val := .ref 458 }, { hash := PyData.keyHash P (ofString "__doc__"), key := .str (ofString "__doc__") 829, val := .none }] 4 }
noncomputable def x456 (P : Params) : Obj := { cls := .type "type", data := .cls { name := ofString "CountSink", bases := [.type "object"], mro := [.ref 456, .type "object"], ns := 455, qualname := ofString "CountSink" }, slots := #[none, none, some (.str (ofString "CountSink") 778), some (.str (ofString "CountSink") 786), some (.builtin "object.__new__"), some (.bool true)] }
noncomputable def x457 (P : Params) : Obj := { cls := .type "getset_descriptor", data := .fields #[.str (ofString "__dict__") 825, .ref 456, .builtin "function.__dict__", .builtin "function.__dict__#set"] }
noncomputable def x458 (P : Params) : Obj := { cls := .type "getset_descriptor", data := .fields #[.str (ofString "__weakref__") 827, .ref 456, .builtin "ExceptionGroup.__weakref__", .none] }
noncomputable def x459 (P : Params) : Obj := { cls := .type "super", data := .fields #[.ref 456, .ref 456, .ref 456] }
noncomputable def x460 (P : Params) : Obj := { cls := .type "builtin_function_or_method", data := .fields #[.builtin "object.__init_subclass__", .ref 456] }
noncomputable def x461 (P : Params) : Obj := { cls := .type "tuple", data := .seq #[] }
noncomputable def x462 (P : Params) : Obj := { cls := .none, data := .fields #[] }
noncomputable def x463 (P : Params) : Obj := { cls := .type "tuple", data := .seq #[.str (ofString "script") 837, .str (ofString "cell") 838, .str (ofString "big") 839, .str (ofString "mixed") 840] }
noncomputable def x464 (P : Params) : Obj := { cls := .type "tuple", data := .seq #[] }
noncomputable def x465 (P : Params) : Obj := { cls := .none, data := .func { name := ofString "_law_pool", qualname := ofString "_law_pool", params := (fParams (st 32)), body := FuncBody.stmts (fBody (st 32)), scope := (fScope (st 32)), globals := 0, closure := [], defaults := .none, kwdefaults := .none } }
noncomputable def x466 (P : Params) : Obj := { cls := .type "code", data := .fields #[.str (ofString "_law_pool") 834, .str (ofString "_law_pool") 835, .str (ofString "/claim/cut.py") 836, .int 260 0, .int 1 0, .int 0 0, .int 0 0, .int 3 0, .ref 461, .bool true, .int 181 0, .ref 462, .none, .ref 463, .ref 464, .ref 465, .int 841 0, .int 260 0, .str (ofString "/claim/cut.py") 842] }
noncomputable def x467 (P : Params) : Obj := { cls := .type "function", data := .func { name := ofString "_law_pool", qualname := ofString "_law_pool", params := (fParams (st 32)), body := FuncBody.stmts (fBody (st 32)), scope := (fScope (st 32)), globals := 3, closure := [], defaults := .none, kwdefaults := .none, pyModule := .str (ofString "law_nt0568_01") 832, code := .ref 466 } }
noncomputable def x468 (P : Params) : Obj := { cls := .type "tuple", data := .seq #[] }
noncomputable def x469 (P : Params) : Obj := { cls := .none, data := .fields #[] }
noncomputable def x470 (P : Params) : Obj := { cls := .type "tuple", data := .seq #[.str (ofString "source") 847, .str (ofString "top") 848, .str (ofString "drawn") 849] }
noncomputable def x471 (P : Params) : Obj := { cls := .type "tuple", data := .seq #[] }
noncomputable def x472 (P : Params) : Obj := { cls := .none, data := .func { name := ofString "_law_take", qualname := ofString "_law_take", params := (fParams (st 33)), body := FuncBody.stmts (fBody (st 33)), scope := (fScope (st 33)), globals := 0, closure := [], defaults := .none, kwdefaults := .none } }
noncomputable def x473 (P : Params) : Obj := { cls := .type "code", data := .fields #[.str (ofString "_law_take") 844, .str (ofString "_law_take") 845, .str (ofString "/claim/cut.py") 846, .int 267 0, .int 2 0, .int 0 0, .int 0 0, .int 3 0, .ref 468, .bool true, .int 181 0, .ref 469, .none, .ref 470, .ref 471, .ref 472, .int 850 0, .int 267 0, .str (ofString "/claim/cut.py") 851] }
noncomputable def x474 (P : Params) : Obj := { cls := .type "function", data := .func { name := ofString "_law_take", qualname := ofString "_law_take", params := (fParams (st 33)), body := FuncBody.stmts (fBody (st 33)), scope := (fScope (st 33)), globals := 3, closure := [], defaults := .none, kwdefaults := .none, pyModule := .str (ofString "law_nt0568_01") 832, code := .ref 473 } }
noncomputable def x475 (P : Params) : Obj := { cls := .type "tuple", data := .seq #[] }
noncomputable def x476 (P : Params) : Obj := { cls := .none, data := .fields #[] }
noncomputable def x477 (P : Params) : Obj := { cls := .type "tuple", data := .seq #[.str (ofString "source") 856, .str (ofString "size") 857] }
noncomputable def x478 (P : Params) : Obj := { cls := .type "tuple", data := .seq #[] }
noncomputable def x479 (P : Params) : Obj := { cls := .none, data := .func { name := ofString "_law_number", qualname := ofString "_law_number", params := (fParams (st 34)), body := FuncBody.stmts (fBody (st 34)), scope := (fScope (st 34)), globals := 0, closure := [], defaults := .none, kwdefaults := .none } }
noncomputable def x480 (P : Params) : Obj := { cls := .type "code", data := .fields #[.str (ofString "_law_number") 853, .str (ofString "_law_number") 854, .str (ofString "/claim/cut.py") 855, .int 274 0, .int 1 0, .int 0 0, .int 0 0, .int 3 0, .ref 475, .bool true, .int 181 0, .ref 476, .none, .ref 477, .ref 478, .ref 479, .int 858 0, .int 274 0, .str (ofString "/claim/cut.py") 859] }
noncomputable def x481 (P : Params) : Obj := { cls := .type "function", data := .func { name := ofString "_law_number", qualname := ofString "_law_number", params := (fParams (st 34)), body := FuncBody.stmts (fBody (st 34)), scope := (fScope (st 34)), globals := 3, closure := [], defaults := .none, kwdefaults := .none, pyModule := .str (ofString "law_nt0568_01") 832, code := .ref 480 } }
noncomputable def x482 (P : Params) : Obj := { cls := .type "tuple", data := .seq #[] }
noncomputable def x483 (P : Params) : Obj := { cls := .none, data := .fields #[] }
noncomputable def x484 (P : Params) : Obj := { cls := .none, data := .func { name := ofString "_law_blocks", qualname := ofString "_law_blocks", params := (fParams (st 35)), body := FuncBody.stmts (fBody (st 35)), scope := (fScope (st 35)), globals := 0, closure := [], defaults := .none, kwdefaults := .none } }
noncomputable def x485 (P : Params) : Obj := { cls := .type "code", data := .fields #[.str (ofString "_law_blocks") 861, .str (ofString "_law_blocks") 862, .str (ofString "/claim/cut.py") 863, .int 277 0, .int 3 0, .int 0 0, .int 0 0, .int 3 0, .ref 482, .bool true, .int 181 0, .ref 483, .none, .none, .none, .ref 484, .int 864 0, .int 277 0, .str (ofString "/claim/cut.py") 865] }
noncomputable def x486 (P : Params) : Obj := { cls := .type "function", data := .func { name := ofString "_law_blocks", qualname := ofString "_law_blocks", params := (fParams (st 35)), body := FuncBody.stmts (fBody (st 35)), scope := (fScope (st 35)), globals := 3, closure := [], defaults := .none, kwdefaults := .none, pyModule := .str (ofString "law_nt0568_01") 832, code := .ref 485 } }
noncomputable def x487 (P : Params) : Obj := { cls := .type "tuple", data := .seq #[] }
noncomputable def x488 (P : Params) : Obj := { cls := .none, data := .fields #[] }
noncomputable def x489 (P : Params) : Obj := { cls := .type "tuple", data := .seq #[.str (ofString "writer") 870, .str (ofString "blocks") 871, .str (ofString "place") 872, .str (ofString "row") 873] }
noncomputable def x490 (P : Params) : Obj := { cls := .type "tuple", data := .seq #[] }
noncomputable def x491 (P : Params) : Obj := { cls := .none, data := .func { name := ofString "_law_coded", qualname := ofString "_law_coded", params := (fParams (st 36)), body := FuncBody.stmts (fBody (st 36)), scope := (fScope (st 36)), globals := 0, closure := [], defaults := .none, kwdefaults := .none } }
noncomputable def x492 (P : Params) : Obj := { cls := .type "code", data := .fields #[.str (ofString "_law_coded") 867, .str (ofString "_law_coded") 868, .str (ofString "/claim/cut.py") 869, .int 279 0, .int 2 0, .int 0 0, .int 0 0, .int 3 0, .ref 487, .bool true, .int 181 0, .ref 488, .none, .ref 489, .ref 490, .ref 491, .int 874 0, .int 279 0, .str (ofString "/claim/cut.py") 875] }
noncomputable def x493 (P : Params) : Obj := { cls := .type "function", data := .func { name := ofString "_law_coded", qualname := ofString "_law_coded", params := (fParams (st 36)), body := FuncBody.stmts (fBody (st 36)), scope := (fScope (st 36)), globals := 3, closure := [], defaults := .none, kwdefaults := .none, pyModule := .str (ofString "law_nt0568_01") 832, code := .ref 492 } }
noncomputable def x494 (P : Params) : Obj := { cls := .type "tuple", data := .seq #[] }
noncomputable def x495 (P : Params) : Obj := { cls := .none, data := .fields #[] }
noncomputable def x496 (P : Params) : Obj := { cls := .none, data := .func { name := ofString "_law_figures", qualname := ofString "_law_figures", params := (fParams (st 37)), body := FuncBody.stmts (fBody (st 37)), scope := (fScope (st 37)), globals := 0, closure := [], defaults := .none, kwdefaults := .none } }
noncomputable def x497 (P : Params) : Obj := { cls := .type "code", data := .fields #[.str (ofString "_law_figures") 877, .str (ofString "_law_figures") 878, .str (ofString "/claim/cut.py") 879, .int 284 0, .int 2 0, .int 0 0, .int 0 0, .int 3 0, .ref 494, .bool true, .int 181 0, .ref 495, .none, .none, .none, .ref 496, .int 880 0, .int 284 0, .str (ofString "/claim/cut.py") 881] }
noncomputable def x498 (P : Params) : Obj := { cls := .type "function", data := .func { name := ofString "_law_figures", qualname := ofString "_law_figures", params := (fParams (st 37)), body := FuncBody.stmts (fBody (st 37)), scope := (fScope (st 37)), globals := 3, closure := [], defaults := .none, kwdefaults := .none, pyModule := .str (ofString "law_nt0568_01") 832, code := .ref 497 } }
noncomputable def x499 (P : Params) : Obj := { cls := .type "tuple", data := .seq #[] }
noncomputable def x500 (P : Params) : Obj := { cls := .none, data := .fields #[] }
noncomputable def x501 (P : Params) : Obj := { cls := .type "tuple", data := .seq #[.str (ofString "table") 886, .str (ofString "run") 887, .str (ofString "value") 888, .str (ofString "size") 889, .str (ofString "code") 890, .str (ofString "many") 891] }
noncomputable def x502 (P : Params) : Obj := { cls := .type "tuple", data := .seq #[] }
noncomputable def x503 (P : Params) : Obj := { cls := .none, data := .func { name := ofString "_law_number_text", qualname := ofString "_law_number_text", params := (fParams (st 38)), body := FuncBody.stmts (fBody (st 38)), scope := (fScope (st 38)), globals := 0, closure := [], defaults := .none, kwdefaults := .none } }
noncomputable def x504 (P : Params) : Obj := { cls := .type "code", data := .fields #[.str (ofString "_law_number_text") 883, .str (ofString "_law_number_text") 884, .str (ofString "/claim/cut.py") 885, .int 286 0, .int 3 0, .int 0 0, .int 0 0, .int 3 0, .ref 499, .bool true, .int 181 0, .ref 500, .none, .ref 501, .ref 502, .ref 503, .int 892 0, .int 286 0, .str (ofString "/claim/cut.py") 893] }
noncomputable def x505 (P : Params) : Obj := { cls := .type "function", data := .func { name := ofString "_law_number_text", qualname := ofString "_law_number_text", params := (fParams (st 38)), body := FuncBody.stmts (fBody (st 38)), scope := (fScope (st 38)), globals := 3, closure := [], defaults := .none, kwdefaults := .none, pyModule := .str (ofString "law_nt0568_01") 832, code := .ref 504 } }
noncomputable def x506 (P : Params) : Obj := { cls := .type "tuple", data := .seq #[] }
noncomputable def x507 (P : Params) : Obj := { cls := .none, data := .fields #[] }
noncomputable def x508 (P : Params) : Obj := { cls := .none, data := .func { name := ofString "_law_octets", qualname := ofString "_law_octets", params := (fParams (st 39)), body := FuncBody.stmts (fBody (st 39)), scope := (fScope (st 39)), globals := 0, closure := [], defaults := .none, kwdefaults := .none } }
noncomputable def x509 (P : Params) : Obj := { cls := .type "code", data := .fields #[.str (ofString "_law_octets") 895, .str (ofString "_law_octets") 896, .str (ofString "/claim/cut.py") 897, .int 290 0, .int 3 0, .int 0 0, .int 0 0, .int 3 0, .ref 506, .bool true, .int 181 0, .ref 507, .none, .none, .none, .ref 508, .int 898 0, .int 290 0, .str (ofString "/claim/cut.py") 899] }
noncomputable def x510 (P : Params) : Obj := { cls := .type "function", data := .func { name := ofString "_law_octets", qualname := ofString "_law_octets", params := (fParams (st 39)), body := FuncBody.stmts (fBody (st 39)), scope := (fScope (st 39)), globals := 3, closure := [], defaults := .none, kwdefaults := .none, pyModule := .str (ofString "law_nt0568_01") 832, code := .ref 509 } }
noncomputable def x511 (P : Params) : Obj := { cls := .type "tuple", data := .seq #[] }
noncomputable def x512 (P : Params) : Obj := { cls := .none, data := .fields #[] }
noncomputable def x513 (P : Params) : Obj := { cls := .type "tuple", data := .seq #[.str (ofString "value") 904, .str (ofString "scan") 905, .str (ofString "row") 906, .str (ofString "counted") 907, .str (ofString "table") 908, .str (ofString "tables") 909, .str (ofString "reader") 910] }
noncomputable def x514 (P : Params) : Obj := { cls := .type "tuple", data := .seq #[] }
noncomputable def x515 (P : Params) : Obj := { cls := .none, data := .func { name := ofString "_law_zeros_right", qualname := ofString "_law_zeros_right", params := (fParams (st 40)), body := FuncBody.stmts (fBody (st 40)), scope := (fScope (st 40)), globals := 0, closure := [], defaults := .none, kwdefaults := .none } }
noncomputable def x516 (P : Params) : Obj := { cls := .type "code", data := .fields #[.str (ofString "_law_zeros_right") 901, .str (ofString "_law_zeros_right") 902, .str (ofString "/claim/cut.py") 903, .int 307 0, .int 1 0, .int 0 0, .int 0 0, .int 3 0, .ref 511, .bool true, .int 181 0, .ref 512, .none, .ref 513, .ref 514, .ref 515, .int 911 0, .int 307 0, .str (ofString "/claim/cut.py") 912] }
noncomputable def x517 (P : Params) : Obj := { cls := .type "function", data := .func { name := ofString "_law_zeros_right", qualname := ofString "_law_zeros_right", params := (fParams (st 40)), body := FuncBody.stmts (fBody (st 40)), scope := (fScope (st 40)), globals := 3, closure := [], defaults := .none, kwdefaults := .none, pyModule := .str (ofString "law_nt0568_01") 832, code := .ref 516 } }
noncomputable def x518 (P : Params) : Obj := { cls := .type "tuple", data := .seq #[] }
noncomputable def x519 (P : Params) : Obj := { cls := .none, data := .fields #[] }
noncomputable def x520 (P : Params) : Obj := { cls := .type "tuple", data := .seq #[.str (ofString "reader") 917] }
noncomputable def x521 (P : Params) : Obj := { cls := .type "tuple", data := .seq #[] }
noncomputable def x522 (P : Params) : Obj := { cls := .none, data := .func { name := ofString "_law_refused", qualname := ofString "_law_refused", params := (fParams (st 41)), body := FuncBody.stmts (fBody (st 41)), scope := (fScope (st 41)), globals := 0, closure := [], defaults := .none, kwdefaults := .none } }
noncomputable def x523 (P : Params) : Obj := { cls := .type "code", data := .fields #[.str (ofString "_law_refused") 914, .str (ofString "_law_refused") 915, .str (ofString "/claim/cut.py") 916, .int 318 0, .int 1 0, .int 0 0, .int 0 0, .int 3 0, .ref 518, .bool true, .int 181 0, .ref 519, .none, .ref 520, .ref 521, .ref 522, .int 918 0, .int 318 0, .str (ofString "/claim/cut.py") 919] }
noncomputable def x524 (P : Params) : Obj := { cls := .type "function", data := .func { name := ofString "_law_refused", qualname := ofString "_law_refused", params := (fParams (st 41)), body := FuncBody.stmts (fBody (st 41)), scope := (fScope (st 41)), globals := 3, closure := [], defaults := .none, kwdefaults := .none, pyModule := .str (ofString "law_nt0568_01") 832, code := .ref 523 } }
noncomputable def x525 (P : Params) : Obj := { cls := .type "tuple", data := .seq #[] }
noncomputable def x526 (P : Params) : Obj := { cls := .none, data := .fields #[] }
noncomputable def x527 (P : Params) : Obj := { cls := .none, data := .func { name := ofString "law", qualname := ofString "law", params := (fParams (st 42)), body := FuncBody.stmts (fBody (st 42)), scope := (fScope (st 42)), globals := 0, closure := [], defaults := .none, kwdefaults := .none } }
noncomputable def x528 (P : Params) : Obj := { cls := .type "code", data := .fields #[.str (ofString "law") 921, .str (ofString "law") 922, .str (ofString "/claim/cut.py") 923, .int 324 0, .int 1 0, .int 0 0, .int 0 0, .int 3 0, .ref 525, .bool true, .int 181 0, .ref 526, .none, .none, .none, .ref 527, .int 924 0, .int 324 0, .str (ofString "/claim/cut.py") 925] }
noncomputable def x529 (P : Params) : Obj := { cls := .type "function", data := .func { name := ofString "law", qualname := ofString "law", params := (fParams (st 42)), body := FuncBody.stmts (fBody (st 42)), scope := (fScope (st 42)), globals := 3, closure := [], defaults := .none, kwdefaults := .none, pyModule := .str (ofString "law_nt0568_01") 832, code := .ref 528 } }
noncomputable def K : Params → Frag := fun P => (nat_lit 2, x2 P) :: (nat_lit 3, x3 P) :: (nat_lit 15, x15 P) :: (nat_lit 17, x17 P) :: (nat_lit 18, x18 P) :: (nat_lit 20, x20 P) :: (nat_lit 21, x21 P) :: (nat_lit 22, x22 P) :: (nat_lit 29, x29 P) :: (nat_lit 31, x31 P) :: (nat_lit 32, x32 P) :: (nat_lit 34, x34 P) :: (nat_lit 35, x35 P) :: (nat_lit 36, x36 P) :: (nat_lit 37, x37 P) :: (nat_lit 38, x38 P) :: (nat_lit 39, x39 P) :: (nat_lit 42, x42 P) :: (nat_lit 49, x49 P) :: (nat_lit 50, x50 P) :: (nat_lit 51, x51 P) :: (nat_lit 54, x54 P) :: (nat_lit 61, x61 P) :: (nat_lit 62, x62 P) :: (nat_lit 63, x63 P) :: (nat_lit 66, x66 P) :: (nat_lit 73, x73 P) :: (nat_lit 74, x74 P) :: (nat_lit 75, x75 P) :: (nat_lit 78, x78 P) :: (nat_lit 85, x85 P) :: (nat_lit 86, x86 P) :: (nat_lit 87, x87 P) :: (nat_lit 90, x90 P) :: (nat_lit 92, x92 P) :: (nat_lit 93, x93 P) :: (nat_lit 95, x95 P) :: (nat_lit 96, x96 P) :: (nat_lit 97, x97 P) :: (nat_lit 99, x99 P) :: (nat_lit 100, x100 P) :: (nat_lit 102, x102 P) :: (nat_lit 103, x103 P) :: (nat_lit 111, x111 P) :: (nat_lit 113, x113 P) :: (nat_lit 114, x114 P) :: (nat_lit 116, x116 P) :: (nat_lit 117, x117 P) :: (nat_lit 118, x118 P) :: (nat_lit 120, x120 P) :: (nat_lit 121, x121 P) :: (nat_lit 123, x123 P) :: (nat_lit 124, x124 P) :: (nat_lit 125, x125 P) :: (nat_lit 127, x127 P) :: (nat_lit 128, x128 P) :: (nat_lit 130, x130 P) :: (nat_lit 131, x131 P) :: (nat_lit 132, x132 P) :: (nat_lit 133, x133 P) :: (nat_lit 134, x134 P) :: (nat_lit 135, x135 P) :: (nat_lit 136, x136 P) :: (nat_lit 146, x146 P) :: (nat_lit 148, x148 P) :: (nat_lit 149, x149 P) :: (nat_lit 151, x151 P) :: (nat_lit 152, x152 P) :: (nat_lit 153, x153 P) :: (nat_lit 155, x155 P) :: (nat_lit 156, x156 P) :: (nat_lit 158, x158 P) :: (nat_lit 159, x159 P) :: (nat_lit 160, x160 P) :: (nat_lit 162, x162 P) :: (nat_lit 163, x163 P) :: (nat_lit 165, x165 P) :: (nat_lit 166, x166 P) :: (nat_lit 167, x167 P) :: (nat_lit 168, x168 P) :: (nat_lit 169, x169 P) :: (nat_lit 170, x170 P) :: (nat_lit 171, x171 P) :: (nat_lit 181, x181 P) :: (nat_lit 183, x183 P) :: (nat_lit 184, x184 P) :: (nat_lit 186, x186 P) :: (nat_lit 187, x187 P) :: (nat_lit 188, x188 P) :: (nat_lit 190, x190 P) :: (nat_lit 191, x191 P) :: (nat_lit 193, x193 P) :: (nat_lit 194, x194 P) :: (nat_lit 195, x195 P) :: (nat_lit 197, x197 P) :: (nat_lit 198, x198 P) :: (nat_lit 200, x200 P) :: (nat_lit 201, x201 P) :: (nat_lit 202, x202 P) :: (nat_lit 204, x204 P) :: (nat_lit 205, x205 P) :: (nat_lit 207, x207 P) :: (nat_lit 208, x208 P) :: (nat_lit 209, x209 P) :: (nat_lit 210, x210 P) :: (nat_lit 211, x211 P) :: (nat_lit 212, x212 P) :: (nat_lit 213, x213 P) :: (nat_lit 223, x223 P) :: (nat_lit 225, x225 P) :: (nat_lit 226, x226 P) :: (nat_lit 228, x228 P) :: (nat_lit 229, x229 P) :: (nat_lit 230, x230 P) :: (nat_lit 232, x232 P) :: (nat_lit 233, x233 P) :: (nat_lit 235, x235 P) :: (nat_lit 236, x236 P) :: (nat_lit 237, x237 P) :: (nat_lit 239, x239 P) :: (nat_lit 240, x240 P) :: (nat_lit 242, x242 P) :: (nat_lit 243, x243 P) :: (nat_lit 244, x244 P) :: (nat_lit 246, x246 P) :: (nat_lit 247, x247 P) :: (nat_lit 249, x249 P) :: (nat_lit 250, x250 P) :: (nat_lit 251, x251 P) :: (nat_lit 252, x252 P) :: (nat_lit 253, x253 P) :: (nat_lit 254, x254 P) :: (nat_lit 255, x255 P) :: (nat_lit 258, x258 P) :: (nat_lit 260, x260 P) :: (nat_lit 261, x261 P) :: (nat_lit 263, x263 P) :: (nat_lit 264, x264 P) :: (nat_lit 265, x265 P) :: (nat_lit 267, x267 P) :: (nat_lit 268, x268 P) :: (nat_lit 270, x270 P) :: (nat_lit 271, x271 P) :: (nat_lit 272, x272 P) :: (nat_lit 274, x274 P) :: (nat_lit 275, x275 P) :: (nat_lit 277, x277 P) :: (nat_lit 278, x278 P) :: (nat_lit 279, x279 P) :: (nat_lit 281, x281 P) :: (nat_lit 282, x282 P) :: (nat_lit 284, x284 P) :: (nat_lit 285, x285 P) :: (nat_lit 293, x293 P) :: (nat_lit 295, x295 P) :: (nat_lit 296, x296 P) :: (nat_lit 298, x298 P) :: (nat_lit 299, x299 P) :: (nat_lit 300, x300 P) :: (nat_lit 302, x302 P) :: (nat_lit 303, x303 P) :: (nat_lit 305, x305 P) :: (nat_lit 306, x306 P) :: (nat_lit 307, x307 P) :: (nat_lit 309, x309 P) :: (nat_lit 310, x310 P) :: (nat_lit 312, x312 P) :: (nat_lit 313, x313 P) :: (nat_lit 314, x314 P) :: (nat_lit 316, x316 P) :: (nat_lit 317, x317 P) :: (nat_lit 319, x319 P) :: (nat_lit 320, x320 P) :: (nat_lit 321, x321 P) :: (nat_lit 322, x322 P) :: (nat_lit 323, x323 P) :: (nat_lit 324, x324 P) :: (nat_lit 325, x325 P) :: (nat_lit 335, x335 P) :: (nat_lit 337, x337 P) :: (nat_lit 338, x338 P) :: (nat_lit 340, x340 P) :: (nat_lit 341, x341 P) :: (nat_lit 342, x342 P) :: (nat_lit 344, x344 P) :: (nat_lit 345, x345 P) :: (nat_lit 347, x347 P) :: (nat_lit 348, x348 P) :: (nat_lit 349, x349 P) :: (nat_lit 351, x351 P) :: (nat_lit 352, x352 P) :: (nat_lit 354, x354 P) :: (nat_lit 355, x355 P) :: (nat_lit 356, x356 P) :: (nat_lit 358, x358 P) :: (nat_lit 359, x359 P) :: (nat_lit 361, x361 P) :: (nat_lit 362, x362 P) :: (nat_lit 363, x363 P) :: (nat_lit 365, x365 P) :: (nat_lit 366, x366 P) :: (nat_lit 368, x368 P) :: (nat_lit 369, x369 P) :: (nat_lit 370, x370 P) :: (nat_lit 371, x371 P) :: (nat_lit 372, x372 P) :: (nat_lit 373, x373 P) :: (nat_lit 374, x374 P) :: (nat_lit 384, x384 P) :: (nat_lit 386, x386 P) :: (nat_lit 387, x387 P) :: (nat_lit 389, x389 P) :: (nat_lit 390, x390 P) :: (nat_lit 391, x391 P) :: (nat_lit 393, x393 P) :: (nat_lit 394, x394 P) :: (nat_lit 396, x396 P) :: (nat_lit 397, x397 P) :: (nat_lit 398, x398 P) :: (nat_lit 400, x400 P) :: (nat_lit 401, x401 P) :: (nat_lit 403, x403 P) :: (nat_lit 404, x404 P) :: (nat_lit 405, x405 P) :: (nat_lit 407, x407 P) :: (nat_lit 408, x408 P) :: (nat_lit 410, x410 P) :: (nat_lit 411, x411 P) :: (nat_lit 412, x412 P) :: (nat_lit 413, x413 P) :: (nat_lit 414, x414 P) :: (nat_lit 415, x415 P) :: (nat_lit 416, x416 P) :: (nat_lit 426, x426 P) :: (nat_lit 428, x428 P) :: (nat_lit 429, x429 P) :: (nat_lit 431, x431 P) :: (nat_lit 432, x432 P) :: (nat_lit 433, x433 P) :: (nat_lit 435, x435 P) :: (nat_lit 436, x436 P) :: (nat_lit 438, x438 P) :: (nat_lit 439, x439 P) :: (nat_lit 440, x440 P) :: (nat_lit 442, x442 P) :: (nat_lit 443, x443 P) :: (nat_lit 445, x445 P) :: (nat_lit 446, x446 P) :: (nat_lit 447, x447 P) :: (nat_lit 449, x449 P) :: (nat_lit 450, x450 P) :: (nat_lit 452, x452 P) :: (nat_lit 453, x453 P) :: (nat_lit 454, x454 P) :: (nat_lit 455, x455 P) :: (nat_lit 456, x456 P) :: (nat_lit 457, x457 P) :: (nat_lit 458, x458 P) :: (nat_lit 461, x461 P) :: (nat_lit 463, x463 P) :: (nat_lit 464, x464 P) :: (nat_lit 466, x466 P) :: (nat_lit 467, x467 P) :: (nat_lit 468, x468 P) :: (nat_lit 470, x470 P) :: (nat_lit 471, x471 P) :: (nat_lit 473, x473 P) :: (nat_lit 474, x474 P) :: (nat_lit 475, x475 P) :: (nat_lit 477, x477 P) :: (nat_lit 478, x478 P) :: (nat_lit 480, x480 P) :: (nat_lit 481, x481 P) :: (nat_lit 482, x482 P) :: (nat_lit 485, x485 P) :: (nat_lit 486, x486 P) :: (nat_lit 487, x487 P) :: (nat_lit 489, x489 P) :: (nat_lit 490, x490 P) :: (nat_lit 492, x492 P) :: (nat_lit 493, x493 P) :: (nat_lit 494, x494 P) :: (nat_lit 497, x497 P) :: (nat_lit 498, x498 P) :: (nat_lit 499, x499 P) :: (nat_lit 501, x501 P) :: (nat_lit 502, x502 P) :: (nat_lit 504, x504 P) :: (nat_lit 505, x505 P) :: (nat_lit 506, x506 P) :: (nat_lit 509, x509 P) :: (nat_lit 510, x510 P) :: (nat_lit 511, x511 P) :: (nat_lit 513, x513 P) :: (nat_lit 514, x514 P) :: (nat_lit 516, x516 P) :: (nat_lit 517, x517 P) :: (nat_lit 518, x518 P) :: (nat_lit 520, x520 P) :: (nat_lit 521, x521 P) :: (nat_lit 523, x523 P) :: (nat_lit 524, x524 P) :: (nat_lit 525, x525 P) :: (nat_lit 528, x528 P) :: (nat_lit 529, x529 P) :: []
noncomputable def as0 : List Nat := [2, 3, 15, 17, 18, 20, 21, 22, 29, 31, 32, 34, 35, 36, 37, 38, 39, 42, 49, 50, 51, 54, 61, 62, 63, 66, 73, 74, 75, 78, 85, 86, 87, 90, 92, 93, 95, 96, 97, 99, 100, 102, 103, 111, 113, 114, 116, 117, 118, 120, 121, 123, 124, 125, 127, 128, 130, 131, 132, 133, 134, 135, 136, 146, 148, 149, 151, 152, 153, 155, 156, 158, 159, 160, 162, 163, 165, 166, 167, 168, 169, 170, 171, 181, 183, 184, 186, 187, 188, 190, 191, 193, 194, 195, 197, 198, 200, 201, 202, 204, 205, 207, 208, 209, 210, 211, 212, 213, 223, 225, 226, 228, 229, 230, 232, 233, 235, 236, 237, 239, 240, 242, 243, 244, 246, 247, 249, 250, 251, 252, 253, 254, 255, 258, 260, 261, 263, 264, 265, 267, 268, 270, 271, 272, 274, 275, 277, 278, 279, 281, 282, 284, 285, 293, 295, 296, 298, 299, 300, 302, 303, 305, 306, 307, 309, 310, 312, 313, 314, 316, 317, 319, 320, 321, 322, 323, 324, 325, 335, 337, 338, 340, 341, 342, 344, 345, 347, 348, 349, 351, 352, 354, 355, 356, 358, 359, 361, 362, 363, 365, 366, 368, 369, 370, 371, 372, 373, 374, 384, 386, 387, 389, 390, 391, 393, 394, 396, 397, 398, 400, 401, 403, 404, 405, 407, 408, 410, 411, 412, 413, 414, 415, 416, 426, 428, 429, 431, 432, 433, 435, 436, 438, 439, 440, 442, 443, 445, 446, 447, 449, 450, 452, 453, 454, 455, 456, 457, 458, 461, 463, 464, 466, 467, 468, 470, 471, 473, 474, 475, 477, 478, 480, 481, 482, 485, 486, 487, 489, 490, 492, 493, 494, 497, 498, 499, 501, 502, 504, 505, 506, 509, 510, 511, 513, 514, 516, 517, 518, 520, 521, 523, 524, 525, 528, 529]
noncomputable def q0 : Program := { pw with main := { pw.main with body := [st 0, st 2, st 3, st 4, st 5, st 6, st 8, st 9, st 10, st 11, st 12, st 14, st 16, st 17, st 19, st 20, st 21, st 23, st 24, st 25, st 26, st 27, st 29, st 30, st 32, st 33, st 34, st 35, st 36, st 37, st 38, st 39, st 40, st 41, st 42] } }
noncomputable def env0 : Env := { scope := pw.main.scope, locals := mainNs, globals := mainNs, cells := [], code := .ref 13, frame := some 14 }
noncomputable def o11 : Obj := ⟨.type "tuple", none, .seq #[] 0, #[]⟩
noncomputable def o12 : Obj := ⟨.none, none, .fields #[], #[]⟩
noncomputable def o13 : Obj := ⟨.type "code", none, .fields #[.str "<module>" 182, .str "<module>" 183, .str "/claim/cut.py" 184, .int 1 0, .int 0 0, .int 0 0, .int 0 0, .int 0 0, .ref 11, .bool false, .int 181 0, .ref 12, .none, .none, .none, .none, .int 185 0, .int 1 0, .str "/claim/cut.py" 186], #[]⟩
noncomputable def o14 : Obj := ⟨.type "frame", none, .plain, #[some (.ref 13), some (.ref 3), some (.ref 3), none, some (.str "__main__" 164), none, some (.ref 0)]⟩
noncomputable def life0 : Life := ⟨[], [], [], 0, [], [], false, #[], [], 0, false, false, false, 0, [2000, 10, 10], false, 0, true, [], [], 0, false⟩
noncomputable def objs0 (P : Params) : List Obj := [boot_o_0 P, boot_o_1 P, boot_o_2 P, boot_o_3 P, boot_o_4 P, boot_o_5 P, boot_o_6 P, boot_o_7 P, boot_o_8 P, boot_o_9 P, boot_o_10 P, o11, o12, o13, o14]
noncomputable def tree0 (P : Params) : BT :=
  .node (boot_o_0 P)
   (.node (boot_o_1 P) (.node (boot_o_3 P) (.node (boot_o_7 P) .nil .nil) (.node o11 .nil .nil)) (.node (boot_o_5 P) (.node (boot_o_9 P) .nil .nil) (.node o13 .nil .nil)))
   (.node (boot_o_2 P) (.node (boot_o_4 P) (.node (boot_o_8 P) .nil .nil) (.node o12 .nil .nil)) (.node (boot_o_6 P) (.node (boot_o_10 P) .nil .nil) (.node o14 .nil .nil)))
theorem tree0_list (P : Params) : (tree0 P).list 15 = objs0 P := by kernel_rfl
noncomputable def pos0 : Pos := ⟨0, 0, 0, 0⟩
noncomputable def posE : Pos := ⟨324, 0, 355, 80⟩
noncomputable def body0 : List Stmt := behindTheImports pw
noncomputable def cE : Code := .body body0 env0
noncomputable def S0 (w : World) (os : OsState) : SharedT := ⟨tree0 w.params, 15, life0, #[], ⟨0, 0, 0, 0⟩, 187, os⟩
theorem S0_abs (w : World) (os : OsState) : (S0 w os).abs = ⟨⟨(objs0 w.params).toArray, life0⟩, #[], ⟨0, 0, 0, 0⟩, 187, os⟩ := by
  unfold S0 SharedT.abs absHeap
  dsimp only
  rw [tree0_list]
noncomputable abbrev H : Hook := kHook K as0 (fun _ => by kernel_rfl)
noncomputable abbrev B0 : List PySem.Frame := [topFrame pos0]
noncomputable abbrev Xt (s : Shared) : Bool := xlAt q0 [] s && recOk (RowW.records rw_nt0568_01.row.toRowW) s
theorem open_ : ∀ w : World, (fencedOpening treeTable pw w 5000).map (fun s => (s.heap, s.gens, s.drawn, s.toks)) = some (boot_heap w.params, Array.mk [], boot_drawn, boot_toks) :=
  boot_open (by kernel_rfl) (by decide) (fun s => by kernel_rfl)
theorem size : ∀ w : World, ((boot_heap w.params).isNs mainGlobals && (Array.mk [] : Array GenState).size == 0, (boot_heap w.params).objs.size, (boot_heap w.params).nsMap mainGlobals "__annotations__") = (true, 11, some (.ref 6)) := by
  intro w
  kernel_rfl
theorem pre : ∀ (w : World) (os : OsState), topGo treeTable pw w 11 (some (.ref 6)) 12 ⟨boot_heap w.params, Array.mk [], boot_drawn, boot_toks, os⟩ (topStub pw) = some (⟨⟨(objs0 w.params).toArray, life0⟩, #[], ⟨0, 0, 0, 0⟩, 187, os⟩, ⟨denote treeTable cE, cE, pos0, B0⟩) := by
  intro w os
  rw [PySem.W.Fast.te15667345088766844465, PySem.W.Fast.te14364793385576792824, PySem.W.Fast.te11892475500146522536]
  kernel_rfl
theorem block (w : World) : ∀ s : Shared, segRun treeTable pw w 11 (some (.ref 6)) 1 1 s (blockOf body0 env0 cE pos0 B0) = some (.next, s, cE, pos0) := by
  intro s
  kernel_rfl
theorem fin (w : World) : ∀ s : Shared, topRun treeTable pw w 11 (some (.ref 6)) 2 s ⟨doneF .next, cE, posE, B0⟩ = some s := by
  rintro ⟨h, g, d, t, os⟩
  kernel_rfl
noncomputable def treeF (P : Params) : BT := (.node (boot_o_0 P) (.node (boot_o_1 P) (.node (x3 P) (.node (boot_o_7 P) (.node (x15 P) (.node (x31 P) (.node (x63 P) (.node (x127 P) (.node (x255 P) (.node (x511 P) .nil .nil) .nil) (.node (x383 P) .nil .nil)) (.node (x191 P) (.node (x319 P) .nil .nil) (.node (x447 P) .nil .nil))) (.node (x95 P) (.node (x159 P) (.node (x287 P) .nil .nil) (.node (x415 P) .nil .nil)) (.node (x223 P) (.node (x351 P) .nil .nil) (.node (x479 P) .nil .nil)))) (.node (x47 P) (.node (x79 P) (.node (x143 P) (.node (x271 P) (.node (x527 P) .nil .nil) .nil) (.node (x399 P) .nil .nil)) (.node (x207 P) (.node (x335 P) .nil .nil) (.node (x463 P) .nil .nil))) (.node (x111 P) (.node (x175 P) (.node (x303 P) .nil .nil) (.node (x431 P) .nil .nil)) (.node (x239 P) (.node (x367 P) .nil .nil) (.node (x495 P) .nil .nil))))) (.node (x23 P) (.node (x39 P) (.node (x71 P) (.node (x135 P) (.node (x263 P) (.node (x519 P) .nil .nil) .nil) (.node (x391 P) .nil .nil)) (.node (x199 P) (.node (x327 P) .nil .nil) (.node (x455 P) .nil .nil))) (.node (x103 P) (.node (x167 P) (.node (x295 P) .nil .nil) (.node (x423 P) .nil .nil)) (.node (x231 P) (.node (x359 P) .nil .nil) (.node (x487 P) .nil .nil)))) (.node (x55 P) (.node (x87 P) (.node (x151 P) (.node (x279 P) .nil .nil) (.node (x407 P) .nil .nil)) (.node (x215 P) (.node (x343 P) .nil .nil) (.node (x471 P) .nil .nil))) (.node (x119 P) (.node (x183 P) (.node (x311 P) .nil .nil) (.node (x439 P) .nil .nil)) (.node (x247 P) (.node (x375 P) .nil .nil) (.node (x503 P) .nil .nil)))))) (.node (x11 P) (.node (x19 P) (.node (x35 P) (.node (x67 P) (.node (x131 P) (.node (x259 P) (.node (x515 P) .nil .nil) .nil) (.node (x387 P) .nil .nil)) (.node (x195 P) (.node (x323 P) .nil .nil) (.node (x451 P) .nil .nil))) (.node (x99 P) (.node (x163 P) (.node (x291 P) .nil .nil) (.node (x419 P) .nil .nil)) (.node (x227 P) (.node (x355 P) .nil .nil) (.node (x483 P) .nil .nil)))) (.node (x51 P) (.node (x83 P) (.node (x147 P) (.node (x275 P) .nil .nil) (.node (x403 P) .nil .nil)) (.node (x211 P) (.node (x339 P) .nil .nil) (.node (x467 P) .nil .nil))) (.node (x115 P) (.node (x179 P) (.node (x307 P) .nil .nil) (.node (x435 P) .nil .nil)) (.node (x243 P) (.node (x371 P) .nil .nil) (.node (x499 P) .nil .nil))))) (.node (x27 P) (.node (x43 P) (.node (x75 P) (.node (x139 P) (.node (x267 P) (.node (x523 P) .nil .nil) .nil) (.node (x395 P) .nil .nil)) (.node (x203 P) (.node (x331 P) .nil .nil) (.node (x459 P) .nil .nil))) (.node (x107 P) (.node (x171 P) (.node (x299 P) .nil .nil) (.node (x427 P) .nil .nil)) (.node (x235 P) (.node (x363 P) .nil .nil) (.node (x491 P) .nil .nil)))) (.node (x59 P) (.node (x91 P) (.node (x155 P) (.node (x283 P) .nil .nil) (.node (x411 P) .nil .nil)) (.node (x219 P) (.node (x347 P) .nil .nil) (.node (x475 P) .nil .nil))) (.node (x123 P) (.node (x187 P) (.node (x315 P) .nil .nil) (.node (x443 P) .nil .nil)) (.node (x251 P) (.node (x379 P) .nil .nil) (.node (x507 P) .nil .nil))))))) (.node (boot_o_5 P) (.node (boot_o_9 P) (.node (x17 P) (.node (x33 P) (.node (x65 P) (.node (x129 P) (.node (x257 P) (.node (x513 P) .nil .nil) .nil) (.node (x385 P) .nil .nil)) (.node (x193 P) (.node (x321 P) .nil .nil) (.node (x449 P) .nil .nil))) (.node (x97 P) (.node (x161 P) (.node (x289 P) .nil .nil) (.node (x417 P) .nil .nil)) (.node (x225 P) (.node (x353 P) .nil .nil) (.node (x481 P) .nil .nil)))) (.node (x49 P) (.node (x81 P) (.node (x145 P) (.node (x273 P) (.node (x529 P) .nil .nil) .nil) (.node (x401 P) .nil .nil)) (.node (x209 P) (.node (x337 P) .nil .nil) (.node (x465 P) .nil .nil))) (.node (x113 P) (.node (x177 P) (.node (x305 P) .nil .nil) (.node (x433 P) .nil .nil)) (.node (x241 P) (.node (x369 P) .nil .nil) (.node (x497 P) .nil .nil))))) (.node (x25 P) (.node (x41 P) (.node (x73 P) (.node (x137 P) (.node (x265 P) (.node (x521 P) .nil .nil) .nil) (.node (x393 P) .nil .nil)) (.node (x201 P) (.node (x329 P) .nil .nil) (.node (x457 P) .nil .nil))) (.node (x105 P) (.node (x169 P) (.node (x297 P) .nil .nil) (.node (x425 P) .nil .nil)) (.node (x233 P) (.node (x361 P) .nil .nil) (.node (x489 P) .nil .nil)))) (.node (x57 P) (.node (x89 P) (.node (x153 P) (.node (x281 P) .nil .nil) (.node (x409 P) .nil .nil)) (.node (x217 P) (.node (x345 P) .nil .nil) (.node (x473 P) .nil .nil))) (.node (x121 P) (.node (x185 P) (.node (x313 P) .nil .nil) (.node (x441 P) .nil .nil)) (.node (x249 P) (.node (x377 P) .nil .nil) (.node (x505 P) .nil .nil)))))) (.node (x13 P) (.node (x21 P) (.node (x37 P) (.node (x69 P) (.node (x133 P) (.node (x261 P) (.node (x517 P) .nil .nil) .nil) (.node (x389 P) .nil .nil)) (.node (x197 P) (.node (x325 P) .nil .nil) (.node (x453 P) .nil .nil))) (.node (x101 P) (.node (x165 P) (.node (x293 P) .nil .nil) (.node (x421 P) .nil .nil)) (.node (x229 P) (.node (x357 P) .nil .nil) (.node (x485 P) .nil .nil)))) (.node (x53 P) (.node (x85 P) (.node (x149 P) (.node (x277 P) .nil .nil) (.node (x405 P) .nil .nil)) (.node (x213 P) (.node (x341 P) .nil .nil) (.node (x469 P) .nil .nil))) (.node (x117 P) (.node (x181 P) (.node (x309 P) .nil .nil) (.node (x437 P) .nil .nil)) (.node (x245 P) (.node (x373 P) .nil .nil) (.node (x501 P) .nil .nil))))) (.node (x29 P) (.node (x45 P) (.node (x77 P) (.node (x141 P) (.node (x269 P) (.node (x525 P) .nil .nil) .nil) (.node (x397 P) .nil .nil)) (.node (x205 P) (.node (x333 P) .nil .nil) (.node (x461 P) .nil .nil))) (.node (x109 P) (.node (x173 P) (.node (x301 P) .nil .nil) (.node (x429 P) .nil .nil)) (.node (x237 P) (.node (x365 P) .nil .nil) (.node (x493 P) .nil .nil)))) (.node (x61 P) (.node (x93 P) (.node (x157 P) (.node (x285 P) .nil .nil) (.node (x413 P) .nil .nil)) (.node (x221 P) (.node (x349 P) .nil .nil) (.node (x477 P) .nil .nil))) (.node (x125 P) (.node (x189 P) (.node (x317 P) .nil .nil) (.node (x445 P) .nil .nil)) (.node (x253 P) (.node (x381 P) .nil .nil) (.node (x509 P) .nil .nil)))))))) (.node (x2 P) (.node (boot_o_4 P) (.node (boot_o_8 P) (.node (x16 P) (.node (x32 P) (.node (x64 P) (.node (x128 P) (.node (x256 P) (.node (x512 P) .nil .nil) .nil) (.node (x384 P) .nil .nil)) (.node (x192 P) (.node (x320 P) .nil .nil) (.node (x448 P) .nil .nil))) (.node (x96 P) (.node (x160 P) (.node (x288 P) .nil .nil) (.node (x416 P) .nil .nil)) (.node (x224 P) (.node (x352 P) .nil .nil) (.node (x480 P) .nil .nil)))) (.node (x48 P) (.node (x80 P) (.node (x144 P) (.node (x272 P) (.node (x528 P) .nil .nil) .nil) (.node (x400 P) .nil .nil)) (.node (x208 P) (.node (x336 P) .nil .nil) (.node (x464 P) .nil .nil))) (.node (x112 P) (.node (x176 P) (.node (x304 P) .nil .nil) (.node (x432 P) .nil .nil)) (.node (x240 P) (.node (x368 P) .nil .nil) (.node (x496 P) .nil .nil))))) (.node (x24 P) (.node (x40 P) (.node (x72 P) (.node (x136 P) (.node (x264 P) (.node (x520 P) .nil .nil) .nil) (.node (x392 P) .nil .nil)) (.node (x200 P) (.node (x328 P) .nil .nil) (.node (x456 P) .nil .nil))) (.node (x104 P) (.node (x168 P) (.node (x296 P) .nil .nil) (.node (x424 P) .nil .nil)) (.node (x232 P) (.node (x360 P) .nil .nil) (.node (x488 P) .nil .nil)))) (.node (x56 P) (.node (x88 P) (.node (x152 P) (.node (x280 P) .nil .nil) (.node (x408 P) .nil .nil)) (.node (x216 P) (.node (x344 P) .nil .nil) (.node (x472 P) .nil .nil))) (.node (x120 P) (.node (x184 P) (.node (x312 P) .nil .nil) (.node (x440 P) .nil .nil)) (.node (x248 P) (.node (x376 P) .nil .nil) (.node (x504 P) .nil .nil)))))) (.node (x12 P) (.node (x20 P) (.node (x36 P) (.node (x68 P) (.node (x132 P) (.node (x260 P) (.node (x516 P) .nil .nil) .nil) (.node (x388 P) .nil .nil)) (.node (x196 P) (.node (x324 P) .nil .nil) (.node (x452 P) .nil .nil))) (.node (x100 P) (.node (x164 P) (.node (x292 P) .nil .nil) (.node (x420 P) .nil .nil)) (.node (x228 P) (.node (x356 P) .nil .nil) (.node (x484 P) .nil .nil)))) (.node (x52 P) (.node (x84 P) (.node (x148 P) (.node (x276 P) .nil .nil) (.node (x404 P) .nil .nil)) (.node (x212 P) (.node (x340 P) .nil .nil) (.node (x468 P) .nil .nil))) (.node (x116 P) (.node (x180 P) (.node (x308 P) .nil .nil) (.node (x436 P) .nil .nil)) (.node (x244 P) (.node (x372 P) .nil .nil) (.node (x500 P) .nil .nil))))) (.node (x28 P) (.node (x44 P) (.node (x76 P) (.node (x140 P) (.node (x268 P) (.node (x524 P) .nil .nil) .nil) (.node (x396 P) .nil .nil)) (.node (x204 P) (.node (x332 P) .nil .nil) (.node (x460 P) .nil .nil))) (.node (x108 P) (.node (x172 P) (.node (x300 P) .nil .nil) (.node (x428 P) .nil .nil)) (.node (x236 P) (.node (x364 P) .nil .nil) (.node (x492 P) .nil .nil)))) (.node (x60 P) (.node (x92 P) (.node (x156 P) (.node (x284 P) .nil .nil) (.node (x412 P) .nil .nil)) (.node (x220 P) (.node (x348 P) .nil .nil) (.node (x476 P) .nil .nil))) (.node (x124 P) (.node (x188 P) (.node (x316 P) .nil .nil) (.node (x444 P) .nil .nil)) (.node (x252 P) (.node (x380 P) .nil .nil) (.node (x508 P) .nil .nil))))))) (.node (boot_o_6 P) (.node (boot_o_10 P) (.node (x18 P) (.node (x34 P) (.node (x66 P) (.node (x130 P) (.node (x258 P) (.node (x514 P) .nil .nil) .nil) (.node (x386 P) .nil .nil)) (.node (x194 P) (.node (x322 P) .nil .nil) (.node (x450 P) .nil .nil))) (.node (x98 P) (.node (x162 P) (.node (x290 P) .nil .nil) (.node (x418 P) .nil .nil)) (.node (x226 P) (.node (x354 P) .nil .nil) (.node (x482 P) .nil .nil)))) (.node (x50 P) (.node (x82 P) (.node (x146 P) (.node (x274 P) .nil .nil) (.node (x402 P) .nil .nil)) (.node (x210 P) (.node (x338 P) .nil .nil) (.node (x466 P) .nil .nil))) (.node (x114 P) (.node (x178 P) (.node (x306 P) .nil .nil) (.node (x434 P) .nil .nil)) (.node (x242 P) (.node (x370 P) .nil .nil) (.node (x498 P) .nil .nil))))) (.node (x26 P) (.node (x42 P) (.node (x74 P) (.node (x138 P) (.node (x266 P) (.node (x522 P) .nil .nil) .nil) (.node (x394 P) .nil .nil)) (.node (x202 P) (.node (x330 P) .nil .nil) (.node (x458 P) .nil .nil))) (.node (x106 P) (.node (x170 P) (.node (x298 P) .nil .nil) (.node (x426 P) .nil .nil)) (.node (x234 P) (.node (x362 P) .nil .nil) (.node (x490 P) .nil .nil)))) (.node (x58 P) (.node (x90 P) (.node (x154 P) (.node (x282 P) .nil .nil) (.node (x410 P) .nil .nil)) (.node (x218 P) (.node (x346 P) .nil .nil) (.node (x474 P) .nil .nil))) (.node (x122 P) (.node (x186 P) (.node (x314 P) .nil .nil) (.node (x442 P) .nil .nil)) (.node (x250 P) (.node (x378 P) .nil .nil) (.node (x506 P) .nil .nil)))))) (.node (x14 P) (.node (x22 P) (.node (x38 P) (.node (x70 P) (.node (x134 P) (.node (x262 P) (.node (x518 P) .nil .nil) .nil) (.node (x390 P) .nil .nil)) (.node (x198 P) (.node (x326 P) .nil .nil) (.node (x454 P) .nil .nil))) (.node (x102 P) (.node (x166 P) (.node (x294 P) .nil .nil) (.node (x422 P) .nil .nil)) (.node (x230 P) (.node (x358 P) .nil .nil) (.node (x486 P) .nil .nil)))) (.node (x54 P) (.node (x86 P) (.node (x150 P) (.node (x278 P) .nil .nil) (.node (x406 P) .nil .nil)) (.node (x214 P) (.node (x342 P) .nil .nil) (.node (x470 P) .nil .nil))) (.node (x118 P) (.node (x182 P) (.node (x310 P) .nil .nil) (.node (x438 P) .nil .nil)) (.node (x246 P) (.node (x374 P) .nil .nil) (.node (x502 P) .nil .nil))))) (.node (x30 P) (.node (x46 P) (.node (x78 P) (.node (x142 P) (.node (x270 P) (.node (x526 P) .nil .nil) .nil) (.node (x398 P) .nil .nil)) (.node (x206 P) (.node (x334 P) .nil .nil) (.node (x462 P) .nil .nil))) (.node (x110 P) (.node (x174 P) (.node (x302 P) .nil .nil) (.node (x430 P) .nil .nil)) (.node (x238 P) (.node (x366 P) .nil .nil) (.node (x494 P) .nil .nil)))) (.node (x62 P) (.node (x94 P) (.node (x158 P) (.node (x286 P) .nil .nil) (.node (x414 P) .nil .nil)) (.node (x222 P) (.node (x350 P) .nil .nil) (.node (x478 P) .nil .nil))) (.node (x126 P) (.node (x190 P) (.node (x318 P) .nil .nil) (.node (x446 P) .nil .nil)) (.node (x254 P) (.node (x382 P) .nil .nil) (.node (x510 P) .nil .nil)))))))))
noncomputable def listF (P : Params) : List Obj := [boot_o_0 P, boot_o_1 P, x2 P, x3 P, boot_o_4 P, boot_o_5 P, boot_o_6 P, boot_o_7 P, boot_o_8 P, boot_o_9 P, boot_o_10 P, x11 P, x12 P, x13 P, x14 P, x15 P, x16 P, x17 P, x18 P, x19 P, x20 P, x21 P, x22 P, x23 P, x24 P, x25 P, x26 P, x27 P, x28 P, x29 P, x30 P, x31 P, x32 P, x33 P, x34 P, x35 P, x36 P, x37 P, x38 P, x39 P, x40 P, x41 P, x42 P, x43 P, x44 P, x45 P, x46 P, x47 P, x48 P, x49 P, x50 P, x51 P, x52 P, x53 P, x54 P, x55 P, x56 P, x57 P, x58 P, x59 P, x60 P, x61 P, x62 P, x63 P, x64 P, x65 P, x66 P, x67 P, x68 P, x69 P, x70 P, x71 P, x72 P, x73 P, x74 P, x75 P, x76 P, x77 P, x78 P, x79 P, x80 P, x81 P, x82 P, x83 P, x84 P, x85 P, x86 P, x87 P, x88 P, x89 P, x90 P, x91 P, x92 P, x93 P, x94 P, x95 P, x96 P, x97 P, x98 P, x99 P, x100 P, x101 P, x102 P, x103 P, x104 P, x105 P, x106 P, x107 P, x108 P, x109 P, x110 P, x111 P, x112 P, x113 P, x114 P, x115 P, x116 P, x117 P, x118 P, x119 P, x120 P, x121 P, x122 P, x123 P, x124 P, x125 P, x126 P, x127 P, x128 P, x129 P, x130 P, x131 P, x132 P, x133 P, x134 P, x135 P, x136 P, x137 P, x138 P, x139 P, x140 P, x141 P, x142 P, x143 P, x144 P, x145 P, x146 P, x147 P, x148 P, x149 P, x150 P, x151 P, x152 P, x153 P, x154 P, x155 P, x156 P, x157 P, x158 P, x159 P, x160 P, x161 P, x162 P, x163 P, x164 P, x165 P, x166 P, x167 P, x168 P, x169 P, x170 P, x171 P, x172 P, x173 P, x174 P, x175 P, x176 P, x177 P, x178 P, x179 P, x180 P, x181 P, x182 P, x183 P, x184 P, x185 P, x186 P, x187 P, x188 P, x189 P, x190 P, x191 P, x192 P, x193 P, x194 P, x195 P, x196 P, x197 P, x198 P, x199 P, x200 P, x201 P, x202 P, x203 P, x204 P, x205 P, x206 P, x207 P, x208 P, x209 P, x210 P, x211 P, x212 P, x213 P, x214 P, x215 P, x216 P, x217 P, x218 P, x219 P, x220 P, x221 P, x222 P, x223 P, x224 P, x225 P, x226 P, x227 P, x228 P, x229 P, x230 P, x231 P, x232 P, x233 P, x234 P, x235 P, x236 P, x237 P, x238 P, x239 P, x240 P, x241 P, x242 P, x243 P, x244 P, x245 P, x246 P, x247 P, x248 P, x249 P, x250 P, x251 P, x252 P, x253 P, x254 P, x255 P, x256 P, x257 P, x258 P, x259 P, x260 P, x261 P, x262 P, x263 P, x264 P, x265 P, x266 P, x267 P, x268 P, x269 P, x270 P, x271 P, x272 P, x273 P, x274 P, x275 P, x276 P, x277 P, x278 P, x279 P, x280 P, x281 P, x282 P, x283 P, x284 P, x285 P, x286 P, x287 P, x288 P, x289 P, x290 P, x291 P, x292 P, x293 P, x294 P, x295 P, x296 P, x297 P, x298 P, x299 P, x300 P, x301 P, x302 P, x303 P, x304 P, x305 P, x306 P, x307 P, x308 P, x309 P, x310 P, x311 P, x312 P, x313 P, x314 P, x315 P, x316 P, x317 P, x318 P, x319 P, x320 P, x321 P, x322 P, x323 P, x324 P, x325 P, x326 P, x327 P, x328 P, x329 P, x330 P, x331 P, x332 P, x333 P, x334 P, x335 P, x336 P, x337 P, x338 P, x339 P, x340 P, x341 P, x342 P, x343 P, x344 P, x345 P, x346 P, x347 P, x348 P, x349 P, x350 P, x351 P, x352 P, x353 P, x354 P, x355 P, x356 P, x357 P, x358 P, x359 P, x360 P, x361 P, x362 P, x363 P, x364 P, x365 P, x366 P, x367 P, x368 P, x369 P, x370 P, x371 P, x372 P, x373 P, x374 P, x375 P, x376 P, x377 P, x378 P, x379 P, x380 P, x381 P, x382 P, x383 P, x384 P, x385 P, x386 P, x387 P, x388 P, x389 P, x390 P, x391 P, x392 P, x393 P, x394 P, x395 P, x396 P, x397 P, x398 P, x399 P, x400 P, x401 P, x402 P, x403 P, x404 P, x405 P, x406 P, x407 P, x408 P, x409 P, x410 P, x411 P, x412 P, x413 P, x414 P, x415 P, x416 P, x417 P, x418 P, x419 P, x420 P, x421 P, x422 P, x423 P, x424 P, x425 P, x426 P, x427 P, x428 P, x429 P, x430 P, x431 P, x432 P, x433 P, x434 P, x435 P, x436 P, x437 P, x438 P, x439 P, x440 P, x441 P, x442 P, x443 P, x444 P, x445 P, x446 P, x447 P, x448 P, x449 P, x450 P, x451 P, x452 P, x453 P, x454 P, x455 P, x456 P, x457 P, x458 P, x459 P, x460 P, x461 P, x462 P, x463 P, x464 P, x465 P, x466 P, x467 P, x468 P, x469 P, x470 P, x471 P, x472 P, x473 P, x474 P, x475 P, x476 P, x477 P, x478 P, x479 P, x480 P, x481 P, x482 P, x483 P, x484 P, x485 P, x486 P, x487 P, x488 P, x489 P, x490 P, x491 P, x492 P, x493 P, x494 P, x495 P, x496 P, x497 P, x498 P, x499 P, x500 P, x501 P, x502 P, x503 P, x504 P, x505 P, x506 P, x507 P, x508 P, x509 P, x510 P, x511 P, x512 P, x513 P, x514 P, x515 P, x516 P, x517 P, x518 P, x519 P, x520 P, x521 P, x522 P, x523 P, x524 P, x525 P, x526 P, x527 P, x528 P, x529 P]
theorem treeF_list (P : Params) : (treeF P).list 530 = listF P := by kernel_rfl
noncomputable def SF (w : World) (os : OsState) : SharedT := ⟨treeF w.params, 530, life0, #[], ⟨0, 0, 0, 0⟩, 927, os⟩
noncomputable def HF (P : Params) : Heap := ⟨(listF P).toArray, life0⟩
theorem SF_abs (w : World) (os : OsState) : (SF w os).abs = ⟨HF w.params, #[], ⟨0, 0, 0, 0⟩, 927, os⟩ := by
  unfold SF SharedT.abs absHeap HF
  dsimp only
  rw [treeF_list]
theorem run : ∀ (w : World) (os : OsState), segRunT treeTable pw w 11 (some (.ref 6)) 1 4700 (S0 w os) (piecesOf body0 env0 cE pos0 B0) = some (.next, SF w os, cE, posE) := by
  intro w os
  rw [PySem.W.Fast.te10110043849684766642, PySem.W.Fast.te14364793385576792824]
  kernel_rfl
theorem looks1 : ∀ (w : World) (os : OsState), (staticsOk (importedModules pw.main.body) (boot_heap w.params) (HF w.params) && namesBound pw (HF w.params) && gensDone ⟨HF w.params, #[], ⟨0, 0, 0, 0⟩, 927, os⟩ && laidKept (boot_heap w.params) (HF w.params)) = true := by
  intro w os
  rw [PySem.W.Fast.te5923862056798008813]
  kernel_rfl
theorem looks2 : ∀ (w : World) (os : OsState), openSeen q0 [] (importedModules pw.main.body) Xt true ⟨HF w.params, #[], ⟨0, 0, 0, 0⟩, 927, os⟩ = openGood q0 [] := by
  intro w os
  unfold Xt
  rw [PySem.W.Fast.te5923862056798008813, PySem.W.Fast.te4187177175401517315]
  kernel_rfl
theorem looks3 : ∀ (w : World), as0.map (HF w.params).get? = (K w.params).map fun p => some p.2 := by
  intro w
  kernel_rfl
theorem left_of {p q : Program} {loose : List Str} {Xt : Shared → Bool} {α : Type} {Yf : Shared → α} {Ya : World → α} {H₀ Ha H₁ : Params → Heap} {g₀ ga g₁ : Array GenState} {d₀ da d₁ : Drawn} {k₀ ka k₁ m₀ N n₁ n₂ n₃ n₄ : Nat} {ann : Option Value}
    {body : List Stmt} {env : Env} {c : Code} {pa pb : Pos} {q₀ : Pos} (hc : c = .body body env)
    (open_ : ∀ w : World, (fencedOpening treeTable p w N).map (fun s => (s.heap, s.gens, s.drawn, s.toks)) = some (H₀ w.params, g₀, d₀, k₀))
    (size : ∀ w : World, ((H₀ w.params).isNs mainGlobals && g₀.size == 0, (H₀ w.params).objs.size, (H₀ w.params).nsMap mainGlobals "__annotations__") = (true, m₀, ann))
    (pre : ∀ (w : World) (os : OsState), topGo treeTable p w m₀ ann n₁ ⟨H₀ w.params, g₀, d₀, k₀, os⟩ (topStub p) = some (⟨Ha w.params, ga, da, ka, os⟩, ⟨denote treeTable c, c, pa, [topFrame q₀]⟩))
    (block : ∀ (w : World) (s : Shared), segRun treeTable p w m₀ ann 1 n₂ s (blockOf body env c pa [topFrame q₀]) = some (.next, s, c, pa))
    (run : ∀ (w : World) (os : OsState), segRun treeTable p w m₀ ann 1 n₃ ⟨Ha w.params, ga, da, ka, os⟩ (piecesOf body env c pa [topFrame q₀]) = some (.next, ⟨H₁ w.params, g₁, d₁, k₁, os⟩, c, pb))
    (fin : ∀ (w : World) (s : Shared), topRun treeTable p w m₀ ann n₄ s ⟨doneF .next, c, pb, [topFrame q₀]⟩ = some s)
    (le : Nat.ble (n₁ + (n₂ + (n₃ + n₄))) N = true)
    (l1 : ∀ (w : World) (os : OsState), (staticsOk (importedModules p.main.body) (H₀ w.params) (H₁ w.params) && namesBound p (H₁ w.params) && gensDone ⟨H₁ w.params, g₁, d₁, k₁, os⟩ && laidKept (H₀ w.params) (H₁ w.params)) = true)
    (l2 : ∀ (w : World) (os : OsState), openSeen q loose (importedModules p.main.body) Xt true ⟨H₁ w.params, g₁, d₁, k₁, os⟩ = openGood q loose)
    (l3 : ∀ (w : World) (os : OsState), Yf ⟨H₁ w.params, g₁, d₁, k₁, os⟩ = Ya w) : LeftO p q loose Xt Yf Ya N := by
  subst hc
  refine LeftO.of_pieces (H₁ := H₁) (gs₁ := g₁) (d₁ := d₁) (k₁ := k₁) (M := n₁ + (n₂ + (n₃ + n₄))) open_ size (fun w os => ?_) le fun w => funext fun os => ?_
  · refine go_top (pre w os) (piece_block (block w _) ?_)
    have t := piece_app (rest := []) (run w os) (piece_nil (fin w _))
    rw [List.append_nil] at t
    exact t
  · exact Prod.ext (l1 w os) (Prod.ext (l2 w os) (l3 w os))
noncomputable def HA (P : Params) : Heap := ⟨(objs0 P).toArray, life0⟩
theorem pre' (w : World) (os : OsState) : topGo treeTable pw w 11 (some (.ref 6)) 12 ⟨boot_heap w.params, Array.mk [], boot_drawn, boot_toks, os⟩ (topStub pw) = some (⟨HA w.params, #[], ⟨0, 0, 0, 0⟩, 187, os⟩, ⟨denote treeTable cE, cE, pos0, [topFrame pos0]⟩) := pre w os
theorem run' (w : World) (os : OsState) : segRun treeTable pw w 11 (some (.ref 6)) 1 4700 ⟨HA w.params, #[], ⟨0, 0, 0, 0⟩, 187, os⟩ (piecesOf body0 env0 cE pos0 [topFrame pos0]) = some (.next, ⟨HF w.params, #[], ⟨0, 0, 0, 0⟩, 927, os⟩, cE, posE) := by
  have g := segRun_of (run w os)
  rw [SF_abs, S0_abs] at g
  exact g
theorem left : LeftO pw q0 [] Xt H.obs H.val 5000 :=
  left_of (Ha := HA) (ga := #[]) (da := ⟨0, 0, 0, 0⟩) (ka := 187) (n₁ := 12) (n₂ := 1) (n₃ := 4700) (n₄ := 2) (q := q0) (loose := []) (Xt := Xt) (Yf := H.obs) (Ya := H.val) (c := cE) rfl open_ size pre' block run' fin rfl looks1 looks2 fun w _ => looks3 w
end Top
end
section
open PySem PySem.W PySem.Calls PyProof.Rows PySem.Challenge
namespace Top

noncomputable abbrev WalkS (q : Program) (loose : List Str) (XP : (Str → Option Value) → Heap → Prop) (YP : World → Heap → Prop) (r : RowW) (d : DefRec) (kwd : List (Str × Expr)) : Prop :=
  ∀ (w : World) (s₀ s₁ : Shared) (mg mb : Str → Option Value), Ground q loose r.records XP w s₀ mg mb s₁.heap → YP w s₁.heap → ∀ (a : Addr) (o : Obj) (pm cd doc dV kV : Value), s₁.heap.get? a = some o →
    o.data = .func { docDef d.name d.params d.body d.scope pm cd doc with defaults := dV, kwdefaults := kV } → s₁.heap.CodeRec cd d.name → Dflts mg s₁.heap d.params kwd dV kV → mg d.name = some (.ref a) → s₁.gens = #[] →
    ∀ (args : List WData) (vals : List Value) (as : List Addr), r.claim.pre args = true → WData.layableAll args = true → ReadsAllW r.records (classAt s₀.heap) s₁.heap vals args as → WellAll w.params s₁.heap vals args → (∀ a ∈ as, (a == sysModules) = false) →
      Mine.wpS (model r.prog w) callerA (PySem.call (.ref a) vals) (fun v s' => GoodWG r.claim (classAt s₀.heap) (ExcName.means s₀.heap) args s₁ (.ok (.ret v)) s')
        (fun e s' => GoodWG r.claim (classAt s₀.heap) (ExcName.means s₀.heap) args s₁ (.error e) s') s₁

theorem openS {r : OpenRow} {q : Program} {loose : List Str} {Xt : Shared → Bool} {XP : (Str → Option Value) → Heap → Prop} {α : Type} {Yf : Shared → α} {Ya : World → α} {YP : World → Heap → Prop} {d : DefRec} {kwd : List (Str × Expr)} {N : Nat}
    (left : LeftO r.prog q loose Xt Yf Ya N) (hY : ∀ w s, Yf s = Ya w → YP w s.heap) (hYk : ∀ w h h', YP w h → (∀ b o, h.get? b = some o → h'.get? b = some o) → YP w h')
    (hX : ∀ s, Xt s = true → XP (s.heap.nsMap mainGlobals) s.heap) (hXk : ∀ mg h h', XP mg h → (∀ b o, h.get? b = some o → h'.get? b = some o) → XP mg h')
    (hdef : defOf q r.name = some (d, kwd)) (hp : r.prog.theDef r.name = some (d.params, d.body, d.scope)) (hk : kwWritten? d.params.kwonlyargs d.params.kw_defaults = some kwd) (hRf : ∀ s, Xt s = true → RecFacts r.records s.heap) (hwr : (!r.writes || r.records.isEmpty) = true)
    (k1 : r.wellSaid = true) (ok : (chainsOk q && opensWell r.prog && (frees r.toRowW && r.within.isEmpty)) = true) (hb : r.prog.bare) (hw : r.toRowW.promised)
    (call : WalkS q loose XP YP r.toRowW d kwd) : r.Holds := by
  obtain ⟨okA, okB⟩ := Bool.and_eq_true_iff.mp ok
  obtain ⟨hch, hopen⟩ := Bool.and_eq_true_iff.mp okA
  obtain ⟨hfr, hwin⟩ := Bool.and_eq_true_iff.mp okB
  obtain ⟨hsame, hu, ha, hap, hm⟩ := frees_parts hfr
  have hwi : r.toRowW.claim.within = [] := List.isEmpty_iff.mp hwin
  have hi := ident_freeW hu ha hap
  refine ⟨k1, hw, ⟨hb, hopen, by show r.makers.map _ = []; rw [hm]; rfl⟩, hw.witness, fun w => ?_⟩
  have both := left.behind (XP := fun mg h => XP mg h ∧ RecFacts r.records h) (fun s hs => ⟨hX s hs, hRf s hs⟩) hch w
  refine ⟨both.1, fun sA hA => ?_⟩
  obtain ⟨s₀, hf, hg0, s, hT, hz, hgens, hg, G00, y⟩ := both.2 sA hA
  have G0 : Ground q loose [] XP w s (s.heap.nsMap mainGlobals) (s.heap.nsMap builtinsNs) s.heap := ⟨G00.T, G00.B, G00.D, G00.TE, G00.TD, G00.W, G00.X.1, G00.cls, G00.has, G00.apart, G00.once, G00.K⟩
  have RF := G00.X.2
  have G : Ground q loose r.records XP w s _ _ s.heap := RF.ground G0
  refine ⟨s₀, hf, hg0, s, hT, fun n hn => ?_, RF.1, RF.2.1, ?_⟩
  · obtain rfl : n = r.name := by split at hn <;> simp_all
    exact pinned_of_view hg G0 hdef hp hk
  · have hgs : s.gens = #[] := Array.eq_empty_of_size_eq_zero (beq_iff_eq.mp hgens)
    refine Mine.callFromS (c := r.toRowW.claim) (tree := fun vs => do match ← nsGet mainNs r.name with
      | some f => do ret (← PySem.call f vs)
      | none => unsupported "claim.caller:no-such-global") hz hgs fun args hpre hlay ord hord => ?_
    obtain ⟨⟨vs, s₁⟩, hlaid⟩ := Option.isSome_iff_exists.mp (layAllW_isSome (P := w.params) (ord := ord) G.has args r.args s (pre_splitW hpre).1)
    have keeps := layAllW_keeps _ _ _ hlaid
    have hal := layAllW_rest _ _ _ hlaid
    obtain ⟨as, hrd, hin, hold⟩ := reads_layAllW hord _ _ _ hlaid hlay s₁.heap (fun _ _ e => e)
    have L : Laid r.records w s s₁ args vs as := ⟨⟨ord, hord, hlaid⟩, hrd, hin, hold, keeps, hal.1.trans hgs, hal.2.2.1⟩
    have G₁ := G.keeps hXk keeps
    obtain ⟨a, o, pm, cd, doc, dV, kV, h1, h2, h3, h4, h5⟩ := G₁.fn hdef
    have hc := call w s s₁ _ _ G₁ (hYk _ _ _ (hY w s y) keeps) a o pm cd doc dV kV h2 h3 h4 h5 (defOf_name hdef ▸ h1) L.gens args vs as hpre hlay L.reads L.well (L.low G.low)
    have fin : ∀ rr s', GoodWG r.toRowW.claim (classAt s.heap) (ExcName.means s.heap) args s₁ rr s' → r.toRowW.claim.Ends s args vs s₁ rr s' ∧ s'.os = s.os ∧ AllBare s'.gens ∧ (r.writes = true → namesKept r.prog r.keeps s.heap s'.heap ∧ ∀ x ∈ r.records, ∀ a, classAt s.heap x.1 = some a → recordClass s'.heap a x.1 (x.2.map (·.1)) = true) := fun rr s' g =>
      have z := g.laid (c := r.toRowW.claim) hsame hwi hi L
      ⟨z.1, z.2.1, z.2.2, fun q' => ⟨namesKept_of hT hg r.keeps keeps g.2.1.old, noTable hwr q'⟩⟩
    refine ⟨vs, s₁, hlaid, ?_⟩
    refine Mine.wpS.bindA (wpAny_nsGet G₁.T.g ?_)
    rw [h1]
    exact Mine.wpS.bind (Mine.wpS.mono hc (fun v s' g => Mine.wpS.pure ⟨_, rfl, fin _ _ g⟩) fun e s' g => fin _ _ g)


theorem said0 : rw_nt0568_01.wellSaid = true := by
  rw [PySem.W.Fast.te9446332074065402090]
  kernel_rfl
theorem holdsS (call : ∀ d kwd, defOf q0 (Str.ofString "law") = some (d, kwd) → WalkS q0 [] (XL q0 []) H.says rw_nt0568_01.row.toRowW d kwd) : rw_nt0568_01.Holds := by
  w_on
  refine holds_law said0 fun said => ?_
  refine openS (q := q0) (loose := []) (Xt := Xt) (XP := XL q0 []) (Yf := H.obs) (Ya := H.val) (YP := H.says) (N := 5000) left H.of H.keeps (fun s e => xl_of s (Bool.and_eq_true_iff.mp e).1) XL.keeps (by rfl) (by rfl) (by rfl) (fun s e => recFacts_of (Bool.and_eq_true_iff.mp e).2) (by rfl) (by first | assumption | decide +kernel) (by decide +kernel) ⟨rfl, rfl, rfl, rfl, rfl, by decide +kernel⟩ ?hw (call _ _ rfl)
  case hw => w_witness2
end Top
end
section
open PySem PySem.W PyProof.Rows PySem.Calls PySem.Spec
namespace Mine
section

noncomputable abbrev Led := List (Addr × Obj)
noncomputable abbrev pr : Program := Top.pw
noncomputable abbrev less (h : Heap) (l : Led) : Heap := hideAll h (l.map (·.1))

structure Site (w : World) (dd : Nat) (muts ro : Led) (p : Program) (loose : List Str) (mean : ExcName → Option Value) (mg mb : Str → Option Value) (dp un : Nat) (cs : Scope) (outer : List Env)
    (A₀ : Around) (base h₀ : Heap) (L : Addr) (m : Str → Option Value) (s : Shared) : Prop where
  B : Below A₀ base outer h₀
  F : Fr h₀ L s.heap m
  X : (Top.K w.params).In h₀
  N : News h₀ L s.heap muts
  T : Top p loose mean mg mb h₀
  hk : cs.kind = .function
  h1 : dp + dd < recursionLimit
  h2 : un + 8 * dd < cLine
  nd : (muts.map (·.1)).Nodup
  ro : ∀ q ∈ ro, (less s.heap muts).get? q.1 = some q.2
noncomputable def After (g : Heap) (s : Shared) (k : Value → Led → Prop) (v : Value) (s' : Shared) : Prop :=
  ∃ h' tk' l, s' = { s with heap := h', toks := tk' } ∧ (∀ b o, g.get? b = some o → h'.get? b = some o) ∧ (∀ q ∈ l, h'.get? q.1 = some q.2 ∧ g.get? q.1 = none) ∧ (l.map (·.1)).Nodup ∧ k v l
noncomputable def SpecS (w : World) (f : Addr) (args : List Value) (dd : Nat) (muts ro : Led) (k : Value → Led → Prop) : Prop :=
  ∀ (p : Program) (loose : List Str) (mean : ExcName → Option Value) (mg mb : Str → Option Value) (dp un : Nat) (gd : Option (List Code)) (cn : Str) (cs : Scope) (a : Addr) (ccd : Value) (cl : List (Str × Addr)) (outer : List Env)
    (A₀ : Around) (base h₀ : Heap) (L : Addr) (m : Str → Option Value) (s : Shared),
    Site w dd muts ro p loose mean mg mb dp un cs outer A₀ base h₀ L m s →
    codeS (model pr w) (ktrTop dp un gd cn cs L a ccd cl outer) (.call (.ref f) ⟨args, []⟩) (fun r s' => match r with | .ok (.ret v) => After (less s.heap muts) s k v s' | _ => False) s

section
variable {w : World} {f : Addr} {args : List Value} {dd : Nat} {muts ro : Led} {k : Value → Led → Prop}
structure Inside (w : World) (dd : Nat) (muts ro : Led) (p : Program) (loose : List Str) (mean : ExcName → Option Value) (mg mb : Str → Option Value) (dp un : Nat) (gd : Option (List Code)) (cn : Str) (cs : Scope) (a : Addr) (ccd : Value) (cl : List (Str × Addr)) (outer : List Env)
    (base g h₁ : Heap) (L L' : Addr) (m : Str → Option Value) : Prop where
  B : Below (ktrTop dp un gd cn cs L a ccd cl outer) base (envX cn cs L a ccd cl :: outer) g
  F : Fr g L' h₁ m
  X : (Top.K w.params).In g
  N : News g L' h₁ muts
  T : Top p loose mean mg mb g
  hk : cs.kind = .function
  h1 : dp + dd < recursionLimit
  h2 : un + 8 * dd < cLine
  nd : (muts.map (·.1)).Nodup
  ro : ∀ q ∈ ro, g.get? q.1 = some q.2
theorem inside_of {p : Program} {loose : List Str} {mean : ExcName → Option Value} {mg mb : Str → Option Value} {dp un : Nat} {gd : Option (List Code)} {cn : Str} {cs : Scope} {a : Addr} {ccd : Value} {cl : List (Str × Addr)} {outer : List Env}
    {A₀ : Around} {base h₀ h₁ : Heap} {L L' : Addr} {m binds : Str → Option Value} {s : Shared} (S : Site w dd muts ro p loose mean mg mb dp un cs outer A₀ base h₀ L m s)
    (hns : h₁.Ns L' binds) (hk₁ : ∀ b o, s.heap.get? b = some o → h₁.get? b = some o) (hL : s.heap.objs.size ≤ L') :
    Inside w dd muts ro p loose mean mg mb dp un gd cn cs a ccd cl outer base (less s.heap muts) h₁ L L' binds := by
  obtain ⟨B, F, X, N, T, hck, hd1, hu1, nd, hro⟩ := S
  obtain ⟨FG, BG, st, -⟩ := groundX (R := fun _ _ => True) (A := ktrTop dp un gd cn cs L a ccd cl outer) (env := envX cn cs L a ccd cl) B F N rfl rfl hck
  exact ⟨BG, ⟨hns, fun b o e => hk₁ b o (of_hideAll _ e), by rw [hideAll_size]; exact hL⟩, X.keeps st, fun q hq => ⟨hk₁ _ _ (N q hq).1, Nat.ne_of_lt (Nat.lt_of_lt_of_le (Heap.lt_size (N q hq).1) hL), hideAll_none _ (List.mem_map_of_mem hq)⟩, T.keeps st, hck, hd1, hu1, nd, hro⟩
theorem SpecS.of {name qual : Str} {params₀ params : Arguments} {body₀ body : List Stmt} {scope₀ scope : Scope} {dV kV doc pm cdv ct oc : Value} {an od : Option Addr} {osl : Array (Option Value)} {names : List Str} {mm : Str → Option Value}
    (ho : List.lookup f (Top.K w.params) = some ⟨oc, od, .func (fnOf name qual params₀ body₀ scope₀ dV kV doc pm an cdv ct), osl⟩) (hcd : codeIn (Top.K w.params) cdv qual = true) (hp : params₀ = params) (hb : body₀ = body) (hs : scope₀ = scope)
    (hmm : ∀ y, (names.zip args).reverse.lookup y = mm y)
    (hbind : bindArgs (fnOf name qual params body scope dV kV doc pm an cdv ct) ⟨args, []⟩ = pure (names.zip args)) (hloc : ∀ y ∈ names.zip args, scope.names.lookup y.1 = some .local)
    (hcell : ∀ x ∈ scope.names, x.2 ≠ .cell) (hco : scope.isCoroutine = false) (hgen : scope.isGenerator = false) (hk : scope.kind = .function) (hdd : 1 ≤ dd)
    (go : ∀ (p : Program) (loose : List Str) (mean : ExcName → Option Value) (mg mb : Str → Option Value) (dp un : Nat) (gd : Option (List Code)) (cn : Str) (cs : Scope) (a : Addr) (ccd : Value) (cl : List (Str × Addr)) (outer : List Env)
      (base g h₁ : Heap) (L L' : Addr) (s : Shared) (tk : Nat),
      Inside w dd muts ro p loose mean mg mb dp un gd cn cs a ccd cl outer base g h₁ L L' mm →
      wpS (model pr w) ((ktrTop dp un gd cn cs L a ccd cl outer).deeper (envX qual scope L' f cdv [])) (execs body (envX qual scope L' f cdv []))
        (fun fl s' => After g s k (match fl with | .ret v => v | _ => .none) s') NoE { s with heap := h₁, toks := tk }) :
    SpecS w f args dd muts ro k := by
  subst hp hb hs
  obtain rfl := funext hmm
  intro p loose mean mg mb dp un gd cn cs a ccd cl outer A₀ base h₀ L m s S
  have X := S.X; have F := S.F; have T := S.T; have hd1 := S.h1
  refine codeS.call_def (fd := fnOf name qual params₀ body₀ scope₀ dV kV doc pm an cdv ct) (body := body₀) (binds := names.zip args) (by show dp < _; k_extra "o") ((X.keeps F.keep) _ _ ho) rfl (T.nolimit.keeps F.keep) (codeRec_of (X.keeps F.keep) hcd) rfl (BindsTo.of_eq hbind) hcell hloc (fun h₁ hns hk₁ => ?_) hco hgen hk
  exact go p loose mean mg mb dp un gd cn cs a ccd cl outer base _ h₁ L s.heap.objs.size s (s.toks + (names.zip args).length) (inside_of S hns hk₁ (Nat.le_refl _))
theorem codeS.call_defC {prog : Program} {A : Around} {s : Shared} {R : Result → Shared → Prop} {a : Addr} {o : Obj} {fd : FuncData} {body : List Stmt} {vals : List Value} {binds : List (Str × Value)}
    (hroom : A.depth < recursionLimit) (ho : s.heap.get? a = some o) (hdata : o.data = .func fd) (hlim : s.heap.NoLimit) (hcd : s.heap.CodeRec fd.code fd.qualname)
    (hbody : fd.body = .stmts body) (hbind : bindArgs fd ⟨vals, []⟩ = pure binds) (hclo : fd.closure = [])
    (hkind : ∀ x ∈ binds, fd.scope.names.lookup x.1 = some .local ∨ (fd.scope.names.lookup x.1 = some .cell ∧ ((cellsFrom (s.heap.objs.size + 1) fd.scope.names []).lookup x.1).isSome = true))
    (h : ∀ s₁, InCallC s (callEnvC fd s.heap.objs.size a).locals (bindL (callEnvC fd s.heap.objs.size a).kindOf binds fun _ => none) (callEnvC fd s.heap.objs.size a).cells
        (bindC (callEnvC fd s.heap.objs.size a).kindOf binds fun _ => none) s₁ →
      wpS (model prog w) (A.deeper (callEnvC fd s.heap.objs.size a)) (execs body (callEnvC fd s.heap.objs.size a)) (fun f s' => R (.ok (.ret (match f with | .ret v => v | _ => .none))) s') NoE s₁)
    (hco : fd.scope.isCoroutine = false := by rfl) (hgen : fd.scope.isGenerator = false := by rfl) (hk : fd.scope.kind = .function := by rfl) :
    codeS (model prog w) A (.call (.ref a) ⟨vals, []⟩) R s := by
  refine codeS.tree (wpS.lift ?_)
  show wpAny _ A.in1 (callAny (.ref a) ⟨vals, []⟩) _ _ s
  refine wpAny_bind (m := load a) (wpAny_load ho ?_)
  obtain ⟨c, oc, vs, tq, hc, hoc, hdc, hq⟩ := hcd
  rw [hdata]
  show wpAny _ _ (callFunction a fd _) _ _ _
  delta callFunction
  rw [hco, hgen, hbody, hc]
  refine wpAny_bind (m := field (.ref c) 1) (wpAny_field hoc hdc hq (wpAny_bind (wpAny_pure ?_)))
  rw [hbind, hclo]
  refine wpAny_bind (wpAny_pure (wpAny_bind ?_))
  rw [← hc]
  refine wpAny_newFunctionEnv_cells hk hkind fun env he s' x => ?_
  subst he
  exact wpAny_bind (wpAny_enterFrame (hlim.keeps x.toInCall.keep) hroom (wpAny_pure ⟨rfl, rfl, codeS.func (h s' x)⟩))
theorem SpecS.ofC {name qual : Str} {params₀ params : Arguments} {body₀ body : List Stmt} {scope₀ scope : Scope} {dV kV doc pm cdv ct oc : Value} {an od : Option Addr} {osl : Array (Option Value)} {names : List Str}
    (ho : List.lookup f (Top.K w.params) = some ⟨oc, od, .func (fnOf name qual params₀ body₀ scope₀ dV kV doc pm an cdv ct), osl⟩) (hcd : codeIn (Top.K w.params) cdv qual = true) (hp : params₀ = params) (hb : body₀ = body) (hs : scope₀ = scope)
    (hbind : bindArgs (fnOf name qual params body scope dV kV doc pm an cdv ct) ⟨args, []⟩ = pure (names.zip args))
    (hkind : ∀ L, ∀ x ∈ names, scope.names.lookup x = some .local ∨ (scope.names.lookup x = some .cell ∧ ((cellsFrom (L + 1) scope.names []).lookup x).isSome = true))
    (hco : scope.isCoroutine = false) (hgen : scope.isGenerator = false) (hk : scope.kind = .function) (hdd : 1 ≤ dd)
    (go : ∀ (p : Program) (loose : List Str) (mean : ExcName → Option Value) (mg mb : Str → Option Value) (dp un : Nat) (gd : Option (List Code)) (cn : Str) (cs : Scope) (a : Addr) (ccd : Value) (cl : List (Str × Addr)) (outer : List Env)
      (base g h₁ : Heap) (L L' : Addr) (s : Shared) (tk : Nat) (kindOf : Str → Option NameKind), (∀ x, kindOf x = scope.names.lookup x) →
      Inside w dd muts ro p loose mean mg mb dp un gd cn cs a ccd cl outer base g h₁ L L' (bindL kindOf (names.zip args) fun _ => none) → (∀ q ∈ muts, q.1 < L') →
      (∀ n c, (cellsFrom (L' + 1) scope.names []).lookup n = some c → h₁.IsCell c (bindC kindOf (names.zip args) (fun _ => none) n)) →
      wpS (model pr w) ((ktrTop dp un gd cn cs L a ccd cl outer).deeper (envX qual scope L' f cdv (cellsFrom (L' + 1) scope.names []))) (execs body (envX qual scope L' f cdv (cellsFrom (L' + 1) scope.names [])))
        (fun fl s' => After g s k (match fl with | .ret v => v | _ => .none) s') NoE { s with heap := h₁, toks := tk }) :
    SpecS w f args dd muts ro k := by
  subst hp hb hs
  intro p loose mean mg mb dp un gd cn cs a ccd cl outer A₀ base h₀ L m s S
  have X := S.X; have F := S.F; have T := S.T; have hd1 := S.h1
  refine codeS.call_defC (fd := fnOf name qual params₀ body₀ scope₀ dV kV doc pm an cdv ct) (body := body₀) (binds := names.zip args) (by show dp < _; k_extra "o") ((X.keeps F.keep) _ _ ho) rfl (T.nolimit.keeps F.keep) (codeRec_of (X.keeps F.keep) hcd) rfl hbind rfl (fun x hx => hkind _ _ (List.of_mem_zip hx).1) (fun s₁ x => ?_) hco hgen hk
  obtain ⟨⟨h₁, tk, rfl⟩, hns, hkeep, hfresh⟩ := x.toInCall
  exact go p loose mean mg mb dp un gd cn cs a ccd cl outer base _ h₁ L _ s tk _ (fun _ => rfl) (inside_of S hns hkeep hfresh) (fun q hq => Nat.lt_of_lt_of_le (Heap.lt_size (S.N q hq).1) hfresh) x.cell
end

noncomputable abbrev tupO (vs : List Value) : Obj := { cls := .type "tuple", data := .seq vs.toArray 0 }
theorem instOf {h : Heap} {x dx C : Addr} {es : List DictEntry} {n : Nat} (h1 : h.get? x = some (instObj C dx)) (h2 : h.get? dx = some (dictOf es n)) : InstAt h x (instObj C dx) C (some (dictOf es n)) := ⟨h1, rfl, rfl, h2⟩
theorem tupOf {h : Heap} {a : Addr} {vs : List Value} (h1 : h.get? a = some (tupO vs)) : IsTup h a vs.toArray := ⟨_, h1, rfl, 0, rfl⟩
theorem lstOf {h : Heap} {a : Addr} {vs : Array Value} {n : Nat} (h1 : h.get? a = some (W.listOf vs n)) : h.IsList a vs := ⟨_, h1, rfl, n, rfl⟩

theorem getD0 {a b : Int} : [a, b].getD (Int.toNat 0) 0 = a := rfl
theorem getD1 {a b : Int} : [a, b].getD (Int.toNat 1) 0 = b := rfl
theorem getD00 {a : Int} : [a].getD (Int.toNat 0) 0 = a := rfl
theorem fmod_bounds {a b : Int} (h : 0 < b) : 0 ≤ a.fmod b ∧ a.fmod b < b := by
  rw [Int.fmod_eq_emod_of_nonneg a (Int.le_of_lt h)]
  exact ⟨Int.emod_nonneg _ (by k_extra "o"), Int.emod_lt_of_pos _ h⟩
end
section

inductive V
  | none | bool (b : Bool) | int (i : Int) | str (s : Str) | bytes (l : List UInt8) | ref (a : Addr)
noncomputable def V.Is : V → Value → Prop
  | .none, x => x = .none
  | .bool b, x => x = .bool b
  | .int i, x => ∃ t, x = .int i t
  | .str s, x => ∃ t, x = .str s t
  | .bytes l, x => ∃ t, x = .bytes l.toArray t
  | .ref a, x => x = .ref a
theorem isInt (i : Int) (t : Tok) : (V.int i).Is (.int i t) := ⟨t, rfl⟩
theorem isStr (x : Str) (t : Tok) : (V.str x).Is (.str x t) := ⟨t, rfl⟩
theorem isBytes (l : List UInt8) (t : Tok) : (V.bytes l).Is (.bytes l.toArray t) := ⟨t, rfl⟩
theorem isNone : V.none.Is .none := rfl
theorem isBool (b : Bool) : (V.bool b).Is (.bool b) := rfl
theorem isRef (a : Addr) : (V.ref a).Is (.ref a) := rfl
theorem V.some : ∀ v : V, ∃ x, v.Is x
  | .none => ⟨_, rfl⟩
  | .bool _ => ⟨_, rfl⟩
  | .int i => ⟨.int i 0, 0, rfl⟩
  | .str s => ⟨.str s 0, 0, rfl⟩
  | .bytes l => ⟨.bytes l.toArray 0, 0, rfl⟩
  | .ref _ => ⟨_, rfl⟩
inductive AreV : List V → List Value → Prop
  | nil : AreV [] []
  | cons {v x vs xs} : V.Is v x → AreV vs xs → AreV (v :: vs) (x :: xs)
theorem AreV.length {vs xs} (h : AreV vs xs) : xs.length = vs.length := by
  induction h with
  | nil => rfl
  | cons _ _ ih => simp [ih]
theorem AreV.get {vs : List V} {xs : List Value} (h : AreV vs xs) : ∀ (i : Nat) (v : V), vs[i]? = Option.some v → ∃ x, xs[i]? = Option.some x ∧ v.Is x := by
  induction h with
  | nil => intro i v e; cases e
  | cons hv _ ih =>
    intro i v e
    cases i with
    | zero => cases e; exact ⟨_, rfl, hv⟩
    | succ i => exact ih i v e
theorem AreV.set {vs : List V} {xs : List Value} (h : AreV vs xs) (i : Nat) {v : V} {x : Value} (hv : v.Is x) : AreV (vs.set i v) (xs.set i x) := by
  induction h generalizing i with
  | nil => exact .nil
  | cons hw hr ih =>
    cases i with
    | zero => exact .cons hv hr
    | succ i => exact .cons hw (ih i)
theorem AreV.append {vs vs' : List V} {xs xs' : List Value} (h : AreV vs xs) (h' : AreV vs' xs') : AreV (vs ++ vs') (xs ++ xs') := by
  induction h with
  | nil => exact h'
  | cons hw _ ih => exact .cons hw ih
theorem AreV.some : ∀ vs : List V, ∃ xs, AreV vs xs
  | [] => ⟨[], .nil⟩
  | v :: vs => let ⟨x, hx⟩ := v.some; let ⟨xs, hs⟩ := AreV.some vs; ⟨x :: xs, .cons hx hs⟩
theorem AreV.ints {ns : List Int} {xs : List Value} (h : AreV (ns.map V.int) xs) : IntsAre xs ns := by
  induction ns generalizing xs with
  | nil => cases h; exact .nil
  | cons n r ih => cases h with | cons hv hr => obtain ⟨t, rfl⟩ := hv; exact .cons n t (ih hr)
theorem AreV.of_ints {ns : List Int} {xs : List Value} (h : IntsAre xs ns) : AreV (ns.map V.int) xs := by
  induction h with
  | nil => exact .nil
  | cons n t _ ih => exact .cons ⟨t, rfl⟩ ih

noncomputable abbrev Cell := Obj → Prop
noncomputable abbrev ALed := List (Addr × Cell)
noncomputable abbrev AFr := List (Str × V)
noncomputable abbrev vv (s : String) (v : V) : Str × V := (Str.ofString s, v)
inductive LedIs : ALed → Led → Prop
  | nil : LedIs [] []
  | cons {a : Addr} {p : Cell} {o : Obj} {l : ALed} {L : Led} : p o → LedIs l L → LedIs ((a, p) :: l) ((a, o) :: L)
theorem LedIs.addr {l : ALed} {L : Led} (h : LedIs l L) : L.map (·.1) = l.map (·.1) := by
  induction h with
  | nil => rfl
  | cons _ _ ih => rw [List.map_cons, List.map_cons, ih]
theorem LedIs.append {l l' : ALed} {L L' : Led} (h : LedIs l L) (h' : LedIs l' L') : LedIs (l ++ l') (L ++ L') := by
  induction h with
  | nil => exact h'
  | cons hp _ ih => exact .cons hp ih
theorem LedIs.split {l l' : ALed} : ∀ {L : Led}, LedIs (l ++ l') L → ∃ L₁ L₂, L = L₁ ++ L₂ ∧ LedIs l L₁ ∧ LedIs l' L₂ := by
  induction l with
  | nil => exact fun h => ⟨[], _, rfl, .nil, h⟩
  | cons q r ih =>
    intro L h
    cases h with
    | cons hp hr => obtain ⟨L₁, L₂, rfl, h1, h2⟩ := ih hr; exact ⟨_ :: L₁, L₂, rfl, .cons hp h1, h2⟩
theorem LedIs.mem {l : ALed} {L : Led} (h : LedIs l L) {a : Addr} {p : Cell} (hm : (a, p) ∈ l) : ∃ o, (a, o) ∈ L ∧ p o := by
  induction h with
  | nil => cases hm
  | cons hp _ ih =>
    cases hm with
    | head => exact ⟨_, .head _, hp⟩
    | tail _ hm => obtain ⟨o, h1, h2⟩ := ih hm; exact ⟨o, .tail _ h1, h2⟩
inductive TakeL {α : Type} (p : α) : List α → List α → Prop
  | head {r : List α} : TakeL p (p :: r) r
  | tail {q : α} {r r' : List α} : TakeL p r r' → TakeL p (q :: r) (q :: r')
inductive TakesL {α : Type} : List α → List α → List α → Prop
  | nil {l : List α} : TakesL [] l l
  | cons {p : α} {m l l₁ r : List α} : TakeL p l l₁ → TakesL m l₁ r → TakesL (p :: m) l r
theorem TakeL.perm {α : Type} {p : α} {l r : List α} (t : TakeL p l r) : (p :: r).Perm l := by
  induction t with
  | head => exact .refl _
  | tail _ ih => exact (List.Perm.swap _ _ _).trans (ih.cons _)
theorem TakesL.perm {α : Type} {m l r : List α} (t : TakesL m l r) : (m ++ r).Perm l := by
  induction t with
  | nil => exact .refl _
  | cons t _ ih => exact (ih.cons _).trans t.perm
theorem TakesL.app {α : Type} {m l r : List α} (t : TakesL m l r) (x : List α) : (m ++ (r ++ x)).Perm (l ++ x) := by
  rw [← List.append_assoc]; exact t.perm.append_right _
theorem LedIs.perm {l l' : ALed} (t : l.Perm l') : ∀ {L' : Led}, LedIs l' L' → ∃ L, LedIs l L ∧ L.Perm L' := by
  induction t with
  | nil => exact fun h => ⟨_, h, .refl _⟩
  | cons q _ ih =>
    intro L' h
    cases h with
    | cons hp hr => obtain ⟨L, h1, h2⟩ := ih hr; exact ⟨_ :: L, .cons hp h1, h2.cons _⟩
  | swap a b l =>
    intro L' h
    cases h with
    | cons h1 h => cases h with | cons h2 h => exact ⟨_ :: _ :: _, .cons h2 (.cons h1 h), .swap _ _ _⟩
  | trans _ _ ih1 ih2 =>
    intro L' h
    obtain ⟨L, h1, h2⟩ := ih2 h
    obtain ⟨L₀, h3, h4⟩ := ih1 h1
    exact ⟨L₀, h3, h4.trans h2⟩
inductive UpdL {α β : Type} (a : α) (p p' : β) : List (α × β) → List (α × β) → Prop
  | head {r : List (α × β)} : UpdL a p p' ((a, p) :: r) ((a, p') :: r)
  | tail {q : α × β} {r r' : List (α × β)} : UpdL a p p' r r' → UpdL a p p' (q :: r) (q :: r')
theorem UpdL.split {α β : Type} {a : α} {p p' : β} {l l' : List (α × β)} (u : UpdL a p p' l l') : ∃ x y, l = x ++ (a, p) :: y ∧ l' = x ++ (a, p') :: y := by
  induction u with
  | head => exact ⟨[], _, rfl, rfl⟩
  | tail _ ih => obtain ⟨x, y, h1, h2⟩ := ih; exact ⟨_ :: x, y, by rw [h1]; rfl, by rw [h2]; rfl⟩

structure FrIs (cs : Scope) (m : AFr) (mm : Str → Option Value) : Prop where
  at_ : ∀ q ∈ m, ∃ x, mm q.1 = Option.some x ∧ q.2.Is x
  loc : ∀ q ∈ m, cs.names.lookup q.1 = Option.some .local ∧ (q.1 == ("__debug__" : Str)) = false
  nod : (m.map (·.1)).Nodup

set_option genInjectivity false in
set_option genSizeOfSpec false in
structure Cx (w : World) (dd : Nat) (cs : Scope) where
  p : Program
  loose : List Str
  mean : ExcName → Option Value
  mg : Str → Option Value
  mb : Str → Option Value
  dp : Nat
  un : Nat
  gd : Option (List Code)
  cn : Str
  a : Addr
  ccd : Value
  outer : List Env
  A₀ : Around
  base : Heap
  g : Heap
  L : Addr
  cl : List (Str × Addr)
  fn : Option Addr
  fg : Heap
  fL : Addr
  fcs : Scope
  fcl : List (Str × Addr)
  gens : Array GenState
  drawn : Drawn
  os : OsState
  B : Below A₀ base outer fg
  Xf : (Top.K w.params).In fg
  Tf : Top p loose mean mg mb fg
  sub : ∀ b o, fg.get? b = some o → g.get? b = some o
  hk : cs.kind = .function
  hkf : fcs.kind = .function
  hF : ∀ h mm, Fr g L h mm → ∃ fm, Fr fg fL h fm
  hN : ∀ q, q ≠ L → g.get? q = none → q ≠ fL
  h1 : dp + dd < recursionLimit
  h2 : un + 8 * dd < cLine
section
variable {w : World} {dd : Nat} {cs : Scope}
theorem Cx.X (c : Cx w dd cs) : (Top.K w.params).In c.g := c.Xf.keeps c.sub
theorem Cx.T (c : Cx w dd cs) : Top c.p c.loose c.mean c.mg c.mb c.g := c.Tf.keeps c.sub
noncomputable abbrev Cx.A (c : Cx w dd cs) : Around := ktrTop c.dp c.un c.gd c.cn c.fcs c.fL c.a c.ccd c.fcl c.outer
noncomputable abbrev Cx.env (c : Cx w dd cs) : Env := { scope := cs, locals := c.L, globals := mainGlobals, cells := c.cl, qual := c.cn ++ ".<locals>.", func := c.fn, code := c.ccd, frame := some c.fL, builtins := builtinsNs }
noncomputable abbrev Cx.st (c : Cx w dd cs) (h : Heap) (tk : Nat) : Shared := ⟨h, c.gens, c.drawn, tk, c.os⟩
noncomputable def Cx.Ro (c : Cx w dd cs) (a : Addr) (p : Cell) : Prop := ∃ o, p o ∧ c.g.get? a = Option.some o
structure At (c : Cx w dd cs) (h : Heap) (m : AFr) (led : ALed) : Prop where
  ex : ∃ mm L, Fr c.g c.L h mm ∧ News c.g c.L h L ∧ LedIs led L ∧ FrIs cs m mm
  nd : (led.map (·.1)).Nodup

noncomputable def Post {α β : Type} (Is : β → α → Prop) (c : Cx w dd cs) (R : ALed) (m : AFr) (K : β → ALed → Prop) (v : α) (s' : Shared) : Prop :=
  ∃ h' tk' x led', s' = c.st h' tk' ∧ Is x v ∧ At c h' m (led' ++ R) ∧ K x led'
noncomputable def CP {α β : Type} (Is : β → α → Prop) (c : Cx w dd cs) (m : AFr) (led : ALed) (t : Sem α) (K : β → ALed → Prop) : Prop :=
  ∀ h tk R, At c h m (led ++ R) → wpS (model pr w) c.A t (Post Is c R m K) NoE (c.st h tk)
noncomputable abbrev EV (c : Cx w dd cs) (m : AFr) (led : ALed) (t : Sem Value) (K : V → ALed → Prop) : Prop := CP V.Is c m led t K
noncomputable abbrev UV (c : Cx w dd cs) (m : AFr) (led : ALed) (t : Sem Unit) (K : ALed → Prop) : Prop := CP (fun (_ _ : Unit) => True) c m led t (fun _ => K)
noncomputable def E1 (c : Cx w dd cs) (m : AFr) (led : ALed) (e : Expr) (K : V → ALed → Prop) : Prop := EV c m led (eval e c.env) K
noncomputable def T1 (c : Cx w dd cs) (m : AFr) (led : ALed) (e : Expr) (K : Bool → ALed → Prop) : Prop := CP Eq c m led (isTrue e c.env (eval e c.env)) K
noncomputable def ARGS (c : Cx w dd cs) (m : AFr) (led : ALed) (es : List Expr) (K : List V → ALed → Prop) : Prop := ∀ pos, CP AreV c m led (spliced (backTo pos (starEach es c.env))) K

inductive AFl | next | brk | cont | ret (v : V)
noncomputable def AFl.Is : AFl → Flow → Prop
  | .next, f => f = .next
  | .brk, f => f = .brk
  | .cont, f => f = .cont
  | .ret v, f => ∃ x, f = .ret x ∧ v.Is x
noncomputable def PostS (c : Cx w dd cs) (R : ALed) (Q : AFl → AFr → ALed → Prop) (f : Flow) (s' : Shared) : Prop :=
  ∃ h' tk' fl m' led', s' = c.st h' tk' ∧ fl.Is f ∧ At c h' m' (led' ++ R) ∧ Q fl m' led'
noncomputable def SP (c : Cx w dd cs) (m : AFr) (led : ALed) (body : List Stmt) (Q : AFl → AFr → ALed → Prop) : Prop :=
  ∀ h tk R, At c h m (led ++ R) → wpS (model pr w) c.A (execs body c.env) (PostS c R Q) NoE (c.st h tk)
noncomputable def ST (c : Cx w dd cs) (m : AFr) (led : ALed) (st : Stmt) (Q : AFl → AFr → ALed → Prop) : Prop :=
  ∀ h tk R, At c h m (led ++ R) → wpS (model pr w) c.A (exec st c.env) (PostS c R Q) NoE (c.st h tk)
noncomputable def AndThen (c : Cx w dd cs) (rest : List Stmt) (Q : AFl → AFr → ALed → Prop) (fl : AFl) (m : AFr) (led : ALed) : Prop :=
  match fl with
  | .next => SP c m led rest Q
  | f => Q f m led
end

section
variable {w : World} {dd : Nat} {cs : Scope} {c : Cx w dd cs} {m m' : AFr} {led led' : ALed} {α β γ δ : Type} {Is : β → α → Prop} {Is' : δ → γ → Prop}
theorem At.perm {h : Heap} (a : At c h m led) (t : led'.Perm led) : At c h m led' := by
  obtain ⟨⟨mm, L, F, N, l, f⟩, nd⟩ := a
  obtain ⟨L', l', p⟩ := l.perm t
  exact ⟨⟨mm, L', F, fun q hq => N q (p.mem_iff.mp hq), l', f⟩, ((t.map (·.1)).nodup_iff).mpr nd⟩
theorem At.right {h : Heap} {x : ALed} (a : At c h m (x ++ led)) : At c h m led := by
  obtain ⟨⟨mm, L, F, N, l, f⟩, nd⟩ := a
  obtain ⟨L₁, L₂, rfl, _, l2⟩ := l.split
  rw [List.map_append] at nd
  exact ⟨⟨mm, L₂, F, fun q hq => N q (List.mem_append_right _ hq), l2, f⟩, (List.nodup_append.mp nd).2.1⟩
theorem At.keep {h : Heap} {rest : ALed} {R : ALed} (a : At c h m (led ++ R)) (t : TakesL led' led rest) : At c h m (led' ++ R) := by
  have h1 : (rest ++ (led' ++ R)).Perm (led ++ R) := by
    rw [← List.append_assoc]
    exact (List.perm_append_comm.trans t.perm).append_right _
  exact (a.perm h1).right
theorem At.frame {h : Heap} {rest : AFr} (a : At c h m led) (t : TakesL m' m rest) : At c h m' led := by
  obtain ⟨⟨mm, L, F, N, l, f⟩, nd⟩ := a
  have hm : ∀ q ∈ m', q ∈ m := fun q hq => t.perm.mem_iff.mp (List.mem_append_left _ hq)
  have hn : (m'.map (·.1)).Nodup := by
    have h1 := ((t.perm.map (·.1)).nodup_iff).mpr f.nod
    rw [List.map_append] at h1
    exact (List.nodup_append.mp h1).1
  exact ⟨⟨mm, L, F, N, l, fun q hq => f.at_ q (hm q hq), fun q hq => f.loc q (hm q hq), hn⟩, nd⟩

theorem Post.mono {K K' : β → ALed → Prop} {R : ALed} {v : α} {s' : Shared} (h : Post Is c R m K v s') (hk : ∀ x led, K x led → K' x led) : Post Is c R m K' v s' := by
  obtain ⟨h', tk', x, led', e, i, a, k⟩ := h
  exact ⟨h', tk', x, led', e, i, a, hk _ _ k⟩
theorem CP.mono {t : Sem α} {K K' : β → ALed → Prop} (h : CP Is c m led t K) (hk : ∀ x led, K x led → K' x led) : CP Is c m led t K' :=
  fun hh tk R a => wpS.mono (h hh tk R a) (fun _ _ z => z.mono hk) fun _ _ e => e
theorem CP.bind {t : Sem α} {f : α → Sem γ} {K : δ → ALed → Prop} (h : CP Is c m led t (fun x led₁ => ∀ v, Is x v → CP Is' c m led₁ (f v) K)) : CP Is' c m led (t >>= f) K := fun hh tk R a =>
  wpS.bind (wpS.mono (h hh tk R a) (fun v s' z => by obtain ⟨h', tk', x, led', rfl, i, a', k⟩ := z; exact k v i h' tk' R a') fun _ _ e => e)
theorem CP.pure {x : β} {v : α} {K : β → ALed → Prop} (i : Is x v) (k : K x led) : CP Is c m led (Pure.pure v) K := fun _ _ _ a => wpS.pure ⟨_, _, x, led, rfl, i, a, k⟩
theorem CP.holding {vs : List Value} {t : Sem α} {K : β → ALed → Prop} (h : CP Is c m led t K) : CP Is c m led (holding vs t) K := fun hh tk R a => wpS.holding (h hh tk R a)
theorem CP.stand {pos : Pos} {f : Unit → Sem α} {K : β → ALed → Prop} (h : CP Is c m led (f ()) K) : CP Is c m led (standAt pos >>= f) K := fun hh tk R a => wpS.bind (wpS.standAt (h hh tk R a))
theorem CP.release {a b : List Value} {f : Unit → Sem α} {K : β → ALed → Prop} (h : CP Is c m led (f ()) K) : CP Is c m led (release a b >>= f) K := fun hh tk R x => wpS.bind (wpS.lift (wpAny_release' (h hh tk R x)))
theorem CP.eq {t t' : Sem α} {K : β → ALed → Prop} (e : t = t') (h : CP Is c m led t' K) : CP Is c m led t K := by rw [e]; exact h
theorem CP.any {t : Sem α} {K : β → ALed → Prop} (h : ∀ h tk R mm L, Fr c.g c.L h mm → News c.g c.L h L → LedIs (led ++ R) L → FrIs cs m mm → ((led ++ R).map (·.1)).Nodup → wpAny (model pr w) c.A t (Post Is c R m K) NoE (c.st h tk)) : CP Is c m led t K :=
  fun hh tk R a => by obtain ⟨⟨mm, L, F, N, l, f⟩, nd⟩ := a; exact wpS.lift (h hh tk R mm L F N l f nd)
theorem Post.mk {K : β → ALed → Prop} {R : ALed} {h' : Heap} {tk' : Nat} {mm : Str → Option Value} {L : Led} {x : β} {v : α} (i : Is x v) (F : Fr c.g c.L h' mm) (N : News c.g c.L h' L) (l : LedIs (led ++ R) L) (f : FrIs cs m mm) (nd : ((led ++ R).map (·.1)).Nodup) (k : K x led) :
    Post Is c R m K v (c.st h' tk') := ⟨h', tk', x, led, rfl, i, ⟨⟨mm, L, F, N, l, f⟩, nd⟩, k⟩
end
noncomputable def Fold (F Q : AFl → AFr → ALed → Prop) : Prop := ∀ fl m led, F fl m led → Q fl m led
theorem Fold.rfl {F : AFl → AFr → ALed → Prop} : Fold F F := fun _ _ _ h => h
theorem Fold.out {F Q : AFl → AFr → ALed → Prop} (h : Fold F Q) {fl : AFl} {m : AFr} {led : ALed} (k : F fl m led) : Q fl m led := h _ _ _ k
theorem Fold.outN {F Q : Nat → AFl → AFr → ALed → Prop} (h : ∀ n, Fold (F n) (Q n)) {n : Nat} {fl : AFl} {m : AFr} {led : ALed} (k : F n fl m led) : Q n fl m led := h _ _ _ _ k
end
section
variable {w : World} {dd : Nat} {cs : Scope} {c : Cx w dd cs} {m m' : AFr} {led led' : ALed}

noncomputable def Has (c : Cx w dd cs) (led : ALed) (a : Addr) (p : Cell) : Prop := (a, p) ∈ led ∨ c.Ro a p
theorem Has.l {a : Addr} {p : Cell} (h : (a, p) ∈ led) : Has c led a p := .inl h
theorem Has.r {a : Addr} {p : Cell} (h : c.Ro a p) : Has c led a p := .inr h
theorem Has.get {a : Addr} {p : Cell} {R : ALed} {L : Led} {mm : Str → Option Value} {h : Heap} (x : Has c led a p) (F : Fr c.g c.L h mm) (N : News c.g c.L h L) (l : LedIs (led ++ R) L) : ∃ o, p o ∧ h.get? a = some o := by
  rcases x with x | ⟨o, h1, h2⟩
  · obtain ⟨o, h1, h2⟩ := l.mem (List.mem_append_left R x)
    exact ⟨o, h2, (N _ h1).1⟩
  · exact ⟨o, h1, F.keep _ _ h2⟩

noncomputable def BIN (c : Cx w dd cs) (m : AFr) (led : ALed) (op : Operator) (a b : V) (K : V → ALed → Prop) : Prop := ∀ xa xb, a.Is xa → b.Is xb → EV c m led (binaryOp op xa xb) K
noncomputable def CMP (c : Cx w dd cs) (m : AFr) (led : ALed) (op : CmpOp) (a b : V) (K : Bool → ALed → Prop) : Prop := ∀ xa xb, a.Is xa → b.Is xb → EV c m led (compareOp op xa xb) (fun v led' => ∃ t, v = .bool t ∧ K t led')
noncomputable def SUB (c : Cx w dd cs) (m : AFr) (led : ALed) (value slice : Expr) (a b : V) (K : V → ALed → Prop) : Prop := ∀ xa xb, a.Is xa → b.Is xb → EV c m led (subscriptTail value slice xa xb) K
noncomputable def CALL (c : Cx w dd cs) (m : AFr) (led : ALed) (f : Value) (vs : List V) (K : V → ALed → Prop) : Prop := ∀ xs, AreV vs xs → EV c m led (PySem.call f xs) K
noncomputable def ATT (c : Cx w dd cs) (m : AFr) (led : ALed) (a : V) (name : Str) (K : V → ALed → Prop) : Prop := ∀ xa, a.Is xa → EV c m led (getAttr xa name true) K
noncomputable def MIs (q : Value × List V) (x : Value × List Value) : Prop := x.1 = q.1 ∧ AreV q.2 x.2
noncomputable def METH (c : Cx w dd cs) (m : AFr) (led : ALed) (a : V) (name : Str) (K : Value → List V → ALed → Prop) : Prop := ∀ xa pl, a.Is xa → CP MIs c m led (getMethod xa name pl) (fun q => K q.1 q.2)
noncomputable def SETA (c : Cx w dd cs) (m : AFr) (led : ALed) (a : V) (name : Str) (v : V) (K : ALed → Prop) : Prop := ∀ xa xv, a.Is xa → v.Is xv → UV c m led (setAttr xa name xv) K
noncomputable def SETI (c : Cx w dd cs) (m : AFr) (led : ALed) (a i v : V) (K : ALed → Prop) : Prop := ∀ xa xi xv, a.Is xa → i.Is xi → v.Is xv → UV c m led (setItem xa xi xv) K

section
variable (c : Cx w dd cs) (m : AFr)
@[reducible] noncomputable def kBin2 (op : Operator) (a : V) (K : V → ALed → Prop) : V → ALed → Prop := fun b led₂ => BIN c m led₂ op a b K
@[reducible] noncomputable def kBin1 (r : Expr) (op : Operator) (K : V → ALed → Prop) : V → ALed → Prop := fun a led₁ => E1 c m led₁ r (kBin2 c m op a K)
@[reducible] noncomputable def kNeg (K : V → ALed → Prop) : V → ALed → Prop := fun a led₁ => ∃ i, a = .int i ∧ K (.int (-i)) led₁
@[reducible] noncomputable def kIf (x y : Expr) (K : V → ALed → Prop) : Bool → ALed → Prop := fun b led₁ => (b = true → E1 c m led₁ x K) ∧ (b = false → E1 c m led₁ y K)
@[reducible] noncomputable def kSub2 (value slice : Expr) (a : V) (K : V → ALed → Prop) : V → ALed → Prop := fun b led₂ => SUB c m led₂ value slice a b K
@[reducible] noncomputable def kSub1 (value slice : Expr) (K : V → ALed → Prop) : V → ALed → Prop := fun a led₁ => E1 c m led₁ slice (kSub2 c m value slice a K)
@[reducible] noncomputable def kAtt (name : Str) (K : V → ALed → Prop) : V → ALed → Prop := fun a led₁ => ATT c m led₁ a name K
@[reducible] noncomputable def kCmp2 (op : CmpOp) (a : V) (K : Bool → ALed → Prop) : V → ALed → Prop := fun b led₂ => CMP c m led₂ op a b K
@[reducible] noncomputable def kCmp1 (r : Expr) (op : CmpOp) (K : Bool → ALed → Prop) : V → ALed → Prop := fun a led₁ => E1 c m led₁ r (kCmp2 c m op a K)
@[reducible] noncomputable def kBool (K : V → ALed → Prop) : Bool → ALed → Prop := fun t led₃ => K (.bool t) led₃
@[reducible] noncomputable def kNot (K : Bool → ALed → Prop) : Bool → ALed → Prop := fun b led₁ => K (!b) led₁
@[reducible] noncomputable def kOr (y : Expr) (K : Bool → ALed → Prop) : Bool → ALed → Prop := fun b led₁ => (b = true → K true led₁) ∧ (b = false → T1 c m led₁ y K)
@[reducible] noncomputable def kAnd (y : Expr) (K : Bool → ALed → Prop) : Bool → ALed → Prop := fun b led₁ => (b = true → T1 c m led₁ y K) ∧ (b = false → K false led₁)
@[reducible] noncomputable def kCh3 (z : Expr) (op' : CmpOp) (b : V) (K : Bool → ALed → Prop) : Bool → ALed → Prop := fun t led₃ => (t = true → E1 c m led₃ z (kCmp2 c m op' b K)) ∧ (t = false → K false led₃)
@[reducible] noncomputable def kCh2 (z : Expr) (op op' : CmpOp) (a : V) (K : Bool → ALed → Prop) : V → ALed → Prop := fun b led₂ => CMP c m led₂ op a b (kCh3 c m z op' b K)
@[reducible] noncomputable def kCh1 (r z : Expr) (op op' : CmpOp) (K : Bool → ALed → Prop) : V → ALed → Prop := fun a led₁ => E1 c m led₁ r (kCh2 c m z op op' a K)
@[reducible] noncomputable def kCons (v : V) (K : List V → ALed → Prop) : List V → ALed → Prop := fun vs led₁ => K (v :: vs) led₁
@[reducible] noncomputable def kCall (f : Value) (vf : List V) (K : V → ALed → Prop) : List V → ALed → Prop := fun vs led₁ => CALL c m led₁ f (vf ++ vs) K
@[reducible] noncomputable def kCall0 (f : Value) (K : V → ALed → Prop) : List V → ALed → Prop := fun vs led₁ => CALL c m led₁ f vs K
end
section
variable {K : V → ALed → Prop}
theorem E1.name {x : Str} {pos : Pos} {v : V} (hm : (x, v) ∈ m) (k : K v led) : E1 c m led (.Name x pos) K :=
  CP.any fun h tk R mm L F N l f nd => by
    obtain ⟨y, hy, hi⟩ := f.at_ _ hm
    exact wpAny_Name (wpAny_loadName_local c.hk (f.loc _ hm).1 F.ns hy (Post.mk hi F N l f nd k)) (f.loc _ hm).2
noncomputable def Glob (w : World) (x : Str) (v : Value) : Prop := nsIn (Top.K w.params) mainGlobals x = some (some v) ∧ (x == ("__debug__" : Str)) = false
theorem E1.glob {x : Str} {pos : Pos} {v : V} {xv : Value} (hg : Glob w x xv) (hi : v.Is xv) (hx : cs.names.lookup x = some .globalImplicit) (k : K v led) : E1 c m led (.Name x pos) K :=
  CP.any fun h tk R mm L F N l f nd => Name_function_global c.hk hx (loadGlobal_global (env := c.env) ((topRead_of c.T).g.keeps F.keep) (mg_of c.X (topRead_of c.T).g hg.1) (Post.mk hi F N l f nd k)) hg.2
theorem E1.int {i : Int} {n : Nat} {pos : Pos} (k : K (.int i) led) : E1 c m led (.Constant (.int i) n pos) K :=
  CP.any fun h tk R mm L F N l f nd => wpAny_Constant_int (Post.mk (isInt _ _) F N l f nd k)
theorem E1.none {n : Nat} {pos : Pos} (k : K .none led) : E1 c m led (.Constant .none n pos) K :=
  CP.any fun h tk R mm L F N l f nd => wpAny_Constant_none (Post.mk isNone F N l f nd k)
theorem E1.str {x : Str} {n : Nat} {pos : Pos} (k : K (.str x) led) : E1 c m led (.Constant (.str x) n pos) K :=
  CP.any fun h tk R mm L F N l f nd => Calls.Constant_str (Post.mk (isStr _ _) F N l f nd k)
theorem CP.operate {vs : List Value} {t : Sem Value} (h : EV c m led t K) : EV c m led (operate vs t) K := by
  unfold PySem.operate
  exact CP.bind (CP.holding (CP.mono h fun x led' k v i => CP.release (CP.pure i k)))
theorem E1.bin {l r : Expr} {op : Operator} {pos : Pos} (h : E1 c m led l (kBin1 c m r op K)) : E1 c m led (.BinOp l op r pos) K := by
  refine CP.eq (eval_BinOp ..) (CP.bind (CP.mono h fun a led₁ h₁ xa ia => CP.bind (CP.holding (CP.mono h₁ fun b led₂ h₂ xb ib => CP.stand (CP.operate (h₂ xa xb ia ib))))))
theorem E1.un {x : Expr} {op : UnaryOp} {pos : Pos} (h : E1 c m led x fun a led₁ => ∀ xa, a.Is xa → EV c m led₁ (unaryOp op xa) K) : E1 c m led (.UnaryOp op x pos) K := by
  refine CP.eq (eval_UnaryOp ..) (CP.bind (CP.mono h fun a led₁ h₁ xa ia => CP.stand (CP.holding (h₁ xa ia))))
theorem E1.neg {x : Expr} {pos : Pos} (h : E1 c m led x (kNeg K)) : E1 c m led (.UnaryOp .USub x pos) K :=
  E1.un (CP.mono h fun a led₁ ⟨i, e, k⟩ xa ia => by
    subst e; obtain ⟨t, rfl⟩ := ia
    exact CP.any fun h tk R mm L F N l f nd => neg_int (Post.mk (isInt _ _) F N l f nd k))
theorem E1.if_ {test body orelse : Expr} {pos : Pos} (h : T1 c m led test (kIf c m body orelse K)) : E1 c m led (.IfExp test body orelse pos) K := by
  refine CP.eq (eval_IfExp ..) (CP.bind (CP.mono h fun b led₁ h₁ xb ib => ?_))
  subst ib
  cases b
  · exact h₁.2 rfl
  · exact h₁.1 rfl
theorem E1.sub {value slice : Expr} {pos : Pos} (h : E1 c m led value (kSub1 c m value slice K)) : E1 c m led (.Subscript value slice pos) K := by
  refine CP.eq (eval_Subscript ..) (CP.bind (CP.mono h fun a led₁ h₁ xa ia => CP.bind (CP.holding (CP.mono h₁ fun b led₂ h₂ xb ib => CP.stand (h₂ xa xb ia ib)))))
theorem E1.att {o : Expr} {name : Str} {pos : Pos} (h : E1 c m led o (kAtt c m name K))
    (he : eval (.Attribute o name pos) c.env = (do
      let ov ← eval o c.env
      standAt pos.atName
      let r ← holding [ov] (getAttr ov name true)
      letTemporaryGo o ov r
      pure r) := by with_unfolding_all rfl) : E1 c m led (.Attribute o name pos) K := by
  refine CP.eq he (CP.bind (CP.mono h fun a led₁ h₁ xa ia => CP.stand (CP.bind (CP.holding (CP.mono (h₁ xa ia) fun v led₂ k xv iv => ?_)))))
  exact CP.bind (Is := fun (_ _ : Unit) => True) (K := K) (CP.any fun h tk R mm L F N l f nd => wpAny_letTemporaryGo (Post.mk (x := ()) trivial F N l f nd (fun _ _ => CP.pure iv k)))
theorem E1.cmp {l r : Expr} {op : CmpOp} {pos : Pos} (h : E1 c m led l (kCmp1 c m r op (kBool K))) (hm : behindInMarks op r = false := by with_unfolding_all rfl) : E1 c m led (.Compare l [op] [r] pos) K := by
  refine CP.eq (eval_Compare1 ..) ?_
  rw [markedBehindIn_of_false hm]
  exact CP.bind (CP.mono h fun a led₁ h₁ xa ia => CP.bind (CP.holding (CP.mono h₁ fun b led₂ h₂ xb ib => CP.stand (CP.operate (CP.mono (h₂ xa xb ia ib) fun v led₃ ⟨t, e, k⟩ => by subst e; exact k)))))
end

section
variable {K : Bool → ALed → Prop}
theorem truth_bool {t : Bool} {xv : Value} (i : (V.bool t).Is xv) (k : K t led) : CP Eq c m led (truthy xv) K := by
  subst i; exact CP.any fun h tk R mm L F N l f nd => wpAny_truthy_bool (Post.mk (x := t) rfl F N l f nd k)
theorem T1.cmp {l r : Expr} {op : CmpOp} {pos : Pos} (h : E1 c m led l (kCmp1 c m r op K)) (hm : behindInMarks op r = false := by with_unfolding_all rfl) : T1 c m led (.Compare l [op] [r] pos) K := by
  refine CP.eq (isTrue_Compare1 ..) ?_
  rw [markedBehindIn_of_false hm]
  exact CP.bind (CP.mono h fun a led₁ h₁ xa ia => CP.bind (CP.holding (CP.mono h₁ fun b led₂ h₂ xb ib => CP.stand (CP.bind (CP.operate (CP.mono (h₂ xa xb ia ib) fun v led₃ ⟨t, e, k⟩ xv iv => CP.holding (by subst e; exact truth_bool iv k)))))))
theorem T1.not {x : Expr} {pos : Pos} (h : T1 c m led x (kNot K)) : T1 c m led (.UnaryOp .Not x pos) K := by
  show CP Eq c m led (do return !(← isTrue x c.env (eval x c.env))) K
  exact CP.bind (CP.mono h fun b led₁ k xb ib => by subst ib; exact CP.pure (x := !b) rfl k)
theorem T1.or2 {x y : Expr} {pos : Pos} (h : T1 c m led x (kOr c m y K)) : T1 c m led (.BoolOp .Or [x, y] pos) K := by
  show CP Eq c m led (do
    match BoolOp.Or, ← isTrue x c.env (eval x c.env) with
    | .And, false => Pure.pure false
    | .Or, true => Pure.pure true
    | _, _ => allTrue .Or [y] c.env) K
  refine CP.bind (CP.mono h fun b led₁ k xb ib => ?_)
  subst ib
  cases b
  · show CP Eq c m led₁ (do
      match BoolOp.Or, ← isTrue y c.env (eval y c.env) with
      | .And, false => Pure.pure false
      | .Or, true => Pure.pure true
      | _, _ => Pure.pure false) K
    refine CP.bind (CP.mono (k.2 rfl) fun b led₂ k xb ib => ?_)
    subst ib
    cases b
    · exact CP.pure (x := false) rfl k
    · exact CP.pure (x := true) rfl k
  · exact CP.pure (x := true) rfl (k.1 rfl)
theorem T1.and2 {x y : Expr} {pos : Pos} (h : T1 c m led x (kAnd c m y K)) : T1 c m led (.BoolOp .And [x, y] pos) K := by
  show CP Eq c m led (do
    match BoolOp.And, ← isTrue x c.env (eval x c.env) with
    | .And, false => Pure.pure false
    | .Or, true => Pure.pure true
    | _, _ => allTrue .And [y] c.env) K
  refine CP.bind (CP.mono h fun b led₁ k xb ib => ?_)
  subst ib
  cases b
  · exact CP.pure (x := false) rfl (k.2 rfl)
  · show CP Eq c m led₁ (do
      match BoolOp.And, ← isTrue y c.env (eval y c.env) with
      | .And, false => Pure.pure false
      | .Or, true => Pure.pure true
      | _, _ => Pure.pure true) K
    refine CP.bind (CP.mono (k.1 rfl) fun b led₂ k xb ib => ?_)
    subst ib
    cases b
    · exact CP.pure (x := false) rfl k
    · exact CP.pure (x := true) rfl k
theorem T1.chain {l r s : Expr} {op op' : CmpOp} {pos : Pos}
    (h : E1 c m led l (kCh1 c m r s op op' K))
    (hm : lastMarks [op, op'] [r, s] = false := by with_unfolding_all rfl) : T1 c m led (.Compare l [op, op'] [r, s] pos) K := by
  show CP Eq c m led (do testChain pos (← eval l c.env) [op, op'] (markedEach [op, op'] [r, s] (evalEach [r, s] c.env))) K
  rw [markedEach_of_false _ _ _ hm]
  refine CP.bind (CP.mono h fun a led₁ h₁ xa ia => ?_)
  show CP Eq c m led₁ (do
    let rv ← holding [xa] (eval r c.env)
    standAt pos
    let q ← holding [xa, rv] (compareOp op xa rv)
    release [xa, rv] [q]
    if ← holding [q, rv] (truthy q) then testChain pos rv [op'] [eval s c.env] else Pure.pure false) K
  refine CP.bind (CP.holding (CP.mono h₁ fun b led₂ h₂ xb ib => CP.stand (CP.bind (CP.holding (CP.mono (h₂ xa xb ia ib) fun v led₃ ⟨t, e, k⟩ xv iv => CP.release (CP.bind (Is := Eq) (CP.holding (truth_bool (t := t) (by subst e; exact iv) (K := fun b led' => ∀ v, b = v → CP Eq c m led' (if v = true then testChain pos xb [op'] [eval s c.env] else Pure.pure false) K) ?_))))))))
  intro y e
  subst e
  cases t
  · exact CP.pure (x := false) rfl (k.2 rfl)
  · show CP Eq c m led₃ (do
      let rv ← holding [xb] (eval s c.env)
      standAt pos
      let q ← operate [xb, rv] (compareOp op' xb rv)
      holding [q] (truthy q)) K
    exact CP.bind (CP.holding (CP.mono (k.1 rfl) fun d led₄ h₄ xd id => CP.stand (CP.bind (CP.operate (CP.mono (h₄ xb xd ib id) fun v led₅ ⟨t, e, k⟩ xv iv => CP.holding (by subst e; exact truth_bool iv k))))))
end

noncomputable def noStar : List Expr → Bool
  | [] => true
  | .Starred _ _ :: _ => false
  | _ :: r => noStar r
theorem starEach_plain : ∀ {es : List Expr}, noStar es = true → ∀ env, starEach es env = es.map fun e => (false, eval e env)
  | [], _, _ => rfl
  | e :: r, h, env => by
    have hr : noStar r = true := by cases e <;> first | exact h | cases h
    have he : starEach (e :: r) env = (false, eval e env) :: starEach r env := by cases e <;> first | rfl | cases h
    rw [he, starEach_plain hr]; rfl
theorem backTo_plain (pos : Pos) (es : List Expr) (env : Env) : backTo pos (es.map fun e => (false, eval e env)) = es.map fun e => (false, eval e env) := by
  unfold backTo
  rw [List.map_map]
  rfl
noncomputable def ARG (c : Cx w dd cs) (m : AFr) (led : ALed) : List Expr → (List V → ALed → Prop) → Prop
  | [], K => K [] led
  | e :: r, K => E1 c m led e fun v led₁ => ARG c m led₁ r (kCons v K)
theorem ARG.spliced : ∀ {es : List Expr} {led : ALed} {K : List V → ALed → Prop}, ARG c m led es K → CP AreV c m led (spliced (es.map fun e => (false, eval e c.env))) K
  | [], _, _, h => CP.pure .nil h
  | e :: r, led, K, h => by
    show CP AreV c m led (do
      let v ← eval e c.env
      let here ← Pure.pure [v]
      return here ++ (← holding here (PySem.spliced (r.map fun e => (false, eval e c.env))))) K
    refine CP.bind (CP.mono h fun v led₁ h₁ xv iv => ?_)
    show CP AreV c m led₁ (holding [xv] (PySem.spliced (r.map fun e => (false, eval e c.env))) >>= fun vs => Pure.pure (xv :: vs)) K
    exact CP.bind (CP.holding (CP.mono (ARG.spliced h₁) fun vs led₂ k xs is => CP.pure (.cons iv is) k))
theorem CP.callWith {K : V → ALed → Prop} {f : Value} {first : List Value} {vf : List V} {args : List Expr} {pos : Pos} (hf : AreV vf first) (hs : noStar args = true)
    (hk : ∀ h, (Top.K w.params).In h → ∃ k, (k = Keeper.frame ∨ k = Keeper.machine ∨ k = Keeper.boundFrame) ∧ Looks (model pr w) h (keeperOf f) k)
    (h : ARG c m led args (kCall c m f vf K)) : EV c m led (callWith pos f first (backTo pos (starEach args c.env)) []) K := by
  rw [starEach_plain hs, backTo_plain]
  intro hh tk R a
  refine wpS.callWith_of (P := (Top.K w.params).In) (by rw [List.any_map]; exact List.any_eq_false.mpr fun _ _ => by simp) hk ?_
  have hargs : ∀ (Q : Args → Shared → Prop), wpS (model pr w) c.A (PySem.spliced (args.map fun e => (false, eval e c.env))) (fun vs s' => Q ⟨vs, []⟩ s') NoE (c.st hh tk) → wpS (model pr w) c.A (evalArgs f true (args.map fun e => (false, eval e c.env)) []) Q NoE (c.st hh tk) := by
    intro Q hq
    have e : evalArgs f true (args.map fun e => (false, eval e c.env)) [] = (PySem.spliced (args.map fun e => (false, eval e c.env)) >>= fun vs => PySem.holding (vs ++ []) (Pure.pure [] >>= fun l => Pure.pure vs >>= fun p => Pure.pure (⟨p, ([] : List Str).zip l⟩ : Args))) := by
      cases args <;> rfl
    rw [e]
    exact wpS.bind (wpS.mono hq (fun vs s' z => wpS.holding (wpS.bind (wpS.pure (wpS.bind (wpS.pure (wpS.pure z)))))) fun _ _ z => z)
  refine hargs _ (wpS.mono (ARG.spliced h hh tk R a) (fun xs s' z => ?_) fun _ _ z => z)
  obtain ⟨h', tk', vs, led', rfl, i, a', k⟩ := z
  refine ⟨?_, k _ (hf.append i) h' tk' R a'⟩
  obtain ⟨⟨mm, L, F, _⟩, _⟩ := a'
  exact c.X.keeps F.keep
section
variable {K : V → ALed → Prop}
theorem keeps_prim {M : Model} {f : Value} (e : keeperOf f = Pure.pure Keeper.machine := by rfl) (h : Heap) : ∃ k, (k = Keeper.frame ∨ k = Keeper.machine ∨ k = Keeper.boundFrame) ∧ Looks M h (keeperOf f) k := ⟨.machine, .inr (.inl rfl), Looks.of_pure e⟩
noncomputable def KeepOk (w : World) (f : Value) : Prop := ∀ h, (Top.K w.params).In h → ∃ k, (k = Keeper.frame ∨ k = Keeper.machine ∨ k = Keeper.boundFrame) ∧ Looks (model pr w) h (keeperOf f) k
@[reducible] noncomputable def kKeep (w : World) (K : Value → List V → ALed → Prop) : Value → List V → ALed → Prop := fun g vf led₁ => KeepOk w g ∧ K g vf led₁
@[reducible] noncomputable def kMeth3 (c : Cx w dd cs) (m : AFr) (args : List Expr) (K : V → ALed → Prop) : Value → List V → ALed → Prop := fun f vf led₂ => ARG c m led₂ args (kCall c m f vf K)
@[reducible] noncomputable def kMeth (c : Cx w dd cs) (m : AFr) (name : Str) (args : List Expr) (K : V → ALed → Prop) : V → ALed → Prop := fun a led₁ => METH c m led₁ a name (kKeep w (kMeth3 c m args K))
theorem E1.call {x : Str} {npos pos : Pos} {args : List Expr} {f : Addr} (hg : Glob w x (.ref f)) (hk : keepIn (Top.K w.params) (.ref f) = true) (hx : cs.names.lookup x = some .globalImplicit) (hs : noStar args = true)
    (h : ARG c m led args (kCall0 c m (.ref f) K)) : E1 c m led (.Call (.Name x npos) args [] pos) K := by
  show EV c m led (do PySem.callWith pos (← eval (.Name x npos) c.env) [] (backTo pos (starEach args c.env)) (backToKw pos (keywordEach [] c.env))) K
  refine CP.bind (Is := V.Is) (CP.mono (E1.glob (v := .ref f) (K := fun v led₁ => v = .ref f ∧ led₁ = led) hg rfl hx ⟨rfl, rfl⟩) fun v led₁ e xv iv => ?_)
  obtain ⟨rfl, rfl⟩ := e
  cases iv
  exact CP.callWith .nil hs (keeps_K hk) h
theorem E1.callB {x : Str} {npos pos : Pos} {args : List Expr} {f : Value} (hg : nsIn (Top.K w.params) mainGlobals x = some Option.none ∧ bootBuiltins x = some f ∧ x ≠ "__name__" ∧ (x == ("__debug__" : Str)) = false)
    (hk : keeperOf f = Pure.pure Keeper.machine) (hx : cs.names.lookup x = some .globalImplicit) (hs : noStar args = true)
    (h : ARG c m led args (kCall0 c m f K)) : E1 c m led (.Call (.Name x npos) args [] pos) K := by
  show EV c m led (do PySem.callWith pos (← eval (.Name x npos) c.env) [] (backTo pos (starEach args c.env)) (backToKw pos (keywordEach [] c.env))) K
  refine CP.bind (Is := fun (_ : Unit) v => v = f) (K := K) (CP.any fun hh tk R mm L F N l fr nd => Name_function_global c.hk hx (loadGlobal_builtin (env := c.env) ((topRead_of c.T).g.keeps F.keep) (mg_none_of c.X (topRead_of c.T).g hg.1) ((topRead_of c.T).b.keeps F.keep) (((topRead_of c.T).builtins _ hg.2.2.1).trans hg.2.1) (Post.mk (x := ()) rfl F N l fr nd ?_)) hg.2.2.2)
  intro v e
  subst e
  exact CP.callWith .nil hs (fun h _ => keeps_prim hk h) h
theorem E1.meth {o : Expr} {name : Str} {apos pos : Pos} {args : List Expr} {pl : Sem Bool} (hs : noStar args = true)
    (he : eval (.Call (.Attribute o name apos) args [] pos) c.env = (do
      let ov ← eval o c.env
      standAt apos.atName
      let (f, first) ← holding [ov] (getMethod ov name pl)
      PySem.callWith pos f first (backTo pos (starEach args c.env)) []) := by rfl)
    (h : E1 c m led o (kMeth c m name args K)) : E1 c m led (.Call (.Attribute o name apos) args [] pos) K := by
  refine CP.eq he (CP.bind (CP.mono h fun a led₁ h₁ xa ia => CP.stand (CP.bind (CP.holding (CP.mono (h₁ xa pl ia) fun q led₂ h₂ x ix => ?_)))))
  obtain ⟨f, first⟩ := x
  obtain ⟨rfl, i2⟩ := ix
  exact CP.callWith i2 hs h₂.1 h₂.2
end
end
section
variable {w : World} {dd : Nat} {cs : Scope} {c : Cx w dd cs} {m m' : AFr} {led led' : ALed}

section
variable {K : V → ALed → Prop} {a b : Int}
theorem BIN.add (k : K (.int (a + b)) led) : BIN c m led .Add (.int a) (.int b) K := by
  rintro xa xb ⟨t, rfl⟩ ⟨u, rfl⟩; exact CP.any fun h tk R mm L F N l f nd => add_int (Post.mk (isInt _ _) F N l f nd k)
theorem BIN.sub (k : K (.int (a - b)) led) : BIN c m led .Sub (.int a) (.int b) K := by
  rintro xa xb ⟨t, rfl⟩ ⟨u, rfl⟩; exact CP.any fun h tk R mm L F N l f nd => sub_int (Post.mk (isInt _ _) F N l f nd k)
theorem mulok_left (h1 : -(2 ^ 63) < a) (h2 : a < 2 ^ 63) : IntMulOk a b := IntMulOk.of_left (intBits_le_iff.mpr (by k_extra "o"))
theorem mulok_right (h1 : -(2 ^ 63) < b) (h2 : b < 2 ^ 63) : IntMulOk a b := IntMulOk.of_right (intBits_le_iff.mpr (by k_extra "o"))
theorem BIN.mul (k : K (.int (a * b)) led) (ok : (-(2 ^ 63) < a ∧ a < 2 ^ 63) ∨ (-(2 ^ 63) < b ∧ b < 2 ^ 63)) : BIN c m led .Mult (.int a) (.int b) K := by
  rintro xa xb ⟨t, rfl⟩ ⟨u, rfl⟩; exact CP.any fun h tk R mm L F N l f nd => mul_int (Post.mk (isInt _ _) F N l f nd k) (ok.elim (fun h => mulok_left h.1 h.2) fun h => mulok_right h.1 h.2)
theorem BIN.fdiv (k : K (.int (a.fdiv b)) led) (h0 : 0 < b) (h1 : b < 2 ^ 29) : BIN c m led .FloorDiv (.int a) (.int b) K := by
  rintro xa xb ⟨t, rfl⟩ ⟨u, rfl⟩; exact CP.any fun h tk R mm L F N l f nd => floordiv_int (by k_extra "o") (Post.mk (isInt _ _) F N l f nd k) (.inl (PyProof.noPylong_small (by k_extra "o")))
theorem BIN.mod (k : K (.int (a.fmod b)) led) (h0 : 0 < b) : BIN c m led .Mod (.int a) (.int b) K := by
  rintro xa xb ⟨t, rfl⟩ ⟨u, rfl⟩; exact CP.any fun h tk R mm L F N l f nd => mod_int' (by k_extra "o") (Post.mk (isInt _ _) F N l f nd k)
theorem BIN.pow (k : K (.int (a ^ b.toNat)) led) (h0 : 0 ≤ b) (h1 : b ≤ 1000000) (h2 : a.natAbs < 2 ^ 64) : BIN c m led .Pow (.int a) (.int b) K := by
  rintro xa xb ⟨t, rfl⟩ ⟨u, rfl⟩; exact CP.any fun h tk R mm L F N l f nd => pow_int_small h0 h1 h2 (Post.mk (isInt _ _) F N l f nd k)
theorem BIN.shl (k : K (.int (a * 2 ^ b.toNat)) led) (h0 : 0 ≤ b) (h1 : b ≤ 1000000) (h2 : a.natAbs < 2 ^ 64) : BIN c m led .LShift (.int a) (.int b) K := by
  rintro xa xb ⟨t, rfl⟩ ⟨u, rfl⟩; exact CP.any fun h tk R mm L F N l f nd => lshift_int_small h0 h1 h2 (Post.mk (isInt _ _) F N l f nd k)
theorem BIN.shr (k : K (.int (a.fdiv (2 ^ b.toNat))) led) (h0 : 0 ≤ b) : BIN c m led .RShift (.int a) (.int b) K := by
  rintro xa xb ⟨t, rfl⟩ ⟨u, rfl⟩; exact CP.any fun h tk R mm L F N l f nd => rshift_int h0 (Post.mk (isInt _ _) F N l f nd k)
theorem BIN.or (k : K (.int (Builtin.bitOr a b)) led) : BIN c m led .BitOr (.int a) (.int b) K := by
  rintro xa xb ⟨t, rfl⟩ ⟨u, rfl⟩; exact CP.any fun h tk R mm L F N l f nd => or_int (Post.mk (isInt _ _) F N l f nd k)
theorem BIN.and (k : K (.int (Builtin.bitAnd a b)) led) : BIN c m led .BitAnd (.int a) (.int b) K := by
  rintro xa xb ⟨t, rfl⟩ ⟨u, rfl⟩; exact CP.any fun h tk R mm L F N l f nd => and_int (Post.mk (isInt _ _) F N l f nd k)
theorem BIN.addS {x y : Str} (k : K (.str (x ++ y)) led) (hz : x.length + y.length ≤ 2 ^ 24) : BIN c m led .Add (.str x) (.str y) K := by
  rintro xa xb ⟨t, rfl⟩ ⟨u, rfl⟩; exact CP.any fun h tk R mm L F N l f nd => add_str (fun t' tk => Post.mk (isStr _ _) F N l f nd k) (by rw [sizeLine_eq]; exact hz)
end
section
variable {K : Bool → ALed → Prop} {a b : Int}
theorem CMP.lt (k : K (decide (a < b)) led) : CMP c m led .Lt (.int a) (.int b) K := by
  rintro xa xb ⟨t, rfl⟩ ⟨u, rfl⟩; exact CP.any fun h tk R mm L F N l f nd => lt_int (Post.mk (isBool _) F N l f nd ⟨_, rfl, k⟩)
theorem CMP.gt (k : K (decide (b < a)) led) : CMP c m led .Gt (.int a) (.int b) K := by
  rintro xa xb ⟨t, rfl⟩ ⟨u, rfl⟩; exact CP.any fun h tk R mm L F N l f nd => gt_int (Post.mk (isBool _) F N l f nd ⟨_, rfl, k⟩)
theorem CMP.le (k : K (decide (a ≤ b)) led) : CMP c m led .LtE (.int a) (.int b) K := by
  rintro xa xb ⟨t, rfl⟩ ⟨u, rfl⟩; exact CP.any fun h tk R mm L F N l f nd => le_int (Post.mk (isBool _) F N l f nd ⟨_, rfl, k⟩)
theorem CMP.ge (k : K (decide (b ≤ a)) led) : CMP c m led .GtE (.int a) (.int b) K := by
  rintro xa xb ⟨t, rfl⟩ ⟨u, rfl⟩; exact CP.any fun h tk R mm L F N l f nd => ge_int (Post.mk (isBool _) F N l f nd ⟨_, rfl, k⟩)
theorem CMP.eq (k : K (decide (a = b)) led) : CMP c m led .Eq (.int a) (.int b) K := by
  rintro xa xb ⟨t, rfl⟩ ⟨u, rfl⟩; exact CP.any fun h tk R mm L F N l f nd => eq_int (Post.mk (isBool _) F N l f nd ⟨_, rfl, by rw [show (a == b) = decide (a = b) from rfl]; exact k⟩)
theorem CMP.ne (k : K (decide (a ≠ b)) led) : CMP c m led .NotEq (.int a) (.int b) K := by
  rintro xa xb ⟨t, rfl⟩ ⟨u, rfl⟩; exact CP.any fun h tk R mm L F N l f nd => ne_int (Post.mk (isBool _) F N l f nd ⟨_, rfl, by rw [show (a != b) = decide (a ≠ b) by simp [bne, BEq.beq]]; exact k⟩)
theorem CMP.isNone {x : Addr} (k : K false led) : CMP c m led .Is (.ref x) .none K := by
  rintro xa xb rfl rfl; exact CP.any fun h tk R mm L F N l f nd => is_ref_none (Post.mk (isBool _) F N l f nd ⟨_, rfl, k⟩)
end

structure AttrOk (w : World) (C : Addr) (x : Str) : Prop where
  hg : plainGet (Top.K w.params) C x = true
  hh : hasDictIn (Top.K w.params) C = true
  ha : ∃ at_, findIn (Top.K w.params) (.ref C) x = some at_ ∧ noGet (Top.K w.params) at_ = true
  hs : findIn (Top.K w.params) (.ref C) "__setattr__" = some (some (.builtin "object.__setattr__"))
  hp : plainOver (Top.K w.params) C = true
  ht : takerIn (Top.K w.params) C x = some none
structure AttrIs (w : World) (C : Addr) (l : List (Str × V)) (es : List DictEntry) : Prop where
  at_ : ∀ q ∈ l, ∃ x, getL q.1 es = some (some x) ∧ q.2.Is x
  ok : ∀ q ∈ l, AttrOk w C q.1
  no : ∀ n, n ∉ l.map (·.1) → getL n es = some none
  nod : (l.map (·.1)).Nodup
  len : es.length ≤ l.length
noncomputable def cInst (C d : Addr) : Cell := fun o => o = instObj C d
noncomputable def cAttr (w : World) (C : Addr) (l : List (Str × V)) : Cell := fun o => ∃ es n, o = dictOf es n ∧ AttrIs w C l es
theorem V.Is.handed {v : V} {x : Value} (i : v.Is x) : handedIn x = true := by
  cases v <;> first | (obtain ⟨t, rfl⟩ := i; rfl) | (cases i; rfl)
theorem ATT.own {K : V → ALed → Prop} {x C d : Addr} {name : Str} {v : V} {l : List (Str × V)} (h1 : Has c led x (cInst C d)) (h2 : Has c led d (cAttr w C l)) (hm : (name, v) ∈ l) (k : K v led) : ATT c m led (.ref x) name K := by
  intro xa e; cases e
  exact CP.any fun h tk R mm L F N l f nd => by
    obtain ⟨_, rfl, g1⟩ := h1.get F N l
    obtain ⟨_, ⟨es, n, rfl, I⟩, g2⟩ := h2.get F N l
    obtain ⟨y, hy, iy⟩ := I.at_ _ hm
    have A := I.ok _ hm
    obtain ⟨at_, ha, hn⟩ := A.ha
    exact get_own F c.X (instOf g1 g2) A.hg A.hh ha hn hy iy.handed (Post.mk iy F N l f nd k)
structure Meth (w : World) (C : Addr) (name : Str) (f : Addr) : Prop where
  hg : plainGet (Top.K w.params) C name = true
  hf : findIn (Top.K w.params) (.ref C) name = some (some (.ref f))
  ht : isFn (Top.K w.params) (.ref f) = true
  hk : keepIn (Top.K w.params) (.ref f) = true
theorem METH.own {K : Value → List V → ALed → Prop} {x C d f : Addr} {name : Str} {l : List (Str × V)} (h1 : Has c led x (cInst C d)) (h2 : Has c led d (cAttr w C l)) (hM : Meth w C name f) (hn : name ∉ l.map (·.1)) (k : K (.ref f) [.ref x] led) :
    METH c m led (.ref x) name (kKeep w K) := by
  intro xa pl e; cases e
  exact CP.any fun h tk R mm L F N l f nd => by
    obtain ⟨_, rfl, g1⟩ := h1.get F N l
    obtain ⟨_, ⟨es, n, rfl, I⟩, g2⟩ := h2.get F N l
    exact method_inst F c.X (instOf g1 g2) hM.hg hM.hf hM.ht (I.no _ hn) (Post.mk (Is := MIs) (x := (Value.ref _, [V.ref _])) ⟨rfl, .cons rfl .nil⟩ F N l f nd ⟨keeps_K hM.hk, k⟩)

theorem Upd.of_split {d : Addr} {o o' : Obj} : ∀ {pre post : Led}, (∀ p ∈ pre, p.1 ≠ d) → (∀ p ∈ post, p.1 ≠ d) → Upd d o o' (pre ++ (d, o) :: post) (pre ++ (d, o') :: post)
  | [], _, _, h => .head h
  | p :: r, _, h1, h2 => .tail (h1 p (.head _)) (Upd.of_split (fun q hq => h1 q (.tail _ hq)) h2)
theorem split_of {p p' : Cell} {d : Addr} {R : ALed} {L : Led} (l : LedIs (led ++ R) L) (nd : ((led ++ R).map (·.1)).Nodup) (u : UpdL d p p' led led') :
    ∃ pre post o, L = pre ++ (d, o) :: post ∧ p o ∧ (∀ q ∈ pre, q.1 ≠ d) ∧ (∀ q ∈ post, q.1 ≠ d) ∧ (∀ o', p' o' → LedIs (led' ++ R) (pre ++ (d, o') :: post)) ∧ ((led' ++ R).map (·.1)).Nodup := by
  obtain ⟨x, y, rfl, rfl⟩ := u.split
  rw [List.append_assoc, List.cons_append] at l nd
  obtain ⟨L₁, L₂, rfl, l1, l2⟩ := l.split
  cases l2 with
  | cons hp l2 =>
    rename_i o L₂
    have nd' := nd
    rw [List.map_append, List.map_cons, List.nodup_append] at nd'
    refine ⟨L₁, L₂, o, rfl, hp, fun q hq e => ?_, fun q hq e => ?_, fun o' hp' => ?_, ?_⟩
    · have h1 : q.1 ∈ L₁.map (·.1) := List.mem_map_of_mem hq
      rw [l1.addr] at h1
      exact nd'.2.2 _ h1 d (.head _) e
    · have h1 : q.1 ∈ L₂.map (·.1) := List.mem_map_of_mem hq
      rw [l2.addr, e] at h1
      exact (List.nodup_cons.mp nd'.2.1).1 h1
    · rw [List.append_assoc, List.cons_append]
      exact l1.append (.cons hp' l2)
    · rw [List.append_assoc, List.cons_append, List.map_append, List.map_cons]
      rw [List.map_append, List.map_cons] at nd
      exact nd
theorem getL_put_self {n : Str} {hs : Int} {t : Tok} {v : Value} : ∀ {es : List DictEntry}, getL n (putL n hs (.str n t) v es) = some (some v)
  | [] => by simp [putL, getL, Value.isStr]
  | e :: r => by
    unfold putL
    split
    · rename_i he; simp [getL, he]
    · rename_i he
      have ih := getL_put_self (n := n) (hs := hs) (t := t) (v := v) (es := r)
      unfold getL at ih ⊢
      rw [List.find?_cons_of_neg (by simpa using he)]
      cases q : List.find? (fun x => x.key.isStr n) (putL n hs (.str n t) v r) with
      | some e' => rw [q] at ih; exact ih
      | none => rw [q] at ih; dsimp only at ih; split at ih <;> cases ih
theorem getL_put_other {n k : Str} {hs : Int} {t : Tok} {v : Value} (hk : k ≠ n) : ∀ {es : List DictEntry} {r : Option Value}, getL k es = some r → getL k (putL n hs (.str n t) v es) = some r
  | [], r, h => by
    have : (n == k) = false := by rw [beq_eq_false_iff_ne]; exact Ne.symm hk
    simpa [putL, getL, Value.isStr, this, DictEntry.refKey] using h
  | e :: es, r, h => by
    unfold putL
    split
    · rename_i he
      unfold getL at h ⊢
      by_cases q : e.key.isStr k = true
      · exfalso
        cases hkey : e.key <;> rw [hkey] at he q <;> first | cases he | skip
        simp only [Value.isStr, beq_iff_eq] at he q
        exact hk (q.symm.trans he)
      · rw [List.find?_cons_of_neg (by simpa using q)] at h ⊢
        cases hf : List.find? (fun x => x.key.isStr k) es with
        | some e' => rw [hf] at h; exact h
        | none =>
          rw [hf] at h
          simp only [List.any_cons] at h ⊢
          exact h
    · rename_i he
      unfold getL at h ⊢
      by_cases q : e.key.isStr k = true
      · simp only [List.find?_cons, q] at h ⊢; exact h
      · rw [List.find?_cons_of_neg (by simpa using q)] at h ⊢
        have hr : e.refKey = false ∨ ∃ e', List.find? (fun x => x.key.isStr k) es = some e' := by
          cases hf : List.find? (fun x => x.key.isStr k) es with
          | some e' => exact .inr ⟨e', rfl⟩
          | none =>
            rw [hf] at h
            dsimp only at h
            rw [List.any_cons] at h
            cases hb : e.refKey with
            | false => exact .inl rfl
            | true => rw [hb] at h; simp at h
        have h' : getL k es = some r := by
          unfold getL
          cases hf : List.find? (fun x => x.key.isStr k) es with
          | some e' => rw [hf] at h; exact h
          | none =>
            rw [hf] at h
            dsimp only at h ⊢
            rw [List.any_cons] at h
            rcases hr with hr | ⟨e', hr⟩
            · rw [hr, Bool.false_or] at h; exact h
            · rw [hf] at hr; cases hr
        have ih := getL_put_other (n := n) (k := k) (hs := hs) (t := t) (v := v) hk h'
        unfold getL at ih
        cases hf : List.find? (fun x => x.key.isStr k) (putL n hs (.str n t) v es) with
        | some e' => rw [hf] at ih; exact ih
        | none =>
          rw [hf] at ih
          dsimp only at ih ⊢
          rw [List.any_cons]
          rcases hr with hr | ⟨e', hr⟩
          · rw [hr, Bool.false_or]; exact ih
          · exfalso
            have hm := List.find?_some hr
            have hmem := List.mem_of_find?_eq_some hr
            have : e' ∈ putL n hs (.str n t) v es ∨ ∃ e'', e'' ∈ putL n hs (.str n t) v es ∧ e''.key.isStr k = true := by
              clear hf ih h h' hr
              induction es with
              | nil => cases hmem
              | cons a r ih =>
                unfold putL
                split
                · rename_i ha
                  rcases List.mem_cons.mp hmem with rfl | hmem
                  · exact .inr ⟨_, .head _, hm⟩
                  · exact .inl (.tail _ hmem)
                · rcases List.mem_cons.mp hmem with rfl | hmem
                  · exact .inl (.head _)
                  · rcases ih hmem with q | ⟨e'', q, q'⟩
                    · exact .inl (.tail _ q)
                    · exact .inr ⟨e'', .tail _ q, q'⟩
            rcases this with q | ⟨e'', q, q'⟩
            · exact absurd hm (List.find?_eq_none.mp hf e' q)
            · exact absurd q' (List.find?_eq_none.mp hf e'' q)
theorem putL_len {n : Str} {hs : Int} {k v : Value} : ∀ {es : List DictEntry}, (putL n hs k v es).length ≤ es.length + 1
  | [] => Nat.le_refl _
  | e :: r => by unfold putL; split <;> simp only [List.length_cons] <;> first | k_extra "o" | exact Nat.add_le_add_right putL_len 1
theorem putL_len_old {n : Str} {hs : Int} {k v x : Value} : ∀ {es : List DictEntry}, getL n es = some (some x) → (putL n hs k v es).length = es.length
  | [], h => by simp [getL] at h
  | e :: r, h => by
    unfold putL
    split
    · rfl
    · rename_i he
      have h' : getL n r = some (some x) := by
        unfold getL at h ⊢
        rw [List.find?_cons_of_neg (by simpa using he)] at h
        cases hf : List.find? (fun x => x.key.isStr n) r with
        | some e' => rw [hf] at h; exact h
        | none => rw [hf] at h; dsimp only at h; split at h <;> cases h
      rw [List.length_cons, List.length_cons, putL_len_old h']
theorem AttrIs.upd {C : Addr} {l l' : List (Str × V)} {es : List DictEntry} {n : Str} {o v : V} {xv : Value} {hs : Int} {t : Tok} (I : AttrIs w C l es) (u : UpdL n o v l l') (iv : v.Is xv) : AttrIs w C l' (putL n hs (.str n t) xv es) := by
  obtain ⟨x, y, rfl, rfl⟩ := u.split
  have hn : ((x ++ (n, v) :: y).map (·.1)) = ((x ++ (n, o) :: y).map (·.1)) := by simp
  have hne : ∀ q, q ∈ x ∨ q ∈ y → q.1 ≠ n := by
    have := I.nod
    rw [List.map_append, List.map_cons, List.nodup_append, List.nodup_cons] at this
    intro q hq e
    rcases hq with hq | hq
    · exact this.2.2 _ (List.mem_map_of_mem hq) n (.head _) e
    · have h1 := List.mem_map_of_mem (f := Prod.fst) hq
      rw [e] at h1
      exact this.2.1.1 h1
  obtain ⟨xo, ho, -⟩ := I.at_ (n, o) (List.mem_append_right _ (.head _))
  refine ⟨fun q hq => ?_, fun q hq => ?_, fun k hk => ?_, by rw [hn]; exact I.nod, ?_⟩
  · rcases List.mem_append.mp hq with hq | hq
    · obtain ⟨z, h1, h2⟩ := I.at_ q (List.mem_append_left _ hq)
      exact ⟨z, getL_put_other (hne q (.inl hq)) h1, h2⟩
    · rcases List.mem_cons.mp hq with rfl | hq
      · exact ⟨xv, getL_put_self, iv⟩
      · obtain ⟨z, h1, h2⟩ := I.at_ q (List.mem_append_right _ (.tail _ hq))
        exact ⟨z, getL_put_other (hne q (.inr hq)) h1, h2⟩
  · rcases List.mem_append.mp hq with hq | hq
    · exact I.ok q (List.mem_append_left _ hq)
    · rcases List.mem_cons.mp hq with rfl | hq
      · exact I.ok (n, o) (List.mem_append_right _ (.head _))
      · exact I.ok q (List.mem_append_right _ (.tail _ hq))
  · rw [hn] at hk
    refine getL_put_other (fun e => hk ?_) (I.no k hk)
    subst e
    simp
  · rw [putL_len_old ho]
    have := I.len
    simp only [List.length_append, List.length_cons] at this ⊢
    exact this
theorem AttrIs.new {C : Addr} {l : List (Str × V)} {es : List DictEntry} {n : Str} {v : V} {xv : Value} {hs : Int} {t : Tok} (I : AttrIs w C l es) (A : AttrOk w C n) (hn : n ∉ l.map (·.1)) (iv : v.Is xv) : AttrIs w C ((n, v) :: l) (putL n hs (.str n t) xv es) := by
  refine ⟨fun q hq => ?_, fun q hq => ?_, fun k hk => ?_, ?_, ?_⟩
  · rcases List.mem_cons.mp hq with rfl | hq
    · exact ⟨xv, getL_put_self, iv⟩
    · obtain ⟨z, h1, h2⟩ := I.at_ q hq
      exact ⟨z, getL_put_other (fun e => hn (by rw [← e]; exact List.mem_map_of_mem hq)) h1, h2⟩
  · rcases List.mem_cons.mp hq with rfl | hq
    · exact A
    · exact I.ok q hq
  · rw [List.map_cons, List.mem_cons, not_or] at hk
    exact getL_put_other hk.1 (I.no k hk.2)
  · rw [List.map_cons, List.nodup_cons]; exact ⟨hn, I.nod⟩
  · exact Nat.le_trans putL_len (Nat.add_le_add_right I.len 1)
theorem AttrIs.nil {C : Addr} : AttrIs w C [] [] := ⟨fun _ h => (nomatch h), fun _ h => (nomatch h), fun _ _ => rfl, .nil, Nat.le_refl _⟩
theorem SETA.upd {K : ALed → Prop} {x C d : Addr} {n : Str} {o v : V} {l l' : List (Str × V)} (h1 : Has c led x (cInst C d)) (hu : UpdL d (cAttr w C l) (cAttr w C l') led led') (ua : UpdL n o v l l') (hz : l.length < 100) (k : K led') : SETA c m led (.ref x) n v K := by
  intro xa xv e iv; cases e
  refine CP.any fun h tk R mm L F N ll f nd => ?_
  obtain ⟨_, rfl, g1⟩ := h1.get F N ll
  obtain ⟨pre, post, o₁, rfl, ⟨es, ne, rfl, I⟩, p1, p2, p3, p4⟩ := split_of ll nd hu
  have g2 := (N (d, _) (List.mem_append_right _ (.head _))).1
  have A : AttrOk w C n := by obtain ⟨x, y, rfl, _⟩ := ua.split; exact I.ok (n, o) (List.mem_append_right _ (.head _))
  have hl : (getL n es).isSome = true := by
    obtain ⟨x, y, rfl, _⟩ := ua.split
    obtain ⟨z, hz, _⟩ := I.at_ (n, o) (List.mem_append_right _ (.head _))
    rw [hz]; rfl
  refine set_dict F c.X N (instOf g1 g2) rfl A.hs A.hp A.ht A.hh hl rfl (Upd.of_split p1 p2) (Nat.le_trans putL_len (by have := I.len; k_extra "o")) fun h' F' N' => ?_
  exact Post.mk (x := ()) trivial F' N' (p3 _ ⟨_, _, rfl, I.upd ua iv⟩) f p4 k
theorem SETA.new {K : ALed → Prop} {x C d : Addr} {n : Str} {v : V} {l : List (Str × V)} (h1 : Has c led x (cInst C d)) (hu : UpdL d (cAttr w C l) (cAttr w C ((n, v) :: l)) led led') (A : AttrOk w C n) (hn : n ∉ l.map (·.1)) (hz : l.length < 100) (k : K led') : SETA c m led (.ref x) n v K := by
  intro xa xv e iv; cases e
  refine CP.any fun h tk R mm L F N ll f nd => ?_
  obtain ⟨_, rfl, g1⟩ := h1.get F N ll
  obtain ⟨pre, post, o₁, rfl, ⟨es, ne, rfl, I⟩, p1, p2, p3, p4⟩ := split_of ll nd hu
  have g2 := (N (d, _) (List.mem_append_right _ (.head _))).1
  refine set_dict F c.X N (instOf g1 g2) rfl A.hs A.hp A.ht A.hh (by rw [I.no _ hn]; rfl) rfl (Upd.of_split p1 p2) (Nat.le_trans putL_len (by have := I.len; k_extra "o")) fun h' F' N' => ?_
  exact Post.mk (x := ()) trivial F' N' (p3 _ ⟨_, _, rfl, I.new A hn iv⟩) f p4 k
end
section
variable {w : World} {dd : Nat} {cs : Scope} {c : Cx w dd cs} {m m' : AFr} {led led' : ALed}

inductive PutF (cs : Scope) (x : Str) (v : V) : AFr → AFr → Prop
  | upd {o : V} {m m' : AFr} : UpdL x o v m m' → PutF cs x v m m'
  | new {m : AFr} : x ∉ m.map (·.1) → cs.names.lookup x = some .local → (x == ("__debug__" : Str)) = false → PutF cs x v m ((x, v) :: m)
noncomputable def StoreK (cs : Scope) (x : Str) (v : V) (m : AFr) (k : AFr → Prop) : Prop := ∃ m', PutF cs x v m m' ∧ k m'
@[reducible] noncomputable def kPut (K : AFr → ALed → Prop) (led : ALed) : AFr → Prop := fun m' => K m' led
theorem StoreK.mk {x : Str} {v : V} {m m' : AFr} {k : AFr → Prop} (p : PutF cs x v m m') (h : k m') : StoreK cs x v m k := ⟨m', p, h⟩
theorem FrIs.put {mm : Str → Option Value} {x : Str} {v : V} {xv : Value} (f : FrIs cs m mm) (p : PutF cs x v m m') (i : v.Is xv) : FrIs cs m' (fun y => if y = x then some xv else mm y) := by
  cases p with
  | upd u =>
    obtain ⟨a, b, rfl, rfl⟩ := u.split
    rename_i o
    have hn : ((a ++ (x, v) :: b).map (·.1)) = ((a ++ (x, o) :: b).map (·.1)) := by simp
    have nd := f.nod
    rw [List.map_append, List.map_cons, List.nodup_append, List.nodup_cons] at nd
    refine ⟨fun q hq => ?_, fun q hq => ?_, by rw [hn]; exact f.nod⟩
    · rcases List.mem_append.mp hq with hq | hq
      · have hne : q.1 ≠ x := nd.2.2 _ (List.mem_map_of_mem hq) x (.head _)
        rw [if_neg hne]; exact f.at_ q (List.mem_append_left _ hq)
      · rcases List.mem_cons.mp hq with rfl | hq
        · exact ⟨xv, if_pos rfl, i⟩
        · have hne : q.1 ≠ x := fun e => by have h1 := List.mem_map_of_mem (f := Prod.fst) hq; rw [e] at h1; exact nd.2.1.1 h1
          rw [if_neg hne]; exact f.at_ q (List.mem_append_right _ (.tail _ hq))
    · rcases List.mem_append.mp hq with hq | hq
      · exact f.loc q (List.mem_append_left _ hq)
      · rcases List.mem_cons.mp hq with rfl | hq
        · exact f.loc (x, o) (List.mem_append_right _ (.head _))
        · exact f.loc q (List.mem_append_right _ (.tail _ hq))
  | new h1 h2 h3 =>
    refine ⟨fun q hq => ?_, fun q hq => ?_, by rw [List.map_cons, List.nodup_cons]; exact ⟨h1, f.nod⟩⟩
    · rcases List.mem_cons.mp hq with rfl | hq
      · exact ⟨xv, if_pos rfl, i⟩
      · have hne : q.1 ≠ x := fun e => by have h4 := List.mem_map_of_mem (f := Prod.fst) hq; rw [e] at h4; exact h1 h4
        rw [if_neg hne]; exact f.at_ q hq
    · rcases List.mem_cons.mp hq with rfl | hq
      · exact ⟨h2, h3⟩
      · exact f.loc q hq
theorem PutF.loc {x : Str} {v : V} {mm : Str → Option Value} (f : FrIs cs m mm) (p : PutF cs x v m m') : cs.names.lookup x = some .local := by
  cases p with
  | upd u => obtain ⟨a, b, rfl, rfl⟩ := u.split; exact (f.loc (x, _) (List.mem_append_right _ (.head _))).1
  | new h1 h2 h3 => exact h2

noncomputable def PostF {α : Type} (c : Cx w dd cs) (R : ALed) (K : AFr → ALed → Prop) (_ : α) (s' : Shared) : Prop :=
  ∃ h' tk' m' led', s' = c.st h' tk' ∧ At c h' m' (led' ++ R) ∧ K m' led'
noncomputable def AS (c : Cx w dd cs) (m : AFr) (led : ALed) (target : Expr) (v : V) (K : AFr → ALed → Prop) : Prop :=
  ∀ xv, v.Is xv → ∀ h tk R, At c h m (led ++ R) → wpAny (model pr w) c.A (assign target c.env xv) (PostF c R K) NoE (c.st h tk)
theorem store_ {x : Str} {v : V} {xv : Value} {h : Heap} {tk : Nat} {R : ALed} {Q : Unit → Shared → Prop} (a : At c h m (led ++ R)) (p : PutF cs x v m m') (i : v.Is xv) (k : ∀ h' tk', At c h' m' (led ++ R) → Q () (c.st h' tk')) :
    wpAny (model pr w) c.A (storeName c.env x xv) Q NoE (c.st h tk) := by
  obtain ⟨⟨mm, L, F, N, l, f⟩, nd⟩ := a
  exact wpAny_storeName_local (p.loc f) F.ns (fun h' hn hs => k h' _ ⟨⟨_, L, F.set hn hs, N.set hs, l, f.put p i⟩, nd⟩) (by show (cs.kind == .class || (cs.kind == .module && c.L != mainGlobals)) = false; rw [c.hk]; rfl)
theorem AS.name {x : Str} {pos : Pos} {v : V} {K : AFr → ALed → Prop} (h : StoreK cs x v m (kPut K led)) : AS c m led (.Name x pos) v K := by
  obtain ⟨m', p, k⟩ := h
  intro xv i h tk R a
  exact assign_Name (store_ a p i fun h' tk' a' => ⟨h', tk', m', led, rfl, a', k⟩)
noncomputable def StoreTs (c : Cx w dd cs) : List Expr → List V → AFr → ALed → (AFr → ALed → Prop) → Prop
  | [], [], m, led, K => K m led
  | e :: es, v :: vs, m, led, K => AS c m led e v (fun m' led' => StoreTs c es vs m' led' K)
  | _, _, _, _, _ => False
theorem assignEach_plain : ∀ {es : List Expr}, noStar es = true → ∀ env, assignEach es env = es.map fun e => (false, assign e env)
  | [], _, _ => rfl
  | e :: r, h, env => by
    have hr : noStar r = true := by cases e <;> first | exact h | cases h
    have he : assignEach (e :: r) env = (false, assign e env) :: assignEach r env := by cases e <;> first | rfl | cases h
    rw [he, assignEach_plain hr]; rfl
noncomputable def cTup (vs : List V) : Cell := fun o => ∃ xs, o = tupO xs ∧ AreV vs xs
noncomputable def cList (vs : List V) : Cell := fun o => ∃ xs n, o = W.listOf xs.toArray n ∧ AreV vs xs
theorem StoreTs.run {K : AFr → ALed → Prop} {R : ALed} {es : List Expr} : ∀ {vs : List V} {m : AFr} {led : ALed} {xs : List Value} {h : Heap} {tk : Nat}, StoreTs c es vs m led K → AreV vs xs → At c h m (led ++ R) →
    wpAny (model pr w) c.A (assignInOrder (es.map fun e => assign e c.env) xs) (PostF c R K) NoE (c.st h tk) := by
  induction es with
  | nil =>
    intro vs m led xs h tk k is a
    cases is with
    | nil => exact assignInOrder_nil ⟨h, tk, _, led, rfl, a, k⟩
    | cons _ _ => exact k.elim
  | cons e es ih =>
    intro vs m led xs h tk k is a
    cases is with
    | nil => exact k.elim
    | cons i is =>
      refine assignInOrder_cons (wpAny_mono (k _ i h tk R a) (fun _ s₂ z => ?_) fun _ _ e => e)
      obtain ⟨h₂, tk₂, m', led₂, rfl, a₂, k₂⟩ := z
      exact ih k₂ is a₂
theorem AS.tup {elts : List Expr} {k : Nat} {pos : Pos} {t : Addr} {vs : List V} {K : AFr → ALed → Prop} (hs : noStar elts = true) (ht : Has c led t (cTup vs)) (hl : elts.length = vs.length) (h : StoreTs c elts vs m led K) : AS c m led (.Tuple elts k pos) (.ref t) K := by
  intro xv e hh tk R a; cases e
  obtain ⟨⟨mm, L, F, N, l, f⟩, nd⟩ := a
  obtain ⟨_, ⟨xs, rfl, is⟩, g⟩ := ht.get F N l
  have e1 := assignEach_plain hs c.env
  refine unpackN_ F N (tupOf g) rfl (by rw [e1, List.length_map, hl, List.size_toArray, is.length]) (by rw [e1, List.findIdx?_map]; exact List.findIdx?_eq_none_iff.mpr fun _ _ => rfl) fun h' F' N' => ?_
  rw [e1, List.map_map]
  exact h.run is ⟨⟨mm, L, F', N', l, f⟩, nd⟩

section
variable (c : Cx w dd cs) (m : AFr) (Q : AFl → AFr → ALed → Prop)
@[reducible] noncomputable def kRet : V → ALed → Prop := fun v led₁ => Q (.ret v) m led₁
@[reducible] noncomputable def kExp : V → ALed → Prop := fun _ led₁ => Q .next m led₁
@[reducible] noncomputable def kTest (body orelse : List Stmt) : Bool → ALed → Prop := fun b led₁ => (b = true → SP c m led₁ body Q) ∧ (b = false → SP c m led₁ orelse Q)
@[reducible] noncomputable def kName (cs : Scope) (x : Str) : V → ALed → Prop := fun v led₁ => StoreK cs x v m (kPut (Q .next) led₁)
@[reducible] noncomputable def kTup (target : Expr) : V → ALed → Prop := fun v led₁ => AS c m led₁ target v (Q .next)
@[reducible] noncomputable def kNx : ALed → Prop := fun led₁ => Q .next m led₁
@[reducible] noncomputable def kAttr2 (name : Str) (v : V) : V → ALed → Prop := fun a led₂ => SETA c m led₂ a name v (kNx m Q)
@[reducible] noncomputable def kAttr1 (o : Expr) (name : Str) : V → ALed → Prop := fun v led₁ => E1 c m led₁ o (kAttr2 c m Q name v)
@[reducible] noncomputable def kItem3 (a v : V) : V → ALed → Prop := fun b led₃ => SETI c m led₃ a b v (kNx m Q)
@[reducible] noncomputable def kItem2 (i : Expr) (v : V) : V → ALed → Prop := fun a led₂ => E1 c m led₂ i (kItem3 c m Q a v)
@[reducible] noncomputable def kItem1 (o i : Expr) : V → ALed → Prop := fun v led₁ => E1 c m led₁ o (kItem2 c m Q i v)
end
section
variable {Q : AFl → AFr → ALed → Prop}
theorem SP.nil (k : Q .next m led) : SP c m led [] Q := fun h tk R a => wpS.execs_nil ⟨h, tk, .next, m, led, rfl, rfl, a, k⟩
theorem SP.cons {st : Stmt} {rest : List Stmt} (h : ST c m led st (AndThen c rest Q)) : SP c m led (st :: rest) Q := fun hh tk R a =>
  wpS.dirty (wpS.mono (h hh tk R a) (fun f s' z => by
    obtain ⟨h', tk', fl, m', led', rfl, i, a', k⟩ := z
    cases fl with
    | next => cases i; exact k h' tk' R a'
    | brk => cases i; exact ⟨h', tk', .brk, m', led', rfl, rfl, a', k⟩
    | cont => cases i; exact ⟨h', tk', .cont, m', led', rfl, rfl, a', k⟩
    | ret v => obtain ⟨x, rfl, hx⟩ := i; exact ⟨h', tk', .ret v, m', led', rfl, ⟨x, rfl, hx⟩, a', k⟩) fun _ _ e => e)
theorem SP.drop {body : List Stmt} {keep rest : ALed} {mk mr : AFr} (t : TakesL keep led rest) (tm : TakesL mk m mr) (h : SP c mk keep body Q) : SP c m led body Q := fun hh tk R a => h hh tk R ((a.keep t).frame tm)
theorem ST.pass {pos : Pos} (k : Q .next m led) : ST c m led (.Pass pos) Q := fun h tk R a => wpS.lift (wpAny_Pass ⟨h, tk, .next, m, led, rfl, rfl, a, k⟩)
theorem ST.ret {e : Expr} {pos : Pos} (h : E1 c m led e (kRet m Q)) : ST c m led (.Return (some e) pos) Q := fun hh tk R a =>
  wpS.Return_some (wpS.mono (h hh tk R a) (fun v s' z => by obtain ⟨h', tk', x, led', e, i, a', k⟩ := z; exact ⟨h', tk', .ret x, m, led', e, ⟨v, rfl, i⟩, a', k⟩) fun _ _ e => e)
theorem ST.expr {e : Expr} {pos : Pos} (h : E1 c m led e (kExp m Q)) (hi : interactive c.env = false := by rfl) (hs : swapsWith e none pos.line c.env = Pure.pure false := by rfl) : ST c m led (.Expr e pos) Q := fun hh tk R a =>
  by
    rw [exec_Expr c.env e pos hi hs]
    refine wpS.bind (wpS.standAt (wpS.bind (wpS.mono (h hh tk R a) (fun v s' z => ?_) fun _ _ e => e)))
    obtain ⟨h', tk', x, led', rfl, i, a', k⟩ := z
    exact wpS.lift (wpAny_dropValue ⟨h', tk', .next, m, led', rfl, rfl, a', k⟩)
theorem ST.if_ {test : Expr} {body orelse : List Stmt} {pos : Pos} (h : T1 c m led test (kTest c m Q body orelse)) : ST c m led (.If test body orelse pos) Q := fun hh tk R a => by
  rw [exec_If]
  refine wpS.bind (wpS.standAt (wpS.bind (wpS.mono (h hh tk R a) (fun b s' z => ?_) fun _ _ e => e)))
  obtain ⟨h', tk', x, led', rfl, rfl, a', k⟩ := z
  cases x
  · exact k.2 rfl h' tk' R a'
  · exact k.1 rfl h' tk' R a'
theorem ST.name {x : Str} {pos' pos : Pos} {e : Expr} (h : E1 c m led e (kName m Q cs x)) (hs : swapsWith e (some (.Name x pos')) pos.line c.env = Pure.pure false := by rfl) : ST c m led (.Assign [.Name x pos'] e pos) Q := fun hh tk R a =>
  wpS.Assign_Name (wpS.mono (h hh tk R a) (fun v s' z => by
    obtain ⟨h', tk', xv, led', rfl, i, a', m', p, k⟩ := z
    exact store_ a' p i fun h'' tk'' a'' => ⟨h'', tk'', .next, m', led', rfl, rfl, a'', k⟩) fun _ _ e => e) hs
theorem ST.tuple {elts : List Expr} {k : Nat} {tpos pos : Pos} {e : Expr} (h : E1 c m led e (kTup c m Q (.Tuple elts k tpos)))
    (hs : swapsWithSole [.Tuple elts k tpos] e pos.line c.env = Pure.pure false := by rfl) (hw : swappedStores [.Tuple elts k tpos] e c.env = Pure.pure none := by rfl) : ST c m led (.Assign [.Tuple elts k tpos] e pos) Q := fun hh tk R a => by
  rw [exec_Assign]
  refine wpS.bind (wpS.standAt ?_)
  rw [hs]
  refine wpS.bind (wpS.pure ?_)
  rw [if_neg (by decide)]
  refine wpS.bind (wpS.mono (h hh tk R a) (fun v s' z => ?_) fun _ _ e => e)
  obtain ⟨h', tk', xv, led', rfl, i, a', kk⟩ := z
  rw [hw]
  refine wpS.bind (wpS.pure ?_)
  show wpS _ _ (do assignAll v [assign (.Tuple elts k tpos) c.env]; Pure.pure Flow.next) _ _ _
  refine wpS.bind (wpS.lift (wpAny_mono (kk v i h' tk' R a') (fun _ s₂ z => ?_) fun _ _ e => e))
  obtain ⟨h₂, tk₂, m', led₂, rfl, a₂, k₂⟩ := z
  exact wpS.pure ⟨h₂, tk₂, .next, m', led₂, rfl, rfl, a₂, k₂⟩
noncomputable def StoreNs (cs : Scope) : List Str → List V → AFr → (AFr → Prop) → Prop
  | [], [], m, k => k m
  | x :: xs, v :: vs, m, k => StoreK cs x v m fun m' => StoreNs cs xs vs m' k
  | _, _, _, _ => False
theorem StoreNs.run {K : AFr → ALed → Prop} {R : ALed} {ns : List Str} : ∀ {vs : List V} {m : AFr} {xs : List Value} {h : Heap} {tk : Nat}, StoreNs cs ns vs m (fun m' => K m' led) → AreV vs xs → At c h m (led ++ R) →
    wpAny (model pr w) c.A (assignInOrder (ns.map fun n => bindName c.env n) xs) (PostF c R K) NoE (c.st h tk) := by
  induction ns with
  | nil =>
    intro vs m xs h tk k is a
    cases is with
    | nil => exact assignInOrder_nil ⟨h, tk, _, led, rfl, a, k⟩
    | cons _ _ => exact k.elim
  | cons x es ih =>
    intro vs m xs h tk k is a
    cases is with
    | nil => exact k.elim
    | cons i is =>
      obtain ⟨m', p, k⟩ := k
      exact assignInOrder_cons (wpAny_bindName (store_ a p i fun h' tk' a' => ih k is a'))
theorem AreV.reverse {vs : List V} {xs : List Value} (h : AreV vs xs) : AreV vs.reverse xs.reverse := by
  induction h with
  | nil => exact .nil
  | cons i _ ih => rw [List.reverse_cons, List.reverse_cons]; exact ih.append (.cons i .nil)
theorem ST.swap {elts : List Expr} {k : Nat} {tpos pos : Pos} {e : Expr} {names : List Str}
    (h : E1 c m led e fun v led₁ => ∃ t vs, v = .ref t ∧ (t, cTup vs) ∈ led₁ ∧ names.length = vs.length ∧ StoreNs cs names.reverse vs.reverse m fun m' => Q .next m' led₁)
    (hs : swapsWithSole [.Tuple elts k tpos] e pos.line c.env = Pure.pure false := by rfl) (hw : swappedStores [.Tuple elts k tpos] e c.env = Pure.pure (some names) := by rfl) : ST c m led (.Assign [.Tuple elts k tpos] e pos) Q := fun hh tk R a => by
  rw [exec_Assign]
  refine wpS.bind (wpS.standAt ?_)
  rw [hs]
  refine wpS.bind (wpS.pure ?_)
  rw [if_neg (by decide)]
  refine wpS.bind (wpS.mono (h hh tk R a) (fun v s' z => ?_) fun _ _ e => e)
  obtain ⟨h', tk', xv, led', rfl, i, a', t, vs, rfl, ht, hl, k⟩ := z
  cases i
  rw [hw]
  refine wpS.bind (wpS.pure ?_)
  obtain ⟨⟨mm, L, F, N, l, f⟩, nd⟩ := a'
  obtain ⟨_, ⟨xs, rfl, is⟩, g⟩ := (Has.l (c := c) ht).get F N l
  refine wpS.lift ?_
  show wpAny _ _ (unpackItems (.ref t) names.length none >>= fun items => do assignInOrder (names.reverse.map fun n => bindName c.env n) items.reverse; Pure.pure Flow.next) _ _ _
  refine wpAny_bind (unpackItemsN_ F N (tupOf g) rfl (by rw [hl, List.size_toArray, is.length]) fun h₂ F₂ N₂ => ?_)
  rw [List.toList_toArray]
  refine wpAny_bind (wpAny_mono (StoreNs.run (K := fun m' led => Q .next m' led) k is.reverse ⟨⟨mm, L, F₂, N₂, l, f⟩, nd⟩) (fun _ s₂ z => ?_) fun _ _ e => e)
  obtain ⟨h₂, tk₂, m', led₂, rfl, a₂, k₂⟩ := z
  exact wpAny_pure ⟨h₂, tk₂, .next, m', led₂, rfl, rfl, a₂, k₂⟩
theorem ST.attr {o e : Expr} {name : Str} {pos' pos : Pos} (h : E1 c m led e (kAttr1 c m Q o name))
    (hs : swapsWith e (some (.Attribute o name pos')) pos.line c.env = Pure.pure false := by rfl) : ST c m led (.Assign [.Attribute o name pos'] e pos) Q := fun hh tk R a => by
  rw [plainObj_exec_Assign_Attribute o name pos' e pos hs]
  refine wpS.bind (wpS.standAt (wpS.bind (wpS.mono (h hh tk R a) (fun v s' z => ?_) fun _ _ e => e)))
  obtain ⟨h', tk', xv, led', rfl, i, a', k⟩ := z
  rw [assign_Attribute]
  refine wpS.bind (wpS.bind (wpS.holding (wpS.mono (k h' tk' R a') (fun ov s₂ z => ?_) fun _ _ e => e)))
  obtain ⟨h₂, tk₂, xo, led₂, rfl, i₂, a₂, k₂⟩ := z
  refine wpS.bind (wpS.standAt (wpS.bind (wpS.holding (wpS.mono (k₂ ov v i₂ i h₂ tk₂ R a₂) (fun _ s₃ z => ?_) fun _ _ e => e))))
  obtain ⟨h₃, tk₃, _, led₃, rfl, _, a₃, k₃⟩ := z
  exact wpS.lift (wpAny_release' (wpS.pure ⟨h₃, tk₃, .next, m, led₃, rfl, rfl, a₃, k₃⟩))
theorem ST.item {o i e : Expr} {pos' pos : Pos} (h : E1 c m led e (kItem1 c m Q o i))
    (hs : swapsWith e (some (.Subscript o i pos')) pos.line c.env = Pure.pure false := by rfl) : ST c m led (.Assign [.Subscript o i pos'] e pos) Q := fun hh tk R a => by
  rw [exec_Assign_Subscript o i pos' e pos hs]
  refine wpS.bind (wpS.standAt (wpS.bind (wpS.mono (h hh tk R a) (fun v s' z => ?_) fun _ _ e => e)))
  obtain ⟨h', tk', xv, led', rfl, iv, a', k⟩ := z
  rw [assign_Subscript]
  refine wpS.bind (wpS.bind (wpS.holding (wpS.mono (k h' tk' R a') (fun ov s₂ z => ?_) fun _ _ e => e)))
  obtain ⟨h₂, tk₂, xo, led₂, rfl, io, a₂, k₂⟩ := z
  refine wpS.bind (wpS.holding (wpS.mono (k₂ h₂ tk₂ R a₂) (fun bv s₃ z => ?_) fun _ _ e => e))
  obtain ⟨h₃, tk₃, xb, led₃, rfl, ib, a₃, k₃⟩ := z
  refine wpS.bind (wpS.standAt (wpS.bind (wpS.holding (wpS.mono (k₃ ov bv v io ib iv h₃ tk₃ R a₃) (fun _ s₃ z => ?_) fun _ _ e => e))))
  obtain ⟨h₄, tk₄, _, led₄, rfl, _, a₄, k₄⟩ := z
  exact wpS.lift (wpAny_release' (wpS.pure ⟨h₄, tk₄, .next, m, led₄, rfl, rfl, a₄, k₄⟩))
end
end
section
theorem wpS.look {α β : Type} {M : Model} {A : Around} {E : Value → Shared → Prop} {s : Shared} {t : Sem α} {f : α → Sem β} {r : α} {Q : β → Shared → Prop} (L : Looks M s.heap t r) (h : wpS M A (f r) Q E s) : wpS M A (t >>= f) Q E s := wpS.bindA (L.here h)
open Builtin in
theorem tc_eq (C : Addr) (rest : List Value) : ∃ (half other : Sem Fin) (odd : Value → Sem Fin) (bad : Value → Value → Sem Fin), Builtin.«type.__call__» ⟨.ref C :: rest, []⟩ = (mroOf (.ref C) >>= fun l => if l.isEmpty = true then half else (Bind.madeBy (.ref C) >>= fun o => match o with
    | some nm => Pure.pure (Value.builtin nm) >>= fun new => holding [new] (PySem.call new (.ref C :: rest) []) >>= fun obj => isInstance obj (.ref C) >>= fun b => if (!b) = true then odd obj else
        (holding [obj] (callSpecial? obj "__init__" rest []) >>= fun r => match r with
          | none => ret obj
          | some r => if (r != .none) = true then bad obj r else ret obj)
    | none => other)) := ⟨_, _, _, _, rfl⟩
theorem cl_tc (args : Args) : cleanCode (.builtin "type.__call__" args) = true := by simp [cleanCode, Builtin.Bytes.decodersThatHold]
theorem codeS.builtin {prog : Program} {w : World} {A : Around} {R : Result → Shared → Prop} {s : Shared} {nm : String} {args : Args} {b : Builtin} (hb : entryFor table nm = some b)
    (h : wpS (model prog w) (A.under (.builtin nm args)) (b args) (fun fin s' => match fin with | .done f => R (.ok f) s' | .again c' => cleanCode c' = true ∧ c'.quiet = true ∧ codeS (model prog w) A c' R s') (fun e s' => R (.error e) s') s) : codeS (model prog w) A (.builtin nm args) R s := by
  refine codeS.tree ?_
  show wpS _ _ (match entryFor table nm with | some b => b args | none => unsupported ((withoutEnding? nm "#data").getD nm)) _ _ s
  rw [hb]
  exact h
theorem codeS.callB {prog : Program} {w : World} {A : Around} {R : Result → Shared → Prop} {s : Shared} {nm : String} {args : Args} (hq : (Code.builtin nm args).quiet = true) (hcl : cleanCode (.builtin nm args) = true)
    (hc : ∀ {Q : Unit → Shared → Prop}, Q () s → wpAny (model prog w) A.in1 (checkBuiltinCall nm args) Q (fun e s' => R (.error e) s') s) (h : codeS (model prog w) A (.builtin nm args) R s) : codeS (model prog w) A (.call (.builtin nm) args) R s := by
  refine codeS.tree (wpS.lift ?_)
  show wpAny _ A.in1 (do checkBuiltinCall nm args; again (.builtin nm args)) _ _ s
  exact wpAny_bind (hc (wpAny_pure ⟨hcl, hq, h⟩))
open Builtin in
theorem codeS.make {prog : Program} {w : World} {A : Around} {C : Addr} {R : Result → Shared → Prop} {h : Heap} {g : Array GenState} {d : Drawn} {t : Nat} {os : OsState} {rest : List Value} {init : Value} (Y : Makes (model prog w) h C) (hi : Looks (model prog w) h (typeLookup (.ref C) "__init__") (some init))
    (hb : ∀ self, Looks (model prog w) h (bindSpecial init self) (init, [self])) (hne : (some init != some (Value.builtin "object.__init__")) = true)
    (hq : codeS (model prog w) (A.under (.builtin "type.__call__" ⟨.ref C :: rest, []⟩)) (.call init ⟨.ref (h.objs.size + 1) :: rest, []⟩) (fun r s' => match r with | .ok (.ret v) => v = .none ∧ R (.ok (.ret (.ref (h.objs.size + 1)))) s' | _ => False) ⟨(h.push emptyDict).push (instObj C h.objs.size), g, d, t, os⟩) :
    codeS (model prog w) A (.call (.ref C) ⟨rest, []⟩) R ⟨h, g, d, t, os⟩ := by
  have Y' := Y
  obtain ⟨⟨oc, od, cd, sl, hC, e1, e2, e4⟩, made, base, self, top, call, typ⟩ := Y
  refine codeS.tree (wpS.lift ?_)
  show wpAny _ _ (callAny (.ref C) _) _ _ _
  refine nd_load hC ?_
  show wpAny _ _ (callAny.viaDunder (.ref C) _) _ _ _
  unfold callAny.viaDunder
  refine wpAny_bind (call.at ?_)
  dsimp only
  rw [tc_bind]
  refine wpAny_bind (wpAny_pure (wpAny_bind (wpAny_pure ?_)))
  refine wpAny_pure (a := Fin.again (.call (.builtin "type.__call__") ⟨.ref C :: rest, []⟩)) ⟨rfl, rfl, ?_⟩
  refine codeS.callB (Code.quiet_builtin _ (by decide +kernel)) (cl_tc _) (fun q => check_slot tc_kind tc_split typ (tc_args _ _ _) q) (codeS.builtin entry_typeCall ?_)
  have hm : Looks (model prog w) h (mroOf (.ref C)) cd.mro := ((Looks.ld (part := none) hC).andThen .now).andThen .now
  have hnew : wpAny (model prog w) (A.under (.builtin "type.__call__" ⟨.ref C :: rest, []⟩)) (PySem.call (.builtin "object.__new__") (.ref C :: rest) []) (fun v s' => v = .ref (h.objs.size + 1) ∧ s' = ⟨(h.push emptyDict).push (instObj C h.objs.size), g, d, t, os⟩) NoE ⟨h, g, d, t, os⟩ := wpAny_call (new_K Y' hi (.inl hne) ⟨rfl, rfl⟩)
  obtain ⟨half, other, odd, bad, e⟩ := tc_eq C rest
  rw [e]
  refine wpS.look hm ?_
  rw [if_neg (by rw [e4]; decide)]
  refine wpS.look made ?_
  dsimp only
  refine wpS.bind (wpS.pure ?_)
  refine wpS.bind (wpS.holding (wpS.mono (wpS.lift hnew) ?_ fun _ _ e => False.elim e))
  rintro _ _ ⟨rfl, rfl⟩
  have k : ∀ b o, h.get? b = some o → ((h.push emptyDict).push (instObj C h.objs.size)).get? b = some o := fun b o e => Heap.get?_push_of_some _ (Heap.get?_push_of_some _ e)
  have hx : ((h.push emptyDict).push (instObj C h.objs.size)).get? (h.objs.size + 1) = some (instObj C h.objs.size) := by heap_get
  have t1 : Looks (model prog w) ((h.push emptyDict).push (instObj C h.objs.size)) (typeOf (.ref (h.objs.size + 1))) (.ref C) := (Looks.ld hx).andThen .now
  have s1 := self.keeps k
  have i1 := hi.keeps k
  have b1 := (hb (.ref (h.objs.size + 1))).keeps k
  refine wpS.look (t1.andThen s1 : Looks _ _ (isInstance (.ref (h.objs.size + 1)) (.ref C)) true) ?_
  rw [if_neg (by decide)]
  refine wpS.bind (wpS.holding ?_)
  unfold callSpecial? specialOf
  refine wpS.look (t1.andThen i1) ?_
  dsimp only
  refine wpS.holding (wpS.look b1 ?_)
  dsimp only
  refine wpS.bind (wpS.call (codeS.mono hq fun r s' z => ?_))
  rcases r with e | (v | _ | _ | _) <;> first | exact z.elim | skip
  obtain ⟨rfl, z⟩ := z
  refine wpS.pure ?_
  dsimp only
  rw [if_neg (by decide)]
  exact wpS.pure z
section
variable {w : World} {dd : Nat} {cs : Scope} {c : Cx w dd cs} {m m' : AFr} {led led' : ALed}

@[reducible] noncomputable def apL : ALed → ALed → ALed
  | [], r => r
  | a :: l, r => a :: apL l r
theorem apL_eq : ∀ (l r : ALed), apL l r = l ++ r
  | [], _ => rfl
  | a :: l, r => by rw [List.cons_append, ← apL_eq l r]
noncomputable def Con (w : World) (f : Addr) (d : Nat) (args : List V) (muts fam : ALed) (Po : V → ALed → Prop) : Prop :=
  ∀ xs Lm Lf, AreV args xs → LedIs muts Lm → LedIs fam Lf → SpecS w f xs d Lm Lf (fun x L' => ∃ v muts', Po v muts' ∧ v.Is x ∧ LedIs muts' L')
noncomputable def FamOk (c : Cx w dd cs) (rest fam : ALed) : Prop := ∀ q ∈ fam, Has c rest q.1 q.2
theorem FamOk.nil {rest : ALed} : FamOk c rest [] := fun _ h => (nomatch h)
theorem FamOk.ro {rest fam : ALed} (ro : ∀ q ∈ fam, c.Ro q.1 q.2) : FamOk c rest fam := fun q hq => .inr (ro q hq)
theorem FamOk.cons {rest fam : ALed} {a : Addr} {p : Cell} (h : Has c rest a p) (hr : FamOk c rest fam) : FamOk c rest ((a, p) :: fam) := fun q hq => by
  rcases List.mem_cons.mp hq with rfl | hq
  · exact h
  · exact hr q hq
theorem fam_of {fam rest : ALed} {R : ALed} {Lr : Led} (hf : FamOk c rest fam) (lr : LedIs (rest ++ R) Lr) : ∃ Lf, LedIs fam Lf ∧ ∀ q ∈ Lf, q ∈ Lr ∨ c.g.get? q.1 = some q.2 := by
  induction fam with
  | nil => exact ⟨[], .nil, fun _ h => (nomatch h)⟩
  | cons q r ih =>
    obtain ⟨Lf, l, h⟩ := ih fun q hq => hf q (.tail _ hq)
    obtain ⟨a, p⟩ := q
    rcases hf (a, p) (.head _) with hq | ⟨o, h1, h2⟩
    · obtain ⟨o, h1, h2⟩ := lr.mem (List.mem_append_left R hq)
      exact ⟨(a, o) :: Lf, .cons h2 l, fun q hq => by rcases List.mem_cons.mp hq with rfl | hq; exact .inl h1; exact h q hq⟩
    · exact ⟨(a, o) :: Lf, .cons h1 l, fun q hq => by rcases List.mem_cons.mp hq with rfl | hq; exact .inr h2; exact h q hq⟩
theorem not_in {Lm Lr : Led} (nd : ((Lm ++ Lr).map (·.1)).Nodup) {q : Addr × Obj} (hq : q ∈ Lr) : q.1 ∉ Lm.map (·.1) := fun hm => by
  rw [List.map_append, List.nodup_append] at nd
  exact nd.2.2 _ hm _ (List.mem_map_of_mem hq) rfl
theorem not_g {h : Heap} {Lm : Led} (N : News c.g c.L h Lm) {b : Addr} {o : Obj} (e : c.g.get? b = some o) : b ∉ Lm.map (·.1) := fun hm => by
  obtain ⟨q, hq, rfl⟩ := List.mem_map.mp hm
  rw [(N q hq).2.2] at e; cases e
theorem not_L {h : Heap} {Lm : Led} (N : News c.g c.L h Lm) : c.L ∉ Lm.map (·.1) := fun hm => by
  obtain ⟨q, hq, e⟩ := List.mem_map.mp hm
  exact (N q hq).2.1 e
theorem At.back {h h' : Heap} {mm : Str → Option Value} {Lm Lr l : Led} (F : Fr c.g c.L h mm) (N : News c.g c.L h (Lm ++ Lr)) (nd : ((Lm ++ Lr).map (·.1)).Nodup)
    (hk : ∀ b o, (less h Lm).get? b = some o → h'.get? b = some o) (hl : ∀ q ∈ l, h'.get? q.1 = some q.2 ∧ (less h Lm).get? q.1 = none) (hn : (l.map (·.1)).Nodup) : Fr c.g c.L h' mm ∧ News c.g c.L h' (l ++ Lr) ∧ ((l ++ Lr).map (·.1)).Nodup := by
  have Nm : News c.g c.L h Lm := fun q hq => N q (List.mem_append_left _ hq)
  obtain ⟨oL, es, ep, hL, hLd, hLk, hLf⟩ := F.ns
  have hLg := hideAll_get (Lm.map (·.1)) hL (not_L Nm)
  have hg : ∀ b o, c.g.get? b = some o → (less h Lm).get? b = some o := fun b o e => hideAll_get _ (F.keep b o e) (not_g Nm e)
  have hr : ∀ q ∈ Lr, (less h Lm).get? q.1 = some q.2 := fun q hq => hideAll_get _ (N q (List.mem_append_right _ hq)).1 (not_in nd hq)
  refine ⟨⟨⟨oL, es, ep, hk _ _ hLg, hLd, hLk, hLf⟩, fun b o e => hk b o (hg b o e), F.above⟩, fun q hq => ?_, ?_⟩
  · rcases List.mem_append.mp hq with hq | hq
    · refine ⟨(hl q hq).1, fun e => ?_, ?_⟩
      · have := (hl q hq).2; rw [e, hLg] at this; cases this
      · cases e : c.g.get? q.1 with
        | none => rfl
        | some o => have := (hl q hq).2; rw [hg _ _ e] at this; cases this
    · exact ⟨hk _ _ (hr q hq), (N q (List.mem_append_right _ hq)).2⟩
  · rw [List.map_append, List.nodup_append]
    rw [List.map_append, List.nodup_append] at nd
    refine ⟨hn, nd.2.1, fun a ha b hb e => ?_⟩
    obtain ⟨q, hq, rfl⟩ := List.mem_map.mp ha
    obtain ⟨r, hr', rfl⟩ := List.mem_map.mp hb
    have := (hl q hq).2
    rw [e, hr r hr'] at this; cases this
theorem At.site {h : Heap} {tk d : Nat} {mm : Str → Option Value} {Lm Lr Lf : Led} (F : Fr c.g c.L h mm) (N : News c.g c.L h (Lm ++ Lr)) (nd : ((Lm ++ Lr).map (·.1)).Nodup) (hl : ∀ q ∈ Lf, q ∈ Lr ∨ c.g.get? q.1 = some q.2) (hd : d ≤ dd) :
    ∃ fm, Site w d Lm Lf c.p c.loose c.mean c.mg c.mb c.dp c.un c.fcs c.outer c.A₀ c.base c.fg c.fL fm (c.st h tk) := by
  have Nm : News c.g c.L h Lm := fun q hq => N q (List.mem_append_left _ hq)
  obtain ⟨fm, Ff⟩ := c.hF h mm F
  refine ⟨fm, c.B, Ff, c.Xf, fun q hq => ⟨(Nm q hq).1, c.hN _ (Nm q hq).2.1 (Nm q hq).2.2, ?_⟩, c.Tf, c.hkf, ?_, ?_, ?_, fun q hq => ?_⟩
  · cases e : c.fg.get? q.1 with
    | none => rfl
    | some o => have := (Nm q hq).2.2; rw [c.sub _ _ e] at this; cases this
  · have := c.h1; k_extra "o"
  · have := c.h2; k_extra "o"
  · rw [List.map_append, List.nodup_append] at nd; exact nd.1
  · rcases hl q hq with h | h
    · exact hideAll_get _ (N q (List.mem_append_right _ h)).1 (not_in nd h)
    · exact hideAll_get _ (F.keep _ _ h) (not_g Nm h)
theorem Post.back {R rest : ALed} {h : Heap} {mm : Str → Option Value} {Lm Lr : Led} {tk : Nat} {Po : V → ALed → Prop} {K : V → ALed → Prop} {x : Value} {s' : Shared} (F : Fr c.g c.L h mm) (N : News c.g c.L h (Lm ++ Lr)) (nd : ((Lm ++ Lr).map (·.1)).Nodup) (l2 : LedIs (rest ++ R) Lr) (fr : FrIs cs m mm)
    (ret : ∀ v muts', Po v muts' → K v (muts' ++ rest)) (z : After (less h Lm) (c.st h tk) (fun x L' => ∃ v muts', Po v muts' ∧ v.Is x ∧ LedIs muts' L') x s') : Post V.Is c R m K x s' := by
  obtain ⟨h', tk', l, rfl, hk, hl, hn, v, muts', po, iv, l'⟩ := z
  obtain ⟨F', N', nd'⟩ := At.back F N nd hk hl hn
  refine ⟨h', tk', v, muts' ++ rest, rfl, iv, ⟨⟨mm, l ++ Lr, F', N', ?_, fr⟩, ?_⟩, ret v muts' po⟩
  · rw [List.append_assoc]; exact l'.append l2
  · rw [(l'.append l2).addr] at nd'
    rw [List.append_assoc]; exact nd'
theorem Con.call {f : Addr} {d : Nat} {args : List V} {muts fam rest : ALed} {Po : V → ALed → Prop} {K : V → ALed → Prop} (C : Con w f d args muts fam Po) (hd : Nat.ble d dd = true) (t : TakesL muts led rest) (hf : FamOk c rest fam)
    (ret : ∀ v muts', Po v muts' → K v (apL muts' rest)) : CALL c m led (.ref f) args K := by
  simp only [apL_eq] at ret
  intro xs is h tk R a
  obtain ⟨⟨mm, L, F, N, l, fr⟩, nd⟩ := a.perm (t.app R)
  obtain ⟨Lm, Lr, rfl, l1, l2⟩ := l.split
  obtain ⟨Lf, l3, hl⟩ := fam_of hf l2
  rw [← l.addr] at nd
  obtain ⟨fm, S⟩ := At.site (tk := tk) F N nd hl (Nat.le_of_ble_eq_true hd)
  refine wpS.call (codeS.mono (C xs Lm Lf is l1 l3 _ _ _ _ _ _ _ c.gd c.cn c.fcs c.a c.ccd c.fcl _ _ _ _ _ _ _ S) fun r s' z => ?_)
  rcases r with e | (x | _ | _ | _) <;> first | exact z.elim | skip
  exact Post.back F N nd l2 fr ret z

noncomputable def IsR (A : V) (B : ALed) (v : V) (led : ALed) : Prop := v = A ∧ led = B
theorem Con.callE {f : Addr} {d : Nat} {args : List V} {muts fam rest : ALed} {A : V} {B : ALed} {K : V → ALed → Prop} (C : Con w f d args muts fam (IsR A B)) (hd : Nat.ble d dd = true) (t : TakesL muts led rest) (hf : FamOk c rest fam)
    (ret : K A (apL B rest)) : CALL c m led (.ref f) args K := C.call hd t hf fun v muts' h => by obtain ⟨rfl, rfl⟩ := h; exact ret
noncomputable def RetQ (Po : V → ALed → Prop) (fl : AFl) (_ : AFr) (led : ALed) : Prop := match fl with
  | .ret v => ∃ keep rest, TakesL keep led rest ∧ Po v keep
  | .next => ∃ keep rest, TakesL keep led rest ∧ Po .none keep
  | _ => False
theorem RetQ.is {A : V} {B rest : ALed} (t : TakesL B led rest) : RetQ (IsR A B) (.ret A) m led := ⟨_, _, t, rfl, rfl⟩
theorem RetQ.nx {B rest : ALed} (t : TakesL B led rest) : RetQ (IsR .none B) .next m led := ⟨_, _, t, rfl, rfl⟩
theorem lookup_zip {names : List Str} (hn : names.Nodup) : ∀ {xs : List Value} {n : Str} {x : Value}, (n, x) ∈ names.zip xs → (names.zip xs).reverse.lookup n = some x := by
  have key : ∀ {l : List (Str × Value)}, (l.map (·.1)).Nodup → ∀ {n : Str} {x : Value}, (n, x) ∈ l → l.lookup n = some x := by
    intro l
    induction l with
    | nil => intro _ n x h; cases h
    | cons q r ih =>
      intro nd n x h
      obtain ⟨a, b⟩ := q
      rw [List.map_cons, List.nodup_cons] at nd
      rw [List.lookup_cons]
      rcases List.mem_cons.mp h with e | h
      · cases e; simp
      · have : (n == a) = false := beq_eq_false_iff_ne.mpr fun e => nd.1 (by have h1 := List.mem_map_of_mem (f := Prod.fst) h; rw [e] at h1; exact h1)
        rw [this]; exact ih nd.2 h
  intro xs n x h
  refine key ?_ (List.mem_reverse.mpr h)
  rw [List.map_reverse]
  refine (List.reverse_perm _).nodup_iff.mpr ?_
  clear h
  induction names generalizing xs with
  | nil => exact .nil
  | cons a r ih =>
    cases xs with
    | nil => exact .nil
    | cons b s =>
      rw [List.nodup_cons] at hn
      rw [List.zip_cons_cons, List.map_cons, List.nodup_cons]
      exact ⟨fun hm => hn.1 (by obtain ⟨q, hq, e⟩ := List.mem_map.mp hm; have h1 := (List.of_mem_zip hq).1; rw [e] at h1; exact h1), ih hn.2⟩
theorem zip_are {args : List V} {xs : List Value} (is : AreV args xs) : ∀ {names : List Str} {q : Str × V}, q ∈ names.zip args → ∃ x, (q.1, x) ∈ names.zip xs ∧ q.2.Is x := by
  induction is with
  | nil => intro names q h; rw [List.zip_nil_right] at h; cases h
  | cons i _ ih =>
    intro names q h
    cases names with
    | nil => cases h
    | cons n r =>
      rw [List.zip_cons_cons] at h ⊢
      rcases List.mem_cons.mp h with rfl | h
      · exact ⟨_, .head _, i⟩
      · obtain ⟨x, h1, h2⟩ := ih h; exact ⟨x, .tail _ h1, h2⟩
theorem names_nodup {names : List Str} {args : List V} (hn : names.Nodup) : ((names.zip args).map (·.1)).Nodup := by
  induction names generalizing args with
  | nil => exact .nil
  | cons a r ih =>
    cases args with
    | nil => exact .nil
    | cons b s =>
      rw [List.nodup_cons] at hn
      rw [List.zip_cons_cons, List.map_cons, List.nodup_cons]
      exact ⟨fun hm => hn.1 (by obtain ⟨q, hq, e⟩ := List.mem_map.mp hm; have h1 := (List.of_mem_zip hq).1; rw [e] at h1; exact h1), ih hn.2⟩
noncomputable def Cx.ofInside {w : World} {d : Nat} {muts ro : Led} {p : Program} {loose : List Str} {mean : ExcName → Option Value} {mg mb : Str → Option Value} {dp un : Nat} {gd : Option (List Code)} {cn : Str} {cs : Scope} {a : Addr} {ccd : Value} {cl : List (Str × Addr)} {outer : List Env} {base g h₁ : Heap} {L L' : Addr} {mm : Str → Option Value} {scope : Scope}
    (I : Inside w (d + 1) muts ro p loose mean mg mb dp un gd cn cs a ccd cl outer base g h₁ L L' mm) (hk : scope.kind = .function) (gens : Array GenState) (drawn : Drawn) (os : OsState) {n : Str} {f : Addr} {cd : Value} (cells : List (Str × Addr)) : Cx w d scope :=
  { p := p, loose := loose, mean := mean, mg := mg, mb := mb, dp := dp + 1, un := un + 3, gd := gd, cn := n, a := f, ccd := cd, outer := envX cn cs L a ccd cl :: outer, A₀ := ktrTop dp un gd cn cs L a ccd cl outer, base := base, g := g, L := L', cl := cells, fn := some f, fg := g, fL := L', fcs := scope, fcl := cells, gens := gens, drawn := drawn, os := os,
    B := I.B, Xf := I.X, Tf := I.T, sub := fun _ _ e => e, hk := hk, hkf := hk, hF := fun _ mm F => ⟨mm, F⟩, hN := fun _ h _ => h, h1 := (by have := I.h1; k_extra "o"), h2 := (by have := I.h2; k_extra "o") }
theorem After.of {Po : V → ALed → Prop} {s : Shared} {fl : Flow} {s' : Shared} (e : c.gens = s.gens ∧ c.drawn = s.drawn ∧ c.os = s.os) (z : PostS c [] (RetQ Po) fl s') : After c.g s (fun x L' => ∃ v muts', Po v muts' ∧ v.Is x ∧ LedIs muts' L') (match fl with | .ret v => v | _ => .none) s' := by
  obtain ⟨h', tk', afl, m', led', rfl, i, a', q⟩ := z
  obtain ⟨gens, drawn, os⟩ := e
  have fin : ∀ v x keep rest, TakesL keep led' rest → Po v keep → v.Is x → After c.g s (fun x L' => ∃ v muts', Po v muts' ∧ v.Is x ∧ LedIs muts' L') x (c.st h' tk') := by
    intro v x keep rest t po iv
    obtain ⟨⟨mm, L₂, F₂, N₂, l₂, f₂⟩, nd⟩ := a'.keep t
    rw [List.append_nil] at l₂ nd
    refine ⟨h', tk', L₂, ?_, F₂.keep, fun q hq => ⟨(N₂ q hq).1, (N₂ q hq).2.2⟩, by rw [l₂.addr]; exact nd, v, keep, po, iv, l₂⟩
    rw [Cx.st, gens, drawn, os]
  cases afl with
  | next => cases i; obtain ⟨keep, rest, t, po⟩ := q; exact fin .none _ keep rest t po rfl
  | brk => exact q.elim
  | cont => exact q.elim
  | ret v => obtain ⟨x, rfl, iv⟩ := i; obtain ⟨keep, rest, t, po⟩ := q; exact fin v x keep rest t po iv
theorem Con.of {f : Addr} {d : Nat} {args : List V} {muts fam : ALed} {Po : V → ALed → Prop} {name qual : Str} {params₀ params : Arguments} {body₀ body : List Stmt} {scope₀ scope : Scope} {dV kV doc pm cdv ct oc : Value} {an od : Option Addr} {osl : Array (Option Value)} {names : List Str}
    (ho : List.lookup f (Top.K w.params) = some ⟨oc, od, .func (fnOf name qual params₀ body₀ scope₀ dV kV doc pm an cdv ct), osl⟩) (hcd : codeIn (Top.K w.params) cdv qual = true) (hp : params₀ = params) (hb : body₀ = body) (hs : scope₀ = scope)
    (hnm : params.args.map (·.arg) = names) (hlen : names.length = args.length)
    (hbind : ∀ xs : List Value, xs.length = names.length → bindArgs (fnOf name qual params body scope dV kV doc pm an cdv ct) ⟨xs, []⟩ = Pure.pure (names.zip xs)) (hloc : ∀ y ∈ names, scope.names.lookup y = some .local ∧ (y == ("__debug__" : Str)) = false) (hnod : names.Nodup)
    (hcell : ∀ x ∈ scope.names, x.2 ≠ .cell) (hco : scope.isCoroutine = false) (hgen : scope.isGenerator = false) (hk : scope.kind = .function)
    (go : ∀ (c : Cx w d scope) (Q' : AFl → AFr → ALed → Prop), Fold (RetQ Po) Q' → (∀ q ∈ fam, c.Ro q.1 q.2) → SP c (names.zip args) muts body Q') : Con w f (d + 1) args muts fam Po := by
  intro xs Lm Lf is l1 l2
  have hx : xs.length = names.length := by rw [is.length, hlen]
  refine SpecS.of ho hcd hp hb hs (fun y => rfl) (hbind xs hx) (fun y hy => (hloc _ (List.of_mem_zip hy).1).1) hcell hco hgen hk (Nat.succ_le_succ (Nat.zero_le _)) ?_
  intro p loose mean mg mb dp un gd cn cs a ccd cl outer base g h₁ L L' s tk I
  let c : Cx w d scope := Cx.ofInside I hk s.gens s.drawn s.os (n := qual) (f := f) (cd := cdv) []
  have hfam : ∀ q ∈ fam, c.Ro q.1 q.2 := fun q hq => by
    obtain ⟨o, h1, h2⟩ := l2.mem (a := q.1) (p := q.2) hq
    exact ⟨o, h2, I.ro _ h1⟩
  have hat : At c h₁ (names.zip args) (muts ++ []) := by
    rw [List.append_nil]
    refine ⟨⟨_, Lm, I.F, I.N, l1, fun q hq => ?_, fun q hq => hloc _ (List.of_mem_zip hq).1, names_nodup hnod⟩, ?_⟩
    · obtain ⟨x, h1, h2⟩ := zip_are is hq
      exact ⟨x, lookup_zip hnod h1, h2⟩
    · have := I.nd
      rwa [l1.addr] at this
  refine wpS.mono (go c _ Fold.rfl hfam h₁ tk [] hat) (fun fl s' z => by have q := After.of (c := c) ⟨rfl, rfl, rfl⟩ z; cases fl <;> exact q) fun _ _ e => e
structure MakeOk (w : World) (C fI : Addr) : Prop where
  hm : makesIn (Top.K w.params) C = true
  hi : findIn (Top.K w.params) (.ref C) "__init__" = some (some (.ref fI))
  hf : isFn (Top.K w.params) (.ref fI) = true
theorem CALL.make {C fI : Addr} {d : Nat} {args : List V} {muts fam rest : ALed} {Po : Addr → Addr → V → ALed → Prop} {K : V → ALed → Prop} (M : MakeOk w C fI) (H : ∀ x dx, Con w fI d (.ref x :: args) ((x, cInst C dx) :: (dx, cAttr w C []) :: muts) fam (Po x dx)) (hd : Nat.ble (d + 1) dd = true) (t : TakesL muts led rest) (hf : FamOk c rest fam)
    (ret : ∀ x dx v muts', Po x dx v muts' → v = .none ∧ K (.ref x) (apL muts' rest)) : CALL c m led (.ref C) args K := by
  simp only [apL_eq] at ret
  intro xs is h tk R a
  obtain ⟨⟨mm, L, F, N, l, f⟩, nd⟩ := a.perm (t.app R)
  have X := c.X.keeps F.keep
  have Y := makes_of (M := model pr w) X M.hm
  refine wpS.call (codeS.make Y (looks_findIn X M.hi) (fun self => bind_fn X self (beq_iff_eq.mp M.hf)) rfl ?_)
  have N' := (N.push F emptyDict).push (F.push _) (instObj C h.objs.size)
  rw [Heap.size_push] at N'
  have lt : ∀ p ∈ L, p.1 < h.objs.size := fun p hp => Heap.lt_size (N p hp).1
  have lt' : ∀ a ∈ (muts ++ (rest ++ R)).map (·.1), a < h.objs.size := fun a ha => by
    rw [← l.addr] at ha
    obtain ⟨p, hp, rfl⟩ := List.mem_map.mp ha
    exact lt p hp
  let c' : Cx w d cs := { p := c.p, loose := c.loose, mean := c.mean, mg := c.mg, mb := c.mb, dp := c.dp + 1, un := c.un + 1, gd := c.gd, cn := c.cn, a := c.a, ccd := c.ccd, outer := c.outer, A₀ := c.A₀, base := c.base, g := c.g, L := c.L, cl := c.cl, fn := c.fn, fg := c.fg, fL := c.fL, fcs := c.fcs, fcl := c.fcl, gens := c.gens, drawn := c.drawn, os := c.os, B := c.B, Xf := c.Xf, Tf := c.Tf, sub := c.sub, hk := c.hk, hkf := c.hkf, hF := c.hF, hN := c.hN, h1 := (by have := c.h1; have := Nat.le_of_ble_eq_true hd; k_extra "o"), h2 := (by have := c.h2; have := Nat.le_of_ble_eq_true hd; k_extra "o") }
  have a' : At c' ((h.push emptyDict).push (instObj C h.objs.size)) m (((h.objs.size + 1, cInst C h.objs.size) :: (h.objs.size, cAttr w C []) :: muts) ++ (rest ++ R)) := by
    refine ⟨⟨mm, (h.objs.size + 1, instObj C h.objs.size) :: (h.objs.size, emptyDict) :: L, (F.push _).push _, N', .cons rfl (.cons ⟨[], 0, rfl, AttrIs.nil⟩ l), f⟩, ?_⟩
    rw [List.cons_append, List.cons_append, List.map_cons, List.map_cons, List.nodup_cons, List.nodup_cons]
    refine ⟨fun hm => ?_, fun hm => absurd (lt' _ hm) (Nat.lt_irrefl _), nd⟩
    rcases List.mem_cons.mp hm with e | hm
    · exact absurd e (Nat.succ_ne_self _)
    · exact absurd (lt' _ hm) (by k_extra "o")
  obtain ⟨⟨mm', L', F₁, N₁, l₁, fr⟩, nd'⟩ := a'
  obtain ⟨Lm, Lr, rfl, l1, l2⟩ := l₁.split
  obtain ⟨Lf, l3, hl⟩ := fam_of (c := c') (fun q hq => (hf q hq).imp id id) l2
  rw [← l₁.addr] at nd'
  obtain ⟨fm, S⟩ := At.site (c := c') (tk := tk) (d := d) F₁ N₁ nd' hl (Nat.le_refl _)
  refine codeS.mono (H (h.objs.size + 1) h.objs.size _ Lm Lf (.cons rfl is) l1 l3 _ _ _ _ _ _ _ c'.gd c'.cn c'.fcs c'.a c'.ccd c'.fcl _ _ _ _ _ _ _ S) fun r s' z => ?_
  rcases r with e | (x | _ | _ | _) <;> first | exact z.elim | skip
  rename_i x
  have z' : After (less ((h.push emptyDict).push (instObj C h.objs.size)) Lm) (c.st ((h.push emptyDict).push (instObj C h.objs.size)) tk) (fun x L' => ∃ v muts', (Po (h.objs.size + 1) h.objs.size v muts' ∧ x = .none) ∧ v.Is x ∧ LedIs muts' L') x s' := by
    obtain ⟨h', tk', l, e, hk, hl, hn, v, muts', po, iv, l'⟩ := z
    have hv := (ret _ _ v muts' po).1
    subst hv
    exact ⟨h', tk', l, e, hk, hl, hn, .none, muts', ⟨po, iv⟩, iv, l'⟩
  obtain ⟨h', tk', l, rfl, hk, hl, hn, v, muts', ⟨po, rfl⟩, iv, l'⟩ := z'
  obtain ⟨F', N'', nd''⟩ := At.back (c := c) F₁ N₁ nd' hk hl hn
  refine ⟨rfl, h', tk', .ref _, muts' ++ rest, rfl, rfl, ⟨⟨mm', l ++ Lr, F', N'', ?_, fr⟩, ?_⟩, (ret _ _ v muts' po).2⟩
  · rw [List.append_assoc]; exact l'.append l2
  · rw [(l'.append l2).addr] at nd''
    rw [List.append_assoc]; exact nd''
end
end
section
variable {w : World} {dd : Nat} {cs : Scope} {c : Cx w dd cs} {m m' : AFr} {led led' : ALed}

theorem UpdL.mid {α β : Type} {a : α} {p p' : β} : ∀ {x y : List (α × β)}, UpdL a p p' (x ++ (a, p) :: y) (x ++ (a, p') :: y)
  | [], _ => .head
  | _ :: r, y => .tail (UpdL.mid (x := r))
theorem At.change {h h' : Heap} {d : Addr} {p p' : Cell} {o' : Obj} (a : At c h m led) (u : UpdL d p p' led led') (hs : Heap.SameBut d h h') (ho : h'.get? d = some o') (hp : p' o') : At c h' m led' := by
  obtain ⟨⟨mm, L, F, N, l, f⟩, nd⟩ := a
  have l₀ : LedIs (led ++ []) L := by rw [List.append_nil]; exact l
  have nd₀ : ((led ++ ([] : ALed)).map (·.1)).Nodup := by rw [List.append_nil]; exact nd
  obtain ⟨pre, post, o, rfl, h1, h2, h3, h4, h5⟩ := split_of l₀ nd₀ u
  rw [List.append_nil] at h5
  have h4' := h4 o' hp
  rw [List.append_nil] at h4'
  have hd := N (d, o) (List.mem_append_right _ (.head _))
  exact ⟨⟨mm, _, F.change hs hd.2.1 hd.2.2, N.setAt h2 h3 hs ho, h4', f⟩, h5⟩
theorem At.ext {h h' : Heap} {d : Addr} {p : Cell} {R : ALed} (a : At c h m (led ++ (d, p) :: R)) (hs : Heap.ExtBut d h h') : At c h' m (led ++ R) := by
  have a := a.perm (led' := (d, p) :: (led ++ R)) List.perm_middle.symm
  obtain ⟨⟨mm, L, F, N, l, f⟩, nd⟩ := a
  cases l with
  | cons hp l =>
    rename_i o L
    have hd := N (d, o) (.head _)
    rw [List.map_cons, List.nodup_cons] at nd
    refine ⟨⟨mm, L, ⟨F.ns.at' fun o e => hs _ _ (Ne.symm hd.2.1) e, fun b o e => hs b o (fun q => ?_) (F.keep b o e), F.above⟩, fun q hq => ⟨hs _ _ (fun e => nd.1 ?_) (N q (.tail _ hq)).1, (N q (.tail _ hq)).2⟩, l, f⟩, nd.2⟩
    · rw [q] at e; rw [hd.2.2] at e; cases e
    · have h1 : q.1 ∈ L.map (·.1) := List.mem_map_of_mem hq
      rw [l.addr, e] at h1
      exact h1
theorem At.new {h h' : Heap} {mm : Str → Option Value} {L : Led} {o : Obj} {p : Cell} (F : Fr c.g c.L h mm) (nd : (led.map (·.1)).Nodup) (l : LedIs led L) (f : FrIs cs m mm) (N : News c.g c.L h L) (F' : Fr c.g c.L h' mm) (N' : News c.g c.L h' L) (ho : h'.get? h.objs.size = some o) (hp : p o) : At c h' m ((h.objs.size, p) :: led) := by
  refine ⟨⟨mm, (h.objs.size, o) :: L, F', fun q hq => ?_, .cons hp l, f⟩, ?_⟩
  · rcases List.mem_cons.mp hq with rfl | hq
    · exact ⟨ho, fun e => absurd F.ns.lt (by rw [← e]; exact Nat.lt_irrefl _), next_is_new F⟩
    · exact N' q hq
  · rw [List.map_cons, List.nodup_cons]
    refine ⟨fun hm => ?_, nd⟩
    rw [← l.addr] at hm
    obtain ⟨q, hq, e⟩ := List.mem_map.mp hm
    exact absurd (Heap.lt_size (N q hq).1) (by rw [e]; exact Nat.lt_irrefl _)
theorem At.cons {h' : Heap} {mm : Str → Option Value} {L : Led} {D : Addr} {o : Obj} {p : Cell} (nd : (led.map (·.1)).Nodup) (l : LedIs led L) (f : FrIs cs m mm) (F' : Fr c.g c.L h' mm) (N' : News c.g c.L h' ((D, o) :: L)) (hlt : ∀ q ∈ L, q.1 < D) (hp : p o) : At c h' m ((D, p) :: led) := by
  refine ⟨⟨mm, _, F', N', .cons hp l, f⟩, ?_⟩
  rw [List.map_cons, List.nodup_cons]
  refine ⟨fun hm => ?_, nd⟩
  rw [← l.addr] at hm
  obtain ⟨q, hq, e⟩ := List.mem_map.mp hm
  exact absurd (hlt q hq) (by rw [e]; exact Nat.lt_irrefl _)

section
variable {K : V → ALed → Prop}
theorem CP.elts {α β : Type} {Is : β → α → Prop} {elts : List Expr} {f : List Value → Sem α} {K : β → ALed → Prop} {pos : Pos} (hs : noStar elts = true) (h : ARG c m led elts fun vs led₁ => ∀ xs, AreV vs xs → CP Is c m led₁ (f xs) K) : CP Is c m led (PySem.spliced (backTo pos (starEach elts c.env)) >>= f) K := by
  rw [starEach_plain hs, backTo_plain]
  exact CP.bind (ARG.spliced h)
theorem small_size {n : Nat} (h : n ≤ 1000) : n ≤ sizeLine := by rw [sizeLine_eq]; k_extra "o"
theorem ARG.mono {es : List Expr} : ∀ {led : ALed} {P P' : List V → ALed → Prop}, ARG c m led es P → (∀ vs led, P vs led → P' vs led) → ARG c m led es P' := by
  induction es with
  | nil => exact fun h k => k _ _ h
  | cons e r ih => exact fun h k => CP.mono h fun v led₁ h₁ => ih h₁ fun vs led₂ => k _ _
@[reducible] noncomputable def kMkL (K : V → ALed → Prop) : List V → ALed → Prop := fun vs led₁ => vs.length ≤ 1000 ∧ ∀ D, K (.ref D) ((D, cList vs) :: led₁)
@[reducible] noncomputable def kMkT (K : V → ALed → Prop) : List V → ALed → Prop := fun vs led₁ => vs.length ≤ 1000 ∧ ∀ D, K (.ref D) ((D, cTup vs) :: led₁)
theorem E1.list {elts : List Expr} {pos : Pos} (hs : noStar elts = true) (h : ARG c m led elts (kMkL K)) : E1 c m led (.List elts pos) K := by
  show EV c m led (do standAt pos; newList (← PySem.spliced (backTo pos (starEach elts c.env)))) K
  refine CP.stand (CP.elts hs ?_)
  refine ARG.mono h fun vs led₁ ⟨hz, k⟩ xs is => ?_
  exact CP.any fun hh tk R mm L F N l f nd => newList_K F N (fun D h' F' N' lt => ⟨h', tk, .ref D, (D, cList vs) :: led₁, rfl, rfl, At.cons nd l f F' N' lt ⟨xs, 0, rfl, is⟩, k D⟩) (by rw [is.length]; exact small_size hz)
theorem E1.tup {elts : List Expr} {n : Nat} {pos : Pos} (hs : noStar elts = true) (h : ARG c m led elts (kMkT K)) : E1 c m led (.Tuple elts n pos) K := by
  show EV c m led (do standAt pos; newTuple (← PySem.spliced (backTo pos (starEach elts c.env)))) K
  refine CP.stand (CP.elts hs (ARG.mono h fun vs led₁ ⟨hz, k⟩ xs is => ?_))
  exact CP.any fun hh tk R mm L F N l f nd => kup_newTuple F N (fun D h' F' N' lt => ⟨h', tk, .ref D, (D, cTup vs) :: led₁, rfl, rfl, At.cons nd l f F' N' lt ⟨xs, rfl, is⟩, k D⟩) (by rw [is.length]; exact small_size hz)
theorem SUB.list {value slice : Expr} {l : Addr} {vs : List V} {i : Int} {v : V} (h : Has c led l (cList vs)) (hv : vs[i.toNat]? = some v) (h0 : 0 ≤ i) (hb : i < 2 ^ 62) (k : K v led)
    (hs : ∀ u, subscripted slice false (.ref l) (.int i u) = operate [.ref l, .int i u] (getItem (.ref l) (.int i u)) := by intro _; with_unfolding_all rfl) : SUB c m led value slice (.ref l) (.int i) K := by
  rintro xa xb e ⟨u, rfl⟩; cases e
  refine CP.any fun hh tk R mm L F N ll f nd => ?_
  obtain ⟨_, ⟨xs, n, rfl, is⟩, g⟩ := h.get F N ll
  obtain ⟨x, hx, iv⟩ := is.get _ _ hv
  exact tail_any (lstOf g).typeIs slot_list_getitem.lookup (wpAny_getItem_list (lstOf g) h0 (by k_extra "o") (by simpa using hx) (Post.mk iv F N ll f nd k)) (hs u)
theorem SUB.tup {value slice : Expr} {l : Addr} {vs : List V} {i : Int} {v : V} (h : Has c led l (cTup vs)) (hv : vs[i.toNat]? = some v) (h0 : 0 ≤ i) (hb : i < 2 ^ 62) (k : K v led)
    (hs : ∀ u, subscripted slice false (.ref l) (.int i u) = operate [.ref l, .int i u] (getItem (.ref l) (.int i u)) := by intro _; with_unfolding_all rfl) : SUB c m led value slice (.ref l) (.int i) K := by
  rintro xa xb e ⟨u, rfl⟩; cases e
  refine CP.any fun hh tk R mm L F N ll f nd => ?_
  obtain ⟨_, ⟨xs, rfl, is⟩, g⟩ := h.get F N ll
  obtain ⟨x, hx, iv⟩ := is.get _ _ hv
  have hlt : i.toNat < xs.length := by rw [List.getElem?_eq_some_iff] at hx; exact hx.1
  exact item_tupleT (tupOf g) (by k_extra "o") (by k_extra "o") (by
    have hn : ¬ i < 0 := by k_extra "o"
    have h2 : i < xs.length := by k_extra "o"
    simp [seqIndex?, hn, h0, h2]) hx (Post.mk iv F N ll f nd k) (hs u)
end
section
variable {K : ALed → Prop}
theorem ki_setL_is : ∀ {xs : List Value} {i : Nat} {v : Value}, i < xs.length → ki_setL xs i v = some (xs.set i v)
  | [], _, _, h => absurd h (Nat.not_lt_zero _)
  | _ :: _, 0, _, _ => rfl
  | x :: r, i + 1, v, h => by
    show (match ki_setL r i v with | some q => some (x :: q) | none => none) = _
    rw [ki_setL_is (Nat.lt_of_succ_lt_succ h)]; rfl
theorem SETI.list {l : Addr} {vs : List V} {i : Int} {v : V} (hu : UpdL l (cList vs) (cList (vs.set i.toNat v)) led led') (k : K led') (h0 : 0 ≤ i) (h1 : i < vs.length) (hb : i < 2 ^ 62) : SETI c m led (.ref l) (.int i) v K := by
  rintro xa xi xv e ⟨u, rfl⟩ iv; cases e
  refine CP.any fun hh tk R mm L F N ll f nd => ?_
  obtain ⟨pre, post, o, rfl, ⟨xs, n, rfl, is⟩, p1, p2, p3, p4⟩ := split_of ll nd hu
  refine ki_set (q := xs.set i.toNat xv) F N h0 (by k_extra "o") (by rw [List.toList_toArray]; exact ki_setL_is (by rw [is.length]; k_extra "o")) (Upd.of_split p1 p2) fun h' F' N' => ?_
  exact Post.mk (x := ()) trivial F' N' (p3 _ ⟨_, n, rfl, is.set _ iv⟩) f p4 k
theorem SETI.nat {l : Addr} {vs : List V} {i : Int} {n : Nat} {v : V} (he : i = (n : Int)) (hu : UpdL l (cList vs) (cList (vs.set n v)) led led') (h1 : n < vs.length) (hb : n < 2 ^ 60) (k : K led') : SETI c m led (.ref l) (.int i) v K := by
  subst he
  exact SETI.list (by rw [Int.toNat_natCast]; exact hu) k (by k_extra "o") (by k_extra "o") (by k_extra "o")
end

noncomputable def cRange (a b s : Int) : Cell := fun o => ∃ t u v, o = { cls := .type "range", dict := none, data := .fields #[.int a t, .int b u, .int s v], slots := #[] }
theorem CALL.range1 {b : Int} {K : V → ALed → Prop} (k : ∀ r, K (.ref r) ((r, cRange 0 b 1) :: led)) : CALL c m led (.type "range") [.int b] K := by
  intro xs is
  cases is with | cons i is => cases is; obtain ⟨t, rfl⟩ := i; exact CP.any fun h tk R mm L F N l f nd => range1_rows F N fun h' tk' t₁ u₁ v₁ hr F' N' _ => ⟨h', tk', .ref _, (_, cRange 0 b 1) :: led, rfl, rfl, At.new F nd l f N F' N' hr ⟨_, _, _, rfl⟩, k _⟩
theorem CALL.range2 {a b : Int} {K : V → ALed → Prop} (k : ∀ r, K (.ref r) ((r, cRange a b 1) :: led)) : CALL c m led (.type "range") [.int a, .int b] K := by
  intro xs is
  cases is with | cons i is => cases is with | cons i2 is => cases is; obtain ⟨t, rfl⟩ := i; obtain ⟨t2, rfl⟩ := i2; exact CP.any fun h tk R mm L F N l f nd => range2_rows F N fun h' tk' t₁ u₁ v₁ hr F' N' _ => ⟨h', tk', .ref _, (_, cRange a b 1) :: led, rfl, rfl, At.new F nd l f N F' N' hr ⟨_, _, _, rfl⟩, k _⟩
theorem CALL.range3 {a b s : Int} {K : V → ALed → Prop} (k : ∀ r, K (.ref r) ((r, cRange a b s) :: led)) (h0 : s ≠ 0) (h1 : s.natAbs < 1073741824) : CALL c m led (.type "range") [.int a, .int b, .int s] K := by
  intro xs is
  cases is with | cons i is => cases is with | cons i2 is => cases is with | cons i3 is => cases is; obtain ⟨t, rfl⟩ := i; obtain ⟨t2, rfl⟩ := i2; obtain ⟨t3, rfl⟩ := i3; exact CP.any fun h tk R mm L F N l f nd => range3_rows F N h0 (fun h' tk' t₁ u₁ v₁ hr F' N' _ => ⟨h', tk', .ref _, (_, cRange a b s) :: led, rfl, rfl, At.new F nd l f N F' N' hr ⟨_, _, _, rfl⟩, k _⟩) (.inl (PyProof.noPylong_small h1))

theorem range_small {a b : Int} (h1 : -(2 ^ 40) ≤ a) (h2 : a ≤ 2 ^ 40) (h3 : -(2 ^ 40) ≤ b) (h4 : b ≤ 2 ^ 40) : Builtin.Range.small a b 1 = true := by
  have e := rangeSize_nat a b
  have f : ∀ i : Int, -(2 ^ 50) ≤ i → i ≤ 2 ^ 50 → Builtin.Range.rangeFitsLong i = true := by
    intro i h h'
    unfold Builtin.Range.rangeFitsLong
    simp only [Bool.and_eq_true, decide_eq_true_eq]
    k_extra "o"
  unfold Builtin.Range.small
  rw [e, f a (by k_extra "o") (by k_extra "o"), f b (by k_extra "o") (by k_extra "o"), f 1 (by k_extra "o") (by k_extra "o"), f ((b - a).toNat : Int) (by k_extra "o") (by k_extra "o"), f (b + (1 - 1)) (by k_extra "o") (by k_extra "o")]
  simp
theorem size_is {a b : Int} {n : Nat} (h : b - a = n) : Builtin.Range.rangeSize a b 1 = (n : Int) := by rw [rangeSize_nat]; k_extra "o"
theorem sizeN (n : Nat) : Builtin.Range.rangeSize 0 n 1 = (n : Int) := size_is (by k_extra "o")
theorem smallN {n : Nat} (h : n ≤ 2 ^ 40) : Builtin.Range.small 0 n 1 = true := range_small (by k_extra "o") (by k_extra "o") (by k_extra "o") (by k_extra "o")
theorem noOwned {M : Model} {A : Around} {E : Value → Shared → Prop} {s : Shared} {target : Expr} {I : Addr} {o : Obj} {v : Value} {Q : Unit → Shared → Prop} (ho : s.heap.get? I = some o) (hc : o.cls = .type "list_iterator" ∨ o.cls = .type "range_iterator" ∨ o.cls = .type "dict_keyiterator") (h : Q () s) :
    wpAny M A (letOwnedTupleGo target (.ref I) v) Q E s := by
  have fin : ∀ a : Addr, wpAny M A (do
      let o ← load I
      match o.cls, o.data with
      | .type n, .fields vs =>
        if (["enumerate", "zip", "dict_itemiterator", "dict_reverseitemiterator", "odict_iterator", "itertools.zip_longest", "itertools.pairwise"] : List String).contains n && vs[0]? == some (rawInt a) then
          rule "for.unpacks-the-owned-tuple"
          updateField I 0 .none
      | _, _ => Pure.pure ()) Q E s := by
    intro a
    refine wpAny_bind (wpAny_load ho ?_)
    rcases hc with hc | hc | hc <;> rw [hc] <;> cases o.data <;> first | exact wpAny_pure h | (refine wpAny_ite ?_; rw [if_neg (by simp)]; exact wpAny_pure h)
  cases target with
  | Tuple => cases v with
    | ref a => exact fin a
    | _ => exact wpAny_pure h
  | List => cases v with
    | ref a => exact fin a
    | _ => exact wpAny_pure h
  | _ => exact wpAny_pure h
noncomputable def TurnQ (J : AFr → ALed → Prop) (Q : AFl → AFr → ALed → Prop) (fl : AFl) (m : AFr) (led : ALed) : Prop := match fl with
  | .brk => Q .next m led
  | .ret v => Q (.ret v) m led
  | _ => ∃ m₁ mr led₁ lr, J m₁ led₁ ∧ TakesL m₁ m mr ∧ TakesL led₁ led lr
theorem loop_core {I : Addr} {n : Nat} {It : Nat → Cell} {target : Expr} {body : List Stmt} {Q : AFl → AFr → ALed → Prop} {R : ALed} {J : Nat → AFr → ALed → Prop} {Vat : Nat → V → Prop}
    (hcls : ∀ i o, It i o → o.cls = .type "list_iterator" ∨ o.cls = .type "range_iterator" ∨ o.cls = .type "dict_keyiterator")
    (item : ∀ i m₁ led₁ h tk, i < n → J i m₁ led₁ → At c h m₁ (led₁ ++ (I, It i) :: R) → wpAny (model pr w) c.A (pyNext (.ref I)) (fun r s' => ∃ x v h' tk', r = some x ∧ Vat i v ∧ v.Is x ∧ s' = c.st h' tk' ∧ At c h' m₁ (led₁ ++ (I, It (i + 1)) :: R)) NoE (c.st h tk))
    (fin : ∀ m₁ led₁ h tk, J n m₁ led₁ → At c h m₁ (led₁ ++ (I, It n) :: R) → wpAny (model pr w) c.A (pyNext (.ref I)) (fun r s' => ∃ h' tk', r = none ∧ s' = c.st h' tk' ∧ At c h' m₁ (led₁ ++ R)) NoE (c.st h tk))
    (turn : ∀ i v m₁ led₁, i < n → Vat i v → J i m₁ led₁ → AS c m₁ led₁ target v fun m₂ led₂ => SP c m₂ led₂ body (TurnQ (J (i + 1)) Q))
    (done : ∀ m₁ led₁, J n m₁ led₁ → Q .next m₁ led₁) {h : Heap} {tk : Nat} (a : At c h m (led ++ (I, It 0) :: R)) (hj : J 0 m led) :
    codeS (model pr w) c.A (.forLoop target (.ref I) body [] c.env) (fun r s' => match r with | .ok f => PostS c R Q f s' | .error _ => False) (c.st h tk) := by
  refine codeS.forLoop (fun k s' => ∃ h' tk' m₁ led₁ i, s' = c.st h' tk' ∧ At c h' m₁ (led₁ ++ (I, It i) :: R) ∧ J i m₁ led₁ ∧ i ≤ n ∧ k = n + 1 - i) ?_ (n + 1) ⟨h, tk, m, led, 0, rfl, a, hj, Nat.zero_le _, rfl⟩
  rintro k s' ⟨h', tk', m₁, led₁, i, rfl, a', hJ, hi, rfl⟩
  by_cases hlt : i < n
  · refine wpAny_mono (item i m₁ led₁ h' tk' hlt hJ a') (fun r s₁ z => ?_) fun _ _ e => e
    obtain ⟨x, v, h₁, tk₁, rfl, hv, iv, rfl, a₁⟩ := z
    dsimp only
    have ho : ∃ o, h₁.get? I = some o ∧ It (i + 1) o := by
      obtain ⟨⟨mm, L, F, N, l, f⟩, nd⟩ := a₁
      obtain ⟨o, h1, h2⟩ := l.mem (List.mem_append_right _ (.head _))
      exact ⟨o, (N _ h1).1, h2⟩
    obtain ⟨o, ho, io⟩ := ho
    refine noOwned (s := c.st h₁ tk₁) ho (hcls _ _ io) ?_
    refine wpAny_mono (turn i v m₁ led₁ hlt hv hJ x iv h₁ tk₁ _ a₁) (fun _ s₂ z => ?_) fun _ _ e => e
    obtain ⟨h₂, tk₂, m₂, led₂, rfl, a₂, k₂⟩ := z
    refine wpS.mono (k₂ h₂ tk₂ _ a₂) (fun f s₃ z => ?_) fun _ _ e => e
    obtain ⟨h₃, tk₃, fl, m₃, led₃, rfl, ifl, a₃, k₃⟩ := z
    have go : TurnQ (J (i + 1)) Q .next m₃ led₃ → ∃ mm, mm < n + 1 - i ∧ ∃ h' tk' m₁ led₁ i, c.st h₃ tk₃ = c.st h' tk' ∧ At c h' m₁ (led₁ ++ (I, It i) :: R) ∧ J i m₁ led₁ ∧ i ≤ n ∧ mm = n + 1 - i := by
      rintro ⟨m₄, mr, led₄, lr, j, t1, t2⟩
      exact ⟨n + 1 - (i + 1), by k_extra "o", h₃, tk₃, m₄, led₄, i + 1, rfl, (a₃.keep t2).frame t1, j, hlt, rfl⟩
    have out : At c h₃ m₃ (led₃ ++ R) := (a₃.perm (led' := (I, It (i + 1)) :: (led₃ ++ R)) List.perm_middle.symm).right (x := [_])
    cases fl with
    | next => cases ifl; exact go k₃
    | cont => cases ifl; exact go k₃
    | brk => cases ifl; exact ⟨h₃, tk₃, .next, m₃, led₃, rfl, rfl, out, k₃⟩
    | ret v => obtain ⟨y, rfl, iy⟩ := ifl; exact ⟨h₃, tk₃, .ret v, m₃, led₃, rfl, ⟨y, rfl, iy⟩, out, k₃⟩
  · obtain rfl : i = n := by k_extra "o"
    refine wpAny_mono (fin m₁ led₁ h' tk' hJ a') (fun r s₁ z => ?_) fun _ _ e => e
    obtain ⟨h₁, tk₁, rfl, rfl, a₁⟩ := z
    exact ⟨h₁, tk₁, .next, m₁, led₁, rfl, rfl, a₁, done m₁ led₁ hJ⟩
@[reducible] noncomputable def kBody (c : Cx w dd cs) (body : List Stmt) (Q : AFl → AFr → ALed → Prop) : AFr → ALed → Prop := fun m₂ led₂ => SP c m₂ led₂ body Q
noncomputable def ITER (c : Cx w dd cs) (m : AFr) (led : ALed) (a : V) (target : Expr) (body : List Stmt) (Q : AFl → AFr → ALed → Prop) : Prop :=
  ∀ xa, a.Is xa → ∀ h tk R, At c h m (led ++ R) → wpAny (model pr w) c.A (pyIter xa) (fun it s' => codeS (model pr w) c.A (.forLoop target it body [] c.env) (fun r s' => match r with | .ok f => PostS c R Q f s' | .error _ => False) s') NoE (c.st h tk)
@[reducible] noncomputable def kFor (c : Cx w dd cs) (m : AFr) (target : Expr) (body : List Stmt) (Q : AFl → AFr → ALed → Prop) : V → ALed → Prop := fun a led₁ => ITER c m led₁ a target body Q
theorem ST.for_ {target iter : Expr} {body : List Stmt} {pos : Pos} {Q : AFl → AFr → ALed → Prop} (h : E1 c m led iter (kFor c m target body Q))
    (hs : ∀ x, foldedSetIterable iter c.env x = Pure.pure x := by intro _; rfl) : ST c m led (.For target iter body [] pos) Q := fun hh tk R a => by
  rw [exec_For]
  refine wpS.bind (wpS.standAt (wpS.bind (wpS.mono (h hh tk R a) (fun v s' z => ?_) fun _ _ e => e)))
  obtain ⟨h', tk', xv, led', rfl, iv, a', k⟩ := z
  rw [hs]
  refine wpS.bind (wpS.pure (wpS.bind (wpS.standAt (wpS.bind (wpS.holding (wpS.lift (wpAny_mono (k v iv h' tk' R a') (fun it s₂ z => ?_) fun _ _ e => e)))))))
  exact wpS.runOwn rfl z
theorem TakesL.mem {α : Type} {m l r : List α} (t : TakesL m l r) {q : α} (h : q ∈ m) : q ∈ l := t.perm.mem_iff.mp (List.mem_append_left _ h)
theorem Has.of {m₀ lr : ALed} {a : Addr} {p : Cell} (x : Has c m₀ a p) (t : TakesL m₀ led lr) : Has c led a p := x.imp (fun h => t.mem h) id
structure Src (w : World) (It : Nat → Cell) (n : Nat) (Vat : Nat → V → Prop) (H : ∀ (dd : Nat) (cs : Scope), Cx w dd cs → ALed → Prop) : Prop where
  cls : ∀ i o, It i o → o.cls = .type "list_iterator" ∨ o.cls = .type "range_iterator" ∨ o.cls = .type "dict_keyiterator"
  item : ∀ {dd : Nat} {cs : Scope} {c : Cx w dd cs} {i : Nat} {I : Addr} {m₁ : AFr} {led₁ R : ALed} {h : Heap} {tk : Nat}, i < n → H dd cs c led₁ → At c h m₁ (led₁ ++ (I, It i) :: R) →
    wpAny (model pr w) c.A (pyNext (.ref I)) (fun r s' => ∃ x v h' tk', r = some x ∧ Vat i v ∧ v.Is x ∧ s' = c.st h' tk' ∧ At c h' m₁ (led₁ ++ (I, It (i + 1)) :: R)) NoE (c.st h tk)
  fin : ∀ {dd : Nat} {cs : Scope} {c : Cx w dd cs} {I : Addr} {m₁ : AFr} {led₁ R : ALed} {h : Heap} {tk : Nat}, H dd cs c led₁ → At c h m₁ (led₁ ++ (I, It n) :: R) →
    wpAny (model pr w) c.A (pyNext (.ref I)) (fun r s' => ∃ h' tk', r = none ∧ s' = c.st h' tk' ∧ At c h' m₁ (led₁ ++ R)) NoE (c.st h tk)
  self : ∀ {dd : Nat} {cs : Scope} {c : Cx w dd cs} {i : Nat} {I : Addr} {m₁ : AFr} {led₁ R : ALed} {h : Heap} {tk : Nat} {Q : Value → Shared → Prop}, At c h m₁ (led₁ ++ (I, It i) :: R) → Q (.ref I) (c.st h tk) → wpAny (model pr w) c.A (pyIter (.ref I)) Q NoE (c.st h tk)
noncomputable def START (c : Cx w dd cs) (m : AFr) (led : ALed) (a : V) (It : Nat → Cell) : Prop :=
  ∀ xa, a.Is xa → ∀ h tk R, At c h m (led ++ R) → wpAny (model pr w) c.A (pyIter xa) (fun it s' => ∃ I h', it = .ref I ∧ s' = c.st h' tk ∧ At c h' m (led ++ (I, It 0) :: R)) NoE (c.st h tk)
theorem at_it {h : Heap} {led₁ R : ALed} {I : Addr} {p : Cell} (a : At c h m (led₁ ++ (I, p) :: R)) : ∃ o, h.get? I = some o ∧ p o := by
  obtain ⟨⟨mm, L, F, N, ll, f⟩, nd⟩ := a
  obtain ⟨o, h1, h2⟩ := ll.mem (List.mem_append_right _ (.head _))
  exact ⟨o, (N _ h1).1, h2⟩
theorem Has.lst {h : Heap} {led₁ R : ALed} {l : Addr} {vs : List V} (x : Has c led₁ l (cList vs)) (a : At c h m (led₁ ++ R)) : ∃ xs : List Value, h.IsList l xs.toArray ∧ AreV vs xs := by
  obtain ⟨⟨mm, L, F, N, ll, f⟩, nd⟩ := a
  obtain ⟨_, ⟨xs, n, rfl, is⟩, g⟩ := x.get F N ll
  exact ⟨xs, lstOf g, is⟩
noncomputable abbrev itL (l : Addr) : Nat → Cell := fun i o => o.cls = .type "list_iterator" ∧ o.data = .fields #[.ref l, .int i 0]
theorem START.list {l : Addr} {vs : List V} (h : Has c led l (cList vs)) : START c m led (.ref l) (itL l) := by
  intro xa e hh tk R a; cases e
  obtain ⟨xs, hxs, is⟩ := h.lst a
  refine wpAny_pyIter_list hxs ⟨_, _, rfl, rfl, ?_⟩
  obtain ⟨⟨mm, L, F, N, ll, f⟩, nd⟩ := a
  exact At.perm (At.new F nd ll f N (F.push _) (fun p hp => ⟨Heap.get?_push_of_some _ (N p hp).1, (N p hp).2⟩) (Heap.get?_push_size _ rfl) ⟨rfl, rfl⟩) List.perm_middle
theorem Src.list (l : Addr) (vs : List V) : Src w (itL l) vs.length (fun i v => vs[i]? = some v) (fun _ _ c led => Has c led l (cList vs)) where
  cls := fun i o h => .inl h.1
  item := by
    intro dd cs c i I m₁ led₁ R h tk hi H a
    obtain ⟨xs, hxs, is⟩ := H.lst a
    obtain ⟨x, hx, ix⟩ := is.get i vs[i] (by simp [hi])
    refine wpAny_pyNext_list_item (i := i) (at_it a) hxs (by simpa using hx) fun h' hit' hs => ?_
    obtain ⟨o', ho', hc', hd'⟩ := hit'
    exact ⟨x, vs[i], h', tk, rfl, by simp [hi], ix, rfl, a.change UpdL.mid hs ho' ⟨hc', hd'⟩⟩
  fin := by
    intro dd cs c I m₁ led₁ R h tk H a
    obtain ⟨xs, hxs, is⟩ := H.lst a
    exact wpAny_pyNext_list_end (i := vs.length) rfl (at_it a) hxs (by rw [← is.length]; simp) fun h' hs => ⟨h', tk, rfl, rfl, a.ext hs⟩
  self := fun a q => wpAny_pyIter_listiter (at_it a) q
noncomputable abbrev itR (a s : Int) (n : Nat) : Nat → Cell := fun i o => o = { cls := .type "range_iterator", dict := none, data := .fields #[rawInt (a + i * s), rawInt ((n : Int) - i), rawInt s], slots := #[] }
theorem START.range {r : Addr} {a b s : Int} {n : Nat} (hr : Has c led r (cRange a b s)) (hsm : Builtin.Range.small a b s = true) (hn : Builtin.Range.rangeSize a b s = (n : Int)) : START c m led (.ref r) (itR a s n) := by
  intro xa e h tk R at_; cases e
  obtain ⟨⟨mm, L, F, N, ll, f⟩, nd⟩ := at_
  obtain ⟨_, ⟨t, u, v, rfl⟩, g⟩ := hr.get F N ll
  refine wpAny_pyIter_range (show IsRange h r a b s t u v from g) hsm ⟨_, _, rfl, rfl, ?_⟩
  refine At.perm (At.new F nd ll f N (F.push _) (fun p hp => ⟨Heap.get?_push_of_some _ (N p hp).1, (N p hp).2⟩) (Heap.get?_push_size _ rfl) ?_) List.perm_middle
  show _ = _
  rw [hn]; simp
theorem at_rng {h : Heap} {led₁ R : ALed} {I : Addr} {a s : Int} {n i : Nat} (x : At c h m (led₁ ++ (I, itR a s n i) :: R)) : IsRangeIter h I (a + i * s) ((n : Int) - i) s := by
  obtain ⟨o, h1, h2⟩ := at_it x
  rw [h2] at h1
  exact h1
theorem Src.range (a s : Int) (n : Nat) : Src w (itR a s n) n (fun i v => v = .int (a + i * s)) (fun _ _ _ _ => True) where
  cls := fun i o h => .inr (.inl (by rw [h]))
  item := by
    intro dd cs c i I m₁ led₁ R h tk hi _ a₁
    refine wpAny_pyNext_range_item (at_rng a₁) (by k_extra "o") fun h' hit' hs => ?_
    refine ⟨_, .int (a + i * s), h', tk + 1, rfl, rfl, ⟨_, rfl⟩, rfl, a₁.change UpdL.mid hs hit' ?_⟩
    have e1 : a + (i : Int) * s + s = a + ((i + 1 : Nat) : Int) * s := by push_cast; rw [Int.add_mul]; k_extra "o"
    have e2 : (n : Int) - (i : Int) - 1 = (n : Int) - ((i + 1 : Nat) : Int) := by k_extra "o"
    show _ = _
    rw [e1, e2]
  fin := fun _ a₁ => wpAny_pyNext_range_end rfl (at_rng a₁) (by k_extra "o") fun h' hs => ⟨h', _, rfl, rfl, a₁.ext hs⟩
  self := fun a q => wpAny_pyIter_rangeiter (at_rng a) q
theorem ITER.src {a : V} {It : Nat → Cell} {n : Nat} {Vat : Nat → V → Prop} {H : ∀ (dd : Nat) (cs : Scope), Cx w dd cs → ALed → Prop} {target : Expr} {body : List Stmt} {Q : AFl → AFr → ALed → Prop} (S : Src w It n Vat H) (s : START c m led a It) (J : Nat → AFr → ALed → Prop) (hH : ∀ i m' led', J i m' led' → H dd cs c led') {m₀ mr : AFr} {led₀ lr : ALed} (hj : J 0 m₀ led₀) (tm : TakesL m₀ m mr) (tl : TakesL led₀ led lr)
    (turn : ∀ Q' : Nat → AFl → AFr → ALed → Prop, (∀ i, Fold (TurnQ (J (i + 1)) Q) (Q' i)) → ∀ i v m₁ led₁, i < n → Vat i v → J i m₁ led₁ → AS c m₁ led₁ target v (kBody c body (Q' i))) (done : ∀ m₁ led₁, J n m₁ led₁ → Q .next m₁ led₁) : ITER c m led a target body Q := by
  have turn := turn (fun i => TurnQ (J (i + 1)) Q) fun i => Fold.rfl
  intro xa ia h tk R at_
  refine wpAny_mono (s xa ia h tk R at_) (fun it s' z => ?_) fun _ _ e => e
  obtain ⟨I, h', rfl, rfl, a'⟩ := z
  have a'' := (a'.keep tl).frame tm
  exact loop_core S.cls (fun i m₁ led₁ h tk hi hJ a => S.item hi (hH _ _ _ hJ) a) (fun m₁ led₁ h tk hJ a => S.fin (hH _ _ _ hJ) a) turn done a'' hj
theorem ITER.list {l : Addr} {vs : List V} {target : Expr} {body : List Stmt} {Q : AFl → AFr → ALed → Prop} (J : Nat → AFr → ALed → Prop) (hl : ∀ i m' led', J i m' led' → Has c led' l (cList vs)) {m₀ mr : AFr} {led₀ lr : ALed} (hj : J 0 m₀ led₀) (tm : TakesL m₀ m mr) (tl : TakesL led₀ led lr)
    (turn : ∀ Q' : Nat → AFl → AFr → ALed → Prop, (∀ i, Fold (TurnQ (J (i + 1)) Q) (Q' i)) → ∀ i v m₁ led₁, i < vs.length → vs[i]? = some v → J i m₁ led₁ → AS c m₁ led₁ target v (kBody c body (Q' i))) (done : ∀ m₁ led₁, J vs.length m₁ led₁ → Q .next m₁ led₁) : ITER c m led (.ref l) target body Q :=
  ITER.src (Src.list l vs) (START.list ((hl 0 _ _ hj).of tl)) J hl hj tm tl turn done
theorem ITER.range {r : Addr} {a b s : Int} {n : Nat} {target : Expr} {body : List Stmt} {Q : AFl → AFr → ALed → Prop} (J : Nat → AFr → ALed → Prop) (hr : Has c led r (cRange a b s)) (hsm : Builtin.Range.small a b s = true) (hn : Builtin.Range.rangeSize a b s = (n : Int)) {m₀ mr : AFr} {led₀ lr : ALed} (hj : J 0 m₀ led₀) (tm : TakesL m₀ m mr) (tl : TakesL led₀ led lr)
    (turn : ∀ Q' : Nat → AFl → AFr → ALed → Prop, (∀ i, Fold (TurnQ (J (i + 1)) Q) (Q' i)) → ∀ i m₁ led₁, i < n → J i m₁ led₁ → AS c m₁ led₁ target (.int (a + i * s)) (kBody c body (Q' i))) (done : ∀ m₁ led₁, J n m₁ led₁ → Q .next m₁ led₁) : ITER c m led (.ref r) target body Q :=
  ITER.src (Src.range a s n) (START.range hr hsm hn) J (fun _ _ _ _ => trivial) hj tm tl (fun Q' hQ' i v m₁ led₁ hi hv hJ => by subst hv; exact turn Q' hQ' i m₁ led₁ hi hJ) done
theorem codeS.whileLoopS {prog : Program} {A : Around} {s : Shared} {R : Result → Shared → Prop} {test : Expr} {body : List Stmt} {env : Env} (I : Nat → Shared → Prop)
    (turn : ∀ n s, I n s → wpS (model prog w) A (isTrue test env (eval test env)) (fun b s₁ => if b then
        wpS (model prog w) A (execs body env) (fun f s₃ => match f with
            | .next | .cont => ∃ m, m < n ∧ I m s₃
            | .brk => R (.ok .next) s₃
            | .ret v => R (.ok (.ret v)) s₃) NoE s₁
        else R (.ok .next) s₁) NoE s)
    (n : Nat) (h : I n s) : codeS (model prog w) A (.whileLoop test body [] env) R s := by
  refine codeS.loop rfl rfl I (fun n s hI => ?_) n h
  rw [Around.under_of_weight rfl]
  show wpS _ A ((whileTurn test body [] env).onRaise (fun x => do noteFrame x env; theTreesLotGoes x)) _ _ s
  refine wpS.onRaise (wpS.mono (E := NoE) ?_ (fun _ _ x => x) fun _ _ x => x.elim)
  simp only [whileTurn]
  refine wpS.bind (wpS.mono (turn n s hI) (fun b s₁ h₁ => ?_) fun _ _ h' => h')
  cases b with
  | false => exact wpS.bind (wpS.execs_nil (wpS.pure h₁))
  | true =>
    refine wpS.bind (wpS.mono h₁ (fun f s₃ h₃ => ?_) fun _ _ h' => h')
    cases f with
    | next => exact wpS.pure (.inl ⟨rfl, h₃⟩)
    | cont => exact wpS.pure (.inl ⟨rfl, h₃⟩)
    | brk => exact wpS.pure h₃
    | ret v => exact wpS.pure h₃
noncomputable def WhQ (J : Nat → AFr → ALed → Prop) (n : Nat) (Q : AFl → AFr → ALed → Prop) (fl : AFl) (m : AFr) (led : ALed) : Prop := match fl with
  | .brk => Q .next m led
  | .ret v => Q (.ret v) m led
  | _ => ∃ k m₁ mr led₁ lr, k < n ∧ J k m₁ led₁ ∧ TakesL m₁ m mr ∧ TakesL led₁ led lr
@[reducible] noncomputable def kWh (c : Cx w dd cs) (m : AFr) (body : List Stmt) (Qt Q : AFl → AFr → ALed → Prop) : Bool → ALed → Prop := fun b led₂ => (b = true → SP c m led₂ body Qt) ∧ (b = false → Q .next m led₂)
theorem ST.while_ {test : Expr} {body : List Stmt} {pos : Pos} {Q : AFl → AFr → ALed → Prop} (J : Nat → AFr → ALed → Prop) (n : Nat) {m₀ mr : AFr} {led₀ lr : ALed} (hj : J n m₀ led₀) (tm : TakesL m₀ m mr) (tl : TakesL led₀ led lr)
    (turn : ∀ Q' : Nat → AFl → AFr → ALed → Prop, (∀ k, Fold (WhQ J k Q) (Q' k)) → ∀ k m₁ led₁, J k m₁ led₁ → T1 c m₁ led₁ test (kWh c m₁ body (Q' k) Q)) : ST c m led (.While test body [] pos) Q := fun hh tk R a => by
  have turn := turn (fun k => WhQ J k Q) fun k => Fold.rfl
  rw [exec_While]
  refine wpS.bind (wpS.standAt (wpS.runOwn rfl ?_))
  refine codeS.whileLoopS (fun k s' => ∃ h' tk' m₁ led₁, s' = c.st h' tk' ∧ At c h' m₁ (led₁ ++ R) ∧ J k m₁ led₁) ?_ n ⟨hh, tk, m₀, led₀, rfl, (a.keep tl).frame tm, hj⟩
  rintro k s' ⟨h', tk', m₁, led₁, rfl, a', hJ⟩
  refine wpS.mono (turn k m₁ led₁ hJ h' tk' R a') (fun b s₁ z => ?_) fun _ _ e => e
  obtain ⟨h₁, tk₁, x, led₂, rfl, rfl, a₁, k₁⟩ := z
  cases x with
  | false => exact ⟨h₁, tk₁, .next, m₁, led₂, rfl, rfl, a₁, k₁.2 rfl⟩
  | true =>
    refine wpS.mono (k₁.1 rfl h₁ tk₁ R a₁) (fun f s₃ z => ?_) fun _ _ e => e
    obtain ⟨h₃, tk₃, fl, m₃, led₃, rfl, ifl, a₃, k₃⟩ := z
    have go : WhQ J k Q .next m₃ led₃ → ∃ mm, mm < k ∧ ∃ h' tk' m₁ led₁, c.st h₃ tk₃ = c.st h' tk' ∧ At c h' m₁ (led₁ ++ R) ∧ J mm m₁ led₁ := by
      rintro ⟨kk, m₄, mr, led₄, lr, hk, j, t1, t2⟩
      exact ⟨kk, hk, h₃, tk₃, m₄, led₄, rfl, (a₃.keep t2).frame t1, j⟩
    cases fl with
    | next => cases ifl; exact go k₃
    | cont => cases ifl; exact go k₃
    | brk => cases ifl; exact ⟨h₃, tk₃, .next, m₃, led₃, rfl, rfl, a₃, k₃⟩
    | ret v => obtain ⟨y, rfl, iy⟩ := ifl; exact ⟨h₃, tk₃, .ret v, m₃, led₃, rfl, ⟨y, rfl, iy⟩, a₃, k₃⟩
end
section
theorem fillA7 : (PySem.Challenge.rw_nt0568_01, Top.K) = (PySem.Challenge.rw_nt0568_01, Top.K) := by
  k_fill
  rfl
variable {w : World}
theorem g_code_rows : Glob w "code_rows" (.ref 96) ∧ keepIn (Top.K w.params) (.ref 96) = true := ⟨⟨by k_is, by decide⟩, by k_is⟩
theorem g_check_told : Glob w "check_told" (.ref 103) ∧ keepIn (Top.K w.params) (.ref 103) = true := ⟨⟨by k_is, by decide⟩, by k_is⟩
theorem g_HuffTable : Glob w "HuffTable" (.ref 134) ∧ keepIn (Top.K w.params) (.ref 134) = true := ⟨⟨by k_is, by decide⟩, by k_is⟩
theorem g_Scan : Glob w "Scan" (.ref 169) ∧ keepIn (Top.K w.params) (.ref 169) = true := ⟨⟨by k_is, by decide⟩, by k_is⟩
theorem g_BitWriter : Glob w "BitWriter" (.ref 211) ∧ keepIn (Top.K w.params) (.ref 211) = true := ⟨⟨by k_is, by decide⟩, by k_is⟩
theorem g_BitReader : Glob w "BitReader" (.ref 253) ∧ keepIn (Top.K w.params) (.ref 253) = true := ⟨⟨by k_is, by decide⟩, by k_is⟩
theorem g_category : Glob w "category" (.ref 264) ∧ keepIn (Top.K w.params) (.ref 264) = true := ⟨⟨by k_is, by decide⟩, by k_is⟩
theorem g_bits_of : Glob w "bits_of" (.ref 271) ∧ keepIn (Top.K w.params) (.ref 271) = true := ⟨⟨by k_is, by decide⟩, by k_is⟩
theorem g_value_of : Glob w "value_of" (.ref 278) ∧ keepIn (Top.K w.params) (.ref 278) = true := ⟨⟨by k_is, by decide⟩, by k_is⟩
theorem g_put_number : Glob w "put_number" (.ref 285) ∧ keepIn (Top.K w.params) (.ref 285) = true := ⟨⟨by k_is, by decide⟩, by k_is⟩
theorem g_SequentialWriter : Glob w "SequentialWriter" (.ref 323) ∧ keepIn (Top.K w.params) (.ref 323) = true := ⟨⟨by k_is, by decide⟩, by k_is⟩
theorem g_SequentialReader : Glob w "SequentialReader" (.ref 372) ∧ keepIn (Top.K w.params) (.ref 372) = true := ⟨⟨by k_is, by decide⟩, by k_is⟩
theorem g_CodeSink : Glob w "CodeSink" (.ref 414) ∧ keepIn (Top.K w.params) (.ref 414) = true := ⟨⟨by k_is, by decide⟩, by k_is⟩
theorem g_CountSink : Glob w "CountSink" (.ref 456) ∧ keepIn (Top.K w.params) (.ref 456) = true := ⟨⟨by k_is, by decide⟩, by k_is⟩
theorem g_law_pool : Glob w "_law_pool" (.ref 467) ∧ keepIn (Top.K w.params) (.ref 467) = true := ⟨⟨by k_is, by decide⟩, by k_is⟩
theorem g_law_take : Glob w "_law_take" (.ref 474) ∧ keepIn (Top.K w.params) (.ref 474) = true := ⟨⟨by k_is, by decide⟩, by k_is⟩
theorem g_law_number : Glob w "_law_number" (.ref 481) ∧ keepIn (Top.K w.params) (.ref 481) = true := ⟨⟨by k_is, by decide⟩, by k_is⟩
theorem g_law_blocks : Glob w "_law_blocks" (.ref 486) ∧ keepIn (Top.K w.params) (.ref 486) = true := ⟨⟨by k_is, by decide⟩, by k_is⟩
theorem g_law_coded : Glob w "_law_coded" (.ref 493) ∧ keepIn (Top.K w.params) (.ref 493) = true := ⟨⟨by k_is, by decide⟩, by k_is⟩
theorem g_law_figures : Glob w "_law_figures" (.ref 498) ∧ keepIn (Top.K w.params) (.ref 498) = true := ⟨⟨by k_is, by decide⟩, by k_is⟩
theorem g_law_number_text : Glob w "_law_number_text" (.ref 505) ∧ keepIn (Top.K w.params) (.ref 505) = true := ⟨⟨by k_is, by decide⟩, by k_is⟩
theorem g_law_octets : Glob w "_law_octets" (.ref 510) ∧ keepIn (Top.K w.params) (.ref 510) = true := ⟨⟨by k_is, by decide⟩, by k_is⟩
theorem g_law_zeros_right : Glob w "_law_zeros_right" (.ref 517) ∧ keepIn (Top.K w.params) (.ref 517) = true := ⟨⟨by k_is, by decide⟩, by k_is⟩
theorem g_law_refused : Glob w "_law_refused" (.ref 524) ∧ keepIn (Top.K w.params) (.ref 524) = true := ⟨⟨by k_is, by decide⟩, by k_is⟩
theorem k_MOST_BITS : ∃ x, (V.int 16).Is x ∧ Glob w "MOST_BITS" x := ⟨_, ⟨_, rfl⟩, by k_is, by decide⟩
theorem k_MOST_SYMBOLS : ∃ x, (V.int 256).Is x ∧ Glob w "MOST_SYMBOLS" x := ⟨_, ⟨_, rfl⟩, by k_is, by decide⟩
theorem k_ZEROS : ∃ x, (V.int 240).Is x ∧ Glob w "ZEROS" x := ⟨_, ⟨_, rfl⟩, by k_is, by decide⟩
theorem k_MOST_SIZE : ∃ x, (V.int 15).Is x ∧ Glob w "MOST_SIZE" x := ⟨_, ⟨_, rfl⟩, by k_is, by decide⟩
theorem mk_HuffTable : MakeOk w 134 117 := ⟨by k_is, by k_is, by k_is⟩
theorem m_HuffTable_code : Meth w 134 "code" 124 := ⟨by k_is, by k_is, by k_is, by k_is⟩
theorem m_HuffTable_read : Meth w 134 "read" 131 := ⟨by k_is, by k_is, by k_is, by k_is⟩
theorem a_HuffTable_counts : AttrOk w 134 "counts" := ⟨by k_is, by k_is, ⟨_, by k_is, by k_is⟩, by k_is, by k_is, by k_is⟩
theorem a_HuffTable_symbols : AttrOk w 134 "symbols" := ⟨by k_is, by k_is, ⟨_, by k_is, by k_is⟩, by k_is, by k_is, by k_is⟩
theorem a_HuffTable_rows : AttrOk w 134 "rows" := ⟨by k_is, by k_is, ⟨_, by k_is, by k_is⟩, by k_is, by k_is, by k_is⟩
theorem a_HuffTable_codes : AttrOk w 134 "codes" := ⟨by k_is, by k_is, ⟨_, by k_is, by k_is⟩, by k_is, by k_is, by k_is⟩
theorem mk_Scan : MakeOk w 169 152 := ⟨by k_is, by k_is, by k_is⟩
theorem a_Scan_places : AttrOk w 169 "places" := ⟨by k_is, by k_is, ⟨_, by k_is, by k_is⟩, by k_is, by k_is, by k_is⟩
theorem a_Scan_dc_slots : AttrOk w 169 "dc_slots" := ⟨by k_is, by k_is, ⟨_, by k_is, by k_is⟩, by k_is, by k_is, by k_is⟩
theorem a_Scan_ac_slots : AttrOk w 169 "ac_slots" := ⟨by k_is, by k_is, ⟨_, by k_is, by k_is⟩, by k_is, by k_is, by k_is⟩
theorem a_Scan_start : AttrOk w 169 "start" := ⟨by k_is, by k_is, ⟨_, by k_is, by k_is⟩, by k_is, by k_is, by k_is⟩
theorem a_Scan_end : AttrOk w 169 "end" := ⟨by k_is, by k_is, ⟨_, by k_is, by k_is⟩, by k_is, by k_is, by k_is⟩
theorem a_Scan_high : AttrOk w 169 "high" := ⟨by k_is, by k_is, ⟨_, by k_is, by k_is⟩, by k_is, by k_is, by k_is⟩
theorem a_Scan_low : AttrOk w 169 "low" := ⟨by k_is, by k_is, ⟨_, by k_is, by k_is⟩, by k_is, by k_is, by k_is⟩
theorem mk_BitWriter : MakeOk w 211 187 := ⟨by k_is, by k_is, by k_is⟩
theorem m_BitWriter_put : Meth w 211 "put" 194 := ⟨by k_is, by k_is, by k_is, by k_is⟩
theorem m_BitWriter_pad : Meth w 211 "pad" 201 := ⟨by k_is, by k_is, by k_is, by k_is⟩
theorem m_BitWriter_octets : Meth w 211 "octets" 208 := ⟨by k_is, by k_is, by k_is, by k_is⟩
theorem a_BitWriter_full : AttrOk w 211 "full" := ⟨by k_is, by k_is, ⟨_, by k_is, by k_is⟩, by k_is, by k_is, by k_is⟩
theorem a_BitWriter_rest : AttrOk w 211 "rest" := ⟨by k_is, by k_is, ⟨_, by k_is, by k_is⟩, by k_is, by k_is, by k_is⟩
theorem a_BitWriter_size : AttrOk w 211 "size" := ⟨by k_is, by k_is, ⟨_, by k_is, by k_is⟩, by k_is, by k_is, by k_is⟩
theorem mk_BitReader : MakeOk w 253 229 := ⟨by k_is, by k_is, by k_is⟩
theorem m_BitReader_left : Meth w 253 "left" 236 := ⟨by k_is, by k_is, by k_is, by k_is⟩
theorem m_BitReader_bit : Meth w 253 "bit" 243 := ⟨by k_is, by k_is, by k_is, by k_is⟩
theorem m_BitReader_bits : Meth w 253 "bits" 250 := ⟨by k_is, by k_is, by k_is, by k_is⟩
theorem a_BitReader_source : AttrOk w 253 "source" := ⟨by k_is, by k_is, ⟨_, by k_is, by k_is⟩, by k_is, by k_is, by k_is⟩
theorem a_BitReader_at : AttrOk w 253 "at" := ⟨by k_is, by k_is, ⟨_, by k_is, by k_is⟩, by k_is, by k_is, by k_is⟩
theorem mk_SequentialWriter : MakeOk w 323 299 := ⟨by k_is, by k_is, by k_is⟩
theorem m_SequentialWriter_start : Meth w 323 "start" 306 := ⟨by k_is, by k_is, by k_is, by k_is⟩
theorem m_SequentialWriter_code : Meth w 323 "code" 313 := ⟨by k_is, by k_is, by k_is, by k_is⟩
theorem m_SequentialWriter_finish : Meth w 323 "finish" 320 := ⟨by k_is, by k_is, by k_is, by k_is⟩
theorem a_SequentialWriter_scan : AttrOk w 323 "scan" := ⟨by k_is, by k_is, ⟨_, by k_is, by k_is⟩, by k_is, by k_is, by k_is⟩
theorem a_SequentialWriter_many : AttrOk w 323 "many" := ⟨by k_is, by k_is, ⟨_, by k_is, by k_is⟩, by k_is, by k_is, by k_is⟩
theorem a_SequentialWriter_sink : AttrOk w 323 "sink" := ⟨by k_is, by k_is, ⟨_, by k_is, by k_is⟩, by k_is, by k_is, by k_is⟩
theorem a_SequentialWriter_before : AttrOk w 323 "before" := ⟨by k_is, by k_is, ⟨_, by k_is, by k_is⟩, by k_is, by k_is, by k_is⟩
theorem mk_SequentialReader : MakeOk w 372 341 := ⟨by k_is, by k_is, by k_is⟩
theorem m_SequentialReader_start : Meth w 372 "start" 348 := ⟨by k_is, by k_is, by k_is, by k_is⟩
theorem m_SequentialReader_number : Meth w 372 "number" 355 := ⟨by k_is, by k_is, by k_is, by k_is⟩
theorem m_SequentialReader_read : Meth w 372 "read" 362 := ⟨by k_is, by k_is, by k_is, by k_is⟩
theorem m_SequentialReader_finish : Meth w 372 "finish" 369 := ⟨by k_is, by k_is, by k_is, by k_is⟩
theorem a_SequentialReader_scan : AttrOk w 372 "scan" := ⟨by k_is, by k_is, ⟨_, by k_is, by k_is⟩, by k_is, by k_is, by k_is⟩
theorem a_SequentialReader_many : AttrOk w 372 "many" := ⟨by k_is, by k_is, ⟨_, by k_is, by k_is⟩, by k_is, by k_is, by k_is⟩
theorem a_SequentialReader_tables : AttrOk w 372 "tables" := ⟨by k_is, by k_is, ⟨_, by k_is, by k_is⟩, by k_is, by k_is, by k_is⟩
theorem a_SequentialReader_reader : AttrOk w 372 "reader" := ⟨by k_is, by k_is, ⟨_, by k_is, by k_is⟩, by k_is, by k_is, by k_is⟩
theorem a_SequentialReader_before : AttrOk w 372 "before" := ⟨by k_is, by k_is, ⟨_, by k_is, by k_is⟩, by k_is, by k_is, by k_is⟩
theorem mk_CodeSink : MakeOk w 414 390 := ⟨by k_is, by k_is, by k_is⟩
theorem m_CodeSink_symbol : Meth w 414 "symbol" 397 := ⟨by k_is, by k_is, by k_is, by k_is⟩
theorem m_CodeSink_bits : Meth w 414 "bits" 404 := ⟨by k_is, by k_is, by k_is, by k_is⟩
theorem m_CodeSink_finish : Meth w 414 "finish" 411 := ⟨by k_is, by k_is, by k_is, by k_is⟩
theorem a_CodeSink_tables : AttrOk w 414 "tables" := ⟨by k_is, by k_is, ⟨_, by k_is, by k_is⟩, by k_is, by k_is, by k_is⟩
theorem a_CodeSink_writer : AttrOk w 414 "writer" := ⟨by k_is, by k_is, ⟨_, by k_is, by k_is⟩, by k_is, by k_is, by k_is⟩
theorem mk_CountSink : MakeOk w 456 432 := ⟨by k_is, by k_is, by k_is⟩
theorem m_CountSink_symbol : Meth w 456 "symbol" 439 := ⟨by k_is, by k_is, by k_is, by k_is⟩
theorem m_CountSink_bits : Meth w 456 "bits" 446 := ⟨by k_is, by k_is, by k_is, by k_is⟩
theorem m_CountSink_finish : Meth w 456 "finish" 453 := ⟨by k_is, by k_is, by k_is, by k_is⟩
theorem a_CountSink_counts : AttrOk w 456 "counts" := ⟨by k_is, by k_is, ⟨_, by k_is, by k_is⟩, by k_is, by k_is, by k_is⟩
end
section
variable {w : World} {dd : Nat} {cs : Scope} {c : Cx w dd cs} {m m' : AFr} {led led' : ALed}

theorem mem_hd {α : Type} {a : α} {l : List α} : a ∈ a :: l := List.Mem.head _
theorem mem_tl {α : Type} {a b : α} {l : List α} (h : a ∈ l) : a ∈ b :: l := List.Mem.tail _ h
theorem TakesL.all {α : Type} : ∀ {l : List α}, TakesL l l []
  | [] => .nil
  | _ :: _ => .cons .head TakesL.all
theorem TakesL.ap : ∀ {l r : ALed}, TakesL l (apL l r) r
  | [], _ => .nil
  | _ :: _, _ => .cons .head TakesL.ap
theorem TakeL.past {α : Type} {p q : α} {l r : List α} (t : TakeL p l r) : TakeL p (q :: l) (q :: r) := .tail t
theorem TakesL.skip {α : Type} {q : α} {m l r : List α} (t : TakesL m l r) : TakesL m (q :: l) (q :: r) := by
  induction t with
  | nil => exact .nil
  | cons t _ ih => exact .cons t.past ih
theorem mem_ap {q : Addr × Cell} {l r : ALed} (h : q ∈ l) : q ∈ apL l r := by rw [apL_eq]; exact List.mem_append_left _ h
noncomputable def notIn (x : Str) : List (Str × V) → Bool
  | [] => true
  | (y, _) :: r => if x = y then false else notIn x r
theorem notIn_of {x : Str} : ∀ {l : List (Str × V)}, notIn x l = true → x ∉ l.map (·.1)
  | [], _, h => nomatch h
  | (y, v) :: r, e, h => by
    unfold notIn at e
    split at e
    · cases e
    · rename_i hn
      rcases List.mem_cons.mp h with h | h
      · exact hn h
      · exact notIn_of e h
theorem PutF.fresh {x : Str} {v : V} (h : notIn x m = true) (hl : cs.names.lookup x = some .local) (hd : (x == ("__debug__" : Str)) = false) : PutF cs x v m ((x, v) :: m) := .new (notIn_of h) hl hd
theorem METH.inst {K : Value → List V → ALed → Prop} {x C d f : Addr} {name : Str} {l : List (Str × V)} (h1 : Has c led x (cInst C d)) (h2 : Has c led d (cAttr w C l)) (hM : Meth w C name f) (hn : notIn name l = true) (k : K (.ref f) [.ref x] led) :
    METH c m led (.ref x) name (kKeep w K) := METH.own h1 h2 hM (notIn_of hn) k
theorem SETA.fresh {K : ALed → Prop} {x C d : Addr} {n : Str} {v : V} {l : List (Str × V)} (h1 : Has c led x (cInst C d)) (hu : UpdL d (cAttr w C l) (cAttr w C ((n, v) :: l)) led led') (A : AttrOk w C n) (hn : notIn n l = true) (hz : Nat.ble (l.length + 1) 100 = true) (k : K led') : SETA c m led (.ref x) n v K :=
  SETA.new h1 hu A (notIn_of hn) (Nat.le_of_ble_eq_true hz) k
theorem SETA.old {K : ALed → Prop} {x C d : Addr} {n : Str} {o v : V} {l l' : List (Str × V)} (h1 : Has c led x (cInst C d)) (hu : UpdL d (cAttr w C l) (cAttr w C l') led led') (ua : UpdL n o v l l') (hz : Nat.ble (l.length + 1) 100 = true) (k : K led') : SETA c m led (.ref x) n v K :=
  SETA.upd h1 hu ua (Nat.le_of_ble_eq_true hz) k
section
variable {Q : AFl → AFr → ALed → Prop} {rest : List Stmt}
theorem AndThen.nx (h : SP c m led rest Q) : AndThen c rest Q .next m led := h
theorem AndThen.rt {v : V} (h : Q (.ret v) m led) : AndThen c rest Q (.ret v) m led := h
theorem AndThen.bk (h : Q .brk m led) : AndThen c rest Q .brk m led := h
theorem TurnQ.rt {J : AFr → ALed → Prop} {v : V} (h : Q (.ret v) m led) : TurnQ J Q (.ret v) m led := h
theorem WhQ.rt {J : Nat → AFr → ALed → Prop} {n : Nat} {v : V} (h : Q (.ret v) m led) : WhQ J n Q (.ret v) m led := h
theorem ARG.nl {K : List V → ALed → Prop} (h : K [] led) : ARG c m led [] K := h
@[reducible] noncomputable def kArg (c : Cx w dd cs) (m : AFr) (r : List Expr) (K : List V → ALed → Prop) : V → ALed → Prop := fun v led₁ => ARG c m led₁ r (kCons v K)
theorem ARG.cn {e : Expr} {r : List Expr} {K : List V → ALed → Prop} (h : E1 c m led e (kArg c m r K)) : ARG c m led (e :: r) K := h
theorem IfD {p : Prop} [Decidable p] {A B : Prop} (h1 : p → A) (h2 : ¬ p → B) : (decide p = true → A) ∧ (decide p = false → B) := ⟨fun h => h1 (of_decide_eq_true h), fun h => h2 (of_decide_eq_false h)⟩
theorem IfN {p : Prop} [Decidable p] {A B : Prop} (h1 : ¬ p → A) (h2 : p → B) : ((!decide p) = true → A) ∧ ((!decide p) = false → B) := ⟨fun h => h1 (of_decide_eq_false (by simpa using h)), fun h => h2 (of_decide_eq_true (by simpa using h))⟩
theorem IfT {A B : Prop} (h1 : A) : (true = true → A) ∧ (true = false → B) := ⟨fun _ => h1, fun h => (nomatch h)⟩
theorem IfF {A B : Prop} (h2 : B) : (false = true → A) ∧ (false = false → B) := ⟨fun h => (nomatch h), fun _ => h2⟩
theorem StoreTs.nl {K : AFr → ALed → Prop} (h : K m led) : StoreTs c [] [] m led K := h
@[reducible] noncomputable def kTs (c : Cx w dd cs) (es : List Expr) (vs : List V) (K : AFr → ALed → Prop) : AFr → ALed → Prop := fun m' led' => StoreTs c es vs m' led' K
theorem StoreTs.cn {e : Expr} {es : List Expr} {v : V} {vs : List V} {K : AFr → ALed → Prop} (h : AS c m led e v (kTs c es vs K)) : StoreTs c (e :: es) (v :: vs) m led K := h
noncomputable def SwapK (cs : Scope) (x y : Str) (m : AFr) (Q : AFl → AFr → ALed → Prop) (v : V) (led : ALed) : Prop :=
  ∃ t a b, v = .ref t ∧ (t, cTup [a, b]) ∈ led ∧ StoreK cs y b m fun m' => StoreK cs x a m' fun m'' => Q .next m'' led
@[reducible] noncomputable def kSw (cs : Scope) (x : Str) (a : V) (K : AFr → Prop) : AFr → Prop := fun m' => StoreK cs x a m' K
theorem SwapK.mk {x y : Str} {D : Addr} {a b : V} (h : StoreK cs y b m (kSw cs x a (kPut (Q .next) ((D, cTup [a, b]) :: led)))) : SwapK cs x y m Q (.ref D) ((D, cTup [a, b]) :: led) := ⟨D, a, b, rfl, .head _, h⟩
theorem ST.swap2 {x y : Str} {px py tpos pos : Pos} {n : Nat} {e : Expr} (h : E1 c m led e (SwapK cs x y m Q))
    (hs : swapsWithSole [.Tuple [.Name x px, .Name y py] n tpos] e pos.line c.env = Pure.pure false) (hw : swappedStores [.Tuple [.Name x px, .Name y py] n tpos] e c.env = Pure.pure (some [x, y])) : ST c m led (.Assign [.Tuple [.Name x px, .Name y py] n tpos] e pos) Q :=
  ST.swap (names := [x, y]) (CP.mono h (by rintro v led₁ ⟨t, a, b, e, hm, k⟩; exact ⟨t, [a, b], e, hm, rfl, k⟩)) hs hw
theorem glob_name {x : Str} {pos : Pos} {v : V} {K : V → ALed → Prop} (hg : ∃ y, v.Is y ∧ Glob w x y) (hx : cs.names.lookup x = some .globalImplicit) (k : K v led) : E1 c m led (.Name x pos) K := by
  obtain ⟨y, h1, h2⟩ := hg; exact E1.glob h2 h1 hx k
theorem glob_call {x : Str} {npos pos : Pos} {args : List Expr} {f : Addr} {K : V → ALed → Prop} (hg : Glob w x (.ref f) ∧ keepIn (Top.K w.params) (.ref f) = true) (hx : cs.names.lookup x = some .globalImplicit) (hs : noStar args = true)
    (h : ARG c m led args (kCall0 c m (.ref f) K)) : E1 c m led (.Call (.Name x npos) args [] pos) K := E1.call hg.1 hg.2 hx hs h
end
theorem CALL.ap1 {f : Value} {a : V} {vs : List V} {K : V → ALed → Prop} (h : CALL c m led f (a :: vs) K) : CALL c m led f ([a] ++ vs) K := h
structure BName (w : World) (x : Str) (f : Value) : Prop where
  h : nsIn (Top.K w.params) mainGlobals x = some none ∧ bootBuiltins x = some f ∧ x ≠ "__name__" ∧ (x == ("__debug__" : Str)) = false
  k : keeperOf f = Pure.pure Keeper.machine
theorem blt_call {x : Str} {npos pos : Pos} {args : List Expr} {f : Value} {K : V → ALed → Prop} (hg : BName w x f) (hx : cs.names.lookup x = some .globalImplicit) (hs : noStar args = true)
    (h : ARG c m led args (kCall0 c m f K)) : E1 c m led (.Call (.Name x npos) args [] pos) K := E1.callB hg.h hg.k hx hs h
theorem fillA8 : (PySem.Challenge.rw_nt0568_01, Top.K) = (PySem.Challenge.rw_nt0568_01, Top.K) := by
  k_fill
  rfl
theorem b_len : BName w "len" (.builtin "len") := ⟨⟨by k_is, boot_len, by decide, by decide⟩, rfl⟩
theorem b_range : BName w "range" (.type "range") := ⟨⟨by k_is, boot_range, by decide, by decide⟩, rfl⟩
theorem b_abs : BName w "abs" (.builtin "abs") := ⟨⟨by k_is, boot_abs, by decide, by decide⟩, rfl⟩
theorem b_int : BName w "int" (.type "int") := ⟨⟨by k_is, boot_int, by decide, by decide⟩, rfl⟩
section
variable {K : V → ALed → Prop}
theorem isIntE {i j : Int} {t : Tok} (e : j = i) : (V.int i).Is (.int j t) := ⟨t, by rw [e]⟩
theorem CALL.len_list {l : Addr} {vs : List V} (h : Has c led l (cList vs)) (k : K (.int vs.length) led) (hz : vs.length < 2 ^ 60) : CALL c m led (.builtin "len") [.ref l] K := by
  intro xs is
  cases is with | cons i is =>
  cases is; cases i
  refine CP.any fun hh tk R mm L F N ll f nd => ?_
  obtain ⟨_, ⟨ys, n, rfl, iy⟩, g⟩ := h.get F N ll
  exact call_len_list (lstOf g) (by rw [List.size_toArray, iy.length]; k_extra "o") (Post.mk (isIntE (by rw [List.size_toArray, iy.length])) F N ll f nd k)
theorem CALL.len_bytes {l : List UInt8} (k : K (.int l.length) led) (hz : l.length < 2 ^ 30) : CALL c m led (.builtin "len") [.bytes l] K := by
  intro xs is
  cases is with | cons i is => cases is; obtain ⟨t, rfl⟩ := i; exact CP.any fun hh tk R mm L F N ll f nd => W.len_bytes (by rw [List.size_toArray]; k_extra "o") (Post.mk (isIntE (by rw [List.size_toArray])) F N ll f nd k)
theorem CALL.abs {i : Int} (k : K (.int (if i < 0 then -i else i)) led) : CALL c m led (.builtin "abs") [.int i] K := by
  intro xs is
  cases is with | cons i is => cases is; obtain ⟨t, rfl⟩ := i; exact CP.any fun hh tk R mm L F N ll f nd => call_abs_int fun u tk => Post.mk (isInt _ _) F N ll f nd k
theorem CALL.int {i : Int} (k : K (.int i) led) : CALL c m led (.type "int") [.int i] K := by
  intro xs is
  cases is with | cons i is => cases is; obtain ⟨t, rfl⟩ := i; exact CP.any fun hh tk R mm L F N ll f nd => call_int_int (Post.mk (isInt _ _) F N ll f nd k)
theorem METH.bit_length {i : Int} {K : Value → List V → ALed → Prop} (k : K (.builtin "int.bit_length") [.int i] led) : METH c m led (.int i) "bit_length" (kKeep w K) := by
  rintro xa pl ⟨t, rfl⟩
  exact CP.any fun hh tk R mm L F N ll f nd => getMethod_int_bit_length (Post.mk (Is := MIs) (x := (Value.builtin "int.bit_length", [V.int i])) ⟨rfl, .cons (isInt _ _) .nil⟩ F N ll f nd ⟨fun h _ => keeps_prim rfl h, k⟩)
theorem CALL.bit_length {i : Int} (k : K (.int (Builtin.Int.intBits i)) led) : CALL c m led (.builtin "int.bit_length") [.int i] K := by
  intro xs is
  cases is with | cons i is => cases is; obtain ⟨t, rfl⟩ := i; exact CP.any fun hh tk R mm L F N ll f nd => call_int_bit_length (Post.mk (isInt _ _) F N ll f nd k)
end
theorem SUB.bytes {value slice : Expr} {l : List UInt8} {i : Int} {K : V → ALed → Prop} (k : K (.int ((l.getD i.toNat 0).toNat : Int)) led) (h0 : 0 ≤ i) (h1 : i < l.length) (hb : l.length < 2 ^ 30)
    (hs : ∀ t u, subscripted slice false (.bytes l.toArray t) (.int i u) = operate [.bytes l.toArray t, .int i u] (getItem (.bytes l.toArray t) (.int i u)) := by intro _ _; with_unfolding_all rfl) : SUB c m led value slice (.bytes l) (.int i) K := by
  rintro xa xb ⟨t, rfl⟩ ⟨u, rfl⟩
  exact CP.any fun hh tk R mm L F N ll f nd => KBy.item_N (by k_extra "o") h0 h1 (Post.mk (isInt _ _) F N ll f nd k) (hs t u) (fun r => by cases value <;> rfl)
theorem len0 {xs : List Value} (h : xs.length = 0) : xs = [] := List.eq_nil_of_length_eq_zero h
theorem lenS {n : Nat} : ∀ {xs : List Value}, xs.length = n + 1 → ∃ a r, xs = a :: r ∧ r.length = n
  | a :: r, h => ⟨a, r, rfl, Nat.succ.inj h⟩
theorem len1 {xs : List Value} (h : xs.length = 1) : ∃ a, xs = [a] := by
  obtain ⟨a, r, rfl, h1⟩ := lenS h; cases len0 h1; exact ⟨a, rfl⟩
theorem len2 {xs : List Value} (h : xs.length = 2) : ∃ a b, xs = [a, b] := by
  obtain ⟨a, r, rfl, h1⟩ := lenS h; obtain ⟨b, rfl⟩ := len1 h1; exact ⟨a, b, rfl⟩
theorem len3 {xs : List Value} (h : xs.length = 3) : ∃ a b d, xs = [a, b, d] := by
  obtain ⟨a, r, rfl, h1⟩ := lenS h; obtain ⟨b, d, rfl⟩ := len2 h1; exact ⟨a, b, d, rfl⟩
theorem len4 {xs : List Value} (h : xs.length = 4) : ∃ a b d e, xs = [a, b, d, e] := by
  obtain ⟨a, r, rfl, h1⟩ := lenS h; obtain ⟨b, d, e, rfl⟩ := len3 h1; exact ⟨a, b, d, e, rfl⟩
theorem len8 {xs : List Value} (h : xs.length = 8) : ∃ a b d e f g i j, xs = [a, b, d, e, f, g, i, j] := by
  obtain ⟨a, r, rfl, h1⟩ := lenS h; obtain ⟨b, r, rfl, h2⟩ := lenS h1; obtain ⟨d, r, rfl, h3⟩ := lenS h2; obtain ⟨e, r, rfl, h4⟩ := lenS h3; obtain ⟨f, g, i, j, rfl⟩ := len4 h4; exact ⟨a, b, d, e, f, g, i, j, rfl⟩
end
section
variable {w : World} {dd : Nat} {cs : Scope} {c : Cx w dd cs} {m m' : AFr} {led led' : ALed}

theorem METH.blt {K : Value → List V → ALed → Prop} {a : Addr} {T : String} {name : Str} {nm : String} {p : Cell} (h : Has c led a p) (hp : ∀ o, p o → o.cls = .type T ∧ o.dict = none) (pa : PlainAttrs T) (sl : Slot T name nm)
    (ty : typeOf (.builtin nm) = Pure.pure (.type "method_descriptor")) (k : K (.builtin nm) [.ref a] led) : METH c m led (.ref a) name (kKeep w K) := by
  intro xa pl e; cases e
  exact CP.any fun hh tk R mm L F N ll f nd => by
    obtain ⟨o, po, g⟩ := h.get F N ll
    obtain ⟨h1, h2⟩ := hp o po
    exact getMethod_builtin ⟨o, g, h1⟩ pa sl ty (fun b e => by cases e; exact ⟨o, g, h2⟩) (Post.mk (Is := MIs) (x := (Value.builtin nm, [V.ref a])) ⟨rfl, .cons rfl .nil⟩ F N ll f nd ⟨fun h _ => keeps_prim rfl h, k⟩)

noncomputable def cDictI (w : World) (kvs : List (Int × V)) : Cell := fun o => ∃ xs : List (Int × Value), o.IsDictOf (intKind pr w) xs ∧ o.dict = none ∧ xs.map (·.1) = kvs.map (·.1) ∧ AreV (kvs.map (·.2)) (xs.map (·.2))
noncomputable def atI (kvs : List (Int × V)) (k : Int) : Option V := (kvs.find? fun kv => kv.1 = k).map (·.2)
theorem at_rel {kvs : List (Int × V)} (k : Int) : ∀ {xs : List (Int × Value)}, xs.map (·.1) = kvs.map (·.1) → AreV (kvs.map (·.2)) (xs.map (·.2)) → match atI kvs k with
    | some v => ∃ x, valueAt xs k = some x ∧ v.Is x
    | none => valueAt xs k = none := by
  induction kvs with
  | nil => intro xs h1 h2; cases xs with | nil => rfl | cons _ _ => cases h1
  | cons q r ih =>
    intro xs h1 h2
    cases xs with
    | nil => cases h1
    | cons y s =>
      rw [List.map_cons, List.map_cons] at h1 h2
      obtain ⟨e, h1⟩ := List.cons.inj h1
      cases h2 with
      | cons i h2 =>
        have ih := ih h1 h2
        unfold atI valueAt at *
        rw [List.find?_cons, List.find?_cons]
        by_cases hk : q.1 = k
        · have hk' : y.1 = k := by rw [e]; exact hk
          simp only [hk, hk', decide_true]
          exact ⟨y.2, rfl, i⟩
        · have hk' : ¬ y.1 = k := by rw [e]; exact hk
          simp only [hk, hk', decide_false]
          exact ih
theorem METH.dict_get {K : Value → List V → ALed → Prop} {a : Addr} {kvs : List (Int × V)} (h : Has c led a (cDictI w kvs)) (k : K (.builtin "dict.get") [.ref a] led) : METH c m led (.ref a) "get" (kKeep w K) :=
  METH.blt h (fun o h => by obtain ⟨_, ⟨_, _, ⟨h1, -⟩, -⟩, h2, -⟩ := h; exact ⟨h1, h2⟩) PySem.F.plainAttrs_dict PySem.F.slot_dict_get PySem.F.type_dict_get k
theorem CALL.dget {K : V → ALed → Prop} {d : Addr} {kvs : List (Int × V)} {i : Int} {v : V} (h : Has c led d (cDictI w kvs)) (hd : d ≠ sysModules) (hv : atI kvs i = some v) (k : K v led) : CALL c m led (.builtin "dict.get") [.ref d, .int i] K := by
  intro xs is
  cases is with
  | cons i1 is => cases is with | cons i2 is =>
  cases is; cases i1; obtain ⟨t, rfl⟩ := i2
  refine CP.any fun hh tk R mm L F N ll f nd => ?_
  obtain ⟨o, ⟨xs, ho, _, h1, h2⟩, g⟩ := h.get F N ll
  have hdo : hh.DictOf (intKind pr w) d xs := Heap.dictOf_iff.mpr ⟨o, g, ho⟩
  have hr := at_rel i h1 h2
  rw [hv] at hr
  obtain ⟨x, hx, ix⟩ := hr
  refine call_meetsIn PySem.F.slot_dict_get hdo.typeIs PySem.F.entry_dict_get (PySem.F.args_dict_get_2 _ _) (meets_dict_get (intKind pr w) d (k := i) (key := .int i t) (by simp [intKind, Value.isInt]) (beq_eq_false_iff_ne.mpr hd)) ⟨_, hdo.mapOf, ?_⟩
  rw [hx]
  exact Post.mk ix F N ll f nd k

noncomputable abbrev TK (w : World) : HeapKind pr w (List Int) := tupleKind (intKind pr w)
structure DictT (w : World) (xs : List (List Int × Addr × V)) (ys : List (List Int × Addr × Value)) (o : Obj) : Prop where
  ex : o.ExactDict
  nd : o.dict = none
  es : ∃ es ep, o.data = .dict es ep ∧ es.toList = ys.map (entryOfKey (TK w))
  ks : ys.map (fun y => (y.1, y.2.1)) = xs.map (fun x => (x.1, x.2.1))
  vs : AreV (xs.map (·.2.2)) (ys.map (·.2.2))
  no : (xs.map (·.1)).Nodup
noncomputable def cDictT (w : World) (xs : List (List Int × Addr × V)) : Cell := fun o => ∃ ys, DictT w xs ys o
noncomputable def atT (xs : List (List Int × Addr × V)) (k : List Int) : Option (Addr × V) := (xs.find? fun x => decide (x.1 = k)).map (·.2)
theorem atT_rel {xs : List (List Int × Addr × V)} (k : List Int) : ∀ {ys : List (List Int × Addr × Value)}, ys.map (fun y => (y.1, y.2.1)) = xs.map (fun x => (x.1, x.2.1)) → AreV (xs.map (·.2.2)) (ys.map (·.2.2)) → match atT xs k with
    | some v => ∃ x, atKey ys k = some (v.1, x) ∧ v.2.Is x
    | none => atKey ys k = none := by
  induction xs with
  | nil => intro ys h1 h2; cases ys with | nil => rfl | cons _ _ => cases h1
  | cons q r ih =>
    intro ys h1 h2
    cases ys with
    | nil => cases h1
    | cons y s =>
      rw [List.map_cons, List.map_cons] at h1 h2
      obtain ⟨e, h1⟩ := List.cons.inj h1
      obtain ⟨e1, e2⟩ := Prod.mk.inj e
      cases h2 with
      | cons i h2 =>
        have ih := ih h1 h2
        unfold atT atKey at *
        rw [List.find?_cons, List.find?_cons]
        by_cases hk : q.1 = k
        · have hk' : y.1 = k := by rw [e1]; exact hk
          simp only [hk, hk', decide_true, Option.map_some]
          exact ⟨y.2.2, by rw [← e2], i⟩
        · have hk' : ¬ y.1 = k := by rw [e1]; exact hk
          simp only [hk, hk', decide_false]
          exact ih
noncomputable def KeysAt (c : Cx w dd cs) (led : ALed) (xs : List (List Int × Addr × V)) : Prop := ∀ x ∈ xs, ∃ i j, x.1 = [i, j] ∧ Has c led x.2.1 (cTup [.int i, .int j])
theorem tupKey {h : Heap} {a : Addr} {i j : Int} {ws : List Value} (h1 : h.get? a = some (tupO ws)) (h2 : AreV [.int i, .int j] ws) : (TK w).is h [i, j] a := by
  cases h2 with | cons i1 h2 => cases h2 with | cons i2 h2 => cases h2; obtain ⟨t, rfl⟩ := i1; obtain ⟨u, rfl⟩ := i2; exact ⟨_, _, 0, h1, rfl, rfl, .cons (by simp [intKind, Value.isInt]) (.cons (by simp [intKind, Value.isInt]) .nil)⟩
theorem DictT.on {xs : List (List Int × Addr × V)} {ys : List (List Int × Addr × Value)} {o : Obj} {td : Addr} {h : Heap} {mm : Str → Option Value} {L : Led} {R : ALed} (D : DictT w xs ys o) (g : h.get? td = some o) (ks : KeysAt c led xs) (F : Fr c.g c.L h mm) (N : News c.g c.L h L) (l : LedIs (led ++ R) L) : h.DictOfH (TK w) td ys := by
  obtain ⟨es, ep, e1, e2⟩ := D.es
  refine ⟨o, es, ep, g, D.ex, e1, e2, fun y hy => ?_, ?_⟩
  · have : (y.1, y.2.1) ∈ xs.map (fun x => (x.1, x.2.1)) := by rw [← D.ks]; exact List.mem_map_of_mem (f := fun y : List Int × Addr × Value => (y.1, y.2.1)) hy
    obtain ⟨x, hx, e⟩ := List.mem_map.mp this
    obtain ⟨e3, e4⟩ := Prod.mk.inj e
    obtain ⟨i, j, e5, hk⟩ := ks x hx
    obtain ⟨_, ⟨ws, rfl, iw⟩, gk⟩ := hk.get F N l
    rw [← e3, ← e4, e5]
    exact tupKey gk iw
  · have : ys.map (·.1) = xs.map (·.1) := by
      have := congrArg (List.map Prod.fst) D.ks
      rw [List.map_map, List.map_map] at this
      exact this
    rw [this]; exact D.no
theorem SUB.dictTW {p : Cell} {K : V → ALed → Prop} {value slice : Expr} {td a b : Addr} {xs : List (List Int × Addr × V)} {i j : Int} {v : V} (h : Has c led td p) (hp : ∀ o, p o → cDictT w xs o) (hk : Has c led a (cTup [.int i, .int j])) (hks : KeysAt c led xs) (hat : atT xs [i, j] = some (b, v)) (hd : Nat.ble 1 dd = true) (k : K v led)
    (hs : subscripted slice false (.ref td) (.ref a) = operate [.ref td, .ref a] (getItem (.ref td) (.ref a)) := by with_unfolding_all rfl) : SUB c m led value slice (.ref td) (.ref a) K := by
  rintro xa xb e1 e2; cases e1; cases e2
  refine CP.any fun hh tk R mm L F N ll f nd => ?_
  obtain ⟨o, po, g⟩ := h.get F N ll
  obtain ⟨ys, D⟩ := hp o po
  obtain ⟨_, ⟨ws, rfl, iw⟩, gk⟩ := hk.get F N ll
  have hm := D.on g hks F N ll
  have hr := atT_rel [i, j] D.ks D.vs
  rw [hat] at hr
  obtain ⟨x, hx, ix⟩ := hr
  exact tail_any hm.typeIs slot_dict_getitem.lookup (wpAny_getItem_heap (knd := TK w) (by show c.un + 1 < cLine; have := c.h2; have := Nat.le_of_ble_eq_true hd; k_extra "o") (tupKey gk iw) hm hx (Post.mk ix F N ll f nd k)) hs
theorem SUB.dictT {K : V → ALed → Prop} {value slice : Expr} {td a b : Addr} {xs : List (List Int × Addr × V)} {i j : Int} {v : V} (h : Has c led td (cDictT w xs)) (hk : Has c led a (cTup [.int i, .int j])) (hks : KeysAt c led xs) (hat : atT xs [i, j] = some (b, v)) (hd : Nat.ble 1 dd = true) (k : K v led)
    (hs : subscripted slice false (.ref td) (.ref a) = operate [.ref td, .ref a] (getItem (.ref td) (.ref a)) := by with_unfolding_all rfl) : SUB c m led value slice (.ref td) (.ref a) K := SUB.dictTW h (fun _ z => z) hk hks hat hd k hs
theorem BIN.fdivE {K : V → ALed → Prop} {a b r : Int} (e : a.fdiv b = r) (h0 : 0 < b) (h1 : b < 2 ^ 29) (k : K (.int r) led) : BIN c m led .FloorDiv (.int a) (.int b) K := BIN.fdiv (by rw [e]; exact k) h0 h1
theorem BIN.orE {K : V → ALed → Prop} {a b r : Int} (e : Builtin.bitOr a b = r) (k : K (.int r) led) : BIN c m led .BitOr (.int a) (.int b) K := BIN.or (by rw [e]; exact k)
theorem BIN.andE {K : V → ALed → Prop} {a b r : Int} (e : Builtin.bitAnd a b = r) (k : K (.int r) led) : BIN c m led .BitAnd (.int a) (.int b) K := BIN.and (by rw [e]; exact k)
theorem BIN.shrE {K : V → ALed → Prop} {a b r : Int} (e : a.fdiv (2 ^ b.toNat) = r) (h0 : 0 ≤ b) (k : K (.int r) led) : BIN c m led .RShift (.int a) (.int b) K := BIN.shr (by rw [e]; exact k) h0
theorem BIN.modE {K : V → ALed → Prop} {a b r : Int} (e : a.fmod b = r) (h0 : 0 < b) (k : K (.int r) led) : BIN c m led .Mod (.int a) (.int b) K := BIN.mod (by rw [e]; exact k) h0
theorem flatten_one {α : Type} (n : Nat) (a : α) : (List.replicate n [a]).flatten = List.replicate n a := by
  induction n with
  | zero => rfl
  | succ n ih => rw [List.replicate_succ, List.flatten_cons, ih]; rfl
theorem AreV.rep {v : V} {x : Value} (i : v.Is x) : ∀ n : Nat, AreV (List.replicate n v) (List.replicate n x)
  | 0 => .nil
  | n + 1 => .cons i (AreV.rep i n)
theorem BIN.rep1 {K : V → ALed → Prop} {l : Addr} {v : V} {n : Nat} (h : Has c led l (cList [v])) (hz : n ≤ 256) (k : ∀ D, K (.ref D) ((D, cList (List.replicate n v)) :: led)) : BIN c m led .Mult (.ref l) (.int (n : Int)) K := by
  rintro xa xb e ⟨u, rfl⟩; cases e
  refine CP.any fun hh tk R mm L F N ll f nd => ?_
  obtain ⟨_, ⟨xs, z, rfl, is⟩, g⟩ := h.get F N ll
  cases is with | cons i is =>
  cases is
  exact KMa.mul F N (lstOf g) (by k_extra "o") (by k_extra "o") (by simp; k_extra "o") (by rw [Int.toNat_natCast, flatten_one]) fun D h' F' N' lt => ⟨h', tk, .ref D, _, rfl, rfl, At.cons nd ll f F' N' lt ⟨_, 0, rfl, AreV.rep i n⟩, k D⟩
end
section
theorem ba_mro : mroOf (.type "bytearray") = Pure.pure [.type "bytearray", .type "object"] := by rw [mroOf_type]; kernel_rfl
theorem ba_lookup_new : typeLookup (.type "bytearray") "__new__" = Pure.pure (some (.builtin "bytearray.__new__")) := by rw [typeLookup_type, builtinLookup_eq_fast]; kernel_rfl
theorem slot_ba_init : Slot "bytearray" "__init__" "bytearray.__init__" :=
  .of (owner := "bytearray") (n := "__init__") (by rw [typeLookup_type, builtinLookup_eq_fast]; kernel_rfl) (by decide +kernel) (by decide +kernel) (by decide +kernel)
    (by first | exact .inl (by decide +kernel) | exact .inr (by decide +kernel)) (by rw [isSubtype_type]; kernel_rfl)
theorem ba_called : TypeCalled "bytearray" "bytearray.__new__" "bytearray.__init__" :=
  ⟨by decide +kernel, by decide +kernel, ⟨_, _, ba_mro⟩, madeBy_type ba_mro ba_lookup_new (by decide +kernel), by decide +kernel, by rw [isSubtype_type]; kernel_rfl, slot_ba_init⟩
theorem ba_typeCall : checkTypeCall "bytearray" ⟨[], []⟩ = Pure.pure () := by kernel_rfl
theorem ba_newCall : checkBuiltinCall "bytearray.__new__" ⟨[.type "bytearray"], []⟩ = Pure.pure () := by kernel_rfl
theorem ba_entry_new : entryFor table "bytearray.__new__" = some Builtin.«list.__new__» := entryFor_alias (id' := "list.__new__") (by rw [fastTable_eq_tree]; kernel_rfl) (by first | rfl | decide +kernel) (by decide +kernel) (by rw [fastTable_eq_tree]; kernel_rfl)
theorem ba_lookup_rel : typeLookup (.type "bytearray") "__release_buffer__" = Pure.pure (some (.builtin "bytearray.__release_buffer__")) := by rw [typeLookup_type, builtinLookup_eq_fast]; kernel_rfl
theorem ba_lookup_buf : typeLookup (.type "bytearray") "__buffer__" = Pure.pure (some (.builtin "bytearray.__buffer__")) := by rw [typeLookup_type, builtinLookup_eq_fast]; kernel_rfl
theorem ba_no_bytes : typeLookup (.type "bytearray") "__bytes__" = Pure.pure none := by rw [typeLookup_type, builtinLookup_eq_fast]; kernel_rfl
theorem ba_no_index : typeLookup (.type "bytearray") "__index__" = Pure.pure none := by rw [typeLookup_type, builtinLookup_eq_fast]; kernel_rfl
theorem ba_plain_new : plainId "bytearray.__new__" = true := by decide +kernel
theorem ba_entry_init : entryFor table "bytearray.__init__" = some Builtin.«bytearray.__init__» := entryFor_of_tree (by kernel_rfl)
theorem ba_args_init (a : Value) : argsOk "bytearray.__init__" ⟨[a], []⟩ := by unfold argsOk; kernel_rfl
set_option maxRecDepth 1000000 in
theorem ba_owner_new : ("bytearray.__new__".splitOn ".__new__").headD "" = "bytearray" := by simp +decide [String.splitOn, String.splitOnAux]
theorem ba_sub : isSubtype (.type "bytearray") (.type "bytearray") = Pure.pure true := by rw [isSubtype_type]; kernel_rfl
section
variable {prog : Program} {w : World} {A : Around} {E : Value → Shared → Prop} {s : Shared}
theorem code_ba_new {Q₁ : Value → Shared → Prop}
    (h : Q₁ (.ref s.heap.objs.size) { s with heap := s.heap.push { cls := .type "bytearray", data := .bytearray #[] } }) :
    codeAny (model prog w) A (.call (.builtin "bytearray.__new__") ⟨[.type "bytearray"], []⟩) (wants Q₁ E) s := by
  refine codeAny_of_tree ?_
  show wpAny _ A.in1 (do checkBuiltinCall "bytearray.__new__" ⟨[.type "bytearray"], []⟩; again (.builtin "bytearray.__new__" ⟨[.type "bytearray"], []⟩)) _ _ s
  refine wpAny_bind (wpAny_of_eq ba_newCall (wpAny_pure ⟨plainId_quiet ba_plain_new _, codeAny_builtin_stack ba_entry_new rfl fun p st => ?_⟩))
  rw [Around.under_plainId ba_plain_new _]
  have hsub := ba_sub
  have hown := ba_owner_new
  obtain ⟨hp, g, d, tk, os⟩ := s
  dsimp only
  rw [hown]
  wp_walk
  exact h
open Builtin in
theorem tcT_eq {T newId initId : String} (ft : TypeCalled T newId initId) (rest : List Value) : ∃ (half other : Sem Fin) (odd : Value → Sem Fin) (bad : Value → Value → Sem Fin), Builtin.«type.__call__» ⟨.type T :: rest, []⟩ = (checkTypeCall T ⟨rest, []⟩ >>= fun _ => mroOf (.type T) >>= fun l => if l.isEmpty = true then half else (Bind.madeBy (.type T) >>= fun o => match o with
    | some nm => Pure.pure (Value.builtin nm) >>= fun new => holding [new] (PySem.call new (.type T :: rest) []) >>= fun obj => isInstance obj (.type T) >>= fun b => if (!b) = true then odd obj else
        (holding [obj] (callSpecial? obj "__init__" rest []) >>= fun r => match r with
          | none => ret obj
          | some r => if (r != .none) = true then bad obj r else ret obj)
    | none => other)) := by
  have h1 := ft.notType
  have h2 := ft.canCreate
  refine ⟨?half, ?other, ?odd, ?bad, ?_⟩
  rotate_left 4
  unfold Builtin.«type.__call__»
  dsimp only
  rw [if_neg (by rw [h1]; decide)]
  rw [if_neg (by rw [h2]; decide)]
  exact rfl

theorem ba_own {M : Model} {a : Addr} {nm id : String} {Q : Bool → Shared → Prop} (hT : s.TypeIs (.ref a) "bytearray") (hl : typeLookup (.type "bytearray") (nm : Str) = Pure.pure (some (.builtin id))) (h1 : id.endsWith ("." ++ nm) = true) (h2 : id.dropRight (nm.length + 1) = "bytearray") (h : Q true s) :
    wpAny M A (Builtin.Bytes.slotIsOwn (.ref a) nm) Q E s := by
  unfold Builtin.Bytes.slotIsOwn
  refine wpAny_bind (wpAny_specialOf hT hl ?_)
  dsimp only
  rw [h1, h2]
  refine bm_if_false rfl ?_
  exact wpAny_isInstance hT ba_sub h
theorem ba_rel {M : Model} {a : Addr} {Q : Bool → Shared → Prop} (hT : s.TypeIs (.ref a) "bytearray") (h : Q false s) : wpAny M A (Builtin.Bytes.ownRelease (.ref a)) Q E s := by
  unfold Builtin.Bytes.ownRelease
  exact wpAny_bind (ba_own hT ba_lookup_rel (by decide +kernel) (by decide +kernel) (wpAny_pure h))
theorem ba_bind : Builtin.Bytes.bindOptional "bytearray.__init__" "bytearray" ["source", "encoding", "errors"] [] [] = Pure.pure [none, none, none] := by kernel_rfl
theorem cl_bai (args : Args) : cleanCode (.builtin "bytearray.__init__" args) = true := by simp [cleanCode, Builtin.Bytes.decodersThatHold]
open Builtin in
theorem ba_init {D : Addr} {Q : Value → Shared → Prop} (ho : s.heap.get? D = some (baO [])) (h : ∀ h', h'.get? D = some (baO []) → Heap.SameBut D s.heap h' → Q .none { s with heap := h' }) :
    wpS (model prog w) A (Builtin.«bytearray.__init__» ⟨[.ref D], []⟩) (fun fin s' => ∃ v, fin = .done (.ret v) ∧ Q v s') NoE s := by
  have hT : s.TypeIs (.ref D) "bytearray" := ⟨_, ho, rfl⟩
  unfold Builtin.«bytearray.__init__»
  refine wpS.bindA (ba_rel hT ?_)
  rw [if_neg (by decide)]
  refine wpS.bindA (wpAny_of_eq ba_bind ?_)
  dsimp only
  refine wpS.bindA (wpAny_of_eq (a := ()) rfl ?_)
  refine wpS.bindA (wpAny_of_eq (a := ()) rfl ?_)
  refine wpS.bind (wpS.bind (wpS.exported ?_))
  show wpS _ _ (do let d ← Builtin.Bytes.exportsOf (.ref D); Pure.pure (decide (d > 0))) _ _ _
  refine wpS.bindA (wpAny_bind (wpAny_load ho (wpAny_pure (wpS.pure ?_))))
  rw [if_neg (by decide)]
  have e : ∀ h' : Heap, h' = s.heap.update D (Obj.mapBytearray fun _ => #[]) → h'.get? D = some (baO []) := fun h' e => by
    subst e
    exact Heap.get?_update_self _ ho rfl
  refine wpS.bindA ?_
  show wpAny _ _ (updateBytearray D fun _ => #[]) _ _ _
  unfold updateBytearray
  refine wpAny_bind (wpAny_load ho (wpAny_bind (wpAny_update ho ?_)))
  refine wpAny_lookBehind (e _ rfl) rfl ?_
  rw [if_neg (by decide), if_neg (by decide)]
  exact wpS.bind (wpS.pure (wpS.pure ⟨_, rfl, h _ (e _ rfl) (Heap.SameBut.update ..)⟩))
theorem call_ba {Q : Value → Shared → Prop} (h : ∀ h', h'.get? s.heap.objs.size = some (baO []) → (∀ b o, s.heap.get? b = some o → h'.get? b = some o) → Q (.ref s.heap.objs.size) { s with heap := h' }) :
    wpS (model prog w) A (PySem.call (.type "bytearray") []) Q E s := by
  have ft := ba_called
  refine wpS.call (codeS.tree (wpS.lift ?_))
  show wpAny _ _ (callAny (.type "bytearray") _) _ _ _
  refine wpAny_pure ⟨cl_tc _, Code.quiet_builtin _ (by decide +kernel), codeS.builtin entry_typeCall ?_⟩
  rw [Around.under_plain (weight_type_call_type "bytearray" [] []) rfl]
  obtain ⟨half, other, odd, bad, e⟩ := tcT_eq ft []
  show wpS _ _ (Builtin.«type.__call__» ⟨[.type "bytearray"], []⟩) _ _ _
  rw [e]
  refine wpS.bindA (wpAny_of_eq ba_typeCall ?_)
  refine wpS.bindA (wpAny_of_eq ba_mro ?_)
  rw [if_neg (by decide)]
  refine wpS.bindA (wpAny_of_eq ft.made ?_)
  dsimp only
  refine wpS.bind (wpS.pure (wpS.bind (wpS.holding ?_)))
  have hnew : wpAny (model prog w) A.in1 (PySem.call (.builtin "bytearray.__new__") [.type "bytearray"] []) (fun v s' => v = .ref s.heap.objs.size ∧ s' = { s with heap := s.heap.push (baO []) }) NoE s := wpAny_call (code_ba_new ⟨rfl, rfl⟩)
  refine wpS.mono (wpS.lift hnew) ?_ fun _ _ e => False.elim e
  rintro _ _ ⟨rfl, rfl⟩
  have ho : (s.heap.push (baO [])).get? s.heap.objs.size = some (baO []) := Heap.get?_push_size _ rfl
  have hT : ({ s with heap := s.heap.push (baO []) } : Shared).TypeIs (.ref s.heap.objs.size) "bytearray" := ⟨_, ho, rfl⟩
  refine wpS.bindA (wpAny_isInstance hT ba_sub ?_)
  rw [if_neg (by decide)]
  refine wpS.bind (wpS.holding ?_)
  unfold callSpecial?
  refine wpS.bindA (wpAny_specialOf hT ft.init.lookup ?_)
  dsimp only
  refine wpS.holding ?_
  rw [ft.init.bind]
  refine wpS.bind (wpS.pure ?_)
  dsimp only
  refine wpS.bind (wpS.noE (wpS.call ?_))
  refine codeS.mono (codeS.call_builtin (Q := fun v s' => v = .none ∧ Q (.ref s.heap.objs.size) s') ft.init.plain (cl_bai _) ba_entry_init (ft.init.check _ _ _ _ _ _ _ _ hT (ba_args_init _) (ba_init ho fun h' h1 h2 => ⟨rfl, h h' h1 fun b o e => ?_⟩))) fun r s' z => ?_
  · rw [h2.2 b (Nat.ne_of_lt (Heap.lt_size e))]; exact Heap.get?_push_of_some _ e
  · rcases r with e | (v | _ | _ | _) <;> first | exact z.elim | skip
    obtain ⟨rfl, z⟩ := z
    refine wpS.pure ?_
    dsimp only
    rw [if_neg (by decide)]
    exact wpS.pure z
open Builtin in
theorem call_bytes_ba {D : Addr} {bs : List UInt8} {Q : Value → Shared → Prop} (ho : s.heap.get? D = some (baO bs)) (hz : bs.length ≤ 2 ^ 20) (h : ∀ t k, Q (.bytes bs.toArray t) { s with toks := k }) : wpAny (model prog w) A (PySem.call (.type "bytes") [.ref D]) Q E s := by
  have hT : s.TypeIs (.ref D) "bytearray" := ⟨_, ho, rfl⟩
  refine callType_codes (Q₁ := fun obj s₁ => s₁.TypeIs obj "bytes" ∧ Q obj s₁) F.bm_called (F.bm_typeCall _) F.entry_object_init ?_ fun obj s₁ h₁ => ?_
  · refine codeAny_of_tree ?_
    show wpAny _ _ (do checkBuiltinCall "bytes.__new__" ⟨[.type "bytes", .ref D], []⟩; again (.builtin "bytes.__new__" ⟨[.type "bytes", .ref D], []⟩)) _ _ s
    refine wpAny_bind (wpAny_of_eq (F.bm_newCall _) (wpAny_pure ⟨plainId_quiet F.bm_plain _, codeAny_builtin F.bm_entry ?_⟩))
    rw [Around.under_plainId F.bm_plain _]
    unfold Builtin.«bytes.__new__»
    refine wpAny_bind (wpAny_of_eq (a := true) rfl ?_)
    refine bm_if_false rfl ?_
    refine wpAny_bind (wpAny_of_eq F.bm_sub ?_)
    refine bm_if_false rfl ?_
    refine wpAny_bind (wpAny_of_eq (F.bm_bind _) ?_)
    refine wpAny_bind (wpAny_of_eq (a := ()) rfl ?_)
    refine wpAny_bind (wpAny_of_eq (a := ()) rfl ?_)
    refine bm_if_false rfl ?_
    refine wpAny_bind (wpAny_specialOf hT ba_no_bytes ?_)
    refine wpAny_bind (wpAny_bind ?_)
    show wpAny _ _ (load D >>= _) _ _ _
    refine wpAny_bind (wpAny_load ho ?_)
    refine wpAny_pure (wpAny_pure ?_)
    refine bm_if_false rfl ?_
    refine wpAny_bind (wpAny_specialOf hT ba_no_index ?_)
    refine bm_if_true rfl ?_
    first
      | show wpAny _ _ (Builtin.Bytes.buffer? "bytes.__new__" (.ref D) true >>= _) _ _ _
      | (refine wpAny_bind ?_; show wpAny _ _ (Builtin.Bytes.buffer? "bytes.__new__" (.ref D) true >>= _) _ _ _)
    refine wpAny_bind ?_
    unfold Builtin.Bytes.buffer?
    refine wpAny_bind (wpAny_specialOf hT ba_lookup_buf ?_)
    dsimp only
    refine wpAny_bind (ba_own hT ba_lookup_buf (by decide +kernel) (by decide +kernel) ?_)
    refine bm_if_false rfl ?_
    refine wpAny_bind (wpAny_specialOf hT ba_lookup_buf ?_)
    refine wpAny_bind (ba_rel hT ?_)
    refine bm_if_false rfl ?_
    unfold Builtin.Bytes.payload Builtin.Bytes.payload?
    refine wpAny_bind (wpAny_bind (wpAny_bind (wpAny_load ho (wpAny_pure (wpAny_pure (wpAny_pure ?_))))))
    refine wpAny_bind (wpAny_rule (wpAny_bind (wpAny_mkBytes (b := bs.toArray) ?_ (by rw [List.size_toArray, sizeLine_eq]; k_extra "o"))))
    show wpAny _ _ (if (Value.type "bytes" == Value.type "bytes") = true then _ else _) _ _ _
    refine bm_if_true (by decide) ?_
    first
      | exact wpAny_pure ⟨typeIs_bytes _ _ _, h _ _⟩
      | exact wpAny_bind (wpAny_pure (wpAny_pure ⟨typeIs_bytes _ _ _, h _ _⟩))
  · exact ⟨h₁.1, F.args_object_init_2 obj _, object_init_meets F.bm_called.init.lookup F.bm_called.made (by decide) prog w A.in1 _ s₁ ⟨h₁.1, rfl, h₁.2⟩⟩
end
section
variable {w : World} {dd : Nat} {cs : Scope} {c : Cx w dd cs} {m m' : AFr} {led led' : ALed}
noncomputable def cBA (l : List UInt8) : Cell := fun o => o = baO l
theorem CALL.bytearray {K : V → ALed → Prop} (k : ∀ D, K (.ref D) ((D, cBA []) :: led)) : CALL c m led (.type "bytearray") [] K := by
  intro xs is; cases is
  intro h tk R a
  obtain ⟨⟨mm, L, F, N, l, f⟩, nd⟩ := a
  refine call_ba fun h' h1 h2 => ⟨h', tk, .ref _, (_, cBA []) :: led, rfl, rfl, At.new F nd l f N ⟨F.ns.at' fun o e => h2 _ _ e, fun b o e => h2 b o (F.keep b o e), F.above⟩ (fun p hp => ⟨h2 _ _ (N p hp).1, (N p hp).2⟩) h1 rfl, k _⟩
theorem METH.ba_append {K : Value → List V → ALed → Prop} {a : Addr} {l : List UInt8} (h : Has c led a (cBA l)) (k : K (.builtin "bytearray.append") [.ref a] led) : METH c m led (.ref a) "append" (kKeep w K) :=
  METH.blt h (fun o e => by rw [e]; exact ⟨rfl, rfl⟩) plainAttrs_ba slot_ba_append type_ba_append k
theorem CALL.ba_append {K : V → ALed → Prop} {a : Addr} {l : List UInt8} {i : Int} {n : Nat} (he : i = (n : Int)) (hu : UpdL a (cBA l) (cBA (l ++ [n.toUInt8])) led led') (h1 : n < 256) (hz : l.length < 2 ^ 20) (k : K .none led') : CALL c m led (.builtin "bytearray.append") [.ref a, .int i] K := by
  subst he
  intro xs is
  cases is with | cons i1 is => cases is with | cons i2 is =>
  cases is; cases i1; obtain ⟨t, rfl⟩ := i2
  intro h tk R at_
  obtain ⟨⟨mm, L, F, N, ll, f⟩, nd⟩ := at_
  obtain ⟨pre, post, o, rfl, rfl, p1, p2, p3, p4⟩ := split_of ll nd hu
  refine append_ba F N (Upd.of_split p1 p2) (Int.natCast_nonneg _) (by k_extra "o") hz fun h' F' N' => ?_
  rw [Int.toNat_natCast] at N'
  exact Post.mk isNone F' N' (p3 _ rfl) f p4 k
theorem CALL.bytes_ba {K : V → ALed → Prop} {a : Addr} {l : List UInt8} (h : Has c led a (cBA l)) (hz : l.length ≤ 2 ^ 20) (k : K (.bytes l) led) : CALL c m led (.type "bytes") [.ref a] K := by
  intro xs is
  cases is with | cons i1 is =>
  cases is; cases i1
  refine CP.any fun hh tk R mm L F N ll f nd => ?_
  obtain ⟨_, rfl, g⟩ := h.get F N ll
  exact call_bytes_ba g hz fun t k' => Post.mk (isBytes _ _) F N ll f nd k
theorem fillB1 : (PySem.Challenge.rw_nt0568_01, Top.K) = (PySem.Challenge.rw_nt0568_01, Top.K) := by
  k_fill
  rfl
theorem boot_bytearray : bootBuiltins "bytearray" = some (.type "bytearray") := by decide +kernel
theorem boot_bytes : bootBuiltins "bytes" = some (.type "bytes") := by decide +kernel
theorem b_bytearray : BName w "bytearray" (.type "bytearray") := ⟨⟨by k_is, boot_bytearray, by decide, by decide⟩, rfl⟩
theorem b_bytes : BName w "bytes" (.type "bytes") := ⟨⟨by k_is, boot_bytes, by decide, by decide⟩, rfl⟩
end
end
section
variable {w : World} {dd : Nat} {cs : Scope} {c : Cx w dd cs} {m m' : AFr} {led led' : ALed}
theorem mem_apr {q : Addr × Cell} : ∀ {l r : ALed}, q ∈ r → q ∈ apL l r
  | [], _, h => h
  | _ :: _, _, h => .tail _ (mem_apr h)
theorem UpdL.apr {a : Addr} {p p' : Cell} : ∀ {l r r' : ALed}, UpdL a p p' r r' → UpdL a p p' (apL l r) (apL l r')
  | [], _, _, h => h
  | _ :: _, _, _, h => .tail (UpdL.apr h)
theorem TakeL.apr {q : Addr × Cell} : ∀ {l r r' : ALed}, TakeL q r r' → TakeL q (apL l r) (apL l r')
  | [], _, _, h => h
  | _ :: _, _, _, h => .tail (TakeL.apr h)
theorem ITER.range1 {r : Addr} {a b : Int} {n : Nat} {target : Expr} {body : List Stmt} {Q : AFl → AFr → ALed → Prop} (J : Nat → AFr → ALed → Prop) (hr : Has c led r (cRange a b 1)) (hsm : Builtin.Range.small a b 1 = true) (hn : Builtin.Range.rangeSize a b 1 = (n : Int)) {m₀ mr : AFr} {led₀ lr : ALed} (hj : J 0 m₀ led₀) (tm : TakesL m₀ m mr) (tl : TakesL led₀ led lr)
    (turn : ∀ Q' : Nat → AFl → AFr → ALed → Prop, (∀ i, Fold (TurnQ (J (i + 1)) Q) (Q' i)) → ∀ i m₁ led₁, i < n → J i m₁ led₁ → AS c m₁ led₁ target (.int (a + i)) (kBody c body (Q' i))) (done : ∀ m₁ led₁, J n m₁ led₁ → Q .next m₁ led₁) : ITER c m led (.ref r) target body Q :=
  ITER.range J hr hsm hn hj tm tl (fun Q' hQ' i m₁ led₁ hi hJ => by rw [Int.mul_one]; exact turn Q' hQ' i m₁ led₁ hi hJ) done
theorem CALL.len_ints {K : V → ALed → Prop} {l : Addr} {ns : List Int} (h : Has c led l (cList (ns.map .int))) (k : K (.int ns.length) led) (hz : ns.length < 2 ^ 60) : CALL c m led (.builtin "len") [.ref l] K :=
  CALL.len_list h (by rw [List.length_map]; exact k) (by rw [List.length_map]; exact hz)
end
section
theorem slot_dict_sd : Slot "dict" "setdefault" "dict.setdefault" :=
  .of (owner := "dict") (n := "setdefault") (by rw [typeLookup_type, builtinLookup_eq_fast]; kernel_rfl) (by decide +kernel) (by decide +kernel) (by decide +kernel)
    (by first | exact .inl (by decide +kernel) | exact .inr (by decide +kernel)) (by rw [isSubtype_type]; kernel_rfl)
theorem type_dict_sd : typeOf (.builtin "dict.setdefault") = pure (.type "method_descriptor") := by show builtinType _ = _; rw [builtinType_eq_fast]; kernel_rfl
theorem entry_dict_sd : entryFor table "dict.setdefault" = some Builtin.«dict.setdefault» := entryFor_of_tree (by kernel_rfl)
theorem args_dict_sd (a b d : Value) : argsOk "dict.setdefault" ⟨[a, b, d], []⟩ := by unfold argsOk; kernel_rfl
section
variable {prog : Program} {w : World} {K : Type} [DecidableEq K] {knd : HeapKind prog w K} {A : Around} {E : Value → Shared → Prop} {s : Shared} {d a : Addr} {k : K} {xs : List (K × Addr × Value)}
theorem set_default {v : Value} {Q : Value → Shared → Prop} (hu : knd.room A) (hkey : knd.is s.heap k a) (hm : s.heap.DictOfH knd d xs)
    (hold : ∀ p, atKey xs k = some p → Q p.2 { s with toks := s.toks + knd.draws k })
    (hnew : atKey xs k = none → ∀ h', h'.DictOfH knd d (xs ++ [(k, a, v)]) → Heap.SameBut d s.heap h' → Q v { s with heap := h', toks := s.toks + knd.draws k }) (hsz : xs.length ≤ sizeLine) :
    wpAny (model prog w) A (dictSetDefault d (.ref a) v) Q E s := by
  obtain ⟨o, es, ep, ho, hc, hd, he, his, hn⟩ := hm
  unfold dictSetDefault
  try with_reducible refine wpAny_holding ?_
  refine wpAny_bind (knd.pyHash hu hkey (wpAny_bind (wpAny_dictFind_heap (s := { s with toks := s.toks + knd.draws k }) hu hkey ho hd he his hn ?_ ?_)))
  · intro hno
    have hnot : k ∉ xs.map (·.1) := not_mem_keys_of_get hno
    refine wpAny_bind (wpAny_rule (wpAny_bind (wpAny_updateDictKeys (hz := by have e := size_of_entries he; k_extra "o") (s := { s with toks := s.toks + knd.draws k }) ho hd (wpAny_pure (hnew (atKey_none_of_get hno) _ ⟨_, _, ep + 1, Heap.get?_update_self _ ho (Obj.isFreed_of_dict (Obj.data_mapDictKeys hd _)),
      hc.mapDictKeys _, Obj.data_mapDictKeys hd _, ?_, ?_, ?_⟩ (Heap.SameBut.update ..))))))
    · simp [he, entryOfKey]
    · intro x hx
      rcases List.mem_append.mp hx with hx | hx
      · exact knd.keeps (his x hx) ho hd (Heap.SameBut.update ..)
      · simp only [List.mem_singleton] at hx
        subst hx
        exact knd.keeps hkey ho hd (Heap.SameBut.update ..)
    · rw [List.map_append, List.nodup_append]
      refine ⟨hn, by simp, ?_⟩
      intro x hx y hy
      simp only [List.map_cons, List.map_nil, List.mem_singleton] at hy
      subst hy
      exact fun e => hnot (e ▸ hx)
  · intro j p hj
    refine wpAny_bind (wpAny_dictEntries (s := { s with toks := s.toks + knd.draws k }) ho hd ?_)
    rw [entry_at he j, hj]
    exact wpAny_bind (wpAny_rule (wpAny_pure (hold p (atKey_of_get hn hj))))
theorem call_sd {v : Value} {Q : Value → Shared → Prop} (hu : knd.room A.in1) (hkey : knd.is s.heap k a) (hd : (d == sysModules) = false) (hm : s.heap.DictOfH knd d xs)
    (hold : ∀ p, atKey xs k = some p → Q p.2 { s with toks := s.toks + knd.draws k })
    (hnew : atKey xs k = none → ∀ h', h'.DictOfH knd d (xs ++ [(k, a, v)]) → Heap.SameBut d s.heap h' → Q v { s with heap := h', toks := s.toks + knd.draws k }) (hsz : xs.length ≤ sizeLine) :
    wpAny (model prog w) A (PySem.call (.builtin "dict.setdefault") [.ref d, .ref a, v]) Q E s := by
  refine call_meetsIn (S := fun A R s => wpAny (model prog w) A.in1 (Builtin.«dict.setdefault» ⟨[.ref d, .ref a, v], []⟩) (fun fin s' => ∃ v, fin = .done (.ret v) ∧ R (.ok (.ret v)) s') NoE s) slot_dict_sd hm.typeIs entry_dict_sd (args_dict_sd _ _ _) (.of_wp fun A R s h => wpAny_mono h (fun _ _ z => z) fun _ _ z => z.elim) ?_
  unfold Builtin.«dict.setdefault» Builtin.Dict.keyAndDefault
  refine wpAny_bind (wpAny_bind (wpAny_notOrdered_dict hm.typeIs ?_))
  refine wpAny_bind (wpAny_of_eq (a := ()) rfl ?_)
  refine wpAny_bind (wpAny_of_eq (a := (Value.ref d, [Value.ref a, v])) rfl ?_)
  refine wpAny_bind (wpAny_of_eq (a := d) rfl (wpAny_pure ?_))
  dsimp only
  rw [hd]
  refine bm_if_false rfl ?_
  refine wpAny_bind (set_default hu hkey hm (fun p hp => wpAny_pure ⟨_, rfl, hold p hp⟩) (fun hn h' h1 h2 => wpAny_pure ⟨_, rfl, hnew hn h' h1 h2⟩) hsz)
end
section
variable {w : World} {dd : Nat} {cs : Scope} {c : Cx w dd cs} {m m' : AFr} {led led' : ALed}
theorem UpdL.appR {α β : Type} {a : α} {p p' : β} {l l' r : List (α × β)} (u : UpdL a p p' l l') : UpdL a p p' (l ++ r) (l' ++ r) := by
  induction u with
  | head => exact .head
  | tail _ ih => exact .tail ih
theorem UpdL.mem {α β : Type} {a : α} {p p' : β} {l l' : List (α × β)} (u : UpdL a p p' l l') : (a, p) ∈ l := by
  obtain ⟨x, y, rfl, _⟩ := u.split; exact List.mem_append_right _ (.head _)
theorem Post.upd {α β : Type} {Is : β → α → Prop} {K : β → ALed → Prop} {R : ALed} {h h' : Heap} {tk' : Nat} {mm : Str → Option Value} {L : Led} {x : β} {v : α} {d : Addr} {p p' : Cell} {o' : Obj} (i : Is x v) (F : Fr c.g c.L h mm) (N : News c.g c.L h L) (l : LedIs (led ++ R) L) (f : FrIs cs m mm) (nd : ((led ++ R).map (·.1)).Nodup)
    (u : UpdL d p p' led led') (hs : Heap.SameBut d h h') (ho : h'.get? d = some o') (hp : p' o') (k : K x led') : Post Is c R m K v (c.st h' tk') :=
  ⟨h', tk', x, led', rfl, i, At.change (led := led ++ R) ⟨⟨mm, L, F, N, l, f⟩, nd⟩ u.appR hs ho hp, k⟩
theorem METH.dict_sd {K : Value → List V → ALed → Prop} {a : Addr} {xs : List (List Int × Addr × V)} (h : Has c led a (cDictT w xs)) (k : K (.builtin "dict.setdefault") [.ref a] led) : METH c m led (.ref a) "setdefault" (kKeep w K) :=
  METH.blt h (fun o ⟨ys, D⟩ => ⟨D.ex.1, D.nd⟩) PySem.F.plainAttrs_dict slot_dict_sd type_dict_sd k
theorem DictT.more {xs : List (List Int × Addr × V)} {ys : List (List Int × Addr × Value)} {o o' : Obj} {k : List Int} {a : Addr} {v : V} {xv : Value} {h : Heap} {td : Addr} (D : DictT w xs ys o) (iv : v.Is xv) (g : h.get? td = some o') (hm : h.DictOfH (TK w) td (ys ++ [(k, a, xv)])) : cDictT w (xs ++ [(k, a, v)]) o' := by
  obtain ⟨o₁, es, ep, ho, hc, hd, he, _, hn⟩ := hm
  rw [g] at ho; cases ho
  refine ⟨_, hc, hc.2.1, ⟨es, ep, hd, he⟩, ?_, ?_, ?_⟩
  · rw [List.map_append, List.map_append, D.ks]; rfl
  · rw [List.map_append, List.map_append]; exact D.vs.append (.cons iv .nil)
  · have := congrArg (List.map Prod.fst) D.ks
    rw [List.map_map, List.map_map] at this
    have e : (ys ++ [(k, a, xv)]).map (·.1) = (xs ++ [(k, a, v)]).map (·.1) := by
      rw [List.map_append, List.map_append]; exact congrArg (· ++ [k]) this
    rwa [e] at hn
theorem DictT.len {xs : List (List Int × Addr × V)} {ys : List (List Int × Addr × Value)} {o : Obj} (D : DictT w xs ys o) : ys.length = xs.length := by
  have := congrArg List.length D.ks
  rwa [List.length_map, List.length_map] at this
section
variable {K : V → ALed → Prop} {td a b : Addr} {xs : List (List Int × Addr × V)} {i j : Int} {v dv : V}
theorem CALL.sd_old (hm : (td, cDictT w xs) ∈ led) (hk : Has c led a (cTup [.int i, .int j])) (hks : KeysAt c led xs) (hmo : td ≠ sysModules) (hat : atT xs [i, j] = some (b, v)) (hd : Nat.ble 1 dd = true) (hz : xs.length ≤ 1000) (k : K v led) : CALL c m led (.builtin "dict.setdefault") [.ref td, .ref a, dv] K := by
  intro zs is
  cases is with | cons i1 is => cases is with | cons i2 is => cases is with | cons i3 is =>
  cases is; cases i1; cases i2
  refine CP.any fun hh tk R mm L F N ll f nd => ?_
  obtain ⟨o, ⟨ys, D⟩, g⟩ := (Has.l (c := c) hm).get F N ll
  obtain ⟨_, ⟨ws, rfl, iw⟩, gk⟩ := hk.get F N ll
  have hr := atT_rel [i, j] D.ks D.vs
  rw [hat] at hr
  obtain ⟨x, hx, ix⟩ := hr
  exact call_sd (knd := TK w) (by show c.un + 1 < cLine; have := c.h2; have := Nat.le_of_ble_eq_true hd; k_extra "o") (tupKey gk iw) (beq_eq_false_iff_ne.mpr hmo) (D.on g hks F N ll)
    (fun p hp => by rw [hx] at hp; cases hp; exact Post.mk ix F N ll f nd k) (fun hn => by rw [hx] at hn; cases hn) (by rw [D.len, sizeLine_eq]; k_extra "o")
theorem CALL.sd_new (hu : UpdL td (cDictT w xs) (cDictT w (xs ++ [([i, j], a, dv)])) led led') (hk : Has c led a (cTup [.int i, .int j])) (hks : KeysAt c led xs) (hmo : td ≠ sysModules) (hat : atT xs [i, j] = none) (hd : Nat.ble 1 dd = true) (hz : xs.length ≤ 1000) (k : K dv led') : CALL c m led (.builtin "dict.setdefault") [.ref td, .ref a, dv] K := by
  intro zs is
  cases is with | cons i1 is => cases is with | cons i2 is => cases is with | cons i3 is =>
  cases is; cases i1; cases i2
  refine CP.any fun hh tk R mm L F N ll f nd => ?_
  obtain ⟨o, ⟨ys, D⟩, g⟩ := (Has.l (c := c) hu.mem).get F N ll
  obtain ⟨_, ⟨ws, rfl, iw⟩, gk⟩ := hk.get F N ll
  have hr := atT_rel [i, j] D.ks D.vs
  rw [hat] at hr
  exact call_sd (knd := TK w) (by show c.un + 1 < cLine; have := c.h2; have := Nat.le_of_ble_eq_true hd; k_extra "o") (tupKey gk iw) (beq_eq_false_iff_ne.mpr hmo) (D.on g hks F N ll)
    (fun p hp => by rw [hr] at hp; cases hp) (fun hn h' h1 h2 => by
      obtain ⟨o', hr⟩ : ∃ o', h'.get? td = some o' := by obtain ⟨o', _, _, ho, _⟩ := h1; exact ⟨o', ho⟩
      exact Post.upd i3 F N ll f nd hu h2 hr (D.more i3 hr h1) k) (by rw [D.len, sizeLine_eq]; k_extra "o")
end
section
variable {K : ALed → Prop} {td a b : Addr} {xs : List (List Int × Addr × V)} {i j : Int} {v : V}
theorem SETI.dictT (hu : UpdL td (cDictT w xs) (cDictT w (xs ++ [([i, j], a, v)])) led led') (hk : Has c led a (cTup [.int i, .int j])) (hks : KeysAt c led xs) (hat : atT xs [i, j] = none) (hd : Nat.ble 1 dd = true) (hz : xs.length ≤ 1000) (k : K led') : SETI c m led (.ref td) (.ref a) v K := by
  rintro xa xb xv e1 e2 iv; cases e1; cases e2
  refine CP.any fun hh tk R mm L F N ll f nd => ?_
  obtain ⟨o, ⟨ys, D⟩, g⟩ := (Has.l (c := c) hu.mem).get F N ll
  obtain ⟨_, ⟨ws, rfl, iw⟩, gk⟩ := hk.get F N ll
  have hr := atT_rel [i, j] D.ks D.vs
  rw [hat] at hr
  refine wpAny_setItem_heap (hsz := by rw [D.len, sizeLine_eq]; k_extra "o") (knd := TK w) (by show c.un + 1 < cLine; have := c.h2; have := Nat.le_of_ble_eq_true hd; k_extra "o") (tupKey gk iw) (D.on g hks F N ll) fun h' h1 h2 => ?_
  rw [storedH_new hr] at h1
  obtain ⟨o', hr⟩ : ∃ o', h'.get? td = some o' := by obtain ⟨o', _, _, ho, _⟩ := h1; exact ⟨o', ho⟩
  exact Post.upd (x := ()) trivial F N ll f nd hu h2 hr (D.more iv hr h1) k
end
noncomputable def storeI (kvs : List (Int × V)) (k : Int) (v : V) : List (Int × V) := if kvs.any (fun kv => decide (kv.1 = k)) then kvs.map (fun kv => if kv.1 = k then (kv.1, v) else kv) else kvs ++ [(k, v)]
theorem store_keys {kvs : List (Int × V)} {k : Int} {v : V} : ∀ {xs : List (Int × Value)} {x : Value}, xs.map (·.1) = kvs.map (·.1) → (stored xs k x).map (·.1) = (storeI kvs k v).map (·.1) := by
  intro xs x h
  have h1 : xs.any (fun kv => decide (kv.1 = k)) = kvs.any (fun kv => decide (kv.1 = k)) := by
    have := congrArg (fun l => List.any l fun q => decide (q = k)) h
    simp only [List.any_map] at this
    exact this
  have e1 : ∀ l : List (Int × Value), (l.map fun kv => if kv.1 = k then (kv.1, x) else kv).map (·.1) = l.map (·.1) := fun l => by
    rw [List.map_map]; refine List.map_congr_left fun q _ => ?_
    show (if q.1 = k then (q.1, x) else q).1 = q.1; split <;> rfl
  have e2 : ∀ l : List (Int × V), (l.map fun kv => if kv.1 = k then (kv.1, v) else kv).map (·.1) = l.map (·.1) := fun l => by
    rw [List.map_map]; refine List.map_congr_left fun q _ => ?_
    show (if q.1 = k then (q.1, v) else q).1 = q.1; split <;> rfl
  unfold stored storeI
  rw [h1]
  split
  · rw [e1, e2, h]
  · rw [List.map_append, List.map_append, h]; rfl
theorem store_vals {k : Int} {v : V} {x : Value} (iv : v.Is x) : ∀ {kvs : List (Int × V)} {xs : List (Int × Value)}, xs.map (·.1) = kvs.map (·.1) → AreV (kvs.map (·.2)) (xs.map (·.2)) → AreV ((kvs.map fun kv => if kv.1 = k then (kv.1, v) else kv).map (·.2)) ((xs.map fun kv => if kv.1 = k then (kv.1, x) else kv).map (·.2)) := by
  intro kvs
  induction kvs with
  | nil => intro xs h1 h2; cases xs with | nil => exact .nil | cons _ _ => cases h1
  | cons q r ih =>
    intro xs h1 h2
    cases xs with
    | nil => cases h1
    | cons y s =>
      rw [List.map_cons, List.map_cons] at h1 h2
      obtain ⟨e, h1⟩ := List.cons.inj h1
      cases h2 with
      | cons i h2 =>
        have e : y.1 = q.1 := e
        simp only [List.map_cons]
        refine .cons ?_ (ih h1 h2)
        rw [e]
        split
        · exact iv
        · exact i
theorem store_rel {kvs : List (Int × V)} {k : Int} {v : V} {x : Value} {xs : List (Int × Value)} (iv : v.Is x) (h1 : xs.map (·.1) = kvs.map (·.1)) (h2 : AreV (kvs.map (·.2)) (xs.map (·.2))) : AreV ((storeI kvs k v).map (·.2)) ((stored xs k x).map (·.2)) := by
  have h3 : xs.any (fun kv => decide (kv.1 = k)) = kvs.any (fun kv => decide (kv.1 = k)) := by
    have := congrArg (fun l => List.any l fun q => decide (q = k)) h1
    simp only [List.any_map] at this
    exact this
  unfold stored storeI
  rw [h3]
  split
  · exact store_vals iv h1 h2
  · rw [List.map_append, List.map_append]; exact h2.append (.cons iv .nil)
theorem SETI.dictI {K : ALed → Prop} {d : Addr} {kvs : List (Int × V)} {i : Int} {v : V} (hu : UpdL d (cDictI w kvs) (cDictI w (storeI kvs i v)) led led') (hz : kvs.length ≤ 1000) (k : K led') : SETI c m led (.ref d) (.int i) v K := by
  rintro xa xb xv e1 ⟨t, rfl⟩ iv; cases e1
  refine CP.any fun hh tk R mm L F N ll f nd => ?_
  obtain ⟨o, ⟨xs, ho, ho2, h1, h2⟩, g⟩ := (Has.l (c := c) hu.mem).get F N ll
  have hl : xs.length = kvs.length := by have := congrArg List.length h1; rwa [List.length_map, List.length_map] at this
  refine wpAny_setItem_pairs (hsz := by rw [hl, sizeLine_eq]; k_extra "o") (knd := intKind pr w) (k := i) (by simp [intKind, Value.isInt]) (Heap.dictOf_iff.mpr ⟨o, g, ho⟩) fun h' hm hs => ?_
  obtain ⟨o', go, hm⟩ := Heap.dictOf_iff.mp hm
  exact Post.upd (x := ()) trivial F N ll f nd hu hs go ⟨_, hm, by obtain ⟨_, _, e, _⟩ := hm; exact e.2.1, store_keys h1, store_rel iv h1 h2⟩ k
theorem CALL.dgetd {K : V → ALed → Prop} {d : Addr} {kvs : List (Int × V)} {i : Int} {dv : V} (hm : (d, cDictI w kvs) ∈ led) (hmo : d ≠ sysModules) (k : K ((atI kvs i).getD dv) led) : CALL c m led (.builtin "dict.get") [.ref d, .int i, dv] K := by
  intro xs is
  cases is with | cons i1 is => cases is with | cons i2 is => cases is with | cons i3 is =>
  cases is; cases i1; obtain ⟨t, rfl⟩ := i2
  refine CP.any fun hh tk R mm L F N ll f nd => ?_
  obtain ⟨o, ⟨xs, ho, _, h1, h2⟩, g⟩ := (Has.l (c := c) hm).get F N ll
  have hdo : hh.DictOf (intKind pr w) d xs := Heap.dictOf_iff.mpr ⟨o, g, ho⟩
  have hr := at_rel i h1 h2
  refine call_meetsIn PySem.F.slot_dict_get hdo.typeIs PySem.F.entry_dict_get (PySem.F.args_dict_get_3 _ _ _) (meets_dict_get_default (intKind pr w) d (k := i) (key := .int i t) (by simp [intKind, Value.isInt]) (beq_eq_false_iff_ne.mpr hmo) _) ⟨_, hdo.mapOf, ?_⟩
  cases e : atI kvs i with
  | none => rw [e] at hr k; rw [hr]; exact Post.mk i3 F N ll f nd k
  | some v => rw [e] at hr k; obtain ⟨x, hx, ix⟩ := hr; rw [hx]; exact Post.mk ix F N ll f nd k
section
variable {K : V → ALed → Prop} {pos : Pos}
theorem E1.dict0 {p : Cell} (hp : p { cls := .type "dict", data := .dict #[] }) (k : ∀ D, D ≠ sysModules → K (.ref D) ((D, p) :: led)) : E1 c m led (.Dict [] [] pos) K :=
  CP.any fun h tk R mm L F N l f nd => wpAny_Dict_empty ⟨_, tk, .ref _, (_, p) :: led, rfl, rfl, At.new F nd l f N (F.push _) (fun q hq => ⟨Heap.get?_push_of_some _ (N q hq).1, (N q hq).2⟩) (Heap.get?_push_size _ rfl) hp, k _ (Nat.ne_of_gt (Nat.lt_trans (Nat.lt_of_lt_of_le (modules_low c.T.nolimit) F.above) F.ns.lt))⟩
theorem E1.dictI0 (k : ∀ D, D ≠ sysModules → K (.ref D) ((D, cDictI w []) :: led)) : E1 c m led (.Dict [] [] pos) K :=
  E1.dict0 ⟨[], ⟨#[], 0, ⟨rfl, rfl, rfl⟩, rfl, fun e he => by simp at he, .nil, .nil⟩, rfl, rfl, .nil⟩ k
theorem E1.dictT0 (k : ∀ D, D ≠ sysModules → K (.ref D) ((D, cDictT w []) :: led)) : E1 c m led (.Dict [] [] pos) K :=
  E1.dict0 ⟨[], ⟨rfl, rfl, rfl⟩, rfl, ⟨#[], 0, rfl, rfl⟩, rfl, .nil, .nil⟩ k
end
end
theorem TakesL.then {α : Type} {a b l r r' : List α} (t : TakesL a l r) (u : TakesL b r r') : TakesL (a ++ b) l r' := by
  induction t with
  | nil => exact u
  | cons t _ ih => exact .cons t (ih u)
theorem E1.bytes {w : World} {dd : Nat} {cs : Scope} {c : Cx w dd cs} {m : AFr} {led : ALed} {K : V → ALed → Prop} {l : List UInt8} {n : Nat} {pos : Pos} (k : K (.bytes l) led) : E1 c m led (.Constant (.bytes l) n pos) K :=
  CP.any fun h tk R mm L F N l' f nd => Constant_bytes (Post.mk (isBytes _ _) F N l' f nd k)
end
section
section
variable {prog : Program} {w : World} {A : Around} {E : Value → Shared → Prop} {s : Shared} {env : Env}
theorem wpS.attempt {α : Type} {M : Model} {m : Sem α} {Q : Except Value α → Shared → Prop} (h : wpS M A m (fun a => Q (.ok a)) (fun e => Q (.error e)) s) : wpS M A m.attempt Q E s := fun Γ p hΓ hC => by rw [Sem.wp_attempt]; exact h Γ p hΓ hC
theorem wpS.standIf {α : Type} {M : Model} {c : Prop} [Decidable c] {pos : Pos} {k : PUnit → Sem α} {Q : α → Shared → Prop} (h : wpS M A (k ()) Q E s) : wpS M A (if c then PySem.standAt pos >>= k else Pure.pure () >>= k) Q E s := by
  split
  · exact wpS.bind (wpS.standAt h)
  · exact wpS.bind (wpS.pure h)
noncomputable def useOf (use : Option (Value → Sem Unit)) (acc : Value) : Sem Unit := match use with | none => Pure.pure () | some u => u acc
noncomputable def resOf (use : Option (Value → Sem Unit)) (acc : Value) : Value := match use with | none => acc | some _ => .none
theorem wpS.comprehension {use : Option (Value → Sem Unit)} {e : PySem.Expr} {scope : Scope} {pos : Pos} {newAcc first : Sem Value} {g : Comprehension} {gs : List Comprehension} {cl : List (Str × Addr)} {Q : Value → Shared → Prop}
    (hcl : clausesOf e = g :: gs) (hs : ∀ x, foldedSetIterable g.iter env x = Pure.pure x) (hclos : closureFor scope env = Pure.pure cl)
    (hkind : scope.kind = .function) (hnames : ∀ x ∈ scope.names, x.2 = .local → scope.names.lookup x.1 = some .local)
    (h : wpS (model prog w) A first (fun x s₁ => wpAny (model prog w) A (pyIter x) (fun it s₂ => wpAny (model prog w) A newAcc (fun acc s₃ =>
      wpAny (model prog w) A (newFunctionEnv scope env.globals cl [] env.qual none .none (some env)) (fun cenv s₄ =>
        codeS (model prog w) A (.compStart e 0 it acc { cenv with scope := relabel scope env }) (fun r s' => match r with
          | .ok _ => wpAny (model prog w) A (useOf use acc) (fun _ s'' => ∃ m, s''.heap.Ns cenv.locals m ∧ ∀ h', Heap.SameBut cenv.locals s''.heap h' → Q (resOf use acc) { s'' with heap := h' }) NoE s'
          | .error _ => False) s₄) NoE s₃) NoE s₂) NoE s₁) NoE s) :
    wpS (model prog w) A (comprehension e scope env pos newAcc false first use) Q NoE s := by
  unfold PySem.comprehension
  rw [hclos, hcl]
  refine wpS.bind (wpS.mono h (fun x s₁ h₁ => wpS.bind (wpS.standAt (wpS.bindA (wpAny_of_eq (hs x) (wpS.bindA (wpAny_holding (wpAny_mono h₁ (fun it s₂ h₂ =>
    (?_ : wpS _ _ _ _ _ _)) fun _ _ h' => h'))))))) fun _ _ h' => h')
  refine wpS.standIf (wpS.bindA (wpAny_mono h₂ (fun acc s₃ h₃ => wpS.bind (wpS.pure (wpS.bindA (wpAny_mono h₃ (fun cenv s₄ h₄ => (?_ : wpS _ _ _ _ _ _)) fun _ _ h' => h')))) fun _ _ h' => h'))
  dsimp only
  have hv : ∀ x ∈ (scope.names.filter fun x => (x.2 == .local || x.2 == .cell) && x.1 != (".0" : Str)).reverse, x.2 = .local →
      Env.kindOf { cenv with scope := relabel scope env } x.1 = some .local := fun x hx hl => lookup_relabel_local (hnames x (List.mem_filter.mp (List.mem_reverse.mp hx)).1 hl)
  refine wpS.holding (wpS.bind (wpS.attempt (wpS.holding (wpS.run rfl (codeS.mono h₄ fun r s' hr => ?_)))))
  cases r with
  | ok f =>
    cases use with
    | none =>
      show wpS (model prog w) A (Pure.pure () >>= fun _ => _) Q NoE s'
      refine wpS.bindA (wpAny_mono hr (fun _ s'' hr' => ?_) fun _ _ h' => h')
      obtain ⟨m, hn, hr'⟩ := hr'
      exact wpS.bindA (wpAny_holding (wpAny_comp_letGo (cenv := { cenv with scope := relabel scope env }) hkind _ s'' m hv hn fun h' m' _ hs' => wpS.pure (hr' h' hs')))
    | some u =>
      refine wpS.bindA (wpAny_rule (wpS.bindA (wpAny_holding (wpAny_mono hr (fun _ s'' hr' => ?_) fun _ _ h' => h'))))
      obtain ⟨m, hn, hr'⟩ := hr'
      refine wpS.bindA (wpAny_comp_letGo (cenv := { cenv with scope := relabel scope env }) hkind _ s'' m (fun x hx => ?_) hn fun h' m' _ hs' => wpS.pure (hr' h' hs'))
      rcases List.mem_append.mp hx with h1 | h1
      · exact hv x (List.mem_of_mem_drop h1)
      · exact hv x (List.mem_of_mem_take h1)
  | error x => exact hr.elim
theorem codeS.compStart {elt target iter ifs rest scope pos it acc} {R : Result → Shared → Prop}
    (h0 : codeS (model prog w) A (.compLoop (.ListComp elt (⟨target, iter, ifs, 0⟩ :: rest) scope pos) 0 it acc env) R s)
    (h : wpAny (model prog w) A (pyIter it) (fun it' s' => codeS (model prog w) A (.compLoop (.ListComp elt (⟨target, iter, ifs, 0⟩ :: rest) scope pos) 0 it' acc env) R s') NoE s) :
    codeS (model prog w) A (.compStart (.ListComp elt (⟨target, iter, ifs, 0⟩ :: rest) scope pos) 0 it acc env) R s := by
  refine codeS.tree ?_
  show wpS _ _ ((PySem.compStart (.ListComp elt (⟨target, iter, ifs, 0⟩ :: rest) scope pos) 0 it acc env).onRaise (fun x => do noteFrame x env; standAt theWindowsPlace)) _ _ s
  refine wpS.onRaise (wpS.mono (E := NoE) ?_ (fun _ _ x => x) fun _ _ x => x.elim)
  refine wpS.lift ?_
  unfold PySem.compStart
  show wpAny _ _ (ask >>= _) _ _ s
  refine wpAny_bind (wpAny_askSetting (wpAny_ite ?_))
  split
  · first
      | exact wpAny_bind (wpAny_pure (wpAny_pure ⟨rfl, rfl, h0⟩))
      | exact wpAny_pure ⟨rfl, rfl, h0⟩
  · first
      | exact wpAny_bind (wpAny_rule (wpAny_bind (wpAny_standAt (wpAny_bind (wpAny_mono h (fun it' s' h' => wpAny_pure ⟨rfl, rfl, h'⟩) fun _ _ x => x)))))
      | (refine wpAny_bind (wpAny_rule ?_); show wpAny _ _ (standAt iter.pos >>= _) _ _ s; exact wpAny_bind (wpAny_standAt (wpAny_bind (wpAny_mono h (fun it' s' h' => wpAny_pure ⟨rfl, rfl, h'⟩) fun _ _ x => x))))
theorem codeS.compLoop {elt target iter : PySem.Expr} {scope : Scope} {pos : Pos} {it acc : Value} {R : Result → Shared → Prop} (I : Nat → Shared → Prop)
    (turn : ∀ n s, I n s → wpAny (model prog w) A (pyNext it) (fun r s₁ => match r with
      | none => R (.ok .next) s₁
      | some v => wpAny (model prog w) A (assign target env v) (fun _ s₂ => wpS (model prog w) A (eval elt env) (fun x s₃ =>
          wpAny (model prog w) A (PySem.call (.builtin "list.append") [acc, x]) (fun _ s₄ => ∃ m, m < n ∧ I m s₄) NoE s₃) NoE s₂) NoE s₁) NoE s)
    (n : Nat) (h : I n s) (ht : ∀ v, letOwnedTupleGo target it v = Pure.pure () := by intro _; rfl) :
    codeS (model prog w) A (.compLoop (.ListComp elt [⟨target, iter, [], 0⟩] scope pos) 0 it acc env) R s := by
  refine codeS.loop rfl rfl I (fun n s hI => ?_) n h
  rw [Around.under_of_weight rfl]
  show wpS _ _ ((compTurn (.ListComp elt [⟨target, iter, [], 0⟩] scope pos) 0 it acc env).onRaise (fun x => do noteFrame x env; theTreesLotGoes x)) _ _ s
  refine wpS.onRaise (wpS.mono (E := NoE) ?_ (fun _ _ x => x) fun _ _ x => x.elim)
  rw [compTurn_list1]
  refine wpS.bind (wpS.standAt (wpS.bindA (wpAny_mono (turn n s hI) (fun r s₁ h₁ => ?_) fun _ _ h' => h')))
  cases r with
  | none => exact wpS.pure h₁
  | some v =>
    refine wpS.bind (wpS.ofEq (ht v) ?_)
    exact wpS.bindA (wpAny_mono h₁ (fun _ s₂ h₂ => wpS.bind (wpS.bind (wpS.mono h₂ (fun x s₃ h₃ => wpS.bindA (wpAny_mono h₃
      (fun _ s₄ h₄ => wpS.pure (wpS.pure (.inl ⟨rfl, h₄⟩))) fun _ _ h' => h')) fun _ _ h' => h'))) fun _ _ h' => h')
end
section
variable {w : World} {dd : Nat} {cs : Scope} {c : Cx w dd cs} {m m' : AFr} {led led' : ALed}
theorem append_ {D : Addr} {vs : List V} {v : V} {xv : Value} {R : ALed} {h : Heap} {tk : Nat} {Q : Value → Shared → Prop} (a : At c h m (led ++ R)) (u : UpdL D (cList vs) (cList (vs ++ [v])) led led') (iv : v.Is xv) (hz : vs.length ≤ 2 ^ 20)
    (k : ∀ h', At c h' m (led' ++ R) → Q .none (c.st h' tk)) : wpAny (model pr w) c.A (PySem.call (.builtin "list.append") [.ref D, xv]) Q NoE (c.st h tk) := by
  obtain ⟨⟨mm, L, F, N, ll, f⟩, nd⟩ := a
  obtain ⟨pre, post, o, rfl, ⟨xs, n, rfl, is⟩, p1, p2, p3, p4⟩ := split_of ll nd u
  refine append_K (x := xv) F N (Upd.of_split p1 p2) (fun h' F' N' => k h' ⟨⟨mm, _, F', N', p3 _ ⟨xs ++ [xv], n + 1, by simp, is.append (.cons iv .nil)⟩, f⟩, p4⟩) (by rw [List.size_toArray, is.length, sizeLine_eq]; k_extra "o")
theorem CALL.append {K : V → ALed → Prop} {D : Addr} {vs : List V} {v : V} (u : UpdL D (cList vs) (cList (vs ++ [v])) led led') (hz : vs.length ≤ 2 ^ 20) (k : K .none led') : CALL c m led (.builtin "list.append") [.ref D, v] K := by
  intro xs is
  cases is with | cons i1 is => cases is with | cons i2 is =>
  cases is; cases i1
  intro h tk R a
  exact wpS.lift (append_ a u i2 hz fun h' a' => ⟨h', tk, .none, led', rfl, rfl, a', k⟩)
noncomputable abbrev Cx.inner (c : Cx w dd cs) (cs' : Scope) (hk : cs'.kind = .function) (g : Heap) (L : Addr) (cl : List (Str × Addr)) (sub : ∀ b o, c.fg.get? b = some o → g.get? b = some o)
    (hF : ∀ h mm, Fr g L h mm → ∃ fm, Fr c.fg c.fL h fm) (hN : ∀ q, q ≠ L → g.get? q = none → q ≠ c.fL) : Cx w dd cs' :=
  { p := c.p, loose := c.loose, mean := c.mean, mg := c.mg, mb := c.mb, dp := c.dp, un := c.un, gd := c.gd, cn := c.cn, a := c.a, ccd := c.ccd, outer := c.outer, A₀ := c.A₀, base := c.base, g := g, L := L, cl := cl, fn := none, fg := c.fg, fL := c.fL, fcs := c.fcs, fcl := c.fcl, gens := c.gens, drawn := c.drawn, os := c.os, B := c.B, Xf := c.Xf, Tf := c.Tf, sub := sub, hk := hk, hkf := c.hkf, hF := hF, hN := hN, h1 := c.h1, h2 := c.h2 }
structure SubC {cs' : Scope} (c : Cx w dd cs) (c' : Cx w dd cs') (cl : List (Str × Addr)) : Prop where
  cl : c'.cl = cl
  ro : ∀ a p, c.Ro a p → c'.Ro a p
theorem At.enter {cs' : Scope} (hk' : cs'.kind = .function) {H : Heap} {LED : ALed} (a : At c H m LED) (cl : List (Str × Addr)) :
    ∃ (g : Heap) (sub : ∀ b o, c.fg.get? b = some o → g.get? b = some o) (hF : ∀ h mm, Fr g H.objs.size h mm → ∃ fm, Fr c.fg c.fL h fm) (hN : ∀ q, q ≠ H.objs.size → g.get? q = none → q ≠ c.fL),
      SubC c (c.inner cs' hk' g H.objs.size cl sub hF hN) cl ∧
      (∀ h₃ mm', h₃.Ns H.objs.size mm' → (∀ b o, H.get? b = some o → h₃.get? b = some o) → At (c.inner cs' hk' g H.objs.size cl sub hF hN) h₃ [] LED) ∧
      ∀ h₄ m' LED' h₅, At (c.inner cs' hk' g H.objs.size cl sub hF hN) h₄ m' LED' → Heap.SameBut H.objs.size h₄ h₅ → At c h₅ m LED' := by
  obtain ⟨⟨mm, L, F, N, l, f⟩, nd⟩ := a
  have hcg : ∀ b o, c.g.get? b = some o → (less H L).get? b = some o := fun b o e => hideAll_get _ (F.keep b o e) (not_g N e)
  obtain ⟨fm, Ff⟩ := c.hF H mm F
  obtain ⟨oF, es, ep, hLF, r1, r2, r3⟩ := Ff.ns
  have hFg : (less H L).get? c.fL = some oF := hideAll_get _ hLF fun hm => by
    obtain ⟨q, hq, e⟩ := List.mem_map.mp hm
    exact c.hN _ (N q hq).2.1 (N q hq).2.2 e
  obtain ⟨oL, es', ep', hL, q1, q2, q3⟩ := F.ns
  have hLg : (less H L).get? c.L = some oL := hideAll_get _ hL (not_L N)
  have hlt : ∀ b o, (less H L).get? b = some o → b ≠ H.objs.size := fun b o e => Nat.ne_of_lt (Heap.lt_size (of_hideAll _ e))
  refine ⟨less H L, fun b o e => hcg b o (c.sub b o e), fun h mm' F' => ⟨fm, ⟨oF, es, ep, F'.keep _ _ hFg, r1, r2, r3⟩, fun b o e => F'.keep b o (hcg b o (c.sub b o e)), Ff.above⟩, fun q _ e h => (by rw [h, hFg] at e; cases e), ⟨rfl, fun a p ⟨o, h1, h2⟩ => ⟨o, h1, hcg a o h2⟩⟩, ?_, ?_⟩
  · intro h₃ mm' hns old
    exact ⟨⟨mm', L, ⟨hns, fun b o e => old b o (of_hideAll _ e), by rw [hideAll_size]; exact Nat.le_refl _⟩, fun q hq => ⟨old _ _ (N q hq).1, Nat.ne_of_lt (Heap.lt_size (N q hq).1), hideAll_none _ (List.mem_map_of_mem hq)⟩, l, ⟨fun _ h => (nomatch h), fun _ h => (nomatch h), .nil⟩⟩, nd⟩
  · rintro h₄ m' LED' h₅ ⟨⟨mm₄, L₄, F₄, N₄, l₄, f₄⟩, nd₄⟩ hs
    have hk : ∀ b o, (less H L).get? b = some o → h₅.get? b = some o := fun b o e => (hs.2 b (hlt b o e)).trans (F₄.keep b o e)
    refine ⟨⟨mm, L₄, ⟨⟨oL, es', ep', hk _ _ hLg, q1, q2, q3⟩, fun b o e => hk b o (hcg b o e), F.above⟩, fun q hq => ?_, l₄, f⟩, nd₄⟩
    obtain ⟨n1, n2, n3⟩ := N₄ q hq
    refine ⟨(hs.2 _ n2).trans n1, fun e => ?_, ?_⟩
    · have n3 : (less H L).get? q.1 = none := n3
      rw [e, hLg] at n3; cases n3
    · cases e : c.g.get? q.1 with
      | none => rfl
      | some o => have n3 : (less H L).get? q.1 = none := n3; rw [hcg _ _ e] at n3; cases n3
noncomputable def LedLe (l l' : ALed) : Prop := l.map (·.1) = l'.map (·.1) ∧ ∀ L, LedIs l L → LedIs l' L
theorem LedLe.refl {l : ALed} : LedLe l l := ⟨rfl, fun _ h => h⟩
theorem At.le {h : Heap} {l l' R : ALed} (a : At c h m (l ++ R)) (e : LedLe l l') : At c h m (l' ++ R) := by
  obtain ⟨⟨mm, L, F, N, ll, f⟩, nd⟩ := a
  obtain ⟨L₁, L₂, rfl, h1, h2⟩ := ll.split
  exact ⟨⟨mm, _, F, N, (e.2 _ h1).append h2, f⟩, by rw [List.map_append] at nd ⊢; rw [← e.1]; exact nd⟩
noncomputable def CompQ (J : Nat → List V → ALed → Prop) (i : Nat) (acc : List V) (y : V) (led₂ : ALed) : Prop := ∃ led₃ lr, J (i + 1) (acc ++ [y]) led₃ ∧ TakesL led₃ led₂ lr
inductive CLoop {cs' : Scope} (c' : Cx w dd cs') (J : Nat → List V → ALed → Prop) (It : Nat → Cell) (I D : Addr) (R : ALed) (n k : Nat) : Shared → Prop
  | mk (h' : Heap) (tk' i : Nat) (acc : List V) (led₁ : ALed) : At c' h' [] (led₁ ++ (I, It i) :: (D, cList acc) :: R) → J i acc led₁ → acc.length = i → i ≤ n → k = n + 1 - i → CLoop c' J It I D R n k (c'.st h' tk')
theorem comp_core {cs' : Scope} {c' : Cx w dd cs'} {elt iter : Expr} {x : Str} {px pos : Pos} {scope : Scope} {It : Nat → Cell} {n : Nat} {Vat : Nat → V → Prop} {H : ∀ (dd : Nat) (cs : Scope), Cx w dd cs → ALed → Prop} {J : Nat → List V → ALed → Prop}
    (S : Src w It n Vat H) (hn : n ≤ 2 ^ 20) (hx : cs'.names.lookup x = some .local) (hd : (x == ("__debug__" : Str)) = false) (hH : ∀ i acc led', J i acc led' → H _ _ c' led')
    (turn : ∀ i v acc led₁, i < n → Vat i v → J i acc led₁ → E1 c' [(x, v)] led₁ elt (CompQ J i acc)) {I D : Addr} {R led₀ : ALed} {h₀ : Heap} {tk₀ : Nat} (a₀ : At c' h₀ [] (led₀ ++ (I, It 0) :: (D, cList []) :: R)) (hJ : J 0 [] led₀) {Rr : Result → Shared → Prop}
    (fin : ∀ acc led₁ h' tk', acc.length = n → J n acc led₁ → At c' h' [] (led₁ ++ (D, cList acc) :: R) → Rr (.ok .next) (c'.st h' tk')) :
    codeS (model pr w) c'.A (.compLoop (.ListComp elt [⟨.Name x px, iter, [], 0⟩] scope pos) 0 (.ref I) (.ref D) c'.env) Rr (c'.st h₀ tk₀) := by
  refine codeS.compLoop (CLoop c' J It I D R n) ?_ (n + 1) (.mk h₀ _ 0 [] led₀ a₀ hJ rfl (Nat.zero_le _) rfl)
  rintro k s' ⟨h', tk', i, acc, led₁, a', hj, hlen, hi, rfl⟩
  by_cases hlt : i < n
  · refine wpAny_mono (S.item hlt (hH _ _ _ hj) a') (fun r s₁ z => ?_) fun _ _ e => e
    obtain ⟨xv, v, h₅, tk₅, rfl, hv, iv, rfl, a₅⟩ := z
    dsimp only
    refine wpAny_mono (AS.name (m := []) (K := fun m' led' => m' = [(x, v)] ∧ led' = led₁) ⟨_, .new (fun h => nomatch h) hx hd, rfl, rfl⟩ xv iv h₅ tk₅ _ a₅) (fun _ s₂ z => ?_) fun _ _ e => e
    obtain ⟨h₆, tk₆, m₆, led₆, rfl, a₆, e1, e2⟩ := z
    rw [e1, e2] at a₆
    refine wpS.mono (turn i v acc led₁ hlt hv hj h₆ tk₆ _ a₆) (fun y s₃ z => ?_) fun _ _ e => e
    obtain ⟨h₇, tk₇, yv, led₂, rfl, iy, a₇, led₃, lr₃, hj₃, t₃⟩ := z
    have a₈ := (a₇.keep t₃).frame (m' := []) .nil
    have u := UpdL.mid (a := D) (p := cList acc) (p' := cList (acc ++ [yv])) (x := led₃ ++ [(I, It (i + 1))]) (y := R)
    rw [List.append_assoc, List.append_assoc, List.singleton_append, List.singleton_append] at u
    refine append_ (R := []) (by rw [List.append_nil]; exact a₈) u iy (by k_extra "o") fun h₈ a₉ => ?_
    rw [List.append_nil] at a₉
    exact ⟨n + 1 - (i + 1), by k_extra "o", .mk h₈ tk₇ (i + 1) (acc ++ [yv]) led₃ a₉ hj₃ (by rw [List.length_append, hlen]; rfl) hlt rfl⟩
  · obtain rfl : i = n := by k_extra "o"
    refine wpAny_mono (S.fin (hH _ _ _ hj) a') (fun r s₁ z => ?_) fun _ _ e => e
    obtain ⟨h₅, tk₅, rfl, rfl, a₅⟩ := z
    exact fin _ _ _ _ hlen hj a₅
structure COMP (c : Cx w dd cs) (m : AFr) (led : ALed) (a : V) (elt : Expr) (x : Str) (scope : Scope) (cl : List (Str × Addr)) (K : V → ALed → Prop) (It : Nat → Cell) (n : Nat) (Vat : Nat → V → Prop) (H : ∀ (dd : Nat) (cs : Scope), Cx w dd cs → ALed → Prop) (J : Nat → List V → ALed → Prop) (led₀ : ALed) : Prop where
  S : Src w It n Vat H
  st : START c m led a It
  hn : n ≤ 2 ^ 20
  hj : J 0 [] led₀
  tl : ∃ lr, TakesL led₀ led lr
  hH : ∀ c' : Cx w dd (relabel scope c.env), SubC c c' cl → ∀ i acc led', J i acc led' → H _ _ c' led'
  turn : ∀ c' : Cx w dd (relabel scope c.env), SubC c c' cl → ∀ i v acc led₁, i < n → Vat i v → J i acc led₁ → E1 c' [(x, v)] led₁ elt (CompQ J i acc)
  done : ∀ acc led₁, acc.length = n → J n acc led₁ → ∃ l', LedLe led₁ l' ∧ ∀ D, K (.ref D) ((D, cList acc) :: l')
@[reducible] noncomputable def kComp (c : Cx w dd cs) (m : AFr) (elt : Expr) (x : Str) (scope : Scope) (cl : List (Str × Addr)) (K : V → ALed → Prop) : V → ALed → Prop := fun a led₁ => ∀ h R, At c h m (led₁ ++ R) → ∃ led₁', At c h m (led₁' ++ R) ∧ ∃ It n Vat H J led₀, COMP c m led₁' a elt x scope cl K It n Vat H J led₀
theorem COMP.range {a b : Int} {r : Addr} {elt : Expr} {x : Str} {scope : Scope} {cl : List (Str × Addr)} {K : V → ALed → Prop} {n : Nat} (J : Nat → List V → ALed → Prop) {led₀ lr : ALed} (hr : Has c led r (cRange a b 1)) (hsm : Builtin.Range.small a b 1 = true) (hs : Builtin.Range.rangeSize a b 1 = (n : Int)) (hn : n ≤ 2 ^ 20) (hj : J 0 [] led₀) (tl : TakesL led₀ led lr)
    (turn : ∀ c' : Cx w dd (relabel scope c.env), SubC c c' cl → ∀ K' : Nat → List V → V → ALed → Prop, (∀ i acc y l, CompQ J i acc y l → K' i acc y l) → ∀ i acc led₁, i < n → J i acc led₁ → E1 c' [(x, .int (a + i))] led₁ elt (K' i acc))
    (done : ∀ acc led₁, acc.length = n → J n acc led₁ → ∀ D, K (.ref D) ((D, cList acc) :: led₁)) : kComp c m elt x scope cl K (.ref r) led :=
  fun _ _ a => ⟨_, a, _, _, _, _, J, led₀, Src.range _ 1 n, START.range hr hsm hs, hn, hj, ⟨lr, tl⟩, fun _ _ _ _ _ _ => trivial, fun c' sc i v acc led₁ hi hv h => by
    subst hv
    rw [Int.mul_one]
    exact turn c' sc _ (fun _ _ _ _ h => h) i acc led₁ hi h, fun acc l h1 h2 => ⟨l, .refl, done acc l h1 h2⟩⟩
theorem COMP.list {l : Addr} {vs : List V} {elt : Expr} {x : Str} {scope : Scope} {cl : List (Str × Addr)} {K : V → ALed → Prop} (J : Nat → List V → ALed → Prop) (hl : ∀ i acc led', J i acc led' → Has c led' l (cList vs)) {led₀ lr : ALed} (hn : vs.length ≤ 2 ^ 20) (hj : J 0 [] led₀) (tl : TakesL led₀ led lr)
    (turn : ∀ c' : Cx w dd (relabel scope c.env), SubC c c' cl → ∀ K' : Nat → List V → V → ALed → Prop, (∀ i acc y l, CompQ J i acc y l → K' i acc y l) → ∀ i v acc led₁, i < vs.length → vs[i]? = some v → J i acc led₁ → E1 c' [(x, v)] led₁ elt (K' i acc))
    (done : ∀ acc led₁, acc.length = vs.length → J vs.length acc led₁ → ∀ D, K (.ref D) ((D, cList acc) :: led₁)) : kComp c m elt x scope cl K (.ref l) led :=
  fun _ _ a => ⟨_, a, _, _, _, _, J, led₀, Src.list l vs, START.list ((hl _ _ _ hj).of tl), hn, hj, ⟨lr, tl⟩, fun c' sc i acc led' h => (hl i acc led' h).imp id (sc.ro _ _), fun c' sc i v acc led₁ hi hv h => turn c' sc _ (fun _ _ _ _ h => h) i v acc led₁ hi hv h, fun acc l h1 h2 => ⟨l, .refl, done acc l h1 h2⟩⟩
theorem SameBut.ext {a b : Addr} {h h' : Heap} {o : Obj} (hs : Heap.SameBut a h h') (e : h.get? b = some o) (hn : b ≠ a) : h'.get? b = some o := (hs.2 b hn).trans e
theorem At.two {h : Heap} {led₀ R : ALed} {q : Addr × Cell} (a : At c h m (led₀ ++ q :: R)) : At c (h.push { cls := .type "list", dict := Option.none, data := .seq ([] : List Value).toArray }) m (led₀ ++ q :: (h.objs.size, cList []) :: R) := by
  obtain ⟨⟨mm, L, F, N, l, f⟩, nd⟩ := a
  refine At.perm (At.new F nd l f N (F.push _) (fun p hp => ⟨Heap.get?_push_of_some _ (N p hp).1, (N p hp).2⟩) (Heap.get?_push_size _ rfl) (p := cList []) ⟨[], 0, rfl, .nil⟩) ?_
  have e := (List.perm_middle (l₁ := led₀ ++ [q]) (l₂ := R) (a := (h.objs.size, cList [])))
  rw [List.append_assoc, List.append_assoc] at e
  exact e
theorem comp_all {use : Option (Value → Sem Unit)} {elt iter : Expr} {x : Str} {px p : Pos} {scope : Scope} {cl : List (Str × Addr)} {pos : Pos} {K : V → ALed → Prop} {Z : AFr → V → ALed → Prop} {h₀ : Heap} {tk₀ : Nat} {R : ALed}
    (hclos : closureFor scope c.env = Pure.pure cl) (hcell : ∀ y ∈ scope.names, y.2 ≠ .cell) (hkind : scope.kind = .function)
    (hnames : ∀ y ∈ scope.names, y.2 = .local → scope.names.lookup y.1 = some .local) (hx : scope.names.lookup x = some .local) (hd : (x == ("__debug__" : Str)) = false)
    (hs : ∀ x, foldedSetIterable iter c.env x = Pure.pure x)
    (hu : ∀ D led' R' h' tk', At c h' m (led' ++ R') → K (.ref D) led' → wpAny (model pr w) c.A (useOf use (.ref D)) (fun _ s'' => ∃ h'' tk'' m', s'' = c.st h'' tk'' ∧ At c h'' m' (led' ++ R') ∧ Z m' (.ref D) led') NoE (c.st h' tk'))
    (h : E1 c m led iter (kComp c m elt x scope cl K)) (a : At c h₀ m (led ++ R)) :
    wpS (model pr w) c.A (PySem.comprehension (.ListComp elt [⟨.Name x px, iter, [], 0⟩] scope pos) scope c.env p (newList []) false (eval iter c.env) use) (fun v s' => ∃ h' tk' m' D led', s' = c.st h' tk' ∧ At c h' m' (led' ++ R) ∧ Z m' (.ref D) led' ∧ v = resOf use (.ref D)) NoE (c.st h₀ tk₀) := by
  refine wpS.comprehension rfl hs hclos hkind hnames (wpS.mono (h h₀ tk₀ R a) (fun xv s₁ z => ?_) fun _ _ e => e)
  obtain ⟨h₁, tk₁, xa, led₁, rfl, iv, a₁, X⟩ := z
  obtain ⟨led₁', a₁, It, n, Vat, H, J, led₀, X⟩ := X _ _ a₁
  obtain ⟨lr, tl⟩ := X.tl
  refine wpAny_mono (X.st xv iv h₁ tk₁ R a₁) (fun it s₂ z => ?_) fun _ _ e => e
  obtain ⟨I, h₂, rfl, rfl, a₂⟩ := z
  have a₃ := (a₂.keep tl).two
  refine wpAny_newObj_type (wpAny_newFunctionEnv hcell (by intro y hy; simp at hy) (fun h₃ hns hsb => ?_) hkind)
  dsimp only at hns hsb ⊢
  generalize hH : h₂.push { cls := .type "list", dict := Option.none, data := .seq ([] : List Value).toArray } = H2 at hns hsb a₃ ⊢
  obtain ⟨g, sub, hF, hN, sc, ent, back⟩ := At.enter (cs' := relabel scope c.env) hkind a₃ cl
  have a₄ := ent h₃ _ hns fun b o e => SameBut.ext hsb (Heap.get?_push_of_some _ e) (Nat.ne_of_lt (Heap.lt_size e))
  obtain ⟨⟨_, _, F₃, -⟩, -⟩ := a₃
  have loop := comp_core (elt := elt) (iter := iter) (px := px) (pos := pos) (scope := scope) (tk₀ := tk₁ + ([] : List (Str × Value)).length) (Rr := fun r s' => match r with
          | .ok _ => wpAny (model pr w) c.A (useOf use (.ref h₂.objs.size)) (fun _ s'' => ∃ m', s''.heap.Ns H2.objs.size m' ∧ ∀ h', Heap.SameBut H2.objs.size s''.heap h' → ∃ h'' tk' m' D led', ({ s'' with heap := h' } : Shared) = c.st h'' tk' ∧ At c h'' m' (led' ++ R) ∧ Z m' (.ref D) led' ∧ resOf use (.ref h₂.objs.size) = resOf use (.ref D)) NoE s'
          | .error _ => False) X.S X.hn (lookup_relabel_local hx) hd (X.hH _ sc) (X.turn _ sc) a₄ X.hj fun acc led₁ h' tk' hlen hj a₅ => by
    obtain ⟨l', le, kk⟩ := X.done acc led₁ hlen hj
    obtain ⟨⟨mb, Lb, Fb, Nb, lb, fb⟩, ndb⟩ := ((back _ _ _ h' a₅ (Heap.SameBut.refl _ _)).le le).perm (List.perm_middle (a := (h₂.objs.size, cList acc))).symm
    obtain ⟨⟨mm, L, ⟨⟨oL, es, ep, g1, g2⟩, -, -⟩, N, l, f⟩, nd⟩ := a₅
    have nin : H2.objs.size ∉ (((h₂.objs.size, cList acc) :: (l' ++ R)).map (·.1)) := fun hm => by
      have e1 : ((led₁ ++ (h₂.objs.size, cList acc) :: R).map (·.1)).Perm (((h₂.objs.size, cList acc) :: (l' ++ R)).map (·.1)) := by
        rw [List.map_append, List.map_cons, List.map_cons, List.map_append, le.1]; exact List.perm_middle
      rw [← e1.mem_iff, ← l.addr] at hm
      obtain ⟨q, hq, e2⟩ := List.mem_map.mp hm
      exact (N q hq).2.1 e2
    have b₂ : At c h' m (((h₂.objs.size, cList acc) :: l') ++ (H2.objs.size, (fun o => o = oL : Cell)) :: R) := At.perm (led := (H2.objs.size, (fun o => o = oL : Cell)) :: (((h₂.objs.size, cList acc) :: l') ++ R)) ⟨⟨mb, (H2.objs.size, oL) :: Lb, Fb, fun q hq => by
      rcases List.mem_cons.mp hq with rfl | hq
      · exact ⟨g1, Nat.ne_of_gt F₃.ns.lt, next_is_new F₃⟩
      · exact Nb q hq, .cons rfl lb, fb⟩, List.nodup_cons.mpr ⟨nin, ndb⟩⟩ List.perm_middle
    refine wpAny_mono (hu _ _ _ h' tk' b₂ (kk _)) (fun _ s'' z => ?_) fun _ _ e => e
    obtain ⟨h'', tk'', m', rfl, a₆, zz⟩ := z
    obtain ⟨⟨_, L₆, _, N₆, l₆, _⟩, _⟩ := id a₆
    obtain ⟨_, q1, rfl⟩ := l₆.mem (List.mem_append_right _ (.head _))
    exact ⟨mm, ⟨_, es, ep, (N₆ _ q1).1, g2⟩, fun h₃ hs => ⟨h₃, tk'', m', _, _, rfl, a₆.ext hs.extBut, zz, rfl⟩⟩
  exact codeS.compStart loop (X.S.self (c := c.inner (relabel scope c.env) hkind g H2.objs.size cl sub hF hN) a₄ loop)
theorem E1.comp {elt iter : Expr} {x : Str} {px : Pos} {scope : Scope} {cl : List (Str × Addr)} {pos : Pos} {K : V → ALed → Prop}
    (hclos : closureFor scope c.env = Pure.pure cl) (hcell : ∀ y ∈ scope.names, y.2 ≠ .cell) (hkind : scope.kind = .function)
    (hnames : ∀ y ∈ scope.names, y.2 = .local → scope.names.lookup y.1 = some .local) (hx : scope.names.lookup x = some .local) (hd : (x == ("__debug__" : Str)) = false)
    (hs : ∀ x, foldedSetIterable iter c.env x = Pure.pure x)
    (h : E1 c m led iter (kComp c m elt x scope cl K)) : E1 c m led (.ListComp elt [⟨.Name x px, iter, [], 0⟩] scope pos) K := fun hh tk R a => by
  show wpS _ _ (PySem.comprehension _ _ _ _ _ false (eval iter c.env) Option.none) _ _ _
  exact wpS.mono (comp_all (use := Option.none) (Z := fun m' v l => m' = m ∧ K v l) hclos hcell hkind hnames hx hd hs (fun D l R' h' tk' a k => wpAny_pure ⟨h', tk', m, rfl, a, rfl, k⟩) h a)
    (fun v s' z => by obtain ⟨h', tk', m', D, l, e, a', ⟨em, k⟩, ev⟩ := z; exact ⟨h', tk', .ref D, l, e, ev, em ▸ a', k⟩) fun _ _ e => e
theorem ST.comp {elt iter : Expr} {x y : Str} {px py : Pos} {scope : Scope} {cl : List (Str × Addr)} {pos spos : Pos} {Q : AFl → AFr → ALed → Prop}
    (hw : swapsWith (.ListComp elt [⟨.Name x px, iter, [], 0⟩] scope pos) (some (.Name y py)) spos.line c.env = Pure.pure true)
    (hclos : closureFor scope c.env = Pure.pure cl) (hcell : ∀ y ∈ scope.names, y.2 ≠ .cell) (hkind : scope.kind = .function)
    (hnames : ∀ y ∈ scope.names, y.2 = .local → scope.names.lookup y.1 = some .local) (hx : scope.names.lookup x = some .local) (hd : (x == ("__debug__" : Str)) = false)
    (hs : ∀ x, foldedSetIterable iter c.env x = Pure.pure x)
    (h : E1 c m led iter (kComp c m elt x scope cl (kName m Q cs y))) : ST c m led (.Assign [.Name y py] (.ListComp elt [⟨.Name x px, iter, [], 0⟩] scope pos) spos) Q := fun hh tk R a => by
  rw [exec_Assign_Name_used _ _ _ _ hw]
  refine wpS.bind (wpS.standAt (wpS.bind ?_))
  show wpS _ _ (PySem.comprehension _ _ _ _ _ _ _ _ >>= fun _ => Pure.pure ()) _ _ _
  refine wpS.bind (wpS.mono (comp_all (use := some (assign (.Name y py) c.env)) (Z := fun m' _ l => Q .next m' l) hclos hcell hkind hnames hx hd hs (fun D l R' h' tk' a k => ?_) h a) (fun v s' z => ?_) fun _ _ e => e)
  · obtain ⟨m', p, k⟩ := k
    exact assign_Name (store_ a p rfl fun h'' tk'' a'' => ⟨h'', tk'', m', rfl, a'', k⟩)
  · obtain ⟨h', tk', m', D, l, rfl, a', k, -⟩ := z
    exact wpS.pure (wpS.pure ⟨h', tk', .next, m', l, rfl, rfl, a', k⟩)
noncomputable def cCellO (v : Option V) : Cell := fun o => ∃ x, o.data = .cell x ∧ match v with
  | .none => x = .none
  | .some v => ∃ y, x = .some y ∧ v.Is y
theorem E1.cell {x : Str} {pos : Pos} {a : Addr} {v : V} {K : V → ALed → Prop} (hx : cs.names.lookup x = some .cell) (hc : c.cl.lookup x = some a) (hd : (x == ("__debug__" : Str)) = false) (h : Has c led a (cCellO (some v))) (k : K v led) : E1 c m led (.Name x pos) K :=
  CP.any fun hh tk R mm L F N l f nd => by
    obtain ⟨o, ⟨_, ho, y, rfl, iy⟩, g⟩ := h.get F N l
    exact wpAny_Name (wpAny_loadName_cell c.hk hx hc ⟨o, g, ho⟩ (Post.mk iy F N l f nd k)) hd
@[reducible] noncomputable def kCell1 (m : AFr) (Q : AFl → AFr → ALed → Prop) (a : Addr) : V → ALed → Prop := fun v led₁ => ∃ v₀ led₂, UpdL a (cCellO v₀) (cCellO (some v)) led₁ led₂ ∧ Q .next m led₂
theorem ST.cell {x : Str} {pos' pos : Pos} {e : Expr} {a : Addr} {Q : AFl → AFr → ALed → Prop} (hx : cs.names.lookup x = some .cell) (hc : c.cl.lookup x = some a)
    (h : E1 c m led e (kCell1 m Q a)) (hs : swapsWith e (some (.Name x pos')) pos.line c.env = Pure.pure false := by rfl) : ST c m led (.Assign [.Name x pos'] e pos) Q := fun hh tk R at_ =>
  wpS.Assign_Name (wpS.mono (h hh tk R at_) (fun v s' z => by
    obtain ⟨h', tk', xv, led', rfl, iv, ⟨⟨mm, L, F, N, l, f⟩, nd⟩, v₀, led₂, u, k⟩ := z
    obtain ⟨o, ⟨x₀, ho, _⟩, g⟩ := (Has.l (c := c) u.mem).get F N l
    refine wpAny_storeName_cell c.hk hx hc ⟨o, g, ho⟩ fun h'' hv hs => ?_
    obtain ⟨o', ho', hd'⟩ := hv
    exact ⟨h'', _, .next, m, led₂, rfl, rfl, At.change (led := led' ++ R) ⟨⟨mm, L, F, N, l, f⟩, nd⟩ u.appR hs ho' ⟨_, hd', _, rfl, iv⟩, k⟩) fun _ _ e => e) hs
noncomputable abbrev cellLed (L : Nat) (l : List (Nat × Str × Option V)) : ALed := l.map fun e => (L + e.1, cCellO e.2.2)
theorem cells_led {L : Nat} {h : Heap} : ∀ {l : List (Nat × Str × Option V)}, (∀ e ∈ l, ∃ o, h.get? (L + e.1) = some o ∧ cCellO e.2.2 o) → ∃ LL : Led, LedIs (cellLed L l) LL ∧ ∀ q ∈ LL, h.get? q.1 = some q.2
  | [], _ => ⟨[], .nil, fun _ h => (nomatch h)⟩
  | e :: r, hl => by
    obtain ⟨o, h1, h2⟩ := hl e (.head _)
    obtain ⟨LL, h3, h4⟩ := cells_led (l := r) fun e he => hl e (.tail _ he)
    refine ⟨(L + e.1, o) :: LL, .cons h2 h3, fun q hq => ?_⟩
    rcases List.mem_cons.mp hq with rfl | hq
    · exact h1
    · exact h4 q hq
theorem Con.ofC {f : Addr} {d : Nat} {args : List V} {muts fam : ALed} {Po : V → ALed → Prop} {name qual : Str} {params₀ params : Arguments} {body₀ body : List Stmt} {scope₀ scope : Scope} {dV kV doc pm cdv ct oc : Value} {an od : Option Addr} {osl : Array (Option Value)} {names : List Str} (locs : AFr) (cells : List (Nat × Str × Option V))
    (ho : List.lookup f (Top.K w.params) = some ⟨oc, od, .func (fnOf name qual params₀ body₀ scope₀ dV kV doc pm an cdv ct), osl⟩) (hcd : codeIn (Top.K w.params) cdv qual = true) (hp : params₀ = params) (hb : body₀ = body) (hs : scope₀ = scope)
    (hlen : names.length = args.length)
    (hbind : ∀ xs : List Value, xs.length = names.length → bindArgs (fnOf name qual params body scope dV kV doc pm an cdv ct) ⟨xs, []⟩ = Pure.pure (names.zip xs))
    (hkind : ∀ L, ∀ x ∈ names, scope.names.lookup x = some .local ∨ (scope.names.lookup x = some .cell ∧ ((cellsFrom (L + 1) scope.names []).lookup x).isSome = true))
    (hloc : ∀ q ∈ locs, scope.names.lookup q.1 = some .local ∧ (q.1 == ("__debug__" : Str)) = false) (hnod : (locs.map (·.1)).Nodup)
    (hce : ∀ L, ∀ e ∈ cells, (cellsFrom (L + 1) scope.names []).lookup e.2.1 = some (L + e.1)) (hof : (cells.map (·.1)).Nodup) (hof1 : ∀ e ∈ cells, 1 ≤ e.1)
    (hlv : ∀ kindOf : Str → Option NameKind, (∀ x, kindOf x = scope.names.lookup x) → ∀ xs, AreV args xs → ∀ q ∈ locs, ∃ x, bindL kindOf (names.zip xs) (fun _ => none) q.1 = some x ∧ q.2.Is x)
    (hcv : ∀ kindOf : Str → Option NameKind, (∀ x, kindOf x = scope.names.lookup x) → ∀ xs, AreV args xs → ∀ e ∈ cells, match e.2.2 with
      | .none => bindC kindOf (names.zip xs) (fun _ => none) e.2.1 = none
      | .some v => ∃ x, bindC kindOf (names.zip xs) (fun _ => none) e.2.1 = some x ∧ v.Is x)
    (hco : scope.isCoroutine = false) (hgen : scope.isGenerator = false) (hk : scope.kind = .function)
    (go : ∀ (c : Cx w d scope) (Q' : AFl → AFr → ALed → Prop) (L : Nat), Fold (RetQ Po) Q' → (∀ q ∈ fam, c.Ro q.1 q.2) → c.cl = cellsFrom (L + 1) scope.names [] → SP c locs (cellLed L cells ++ muts) body Q') : Con w f (d + 1) args muts fam Po := by
  intro xs Lm Lf is l1 l2
  have hx : xs.length = names.length := by rw [is.length, hlen]
  refine SpecS.ofC ho hcd hp hb hs (hbind xs hx) hkind hco hgen hk (Nat.succ_le_succ (Nat.zero_le _)) ?_
  intro p loose mean mg mb dp un gd cn cs a ccd cl outer base g h₁ L L' s tk kindOf hko I hlt hcl
  let c : Cx w d scope := Cx.ofInside I hk s.gens s.drawn s.os (n := qual) (f := f) (cd := cdv) (cellsFrom (L' + 1) scope.names [])
  have hfam : ∀ q ∈ fam, c.Ro q.1 q.2 := fun q hq => by
    obtain ⟨o, h1, h2⟩ := l2.mem (a := q.1) (p := q.2) hq
    exact ⟨o, h2, I.ro _ h1⟩
  obtain ⟨LL, lc, hg⟩ := cells_led (L := L') (h := h₁) (l := cells) fun e he => by
    obtain ⟨o, h1, h2⟩ := hcl _ _ (hce L' e he)
    refine ⟨o, h1, _, h2, ?_⟩
    have := hcv kindOf hko xs is e he
    cases hv : e.2.2 with
    | none => rw [hv] at this; exact this
    | some v => rw [hv] at this; obtain ⟨x, h3, h4⟩ := this; exact ⟨x, h3, h4⟩
  have hge : ∀ q ∈ LL, L' < q.1 := fun q hq => by
    have : q.1 ∈ LL.map (·.1) := List.mem_map_of_mem hq
    rw [lc.addr, List.map_map] at this
    obtain ⟨e, he, hh⟩ := List.mem_map.mp this
    have := hof1 e he
    have hh : L' + e.1 = q.1 := hh
    rw [← hh]; exact Nat.lt_of_lt_of_le (Nat.lt_succ_self _) (Nat.add_le_add_left this L')
  have hat : At c h₁ locs ((cellLed L' cells ++ muts) ++ []) := by
    rw [List.append_nil]
    refine ⟨⟨_, LL ++ Lm, I.F, fun q hq => ?_, lc.append l1, fun q hq => ?_, hloc, hnod⟩, ?_⟩
    · rcases List.mem_append.mp hq with hq | hq
      · refine ⟨hg q hq, Nat.ne_of_gt (hge q hq), ?_⟩
        cases e : g.get? q.1 with
        | none => exact e
        | some o => have h1 := Heap.lt_size e; have h2 : g.objs.size ≤ L' := I.F.above; have h3 := hge q hq; exact absurd h1 (Nat.not_lt.mpr (Nat.le_trans h2 (Nat.le_of_lt h3)))
      · exact I.N q hq
    · exact hlv kindOf hko xs is q hq
    · rw [List.map_append, List.nodup_append]
      refine ⟨?_, by have := I.nd; rwa [l1.addr] at this, fun a ha b hb e => ?_⟩
      · rw [List.map_map]
        show (cells.map fun e => L' + e.1).Nodup
        have := hof
        rw [List.Nodup, List.pairwise_map] at this ⊢
        exact this.imp fun h e => h (Nat.add_left_cancel e)
      · rw [← lc.addr] at ha
        rw [← l1.addr] at hb
        obtain ⟨q, hq, rfl⟩ := List.mem_map.mp ha
        obtain ⟨r, hr, rfl⟩ := List.mem_map.mp hb
        have h1 := hge q hq
        have h2 := hlt r hr
        exact absurd e (Nat.ne_of_gt (Nat.lt_trans h2 h1))
  refine wpS.mono (go c _ L' Fold.rfl hfam rfl h₁ tk [] hat) (fun fl s' z => by have q := After.of (c := c) ⟨rfl, rfl, rfl⟩ z; cases fl <;> exact q) fun _ _ e => e
theorem METH.lappend {K : Value → List V → ALed → Prop} {a : Addr} {vs : List V} (h : Has c led a (cList vs)) (k : K (.builtin "list.append") [.ref a] led) : METH c m led (.ref a) "append" (kKeep w K) :=
  METH.blt h (fun o ⟨xs, n, e, _⟩ => by rw [e]; exact ⟨rfl, rfl⟩) PySem.F.plainAttrs_list PySem.F.slot_list_append PySem.F.type_list_append k
end
noncomputable def closL (cells : List (Str × Addr)) : List (Str × NameKind) → List (Str × Addr) → Option (List (Str × Addr))
  | [], acc => some acc
  | (n, k) :: r, acc => if k == .free then match cells.lookup n with
      | some a => closL cells r ((n, a) :: acc)
      | none => none
    else closL cells r acc
theorem closure_of {scope : Scope} {env : Env} {cl : List (Str × Addr)} (h : closL env.cells scope.names [] = some cl) : closureFor scope env = Pure.pure cl := by
  unfold closureFor
  have key : ∀ (names : List (Str × NameKind)) (acc : List (Str × Addr)), closL env.cells names acc = some cl → (forIn names acc fun x s => match x with
      | (name, kind) => if (kind == NameKind.free) = true then do let a ← cellOf env name; Pure.pure (ForInStep.yield ((name, a) :: s)) else Pure.pure (ForInStep.yield s) : Sem _) = Pure.pure cl := by
    intro names
    induction names with
    | nil => intro acc h; rw [List.forIn_nil]; cases h; rfl
    | cons q r ih =>
      intro acc h
      obtain ⟨n, k⟩ := q
      rw [List.forIn_cons]
      unfold closL at h
      by_cases hk : (k == NameKind.free) = true
      · rw [if_pos hk] at h
        cases hc : env.cells.lookup n with
        | none => rw [hc] at h; cases h
        | some a =>
          rw [hc] at h
          have e : cellOf env n = Pure.pure a := by unfold cellOf; rw [hc]
          simp only [hk, if_true, e]
          exact ih _ h
      · rw [if_neg hk] at h
        simp only [hk]
        exact ih _ h
  exact (congrArg (· >>= fun s => (Pure.pure s : Sem _)) (key _ _ h)).trans rfl
section
theorem TakesL.appT {a b l r r' : ALed} (t : TakesL a l r) (u : TakesL b r r') : TakesL (apL a b) l r' := by
  rw [apL_eq]; exact t.then u
end
end
section
section
variable {w : World} {dd : Nat} {cs : Scope} {c : Cx w dd cs} {m m' : AFr} {led led' : ALed} {K : V → ALed → Prop}
theorem CALL.len_tup {l : Addr} {vs : List V} (h : Has c led l (cTup vs)) (k : K (.int vs.length) led) (hz : vs.length < 2 ^ 60) : CALL c m led (.builtin "len") [.ref l] K := by
  intro xs is
  cases is with | cons i is =>
  cases is; cases i
  refine CP.any fun hh tk R mm L F N ll f nd => ?_
  obtain ⟨_, ⟨ys, rfl, iy⟩, g⟩ := h.get F N ll
  exact len_tuple (tupOf g) (by rw [List.size_toArray, iy.length]; k_extra "o") (Post.mk (isIntE (by rw [List.size_toArray, iy.length])) F N ll f nd k)
theorem CALL.tup_list {l : Addr} {vs : List V} (h : Has c led l (cList vs)) (hz : vs.length ≤ 2 ^ 20) (k : ∀ D, K (.ref D) ((D, cTup vs) :: led)) : CALL c m led (.type "tuple") [.ref l] K := by
  intro xs is
  cases is with | cons i is =>
  cases is; cases i
  refine CP.any fun hh tk R mm L F N ll f nd => ?_
  obtain ⟨_, ⟨ys, n, rfl, iy⟩, g⟩ := h.get F N ll
  refine call_tuple_list (lstOf g) (fun h' hk => ?_) (by rw [List.size_toArray, iy.length, sizeLine_eq]; k_extra "o")
  have F' : Fr c.g c.L h' mm := ⟨F.ns.at' fun o e => hk _ _ e, fun b o e => hk b o (F.keep b o e), F.above⟩
  have N' : News c.g c.L h' L := fun q hq => ⟨hk _ _ (N q hq).1, (N q hq).2⟩
  exact ⟨_, tk, .ref _, (_, cTup vs) :: led, rfl, rfl, At.new F' nd ll f N' (F'.push _) (fun q hq => ⟨Heap.get?_push_of_some _ (N' q hq).1, (N' q hq).2⟩) (Heap.get?_push_size _ rfl) ⟨ys, rfl, iy⟩, k _⟩
theorem intItems_of {ns : List Int} : ∀ {xs : List Value}, AreV (ns.map V.int) xs → ∃ ar : List (Int × Tok), xs = ar.map (fun p => Value.int p.1 p.2) ∧ ar.map (·.1) = ns := by
  induction ns with
  | nil => intro xs h; cases h; exact ⟨[], rfl, rfl⟩
  | cons n r ih =>
    intro xs h
    cases h with
    | cons i h =>
      obtain ⟨t, rfl⟩ := i
      obtain ⟨ar, rfl, e⟩ := ih h
      exact ⟨(n, t) :: ar, rfl, by rw [List.map_cons, e]⟩
theorem Post.kept {α β : Type} {Is : β → α → Prop} {K : β → ALed → Prop} {R : ALed} {h h' : Heap} {tk' : Nat} {mm : Str → Option Value} {L : Led} {x : β} {v : α} (F : Fr c.g c.L h mm) (N : News c.g c.L h L) (l : LedIs (led ++ R) L) (f : FrIs cs m mm) (nd : ((led ++ R).map (·.1)).Nodup)
    (hk : ∀ b o, h.get? b = some o → h'.get? b = some o) (i : Is x v) (k : K x led) : Post Is c R m K v (c.st h' tk') :=
  Post.mk i ⟨F.ns.at' fun o e => hk _ _ e, fun b o e => hk b o (F.keep b o e), F.above⟩ (fun q hq => ⟨hk _ _ (N q hq).1, (N q hq).2⟩) l f nd k
theorem CALL.min_ints {l : Addr} {ns : List Int} (h : Has c led l (cList (ns.map .int))) (hne : 0 < ns.length) (k : ∀ x, x ∈ ns → K (.int x) led) : CALL c m led (.builtin "min") [.ref l] K := by
  intro xs is
  cases is with | cons i is =>
  cases is; cases i
  refine CP.any fun hh tk R mm L F N ll f nd => ?_
  obtain ⟨_, ⟨ys, n, rfl, iy⟩, g⟩ := h.get F N ll
  obtain ⟨ar, rfl, rfl⟩ := intItems_of iy
  have hl : hh.IsList l (intItems ar.toArray) := by have := lstOf g; simpa [intItems] using this
  refine min_intList rfl hl (by simpa using hne) fun v h' tk' hv hk => ?_
  obtain ⟨t, rfl⟩ := intItems_at hv
  refine Post.kept F N ll f nd hk (isInt _ t) (k _ ?_)
  have hm := Array.mem_of_getElem? hv
  simp only [intItems, Array.mem_map] at hm
  obtain ⟨p, hp, e⟩ := hm
  injection e with e1 e2
  rw [← e1]
  exact List.mem_map_of_mem (by simpa using hp)
theorem preSum_take (ns : List Int) : ∀ j, j ≤ ns.length → preSum (fun i => ns.getD i 0) j = (ns.take j).sum
  | 0, _ => by simp [preSum]
  | j + 1, h => by
    have h' : j < ns.length := h
    rw [preSum, preSum_take ns j (Nat.le_of_succ_le h), List.take_succ_eq_append_getElem h', List.sum_append]
    simp [List.getD_eq_getElem?_getD, h']
theorem CALL.sum_ints {l : Addr} {ns : List Int} (h : Has c led l (cList (ns.map .int))) (hfit : ∀ j, j < ns.length → InLong (ns.getD j 0) ∧ InLong ((ns.take (j + 1)).sum)) (k : K (.int ns.sum) led) : CALL c m led (.builtin "sum") [.ref l] K := by
  intro xs is
  cases is with | cons i is =>
  cases is; cases i
  refine CP.any fun hh tk R mm L F N ll f nd => ?_
  obtain ⟨_, ⟨ys, n, rfl, iy⟩, g⟩ := h.get F N ll
  obtain ⟨ar, rfl, rfl⟩ := intItems_of iy
  have hl : hh.IsList l (intItems ar.toArray) := by have := lstOf g; simpa [intItems] using this
  have hn : numAt ar.toArray = fun i => (ar.map (·.1)).getD i 0 := by
    funext i; simp [numAt, List.getD_eq_getElem?_getD]
  have hs : ar.toArray.size = (ar.map (·.1)).length := by simp
  refine sum_intList rfl hl (fun j hj => ?_) fun h' tk' t hk => Post.kept F N ll f nd hk (isIntE (i := (ar.map (·.1)).sum) ?_) k
  · rw [hn, preSum_take _ _ (by rw [← hs]; exact hj)]; exact hfit j (by rw [← hs]; exact hj)
  · rw [hn, hs, preSum_take _ _ (Nat.le_refl _), List.take_length]
theorem CALL.max2 {a b : Int} (k : K (.int (if b > a then b else a)) led) : CALL c m led (.builtin "max") [.int a, .int b] K := by
  intro xs is
  cases is with | cons i is => cases is with | cons j is =>
  cases is; obtain ⟨t, rfl⟩ := i; obtain ⟨u, rfl⟩ := j
  refine CP.any fun hh tk R mm L F N ll f nd => ?_
  refine max_two_ints rfl fun h' tk' hk => Post.kept F N ll f nd hk ?_ k
  split
  · exact ⟨_, rfl⟩
  · exact ⟨_, rfl⟩
noncomputable def cSet (w : World) (ns : List Int) : Cell := fun o => ∃ n, o.SetObjOf (intKind pr w) (fun k => decide (k ∈ ns)) n ∧ n ≤ ns.length
theorem CALL.set0 (k : ∀ D, K (.ref D) ((D, cSet w []) :: led)) : CALL c m led (.type "set") [] K := by
  intro xs is; cases is
  refine CP.any fun hh tk R mm L F N ll f nd => ?_
  refine call_set_0 fun b => ⟨_, tk, .ref _, (_, cSet w []) :: led, rfl, rfl, At.new F nd ll f N (F.push _) (fun q hq => ⟨Heap.get?_push_of_some _ (N q hq).1, (N q hq).2⟩) (Heap.get?_push_size _ rfl) ⟨0, ?_, Nat.le_refl _⟩, k _⟩
  have := setObjOf_fresh (knd := intKind pr w) b
  simpa using this
theorem CMP.inSet {KB : Bool → ALed → Prop} {a : Addr} {ns : List Int} {i : Int} (h : Has c led a (cSet w ns)) (hz : ns.length ≤ 1000) (k : KB (decide (i ∈ ns)) led) : CMP c m led .In (.int i) (.ref a) KB := by
  rintro xa xb ⟨t, rfl⟩ e; cases e
  refine CP.any fun hh tk R mm L F N ll f nd => ?_
  obtain ⟨o, ⟨n, ho, hn⟩, g⟩ := h.get F N ll
  exact wpAny_inSet_of (knd := intKind pr w) (k := i) (by simp [intKind, Value.isInt]) rfl (ho.setOf g (by have : scanBound = 4096 := rfl; k_extra "o")) (Post.mk (isBool _) F N ll f nd ⟨_, rfl, k⟩)
theorem METH.set_add {KM : Value → List V → ALed → Prop} {a : Addr} {ns : List Int} (h : Has c led a (cSet w ns)) (k : KM (.builtin "set.add") [.ref a] led) : METH c m led (.ref a) "add" (kKeep w KM) :=
  METH.blt h (fun o ⟨n, ho, _⟩ => ⟨ho.1.1, ho.1.2.1⟩) PySem.F.plainAttrs_set PySem.F.slot_set_add PySem.F.type_set_add k
theorem CALL.set_add {a : Addr} {ns : List Int} {i : Int} (hu : UpdL a (cSet w ns) (cSet w (ns ++ [i])) led led') (hz : ns.length ≤ 1000) (k : K .none led') : CALL c m led (.builtin "set.add") [.ref a, .int i] K := by
  intro xs is
  cases is with | cons i1 is => cases is with | cons i2 is =>
  cases is; cases i1; obtain ⟨t, rfl⟩ := i2
  refine CP.any fun hh tk R mm L F N ll f nd => ?_
  obtain ⟨o, ⟨n, ho, hn⟩, g⟩ := (Has.l (c := c) hu.mem).get F N ll
  refine call_set_add (knd := intKind pr w) (k := i) (by simp [intKind, Value.isInt]) rfl (ho.setOf g (by have : scanBound = 4096 := rfl; k_extra "o")) (by have : scanBound = 4096 := rfl; k_extra "o") fun h' hs hS => ?_
  obtain ⟨o', go, ho'⟩ := hS.objOf
  have e : (fun k' => decide (k' ∈ ns) || decide (k' = i)) = fun k' => decide (k' ∈ ns ++ [i]) := by funext k'; simp
  rw [e] at ho'
  refine Post.upd isNone F N ll f nd hu hs go ⟨_, ho', ?_⟩ k
  rw [List.length_append, List.length_singleton]; split <;> k_extra "o"
theorem fillA13 : (PySem.Challenge.rw_nt0568_01, Top.K) = (PySem.Challenge.rw_nt0568_01, Top.K) := by
  k_fill
  rfl
theorem boot_min' : bootBuiltins "min" = some (.builtin "min") := by decide +kernel
theorem boot_max' : bootBuiltins "max" = some (.builtin "max") := by decide +kernel
theorem boot_sum' : bootBuiltins "sum" = some (.builtin "sum") := by decide +kernel
theorem boot_set' : bootBuiltins "set" = some (.type "set") := by decide +kernel
theorem boot_tuple' : bootBuiltins "tuple" = some (.type "tuple") := by decide +kernel
theorem b_min : BName w "min" (.builtin "min") := ⟨⟨by k_is, boot_min', by decide, by decide⟩, rfl⟩
theorem b_max : BName w "max" (.builtin "max") := ⟨⟨by k_is, boot_max', by decide, by decide⟩, rfl⟩
theorem b_sum : BName w "sum" (.builtin "sum") := ⟨⟨by k_is, boot_sum', by decide, by decide⟩, rfl⟩
theorem b_set : BName w "set" (.type "set") := ⟨⟨by k_is, boot_set', by decide, by decide⟩, rfl⟩
theorem b_tuple : BName w "tuple" (.type "tuple") := ⟨⟨by k_is, boot_tuple', by decide, by decide⟩, rfl⟩
end
end
section
section
variable {w : World} {dd : Nat} {cs : Scope} {c : Cx w dd cs} {m m' : AFr} {led led' : ALed} {K : V → ALed → Prop}
theorem CALL.int_bool {b : Bool} (k : K (.int (if b then 1 else 0)) led) : CALL c m led (.type "int") [.bool b] K := by
  intro xs is
  cases is with | cons i is => cases is; cases i; exact CP.any fun h tk R mm L F N l f nd => call_int_bool (Post.mk (isInt _ _) F N l f nd k)
theorem isStrE {x y : Str} {t : Tok} (e : y = x) : (V.str x).Is (.str y t) := ⟨t, by rw [e]⟩
theorem str01 (b : Bool) : Str.ofString (toString (if b then (1 : Int) else 0)) = strB [b] := by cases b <;> decide +kernel
theorem CALL.str01 {b : Bool} {i : Int} (hi : i = if b then 1 else 0) (k : K (.str (strB [b])) led) : CALL c m led (.type "str") [.int i] K := by
  intro xs is
  cases is with | cons i1 is => cases is; obtain ⟨t, rfl⟩ := i1; subst hi; exact CP.any fun h tk R mm L F N l f nd => P.str_of_int (by cases b <;> decide) (Post.mk (isStrE (Mine.str01 b)) F N l f nd k)
theorem METH.join {KM : Value → List V → ALed → Prop} {x : Str} (k : KM (.builtin "str.join") [.str x] led) : METH c m led (.str x) "join" (kKeep w KM) := by
  rintro xa pl ⟨t, rfl⟩
  exact CP.any fun hh tk R mm L F N ll f nd => GM.join (Post.mk (Is := MIs) (x := (Value.builtin "str.join", [V.str x])) ⟨rfl, .cons (isStr _ _) .nil⟩ F N ll f nd ⟨fun h _ => keeps_prim rfl h, k⟩)
theorem carried_bits {bs : List Bool} : ∀ {xs : List Value}, AreV (bs.map fun b => V.str (strB [b])) xs → CarriedAll xs (bs.map fun b => PyData.str (strB [b])) := by
  induction bs with
  | nil => intro xs h; cases h; exact .nil
  | cons b r ih => intro xs h; cases h with | cons i h => obtain ⟨t, rfl⟩ := i; exact .cons (.str _ t) (ih h)
theorem join_bits : ∀ bs : List Bool, Txt.join (Str.ofString "") (bs.map fun b => strB [b]) = strB bs := by
  intro bs
  show Builtin.Str.glued (Str.ofString "") (bs.map fun b => strB [b]) = strB bs
  rw [StrLaws.glued_eq_join]
  have e0 : Str.ofString "" = strB [] := rfl
  cases bs with
  | nil => rfl
  | cons b r =>
    induction r generalizing b with
    | nil => rfl
    | cons a r ih =>
      show PySem.Str.join _ (strB [b] :: strB [a] :: _) = _
      rw [show PySem.Str.join (Str.ofString "") (strB [b] :: strB [a] :: r.map fun b => strB [b]) = strB [b] ++ Str.ofString "" ++ PySem.Str.join (Str.ofString "") ((a :: r).map fun b => strB [b]) from rfl, ih, e0, strB_app, strB_app]
      rfl
theorem CALL.join {l : Addr} {bs : List Bool} (h : Has c led l (cList (bs.map fun b => V.str (strB [b])))) (hz : bs.length ≤ 1000) (k : K (.str (strB bs)) led) : CALL c m led (.builtin "str.join") [.str (Str.ofString ""), .ref l] K := by
  intro xs is
  cases is with | cons i1 is => cases is with | cons i2 is =>
  cases is; obtain ⟨t, rfl⟩ := i1; cases i2
  refine CP.any fun hh tk R mm L F N ll f nd => ?_
  obtain ⟨_, ⟨ys, n, rfl, iy⟩, g⟩ := h.get F N ll
  exact KT.join_1 (lstOf g) (carried_bits iy) (fun b _ => strB_len [b]) (Nat.le_trans hz (by decide)) fun t' k' _ => Post.mk (isStrE (join_bits bs)) F N ll f nd k
theorem CALL.len_bits {l : List Bool} (k : K (.int l.length) led) (hz : l.length < 2 ^ 20) : CALL c m led (.builtin "len") [.str (strB l)] K := by
  intro xs is
  cases is with | cons i is =>
  cases is; obtain ⟨t, rfl⟩ := i
  exact CP.any fun hh tk R mm L F N ll f nd => PyProof.Rows.len_str (by rw [strB_len]; k_extra "o") (Post.mk (isIntE (by rw [strB_len])) F N ll f nd k)
theorem CALL.len_bitsE {l : List Bool} {n : Nat} (e : l.length = n) (hz : n < 2 ^ 20) (k : K (.int n) led) : CALL c m led (.builtin "len") [.str (strB l)] K := CALL.len_bits (by rw [e]; exact k) (by rw [e]; exact hz)
theorem BIN.addB {a b : List Bool} (k : K (.str (strB (a ++ b))) led) (hz : a.length + b.length ≤ 2 ^ 20) : BIN c m led .Add (.str (strB a)) (.str (strB b)) K :=
  BIN.addS (by rw [strB_app]; exact k) (by rw [strB_len, strB_len]; k_extra "o")
theorem ones_mul : ∀ n : Nat, n < 8 → Txt.mul (Str.ofString "1") n = strB (List.replicate n true) ∧ MulOk (Str.ofString "1") n := by
  unfold MulOk; decide +kernel
theorem BIN.ones {i : Int} {n : Nat} (hi : i = (n : Int)) (hn : n < 8) (k : K (.str (strB (List.replicate n true))) led) : BIN c m led .Mult (.str (Str.ofString "1")) (.int i) K := by
  subst hi
  rintro xa xb ⟨t, rfl⟩ ⟨u, rfl⟩
  obtain ⟨h1, h2⟩ := ones_mul n hn
  exact CP.any fun h tk R mm L F N l f nd => SB.mul h2 fun t' k' => Post.mk (isStrE h1) F N l f nd k
theorem CALL.int8 {l : List Bool} (h8 : l.length = 8) (k : K (.int (valN l)) led) : CALL c m led (.type "int") [.str (strB l), .int 2] K := by
  intro xs is
  cases is with | cons i1 is => cases is with | cons i2 is =>
  cases is; obtain ⟨t, rfl⟩ := i1; obtain ⟨u, rfl⟩ := i2
  exact CP.any fun hh tk R mm L F N ll f nd => call_bits8 h8 (Post.mk (isInt _ _) F N ll f nd k)
theorem CALL.bytes_ints {l : Addr} {ns : List Int} (h : Has c led l (cList (ns.map .int))) (hr : ∀ n ∈ ns, 0 ≤ n ∧ n < 256) (hz : ns.length ≤ 2 ^ 20) (k : K (.bytes (ns.map fun n => n.toNat.toUInt8)) led) : CALL c m led (.type "bytes") [.ref l] K := by
  intro xs is
  cases is with | cons i is =>
  cases is; cases i
  refine CP.any fun hh tk R mm L F N ll f nd => ?_
  obtain ⟨_, ⟨ys, n, rfl, iy⟩, g⟩ := h.get F N ll
  exact call_bytes_ints (lstOf g) iy.ints hr (by rw [iy.length, List.length_map, sizeLine_eq]; k_extra "o") rfl fun h' t k' hk => Post.kept F N ll f nd hk (isBytes _ t) k
noncomputable def cSlice (a b d : V) : Cell := fun o => ∃ x y z, o = { cls := .type "slice", data := .fields #[x, y, z] } ∧ a.Is x ∧ b.Is y ∧ d.Is z
noncomputable def EP (c : Cx w dd cs) (m : AFr) (led : ALed) (e : Option Expr) (K : V → ALed → Prop) : Prop := CP V.Is c m led (evalPart e c.env) K
theorem EP.none (k : K .none led) : EP c m led none K := CP.pure (x := V.none) rfl k
theorem EP.some {e : Expr} (h : E1 c m led e K) : EP c m led (some e) K := h
@[reducible] noncomputable def kSl3 (a b : V) (K : V → ALed → Prop) : V → ALed → Prop := fun d led₃ => ∀ D, K (.ref D) ((D, cSlice a b d) :: led₃)
@[reducible] noncomputable def kSl2 (c : Cx w dd cs) (m : AFr) (st : Option Expr) (a : V) (K : V → ALed → Prop) : V → ALed → Prop := fun b led₂ => EP c m led₂ st (kSl3 a b K)
@[reducible] noncomputable def kSl1 (c : Cx w dd cs) (m : AFr) (hi st : Option Expr) (K : V → ALed → Prop) : V → ALed → Prop := fun a led₁ => EP c m led₁ hi (kSl2 c m st a K)
theorem E1.slice {lo hi st : Option Expr} {p : Pos} (h : EP c m led lo (kSl1 c m hi st K)) : E1 c m led (.Slice lo hi st p) K := by
  show EV c m led (eval (.Slice lo hi st p) c.env) K
  rw [arm_eval_Slice]
  refine CP.bind (CP.mono h fun a led₁ h₁ xa ia => CP.bind (CP.holding (CP.mono h₁ fun b led₂ h₂ xb ib => CP.bind (CP.holding (CP.mono h₂ fun d led₃ h₃ xd id => ?_)))))
  exact CP.any fun hh tk R mm L F N l f nd => wpAny_newObj_type ⟨_, tk, .ref _, (_, cSlice a b d) :: led₃, rfl, rfl, At.new F nd l f N (F.push _) (fun q hq => ⟨Heap.get?_push_of_some _ (N q hq).1, (N q hq).2⟩) (Heap.get?_push_size _ rfl) ⟨xa, xb, xd, rfl, ia, ib, id⟩, h₃ _⟩
noncomputable def vPart : V → Option Int
  | .int i => some i
  | _ => none
noncomputable def isPart : V → Prop
  | .int _ => True
  | .none => True
  | _ => False
theorem part_of {v : V} {x : Value} (hp : isPart v) (i : v.Is x) : IsPart x (vPart v) := by
  cases v <;> first | exact hp.elim | (cases i; exact .none) | (obtain ⟨t, rfl⟩ := i; exact .int _ t)
theorem SUB.lslice {value slice : Expr} {l sl : Addr} {vs ws : List V} {lo hi st : V} (h : Has c led l (cList vs)) (hs : Has c led sl (cSlice lo hi st)) (h1 : isPart lo) (h2 : isPart hi) (h3 : isPart st) (h0 : vPart st ≠ some 0) (hz : vs.length ≤ 1000)
    (pick : ∀ xs, AreV vs xs → AreV ws (slicePick xs.toArray (vPart lo) (vPart hi) (vPart st)).toList) (k : ∀ D, K (.ref D) ((D, cList ws) :: led)) {ops : List Value} (hsub : subscripted slice false (.ref l) (.ref sl) = operate ops (getItem (.ref l) (.ref sl))) (ht : ∀ r, letTemporaryGo value (.ref l) r = Pure.pure ()) : SUB c m led value slice (.ref l) (.ref sl) K := by
  rintro xa xb e1 e2; cases e1; cases e2
  refine CP.any fun hh tk R mm L F N ll f nd => ?_
  obtain ⟨_, ⟨xs, n, rfl, is⟩, g⟩ := h.get F N ll
  obtain ⟨_, ⟨x, y, z, rfl, ix, iy, iz⟩, gs⟩ := hs.get F N ll
  refine subscriptTail_ops (lstOf g).typeIs list_getitem_lookup (wpAny_getItem_list_slice (lstOf g) ⟨_, gs, rfl, rfl⟩ (part_of h1 ix) (part_of h2 iy) (part_of h3 iz) h0 ?_ (by rw [List.size_toArray, is.length, sizeLine_eq]; k_extra "o")) hsub ht
  refine ⟨_, tk, .ref _, (_, cList ws) :: led, rfl, rfl, At.new F nd ll f N (F.push _) (fun q hq => ⟨Heap.get?_push_of_some _ (N q hq).1, (N q hq).2⟩) (Heap.get?_push_size _ rfl) ⟨_, 0, ?_, pick xs is⟩, k _⟩
  rw [Array.toArray_toList]
end
end
section
section
variable {w : World} {dd : Nat} {cs : Scope} {c : Cx w dd cs} {m m' : AFr} {led led' : ALed} {K : V → ALed → Prop}
theorem slice_bits {l : List Bool} {a b : Nat} (hab : a ≤ b) (hb : b ≤ l.length) : Txt.slice (strB l) (some (a : Int)) (some (b : Int)) = strB ((l.drop a).take (b - a)) := by
  have e := StrLaws.sliced_plain (strB l) hab (by rw [strB_len]; exact hb)
  have f : ((strB l).cps.toList.drop a).take (b - a) = ((l.drop a).take (b - a)).map ch := by
    show ((l.map ch).drop a).take (b - a) = _
    rw [List.map_take, List.map_drop]
  unfold Txt.slice
  rw [e, f]
  split
  · rename_i h
    rw [Bool.and_eq_true] at h
    have h := beq_iff_eq.mp h.2
    rw [StrLaws.strSliceIndices_plain hab (by rw [strB_len]; exact hb), List.length_map, List.length_range, strB_len] at h
    obtain rfl : a = 0 := by k_extra "o"
    obtain rfl : b = l.length := by k_extra "o"
    rw [List.drop_zero, Nat.sub_zero, List.take_length]
  · rfl
theorem SUB.sslice {value slice : Expr} {sl : Addr} {l : List Bool} {i j : Int} {a b : Nat} (hs : Has c led sl (cSlice (.int i) (.int j) .none)) (hi : i = a) (hj : j = b) (hab : a ≤ b) (hb : b ≤ l.length) (hz : l.length ≤ 2 ^ 20) (k : K (.str (strB ((l.drop a).take (b - a)))) led)
    (hsub : ∀ x t, subscripted slice false (.str x t) (.ref sl) = operate [.ref sl, .str x t] (getItem (.str x t) (.ref sl))) (ht : ∀ x t r, letTemporaryGo value (.str x t) r = Pure.pure ()) : SUB c m led value slice (.str (strB l)) (.ref sl) K := by
  subst hi hj
  rintro xa xb ⟨t, rfl⟩ e2; cases e2
  refine CP.any fun hh tk R mm L F N ll f nd => ?_
  obtain ⟨_, ⟨x, y, z, rfl, ⟨t1, rfl⟩, ⟨t2, rfl⟩, rfl⟩, gs⟩ := hs.get F N ll
  refine subscriptTail_ops (typeIs_str _ _ _) PySem.F.slot_str_getitem.lookup (wpAny_getItem_str_slice (l := some ((a : Int), t1)) (u := some ((b : Int), t2)) (st := none) ⟨_, gs, rfl, rfl⟩ rfl (post_val_or_str ⟨Nat.le_trans (Txt.slice_le (strB l) _ _) (by rw [strB_len, sizeLine_eq]; k_extra "o"), fun t' k' => ?_⟩)) (hsub _ _) (ht _ _)
  exact Post.mk (isStrE (slice_bits hab hb)) F N ll f nd k
theorem BIN.addL {a b : Addr} {vs us : List V} (h : Has c led a (cList vs)) (h2 : Has c led b (cList us)) (hz : vs.length + us.length ≤ 1000) (k : ∀ D, K (.ref D) ((D, cList (vs ++ us)) :: led)) : BIN c m led .Add (.ref a) (.ref b) K := by
  rintro xa xb e1 e2; cases e1; cases e2
  refine CP.any fun hh tk R mm L F N ll f nd => ?_
  obtain ⟨_, ⟨xs, n, rfl, is⟩, g⟩ := h.get F N ll
  obtain ⟨_, ⟨ys, n2, rfl, iy⟩, g2⟩ := h2.get F N ll
  refine add_arrays F N (lstOf g) (lstOf g2) (fun h' F' N' => ?_) (by rw [List.size_toArray, List.size_toArray, is.length, iy.length, sizeLine_eq]; k_extra "o")
  exact ⟨h', tk, .ref _, (_, cList (vs ++ us)) :: led, rfl, rfl, At.cons nd ll f F' N' (fun q hq => Heap.lt_size (N q hq).1) ⟨xs ++ ys, 0, rfl, is.append iy⟩, k _⟩
theorem CALL.list_range {r : Addr} {n : Nat} (h : Has c led r (cRange 0 n 1)) (hn : n ≤ 2 ^ 20) (k : ∀ D, K (.ref D) led) : CALL c m led (.type "list") [.ref r] K := by
  intro xs is
  cases is with | cons i is =>
  cases is; cases i
  refine CP.any fun hh tk R mm L F N ll f nd => ?_
  obtain ⟨_, ⟨t, u, v, rfl⟩, g⟩ := h.get F N ll
  exact list_rangeD rfl F N (show IsRange hh r 0 n 1 t u v from g) (smallN (by k_extra "o")) (sizeN n) (by k_extra "o") fun h' tk' ys _ _ hk _ _ _ _ => Post.kept F N ll f nd hk (isRef _) (k _)
theorem CALL.sorted {l : Addr} {ns : List Int} (h : Has c led l (cList (ns.map .int))) (hz : ns.length < 64) (k : ∀ D (ns' : List Int), ns'.Perm ns → K (.ref D) ((D, cList (ns'.map .int)) :: led)) : CALL c m led (.builtin "sorted") [.ref l] K := by
  intro xs is
  cases is with | cons i is =>
  cases is; cases i
  refine CP.any fun hh tk R mm L F N ll f nd => ?_
  obtain ⟨_, ⟨ys, n, rfl, iy⟩, g⟩ := h.get F N ll
  refine sorted_N F N (lstOf g) iy.ints (by rw [iy.length, List.length_map]; exact hz) fun h' vs' ns' e F' N' hi hp _ => ?_
  exact ⟨h', tk, .ref _, (_, cList (ns'.map .int)) :: led, rfl, rfl, At.cons nd ll f F' N' (fun q hq => Nat.lt_succ_of_lt (Heap.lt_size (N q hq).1)) ⟨vs', e, rfl, AreV.of_ints hi⟩, k _ ns' hp⟩
section
variable {KB : Bool → ALed → Prop}
theorem CMP.neBytes {a b : List UInt8} (k : KB (decide (a ≠ b)) led) : CMP c m led .NotEq (.bytes a) (.bytes b) KB := by
  rintro xa xb ⟨t, rfl⟩ ⟨u, rfl⟩
  refine CP.any fun h tk R mm L F N l f nd => ne_bytes (Post.mk (x := V.bool (decide (a ≠ b))) ?_ F N l f nd ⟨_, rfl, k⟩)
  show Value.bool _ = Value.bool _
  congr 1
  rw [bne, List.toList_toArray, List.toList_toArray]
  by_cases h : a = b <;> simp [h]
theorem CMP.neInts {a b : Addr} {ns ms : List Int} (h : Has c led a (cList (ns.map .int))) (h2 : Has c led b (cList (ms.map .int))) (hd : Nat.ble 9 dd = true) (k : KB (decide (ns ≠ ms)) led) : CMP c m led .NotEq (.ref a) (.ref b) KB := by
  rintro xa xb e1 e2; cases e1; cases e2
  refine CP.any fun hh tk R mm L F N ll f nd => ?_
  obtain ⟨_, ⟨xs, n, rfl, is⟩, g⟩ := h.get F N ll
  obtain ⟨_, ⟨ys, n2, rfl, iy⟩, g2⟩ := h2.get F N ll
  refine ne_intsK (lstOf g) is.ints (lstOf g2) iy.ints (by show c.un + 64 < cLine; have := c.h2; have := Nat.le_of_ble_eq_true hd; k_extra "o") (Post.mk (x := V.bool (decide (ns ≠ ms))) ?_ F N ll f nd ⟨_, rfl, k⟩)
  show Value.bool _ = Value.bool _
  congr 1
  by_cases h : ns = ms <;> simp [h]
theorem CMP.eqInts {a b : Addr} {ns ms : List Int} (h : Has c led a (cList (ns.map .int))) (h2 : Has c led b (cList (ms.map .int))) (hd : Nat.ble 9 dd = true) (k : KB (decide (ns = ms)) led) : CMP c m led .Eq (.ref a) (.ref b) KB := by
  rintro xa xb e1 e2; cases e1; cases e2
  refine CP.any fun hh tk R mm L F N ll f nd => ?_
  obtain ⟨_, ⟨xs, n, rfl, is⟩, g⟩ := h.get F N ll
  obtain ⟨_, ⟨ys, n2, rfl, iy⟩, g2⟩ := h2.get F N ll
  exact eq_intsK (lstOf g) is.ints (lstOf g2) iy.ints (by show c.un + 64 < cLine; have := c.h2; have := Nat.le_of_ble_eq_true hd; k_extra "o") (Post.mk (isBool _) F N ll f nd ⟨_, rfl, k⟩)
end
theorem BIN.addBytes {a b : List UInt8} (k : K (.bytes (a ++ b)) led) (hz : a.length + b.length ≤ 2 ^ 21) : BIN c m led .Add (.bytes a) (.bytes b) K := by
  rintro xa xb ⟨t, rfl⟩ ⟨u, rfl⟩
  refine CP.any fun h tk R mm L F N l f nd => KBy.add_bytes (by rw [List.size_toArray, List.size_toArray]; k_extra "o") fun t' k' => ?_
  rw [List.append_toArray]
  exact Post.mk (isBytes _ _) F N l f nd k
theorem COMP.range3 {a b s : Int} {r : Addr} {elt : Expr} {x : Str} {scope : Scope} {cl : List (Str × Addr)} {n : Nat} (J : Nat → List V → ALed → Prop) {led₀ lr : ALed} (hr : Has c led r (cRange a b s)) (hsm : Builtin.Range.small a b s = true) (hs : Builtin.Range.rangeSize a b s = (n : Int)) (hn : n ≤ 2 ^ 20) (hj : J 0 [] led₀) (tl : TakesL led₀ led lr)
    (turn : ∀ c' : Cx w dd (relabel scope c.env), SubC c c' cl → ∀ K' : Nat → List V → V → ALed → Prop, (∀ i acc y l, CompQ J i acc y l → K' i acc y l) → ∀ i acc led₁, i < n → J i acc led₁ → E1 c' [(x, .int (a + i * s))] led₁ elt (K' i acc))
    (done : ∀ acc led₁, acc.length = n → J n acc led₁ → ∀ D, K (.ref D) ((D, cList acc) :: led₁)) : kComp c m elt x scope cl K (.ref r) led :=
  fun _ _ at_ => ⟨_, at_, _, _, _, _, J, led₀, Src.range a s n, START.range hr hsm hs, hn, hj, ⟨lr, tl⟩, fun _ _ _ _ _ _ => trivial, fun c' sc i v acc led₁ hi hv h => by
    subst hv
    exact turn c' sc _ (fun _ _ _ _ h => h) i acc led₁ hi h, fun acc l h1 h2 => ⟨l, .refl, done acc l h1 h2⟩⟩
theorem size8 (n : Nat) : Builtin.Range.rangeSize 0 ((8 * n : Nat) : Int) 8 = n := by
  unfold Builtin.Range.rangeSize
  rw [if_pos (by decide)]
  split <;> k_extra "o"
theorem fits50 {i : Int} (h : -(2 ^ 50) ≤ i) (h' : i ≤ 2 ^ 50) : Builtin.Range.rangeFitsLong i = true := by
  unfold Builtin.Range.rangeFitsLong
  simp only [Bool.and_eq_true, decide_eq_true_eq]
  k_extra "o"
theorem small8 {n : Nat} (h : n ≤ 2 ^ 20) : Builtin.Range.small 0 ((8 * n : Nat) : Int) 8 = true := by
  unfold Builtin.Range.small
  rw [size8, fits50 (i := 0) (by decide) (by decide), fits50 (i := ((8 * n : Nat) : Int)) (by k_extra "o") (by k_extra "o"), fits50 (i := 8) (by decide) (by decide), fits50 (i := (n : Int)) (by k_extra "o") (by k_extra "o"), fits50 (i := ((8 * n : Nat) : Int) + (8 - 1)) (by k_extra "o") (by k_extra "o")]
  simp
theorem smallD : ∀ n : Nat, n < 100 → Builtin.Range.small ((n : Int) - 1) (-1) (-1) = true ∧ Builtin.Range.rangeSize ((n : Int) - 1) (-1) (-1) = n := by decide +kernel
theorem fillA15 : (PySem.Challenge.rw_nt0568_01, Top.K) = (PySem.Challenge.rw_nt0568_01, Top.K) := by
  k_fill
  rfl
theorem b_str : BName w "str" (.type "str") := ⟨⟨by k_is, by decide +kernel, by decide, by decide⟩, rfl⟩
theorem b_list : BName w "list" (.type "list") := ⟨⟨by k_is, by decide +kernel, by decide, by decide⟩, rfl⟩
theorem b_sorted : BName w "sorted" (.builtin "sorted") := ⟨⟨by k_is, by decide +kernel, by decide, by decide⟩, rfl⟩
end
end
section
section
variable {w : World} {dd : Nat} {cs : Scope} {c : Cx w dd cs} {m m' : AFr} {led led' : ALed} {K : V → ALed → Prop}
theorem AS.cell {x : Str} {pos : Pos} {a : Addr} {v : V} {v₀ : Option V} {led₂ : ALed} {KF : AFr → ALed → Prop} (hx : cs.names.lookup x = some .cell) (hc : c.cl.lookup x = some a) (u : UpdL a (cCellO v₀) (cCellO (some v)) led led₂) (k : KF m led₂) : AS c m led (.Name x pos) v KF := by
  rintro xv iv h tk R ⟨⟨mm, L, F, N, l, f⟩, nd⟩
  obtain ⟨o, ⟨x₀, ho, _⟩, g⟩ := (Has.l (c := c) u.mem).get F N l
  refine assign_Name (wpAny_storeName_cell c.hk hx hc ⟨o, g, ho⟩ fun h₃ hv hs => ?_)
  obtain ⟨o', ho', hd'⟩ := hv
  exact ⟨h₃, _, m, led₂, rfl, At.change (led := led ++ R) ⟨⟨mm, L, F, N, l, f⟩, nd⟩ u.appR hs ho' ⟨_, hd', _, rfl, iv⟩, k⟩
theorem kCell1.mk {a : Addr} {v : V} {v₀ : Option V} {led₂ : ALed} {Q : AFl → AFr → ALed → Prop} (u : UpdL a (cCellO v₀) (cCellO (some v)) led led₂) (k : Q .next m led₂) : kCell1 m Q a v led := ⟨v₀, led₂, u, k⟩
theorem BIN.rep1L {l : Addr} {v : V} {i : Int} {n : Nat} (h : Has c led l (cList [v])) (hi : i = (n : Int)) (hz : n ≤ 256) (k : ∀ D, K (.ref D) ((D, cList (List.replicate n v)) :: led)) : BIN c m led .Mult (.ref l) (.int i) K := by
  subst hi; exact BIN.rep1 h hz k
theorem AreV.drop {vs : List V} {xs : List Value} (h : AreV vs xs) : ∀ n : Nat, AreV (vs.drop n) (xs.drop n) := by
  induction h with
  | nil => intro n; rw [List.drop_nil, List.drop_nil]; exact .nil
  | cons i r ih => intro n; cases n with | zero => exact .cons i r | succ n => exact ih n
theorem AreV.take {vs : List V} {xs : List Value} (h : AreV vs xs) : ∀ n : Nat, AreV (vs.take n) (xs.take n) := by
  induction h with
  | nil => intro n; rw [List.take_nil, List.take_nil]; exact .nil
  | cons i r ih => intro n; cases n with | zero => exact .nil | succ n => exact .cons i (ih n)
theorem pick_tail {v : V} {vs : List V} (xs : List Value) (h : AreV (v :: vs) xs) : AreV vs (slicePick xs.toArray (some 1) none none).toList := by
  have e := slicePick_from xs.toArray 1 (by rw [List.size_toArray, h.length, List.length_cons]; k_extra "o")
  rw [show (some ((1 : Nat) : Int)) = some 1 from rfl] at e
  rw [e, List.toList_toArray, List.toList_toArray]
  exact h.drop 1
theorem pick_one {vs : List V} (hn : 1 ≤ vs.length) (xs : List Value) (h : AreV vs xs) : AreV (vs.take 1) (slicePick xs.toArray none (some 1) none).toList := by
  have e := slicePick_upto xs.toArray 1 (by rw [List.size_toArray, h.length]; exact hn)
  rw [show (some ((1 : Nat) : Int)) = some 1 from rfl] at e
  rw [e, List.toList_toArray, List.toList_toArray]
  exact h.take 1
theorem pick_rev {vs : List V} (xs : List Value) (h : AreV vs xs) : AreV vs.reverse (slicePick xs.toArray none none (some (-1))).toList := by
  rw [krv_pick, List.toList_toArray, List.toList_toArray]
  exact h.reverse
end
end
section
noncomputable def KeysO (ks : List Value) (ep : Nat) (o : Obj) : Prop := o.ExactDict ∧ ∃ es, o.data = .dict es ep ∧ es.toList.map (·.key) = ks
noncomputable def itD (d : Addr) (n ep i : Nat) (o : Obj) : Prop := o.cls = .type "dict_keyiterator" ∧ o.data = .fields #[.ref d, .int i 0, .int n 0, .int ep 0]
section
variable {prog : Program} {w : World} {A : Around} {E : Value → Shared → Prop} {s : Shared} {d I : Addr} {ks : List Value} {ep i : Nat} {od oi : Obj}
theorem KeysO.typeIs (ho : s.heap.get? d = some od) (h : KeysO ks ep od) : s.TypeIs (.ref d) "dict" := ⟨od, ho, h.1.1⟩
theorem KeysO.size {es : Array DictEntry} (he : es.toList.map (·.key) = ks) : es.size = ks.length := by rw [← he, List.length_map, Array.length_toList]
theorem dict_iter {Q : Value → Shared → Prop} (ho : s.heap.get? d = some od) (h : KeysO ks ep od) (hd : d ≠ sysModules)
    (hQ : Q (.ref s.heap.objs.size) { s with heap := s.heap.push { cls := .type "dict_keyiterator", data := .fields #[.ref d, .int 0 0, .int ks.length 0, .int ep 0] } }) : wpAny (model prog w) A (pyIter (.ref d)) Q E s := by
  obtain ⟨hx, es, hdat, he⟩ := id h
  have hT := KeysO.typeIs ho h
  have hn := KeysO.size he
  refine wpAny_pyIter_slot hT PySem.F.slot_dict_iter (wpAny_call_entry PySem.F.slot_dict_iter hT PySem.F.entry_dict_iter ?_ (PySem.F.args_dict_iter_1 _))
  unfold Builtin.«dict.__iter__» Builtin.Dict.dictSlotNone Builtin.Dict.showsAll
  refine wpAny_bind (wpAny_bind (wpAny_notOrdered_dict hT ?_))
  show wpAny _ _ (pure (Value.ref d)) _ _ s
  refine wpAny_pure ?_
  show wpAny _ _ ((if (d == sysModules) = true then _ else pure ()) >>= _) _ _ s
  rw [if_neg (by rw [beq_eq_false_iff_ne.mpr hd]; decide)]
  refine wpAny_bind (wpAny_pure (wpAny_bind (wpAny_dictEntries ho hdat (wpAny_bind (wpAny_dictEpoch ho hdat (wpAny_bind (wpAny_newObj_type (wpAny_pure ⟨_, rfl, "dict_keyiterator", _, ⟨_, Heap.get?_push_size _ rfl, rfl⟩, PySem.F.slot_dict_keyiterator_next.lookup, ?_⟩))))))))
  rw [hn]
  exact hQ
theorem dict_next {Q : Option Value → Shared → Prop} (ho : s.heap.get? d = some od) (h : KeysO ks ep od) (hI : s.heap.get? I = some oi) (hi : itD d ks.length ep i oi) (hh : A.handled = none)
    (hQ : ∀ k h', ks[i]? = some k → Heap.SameBut I s.heap h' → (∃ o', h'.get? I = some o' ∧ itD d ks.length ep (i + 1) o') → Q (some k) { s with heap := h' })
    (hE : ks[i]? = none → ∀ h', Heap.ExtBut I s.heap h' → Q none { s with heap := h' }) : wpAny (model prog w) A (pyNext (.ref I)) Q E s := by
  obtain ⟨hx, es, hdat, he⟩ := id h
  have hn := KeysO.size he
  obtain ⟨ic, idat⟩ := hi
  have hT : s.TypeIs (.ref I) "dict_keyiterator" := ⟨oi, hI, ic⟩
  unfold pyNext
  refine wpAny_bind (wpAny_attempt (wpAny_callSpecial?_slot (name := Str.ofString "__next__") hT PySem.F.slot_dict_keyiterator_next
    (wpAny_call_entry PySem.F.slot_dict_keyiterator_next hT PySem.F.entry_dict_keyiterator_next ?_ (PySem.F.args_dict_keyiterator_next_1 _))))
  refine wpAny_bind (wpAny_pure (wpAny_bind (wpAny_bind ?_)))
  refine wpAny_bind (wpAny_typeNameOfWhole_keyiter hT (wpAny_pure (wpAny_bind (wpAny_fieldsOf hI idat ?_))))
  show wpAny _ _ (if (Value.ref d == Value.none) = true then _ else _) _ _ s
  rw [if_neg (show ¬ ((Value.ref d == Value.none) = true) from Bool.false_ne_true)]
  refine wpAny_bind (wpAny_pure (wpAny_bind (wpAny_dictEntries ho hdat ?_)))
  rw [if_neg (by rw [hn]; simp)]
  refine wpAny_bind (wpAny_pure (wpAny_bind (wpAny_dictEpoch ho hdat ?_)))
  rw [if_neg (by simp)]
  refine wpAny_pure ?_
  dsimp only
  rw [if_neg (show ¬ ((i : Int) < 0) from by k_extra "o"), Int.toNat_natCast]
  cases hk : es[i]? with
  | none =>
    have hkn : ks[i]? = none := by rw [← he, List.getElem?_map, Array.getElem?_toList, hk]; rfl
    dsimp only
    refine wpAny_bind (wpAny_bind (wpAny_typeNameOfWhole_keyiter hT (wpAny_pure ?_)))
    show wpAny _ _ (setField (.ref I) 0 .none >>= _) _ _ s
    refine wpAny_bind (wpAny_setField hI idat (by simp) ?_)
    show wpAny _ _ (newExc (.type "StopIteration") [] >>= _) _ _ _
    refine wpAny_bind ?_
    delta newExc newTuple
    refine wpAny_bind (wpAny_newObj_type ?_ (by size_fits))
    refine wpAny_bind (m := firstArgMember _ _) (wpAny_of_eq (a := Value.none) rfl ?_)
    refine wpAny_newObj_type ?_ (by size_fits)
    delta raiseNew
    refine wpAny_bind (wpAny_handled ?_)
    rw [show A.in1.handled = none from hh]
    refine wpAny_bind (wpAny_pure (wpAny_throw ?_))
    refine wpAny_bind (wpAny_isInstance (T := "StopIteration") (b := true) ⟨_, Heap.get?_push_size _ rfl, rfl⟩ isSubtype_stop ?_)
    exact wpAny_pure (hE hkn _ (((Heap.SameBut.update ..).extBut.push _).push _))
  | some e =>
    have hks : ks[i]? = some e.key := by rw [← he, List.getElem?_map, Array.getElem?_toList, hk]; rfl
    dsimp only
    refine wpAny_bind (wpAny_bind (wpAny_typeNameOfWhole_keyiter hT (wpAny_pure (wpAny_bind (wpAny_isOneOf_keyiter hT ?_)))))
    show wpAny _ _ (setField (.ref I) 1 (rawInt ((i : Int) + 1)) >>= _) _ _ s
    refine wpAny_bind (wpAny_setField hI idat (by simp) ?_)
    have hI' : (s.heap.update I (Obj.mapFields (·.setIfInBounds 1 (rawInt ((i : Int) + 1))))).get? I = some (Obj.mapFields (·.setIfInBounds 1 (rawInt ((i : Int) + 1))) oi) := Heap.get?_update_self _ hI (Obj.isFreed_of_fields (Obj.data_mapFields idat _))
    have ic' : (Obj.mapFields (·.setIfInBounds 1 (rawInt ((i : Int) + 1))) oi).cls = .type "dict_keyiterator" := (Obj.cls_mapFields ..).trans ic
    refine wpAny_bind (wpAny_holding (wpAny_bind (wpAny_isOneOf_keyiter (s := { s with heap := s.heap.update I (Obj.mapFields (·.setIfInBounds 1 (rawInt ((i : Int) + 1)))) }) ⟨_, hI', ic'⟩ ?_)))
    show wpAny _ _ (pure e.key) _ _ _
    exact wpAny_pure (wpAny_pure ⟨_, rfl, wpAny_pure (hQ _ _ hks (Heap.SameBut.update ..) ⟨_, hI', ic', by rw [Obj.data_mapFields idat]; simp [rawInt]⟩)⟩)
end
section
variable {w : World} {dd : Nat} {cs : Scope} {c : Cx w dd cs} {m m' : AFr} {led led' : ALed} {K : V → ALed → Prop}
theorem At.fix {h : Heap} {R : ALed} {d : Addr} {p : Cell} (a : At c h m (led ++ R)) (hm : (d, p) ∈ led) : ∃ o, p o ∧ ∀ led', UpdL d p (fun o' => o' = o) led led' → At c h m (led' ++ R) := by
  obtain ⟨⟨mm, L, F, N, l, f⟩, nd⟩ := a
  obtain ⟨o, h1, h2⟩ := l.mem (List.mem_append_left R hm)
  refine ⟨o, h2, fun led' u => ?_⟩
  obtain ⟨pre, post, o', rfl, h3, h4, h5, h6, h7⟩ := split_of l nd u
  have e1 := (N _ h1).1
  have e2 := (N (d, o') (List.mem_append_right _ (.head _))).1
  have e3 : o' = o := Option.some.inj (e2.symm.trans e1)
  subst e3
  exact ⟨⟨mm, _, F, N, h6 _ rfl, f⟩, h7⟩
theorem Src.keys {d : Addr} {od : Obj} {ks : List Value} {ep : Nat} {vs : List V} (hv : AreV vs ks) (hO : KeysO ks ep od) : Src w (itD d ks.length ep) ks.length (fun i v => vs[i]? = some v) (fun _ _ c led => (d, fun o => o = od) ∈ led) where
  cls := fun i o h => .inr (.inr h.1)
  item := by
    intro dd cs c i I m₁ led₁ R h tk hi H a
    obtain ⟨oi, h1, h2⟩ := at_it a
    obtain ⟨⟨mm, L, F, N, ll, f⟩, nd⟩ := id a
    obtain ⟨_, h3, rfl⟩ := ll.mem (List.mem_append_left _ H)
    obtain ⟨k, hk⟩ : ∃ k, ks[i]? = some k := ⟨ks[i], List.getElem?_eq_getElem hi⟩
    have hi' : i < vs.length := by rw [← hv.length]; exact hi
    obtain ⟨x, hx, ix⟩ := hv.get i vs[i] (List.getElem?_eq_getElem hi')
    refine dict_next (s := c.st h tk) (N _ h3).1 hO h1 h2 rfl (fun k' h' hk' hs ho => ?_) fun hn => by rw [hk] at hn; cases hn
    obtain ⟨o', ho', hi2⟩ := ho
    rw [hx] at hk'
    cases hk'
    exact ⟨_, vs[i], h', tk, rfl, List.getElem?_eq_getElem hi', ix, rfl, a.change UpdL.mid hs ho' hi2⟩
  fin := by
    intro dd cs c I m₁ led₁ R h tk H a
    obtain ⟨oi, h1, h2⟩ := at_it a
    obtain ⟨⟨mm, L, F, N, ll, f⟩, nd⟩ := id a
    obtain ⟨_, h3, rfl⟩ := ll.mem (List.mem_append_left _ H)
    refine dict_next (s := c.st h tk) (N _ h3).1 hO h1 h2 rfl (fun k' h' hk' => ?_) fun hn h' hs => ⟨h', tk, rfl, rfl, a.ext hs⟩
    rw [List.getElem?_eq_none (Nat.le_refl _)] at hk'; cases hk'
  self := fun a q => by
    obtain ⟨o, ho, h1, h2⟩ := at_it a
    exact wpAny_pyIter_keyiter ⟨o, ho, h1, h2⟩ q
theorem START.keys {d : Addr} {od : Obj} {ks : List Value} {ep : Nat} (hO : KeysO ks ep od) (hd : d ≠ sysModules) (hm : (d, fun o => o = od) ∈ led) : START c m led (.ref d) (itD d ks.length ep) := by
  intro xa e hh tk R a; cases e
  obtain ⟨⟨mm, L, F, N, ll, f⟩, nd⟩ := a
  obtain ⟨_, h3, rfl⟩ := ll.mem (List.mem_append_left R hm)
  refine dict_iter (s := c.st hh tk) (N _ h3).1 hO hd ⟨_, _, rfl, rfl, ?_⟩
  exact At.perm (At.new F nd ll f N (F.push _) (fun p hp => ⟨Heap.get?_push_of_some _ (N p hp).1, (N p hp).2⟩) (Heap.get?_push_size _ rfl) ⟨rfl, rfl⟩) List.perm_middle
theorem keysT_of {xs : List (List Int × Addr × V)} {o : Obj} (h : cDictT w xs o) : ∃ ks ep, KeysO ks ep o ∧ AreV (xs.map fun x => V.ref x.2.1) ks := by
  obtain ⟨ys, D⟩ := h
  obtain ⟨es, ep, e1, e2⟩ := D.es
  refine ⟨ys.map fun y => .ref y.2.1, ep, ⟨D.ex, es, e1, by rw [e2, List.map_map]; rfl⟩, ?_⟩
  have := congrArg (List.map Prod.snd) D.ks
  rw [List.map_map, List.map_map] at this
  have e3 : ys.map (fun y => y.2.1) = xs.map (fun x => x.2.1) := this
  have e4 : ∀ l : List Addr, AreV (l.map V.ref) (l.map Value.ref) := fun l => by induction l with | nil => exact .nil | cons a r ih => exact .cons rfl ih
  have := e4 (xs.map fun x => x.2.1)
  rw [List.map_map, ← e3, List.map_map] at this
  exact this
theorem keysI_of {kvs : List (Int × V)} {o : Obj} (h : cDictI w kvs o) : ∃ ks ep, KeysO ks ep o ∧ AreV (kvs.map fun q => V.int q.1) ks := by
  obtain ⟨xs, ⟨es, ep, hx, he, hk0, hp, hn0⟩, _, h1, h20⟩ := h
  refine ⟨es.toList.map (·.key), ep, ⟨hx, es, he, rfl⟩, ?_⟩
  have e : kvs.map (fun q => V.int q.1) = (xs.map (·.1)).map V.int := by rw [h1, List.map_map]; rfl
  rw [e]
  generalize es.toList = l at hp
  clear e he h1 hn0 h20 hk0
  induction hp with
  | nil => exact .nil
  | cons hk _ _ ih =>
    refine .cons ?_ ih
    exact Value.isInt_shape hk
noncomputable def KGo (c : Cx w dd cs) (m : AFr) (led : ALed) (d : Addr) (p : Cell) (xs : List (List Int × Addr × V)) (target : Expr) (body : List Stmt) (Q : AFl → AFr → ALed → Prop) : Prop :=
  ∃ (led' : ALed) (J : Nat → AFr → ALed → Prop) (m₀ mr : AFr) (led₀ lr : ALed), UpdL d (cDictT w xs) p led led' ∧ J 0 m₀ led₀ ∧ TakesL m₀ m mr ∧ TakesL led₀ led' lr ∧ (∀ i m' l, J i m' l → (d, p) ∈ l) ∧
    (∀ Q' : Nat → AFl → AFr → ALed → Prop, (∀ i, Fold (TurnQ (J (i + 1)) Q) (Q' i)) → ∀ i q m₁ led₁, i < xs.length → xs[i]? = some q → J i m₁ led₁ → AS c m₁ led₁ target (.ref q.2.1) (kBody c body (Q' i))) ∧
    (∀ m₁ led₁, J xs.length m₁ led₁ → Q .next m₁ led₁)
theorem ITER.keysT {d : Addr} {xs : List (List Int × Addr × V)} {target : Expr} {body : List Stmt} {Q : AFl → AFr → ALed → Prop} (hd : d ≠ sysModules) (hm : (d, cDictT w xs) ∈ led)
    (go : ∀ p : Cell, (∀ o, p o → cDictT w xs o) → KGo c m led d p xs target body Q) : ITER c m led (.ref d) target body Q := by
  intro xa ia h tk R a
  obtain ⟨o, po, fx⟩ := a.fix hm
  obtain ⟨ks, ep, hO, hv⟩ := keysT_of po
  obtain ⟨led', J, m₀, mr, led₀, lr, u, hj, tm, tl, hl, turn, done⟩ := go (fun o' => o' = o) fun o' e => by subst e; exact po
  have hn : ks.length = xs.length := by rw [hv.length, List.length_map]
  refine ITER.src (Src.keys hv hO) (START.keys hO hd (tl.mem (hl 0 _ _ hj))) J hl hj tm tl (fun Q' hQ' i v m₁ led₁ hi hv' hJ => ?_) (fun m₁ led₁ hJ => done m₁ led₁ (hn ▸ hJ)) xa ia h tk R (fx _ u)
  rw [List.getElem?_map] at hv'
  obtain ⟨q, hq, rfl⟩ := Option.map_eq_some_iff.mp hv'
  exact turn Q' hQ' i q m₁ led₁ (hn ▸ hi) hq hJ
end
end
section
section
variable {w : World} {dd : Nat} {cs : Scope} {c : Cx w dd cs} {m m' : AFr} {led led' : ALed} {K : V → ALed → Prop}
theorem COMP.keysI {d : Addr} {kvs : List (Int × V)} {elt : Expr} {x : Str} {scope : Scope} {cl : List (Str × Addr)} {led₁ : Cell → ALed} (hd : d ≠ sysModules) (hu : ∀ p, UpdL d (cDictI w kvs) p led (led₁ p)) (hn : kvs.length ≤ 1000)
    (turn : ∀ c' : Cx w dd (relabel scope c.env), SubC c c' cl → ∀ l i (KE : V → ALed → Prop), KE (.int i) l → E1 c' [(x, .int i)] l elt KE)
    (done : ∀ D, K (.ref D) ((D, cList ((kvs.map (·.1)).map .int)) :: led)) : kComp c m elt x scope cl K (.ref d) led := fun h R a => by
  obtain ⟨o, po, fx⟩ := a.fix (hu (cDictI w kvs)).mem
  obtain ⟨ks, ep, hO, hv⟩ := keysI_of po
  have e : kvs.map (fun q => V.int q.1) = (kvs.map (·.1)).map V.int := by rw [List.map_map]; rfl
  rw [e] at hv
  have hl : ks.length = kvs.length := by rw [hv.length, List.length_map, List.length_map]
  have u := hu (fun o' => o' = o)
  obtain ⟨lx, ly, e1, e2⟩ := u.split
  have hmem : (d, (fun o' => o' = o : Cell)) ∈ led₁ (fun o' => o' = o) := by rw [e2]; exact List.mem_append_right _ (.head _)
  refine ⟨_, fx _ u, _, ks.length, _, _, fun i acc l => acc = ((kvs.map (·.1)).map V.int).take i ∧ l = led₁ (fun o' => o' = o), led₁ (fun o' => o' = o), Src.keys hv hO, START.keys hO hd hmem, by k_extra "o", ⟨rfl, rfl⟩, ⟨[], .all⟩, fun c' _ i acc l hj => by rw [hj.2]; exact hmem, fun c' sc i v acc l hi hv' hj => ?_, fun acc l hlen hj => ⟨led, ?_, fun D => ?_⟩⟩
  · obtain ⟨rfl, rfl⟩ := hj
    rw [List.getElem?_map] at hv'
    obtain ⟨k, hk, rfl⟩ := Option.map_eq_some_iff.mp hv'
    refine turn c' sc _ k _ ⟨_, [], ⟨?_, rfl⟩, .all⟩
    rw [List.take_succ, List.getElem?_map, hk]; rfl
  · rw [hj.2, e2, e1]
    refine ⟨by simp, fun L h => ?_⟩
    obtain ⟨L₁, L₂, rfl, h1, h2⟩ := h.split
    cases h2 with
    | cons hp h2 => exact h1.append (.cons (hp ▸ po) h2)
  · have := done D
    rw [hj.1, List.take_of_length_le (by rw [List.length_map, List.length_map, hl]; exact Nat.le_refl _)]
    exact this
inductive ArePairs : List (V × V) → List (Value × Value) → Prop
  | nil : ArePairs [] []
  | cons {a b : V} {x y : Value} {r : List (V × V)} {s : List (Value × Value)} : a.Is x → b.Is y → ArePairs r s → ArePairs ((a, b) :: r) ((x, y) :: s)
noncomputable def PAIRS (c : Cx w dd cs) (m : AFr) : List (Option Expr) → List Expr → ALed → (List (V × V) → ALed → Prop) → Prop
  | some k :: ks, v :: vs, led, KP => E1 c m led k fun a l₁ => E1 c m l₁ v fun b l₂ => PAIRS c m ks vs l₂ fun r l₃ => KP ((a, b) :: r) l₃
  | [], [], led, KP => KP [] led
  | _, _, _, _ => False
theorem PAIRS.run {pos : Pos} : ∀ {keys : List (Option Expr)} {values : List Expr} {led : ALed} {KP : List (V × V) → ALed → Prop}, PAIRS c m keys values led KP → CP ArePairs c m led (evalPairs (pairTrees keys values c.env pos)) KP
  | [], [], _, _, h => CP.pure .nil h
  | some k :: ks, v :: vs, led, KP, h => by
    show CP ArePairs c m led (do
      let kv ← eval k c.env
      let vv ← holding [kv] (do let x ← eval v c.env; standAt pos; Pure.pure x)
      return (kv, vv) :: (← holding [kv, vv] (evalPairs (pairTrees ks vs c.env pos)))) KP
    refine CP.bind (CP.mono h fun a l₁ h₁ xa ia => CP.bind (Is := V.Is) (CP.holding (CP.bind (CP.mono h₁ fun b l₂ h₂ xb ib => ?_))))
    refine CP.stand (CP.pure ib fun y iy => ?_)
    exact CP.bind (CP.holding (CP.mono h₂.run fun r l₃ h₃ xs ix => CP.pure (.cons ia iy ix) h₃))
  | [], _ :: _, _, _, h => h.elim
  | none :: _, _, _, _, h => h.elim
  | some _ :: _, [], _, _, h => h.elim
noncomputable def DSET (c : Cx w dd cs) (m : AFr) (led : ALed) (D : Addr) (a b : V) (KU : ALed → Prop) : Prop := ∀ xa xb, a.Is xa → b.Is xb → UV c m led (dictSet D xa xb) KU
noncomputable def STALL (c : Cx w dd cs) (m : AFr) (D : Addr) : List (V × V) → ALed → (ALed → Prop) → Prop
  | [], led, KU => KU led
  | (a, b) :: r, led, KU => DSET c m led D a b fun l₁ => STALL c m D r l₁ KU
theorem STALL.run {D : Addr} {KU : ALed → Prop} : ∀ {kvs : List (V × V)} {vs : List (Value × Value)} {led : ALed}, STALL c m D kvs led KU → ArePairs kvs vs → CP (fun (_ : Unit) (_ : PUnit) => True) c m led (storeAll D vs) (fun _ => KU) := by
  intro kvs
  induction kvs with
  | nil => intro vs led h a; cases a; exact CP.pure (x := ()) trivial h
  | cons q r ih =>
    intro vs led h a
    cases a with | cons ia ib a =>
    unfold storeAll
    rw [List.forIn_cons]
    refine CP.bind (Is := fun (_ : Unit) v => v = ForInStep.yield PUnit.unit) (K := fun _ => KU) ?_
    exact CP.bind (CP.mono (h _ _ ia ib) fun _ l₁ h₁ _ _ => CP.pure (x := ()) rfl fun v e => by subst e; exact ih h₁ a)
theorem E1.dictD {keys : List (Option Expr)} {values : List Expr} {pos : Pos} (p : Cell) (hp : p { cls := .type "dict", data := .dict #[] }) (hall : keys.all (·.isSome) = true) (hl : keys.length = values.length) (h0 : keys ≠ []) (hlen : keys.length ≤ 15)
    (h : ∀ D, D ≠ sysModules → PAIRS c m keys values ((D, p) :: led) fun kvs l₁ => STALL c m D kvs l₁ (K (.ref D))) : E1 c m led (.Dict keys values pos) K := by
  have hn := pairTrees_length keys values c.env pos hall hl
  have hp0 : pairTrees keys values c.env pos ≠ [] := fun he => by rw [he] at hn; exact h0 (List.length_eq_zero_iff.mp hn.symm)
  show EV c m led (eval (.Dict keys values pos) c.env) K
  rw [arm_eval_Dict, zip_pairTrees keys values c.env pos hall hl, dictDisplay_pairs _ hp0 (by rw [hn]; k_extra "o")]
  have key : CP (fun (D a : Addr) => a = D) c m led (subDict (pairTrees keys values c.env pos)) (fun D l => K (.ref D) l) := by
    unfold subDict
    refine CP.bind (Is := fun (D a : Addr) => a = D) (CP.any fun hh tk R mm L F N l f nd => wpAny_alloc ⟨_, tk, hh.objs.size, (_, p) :: led, rfl, rfl, At.new F nd l f N (F.push _) (fun q hq => ⟨Heap.get?_push_of_some _ (N q hq).1, (N q hq).2⟩) (Heap.get?_push_size _ rfl) hp, fun v e => ?_⟩)
    subst e
    have hD := h hh.objs.size (Nat.ne_of_gt (Nat.lt_trans (Nat.lt_of_lt_of_le (modules_low c.T.nolimit) F.above) F.ns.lt))
    rw [if_pos (show (pairTrees keys values c.env pos).length ≤ 15 by rw [hn]; exact hlen)]
    exact CP.bind (Is := fun (_ : Unit) (_ : PUnit) => True) (CP.holding (CP.bind (CP.mono hD.run fun kvs l₁ h₁ vs a => CP.holding (CP.bind (CP.mono (h₁.run a) fun _ l₂ h₂ _ _ => CP.pure (x := ()) trivial fun _ _ => CP.pure rfl h₂)))))
  exact CP.stand (CP.bind (CP.mono key fun D l hk v e => by subst e; exact CP.pure (x := V.ref v) rfl hk))
theorem DSET.int {D : Addr} {kvs kvs' : List (Int × V)} {i : Int} {v : V} {KU : ALed → Prop} (e : storeI kvs i v = kvs') (hu : UpdL D (cDictI w kvs) (cDictI w kvs') led led') (hz : kvs.length ≤ 1000) (k : KU led') : DSET c m led D (.int i) v KU := by
  subst e
  rintro xa xv ⟨t, rfl⟩ iv
  refine CP.any fun hh tk R mm L F N ll f nd => ?_
  obtain ⟨o, ⟨xs, ho, ho2, h1, h2⟩, g⟩ := (Has.l (c := c) hu.mem).get F N ll
  have hl : xs.length = kvs.length := by have := congrArg List.length h1; rwa [List.length_map, List.length_map] at this
  refine wpAny_dictSet_pairs (hsz := by rw [hl, sizeLine_eq]; k_extra "o") (knd := intKind pr w) (k := i) (by simp [intKind, Value.isInt]) (Heap.dictOf_iff.mpr ⟨o, g, ho⟩) fun h' hm hs => ?_
  obtain ⟨o', go, hm⟩ := Heap.dictOf_iff.mp hm
  exact Post.upd (x := ()) trivial F N ll f nd hu hs go ⟨_, hm, by obtain ⟨_, _, e, _⟩ := hm; exact e.2.1, store_keys h1, store_rel iv h1 h2⟩ k
theorem DSET.tup {D a : Addr} {xs : List (List Int × Addr × V)} {i j : Int} {v : V} {KU : ALed → Prop} (hu : UpdL D (cDictT w xs) (cDictT w (xs ++ [([i, j], a, v)])) led led') (hk : Has c led a (cTup [.int i, .int j])) (hks : KeysAt c led xs) (hat : atT xs [i, j] = none) (hd : Nat.ble 1 dd = true) (hz : xs.length ≤ 1000) (k : KU led') : DSET c m led D (.ref a) v KU := by
  rintro xa xv e2 iv; cases e2
  refine CP.any fun hh tk R mm L F N ll f nd => ?_
  obtain ⟨o, ⟨ys, DT⟩, g⟩ := (Has.l (c := c) hu.mem).get F N ll
  obtain ⟨_, ⟨ws, rfl, iw⟩, gk⟩ := hk.get F N ll
  have hr := atT_rel [i, j] DT.ks DT.vs
  rw [hat] at hr
  refine wpAny_dictSet_heap (hsz := by rw [DT.len, sizeLine_eq]; k_extra "o") (knd := TK w) (by show c.un < cLine; have := c.h2; have := Nat.le_of_ble_eq_true hd; k_extra "o") (tupKey gk iw) (DT.on g hks F N ll) fun h' h1 h2 => ?_
  rw [storedH_new hr] at h1
  obtain ⟨o', hr⟩ : ∃ o', h'.get? D = some o' := by obtain ⟨o', _, _, ho, _⟩ := h1; exact ⟨o', ho⟩
  exact Post.upd (x := ()) trivial F N ll f nd hu h2 hr (DT.more iv hr h1) k
end
section
variable {prog : Program} {w : World} {A : Around} {E : Value → Shared → Prop} {s : Shared}
theorem hits_all {kb : List (Int × Value)} : ∀ {ka : List (Int × Value)}, (∀ q ∈ ka, ∃ y, valueAt kb q.1 = some y ∧ SeqAt.EqAt A s q.2 y true) → KeqHits A s kb ka true
  | [], _ => .nil
  | (k, v) :: r, h => by
    obtain ⟨y, h1, h2⟩ := h _ (.head _)
    exact KeqHits.hit h1 h2 (hits_all fun q hq => h q (.tail _ hq))
theorem valueAt_mem {ka : List (Int × Value)} (hn : (ka.map (·.1)).Nodup) {q : Int × Value} (h : q ∈ ka) : valueAt ka q.1 = some q.2 := by
  induction ka with
  | nil => cases h
  | cons a r ih =>
    rw [List.map_cons, List.nodup_cons] at hn
    unfold valueAt at ih ⊢
    rw [List.find?_cons]
    rcases List.mem_cons.mp h with rfl | h
    · simp
    · have : ¬ a.1 = q.1 := fun e => hn.1 (by rw [e]; exact List.mem_map_of_mem h)
      simp only [this, decide_false]
      exact ih hn.2 h
theorem pairs_any {p₁ p₂ : Program} {w₁ w₂ : World} {es : List DictEntry} {xs : List (Int × Value)} (h : Pairs (intKind p₁ w₁) es xs) : Pairs (intKind p₂ w₂) es xs := by
  induction h with
  | nil => exact .nil
  | cons h1 h2 _ ih => exact .cons h1 h2 ih
theorem dictOf_any {p₁ p₂ : Program} {w₁ w₂ : World} {h : Heap} {a : Addr} {xs : List (Int × Value)} (d : h.DictOf (intKind p₁ w₁) a xs) : h.DictOf (intKind p₂ w₂) a xs := by
  obtain ⟨o, es, ep, h1, h2, h3, h4, h5, h6⟩ := d
  exact ⟨o, es, ep, h1, h2, h3, h4, pairs_any h5, h6⟩
theorem eq_dictI {u v : Addr} {ou ov : Obj} {kvs : List (Int × V)} (hi : ∀ q ∈ kvs, ∃ i, q.2 = .int i) (gu : s.heap.get? u = some ou) (gv : s.heap.get? v = some ov) (hu : cDictI w kvs ou) (hv : cDictI w kvs ov) (su : u ≠ sysModules) (sv : v ≠ sysModules) (hA : A.units < cLine) : SeqAt.EqAt A s (.ref u) (.ref v) true := by
  by_cases huv : u = v
  · subst huv; exact SeqAt.EqAt.same _
  refine SeqAt.EqAt.of_refs huv fun p w' E Q hq => ?_
  obtain ⟨ka, ha, _, a1, a2⟩ := hu
  obtain ⟨kb, hb, _, b1, b2⟩ := hv
  have da := dictOf_any (p₂ := p) (w₂ := w') (Heap.dictOf_iff.mpr ⟨ou, gu, ha⟩)
  have db := dictOf_any (p₂ := p) (w₂ := w') (Heap.dictOf_iff.mpr ⟨ov, gv, hb⟩)
  have hl : ka.length = kb.length := by have e1 := congrArg List.length a1; have e2 := congrArg List.length b1; rw [List.length_map, List.length_map] at e1 e2; k_extra "o"
  have hn : (ka.map (·.1)).Nodup := by obtain ⟨_, _, _, _, _, _, h⟩ := ha; exact h
  refine keq_eq (knd := intKind p w') (r := true) (beq_eq_false_iff_ne.mpr su) (beq_eq_false_iff_ne.mpr sv) da db hA (fun _ => hits_all fun q hq => ?_) (by rw [hl, beq_self_eq_true]; exact hq)
  have r1 := at_rel (kvs := kvs) q.1 a1 a2
  have r2 := at_rel (kvs := kvs) q.1 b1 b2
  rw [valueAt_mem hn hq] at r1
  cases e : atI kvs q.1 with
  | none => rw [e] at r1; cases r1
  | some x =>
    rw [e] at r1 r2
    obtain ⟨y, h1, h2⟩ := r1
    obtain ⟨z, h3, h4⟩ := r2
    cases h1
    unfold atI at e
    obtain ⟨q', hf, rfl⟩ := Option.map_eq_some_iff.mp e
    obtain ⟨i, hi'⟩ := hi q' (List.mem_of_find?_eq_some hf)
    rw [hi'] at h2 h4
    obtain ⟨t1, e1⟩ := h2
    obtain ⟨t2, rfl⟩ := h4
    rw [e1]
    refine ⟨_, h3, ?_⟩
    have := SeqAt.EqAt.int_int (A := A.in1) (s := s) i t1 i t2
    rwa [beq_self_eq_true] at this
theorem same_heap {K : Type} [DecidableEq K] {prog : Program} {w : World} {knd : HeapKind prog w K} {nm : String} {a b : Addr} {xs ys : List (K × Addr × Value)} {Q : Bool → Shared → Prop} (hr : knd.room A) (ha : a ≠ sysModules) (hb : b ≠ sysModules) (da : s.heap.DictOfH knd a xs) (db : s.heap.DictOfH knd b ys) (hl : xs.length = ys.length)
    (hits : ∀ x ∈ xs, ∃ y ∈ ys, x.1 = y.1 ∧ SeqAt.EqAt A s x.2.2 y.2.2 true) (h : Q true s) : wpAny (model prog w) A (Builtin.Dict.samePairs nm a b) Q E s := by
  obtain ⟨oa, es, ep, hoa, _, hda, hea, hxa, _⟩ := da
  obtain ⟨ob, es', ep', hob, _, hdb, heb, hyb, hnb⟩ := db
  have e1 : es.size = xs.length := size_of_entries hea
  have e2 : es'.size = ys.length := size_of_entries heb
  unfold Builtin.Dict.samePairs Builtin.Dict.showsAll
  rw [if_neg (by rw [beq_eq_false_iff_ne.mpr ha]; decide), if_neg (by rw [beq_eq_false_iff_ne.mpr hb]; decide)]
  refine wpAny_bind (wpAny_pure (wpAny_bind (wpAny_pure (wpAny_bind (wpAny_dictEntries hoa hda ?_)))))
  dsimp only
  refine wpAny_bind (wpAny_dictEntries hob hdb ?_)
  rw [if_neg (by rw [e1, e2, hl]; simp)]
  refine wpAny_bind (wpAny_dictEpoch hoa hda (wpAny_bind ?_))
  rw [Std.Legacy.Range.forIn_eq_forIn_range']
  unfold Std.Legacy.Range.size
  dsimp only
  rw [Nat.sub_zero, Nat.add_sub_cancel, Nat.div_one]
  refine wpAny_forIn_list _ (fun rest q s' => s' = s ∧ q = (none, ()) ∧ ∀ x ∈ rest, x < es.size) _ ?_ ?_ _ _ ⟨rfl, rfl, fun x hx => by rw [List.mem_range'_1] at hx; k_extra "o"⟩
  · rintro x rest q s' ⟨rfl, rfl, hlt⟩
    have hx := hlt x (.head _)
    refine wpAny_bind (wpAny_dictEntries hoa hda ?_)
    obtain ⟨q, hq⟩ : ∃ q, xs[x]? = some q := ⟨xs[x]'(by k_extra "o"), List.getElem?_eq_getElem _⟩
    have hee : es[x]? = some (entryOfKey knd q) := by rw [entry_at hea, hq]; rfl
    rw [hee]
    obtain ⟨k, ka, v⟩ := q
    have hm := List.mem_of_getElem? hq
    obtain ⟨⟨k', kb, y⟩, hy, hk, heq⟩ := hits _ hm
    obtain rfl : k = k' := hk
    show wpAny _ _ (holding [.ref ka, v] _ >>= _) _ _ _
    refine wpAny_bind (wpAny_holding (wpAny_bind (wpAny_dictFind_heap hr (hxa _ hm) hob hdb heb hyb hnb (fun hno => ?_) (fun j p hj => ?_))))
    · obtain ⟨j, hj⟩ := List.getElem?_of_mem hy
      exact absurd hj (hno j (kb, y))
    · have hp : p = (kb, y) := by
        obtain ⟨j', hj'⟩ := List.getElem?_of_mem hy
        have h1 : (ys.map (·.1))[j]? = some k := by rw [List.getElem?_map, hj]; rfl
        have h2 : (ys.map (·.1))[j']? = some k := by rw [List.getElem?_map, hj']; rfl
        have hjl := (List.getElem?_eq_some_iff.mp h1).1
        have := (List.getElem?_inj hjl hnb).mp (h1.trans h2.symm)
        subst this
        rw [hj'] at hj; cases hj; rfl
      subst hp
      refine wpAny_bind (wpAny_dictEntries hob hdb ?_)
      rw [entry_at heb, hj]
      refine wpAny_holding (heq prog w _ _ ?_)
      show wpAny _ _ (if (!true) = true then _ else _) _ _ _
      rw [if_neg (by decide)]
      refine wpAny_bind (wpAny_dictEpoch hoa hda ?_)
      rw [if_neg (by simp)]
      exact wpAny_pure ⟨rfl, rfl, fun x hx => hlt x (.tail _ hx)⟩
  · rintro q s' ⟨rfl, rfl, _⟩
    exact wpAny_pure h
end
section
variable {w : World} {dd : Nat} {cs : Scope} {c : Cx w dd cs} {m m' : AFr} {led led' : ALed}
theorem DictT.of_mem {xs : List (List Int × Addr × V)} {ys : List (List Int × Addr × Value)} {o : Obj} (D : DictT w xs ys o) {y : List Int × Addr × Value} (h : y ∈ ys) : ∃ x ∈ xs, x.1 = y.1 ∧ x.2.2.Is y.2.2 := by
  obtain ⟨i, hi⟩ := List.getElem?_of_mem h
  have e := congrArg (·[i]?) D.ks
  simp only [List.getElem?_map, hi, Option.map_some] at e
  obtain ⟨x, hx, ex⟩ := Option.map_eq_some_iff.mp e.symm
  obtain ⟨e1, -⟩ := Prod.mk.inj ex
  obtain ⟨z, hz, iz⟩ := D.vs.get i x.2.2 (by rw [List.getElem?_map, hx]; rfl)
  rw [List.getElem?_map, hi] at hz
  cases hz
  exact ⟨x, List.mem_of_getElem? hx, e1, iz⟩
theorem DictT.to_mem {xs : List (List Int × Addr × V)} {ys : List (List Int × Addr × Value)} {o : Obj} (D : DictT w xs ys o) {x : List Int × Addr × V} (h : x ∈ xs) : ∃ y ∈ ys, x.1 = y.1 ∧ x.2.2.Is y.2.2 := by
  obtain ⟨i, hi⟩ := List.getElem?_of_mem h
  have e := congrArg (·[i]?) D.ks
  simp only [List.getElem?_map, hi, Option.map_some] at e
  obtain ⟨y, hy, ey⟩ := Option.map_eq_some_iff.mp e
  obtain ⟨e1, -⟩ := Prod.mk.inj ey
  obtain ⟨z, hz, iz⟩ := D.vs.get i x.2.2 (by rw [List.getElem?_map, hi]; rfl)
  rw [List.getElem?_map, hy] at hz
  cases hz
  exact ⟨y, List.mem_of_getElem? hy, e1.symm, iz⟩
theorem CMP.neDictT {KB : Bool → ALed → Prop} {a b : Addr} {xs ys : List (List Int × Addr × V)} (h : Has c led a (cDictT w xs)) (h2 : Has c led b (cDictT w ys)) (hk : KeysAt c led xs) (hk2 : KeysAt c led ys) (sa : a ≠ sysModules) (sb : b ≠ sysModules) (hl : xs.length = ys.length)
    (hits : ∀ x ∈ xs, ∃ y ∈ ys, x.1 = y.1 ∧ ∃ u v kvs, x.2.2 = .ref u ∧ y.2.2 = .ref v ∧ Has c led u (cDictI w kvs) ∧ Has c led v (cDictI w kvs) ∧ u ≠ sysModules ∧ v ≠ sysModules ∧ ∀ q ∈ kvs, ∃ i, q.2 = V.int i) (hd : Nat.ble 2 dd = true) (k : KB false led) : CMP c m led .NotEq (.ref a) (.ref b) KB := by
  rintro xa xb e1 e2; cases e1; cases e2
  refine CP.any fun hh tk R mm L F N ll f nd => ?_
  obtain ⟨oa, ⟨xv, D1⟩, g1⟩ := h.get F N ll
  obtain ⟨ob, ⟨yv, D2⟩, g2⟩ := h2.get F N ll
  have m1 := D1.on g1 hk F N ll
  have m2 := D2.on g2 hk2 F N ll
  have hu : c.un + 2 < cLine := by have := c.h2; have := Nat.le_of_ble_eq_true hd; k_extra "o"
  refine wpAny_richCompare_same_room (op := .NotEq) m1.typeIs m2.typeIs PySem.F.slot_dict_ne (wpAny_call_entry PySem.F.slot_dict_ne m1.typeIs PySem.F.entry_dict_ne ?_ (PySem.F.args_dict_ne_2 _ _)) (by show c.un < cLine; k_extra "o")
  show wpAny _ _ (Builtin.Dict.dictSlotArgs "__ne__" ⟨[.ref a, .ref b], []⟩ >>= _) _ _ _
  unfold Builtin.Dict.dictSlotArgs
  refine wpAny_bind (wpAny_bind (wpAny_notOrdered_dict m1.typeIs ?_))
  show wpAny _ _ (pure (Value.ref a, Value.ref b)) _ _ _
  refine wpAny_pure (wpAny_bind (wpAny_isInstance (T := "dict") m2.typeIs PySem.F.sub_dict_dict ?_))
  rw [if_neg (show ¬ ((!true) = true) by decide)]
  refine wpAny_bind (wpAny_pure (wpAny_bind (wpAny_pure (wpAny_bind (same_heap (knd := TK w) (by show c.un + 1 < cLine; k_extra "o") sa sb m1 m2 (by rw [D1.len, D2.len, hl]) (fun y hy => ?_) ?_)))))
  · obtain ⟨x, hx, ex, ix⟩ := D1.of_mem hy
    obtain ⟨y', hy', ey, u, v, kvs, e1, e2, hu1, hv1, s1, s2, hi⟩ := hits x hx
    obtain ⟨z, hz, ez, iz⟩ := D2.to_mem hy'
    rw [e1] at ix
    rw [e2] at iz
    obtain ⟨ou, pu, gu⟩ := hu1.get F N ll
    obtain ⟨ov, pv, gv⟩ := hv1.get F N ll
    refine ⟨z, hz, ex.symm.trans (ey.trans ez), ?_⟩
    rw [show y.2.2 = .ref u from ix, show z.2.2 = .ref v from iz]
    exact eq_dictI hi gu gv pu pv s1 s2 (by show c.un + 1 < cLine; k_extra "o")
  · exact wpAny_pure ⟨_, rfl, And.intro (fun h => by cases h) (Post.mk (x := V.bool false) rfl F N ll f nd ⟨_, rfl, k⟩)⟩
end
end
section
section
variable {w : World} {dd : Nat} {cs : Scope} {c : Cx w dd cs} {m : AFr}
theorem FamOk.self {F : ALed} : FamOk c F F := fun _ h => .inl h
theorem FamOk.tl {F l : ALed} {q : Addr × Cell} (h : FamOk c l F) : FamOk c (q :: l) F := fun a ha => (h a ha).imp (fun z => .tail _ z) id
theorem FamOk.apr {F l A : ALed} (h : FamOk c l F) : FamOk c (apL A l) F := fun a ha => (h a ha).imp (fun z => mem_apr z) id
theorem CALL.pack {led rest F₀ live : ALed} {f : Value} {vs : List V} {K : V → ALed → Prop} {P : ALed → Prop} (hP : P F₀) (t : TakesL (apL live F₀) led rest) (h : ∀ F, P F → CALL c m (apL live F) f vs K) : CALL c m led f vs K :=
  fun xs is hh tk R a => h F₀ hP xs is hh tk R (a.keep t)
theorem SP.pack {led rest F₀ live : ALed} {mk mr : AFr} {body : List Stmt} {Q : AFl → AFr → ALed → Prop} {P : ALed → Prop} (hP : P F₀) (t : TakesL (apL live F₀) led rest) (tm : TakesL mk m mr) (h : ∀ F, P F → SP c mk (apL live F) body Q) : SP c m led body Q := SP.drop t tm (h F₀ hP)
theorem SP.at {led : ALed} {l l' : List Stmt} {Q : AFl → AFr → ALed → Prop} (e : l = l') (h : SP c m led l' Q) : SP c m led l Q := e ▸ h
@[reducible] noncomputable def kPc (KP : List (V × V) → ALed → Prop) (a b : V) : List (V × V) → ALed → Prop := fun r l₃ => KP ((a, b) :: r) l₃
@[reducible] noncomputable def kP2 (c : Cx w dd cs) (m : AFr) (ks : List (Option Expr)) (vs : List Expr) (KP : List (V × V) → ALed → Prop) (a : V) : V → ALed → Prop := fun b l₂ => PAIRS c m ks vs l₂ (kPc KP a b)
@[reducible] noncomputable def kP1 (c : Cx w dd cs) (m : AFr) (v : Expr) (ks : List (Option Expr)) (vs : List Expr) (KP : List (V × V) → ALed → Prop) : V → ALed → Prop := fun a l₁ => E1 c m l₁ v (kP2 c m ks vs KP a)
@[reducible] noncomputable def kSt (c : Cx w dd cs) (m : AFr) (D : Addr) (K : V → ALed → Prop) : List (V × V) → ALed → Prop := fun kvs l₁ => STALL c m D kvs l₁ (K (.ref D))
@[reducible] noncomputable def kS1 (c : Cx w dd cs) (m : AFr) (D : Addr) (r : List (V × V)) (KU : ALed → Prop) : ALed → Prop := fun l₁ => STALL c m D r l₁ KU
theorem PAIRS.cn {k v : Expr} {ks : List (Option Expr)} {vs : List Expr} {led : ALed} {KP : List (V × V) → ALed → Prop} (h : E1 c m led k (kP1 c m v ks vs KP)) : PAIRS c m (some k :: ks) (v :: vs) led KP := h
theorem PAIRS.nl {led : ALed} {KP : List (V × V) → ALed → Prop} (h : KP [] led) : PAIRS c m [] [] led KP := h
theorem STALL.cn {D : Addr} {a b : V} {r : List (V × V)} {led : ALed} {KU : ALed → Prop} (h : DSET c m led D a b (kS1 c m D r KU)) : STALL c m D ((a, b) :: r) led KU := h
theorem STALL.nl {D : Addr} {led : ALed} {KU : ALed → Prop} (h : KU led) : STALL c m D [] led KU := h
theorem E1.dictP {led : ALed} {K : V → ALed → Prop} {k : Expr} {keys : List (Option Expr)} {values : List Expr} {pos : Pos} (p : Cell) (hp : p { cls := .type "dict", data := .dict #[] }) (hall : (some k :: keys).all (·.isSome) = true) (hl : (some k :: keys).length = values.length) (hlen : (some k :: keys).length ≤ 15)
    (h : ∀ D, D ≠ sysModules → PAIRS c m (some k :: keys) values ((D, p) :: led) (kSt c m D K)) : E1 c m led (.Dict (some k :: keys) values pos) K := E1.dictD p hp hall hl (List.cons_ne_nil _ _) hlen h
theorem TakesL.apR {F l r : ALed} (t : TakesL F l r) : ∀ {A : ALed}, TakesL F (apL A l) (apL A r)
  | [] => t
  | _ :: _ => (TakesL.apR t).skip
theorem cDictT_nil : cDictT w [] { cls := .type "dict", data := .dict #[] } := ⟨[], ⟨rfl, rfl, rfl⟩, rfl, ⟨#[], 0, rfl, rfl⟩, rfl, .nil, .nil⟩
theorem cDictI_nil : cDictI w [] { cls := .type "dict", data := .dict #[] } := ⟨[], ⟨#[], 0, ⟨rfl, rfl, rfl⟩, rfl, fun e he => by simp at he, .nil, .nil⟩, rfl, rfl, .nil⟩
@[reducible] noncomputable def kAndV (c : Cx w dd cs) (m : AFr) (y : Expr) (K : V → ALed → Prop) : V → ALed → Prop := fun v led₁ => ∃ t, v = .bool t ∧ (t = true → E1 c m led₁ y K) ∧ (t = false → K (.bool false) led₁)
theorem E1.and2 {led : ALed} {K : V → ALed → Prop} {x y : Expr} {pos : Pos} (h : E1 c m led x (kAndV c m y K)) : E1 c m led (.BoolOp .And [x, y] pos) K := by
  show EV c m led (do
    let v ← eval x c.env
    standAt pos
    let t ← holding [v] (truthy v)
    match BoolOp.And, t with
    | .And, false | .Or, true => Pure.pure v
    | _, _ => eval y c.env) K
  refine CP.bind (CP.mono h fun v l₁ ⟨t, e, h1, h2⟩ xv iv => CP.stand (CP.bind (Is := Eq) (CP.holding ?_)))
  subst e
  refine truth_bool iv ?_
  intro b e
  subst e
  cases t
  · exact CP.pure iv (h2 rfl)
  · exact h1 rfl
theorem AS.drop {keep rest led : ALed} {mk mr : AFr} {target : Expr} {v : V} {KF : AFr → ALed → Prop} (t : TakesL keep led rest) (tm : TakesL mk m mr) (h : AS c mk keep target v KF) : AS c m led target v KF := fun xv i hh tk R a => h xv i hh tk R ((a.keep t).frame tm)
theorem UpdL.of {l : ALed} {a : Addr} {p : Cell} (h : (a, p) ∈ l) : ∃ l' : Cell → ALed, ∀ p', UpdL a p p' l (l' p') := by
  obtain ⟨s, t, rfl⟩ := List.append_of_mem h
  exact ⟨fun p' => s ++ (a, p') :: t, fun _ => UpdL.mid⟩
end
end
section

noncomputable abbrev exO (a0 : Value) (dx : Option Addr) : Obj := { cls := .ref 63, dict := dx, data := .fields #[a0, .none, .none, .none, .bool false, .none] }
noncomputable def cEx0 : Cell := fun o => ∃ t, o = exO (.ref t) none
noncomputable def cEx : Cell := fun o => ∃ a0 dx, o = exO a0 dx
noncomputable abbrev bm63 : List Value := [.ref 38, .type "Exception", .type "BaseException", .type "object"]
noncomputable abbrev cls63 : Obj := excClassObj (Str.ofString "CodeError") (Str.ofString "CodeError") 63 62 [.ref 38] bm63 true [] [] false none none (some (.ref 54)) none (some (.str (Str.ofString "CodeError") 241)) (some (.str (Str.ofString "CodeError") 249)) (some (.bool true)) "Exception.__new__"
theorem fillX1 : (PySem.Challenge.rw_nt0568_01, Top.K) = (PySem.Challenge.rw_nt0568_01, Top.K) := by
  k_fill
  rfl
section
variable {w : World}
theorem at63 : List.lookup 63 (Top.K w.params) = some cls63 := rfl
theorem t_init63 : findIn (Top.K w.params) (.ref 63) "__init__" = some (some (.ref 35)) := by k_is
theorem t_fn35 : isFn (Top.K w.params) (.ref 35) = true := by k_is
theorem t_set63 : findIn (Top.K w.params) (.ref 63) "__setattr__" = some (some (.builtin "object.__setattr__")) := by k_is
theorem t_taker63 : takerIn (Top.K w.params) 63 "message" = some none := by k_is
theorem t_cls63 : clsIn (Top.K w.params) 63 = some { name := Str.ofString "CodeError", bases := [.ref 38], mro := .ref 63 :: bm63, ns := 62, qualname := Str.ofString "CodeError" } := rfl
theorem t_call63 : specialIn (Top.K w.params) (.ref 63) "__call__" = some (some (.builtin "type.__call__")) := by k_is
theorem t_inst63 : instIn (Top.K w.params) (.ref 63) (.type "type") = some true := by k_is
theorem t_excInit : findCls (Top.K w.params) (.type "Exception") (.type "type") "__init__" = some (.val (.builtin "Exception.__init__")) := by k_is
theorem t_typ : typeOf (.type "Exception") = pure (.type "type") := by kernel_rfl
theorem t_stub : Manifest.isStub "Exception" = false := by decide +kernel
theorem t_pass (self : Value) : refuseLoop self "__setattr__" [Value.type "Exception", Value.type "BaseException", Value.type "object"] = pure () := by kernel_rfl
end
section
variable {M : Model} {A : Around} {E : Value → Shared → Prop} {h : Heap} {g : Array GenState} {d : Drawn} {t : Nat} {os : OsState}
theorem check_new63 {rest : List Value} {Q : Unit → Shared → Prop} (hC : h.get? 63 = some cls63) (hq : Q () ⟨h, g, d, t, os⟩) : wpAny M A (checkBuiltinCall "Exception.__new__" ⟨.ref 63 :: rest, []⟩) Q E ⟨h, g, d, t, os⟩ := by
  have hcont : (Value.ref 63 :: bm63).contains (.type "Exception") = true := by decide
  have F := PySem.F.excBase_Exception
  have hstar := F.noStar
  simp only [checkBuiltinCall, F.newKind, F.newSplit, F.newRow]
  repeat (first | refine wpAny_loadPart_at hC ?_ | (refine wpAny_isSubtype_exc hC ?_; rw [hcont]) | refine wpAny_staticBase_exc hC ?_ | refine wpAny_madeBy_exc hC ?_ | simp only [bne_self_eq_false, Bool.false_eq_true, if_false] | wp_step)
  exact hq
theorem check_init63 {e : Addr} {oe : Obj} {rest : List Value} {Q : Unit → Shared → Prop} (hC : h.get? 63 = some cls63) (he : h.get? e = some oe) (hcls : oe.cls = .ref 63) (hq : Q () ⟨h, g, d, t, os⟩) :
    wpAny M A (checkBuiltinCall "Exception.__init__" ⟨.ref e :: rest, []⟩) Q E ⟨h, g, d, t, os⟩ := by
  have hcB : (Value.ref 63 :: bm63).contains (.type "Exception") = true := by decide
  have F := PySem.F.excBase_Exception
  have hshort := F.noStar
  simp only [checkBuiltinCall, F.initKind, F.initSplit, F.initRow]
  repeat (first | (with_reducible refine wpAny_loadPart_at he ?_; rw [hcls]) | with_reducible refine wpAny_loadPart_at hC ?_ | (with_reducible refine wpAny_isSubtype_exc hC ?_; rw [hcB]) | wp_step)
  refine wpAny_onRaise ?_
  rw [show ∀ (a b : String) (n : Nat), Bind.check ⟨.positional, "*", "Exception", .self, [⟨"args", .varPos, false⟩]⟩ a b n (List.map (fun x => x.fst) ({ pos := Value.ref e :: rest } : Args).kw) = pure () from
    fun a b n => check_star_args _ _ _ _ _ _]
  exact wpAny_pure hq
end
section
variable {prog : Program} {w : World} {A : Around} {E : Value → Shared → Prop} {R : Result → Shared → Prop} {h : Heap} {g : Array GenState} {d : Drawn} {t : Nat} {os : OsState}
theorem new63 {rest : List Value} (hC : h.get? 63 = some cls63) (hrest : rest.length ≤ sizeLine)
    (hq : R (.ok (.ret (.ref (h.objs.size + 1)))) ⟨(h.push { cls := .type "tuple", data := .seq rest.toArray }).push (exO (.ref h.objs.size) none), g, d, t, os⟩) :
    codeAny (model prog w) A (.builtin "Exception.__new__" ⟨.ref 63 :: rest, []⟩) R ⟨h, g, d, t, os⟩ := by
  have F := PySem.F.excBase_Exception
  have hends := F.ends
  have hcB : (Value.ref 63 :: bm63).contains (.type "Exception") = true := by decide
  have hcA : (Value.ref 63 :: bm63).contains (.type "AttributeError") = false := by decide
  have hcN : (Value.ref 63 :: bm63).contains (.type "NameError") = false := by decide
  refine codeAny_builtinAt F.entry ?_
  unfold Builtin.«BaseException.__new__»
  refine PySem.wpAt_bind ?_
  show PySem.wpAt _ _ _ (stack >>= _) _ _ _
  refine PySem.wpAt_bind (PySem.wpAt_stack fun p below => PySem.wpAt_of_wpAny ?_)
  wp_walk
  refine PySem.wpAt_of_wpAny ?_
  rw [F.owner]
  repeat (first | with_reducible refine wpAny_madeHere_exc F.canon hC ?_ | with_reducible refine wpAny_loadPart_at hC ?_ | (with_reducible refine wpAny_isSubtype_exc hC ?_; first | rw [hcB] | rw [hcA] | rw [hcN]) | wp_step)
  show R _ _
  rw [Heap.size_push]
  exact hq
theorem init63 {e t0 : Addr} {rest : List Value} {Q : Value → Shared → Prop} (hC : h.get? 63 = some cls63) (he : h.get? e = some (exO (.ref t0) none)) (hrest : rest.length ≤ sizeLine)
    (hq : Q .none ⟨(h.push { cls := .type "tuple", data := .seq rest.toArray }).update e (Obj.mapFields (·.setIfInBounds 0 (.ref h.objs.size))), g, d, t, os⟩) :
    wpAny (model prog w) A (PySem.call (.builtin "Exception.__init__") (.ref e :: rest)) Q E ⟨h, g, d, t, os⟩ := by
  have F := PySem.F.excBase_Exception
  refine wpAny_call (codeAny_call_builtin F.init.plain F.initEntry (check_init63 hC he rfl ?_))
  unfold Builtin.«BaseException.__init__»
  dsimp only
  rw [if_neg (by simp)]
  unfold newTuple Builtin.BaseException.bexcPut
  have he₁ := Heap.get?_push_of_some { cls := .type "tuple", data := .seq rest.toArray } he
  refine wpAny_bind (wpAny_newObj_type (wpAny_bind (wpAny_bind (wpAny_field he₁ rfl rfl (wpAny_bind (wpAny_setField he₁ rfl (Nat.zero_lt_succ _) ?_))))) (by show rest.toArray.size ≤ sizeLine; rw [List.size_toArray]; exact hrest))
  exact wpAny_letGo (wpAny_pure hq)
open Builtin in
theorem codeS.make63 {rest : List Value} (X : (Top.K w.params).In h) (hrest : rest.length ≤ sizeLine)
    (hq : codeS (model prog w) (A.under (.builtin "type.__call__" ⟨.ref 63 :: rest, []⟩)) (.call (.ref 35) ⟨.ref (h.objs.size + 1) :: rest, []⟩) (fun r s' => match r with | .ok (.ret v) => v = .none ∧ R (.ok (.ret (.ref (h.objs.size + 1)))) s' | _ => False)
      ⟨(h.push { cls := .type "tuple", data := .seq rest.toArray }).push (exO (.ref h.objs.size) none), g, d, t, os⟩) :
    codeS (model prog w) A (.call (.ref 63) ⟨rest, []⟩) R ⟨h, g, d, t, os⟩ := by
  have hC : h.get? 63 = some cls63 := X _ _ at63
  refine codeS.tree (wpS.lift ?_)
  show wpAny _ _ (callAny (.ref 63) _) _ _ _
  refine nd_load hC ?_
  show wpAny _ _ (callAny.viaDunder (.ref 63) _) _ _ _
  unfold callAny.viaDunder
  refine wpAny_bind ((looks_specialIn X t_call63).at ?_)
  dsimp only
  rw [tc_bind]
  refine wpAny_bind (wpAny_pure (wpAny_bind (wpAny_pure ?_)))
  refine wpAny_pure (a := Fin.again (.call (.builtin "type.__call__") ⟨.ref 63 :: rest, []⟩)) ⟨rfl, rfl, ?_⟩
  refine codeS.callB (Code.quiet_builtin _ (by decide +kernel)) (cl_tc _) (fun q => check_slot tc_kind tc_split (looks_instIn X t_inst63) (tc_args _ _ _) q) (codeS.builtin entry_typeCall ?_)
  have hm : Looks (model prog w) h (mroOf (.ref 63)) (.ref 63 :: bm63) := (looks_clsIn X t_cls63).andThen .now
  have made : Looks (model prog w) h (Bind.madeBy (.ref 63)) (some "Exception.__new__") := fun A Q E s k q => by obtain ⟨h', g, d, t, os⟩ := s; exact wpAny_madeBy_exc (k _ _ hC) q
  obtain ⟨half, other, odd, bad, e⟩ := tc_eq 63 rest
  rw [e]
  refine wpS.look hm ?_
  rw [if_neg (by decide)]
  refine wpS.look made ?_
  dsimp only
  refine wpS.bind (wpS.pure ?_)
  refine wpS.bind (wpS.holding (wpS.lift (wpAny_call (codeAny_call_builtin_code (Code.quiet_builtin _ PySem.F.excBase_Exception.quiet) (check_new63 hC (new63 hC hrest ?_))))))
  show wpS _ _ _ _ _ _
  have k : ∀ b o, h.get? b = some o → ((h.push { cls := .type "tuple", data := .seq rest.toArray }).push (exO (.ref h.objs.size) none)).get? b = some o := fun b o e => Heap.get?_push_of_some _ (Heap.get?_push_of_some _ e)
  have hx : ((h.push { cls := .type "tuple", data := .seq rest.toArray }).push (exO (.ref h.objs.size) none)).get? (h.objs.size + 1) = some (exO (.ref h.objs.size) none) := by heap_get
  have t1 : Looks (model prog w) ((h.push { cls := .type "tuple", data := .seq rest.toArray }).push (exO (.ref h.objs.size) none)) (typeOf (.ref (h.objs.size + 1))) (.ref 63) := (Looks.ld hx).andThen .now
  have X₁ := X.keeps k
  have s1 : Looks (model prog w) ((h.push { cls := .type "tuple", data := .seq rest.toArray }).push (exO (.ref h.objs.size) none)) (isSubtype (.ref 63) (.ref 63)) true := looks_mroIn X₁ (by unfold mroIn; rw [t_cls63]; rfl)
  refine wpS.look (t1.andThen s1 : Looks _ _ (isInstance (.ref (h.objs.size + 1)) (.ref 63)) true) ?_
  rw [if_neg (by decide)]
  refine wpS.bind (wpS.holding ?_)
  unfold callSpecial? specialOf
  refine wpS.look (t1.andThen (looks_findIn X₁ t_init63)) ?_
  dsimp only
  refine wpS.holding (wpS.look (bind_fn X₁ _ (beq_iff_eq.mp t_fn35)) ?_)
  dsimp only
  refine wpS.bind (wpS.call (codeS.mono hq fun r s' z => ?_))
  rcases r with e | (v | _ | _ | _) <;> first | exact z.elim | skip
  obtain ⟨rfl, z⟩ := z
  refine wpS.pure ?_
  dsimp only
  rw [if_neg (by decide)]
  exact wpS.pure z
end
end
section
theorem fillX2 : (PySem.Challenge.rw_nt0568_01, Top.K) = (PySem.Challenge.rw_nt0568_01, Top.K) := by
  k_fill
  rfl
section
variable {w : World} {dd : Nat} {cs : Scope} {c : Cx w dd cs} {m m' : AFr} {led led' : ALed}
theorem Post.change {R : ALed} {h h' : Heap} {mm : Str → Option Value} {L : Led} {e : Addr} {p p' : Cell} {o' : Obj} {tk : Nat} {K : Unit → ALed → Prop} (F : Fr c.g c.L h mm) (N : News c.g c.L h L) (l : LedIs (led ++ R) L) (f : FrIs cs m mm) (nd : ((led ++ R).map (·.1)).Nodup) (u : UpdL e p p' led led') (hp : p' o')
    (hk : ∀ b o, b ≠ e → h.get? b = some o → h'.get? b = some o) (he : h'.get? e = some o') (k : K () led') : Post (fun _ _ => True) c R m K () (c.st h' tk) := by
  obtain ⟨pre, post, o, rfl, ho, p1, p2, p3, p4⟩ := split_of l nd u
  have hN := N (e, o) (List.mem_append_right _ (.head _))
  have F' : Fr c.g c.L h' mm := ⟨by obtain ⟨oL, es, ep, hL, r⟩ := F.ns; exact ⟨oL, es, ep, hk _ _ (fun q => hN.2.1 q.symm) hL, r⟩, fun b o q => hk _ _ (fun z => by subst z; rw [hN.2.2] at q; cases q) (F.keep _ _ q), F.above⟩
  refine Post.mk (x := ()) trivial F' (fun q hq => ?_) (p3 o' hp) f p4 k
  rcases List.mem_append.mp hq with hq | hq
  · exact ⟨hk _ _ (p1 q hq) (N q (List.mem_append_left _ hq)).1, (N q (List.mem_append_left _ hq)).2⟩
  · rcases List.mem_cons.mp hq with rfl | hq
    · exact ⟨he, hN.2⟩
    · exact ⟨hk _ _ (p2 q hq) (N q (List.mem_append_right _ (.tail _ hq))).1, (N q (List.mem_append_right _ (.tail _ hq))).2⟩
end
section
variable {w : World} {prog : Program} {A : Around} {R : Result → Shared → Prop} {h : Heap} {g : Array GenState} {d : Drawn} {t : Nat} {os : OsState}
theorem osa63 {e : Addr} {a0 v : Value} {tk : Tok} (X : (Top.K w.params).In h) (he : h.get? e = some (exO a0 none))
    (hq : ∀ h' t', (∀ b o, b ≠ e → h.get? b = some o → h'.get? b = some o) → h'.get? e = some (exO a0 (some h.objs.size)) → R (.ok (.ret .none)) ⟨h', g, d, t', os⟩) :
    codeAny (model prog w) A (.call (.builtin "object.__setattr__") ⟨[.ref e, .str "message" tk, v], []⟩) R ⟨h, g, d, t, os⟩ := by
  have SF := PySem.F.store_object
  have ty : Looks (model prog w) h (typeOf (.ref e)) (.ref 63) := (Looks.ld he).andThen .now
  have sub : Looks (model prog w) h (isInstance (.ref e) (.type "object")) true := ty.andThen (looks_mroIn X (by unfold mroIn; rw [t_cls63]; rfl))
  refine codeAny_call_builtin SF.slot.plain SF.entry (@check_slot (model prog w) _ _ _ "object.__setattr__" "object" "__setattr__" (.ref e) [.str "message" tk, v] [] _ SF.kind SF.split sub (SF.args (.ref e) (.str "message" tk) v) ?_)
  have hm : Looks (model prog w) h (mroOf (.ref 63)) (.ref 63 :: bm63) := (looks_clsIn X t_cls63).andThen .now
  obtain ⟨attr, ha, hr⟩ := Option.bind_eq_some_iff.mp (t_taker63 (w := w))
  have L3 : Looks (model prog w) h (Builtin.ObjectAttr.storeTaker? attr) none := by
    cases attr with
    | none => cases hr; exact .now
    | some a =>
      obtain ⟨b, hb, hz⟩ := Option.map_eq_some_iff.mp hr
      refine (looks_takesIn X hb).andThen ?_
      cases b
      · exact .now
      · cases hz
  rw [osa_eq, refuse_eq]
  refine wpAny_bind (wpAny_bind (ty.here (wpAny_bind (hm.here ?_))))
  rw [refuseLoop_ref, refuseLoop_ref, t_pass]
  refine wpAny_pure (wpAny_bind (ty.here (wpAny_bind ((looks_findIn X ha).here (wpAny_bind (L3.here ?_))))))
  dsimp only
  refine wpAny_bind (wpAny_pure (wpAny_bind (wpAny_bind (wpAny_loadPart he (wpAny_bind ((looks_clsIn X t_cls63).here ?_))))))
  have he₁ : (h.push emptyDict).get? e = some (exO a0 none) := Heap.get?_push_of_some _ he
  have hlt := Heap.lt_size he
  have he₂ := Heap.get?_update_self (fun o => { o with dict := some h.objs.size }) he₁ rfl
  have D : ((h.push emptyDict).update e (fun o => { o with dict := some h.objs.size })).get? h.objs.size = some emptyDict := (Heap.get?_update_other _ _ (Nat.ne_of_lt hlt)).trans (Heap.get?_push_size h rfl)
  refine wpAny_bind (wpAny_alloc (wpAny_bind (wpAny_update he₁ ?_)))
  refine wpAny_pure (a := some h.objs.size) (wpAny_bind (wpAny_pure (wpAny_bind ?_)))
  unfold nsSet
  refine wpAny_bind (wpAny_bind (wpAny_askSetting (wpAny_pure (wpAny_bind (wpAny_mkText (wpAny_bind (wpAny_loadPart D ?_)))))))
  dsimp only
  have cc : (!(#[] : Array DictEntry).any (fun x => x.key.isStr "message") && (#[] : Array DictEntry).any (fun x => x.refKey)) = false := by simp
  rw [aRefKeyMayBeTheName_at, cc]
  refine wpAny_updatePart D ?_
  have ee : Obj.putName "message" (PyData.keyHash w.params "message") (.str "message" t) v emptyDict = _ := putName_dict "message" (PyData.keyHash w.params "message") (.str "message" t) v [] 0
  have D' := Heap.get?_update_self (Obj.putName "message" (PyData.keyHash w.params "message") (.str "message" t) v) D (by rw [ee]; rfl)
  refine wpAny_bind (wpAny_lookBehind D' (by rw [ee]; exact pastItsLine_dict (by rw [List.size_toArray, sizeLine_eq]; exact Nat.le_trans putL_len (by decide))) ?_)
  exact wpAny_pure (hq _ _ (fun b o hb q => by
    rw [Heap.get?_update_other _ _ (Nat.ne_of_gt (Heap.lt_size q)), Heap.get?_update_other _ _ (Ne.symm hb)]
    exact Heap.get?_push_of_some _ q) ((Heap.get?_update_other _ _ (Nat.ne_of_gt hlt)).trans he₂))
end
section
variable {w : World} {dd : Nat} {cs : Scope} {c : Cx w dd cs} {m m' : AFr} {led led' : ALed}
theorem t_noExc : nsIn (Top.K w.params) mainGlobals (Str.ofString "Exception") = some Option.none := by k_is
theorem t_bootExc : bootBuiltins (Str.ofString "Exception") = some (.type "Exception") := by decide +kernel
theorem SETA.exc {K : ALed → Prop} {e : Addr} {v : V} {p : Cell} (hp : ∀ o, p o → ∃ a0, o = exO a0 none) (u : UpdL e p cEx led led') (k : K led') : SETA c m led (.ref e) "message" v K := by
  intro xa xv ex iv; cases ex
  refine CP.any fun h tk R mm L F N ll f nd => ?_
  have hE : ∃ a0, h.get? e = some (exO a0 none) := by
    obtain ⟨pre, post, o, rfl, ho, _⟩ := split_of ll nd u
    obtain ⟨a0, rfl⟩ := hp o ho
    exact ⟨a0, (N (e, _) (List.mem_append_right _ (.head _))).1⟩
  obtain ⟨a0, hE⟩ := hE
  have X := c.X.keeps F.keep
  refine set_plain (ox := exO a0 none) (od := none) X ⟨hE, rfl, rfl, trivial⟩ t_set63 (osa63 X hE fun h' t' hk he => ?_)
  exact Post.change (o' := exO a0 (some h.objs.size)) F N ll f nd u ⟨_, _, rfl⟩ hk he k
theorem CALL.excInit {K : V → ALed → Prop} {e : Addr} {v : V} (u : UpdL e cEx0 (fun o => ∃ a0, o = exO a0 Option.none) led led') (k : K .none led') : CALL c m led (.builtin "Exception.__init__") [.ref e, v] K := by
  intro xs is
  cases is with
  | cons i0 is =>
  cases i0
  cases is with
  | cons i1 is =>
  cases is
  rename_i xv
  refine CP.any fun h tk R mm L F N ll f nd => ?_
  have X := c.X.keeps F.keep
  have hE : ∃ t, h.get? e = some (exO (.ref t) Option.none) := by
    obtain ⟨pre, post, o, rfl, ⟨t, rfl⟩, _⟩ := split_of ll nd u
    exact ⟨t, (N (e, _) (List.mem_append_right _ (.head _))).1⟩
  obtain ⟨t, hE⟩ := hE
  have he₁ : (h.push { cls := .type "tuple", data := .seq [xv].toArray }).get? e = some (exO (.ref t) Option.none) := Heap.get?_push_of_some _ hE
  refine init63 (X _ _ at63) hE (by rw [sizeLine_eq]; exact (by decide : 1 ≤ 16777216)) ?_
  have P := Post.change (tk := tk) (K := fun _ l => K .none l) (h' := (h.push { cls := .type "tuple", data := .seq [xv].toArray }).update e (Obj.mapFields (·.setIfInBounds 0 (.ref h.objs.size)))) (o' := exO (.ref h.objs.size) Option.none) F N ll f nd u ⟨_, rfl⟩ (fun b o hb q => by
    rw [Heap.get?_update_other _ _ (Ne.symm hb)]
    exact Heap.get?_push_of_some _ q) (Heap.get?_update_self _ he₁ rfl) k
  obtain ⟨h', tk', b, l', e1, _, a', k'⟩ := P
  exact ⟨h', tk', .none, l', e1, rfl, a', k'⟩
theorem E1.excInit {K : V → ALed → Prop} {e : Addr} {n1 n2 : Str} {v : V} {p1 p2 p3 p4 p5 : Pos} (h1 : (n1, .ref e) ∈ m) (h2 : (n2, v) ∈ m) (u : UpdL e cEx0 (fun o => ∃ a0, o = exO a0 Option.none) led led') (hx : cs.names.lookup (Str.ofString "Exception") = some .globalImplicit) (k : K .none led')
    {pl : Sem Bool} (he : eval (.Call (.Attribute (.Name (Str.ofString "Exception") p1) (Str.ofString "__init__") p2) [.Name n1 p3, .Name n2 p4] [] p5) c.env = (do
      let ov ← eval (.Name (Str.ofString "Exception") p1) c.env
      standAt p2.atName
      let (f, first) ← holding [ov] (getMethod ov (Str.ofString "__init__") pl)
      PySem.callWith p5 f first (backTo p5 (starEach [.Name n1 p3, .Name n2 p4] c.env)) []) := by rfl) :
    E1 c m led (.Call (.Attribute (.Name (Str.ofString "Exception") p1) (Str.ofString "__init__") p2) [.Name n1 p3, .Name n2 p4] [] p5) K := by
  have hg : nsIn (Top.K w.params) mainGlobals (Str.ofString "Exception") = some Option.none ∧ bootBuiltins (Str.ofString "Exception") = some (.type "Exception") ∧ Str.ofString "Exception" ≠ "__name__" ∧ (Str.ofString "Exception" == ("__debug__" : Str)) = false := ⟨t_noExc, t_bootExc, by decide, by decide⟩
  refine CP.eq he (CP.bind (Is := fun (_ : Unit) x => x = Value.type "Exception") (K := K) (CP.any fun hh tk R mm L F N l fr nd => Name_function_global c.hk hx (loadGlobal_builtin (env := c.env) ((topRead_of c.T).g.keeps F.keep) (mg_none_of c.X (topRead_of c.T).g hg.1) ((topRead_of c.T).b.keeps F.keep) (((topRead_of c.T).builtins _ hg.2.2.1).trans hg.2.1) (Post.mk (x := ()) rfl F N l fr nd ?_)) hg.2.2.2))
  intro x ex
  subst ex
  refine CP.stand (CP.bind (Is := fun (_ : Unit) x => x = (Value.builtin "Exception.__init__", [])) (K := K) (CP.holding (CP.any fun hh tk R mm L F N l fr nd => method_type F c.X t_typ t_stub t_excInit rfl (Post.mk (x := ()) rfl F N l fr nd ?_))))
  intro x ex
  subst ex
  exact CP.callWith .nil rfl (fun h _ => keeps_prim rfl h) (ARG.cn (E1.name h1 (ARG.cn (E1.name h2 (ARG.nl (CALL.excInit u k))))))
end
end
section
theorem fillX3 : (PySem.Challenge.rw_nt0568_01, Top.K) = (PySem.Challenge.rw_nt0568_01, Top.K) := by
  k_fill
  rfl
section
variable {prog : Program} {w : World} {A : Around} {s : Shared}
theorem codeS.funcE {body : List Stmt} {env : Env} {R : Result → Shared → Prop} (h : wpS (model prog w) (A.deeper env) (execs body env) (fun _ _ => False) (fun x s' => wpS (model prog w) (A.deeper env) (leaving env x) (fun _ s'' => R (.error x) s'') NoE s') s) :
    codeS (model prog w) A (.func body env) R s := by
  refine codeS.tree ?_
  show wpS _ (A.deeper env) (do point; match ← (execs body env).onRaise (leaving env) with | .ret v => ret v | _ => ret .none) _ _ s
  refine wpS.bindA (wpAny_point (wpS.bind (wpS.onRaise (wpS.mono h (fun f s' h' => h'.elim) fun x s' h' => wpS.mono h' (fun _ _ z => z) fun _ _ e => e.elim))))
theorem codeS.call_defE {R : Result → Shared → Prop} {a : Addr} {o : Obj} {fd : FuncData} {body : List Stmt} {args : Args} {binds : List (Str × Value)}
    (hroom : A.depth < recursionLimit) (ho : s.heap.get? a = some o) (hdata : o.data = .func fd) (hlim : s.heap.NoLimit) (hcd : s.heap.CodeRec fd.code fd.qualname)
    (hbody : fd.body = .stmts body) (hbind : BindsTo s fd args binds)
    (hcell : ∀ x ∈ fd.scope.names, x.2 ≠ .cell) (hloc : ∀ x ∈ binds, fd.scope.names.lookup x.1 = some .local)
    (h : ∀ h₀, h₀.Ns s.heap.objs.size (fun x => binds.reverse.lookup x) → (∀ b o, s.heap.get? b = some o → h₀.get? b = some o) →
      codeS (model prog w) A (.func body (callEnv fd s.heap.objs.size a)) R { s with heap := h₀, toks := s.toks + binds.length })
    (hco : fd.scope.isCoroutine = false := by rfl) (hgen : fd.scope.isGenerator = false := by rfl) (hk : fd.scope.kind = .function := by rfl) :
    codeS (model prog w) A (.call (.ref a) args) R s := by
  refine codeS.tree (wpS.lift ?_)
  show wpAny _ A.in1 (callAny (.ref a) args) _ _ s
  refine wpAny_bind (m := load a) (wpAny_load ho ?_)
  obtain ⟨c, oc, vs, tq, hc, hoc, hdc, hq⟩ := hcd
  rw [hdata]
  show wpAny _ _ (callFunction a fd _) _ _ _
  delta callFunction
  rw [hco, hgen, hbody, hc]
  refine wpAny_bind (m := field (.ref c) 1) (wpAny_field hoc hdc hq (wpAny_bind (wpAny_pure ?_)))
  refine wpAny_bind (hbind _ _ _ _ (wpAny_bind ?_))
  rw [← hc]
  refine wpAny_newFunctionEnv hcell hloc (fun h₀ hns₀ hsb₀ => wpAny_bind (wpAny_enterFrame (hlim.fresh _ hsb₀) hroom (wpAny_pure ?_))) hk
  exact ⟨rfl, rfl, h h₀ hns₀ fun b o e => hsb₀.extBut b o (Nat.ne_of_lt (Heap.lt_size e)) (Heap.get?_push_of_some _ e)⟩
end
section
variable {w : World} {dd : Nat} {cs : Scope} {c : Cx w dd cs} {m m' : AFr} {led led' : ALed}
noncomputable def Thrown (c : Cx w dd cs) (R : ALed) (x : Value) (s' : Shared) : Prop := ∃ h' tk' e m', x = .ref e ∧ s' = c.st h' tk' ∧ At c h' m' ((e, cEx) :: R)
noncomputable def SX (c : Cx w dd cs) (m : AFr) (led : ALed) (body : List Stmt) : Prop :=
  ∀ h tk R, At c h m (led ++ R) → wpS (model pr w) c.A (execs body c.env) (fun _ _ => False) (Thrown c (led ++ R)) (c.st h tk)
theorem SX.if_ {test : Expr} {body orelse rest : List Stmt} {pos : Pos} (h : T1 c m led test (fun b led₁ => b = true ∧ TakesL led led₁ [] ∧ SX c m led₁ body)) : SX c m led (.If test body orelse pos :: rest) := fun hh tk R a => by
  refine wpS.dirty ?_
  rw [exec_If]
  refine wpS.bind (wpS.standAt (wpS.bind (wpS.mono (h hh tk R a) (fun b s' z => ?_) fun _ _ e => e.elim)))
  obtain ⟨h', tk', x, led', rfl, rfl, a', rfl, t, k⟩ := z
  refine wpS.mono (k h' tk' R a') (fun _ _ z => z.elim) fun x s' z => ?_
  obtain ⟨h₂, tk₂, e, m₂, rfl, rfl, a₂⟩ := z
  exact ⟨h₂, tk₂, e, m₂, rfl, rfl, a₂.perm (by have := (t.app R).cons (e, cEx); rwa [List.nil_append] at this)⟩
theorem SX.raise {x : Str} {np cpos pos : Pos} {args : List Expr} {rest : List Stmt} (h : E1 c m led (.Call (.Name x np) args [] cpos) (fun v led₁ => ∃ e, v = .ref e ∧ led₁ = (e, cEx) :: led)) : SX c m led (.Raise (some (.Call (.Name x np) args [] cpos)) none pos :: rest) := fun hh tk R a => by
  refine wpS.dirty ?_
  rw [arm_exec_Raise]
  refine wpS.bind (wpS.standAt ?_)
  show wpS _ _ (raiseStmt c.env (some (eval (.Call (.Name x np) args [] cpos) c.env >>= fun v => standAt pos >>= fun _ => Pure.pure v)) none) _ _ _
  unfold raiseStmt
  refine wpS.bind (wpS.bind (wpS.mono (h hh tk R a) (fun v s' z => wpS.bind (wpS.standAt (wpS.pure ?_))) fun _ _ e => e.elim))
  obtain ⟨h', tk', x, led', rfl, i, a', e, rfl, rfl⟩ := z
  cases i
  have a'' := a'
  obtain ⟨⟨mm, L, F, N, l, f⟩, nd⟩ := a'
  obtain ⟨o, ho, a0, dx, rfl⟩ := l.mem (List.mem_append_left R (.head _))
  have he := (N _ ho).1
  have hC := (c.X.keeps F.keep) _ _ at63
  have hcB : (Value.ref 63 :: bm63).contains (.type "BaseException") = true := by decide
  refine wpS.lift ?_
  repeat (first | with_reducible refine wpAny_loadPart_at he ?_ | with_reducible refine wpAny_loadPart_at hC ?_ | (with_reducible refine wpAny_isSubtype_exc hC ?_; rw [hcB]) | wp_step)
  exact wpAny_raiseNew_none rfl ⟨h', tk', e, m, rfl, rfl, a''⟩
end
end
section
section
variable {w : World} {dd : Nat} {cs : Scope} {c : Cx w dd cs} {m m' : AFr} {led led' : ALed}
theorem CALL.exc {d : Nat} {v0 : V} {K : V → ALed → Prop} (H : ∀ x, Con w 35 d [.ref x, v0] [(x, cEx0)] [] (IsR .none [(x, cEx)])) (hd : Nat.ble (d + 1) dd = true) (ret : ∀ e, K (.ref e) ((e, cEx) :: led)) : CALL c m led (.ref 63) [v0] K := by
  intro xs is h tk R a
  have hlen := is.length
  obtain ⟨⟨mm, L, F, N, l, f⟩, nd⟩ := a
  have X := c.X.keeps F.keep
  refine wpS.call (codeS.make63 X (by rw [hlen, sizeLine_eq]; exact (by decide : 1 ≤ 16777216)) ?_)
  have N' := N.push F { cls := .type "tuple", data := .seq xs.toArray }
  have N₂ : News c.g c.L ((h.push { cls := .type "tuple", data := .seq xs.toArray }).push (exO (.ref h.objs.size) Option.none)) ((h.objs.size + 1, exO (.ref h.objs.size) Option.none) :: L) := by
    have N₁ : News c.g c.L (h.push { cls := .type "tuple", data := .seq xs.toArray }) L := fun q hq => N' q (.tail _ hq)
    have := N₁.push (F.push _) (exO (.ref h.objs.size) Option.none)
    rwa [Heap.size_push] at this
  have lt : ∀ a ∈ (led ++ R).map (·.1), a < h.objs.size := fun a ha => by
    rw [← l.addr] at ha
    obtain ⟨p, hp, rfl⟩ := List.mem_map.mp ha
    exact Heap.lt_size (N p hp).1
  let c' : Cx w d cs := { p := c.p, loose := c.loose, mean := c.mean, mg := c.mg, mb := c.mb, dp := c.dp + 1, un := c.un + 1, gd := c.gd, cn := c.cn, a := c.a, ccd := c.ccd, outer := c.outer, A₀ := c.A₀, base := c.base, g := c.g, L := c.L, cl := c.cl, fn := c.fn, fg := c.fg, fL := c.fL, fcs := c.fcs, fcl := c.fcl, gens := c.gens, drawn := c.drawn, os := c.os, B := c.B, Xf := c.Xf, Tf := c.Tf, sub := c.sub, hk := c.hk, hkf := c.hkf, hF := c.hF, hN := c.hN, h1 := (by have := c.h1; have := Nat.le_of_ble_eq_true hd; k_extra "o"), h2 := (by have := c.h2; have := Nat.le_of_ble_eq_true hd; k_extra "o") }
  have F₁ := (F.push { cls := .type "tuple", data := .seq xs.toArray }).push (exO (.ref h.objs.size) Option.none)
  have nd' : (([(h.objs.size + 1, exO (.ref h.objs.size) Option.none)] ++ L).map (·.1)).Nodup := by
    rw [List.map_append, l.addr]
    exact List.nodup_cons.mpr ⟨fun hm => absurd (lt _ hm) (Nat.not_lt.mpr (Nat.le_succ _)), nd⟩
  obtain ⟨fm, S⟩ := At.site (c := c') (tk := tk) (d := d) (Lm := [(h.objs.size + 1, exO (.ref h.objs.size) Option.none)]) (Lf := []) F₁ N₂ nd' (fun _ h => nomatch h) (Nat.le_refl _)
  refine codeS.mono (H (h.objs.size + 1) _ [(h.objs.size + 1, exO (.ref h.objs.size) Option.none)] [] (.cons rfl is) (.cons ⟨_, rfl⟩ .nil) .nil _ _ _ _ _ _ _ c'.gd c'.cn c'.fcs c'.a c'.ccd c'.fcl _ _ _ _ _ _ _ S) fun r s' z => ?_
  rcases r with e | (x | _ | _ | _) <;> first | exact z.elim | skip
  obtain ⟨h', tk', l', rfl, hk, hl, hn, v, muts', ⟨rfl, rfl⟩, iv, ll⟩ := z
  cases iv
  obtain ⟨F', N'', nd''⟩ := At.back (c := c) F₁ N₂ nd' hk hl hn
  refine ⟨rfl, h', tk', .ref _, _, rfl, rfl, ⟨⟨mm, l' ++ L, F', N'', (ll.append l : LedIs ([(h.objs.size + 1, cEx)] ++ (led ++ R)) (l' ++ L)), f⟩, ?_⟩, ret _⟩
  rw [(ll.append l).addr] at nd''
  exact nd''
noncomputable def FlyS (l : List Env) (g : Heap) (e : Addr) (kL : Led → Prop) (s s' : Shared) : Prop :=
  ∃ h' tk' B a0 lm, s' = { s with heap := h', toks := tk' } ∧ Heap.FlyingW B l e (.ref 63) a0 h' ∧ (∀ b o, g.get? b = some o → b ∉ l.filterMap (·.frame) → B.get? b = some o) ∧ (∀ q ∈ lm, B.get? q.1 = some q.2 ∧ g.get? q.1 = none) ∧ (lm.map (·.1)).Nodup ∧ kL lm ∧ g.UpToSlots h'
noncomputable def SpecE (w : World) (f : Addr) (args : List Value) (dd : Nat) (muts : Led) (kL : Led → Prop) : Prop :=
  ∀ (p : Program) (loose : List Str) (mean : ExcName → Option Value) (mg mb : Str → Option Value) (dp un : Nat) (gd : Option (List Code)) (cn : Str) (cs : Scope) (a : Addr) (ccd : Value) (cl : List (Str × Addr)) (outer : List Env)
    (A₀ : Around) (base h₀ : Heap) (L : Addr) (m : Str → Option Value) (s : Shared),
    Site w dd muts [] p loose mean mg mb dp un cs outer A₀ base h₀ L m s →
    codeS (model pr w) (ktrTop dp un gd cn cs L a ccd cl outer) (.call (.ref f) ⟨args, []⟩) (fun r s' => ∃ e, r = .error (.ref e) ∧ FlyS (envX cn cs L a ccd cl :: outer) (less s.heap muts) e kL s s') s
noncomputable def RCon (w : World) (f : Addr) (d : Nat) (args : List V) (muts : ALed) : Prop := ∀ xs Lm, AreV args xs → LedIs muts Lm → SpecE w f xs d Lm (LedIs muts)
theorem RCon.of {f : Addr} {d : Nat} {args : List V} {muts : ALed} {name qual : Str} {params₀ params : Arguments} {body₀ body : List Stmt} {scope₀ scope : Scope} {dV kV doc pm cdv ct oc : Value} {an od : Option Addr} {osl : Array (Option Value)} {names : List Str}
    (ho : List.lookup f (Top.K w.params) = some ⟨oc, od, .func (fnOf name qual params₀ body₀ scope₀ dV kV doc pm an cdv ct), osl⟩) (hcd : codeIn (Top.K w.params) cdv qual = true) (hp : params₀ = params) (hb : body₀ = body) (hs : scope₀ = scope)
    (hnm : params.args.map (·.arg) = names) (hlen : names.length = args.length)
    (hbind : ∀ xs : List Value, xs.length = names.length → bindArgs (fnOf name qual params body scope dV kV doc pm an cdv ct) ⟨xs, []⟩ = Pure.pure (names.zip xs)) (hloc : ∀ y ∈ names, scope.names.lookup y = some .local ∧ (y == ("__debug__" : Str)) = false) (hnod : names.Nodup)
    (hcell : ∀ x ∈ scope.names, x.2 ≠ .cell) (hco : scope.isCoroutine = false) (hgen : scope.isGenerator = false) (hk : scope.kind = .function)
    (go : ∀ (c : Cx w d scope), SX c (names.zip args) muts body) : RCon w f (d + 1) args muts := by
  subst hp hb hs
  intro xs Lm is l1
  have hx : xs.length = names.length := by rw [is.length, hlen]
  intro p loose mean mg mb dp un gd cn cs a ccd cl outer A₀ base h₀ L m s S
  have X := S.X; have F := S.F; have T := S.T; have hd1 := S.h1
  refine codeS.call_defE (fd := fnOf name qual params₀ body₀ scope₀ dV kV doc pm an cdv ct) (body := body₀) (binds := names.zip xs) (by show dp < _; k_extra "o") ((X.keeps F.keep) _ _ ho) rfl (T.nolimit.keeps F.keep) (codeRec_of (X.keeps F.keep) hcd) rfl (BindsTo.of_eq (hbind xs hx)) hcell (fun y hy => (hloc _ (List.of_mem_zip hy).1).1) (fun h₁ hns hk₁ => codeS.funcE ?_) hco hgen hk
  have I : Inside w (d + 1) Lm [] p loose mean mg mb dp un gd cn cs a ccd cl outer base (less s.heap Lm) h₁ L s.heap.objs.size _ := inside_of S hns hk₁ (Nat.le_refl _)
  let c : Cx w d scope₀ := Cx.ofInside I hk s.gens s.drawn s.os (n := qual) (f := f) (cd := cdv) []
  have hat : At c h₁ (names.zip args) (muts ++ []) := by
    rw [List.append_nil]
    refine ⟨⟨_, Lm, I.F, I.N, l1, fun q hq => ?_, fun q hq => hloc _ (List.of_mem_zip hq).1, names_nodup hnod⟩, ?_⟩
    · obtain ⟨x, h1, h2⟩ := zip_are is hq
      exact ⟨x, lookup_zip hnod h1, h2⟩
    · have := I.nd
      rwa [l1.addr] at this
  refine wpS.mono (go c h₁ (s.toks + (names.zip xs).length) [] hat) (fun _ _ z => z) fun x s' z => ?_
  obtain ⟨h', tk', e, m', rfl, rfl, ⟨mm, Le, F', N', l', f'⟩, nd'⟩ := z
  rw [List.append_nil] at l' nd'
  cases l' with
  | cons ho l' =>
  rename_i oe lm
  obtain ⟨a0, dx, rfl⟩ := ho
  have he := N' _ (.head _)
  have K' := Below.push (name := qual) (a := f) (cd := cdv) I.B F' hk
  generalize hfs : (envX qual scope₀ s.heap.objs.size f cdv [] :: envX cn cs L a ccd cl :: outer).filterMap (·.frame) = fs
  have hmem : ∀ b, b ∈ fs → b = s.heap.objs.size ∨ b ∈ (envX cn cs L a ccd cl :: outer).filterMap (·.frame) := fun b hb => by
    rw [← hfs, List.filterMap_cons] at hb
    exact List.mem_cons.mp hb
  have hin : ∀ env ∈ (envX qual scope₀ s.heap.objs.size f cdv [] :: envX cn cs L a ccd cl :: outer), ∀ b, env.frame = some b → b ∈ e :: fs := fun env he b hb => .tail _ (hfs ▸ List.mem_filterMap.mpr ⟨env, he, hb⟩)
  have hen : (hideAll h' (e :: fs)).get? e = none := hideAll_none _ (.head _)
  refine wpS.lift (wpAny_leaving_firstW (a0 := a0) K'.stack (funFrames_hide K'.frames hin) rfl he.1 (fun b o hb => of_hideAll _ hb) hen rfl rfl rfl fun h₂ hL => ?_)
  obtain ⟨k1, ⟨_, _, k2⟩, k3, k4⟩ := hL
  refine ⟨e, rfl, h₂, tk', _, a0, lm, rfl, ⟨k1, hen, k2, k3⟩, fun b o q nm => hideAll_get _ (F'.keep b o q) fun hm => ?_, fun q hq => ⟨hideAll_get _ (N' q (.tail _ hq)).1 fun hm => ?_, (N' q (.tail _ hq)).2.2⟩, ?_, l', (Heap.UpToSlots.of_keeps F'.keep).trans k4⟩
  · rcases List.mem_cons.mp hm with rfl | hm
    · exact nomatch (he.2.2.symm.trans q : Option.none = some o)
    · rcases hmem b hm with rfl | hm
      · exact nomatch ((kts_self F').symm.trans q : Option.none = some o)
      · exact nm hm
  · rcases List.mem_cons.mp hm with e1 | hm
    · rw [List.map_cons, List.nodup_cons] at nd'
      exact nd'.1 (by rw [← l'.addr, ← e1]; exact List.mem_map_of_mem hq)
    · rcases hmem q.1 hm with e1 | hm
      · exact (N' q (.tail _ hq)).2.1 e1
      · obtain ⟨o, h1, _⟩ := (I.B.frames.mem hm).2
        exact nomatch ((N' q (.tail _ hq)).2.2.symm.trans h1 : Option.none = some o)
  · rw [List.map_cons, List.nodup_cons, ← l'.addr] at nd'
    exact nd'.2
end
end
section
theorem fillX5 : (PySem.Challenge.rw_nt0568_01, Top.K) = (PySem.Challenge.rw_nt0568_01, Top.K) := by
  k_fill
  rfl
theorem t_CodeError {w : World} : nsIn (Top.K w.params) mainGlobals (Str.ofString "CodeError") = some (some (.ref 63)) := by k_is
section
variable {M : Model} {A : Around} {E : Value → Shared → Prop} {s : Shared}
theorem wpS.try_ {env : Env} {body orelse : List Stmt} {h₀ : ExceptHandler} {hs : List ExceptHandler} {pos : Pos} {Q : Flow → Shared → Prop} (h : wpS M A (execs body env) (fun _ _ => False)
      (fun e s₁ => wpAny M A (noteFrame e env) (fun _ s₂ => wpAny M A (setFlight e none) (fun _ s₃ => wpAny M A (handleBy e env (h₀ :: hs)) Q E s₃) E s₂) E s₁) s) :
    wpS M A (exec (.Try body (h₀ :: hs) orelse [] pos) env) Q E s := by
  rw [arm_exec_Try]
  refine wpS.bind (wpS.standAt ?_)
  refine wpS.bind (m := (execs body env).attempt) (wpS.attempt (wpS.mono h (fun f s₁ h₁ => h₁.elim) fun e s₁ h₁ => ?_))
  exact wpS.lift (wpAny_bind (wpAny_mono h₁ (fun _ _ h₂ => wpAny_bind h₂) fun _ _ x => x))
end
section
variable {w : World} {A : Around} {B : Heap} {l : List Env} {env : Env} {outer : List Env} {L e : Addr} {a0 : Value} {s : Shared} {p : Program} {loose : List Str} {mean : ExcName → Option Value} {mg mb : Str → Option Value} {G : Heap} {Q : Flow → Shared → Prop}
theorem caught63 (hfr : A.frames = some (env :: outer)) (hf : env.frame = some L) (hfl : Heap.FlyingW B (env :: outer) e (.ref 63) a0 s.heap) (X : (Top.K w.params).In G) (T : Top p loose mean mg mb G) (hG : G.StaysIn B)
    (hk : env.scope.kind = .function) (hgl : env.globals = mainGlobals) (hbl : env.builtins = builtinsNs) (hx : env.kindOf (Str.ofString "CodeError") = some .globalImplicit) {np p1 p2 p3 : Pos} {kk : Nat}
    (hQ : ∀ h', B.StaysIn h' → s.heap.UpToSlots h' → Q (.ret (.bool true)) { s with heap := h' }) :
    wpAny (model pr w) A (noteFrame (.ref e) env) (fun _ s₂ => wpAny (model pr w) A (setFlight (.ref e) none) (fun _ s₃ => wpAny (model pr w) A (handleBy (.ref e) env [.ExceptHandler (some (.Name (Str.ofString "CodeError") np)) none [.Return (some (.Constant (.bool true) kk p1)) p2] p3]) Q NoE s₃) NoE s₂) NoE s := by
  refine wpAny_looks_onW hfr hf hfl fun h₄ hheld₄ hsm₄ => ?_
  refine wpAny_landsW hheld₄ fun h₅ hheld hsm₅ => ?_
  obtain ⟨ob, hob, hobc⟩ := hheld.there
  have k5 : ∀ b o, G.get? b = some o → h₅.get? b = some o := fun b o q => hheld.1 b o (hG b o q)
  have hC := k5 _ _ (X _ _ at63)
  refine wpAny_handleBy_cons (codeAny_handlers_test (Name_function_global hk hx (loadGlobal_global (by rw [hgl]; exact (topRead_of T).g.keeps k5) (mg_of X (topRead_of T).g t_CodeError) ?_) (by decide))) (by intro q; cases q)
  refine wpAny_excMatches_sub_self hC hob hobc (by decide) (codeAny_handlers_suite ?_)
  refine lands_againW hheld fun h₆ hfl₆ hsm₆ => ?_
  refine wpAny_execs_cons (wpAny_Return_some (wpAny_Constant_bool ?_))
  exact hQ h₆ hfl₆.1 (hsm₄.trans (hsm₅.trans hsm₆))
end
end
section
section
variable {w : World} {dd : Nat} {cs : Scope} {c : Cx w dd cs} {m m' : AFr} {led led' : ALed}
theorem At.backL {h h' : Heap} {mm : Str → Option Value} {Lm Lr l : Led} (F : Fr c.g c.L h mm) (N : News c.g c.L h (Lm ++ Lr)) (nd : ((Lm ++ Lr).map (·.1)).Nodup) (hns : h'.Ns c.L mm)
    (hk : ∀ b o, b ≠ c.L → (less h Lm).get? b = some o → h'.get? b = some o) (hl : ∀ q ∈ l, h'.get? q.1 = some q.2 ∧ (less h Lm).get? q.1 = none) (hn : (l.map (·.1)).Nodup) : Fr c.g c.L h' mm ∧ News c.g c.L h' (l ++ Lr) ∧ ((l ++ Lr).map (·.1)).Nodup := by
  have Nm : News c.g c.L h Lm := fun q hq => N q (List.mem_append_left _ hq)
  obtain ⟨oL, es, ep, hL, hLd, hLk, hLf⟩ := F.ns
  have hLg := hideAll_get (Lm.map (·.1)) hL (not_L Nm)
  have hg : ∀ b o, c.g.get? b = some o → (less h Lm).get? b = some o := fun b o e => hideAll_get _ (F.keep b o e) (not_g Nm e)
  have hr : ∀ q ∈ Lr, (less h Lm).get? q.1 = some q.2 := fun q hq => hideAll_get _ (N q (List.mem_append_right _ hq)).1 (not_in nd hq)
  refine ⟨⟨hns, fun b o e => hk b o (fun z => by subst z; rw [kts_self F] at e; cases e) (hg b o e), F.above⟩, fun q hq => ?_, ?_⟩
  · rcases List.mem_append.mp hq with hq | hq
    · refine ⟨(hl q hq).1, fun e => ?_, ?_⟩
      · have := (hl q hq).2; rw [e, hLg] at this; cases this
      · cases e : c.g.get? q.1 with
        | none => rfl
        | some o => have := (hl q hq).2; rw [hg _ _ e] at this; cases this
    · have z := N q (List.mem_append_right _ hq)
      exact ⟨hk _ _ z.2.1 (hr q hq), z.2⟩
  · rw [List.map_append, List.nodup_append]
    rw [List.map_append, List.nodup_append] at nd
    refine ⟨hn, nd.2.1, fun a ha b hb e => ?_⟩
    obtain ⟨q, hq, rfl⟩ := List.mem_map.mp ha
    obtain ⟨r, hr', rfl⟩ := List.mem_map.mp hb
    have := (hl q hq).2
    rw [e, hr r hr'] at this; cases this
theorem CALL.refused {d : Nat} {s dx f₀ f₁ : Addr} {muts rest : ALed} {l : List (Str × V)} {K : V → ALed → Prop} {name qual : Str} {params₀ params : Arguments} {body₀ tail : List Stmt} {scope₀ scope : Scope} {dV kV doc pm cdv ct oc : Value} {an od : Option Addr} {osl : Array (Option Value)} {p1 p2 p3 p4 p5 p6 p7 p8 np : Pos} {kk : Nat}
    (ho : List.lookup f₁ (Top.K w.params) = some ⟨oc, od, .func (fnOf name qual params₀ body₀ scope₀ dV kV doc pm an cdv ct), osl⟩) (hcd : codeIn (Top.K w.params) cdv qual = true) (hp : params₀ = params)
    (hb : body₀ = .Try [.Expr (.Call (.Attribute (.Name (Str.ofString "reader") p1) (Str.ofString "finish") p2) [] [] p3) p4] [.ExceptHandler (some (.Name (Str.ofString "CodeError") np)) none [.Return (some (.Constant (.bool true) kk p5)) p6] p7] [] [] p8 :: tail) (hs : scope₀ = scope)
    (hbind : ∀ x : Value, bindArgs (fnOf name qual params (.Try [.Expr (.Call (.Attribute (.Name (Str.ofString "reader") p1) (Str.ofString "finish") p2) [] [] p3) p4] [.ExceptHandler (some (.Name (Str.ofString "CodeError") np)) none [.Return (some (.Constant (.bool true) kk p5)) p6] p7] [] [] p8 :: tail) scope dV kV doc pm an cdv ct) ⟨[x], []⟩ = Pure.pure [((Str.ofString "reader"), x)]) (hloc : scope.names.lookup (Str.ofString "reader") = some .local ∧ ((Str.ofString "reader") == ("__debug__" : Str)) = false)
    (hcell : ∀ x ∈ scope.names, x.2 ≠ .cell) (hco : scope.isCoroutine = false) (hgen : scope.isGenerator = false) (hk : scope.kind = .function) (hx : scope.names.lookup (Str.ofString "CodeError") = some .globalImplicit)
    (he : ∀ env : Env, ∃ pl, eval (.Call (.Attribute (.Name (Str.ofString "reader") p1) (Str.ofString "finish") p2) [] [] p3) env = (do
      let ov ← eval (.Name (Str.ofString "reader") p1) env
      standAt p2.atName
      let (f, first) ← holding [ov] (getMethod ov (Str.ofString "finish") pl)
      PySem.callWith p3 f first (backTo p3 (starEach [] env)) []))
    (hM : Meth w 372 (Str.ofString "finish") f₀) (hn : notIn (Str.ofString "finish") l = true) (H : RCon w f₀ d [.ref s] muts) (hm1 : (s, cInst 372 dx) ∈ muts) (hm2 : (dx, cAttr w 372 l) ∈ muts)
    (hout : c.outer = []) (hfL : c.fL = c.L) (hd : Nat.ble (d + 1) dd = true) (t : TakesL muts led rest) (k : K (.bool true) (apL muts rest)) : CALL c m led (.ref f₁) [.ref s] K := by
  subst hp hb hs
  simp only [apL_eq] at k
  intro xs is h tk R a
  cases is with
  | cons i0 is =>
  cases i0
  cases is
  obtain ⟨⟨mm, L, F, N, ll, fr⟩, nd⟩ := a.perm (t.app R)
  obtain ⟨Lm, Lr, rfl, l1, l2⟩ := ll.split
  rw [← ll.addr] at nd
  obtain ⟨fm, S⟩ := At.site (tk := tk) (d := d + 1) (Lf := []) F N nd (fun _ h => nomatch h) (Nat.le_of_ble_eq_true hd)
  have X := S.X; have Ff := S.F; have T := S.T; have hd1 := S.h1
  refine wpS.call (codeS.call_def (fd := fnOf name qual params₀ _ scope₀ dV kV doc pm an cdv ct) (binds := [((Str.ofString "reader"), .ref s)]) (by show c.dp < _; k_extra "o") ((X.keeps Ff.keep) _ _ ho) rfl (T.nolimit.keeps Ff.keep) (codeRec_of (X.keeps Ff.keep) hcd) rfl (BindsTo.of_eq (hbind _)) hcell (fun y hy => by cases hy with | head => exact hloc.1 | tail _ h => cases h) (fun h₁ hns hk₁ => ?_) hco hgen hk)
  have I : Inside w (d + 1) Lm [] c.p c.loose c.mean c.mg c.mb c.dp c.un c.gd c.cn c.fcs c.a c.ccd c.fcl c.outer c.base (less h Lm) h₁ c.fL h.objs.size _ := inside_of S hns hk₁ (Nat.le_refl _)
  let c2 : Cx w d scope₀ := Cx.ofInside I hk c.gens c.drawn c.os (n := qual) (f := f₁) (cd := cdv) []
  obtain ⟨_, hmo, rfl⟩ := l1.mem hm1
  obtain ⟨_, hmd, es, ne, rfl, AI⟩ := l1.mem hm2
  have g1 := (I.N _ hmo).1
  have g2 := (I.N _ hmd).1
  have hle : ∀ b o, (less h Lm).get? b = some o → (less h₁ Lm).get? b = some o := fun b o q => hideAll_get _ (hk₁ _ _ (of_hideAll _ q)) fun hm => by
    have := hideAll_none (h := h) _ hm
    rw [this] at q; cases q
  have hfr : ∀ b, b < h.objs.size → b ≠ c.L → b ∉ (c2.env :: envX c.cn c.fcs c.fL c.a c.ccd c.fcl :: c.outer).filterMap (·.frame) := fun b h1 h2 hm => by
    rw [hout, List.filterMap_cons, List.filterMap_cons, List.filterMap_nil] at hm
    rcases List.mem_cons.mp hm with e | hm
    · exact absurd h1 (by rw [e]; exact Nat.lt_irrefl _)
    · rcases List.mem_cons.mp hm with e | hm
      · exact h2 (e.trans hfL)
      · cases hm
  obtain ⟨fm2, S2⟩ := At.site (c := c2) (h := h₁) (tk := tk + 1) (d := d) (Lm := Lm) (Lr := []) (Lf := []) I.F (by rw [List.append_nil]; exact I.N) (by rw [List.append_nil]; exact I.nd) (fun _ h => nomatch h) (Nat.le_refl _)
  refine wpS.dirty (wpS.try_ (wpS.dirty ?_))
  show wpS _ _ (exec (.Expr _ _) c2.env) _ _ _
  rw [exec_Expr c2.env _ _ (by show ((scope₀.kind == .module) && _) = false; rw [hk]; rfl) rfl]
  refine wpS.bind (wpS.standAt (wpS.bind (wpS.mono (Q := fun _ _ => False) ?_ (fun _ _ z => z.elim) fun _ _ z => z)))
  obtain ⟨pl, he⟩ := he c2.env
  refine wpS.Call_m (he := he) (wpAny_Name (wpAny_loadName_local hk hloc.1 hns (by exact List.lookup_cons_self) ?_) hloc.2)
  refine method_inst I.F c2.X (instOf g1 g2) hM.hg hM.hf hM.ht (AI.no _ (notIn_of hn)) ?_
  refine wpS.callWith_K0 (c2.X.keeps I.F.keep) hM.hk (wpS.call (codeS.mono (H [.ref s] Lm (.cons rfl .nil) l1 _ _ _ _ _ _ _ c2.gd c2.cn c2.fcs c2.a c2.ccd c2.fcl _ _ _ _ _ _ _ S2) fun r s' z => ?_))
  obtain ⟨e, rfl, h₂, tk₂, B, a0, lm, rfl, hfl, hB, hlm, hnd, hL, hup⟩ := z
  refine caught63 (env := c2.env) (L := c2.L) rfl rfl hfl c.X c.T (fun b o q => hB b o (hle b o (hideAll_get _ (F.keep b o q) (not_g (fun q hq => N q (List.mem_append_left _ hq)) q))) (hfr b (Heap.lt_size (F.keep b o q)) fun z => by subst z; rw [kts_self F] at q; cases q)) hk rfl rfl hx fun h' hs hu => ?_
  have nL := not_L (c := c) (h := h) (Lm := Lm) fun q hq => N q (List.mem_append_left _ hq)
  obtain ⟨F', N', nd'⟩ := At.backL (c := c) (l := lm) (h' := h') F N nd (hu.ns (hup.ns (by obtain ⟨oL, es, ep, hL, r⟩ := F.ns; exact ⟨oL, es, ep, hideAll_get _ (hk₁ _ _ hL) nL, r⟩)))
    (fun b o h1 h2 => hs b o (hB b o (hle b o h2) (hfr b (Heap.lt_size (of_hideAll _ h2)) h1)))
    (fun q hq => ⟨hs _ _ (hlm q hq).1, by
      cases z : (less h Lm).get? q.1 with
      | none => rfl
      | some o => have := hle _ _ z; rw [show (less h₁ Lm).get? q.1 = none from (hlm q hq).2] at this; cases this⟩) hnd
  refine ⟨h', tk₂, .bool true, muts ++ rest, rfl, rfl, ⟨⟨mm, lm ++ Lr, F', N', ?_, fr⟩, ?_⟩, k⟩
  · rw [List.append_assoc]; exact hL.append l2
  · rw [(hL.append l2).addr] at nd'
    rw [List.append_assoc]; exact nd'
end
end
section
theorem words : True := by
  k_with "mem" => first | with_reducible exact mem_hd | ((with_reducible refine mem_tl ?_); k_extra "mem") | ((with_reducible refine mem_apr ?_); k_extra "mem")
  k_with "take" => first | with_reducible exact TakeL.head | (focus ((with_reducible refine' TakeL.tail ?_); rotate_right; (· k_extra "take"))) | (focus ((with_reducible refine' TakeL.apr ?_); rotate_right; (· k_extra "take")))
  k_with "t" => first | with_reducible exact TakesL.nil | (focus ((with_reducible refine' TakesL.cons ?_ ?_); rotate_right 2; (· k_extra "take"); (· k_extra "t"))) | with_reducible exact TakesL.all | with_reducible exact TakesL.ap | (focus ((with_reducible refine' TakesL.appT ?_ ?_); rotate_right 2; (· k_extra "t"); (· k_extra "t"))) | (focus ((with_reducible refine' TakesL.skip ?_); rotate_right; (· k_extra "t"))) | (focus ((with_reducible refine' TakesL.apR ?_); rotate_right; (· k_extra "t")))
  k_with "upd" => first | with_reducible exact UpdL.head | (focus ((with_reducible refine' UpdL.tail ?_); rotate_right; (· k_extra "upd"))) | (focus ((with_reducible refine' UpdL.apr ?_); rotate_right; (· k_extra "upd")))
  k_with "h" => first | ((with_reducible refine Has.l ?_); k_extra "mem") | ((with_reducible refine Has.r ?_); with_reducible assumption) | ((with_reducible refine Has.l ?_); k_extra "mema")
  k_with "put" => first | (focus ((with_reducible refine' PutF.upd ?_); rotate_right; (· k_extra "upd"))) | exact PutF.fresh rfl rfl rfl
  k_with "i" => first | with_reducible assumption | with_reducible exact Int.natCast_nonneg _ | decide | k_extra "o"
  k_with "f" => first | exact FamOk.nil | (with_reducible refine FamOk.ro ?_; assumption) | ((with_reducible refine FamOk.cons ?_ ?_) <;> first | k_extra "h" | k_extra "f") | with_reducible exact FamOk.self | ((with_reducible refine FamOk.tl ?_); k_extra "f") | ((with_reducible refine FamOk.apr ?_); k_extra "f") | fail "fam"
  k_with "mema" => first | with_reducible assumption | ((with_reducible refine mem_tl ?_); k_extra "mema") | ((with_reducible refine mem_ap ?_); with_reducible assumption) | ((with_reducible refine mem_apr ?_); k_extra "mema")
  k_with "glob" => with_reducible first | exact g_code_rows | exact g_check_told | exact g_HuffTable | exact g_Scan | exact g_BitWriter | exact g_BitReader | exact g_category | exact g_bits_of | exact g_value_of | exact g_put_number | exact g_SequentialWriter | exact g_SequentialReader | exact g_CodeSink | exact g_CountSink | exact g_law_pool | exact g_law_take | exact g_law_number | exact g_law_blocks | exact g_law_coded | exact g_law_figures | exact g_law_number_text | exact g_law_octets | exact g_law_zeros_right | exact g_law_refused | fail "no global"
  k_with "kons" => with_reducible first | exact k_MOST_BITS | exact k_MOST_SYMBOLS | exact k_ZEROS | exact k_MOST_SIZE
  k_with "blt" => with_reducible first | exact b_len | exact b_bytearray | exact b_bytes | exact b_range | exact b_abs | exact b_int | exact b_min | exact b_max | exact b_sum | exact b_set | exact b_tuple | exact b_str | exact b_list | exact b_sorted | fail "no builtin"
  k_with "meth" => with_reducible first | exact m_HuffTable_code | exact m_HuffTable_read | exact m_BitWriter_put | exact m_BitWriter_pad | exact m_BitWriter_octets | exact m_BitReader_left | exact m_BitReader_bit | exact m_BitReader_bits | exact m_SequentialWriter_start | exact m_SequentialWriter_code | exact m_SequentialWriter_finish | exact m_SequentialReader_start | exact m_SequentialReader_number | exact m_SequentialReader_read | exact m_SequentialReader_finish | exact m_CodeSink_symbol | exact m_CodeSink_bits | exact m_CodeSink_finish | exact m_CountSink_symbol | exact m_CountSink_bits | exact m_CountSink_finish | fail "no method"
  k_with "attr" => with_reducible first | exact a_HuffTable_counts | exact a_HuffTable_symbols | exact a_HuffTable_rows | exact a_HuffTable_codes | exact a_Scan_places | exact a_Scan_dc_slots | exact a_Scan_ac_slots | exact a_Scan_start | exact a_Scan_end | exact a_Scan_high | exact a_Scan_low | exact a_BitWriter_full | exact a_BitWriter_rest | exact a_BitWriter_size | exact a_BitReader_source | exact a_BitReader_at | exact a_SequentialWriter_scan | exact a_SequentialWriter_many | exact a_SequentialWriter_sink | exact a_SequentialWriter_before | exact a_SequentialReader_scan | exact a_SequentialReader_many | exact a_SequentialReader_tables | exact a_SequentialReader_reader | exact a_SequentialReader_before | exact a_CodeSink_tables | exact a_CodeSink_writer | exact a_CountSink_counts | fail "no attribute"
  k_with "stmts" => first
      | ((with_reducible show ST _ _ _ (Stmt.Assign [Expr.Name _ _] _ _) _); first | (focus ((refine' ST.cell ?_ ?_ ?_ ?_); rotate_right 4; (· exact rfl); (· assumption); rotate_left; (· exact rfl))) | (focus ((refine' ST.name ?_ ?_); rotate_right 2; rotate_left; (· exact rfl))))
      | ((with_reducible show ST _ _ _ (Stmt.Assign [Expr.Attribute _ _ _] _ _) _); (focus ((refine' ST.attr ?_ ?_); rotate_right 2; rotate_left; (· exact rfl))))
      | ((with_reducible show ST _ _ _ (Stmt.Assign [Expr.Subscript _ _ _] _ _) _); (focus ((refine' ST.item ?_ ?_); rotate_right 2; rotate_left; (· exact rfl))))
      | ((with_reducible show ST _ _ _ (Stmt.Assign [Expr.Tuple _ _ _] (Expr.Tuple _ _ _) _) _); (focus ((refine' ST.swap2 ?_ ?_ ?_); rotate_right 3; rotate_left; (· exact rfl); (· exact rfl))))
      | ((with_reducible show ST _ _ _ (Stmt.Assign [Expr.Tuple _ _ _] _ _) _); (focus ((refine' ST.tuple ?_ ?_ ?_); rotate_right 3; rotate_left; (· exact rfl); (· exact rfl))))
      | with_reducible refine ST.ret ?_
      | with_reducible refine ST.if_ ?_
      | with_reducible refine ST.pass ?_
      | ((with_reducible show ST _ _ _ (Stmt.Expr _ _) _); (focus ((refine' ST.expr ?_ ?_ ?_); rotate_right 3; rotate_left; (· exact rfl); (· exact rfl))))
      | ((with_reducible show ST _ _ _ (Stmt.For _ _ _ _ _) _); (focus ((refine' ST.for_ ?_ ?_); rotate_right 2; rotate_left; (· intro _; exact rfl))))
  k_with "exprs" => first
      | ((with_reducible show E1 _ _ _ (Expr.Name _ _) _); first | (focus ((with_reducible refine' E1.name ?_ ?_); rotate_right 2; (· k_extra "mem"))) | (focus ((with_reducible refine' E1.cell ?_ ?_ ?_ ?_ ?_); rotate_right 5; (· exact rfl); (· assumption); (· exact rfl); (· k_extra "h"))) | (focus ((refine' glob_name ?_ ?_ ?_); rotate_right 3; (· k_extra "kons"); (· exact rfl))))
      | with_reducible refine E1.int ?_ | with_reducible refine E1.none ?_ | with_reducible refine E1.str ?_
      | with_reducible refine E1.bin ?_
      | ((with_reducible show E1 _ _ _ (Expr.Attribute _ _ _) _); (focus ((refine' E1.att ?_ ?_); rotate_right 2; rotate_left; (· with_unfolding_all rfl))))
      | with_reducible refine E1.sub ?_
      | ((with_reducible show E1 _ _ _ (Expr.Call (Expr.Name _ _) _ _ _) _); first | (focus ((refine' glob_call ?_ ?_ ?_ ?_); rotate_right 4; (· k_extra "glob"); (· exact rfl); (· exact rfl))) | (focus ((refine' blt_call ?_ ?_ ?_ ?_); rotate_right 4; (· k_extra "blt"); (· exact rfl); (· exact rfl))))
      | ((with_reducible show E1 _ _ _ (Expr.Call (Expr.Attribute _ _ _) _ _ _) _); (focus ((refine' E1.meth ?_ ?_ ?_); rotate_right 3; (· exact rfl); (· exact rfl))))
      | (focus ((with_reducible refine' E1.list ?_ ?_); rotate_right 2; (· exact rfl)))
      | (focus ((with_reducible refine' E1.tup ?_ ?_); rotate_right 2; (· exact rfl)))
      | with_reducible refine E1.neg ?_
      | with_reducible refine E1.if_ ?_
      | ((with_reducible show E1 _ _ _ (Expr.Compare _ [_] [_] _) _); (focus ((refine' E1.cmp ?_ ?_); rotate_right 2; rotate_left; (· with_unfolding_all rfl))))
  k_with "tests" => first
      | ((with_reducible show T1 _ _ _ (Expr.Compare _ [_] [_] _) _); (focus ((refine' T1.cmp ?_ ?_); rotate_right 2; rotate_left; (· with_unfolding_all rfl))))
      | ((with_reducible show T1 _ _ _ (Expr.Compare _ [_, _] [_, _] _) _); (focus ((refine' T1.chain ?_ ?_); rotate_right 2; rotate_left; (· with_unfolding_all rfl))))
      | with_reducible refine T1.not ?_ | with_reducible refine T1.or2 ?_ | with_reducible refine T1.and2 ?_
  k_with "mul" => first | exact Or.inl ⟨by decide, by decide⟩ | exact Or.inr ⟨by decide, by decide⟩ | (refine Or.inl ⟨?_, ?_⟩ <;> k_extra "o") | (refine Or.inr ⟨?_, ?_⟩ <;> k_extra "o") | fail "mul"
  k_with "ops" => first
      | k_extra "own"
      | with_reducible refine BIN.add ?_ | with_reducible refine BIN.sub ?_ | with_reducible refine BIN.or ?_ | with_reducible refine BIN.and ?_
      | (focus ((with_reducible refine' BIN.mul ?_ ?_); rotate_right 2; rotate_left; (· k_extra "mul"))) | (focus ((with_reducible refine' BIN.fdiv ?_ ?_ ?_); rotate_right 3; rotate_left; (· k_extra "i"); (· k_extra "i"))) | (focus ((with_reducible refine' BIN.mod ?_ ?_); rotate_right 2; rotate_left; (· k_extra "i"))) | (focus ((with_reducible refine' BIN.pow ?_ ?_ ?_ ?_); rotate_right 4; rotate_left; (· k_extra "i"); (· k_extra "i"); (· k_extra "i"))) | (focus ((with_reducible refine' BIN.shl ?_ ?_ ?_ ?_); rotate_right 4; rotate_left; (· k_extra "i"); (· k_extra "i"); (· k_extra "i"))) | (focus ((with_reducible refine' BIN.shr ?_ ?_); rotate_right 2; rotate_left; (· k_extra "i")))
      | with_reducible refine CMP.lt ?_ | with_reducible refine CMP.gt ?_ | with_reducible refine CMP.le ?_ | with_reducible refine CMP.ge ?_ | with_reducible refine CMP.eq ?_ | with_reducible refine CMP.ne ?_ | with_reducible refine CMP.isNone ?_
      | (focus ((with_reducible refine' ATT.own ?_ ?_ ?_ ?_); rotate_right 4; (· k_extra "h"); (· k_extra "h"); (· k_extra "mem")))
      | (focus ((with_reducible refine' METH.inst ?_ ?_ ?_ ?_ ?_); rotate_right 5; (· k_extra "h"); (· k_extra "h"); (· k_extra "meth"); (· exact rfl)))
      | ((focus ((with_reducible refine' BIN.addL ?_ ?_ ?_ ?_); rotate_right 4; (· k_extra "h"); (· k_extra "h"); (· exact Nat.le_of_ble_eq_true rfl))); intro _)
      | ((focus ((with_reducible refine' BIN.rep1 ?_ ?_ ?_); rotate_right 3; (· k_extra "h"); (· k_extra "i"))); intro _)
      | ((focus ((with_reducible refine' BIN.rep1L ?_ ?_ ?_ ?_); rotate_right 4; (· k_extra "h"); (· exact rfl); (· exact Nat.le_of_ble_eq_true rfl))); intro _)
      | (focus ((with_reducible refine' SETI.nat ?_ ?_ ?_ ?_ ?_); rotate_right 5; (· first | exact rfl | exact (rfl : (0 : Int) = ((0 : Nat) : Int)) | exact (rfl : (1 : Int) = ((1 : Nat) : Int)) | k_extra "nat"); (· k_extra "upd"); (· first | k_extra "len" | exact Nat.le_of_ble_eq_true rfl | (simp only [List.length_set, List.length_replicate, List.length_map]; k_extra "i") | k_extra "i"); (· k_extra "i")))
      | with_reducible refine METH.bit_length ?_
      | (focus ((with_reducible refine' METH.lappend ?_ ?_); rotate_right 2; (· k_extra "h")))
      | (focus ((with_reducible refine' CALL.append ?_ ?_ ?_); rotate_right 3; (· k_extra "upd"); (· first | k_extra "len" | k_extra "i")))
      | (focus ((with_reducible refine' METH.ba_append ?_ ?_); rotate_right 2; (· k_extra "h")))
      | (focus ((with_reducible refine' CALL.ba_append ?_ ?_ ?_ ?_ ?_); rotate_right 5; (· first | exact rfl | k_extra "nat"); (· k_extra "upd"); (· k_extra "i"); (· k_extra "i")))
      | ((with_reducible refine CALL.bytearray ?_); intro _)
      | (focus ((with_reducible refine' CALL.bytes_ba ?_ ?_ ?_); rotate_right 3; (· k_extra "h"); (· k_extra "i")))
      | (focus ((with_reducible refine' METH.dict_get ?_ ?_); rotate_right 2; (· k_extra "h")))
      | (focus ((with_reducible refine' METH.dict_sd ?_ ?_); rotate_right 2; (· k_extra "h")))
      | with_reducible refine METH.join ?_
      | (focus ((with_reducible refine' SETA.old ?_ ?_ ?_ ?_ ?_); rotate_right 5; (· k_extra "h"); (· k_extra "upd"); (· k_extra "upd"); (· exact rfl)))
      | (focus ((with_reducible refine' SETA.fresh ?_ ?_ ?_ ?_ ?_ ?_); rotate_right 6; (· k_extra "h"); (· k_extra "upd"); (· k_extra "attr"); (· exact rfl); (· exact rfl)))
      | ((with_reducible refine CALL.range1 ?_); intro _) | ((with_reducible refine CALL.range2 ?_); intro _)
      | ((with_reducible refine CALL.set0 ?_); intro _)
      | (focus ((with_reducible refine' METH.set_add ?_ ?_); rotate_right 2; (· k_extra "h")))
      | (focus ((with_reducible refine' CALL.set_add ?_ ?_ ?_); rotate_right 3; (· k_extra "upd"); (· first | k_extra "len" | k_extra "i")))
      | (focus ((with_reducible refine' CMP.inSet ?_ ?_ ?_); rotate_right 3; (· k_extra "h"); (· first | k_extra "len" | k_extra "i")))
      | with_reducible refine CALL.ap1 ?_ | with_reducible refine CALL.abs ?_ | with_reducible refine CALL.int ?_ | with_reducible refine CALL.bit_length ?_ | with_reducible refine CALL.max2 ?_ | with_reducible refine CALL.int_bool ?_
      | ((with_reducible show SUB _ _ _ _ _ (V.ref _) (V.int _) _); first
          | (focus ((refine' SUB.list ?_ ?_ ?_ ?_ ?_ ?_); rotate_right 6; (· k_extra "h"); (· first | exact rfl | assumption | k_extra "item"); (· k_extra "i"); (· k_extra "i"); rotate_left; (· intro _; with_unfolding_all rfl)))
          | (focus ((refine' SUB.tup ?_ ?_ ?_ ?_ ?_ ?_); rotate_right 6; (· k_extra "h"); (· first | exact rfl | assumption | k_extra "item"); (· k_extra "i"); (· k_extra "i"); rotate_left; (· intro _; with_unfolding_all rfl))))
      | ((with_reducible show SUB _ _ _ _ _ (V.bytes _) (V.int _) _); (focus ((refine' SUB.bytes ?_ ?_ ?_ ?_ ?_); rotate_right 5; rotate_left; (· k_extra "i"); (· k_extra "i"); (· k_extra "i"); (· intro _ _; with_unfolding_all rfl))))
      | (focus ((with_reducible refine' CALL.len_bytes ?_ ?_); rotate_right 2; rotate_left; (· k_extra "i")))
      | (focus ((with_reducible refine' CALL.len_tup ?_ ?_ ?_); rotate_right 3; (· k_extra "h"); rotate_left; (· first | k_extra "i" | (simp only [List.length_append, List.length_cons, List.length_replicate, List.length_map]; k_extra "i"))))
      | ((focus ((with_reducible refine' CALL.tup_list ?_ ?_ ?_); rotate_right 3; (· k_extra "h"); (· first | k_extra "len" | k_extra "i"))); intro _)
      | (focus ((with_reducible refine' CALL.len_ints ?_ ?_ ?_); rotate_right 3; (· k_extra "h"); rotate_left; (· k_extra "i")))
      | (focus ((with_reducible refine' CALL.len_list ?_ ?_ ?_); rotate_right 3; (· k_extra "h"); rotate_left; (· k_extra "i")))
  k_with "step" => first
      | with_reducible refine SP.cons ?_
      | k_extra "exprs" | k_extra "stmts" | k_extra "tests" | k_extra "ops"
      | with_reducible refine ARG.cn ?_ | with_reducible refine ARG.nl ?_
      | with_reducible refine SP.nil ?_ | with_reducible refine AndThen.nx ?_ | with_reducible refine AndThen.rt ?_ | with_reducible refine TurnQ.rt ?_ | with_reducible refine WhQ.rt ?_
      | (focus ((with_reducible refine' StoreK.mk ?_ ?_); rotate_right 2; (· k_extra "put")))
      | (focus ((with_reducible refine' AS.cell ?_ ?_ ?_ ?_); rotate_right 4; (· exact rfl); (· assumption); (· k_extra "upd")))
      | with_reducible refine AS.name ?_
      | (focus ((with_reducible refine' AS.tup ?_ ?_ ?_ ?_); rotate_right 4; (· exact rfl); (· k_extra "h"); (· exact rfl)))
      | with_reducible refine StoreTs.cn ?_ | with_reducible refine StoreTs.nl ?_
      | ((with_reducible refine IfD ?_ ?_) <;> first | (intro _; exfalso; k_extra "i") | intro _) | ((with_reducible refine IfN ?_ ?_) <;> first | (intro _; exfalso; k_extra "i") | intro _) | with_reducible refine IfT ?_ | with_reducible refine IfF ?_
      | ((with_reducible show Nat.le (List.length _) 1000 ∧ _); refine ⟨Nat.le_of_ble_eq_true rfl, ?_⟩; intro _)
      | ((with_reducible show List.length _ ≤ 1000 ∧ _); refine ⟨Nat.le_of_ble_eq_true rfl, ?_⟩; intro _)
      | with_reducible refine SwapK.mk ?_ | with_reducible refine PAIRS.cn ?_ | with_reducible refine PAIRS.nl ?_ | with_reducible refine STALL.cn ?_ | with_reducible refine STALL.nl ?_
      | (focus ((with_reducible refine' kCell1.mk ?_ ?_); rotate_right 2; (· k_extra "upd")))
      | ((with_reducible show ∃ i, V.int _ = V.int i ∧ _); refine ⟨_, rfl, ?_⟩)
      | (focus ((with_reducible refine' Fold.out ?_ ?_); rotate_right 2; (· with_reducible assumption)))
      | (focus ((with_reducible refine' Fold.outN ?_ ?_); rotate_right 2; (· with_reducible assumption)))
  k_with "w" => repeat' k_extra "step"
  trivial
noncomputable abbrev rdL (w : World) (x dx : Addr) (l : List UInt8) (k : Int) : ALed := [(x, cInst 253 dx), (dx, cAttr w 253 [vv "at" (.int k), vv "source" (.bytes l)])]
theorem c_left {w : World} (x dx : Addr) (l : List UInt8) (k : Int) (hb : l.length < 2 ^ 20) :
   Con w 236 1 [.ref x] (rdL w x dx l k) [] (IsR (.int (8 * (l.length : Int) - k)) (rdL w x dx l k)) := by
 simp (disch := with_unfolding_all
  refine' Con.of ?k6 ?k7 ?hp ?hb ?hs ?hn ?hl ?k9 ?kB ?kN ?c5 ?c2 ?c3 ?c4 ?_; (case k6 => k_is); (case k7 => k_is); (case hp => (conv => lhs; whnf)); (case hb => (conv => lhs; whnf)); (case hs => (conv => lhs; whnf)); (case hn => (simp only [List.map_cons, List.map_nil]; exact rfl)); (case hl => exact rfl); (case k9 => (intro xs hx; obtain ⟨x0, rfl⟩ := len1 hx; exact rfl)); (case kB => (intro y hy; simp only [List.mem_cons, List.not_mem_nil, or_false] at hy; rcases hy with rfl <;> exact ⟨rfl, rfl⟩)); (case kN => decide); (case c5 => decide); (case c2 => exact rfl); (case c3 => exact rfl); (case c4 => exact rfl)
  intro c Q0 hQ0 ro; (try simp only [List.zip_cons_cons, List.zip_nil_left, List.zip_nil_right])
  k_extra "w"
  ((first | with_reducible refine' RetQ.is ?ok | with_reducible refine' RetQ.nx ?ok | refine' RetQ.is ?ok); (case ok => k_extra "t"))
 ) only [↓eq_true]
noncomputable def bitI (l : List UInt8) (k : Int) : Int := Builtin.bitAnd (((l.getD (k.fdiv (2 ^ Int.toNat 3)).toNat 0).toNat : Int).fdiv (2 ^ (7 - Builtin.bitAnd k 7).toNat)) 1
theorem fdiv8 {k : Int} (h0 : 0 ≤ k) : k.fdiv (2 ^ Int.toNat 3) = k / 8 := by
  rw [show (2 ^ Int.toNat 3 : Int) = 8 from rfl, Int.fdiv_eq_ediv_of_nonneg _ (by decide)]
theorem and7 (k : Int) : 0 ≤ 7 - Builtin.bitAnd k 7 := by have := bitAnd_range k (y := 7) (by decide); k_extra "o"
theorem c_bit {w : World} (x dx : Addr) (l : List UInt8) (k : Int) (hb : l.length < 2 ^ 20) (h0 : 0 ≤ k) (h1 : k < 8 * (l.length : Int)) :
   Con w 243 1 [.ref x] (rdL w x dx l k) [] (IsR (.int (bitI l k)) (rdL w x dx l (k + 1))) := by
 simp (disch := with_unfolding_all
  have h3 := fdiv8 h0
  have h7 := and7 k
  refine' Con.of ?k6 ?k7 ?hp ?hb ?hs ?hn ?hl ?k9 ?kB ?kN ?c5 ?c2 ?c3 ?c4 ?_; (case k6 => k_is); (case k7 => k_is); (case hp => (conv => lhs; whnf)); (case hb => (conv => lhs; whnf)); (case hs => (conv => lhs; whnf)); (case hn => (simp only [List.map_cons, List.map_nil]; exact rfl)); (case hl => exact rfl); (case k9 => (intro xs hx; obtain ⟨x0, rfl⟩ := len1 hx; exact rfl)); (case kB => (intro y hy; simp only [List.mem_cons, List.not_mem_nil, or_false] at hy; rcases hy with rfl <;> exact ⟨rfl, rfl⟩)); (case kN => decide); (case c5 => decide); (case c2 => exact rfl); (case c3 => exact rfl); (case c4 => exact rfl)
  intro c Q0 hQ0 ro; (try simp only [List.zip_cons_cons, List.zip_nil_left, List.zip_nil_right])
  k_extra "w"
  ((first | with_reducible refine' RetQ.is ?ok | with_reducible refine' RetQ.nx ?ok | refine' RetQ.is ?ok); (case ok => k_extra "t"))
 ) only [↓eq_true]
noncomputable def bitsI (l : List UInt8) (k : Int) : Nat → Int
  | 0 => 0
  | n + 1 => bitsI l k n * 2 + bitI l (k + n)
inductive JBits (w : World) (x dx : Addr) (l : List UInt8) (k : Int) (n : Nat) (i : Nat) : AFr → ALed → Prop
  | mk (f p : Int) : f = bitsI l k i → p = k + i → JBits w x dx l k n i [vv "found" (.int f), vv "self" (.ref x), vv "size" (.int n)] (rdL w x dx l p)
theorem c_bits {w : World} (x dx : Addr) (l : List UInt8) (k : Int) (hb : l.length < 2 ^ 20) (h0 : 0 ≤ k) (n : Nat) (hn : n < 64) (h1 : k + n ≤ 8 * (l.length : Int)) :
   Con w 250 2 [.ref x, .int (n : Int)] (rdL w x dx l k) [] (IsR (.int (bitsI l k n)) (rdL w x dx l (k + n))) := by
 simp (disch := with_unfolding_all
  refine' Con.of ?k6 ?k7 ?hp ?hb ?hs ?hn ?hl ?k9 ?kB ?kN ?c5 ?c2 ?c3 ?c4 ?_; (case k6 => k_is); (case k7 => k_is); (case hp => (conv => lhs; whnf)); (case hb => (conv => lhs; whnf)); (case hs => (conv => lhs; whnf)); (case hn => (simp only [List.map_cons, List.map_nil]; exact rfl)); (case hl => exact rfl); (case k9 => (intro xs hx; obtain ⟨x0, x1, rfl⟩ := len2 hx; exact rfl)); (case kB => (intro y hy; simp only [List.mem_cons, List.not_mem_nil, or_false] at hy; rcases hy with rfl | rfl <;> exact ⟨rfl, rfl⟩)); (case kN => decide); (case c5 => decide); (case c2 => exact rfl); (case c3 => exact rfl); (case c4 => exact rfl)
  intro c Q0 hQ0 ro; (try simp only [List.zip_cons_cons, List.zip_nil_left, List.zip_nil_right])
  k_extra "w"
  (refine' Con.callE (c_left x dx l k hb) ?cd1 ?ct1 ?cf1 ?_; (case ct1 => k_extra "t"); (case cd1 => exact rfl); (case cf1 => k_extra "f"))
  k_extra "w"
  (refine' ITER.range1 (n := n) (JBits w x dx l k n) (by k_extra "h") (smallN (by k_extra "o")) (sizeN n) (.mk 0 k rfl (Int.add_zero k).symm) ?rm3 ?rl3 (fun Q3 hQ3 => ?rt3) ?rd3; (case rm3 => k_extra "t"); (case rl3 => k_extra "t"))
  · rintro i _ _ hi ⟨f, p, rfl, rfl⟩
    k_extra "w"
    (refine' Con.callE (c_bit x dx l (k + i) hb (by k_extra "o") (by k_extra "o")) ?cd2 ?ct2 ?cf2 ?_; (case ct2 => k_extra "t"); (case cd2 => exact rfl); (case cf2 => k_extra "f"))
    k_extra "w"
    (refine' ⟨_, _, _, _, .mk _ _ ?_ ?_, ?rm4, ?rl4⟩; (case rm4 => k_extra "t"); (case rl4 => k_extra "t"))
    · rfl
    · k_extra "o"
  · rintro _ _ ⟨f, p, rfl, rfl⟩
    k_extra "w"
    ((first | with_reducible refine' RetQ.is ?ok | with_reducible refine' RetQ.nx ?ok | refine' RetQ.is ?ok); (case ok => k_extra "t"))
 ) only [↓eq_true]
theorem bitI_nonneg (l : List UInt8) (k : Int) : 0 ≤ bitI l k := (bitAnd_range _ (y := 1) (by decide)).1
theorem bitsI_nonneg (l : List UInt8) (k : Int) : ∀ n : Nat, 0 ≤ bitsI l k n
  | 0 => Int.le_refl 0
  | n + 1 => by have := bitsI_nonneg l k n; have := bitI_nonneg l (k + n); unfold bitsI; k_extra "o"
noncomputable def catN (v : Int) : Nat := Builtin.Int.intBits (if v < 0 then -v else v)
noncomputable def bitsOfI (v : Int) (n : Nat) : Int := if v < 0 then v + 2 ^ n - 1 else v
noncomputable def valueOfI (v : Int) (n : Nat) : Int := if 0 < n ∧ v < 2 ^ (n - 1) then v - 2 ^ n + 1 else v
theorem c_category {w : World} (v : Int) : Con w 264 1 [.int v] [] [] (IsR (.int (catN v : Int)) ([])) := by
 simp (disch := with_unfolding_all
  refine' Con.of ?k6 ?k7 ?hp ?hb ?hs ?hn ?hl ?k9 ?kB ?kN ?c5 ?c2 ?c3 ?c4 ?_; (case k6 => k_is); (case k7 => k_is); (case hp => (conv => lhs; whnf)); (case hb => (conv => lhs; whnf)); (case hs => (conv => lhs; whnf)); (case hn => (simp only [List.map_cons, List.map_nil]; exact rfl)); (case hl => exact rfl); (case k9 => (intro xs hx; obtain ⟨x0, rfl⟩ := len1 hx; exact rfl)); (case kB => (intro y hy; simp only [List.mem_cons, List.not_mem_nil, or_false] at hy; rcases hy with rfl <;> exact ⟨rfl, rfl⟩)); (case kN => decide); (case c5 => decide); (case c2 => exact rfl); (case c3 => exact rfl); (case c4 => exact rfl)
  intro c Q0 hQ0 ro; (try simp only [List.zip_cons_cons, List.zip_nil_left, List.zip_nil_right])
  k_extra "w"
  ((first | with_reducible refine' RetQ.is ?ok | with_reducible refine' RetQ.nx ?ok | refine' RetQ.is ?ok); (case ok => k_extra "t"))
 ) only [↓eq_true]
theorem c_bits_of {w : World} (v : Int) (n : Nat) (hn : n < 64) : Con w 271 1 [.int v, .int (n : Int)] [] [] (IsR (.int (bitsOfI v n)) ([])) := by
 simp (disch := with_unfolding_all
  refine' Con.of ?k6 ?k7 ?hp ?hb ?hs ?hn ?hl ?k9 ?kB ?kN ?c5 ?c2 ?c3 ?c4 ?_; (case k6 => k_is); (case k7 => k_is); (case hp => (conv => lhs; whnf)); (case hb => (conv => lhs; whnf)); (case hs => (conv => lhs; whnf)); (case hn => (simp only [List.map_cons, List.map_nil]; exact rfl)); (case hl => exact rfl); (case k9 => (intro xs hx; obtain ⟨x0, x1, rfl⟩ := len2 hx; exact rfl)); (case kB => (intro y hy; simp only [List.mem_cons, List.not_mem_nil, or_false] at hy; rcases hy with rfl | rfl <;> exact ⟨rfl, rfl⟩)); (case kN => decide); (case c5 => decide); (case c2 => exact rfl); (case c3 => exact rfl); (case c4 => exact rfl)
  intro c Q0 hQ0 ro; (try simp only [List.zip_cons_cons, List.zip_nil_left, List.zip_nil_right])
  k_extra "w"
  · (refine' ⟨_, _, ?et1, ?_, rfl⟩; (case et1 => k_extra "t"))
    unfold bitsOfI; rw [if_pos (by assumption)]; rfl
  · (refine' ⟨_, _, ?et2, ?_, rfl⟩; (case et2 => k_extra "t"))
    unfold bitsOfI; rw [if_neg (by assumption)]
 ) only [↓eq_true]
theorem nat_sub1 {n : Nat} (h : 0 < (n : Int)) : ((n : Int) - 1).toNat = n - 1 := by k_extra "o"
theorem c_value_of {w : World} (v : Int) (n : Nat) (hn : n < 64) : Con w 278 1 [.int v, .int (n : Int)] [] [] (IsR (.int (valueOfI v n)) ([])) := by
 simp (disch := with_unfolding_all
  refine' Con.of ?k6 ?k7 ?hp ?hb ?hs ?hn ?hl ?k9 ?kB ?kN ?c5 ?c2 ?c3 ?c4 ?_; (case k6 => k_is); (case k7 => k_is); (case hp => (conv => lhs; whnf)); (case hb => (conv => lhs; whnf)); (case hs => (conv => lhs; whnf)); (case hn => (simp only [List.map_cons, List.map_nil]; exact rfl)); (case hl => exact rfl); (case k9 => (intro xs hx; obtain ⟨x0, x1, rfl⟩ := len2 hx; exact rfl)); (case kB => (intro y hy; simp only [List.mem_cons, List.not_mem_nil, or_false] at hy; rcases hy with rfl | rfl <;> exact ⟨rfl, rfl⟩)); (case kN => decide); (case c5 => decide); (case c2 => exact rfl); (case c3 => exact rfl); (case c4 => exact rfl)
  intro c Q0 hQ0 ro; (try simp only [List.zip_cons_cons, List.zip_nil_left, List.zip_nil_right])
  k_extra "w"
  · rename_i hA hB
    (refine' ⟨_, _, ?et3, ?_, rfl⟩; (case et3 => k_extra "t"))
    unfold valueOfI; rw [if_pos ⟨by k_extra "o", by rw [nat_sub1 hA] at hB; exact hB⟩]; rfl
  · rename_i hA hB
    (refine' ⟨_, _, ?et4, ?_, rfl⟩; (case et4 => k_extra "t"))
    unfold valueOfI; rw [if_neg (fun hc => hB (by rw [nat_sub1 hA]; exact hc.2))]
  · rename_i hA
    (refine' ⟨_, _, ?et5, ?_, rfl⟩; (case et5 => k_extra "t"))
    unfold valueOfI; rw [if_neg (fun hc => hA (by k_extra "o"))]
 ) only [↓eq_true]
noncomputable abbrev wrL (w : World) (x dx ba : Addr) (full : List UInt8) (r n : Int) : ALed := [(x, cInst 211 dx), (dx, cAttr w 211 [vv "size" (.int n), vv "rest" (.int r), vv "full" (.ref ba)]), (ba, cBA full)]
theorem c_winit {w : World} (x dx : Addr) : Con w 187 1 [.ref x] [(x, cInst 211 dx), (dx, cAttr w 211 [])] [] (fun v led => ∃ ba, v = .none ∧ led = wrL w x dx ba [] 0 0) := by
 simp (disch := with_unfolding_all
  refine' Con.of ?k6 ?k7 ?hp ?hb ?hs ?hn ?hl ?k9 ?kB ?kN ?c5 ?c2 ?c3 ?c4 ?_; (case k6 => k_is); (case k7 => k_is); (case hp => (conv => lhs; whnf)); (case hb => (conv => lhs; whnf)); (case hs => (conv => lhs; whnf)); (case hn => (simp only [List.map_cons, List.map_nil]; exact rfl)); (case hl => exact rfl); (case k9 => (intro xs hx; obtain ⟨x0, rfl⟩ := len1 hx; exact rfl)); (case kB => (intro y hy; simp only [List.mem_cons, List.not_mem_nil, or_false] at hy; rcases hy with rfl <;> exact ⟨rfl, rfl⟩)); (case kN => decide); (case c5 => decide); (case c2 => exact rfl); (case c3 => exact rfl); (case c4 => exact rfl)
  intro c Q0 hQ0 ro; (try simp only [List.zip_cons_cons, List.zip_nil_left, List.zip_nil_right])
  k_extra "w"
  (refine' ⟨_, _, ?et3, _, rfl, rfl⟩; (case et3 => k_extra "t"))
 ) only [↓eq_true]
theorem c_octets {w : World} (x dx ba : Addr) (full : List UInt8) (r n : Int) (hl : full.length < 2 ^ 20) : Con w 208 1 [.ref x] (wrL w x dx ba full r n) [] (IsR (.bytes full) (wrL w x dx ba full r n)) := by
 simp (disch := with_unfolding_all
  refine' Con.of ?k6 ?k7 ?hp ?hb ?hs ?hn ?hl ?k9 ?kB ?kN ?c5 ?c2 ?c3 ?c4 ?_; (case k6 => k_is); (case k7 => k_is); (case hp => (conv => lhs; whnf)); (case hb => (conv => lhs; whnf)); (case hs => (conv => lhs; whnf)); (case hn => (simp only [List.map_cons, List.map_nil]; exact rfl)); (case hl => exact rfl); (case k9 => (intro xs hx; obtain ⟨x0, rfl⟩ := len1 hx; exact rfl)); (case kB => (intro y hy; simp only [List.mem_cons, List.not_mem_nil, or_false] at hy; rcases hy with rfl <;> exact ⟨rfl, rfl⟩)); (case kN => decide); (case c5 => decide); (case c2 => exact rfl); (case c3 => exact rfl); (case c4 => exact rfl)
  intro c Q0 hQ0 ro; (try simp only [List.zip_cons_cons, List.zip_nil_left, List.zip_nil_right])
  k_extra "w"
  ((first | with_reducible refine' RetQ.is ?ok | with_reducible refine' RetQ.nx ?ok | refine' RetQ.is ?ok); (case ok => k_extra "t"))
 ) only [↓eq_true]
noncomputable def WrSt (full : List UInt8) (r n : Nat) (b : List Bool) : Prop := n < 8 ∧ r < 2 ^ n ∧ octB full ++ bitsN r n = b
inductive JPut (w : World) (x dx ba : Addr) (full : List UInt8) (r n v z : Nat) (N : Nat) : AFr → ALed → Prop
  | mk (full' : List UInt8) (R : Nat) (Ri Ni : Int) : Ri = R → Ni = N → R < 2 ^ N → octB full' ++ bitsN R N = octB full ++ bitsN r n ++ bitsN v z → 8 * full'.length + N = 8 * full.length + n + z → N ≤ n + z → JPut w x dx ba full r n v z N [vv "self" (.ref x)] (wrL w x dx ba full' Ri Ni)
theorem c_put {w : World} (x dx ba : Addr) (full : List UInt8) (r n : Nat) (v z : Nat) (hz : z < 64) (hv : v < 2 ^ z) (b : List Bool) (hw : WrSt full r n b) (hl : b.length < 2 ^ 20) :
   Con w 194 1 [.ref x, .int (v : Int), .int (z : Int)] (wrL w x dx ba full r n) [] (fun k led => ∃ full' r' n', k = .none ∧ WrSt full' r' n' (b ++ bitsN v z) ∧ led = wrL w x dx ba full' (r' : Nat) (n' : Nat)) := by
 simp (disch := with_unfolding_all
  refine' Con.of ?k6 ?k7 ?hp ?hb ?hs ?hn ?hl ?k9 ?kB ?kN ?c5 ?c2 ?c3 ?c4 ?_; (case k6 => k_is); (case k7 => k_is); (case hp => (conv => lhs; whnf)); (case hb => (conv => lhs; whnf)); (case hs => (conv => lhs; whnf)); (case hn => (simp only [List.map_cons, List.map_nil]; exact rfl)); (case hl => exact rfl); (case k9 => (intro xs hx; obtain ⟨x0, x1, x2, rfl⟩ := len3 hx; exact rfl)); (case kB => (intro y hy; simp only [List.mem_cons, List.not_mem_nil, or_false] at hy; rcases hy with rfl | rfl | rfl <;> exact ⟨rfl, rfl⟩)); (case kN => decide); (case c5 => decide); (case c2 => exact rfl); (case c3 => exact rfl); (case c4 => exact rfl)
  intro c Q0 hQ0 ro; (try simp only [List.zip_cons_cons, List.zip_nil_left, List.zip_nil_right])
  obtain ⟨hn, hr, rfl⟩ := hw
  rw [List.length_append, octB_len, bitsN_len] at hl
  have hv' : ((v : Int)) < 1 * 2 ^ ((z : Int).toNat) := by rw [Int.toNat_natCast, Int.one_mul]; exact_mod_cast hv
  have hr' : ((r : Int)).natAbs < 2 ^ 64 := by have := Nat.pow_le_pow_right (show 0 < 2 by decide) (show n ≤ 8 by k_extra "o"); k_extra "o"
  k_with "own" => with_reducible refine BIN.orE (bitOr_cat hv) ?_
  k_extra "w"
  (refine' ST.while_ (JPut w x dx ba full r n v z) (n + z) (.mk full (r * 2 ^ z + v) _ _ ?_ ?_ ?_ ?_ (by k_extra "o") (Nat.le_refl _)) ?rm1 ?rl1 (fun Q1 hQ1 => ?rt1); (case rm1 => k_extra "t"); (case rl1 => k_extra "t"))
  · rfl
  · k_extra "o"
  · rw [Nat.pow_add]
    have h1 : r * 2 ^ z + v < (r + 1) * 2 ^ z := by rw [Nat.add_mul]; k_extra "o"
    exact Nat.lt_of_lt_of_le h1 (Nat.mul_le_mul_right _ hr)
  · rw [bitsN_cat z hv, List.append_assoc]
  rintro N _ _ ⟨full', R, _, _, rfl, rfl, hR, hbits, hlen, hNz⟩
  by_cases h8 : 8 ≤ N
  · have hRd : R / 2 ^ (N - 8) < 256 := by
      rw [Nat.div_lt_iff_lt_mul (Nat.two_pow_pos _), show (256 : Nat) = 2 ^ 8 from rfl, ← Nat.pow_add, show 8 + (N - 8) = N by k_extra "o"]
      exact hR
    have hN8 : ((N : Int) - 8).toNat = N - 8 := by k_extra "o"
    k_with "own" => with_reducible first | refine BIN.shrE (shr_is hN8) (by k_extra "o") ?_ | refine BIN.andE (mask_is hN8) ?_
    k_extra "w"
    (refine' ⟨_, _, _, _, _, ?wk2, .mk _ (R % 2 ^ (N - 8)) _ _ rfl ?_ (Nat.mod_lt _ (Nat.two_pow_pos _)) ?_ ?_ ?_, ?rm2, ?rl2⟩; (case rm2 => k_extra "t"); (case rl2 => k_extra "t"))
    rotate_left 2
    · rw [octB_put hR h8]; exact hbits
    · rw [List.length_append, List.length_singleton]; k_extra "o"
    all_goals k_extra "o"
  · k_extra "w"
    (refine' ⟨_, _, ?et4, _, _, N, rfl, ⟨by k_extra "o", hR, hbits⟩, rfl⟩; (case et4 => k_extra "t"))
 ) only [↓eq_true]
structure HTd where
  dx : Addr
  sy : Addr
  rw : Addr
  cd : Addr
  ct : Addr
  rows : List Addr
  kvs : List (Int × V)
structure HTx (w : World) (fam : ALed) (h : Addr) (nb : Nat) (syms : List Int) (q : HTd) : Prop where
  m1 : (h, cInst 134 q.dx) ∈ fam
  m2 : (q.dx, cAttr w 134 [vv "codes" (.ref q.cd), vv "rows" (.ref q.rw), vv "symbols" (.ref q.sy), vv "counts" (.ref q.ct)]) ∈ fam
  m3 : (q.sy, cTup (syms.map .int)) ∈ fam
  m4 : (q.rw, cList (q.rows.map .ref)) ∈ fam
  m6 : nb < q.rows.length
  m7 : ∀ (i : Nat) (a : Addr), i ≤ nb → q.rows[i]? = some a → (a, cTup [.int 0, .int (if i = nb then (syms.length : Int) else 0), .int 0]) ∈ fam
  m8 : (q.cd, cDictI w q.kvs) ∈ fam
  m9 : q.cd ≠ sysModules
  m10 : ∀ (j : Nat) (s : Int), syms[j]? = some s → ∃ a, atI q.kvs s = some (.ref a) ∧ (a, cTup [.int (j : Int), .int ((nb + 1 : Nat) : Int)]) ∈ fam
noncomputable def HTab (w : World) (fam : ALed) (h : Addr) (nb : Nat) (syms : List Int) : Prop := ∃ q, HTx w fam h nb syms q
inductive JHr (w : World) (h x dx : Addr) (l : List UInt8) (k : Int) (nb : Nat) (i : Nat) : AFr → ALed → Prop
  | mk (cv p : Int) : cv = bitsI l k i → p = k + i → i ≤ nb → JHr w h x dx l k nb i [vv "code" (.int cv), vv "self" (.ref h), vv "reader" (.ref x)] (rdL w x dx l p)
theorem c_hread {w : World} (fam : ALed) (h : Addr) (nb : Nat) (syms : List Int) (hT : HTab w fam h nb syms) (hnb : nb < 20) (hm : syms.length < 2 ^ 20)
   (x dx : Addr) (l : List UInt8) (k : Int) (hb : l.length < 2 ^ 20) (h0 : 0 ≤ k) (h1 : k + (nb + 1 : Nat) ≤ 8 * (l.length : Int)) (s : Int) (hs : syms[(bitsI l k (nb + 1)).toNat]? = some s) :
   Con w 131 2 [.ref h, .ref x] (rdL w x dx l k) fam (IsR (.int s) (rdL w x dx l (k + (nb + 1 : Nat)))) := by
 simp (disch := with_unfolding_all
  obtain ⟨q, hT⟩ := hT
  refine' Con.of ?k6 ?k7 ?hp ?hb ?hs ?hn ?hl ?k9 ?kB ?kN ?c5 ?c2 ?c3 ?c4 ?_; (case k6 => k_is); (case k7 => k_is); (case hp => (conv => lhs; whnf)); (case hb => (conv => lhs; whnf)); (case hs => (conv => lhs; whnf)); (case hn => (simp only [List.map_cons, List.map_nil]; exact rfl)); (case hl => exact rfl); (case k9 => (intro xs hx; obtain ⟨x0, x1, rfl⟩ := len2 hx; exact rfl)); (case kB => (intro y hy; simp only [List.mem_cons, List.not_mem_nil, or_false] at hy; rcases hy with rfl | rfl <;> exact ⟨rfl, rfl⟩)); (case kN => decide); (case c5 => decide); (case c2 => exact rfl); (case c3 => exact rfl); (case c4 => exact rfl)
  intro c Q0 hQ0 ro; (try simp only [List.zip_cons_cons, List.zip_nil_left, List.zip_nil_right])
  have I1 := ro _ hT.m1
  have I2 := ro _ hT.m2
  have I3 := ro _ hT.m3
  have I4 := ro _ hT.m4
  have hlt : (bitsI l k (nb + 1)).toNat < syms.length := (List.getElem?_eq_some_iff.mp hs).1
  k_extra "w"
  (refine' ITER.list (JHr w h x dx l k nb) (fun _ _ _ _ => Has.r I4) (.mk 0 k rfl (Int.add_zero k).symm (Nat.zero_le _)) ?rm2 ?rl2 (fun Q2 hQ2 => ?rt2) ?rd2; (case rm2 => k_extra "t"); (case rl2 => k_extra "t"))
  · rintro i v _ _ hi hv ⟨cv, p, rfl, rfl, hle⟩
    rw [List.getElem?_map] at hv
    obtain ⟨a, ha, rfl⟩ := Option.map_eq_some_iff.mp hv
    have I5 := ro _ (hT.m7 i a hle ha)
    have hn0 := bitsI_nonneg l k i
    have hbi : bitsI l k (i + 1) = bitsI l k i * 2 + bitI l (k + i) := rfl
    have hn1 := bitI_nonneg l (k + i)
    k_extra "w"
    (refine' Con.callE (c_bit x dx l (k + i) hb (by k_extra "o") (by k_extra "o")) ?cd1 ?ct1 ?cf1 ?_; (case ct1 => k_extra "t"); (case cd1 => exact rfl); (case cf1 => k_extra "f"))
    by_cases hin : i = nb
    · subst hin
      simp only [if_true]
      have e : (0 + (bitsI l k i * 2 + bitI l (k + i)) - 0 : Int) = bitsI l k (i + 1) := by rw [hbi]; k_extra "o"
      k_with "item" => (rw [e, List.getElem?_map, hs]; exact rfl)
      k_extra "w"
      rw [show k + (i : Int) + 1 = k + ((i + 1 : Nat) : Int) by k_extra "o"]
      ((first | with_reducible refine' RetQ.is ?ok | with_reducible refine' RetQ.nx ?ok | refine' RetQ.is ?ok); (case ok => k_extra "t"))
    · rw [if_neg hin]
      k_extra "w"
      (refine' ⟨_, _, _, _, .mk _ _ ?_ ?_ ?_, ?rm3, ?rl3⟩; (case rm3 => k_extra "t"); (case rl3 => k_extra "t"))
      · rw [hbi]
      · k_extra "o"
      · k_extra "o"
  · rintro _ _ ⟨cv, p, rfl, rfl, hle⟩
    rw [List.length_map] at hle
    exact absurd hT.m6 (by k_extra "o")
 ) only [↓eq_true]
theorem c_hcode {w : World} (fam : ALed) (h : Addr) (nb : Nat) (syms : List Int) (hT : HTab w fam h nb syms) (j : Nat) (s : Int) (hj : syms[j]? = some s) :
   Con w 124 2 [.ref h, .int s] [] fam (fun v led => ∃ a, v = .ref a ∧ (a, cTup [.int (j : Int), .int ((nb + 1 : Nat) : Int)]) ∈ fam ∧ led = []) := by
 simp (disch := with_unfolding_all
  obtain ⟨q, hT⟩ := hT
  obtain ⟨a, hf, hm⟩ := hT.m10 j s hj
  refine' Con.of ?k6 ?k7 ?hp ?hb ?hs ?hn ?hl ?k9 ?kB ?kN ?c5 ?c2 ?c3 ?c4 ?_; (case k6 => k_is); (case k7 => k_is); (case hp => (conv => lhs; whnf)); (case hb => (conv => lhs; whnf)); (case hs => (conv => lhs; whnf)); (case hn => (simp only [List.map_cons, List.map_nil]; exact rfl)); (case hl => exact rfl); (case k9 => (intro xs hx; obtain ⟨x0, x1, rfl⟩ := len2 hx; exact rfl)); (case kB => (intro y hy; simp only [List.mem_cons, List.not_mem_nil, or_false] at hy; rcases hy with rfl | rfl <;> exact ⟨rfl, rfl⟩)); (case kN => decide); (case c5 => decide); (case c2 => exact rfl); (case c3 => exact rfl); (case c4 => exact rfl)
  intro c Q0 hQ0 ro; (try simp only [List.zip_cons_cons, List.zip_nil_left, List.zip_nil_right])
  have I1 := ro _ hT.m1
  have I2 := ro _ hT.m2
  have I3 := ro _ hT.m8
  k_extra "w"
  refine CALL.dget (Has.r I3) hT.m9 hf ?_
  k_extra "w"
  (refine' ⟨_, _, ?et4, _, rfl, hm, rfl⟩; (case et4 => k_extra "t"))
 ) only [↓eq_true]
theorem pow_sub1 (z : Nat) : 2 ^ (z + 1) - 1 = 2 * (2 ^ z - 1) + 1 := by
  rw [Nat.pow_succ, Nat.mul_comm]
  obtain ⟨k, hk⟩ := Nat.exists_eq_succ_of_ne_zero (Nat.ne_of_gt (Nat.two_pow_pos z))
  rw [hk]; rfl
theorem bitsN_ones : ∀ z : Nat, bitsN (2 ^ z - 1) z = List.replicate z true
  | 0 => rfl
  | z + 1 => by
    rw [bitsN, pow_sub1, Nat.mul_add_div (by decide), Nat.mul_add_mod, show 2 ^ z - 1 + 1 / 2 = 2 ^ z - 1 from rfl, bitsN_ones z, List.replicate_succ']; rfl
noncomputable def padB (b : List Bool) : List Bool := b ++ List.replicate ((8 - b.length % 8) % 8) true
theorem padB_len (b : List Bool) : (padB b).length % 8 = 0 := by unfold padB; rw [List.length_append, List.length_replicate, Nat.add_mod, Nat.mod_mod]; exact (by decide : ∀ r < 8, (r + (8 - r) % 8) % 8 = 0) _ (Nat.mod_lt _ (by decide))
theorem WrSt.len {full : List UInt8} {r n : Nat} {b : List Bool} (h : WrSt full r n b) : b.length = 8 * full.length + n := by
  rw [← h.2.2, List.length_append, octB_len, bitsN_len]
theorem WrSt.whole {full : List UInt8} {r n : Nat} {b : List Bool} (h : WrSt full r n b) (h8 : b.length % 8 = 0) : r = 0 ∧ n = 0 ∧ octB full = b := by
  have h1 := h.len
  have h2 := h.1
  obtain rfl : n = 0 := by rw [h1, Nat.mul_add_mod, Nat.mod_eq_of_lt h2] at h8; exact h8
  have h3 := h.2.1
  refine ⟨by k_extra "o", rfl, ?_⟩
  rw [← h.2.2]
  show octB full = octB full ++ []
  rw [List.append_nil]
theorem WrSt.pad0 {full : List UInt8} {r n : Nat} {b : List Bool} (h : WrSt full r n b) (h0 : n = 0) : WrSt full r n (padB b) := by
  subst h0
  have := h.len
  unfold padB
  rw [this, Nat.add_zero, Nat.mul_mod_right, Nat.sub_zero, Nat.mod_self, List.replicate_zero, List.append_nil]
  exact h
theorem WrSt.pad1 {full full' : List UInt8} {r n r' n' : Nat} {b : List Bool} (h : WrSt full r n b) (h0 : 0 < n) (h' : WrSt full' r' n' (b ++ bitsN (2 ^ (8 - n) - 1) (8 - n))) : WrSt full' r' n' (padB b) := by
  have h1 := h.len
  have h2 := h.1
  unfold padB
  rw [h1, Nat.mul_add_mod, Nat.mod_eq_of_lt h2, Nat.mod_eq_of_lt (Nat.sub_lt (by decide) h0), ← bitsN_ones]
  exact h'
theorem ones_is {n : Nat} (h : n < 8) : (1 : Int) * 2 ^ ((8 : Int) - n).toNat - 1 = ((2 ^ (8 - n) - 1 : Nat) : Int) := by
  rw [show ((8 : Int) - n).toNat = 8 - n from Int.toNat_sub 8 n]
  have := Nat.two_pow_pos (8 - n)
  rw [Int.one_mul, Int.natCast_sub this]
  push_cast
  rfl
theorem sub8 {n : Nat} (h : n < 8) : (8 : Int) - n = ((8 - n : Nat) : Int) := (Int.ofNat_sub (Nat.le_of_lt h)).symm
theorem c_pad {w : World} (x dx ba : Addr) (full : List UInt8) (r n : Nat) (b : List Bool) (hw : WrSt full r n b) (hl : b.length < 2 ^ 20) :
   Con w 201 2 [.ref x] (wrL w x dx ba full (r : Nat) (n : Nat)) [] (fun k led => ∃ full' r' n', k = .none ∧ WrSt full' r' n' (padB b) ∧ led = wrL w x dx ba full' (r' : Nat) (n' : Nat)) := by
 simp (disch := with_unfolding_all
  refine' Con.of ?k6 ?k7 ?hp ?hb ?hs ?hn ?hl ?k9 ?kB ?kN ?c5 ?c2 ?c3 ?c4 ?_; (case k6 => k_is); (case k7 => k_is); (case hp => (conv => lhs; whnf)); (case hb => (conv => lhs; whnf)); (case hs => (conv => lhs; whnf)); (case hn => (simp only [List.map_cons, List.map_nil]; exact rfl)); (case hl => exact rfl); (case k9 => (intro xs hx; obtain ⟨x0, rfl⟩ := len1 hx; exact rfl)); (case kB => (intro y hy; simp only [List.mem_cons, List.not_mem_nil, or_false] at hy; rcases hy with rfl <;> exact ⟨rfl, rfl⟩)); (case kN => decide); (case c5 => decide); (case c2 => exact rfl); (case c3 => exact rfl); (case c4 => exact rfl)
  intro c Q0 hQ0 ro; (try simp only [List.zip_cons_cons, List.zip_nil_left, List.zip_nil_right])
  have hn := hw.1
  k_extra "w"
  · rw [ones_is hn, sub8 hn]
    (refine' Con.call (c_put x dx ba full r n (2 ^ (8 - n) - 1) (8 - n) (by k_extra "o") (by have := Nat.two_pow_pos (8 - n); k_extra "o") b hw hl) ?cd1 ?ct1 ?cf1 ?cz1; (case ct1 => k_extra "t"); (case cd1 => exact rfl); (case cf1 => k_extra "f"))
    rintro _ _ ⟨full', r', n', rfl, hw', rfl⟩
    k_extra "w"
    (refine' ⟨_, _, ?et2, _, _, _, rfl, hw.pad1 (by k_extra "o") hw', rfl⟩; (case et2 => k_extra "t"))
  · (refine' ⟨_, _, ?et3, _, _, _, rfl, hw.pad0 (by k_extra "o"), rfl⟩; (case et3 => k_extra "t"))
 ) only [↓eq_true]
noncomputable def SymAt (l : List UInt8) (p : Int) (nb : Nat) (syms : List Int) (s : Int) : Prop :=
  p + (nb + 1 : Nat) ≤ 8 * (l.length : Int) ∧ syms[(bitsI l p (nb + 1)).toNat]? = some s
inductive AcAt (l : List UInt8) (nb : Nat) (syms : List Int) (many : Nat) : Int → Nat → List Int → Int → Prop
  | done {p : Int} : AcAt l nb syms many p many [] p
  | eob {p : Int} {k : Nat} : k < many → SymAt l p nb syms 0 → AcAt l nb syms many p k (List.replicate (many - k) 0) (p + (nb + 1 : Nat))
  | zrl {p q : Int} {k : Nat} {vs : List Int} : k + 15 < many → SymAt l p nb syms 240 → AcAt l nb syms many (p + (nb + 1 : Nat)) (k + 16) vs q → AcAt l nb syms many p k (List.replicate 16 0 ++ vs) q
  | val {p q : Int} {k r z : Nat} {vs : List Int} : k + r < many → r < 16 → 0 < z → z < 16 → SymAt l p nb syms (16 * r + z) → p + (nb + 1 : Nat) + z ≤ 8 * (l.length : Int) →
      AcAt l nb syms many (p + (nb + 1 : Nat) + z) (k + r + 1) vs q → AcAt l nb syms many p k (List.replicate r 0 ++ valueOfI (bitsI l (p + (nb + 1 : Nat)) z) z :: vs) q
structure BlkSt (full fs ws : List Int) (many kk : Nat) : Prop where
  fs : fs = full.take kk ++ List.replicate (many - kk) 0
  ws : full.drop kk = ws
  len : full.length = many
  le : kk ≤ many
theorem BlkSt.eob {full fs : List Int} {many kk : Nat} (B : BlkSt full fs (List.replicate (many - kk) 0) many kk) : fs = full := by
  rw [B.fs, ← B.ws, List.take_append_drop]
theorem BlkSt.done {full fs ws : List Int} {many : Nat} (B : BlkSt full fs ws many many) : fs = full := by
  rw [B.fs, Nat.sub_self, List.replicate_zero, List.append_nil, List.take_of_length_le (Nat.le_of_eq B.len)]
theorem BlkSt.skip {full fs ws : List Int} {many kk r : Nat} (B : BlkSt full fs (List.replicate r 0 ++ ws) many kk) (h : kk + r ≤ many) : BlkSt full fs ws many (kk + r) := by
  refine ⟨?_, ?_, B.len, h⟩
  · rw [B.fs, List.take_add, B.ws, List.append_assoc]
    congr 1
    rw [List.take_append_of_le_length (by rw [List.length_replicate]; exact Nat.le_refl _), List.take_of_length_le (by rw [List.length_replicate]; exact Nat.le_refl _), List.replicate_append_replicate]
    congr 1
    k_extra "o"
  · rw [← List.drop_drop, B.ws, List.drop_append_of_le_length (by rw [List.length_replicate]; exact Nat.le_refl _), List.drop_of_length_le (by rw [List.length_replicate]; exact Nat.le_refl _), List.nil_append]
theorem BlkSt.put {full fs ws : List Int} {many kk : Nat} {c : Int} (B : BlkSt full fs (c :: ws) many kk) (h : kk < many) : BlkSt full (fs.set kk c) ws many (kk + 1) := by
  have hl : kk < full.length := by rw [B.len]; exact h
  have hc : full[kk] = c := by
    have := B.ws
    rw [List.drop_eq_getElem_cons hl] at this
    exact (List.cons.inj this).1
  have hw : full.drop (kk + 1) = ws := by
    have := B.ws
    rw [List.drop_eq_getElem_cons hl] at this
    exact (List.cons.inj this).2
  refine ⟨?_, hw, B.len, h⟩
  have ht : (full.take kk).length = kk := by rw [List.length_take]; k_extra "o"
  rw [B.fs, List.set_append_right _ _ (by k_extra "o"), ht, Nat.sub_self, List.take_succ_eq_append_getElem hl, hc]
  rw [show many - kk = (many - (kk + 1)) + 1 by k_extra "o", List.replicate_succ, List.set_cons_zero, List.append_assoc]
  rfl
theorem BlkSt.at {full fs ws : List Int} {many kk : Nat} (B : BlkSt full fs ws many kk) : fs.length = many := by
  rw [B.fs, List.length_append, List.length_take, List.length_replicate, B.len]
  have := B.le
  k_extra "o"
theorem AcAt.len {l : List UInt8} {nb : Nat} {syms : List Int} {many : Nat} {p q : Int} {k : Nat} {vs : List Int} (h : AcAt l nb syms many p k vs q) : k + vs.length = many := by
  induction h with
  | done => rfl
  | eob hk _ => rw [List.length_replicate]; k_extra "o"
  | zrl hk _ _ ih => rw [List.length_append, List.length_replicate]; k_extra "o"
  | val hk _ _ _ _ _ _ ih => rw [List.length_append, List.length_replicate, List.length_cons]; k_extra "o"
theorem fdiv16 {r z : Nat} (hr : r < 16) (hz : z < 16) : (16 * (r : Int) + (z : Int)).fdiv 16 = (r : Int) := by
  rw [Int.fdiv_eq_ediv_of_nonneg _ (by decide)]
  show (((16 * r + z) / 16 : Nat) : Int) = r
  rw [Nat.mul_add_div (by decide), Nat.div_eq_of_lt hz, Nat.add_zero]
theorem fmod16 {r z : Nat} (hr : r < 16) (hz : z < 16) : (16 * (r : Int) + (z : Int)).fmod 16 = (z : Int) := by
  rw [Int.fmod_eq_emod_of_nonneg _ (by decide)]
  show (((16 * r + z) % 16 : Nat) : Int) = z
  rw [Nat.mul_add_mod, Nat.mod_eq_of_lt hz]
noncomputable abbrev srL (w : World) (x dx sc tb bf : Addr) (many : Int) (rd : V) : ALed := [(x, cInst 372 dx), (dx, cAttr w 372 [vv "before" (.ref bf), vv "reader" rd, vv "tables" (.ref tb), vv "many" (.int many), vv "scan" (.ref sc)])]
theorem c_rnumber {w : World} (x dx sc tb bf : Addr) (many : Int) (rx rdx : Addr) (l : List UInt8) (k : Int) (hb : l.length < 2 ^ 20) (h0 : 0 ≤ k) (n : Nat) (hn : n < 64) (h1 : k + n ≤ 8 * (l.length : Int)) :
   Con w 355 4 [.ref x, .int (n : Int)] (apL (srL w x dx sc tb bf many (.ref rx)) (rdL w rx rdx l k)) [] (IsR (.int (valueOfI (bitsI l k n) n)) (apL (srL w x dx sc tb bf many (.ref rx)) (rdL w rx rdx l (k + n)))) := by
 simp (disch := with_unfolding_all
  refine' Con.of ?k6 ?k7 ?hp ?hb ?hs ?hn ?hl ?k9 ?kB ?kN ?c5 ?c2 ?c3 ?c4 ?_; (case k6 => k_is); (case k7 => k_is); (case hp => (conv => lhs; whnf)); (case hb => (conv => lhs; whnf)); (case hs => (conv => lhs; whnf)); (case hn => (simp only [List.map_cons, List.map_nil]; exact rfl)); (case hl => exact rfl); (case k9 => (intro xs hx; obtain ⟨x0, x1, rfl⟩ := len2 hx; exact rfl)); (case kB => (intro y hy; simp only [List.mem_cons, List.not_mem_nil, or_false] at hy; rcases hy with rfl | rfl <;> exact ⟨rfl, rfl⟩)); (case kN => decide); (case c5 => decide); (case c2 => exact rfl); (case c3 => exact rfl); (case c4 => exact rfl)
  intro c Q0 hQ0 ro; (try simp only [List.zip_cons_cons, List.zip_nil_left, List.zip_nil_right])
  k_extra "w"
  (refine' Con.callE (c_bits rx rdx l k hb h0 n hn h1) ?cd1 ?ct1 ?cf1 ?_; (case ct1 => k_extra "t"); (case cd1 => exact rfl); (case cf1 => k_extra "f"))
  k_extra "w"
  (refine' Con.callE (c_value_of _ n hn) ?cd2 ?ct2 ?cf2 ?_; (case ct2 => k_extra "t"); (case cd2 => exact rfl); (case cf2 => k_extra "f"))
  k_extra "w"
  ((first | with_reducible refine' RetQ.is ?ok | with_reducible refine' RetQ.nx ?ok | refine' RetQ.is ?ok); (case ok => k_extra "t"))
 ) only [↓eq_true]
structure Tabs (w : World) (fam : ALed) (td : Addr) (xs : List (List Int × Addr × V)) : Prop where
  obj : (td, cDictT w xs) ∈ fam
  key : ∀ x ∈ xs, ∃ i j, x.1 = [i, j] ∧ (x.2.1, cTup [.int i, .int j]) ∈ fam
structure ScD where
  dx : Addr
  pl : Addr
  dl : Addr
  al : Addr
  st : V
  en : V
  hi : V
  lo : V
structure ScX (w : World) (fam : ALed) (sc : Addr) (dcs acs : List Int) (q : ScD) : Prop where
  m1 : (sc, cInst 169 q.dx) ∈ fam
  m2 : (q.dx, cAttr w 169 [vv "low" q.lo, vv "high" q.hi, vv "end" q.en, vv "start" q.st, vv "ac_slots" (.ref q.al), vv "dc_slots" (.ref q.dl), vv "places" (.ref q.pl)]) ∈ fam
  m3 : (q.dl, cList (dcs.map .int)) ∈ fam
  m4 : (q.al, cList (acs.map .int)) ∈ fam
noncomputable def ScanF (w : World) (fam : ALed) (sc : Addr) (dcs acs : List Int) : Prop := ∃ q, ScX w fam sc dcs acs q
inductive JRr (w : World) (x dx sc tb bf rx rdx hA : Addr) (many : Nat) (bw : List V) (full vs : List Int) (l : List UInt8) (nb : Nat) (sA : List Int) (k1 : Int) (n : Nat) : AFr → ALed → Prop
  | mk (kk : Nat) (K p : Int) (fl : List V) (fs ws : List Int) (D : Addr) : n = many + 1 - kk → K = kk → fl = fs.map .int → AcAt l nb sA many p kk ws k1 → BlkSt full fs ws many kk → 0 ≤ p →
      JRr w x dx sc tb bf rx rdx hA many bw full vs l nb sA k1 n [vv "k" (.int K), vv "table" (.ref hA), vv "found" (.ref D), vv "self" (.ref x)] ((D, cList fl) :: (bf, cList bw) :: apL (srL w x dx sc tb bf many (.ref rx)) (rdL w rx rdx l p))
theorem map_at {ns : List Int} {i : Nat} {x : Int} (h : ns[i]? = some x) : (ns.map V.int)[((i : Int)).toNat]? = some (.int x) := by rw [Int.toNat_natCast, List.getElem?_map, h]; rfl
theorem c_rread {w : World} (fam : ALed) (x dx sc tb bf : Addr) (many : Nat) (rx rdx : Addr) (l : List UInt8) (k0 : Int) (bvs : List V)
   (hb : l.length < 2 ^ 20) (h0 : 0 ≤ k0) (dcs acs : List Int) (hS : ScanF w fam sc dcs acs) (xs : List (List Int × Addr × V)) (hT : Tabs w fam tb xs)
   (pl : Nat) (rw : V) (ds as : Int) (hd : dcs[pl]? = some ds) (ha : acs[pl]? = some as) (kd ka hD hA : Addr) (hkd : atT xs [0, ds] = some (kd, .ref hD)) (hka : atT xs [1, as] = some (ka, .ref hA))
   (nb : Nat) (sD sA : List Int) (hnb : nb < 20) (HD : HTab w fam hD nb sD) (HA : HTab w fam hA nb sA) (hlD : sD.length < 2 ^ 20) (hlA : sA.length < 2 ^ 20)
   (old : Int) (hold : bvs[pl]? = some (.int old)) (hpl : pl < 2 ^ 30) (z : Nat) (hz : z < 16) (hsd : SymAt l k0 nb sD z) (hroom : k0 + (nb + 1 : Nat) + z ≤ 8 * (l.length : Int)) (hm1 : 1 < many) (hm2 : many < 100)
   (vs : List Int) (k1 : Int) (hac : AcAt l nb sA many (k0 + (nb + 1 : Nat) + z) 1 vs k1) :
   Con w 362 6 [.ref x, .int (pl : Int), rw] ((bf, cList bvs) :: apL (srL w x dx sc tb bf many (.ref rx)) (rdL w rx rdx l k0)) fam
    (fun r led => ∃ fa v, r = .ref fa ∧ v = old + valueOfI (bitsI l (k0 + (nb + 1 : Nat)) z) z ∧ led = (fa, cList ((v :: vs).map .int)) :: (bf, cList (bvs.set pl (.int v))) :: apL (srL w x dx sc tb bf many (.ref rx)) (rdL w rx rdx l k1)) := by
 simp (disch := with_unfolding_all
  obtain ⟨sq, hS⟩ := hS
  obtain ⟨qD, HDx⟩ := id HD
  obtain ⟨qA, HAx⟩ := id HA
  refine' Con.of ?k6 ?k7 ?hp ?hb ?hs ?hn ?hl ?k9 ?kB ?kN ?c5 ?c2 ?c3 ?c4 ?_; (case k6 => k_is); (case k7 => k_is); (case hp => (conv => lhs; whnf)); (case hb => (conv => lhs; whnf)); (case hs => (conv => lhs; whnf)); (case hn => (simp only [List.map_cons, List.map_nil]; exact rfl)); (case hl => exact rfl); (case k9 => (intro xs hx; obtain ⟨x0, x1, x2, rfl⟩ := len3 hx; exact rfl)); (case kB => (intro y hy; simp only [List.mem_cons, List.not_mem_nil, or_false] at hy; rcases hy with rfl | rfl | rfl <;> exact ⟨rfl, rfl⟩)); (case kN => decide); (case c5 => decide); (case c2 => exact rfl); (case c3 => exact rfl); (case c4 => exact rfl)
  intro c Q0 hQ0 ro; (try simp only [List.zip_cons_cons, List.zip_nil_left, List.zip_nil_right])
  have I1 := ro _ hS.m1
  have I2 := ro _ hS.m2
  have I3 := ro _ hS.m3
  have I4 := ro _ hS.m4
  have I5 := ro _ hT.obj
  have hks : ∀ led, KeysAt c led xs := fun led q hq => by obtain ⟨i, j, e, hm⟩ := hT.key q hq; exact ⟨i, j, e, .inr (ro _ hm)⟩
  have J1 := ro _ HDx.m1
  have J2 := ro _ HDx.m2
  have J3 := ro _ HAx.m1
  have J4 := ro _ HAx.m2
  have q1 := map_at hd
  have q2 := map_at ha
  have hlt : pl < bvs.length := (List.getElem?_eq_some_iff.mp hold).1
  have hold' : bvs[((pl : Int)).toNat]? = some (.int old) := by rw [Int.toNat_natCast]; exact hold
  have hset : ∀ v, (bvs.set pl v)[((pl : Int)).toNat]? = some v := fun v => by rw [Int.toNat_natCast]; exact List.getElem?_set_self hlt
  k_with "item" => exact hset _
  k_extra "w"
  refine SUB.dictT (Has.r I5) (by k_extra "h") (hks _) hkd rfl ?_
  k_extra "w"
  (refine' Con.callE (c_hread fam hD nb sD HD hnb hlD rx rdx l k0 hb h0 hsd.1 _ hsd.2) ?cd3 ?ct3 ?cf3 ?_; (case ct3 => k_extra "t"); (case cd3 => exact rfl); (case cf3 => k_extra "f"))
  k_extra "w"
  (refine' Con.callE (c_rnumber x dx sc tb bf many rx rdx l (k0 + (nb + 1 : Nat)) hb (by k_extra "o") z (by k_extra "o") hroom) ?cd4 ?ct4 ?cf4 ?_; (case ct4 => k_extra "t"); (case cd4 => exact rfl); (case cf4 => k_extra "f"))
  k_extra "w"
  refine SUB.dictT (Has.r I5) (by k_extra "h") (hks _) hka rfl ?_
  k_extra "w"
  generalize hv0 : old + valueOfI (bitsI l (k0 + (nb + 1 : Nat)) z) z = v0 at hQ0 ⊢
  have hlen : vs.length = many - 1 := by have := hac.len; k_extra "o"
  have hb0 : BlkSt (v0 :: vs) ((List.replicate many (0 : Int)).set 0 v0) vs many 1 := by
    have b : BlkSt (v0 :: vs) (List.replicate many 0) (v0 :: vs) many 0 := ⟨by simp, rfl, by simp only [List.length_cons]; k_extra "o", Nat.zero_le _⟩
    exact b.put (by k_extra "o")
  (refine' ST.while_ (JRr w x dx sc tb bf rx rdx hA many (bvs.set pl (.int v0)) (v0 :: vs) vs l nb sA k1) (many) (.mk 1 _ _ _ _ vs _ ?_ ?_ ?_ hac hb0 ?_) ?rm9 ?rl9 (fun Q9 hQ9 => ?rt9); (case rm9 => k_extra "t"); (case rl9 => k_extra "t"))
  · k_extra "o"
  · rfl
  · rw [List.map_set, List.map_replicate]
  · k_extra "o"
  rintro n _ _ ⟨kk, K, p, fl, fs, ws, D, rfl, rfl, rfl, hA', hB, hp⟩
  cases hA' with
  | done =>
    obtain rfl := hB.done
    k_extra "w"
    (refine' ⟨_, _, ?et12, _, _, rfl, rfl, rfl⟩; (case et12 => k_extra "t"))
  | eob hk hsy =>
    obtain rfl := hB.eob
    k_extra "w"
    (refine' Con.callE (c_hread fam hA nb sA HA hnb hlA rx rdx l p hb hp hsy.1 _ hsy.2) ?cd5 ?ct5 ?cf5 ?_; (case ct5 => k_extra "t"); (case cd5 => exact rfl); (case cf5 => k_extra "f"))
    k_with "own" => with_reducible first | refine BIN.fdivE (show (0 : Int).fdiv 16 = 0 by decide) (by decide) (by decide) ?_ | refine BIN.modE (show (0 : Int).fmod 16 = 0 by decide) (by decide) ?_
    k_extra "w"
    (refine' ⟨_, _, ?et13, _, _, rfl, rfl, rfl⟩; (case et13 => k_extra "t"))
  | zrl hk hsy hAc' =>
    k_extra "w"
    (refine' Con.callE (c_hread fam hA nb sA HA hnb hlA rx rdx l p hb hp hsy.1 _ hsy.2) ?cd6 ?ct6 ?cf6 ?_; (case ct6 => k_extra "t"); (case cd6 => exact rfl); (case cf6 => k_extra "f"))
    k_with "own" => with_reducible first | refine BIN.fdivE (show (240 : Int).fdiv 16 = 15 by decide) (by decide) (by decide) ?_ | refine BIN.modE (show (240 : Int).fmod 16 = 0 by decide) (by decide) ?_
    k_extra "w"
    (refine' ⟨_, _, _, _, _, ?wk10, .mk (kk + 16) _ _ _ _ _ _ rfl ?_ rfl hAc' (hB.skip (by k_extra "o")) ?_, ?rm10, ?rl10⟩; (case rm10 => k_extra "t"); (case rl10 => k_extra "t"))
    all_goals k_extra "o"
  | val hk hr hz0 hz1 hsy hpz hAc' =>
    rename_i r zz _
    k_extra "w"
    (refine' Con.callE (c_hread fam hA nb sA HA hnb hlA rx rdx l p hb hp hsy.1 _ hsy.2) ?cd7 ?ct7 ?cf7 ?_; (case ct7 => k_extra "t"); (case cd7 => exact rfl); (case cf7 => k_extra "f"))
    k_with "own" => with_reducible first | refine BIN.fdivE (fdiv16 hr hz1) (by decide) (by decide) ?_ | refine BIN.modE (fmod16 hr hz1) (by decide) ?_
    k_with "nat" => exact (Int.natCast_add _ _).symm
    k_with "len" => (rw [List.length_map, hB.at]; exact hk)
    k_extra "w"
    (refine' Con.callE (c_rnumber x dx sc tb bf many rx rdx l (p + (nb + 1 : Nat)) hb (by k_extra "o") zz (by k_extra "o") hpz) ?cd8 ?ct8 ?cf8 ?_; (case ct8 => k_extra "t"); (case cd8 => exact rfl); (case cf8 => k_extra "f"))
    k_extra "w"
    (refine' ⟨_, _, _, _, _, ?wk11, .mk (kk + r + 1) _ _ _ _ _ _ rfl ?_ (List.map_set).symm hAc' ((hB.skip (by k_extra "o")).put (by k_extra "o")) ?_, ?rm11, ?rl11⟩; (case rm11 => k_extra "t"); (case rl11 => k_extra "t"))
    all_goals k_extra "o"
 ) only [↓eq_true]
inductive Op | sym (i j s : Int) | bits (v n : Nat)
noncomputable def symB (nb : Nat) (syms : List Int) (s : Int) : List Bool := bitsN (syms.idxOf s) (nb + 1)
noncomputable def opB (nb : Nat) (sy : Int → Int → List Int) : Op → List Bool
  | .sym i j s => symB nb (sy i j) s
  | .bits v n => bitsN v n
noncomputable def opsB (nb : Nat) (sy : Int → Int → List Int) (ops : List Op) : List Bool := ops.flatMap (opB nb sy)
theorem opsB_append (nb : Nat) (sy : Int → Int → List Int) (a b : List Op) : opsB nb sy (a ++ b) = opsB nb sy a ++ opsB nb sy b := by unfold opsB; rw [List.flatMap_append]
theorem opsB_one (nb : Nat) (sy : Int → Int → List Int) (o : Op) : opsB nb sy [o] = opB nb sy o := by simp [opsB]
noncomputable abbrev kCell (i j : Int) : Cell := cTup [.int i, .int j]
structure SinkI (w : World) (x C fS fB fF : Addr) (d : Nat) (fam : ALed) (okS : Int → Int → Int → Prop) (Sk : ALed → List Op → ALed → Prop) (Fin : List Op → V → List Op → Prop) : Prop where
  inst : ∀ P ops led, Sk P ops led → ∃ dx l, (x, cInst C dx) ∈ led ∧ (dx, cAttr w C l) ∈ led ∧ notIn "symbol" l = true ∧ notIn "bits" l = true ∧ notIn "finish" l = true
  mS : Meth w C "symbol" fS
  mB : Meth w C "bits" fB
  mF : Meth w C "finish" fF
  more : ∀ P ops led q, Sk P ops led → Sk (q :: P) ops (apL led [q])
  less : ∀ P P' ops led, Sk P ops led → (∀ q ∈ P', q ∈ P) → Sk P' ops led
  sym : ∀ P ops led i j s kx, Sk P ops led → (kx, kCell i j) ∈ P → okS i j s → ops.length < 1000 → Con w fS d [.ref x, .ref kx, .int s] led fam (fun v led' => v = .none ∧ Sk P (ops ++ [.sym i j s]) led')
  bits : ∀ P ops led v n, Sk P ops led → n < 64 → v < 2 ^ n → ops.length < 1000 → Con w fB d [.ref x, .int (v : Nat), .int (n : Nat)] led fam (fun r led' => r = .none ∧ Sk P (ops ++ [.bits v n]) led')
  fin : ∀ P ops led, Sk P ops led → ops.length < 1000 → Con w fF d [.ref x] led fam (fun v led' => ∃ ops', Fin ops v ops' ∧ Sk P ops' led')
section
variable {w : World} {dd : Nat} {cs : Scope} {c : Cx w dd cs} {m : AFr} {led : ALed} {x C fS fB fF : Addr} {d : Nat} {fam : ALed} {okS : Int → Int → Int → Prop} {Sk : ALed → List Op → ALed → Prop} {Fin : List Op → V → List Op → Prop} {P : ALed} {ops : List Op} {l : ALed} {K : Value → List V → ALed → Prop}
theorem SinkI.metS (S : SinkI w x C fS fB fF d fam okS Sk Fin) (hk : Sk P ops l) (sub : ∀ q ∈ l, q ∈ led) (k : K (.ref fS) [.ref x] led) : METH c m led (.ref x) "symbol" (kKeep w K) := by
  obtain ⟨_, _, h1, h2, h3, -, -⟩ := S.inst _ _ _ hk
  exact METH.inst (Has.l (sub _ h1)) (Has.l (sub _ h2)) S.mS h3 k
theorem SinkI.metB (S : SinkI w x C fS fB fF d fam okS Sk Fin) (hk : Sk P ops l) (sub : ∀ q ∈ l, q ∈ led) (k : K (.ref fB) [.ref x] led) : METH c m led (.ref x) "bits" (kKeep w K) := by
  obtain ⟨_, _, h1, h2, -, h3, -⟩ := S.inst _ _ _ hk
  exact METH.inst (Has.l (sub _ h1)) (Has.l (sub _ h2)) S.mB h3 k
theorem SinkI.metF (S : SinkI w x C fS fB fF d fam okS Sk Fin) (hk : Sk P ops l) (sub : ∀ q ∈ l, q ∈ led) (k : K (.ref fF) [.ref x] led) : METH c m led (.ref x) "finish" (kKeep w K) := by
  obtain ⟨_, _, h1, h2, -, -, h3⟩ := S.inst _ _ _ hk
  exact METH.inst (Has.l (sub _ h1)) (Has.l (sub _ h2)) S.mF h3 k
end
noncomputable abbrev csL (w : World) (x dx tb wx : Addr) : ALed := [(x, cInst 414 dx), (dx, cAttr w 414 [vv "writer" (.ref wx), vv "tables" (.ref tb)])]
noncomputable def CodeSk (w : World) (x tb : Addr) (nb : Nat) (sy : Int → Int → List Int) (P : ALed) (ops : List Op) (led : ALed) : Prop :=
  ∃ (dx wx wdx ba : Addr) (full : List UInt8) (r n : Nat) (ri ni : Int) (pool : ALed), led = apL (csL w x dx tb wx) (apL (wrL w wx wdx ba full ri ni) pool) ∧ (∀ q ∈ P, q ∈ pool) ∧ ri = r ∧ ni = n ∧ WrSt full r n (opsB nb sy ops) ∧ (opsB nb sy ops).length ≤ 64 * ops.length
structure TabOk (w : World) (fam : ALed) (tb : Addr) (nb : Nat) (sy : Int → Int → List Int) (xs : List (List Int × Addr × V)) (i j s : Int) : Prop where
  tab : ∃ kd h, atT xs [i, j] = some (kd, .ref h) ∧ HTab w fam h nb (sy i j)
  mem : s ∈ sy i j
  len : (sy i j).length ≤ 2 ^ (nb + 1)
theorem idx_at {syms : List Int} {s : Int} (h : s ∈ syms) : syms[syms.idxOf s]? = some s := by
  rw [List.getElem?_eq_getElem (List.idxOf_lt_length_of_mem h), List.getElem_idxOf]
theorem c_csym {w : World} (fam : ALed) (x tb : Addr) (nb : Nat) (hnb : nb < 20) (sy : Int → Int → List Int) (xs : List (List Int × Addr × V)) (hT : Tabs w fam tb xs) (P : ALed) (ops : List Op) (led : ALed) (i j s : Int) (kx : Addr) (hk : CodeSk w x tb nb sy P ops led) (hP : (kx, kCell i j) ∈ P) (ok : TabOk w fam tb nb sy xs i j s) (hl : ops.length < 1000) :
   Con w 397 4 [.ref x, .ref kx, .int s] led fam (fun v led' => v = .none ∧ CodeSk w x tb nb sy P (ops ++ [.sym i j s]) led') := by
 simp (disch := with_unfolding_all
  obtain ⟨dx, wx, wdx, ba, full, r, n, _, _, pool, rfl, hpool, rfl, rfl, hw, hlen⟩ := hk
  refine' Con.of ?k6 ?k7 ?hp ?hb ?hs ?hn ?hl ?k9 ?kB ?kN ?c5 ?c2 ?c3 ?c4 ?_; (case k6 => k_is); (case k7 => k_is); (case hp => (conv => lhs; whnf)); (case hb => (conv => lhs; whnf)); (case hs => (conv => lhs; whnf)); (case hn => (simp only [List.map_cons, List.map_nil]; exact rfl)); (case hl => exact rfl); (case k9 => (intro xs hx; obtain ⟨x0, x1, x2, rfl⟩ := len3 hx; exact rfl)); (case kB => (intro y hy; simp only [List.mem_cons, List.not_mem_nil, or_false] at hy; rcases hy with rfl | rfl | rfl <;> exact ⟨rfl, rfl⟩)); (case kN => decide); (case c5 => decide); (case c2 => exact rfl); (case c3 => exact rfl); (case c4 => exact rfl)
  intro c Q0 hQ0 ro; (try simp only [List.zip_cons_cons, List.zip_nil_left, List.zip_nil_right])
  have rf := ro
  have I0 := hpool _ hP
  have I5 := rf _ hT.obj
  have hks : ∀ led, KeysAt c led xs := fun led q hq => by obtain ⟨i, j, e, hm⟩ := hT.key q hq; exact ⟨i, j, e, .inr (rf _ hm)⟩
  obtain ⟨kd, h, hat, HT⟩ := ok.tab
  obtain ⟨qT, HTx⟩ := id HT
  have J1 := rf _ HTx.m1
  have J2 := rf _ HTx.m2
  have hix := List.idxOf_lt_length_of_mem ok.mem
  have hle := ok.len
  k_extra "w"
  refine SUB.dictT (Has.r I5) (Has.l (by k_extra "mema")) (hks _) hat rfl ?_
  k_extra "w"
  (refine' Con.call (c_hcode fam h nb (sy i j) HT ((sy i j).idxOf s) s (idx_at ok.mem)) ?cd1 ?ct1 ?cf1 ?cz1; (case ct1 => k_extra "t"); (case cd1 => exact rfl); (case cf1 => k_extra "f"))
  rintro _ _ ⟨a, rfl, hm, rfl⟩
  have J3 := rf _ hm
  k_extra "w"
  (refine' Con.call (c_put wx wdx ba full r n ((sy i j).idxOf s) (nb + 1) (by k_extra "o") (by k_extra "o") _ hw (by k_extra "o")) ?cd2 ?ct2 ?cf2 ?cz2; (case ct2 => k_extra "t"); (case cd2 => exact rfl); (case cf2 => k_extra "f"))
  rintro _ _ ⟨full', r', n', rfl, hw', rfl⟩
  k_extra "w"
  (refine' ⟨_, _, ?et7, rfl, dx, wx, wdx, ba, full', r', n', _, _, pool, rfl, hpool, rfl, rfl, ?_, ?_⟩; (case et7 => k_extra "t"))
  · rw [opsB_append, opsB_one]; exact hw'
  · rw [opsB_append, opsB_one, List.length_append, List.length_append, List.length_singleton, opB, symB, bitsN_len]; k_extra "o"
 ) only [↓eq_true]
theorem c_cbits {w : World} (fam : ALed) (x tb : Addr) (nb : Nat) (sy : Int → Int → List Int) (P : ALed) (ops : List Op) (led : ALed) (v z : Nat) (hk : CodeSk w x tb nb sy P ops led) (hz : z < 64) (hv : v < 2 ^ z) (hl : ops.length < 1000) :
   Con w 404 4 [.ref x, .int (v : Nat), .int (z : Nat)] led fam (fun r led' => r = .none ∧ CodeSk w x tb nb sy P (ops ++ [.bits v z]) led') := by
 simp (disch := with_unfolding_all
  obtain ⟨dx, wx, wdx, ba, full, r, n, _, _, pool, rfl, hpool, rfl, rfl, hw, hlen⟩ := hk
  refine' Con.of ?k6 ?k7 ?hp ?hb ?hs ?hn ?hl ?k9 ?kB ?kN ?c5 ?c2 ?c3 ?c4 ?_; (case k6 => k_is); (case k7 => k_is); (case hp => (conv => lhs; whnf)); (case hb => (conv => lhs; whnf)); (case hs => (conv => lhs; whnf)); (case hn => (simp only [List.map_cons, List.map_nil]; exact rfl)); (case hl => exact rfl); (case k9 => (intro xs hx; obtain ⟨x0, x1, x2, rfl⟩ := len3 hx; exact rfl)); (case kB => (intro y hy; simp only [List.mem_cons, List.not_mem_nil, or_false] at hy; rcases hy with rfl | rfl | rfl <;> exact ⟨rfl, rfl⟩)); (case kN => decide); (case c5 => decide); (case c2 => exact rfl); (case c3 => exact rfl); (case c4 => exact rfl)
  intro c Q0 hQ0 ro; (try simp only [List.zip_cons_cons, List.zip_nil_left, List.zip_nil_right])
  k_extra "w"
  (refine' Con.call (c_put wx wdx ba full r n v z hz hv _ hw (by k_extra "o")) ?cd3 ?ct3 ?cf3 ?cz3; (case ct3 => k_extra "t"); (case cd3 => exact rfl); (case cf3 => k_extra "f"))
  rintro _ _ ⟨full', r', n', rfl, hw', rfl⟩
  k_extra "w"
  (refine' ⟨_, _, ?et8, rfl, dx, wx, wdx, ba, full', r', n', _, _, pool, rfl, hpool, rfl, rfl, ?_, ?_⟩; (case et8 => k_extra "t"))
  · rw [opsB_append, opsB_one]; exact hw'
  · rw [opsB_append, opsB_one, List.length_append, List.length_append, List.length_singleton, opB, bitsN_len]; k_extra "o"
 ) only [↓eq_true]
noncomputable def CodeFin (nb : Nat) (sy : Int → Int → List Int) (ops : List Op) (v : V) (ops' : List Op) : Prop := ops' = [] ∧ ∃ l, v = .bytes l ∧ l.length < 2 ^ 16 ∧ octB l = padB (opsB nb sy ops)
theorem c_cfin {w : World} (fam : ALed) (x tb : Addr) (nb : Nat) (sy : Int → Int → List Int) (P : ALed) (ops : List Op) (led : ALed) (hk : CodeSk w x tb nb sy P ops led) (hl : ops.length < 1000) :
   Con w 411 4 [.ref x] led fam (fun v led' => ∃ ops', CodeFin nb sy ops v ops' ∧ CodeSk w x tb nb sy P ops' led') := by
 simp (disch := with_unfolding_all
  obtain ⟨dx, wx, wdx, ba, full, r, n, _, _, pool, rfl, hpool, rfl, rfl, hw, hlen⟩ := hk
  refine' Con.of ?k6 ?k7 ?hp ?hb ?hs ?hn ?hl ?k9 ?kB ?kN ?c5 ?c2 ?c3 ?c4 ?_; (case k6 => k_is); (case k7 => k_is); (case hp => (conv => lhs; whnf)); (case hb => (conv => lhs; whnf)); (case hs => (conv => lhs; whnf)); (case hn => (simp only [List.map_cons, List.map_nil]; exact rfl)); (case hl => exact rfl); (case k9 => (intro xs hx; obtain ⟨x0, rfl⟩ := len1 hx; exact rfl)); (case kB => (intro y hy; simp only [List.mem_cons, List.not_mem_nil, or_false] at hy; rcases hy with rfl <;> exact ⟨rfl, rfl⟩)); (case kN => decide); (case c5 => decide); (case c2 => exact rfl); (case c3 => exact rfl); (case c4 => exact rfl)
  intro c Q0 hQ0 ro; (try simp only [List.zip_cons_cons, List.zip_nil_left, List.zip_nil_right])
  k_extra "w"
  (refine' Con.call (c_pad wx wdx ba full r n _ hw (by k_extra "o")) ?cd4 ?ct4 ?cf4 ?cz4; (case ct4 => k_extra "t"); (case cd4 => exact rfl); (case cf4 => k_extra "f"))
  rintro _ _ ⟨full', r', n', rfl, hw', rfl⟩
  obtain ⟨rfl, rfl, hoct⟩ := hw'.whole (padB_len _)
  have hfl : full'.length < 2 ^ 16 := by
    have h1 := hw'.len
    have h2 : (padB (opsB nb sy ops)).length ≤ (opsB nb sy ops).length + 8 := by unfold padB; rw [List.length_append, List.length_replicate]; k_extra "o"
    k_extra "o"
  k_extra "w"
  (refine' Con.callE (c_octets wx wdx ba full' ((0 : Nat) : Int) ((0 : Nat) : Int) (Nat.lt_trans hfl (by decide))) ?cd5 ?ct5 ?cf5 ?_; (case ct5 => k_extra "t"); (case cd5 => exact rfl); (case cf5 => k_extra "f"))
  k_extra "w"
  (refine' CALL.make mk_BitWriter (fun x dx => c_winit x dx) ?cd6 ?ct6 ?cf6 ?cz6; (case ct6 => k_extra "t"); (case cd6 => exact rfl); (case cf6 => k_extra "f"))
  rintro wx' wdx' _ _ ⟨ba', rfl, rfl⟩
  refine ⟨rfl, ?_⟩
  k_extra "w"
  (refine' ⟨_, _, ?et9, [], ⟨rfl, full', rfl, hfl, hoct⟩, dx, wx', wdx', ba', [], 0, 0, _, _, pool, rfl, hpool, ?_, ?_, ⟨by decide, by decide, rfl⟩, Nat.zero_le _⟩; (case et9 => k_extra "t"))
  · rfl
  · rfl
 ) only [↓eq_true]
theorem codeSink {w : World} (fam : ALed) (x tb : Addr) (nb : Nat) (hnb : nb < 20) (sy : Int → Int → List Int) (xs : List (List Int × Addr × V)) (hT : Tabs w fam tb xs) :
    SinkI w x 414 397 404 411 4 fam (TabOk w fam tb nb sy xs) (CodeSk w x tb nb sy) (CodeFin nb sy) where
  inst := by rintro P ops _ ⟨dx, wx, wdx, ba, full, r, n, _, _, pool, rfl, -⟩; exact ⟨dx, _, mem_hd, mem_tl mem_hd, rfl, rfl, rfl⟩
  mS := m_CodeSink_symbol
  mB := m_CodeSink_bits
  mF := m_CodeSink_finish
  more := by
    rintro P ops _ q ⟨dx, wx, wdx, ba, full, r, n, _, _, pool, rfl, hp, rest⟩
    exact ⟨dx, wx, wdx, ba, full, r, n, _, _, apL pool [q], rfl, fun a ha => by rw [apL_eq]; rcases List.mem_cons.mp ha with rfl | ha; exact List.mem_append_right _ (.head _); exact List.mem_append_left _ (hp a ha), rest⟩
  less := by
    rintro P P' ops _ ⟨dx, wx, wdx, ba, full, r, n, _, _, pool, rfl, hp, rest⟩ h
    exact ⟨dx, wx, wdx, ba, full, r, n, _, _, pool, rfl, fun a ha => hp a (h a ha), rest⟩
  sym := fun P ops led i j s kx hk hP ok hl => c_csym fam x tb nb hnb sy xs hT P ops led i j s kx hk hP ok hl
  bits := fun P ops led v n hk h1 h2 hl => c_cbits fam x tb nb sy P ops led v n hk h1 h2 hl
  fin := fun P ops led hk hl => c_cfin fam x tb nb sy P ops led hk hl
theorem catN_bound (v : Int) : -(2 ^ catN v : Int) < v ∧ v < 2 ^ catN v := by
  have h := (intBits_le_iff (x := if v < 0 then -v else v) (m := catN v)).mp (Nat.le_refl _)
  have e : ((2 ^ catN v : Nat) : Int) = 2 ^ catN v := by push_cast; rfl
  split at h <;> k_extra "o"
theorem bitsOf_bound (v : Int) : 0 ≤ bitsOfI v (catN v) ∧ bitsOfI v (catN v) < 2 ^ catN v := by
  have h := catN_bound v
  unfold bitsOfI
  split <;> k_extra "o"
theorem bitsOf_nat (v : Int) : bitsOfI v (catN v) = (((bitsOfI v (catN v)).toNat : Nat) : Int) := (Int.toNat_of_nonneg (bitsOf_bound v).1).symm
theorem bitsOf_lt (v : Int) : (bitsOfI v (catN v)).toNat < 2 ^ catN v := by
  have h := bitsOf_bound v
  have e : ((2 ^ catN v : Nat) : Int) = 2 ^ catN v := by push_cast; rfl
  k_extra "o"
noncomputable def numOps (i j : Int) (run : Nat) (v : Int) : List Op := [.sym i j (16 * run + catN v), .bits (bitsOfI v (catN v)).toNat (catN v)]
theorem c_putnum {w : World} {x C fS fB fF : Addr} {d : Nat} {fam : ALed} {okS : Int → Int → Int → Prop} {Sk : ALed → List Op → ALed → Prop} {Fin : List Op → V → List Op → Prop} (S : SinkI w x C fS fB fF d fam okS Sk Fin) (hd4 : d = 4)
   (P : ALed) (ops : List Op) (led : ALed) (i j : Int) (kx : Addr) (run : Nat) (v : Int) (hk : Sk P ops led) (hP : (kx, kCell i j) ∈ P) (hv : catN v ≤ 15) (hr : run < 2 ^ 20) (ok : okS i j (16 * run + catN v)) (hl : ops.length < 900) :
   Con w 285 5 [.ref x, .ref kx, .int (run : Nat), .int v] led fam (fun r led' => r = .none ∧ Sk P (ops ++ numOps i j run v) led') := by
 simp (disch := with_unfolding_all
  subst hd4
  refine' Con.of ?k6 ?k7 ?hp ?hb ?hs ?hn ?hl ?k9 ?kB ?kN ?c5 ?c2 ?c3 ?c4 ?_; (case k6 => k_is); (case k7 => k_is); (case hp => (conv => lhs; whnf)); (case hb => (conv => lhs; whnf)); (case hs => (conv => lhs; whnf)); (case hn => (simp only [List.map_cons, List.map_nil]; exact rfl)); (case hl => exact rfl); (case k9 => (intro xs hx; obtain ⟨x0, x1, x2, x3, rfl⟩ := len4 hx; exact rfl)); (case kB => (intro y hy; simp only [List.mem_cons, List.not_mem_nil, or_false] at hy; rcases hy with rfl | rfl | rfl | rfl <;> exact ⟨rfl, rfl⟩)); (case kN => decide); (case c5 => decide); (case c2 => exact rfl); (case c3 => exact rfl); (case c4 => exact rfl)
  intro c Q0 hQ0 ro; (try simp only [List.zip_cons_cons, List.zip_nil_left, List.zip_nil_right])
  k_extra "w"
  (refine' Con.callE (c_category v) ?cd3 ?ct3 ?cf3 ?_; (case ct3 => k_extra "t"); (case cd3 => exact rfl); (case cf3 => k_extra "f"))
  k_extra "w"
  refine S.metS hk (fun _ h => h) ?_
  k_extra "w"
  (refine' Con.call (S.sym P ops led i j _ kx hk hP ok (by k_extra "o")) ?cd1 ?ct1 ?cf1 ?cz1; (case ct1 => k_extra "t"); (case cd1 => exact rfl); (case cf1 => k_extra "f"))
  rintro _ led₁ ⟨rfl, hk₁⟩
  k_extra "w"
  refine S.metB hk₁ (fun _ h => mem_ap h) ?_
  k_extra "w"
  (refine' Con.callE (c_bits_of v (catN v) (by k_extra "o")) ?cd4 ?ct4 ?cf4 ?_; (case ct4 => k_extra "t"); (case cd4 => exact rfl); (case cf4 => k_extra "f"))
  rw [bitsOf_nat]
  k_extra "w"
  (refine' Con.call (S.bits P (ops ++ [.sym i j (16 * run + catN v)]) led₁ (bitsOfI v (catN v)).toNat (catN v) hk₁ (by k_extra "o") (bitsOf_lt v) (by rw [List.length_append, List.length_singleton]; k_extra "o")) ?cd2 ?ct2 ?cf2 ?cz2; (case ct2 => k_extra "t"); (case cd2 => exact rfl); (case cf2 => k_extra "f"))
  rintro _ led₂ ⟨rfl, hk₂⟩
  k_extra "w"
  refine ⟨_, _, TakesL.ap, rfl, ?_⟩
  rw [List.append_assoc] at hk₂
  exact hk₂
 ) only [↓eq_true]
noncomputable def acOps (i j : Int) : Nat → List Int → List Op
  | run, [] => if 0 < run then [.sym i j 0] else []
  | run, v :: r => if v = 0 then acOps i j (run + 1) r else List.replicate (run / 16) (.sym i j 240) ++ (numOps i j (run % 16) v ++ acOps i j 0 r)
noncomputable def blkOps (ds as before : Int) : List Int → List Op
  | [] => []
  | v :: r => numOps 0 ds 0 (v - before) ++ acOps 1 as 0 r
noncomputable abbrev swL (w : World) (x dx sc sk bf : Addr) (many : Int) : ALed := [(x, cInst 323 dx), (dx, cAttr w 323 [vv "before" (.ref bf), vv "sink" (.ref sk), vv "many" (.int many), vv "scan" (.ref sc)])]
theorem c_swinit {w : World} (x dx sc sk : Addr) (n : Nat) (hn : n < 100) : Con w 299 1 [.ref x, .ref sc, .int (n : Nat), .ref sk] [(x, cInst 323 dx), (dx, cAttr w 323 [])] [] (fun v led => ∃ bf, v = .none ∧ led = (bf, cList []) :: swL w x dx sc sk bf ((n : Int) * n)) := by
 simp (disch := with_unfolding_all
  refine' Con.of ?k6 ?k7 ?hp ?hb ?hs ?hn ?hl ?k9 ?kB ?kN ?c5 ?c2 ?c3 ?c4 ?_; (case k6 => k_is); (case k7 => k_is); (case hp => (conv => lhs; whnf)); (case hb => (conv => lhs; whnf)); (case hs => (conv => lhs; whnf)); (case hn => (simp only [List.map_cons, List.map_nil]; exact rfl)); (case hl => exact rfl); (case k9 => (intro xs hx; obtain ⟨x0, x1, x2, x3, rfl⟩ := len4 hx; exact rfl)); (case kB => (intro y hy; simp only [List.mem_cons, List.not_mem_nil, or_false] at hy; rcases hy with rfl | rfl | rfl | rfl <;> exact ⟨rfl, rfl⟩)); (case kN => decide); (case c5 => decide); (case c2 => exact rfl); (case c3 => exact rfl); (case c4 => exact rfl)
  intro c Q0 hQ0 ro; (try simp only [List.zip_cons_cons, List.zip_nil_left, List.zip_nil_right])
  k_extra "w"
  (refine' ⟨_, _, ?et10, _, rfl, rfl⟩; (case et10 => k_extra "t"))
 ) only [↓eq_true]
theorem c_swstart {w : World} (fam : ALed) (x dx sc sk bf : Addr) (many : Int) (dcs acs : List Int) (hS : ScanF w fam sc dcs acs) (hd : dcs.length ≤ 4) : Con w 306 1 [.ref x] (swL w x dx sc sk bf many) fam (fun v led => ∃ bf', v = .none ∧ led = (bf', cList (List.replicate dcs.length (.int 0))) :: swL w x dx sc sk bf' many) := by
 simp (disch := with_unfolding_all
  obtain ⟨sq, hS⟩ := hS
  refine' Con.of ?k6 ?k7 ?hp ?hb ?hs ?hn ?hl ?k9 ?kB ?kN ?c5 ?c2 ?c3 ?c4 ?_; (case k6 => k_is); (case k7 => k_is); (case hp => (conv => lhs; whnf)); (case hb => (conv => lhs; whnf)); (case hs => (conv => lhs; whnf)); (case hn => (simp only [List.map_cons, List.map_nil]; exact rfl)); (case hl => exact rfl); (case k9 => (intro xs hx; obtain ⟨x0, rfl⟩ := len1 hx; exact rfl)); (case kB => (intro y hy; simp only [List.mem_cons, List.not_mem_nil, or_false] at hy; rcases hy with rfl <;> exact ⟨rfl, rfl⟩)); (case kN => decide); (case c5 => decide); (case c2 => exact rfl); (case c3 => exact rfl); (case c4 => exact rfl)
  intro c Q0 hQ0 ro; (try simp only [List.zip_cons_cons, List.zip_nil_left, List.zip_nil_right])
  have I1 := ro _ hS.m1
  have I2 := ro _ hS.m2
  have I3 := ro _ hS.m3
  k_extra "w"
  (refine' ⟨_, _, ?et11, _, rfl, rfl⟩; (case et11 => k_extra "t"))
 ) only [↓eq_true]
theorem mem_acOps_zrl {i j : Int} {run : Nat} {v : Int} {r : List Int} (hv : v ≠ 0) (h : 16 ≤ run) : Op.sym i j 240 ∈ acOps i j run (v :: r) := by
  unfold acOps
  rw [if_neg hv]
  refine List.mem_append_left _ (List.mem_replicate.mpr ⟨by k_extra "o", rfl⟩)
theorem acOps_sub {i j : Int} {run : Nat} {v : Int} {r : List Int} (hv : v ≠ 0) (h : 15 < run) : acOps i j run (v :: r) = .sym i j 240 :: acOps i j (run - 16) (v :: r) := by
  unfold acOps
  rw [if_neg hv, if_neg hv, Nat.div_eq_sub_div (by decide) h, Nat.mod_eq_sub_mod h, List.replicate_succ]
  rfl
theorem acOps_val {i j : Int} {run : Nat} {v : Int} {r : List Int} (hv : v ≠ 0) (h : run ≤ 15) : acOps i j run (v :: r) = numOps i j run v ++ acOps i j 0 r := by
  unfold acOps
  rw [if_neg hv, Nat.div_eq_of_lt (Nat.lt_succ_of_le h), Nat.mod_eq_of_lt (Nat.lt_succ_of_le h), List.replicate_zero]
  cases r <;> rfl
theorem acOps_zero {i j : Int} {run : Nat} {r : List Int} : acOps i j run (0 :: r) = acOps i j (run + 1) r := by
  rw [acOps]; simp
theorem acOps_nil {i j : Int} {run : Nat} : acOps i j run [] = if 0 < run then [.sym i j 0] else [] := by rw [acOps]
structure SwSt (Sk : ALed → List Op → ALed → Prop) (okS : Int → Int → Int → Prop) (as : Int) (tot : List Op) (D : Addr) (rest : List Int) (lim run : Nat) (done : List Op) (led₁ : ALed) : Prop where
  sk : Sk [(D, kCell 1 as)] done led₁
  tot : done ++ acOps 1 as run rest = tot
  le : run ≤ lim
  ok : ∀ a j s, Op.sym a j s ∈ acOps 1 as run rest → okS a j s
section
variable {Sk : ALed → List Op → ALed → Prop} {okS : Int → Int → Int → Prop} {as : Int} {tot : List Op} {D : Addr} {r : List Int} {v : Int} {lim run : Nat} {done : List Op} {led₁ : ALed}
theorem SwSt.zero (h : SwSt Sk okS as tot D (0 :: r) lim run done led₁) : SwSt Sk okS as tot D r (lim + 1) (run + 1) done led₁ := by
  obtain ⟨h1, h2, h3, h4⟩ := h
  rw [acOps_zero] at h2 h4
  exact ⟨h1, h2, Nat.succ_le_succ h3, h4⟩
theorem SwSt.z16 (h : SwSt Sk okS as tot D (v :: r) lim run done led₁) (hv : v ≠ 0) (h16 : 15 < run) : okS 1 as 240 ∧ done.length < tot.length ∧ ∀ led', Sk [(D, kCell 1 as)] (done ++ [.sym 1 as 240]) led' → SwSt Sk okS as tot D (v :: r) lim (run - 16) (done ++ [.sym 1 as 240]) led' := by
  obtain ⟨h1, h2, h3, h4⟩ := h
  rw [acOps_sub hv h16] at h2 h4
  refine ⟨h4 _ _ _ (.head _), ?_, fun led' hk => ⟨hk, by rw [List.append_assoc]; exact h2, Nat.le_trans (Nat.sub_le _ _) h3, fun a j s h => h4 a j s (.tail _ h)⟩⟩
  rw [← h2, List.length_append, List.length_cons]; k_extra "o"
theorem SwSt.num (h : SwSt Sk okS as tot D (v :: r) lim run done led₁) (hv : v ≠ 0) (h16 : run ≤ 15) (lim' : Nat) : okS 1 as (16 * run + catN v) ∧ done.length < tot.length ∧ ∀ led', Sk [(D, kCell 1 as)] (done ++ numOps 1 as run v) led' → SwSt Sk okS as tot D r lim' 0 (done ++ numOps 1 as run v) led' := by
  obtain ⟨h1, h2, h3, h4⟩ := h
  rw [acOps_val hv h16] at h2 h4
  refine ⟨h4 _ _ _ (.head _), ?_, fun led' hk => ⟨hk, by rw [List.append_assoc]; exact h2, Nat.zero_le _, fun a j s h => h4 a j s (List.mem_append_right _ h)⟩⟩
  rw [← h2, List.length_append, List.length_append, numOps, List.length_cons]; k_extra "o"
theorem SwSt.eob (h : SwSt Sk okS as tot D [] lim run done led₁) (hr : 0 < run) : okS 1 as 0 ∧ done.length < tot.length ∧ done ++ [.sym 1 as 0] = tot := by
  obtain ⟨h1, h2, h3, h4⟩ := h
  rw [acOps_nil, if_pos hr] at h2 h4
  refine ⟨h4 _ _ _ (.head _), ?_, h2⟩
  rw [← h2, List.length_append, List.length_cons]; k_extra "o"
theorem SwSt.fin (h : SwSt Sk okS as tot D [] lim run done led₁) (hr : ¬ 0 < run) : Sk [(D, kCell 1 as)] tot led₁ := by
  obtain ⟨h1, h2, h3, h4⟩ := h
  rw [acOps_nil, if_neg hr, List.append_nil] at h2
  exact h2 ▸ h1
end
inductive JSf (w : World) (s dx sc x bf rw D : Addr) (bw : List V) (n2 : Nat) (Sk : ALed → List Op → ALed → Prop) (okS : Int → Int → Int → Prop) (as : Int) (tot : List Op) (row : List Int) (i : Nat) : AFr → ALed → Prop
  | mk (R : Int) (run : Nat) (done : List Op) (led₁ : ALed) : R = run → SwSt Sk okS as tot D (row.drop i) i run done led₁ →
      JSf w s dx sc x bf rw D bw n2 Sk okS as tot row i [vv "run" (.int R), vv "key" (.ref D), vv "self" (.ref s), vv "row" (.ref rw)] ((bf, cList bw) :: apL (swL w s dx sc x bf (n2 : Nat)) led₁)
inductive JSh (w : World) (s dx sc x bf rw D : Addr) (bw : List V) (n2 : Nat) (Sk : ALed → List Op → ALed → Prop) (okS : Int → Int → Int → Prop) (as : Int) (tot : List Op) (rest : List Int) (i n : Nat) : AFr → ALed → Prop
  | mk (R : Int) (done : List Op) (led₁ : ALed) : R = n → SwSt Sk okS as tot D rest i n done led₁ →
      JSh w s dx sc x bf rw D bw n2 Sk okS as tot rest i n [vv "k" (.int (1 + i)), vv "run" (.int R), vv "key" (.ref D), vv "self" (.ref s), vv "row" (.ref rw)] ((bf, cList bw) :: apL (swL w s dx sc x bf (n2 : Nat)) led₁)
theorem c_swcode {w : World} {x C fS fB fF : Addr} {fam : ALed} {okS : Int → Int → Int → Prop} {Sk : ALed → List Op → ALed → Prop} {Fin : List Op → V → List Op → Prop} (S : SinkI w x C fS fB fF 4 fam okS Sk Fin)
   (s dx sc bf : Addr) (n2 : Nat) (dcs acs : List Int) (hS : ScanF w fam sc dcs acs) (ops : List Op) (led : ALed) (hk : Sk [] ops led) (bvs : List V) (pl : Nat) (hpl : pl < 2 ^ 30) (ds as old : Int) (hd : dcs[pl]? = some ds) (ha : acs[pl]? = some as) (hold : bvs[pl]? = some (.int old))
   (rw : Addr) (v0 : Int) (row : List Int) (hrow : (rw, cList ((v0 :: row).map .int)) ∈ fam) (hlen : row.length + 1 = n2) (hn2 : n2 < 100) (hok : ∀ i j s, Op.sym i j s ∈ blkOps ds as old (v0 :: row) → okS i j s) (hcat : ∀ v ∈ (v0 - old) :: row, catN v ≤ 15) (hl : (ops ++ blkOps ds as old (v0 :: row)).length < 900) :
   Con w 313 6 [.ref s, .int (pl : Nat), .ref rw] ((bf, cList bvs) :: apL (swL w s dx sc x bf (n2 : Nat)) led) fam (fun r led' => ∃ led₁, r = .none ∧ led' = (bf, cList (bvs.set pl (.int v0))) :: apL (swL w s dx sc x bf (n2 : Nat)) led₁ ∧ Sk [] (ops ++ blkOps ds as old (v0 :: row)) led₁) := by
 simp (disch := with_unfolding_all
  obtain ⟨sq, hS⟩ := hS
  refine' Con.of ?k6 ?k7 ?hp ?hb ?hs ?hn ?hl ?k9 ?kB ?kN ?c5 ?c2 ?c3 ?c4 ?_; (case k6 => k_is); (case k7 => k_is); (case hp => (conv => lhs; whnf)); (case hb => (conv => lhs; whnf)); (case hs => (conv => lhs; whnf)); (case hn => (simp only [List.map_cons, List.map_nil]; exact rfl)); (case hl => exact rfl); (case k9 => (intro xs hx; obtain ⟨x0, x1, x2, rfl⟩ := len3 hx; exact rfl)); (case kB => (intro y hy; simp only [List.mem_cons, List.not_mem_nil, or_false] at hy; rcases hy with rfl | rfl | rfl <;> exact ⟨rfl, rfl⟩)); (case kN => decide); (case c5 => decide); (case c2 => exact rfl); (case c3 => exact rfl); (case c4 => exact rfl)
  intro c Q0 hQ0 ro; (try simp only [List.zip_cons_cons, List.zip_nil_left, List.zip_nil_right])
  have I1 := ro _ hS.m1
  have I2 := ro _ hS.m2
  have I3 := ro _ hS.m3
  have I4 := ro _ hS.m4
  have I5 := ro _ hrow
  have q1 := map_at hd
  have q2 := map_at ha
  have hlt : pl < bvs.length := (List.getElem?_eq_some_iff.mp hold).1
  have hold' : bvs[((pl : Int)).toNat]? = some (.int old) := by rw [Int.toNat_natCast]; exact hold
  k_extra "w"
  have hl0 : ops.length + (blkOps ds as old (v0 :: row)).length < 900 := by rw [List.length_append] at hl; exact hl
  (refine' Con.call (c_putnum S rfl _ ops _ 0 ds _ 0 (v0 - old) (S.more _ _ _ _ hk) (.head _) (hcat _ (.head _)) (by decide) (hok _ _ _ (List.mem_append_left _ (.head _))) (by k_extra "o")) ?cd1 ?ct1 ?cf1 ?cz1; (case ct1 => k_extra "t"); (case cd1 => exact rfl); (case cf1 => k_extra "f"))
  rintro _ led₁ ⟨rfl, hk₁⟩
  k_with "len" => exact hlt
  k_extra "w"
  generalize htot : ops ++ blkOps ds as old (v0 :: row) = tot at *
  have hsym : ∀ a j s, Op.sym a j s ∈ acOps 1 as 0 row → okS a j s := fun a j s h => hok a j s (List.mem_append_right _ h)
  rename_i D _
  have hk₁ := S.more _ _ _ (D, kCell 1 as) (S.less _ [] _ _ hk₁ fun _ h => nomatch h)
  (refine' ITER.range1 (n := row.length) (JSf w s dx sc x bf rw D (bvs.set pl (.int v0)) n2 Sk okS as tot row) (by k_extra "h") (range_small (by k_extra "o") (by k_extra "o") (by k_extra "o") (by k_extra "o")) (size_is (by k_extra "o")) (.mk _ 0 _ _ ?_ ⟨hk₁, ?_, Nat.le_refl _, hsym⟩) ?rm5 ?rl5 (fun Q5 hQ5 => ?rt5) ?rd5; (case rm5 => k_extra "t"); (case rl5 => k_extra "t"))
  · rfl
  · rw [← htot, List.append_assoc]; rfl
  · rintro i _ _ hi ⟨_, run, done, led₂, rfl, hS₂⟩
    obtain ⟨v, hv⟩ : ∃ v, row[i]? = some v := ⟨row[i], List.getElem?_eq_getElem hi⟩
    have hv' : ((v0 :: row).map V.int)[((1 : Int) + i).toNat]? = some (.int v) := by
      rw [show ((1 : Int) + i).toNat = i + 1 by k_extra "o", List.map_cons, List.getElem?_cons_succ, List.getElem?_map, hv]; rfl
    have hdr : row.drop i = v :: row.drop (i + 1) := by
      have := List.getElem?_eq_some_iff.mp hv
      rw [List.drop_eq_getElem_cons hi, this.2]
    have hrun := hS₂.le
    rw [hdr] at hS₂
    by_cases hz : v = 0
    · subst hz
      k_extra "w"
      (refine' ⟨_, _, _, _, .mk _ (run + 1) _ _ ?_ hS₂.zero, ?rm8, ?rl8⟩; (case rm8 => k_extra "t"); (case rl8 => k_extra "t"))
      rfl
    · k_extra "w"
      (refine' ST.while_ (JSh w s dx sc x bf rw D (bvs.set pl (.int v0)) n2 Sk okS as tot (v :: row.drop (i + 1)) i) (run) (.mk _ _ _ rfl hS₂) ?rm6 ?rl6 (fun Q6 hQ6 => ?rt6); (case rm6 => k_extra "t"); (case rl6 => k_extra "t"))
      clear hS₂ hrun
      rintro n _ _ ⟨_, done, led₂, rfl, hS₂⟩
      have hrun := hS₂.le
      by_cases h16 : 15 < n
      · obtain ⟨o1, o2, o3⟩ := hS₂.z16 hz h16
        k_extra "w"
        refine S.metS hS₂.sk (fun _ h => .tail _ (.tail _ (.tail _ h))) ?_
        k_extra "w"
        (refine' Con.call (S.sym _ done led₂ 1 as 240 D hS₂.sk (.head _) o1 (Nat.lt_trans (Nat.lt_trans o2 hl) (by decide))) ?cd2 ?ct2 ?cf2 ?cz2; (case ct2 => k_extra "t"); (case cd2 => exact rfl); (case cf2 => k_extra "f"))
        rintro _ led₃ ⟨rfl, hk₃⟩
        k_extra "w"
        (refine' ⟨_, _, _, _, _, ?wk7, .mk _ _ _ ?_ (o3 _ hk₃), ?rm7, ?rl7⟩; (case rm7 => k_extra "t"); (case rl7 => k_extra "t"))
        all_goals k_extra "o"
      · obtain ⟨o1, o2, o3⟩ := hS₂.num hz (Nat.le_of_not_lt h16) (i + 1)
        k_extra "w"
        (refine' Con.call (c_putnum S rfl _ done led₂ 1 as D n v hS₂.sk (.head _) (hcat _ (.tail _ (List.mem_of_getElem? hv))) (by k_extra "o") o1 (Nat.lt_trans o2 hl)) ?cd3 ?ct3 ?cf3 ?cz3; (case ct3 => k_extra "t"); (case cd3 => exact rfl); (case cf3 => k_extra "f"))
        rintro _ led₃ ⟨rfl, hk₃⟩
        k_extra "w"
        (refine' ⟨_, _, _, _, .mk _ 0 _ _ ?_ (o3 _ hk₃), ?rm9, ?rl9⟩; (case rm9 => k_extra "t"); (case rl9 => k_extra "t"))
        rfl
  · rintro _ _ ⟨_, run, done, led₂, rfl, hS₂⟩
    rw [List.drop_length] at hS₂
    k_extra "w"
    · rename_i hpos
      obtain ⟨o1, o2, o3⟩ := hS₂.eob (by k_extra "o")
      refine S.metS hS₂.sk (fun _ h => .tail _ (.tail _ (.tail _ h))) ?_
      k_extra "w"
      (refine' Con.call (S.sym _ done led₂ 1 as 0 D hS₂.sk (.head _) o1 (Nat.lt_trans (Nat.lt_trans o2 hl) (by decide))) ?cd4 ?ct4 ?cf4 ?cz4; (case ct4 => k_extra "t"); (case cd4 => exact rfl); (case cf4 => k_extra "f"))
      rintro _ led₃ ⟨rfl, hk₃⟩
      k_extra "w"
      rw [o3] at hk₃
      (refine' ⟨_, _, ?et12, led₃, rfl, rfl, S.less _ _ _ _ hk₃ fun _ h => nomatch h⟩; (case et12 => k_extra "t"))
    · rename_i hpos
      (refine' ⟨_, _, ?et13, led₂, rfl, rfl, S.less _ _ _ _ (hS₂.fin (by k_extra "o")) fun _ h => nomatch h⟩; (case et13 => k_extra "t"))
 ) only [↓eq_true]
noncomputable abbrev scL (w : World) (x dx : Addr) (pl dl al : Addr) (st en hi lo : Int) : ALed := [(x, cInst 169 dx), (dx, cAttr w 169 [vv "low" (.int lo), vv "high" (.int hi), vv "end" (.int en), vv "start" (.int st), vv "ac_slots" (.ref al), vv "dc_slots" (.ref dl), vv "places" (.ref pl)])]
theorem c_scan {w : World} (x dx pl dl al : Addr) (st en hi lo : Int) : Con w 152 1 [.ref x, .ref pl, .ref dl, .ref al, .int st, .int en, .int hi, .int lo] [(x, cInst 169 dx), (dx, cAttr w 169 [])] [] (IsR (.none) (scL w x dx pl dl al st en hi lo)) := by
 simp (disch := with_unfolding_all
  refine' Con.of ?k6 ?k7 ?hp ?hb ?hs ?hn ?hl ?k9 ?kB ?kN ?c5 ?c2 ?c3 ?c4 ?_; (case k6 => k_is); (case k7 => k_is); (case hp => (conv => lhs; whnf)); (case hb => (conv => lhs; whnf)); (case hs => (conv => lhs; whnf)); (case hn => (simp only [List.map_cons, List.map_nil]; exact rfl)); (case hl => exact rfl); (case k9 => (intro xs hx; obtain ⟨x0, x1, x2, x3, x4, x5, x6, x7, rfl⟩ := len8 hx; exact rfl)); (case kB => (intro y hy; simp only [List.mem_cons, List.not_mem_nil, or_false] at hy; rcases hy with rfl | rfl | rfl | rfl | rfl | rfl | rfl | rfl <;> exact ⟨rfl, rfl⟩)); (case kN => decide); (case c5 => decide); (case c2 => exact rfl); (case c3 => exact rfl); (case c4 => exact rfl)
  intro c Q0 hQ0 ro; (try simp only [List.zip_cons_cons, List.zip_nil_left, List.zip_nil_right])
  k_extra "w"
  ((first | with_reducible refine' RetQ.is ?ok | with_reducible refine' RetQ.nx ?ok | refine' RetQ.is ?ok); (case ok => k_extra "t"))
 ) only [↓eq_true]
theorem c_brinit {w : World} (x dx : Addr) (l : List UInt8) : Con w 229 1 [.ref x, .bytes l] [(x, cInst 253 dx), (dx, cAttr w 253 [])] [] (IsR (.none) (rdL w x dx l 0)) := by
 simp (disch := with_unfolding_all
  refine' Con.of ?k6 ?k7 ?hp ?hb ?hs ?hn ?hl ?k9 ?kB ?kN ?c5 ?c2 ?c3 ?c4 ?_; (case k6 => k_is); (case k7 => k_is); (case hp => (conv => lhs; whnf)); (case hb => (conv => lhs; whnf)); (case hs => (conv => lhs; whnf)); (case hn => (simp only [List.map_cons, List.map_nil]; exact rfl)); (case hl => exact rfl); (case k9 => (intro xs hx; obtain ⟨x0, x1, rfl⟩ := len2 hx; exact rfl)); (case kB => (intro y hy; simp only [List.mem_cons, List.not_mem_nil, or_false] at hy; rcases hy with rfl | rfl <;> exact ⟨rfl, rfl⟩)); (case kN => decide); (case c5 => decide); (case c2 => exact rfl); (case c3 => exact rfl); (case c4 => exact rfl)
  intro c Q0 hQ0 ro; (try simp only [List.zip_cons_cons, List.zip_nil_left, List.zip_nil_right])
  k_extra "w"
  ((first | with_reducible refine' RetQ.is ?ok | with_reducible refine' RetQ.nx ?ok | refine' RetQ.is ?ok); (case ok => k_extra "t"))
 ) only [↓eq_true]
theorem c_srinit {w : World} (x dx sc tb : Addr) (n : Nat) (hn : n < 100) : Con w 341 1 [.ref x, .ref sc, .int (n : Nat), .ref tb] [(x, cInst 372 dx), (dx, cAttr w 372 [])] [] (fun v led => ∃ bf, v = .none ∧ led = (bf, cList []) :: srL w x dx sc tb bf ((n : Int) * n) .none) := by
 simp (disch := with_unfolding_all
  refine' Con.of ?k6 ?k7 ?hp ?hb ?hs ?hn ?hl ?k9 ?kB ?kN ?c5 ?c2 ?c3 ?c4 ?_; (case k6 => k_is); (case k7 => k_is); (case hp => (conv => lhs; whnf)); (case hb => (conv => lhs; whnf)); (case hs => (conv => lhs; whnf)); (case hn => (simp only [List.map_cons, List.map_nil]; exact rfl)); (case hl => exact rfl); (case k9 => (intro xs hx; obtain ⟨x0, x1, x2, x3, rfl⟩ := len4 hx; exact rfl)); (case kB => (intro y hy; simp only [List.mem_cons, List.not_mem_nil, or_false] at hy; rcases hy with rfl | rfl | rfl | rfl <;> exact ⟨rfl, rfl⟩)); (case kN => decide); (case c5 => decide); (case c2 => exact rfl); (case c3 => exact rfl); (case c4 => exact rfl)
  intro c Q0 hQ0 ro; (try simp only [List.zip_cons_cons, List.zip_nil_left, List.zip_nil_right])
  k_extra "w"
  (refine' ⟨_, _, ?et10, _, rfl, rfl⟩; (case et10 => k_extra "t"))
 ) only [↓eq_true]
theorem c_srstart {w : World} (fam : ALed) (x dx sc tb bf : Addr) (many : Int) (rd : V) (l : List UInt8) (dcs acs : List Int) (hS : ScanF w fam sc dcs acs) (hd : dcs.length ≤ 4) : Con w 348 3 [.ref x, .bytes l] (srL w x dx sc tb bf many rd) fam
    (fun v led => ∃ bf' rx rdx, v = .none ∧ led = (bf', cList (List.replicate dcs.length (.int 0))) :: apL (srL w x dx sc tb bf' many (.ref rx)) (rdL w rx rdx l 0)) := by
 simp (disch := with_unfolding_all
  obtain ⟨sq, hS⟩ := hS
  refine' Con.of ?k6 ?k7 ?hp ?hb ?hs ?hn ?hl ?k9 ?kB ?kN ?c5 ?c2 ?c3 ?c4 ?_; (case k6 => k_is); (case k7 => k_is); (case hp => (conv => lhs; whnf)); (case hb => (conv => lhs; whnf)); (case hs => (conv => lhs; whnf)); (case hn => (simp only [List.map_cons, List.map_nil]; exact rfl)); (case hl => exact rfl); (case k9 => (intro xs hx; obtain ⟨x0, x1, rfl⟩ := len2 hx; exact rfl)); (case kB => (intro y hy; simp only [List.mem_cons, List.not_mem_nil, or_false] at hy; rcases hy with rfl | rfl <;> exact ⟨rfl, rfl⟩)); (case kN => decide); (case c5 => decide); (case c2 => exact rfl); (case c3 => exact rfl); (case c4 => exact rfl)
  intro c Q0 hQ0 ro; (try simp only [List.zip_cons_cons, List.zip_nil_left, List.zip_nil_right])
  have I1 := ro _ hS.m1
  have I2 := ro _ hS.m2
  have I3 := ro _ hS.m3
  k_extra "w"
  (refine' CALL.make mk_BitReader (fun x dx => c_brinit x dx l) ?cd6 ?ct6 ?cf6 ?cz6; (case ct6 => k_extra "t"); (case cd6 => exact rfl); (case cf6 => k_extra "f"))
  rintro rx rdx _ _ ⟨rfl, rfl⟩
  refine ⟨rfl, ?_⟩
  k_extra "w"
  (refine' ⟨_, _, ?et11, _, rx, rdx, rfl, rfl⟩; (case et11 => k_extra "t"))
 ) only [↓eq_true]
theorem c_srfinish {w : World} (x dx sc tb bf : Addr) (many : Int) (rx rdx : Addr) (l : List UInt8) (k : Int) (hb : l.length < 2 ^ 20) (hk : 8 * (l.length : Int) - k ≤ 7) : Con w 369 2 [.ref x] (apL (srL w x dx sc tb bf many (.ref rx)) (rdL w rx rdx l k)) []
    (IsR (.none) (apL (srL w x dx sc tb bf many (.ref rx)) (rdL w rx rdx l k))) := by
 simp (disch := with_unfolding_all
  refine' Con.of ?k6 ?k7 ?hp ?hb ?hs ?hn ?hl ?k9 ?kB ?kN ?c5 ?c2 ?c3 ?c4 ?_; (case k6 => k_is); (case k7 => k_is); (case hp => (conv => lhs; whnf)); (case hb => (conv => lhs; whnf)); (case hs => (conv => lhs; whnf)); (case hn => (simp only [List.map_cons, List.map_nil]; exact rfl)); (case hl => exact rfl); (case k9 => (intro xs hx; obtain ⟨x0, rfl⟩ := len1 hx; exact rfl)); (case kB => (intro y hy; simp only [List.mem_cons, List.not_mem_nil, or_false] at hy; rcases hy with rfl <;> exact ⟨rfl, rfl⟩)); (case kN => decide); (case c5 => decide); (case c2 => exact rfl); (case c3 => exact rfl); (case c4 => exact rfl)
  intro c Q0 hQ0 ro; (try simp only [List.zip_cons_cons, List.zip_nil_left, List.zip_nil_right])
  k_extra "w"
  (refine' Con.callE (c_left rx rdx l k hb) ?cd5 ?ct5 ?cf5 ?_; (case ct5 => k_extra "t"); (case cd5 => exact rfl); (case cf5 => k_extra "f"))
  k_extra "w"
  ((first | with_reducible refine' RetQ.is ?ok | with_reducible refine' RetQ.nx ?ok | refine' RetQ.is ?ok); (case ok => k_extra "t"))
 ) only [↓eq_true]
theorem c_csinit {w : World} (x dx tb : Addr) : Con w 390 3 [.ref x, .ref tb] [(x, cInst 414 dx), (dx, cAttr w 414 [])] [] (fun v led => ∃ wx wdx ba, v = .none ∧ led = apL (csL w x dx tb wx) (wrL w wx wdx ba [] 0 0)) := by
 simp (disch := with_unfolding_all
  refine' Con.of ?k6 ?k7 ?hp ?hb ?hs ?hn ?hl ?k9 ?kB ?kN ?c5 ?c2 ?c3 ?c4 ?_; (case k6 => k_is); (case k7 => k_is); (case hp => (conv => lhs; whnf)); (case hb => (conv => lhs; whnf)); (case hs => (conv => lhs; whnf)); (case hn => (simp only [List.map_cons, List.map_nil]; exact rfl)); (case hl => exact rfl); (case k9 => (intro xs hx; obtain ⟨x0, x1, rfl⟩ := len2 hx; exact rfl)); (case kB => (intro y hy; simp only [List.mem_cons, List.not_mem_nil, or_false] at hy; rcases hy with rfl | rfl <;> exact ⟨rfl, rfl⟩)); (case kN => decide); (case c5 => decide); (case c2 => exact rfl); (case c3 => exact rfl); (case c4 => exact rfl)
  intro c Q0 hQ0 ro; (try simp only [List.zip_cons_cons, List.zip_nil_left, List.zip_nil_right])
  k_extra "w"
  (refine' CALL.make mk_BitWriter (fun x dx => c_winit x dx) ?cd7 ?ct7 ?cf7 ?cz7; (case ct7 => k_extra "t"); (case cd7 => exact rfl); (case cf7 => k_extra "f"))
  rintro wx wdx _ _ ⟨ba, rfl, rfl⟩
  refine ⟨rfl, ?_⟩
  k_extra "w"
  (refine' ⟨_, _, ?et12, wx, wdx, ba, rfl, rfl⟩; (case et12 => k_extra "t"))
 ) only [↓eq_true]
theorem c_swfin {w : World} {x C fS fB fF : Addr} {fam : ALed} {okS : Int → Int → Int → Prop} {Sk : ALed → List Op → ALed → Prop} {Fin : List Op → V → List Op → Prop} (S : SinkI w x C fS fB fF 4 fam okS Sk Fin)
   (s dx sc bf : Addr) (n2 : Int) (ops : List Op) (led : ALed) (hk : Sk [] ops led) (hl : ops.length < 900) :
   Con w 320 5 [.ref s] (apL (swL w s dx sc x bf n2) led) fam (fun v led' => ∃ ops' led₁, led' = apL (swL w s dx sc x bf n2) led₁ ∧ Fin ops v ops' ∧ Sk [] ops' led₁) := by
 simp (disch := with_unfolding_all
  refine' Con.of ?k6 ?k7 ?hp ?hb ?hs ?hn ?hl ?k9 ?kB ?kN ?c5 ?c2 ?c3 ?c4 ?_; (case k6 => k_is); (case k7 => k_is); (case hp => (conv => lhs; whnf)); (case hb => (conv => lhs; whnf)); (case hs => (conv => lhs; whnf)); (case hn => (simp only [List.map_cons, List.map_nil]; exact rfl)); (case hl => exact rfl); (case k9 => (intro xs hx; obtain ⟨x0, rfl⟩ := len1 hx; exact rfl)); (case kB => (intro y hy; simp only [List.mem_cons, List.not_mem_nil, or_false] at hy; rcases hy with rfl <;> exact ⟨rfl, rfl⟩)); (case kN => decide); (case c5 => decide); (case c2 => exact rfl); (case c3 => exact rfl); (case c4 => exact rfl)
  intro c Q0 hQ0 ro; (try simp only [List.zip_cons_cons, List.zip_nil_left, List.zip_nil_right])
  k_extra "w"
  refine S.metF hk (fun _ h => .tail _ (.tail _ h)) ?_
  k_extra "w"
  (refine' Con.call (S.fin [] ops led hk (by k_extra "o")) ?cd1 ?ct1 ?cf1 ?cz1; (case ct1 => k_extra "t"); (case cd1 => exact rfl); (case cf1 => k_extra "f"))
  rintro v led₁ ⟨ops', hf, hk₁⟩
  k_extra "w"
  (refine' ⟨_, _, ?et13, ops', led₁, rfl, hf, hk₁⟩; (case et13 => k_extra "t"))
 ) only [↓eq_true]
theorem catN_le {v : Int} (h : v.natAbs < 2 ^ 15) : catN v ≤ 15 := by
  unfold catN
  refine intBits_le_iff.mpr ?_
  split <;> k_extra "o"
noncomputable def blksOps (dcs acs : List Int) : List Int → List (Nat × List Int) → List Op
  | _, [] => []
  | bef, (pl, row) :: r => blkOps (dcs.getD pl 0) (acs.getD pl 0) (bef.getD pl 0) row ++ blksOps dcs acs (bef.set pl (row.headD 0)) r
structure BlkX (fam : ALed) (bl : Addr) (bs : List (Nat × List Int)) (ts : List Addr) : Prop where
  mb : (bl, cList (ts.map .ref)) ∈ fam
  len : ts.length = bs.length
  at_ : ∀ (i : Nat) (pl : Nat) (row : List Int), bs[i]? = some (pl, row) → ∃ t r, ts[i]? = some t ∧ (t, cTup [.int (pl : Nat), .ref r]) ∈ fam ∧ (r, cList (row.map .int)) ∈ fam
noncomputable def BlkF (fam : ALed) (bl : Addr) (bs : List (Nat × List Int)) : Prop := ∃ ts, BlkX fam bl bs ts
structure CoSt (Sk : ALed → List Op → ALed → Prop) (okS : Int → Int → Int → Prop) (dcs acs : List Int) (tot : List Op) (rest : List (Nat × List Int)) (befs : List Int) (done : List Op) (led₁ : ALed) : Prop where
  len : befs.length = dcs.length
  bd : ∀ v ∈ befs, v.natAbs < 2 ^ 14
  sk : Sk [] done led₁
  tot : done ++ blksOps dcs acs befs rest = tot
  ok : ∀ a j s, Op.sym a j s ∈ blksOps dcs acs befs rest → okS a j s
theorem CoSt.step {Sk : ALed → List Op → ALed → Prop} {okS : Int → Int → Int → Prop} {dcs acs : List Int} {tot : List Op} {rest : List (Nat × List Int)} {befs : List Int} {done : List Op} {led₁ : ALed} {pl : Nat} {v0 : Int} {row : List Int} (h : CoSt Sk okS dcs acs tot ((pl, v0 :: row) :: rest) befs done led₁) (h0 : v0.natAbs < 2 ^ 14) :
    (∀ i j s, Op.sym i j s ∈ blkOps (dcs.getD pl 0) (acs.getD pl 0) (befs.getD pl 0) (v0 :: row) → okS i j s) ∧ (done ++ blkOps (dcs.getD pl 0) (acs.getD pl 0) (befs.getD pl 0) (v0 :: row)).length ≤ tot.length ∧
    ∀ led', Sk [] (done ++ blkOps (dcs.getD pl 0) (acs.getD pl 0) (befs.getD pl 0) (v0 :: row)) led' → CoSt Sk okS dcs acs tot rest (befs.set pl v0) (done ++ blkOps (dcs.getD pl 0) (acs.getD pl 0) (befs.getD pl 0) (v0 :: row)) led' := by
  obtain ⟨h1, h2, h3, h4, h5⟩ := h
  have e : blksOps dcs acs befs ((pl, v0 :: row) :: rest) = blkOps (dcs.getD pl 0) (acs.getD pl 0) (befs.getD pl 0) (v0 :: row) ++ blksOps dcs acs (befs.set pl v0) rest := rfl
  rw [e] at h4 h5
  rw [← List.append_assoc] at h4
  refine ⟨fun a j s h => h5 a j s (List.mem_append_left _ h), ?_, fun led' hk => ⟨by rw [List.length_set]; exact h1, fun v hv => ?_, hk, h4, fun a j s h => h5 a j s (List.mem_append_right _ h)⟩⟩
  · have := congrArg List.length h4
    rw [List.length_append] at this
    k_extra "o"
  · rcases List.mem_or_eq_of_mem_set hv with hv | rfl
    · exact h2 v hv
    · exact h0
theorem getD_at {l : List Int} {i : Nat} (h : i < l.length) : l[i]? = some (l.getD i 0) := by rw [List.getElem?_eq_getElem h, List.getD_eq_getElem?_getD, List.getElem?_eq_getElem h]; rfl
inductive JCo (w : World) (s dx sc x bf bl : Addr) (n2 : Nat) (Sk : ALed → List Op → ALed → Prop) (okS : Int → Int → Int → Prop) (dcs acs : List Int) (tot : List Op) (bs : List (Nat × List Int)) (i : Nat) : AFr → ALed → Prop
  | mk (bv : List V) (befs : List Int) (done : List Op) (led₁ : ALed) : bv = befs.map .int → CoSt Sk okS dcs acs tot (bs.drop i) befs done led₁ →
      JCo w s dx sc x bf bl n2 Sk okS dcs acs tot bs i [vv "writer" (.ref s), vv "blocks" (.ref bl)] ((bf, cList bv) :: apL (swL w s dx sc x bf (n2 : Nat)) led₁)
theorem c_coded {w : World} {x C fS fB fF : Addr} {fam : ALed} {okS : Int → Int → Int → Prop} {Sk : ALed → List Op → ALed → Prop} {Fin : List Op → V → List Op → Prop} (S : SinkI w x C fS fB fF 4 fam okS Sk Fin)
   (s dx sc bf bl : Addr) (n2 : Nat) (h2 : 0 < n2) (hn2 : n2 < 100) (dcs acs : List Int) (hS : ScanF w fam sc dcs acs) (hd4 : dcs.length ≤ 4) (hac : acs.length = dcs.length) (ops : List Op) (led : ALed) (hk : Sk [] ops led) (bs : List (Nat × List Int)) (hB : BlkF fam bl bs)
   (hok : ∀ pl row, (pl, row) ∈ bs → pl < dcs.length ∧ row.length = n2 ∧ ∀ v ∈ row, v.natAbs < 2 ^ 14) (hsy : ∀ i j s, Op.sym i j s ∈ blksOps dcs acs (List.replicate dcs.length 0) bs → okS i j s) (hl : (ops ++ blksOps dcs acs (List.replicate dcs.length 0) bs).length < 900) :
   Con w 493 7 [.ref s, .ref bl] (apL (swL w s dx sc x bf (n2 : Nat)) led) fam (fun v led' => ∃ bf' befs ops' led₁, led' = (bf', cList befs) :: apL (swL w s dx sc x bf' (n2 : Nat)) led₁ ∧ Fin (ops ++ blksOps dcs acs (List.replicate dcs.length 0) bs) v ops' ∧ Sk [] ops' led₁) := by
 simp (disch := with_unfolding_all
  obtain ⟨ts, hB⟩ := hB
  generalize htot : ops ++ blksOps dcs acs (List.replicate dcs.length 0) bs = tot at *
  refine' Con.of ?k6 ?k7 ?hp ?hb ?hs ?hn ?hl ?k9 ?kB ?kN ?c5 ?c2 ?c3 ?c4 ?_; (case k6 => k_is); (case k7 => k_is); (case hp => (conv => lhs; whnf)); (case hb => (conv => lhs; whnf)); (case hs => (conv => lhs; whnf)); (case hn => (simp only [List.map_cons, List.map_nil]; exact rfl)); (case hl => exact rfl); (case k9 => (intro xs hx; obtain ⟨x0, x1, rfl⟩ := len2 hx; exact rfl)); (case kB => (intro y hy; simp only [List.mem_cons, List.not_mem_nil, or_false] at hy; rcases hy with rfl | rfl <;> exact ⟨rfl, rfl⟩)); (case kN => decide); (case c5 => decide); (case c2 => exact rfl); (case c3 => exact rfl); (case c4 => exact rfl)
  intro c Q0 hQ0 ro; (try simp only [List.zip_cons_cons, List.zip_nil_left, List.zip_nil_right])
  have I1 := ro _ hB.mb
  k_extra "w"
  (refine' Con.call (c_swstart fam s dx sc x bf (n2 : Nat) dcs acs hS hd4) ?cd2 ?ct2 ?cf2 ?cz2; (case ct2 => k_extra "t"); (case cd2 => exact rfl); (case cf2 => k_extra "f"))
  rintro _ _ ⟨bf', rfl, rfl⟩
  k_extra "w"
  (refine' ITER.list (JCo w s dx sc x bf' bl n2 Sk okS dcs acs tot bs) (fun _ _ _ _ => Has.r I1) (.mk _ (List.replicate dcs.length 0) ops led ?_ ⟨List.length_replicate, ?_, hk, htot, hsy⟩) ?rm8 ?rl8 (fun Q8 hQ8 => ?rt8) ?rd8; (case rm8 => k_extra "t"); (case rl8 => k_extra "t"))
  · rw [List.map_replicate]
  · intro v hv; rw [List.eq_of_mem_replicate hv]; decide
  · clear hk htot hsy
    rintro i v _ _ hi hv ⟨_, befs, done, led₁, rfl, hC⟩
    rw [List.length_map, hB.len] at hi
    obtain ⟨⟨pl, row⟩, hbi⟩ : ∃ q, bs[i]? = some q := ⟨bs[i], List.getElem?_eq_getElem hi⟩
    obtain ⟨t, r, ht, ht1, ht2⟩ := hB.at_ i pl row hbi
    rw [List.getElem?_map, ht] at hv
    cases hv
    have I2 := ro _ ht1
    obtain ⟨hp1, hp2, hp3⟩ := hok pl row (List.mem_of_getElem? hbi)
    have hdr : bs.drop i = (pl, row) :: bs.drop (i + 1) := by
      have := List.getElem?_eq_some_iff.mp hbi
      rw [List.drop_eq_getElem_cons hi, this.2]
    rw [hdr] at hC
    cases row with
    | nil => exact absurd hp2 (by simp; k_extra "o")
    | cons v0 row =>
    obtain ⟨o1, o2, o3⟩ := hC.step (hp3 v0 (.head _))
    have hbl := hC.len
    have g1 := getD_at hp1
    have g2 := getD_at (l := acs) (i := pl) (hac ▸ hp1)
    have g3 := getD_at (l := befs) (i := pl) (hbl ▸ hp1)
    have g4 : (befs.map V.int)[pl]? = some (.int (befs.getD pl 0)) := by rw [List.getElem?_map, g3]; rfl
    have hold := hC.bd _ (List.mem_of_getElem? g3)
    k_extra "w"
    (refine' Con.call (c_swcode S s dx sc bf' n2 dcs acs hS done led₁ hC.sk (befs.map .int) pl (by k_extra "o") _ _ _ g1 g2 g4 r v0 row ht2 hp2 hn2 o1 ?qc (Nat.lt_of_le_of_lt o2 hl)) ?cd3 ?ct3 ?cf3 ?cz3; (case ct3 => k_extra "t"); (case cd3 => exact rfl); (case cf3 => k_extra "f"))
    case qc =>
      intro v hv
      rcases List.mem_cons.mp hv with rfl | hv
      · have := hp3 v0 (.head _); exact catN_le (by k_extra "o")
      · have := hp3 v (.tail _ hv); exact catN_le (by k_extra "o")
    rintro _ led₂ ⟨led₃, rfl, rfl, hk₂⟩
    k_extra "w"
    (refine' ⟨_, _, _, _, .mk _ (befs.set pl v0) _ led₃ ?_ (o3 _ hk₂), ?rm9, ?rl9⟩; (case rm9 => k_extra "t"); (case rl9 => k_extra "t"))
    rw [List.map_set]
  · rintro _ _ ⟨_, befs, done, led₁, rfl, hC⟩
    obtain ⟨hbl, hb, hk₁, htot₁, hsy₁⟩ := hC
    rw [List.length_map, hB.len, List.drop_length, show blksOps dcs acs befs [] = [] by simp [blksOps], List.append_nil] at htot₁
    subst htot₁
    k_extra "w"
    (refine' Con.call (c_swfin S s dx sc bf' (n2 : Nat) done led₁ hk₁ hl) ?cd4 ?ct4 ?cf4 ?cz4; (case ct4 => k_extra "t"); (case cd4 => exact rfl); (case cf4 => k_extra "f"))
    rintro v led₂ ⟨ops', led₃, rfl, hf, hk₂⟩
    k_extra "w"
    (refine' ⟨_, _, ?et14, bf', _, ops', led₃, rfl, hf, hk₂⟩; (case et14 => k_extra "t"))
 ) only [↓eq_true]
noncomputable def getC (cs : List (Int × Int)) (s : Int) : Int := ((cs.find? fun q => decide (q.1 = s)).map (·.2)).getD 0
noncomputable def bump (cs : List (Int × Int)) (s : Int) : List (Int × Int) := if cs.any (fun q => decide (q.1 = s)) then cs.map (fun q => if q.1 = s then (q.1, getC cs s + 1) else q) else cs ++ [(s, getC cs s + 1)]
noncomputable abbrev CT := List ((Int × Int) × List (Int × Int))
noncomputable def told (t : CT) (k : Int × Int) (s : Int) : CT := if t.any (fun q => decide (q.1 = k)) then t.map (fun q => if q.1 = k then (q.1, bump q.2 s) else q) else t ++ [(k, [(s, 1)])]
noncomputable def cnt (t : CT) : List Op → CT
  | [] => t
  | .sym i j s :: r => cnt (told t (i, j) s) r
  | .bits _ _ :: r => cnt t r
theorem cnt_append (a b : List Op) : ∀ t, cnt t (a ++ b) = cnt (cnt t a) b := by
  induction a with
  | nil => intro t; rfl
  | cons o r ih => intro t; cases o <;> exact ih _
theorem any_keys {α β : Type} [DecidableEq α] (l : List (α × β)) (k : α) : l.any (fun q => decide (q.1 = k)) = true ↔ k ∈ l.map (·.1) := by
  rw [List.any_eq_true, List.mem_map]
  exact ⟨fun ⟨q, h1, h2⟩ => ⟨q, h1, of_decide_eq_true h2⟩, fun ⟨q, h1, h2⟩ => ⟨q, h1, decide_eq_true h2⟩⟩
theorem told_keys (t : CT) (k : Int × Int) (s : Int) : (told t k s).map (·.1) = if k ∈ t.map (·.1) then t.map (·.1) else t.map (·.1) ++ [k] := by
  unfold told
  by_cases h : k ∈ t.map (·.1)
  · rw [if_pos ((any_keys t k).mpr h), if_pos h, List.map_map]
    refine List.map_congr_left fun q _ => ?_
    show (if q.1 = k then (q.1, bump q.2 s) else q).1 = q.1
    split <;> rfl
  · rw [if_neg (fun e => h ((any_keys t k).mp e)), if_neg h, List.map_append]; rfl
theorem told_nodup {t : CT} (h : (t.map (·.1)).Nodup) (k : Int × Int) (s : Int) : ((told t k s).map (·.1)).Nodup := by
  rw [told_keys]
  split
  · exact h
  · rename_i hn
    rw [List.nodup_append]
    exact ⟨h, by simp, fun a ha b hb e => by rw [List.mem_singleton] at hb; subst e; subst hb; exact hn ha⟩
theorem cnt_nodup {t : CT} (h : (t.map (·.1)).Nodup) (ops : List Op) : ((cnt t ops).map (·.1)).Nodup := by
  induction ops generalizing t with
  | nil => exact h
  | cons o r ih => cases o with
    | sym i j s => exact ih (told_nodup h _ _)
    | bits v n => exact ih h
theorem bump_len (cs : List (Int × Int)) (s : Int) : (bump cs s).length ≤ cs.length + 1 := by
  unfold bump; split
  · rw [List.length_map]; k_extra "o"
  · rw [List.length_append]; exact Nat.le_refl _
theorem told_len (t : CT) (k : Int × Int) (s : Int) : (told t k s).length ≤ t.length + 1 := by
  unfold told; split
  · rw [List.length_map]; k_extra "o"
  · rw [List.length_append]; exact Nat.le_refl _
theorem cnt_len (ops : List Op) : ∀ t : CT, (cnt t ops).length ≤ t.length + ops.length := by
  induction ops with
  | nil => intro t; exact Nat.le_refl _
  | cons o r ih => intro t; cases o with
    | sym i j s => have := ih (told t (i, j) s); have := told_len t (i, j) s; rw [List.length_cons]; simp only [cnt]; k_extra "o"
    | bits v n => have := ih t; rw [List.length_cons]; simp only [cnt]; k_extra "o"
theorem told_in {t : CT} {n : Nat} {k : Int × Int} {s : Int} (h : ∀ q ∈ t, q.2.length ≤ n) : ∀ q ∈ told t k s, q.2.length ≤ n + 1 := by
  intro q hq
  unfold told at hq
  split at hq
  · obtain ⟨r, hr, rfl⟩ := List.mem_map.mp hq
    have := h r hr
    split
    · have := bump_len r.2 s; show (bump r.2 s).length ≤ _; k_extra "o"
    · k_extra "o"
  · rcases List.mem_append.mp hq with hq | hq
    · have := h q hq; k_extra "o"
    · rw [List.mem_singleton] at hq; subst hq; exact Nat.le_add_left _ _
theorem cnt_in (ops : List Op) : ∀ {t : CT} {n : Nat}, (∀ q ∈ t, q.2.length ≤ n) → ∀ q ∈ cnt t ops, q.2.length ≤ n + ops.length := by
  induction ops with
  | nil => intro t n h; exact h
  | cons o r ih => intro t n h q hq; cases o with
    | sym i j s => have := ih (told_in h) q hq; rw [List.length_cons]; k_extra "o"
    | bits v m => have := ih h q hq; rw [List.length_cons]; k_extra "o"
structure CE where
  i : Int
  j : Int
  ka : Addr
  da : Addr
  cs : List (Int × Int)
noncomputable abbrev ceX (e : CE) : List Int × Addr × V := ([e.i, e.j], e.ka, .ref e.da)
noncomputable abbrev csV (cs : List (Int × Int)) : List (Int × V) := cs.map fun q => (q.1, V.int q.2)
noncomputable abbrev ceI (w : World) (e : CE) : Addr × Cell := (e.da, cDictI w (csV e.cs))
noncomputable abbrev ceP (e : CE) : (Int × Int) × List (Int × Int) := ((e.i, e.j), e.cs)
noncomputable abbrev ckL (w : World) (x dx cd : Addr) (ents : List CE) (pool : ALed) : ALed := (x, cInst 456 dx) :: (dx, cAttr w 456 [vv "counts" (.ref cd)]) :: (cd, cDictT w (ents.map ceX)) :: apL (ents.reverse.map (ceI w)) pool
structure EntsOk (P pool : ALed) (ents : List CE) (ops : List Op) : Prop where
  hp : ∀ q ∈ P, q ∈ pool
  he : ∀ e ∈ ents, (e.ka, kCell e.i e.j) ∈ pool ∧ e.da ≠ sysModules
  hc : ents.map ceP = cnt [] ops
noncomputable def CountSk (w : World) (x : Addr) (P : ALed) (ops : List Op) (led : ALed) : Prop := ∃ (dx cd : Addr) (ents : List CE) (pool : ALed), led = ckL w x dx cd ents pool ∧ cd ≠ sysModules ∧ EntsOk P pool ents ops
theorem at_ents (ents : List CE) (k : List Int) : atT (ents.map ceX) k = (ents.find? fun e => decide ([e.i, e.j] = k)).map fun e => (e.ka, .ref e.da) := by
  unfold atT
  rw [List.find?_map, Option.map_map]
  rfl
theorem getC_at (cs : List (Int × Int)) (s : Int) : (atI (csV cs) s).getD (.int 0) = .int (getC cs s) := by
  unfold atI getC csV
  rw [List.find?_map]
  show ((Option.map (fun q : Int × Int => (q.1, V.int q.2)) (cs.find? fun q => decide (q.1 = s))).map (·.2)).getD (.int 0) = _
  cases cs.find? fun q => decide (q.1 = s) <;> rfl
theorem bump_store (cs : List (Int × Int)) (s : Int) : storeI (csV cs) s (.int (getC cs s + 1)) = csV (bump cs s) := by
  unfold storeI bump csV
  rw [List.any_map]
  have e : (cs.any ((fun kv : Int × V => decide (kv.1 = s)) ∘ fun q => (q.1, V.int q.2))) = cs.any (fun q => decide (q.1 = s)) := rfl
  rw [e]
  split
  · rw [List.map_map, List.map_map]
    refine List.map_congr_left fun q _ => ?_
    show (if q.1 = s then (q.1, V.int (getC cs s + 1)) else (q.1, V.int q.2)) = (fun q : Int × Int => (q.1, V.int q.2)) (if q.1 = s then (q.1, getC cs s + 1) else q)
    split <;> rfl
  · rw [List.map_append]; rfl
theorem told_old {l1 l2 : List CE} {e : CE} {ops : List Op} (h : (l1 ++ e :: l2).map ceP = cnt [] ops) (s : Int) : (l1 ++ { e with cs := bump e.cs s } :: l2).map ceP = cnt [] (ops ++ [.sym e.i e.j s]) := by
  have hn : ((cnt [] ops).map (·.1)).Nodup := cnt_nodup (t := []) .nil ops
  rw [cnt_append, ← h]
  rw [← h] at hn
  show _ = told _ _ _
  unfold told
  rw [if_pos ((any_keys _ _).mpr (by simp))]
  simp only [List.map_append, List.map_cons, List.map_map] at hn ⊢
  rw [List.nodup_append, List.nodup_cons] at hn
  obtain ⟨-, ⟨n2, -⟩, n3⟩ := hn
  have k1 : ∀ a ∈ l1, (a.i, a.j) ≠ (e.i, e.j) := fun a ha => n3 _ (List.mem_map_of_mem (f := Prod.fst ∘ ceP) ha) _ (.head _)
  have k2 : ∀ a ∈ l2, (a.i, a.j) ≠ (e.i, e.j) := fun a ha he => n2 (by have := List.mem_map_of_mem (f := Prod.fst ∘ ceP) ha; rw [show (Prod.fst ∘ ceP) a = (a.i, a.j) from rfl, he] at this; exact this)
  congr 1
  · exact List.map_congr_left fun a ha => by show _ = if (a.i, a.j) = (e.i, e.j) then _ else _; rw [if_neg (k1 a ha)]
  · refine congr (congrArg _ ?_) ?_
    · rw [if_pos trivial]
    · exact List.map_congr_left fun a ha => by show _ = if (a.i, a.j) = (e.i, e.j) then _ else _; rw [if_neg (k2 a ha)]
theorem told_new {ents : List CE} {ops : List Op} (h : ents.map ceP = cnt [] ops) (i j : Int) (hn : ents.find? (fun e => decide ([e.i, e.j] = [i, j])) = none) (ka da : Addr) (s : Int) : (ents ++ [({ i := i, j := j, ka := ka, da := da, cs := [(s, 1)] } : CE)]).map ceP = cnt [] (ops ++ [.sym i j s]) := by
  rw [cnt_append, ← h]
  show _ = told _ _ _
  unfold told
  rw [if_neg, List.map_append]
  · rfl
  · rw [any_keys]
    intro hm
    rw [List.map_map] at hm
    obtain ⟨e, he, q⟩ := List.mem_map.mp hm
    have := List.find?_eq_none.mp hn e he
    simp only [decide_eq_true_eq] at this
    obtain ⟨q1, q2⟩ := Prod.mk.inj q
    exact this (by rw [show e.i = i from q1, show e.j = j from q2])
theorem c_ckinit {w : World} (x dx : Addr) : Con w 432 1 [.ref x] [(x, cInst 456 dx), (dx, cAttr w 456 [])] [] (fun v led => ∃ cd, v = .none ∧ cd ≠ sysModules ∧ led = [(x, cInst 456 dx), (dx, cAttr w 456 [vv "counts" (.ref cd)]), (cd, cDictT w [])]) := by
 simp (disch := with_unfolding_all
  refine' Con.of ?k6 ?k7 ?hp ?hb ?hs ?hn ?hl ?k9 ?kB ?kN ?c5 ?c2 ?c3 ?c4 ?_; (case k6 => k_is); (case k7 => k_is); (case hp => (conv => lhs; whnf)); (case hb => (conv => lhs; whnf)); (case hs => (conv => lhs; whnf)); (case hn => (simp only [List.map_cons, List.map_nil]; exact rfl)); (case hl => exact rfl); (case k9 => (intro xs hx; obtain ⟨x0, rfl⟩ := len1 hx; exact rfl)); (case kB => (intro y hy; simp only [List.mem_cons, List.not_mem_nil, or_false] at hy; rcases hy with rfl <;> exact ⟨rfl, rfl⟩)); (case kN => decide); (case c5 => decide); (case c2 => exact rfl); (case c3 => exact rfl); (case c4 => exact rfl)
  intro c Q0 hQ0 ro; (try simp only [List.zip_cons_cons, List.zip_nil_left, List.zip_nil_right])
  k_extra "w"
  refine E1.dictT0 ?_
  intro D hD
  k_extra "w"
  (refine' ⟨_, _, ?et1, D, rfl, hD, rfl⟩; (case et1 => k_extra "t"))
 ) only [↓eq_true]
theorem c_cksym {w : World} (x : Addr) (P fam : ALed) (ops : List Op) (led : ALed) (i j s : Int) (kx : Addr) (hk : CountSk w x P ops led) (hP : (kx, kCell i j) ∈ P) (hl : ops.length < 1000) :
   Con w 439 4 [.ref x, .ref kx, .int s] led fam (fun v led' => v = .none ∧ CountSk w x P (ops ++ [.sym i j s]) led') := by
 simp (disch := with_unfolding_all
  obtain ⟨dx, cd, ents, pool, rfl, hcd, E⟩ := hk
  refine' Con.of ?k6 ?k7 ?hp ?hb ?hs ?hn ?hl ?k9 ?kB ?kN ?c5 ?c2 ?c3 ?c4 ?_; (case k6 => k_is); (case k7 => k_is); (case hp => (conv => lhs; whnf)); (case hb => (conv => lhs; whnf)); (case hs => (conv => lhs; whnf)); (case hn => (simp only [List.map_cons, List.map_nil]; exact rfl)); (case hl => exact rfl); (case k9 => (intro xs hx; obtain ⟨x0, x1, x2, rfl⟩ := len3 hx; exact rfl)); (case kB => (intro y hy; simp only [List.mem_cons, List.not_mem_nil, or_false] at hy; rcases hy with rfl | rfl | rfl <;> exact ⟨rfl, rfl⟩)); (case kN => decide); (case c5 => decide); (case c2 => exact rfl); (case c3 => exact rfl); (case c4 => exact rfl)
  intro c Q0 hQ0 ro; (try simp only [List.zip_cons_cons, List.zip_nil_left, List.zip_nil_right])
  have I0 := E.hp _ hP
  have hz : ents.length ≤ 1000 := by have := cnt_len ops []; rw [← E.hc, List.length_map] at this; rw [List.length_nil] at this; k_extra "o"
  have hks : ∀ led, (∀ q ∈ pool, q ∈ led) → KeysAt c led (ents.map ceX) := fun led hp q hq => by
    obtain ⟨e, he, rfl⟩ := List.mem_map.mp hq
    exact ⟨e.i, e.j, rfl, .inl (hp _ (E.he e he).1)⟩
  k_extra "w"
  refine E1.dictI0 ?_
  intro D hD
  k_extra "w"
  cases hf : ents.find? fun e => decide ([e.i, e.j] = [i, j]) with
  | some e =>
    obtain ⟨he, l1, l2, rfl, -⟩ := List.find?_eq_some_iff_append.mp hf
    have hij : e.i = i ∧ e.j = j := by simpa using he
    obtain ⟨rfl, rfl⟩ := hij
    obtain ⟨hek, hed⟩ := E.he e (List.mem_append_right _ (.head _))
    have hrev : (l1 ++ e :: l2).reverse.map (ceI w) = l2.reverse.map (ceI w) ++ ceI w e :: l1.reverse.map (ceI w) := by simp
    have hrev' : (l1 ++ { e with cs := bump e.cs s } :: l2).reverse.map (ceI w) = l2.reverse.map (ceI w) ++ ceI w { e with cs := bump e.cs s } :: l1.reverse.map (ceI w) := by simp
    have hcs : e.cs.length ≤ 1000 := by
      have := cnt_in ops (t := []) (n := 0) (fun _ h => nomatch h) (ceP e) (by rw [← E.hc]; exact List.mem_map_of_mem (List.mem_append_right _ (.head _)))
      have : e.cs.length ≤ 0 + ops.length := this
      k_extra "o"
    have hup : UpdL e.da (cDictI w (csV e.cs)) (cDictI w (storeI (csV e.cs) s (.int (getC e.cs s + 1)))) (apL ((l1 ++ e :: l2).reverse.map (ceI w)) pool) (apL ((l1 ++ { e with cs := bump e.cs s } :: l2).reverse.map (ceI w)) pool) := by
      rw [bump_store, apL_eq, apL_eq, hrev, hrev', List.append_assoc, List.append_assoc]
      exact UpdL.mid
    have hin : (e.da, cDictI w (csV e.cs)) ∈ apL ((l1 ++ e :: l2).reverse.map (ceI w)) pool := hup.mem
    refine CALL.sd_old (b := e.ka) (v := .ref e.da) (by k_extra "mem") (Has.l (by k_extra "mema")) (hks _ fun q hq => by k_extra "mema") hcd (by rw [at_ents, hf]; rfl) rfl (by rw [List.length_map]; exact hz) ?_
    k_extra "w"
    refine CALL.dgetd (show (e.da, _) ∈ _ by k_extra "mema") hed ?_
    rw [getC_at]
    k_extra "w"
    refine SETI.dictI (.tail (.tail (.tail (.tail hup)))) (by rw [List.length_map]; exact hcs) ?_
    k_extra "w"
    have hX : (l1 ++ { e with cs := bump e.cs s } :: l2).map ceX = (l1 ++ e :: l2).map ceX := by simp
    refine' ⟨(x, cInst 456 dx) :: (dx, cAttr w 456 [vv "counts" (.ref cd)]) :: (cd, cDictT w ((l1 ++ e :: l2).map ceX)) :: apL ((l1 ++ { e with cs := bump e.cs s } :: l2).reverse.map (ceI w)) pool, _, ?tk, rfl, dx, cd, l1 ++ { e with cs := bump e.cs s } :: l2, pool, ?eq, hcd, E.hp, ?he, told_old E.hc s⟩
    case tk => k_extra "t"
    case eq => show _ = (_ :: _ :: (cd, cDictT w ((l1 ++ { e with cs := bump e.cs s } :: l2).map ceX)) :: _); rw [hX]
    case he =>
      intro a ha
      rcases List.mem_append.mp ha with ha | ha
      · exact E.he a (List.mem_append_left _ ha)
      · rcases List.mem_cons.mp ha with rfl | ha
        · exact ⟨hek, hed⟩
        · exact E.he a (List.mem_append_right _ (.tail _ ha))
  | none =>
    refine CALL.sd_new (xs := ents.map ceX) (.tail (.tail (.tail .head))) (Has.l (by k_extra "mema")) (hks _ fun q hq => by k_extra "mema") hcd (by rw [at_ents, hf]; rfl) rfl (by rw [List.length_map]; exact hz) ?_
    k_extra "w"
    refine CALL.dgetd mem_hd hD ?_
    rw [show (atI [] s).getD (.int 0) = .int 0 from rfl]
    k_extra "w"
    refine SETI.dictI .head (Nat.zero_le _) ?_
    k_extra "w"
    have hX : (ents ++ [({ i := i, j := j, ka := kx, da := D, cs := [(s, 1)] } : CE)]).map ceX = ents.map ceX ++ [([i, j], kx, .ref D)] := by simp
    have hI : (ents ++ [({ i := i, j := j, ka := kx, da := D, cs := [(s, 1)] } : CE)]).reverse.map (ceI w) = (D, cDictI w (storeI [] s (.int (0 + 1)))) :: ents.reverse.map (ceI w) := by simp [storeI]
    refine' ⟨(x, cInst 456 dx) :: (dx, cAttr w 456 [vv "counts" (.ref cd)]) :: (cd, cDictT w (ents.map ceX ++ [([i, j], kx, .ref D)])) :: (D, cDictI w (storeI [] s (.int (0 + 1)))) :: apL (ents.reverse.map (ceI w)) pool, _, ?tk, rfl, dx, cd, ents ++ [{ i := i, j := j, ka := kx, da := D, cs := [(s, 1)] }], pool, ?eq, hcd, E.hp, ?he, told_new E.hc i j hf kx D s⟩
    case tk => k_extra "t"
    case eq => show _ = (_ :: _ :: (cd, cDictT w ((ents ++ [({ i := i, j := j, ka := kx, da := D, cs := [(s, 1)] } : CE)]).map ceX)) :: apL ((ents ++ [({ i := i, j := j, ka := kx, da := D, cs := [(s, 1)] } : CE)]).reverse.map (ceI w)) pool); rw [hX, hI]
    case he =>
      intro a ha
      rcases List.mem_append.mp ha with ha | ha
      · exact E.he a ha
      · rw [List.mem_singleton] at ha; subst ha; exact ⟨I0, hD⟩
 ) only [↓eq_true]
theorem c_ckbits {w : World} (x : Addr) (P fam : ALed) (ops : List Op) (led : ALed) (v z : Nat) (hk : CountSk w x P ops led) :
   Con w 446 4 [.ref x, .int (v : Nat), .int (z : Nat)] led fam (fun r led' => r = .none ∧ CountSk w x P (ops ++ [.bits v z]) led') := by
 simp (disch := with_unfolding_all
  obtain ⟨dx, cd, ents, pool, rfl, hcd, E⟩ := hk
  refine' Con.of ?k6 ?k7 ?hp ?hb ?hs ?hn ?hl ?k9 ?kB ?kN ?c5 ?c2 ?c3 ?c4 ?_; (case k6 => k_is); (case k7 => k_is); (case hp => (conv => lhs; whnf)); (case hb => (conv => lhs; whnf)); (case hs => (conv => lhs; whnf)); (case hn => (simp only [List.map_cons, List.map_nil]; exact rfl)); (case hl => exact rfl); (case k9 => (intro xs hx; obtain ⟨x0, x1, x2, rfl⟩ := len3 hx; exact rfl)); (case kB => (intro y hy; simp only [List.mem_cons, List.not_mem_nil, or_false] at hy; rcases hy with rfl | rfl | rfl <;> exact ⟨rfl, rfl⟩)); (case kN => decide); (case c5 => decide); (case c2 => exact rfl); (case c3 => exact rfl); (case c4 => exact rfl)
  intro c Q0 hQ0 ro; (try simp only [List.zip_cons_cons, List.zip_nil_left, List.zip_nil_right])
  k_extra "w"
  refine ⟨_, _, .all, rfl, dx, cd, ents, pool, rfl, hcd, E.hp, E.he, ?_⟩
  rw [cnt_append]; exact E.hc
 ) only [↓eq_true]
theorem c_ckfin {w : World} (x : Addr) (P fam : ALed) (ops : List Op) (led : ALed) (hk : CountSk w x P ops led) :
   Con w 453 4 [.ref x] led fam (fun v led' => ∃ ops', (v = .bytes [] ∧ ops' = ops) ∧ CountSk w x P ops' led') := by
 simp (disch := with_unfolding_all
  obtain ⟨dx, cd, ents, pool, rfl, hcd, E⟩ := hk
  refine' Con.of ?k6 ?k7 ?hp ?hb ?hs ?hn ?hl ?k9 ?kB ?kN ?c5 ?c2 ?c3 ?c4 ?_; (case k6 => k_is); (case k7 => k_is); (case hp => (conv => lhs; whnf)); (case hb => (conv => lhs; whnf)); (case hs => (conv => lhs; whnf)); (case hn => (simp only [List.map_cons, List.map_nil]; exact rfl)); (case hl => exact rfl); (case k9 => (intro xs hx; obtain ⟨x0, rfl⟩ := len1 hx; exact rfl)); (case kB => (intro y hy; simp only [List.mem_cons, List.not_mem_nil, or_false] at hy; rcases hy with rfl <;> exact ⟨rfl, rfl⟩)); (case kN => decide); (case c5 => decide); (case c2 => exact rfl); (case c3 => exact rfl); (case c4 => exact rfl)
  intro c Q0 hQ0 ro; (try simp only [List.zip_cons_cons, List.zip_nil_left, List.zip_nil_right])
  k_extra "w"
  refine E1.bytes ?_
  k_extra "w"
  exact ⟨_, _, .all, ops, ⟨rfl, rfl⟩, dx, cd, ents, pool, rfl, hcd, E⟩
 ) only [↓eq_true]
theorem countSink {w : World} (fam : ALed) (x : Addr) : SinkI w x 456 439 446 453 4 fam (fun _ _ _ => True) (CountSk w x) (fun ops v ops' => v = .bytes [] ∧ ops' = ops) where
  inst := by rintro P ops _ ⟨dx, cd, ents, pool, rfl, -⟩; exact ⟨dx, _, mem_hd, mem_tl mem_hd, rfl, rfl, rfl⟩
  mS := m_CountSink_symbol
  mB := m_CountSink_bits
  mF := m_CountSink_finish
  more := by
    rintro P ops _ q ⟨dx, cd, ents, pool, rfl, hcd, E⟩
    refine ⟨dx, cd, ents, apL pool [q], ?_, hcd, fun a ha => ?_, fun e he => ⟨?_, (E.he e he).2⟩, E.hc⟩
    · simp only [ckL, apL, apL_eq, List.cons_append, List.append_assoc]
    · rw [apL_eq]; rcases List.mem_cons.mp ha with rfl | ha; exact List.mem_append_right _ (.head _); exact List.mem_append_left _ (E.hp a ha)
    · rw [apL_eq]; exact List.mem_append_left _ (E.he e he).1
  less := by
    rintro P P' ops _ ⟨dx, cd, ents, pool, rfl, hcd, E⟩ h
    exact ⟨dx, cd, ents, pool, rfl, hcd, fun a ha => E.hp a (h a ha), E.he, E.hc⟩
  sym := fun P ops led i j s kx hk hP _ hl => c_cksym x P fam ops led i j s kx hk hP hl
  bits := fun P ops led v n hk _ _ _ => c_ckbits x P fam ops led v n hk
  fin := fun P ops led hk _ => c_ckfin x P fam ops led hk
noncomputable abbrev srcL (src : Addr) (x0 x1 : Int) : ALed := [(src, cList [.int x0, .int x1])]
noncomputable def PoolOk (x1 : Int) : Prop := 0 ≤ x1 ∧ x1 < 2147483647
inductive TakeR (src : Addr) (top : Int) : V → ALed → Prop
  | mk (r y0 y1 : Int) : 0 ≤ r → r < top → PoolOk y1 → TakeR src top (.int r) (srcL src y0 y1)
theorem c_take {w : World} (src : Addr) (x0 x1 top : Int) (h1 : 0 < top) (h2 : top < 2 ^ 20) (hp : PoolOk x1) :
   Con w 474 1 [.ref src, .int top] (srcL src x0 x1) [] (TakeR src top) := by
 simp (disch := with_unfolding_all
  refine' Con.of ?k6 ?k7 ?hp ?hb ?hs ?hn ?hl ?k9 ?kB ?kN ?c5 ?c2 ?c3 ?c4 ?_; (case k6 => k_is); (case k7 => k_is); (case hp => (conv => lhs; whnf)); (case hb => (conv => lhs; whnf)); (case hs => (conv => lhs; whnf)); (case hn => (simp only [List.map_cons, List.map_nil]; exact rfl)); (case hl => exact rfl); (case k9 => (intro xs hx; obtain ⟨x0, x1, rfl⟩ := len2 hx; exact rfl)); (case kB => (intro y hy; simp only [List.mem_cons, List.not_mem_nil, or_false] at hy; rcases hy with rfl | rfl <;> exact ⟨rfl, rfl⟩)); (case kN => decide); (case c5 => decide); (case c2 => exact rfl); (case c3 => exact rfl); (case c4 => exact rfl)
  intro c Q0 hQ0 ro; (try simp only [List.zip_cons_cons, List.zip_nil_left, List.zip_nil_right])
  have hm := @fmod_bounds (x1 * 39373 + 7) 2147483647 (by decide)
  obtain ⟨hx, hy⟩ := hp
  k_extra "w"
  · exact ⟨_, _, .all, .mk _ _ _ (fmod_bounds h1).1 (fmod_bounds h1).2 ⟨hx, hy⟩⟩
  · exact ⟨_, _, .all, .mk _ _ _ (fmod_bounds h1).1 (fmod_bounds h1).2 hm⟩
 ) only [↓eq_true]
theorem menuN (i : Nat) (hi : i < 8) : ∃ m : Nat, (([0, 0, 0, 0, 1, 2, 5, 14] : List Int).map V.int)[i]? = some (.int (m : Int)) ∧ m ≤ 14 :=
  ⟨([0, 0, 0, 0, 1, 2, 5, 14] : List Nat).getD i 0, by
    rw [List.getElem?_map, (by decide : ∀ i < 8, ([0, 0, 0, 0, 1, 2, 5, 14] : List Int)[i]? = some ((([0, 0, 0, 0, 1, 2, 5, 14] : List Nat).getD i 0 : Nat) : Int)) i hi]; rfl,
   (by decide : ∀ i < 8, ([0, 0, 0, 0, 1, 2, 5, 14] : List Nat).getD i 0 ≤ 14) i hi⟩
theorem menuS (i : Nat) (hi : i < 2) : ∃ m : Int, (([1, -1] : List Int).map V.int)[i]? = some (.int m) ∧ (m = 1 ∨ m = -1) :=
  ⟨([1, -1] : List Int).getD i 0, by
    rw [List.getElem?_map, (by decide : ∀ i < 2, ([1, -1] : List Int)[i]? = some (([1, -1] : List Int).getD i 0)) i hi]; rfl,
   (by decide : ∀ i < 2, ([1, -1] : List Int).getD i 0 = 1 ∨ ([1, -1] : List Int).getD i 0 = -1) i hi⟩
theorem powN {m : Nat} (h : m ≤ 14) : 1 ≤ (2 : Int) ^ m ∧ (2 : Int) ^ m ≤ 16384 := by
  have h2 : ∀ k : Nat, k ≤ 14 → 1 ≤ (2 : Int) ^ k ∧ (2 : Int) ^ k ≤ 16384 := by decide
  exact h2 _ h
inductive NumR (src : Addr) : V → ALed → Prop
  | mk (r y0 y1 : Int) : r.natAbs < 2 ^ 14 → PoolOk y1 → NumR src (.int r) (srcL src y0 y1)
theorem c_number {w : World} (src : Addr) (x0 x1 : Int) (hp : PoolOk x1) :
   Con w 481 2 [.ref src] (srcL src x0 x1) [] (NumR src) := by
 simp (disch := with_unfolding_all
  refine' Con.of ?k6 ?k7 ?hp ?hb ?hs ?hn ?hl ?k9 ?kB ?kN ?c5 ?c2 ?c3 ?c4 ?_; (case k6 => k_is); (case k7 => k_is); (case hp => (conv => lhs; whnf)); (case hb => (conv => lhs; whnf)); (case hs => (conv => lhs; whnf)); (case hn => (simp only [List.map_cons, List.map_nil]; exact rfl)); (case hl => exact rfl); (case k9 => (intro xs hx; obtain ⟨x0, rfl⟩ := len1 hx; exact rfl)); (case kB => (intro y hy; simp only [List.mem_cons, List.not_mem_nil, or_false] at hy; rcases hy with rfl <;> exact ⟨rfl, rfl⟩)); (case kN => decide); (case c5 => decide); (case c2 => exact rfl); (case c3 => exact rfl); (case c4 => exact rfl)
  intro c Q0 hQ0 ro; (try simp only [List.zip_cons_cons, List.zip_nil_left, List.zip_nil_right])
  k_extra "w"
  (refine' Con.call (c_take src x0 x1 8 (by decide) (by decide) hp) ?cd1 ?ct1 ?cf1 ?cz1; (case ct1 => k_extra "t"); (case cd1 => exact rfl); (case cf1 => k_extra "f"))
  rintro _ _ ⟨r, y0, y1, hr0, hr1, hp1⟩
  obtain ⟨m, hm, hm14⟩ := menuN r.toNat (by k_extra "o")
  k_with "item" => exact hm
  k_extra "w"
  have hpw := powN hm14
  rw [Int.toNat_natCast]
  (refine' Con.call (c_take src y0 y1 ((2 : Int) ^ m + 1) (by k_extra "o") (by k_extra "o") hp1) ?cd2 ?ct2 ?cf2 ?cz2; (case ct2 => k_extra "t"); (case cd2 => exact rfl); (case cf2 => k_extra "f"))
  rintro _ _ ⟨r2, z0, z1, hr20, hr21, hp2⟩
  have hpw2 : 1 ≤ (2 : Int) ^ ((m : Int)).toNat ∧ (2 : Int) ^ ((m : Int)).toNat ≤ 16384 := by rw [Int.toNat_natCast]; exact hpw
  k_extra "w"
  (refine' Con.call (c_take src z0 z1 2 (by decide) (by decide) hp2) ?cd3 ?ct3 ?cf3 ?cz3; (case ct3 => k_extra "t"); (case cd3 => exact rfl); (case cf3 => k_extra "f"))
  rintro _ _ ⟨r3, a0, a1, hr30, hr31, hp3⟩
  obtain ⟨sg, hsg, hsg1⟩ := menuS r3.toNat (by k_extra "o")
  k_with "item" => exact hsg
  k_extra "w"
  have hb := fmod_bounds (a := r2) (show (0 : Int) < 2 ^ ((m : Int)).toNat by k_extra "o")
  (refine' ⟨_, _, ?et4, .mk _ _ _ ?_ hp3⟩; (case et4 => k_extra "t"))
  rcases hsg1 with rfl | rfl
  · rw [Int.mul_one]; k_extra "o"
  · rw [show r2.fmod (2 ^ ((m : Int)).toNat) * -1 = -(r2.fmod (2 ^ ((m : Int)).toNat)) by rw [Int.mul_neg, Int.mul_one]]; k_extra "o"
 ) only [↓eq_true]
structure BlkC (cells : ALed) (ts : List Addr) (bs : List (Nat × List Int)) : Prop where
  len : ts.length = bs.length
  at_ : ∀ (i : Nat) (pl : Nat) (row : List Int), bs[i]? = some (pl, row) → ∃ t r, ts[i]? = some t ∧ (t, cTup [.int (pl : Nat), .ref r]) ∈ cells ∧ (r, cList (row.map .int)) ∈ cells
theorem BlkC.nil : BlkC [] [] [] := ⟨rfl, fun _ _ _ h => by cases h⟩
theorem BlkC.more {cells : ALed} {ts : List Addr} {bs : List (Nat × List Int)} (B : BlkC cells ts bs) (t r : Addr) (pl : Nat) (row : List Int) : BlkC ((t, cTup [.int (pl : Nat), .ref r]) :: (r, cList (row.map .int)) :: cells) (ts ++ [t]) (bs ++ [(pl, row)]) := by
  refine ⟨by rw [List.length_append, List.length_append, B.len]; rfl, fun i p w h => ?_⟩
  rcases Nat.lt_or_ge i bs.length with hi | hi
  · rw [List.getElem?_append_left hi] at h
    obtain ⟨t', r', h1, h2, h3⟩ := B.at_ i p w h
    exact ⟨t', r', by rw [List.getElem?_append_left (by rw [B.len]; exact hi)]; exact h1, .tail _ (.tail _ h2), .tail _ (.tail _ h3)⟩
  · rw [List.getElem?_append_right hi] at h
    have h0 : i - bs.length = 0 := by
      cases e : i - bs.length with
      | zero => rfl
      | succ k => rw [e] at h; cases h
    rw [h0] at h
    cases h
    refine ⟨t, r, ?_, .head _, .tail _ (.head _)⟩
    rw [List.getElem?_append_right (by rw [B.len]; exact hi), B.len, h0]; rfl
noncomputable def BlkB (np n : Nat) (bs : List (Nat × List Int)) : Prop := ∀ pl row, (pl, row) ∈ bs → pl < np ∧ row.length = n * n ∧ ∀ v ∈ row, v.natAbs < 2 ^ 14
theorem BlkB.more {np n : Nat} {bs : List (Nat × List Int)} (B : BlkB np n bs) {pl : Nat} {row : List Int} (h1 : pl < np) (h2 : row.length = n * n) (h3 : ∀ v ∈ row, v.natAbs < 2 ^ 14) : BlkB np n (bs ++ [(pl, row)]) := by
  intro p w h
  rcases List.mem_append.mp h with h | h
  · exact B p w h
  · rw [List.mem_singleton] at h; cases h; exact ⟨h1, h2, h3⟩
noncomputable abbrev c3L (L : Nat) (src : Addr) (np n : Nat) (r : ALed) : ALed := (L + 1, cCellO (some (.ref src))) :: (L + 2, cCellO (some (.int (np : Nat)))) :: (L + 3, cCellO (some (.int (n : Nat)))) :: r
inductive JBl (src : Addr) (np n L : Nat) (i : Nat) : List V → ALed → Prop
  | mk (ts : List Addr) (bs : List (Nat × List Int)) (cells : ALed) (y0 y1 : Int) (acc : List V) : acc = ts.map .ref → BlkC cells ts bs → BlkB np n bs → bs.length = i → PoolOk y1 → JBl src np n L i acc (apL cells (c3L L src np n (srcL src y0 y1)))
inductive JRo (src : Addr) (np n L : Nat) (cells : ALed) (i : Nat) : List V → ALed → Prop
  | mk (row : List Int) (y0 y1 : Int) (acc : List V) : acc = row.map .int → row.length = i → (∀ v ∈ row, v.natAbs < 2 ^ 14) → PoolOk y1 → JRo src np n L cells i acc (apL cells (c3L L src np n (srcL src y0 y1)))
inductive BlksR (src : Addr) (np n : Nat) : V → ALed → Prop
  | mk (D : Addr) (ts : List Addr) (bs : List (Nat × List Int)) (cells : ALed) (y0 y1 : Int) : BlkC cells ts bs → BlkB np n bs → 1 ≤ bs.length → bs.length ≤ 2 → PoolOk y1 → BlksR src np n (.ref D) ((D, cList (ts.map .ref)) :: (src, cList [.int y0, .int y1]) :: cells)
theorem c_blocks {w : World} (src : Addr) (x0 x1 : Int) (hp : PoolOk x1) (np n : Nat) (hnp : 0 < np) (hnp2 : np < 2 ^ 20) (hn : n < 10) :
   Con w 486 3 [.ref src, .int (np : Nat), .int (n : Nat)] (srcL src x0 x1) [] (BlksR src np n) := by
 simp (disch := with_unfolding_all
  refine' Con.ofC (names := ["source", "many", "n"]) ([]) ([(1, "source", some (.ref src)), (2, "many", some (.int (np : Nat))), (3, "n", some (.int (n : Nat)))]) ?k6 ?k7 ?hp ?hb ?hs ?hl ?k9 ?kk ?kl ?kn ?ke ?kf ?kg ?kv ?kc ?c2 ?c3 ?c4 ?_; (case k6 => k_is); (case k7 => k_is); (case hp => (conv => lhs; whnf)); (case hb => (conv => lhs; whnf)); (case hs => (conv => lhs; whnf)); (case hl => exact rfl); (case k9 => (intro xs hx; obtain ⟨x0, x1, x2, rfl⟩ := len3 hx; exact rfl)); (case kk => (intro L y hy; simp only [List.mem_cons, List.not_mem_nil, or_false] at hy; rcases hy with rfl | rfl | rfl <;> first | exact .inl rfl | exact .inr ⟨rfl, rfl⟩)); (case kl => (intro q hq; cases hq)); (case kn => (show ([] : List Str).Nodup; decide)); (case ke => (intro L e he; simp only [List.mem_cons, List.not_mem_nil, or_false] at he; rcases he with rfl | rfl | rfl <;> exact rfl)); (case kf => (show ([1, 2, 3] : List Nat).Nodup; decide)); (case kg => (intro e he; simp only [List.mem_cons, List.not_mem_nil, or_false] at he; rcases he with rfl | rfl | rfl <;> exact Nat.le_of_ble_eq_true rfl)); (case kv => (intro kindOf hko xs is q hq; obtain rfl := funext hko; (obtain ⟨⟩ | ⟨i0, is⟩ := is); (obtain ⟨⟩ | ⟨i1, is⟩ := is); (obtain ⟨⟩ | ⟨i2, is⟩ := is); cases is; cases hq)); (case kc => (intro kindOf hko xs is e he; obtain rfl := funext hko; (obtain ⟨⟩ | ⟨i0, is⟩ := is); (obtain ⟨⟩ | ⟨i1, is⟩ := is); (obtain ⟨⟩ | ⟨i2, is⟩ := is); cases is; simp only [List.mem_cons, List.not_mem_nil, or_false] at he; rcases he with rfl | rfl | rfl <;> first | exact rfl | exact ⟨_, rfl, by assumption⟩)); (case c2 => exact rfl); (case c3 => exact rfl); (case c4 => exact rfl)
  intro c Q0 L hQ0 ro hcl; simp only [cellLed, List.map_cons, List.map_nil, List.cons_append, List.nil_append]
  have hc1 : c.cl.lookup (Str.ofString "source") = some (L + 1) := by rw [hcl]; exact rfl
  have hc2 : c.cl.lookup (Str.ofString "many") = some (L + 2) := by rw [hcl]; exact rfl
  have hc3 : c.cl.lookup (Str.ofString "n") = some (L + 3) := by rw [hcl]; exact rfl
  k_extra "w"
  (refine' E1.comp (cl := [("source", L + 1), ("n", L + 3), ("many", L + 2)]) ?kc ?kd ?ke ?kf ?kg ?kh ?ki ?_; (case kd => (intro y hy; simp only [List.mem_cons, List.not_mem_nil, or_false] at hy; rcases hy with rfl | rfl | rfl | rfl | rfl | rfl | rfl <;> decide)); (case ke => exact rfl); (case kf => (intro y hy _; simp only [List.mem_cons, List.not_mem_nil, or_false] at hy; rcases hy with rfl | rfl | rfl | rfl | rfl | rfl | rfl <;> first | rfl | contradiction)); (case kg => exact rfl); (case kh => exact rfl); (case ki => (intro _; exact rfl)))
  case kc =>
    exact closure_of (by simp [closL, hc1, hc2, hc3])
  k_extra "w"
  (refine' Con.call (c_take src x0 x1 2 (by decide) (by decide) hp) ?cd1 ?ct1 ?cf1 ?cz1; (case ct1 => k_extra "t"); (case cd1 => exact rfl); (case cf1 => k_extra "f"))
  rintro _ _ ⟨r, y0, y1, hr0, hr1, hp1⟩
  k_extra "w"
  (refine' COMP.range (n := (1 + r).toNat) (JBl src np n L) (by k_extra "h") (range_small (by k_extra "o") (by k_extra "o") (by k_extra "o") (by k_extra "o")) (size_is (by k_extra "o")) (by k_extra "o") (.mk [] [] [] y0 y1 [] rfl .nil (fun _ _ h => nomatch h) rfl hp1) ?tl ?turn ?done)
  case tl => k_extra "t"
  case done =>
    rintro _ _ hlen ⟨ts, bs, cells, z0, z1, _, rfl, hC, hB, hbl, hpz⟩ D
    k_extra "w"
    (refine' ⟨_, _, ?et5, .mk D ts bs cells z0 z1 hC hB (by k_extra "o") (by k_extra "o") hpz⟩; (case et5 => k_extra "t"))
  case turn =>
    rintro c' sc K1 hK1 i _ _ hi ⟨ts, bs, cells, z0, z1, _, rfl, hC, hB, hbl, hpz⟩
    have hd1 : c'.cl.lookup (Str.ofString "source") = some (L + 1) := by rw [sc.cl]; exact rfl
    have hd2 : c'.cl.lookup (Str.ofString "many") = some (L + 2) := by rw [sc.cl]; exact rfl
    have hd3 : c'.cl.lookup (Str.ofString "n") = some (L + 3) := by rw [sc.cl]; exact rfl
    k_extra "w"
    (refine' Con.call (c_take src z0 z1 (np : Nat) (by k_extra "o") (by k_extra "o") hpz) ?cd2 ?ct2 ?cf2 ?cz2; (case ct2 => k_extra "t"); (case cd2 => exact rfl); (case cf2 => k_extra "f"))
    rintro _ _ ⟨pl, a0, a1, hl0, hl1, hpa⟩
    obtain ⟨pl, rfl⟩ := Int.eq_ofNat_of_zero_le hl0
    k_extra "w"
    (refine' E1.comp (cl := [("source", L + 1)]) ?kc ?kd ?ke ?kf ?kg ?kh ?ki ?_; (case kc => exact closure_of (by simp [closL, hd1])); (case kd => (intro y hy; simp only [List.mem_cons, List.not_mem_nil, or_false] at hy; rcases hy with rfl | rfl | rfl | rfl <;> decide)); (case ke => exact rfl); (case kf => (intro y hy _; simp only [List.mem_cons, List.not_mem_nil, or_false] at hy; rcases hy with rfl | rfl | rfl | rfl <;> first | rfl | contradiction)); (case kg => exact rfl); (case kh => exact rfl); (case ki => (intro _; exact rfl)))
    k_extra "w"
    have hnn : ((n : Int) * n).toNat = n * n := by rw [← Int.natCast_mul, Int.toNat_natCast]
    have hnn' : (n : Int) * n = ((n * n : Nat) : Int) := by rw [Int.natCast_mul]
    have hnl : n * n ≤ 9 * 9 := Nat.mul_le_mul (by k_extra "o") (by k_extra "o")
    (refine' COMP.range (n := n * n) (JRo src np n L cells) (by k_extra "h") (range_small (by k_extra "o") (by k_extra "o") (by k_extra "o") (by k_extra "o")) (size_is (by k_extra "o")) (by k_extra "o") (.mk [] a0 a1 [] rfl rfl (fun _ h => nomatch h) hpa) ?tl ?turn ?done)
    case tl => k_extra "t"
    case done =>
      rintro _ _ hlen ⟨row, b0, b1, _, rfl, hrl, hrb, hpb⟩ E
      k_extra "w"
      rename_i D
      refine hK1 _ _ _ _ ⟨_, [], .mk (ts ++ [D]) (bs ++ [(pl, row)]) ((D, cTup [.int (pl : Nat), .ref E]) :: (E, cList (row.map .int)) :: cells) b0 b1 _ (by rw [List.map_append]; rfl) (hC.more D E pl row) (hB.more (by k_extra "o") hrl hrb) (by rw [List.length_append, hbl]; rfl) hpb, .all⟩
    case turn =>
      rintro c'' sc' K2 hK2 j _ _ hj ⟨row, b0, b1, _, rfl, hrl, hrb, hpb⟩
      have he1 : c''.cl.lookup (Str.ofString "source") = some (L + 1) := by rw [sc'.cl]; exact rfl
      k_extra "w"
      (refine' Con.call (c_number src b0 b1 hpb) ?cd3 ?ct3 ?cf3 ?cz3; (case ct3 => k_extra "t"); (case cd3 => exact rfl); (case cf3 => k_extra "f"))
      rintro _ _ ⟨x, d0, d1, hx, hpd⟩
      (refine' hK2 _ _ _ _ ⟨_, _, .mk (row ++ [x]) d0 d1 _ ?ea ?eb ?ec hpd, ?ck4⟩; (case ck4 => k_extra "t"))
      · rw [List.map_append]; rfl
      · rw [List.length_append, hrl]; rfl
      · intro v hv
        rcases List.mem_append.mp hv with hv | hv
        · exact hrb v hv
        · rw [List.mem_singleton] at hv; subst hv; exact hx
 ) only [↓eq_true]
noncomputable def cntsV (nb mm rr : Nat) : List V := List.replicate nb (V.int 0) ++ .int (mm : Nat) :: List.replicate rr (V.int 0)
theorem cnts_len {nb mm rr : Nat} (h : nb + 1 + rr = 16) : (cntsV nb mm rr).length = 16 := by
  unfold cntsV; rw [List.length_append, List.length_replicate, List.length_cons, List.length_replicate]; k_extra "o"
theorem cnts_at {nb mm rr i : Nat} (h : nb + 1 + rr = 16) (hi : i < 16) : (cntsV nb mm rr)[i]? = some (.int (if i = nb then (mm : Int) else 0)) := by
  unfold cntsV
  rcases Nat.lt_trichotomy i nb with hl | rfl | hl
  · rw [List.getElem?_append_left (by rw [List.length_replicate]; exact hl), List.getElem?_replicate, if_pos hl, if_neg (by k_extra "o")]
  · rw [List.getElem?_append_right (by rw [List.length_replicate]; exact Nat.le_refl _), List.length_replicate, Nat.sub_self, if_pos rfl]; rfl
  · rw [List.getElem?_append_right (by rw [List.length_replicate]; k_extra "o"), List.length_replicate, if_neg (by k_extra "o")]
    obtain ⟨k, hk⟩ : ∃ k, i - nb = k + 1 := ⟨i - nb - 1, by k_extra "o"⟩
    rw [hk, List.getElem?_cons_succ, List.getElem?_replicate, if_pos (by k_extra "o")]
structure RowsC (nb mm : Nat) (cells : ALed) (rows : List Addr) (n : Nat) : Prop where
  len : rows.length = n
  at_ : ∀ (j : Nat) (a : Addr), rows[j]? = some a → ∃ cd pl, (a, cTup [.int cd, .int (if j = nb then (mm : Int) else 0), .int pl]) ∈ cells ∧ (j ≤ nb → cd = 0 ∧ pl = 0)
theorem RowsC.more {nb mm n : Nat} {cells : ALed} {rows : List Addr} (B : RowsC nb mm cells rows n) (a : Addr) (cd pl : Int) (h : n ≤ nb → cd = 0 ∧ pl = 0) : RowsC nb mm ((a, cTup [.int cd, .int (if n = nb then (mm : Int) else 0), .int pl]) :: cells) (rows ++ [a]) (n + 1) := by
  refine ⟨by rw [List.length_append, B.len]; rfl, fun j b hj => ?_⟩
  rcases Nat.lt_or_ge j rows.length with hl | hl
  · rw [List.getElem?_append_left hl] at hj
    obtain ⟨cd', pl', h1, h2⟩ := B.at_ j b hj
    exact ⟨cd', pl', .tail _ h1, h2⟩
  · rw [List.getElem?_append_right hl] at hj
    have h0 : j - rows.length = 0 := by
      cases e : j - rows.length with
      | zero => rfl
      | succ k => rw [e] at hj; cases hj
    have hjn : j = n := by have := B.len; k_extra "o"
    rw [h0] at hj
    cases hj
    subst hjn
    exact ⟨cd, pl, .head _, h⟩
inductive JRw (D ct : Addr) (nb mm : Nat) (i : Nat) : AFr → ALed → Prop
  | mk (code place : Int) (vs : List V) (rows : List Addr) (cells : ALed) : vs = rows.map .ref → RowsC nb mm cells rows i → (i ≤ nb → code = 0 ∧ place = 0) → i ≤ 16 → JRw D ct nb mm i [vv "place" (.int place), vv "code" (.int code), vv "rows" (.ref D), vv "counts" (.ref ct)] ((D, cList vs) :: cells)
inductive RowsR (nb mm : Nat) : V → ALed → Prop
  | mk (D : Addr) (rows : List Addr) (cells : ALed) : RowsC nb mm cells rows 16 → RowsR nb mm (.ref D) ((D, cList (rows.map .ref)) :: cells)
theorem c_rows {w : World} (fam : ALed) (ct : Addr) (nb mm rr : Nat) (hm : mm < 2 ^ (nb + 1)) (hnr : nb + 1 + rr = 16) (hc : (ct, cTup (cntsV nb mm rr)) ∈ fam) :
   Con w 96 1 [.ref ct] [] fam (RowsR nb mm) := by
 simp (disch := with_unfolding_all
  refine' Con.of ?k6 ?k7 ?hp ?hb ?hs ?hn ?hl ?k9 ?kB ?kN ?c5 ?c2 ?c3 ?c4 ?_; (case k6 => k_is); (case k7 => k_is); (case hp => (conv => lhs; whnf)); (case hb => (conv => lhs; whnf)); (case hs => (conv => lhs; whnf)); (case hn => (simp only [List.map_cons, List.map_nil]; exact rfl)); (case hl => exact rfl); (case k9 => (intro xs hx; obtain ⟨x0, rfl⟩ := len1 hx; exact rfl)); (case kB => (intro y hy; simp only [List.mem_cons, List.not_mem_nil, or_false] at hy; rcases hy with rfl <;> exact ⟨rfl, rfl⟩)); (case kN => decide); (case c5 => decide); (case c2 => exact rfl); (case c3 => exact rfl); (case c4 => exact rfl)
  intro c Q0 hQ0 ro; (try simp only [List.zip_cons_cons, List.zip_nil_left, List.zip_nil_right])
  have I1 := ro _ hc
  have hlc := cnts_len (mm := mm) hnr
  k_extra "w"
  rename_i D _ _
  rw [hlc]
  (refine' ITER.range1 (n := 16) (JRw D ct nb mm) (by k_extra "h") (range_small (by k_extra "o") (by k_extra "o") (by k_extra "o") (by k_extra "o")) (size_is (by k_extra "o")) (.mk 0 0 [] [] [] rfl ⟨rfl, fun _ _ h => by cases h⟩ (fun _ => ⟨rfl, rfl⟩) (by decide)) ?rm1 ?rl1 (fun Q1 hQ1 => ?rt1) ?rd1; (case rm1 => k_extra "t"); (case rl1 => k_extra "t"))
  · rintro i _ _ hi ⟨code, place, vs, rows, cells, hvs, hR, hcp, hle⟩
    have hci : (cntsV nb mm rr)[((1 : Int) + i - 1).toNat]? = some (.int (if i = nb then (mm : Int) else 0)) := by
      rw [show ((1 : Int) + i - 1).toNat = i by k_extra "o"]; exact cnts_at hnr hi
    have hvl : vs.length ≤ 2 ^ 20 := by rw [hvs, List.length_map, hR.len]; k_extra "o"
    k_with "item" => exact hci
    have hnx : i + 1 ≤ nb → (code + if i = nb then (mm : Int) else 0) * 2 = 0 ∧ (place + if i = nb then (mm : Int) else 0) = 0 := fun h => by
      obtain ⟨rfl, rfl⟩ := hcp (by k_extra "o")
      rw [if_neg (by k_extra "o")]; exact ⟨rfl, rfl⟩
    k_extra "w"
    · rename_i h1 h2
      exfalso
      by_cases hin : i = nb
      · subst hin
        obtain ⟨rfl, rfl⟩ := hcp (Nat.le_refl _)
        rw [if_pos rfl, Int.zero_add, show ((1 : Int) + i).toNat = i + 1 by k_extra "o"] at h1
        have h3 : ((2 ^ (i + 1) : Nat) : Int) ≤ (mm : Nat) := by push_cast; exact h1
        k_extra "o"
      · rw [if_neg hin] at h2; k_extra "o"
    · rename_i E _ _
      (refine' ⟨_, _, _, _, .mk _ _ _ (rows ++ [E]) ((E, _) :: cells) ?_ (hR.more E code place hcp) hnx (by k_extra "o"), ?rm2, ?rl2⟩; (case rm2 => k_extra "t"); (case rl2 => k_extra "t"))
      rw [List.map_append, hvs]; rfl
    · rename_i E _
      (refine' ⟨_, _, _, _, .mk _ _ _ (rows ++ [E]) ((E, _) :: cells) ?_ (hR.more E code place hcp) hnx (by k_extra "o"), ?rm3, ?rl3⟩; (case rm3 => k_extra "t"); (case rl3 => k_extra "t"))
      rw [List.map_append, hvs]; rfl
  · rintro _ _ ⟨code, place, vs, rows, cells, rfl, hR, hcp, hle⟩
    k_extra "w"
    exact ⟨_, [], .all, .mk D rows cells hR⟩
 ) only [↓eq_true]
noncomputable def cntsI (nb mm rr : Nat) : List Int := List.replicate nb 0 ++ (mm : Int) :: List.replicate rr 0
theorem cnts_sum (nb mm rr : Nat) : (cntsI nb mm rr).sum = mm := by
  have h : ∀ n : Nat, (List.replicate n (0 : Int)).sum = 0 := fun n => by induction n with | zero => rfl | succ n ih => rw [List.replicate_succ, List.sum_cons, ih]; rfl
  unfold cntsI; rw [List.sum_append, List.sum_cons, h, h]; k_extra "o"
theorem take_sum : ∀ {l : List Int}, (∀ x ∈ l, 0 ≤ x) → ∀ k, 0 ≤ (l.take k).sum ∧ (l.take k).sum ≤ l.sum
  | [], _, k => by simp
  | x :: r, h, 0 => by
    have h1 := h x (.head _)
    have h2 := (take_sum (l := r) (fun y hy => h y (.tail _ hy)) 0)
    rw [List.take_zero, List.sum_nil] at h2
    rw [List.take_zero, List.sum_nil, List.sum_cons]; k_extra "o"
  | x :: r, h, k + 1 => by
    have h1 := h x (.head _)
    have h2 := (take_sum (l := r) (fun y hy => h y (.tail _ hy)) k)
    rw [List.take_succ_cons, List.sum_cons, List.sum_cons]; k_extra "o"
theorem cnts_pos (nb mm rr : Nat) : ∀ x ∈ cntsI nb mm rr, 0 ≤ x ∧ x ≤ mm := by
  intro x hx
  unfold cntsI at hx
  rcases List.mem_append.mp hx with h | h
  · rw [List.eq_of_mem_replicate h]; k_extra "o"
  · rcases List.mem_cons.mp h with rfl | h
    · k_extra "o"
    · rw [List.eq_of_mem_replicate h]; k_extra "o"
theorem cnts_fit (nb rr : Nat) {mm : Nat} (h : mm < 2 ^ 20) : ∀ j, j < (cntsI nb mm rr).length → InLong ((cntsI nb mm rr).getD j 0) ∧ InLong (((cntsI nb mm rr).take (j + 1)).sum) := by
  intro j hj
  have h1 := cnts_pos nb mm rr _ (List.getElem_mem hj)
  have h2 := take_sum (fun x hx => (cnts_pos nb mm rr x hx).1) (j + 1)
  rw [cnts_sum] at h2
  rw [List.getD_eq_getElem?_getD, List.getElem?_eq_getElem hj, Option.getD_some]
  unfold InLong
  k_extra "o"
inductive JCt (w : World) (ct sy : Addr) (syms : List Int) (i : Nat) : AFr → ALed → Prop
  | mk (D : Addr) (ns : List Int) : ns = syms.take i → JCt w ct sy syms i [vv "met" (.ref D), vv "counts" (.ref ct), vv "symbols" (.ref sy)] [(D, cSet w ns)]
theorem c_check {w : World} (fam : ALed) (ct sy : Addr) (nb rr : Nat) (syms : List Int) (hnr : nb + 1 + rr = 16) (hm : syms.length < 128) (hnd : syms.Nodup) (hc : (ct, cList ((cntsI nb syms.length rr).map .int)) ∈ fam) (hs : (sy, cList (syms.map .int)) ∈ fam) :
   Con w 103 1 [.ref ct, .ref sy] [] fam (IsR (.none) ([])) := by
 simp (disch := with_unfolding_all
  refine' Con.of ?k6 ?k7 ?hp ?hb ?hs ?hn ?hl ?k9 ?kB ?kN ?c5 ?c2 ?c3 ?c4 ?_; (case k6 => k_is); (case k7 => k_is); (case hp => (conv => lhs; whnf)); (case hb => (conv => lhs; whnf)); (case hs => (conv => lhs; whnf)); (case hn => (simp only [List.map_cons, List.map_nil]; exact rfl)); (case hl => exact rfl); (case k9 => (intro xs hx; obtain ⟨x0, x1, rfl⟩ := len2 hx; exact rfl)); (case kB => (intro y hy; simp only [List.mem_cons, List.not_mem_nil, or_false] at hy; rcases hy with rfl | rfl <;> exact ⟨rfl, rfl⟩)); (case kN => decide); (case c5 => decide); (case c2 => exact rfl); (case c3 => exact rfl); (case c4 => exact rfl)
  intro c Q0 hQ0 ro; (try simp only [List.zip_cons_cons, List.zip_nil_left, List.zip_nil_right])
  have I1 := ro _ hc
  have I2 := ro _ hs
  have hlc : (cntsI nb syms.length rr).length = 16 := by unfold cntsI; rw [List.length_append, List.length_replicate, List.length_cons, List.length_replicate]; k_extra "o"
  k_extra "w"
  refine CALL.min_ints (Has.r I1) (by k_extra "o") fun x hx => ?_
  have hx0 := (cnts_pos _ _ _ x hx).1
  k_extra "w"
  refine CALL.sum_ints (Has.r I1) (cnts_fit nb rr (by k_extra "o")) ?_
  rw [cnts_sum]
  k_extra "w"
  (refine' ITER.list (JCt w ct sy syms) (fun _ _ _ _ => Has.r I2) (.mk _ [] rfl) ?rm1 ?rl1 (fun Q1 hQ1 => ?rt1) ?rd1; (case rm1 => k_extra "t"); (case rl1 => k_extra "t"))
  · rintro i v _ _ hi hv ⟨D, ns, rfl⟩
    rw [List.getElem?_map] at hv
    obtain ⟨s, hs', rfl⟩ := Option.map_eq_some_iff.mp hv
    have hil : i < syms.length := (List.getElem?_eq_some_iff.mp hs').1
    have hni : s ∉ syms.take i := fun hm => by
      obtain ⟨j, hj⟩ := List.getElem?_of_mem hm
      have hjl := (List.getElem?_eq_some_iff.mp hj).1
      rw [List.length_take] at hjl
      rw [List.getElem?_take] at hj
      split at hj
      · have := (List.getElem?_inj (by k_extra "o") hnd).mp (hj.trans hs'.symm); k_extra "o"
      · cases hj
    have htl : (syms.take i).length ≤ 1000 := by rw [List.length_take]; k_extra "o"
    k_extra "w"
    · rename_i h; exact absurd h hni
    · (refine' ⟨_, _, _, _, .mk D _ ?_, ?rm2, ?rl2⟩; (case rm2 => k_extra "t"); (case rl2 => k_extra "t"))
      rw [List.take_succ, hs']; rfl
  · rintro _ _ ⟨D, ns, rfl⟩
    k_extra "w"
    ((first | with_reducible refine' RetQ.is ?ok | with_reducible refine' RetQ.nx ?ok | refine' RetQ.is ?ok); (case ok => k_extra "t"))
 ) only [↓eq_true]
theorem cnts_map (nb mm rr : Nat) : (cntsI nb mm rr).map V.int = cntsV nb mm rr := by simp [cntsI, cntsV]
structure CodesC (nb : Nat) (syms : List Int) (kvs : List (Int × V)) (cells : ALed) (k : Nat) : Prop where
  ks : kvs.map (·.1) = syms.take k
  at_ : ∀ (j : Nat) (s : Int), j < k → syms[j]? = some s → ∃ a, atI kvs s = some (.ref a) ∧ (a, cTup [.int (j : Int), .int ((nb + 1 : Nat) : Int)]) ∈ cells
theorem CodesC.nil {nb : Nat} {syms : List Int} : CodesC nb syms [] [] 0 := ⟨by simp, fun _ _ h => absurd h (Nat.not_lt_zero _)⟩
theorem atI_app {kvs : List (Int × V)} {k s : Int} {v x : V} (h : atI kvs k = some x) : atI (kvs ++ [(s, v)]) k = some x := by
  unfold atI at h ⊢
  rw [List.find?_append]
  cases e : kvs.find? fun kv => kv.1 = k with
  | none => rw [e] at h; cases h
  | some y => rw [e] at h; exact h
theorem CodesC.more {nb : Nat} {syms : List Int} {kvs : List (Int × V)} {cells : ALed} {k : Nat} (B : CodesC nb syms kvs cells k) (hnd : syms.Nodup) {s : Int} (hs : syms[k]? = some s) (a : Addr) {x y : Int} (hx : x = k) (hy : y = ((nb + 1 : Nat) : Int)) :
    CodesC nb syms (storeI kvs s (.ref a)) ((a, cTup [.int x, .int y]) :: cells) (k + 1) := by
  subst hx hy
  have hk : k < syms.length := (List.getElem?_eq_some_iff.mp hs).1
  have hni : s ∉ syms.take k := fun hm => by
    obtain ⟨j, hj⟩ := List.getElem?_of_mem hm
    have hjl := (List.getElem?_eq_some_iff.mp hj).1
    rw [List.length_take] at hjl
    rw [List.getElem?_take] at hj
    split at hj
    · have := (List.getElem?_inj (by k_extra "o") hnd).mp (hj.trans hs.symm); k_extra "o"
    · cases hj
  have hno : kvs.any (fun kv => decide (kv.1 = s)) = false := by
    rw [List.any_eq_false]
    intro q hq e
    exact hni (by rw [← B.ks, ← of_decide_eq_true e]; exact List.mem_map_of_mem hq)
  have e : storeI kvs s (.ref a) = kvs ++ [(s, .ref a)] := by unfold storeI; rw [hno]; rfl
  rw [e]
  refine ⟨?_, fun j t hj ht => ?_⟩
  · rw [List.map_append, B.ks, List.take_succ, hs]; rfl
  · rcases Nat.lt_or_ge j k with hl | hl
    · obtain ⟨b, h1, h2⟩ := B.at_ j t hl ht
      exact ⟨b, atI_app h1, .tail _ h2⟩
    · obtain rfl : j = k := by k_extra "o"
      rw [hs] at ht; cases ht
      refine ⟨a, ?_, .head _⟩
      unfold atI
      rw [List.find?_append, List.find?_eq_none.mpr fun q hq e => by
        have := List.any_eq_false.mp hno q hq; exact this e]
      simp
inductive JHi (w : World) (x dx ct sy ct' sy' rw' cd : Addr) (nb rr : Nat) (syms : List Int) (rows : List Addr) (rcells : ALed) (fr : AFr) (k : Nat) : AFr → ALed → Prop
  | mk (kvs : List (Int × V)) (cc : ALed) : CodesC nb syms kvs cc k → JHi w x dx ct sy ct' sy' rw' cd nb rr syms rows rcells fr k fr
      (apL cc ((cd, cDictI w kvs) :: (rw', cList (rows.map .ref)) :: apL rcells [(sy', cTup (syms.map .int)), (ct', cTup (cntsV nb syms.length rr)), (x, cInst 134 dx), (dx, cAttr w 134 [vv "codes" (.ref cd), vv "rows" (.ref rw'), vv "symbols" (.ref sy'), vv "counts" (.ref ct')])]))
theorem c_htinit {w : World} (fam : ALed) (x dx ct sy : Addr) (nb rr : Nat) (syms : List Int) (hnr : nb + 1 + rr = 16) (hm : syms.length < 128) (hmb : syms.length < 2 ^ (nb + 1)) (hnd : syms.Nodup) (hc : (ct, cList ((cntsI nb syms.length rr).map .int)) ∈ fam) (hs : (sy, cList (syms.map .int)) ∈ fam) :
   Con w 117 2 [.ref x, .ref ct, .ref sy] [(x, cInst 134 dx), (dx, cAttr w 134 [])] fam (fun v led => v = .none ∧ HTab w led x nb syms) := by
 simp (disch := with_unfolding_all
  refine' Con.of ?k6 ?k7 ?hp ?hb ?hs ?hn ?hl ?k9 ?kB ?kN ?c5 ?c2 ?c3 ?c4 ?_; (case k6 => k_is); (case k7 => k_is); (case hp => (conv => lhs; whnf)); (case hb => (conv => lhs; whnf)); (case hs => (conv => lhs; whnf)); (case hn => (simp only [List.map_cons, List.map_nil]; exact rfl)); (case hl => exact rfl); (case k9 => (intro xs hx; obtain ⟨x0, x1, x2, rfl⟩ := len3 hx; exact rfl)); (case kB => (intro y hy; simp only [List.mem_cons, List.not_mem_nil, or_false] at hy; rcases hy with rfl | rfl | rfl <;> exact ⟨rfl, rfl⟩)); (case kN => decide); (case c5 => decide); (case c2 => exact rfl); (case c3 => exact rfl); (case c4 => exact rfl)
  intro c Q0 hQ0 ro; (try simp only [List.zip_cons_cons, List.zip_nil_left, List.zip_nil_right])
  have I1 := ro _ hc
  have I2 := ro _ hs
  have hlc : (cntsI nb syms.length rr).length = 16 := by unfold cntsI; rw [List.length_append, List.length_replicate, List.length_cons, List.length_replicate]; k_extra "o"
  k_extra "w"
  (refine' Con.callE (c_check fam ct sy nb rr syms hnr hm hnd hc hs) ?cd2 ?ct2 ?cf2 ?_; (case ct2 => k_extra "t"); (case cd2 => exact rfl); (case cf2 => k_extra "f"))
  k_with "len" => (rw [List.length_map]; k_extra "o")
  k_extra "w"
  rename_i ct' sy'
  rw [cnts_map]
  (refine' Con.call (c_rows [(ct', cTup (cntsV nb syms.length rr))] ct' nb syms.length rr hmb hnr (.head _)) ?cd1 ?ct1 ?cf1 ?cz1; (case ct1 => k_extra "t"); (case cd1 => exact rfl); (case cf1 => k_extra "f"))
  rintro _ _ ⟨rw', rows, rcells, hR⟩
  k_extra "w"
  refine E1.dictI0 ?_
  intro cd hcd
  k_extra "w"
  have hml : (cntsV nb syms.length rr).length = 16 := cnts_len hnr
  (refine' ITER.range1 (n := 16) (fun i => JHi w x dx ct sy ct' sy' rw' cd nb rr syms rows rcells [vv "self" (.ref x), vv "counts" (.ref ct), vv "symbols" (.ref sy)] (if i ≤ nb then 0 else syms.length)) (by k_extra "h") (range_small (by k_extra "o") (by k_extra "o") (by k_extra "o") (by k_extra "o")) (size_is (by k_extra "o")) (.mk [] [] ?_) ?rm3 ?rl3 (fun Q3 hQ3 => ?rt3) ?rd3; (case rm3 => k_extra "t"); (case rl3 => k_extra "t"))
  · rw [if_pos (Nat.zero_le _)]; exact .nil
  · rintro i _ _ hi ⟨kvs, cc, hC⟩
    obtain ⟨ra, hra⟩ : ∃ a, rows[i]? = some a := ⟨rows[i]'(by rw [hR.len]; exact hi), List.getElem?_eq_getElem (by rw [hR.len]; exact hi)⟩
    obtain ⟨fi, pl, hrm, hz⟩ := hR.at_ i ra hra
    have hri : (rows.map V.ref)[((1 : Int) + i - 1).toNat]? = some (.ref ra) := by
      rw [show ((1 : Int) + i - 1).toNat = i by k_extra "o", List.getElem?_map, hra]; rfl
    k_with "item" => exact hri
    k_extra "w"
    by_cases hin : i = nb
    · subst hin
      obtain ⟨rfl, rfl⟩ := hz (Nat.le_refl _)
      rw [if_pos (Nat.le_refl _)] at hC
      simp only [if_true]
      k_extra "w"
      (refine' ITER.range1 (n := syms.length) (JHi w x dx ct sy ct' sy' rw' cd i rr syms rows rcells [vv "place" (.int 0), vv "first" (.int 0), vv "size" (.int (1 + (i : Int))), vv "self" (.ref x), vv "counts" (.ref ct), vv "symbols" (.ref sy)]) (by k_extra "h") (smallN (by k_extra "o")) (sizeN _) (.mk kvs cc hC) ?rm4 ?rl4 (fun Q4 hQ4 => ?rt4) ?rd4; (case rm4 => k_extra "t"); (case rl4 => k_extra "t"))
      · rintro k _ _ hk ⟨kvs, cc, hC⟩
        have hsk := List.getElem?_eq_getElem hk
        have hsi : (syms.map V.int)[((0 : Int) + ((0 : Int) + k)).toNat]? = some (.int syms[k]) := by
          rw [show ((0 : Int) + ((0 : Int) + k)).toNat = k by k_extra "o", List.getElem?_map, hsk]; rfl
        k_with "item" => exact hsi
        k_extra "w"
        have hkl : kvs.length ≤ 1000 := by have := congrArg List.length hC.ks; rw [List.length_map, List.length_take] at this; k_extra "o"
        rename_i D
        (refine' SETI.dictI ?su hkl ?_; (case su => k_extra "upd"))
        k_extra "w"
        (refine' ⟨_, _, _, _, .mk _ ((D, _) :: cc) ?_, ?rm6, ?rl6⟩; (case rm6 => k_extra "t"); (case rl6 => k_extra "t"))
        exact hC.more hnd hsk D (by k_extra "o") (by k_extra "o")
      · rintro _ _ ⟨kvs, cc, hC⟩
        k_extra "w"
        (refine' ⟨_, _, _, _, .mk _ _ ?_, ?rm7, ?rl7⟩; (case rm7 => k_extra "t"); (case rl7 => k_extra "t"))
        rw [if_neg (by k_extra "o")]; exact hC
    · have hif : (if i + 1 ≤ nb then 0 else syms.length) = (if i ≤ nb then 0 else syms.length) := by
        by_cases h : i + 1 ≤ nb
        · rw [if_pos h, if_pos (by k_extra "o")]
        · rw [if_neg h, if_neg (by k_extra "o")]
      simp only [if_neg hin]
      k_extra "w"

      (refine' ITER.range1 (n := 0) (fun _ => JHi w x dx ct sy ct' sy' rw' cd nb rr syms rows rcells [vv "self" (.ref x), vv "counts" (.ref ct), vv "symbols" (.ref sy)] (if i ≤ nb then 0 else syms.length)) (by k_extra "h") (range_small (by k_extra "o") (by k_extra "o") (by k_extra "o") (by k_extra "o")) (size_is (by k_extra "o")) (.mk kvs cc hC) ?rm5 ?rl5 (fun Q5 hQ5 => ?rt5) ?rd5; (case rm5 => k_extra "t"); (case rl5 => k_extra "t"))
      · rintro k _ _ hk
        exact absurd hk (Nat.not_lt_zero _)
      · rintro _ _ ⟨kvs, cc, hC⟩
        k_extra "w"
        (refine' ⟨_, _, _, _, .mk _ _ ?_, ?rm8, ?rl8⟩; (case rm8 => k_extra "t"); (case rl8 => k_extra "t"))
        rw [hif]; exact hC
  · rintro _ _ ⟨kvs, cc, hC⟩
    rw [if_neg (by k_extra "o")] at hC
    k_extra "w"
    refine ⟨_, [], .all, rfl, ⟨dx, sy', rw', cd, ct', rows, kvs⟩, by k_extra "mem", by k_extra "mem", by k_extra "mem", by k_extra "mem", by rw [hR.len]; k_extra "o", fun i a hi ha => ?_, by k_extra "mem", hcd, fun j s hj => ?_⟩
    · obtain ⟨fi, pl, h1, h2⟩ := hR.at_ i a ha
      obtain ⟨rfl, rfl⟩ := h2 hi
      exact mem_apr (.tail _ (.tail _ (mem_ap h1)))
    · obtain ⟨a, h1, h2⟩ := hC.at_ j s (List.getElem?_eq_some_iff.mp hj).1 hj
      exact ⟨a, h1, mem_ap h2⟩
 ) only [↓eq_true]
theorem bitsN_get : ∀ (n v i : Nat), i < n → (bitsN v n)[i]? = some (decide (v / 2 ^ (n - 1 - i) % 2 = 1))
  | 0, _, _, h => absurd h (Nat.not_lt_zero _)
  | n + 1, v, i, h => by
    rw [bitsN]
    rcases Nat.lt_or_ge i n with hl | hl
    · rw [List.getElem?_append_left (by rw [bitsN_len]; exact hl), bitsN_get n (v / 2) i hl, Nat.div_div_eq_div_mul, ← Nat.pow_succ', show (n - 1 - i).succ = n + 1 - 1 - i by k_extra "o"]
    · obtain rfl : i = n := by k_extra "o"
      rw [List.getElem?_append_right (by rw [bitsN_len]; exact Nat.le_refl _), bitsN_len, Nat.sub_self, show i + 1 - 1 - i = 0 by k_extra "o", Nat.pow_zero, Nat.div_one]
      rfl
theorem bit_is (v j : Nat) {a : Int} (h : a.toNat = j) : ((v : Int).fdiv (2 ^ a.toNat)).fmod 2 = if decide (v / 2 ^ j % 2 = 1) then 1 else 0 := by
  rw [shr_is h, Int.fmod_eq_emod_of_nonneg _ (by decide)]
  have : v / 2 ^ j % 2 = 0 ∨ v / 2 ^ j % 2 = 1 := Nat.mod_two_eq_zero_or_one _
  rcases this with e | e
  · rw [if_neg (by rw [e]; decide)]; exact_mod_cast e
  · rw [if_pos (by rw [e]; decide)]; exact_mod_cast e
inductive JFg (v n L : Nat) (i : Nat) : List V → ALed → Prop
  | mk (acc : List V) : acc = ((bitsN v n).take i).map (fun b => V.str (strB [b])) → JFg v n L i acc [(L + 1, cCellO (some (.int (v : Nat))))]
theorem pow29 : ∀ n : Nat, n < 29 → (0 : Int) < 2 ^ n ∧ (2 : Int) ^ n < 2 ^ 29 := by decide +kernel
theorem c_figures {w : World} (v n : Nat) (hn : n < 29) : Con w 498 1 [.int (v : Nat), .int (n : Nat)] [] [] (IsR (.str (strB (bitsN v n))) []) := by
 simp (disch := with_unfolding_all
  refine' Con.ofC (names := ["value", "size"]) ([vv "size" (.int (n : Nat))]) ([(1, "value", some (.int (v : Nat)))]) ?k6 ?k7 ?hp ?hb ?hs ?hl ?k9 ?kk ?kl ?kn ?ke ?kf ?kg ?kv ?kc ?c2 ?c3 ?c4 ?_; (case k6 => k_is); (case k7 => k_is); (case hp => (conv => lhs; whnf)); (case hb => (conv => lhs; whnf)); (case hs => (conv => lhs; whnf)); (case hl => exact rfl); (case k9 => (intro xs hx; obtain ⟨x0, x1, rfl⟩ := len2 hx; exact rfl)); (case kk => (intro L y hy; simp only [List.mem_cons, List.not_mem_nil, or_false] at hy; rcases hy with rfl | rfl <;> first | exact .inl rfl | exact .inr ⟨rfl, rfl⟩)); (case kl => (intro q hq; simp only [List.mem_cons, List.not_mem_nil, or_false] at hq; rcases hq with rfl <;> exact ⟨rfl, rfl⟩)); (case kn => (show ([Str.ofString "size"] : List Str).Nodup; decide)); (case ke => (intro L e he; simp only [List.mem_cons, List.not_mem_nil, or_false] at he; rcases he with rfl <;> exact rfl)); (case kf => (show ([1] : List Nat).Nodup; decide)); (case kg => (intro e he; simp only [List.mem_cons, List.not_mem_nil, or_false] at he; rcases he with rfl <;> exact Nat.le_of_ble_eq_true rfl)); (case kv => (intro kindOf hko xs is q hq; obtain rfl := funext hko; (obtain ⟨⟩ | ⟨i0, is⟩ := is); (obtain ⟨⟩ | ⟨i1, is⟩ := is); cases is; simp only [List.mem_cons, List.not_mem_nil, or_false] at hq; rcases hq with rfl <;> exact ⟨_, rfl, by assumption⟩)); (case kc => (intro kindOf hko xs is e he; obtain rfl := funext hko; (obtain ⟨⟩ | ⟨i0, is⟩ := is); (obtain ⟨⟩ | ⟨i1, is⟩ := is); cases is; simp only [List.mem_cons, List.not_mem_nil, or_false] at he; rcases he with rfl <;> first | exact rfl | exact ⟨_, rfl, by assumption⟩)); (case c2 => exact rfl); (case c3 => exact rfl); (case c4 => exact rfl)
  intro c Q0 L hQ0 ro hcl; simp only [cellLed, List.map_cons, List.map_nil, List.cons_append, List.nil_append]
  have hc1 : c.cl.lookup (Str.ofString "value") = some (L + 1) := by rw [hcl]; exact rfl
  k_extra "w"
  (refine' E1.comp (cl := [("value", L + 1)]) ?kc ?kd ?ke ?kf ?kg ?kh ?ki ?_; (case kc => exact closure_of (by simp [closL, hc1])); (case kd => decide); (case ke => exact rfl); (case kf => decide); (case kg => exact rfl); (case kh => exact rfl); (case ki => (intro _; exact rfl)))
  k_extra "w"
  refine CALL.range3 (fun r => ?_) (by decide) (by decide)
  (refine' COMP.range3 (n := n) (JFg v n L) (by k_extra "h") (smallD n (by k_extra "o")).1 (smallD n (by k_extra "o")).2 (by k_extra "o") (.mk [] rfl) ?tl ?turn ?done)
  case tl => k_extra "t"
  case done =>
    rintro _ _ hlen ⟨_, rfl⟩ D
    rw [List.take_of_length_le (by rw [bitsN_len]; exact Nat.le_refl _)]
    k_extra "w"
    refine CALL.join (Has.l (by k_extra "mem")) (by rw [bitsN_len]; k_extra "o") ?_
    k_extra "w"
    ((first | with_reducible refine' RetQ.is ?ok | with_reducible refine' RetQ.nx ?ok | refine' RetQ.is ?ok); (case ok => k_extra "t"))
  case turn =>
    rintro c' sc K1 hK1 i _ _ hi ⟨_, rfl⟩
    have hd1 : c'.cl.lookup (Str.ofString "value") = some (L + 1) := by rw [sc.cl]; exact rfl
    have hj : ((n : Int) - 1 + i * -1).toNat = n - 1 - i := by k_extra "o"
    have hp := pow29 (n - 1 - i) (by k_extra "o")
    rw [← hj] at hp
    k_with "own" => with_reducible first | refine BIN.fdiv ?_ hp.1 hp.2 | refine CALL.str01 (bit_is v _ hj) ?_
    k_extra "w"
    (refine' hK1 _ _ _ _ ⟨_, _, .mk _ ?ea, ?ck1⟩; (case ck1 => k_extra "t"))
    rw [List.take_succ, bitsN_get n v i hi, List.map_append]
    rfl
 ) only [↓eq_true]
noncomputable def numB (nb : Nat) (syms : List Int) (run : Nat) (v : Int) : List Bool := symB nb syms (16 * run + catN v) ++ bitsN (bitsOfI v (catN v)).toNat (catN v)
theorem numB_len (nb : Nat) (syms : List Int) (run : Nat) (v : Int) : (numB nb syms run v).length = nb + 1 + catN v := by rw [numB, List.length_append, symB, bitsN_len, bitsN_len]
theorem bitsOf_if (v : Int) : (if 0 < v then v else v + 2 ^ catN v - 1) = (((bitsOfI v (catN v)).toNat : Nat) : Int) := by
  rw [← bitsOf_nat]
  unfold bitsOfI
  by_cases h : v < 0
  · rw [if_pos h, if_neg (by k_extra "o")]
  · rw [if_neg h]
    by_cases h0 : 0 < v
    · rw [if_pos h0]
    · rw [if_neg h0]
      obtain rfl : v = 0 := by k_extra "o"
      decide
theorem c_numtext {w : World} (fam : ALed) (h : Addr) (nb : Nat) (hnb : nb < 20) (syms : List Int) (HT : HTab w fam h nb syms) (hl : syms.length ≤ 2 ^ (nb + 1)) (run : Nat) (hr : run < 2 ^ 20) (v : Int) (hv : catN v ≤ 15) (hm : (16 * run + catN v : Int) ∈ syms) :
   Con w 505 3 [.ref h, .int (run : Nat), .int v] [] fam (IsR (.str (strB (numB nb syms run v))) []) := by
 simp (disch := with_unfolding_all
  obtain ⟨q, HTx⟩ := id HT
  have e := bitsOf_if v
  refine' Con.of ?k6 ?k7 ?hp ?hb ?hs ?hn ?hl ?k9 ?kB ?kN ?c5 ?c2 ?c3 ?c4 ?_; (case k6 => k_is); (case k7 => k_is); (case hp => (conv => lhs; whnf)); (case hb => (conv => lhs; whnf)); (case hs => (conv => lhs; whnf)); (case hn => (simp only [List.map_cons, List.map_nil]; exact rfl)); (case hl => exact rfl); (case k9 => (intro xs hx; obtain ⟨x0, x1, x2, rfl⟩ := len3 hx; exact rfl)); (case kB => (intro y hy; simp only [List.mem_cons, List.not_mem_nil, or_false] at hy; rcases hy with rfl | rfl | rfl <;> exact ⟨rfl, rfl⟩)); (case kN => decide); (case c5 => decide); (case c2 => exact rfl); (case c3 => exact rfl); (case c4 => exact rfl)
  intro c Q0 hQ0 ro; (try simp only [List.zip_cons_cons, List.zip_nil_left, List.zip_nil_right])
  have I1 := ro _ HTx.m1
  have I2 := ro _ HTx.m2
  have C := c_figures (w := w) (bitsOfI v (catN v)).toNat (catN v) (by k_extra "o")
  have hx := List.idxOf_lt_length_of_mem hm
  have hv' : Builtin.Int.intBits (if v < 0 then -v else v) ≤ 15 := hv
  k_extra "w"
  (refine' Con.call (c_hcode fam h nb syms HT (syms.idxOf ((16 * run + catN v : Int))) _ (idx_at hm)) ?cd1 ?ct1 ?cf1 ?cz1; (case ct1 => k_extra "t"); (case cd1 => exact rfl); (case cf1 => k_extra "f"))
  rintro _ _ ⟨a, rfl, hm, rfl⟩
  have I3 := ro _ hm
  k_extra "w"
  (refine' Con.callE (c_figures _ (nb + 1) (by k_extra "o")) ?cd2 ?ct2 ?cf2 ?_; (case ct2 => k_extra "t"); (case cd2 => exact rfl); (case cf2 => k_extra "f"))
  k_extra "w"
  · rename_i h0
    rw [if_pos h0] at e
    rw [← e] at C
    (refine' Con.callE (C) ?cd3 ?ct3 ?cf3 ?_; (case ct3 => k_extra "t"); (case cd3 => exact rfl); (case cf3 => k_extra "f"))
    refine BIN.addB ?_ (by rw [bitsN_len, bitsN_len]; k_extra "o")
    k_extra "w"
    ((first | with_reducible refine' RetQ.is ?ok | with_reducible refine' RetQ.nx ?ok | refine' RetQ.is ?ok); (case ok => k_extra "t"))
  · rename_i h0
    rw [if_neg h0] at e
    rw [← e] at C
    (refine' Con.callE (C) ?cd4 ?ct4 ?cf4 ?_; (case ct4 => k_extra "t"); (case cd4 => exact rfl); (case cf4 => k_extra "f"))
    refine BIN.addB ?_ (by rw [bitsN_len, bitsN_len]; k_extra "o")
    k_extra "w"
    ((first | with_reducible refine' RetQ.is ?ok | with_reducible refine' RetQ.nx ?ok | refine' RetQ.is ?ok); (case ok => k_extra "t"))
 ) only [↓eq_true]
theorem opsB_num (nb : Nat) (sy : Int → Int → List Int) (i j : Int) (run : Nat) (v : Int) : opsB nb sy (numOps i j run v) = numB nb (sy i j) run v := by
  simp [opsB, opB, numOps, numB]
theorem blksOps_congr (dcs acs : List Int) (n : Nat) : ∀ (bs : List (Nat × List Int)) (a b : List Int), (∀ q ∈ bs, q.1 < n) → n ≤ a.length → n ≤ b.length → (∀ p, p < n → a.getD p 0 = b.getD p 0) → blksOps dcs acs a bs = blksOps dcs acs b bs
  | [], _, _, _, _, _, _ => by simp [blksOps]
  | (pl, row) :: r, a, b, h, ha, hb, e => by
    have hp := h _ (.head _)
    rw [blksOps, blksOps, e pl hp, blksOps_congr dcs acs n r (a.set pl (row.headD 0)) (b.set pl (row.headD 0)) (fun q hq => h q (.tail _ hq)) (by rw [List.length_set]; exact ha) (by rw [List.length_set]; exact hb) fun p hpn => ?_]
    have hpa : p < a.length := Nat.lt_of_lt_of_le hpn ha
    have hpb : p < b.length := Nat.lt_of_lt_of_le hpn hb
    have := e p hpn
    simp only [List.getD_eq_getElem?_getD] at this ⊢
    by_cases hq : pl = p
    · subst hq; rw [List.getElem?_set_self hpa, List.getElem?_set_self hpb]
    · rw [List.getElem?_set_ne hq, List.getElem?_set_ne hq]; exact this
structure OcA (nb : Nat) (sy : Int → Int → List Int) (tot tail : List Op) (as : Int) (rest : List Int) (run : Nat) (done : List Op) : Prop where
  tot : done ++ (acOps 1 as run rest ++ tail) = tot
  len : (opsB nb sy done).length ≤ 64 * done.length
  run : run + rest.length ≤ 15
section
variable {nb : Nat} {sy : Int → Int → List Int} {tot tail : List Op} {as : Int} {rest : List Int} {run : Nat} {done : List Op} {v : Int}
theorem more_len {o : List Op} {k : Nat} (hd : (opsB nb sy done).length ≤ 64 * done.length) (h : (opsB nb sy o).length ≤ k) (hk : k ≤ 64) (ho : 1 ≤ o.length) : (opsB nb sy (done ++ o)).length ≤ 64 * (done ++ o).length := by
  rw [opsB_append, List.length_append, List.length_append]
  k_extra "o"
theorem OcA.zero (h : OcA nb sy tot tail as (0 :: rest) run done) : OcA nb sy tot tail as rest (run + 1) done := by
  obtain ⟨h1, h2, h3⟩ := h
  rw [acOps_zero] at h1
  exact ⟨h1, h2, by rw [List.length_cons] at h3; k_extra "o"⟩
theorem num_len (hnb : nb < 20) (hv : catN v ≤ 15) (i j : Int) : (opsB nb sy (numOps i j run v)).length ≤ 64 := by rw [opsB_num, numB_len]; k_extra "o"
theorem OcA.num (h : OcA nb sy tot tail as (v :: rest) run done) (hv : v ≠ 0) (hnb : nb < 20) (hc : catN v ≤ 15) : Op.sym 1 as (16 * run + catN v) ∈ tot ∧ done.length < tot.length ∧ OcA nb sy tot tail as rest 0 (done ++ numOps 1 as run v) := by
  obtain ⟨h1, h2, h3⟩ := h
  rw [acOps_val hv (by k_extra "o"), List.append_assoc] at h1
  refine ⟨?_, ?_, by rw [List.append_assoc]; exact h1, more_len h2 (num_len hnb hc _ _) (Nat.le_refl _) (show 1 ≤ 2 by decide), by rw [List.length_cons] at h3; k_extra "o"⟩
  · rw [← h1]; exact List.mem_append_right _ (.head _)
  · rw [← h1, List.length_append, numOps, List.cons_append, List.length_cons]; k_extra "o"
theorem OcA.eob (h : OcA nb sy tot tail as [] run done) (hnb : nb < 20) (hr : 0 < run) : Op.sym 1 as 0 ∈ tot ∧ done.length < tot.length ∧ (done ++ [.sym 1 as 0]) ++ tail = tot ∧ (opsB nb sy (done ++ [.sym 1 as 0])).length ≤ 64 * (done ++ [Op.sym 1 as 0]).length := by
  obtain ⟨h1, h2, h3⟩ := h
  rw [acOps_nil, if_pos hr] at h1
  refine ⟨?_, ?_, by rw [List.append_assoc]; exact h1, more_len (k := nb + 1) h2 ?_ (by k_extra "o") (Nat.le_refl 1)⟩
  · rw [← h1]; exact List.mem_append_right _ (.head _)
  · rw [← h1, List.length_append, List.length_append, List.length_singleton]; k_extra "o"
  · rw [opsB_one, opB, symB, bitsN_len]; exact Nat.le_refl _
theorem OcA.fin (h : OcA nb sy tot tail as [] run done) (hr : ¬ 0 < run) : done ++ tail = tot := by
  have := h.tot
  rw [acOps_nil, if_neg hr, List.nil_append] at this
  exact this
end
theorem ac_some {i j : Int} : ∀ {rest : List Int} {run : Nat}, rest ≠ [] → ∃ s, Op.sym i j s ∈ acOps i j run rest
  | [], _, h => absurd rfl h
  | v :: r, run, _ => by
    by_cases hv : v = 0
    · subst hv
      rw [acOps_zero]
      cases r with
      | nil => rw [acOps_nil, if_pos (Nat.succ_pos _)]; exact ⟨_, .head _⟩
      | cons a r => exact ac_some (by simp)
    · unfold acOps
      rw [if_neg hv]
      exact ⟨_, List.mem_append_right _ (.head _)⟩
theorem neg_mod8 (n : Nat) : (-(n : Int)).fmod 8 = (((8 - n % 8) % 8 : Nat) : Int) := by
  rw [Int.fmod_eq_emod_of_nonneg _ (by decide)]; exact neg8 n
theorem bitsN_valR : ∀ r : List Bool, bitsN (valN r.reverse) r.length = r.reverse
  | [] => rfl
  | b :: r => by
    have e : valN [b] = b.toNat := by cases b <;> rfl
    rw [List.reverse_cons, valN_append, List.length_singleton, Nat.pow_one, List.length_cons, bitsN, e]
    have h1 : (valN r.reverse * 2 + b.toNat) / 2 = valN r.reverse := by rw [Nat.mul_comm, Nat.mul_add_div (by decide)]; cases b <;> rfl
    have h2 : decide ((valN r.reverse * 2 + b.toNat) % 2 = 1) = b := by rw [Nat.mul_comm, Nat.mul_add_mod]; cases b <;> rfl
    rw [h1, h2, bitsN_valR r]
theorem bitsN_valN {l : List Bool} {n : Nat} (h : l.length = n) : bitsN (valN l) n = l := by
  have := bitsN_valR l.reverse
  rwa [List.reverse_reverse, List.length_reverse, h] at this
noncomputable abbrev chunk (B : List Bool) (k : Nat) : List Bool := (B.drop (8 * k)).take 8
theorem chunk_len {B : List Bool} {q k : Nat} (h : B.length = 8 * q) (hk : k < q) : (chunk B k).length = 8 := by
  rw [List.length_take, List.length_drop, h]; k_extra "o"
theorem octB_chunks (B : List Bool) (q : Nat) (h : B.length = 8 * q) : octB ((List.range q).map fun k => (valN (chunk B k)).toUInt8) = B := by
  have key : ∀ i, i ≤ q → octB ((List.range i).map fun k => (valN (chunk B k)).toUInt8) = B.take (8 * i) := by
    intro i
    induction i with
    | zero => intro _; rfl
    | succ i ih =>
      intro hi
      have hc := chunk_len h (k := i) hi
      have hv : valN (chunk B i) < 256 := by have := valN_lt (chunk B i); rw [hc] at this; exact this
      rw [List.range_succ, List.map_append, octB_append, ih (Nat.le_of_succ_le hi), Nat.mul_succ, List.take_add]
      congr 1
      show (bitsN ((valN (chunk B i)).toUInt8).toNat 8 ++ []) = _
      rw [List.append_nil, Nat.toUInt8, UInt8.toNat_ofNat', Nat.mod_eq_of_lt hv, bitsN_valN hc]
  rw [key q (Nat.le_refl _), List.take_of_length_le (Nat.le_of_eq h)]
inductive JOt (L : Nat) (B : List Bool) (i : Nat) : List V → ALed → Prop
  | mk (acc : List V) : acc = ((List.range i).map fun k => (valN (chunk B k) : Int)).map V.int → JOt L B i acc [(L + 1, cCellO (some (.str (strB B))))]
inductive JOc (L : Nat) (sc tb bl bf : Addr) (nb : Nat) (sy : Int → Int → List Int) (dcs acs : List Int) (tot : List Op) (bs : List (Nat × List Int)) (i : Nat) : AFr → ALed → Prop
  | mk (tx : Str) (bv : List V) (befs : List Int) (done : List Op) : tx = strB (opsB nb sy done) → bv = befs.map .int → befs.length = 3 → (∀ v ∈ befs, v.natAbs < 2 ^ 14) → done ++ blksOps dcs acs befs (bs.drop i) = tot → (opsB nb sy done).length ≤ 64 * done.length →
      JOc L sc tb bl bf nb sy dcs acs tot bs i [vv "before" (.ref bf), vv "scan" (.ref sc), vv "tables" (.ref tb), vv "blocks" (.ref bl)] [(L + 1, cCellO (some (.str tx))), (bf, cList bv)]
inductive JOr (L : Nat) (sc tb bl bf rw hA D : Addr) (bv : List V) (pl : Nat) (nb : Nat) (sy : Int → Int → List Int) (tot tail : List Op) (as : Int) (row : List Int) (i : Nat) : AFr → ALed → Prop
  | mk (tx : Str) (run : Nat) (R : Int) (done : List Op) : tx = strB (opsB nb sy done) → R = run → OcA nb sy tot tail as (row.drop i) run done →
      JOr L sc tb bl bf rw hA D bv pl nb sy tot tail as row i [vv "run" (.int R), vv "table" (.ref hA), vv "row" (.ref rw), vv "place" (.int (pl : Nat)), vv "before" (.ref bf), vv "scan" (.ref sc), vv "tables" (.ref tb), vv "blocks" (.ref bl)] [(D, cList (row.map .int)), (L + 1, cCellO (some (.str tx))), (bf, cList bv)]
theorem c_lawoct {w : World} (fam : ALed) (sc tb bl : Addr) (n2 : Nat) (h2 : 2 ≤ n2) (hn2 : n2 ≤ 16) (dcs acs : List Int) (hS : ScanF w fam sc dcs acs) (hd3 : dcs.length ≤ 3) (hac : acs.length = dcs.length) (xs : List (List Int × Addr × V)) (hT : Tabs w fam tb xs) (nb : Nat) (hnb : nb < 20) (sy : Int → Int → List Int) (bs : List (Nat × List Int)) (hB : BlkF fam bl bs)
   (hok : ∀ pl row, (pl, row) ∈ bs → pl < dcs.length ∧ row.length = n2 ∧ ∀ v ∈ row, v.natAbs < 2 ^ 14) (hsy : ∀ i j s, Op.sym i j s ∈ blksOps dcs acs (List.replicate dcs.length 0) bs → TabOk w fam tb nb sy xs i j s) (hl : (blksOps dcs acs (List.replicate dcs.length 0) bs).length < 900) :
   Con w 510 4 [.ref sc, .ref tb, .ref bl] [] fam (fun v led' => ∃ l, v = .bytes l ∧ octB l = padB (opsB nb sy (blksOps dcs acs (List.replicate dcs.length 0) bs)) ∧ led' = []) := by
 simp (disch := with_unfolding_all
  obtain ⟨ts, hB⟩ := hB
  obtain ⟨sq, hS⟩ := hS
  rw [blksOps_congr dcs acs dcs.length bs (List.replicate dcs.length 0) [0, 0, 0] (fun q hq => (hok q.1 q.2 hq).1) (by rw [List.length_replicate]; exact Nat.le_refl _) hd3 (fun p hp => by
    rw [List.getD_eq_getElem?_getD, List.getElem?_replicate, if_pos hp]
    have h3 : p < 3 := Nat.lt_of_lt_of_le hp hd3
    rcases p with _ | _ | _ | p; rfl; rfl; rfl; exact absurd h3 (Nat.not_lt.mpr (Nat.le_add_left 3 p)))] at hsy hl ⊢
  generalize htot : blksOps dcs acs [0, 0, 0] bs = tot at *
  refine' Con.ofC (names := ["scan", "tables", "blocks"]) ([vv "scan" (.ref sc), vv "tables" (.ref tb), vv "blocks" (.ref bl)]) ([(1, "text", none)]) ?k6 ?k7 ?hp ?hb ?hs ?hl ?k9 ?kk ?kl ?kn ?ke ?kf ?kg ?kv ?kc ?c2 ?c3 ?c4 ?_; (case k6 => k_is); (case k7 => k_is); (case hp => (conv => lhs; whnf)); (case hb => (conv => lhs; whnf)); (case hs => (conv => lhs; whnf)); (case hl => exact rfl); (case k9 => (intro xs hx; obtain ⟨x0, x1, x2, rfl⟩ := len3 hx; exact rfl)); (case kk => (intro L y hy; simp only [List.mem_cons, List.not_mem_nil, or_false] at hy; rcases hy with rfl | rfl | rfl <;> first | exact .inl rfl | exact .inr ⟨rfl, rfl⟩)); (case kl => (intro q hq; simp only [List.mem_cons, List.not_mem_nil, or_false] at hq; rcases hq with rfl | rfl | rfl <;> exact ⟨rfl, rfl⟩)); (case kn => (show ([Str.ofString "scan", Str.ofString "tables", Str.ofString "blocks"] : List Str).Nodup; decide)); (case ke => (intro L e he; simp only [List.mem_cons, List.not_mem_nil, or_false] at he; rcases he with rfl <;> exact rfl)); (case kf => (show ([1] : List Nat).Nodup; decide)); (case kg => (intro e he; simp only [List.mem_cons, List.not_mem_nil, or_false] at he; rcases he with rfl <;> exact Nat.le_of_ble_eq_true rfl)); (case kv => (intro kindOf hko xs is q hq; obtain rfl := funext hko; (obtain ⟨⟩ | ⟨i0, is⟩ := is); (obtain ⟨⟩ | ⟨i1, is⟩ := is); (obtain ⟨⟩ | ⟨i2, is⟩ := is); cases is; simp only [List.mem_cons, List.not_mem_nil, or_false] at hq; rcases hq with rfl | rfl | rfl <;> exact ⟨_, rfl, by assumption⟩)); (case kc => (intro kindOf hko xs is e he; obtain rfl := funext hko; (obtain ⟨⟩ | ⟨i0, is⟩ := is); (obtain ⟨⟩ | ⟨i1, is⟩ := is); (obtain ⟨⟩ | ⟨i2, is⟩ := is); cases is; simp only [List.mem_cons, List.not_mem_nil, or_false] at he; rcases he with rfl <;> first | exact rfl | exact ⟨_, rfl, by assumption⟩)); (case c2 => exact rfl); (case c3 => exact rfl); (case c4 => exact rfl)
  intro c Q0 L hQ0 ro hcl; simp only [cellLed, List.map_cons, List.map_nil, List.cons_append, List.nil_append]
  have hc1 : c.cl.lookup (Str.ofString "text") = some (L + 1) := by rw [hcl]; exact rfl
  have I0 := ro _ hB.mb
  have I1 := ro _ hS.m1
  have I2 := ro _ hS.m2
  have I3 := ro _ hS.m3
  have I4 := ro _ hS.m4
  have I5 := ro _ hT.obj
  have hks : ∀ led, KeysAt c led xs := fun led q hq => by obtain ⟨i, j, e, hm⟩ := hT.key q hq; exact ⟨i, j, e, .inr (ro _ hm)⟩
  k_extra "w"
  rename_i bf _
  (refine' ITER.list (JOc L sc tb bl bf nb sy dcs acs tot bs) (fun _ _ _ _ => Has.r I0) (.mk _ _ [0, 0, 0] [] ?_ ?_ rfl (by decide) htot (Nat.zero_le _)) ?rm5 ?rl5 (fun Q5 hQ5 => ?rt5) ?rd5; (case rm5 => k_extra "t"); (case rl5 => k_extra "t"))
  · rfl
  · rfl
  · clear htot
    rintro i v _ _ hi hv ⟨_, _, befs, done, rfl, rfl, hbl, hbd, htot, hlen⟩
    rw [List.length_map, hB.len] at hi
    obtain ⟨⟨pl, row⟩, hbi⟩ : ∃ q, bs[i]? = some q := ⟨bs[i], List.getElem?_eq_getElem hi⟩
    obtain ⟨t, r, ht, ht1, ht2⟩ := hB.at_ i pl row hbi
    rw [List.getElem?_map, ht] at hv
    cases hv
    have J1 := ro _ ht1
    have J2 := ro _ ht2
    obtain ⟨hp1, hp2, hp3⟩ := hok pl row (List.mem_of_getElem? hbi)
    have hdr : bs.drop i = (pl, row) :: bs.drop (i + 1) := by
      have := List.getElem?_eq_some_iff.mp hbi
      rw [List.drop_eq_getElem_cons hi, this.2]
    rw [hdr] at htot
    cases row with
    | nil => exact absurd hp2 (by simp; k_extra "o")
    | cons v0 row =>
    have htot2 : (done ++ numOps 0 (dcs.getD pl 0) 0 (v0 - befs.getD pl 0)) ++ (acOps 1 (acs.getD pl 0) 0 row ++ blksOps dcs acs (befs.set pl v0) (bs.drop (i + 1))) = tot := by
      rw [← htot]; simp [blksOps, blkOps, List.append_assoc]
    have g1 := getD_at hp1
    have g2 := getD_at (l := acs) (i := pl) (hac ▸ hp1)
    generalize dcs.getD pl 0 = ds at *
    generalize acs.getD pl 0 = as at *
    have q1 := map_at g1
    have q2 := map_at g2
    have hpb : pl < befs.length := by k_extra "o"
    have hold := map_at (getD_at hpb)
    have hb0 := hbd _ (List.mem_of_getElem? (getD_at hpb))
    generalize befs.getD pl 0 = b0 at *
    have hc0 : catN (v0 - b0) ≤ 15 := catN_le (by have := hp3 v0 (.head _); k_extra "o")
    have ok1 := hsy 0 ds (16 * ((0 : Nat) : Int) + catN (v0 - b0)) (by rw [← htot2]; exact List.mem_append_left _ (List.mem_append_right _ (.head _)))
    obtain ⟨kD, hD, hatD, HD⟩ := ok1.tab
    obtain ⟨s1, hs1⟩ := ac_some (i := 1) (j := as) (rest := row) (run := 0) (fun e => by subst e; rw [List.length_singleton] at hp2; k_extra "o")
    have ok2 := hsy 1 as s1 (by rw [← htot2]; exact List.mem_append_right _ (List.mem_append_left _ hs1))
    obtain ⟨kA, hA, hatA, HA⟩ := ok2.tab
    have hdl : done.length < 900 := by have := congrArg List.length htot2; rw [List.length_append, List.length_append] at this; k_extra "o"
    have hz1 : (opsB nb sy done).length + (numB nb (sy 0 ds) 0 (v0 - b0)).length ≤ 2 ^ 20 := by rw [numB_len]; k_extra "o"
    k_extra "w"
    refine SUB.dictT (Has.r I5) (by k_extra "h") (hks _) hatD rfl ?_
    k_extra "w"
    (refine' Con.callE (c_numtext fam hD nb hnb (sy 0 ds) HD ok1.len 0 (by decide) (v0 - b0) hc0 ok1.mem) ?cd2 ?ct2 ?cf2 ?_; (case ct2 => k_extra "t"); (case cd2 => exact rfl); (case cf2 => k_extra "f"))
    refine BIN.addB ?_ hz1
    k_with "len" => exact hpb
    k_extra "w"
    refine SUB.dictT (Has.r I5) (by k_extra "h") (hks _) hatA rfl ?_
    k_extra "w"
    refine E1.slice (EP.some ?_)
    k_extra "w"
    refine EP.none (EP.none fun sl => ?_)
    refine SUB.lslice (lo := .int 1) (hi := .none) (st := .none) (Has.r J2) (Has.l (by k_extra "mem")) trivial trivial trivial (by decide) (by rw [List.length_map, hp2]; k_extra "o") pick_tail (fun D => ?_) rfl (fun _ => rfl)
    have hO : OcA nb sy tot (blksOps dcs acs (befs.set pl v0) (bs.drop (i + 1))) as row 0 (done ++ numOps 0 ds 0 (v0 - b0)) := ⟨htot2, more_len hlen (num_len hnb hc0 _ _) (Nat.le_refl _) (show 1 ≤ 2 by decide), by rw [List.length_cons] at hp2; k_extra "o"⟩
    k_extra "w"
    (refine' ITER.list (JOr L sc tb bl bf r hA D ((befs.map V.int).set pl (.int v0)) pl nb sy tot (blksOps dcs acs (befs.set pl v0) (bs.drop (i + 1))) as row) (fun _ _ _ h => by cases h; exact Has.l (by k_extra "mem")) (.mk _ 0 _ _ ?_ ?_ hO) ?rm6 ?rl6 (fun Q6 hQ6 => ?rt6) ?rd6; (case rm6 => k_extra "t"); (case rl6 => k_extra "t"))
    · rw [opsB_append, opsB_num]
    · rfl
    · clear hO htot2 htot hlen hdl hz1
      rintro k v _ _ hk hv ⟨_, run, _, done, rfl, rfl, hO⟩
      rw [List.getElem?_map] at hv
      obtain ⟨vv', hvv, rfl⟩ := Option.map_eq_some_iff.mp hv
      have hdr : row.drop k = vv' :: row.drop (k + 1) := by
        have := List.getElem?_eq_some_iff.mp hvv
        rw [List.drop_eq_getElem_cons this.1, this.2]
      rw [hdr] at hO
      by_cases hz : vv' = 0
      · subst hz
        k_extra "w"
        (refine' ⟨_, _, _, _, .mk _ (run + 1) _ _ rfl ?_ hO.zero, ?rm8, ?rl8⟩; (case rm8 => k_extra "t"); (case rl8 => k_extra "t"))
        rfl
      · have hcv : catN vv' ≤ 15 := catN_le (by have := hp3 vv' (.tail _ (List.mem_of_getElem? hvv)); k_extra "o")
        obtain ⟨o1, o2, o3⟩ := hO.num hz hnb hcv
        have ok3 := hsy _ _ _ o1
        have hr15 := hO.run
        have hz2 : (opsB nb sy done).length + (numB nb (sy 1 as) run vv').length ≤ 2 ^ 20 := by rw [numB_len]; have := hO.len; k_extra "o"
        k_extra "w"
        (refine' Con.callE (c_numtext fam hA nb hnb (sy 1 as) HA ok2.len run (by k_extra "o") vv' hcv ok3.mem) ?cd3 ?ct3 ?cf3 ?_; (case ct3 => k_extra "t"); (case cd3 => exact rfl); (case cf3 => k_extra "f"))
        refine BIN.addB ?_ hz2
        k_extra "w"
        (refine' ⟨_, _, _, _, .mk _ 0 _ _ ?_ ?_ o3, ?rm9, ?rl9⟩; (case rm9 => k_extra "t"); (case rl9 => k_extra "t"))
        · rw [opsB_append, opsB_num]
        · rfl
    · rintro _ _ ⟨_, run, _, done, rfl, rfl, hO⟩
      rw [List.length_map, List.drop_length] at hO
      obtain ⟨qA, HAx⟩ := id HA
      have J3 := ro _ HAx.m1
      have J4 := ro _ HAx.m2
      have hbd' : ∀ v ∈ befs.set pl v0, v.natAbs < 2 ^ 14 := fun v hv => by
        rcases List.mem_or_eq_of_mem_set hv with hv | rfl
        · exact hbd v hv
        · exact hp3 _ (.head _)
      by_cases hr : 0 < run
      · obtain ⟨o1, o2, o3, o4⟩ := hO.eob hnb hr
        have ok4 := hsy _ _ _ o1
        have hz3 : (opsB nb sy done).length + (bitsN ((sy 1 as).idxOf 0) (nb + 1)).length ≤ 2 ^ 20 := by rw [bitsN_len]; have := hO.len; k_extra "o"
        k_extra "w"
        (refine' Con.call (c_hcode fam hA nb (sy 1 as) HA ((sy 1 as).idxOf 0) 0 (idx_at ok4.mem)) ?cd1 ?ct1 ?cf1 ?cz1; (case ct1 => k_extra "t"); (case cd1 => exact rfl); (case cf1 => k_extra "f"))
        rintro _ _ ⟨a, rfl, hm, rfl⟩
        have J5 := ro _ hm
        k_extra "w"
        (refine' Con.callE (c_figures _ (nb + 1) (by k_extra "o")) ?cd4 ?ct4 ?cf4 ?_; (case ct4 => k_extra "t"); (case cd4 => exact rfl); (case cf4 => k_extra "f"))
        refine BIN.addB ?_ hz3
        k_extra "w"
        (refine' ⟨_, _, _, _, .mk _ _ (befs.set pl v0) _ ?_ ?_ ?_ hbd' o3 o4, ?rm10, ?rl10⟩; (case rm10 => k_extra "t"); (case rl10 => k_extra "t"))
        · rw [opsB_append, opsB_one]; rfl
        · rw [List.map_set]
        · rw [List.length_set]; exact hbl
      · k_extra "w"
        (refine' ⟨_, _, _, _, .mk _ _ (befs.set pl v0) _ ?_ ?_ ?_ hbd' (hO.fin hr) hO.len, ?rm11, ?rl11⟩; (case rm11 => k_extra "t"); (case rl11 => k_extra "t"))
        · rfl
        · rw [List.map_set]
        · rw [List.length_set]; exact hbl
  · rintro _ _ ⟨_, _, befs, done, rfl, rfl, hbl, hbd, htot', hlen⟩
    rw [List.length_map, hB.len, List.drop_length, show blksOps dcs acs befs [] = [] by simp [blksOps], List.append_nil] at htot'
    obtain rfl := htot'
    have hn8 := neg_mod8 (opsB nb sy done).length
    have hz4 : (opsB nb sy done).length < 2 ^ 20 := by k_extra "o"
    have hz5 : (opsB nb sy done).length + (List.replicate ((8 - (opsB nb sy done).length % 8) % 8) true).length ≤ 2 ^ 20 := by rw [List.length_replicate]; k_extra "o"
    obtain ⟨q, hq⟩ : ∃ q, (padB (opsB nb sy done)).length = 8 * q := ⟨_, (Nat.mul_div_cancel' (Nat.dvd_of_mod_eq_zero (padB_len _))).symm⟩
    k_with "own" => with_reducible first | refine CALL.len_bits ?_ hz4 | refine BIN.ones hn8 (Nat.mod_lt _ (by decide)) ?_ | refine BIN.addB ?_ hz5
    k_extra "w"
    have hq' : (opsB nb sy done ++ List.replicate ((8 - (opsB nb sy done).length % 8) % 8) true).length = 8 * q := hq
    have hq3 : 8 * q < 2 ^ 20 := by rw [← hq', List.length_append, List.length_replicate]; k_extra "o"
    clear hn8 hz4 hz5
    (refine' E1.comp (cl := [("text", L + 1)]) ?kc ?kd ?ke ?kf ?kg ?kh ?ki ?_; (case kc => exact closure_of (by simp [closL, hc1])); (case kd => decide); (case ke => exact rfl); (case kf => decide); (case kg => exact rfl); (case kh => exact rfl); (case ki => (intro _; exact rfl)))
    k_with "own" => with_reducible refine CALL.len_bitsE hq' hq3 ?_
    k_extra "w"
    refine CALL.range3 (fun r => ?_) (by decide) (by decide)
    (refine' COMP.range3 (n := q) (JOt L (opsB nb sy done ++ List.replicate ((8 - (opsB nb sy done).length % 8) % 8) true)) (by k_extra "h") (small8 (by k_extra "o")) (size8 q) (by k_extra "o") (.mk [] rfl) ?tl ?turn ?done)
    case tl => k_extra "t"
    case done =>
      rintro _ _ hlen ⟨_, rfl⟩ D
      k_extra "w"
      refine CALL.bytes_ints (Has.l (by k_extra "mem")) (fun n hn => ?_) (by rw [List.length_map, List.length_range]; k_extra "o") ?_
      · obtain ⟨k, hk, rfl⟩ := List.mem_map.mp hn
        have hv := valN_lt (chunk (padB (opsB nb sy done)) k)
        rw [chunk_len hq (List.mem_range.mp hk)] at hv
        exact ⟨Int.natCast_nonneg _, Int.ofNat_lt.mpr hv⟩
      · k_extra "w"
        (refine' ⟨_, _, ?et12, _, rfl, ?_, rfl⟩; (case et12 => k_extra "t"))
        rw [List.map_map]
        exact octB_chunks _ q hq
    case turn =>
      rintro c' sc K1 hK1 i _ _ hi ⟨_, rfl⟩
      have hd1 : c'.cl.lookup (Str.ofString "text") = some (L + 1) := by rw [sc.cl]; exact rfl
      k_extra "w"
      refine E1.slice (EP.some ?_)
      k_extra "w"
      refine EP.some ?_
      k_extra "w"
      refine EP.none fun sl => ?_
      refine SUB.sslice (a := 8 * i) (b := 8 * i + 8) (Has.l (by k_extra "mem")) (by k_extra "o") (by k_extra "o") (by k_extra "o") (by rw [hq']; k_extra "o") (by rw [hq']; k_extra "o") ?_ (fun _ _ => rfl) (fun _ _ _ => rfl)
      rw [show 8 * i + 8 - 8 * i = 8 by k_extra "o"]
      k_extra "w"
      refine CALL.int8 (chunk_len hq hi) ?_
      (refine' hK1 _ _ _ _ ⟨_, _, .mk _ ?ea, ?ck7⟩; (case ck7 => k_extra "t"))
      rw [List.range_succ, List.map_append, List.map_append]
      rfl
 ) only [↓eq_true]
inductive PoolR : V → ALed → Prop
  | mk (D : Addr) (y0 y1 : Int) : PoolOk y1 → PoolR (.ref D) (srcL D y0 y1)
theorem c_pool {w : World} (fam : ALed) (sc : Addr) (ns : List Int) (hz : ns.length ≤ 63) (hs : (sc, cList (ns.map .int)) ∈ fam) : Con w 467 1 [.ref sc] [] fam PoolR := by
 simp (disch := with_unfolding_all
  have hm := fun x : Int => @fmod_bounds x 2147483647 (by decide)
  refine' Con.of ?k6 ?k7 ?hp ?hb ?hs ?hn ?hl ?k9 ?kB ?kN ?c5 ?c2 ?c3 ?c4 ?_; (case k6 => k_is); (case k7 => k_is); (case hp => (conv => lhs; whnf)); (case hb => (conv => lhs; whnf)); (case hs => (conv => lhs; whnf)); (case hn => (simp only [List.map_cons, List.map_nil]; exact rfl)); (case hl => exact rfl); (case k9 => (intro xs hx; obtain ⟨x0, rfl⟩ := len1 hx; exact rfl)); (case kB => (intro y hy; simp only [List.mem_cons, List.not_mem_nil, or_false] at hy; rcases hy with rfl <;> exact ⟨rfl, rfl⟩)); (case kN => decide); (case c5 => decide); (case c2 => exact rfl); (case c3 => exact rfl); (case c4 => exact rfl)
  intro c Q0 hQ0 ro; (try simp only [List.zip_cons_cons, List.zip_nil_left, List.zip_nil_right])
  have I1 := ro _ hs
  cases ns with
  | nil =>
    k_extra "w"
    · rename_i h; exact absurd h (by decide)
    k_extra "w"
    exact ⟨_, _, .all, .mk _ _ _ (hm _)⟩
  | cons n0 r =>
    rw [List.length_cons] at hz
    have hz' : (n0 :: r).length < 2 ^ 60 := by rw [List.length_cons]; k_extra "o"
    have hpos : 0 < ((n0 :: r).length : Int) := Int.natCast_pos.mpr (Nat.succ_pos _)
    k_extra "w"
    exact ⟨_, _, .all, .mk _ _ _ (hm _)⟩
 ) only [↓eq_true]
theorem c_pinit {w : World} (e : Addr) (msg : Str) : Con w 35 1 [.ref e, .str msg] [(e, cEx0)] [] (IsR (.none) [(e, cEx)]) := by
 simp (disch := with_unfolding_all
  refine' Con.of ?k6 ?k7 ?hp ?hb ?hs ?hn ?hl ?k9 ?kB ?kN ?c5 ?c2 ?c3 ?c4 ?_; (case k6 => k_is); (case k7 => k_is); (case hp => (conv => lhs; whnf)); (case hb => (conv => lhs; whnf)); (case hs => (conv => lhs; whnf)); (case hn => (simp only [List.map_cons, List.map_nil]; exact rfl)); (case hl => exact rfl); (case k9 => (intro xs hx; obtain ⟨x0, x1, rfl⟩ := len2 hx; exact rfl)); (case kB => (intro y hy; simp only [List.mem_cons, List.not_mem_nil, or_false] at hy; rcases hy with rfl | rfl <;> exact ⟨rfl, rfl⟩)); (case kN => decide); (case c5 => decide); (case c2 => exact rfl); (case c3 => exact rfl); (case c4 => exact rfl)
  intro c Q0 hQ0 ro; (try simp only [List.zip_cons_cons, List.zip_nil_left, List.zip_nil_right])
  k_extra "step"
  refine ST.expr (E1.excInit (by k_extra "mem") (by k_extra "mem") .head rfl ?_) rfl rfl
  k_extra "w"
  refine SETA.exc (fun o h => h) .head ?_
  k_extra "w"
  ((first | with_reducible refine' RetQ.is ?ok | with_reducible refine' RetQ.nx ?ok | refine' RetQ.is ?ok); (case ok => k_extra "t"))
 ) only [↓eq_true]
theorem g_CodeError {w : World} : Glob w "CodeError" (.ref 63) ∧ keepIn (Top.K w.params) (.ref 63) = true := ⟨⟨by k_is, by decide⟩, by k_is⟩
theorem c_finraise {w : World} (x dx sc tb bf : Addr) (many : Int) (rx rdx : Addr) (l : List UInt8) (k : Int) (hb : l.length < 2 ^ 20) (hk : 7 < 8 * (l.length : Int) - k) : RCon w 369 3 [.ref x] (apL (srL w x dx sc tb bf many (.ref rx)) (rdL w rx rdx l k)) := by
 simp (disch := with_unfolding_all
  refine' RCon.of ?k6 ?k7 ?hp ?hb ?hs ?hn ?hl ?k9 ?kB ?kN ?c5 ?c2 ?c3 ?c4 ?_; (case k6 => k_is); (case k7 => k_is); (case hp => (conv => lhs; whnf)); (case hb => (conv => lhs; whnf)); (case hs => (conv => lhs; whnf)); (case hn => (simp only [List.map_cons, List.map_nil]; exact rfl)); (case hl => exact rfl); (case k9 => (intro xs hx; obtain ⟨x0, rfl⟩ := len1 hx; exact rfl)); (case kB => (intro y hy; simp only [List.mem_cons, List.not_mem_nil, or_false] at hy; rcases hy with rfl <;> exact ⟨rfl, rfl⟩)); (case kN => decide); (case c5 => decide); (case c2 => exact rfl); (case c3 => exact rfl); (case c4 => exact rfl)
  intro c; (try simp only [List.zip_cons_cons, List.zip_nil_left, List.zip_nil_right])
  refine SX.if_ ?_
  k_extra "w"
  (refine' Con.callE (c_left rx rdx l k hb) ?cd1 ?ct1 ?cf1 ?_; (case ct1 => k_extra "t"); (case cd1 => exact rfl); (case cf1 => k_extra "f"))
  k_extra "w"
  refine ⟨decide_eq_true hk, by k_extra "t", SX.raise (E1.call g_CodeError.1 g_CodeError.2 rfl rfl ?_)⟩
  k_extra "w"
  refine CALL.exc (fun x => c_pinit x _) rfl fun e => ⟨e, rfl, rfl⟩
 ) only [↓eq_true]
theorem c_refused {w : World} {dd : Nat} {cs : Scope} {c : Cx w dd cs} {m : AFr} {led rest : ALed} {K : V → ALed → Prop} (x dx sc tb bf : Addr) (many : Int) (rx rdx : Addr) (l : List UInt8) (k : Int) (hb : l.length < 2 ^ 20) (hk : 7 < 8 * (l.length : Int) - k)
   (hout : c.outer = []) (hfL : c.fL = c.L) (hd : Nat.ble 4 dd = true) (t : TakesL (apL (srL w x dx sc tb bf many (.ref rx)) (rdL w rx rdx l k)) led rest) (hK : K (.bool true) (apL (apL (srL w x dx sc tb bf many (.ref rx)) (rdL w rx rdx l k)) rest)) : CALL c m led (.ref 524) [.ref x] K := by
  refine' CALL.refused (f₀ := 369) (d := 3) ?k6 ?k7 ?hp ?hb ?hs ?k9 ?kB ?c5 ?c2 ?c3 ?c4 ?hx ?he ?hM ?hn (c_finraise x dx sc tb bf many rx rdx l k hb hk) ?m1 ?m2 hout hfL hd t hK
  case k6 => k_is
  case k7 => k_is
  case hp => (conv => lhs; whnf)
  case hb => (conv => lhs; whnf)
  case hs => (conv => lhs; whnf)
  case k9 => (intro x; exact rfl)
  case kB => exact ⟨rfl, rfl⟩
  case c5 => decide
  case c2 => exact rfl
  case c3 => exact rfl
  case c4 => exact rfl
  case hx => exact rfl
  case he => exact fun env => ⟨_, rfl⟩
  case hM => exact m_SequentialReader_finish
  case m1 => k_extra "mem"
  case m2 => k_extra "mem"
  case hn => exact rfl
theorem bitI_nat (l : List UInt8) (k : Nat) : bitI l (k : Int) = (((l.getD (k / 8) 0).toNat / 2 ^ (7 - k % 8) % 2 : Nat) : Int) := by
  have h7 : Builtin.bitAnd (k : Int) 7 = ((k % 8 : Nat) : Int) := mask_is (N := 3) (a := 3) rfl
  have h8 : (k : Int).fdiv (2 ^ Int.toNat 3) = ((k / 8 : Nat) : Int) := shr_is (N := 3) (a := 3) rfl
  unfold bitI
  rw [h7, h8, Int.toNat_natCast]
  have hN : ((7 : Int) - ((k % 8 : Nat) : Int)).toNat = 7 - k % 8 := Int.toNat_sub 7 (k % 8)
  rw [shr_is hN]
  exact mask_is (N := 1) (a := 1) rfl
theorem octB_get : ∀ (l : List UInt8) (k : Nat), k < 8 * l.length → (octB l)[k]? = some (decide ((l.getD (k / 8) 0).toNat / 2 ^ (7 - k % 8) % 2 = 1))
  | [], k, h => by simp at h
  | b :: r, k, h => by
    have e : octB (b :: r) = bitsN b.toNat 8 ++ octB r := rfl
    rw [e]
    by_cases hk : k < 8
    · rw [List.getElem?_append_left (by rw [bitsN_len]; exact hk), bitsN_get 8 _ k hk, Nat.div_eq_of_lt hk, Nat.mod_eq_of_lt hk]; rfl
    · rw [List.length_cons] at h
      have h1 : k / 8 = (k - 8) / 8 + 1 := Nat.div_eq_sub_div (by decide) (Nat.le_of_not_lt hk)
      have h2 : k % 8 = (k - 8) % 8 := Nat.mod_eq_sub_mod (Nat.le_of_not_lt hk)
      rw [List.getElem?_append_right (by rw [bitsN_len]; k_extra "o"), bitsN_len, octB_get r (k - 8) (Nat.sub_lt_left_of_lt_add (Nat.le_of_not_lt hk) (by rw [Nat.add_comm]; exact h)), h1, h2]; rfl
theorem bitsI_val (l : List UInt8) (p : Nat) : ∀ n : Nat, p + n ≤ 8 * l.length → bitsI l (p : Int) n = ((valN (((octB l).drop p).take n) : Nat) : Int)
  | 0, _ => rfl
  | n + 1, h => by
    have hb := octB_get l (p + n) (by k_extra "o")
    have hv : ∀ b : Bool, valN [b] = b.toNat := fun b => by cases b <;> rfl
    have h2 : ∀ x : Nat, (decide (x % 2 = 1)).toNat = x % 2 := fun x => by rcases Nat.mod_two_eq_zero_or_one x with e | e <;> rw [e] <;> rfl
    rw [bitsI, bitsI_val l p n (by k_extra "o"), ← Int.natCast_add, bitI_nat, List.take_add_one, List.getElem?_drop, hb, Option.toList_some, valN_append, List.length_singleton, hv, h2, Nat.pow_one]
    push_cast
    rfl
theorem bitsI_mid {l : List UInt8} {pre B post : List Bool} (h : octB l = pre ++ (B ++ post)) {n : Nat} (hn : B.length = n) : bitsI l (pre.length : Nat) n = ((valN B : Nat) : Int) ∧ pre.length + n ≤ 8 * l.length := by
  have hl := congrArg List.length h
  rw [octB_len, List.length_append, List.length_append] at hl
  have hle : pre.length + n ≤ 8 * l.length := by rw [hl, hn, ← Nat.add_assoc]; exact Nat.le_add_right _ _
  refine ⟨?_, hle⟩
  rw [bitsI_val l _ n hle, h, List.drop_left, ← hn, List.take_left]
theorem SymAt.of {l : List UInt8} {nb : Nat} {syms : List Int} {s : Int} {pre post : List Bool} (h : octB l = pre ++ (symB nb syms s ++ post)) (hs : s ∈ syms) (hl : syms.length ≤ 2 ^ (nb + 1)) : SymAt l (pre.length : Nat) nb syms s := by
  obtain ⟨h1, h2⟩ := bitsI_mid h (bitsN_len _ _)
  refine ⟨by exact_mod_cast h2, ?_⟩
  rw [h1, Int.toNat_natCast, symB, valN_bitsN, Nat.mod_eq_of_lt (Nat.lt_of_lt_of_le (List.idxOf_lt_length_of_mem hs) hl)]
  exact idx_at hs
theorem value_back (v : Int) : valueOfI (bitsOfI v (catN v)) (catN v) = v := by
  have hb := catN_bound v
  have hlow : v ≠ 0 → 0 < catN v ∧ 2 ^ (catN v - 1) ≤ v.natAbs := fun hv => by
    have hc : 0 < catN v := Nat.pos_of_ne_zero fun e => by rw [e] at hb; k_extra "o"
    refine ⟨hc, Nat.le_of_not_lt fun hlt => ?_⟩
    have : catN v ≤ catN v - 1 := by
      unfold catN at hlt ⊢
      refine intBits_le_iff.mpr ?_
      split
      · rw [Int.natAbs_neg]; rw [if_pos (by assumption)] at hlt; exact hlt
      · rw [if_neg (by assumption)] at hlt; exact hlt
    k_extra "o"
  by_cases h0 : v = 0
  · subst h0; rfl
  obtain ⟨hc, hl⟩ := hlow h0
  have hp : (2 : Int) ^ catN v = 2 * ((2 ^ (catN v - 1) : Nat) : Int) := by
    push_cast
    rw [← Int.pow_succ']
    congr 1
    k_extra "o"
  have hq : (2 : Int) ^ (catN v - 1) = ((2 ^ (catN v - 1) : Nat) : Int) := by push_cast; rfl
  generalize (2 : Nat) ^ (catN v - 1) = Z at hl hp hq
  unfold valueOfI bitsOfI
  rw [hp, hq]
  rw [hp] at hb
  split <;> split <;> k_extra "o"
theorem bits_back {l : List UInt8} {pre post : List Bool} (v : Int) (h : octB l = pre ++ (bitsN (bitsOfI v (catN v)).toNat (catN v) ++ post)) : valueOfI (bitsI l (pre.length : Nat) (catN v)) (catN v) = v ∧ pre.length + catN v ≤ 8 * l.length := by
  obtain ⟨h1, h2⟩ := bitsI_mid h (bitsN_len _ _)
  refine ⟨?_, h2⟩
  rw [h1, valN_bitsN, Nat.mod_eq_of_lt (bitsOf_lt v), ← bitsOf_nat, value_back]
theorem AcAt.of {l : List UInt8} {nb : Nat} {sy : Int → Int → List Int} {as : Int} {many : Nat} (hl : (sy 1 as).length ≤ 2 ^ (nb + 1)) : ∀ (rest : List Int) (run k : Nat) (pre post : List Bool), (∀ s, Op.sym 1 as s ∈ acOps 1 as run rest → s ∈ sy 1 as) → (∀ v ∈ rest, catN v ≤ 15) →
    octB l = pre ++ (opsB nb sy (acOps 1 as run rest) ++ post) → k + run + rest.length = many → AcAt l nb (sy 1 as) many (pre.length : Nat) k (List.replicate run 0 ++ rest) (((pre ++ opsB nb sy (acOps 1 as run rest)).length : Nat) : Int) := by
  intro rest
  induction rest with
  | nil =>
    intro run k pre post hs _ h hk
    rw [acOps_nil] at h hs ⊢
    rw [List.append_nil]
    by_cases h0 : 0 < run
    · rw [if_pos h0] at h hs ⊢
      rw [opsB_one, opB] at h ⊢
      have e : run = many - k := by rw [← hk, List.length_nil]; k_extra "o"
      rw [e, List.length_append, symB, bitsN_len, Int.natCast_add]
      exact .eob (by rw [← hk, List.length_nil]; k_extra "o") (SymAt.of h (hs 0 (.head _)) hl)
    · obtain rfl : run = 0 := by k_extra "o"
      have e : k = many := by rw [← hk]; rfl
      subst e
      rw [if_neg h0]
      show AcAt l nb _ k _ k [] (((pre ++ []).length : Nat) : Int)
      rw [List.append_nil]
      exact .done
  | cons v r ih =>
    intro run
    induction run using Nat.strongRecOn with
    | ind run ihr =>
    intro k pre post hs hc h hk
    rw [List.length_cons] at hk
    by_cases hv : v = 0
    · subst hv
      rw [acOps_zero] at h hs ⊢
      have := ih (run + 1) k pre post hs (fun v hv => hc v (.tail _ hv)) h (by k_extra "o")
      rwa [List.replicate_succ', List.append_assoc] at this
    · by_cases h16 : 15 < run
      · rw [acOps_sub hv h16] at h hs ⊢
        have e : ∀ o (os : List Op), opsB nb sy (o :: os) = opB nb sy o ++ opsB nb sy os := fun _ _ => rfl
        rw [e, opB] at h ⊢
        rw [List.append_assoc] at h
        have z := SymAt.of h (hs 240 (.head _)) hl
        have e2 : (pre.length : Int) + (nb + 1 : Nat) = ((pre ++ symB nb (sy 1 as) 240).length : Nat) := by rw [List.length_append, symB, bitsN_len]; push_cast; rfl
        have := ihr (run - 16) (by k_extra "o") (k + 16) (pre ++ symB nb (sy 1 as) 240) post (fun s hm => hs s (.tail _ hm)) hc (by rw [List.append_assoc]; exact h) (by rw [List.length_cons]; k_extra "o")
        rw [show List.replicate run (0 : Int) = List.replicate 16 0 ++ List.replicate (run - 16) 0 by rw [List.replicate_append_replicate]; congr 1; k_extra "o", List.append_assoc, ← List.append_assoc pre]
        exact .zrl (by k_extra "o") z (by rw [e2]; exact this)
      · rw [acOps_val hv (by k_extra "o")] at h hs ⊢
        have hcv := hc v (.head _)
        have hz : 0 < catN v := Nat.pos_of_ne_zero fun e => by have := catN_bound v; rw [e] at this; k_extra "o"
        rw [opsB_append, opsB_num, numB, List.append_assoc, List.append_assoc] at h
        have z := SymAt.of h (hs _ (List.mem_append_left _ (.head _))) hl
        rw [← List.append_assoc] at h
        obtain ⟨b1, b2⟩ := bits_back v h
        rw [← List.append_assoc] at h
        have := ih 0 (k + run + 1) _ post (fun s hm => hs s (List.mem_append_right _ hm)) (fun v hv => hc v (.tail _ hv)) h (by k_extra "o")
        have e2 : (pre.length : Int) + (nb + 1 : Nat) = ((pre ++ symB nb (sy 1 as) (16 * run + catN v)).length : Nat) := by rw [List.length_append, symB, bitsN_len]; push_cast; rfl
        have e3 : (pre.length : Int) + (nb + 1 : Nat) + catN v = ((pre ++ symB nb (sy 1 as) (16 * run + catN v) ++ bitsN (bitsOfI v (catN v)).toNat (catN v)).length : Nat) := by rw [e2, List.length_append (as := pre ++ symB nb (sy 1 as) (16 * run + catN v)), bitsN_len, Int.natCast_add]
        have w := AcAt.val (l := l) (nb := nb) (syms := sy 1 as) (many := many) (k := k) (r := run) (z := catN v) (vs := r) (by k_extra "o") (by k_extra "o") hz (by k_extra "o") z (by rw [e2]; exact_mod_cast b2) (by rw [e3]; rw [List.replicate_zero, List.nil_append] at this; exact this)
        rw [e2, b1] at w
        rw [opsB_append, opsB_num, numB, ← List.append_assoc, ← List.append_assoc]
        exact w
theorem octB_inj : ∀ {l l' : List UInt8}, octB l = octB l' → l = l'
  | [], [], _ => rfl
  | [], b :: r, h => by have := congrArg List.length h; rw [octB_len, octB_len] at this; simp at this
  | b :: r, [], h => by have := congrArg List.length h; rw [octB_len, octB_len] at this; simp at this
  | b :: r, b' :: r', h => by
    have h' : bitsN b.toNat 8 ++ octB r = bitsN b'.toNat 8 ++ octB r' := h
    obtain ⟨h1, h2⟩ := List.append_inj h' (by rw [bitsN_len, bitsN_len])
    have e := congrArg valN h1
    rw [valN_bitsN, valN_bitsN, Nat.mod_eq_of_lt b.toNat_lt, Nat.mod_eq_of_lt b'.toNat_lt] at e
    rw [octB_inj h2, UInt8.toNat_inj.mp e]
structure RdSt (w : World) (fam : ALed) (tb : Addr) (xs : List (List Int × Addr × V)) (l : List UInt8) (nb : Nat) (sy : Int → Int → List Int) (dcs acs : List Int) (post : List Bool) (rest : List (Nat × List Int)) (befs : List Int) (p : Int) : Prop where
  len : befs.length = dcs.length
  pos : ∃ pre, octB l = pre ++ (opsB nb sy (blksOps dcs acs befs rest) ++ post) ∧ p = ((pre.length : Nat) : Int)
  ok : ∀ i j s, Op.sym i j s ∈ blksOps dcs acs befs rest → TabOk w fam tb nb sy xs i j s
  bd : ∀ v ∈ befs, v.natAbs < 2 ^ 14
theorem RdSt.step {w : World} {fam : ALed} {tb : Addr} {xs : List (List Int × Addr × V)} {l : List UInt8} {nb : Nat} {sy : Int → Int → List Int} {dcs acs : List Int} {post : List Bool} {rest : List (Nat × List Int)} {befs : List Int} {p : Int} {pl : Nat} {v0 : Int} {row : List Int} {many : Nat} (h : RdSt w fam tb xs l nb sy dcs acs post ((pl, v0 :: row) :: rest) befs p) (hpl : pl < dcs.length) (hm : row.length + 1 = many) (hb : ∀ v ∈ v0 :: row, v.natAbs < 2 ^ 14) (hr : row ≠ []) :
    (∃ s, TabOk w fam tb nb sy xs 0 (dcs.getD pl 0) s) ∧ (∃ s, TabOk w fam tb nb sy xs 1 (acs.getD pl 0) s) ∧ ∃ z : Nat, z < 16 ∧ SymAt l p nb (sy 0 (dcs.getD pl 0)) z ∧ p + (nb + 1 : Nat) + z ≤ 8 * (l.length : Int) ∧ befs.getD pl 0 + valueOfI (bitsI l (p + (nb + 1 : Nat)) z) z = v0 ∧ 0 ≤ p ∧ ∃ k1, AcAt l nb (sy 1 (acs.getD pl 0)) many (p + (nb + 1 : Nat) + z) 1 row k1 ∧ RdSt w fam tb xs l nb sy dcs acs post rest (befs.set pl v0) k1 := by
  obtain ⟨h1, ⟨pre, h2, rfl⟩, h3, h4⟩ := h
  have e : blksOps dcs acs befs ((pl, v0 :: row) :: rest) = (numOps 0 (dcs.getD pl 0) 0 (v0 - befs.getD pl 0) ++ acOps 1 (acs.getD pl 0) 0 row) ++ blksOps dcs acs (befs.set pl v0) rest := rfl
  rw [e] at h2 h3
  have hold : (befs.getD pl 0).natAbs < 2 ^ 14 := h4 _ (List.mem_of_getElem? (getD_at (h1 ▸ hpl)))
  have h0 := hb v0 (.head _)
  have hc : catN (v0 - befs.getD pl 0) ≤ 15 := catN_le (by k_extra "o")
  rw [opsB_append, opsB_append, opsB_num, numB, List.append_assoc, List.append_assoc, List.append_assoc] at h2
  have s1 := h3 0 _ _ (List.mem_append_left _ (List.mem_append_left _ (.head _)))
  have z := SymAt.of h2 s1.mem s1.len
  rw [← List.append_assoc] at h2
  obtain ⟨b1, b2⟩ := bits_back _ h2
  rw [← List.append_assoc] at h2
  obtain ⟨sA, hsA⟩ := ac_some (i := 1) (j := acs.getD pl 0) (run := 0) hr
  have s2 := h3 1 _ sA (List.mem_append_left _ (List.mem_append_right _ hsA))
  have ac := AcAt.of (nb := nb) (sy := sy) (many := many) s2.len row 0 1 _ _ (fun s hs => (h3 1 _ s (List.mem_append_left _ (List.mem_append_right _ hs))).mem) (fun v hv => catN_le (by have := hb v (.tail _ hv); k_extra "o")) h2 (by k_extra "o")
  have z' : SymAt l (pre.length : Nat) nb (sy 0 (dcs.getD pl 0)) (catN (v0 - befs.getD pl 0)) := by
    have := z
    rwa [show (16 * ((0 : Nat) : Int) + (catN (v0 - befs.getD pl 0) : Int)) = (catN (v0 - befs.getD pl 0) : Int) by k_extra "o"] at this
  have e2 : (pre.length : Int) + (nb + 1 : Nat) = ((pre ++ symB nb (sy 0 (dcs.getD pl 0)) (16 * (0 : Nat) + catN (v0 - befs.getD pl 0))).length : Nat) := by rw [List.length_append, symB, bitsN_len]; push_cast; rfl
  have e3 : (pre.length : Int) + (nb + 1 : Nat) + catN (v0 - befs.getD pl 0) = ((pre ++ symB nb (sy 0 (dcs.getD pl 0)) (16 * (0 : Nat) + catN (v0 - befs.getD pl 0)) ++ bitsN (bitsOfI (v0 - befs.getD pl 0) (catN (v0 - befs.getD pl 0))).toNat (catN (v0 - befs.getD pl 0))).length : Nat) := by
    rw [e2, List.length_append (as := pre ++ symB nb (sy 0 (dcs.getD pl 0)) (16 * (0 : Nat) + catN (v0 - befs.getD pl 0))), bitsN_len, Int.natCast_add]
  rw [List.replicate_zero, List.nil_append] at ac
  refine ⟨⟨_, s1⟩, ⟨_, s2⟩, catN (v0 - befs.getD pl 0), by k_extra "o", z', by rw [e2]; exact_mod_cast b2, by rw [e2, b1]; k_extra "o", by k_extra "o", _, by rw [e3]; exact ac, ⟨by rw [List.length_set]; exact h1, ⟨_, by rw [List.append_assoc]; exact h2, rfl⟩, fun i j s hm => h3 i j s (List.mem_append_right _ hm), fun v hv => ?_⟩⟩
  rcases List.mem_or_eq_of_mem_set hv with hv | rfl
  · exact h4 v hv
  · exact h0
theorem RdSt.start {w : World} {fam : ALed} {tb : Addr} {xs : List (List Int × Addr × V)} {l : List UInt8} {nb : Nat} {sy : Int → Int → List Int} {dcs acs : List Int} {post : List Bool} {bs : List (Nat × List Int)} (h : octB l = opsB nb sy (blksOps dcs acs (List.replicate dcs.length 0) bs) ++ post) (ok : ∀ i j s, Op.sym i j s ∈ blksOps dcs acs (List.replicate dcs.length 0) bs → TabOk w fam tb nb sy xs i j s) : RdSt w fam tb xs l nb sy dcs acs post bs (List.replicate dcs.length 0) 0 :=
  ⟨List.length_replicate, ⟨[], h, rfl⟩, ok, fun v hv => by rw [List.eq_of_mem_replicate hv]; decide⟩
theorem RdSt.fin {w : World} {fam : ALed} {tb : Addr} {xs : List (List Int × Addr × V)} {l : List UInt8} {nb : Nat} {sy : Int → Int → List Int} {dcs acs : List Int} {post : List Bool} {befs : List Int} {p : Int} (h : RdSt w fam tb xs l nb sy dcs acs post [] befs p) : 8 * (l.length : Int) - p = (post.length : Nat) := by
  obtain ⟨-, ⟨pre, h2, rfl⟩, -, -⟩ := h
  have e : opsB nb sy (blksOps dcs acs befs []) = [] := by simp [blksOps, opsB]
  rw [e, List.nil_append] at h2
  have hl := congrArg List.length h2
  rw [octB_len, List.length_append] at hl
  k_extra "o"
theorem ScanF.mono {w : World} {F G : ALed} {sc : Addr} {ds as : List Int} (h : ScanF w F sc ds as) (k : ∀ q ∈ F, q ∈ G) : ScanF w G sc ds as := let ⟨q, h⟩ := h; ⟨q, k _ h.m1, k _ h.m2, k _ h.m3, k _ h.m4⟩
theorem BlkF.mono {F G : ALed} {bl : Addr} {bs : List (Nat × List Int)} (h : BlkF F bl bs) (k : ∀ q ∈ F, q ∈ G) : BlkF G bl bs := let ⟨ts, h⟩ := h; ⟨ts, k _ h.mb, h.len, fun i p r e => let ⟨t, r', h1, h2, h3⟩ := h.at_ i p r e; ⟨t, r', h1, k _ h2, k _ h3⟩⟩
theorem HTab.mono {w : World} {F G : ALed} {h : Addr} {nb : Nat} {syms : List Int} (H : HTab w F h nb syms) (k : ∀ q ∈ F, q ∈ G) : HTab w G h nb syms := let ⟨q, H⟩ := H; ⟨q, k _ H.m1, k _ H.m2, k _ H.m3, k _ H.m4, H.m6, fun i a h1 h2 => k _ (H.m7 i a h1 h2), k _ H.m8, H.m9, fun j s h => let ⟨a, h1, h2⟩ := H.m10 j s h; ⟨a, h1, k _ h2⟩⟩
theorem Tabs.mono {w : World} {F G : ALed} {td : Addr} {xs : List (List Int × Addr × V)} (h : Tabs w F td xs) (k : ∀ q ∈ F, q ∈ G) : Tabs w G td xs := ⟨k _ h.obj, fun x hx => let ⟨i, j, e, h⟩ := h.key x hx; ⟨i, j, e, k _ h⟩⟩
theorem TabOk.mono {w : World} {F G : ALed} {tb : Addr} {nb : Nat} {sy : Int → Int → List Int} {xs : List (List Int × Addr × V)} {i j s : Int} (h : TabOk w F tb nb sy xs i j s) (k : ∀ q ∈ F, q ∈ G) : TabOk w G tb nb sy xs i j s := ⟨let ⟨a, b, e, h⟩ := h.tab; ⟨a, b, e, h.mono k⟩, h.mem, h.len⟩
theorem Con.mono {w : World} {f : Addr} {d : Nat} {args : List V} {muts fam : ALed} {Po Po' : V → ALed → Prop} (C : Con w f d args muts fam Po) (h : ∀ v led, Po v led → Po' v led) : Con w f d args muts fam Po' := fun xs Lm Lf is l1 l2 _ _ _ _ _ _ _ gd cn cs a ccd cl _ _ _ _ _ _ _ S => codeS.mono (C xs Lm Lf is l1 l2 _ _ _ _ _ _ _ gd cn cs a ccd cl _ _ _ _ _ _ _ S) fun r s' z => by
  rcases r with e | (x | _ | _ | _) <;> first | exact z.elim | skip
  obtain ⟨h', tk', l, e, hk, hl, hn, v, muts', po, iv, l'⟩ := z
  exact ⟨h', tk', l, e, hk, hl, hn, v, muts', h _ _ po, iv, l'⟩
inductive RdR (w : World) (fam : ALed) (tb : Addr) (xs : List (List Int × Addr × V)) (l : List UInt8) (nb : Nat) (sy : Int → Int → List Int) (dcs acs : List Int) (post : List Bool) (rest : List (Nat × List Int)) (row : List Int) (x dx sc bf : Addr) (many : Nat) (rx rdx : Addr) : V → ALed → Prop
  | mk (fa : Addr) (bv : List V) (befs : List Int) (k1 : Int) : bv = befs.map .int → RdSt w fam tb xs l nb sy dcs acs post rest befs k1 →
      RdR w fam tb xs l nb sy dcs acs post rest row x dx sc bf many rx rdx (.ref fa) ((fa, cList (row.map .int)) :: (bf, cList bv) :: apL (srL w x dx sc tb bf many (.ref rx)) (rdL w rx rdx l k1))
theorem c_rdstep {w : World} (fam : ALed) (x dx sc tb bf : Addr) (many : Nat) (rx rdx : Addr) (l : List UInt8) (p : Int) (hb : l.length < 2 ^ 20) (dcs acs : List Int) (hS : ScanF w fam sc dcs acs) (hac : acs.length = dcs.length) (xs : List (List Int × Addr × V)) (hT : Tabs w fam tb xs)
   (nb : Nat) (hnb : nb < 19) (sy : Int → Int → List Int) (post : List Bool) (rest : List (Nat × List Int)) (befs : List Int) (bv : List V) (hbv : bv = befs.map .int) (pl : Nat) (row : List Int) (rw : V) (R : RdSt w fam tb xs l nb sy dcs acs post ((pl, row) :: rest) befs p) (hpl : pl < dcs.length) (hd : dcs.length ≤ 4) (hm : row.length = many) (hm1 : 1 < many) (hm2 : many < 100) (hv : ∀ v ∈ row, v.natAbs < 2 ^ 14) :
   Con w 362 6 [.ref x, .int (pl : Int), rw] ((bf, cList bv) :: apL (srL w x dx sc tb bf many (.ref rx)) (rdL w rx rdx l p)) fam (RdR w fam tb xs l nb sy dcs acs post rest row x dx sc bf many rx rdx) := by
  subst hbv
  cases row with
  | nil => exact absurd hm (by simp; k_extra "o")
  | cons v0 row =>
  obtain ⟨⟨s0, t0⟩, ⟨s1, t1⟩, z, hz, zs, zr, zv, z0, k1, ac, R'⟩ := R.step (many := many) hpl hm hv (fun e => by subst e; rw [List.length_singleton] at hm; k_extra "o")
  obtain ⟨kd, hD, hkd, HD⟩ := t0.tab
  obtain ⟨ka, hA, hka, HA⟩ := t1.tab
  have hp : 2 ^ (nb + 1) < 2 ^ 20 := Nat.pow_lt_pow_right (by decide) (Nat.succ_lt_succ hnb)
  have C := c_rread fam x dx sc tb bf many rx rdx l p (befs.map .int) hb z0 dcs acs hS xs hT pl rw _ _ (getD_at hpl) (getD_at (hac ▸ hpl)) kd ka hD hA hkd hka nb _ _ (by k_extra "o") HD HA (Nat.lt_of_le_of_lt t0.len hp) (Nat.lt_of_le_of_lt t1.len hp) (befs.getD pl 0) (by rw [List.getElem?_map, getD_at (R.len ▸ hpl)]; rfl) (by k_extra "o") z hz zs zr hm1 hm2 row k1 ac
  refine C.mono ?_
  rintro _ _ ⟨fa, v, rfl, hv, rfl⟩
  rw [zv] at hv
  subst hv
  exact .mk fa _ _ k1 (List.map_set ..).symm R'
noncomputable abbrev zRow (v : Int) : List Int := 1 :: (List.replicate 17 0 ++ v :: List.replicate 6 0)
structure ZF (w : World) (sc bl row : Addr) (v : Int) (F : ALed) : Prop where
  scan : ScanF w F sc [0] [0]
  row : (row, cList ((zRow v).map .int)) ∈ F
  blk : BlkF F bl [(0, zRow v)]
theorem ZF.mono {w : World} {sc bl row : Addr} {v : Int} {F G : ALed} (h : ZF w sc bl row v F) (k : ∀ q ∈ F, q ∈ G) : ZF w sc bl row v G := ⟨h.scan.mono k, k _ h.row, h.blk.mono k⟩
noncomputable abbrev zOps (v : Int) : List Op := blksOps [0] [0] (List.replicate 1 0) [(0, zRow v)]
theorem zOps_eq {v : Int} (hv : v ≠ 0) : zOps v = numOps 0 0 0 1 ++ ([Op.sym 1 0 240] ++ (numOps 1 0 1 v ++ [Op.sym 1 0 0])) := by
  show numOps 0 0 0 (1 - 0) ++ acOps 1 0 0 (List.replicate 17 0 ++ v :: List.replicate 6 0) ++ [] = _
  have h17 : acOps 1 0 0 (List.replicate 17 0 ++ v :: List.replicate 6 0) = acOps 1 0 17 (v :: List.replicate 6 0) := by
    simp only [List.replicate_succ, List.replicate_zero, List.cons_append, List.nil_append, acOps_zero]
  rw [h17, acOps_sub hv (by decide), acOps_val hv (by decide)]
  have h6 : acOps 1 0 0 (List.replicate 6 0) = [Op.sym 1 0 0] := by simp only [List.replicate_succ, List.replicate_zero, acOps_zero, acOps_nil]; rfl
  rw [h6, List.append_nil]
  rfl
theorem zCat {v : Int} (h1 : 1 ≤ v) (h2 : v ≤ 100) : catN v = Builtin.Int.intBits v ∧ 1 ≤ Builtin.Int.intBits v ∧ Builtin.Int.intBits v < 8 := by
  have e : catN v = Builtin.Int.intBits v := by unfold catN; rw [if_neg (by k_extra "o")]
  have hb := catN_bound v
  have h7 : Builtin.Int.intBits v ≤ 7 := intBits_le_iff.mpr (by k_extra "o")
  refine ⟨e, Nat.pos_of_ne_zero fun z => ?_, by k_extra "o"⟩
  rw [e, z] at hb
  k_extra "o"
theorem zCnt {v : Int} (h1 : 1 ≤ v) (h2 : v ≤ 100) : cnt [] (zOps v) = [((0, 0), [(1, 1)]), ((1, 0), [(240, 1), (16 + (Builtin.Int.intBits v : Int), 1), (0, 1)])] := by
  obtain ⟨e, c1, c2⟩ := zCat h1 h2
  rw [zOps_eq (by k_extra "o")]
  have e1 : catN 1 = 1 := by decide
  simp only [numOps, e, e1, cnt_append, cnt]
  generalize Builtin.Int.intBits v = b at c1 c2
  have n1 : ¬ ((240 : Int) = 16 + (b : Int)) := by k_extra "o"
  have n3 : ¬ (16 + (b : Int) = 0) := by k_extra "o"
  simp [told, bump, getC, n1, n3]
theorem zLen {v : Int} (h1 : 1 ≤ v) : (([] : List Op) ++ zOps v).length < 900 := by
  rw [zOps_eq (by k_extra "o")]; exact Nat.lt_of_lt_of_le (show 6 < 7 by decide) (by decide)
theorem zOk {v : Int} (h1 : 1 ≤ v) (h2 : v ≤ 100) : ∀ (pl : Nat) (row : List Int), (pl, row) ∈ [(0, zRow v)] → pl < [(0 : Int)].length ∧ row.length = 25 ∧ ∀ v ∈ row, v.natAbs < 2 ^ 14 := by
  intro pl row h
  obtain ⟨rfl, rfl⟩ := Prod.mk.inj (List.mem_singleton.mp h)
  refine ⟨Nat.zero_lt_one, rfl, fun x hx => ?_⟩
  simp only [zRow, List.mem_cons, List.mem_append, List.mem_replicate] at hx
  have h0 : v.natAbs < 2 ^ 14 := Int.ofNat_lt.mp (by rw [Int.natAbs_of_nonneg (Int.le_trans (by decide) h1)]; exact Int.lt_of_le_of_lt h2 (by decide))
  rcases hx with h | ⟨-, h⟩ | h | ⟨-, h⟩ <;> rw [h] <;> first | exact h0 | decide
theorem zSym {v : Int} (h1 : 1 ≤ v) (h2 : v ≤ 100) {i j s : Int} (h : Op.sym i j s ∈ zOps v) : (i = 0 ∨ i = 1) ∧ j = 0 ∧ s ∈ [0, 1, 240, 16 + (Builtin.Int.intBits v : Int)] := by
  rw [zOps_eq (by k_extra "o")] at h
  have e1 : catN 1 = 1 := by decide
  simp only [numOps, (zCat h1 h2).1, e1, List.mem_append, List.mem_cons, Op.sym.injEq, List.not_mem_nil, or_false, reduceCtorEq] at h
  simp only [List.mem_cons, List.not_mem_nil, or_false]
  rcases h with ⟨h1, h2, h3⟩ | ⟨h1, h2, h3⟩ | ⟨h1, h2, h3⟩ | ⟨h1, h2, h3⟩
  · exact ⟨.inl h1, h2, .inr (.inl h3)⟩
  · exact ⟨.inr h1, h2, .inr (.inr (.inl h3))⟩
  · exact ⟨.inr h1, h2, .inr (.inr (.inr h3))⟩
  · exact ⟨.inr h1, h2, .inl h3⟩
theorem st1 {b : Int} (h : 0 < b ∧ b < 100) : storeI [(240, .int 1)] (16 + b) (.int 1) = [(240, .int 1), (16 + b, .int 1)] ∧ storeI [(240, .int 1), (16 + b, .int 1)] 0 (.int 1) = [(240, .int 1), (16 + b, .int 1), (0, .int 1)] := by
  constructor
  · simp [storeI]; k_extra "o"
  · simp [storeI]; k_extra "o"
theorem zNd {b : Nat} (h : b < 100) (h1 : 1 ≤ b) : ([0, 1, 240, 16 + (b : Int)] : List Int).Nodup := by
  simp only [List.nodup_cons, List.mem_cons, List.not_mem_nil, or_false, not_false_iff, List.nodup_nil, and_true]
  exact ⟨fun h => by rcases h with h | h | h; cases h; cases h; exact absurd h (by k_extra "o"), fun h => by rcases h with h | h; cases h; exact absurd h (by k_extra "o"), by k_extra "o"⟩
theorem ents2 {ents : List CE} {l : List (Int × Int)} (h : ents.map ceP = [((0, 0), [(1, 1)]), ((1, 0), l)]) : ∃ ka1 da1 ka2 da2, ents = [⟨0, 0, ka1, da1, [(1, 1)]⟩, ⟨1, 0, ka2, da2, l⟩] := by
  obtain ⟨e1, r1, rfl, h1, hr⟩ := List.map_eq_cons_iff.mp h
  obtain ⟨e2, r2, rfl, h2, h3⟩ := List.map_eq_cons_iff.mp hr
  obtain rfl := List.map_eq_nil_iff.mp h3
  cases e1; cases e2; cases h1; cases h2
  exact ⟨_, _, _, _, rfl⟩
theorem c_zeros {w : World} (v : Int) (hv1 : 1 ≤ v) (hv2 : v ≤ 100) : Con w 517 11 [.int v] [] [] (IsR (.bool true) []) := by
 simp (disch := with_unfolding_all
  refine' Con.of ?k6 ?k7 ?hp ?hb ?hs ?hn ?hl ?k9 ?kB ?kN ?c5 ?c2 ?c3 ?c4 ?_; (case k6 => k_is); (case k7 => k_is); (case hp => (conv => lhs; whnf)); (case hb => (conv => lhs; whnf)); (case hs => (conv => lhs; whnf)); (case hn => (simp only [List.map_cons, List.map_nil]; exact rfl)); (case hl => exact rfl); (case k9 => (intro xs hx; obtain ⟨x0, rfl⟩ := len1 hx; exact rfl)); (case kB => (intro y hy; simp only [List.mem_cons, List.not_mem_nil, or_false] at hy; rcases hy with rfl <;> exact ⟨rfl, rfl⟩)); (case kN => decide); (case c5 => decide); (case c2 => exact rfl); (case c3 => exact rfl); (case c4 => exact rfl)
  intro c Q0 hQ0 ro; (try simp only [List.zip_cons_cons, List.zip_nil_left, List.zip_nil_right])
  k_extra "w"
  rename_i D1 D2 D3
  (refine' CALL.make mk_Scan (fun x dx => c_scan x dx D1 D2 D3 0 24 0 0) ?cd13 ?ct13 ?cf13 ?cz13; (case ct13 => k_extra "t"); (case cd13 => exact rfl); (case cf13 => k_extra "f"))
  rintro sc sdx _ _ ⟨rfl, rfl⟩
  refine ⟨rfl, ?_⟩
  k_extra "w"
  rename_i row _
  (refine' CALL.make mk_CountSink (fun x dx => c_ckinit x dx) ?cd14 ?ct14 ?cf14 ?cz14; (case ct14 => k_extra "t"); (case cd14 => exact rfl); (case cf14 => k_extra "f"))
  rintro ck ckd _ _ ⟨cd, rfl, hcd, rfl⟩
  refine ⟨rfl, ?_⟩
  k_extra "w"
  have hsw : ∀ x dx sk, Con w 299 1 [.ref x, .ref sc, .int (5 : Nat), .ref sk] [(x, cInst 323 dx), (dx, cAttr w 323 [])] [] (fun v led => ∃ bf, v = .none ∧ led = (bf, cList []) :: swL w x dx sc sk bf ((25 : Nat) : Int)) := fun x dx sk => c_swinit x dx sc sk 5 (by decide)
  (refine' CALL.make mk_SequentialWriter (fun x dx => hsw x dx ck) ?cd15 ?ct15 ?cf15 ?cz15; (case ct15 => k_extra "t"); (case cd15 => exact rfl); (case cf15 => k_extra "f"))
  rintro sw swd _ _ ⟨bf, rfl, rfl⟩
  refine ⟨rfl, ?_⟩
  k_extra "w"
  rename_i tp bl
  refine' CALL.pack (P := ZF w sc bl row v) (F₀ := [(bl, cList [.ref tp]), (tp, cTup [.int 0, .ref row]), (row, cList ([V.int 1] ++ List.replicate 17 (V.int 0) ++ [V.int v] ++ List.replicate 6 (V.int 0))), (sc, cInst 169 sdx), (sdx, cAttr w 169 [vv "low" (.int 0), vv "high" (.int 0), vv "end" (.int 24), vv "start" (.int 0), vv "ac_slots" (.ref D3), vv "dc_slots" (.ref D2), vv "places" (.ref D1)]), (D2, cList [.int 0]), (D3, cList [.int 0])]) (live := (bf, cList []) :: (ck, cInst 456 ckd) :: (ckd, cAttr w 456 [vv "counts" (.ref cd)]) :: (cd, cDictT w []) :: swL w sw swd sc ck bf ((25 : Nat) : Int)) ?zp ?zt ?zk
  case zt => k_extra "t"
  case zp => exact ⟨⟨⟨sdx, D1, D2, D3, .int 0, .int 24, .int 0, .int 0⟩, mem_tl (mem_tl (mem_tl mem_hd)), mem_tl (mem_tl (mem_tl (mem_tl mem_hd))), mem_tl (mem_tl (mem_tl (mem_tl (mem_tl mem_hd)))), mem_tl (mem_tl (mem_tl (mem_tl (mem_tl (mem_tl mem_hd)))))⟩, mem_tl (mem_tl mem_hd), [tp], mem_hd, rfl, fun i pl r h => by
    cases i with
    | zero => cases h; exact ⟨tp, row, rfl, mem_tl mem_hd, mem_tl (mem_tl mem_hd)⟩
    | succ i => cases h⟩
  rintro F hZ
  obtain ⟨hS, hrow, hB⟩ := id hZ
  have hop := zLen hv1
  have zok := zOk hv1 hv2
  (refine' Con.call (c_coded (countSink F ck) sw swd sc bf bl 25 (by decide) (by decide) [0] [0] hS (by decide) rfl [] [(ck, cInst 456 ckd), (ckd, cAttr w 456 [vv "counts" (.ref cd)]), (cd, cDictT w [])] ⟨ckd, cd, [], [], rfl, hcd, ⟨fun _ h => (nomatch h), fun _ h => (nomatch h), rfl⟩⟩ [(0, zRow v)] hB zok (fun _ _ _ _ => trivial) hop) ?cd1 ?ct1 ?cf1 ?cz1; (case ct1 => k_extra "t"); (case cd1 => exact rfl); (case cf1 => k_extra "f"))
  rintro _ _ ⟨bf', befs, _, led₁, rfl, ⟨rfl, rfl⟩, hk⟩
  obtain ⟨kx, kd, ents, pool, rfl, hkd, E⟩ := hk
  have hents : ents.map ceP = _ := E.hc.trans (zCnt hv1 hv2)
  obtain ⟨ka1, da1, ka2, da2, rfl⟩ := ents2 hents
  have hE1 := E.he _ (.head _)
  have hE2 := E.he _ (.tail _ (.head _))
  k_extra "w"
  ((with_reducible refine' E1.dictP (cDictT w []) ?dp9 ?dq9 ?dr9 ?ds9 ?dt9); (case dp9 => exact cDictT_nil); (case dq9 => exact rfl); (case dr9 => exact rfl); (case ds9 => exact Nat.le_of_ble_eq_true rfl)); intro DX hDX
  k_extra "w"
  ((with_reducible refine' E1.dictP (cDictI w []) ?dp10 ?dq10 ?dr10 ?ds10 ?dt10); (case dp10 => exact cDictI_nil); (case dq10 => exact rfl); (case dr10 => exact rfl); (case ds10 => exact Nat.le_of_ble_eq_true rfl)); intro DA hDA
  k_extra "w"
  ((with_reducible refine' DSET.int (kvs' := [(1, .int 1)]) ?da5 ?db5 ?dc5 ?dd5); (case db5 => k_extra "upd"); (case dc5 => exact Nat.le_of_ble_eq_true rfl); (case da5 => exact rfl))
  k_extra "w"
  ((with_reducible refine' E1.dictP (cDictI w []) ?dp11 ?dq11 ?dr11 ?ds11 ?dt11); (case dp11 => exact cDictI_nil); (case dq11 => exact rfl); (case dr11 => exact rfl); (case ds11 => exact Nat.le_of_ble_eq_true rfl)); intro DB hDB
  k_extra "w"
  obtain ⟨hcat, hb1, hb2⟩ := zCat hv1 hv2
  have hst := st1 (b := (Builtin.Int.intBits v : Int)) (by k_extra "o")
  ((with_reducible refine' DSET.int (kvs' := [(240, .int 1)]) ?da6 ?db6 ?dc6 ?dd6); (case db6 => k_extra "upd"); (case dc6 => exact Nat.le_of_ble_eq_true rfl); (case da6 => exact rfl))
  k_extra "w"
  ((with_reducible refine' DSET.int (kvs' := [(240, .int 1), (16 + (Builtin.Int.intBits v : Int), .int 1)]) ?da7 ?db7 ?dc7 ?dd7); (case db7 => k_extra "upd"); (case dc7 => exact Nat.le_of_ble_eq_true rfl); (case da7 => exact hst.1))
  k_extra "w"
  ((with_reducible refine' DSET.int (kvs' := [(240, .int 1), (16 + (Builtin.Int.intBits v : Int), .int 1), (0, .int 1)]) ?da8 ?db8 ?dc8 ?dd8); (case db8 => k_extra "upd"); (case dc8 => exact Nat.le_of_ble_eq_true rfl); (case da8 => exact hst.2))
  k_extra "w"
  rename_i KA KB
  (with_reducible refine' DSET.tup ?ta ?tb ?tc ?td ?te ?tf ?tg)
  case ta => k_extra "upd"
  case tb => k_extra "h"
  case tc => exact fun _ h => (nomatch h)
  case td => exact rfl
  case te => exact rfl
  case tf => exact Nat.le_of_ble_eq_true rfl
  k_extra "w"
  (with_reducible refine' DSET.tup ?ua ?ub ?uc ?ud ?ue ?uf ?ug)
  case ua => k_extra "upd"
  case ub => k_extra "h"
  case uc =>
    intro x hx
    obtain rfl := List.mem_singleton.mp hx
    exact ⟨0, 0, rfl, by k_extra "h"⟩
  case ud => exact rfl
  case ue => exact rfl
  case uf => exact Nat.le_of_ble_eq_true rfl
  k_extra "w"
  have hkds : ∀ q ∈ (csV [(1, 1)] : List (Int × V)), ∃ i, q.2 = V.int i := fun q hq => by obtain rfl := List.mem_singleton.mp hq; exact ⟨_, rfl⟩
  have hkds2 : ∀ q ∈ (csV [(240, 1), (16 + (Builtin.Int.intBits v : Int), 1), (0, 1)] : List (Int × V)), ∃ i, q.2 = V.int i := fun q hq => by obtain ⟨a, _, rfl⟩ := List.mem_map.mp hq; exact ⟨_, rfl⟩
  (with_reducible refine' CMP.neDictT (ys := [([0, 0], KA, .ref DA), ([1, 0], KB, .ref DB)]) ?va ?vb ?vc ?vd hkd hDX ?ve ?vf ?vg ?vh)
  case va => exact .inl (mem_tl (mem_tl (mem_tl (mem_tl (mem_tl (mem_ap (mem_tl (mem_apr (mem_tl (mem_tl mem_hd))))))))))
  case vb => exact .inl (mem_tl (mem_tl (mem_tl (mem_tl mem_hd))))
  case vc =>
    intro x hx
    rcases List.mem_cons.mp hx with rfl | hx
    · exact ⟨0, 0, rfl, .inl (mem_tl (mem_tl (mem_tl (mem_tl (mem_tl (mem_ap (mem_tl (mem_apr (mem_tl (mem_tl (mem_tl (mem_apr hE1.1))))))))))))⟩
    · obtain rfl := List.mem_singleton.mp hx
      exact ⟨1, 0, rfl, .inl (mem_tl (mem_tl (mem_tl (mem_tl (mem_tl (mem_ap (mem_tl (mem_apr (mem_tl (mem_tl (mem_tl (mem_apr hE2.1))))))))))))⟩
  case vd =>
    intro x hx
    rcases List.mem_cons.mp hx with rfl | hx
    · exact ⟨0, 0, rfl, .inl (mem_tl (mem_tl (mem_tl mem_hd)))⟩
    · obtain rfl := List.mem_singleton.mp hx
      exact ⟨1, 0, rfl, .inl (mem_tl mem_hd)⟩
  case ve => exact rfl
  case vf =>
    intro x hx
    rcases List.mem_cons.mp hx with rfl | hx
    · exact ⟨_, mem_hd, rfl, da1, DA, csV [(1, 1)], rfl, rfl, .inl (mem_tl (mem_tl (mem_tl (mem_tl (mem_tl (mem_ap (mem_tl (mem_apr (mem_tl (mem_tl (mem_tl (mem_ap (mem_tl mem_hd))))))))))))), .inl (mem_tl (mem_tl mem_hd)), hE1.2, hDA, hkds⟩
    · obtain rfl := List.mem_singleton.mp hx
      exact ⟨_, mem_tl mem_hd, rfl, da2, DB, csV [(240, 1), (16 + (Builtin.Int.intBits v : Int), 1), (0, 1)], rfl, rfl, .inl (mem_tl (mem_tl (mem_tl (mem_tl (mem_tl (mem_ap (mem_tl (mem_apr (mem_tl (mem_tl (mem_tl (mem_ap mem_hd)))))))))))), .inl mem_hd, hE2.2, hDB, hkds2⟩
  case vg => exact rfl
  k_extra "w"
  rename_i ct sy
  refine' CALL.pack (P := fun G => ZF w sc bl row v G ∧ (ct, cList ((cntsI 2 4 13).map .int)) ∈ G ∧ (sy, cList (([0, 1, 240, 16 + (Builtin.Int.intBits v : Int)] : List Int).map .int)) ∈ G) (F₀ := (ct, cList (List.replicate 2 (V.int 0) ++ [V.int 4] ++ List.replicate 13 (V.int 0))) :: (sy, cList [V.int 0, V.int 1, V.int 240, V.int (16 + (Builtin.Int.intBits v : Int))]) :: F) (live := []) ?xp ?xt ?xk
  case xp => exact ⟨hZ.mono fun _ h => .tail _ (.tail _ h), .head _, .tail _ (.head _)⟩
  case xt => k_extra "t"
  rintro G ⟨hZ, hct, hsy⟩
  have hnd := zNd (b := Builtin.Int.intBits v) (by k_extra "o") hb1
  generalize hsyms : ([0, 1, 240, 16 + (Builtin.Int.intBits v : Int)] : List Int) = syms at hsy hnd
  have hsl : syms.length = 4 := by rw [← hsyms]; rfl
  have hct' : (ct, cList ((cntsI 2 syms.length 13).map .int)) ∈ G := by rw [hsl]; exact hct
  (refine' CALL.make mk_HuffTable (fun x dx => c_htinit G x dx ct sy 2 13 syms rfl (by k_extra "o") (by k_extra "o") hnd hct' hsy) ?cd16 ?ct16 ?cf16 ?cz16; (case ct16 => k_extra "t"); (case cd16 => exact rfl); (case cf16 => k_extra "f"))
  rintro ht htd _ HL ⟨rfl, HT⟩
  refine ⟨rfl, ?_⟩
  k_extra "w"
  ((with_reducible refine' E1.dictP (cDictT w []) ?dp12 ?dq12 ?dr12 ?ds12 ?dt12); (case dp12 => exact cDictT_nil); (case dq12 => exact rfl); (case dr12 => exact rfl); (case ds12 => exact Nat.le_of_ble_eq_true rfl)); intro DT hDT
  k_extra "w"
  rename_i ta tb
  (with_reducible refine' DSET.tup ?pa ?pb ?pc ?pd ?pe ?pf ?pg)
  case pa => k_extra "upd"
  case pb => k_extra "h"
  case pc => exact fun _ h => (nomatch h)
  case pd => exact rfl
  case pe => exact rfl
  case pf => exact Nat.le_of_ble_eq_true rfl
  k_extra "w"
  (with_reducible refine' DSET.tup ?qa ?qb ?qc ?qd ?qe ?qf ?qg)
  case qa => k_extra "upd"
  case qb => k_extra "h"
  case qc =>
    intro x hx
    obtain rfl := List.mem_singleton.mp hx
    exact ⟨0, 0, rfl, by k_extra "h"⟩
  case qd => exact rfl
  case qe => exact rfl
  case qf => exact Nat.le_of_ble_eq_true rfl
  k_extra "w"
  refine' CALL.pack (P := fun H => ZF w sc bl row v H ∧ Tabs w H DT [([0, 0], ta, .ref ht), ([1, 0], tb, .ref ht)] ∧ HTab w H ht 2 syms) (live := []) ?yp TakesL.all ?yk
  case yp => exact ⟨hZ.mono fun _ h => .tail _ (.tail _ (.tail _ (mem_apr h))), ⟨.tail _ (.tail _ (.head _)), fun x hx => by
    rcases List.mem_cons.mp hx with rfl | hx
    · exact ⟨0, 0, rfl, .tail _ (.head _)⟩
    · obtain rfl := List.mem_singleton.mp hx
      exact ⟨1, 0, rfl, .head _⟩⟩, HT.mono fun _ h => .tail _ (.tail _ (.tail _ (mem_ap h)))⟩
  clear hZ hS hrow hB HT hct hsy hct'
  rintro H ⟨⟨hS, hrow, -⟩, hT, HT⟩
  have hsr : ∀ x dx, Con w 341 1 [.ref x, .ref sc, .int (5 : Nat), .ref DT] [(x, cInst 372 dx), (dx, cAttr w 372 [])] [] (fun v led => ∃ bf, v = .none ∧ led = (bf, cList []) :: srL w x dx sc DT bf ((25 : Nat) : Int) .none) := fun x dx => c_srinit x dx sc DT 5 (by decide)
  (refine' CALL.make mk_SequentialReader (fun x dx => hsr x dx) ?cd17 ?ct17 ?cf17 ?cz17; (case ct17 => k_extra "t"); (case cd17 => exact rfl); (case cf17 => k_extra "f"))
  rintro rd rdd _ _ ⟨rf, rfl, rfl⟩
  refine ⟨rfl, ?_⟩
  k_extra "w"
  (refine' CALL.make mk_CodeSink (fun x dx => c_csinit x dx DT) ?cd18 ?ct18 ?cf18 ?cz18; (case ct18 => k_extra "t"); (case cd18 => exact rfl); (case cf18 => k_extra "f"))
  rintro sk skd _ _ ⟨wx, wdx, ba, rfl, rfl⟩
  refine ⟨rfl, ?_⟩
  k_extra "w"
  (refine' CALL.make mk_SequentialWriter (fun x dx => hsw x dx sk) ?cd19 ?ct19 ?cf19 ?cz19; (case ct19 => k_extra "t"); (case cd19 => exact rfl); (case cf19 => k_extra "f"))
  rintro sw2 swd2 _ _ ⟨bf2, rfl, rfl⟩
  refine ⟨rfl, ?_⟩
  k_extra "w"
  rename_i tp2 bl2
  have hB : BlkF ((bl2, cList [.ref tp2]) :: (tp2, cTup [.int 0, .ref row]) :: H) bl2 [(0, zRow v)] := ⟨[tp2], mem_hd, rfl, fun i pl r h => by
    cases i with
    | zero => cases h; exact ⟨tp2, row, rfl, mem_tl mem_hd, mem_tl (mem_tl hrow)⟩
    | succ i => cases h⟩
  have hok : ∀ i j s, Op.sym i j s ∈ zOps v → TabOk w ((bl2, cList [.ref tp2]) :: (tp2, cTup [.int 0, .ref row]) :: H) DT 2 (fun _ _ => syms) [([0, 0], ta, .ref ht), ([1, 0], tb, .ref ht)] i j s := fun i j s h => by
    obtain ⟨hi, rfl, hs⟩ := zSym hv1 hv2 h
    rw [hsyms] at hs
    refine ⟨?_, hs, by rw [hsl]; decide⟩
    rcases hi with rfl | rfl
    · exact ⟨ta, ht, rfl, HT.mono fun _ h => mem_tl (mem_tl h)⟩
    · exact ⟨tb, ht, rfl, HT.mono fun _ h => mem_tl (mem_tl h)⟩
  have hT' : Tabs w ((bl2, cList [.ref tp2]) :: (tp2, cTup [.int 0, .ref row]) :: H) DT [([0, 0], ta, .ref ht), ([1, 0], tb, .ref ht)] := ⟨mem_tl (mem_tl hT.obj), fun x hx => let ⟨i, j, e, h⟩ := hT.key x hx; ⟨i, j, e, mem_tl (mem_tl h)⟩⟩
  (refine' Con.call (c_coded (codeSink _ sk DT 2 (by decide) (fun _ _ => syms) _ hT') sw2 swd2 sc bf2 bl2 25 (by decide) (by decide) [0] [0] (hS.mono fun _ h => mem_tl (mem_tl h)) (by decide) rfl [] (apL (csL w sk skd DT wx) (wrL w wx wdx ba [] 0 0)) ⟨skd, wx, wdx, ba, [], 0, 0, _, _, [], rfl, (fun _ h => (nomatch h)), rfl, rfl, ⟨by decide, by decide, rfl⟩, Nat.zero_le _⟩ [(0, zRow v)] hB zok hok hop) ?cd2 ?ct2 ?cf2 ?cz2; (case ct2 => k_extra "t"); (case cd2 => exact rfl); (case cf2 => k_extra "f"))
  rintro _ _ ⟨bf3, befs3, _, led3, rfl, ⟨rfl, l, rfl, hll, hoct⟩, -⟩
  k_extra "w"
  (refine' Con.call (c_srstart H rd rdd sc DT rf ((25 : Nat) : Int) .none l [0] [0] hS (by decide)) ?cd3 ?ct3 ?cf3 ?cz3; (case ct3 => k_extra "t"); (case cd3 => exact rfl); (case cf3 => k_extra "f"))
  rintro _ _ ⟨rf', rx, rdx, rfl, rfl⟩
  k_extra "w"
  (refine' Con.call (c_rdstep ((bl2, cList [.ref tp2]) :: (tp2, cTup [.int 0, .ref row]) :: H) rd rdd sc DT rf' 25 rx rdx l 0 (Nat.lt_trans hll (by decide)) [0] [0] (hS.mono fun _ h => mem_tl (mem_tl h)) rfl _ hT' 2 (by decide) (fun _ _ => syms) _ [] (List.replicate 1 0) (List.replicate [(0 : Int)].length (.int 0)) rfl 0 (zRow v) (.ref row) (RdSt.start hoct hok) Nat.zero_lt_one (by decide) rfl (by decide) (by decide) (zOk hv1 hv2 0 _ (.head _)).2.2) ?cd4 ?ct4 ?cf4 ?cz4; (case ct4 => k_extra "t"); (case cd4 => exact rfl); (case cf4 => k_extra "f"))
  rintro _ _ ⟨fa, _, _, k1, rfl, -⟩
  k_extra "w"
  refine CMP.eqInts (ns := zRow v) (by k_extra "h") (by k_extra "h") rfl ?_
  rw [decide_eq_true rfl]
  k_extra "w"
  ((first | with_reducible refine' RetQ.is ?ok | with_reducible refine' RetQ.nx ?ok | refine' RetQ.is ?ok); (case ok => k_extra "t"))
 ) only [↓eq_true]
noncomputable def isS (a : Int) (o : Op) : Bool := match o with
  | .sym i _ _ => decide (i = a)
  | .bits _ _ => false
theorem isS_bits (a : Int) (v n : Nat) : isS a (.bits v n) = false := rfl
theorem isS_sym (a i j s : Int) : isS a (.sym i j s) = decide (i = a) := rfl
theorem num_cnt (a i j : Int) (run : Nat) (v : Int) : (numOps i j run v).countP (isS a) = if i = a then 1 else 0 := by
  rw [numOps, List.countP_cons, List.countP_cons, List.countP_nil, isS_sym, isS_bits]
  by_cases h : i = a <;> simp [h]
theorem ac_cnt (a i j : Int) : ∀ (rest : List Int) (run : Nat), (acOps i j run rest).length ≤ run + 2 * rest.length + 1 ∧ (acOps i j run rest).countP (isS a) ≤ if i = a then run + rest.length else 0 := by
  intro rest
  induction rest with
  | nil =>
    intro run
    rw [acOps_nil]
    by_cases h : 0 < run
    · rw [if_pos h, List.countP_cons, List.countP_nil, isS_sym]
      by_cases q : i = a
      · simp [q]; k_extra "o"
      · simp [q]
    · rw [if_neg h]; exact ⟨Nat.zero_le _, Nat.zero_le _⟩
  | cons v r ih =>
    intro run
    rw [List.length_cons]
    induction run using Nat.strongRecOn with
    | ind run ihr =>
    by_cases hv : v = 0
    · subst hv
      rw [acOps_zero]
      obtain ⟨h1, h2⟩ := ih (run + 1)
      refine ⟨by k_extra "o", Nat.le_trans h2 ?_⟩
      split <;> k_extra "o"
    · by_cases h16 : 15 < run
      · rw [acOps_sub hv h16, List.length_cons, List.countP_cons, isS_sym]
        obtain ⟨h1, h2⟩ := ihr (run - 16) (by k_extra "o")
        refine ⟨by k_extra "o", ?_⟩
        by_cases q : i = a
        · rw [if_pos q] at h2 ⊢; rw [if_pos (decide_eq_true q)]; k_extra "o"
        · rw [if_neg q] at h2 ⊢; rw [if_neg (by simp [q])]; k_extra "o"
      · rw [acOps_val hv (by k_extra "o"), List.length_append, List.countP_append, num_cnt]
        obtain ⟨h1, h2⟩ := ih 0
        refine ⟨show 2 + _ ≤ _ by k_extra "o", ?_⟩
        by_cases q : i = a
        · rw [if_pos q] at h2 ⊢; rw [if_pos q]; k_extra "o"
        · rw [if_neg q] at h2 ⊢; rw [if_neg q]; k_extra "o"
theorem blk_cnt (a ds as b v0 : Int) (row : List Int) (h1 : 1 ≤ row.length) (h2 : row.length ≤ 15) : (blkOps ds as b (v0 :: row)).length ≤ 33 ∧ (blkOps ds as b (v0 :: row)).countP (isS a) ≤ 15 := by
  have e : blkOps ds as b (v0 :: row) = numOps 0 ds 0 (v0 - b) ++ acOps 1 as 0 row := rfl
  rw [e, List.length_append, List.countP_append, num_cnt]
  obtain ⟨q1, q2⟩ := ac_cnt a 1 as row 0
  refine ⟨show 2 + _ ≤ 33 by k_extra "o", ?_⟩
  by_cases h : (1 : Int) = a
  · rw [if_pos h] at q2; rw [if_neg (by k_extra "o")]; k_extra "o"
  · rw [if_neg h] at q2; split <;> k_extra "o"
theorem blks_cnt (a : Int) (dcs acs : List Int) {n2 : Nat} (hn : 2 ≤ n2) (hn2 : n2 ≤ 16) : ∀ (bs : List (Nat × List Int)) (bef : List Int), (∀ q ∈ bs, q.2.length = n2) → (blksOps dcs acs bef bs).length ≤ 33 * bs.length ∧ (blksOps dcs acs bef bs).countP (isS a) ≤ 15 * bs.length
  | [], _, _ => ⟨Nat.zero_le _, Nat.zero_le _⟩
  | (pl, []) :: r, _, h => absurd (h _ (.head _)) (by simp; k_extra "o")
  | (pl, v0 :: row) :: r, bef, h => by
    have hl := h _ (.head _)
    rw [List.length_cons] at hl
    obtain ⟨q1, q2⟩ := blk_cnt a (dcs.getD pl 0) (acs.getD pl 0) (bef.getD pl 0) v0 row (by k_extra "o") (by k_extra "o")
    obtain ⟨q3, q4⟩ := blks_cnt a dcs acs hn hn2 r (bef.set pl v0) fun q hq => h q (.tail _ hq)
    have e : blksOps dcs acs bef ((pl, v0 :: row) :: r) = blkOps (dcs.getD pl 0) (acs.getD pl 0) (bef.getD pl 0) (v0 :: row) ++ blksOps dcs acs (bef.set pl v0) r := rfl
    rw [e, List.length_append, List.countP_append, List.length_cons]
    exact ⟨by k_extra "o", by k_extra "o"⟩
theorem bump_keys (cs : List (Int × Int)) (s : Int) : (bump cs s).map (·.1) = if s ∈ cs.map (·.1) then cs.map (·.1) else cs.map (·.1) ++ [s] := by
  unfold bump
  by_cases h : s ∈ cs.map (·.1)
  · rw [if_pos ((any_keys cs s).mpr h), if_pos h, List.map_map]
    refine List.map_congr_left fun q _ => ?_
    show (if q.1 = s then (q.1, getC cs s + 1) else q).1 = q.1
    split <;> rfl
  · rw [if_neg (fun e => h ((any_keys cs s).mp e)), if_neg h, List.map_append]; rfl
structure CInv (t : CT) (ops : List Op) : Prop where
  fit : ∀ q ∈ t, q.2.length ≤ ops.countP (isS q.1.1) ∧ (q.2.map (·.1)).Nodup
  has : ∀ i j s, Op.sym i j s ∈ ops → ∃ q ∈ t, q.1 = (i, j) ∧ s ∈ q.2.map (·.1)
theorem CInv.told {t : CT} {ops : List Op} (h : CInv t ops) (i j s : Int) : CInv (told t (i, j) s) (ops ++ [.sym i j s]) := by
  obtain ⟨hf, hh⟩ := h
  have hb : ∀ cs : List (Int × Int), (cs.map (·.1)).Nodup → ((bump cs s).map (·.1)).Nodup ∧ s ∈ (bump cs s).map (·.1) ∧ ∀ x ∈ cs.map (·.1), x ∈ (bump cs s).map (·.1) := fun cs hn => by
    rw [bump_keys]
    split
    · rename_i hs; exact ⟨hn, hs, fun _ h => h⟩
    · rename_i hs
      refine ⟨?_, List.mem_append_right _ (.head _), fun _ h => List.mem_append_left _ h⟩
      rw [List.nodup_append]
      exact ⟨hn, by simp, fun a ha b hb e => by rw [List.mem_singleton] at hb; subst e; subst hb; exact hs ha⟩
  have hle : ∀ a : Int, ops.countP (isS a) ≤ (ops ++ [Op.sym i j s]).countP (isS a) := fun a => by rw [List.countP_append]; exact Nat.le_add_right _ _
  have hself : (ops ++ [Op.sym i j s]).countP (isS i) = ops.countP (isS i) + 1 := by rw [List.countP_append, List.countP_cons, isS_sym, if_pos (decide_eq_true rfl)]; rfl
  unfold Mine.told
  split
  · rename_i hk
    rw [any_keys] at hk
    refine ⟨fun q hq => ?_, fun a b x hx => ?_⟩
    · obtain ⟨r, hr, rfl⟩ := List.mem_map.mp hq
      obtain ⟨h1, h2⟩ := hf r hr
      split
      · rename_i e
        have h3 := bump_len r.2 s
        refine ⟨?_, (hb _ h2).1⟩
        show (bump r.2 s).length ≤ _
        rw [show r.1.1 = i by rw [e]] at h1 ⊢
        rw [hself]; k_extra "o"
      · exact ⟨Nat.le_trans h1 (hle _), h2⟩
    · have key : ∀ q ∈ t, q.1 = (a, b) → (x ∈ q.2.map (·.1) ∨ (q.1 = (i, j) ∧ x = s)) → ∃ q' ∈ t.map (fun q => if q.1 = (i, j) then (q.1, bump q.2 s) else q), q'.1 = (a, b) ∧ x ∈ q'.2.map (·.1) := fun q hq e hx => by
        refine ⟨_, List.mem_map_of_mem hq, ?_⟩
        split
        · refine ⟨e, ?_⟩
          rcases hx with hx | ⟨-, rfl⟩
          · exact (hb _ (hf q hq).2).2.2 x hx
          · exact (hb _ (hf q hq).2).2.1
        · rename_i ne
          exact ⟨e, hx.resolve_right fun z => ne z.1⟩
      rcases List.mem_append.mp hx with hx | hx
      · obtain ⟨q, hq, e, hs⟩ := hh a b x hx
        exact key q hq e (.inl hs)
      · rw [List.mem_singleton] at hx; cases hx
        obtain ⟨q, hq, e⟩ := List.mem_map.mp hk
        exact key q hq e (.inr ⟨e, rfl⟩)
  · refine ⟨fun q hq => ?_, fun a b x hx => ?_⟩
    · rcases List.mem_append.mp hq with hq | hq
      · exact ⟨Nat.le_trans (hf q hq).1 (hle _), (hf q hq).2⟩
      · rw [List.mem_singleton] at hq; subst hq
        exact ⟨by rw [hself]; exact Nat.le_add_left _ _, by simp⟩
    · rcases List.mem_append.mp hx with hx | hx
      · obtain ⟨q, hq, e, hs⟩ := hh a b x hx
        exact ⟨q, List.mem_append_left _ hq, e, hs⟩
      · rw [List.mem_singleton] at hx; cases hx
        exact ⟨_, List.mem_append_right _ (.head _), rfl, .head _⟩
theorem CInv.cnt : ∀ (ops : List Op) {t : CT} {ops₀ : List Op}, CInv t ops₀ → CInv (cnt t ops) (ops₀ ++ ops)
  | [], _, _, h => by rw [List.append_nil]; exact h
  | .sym i j s :: r, t, ops₀, h => by
    have := CInv.cnt r (h.told i j s)
    rwa [List.append_assoc] at this
  | .bits v n :: r, t, ops₀, h => by
    have h' : CInv t (ops₀ ++ [.bits v n]) := ⟨fun q hq => ⟨by rw [List.countP_append]; exact Nat.le_trans (h.fit q hq).1 (Nat.le_add_right _ _), (h.fit q hq).2⟩, fun i j s hs => h.has i j s (by
      rcases List.mem_append.mp hs with hs | hs
      · exact hs
      · rw [List.mem_singleton] at hs; cases hs)⟩
    have := CInv.cnt r h'
    rwa [List.append_assoc] at this
theorem cnt_inv (ops : List Op) : CInv (Mine.cnt [] ops) ops := CInv.cnt (t := []) (ops₀ := []) ops ⟨fun _ h => (nomatch h), fun _ _ _ h => (nomatch h)⟩
noncomputable abbrev ivOps (dcs acs : List Int) (q : Addr × List (Nat × List Int)) : List Op := blksOps dcs acs (List.replicate dcs.length 0) q.2
noncomputable abbrev upTo (dcs acs : List Int) (ivs : List (Addr × List (Nat × List Int))) (i : Nat) : List Op := (ivs.take i).flatMap (ivOps dcs acs)
structure LawP (np n : Nat) (dcs acs : List Int) (ivs : List (Addr × List (Nat × List Int))) : Prop where
  hn : 2 ≤ n ∧ n ≤ 4
  h1 : 1 ≤ np
  h3 : np ≤ 3
  ld : dcs.length = np
  la : acs.length = np
  li : ivs.length = 2
  bk : ∀ q ∈ ivs, BlkB np n q.2 ∧ q.2.length ≤ 2
structure LawF (w : World) (F : ALed) (sc iv : Addr) (dcs acs : List Int) (ivs : List (Addr × List (Nat × List Int))) : Prop where
  sc : ScanF w F sc dcs acs
  iv : (iv, cList (ivs.map fun q => .ref q.1)) ∈ F
  bk : ∀ q ∈ ivs, BlkF F q.1 q.2
theorem LawF.mono {w : World} {F G : ALed} {sc iv : Addr} {dcs acs : List Int} {ivs : List (Addr × List (Nat × List Int))} (h : LawF w F sc iv dcs acs ivs) (k : ∀ q ∈ F, q ∈ G) : LawF w G sc iv dcs acs ivs := ⟨h.sc.mono k, k _ h.iv, fun q hq => (h.bk q hq).mono k⟩
section
variable {np n : Nat} {dcs acs : List Int} {ivs : List (Addr × List (Nat × List Int))}
theorem LawP.nn (P : LawP np n dcs acs ivs) : 4 ≤ n * n ∧ n * n ≤ 16 := ⟨Nat.mul_le_mul P.hn.1 P.hn.1, Nat.mul_le_mul P.hn.2 P.hn.2⟩
theorem LawP.ok (P : LawP np n dcs acs ivs) {q : Addr × List (Nat × List Int)} (h : q ∈ ivs) : ∀ pl row, (pl, row) ∈ q.2 → pl < dcs.length ∧ row.length = n * n ∧ ∀ v ∈ row, v.natAbs < 2 ^ 14 := fun pl row hm => by rw [P.ld]; exact (P.bk q h).1 pl row hm
theorem upTo_succ {i : Nat} {q : Addr × List (Nat × List Int)} (h : ivs[i]? = some q) : upTo dcs acs ivs (i + 1) = upTo dcs acs ivs i ++ ivOps dcs acs q := by
  rw [upTo, List.take_succ, h, List.flatMap_append, Option.toList_some, List.flatMap_cons, List.flatMap_nil, List.append_nil]
theorem LawP.one (P : LawP np n dcs acs ivs) (a : Int) {q : Addr × List (Nat × List Int)} (h : q ∈ ivs) : (ivOps dcs acs q).length ≤ 66 ∧ (ivOps dcs acs q).countP (isS a) ≤ 30 := by
  obtain ⟨b, l⟩ := P.bk q h
  have := blks_cnt a dcs acs (n2 := n * n) (by have := P.nn.1; k_extra "o") P.nn.2 q.2 (List.replicate dcs.length 0) fun r hr => (b r.1 r.2 hr).2.1
  exact ⟨Nat.le_trans this.1 (Nat.mul_le_mul_left 33 l), Nat.le_trans this.2 (Nat.mul_le_mul_left 15 l)⟩
theorem LawP.upTo (P : LawP np n dcs acs ivs) (a : Int) (i : Nat) : (upTo dcs acs ivs i).length ≤ 132 ∧ (Mine.upTo dcs acs ivs i).countP (isS a) ≤ 60 := by
  have key : ∀ l : List (Addr × List (Nat × List Int)), (∀ q ∈ l, q ∈ ivs) → (l.flatMap (ivOps dcs acs)).length ≤ 66 * l.length ∧ (l.flatMap (ivOps dcs acs)).countP (isS a) ≤ 30 * l.length := by
    intro l
    induction l with
    | nil => exact fun _ => ⟨Nat.zero_le _, Nat.zero_le _⟩
    | cons q r ih =>
      intro h
      obtain ⟨h1, h2⟩ := P.one a (h q (.head _))
      obtain ⟨h3, h4⟩ := ih fun q hq => h q (.tail _ hq)
      rw [List.flatMap_cons, List.length_append, List.countP_append, List.length_cons]
      exact ⟨by k_extra "o", by k_extra "o"⟩
  obtain ⟨h1, h2⟩ := key (ivs.take i) fun q hq => List.mem_of_mem_take hq
  have hl : (ivs.take i).length ≤ 2 := by rw [List.length_take, P.li]; exact Nat.min_le_right _ _
  exact ⟨Nat.le_trans h1 (Nat.mul_le_mul_left 66 hl), Nat.le_trans h2 (Nat.mul_le_mul_left 30 hl)⟩
theorem upTo_mem {q : Addr × List (Nat × List Int)} (h : q ∈ ivs) (o : Op) (ho : o ∈ ivOps dcs acs q) : o ∈ upTo dcs acs ivs ivs.length := by
  rw [upTo, List.take_length]; exact List.mem_flatMap.mpr ⟨q, h, ho⟩
end
theorem swinit_n {w : World} {sc : Addr} {n : Nat} (hn : n ≤ 4) (x dx sk : Addr) : Con w 299 1 [.ref x, .ref sc, .int (n : Nat), .ref sk] [(x, cInst 323 dx), (dx, cAttr w 323 [])] [] (fun v led => ∃ bf, v = .none ∧ led = (bf, cList []) :: swL w x dx sc sk bf ((n * n : Nat) : Int)) := by
  rw [Int.natCast_mul]; exact c_swinit x dx sc sk n (by k_extra "o")
inductive JLc (w : World) (sw swd sc ck L1 src iv : Addr) (y0 y1 : Int) (n : Nat) (dcs acs : List Int) (ivs : List (Addr × List (Nat × List Int))) (F : ALed) (i : Nat) : AFr → ALed → Prop
  | mk (bf : Addr) (bv : List V) (ops : List Op) (led₁ : ALed) : CountSk w ck [] ops led₁ → ops = upTo dcs acs ivs i →
      JLc w sw swd sc ck L1 src iv y0 y1 n dcs acs ivs F i [vv "counted" (.ref ck), vv "intervals" (.ref iv), vv "scan" (.ref sc), vv "n" (.int (n : Nat)), vv "writer" (.ref sw)] ((bf, cList bv) :: apL (swL w sw swd sc ck bf ((n * n : Nat) : Int)) (apL led₁ ((L1, cCellO (some (.ref src))) :: (src, cList [.int y0, .int y1]) :: F)))
theorem law_C {w : World} {cs : Scope} {c : Cx w 12 cs} (hcs : Top.fScope (Top.st 42) = cs) {L1 src iv sc : Addr} {y0 y1 : Int} {np n : Nat} {dcs acs : List Int} {ivs : List (Addr × List (Nat × List Int))} {F : ALed} {Q : AFl → AFr → ALed → Prop} (P : LawP np n dcs acs ivs) (S : LawF w F sc iv dcs acs ivs)
   (next : ∀ ck led₁, CountSk w ck [] (upTo dcs acs ivs ivs.length) led₁ → SP c [vv "counted" (.ref ck), vv "intervals" (.ref iv), vv "scan" (.ref sc), vv "n" (.int (n : Nat))] (apL led₁ ((L1, cCellO (some (.ref src))) :: (src, cList [.int y0, .int y1]) :: F)) ((Top.fBody (Top.st 42)).drop 10) Q) :
   SP c [vv "intervals" (.ref iv), vv "scan" (.ref sc), vv "n" (.int (n : Nat))] ((L1, cCellO (some (.ref src))) :: (src, cList [.int y0, .int y1]) :: F) ((Top.fBody (Top.st 42)).drop 7) Q := by
 simp (disch := with_unfolding_all
  (conv at hcs => lhs; whnf); dsimp only at hcs; subst hcs
  refine' SP.at (l' := _ :: _ :: _ :: (Top.fBody (Top.st 42)).drop 10) ?hb ?_
  case hb => exact rfl
  k_extra "w"
  (refine' CALL.make mk_CountSink (fun x dx => c_ckinit x dx) ?cd2 ?ct2 ?cf2 ?cz2; (case ct2 => k_extra "t"); (case cd2 => exact rfl); (case cf2 => k_extra "f"))
  rintro ck ckd _ _ ⟨cd, rfl, hcd, rfl⟩
  refine ⟨rfl, ?_⟩
  k_extra "w"
  have hsw := swinit_n (w := w) (sc := sc) P.hn.2
  (refine' CALL.make mk_SequentialWriter (fun x dx => hsw x dx ck) ?cd3 ?ct3 ?cf3 ?cz3; (case ct3 => k_extra "t"); (case cd3 => exact rfl); (case cf3 => k_extra "f"))
  rintro sw swd _ _ ⟨bf, rfl, rfl⟩
  refine ⟨rfl, ?_⟩
  k_extra "w"
  (refine' ITER.list (JLc w sw swd sc ck L1 src iv y0 y1 n dcs acs ivs F) (fun _ _ _ h => by cases h; exact Has.l (mem_tl (mem_tl (mem_tl (mem_apr (mem_apr (mem_tl (mem_tl S.iv)))))))) (.mk bf [] [] [(ck, cInst 456 ckd), (ckd, cAttr w 456 [vv "counts" (.ref cd)]), (cd, cDictT w [])] ⟨ckd, cd, [], [], rfl, hcd, ⟨fun _ h => (nomatch h), fun _ h => (nomatch h), rfl⟩⟩ rfl) ?rm4 ?rl4 (fun Q4 hQ4 => ?rt4) ?rd4; (case rm4 => k_extra "t"); (case rl4 => k_extra "t"))
  · rintro i v _ _ hi hv ⟨bf', bv, ops, led₁, hk, hops⟩
    rw [List.getElem?_map] at hv
    obtain ⟨q, hq, rfl⟩ := Option.map_eq_some_iff.mp hv
    have hm := List.mem_of_getElem? hq
    have hl := (P.upTo 0 (i + 1)).1
    rw [upTo_succ hq, ← hops] at hl
    k_extra "w"
    (refine' Con.call (c_coded (countSink F ck) sw swd sc bf' q.1 (n * n) (by have := P.nn; k_extra "o") (by have := P.nn; k_extra "o") dcs acs S.sc (by have := P.h3; have := P.ld; k_extra "o") (by rw [P.la, P.ld]) ops led₁ hk q.2 (S.bk q hm) (P.ok hm) (fun _ _ _ _ => trivial) (Nat.lt_of_le_of_lt hl (by decide))) ?cd1 ?ct1 ?cf1 ?cz1; (case ct1 => k_extra "t"); (case cd1 => exact rfl); (case cf1 => k_extra "f"))
    rintro _ _ ⟨bf'', bv', _, led₂, rfl, ⟨rfl, rfl⟩, hk'⟩
    k_extra "w"
    (refine' ⟨_, _, _, _, .mk bf'' bv' _ led₂ hk' ?_, ?rm5, ?rl5⟩; (case rm5 => k_extra "t"); (case rl5 => k_extra "t"))
    rw [upTo_succ hq, hops]
  · rintro _ _ ⟨bf', bv, ops, led₁, hk, hops⟩
    rw [List.length_map] at hops
    subst hops
    refine' SP.drop ?tl ?tm (SP.at rfl (next ck led₁ hk))
    case tl => k_extra "t"
    case tm => k_extra "t"
 ) only [↓eq_true]
noncomputable abbrev tX (H : Int → Int → Addr) (e : CE) : List Int × Addr × V := ([e.i, e.j], e.ka, .ref (H e.i e.j))
noncomputable def TbSt (w : World) (G : ALed) (H : Int → Int → Addr) (sy : Int → Int → List Int) (l : List CE) : Prop := ∀ e ∈ l, HTab w G (H e.i e.j) 6 (sy e.i e.j) ∧ (sy e.i e.j).Perm (e.cs.map (·.1))
theorem TbSt.step {w : World} {G G₂ : ALed} {H : Int → Int → Addr} {sy : Int → Int → List Int} {l : List CE} {e : CE} {h : Addr} {ns : List Int} (T : TbSt w G H sy l) (hk : ∀ q ∈ G, q ∈ G₂) (hne : ∀ a ∈ l, (a.i, a.j) ≠ (e.i, e.j)) (ht : HTab w G₂ h 6 ns) (hp : ns.Perm (e.cs.map (·.1))) :
    ∃ H' sy', TbSt w G₂ H' sy' (l ++ [e]) ∧ l.map (tX H) ++ [([e.i, e.j], e.ka, .ref h)] = (l ++ [e]).map (tX H') := by
  have n1 : ∀ a ∈ l, ¬ (a.i = e.i ∧ a.j = e.j) := fun a ha z => hne a ha (by rw [z.1, z.2])
  refine ⟨fun a b => if a = e.i ∧ b = e.j then h else H a b, fun a b => if a = e.i ∧ b = e.j then ns else sy a b, fun a ha => ?_, ?_⟩
  · rcases List.mem_append.mp ha with ha | ha
    · dsimp only
      rw [if_neg (n1 a ha), if_neg (n1 a ha)]
      exact ⟨(T a ha).1.mono hk, (T a ha).2⟩
    · rw [List.mem_singleton] at ha; subst ha
      dsimp only
      rw [if_pos ⟨rfl, rfl⟩, if_pos ⟨rfl, rfl⟩]
      exact ⟨ht, hp⟩
  · rw [List.map_append]
    congr 1
    · exact List.map_congr_left fun a ha => by show _ = ([a.i, a.j], a.ka, V.ref (if a.i = e.i ∧ a.j = e.j then h else H a.i a.j)); rw [if_neg (n1 a ha)]
    · show _ = [([e.i, e.j], e.ka, V.ref (if e.i = e.i ∧ e.j = e.j then h else H e.i e.j))]; rw [if_pos ⟨rfl, rfl⟩]
theorem ents_apart {ents : List CE} {ops : List Op} (h : ents.map ceP = cnt [] ops) : ents.Pairwise fun a b => (a.i, a.j) ≠ (b.i, b.j) := by
  have := cnt_nodup (t := []) .nil ops
  rw [← h, List.map_map] at this
  exact List.pairwise_map.mp this
theorem at_tX (g : CE → V) {ents : List CE} (hd : ents.Pairwise fun a b => (a.i, a.j) ≠ (b.i, b.j)) {e : CE} (he : e ∈ ents) : atT (ents.map fun e => ([e.i, e.j], e.ka, g e)) [e.i, e.j] = some (e.ka, g e) := by
  unfold atT
  rw [List.find?_map, Option.map_map]
  induction ents with
  | nil => cases he
  | cons a r ih =>
    rw [List.pairwise_cons] at hd
    rw [List.find?_cons]
    dsimp only [Function.comp]
    rcases List.mem_cons.mp he with rfl | he
    · rw [decide_eq_true rfl]; rfl
    · rw [decide_eq_false fun z => hd.1 e he (by obtain ⟨z1, z2⟩ := List.cons.inj z; rw [z1, (List.cons.inj z2).1])]
      exact ih hd.2 he
theorem at_none (H : Int → Int → Addr) {l : List CE} {e : CE} (hne : ∀ a ∈ l, (a.i, a.j) ≠ (e.i, e.j)) : atT (l.map (tX H)) [e.i, e.j] = none := by
  unfold atT
  rw [List.find?_eq_none.mpr]
  · rfl
  · intro x hx z
    obtain ⟨a, ha, rfl⟩ := List.mem_map.mp hx
    obtain ⟨z1, z2⟩ := List.cons.inj (of_decide_eq_true z)
    exact hne a ha (by rw [z1, (List.cons.inj z2).1])
theorem TbSt.ok {w : World} {G : ALed} {H : Int → Int → Addr} {sy : Int → Int → List Int} {ents : List CE} {ops : List Op} {tb : Addr} (T : TbSt w G H sy ents) (hc : ents.map ceP = cnt [] ops) (hb : ∀ a, ops.countP (isS a) ≤ 60) {i j s : Int} (hs : Op.sym i j s ∈ ops) : TabOk w G tb 6 sy (ents.map (tX H)) i j s := by
  obtain ⟨q, hq, e1, hm⟩ := (cnt_inv ops).has i j s hs
  have hl := ((cnt_inv ops).fit q hq).1
  rw [← hc] at hq
  obtain ⟨e, he, rfl⟩ := List.mem_map.mp hq
  obtain ⟨rfl, rfl⟩ := Prod.mk.inj e1
  obtain ⟨h1, h2⟩ := T e he
  refine ⟨⟨_, _, at_tX (fun e => .ref (H e.i e.j)) (ents_apart hc) he, h1⟩, h2.mem_iff.mpr hm, ?_⟩
  rw [h2.length_eq, List.length_map]
  exact Nat.le_trans hl (Nat.le_trans (hb _) (by decide))
structure LdF (w : World) (ck ckd cd : Addr) (ents : List CE) (F G : ALed) : Prop where
  m1 : (ck, cInst 456 ckd) ∈ G
  m2 : (ckd, cAttr w 456 [vv "counts" (.ref cd)]) ∈ G
  m3 : ∀ e ∈ ents, (e.ka, kCell e.i e.j) ∈ G ∧ ceI w e ∈ G ∧ e.da ≠ sysModules
  m4 : ∀ q ∈ F, q ∈ G
theorem LdF.mono {w : World} {ck ckd cd : Addr} {ents : List CE} {F G G₂ : ALed} (h : LdF w ck ckd cd ents F G) (k : ∀ q ∈ G, q ∈ G₂) : LdF w ck ckd cd ents F G₂ := ⟨k _ h.m1, k _ h.m2, fun e he => ⟨k _ (h.m3 e he).1, k _ (h.m3 e he).2.1, (h.m3 e he).2.2⟩, fun q hq => k q (h.m4 q hq)⟩
inductive JLd (w : World) (ck ckd cd tb L1 src iv sc : Addr) (p : Cell) (y0 y1 : Int) (n : Nat) (ents : List CE) (F : ALed) (i : Nat) : AFr → ALed → Prop
  | mk (H : Int → Int → Addr) (sy : Int → Int → List Int) (xs : List (List Int × Addr × V)) (G : ALed) : TbSt w G H sy (ents.take i) → xs = (ents.take i).map (tX H) → LdF w ck ckd cd ents F G →
      JLd w ck ckd cd tb L1 src iv sc p y0 y1 n ents F i [vv "tables" (.ref tb), vv "counted" (.ref ck), vv "intervals" (.ref iv), vv "scan" (.ref sc), vv "n" (.int (n : Nat))] ((tb, cDictT w xs) :: (cd, p) :: (L1, cCellO (some (.ref src))) :: (src, cList [.int y0, .int y1]) :: G)
theorem law_D {w : World} {cs : Scope} {c : Cx w 12 cs} (hcs : Top.fScope (Top.st 42) = cs) {L1 src iv sc ck : Addr} {y0 y1 : Int} {n : Nat} {tot : List Op} {F led₁ : ALed} {Q : AFl → AFr → ALed → Prop} (hk : CountSk w ck [] tot led₁) (hb : ∀ a, tot.countP (isS a) ≤ 60) (hlen : tot.length ≤ 132)
   (next : ∀ tb sy xs G, Tabs w G tb xs → (∀ i j s, Op.sym i j s ∈ tot → TabOk w G tb 6 sy xs i j s) → (∀ q ∈ F, q ∈ G) → SP c [vv "tables" (.ref tb), vv "intervals" (.ref iv), vv "scan" (.ref sc), vv "n" (.int (n : Nat))] ((L1, cCellO (some (.ref src))) :: (src, cList [.int y0, .int y1]) :: G) ((Top.fBody (Top.st 42)).drop 12) Q) :
   SP c [vv "counted" (.ref ck), vv "intervals" (.ref iv), vv "scan" (.ref sc), vv "n" (.int (n : Nat))] (apL led₁ ((L1, cCellO (some (.ref src))) :: (src, cList [.int y0, .int y1]) :: F)) ((Top.fBody (Top.st 42)).drop 10) Q := by
 simp (disch := with_unfolding_all
  obtain ⟨ckd, cd, ents, pool, rfl, hcd, E⟩ := hk
  have hap := ents_apart E.hc
  have hel : ents.length ≤ 132 := by have := cnt_len tot []; rw [← E.hc, List.length_map] at this; exact Nat.le_trans this (by rw [List.length_nil, Nat.zero_add]; exact hlen)
  (conv at hcs => lhs; whnf); dsimp only at hcs; subst hcs
  refine' SP.at (l' := _ :: _ :: (Top.fBody (Top.st 42)).drop 12) ?hb ?_
  case hb => exact rfl
  refine' SP.pack (P := LdF w ck ckd cd ents F) (F₀ := (ck, cInst 456 ckd) :: (ckd, cAttr w 456 [vv "counts" (.ref cd)]) :: apL (apL (ents.reverse.map (ceI w)) pool) F) (live := [(cd, cDictT w (ents.map ceX)), (L1, cCellO (some (.ref src))), (src, cList [.int y0, .int y1])]) ?zp ?zt .all ?zk
  case zt => k_extra "t"
  case zp => exact ⟨.head _, .tail _ (.head _), fun e he => ⟨.tail _ (.tail _ (mem_ap (mem_apr (E.he e he).1))), .tail _ (.tail _ (mem_ap (mem_ap (List.mem_map_of_mem (List.mem_reverse.mpr he))))), (E.he e he).2⟩, fun q hq => .tail _ (.tail _ (mem_apr hq))⟩
  rintro G hG
  have I1 := hG.m1
  have I2 := hG.m2
  k_extra "w"
  refine E1.dictT0 ?_
  intro tb htb
  k_extra "w"
  refine ITER.keysT hcd (by k_extra "mem") fun p hp => ⟨_, JLd w ck ckd cd tb L1 src iv sc p y0 y1 n ents F, _, [], _, [], .tail .head, .mk (fun _ _ => 0) (fun _ _ => []) [] G (fun _ h => nomatch h) rfl hG, .all, .all, fun i m' l h => by cases h; exact .tail _ (.head _), fun Q' hQ' i q m₁ led₁ hi hq hJ => ?_, fun m₁ led₁ hJ => ?_⟩
  · obtain ⟨H, sy, xs, G', hT, rfl, hG'⟩ := hJ
    clear I1 I2
    have I1 := hG'.m1
    have I2 := hG'.m2
    rw [List.getElem?_map] at hq
    obtain ⟨e, he, rfl⟩ := Option.map_eq_some_iff.mp hq
    have hem := List.mem_of_getElem? he
    obtain ⟨k1, k2, k3⟩ := hG'.m3 e hem
    have htk : ents.take (i + 1) = ents.take i ++ [e] := by rw [List.take_succ, he]; rfl
    have hne : ∀ a ∈ ents.take i, (a.i, a.j) ≠ (e.i, e.j) := fun a ha => by
      have h2 : (ents.take (i + 1)).Pairwise fun a b => (a.i, a.j) ≠ (b.i, b.j) := hap.sublist (List.take_sublist _ _)
      rw [htk, List.pairwise_append] at h2
      exact h2.2.2 a ha e (.head _)
    obtain ⟨c1, c2⟩ := (cnt_inv tot).fit (ceP e) (by rw [← E.hc]; exact List.mem_map_of_mem hem)
    have c3 : e.cs.length ≤ 60 := Nat.le_trans c1 (hb _)
    k_extra "w"
    (refine' E1.comp (cl := []) ?kc ?kd ?ke ?kf ?kg ?kh ?ki ?_; (case kc => exact closure_of (by simp [closL])); (case kd => decide); (case ke => exact rfl); (case kf => decide); (case kg => exact rfl); (case kh => exact rfl); (case ki => (intro _; exact rfl)))
    k_extra "w"
    refine SUB.dictTW (p := p) (Has.l (by k_extra "mem")) hp (Has.l (by k_extra "mema")) (fun x hx => ?_) (b := e.ka) (v := .ref e.da) ?_ rfl ?_
    · obtain ⟨a, ha, rfl⟩ := List.mem_map.mp hx
      exact ⟨a.i, a.j, rfl, .inl (.tail _ (.tail _ (.tail _ (.tail _ (hG'.m3 a ha).1))))⟩
    · exact at_tX (fun e => .ref e.da) hap hem
    obtain ⟨G₁, hu⟩ := UpdL.of k2
    refine COMP.keysI k3 (fun q => .tail (.tail (.tail (.tail (hu q))))) (by rw [List.length_map]; k_extra "o") (fun c' sc' l i KE hKE => ?_) fun D => ?_
    · k_extra "w"
      exact hKE
    · refine CALL.sorted (Has.l (by k_extra "mem")) (by rw [List.length_map, List.length_map]; k_extra "o") fun D' ns hns => ?_
      have hnl : ns.length ≤ 60 := by rw [hns.length_eq, List.length_map, List.length_map]; exact c3
      have hnp : ns.Perm (e.cs.map (·.1)) := by rw [List.map_map] at hns; exact hns
      k_extra "w"
      have hcl : List.replicate 6 (V.int 0) ++ [V.int (ns.length : Int)] ++ List.replicate 9 (V.int 0) = (cntsI 6 ns.length 9).map .int := rfl
      rw [hcl]
      rename_i ct
      (refine' CALL.make mk_HuffTable (fun x dx => c_htinit [(ct, cList ((cntsI 6 ns.length 9).map .int)), (D', cList (ns.map .int))] x dx ct D' 6 9 ns rfl (by k_extra "o") (by k_extra "o") (hnp.nodup_iff.mpr c2) (.head _) (.tail _ (.head _))) ?cd1 ?ct1 ?cf1 ?cz1; (case ct1 => k_extra "t"); (case cd1 => exact rfl); (case cf1 => k_extra "f"))
      rintro ht htd _ HL ⟨rfl, HT⟩
      refine ⟨rfl, ?_⟩
      k_extra "w"
      obtain ⟨H', sy', hT', hxs⟩ := hT.step (G₂ := apL HL G') (fun q hq => mem_apr hq) hne (HT.mono fun q hq => mem_ap hq) hnp
      refine SETI.dictT (xs := (ents.take i).map (tX H)) (by k_extra "upd") (Has.l (by k_extra "mema")) (fun x hx => ?_) (at_none H hne) rfl (by rw [List.length_map]; exact Nat.le_trans (List.length_take_le' ..) (Nat.le_trans hel (by decide))) ?_
      · obtain ⟨a, ha, rfl⟩ := List.mem_map.mp hx
        have hk := (hG'.m3 a (List.mem_of_mem_take ha)).1
        exact ⟨a.i, a.j, rfl, .inl (by k_extra "mema")⟩
      k_extra "w"
      (refine' ⟨_, _, _, _, .mk H' sy' ((ents.take i).map (tX H) ++ [([e.i, e.j], (ceX e).2.1, .ref ht)]) (apL HL G') (by rw [htk]; exact hT') (by rw [htk]; exact hxs) (hG'.mono fun q hq => mem_apr hq), ?rm2, ?rl2⟩; (case rm2 => k_extra "t"); (case rl2 => k_extra "t"))
  · obtain ⟨H, sy, xs, G', hT, rfl, hG'⟩ := hJ
    rw [List.length_map, List.take_length] at hT ⊢
    refine' SP.drop ?tl ?tm (SP.at rfl (next tb sy _ ((tb, cDictT w (ents.map (tX H))) :: G') ⟨.head _, fun x hx => ?_⟩ (fun i j s hs => (hT.ok E.hc hb hs).mono fun q hq => .tail _ hq) fun q hq => .tail _ (hG'.m4 q hq)))
    case tl => k_extra "t"
    case tm => k_extra "t"
    obtain ⟨a, ha, rfl⟩ := List.mem_map.mp hx
    exact ⟨a.i, a.j, rfl, .tail _ (hG'.m3 a ha).1⟩
 ) only [↓eq_true]
inductive JLf (w : World) (G : ALed) (tb : Addr) (xs : List (List Int × Addr × V)) (l : List UInt8) (sy : Int → Int → List Int) (dcs acs : List Int) (post : List Bool) (bs : List (Nat × List Int)) (x dx sc bf : Addr) (many : Nat) (rx rdx : Addr) (m : AFr) (R : ALed) (i : Nat) : AFr → ALed → Prop
  | mk (bv : List V) (befs : List Int) (p : Int) : bv = befs.map .int → RdSt w G tb xs l 6 sy dcs acs post (bs.drop i) befs p →
      JLf w G tb xs l sy dcs acs post bs x dx sc bf many rx rdx m R i m ((bf, cList bv) :: apL (srL w x dx sc tb bf many (.ref rx)) (apL (rdL w rx rdx l p) R))
theorem BlkX.nth {G : ALed} {bs : List (Nat × List Int)} {bl : Addr} {ts : List Addr} (hB : BlkX G bl bs ts) {i : Nat} {v : V} (hv : (ts.map V.ref)[i]? = some v) :
    ∃ t pl r row, v = .ref t ∧ bs[i]? = some (pl, row) ∧ bs.drop i = (pl, row) :: bs.drop (i + 1) ∧ (t, cTup [.int (pl : Nat), .ref r]) ∈ G ∧ (r, cList (row.map .int)) ∈ G := by
  rw [List.getElem?_map] at hv
  obtain ⟨t, ht, rfl⟩ := Option.map_eq_some_iff.mp hv
  have hi : i < bs.length := hB.len ▸ (List.getElem?_eq_some_iff.mp ht).1
  obtain ⟨t', r, h1, h2, h3⟩ := hB.at_ i bs[i].1 bs[i].2 (List.getElem?_eq_getElem hi)
  rw [ht] at h1; cases h1
  exact ⟨t, _, r, _, rfl, List.getElem?_eq_getElem hi, List.drop_eq_getElem_cons hi, h2, h3⟩
structure OctOk (sy : Int → Int → List Int) (dcs acs : List Int) (ivs : List (Addr × List (Nat × List Int))) (l : List UInt8) (q : Addr × List (Nat × List Int)) : Prop where
  mem : q ∈ ivs
  len : l.length < 2 ^ 16
  oct : octB l = padB (opsB 6 sy (ivOps dcs acs q))
noncomputable abbrev eFr (sw rdr tb iv sc : Addr) (n : Nat) : AFr := [vv "writer" (.ref sw), vv "reader" (.ref rdr), vv "tables" (.ref tb), vv "intervals" (.ref iv), vv "scan" (.ref sc), vv "n" (.int (n : Nat))]
noncomputable abbrev eLed (w : World) (sw swd sc sk rdr rdd tb L1 src : Addr) (y0 y1 : Int) (n : Nat) (G : ALed) (bf rf : Addr) (bv rv : List V) (rd : V) (led₁ : ALed) : ALed :=
  (bf, cList bv) :: apL (swL w sw swd sc sk bf ((n * n : Nat) : Int)) (apL led₁ ((rf, cList rv) :: apL (srL w rdr rdd sc tb rf ((n * n : Nat) : Int) rd) ((L1, cCellO (some (.ref src))) :: (src, cList [.int y0, .int y1]) :: G)))
inductive JLe (w : World) (sw swd sc sk rdr rdd tb L1 src iv : Addr) (y0 y1 : Int) (n : Nat) (sy : Int → Int → List Int) (dcs acs : List Int) (ivs : List (Addr × List (Nat × List Int))) (G : ALed) (i : Nat) : AFr → ALed → Prop
  | zero (bf rf : Addr) (bv rv : List V) (rd : V) (led₁ : ALed) : CodeSk w sk tb 6 sy [] [] led₁ → i = 0 → JLe w sw swd sc sk rdr rdd tb L1 src iv y0 y1 n sy dcs acs ivs G i (eFr sw rdr tb iv sc n) (eLed w sw swd sc sk rdr rdd tb L1 src y0 y1 n G bf rf bv rv rd led₁)
  | more (bf rf : Addr) (bv rv : List V) (rd : V) (led₁ : ALed) (l : List UInt8) (q : Addr × List (Nat × List Int)) : CodeSk w sk tb 6 sy [] [] led₁ → OctOk sy dcs acs ivs l q → JLe w sw swd sc sk rdr rdd tb L1 src iv y0 y1 n sy dcs acs ivs G i (vv "octets" (.bytes l) :: vv "blocks" (.ref q.1) :: eFr sw rdr tb iv sc n) (eLed w sw swd sc sk rdr rdd tb L1 src y0 y1 n G bf rf bv rv rd led₁)
theorem JLe.base {w : World} {sw swd sc sk rdr rdd tb L1 src iv : Addr} {y0 y1 : Int} {n : Nat} {sy : Int → Int → List Int} {dcs acs : List Int} {ivs : List (Addr × List (Nat × List Int))} {G : ALed} {i : Nat} {m : AFr} {led : ALed} (h : JLe w sw swd sc sk rdr rdd tb L1 src iv y0 y1 n sy dcs acs ivs G i m led) :
    ∃ bf rf bv rv rd led₁ mr, TakesL (eFr sw rdr tb iv sc n) m mr ∧ led = eLed w sw swd sc sk rdr rdd tb L1 src y0 y1 n G bf rf bv rv rd led₁ ∧ CodeSk w sk tb 6 sy [] [] led₁ := by
  cases h with
  | zero bf rf bv rv rd led₁ hk h0 => exact ⟨bf, rf, bv, rv, rd, led₁, _, .all, rfl, hk⟩
  | more bf rf bv rv rd led₁ l q hk ho => exact ⟨bf, rf, bv, rv, rd, led₁, _, .skip (.skip .all), rfl, hk⟩
theorem law_E {w : World} {cs : Scope} {c : Cx w 12 cs} (hcs : Top.fScope (Top.st 42) = cs) {L1 src iv sc tb : Addr} {y0 y1 : Int} {np n : Nat} {dcs acs : List Int} {ivs : List (Addr × List (Nat × List Int))} {sy : Int → Int → List Int} {xs : List (List Int × Addr × V)} {G : ALed} {Q : AFl → AFr → ALed → Prop} (P : LawP np n dcs acs ivs) (S : LawF w G sc iv dcs acs ivs)
   (hT : Tabs w G tb xs) (hok : ∀ i j s, Op.sym i j s ∈ upTo dcs acs ivs ivs.length → TabOk w G tb 6 sy xs i j s)
   (next : ∀ sw swd sk rdr rdd bf rf bv rv rd led₁ l q, OctOk sy dcs acs ivs l q → SP c (vv "octets" (.bytes l) :: vv "blocks" (.ref q.1) :: eFr sw rdr tb iv sc n) (eLed w sw swd sc sk rdr rdd tb L1 src y0 y1 n G bf rf bv rv rd led₁) ((Top.fBody (Top.st 42)).drop 14) Q) :
   SP c [vv "tables" (.ref tb), vv "intervals" (.ref iv), vv "scan" (.ref sc), vv "n" (.int (n : Nat))] ((L1, cCellO (some (.ref src))) :: (src, cList [.int y0, .int y1]) :: G) ((Top.fBody (Top.st 42)).drop 12) Q := by
 simp (disch := with_unfolding_all
  (conv at hcs => lhs; whnf); dsimp only at hcs; subst hcs
  refine' SP.at (l' := _ :: _ :: (Top.fBody (Top.st 42)).drop 14) ?hb ?_
  case hb => exact rfl
  have hsr : ∀ x dx, Con w 341 1 [.ref x, .ref sc, .int (n : Nat), .ref tb] [(x, cInst 372 dx), (dx, cAttr w 372 [])] [] (fun v led => ∃ bf, v = .none ∧ led = (bf, cList []) :: srL w x dx sc tb bf ((n * n : Nat) : Int) .none) := fun x dx => by rw [Int.natCast_mul]; exact c_srinit x dx sc tb n (by have := P.hn; k_extra "o")
  k_extra "w"
  (refine' CALL.make mk_CodeSink (fun x dx => c_csinit x dx tb) ?cd6 ?ct6 ?cf6 ?cz6; (case ct6 => k_extra "t"); (case cd6 => exact rfl); (case cf6 => k_extra "f"))
  rintro sk skd _ _ ⟨wx, wdx, ba, rfl, rfl⟩
  refine ⟨rfl, ?_⟩
  k_extra "w"
  (refine' CALL.make mk_SequentialWriter (fun x dx => swinit_n P.hn.2 x dx sk) ?cd7 ?ct7 ?cf7 ?cz7; (case ct7 => k_extra "t"); (case cd7 => exact rfl); (case cf7 => k_extra "f"))
  rintro sw swd _ _ ⟨bf, rfl, rfl⟩
  refine ⟨rfl, ?_⟩
  k_extra "w"
  (refine' CALL.make mk_SequentialReader (fun x dx => hsr x dx) ?cd8 ?ct8 ?cf8 ?cz8; (case ct8 => k_extra "t"); (case cd8 => exact rfl); (case cf8 => k_extra "f"))
  rintro rdr rdd _ _ ⟨rf, rfl, rfl⟩
  refine ⟨rfl, ?_⟩
  k_extra "w"
  (refine' ITER.list (JLe w sw swd sc sk rdr rdd tb L1 src iv y0 y1 n sy dcs acs ivs G) (fun _ _ _ h => by obtain ⟨_, _, _, _, _, _, _, -, rfl, -⟩ := h.base; exact Has.l (mem_tl (mem_tl (mem_tl (mem_apr (mem_apr (mem_tl (mem_tl (mem_tl (mem_tl (mem_tl S.iv))))))))))) (.zero bf rf [] [] .none (apL (csL w sk skd tb wx) (wrL w wx wdx ba [] 0 0)) ⟨skd, wx, wdx, ba, [], 0, 0, _, _, [], rfl, (fun _ h => (nomatch h)), rfl, rfl, ⟨by decide, by decide, rfl⟩, Nat.zero_le _⟩ rfl) ?rm9 ?rl9 (fun Q9 hQ9 => ?rt9) ?rd9; (case rm9 => k_extra "t"); (case rl9 => k_extra "t"))
  · intro i v m₁ _ hi hv hJ
    obtain ⟨bf, rf, bv, rv, rd, led₁, mr, tm, rfl, hk⟩ := hJ.base
    rw [List.getElem?_map] at hv
    obtain ⟨q, hq, rfl⟩ := Option.map_eq_some_iff.mp hv
    have hm := List.mem_of_getElem? hq
    refine AS.drop .all tm ?_
    clear tm hJ next
    have hB := S.bk q hm
    have hl : ([] ++ ivOps dcs acs q).length < 900 := Nat.lt_of_le_of_lt (P.one 0 hm).1 (by decide)
    have hsy : ∀ i j s, Op.sym i j s ∈ ivOps dcs acs q → TabOk w G tb 6 sy xs i j s := fun i j s h => hok i j s (upTo_mem hm _ h)
    obtain ⟨n4, n16⟩ := P.nn
    obtain ⟨hn2, hn4⟩ := P.hn
    have hd3 : dcs.length ≤ 3 := P.ld ▸ P.h3
    have hac : acs.length = dcs.length := P.la.trans P.ld.symm
    k_extra "w"
    (refine' Con.call (c_coded (codeSink G sk tb 6 (by decide) sy xs hT) sw swd sc bf q.1 (n * n) (by k_extra "o") (by k_extra "o") dcs acs S.sc (by k_extra "o") hac [] led₁ hk q.2 hB (P.ok hm) hsy hl) ?cd1 ?ct1 ?cf1 ?cz1; (case ct1 => k_extra "t"); (case cd1 => exact rfl); (case cf1 => k_extra "f"))
    rintro _ _ ⟨bf', bv', _, led₂, rfl, ⟨rfl, l, rfl, hll, hoct⟩, hk'⟩
    rw [List.nil_append] at hoct hl
    k_extra "w"
    (refine' Con.call (c_lawoct G sc tb q.1 (n * n) (by k_extra "o") n16 dcs acs S.sc hd3 hac xs hT 6 (by decide) sy q.2 hB (P.ok hm) hsy hl) ?cd2 ?ct2 ?cf2 ?cz2; (case ct2 => k_extra "t"); (case cd2 => exact rfl); (case cf2 => k_extra "f"))
    rintro _ _ ⟨l', rfl, hoct', rfl⟩
    obtain rfl := octB_inj (hoct'.trans hoct.symm)
    refine CMP.neBytes ?_
    rw [decide_eq_false (fun h => h rfl)]
    k_extra "w"
    (refine' Con.call (c_srstart G rdr rdd sc tb rf ((n * n : Nat) : Int) rd l' dcs acs S.sc (by k_extra "o")) ?cd3 ?ct3 ?cf3 ?cz3; (case ct3 => k_extra "t"); (case cd3 => exact rfl); (case cf3 => k_extra "f"))
    rintro _ _ ⟨rf', rx, rdx, rfl, rfl⟩
    k_extra "w"
    obtain ⟨ts, hX⟩ := hB
    have hin : ∀ z ∈ G, z ∈ ((bf', cList bv') :: apL (swL w sw swd sc sk bf' ((n * n : Nat) : Int)) (apL led₂ ((L1, cCellO (some (.ref src))) :: (src, cList [.int y0, .int y1]) :: G))) := fun z hz => mem_tl (mem_apr (mem_apr (mem_tl (mem_tl hz))))
    (refine' ITER.list (JLf w ((bf', cList bv') :: apL (swL w sw swd sc sk bf' ((n * n : Nat) : Int)) (apL led₂ ((L1, cCellO (some (.ref src))) :: (src, cList [.int y0, .int y1]) :: G))) tb xs l' sy dcs acs _ q.2 rdr rdd sc rf' (n * n) rx rdx (vv "octets" (.bytes l') :: vv "blocks" (.ref q.1) :: eFr sw rdr tb iv sc n) ((bf', cList bv') :: apL (swL w sw swd sc sk bf' ((n * n : Nat) : Int)) (apL led₂ ((L1, cCellO (some (.ref src))) :: (src, cList [.int y0, .int y1]) :: G)))) (fun _ _ _ h => by cases h; exact Has.l (.tail _ (mem_apr (mem_apr (hin _ hX.mb))))) (.mk _ (List.replicate dcs.length 0) 0 List.map_replicate.symm (RdSt.start hoct fun i j s h => (hsy i j s h).mono hin)) ?rm10 ?rl10 (fun Q10 hQ10 => ?rt10) ?rd10; (case rm10 => k_extra "t"); (case rl10 => k_extra "t"))
    · generalize ((bf', cList bv') :: apL (swL w sw swd sc sk bf' ((n * n : Nat) : Int)) (apL led₂ ((L1, cCellO (some (.ref src))) :: (src, cList [.int y0, .int y1]) :: G))) = R at hin hQ10 ⊢
      clear hoct hoct' hl hk hk' hok
      rintro j v _ _ hj hv ⟨_, befs, p, rfl, hRd⟩
      obtain ⟨t, pl, r, row, rfl, hbi, hdr, ht1, ht2⟩ := hX.nth hv
      rw [hdr] at hRd
      have J1 := hin _ ht1
      have J2 := hin _ ht2
      obtain ⟨p1, p2, p3⟩ := P.ok hm pl row (List.mem_of_getElem? hbi)
      k_extra "w"
      refine BIN.rep1L (by k_extra "h") (Int.natCast_mul n n).symm (by k_extra "o") fun _ => ?_
      k_extra "w"
      (refine' Con.call (c_rdstep R rdr rdd sc tb rf' (n * n) rx rdx l' p (Nat.lt_trans hll (by decide)) dcs acs (S.sc.mono hin) hac xs (hT.mono hin) 6 (by decide) sy _ _ befs _ rfl pl row _ hRd p1 (by k_extra "o") p2 (by k_extra "o") (by k_extra "o") p3) ?cd4 ?ct4 ?cf4 ?cz4; (case ct4 => k_extra "t"); (case cd4 => exact rfl); (case cf4 => k_extra "f"))
      rintro _ _ ⟨fa, _, befs', k1, rfl, hRd'⟩
      k_extra "w"
      refine CMP.neInts (by k_extra "h") (by k_extra "h") rfl ?_
      rw [decide_eq_false (fun h => h rfl)]
      k_extra "w"
      (refine' ⟨_, _, _, _, .mk _ befs' k1 rfl hRd', ?rm11, ?rl11⟩; (case rm11 => k_extra "t"); (case rl11 => k_extra "t"))
    · rintro _ _ ⟨_, befs, p, rfl, hRd⟩
      rw [List.length_map, hX.len, List.drop_length] at hRd
      have hfin := hRd.fin
      rw [List.length_replicate] at hfin
      k_extra "w"
      (refine' Con.callE (c_srfinish rdr rdd sc tb rf' _ rx rdx l' p (Nat.lt_trans hll (by decide)) (by k_extra "o")) ?cd5 ?ct5 ?cf5 ?_; (case ct5 => k_extra "t"); (case cd5 => exact rfl); (case cf5 => k_extra "f"))
      k_extra "w"
      (refine' ⟨_, _, _, _, .more bf' rf' bv' _ _ led₂ l' q hk' ⟨hm, hll, hoct⟩, ?rm12, ?rl12⟩; (case rm12 => k_extra "t"); (case rl12 => k_extra "t"))
  · rintro _ _ hJ
    cases hJ with
    | zero _ _ _ _ _ _ _ h0 => rw [List.length_map, P.li] at h0; cases h0
    | more bf rf bv rv rd led₁ l q hk ho =>
      exact SP.at rfl (next sw swd sk rdr rdd bf rf bv rv rd led₁ l q ho)
 ) only [↓eq_true]
theorem law_F {w : World} {cs : Scope} {c : Cx w 12 cs} (hcs : Top.fScope (Top.st 42) = cs) {L1 src iv sc tb sw swd sk rdr rdd bf rf : Addr} {y0 y1 : Int} {np n : Nat} {dcs acs : List Int} {ivs : List (Addr × List (Nat × List Int))} {sy : Int → Int → List Int} {xs : List (List Int × Addr × V)} {bv rv : List V} {rd : V} {led₁ G : ALed} {l : List UInt8} {q : Addr × List (Nat × List Int)} {Q : AFl → AFr → ALed → Prop}
   (P : LawP np n dcs acs ivs) (S : LawF w G sc iv dcs acs ivs) (hT : Tabs w G tb xs) (hok : ∀ i j s, Op.sym i j s ∈ upTo dcs acs ivs ivs.length → TabOk w G tb 6 sy xs i j s) (ho : OctOk sy dcs acs ivs l q) (hp : PoolOk y1)
   (hc1 : c.cl.lookup (Str.ofString "source") = some L1) (hout : c.outer = []) (hfL : c.fL = c.L) (hQ0 : Fold (RetQ (IsR (.bool true) [])) Q) :
   SP c (vv "octets" (.bytes l) :: vv "blocks" (.ref q.1) :: eFr sw rdr tb iv sc n) (eLed w sw swd sc sk rdr rdd tb L1 src y0 y1 n G bf rf bv rv rd led₁) ((Top.fBody (Top.st 42)).drop 14) Q := by
 simp (disch := with_unfolding_all
  obtain ⟨hm, hll, hoct⟩ := ho
  have hoct' : octB (l ++ [0]) = opsB 6 sy (ivOps dcs acs q) ++ (List.replicate ((8 - (opsB 6 sy (ivOps dcs acs q)).length % 8) % 8) true ++ octB [0]) := by rw [octB_append, hoct, padB, List.append_assoc]
  obtain ⟨n4, n16⟩ := P.nn
  obtain ⟨hn2, hn4⟩ := P.hn
  have hd3 : dcs.length ≤ 3 := P.ld ▸ P.h3
  have hac : acs.length = dcs.length := P.la.trans P.ld.symm
  have hll' : (l ++ [0]).length < 2 ^ 20 := by rw [List.length_append]; exact Nat.lt_trans (Nat.add_lt_add_right hll 1) (by decide)
  (conv at hcs => lhs; whnf); dsimp only at hcs; subst hcs
  refine' SP.at ?hb ?_
  case hb => (conv => lhs; whnf)
  k_extra "w"
  refine E1.bytes ?_
  refine BIN.addBytes ?_ (by rw [List.length_append] at hll'; exact Nat.le_trans (Nat.le_of_lt hll') (by decide))
  k_extra "w"
  (refine' Con.call (c_srstart G rdr rdd sc tb rf ((n * n : Nat) : Int) rd (l ++ [0]) dcs acs S.sc (by k_extra "o")) ?cd1 ?ct1 ?cf1 ?cz1; (case ct1 => k_extra "t"); (case cd1 => exact rfl); (case cf1 => k_extra "f"))
  rintro _ _ ⟨rf', rx, rdx, rfl, rfl⟩
  k_extra "w"
  obtain ⟨ts, hX⟩ := S.bk q hm
  have hin : ∀ z ∈ G, z ∈ (L1, cCellO (some (.ref src))) :: (src, cList [.int y0, .int y1]) :: G := fun z hz => mem_tl (mem_tl hz)
  (refine' ITER.list (JLf w ((L1, cCellO (some (.ref src))) :: (src, cList [.int y0, .int y1]) :: G) tb xs (l ++ [0]) sy dcs acs _ q.2 rdr rdd sc rf' (n * n) rx rdx [vv "reader" (.ref rdr), vv "n" (.int (n : Nat))] ((L1, cCellO (some (.ref src))) :: (src, cList [.int y0, .int y1]) :: G)) (fun _ _ _ h => by cases h; exact Has.l (.tail _ (mem_apr (mem_apr (hin _ hX.mb))))) (.mk _ (List.replicate dcs.length 0) 0 List.map_replicate.symm (RdSt.start hoct' fun i j s h => (hok i j s (upTo_mem hm _ h)).mono hin)) ?rm5 ?rl5 (fun Q5 hQ5 => ?rt5) ?rd5; (case rm5 => k_extra "t"); (case rl5 => k_extra "t"))
  · generalize (L1, cCellO (some (.ref src))) :: (src, cList [.int y0, .int y1]) :: G = R at hin hQ5 ⊢
    clear hoct hoct' hok
    rintro j v _ _ hj hv ⟨_, befs, p, rfl, hRd⟩
    obtain ⟨t, pl, r, row, rfl, hbi, hdr, ht1, ht2⟩ := hX.nth hv
    rw [hdr] at hRd
    have J1 := hin _ ht1
    obtain ⟨p1, p2, p3⟩ := P.ok hm pl row (List.mem_of_getElem? hbi)
    k_extra "w"
    refine BIN.rep1L (by k_extra "h") (Int.natCast_mul n n).symm (by k_extra "o") fun _ => ?_
    k_extra "w"
    (refine' Con.call (c_rdstep R rdr rdd sc tb rf' (n * n) rx rdx (l ++ [0]) p hll' dcs acs (S.sc.mono hin) hac xs (hT.mono hin) 6 (by decide) sy _ _ befs _ rfl pl row _ hRd p1 (by k_extra "o") p2 (by k_extra "o") (by k_extra "o") p3) ?cd2 ?ct2 ?cf2 ?cz2; (case ct2 => k_extra "t"); (case cd2 => exact rfl); (case cf2 => k_extra "f"))
    rintro _ _ ⟨fa, _, befs', k1, rfl, hRd'⟩
    k_extra "w"
    (refine' ⟨_, _, _, _, .mk _ befs' k1 rfl hRd', ?rm6, ?rl6⟩; (case rm6 => k_extra "t"); (case rl6 => k_extra "t"))
  · rintro _ _ ⟨_, befs, p, rfl, hRd⟩
    rw [List.length_map, hX.len, List.drop_length] at hRd
    have hfin := hRd.fin
    have hf7 : 7 < 8 * ((l ++ [0]).length : Int) - p := by rw [hfin, List.length_append, octB_len, List.length_singleton]; k_extra "o"
    k_extra "w"
    refine E1.and2 ?_
    k_extra "w"
    refine' c_refused rdr rdd sc tb rf' _ rx rdx (l ++ [0]) p hll' hf7 hout hfL rfl ?rt ⟨true, rfl, fun _ => ?_, fun h => nomatch h⟩
    case rt => k_extra "t"
    k_extra "w"
    (refine' Con.call (c_take src y0 y1 100 (by decide) (by decide) hp) ?cd3 ?ct3 ?cf3 ?cz3; (case ct3 => k_extra "t"); (case cd3 => exact rfl); (case cf3 => k_extra "f"))
    rintro _ _ ⟨r, z0, z1, hr0, hr1, hpz⟩
    k_extra "w"
    (refine' Con.callE (c_zeros (1 + r) (by k_extra "o") (by k_extra "o")) ?cd4 ?ct4 ?cf4 ?_; (case ct4 => k_extra "t"); (case cd4 => exact rfl); (case cf4 => k_extra "f"))
    k_extra "w"
    ((first | with_reducible refine' RetQ.is ?ok | with_reducible refine' RetQ.nx ?ok | refine' RetQ.is ?ok); (case ok => k_extra "t"))
 ) only [↓eq_true]
inductive JLt (F : ALed) (L1 src : Addr) (y0 y1 : Int) (ivs : List (Addr × List (Nat × List Int))) (i : Nat) : List V → ALed → Prop
  | mk (js : List (Addr × List (Nat × List Int))) (acc : List V) (F' : ALed) : acc = js.map (fun q => V.ref q.1) → js.length = i → (∀ q ∈ js, BlkF F' q.1 q.2 ∧ ∃ q₀ ∈ ivs, q.2 = q₀.2.take 1) → (∀ z ∈ F, z ∈ F') →
      JLt F L1 src y0 y1 ivs i acc ((L1, cCellO (some (.ref src))) :: (src, cList [.int y0, .int y1]) :: F')
theorem BlkX.one {F : ALed} {bl D : Addr} {bs : List (Nat × List Int)} {ts : List Addr} (h : BlkX F bl bs ts) : BlkF ((D, cList ((ts.map V.ref).take 1)) :: F) D (bs.take 1) := by
  refine ⟨ts.take 1, by rw [List.map_take]; exact .head _, by rw [List.length_take, List.length_take, h.len], fun i pl r e => ?_⟩
  rw [List.getElem?_take] at e
  by_cases hi : i < 1
  · rw [if_pos hi] at e
    obtain ⟨t, r', a, b, d⟩ := h.at_ i pl r e
    exact ⟨t, r', by rw [List.getElem?_take, if_pos hi]; exact a, .tail _ b, .tail _ d⟩
  · rw [if_neg hi] at e; cases e
inductive JLs (L1 src : Addr) (i : Nat) : List V → ALed → Prop
  | mk (ns : List Int) (acc : List V) (y0 y1 : Int) : acc = ns.map .int → ns.length = i → PoolOk y1 → JLs L1 src i acc [(L1, cCellO (some (.ref src))), (src, cList [.int y0, .int y1])]
theorem law_B {w : World} {cs : Scope} {c : Cx w 12 cs} (hcs : Top.fScope (Top.st 42) = cs) {L1 src scr : Addr} {x0 x1 N M : Int} {np n : Nat} {ns : List Int} {Q : AFl → AFr → ALed → Prop} (hN : N = (np : Nat)) (hM : M = (n : Nat)) (hn : 2 ≤ n ∧ n ≤ 4) (h1 : 1 ≤ np) (h3 : np ≤ 3) (hpx : PoolOk x1) (hz : ns.length ≤ 63)
   (hscr : () = () → c.Ro scr (cList (ns.map .int))) (hc1 : c.cl.lookup (Str.ofString "source") = some L1)
   (next : ∀ iv sc F y0 y1 dcs acs ivs, PoolOk y1 → LawP np n dcs acs ivs → LawF w F sc iv dcs acs ivs → SP c [vv "intervals" (.ref iv), vv "scan" (.ref sc), vv "n" (.int (n : Nat))] ((L1, cCellO (some (.ref src))) :: (src, cList [.int y0, .int y1]) :: F) ((Top.fBody (Top.st 42)).drop 7) Q) :
   SP c [vv "n" (.int M), vv "many" (.int N), vv "script" (.ref scr)] [(L1, cCellO (some (.ref src))), (src, cList [.int x0, .int x1])] ((Top.fBody (Top.st 42)).drop 3) Q := by
 simp (disch := with_unfolding_all
  subst hN hM
  obtain ⟨hn2, hn4⟩ := hn
  (conv at hcs => lhs; whnf); dsimp only at hcs; subst hcs
  refine' SP.at (l' := _ :: _ :: _ :: _ :: (Top.fBody (Top.st 42)).drop 7) ?hb ?_
  case hb => exact rfl
  k_extra "w"
  (refine' ST.comp (cl := [("source", L1)]) ?sw5 ?sc5 ?sd5 ?se5 ?sf5 ?sg5 ?sh5 ?si5 ?_; (case sw5 => exact rfl); (case sc5 => exact closure_of (by simp [closL, hc1])); (case sd5 => decide); (case se5 => exact rfl); (case sf5 => decide); (case sg5 => exact rfl); (case sh5 => exact rfl); (case si5 => (intro _; exact rfl)))
  k_extra "w"
  refine' COMP.range (n := np) (JLs L1 src) (by k_extra "h") (smallN (by k_extra "o")) (sizeN _) (by k_extra "o") (.mk [] [] x0 x1 rfl rfl hpx) ?tl ?turn ?done
  case tl => k_extra "t"
  case turn =>
    rintro c' sc K1 hK1 i _ _ hi ⟨sl, _, y0, y1, rfl, hl, hp⟩
    have hd1 : c'.cl.lookup (Str.ofString "source") = some L1 := by rw [sc.cl]; exact rfl
    k_extra "w"
    (refine' Con.call (c_take src y0 y1 2 (by decide) (by decide) hp) ?cd1 ?ct1 ?cf1 ?cz1; (case ct1 => k_extra "t"); (case cd1 => exact rfl); (case cf1 => k_extra "f"))
    rintro _ _ ⟨r, z0, z1, hr0, hr1, hpz⟩
    (refine' hK1 _ _ _ _ ⟨_, _, .mk (sl ++ [r]) _ z0 z1 ?ea ?eb hpz, ?ck7⟩; (case ck7 => k_extra "t"))
    · rw [List.map_append]; rfl
    · rw [List.length_append, hl]; rfl
  case done =>
    rintro _ _ hlen ⟨sl, _, y0, y1, rfl, hl, hp⟩ D
    k_extra "w"
    refine CALL.list_range (by k_extra "h") (by k_extra "o") fun D1 => ?_
    k_extra "w"
    refine E1.slice (EP.none (EP.none (EP.some ?_)))
    k_extra "w"
    intro sl3
    refine SUB.lslice (lo := .none) (hi := .none) (st := .int (-1)) (Has.l (by k_extra "mem")) (Has.l (by k_extra "mem")) trivial trivial trivial (by decide) (by rw [List.length_map]; k_extra "o") pick_rev (fun D3 => ?_) rfl (fun _ => rfl)
    k_extra "w"
    (refine' CALL.make mk_Scan (fun x dx => c_scan x dx D1 D D3 0 ((n : Int) * n - 1) 0 0) ?cd4 ?ct4 ?cf4 ?cz4; (case ct4 => k_extra "t"); (case cd4 => exact rfl); (case cf4 => k_extra "f"))
    rintro sc sdx _ _ ⟨rfl, rfl⟩
    refine ⟨rfl, ?_⟩
    k_extra "w"
    (refine' Con.call (c_blocks src y0 y1 hp np n (by k_extra "o") (by k_extra "o") (by k_extra "o")) ?cd2 ?ct2 ?cf2 ?cz2; (case ct2 => k_extra "t"); (case cd2 => exact rfl); (case cf2 => k_extra "f"))
    rintro _ _ ⟨B0, ts0, bs0, cells0, z0, z1, hC0, hB0, hl0, hm0, hpz⟩
    k_extra "w"
    (refine' Con.call (c_blocks src z0 z1 hpz np n (by k_extra "o") (by k_extra "o") (by k_extra "o")) ?cd3 ?ct3 ?cf3 ?cz3; (case ct3 => k_extra "t"); (case cd3 => exact rfl); (case cf3 => k_extra "f"))
    rintro _ _ ⟨B1, ts1, bs1, cells1, u0, u1, hC1, hB1, hl1, hm1, hpu⟩
    k_extra "w"
    rename_i iv
    have hP : LawP np n sl sl.reverse [(B0, bs0), (B1, bs1)] := ⟨⟨hn2, hn4⟩, h1, h3, hl, by rw [List.length_reverse]; exact hl, rfl, fun q hq => by
      rcases List.mem_cons.mp hq with rfl | hq
      · exact ⟨hB0, hm0⟩
      · obtain rfl := List.mem_singleton.mp hq
        exact ⟨hB1, hm1⟩⟩
    refine' CALL.pack (P := fun F => LawF w F sc iv sl sl.reverse [(B0, bs0), (B1, bs1)]) (live := [(L1, cCellO (some (.ref src))), (src, cList [.int u0, .int u1])])
      (F₀ := (iv, cList [.ref B0, .ref B1]) :: (sc, cInst 169 sdx) :: (sdx, cAttr w 169 [vv "low" (.int 0), vv "high" (.int 0), vv "end" (.int ((n : Int) * n - 1)), vv "start" (.int 0), vv "ac_slots" (.ref D3), vv "dc_slots" (.ref D), vv "places" (.ref D1)]) :: (D, cList (sl.map .int)) :: (D3, cList (sl.map V.int).reverse) :: (B1, cList (ts1.map .ref)) :: apL cells1 ((B0, cList (ts0.map .ref)) :: cells0)) ?zp ?zt ?zk
    case zt => k_extra "t"
    case zp =>
      refine ⟨⟨⟨sdx, D1, D, D3, _, _, _, _⟩, .tail _ (.head _), .tail _ (.tail _ (.head _)), .tail _ (.tail _ (.tail _ (.head _))), ?_⟩, .head _, fun q hq => ?_⟩
      · rw [List.map_reverse]; exact .tail _ (.tail _ (.tail _ (.tail _ (.head _))))
      · rcases List.mem_cons.mp hq with rfl | hq
        · exact ⟨ts0, .tail _ (.tail _ (.tail _ (.tail _ (.tail _ (.tail _ (mem_apr (.head _))))))), hC0.len, fun i pl r h => let ⟨t, r', a, b, d⟩ := hC0.at_ i pl r h; ⟨t, r', a, .tail _ (.tail _ (.tail _ (.tail _ (.tail _ (.tail _ (mem_apr (.tail _ b))))))), .tail _ (.tail _ (.tail _ (.tail _ (.tail _ (.tail _ (mem_apr (.tail _ d)))))))⟩⟩
        · obtain rfl := List.mem_singleton.mp hq
          exact ⟨ts1, .tail _ (.tail _ (.tail _ (.tail _ (.tail _ (.head _))))), hC1.len, fun i pl r h => let ⟨t, r', a, b, d⟩ := hC1.at_ i pl r h; ⟨t, r', a, .tail _ (.tail _ (.tail _ (.tail _ (.tail _ (.tail _ (mem_ap b)))))), .tail _ (.tail _ (.tail _ (.tail _ (.tail _ (.tail _ (mem_ap d))))))⟩⟩
    rintro F hF
    clear hC0 hC1
    refine CALL.len_ints (Has.r (hscr rfl)) ?_ (by k_extra "o")
    k_extra "step"
    k_extra "step"
    k_extra "step"
    · k_extra "step"
      (refine' ST.comp (cl := []) ?sw6 ?sc6 ?sd6 ?se6 ?sf6 ?sg6 ?sh6 ?si6 ?_; (case sw6 => exact rfl); (case sc6 => exact closure_of (by simp [closL])); (case sd6 => decide); (case se6 => exact rfl); (case sf6 => decide); (case sg6 => exact rfl); (case sh6 => exact rfl); (case si6 => (intro _; exact rfl)))
      k_extra "w"
      have hls : ∀ q ∈ [(B0, bs0), (B1, bs1)], 1 ≤ q.2.length := fun q hq => by
        rcases List.mem_cons.mp hq with rfl | hq
        · exact hl0
        · obtain rfl := List.mem_singleton.mp hq; exact hl1
      refine' COMP.list (JLt F L1 src u0 u1 [(B0, bs0), (B1, bs1)]) (fun _ _ _ h => by obtain ⟨js, _, F', -, -, -, hz⟩ := h; exact Has.l (.tail _ (.tail _ (hz _ hF.iv)))) (Nat.le_of_ble_eq_true rfl) (.mk [] [] F rfl rfl (fun _ h => nomatch h) fun _ h => h) ?tt ?tu ?td
      case tt => k_extra "t"
      case tu =>
        rintro c' sc' K1 hK1 i v _ _ hi hv ⟨js, _, F', rfl, hjl, hjs, hF'⟩
        rw [List.getElem?_map] at hv
        obtain ⟨q, hq, rfl⟩ := Option.map_eq_some_iff.mp hv
        have hm := List.mem_of_getElem? hq
        obtain ⟨ts, hX⟩ := hF.bk q hm
        have hmb := hF' _ hX.mb
        have hl1 := hls q hm
        have hl2 := (hP.bk q hm).2
        k_extra "w"
        refine E1.slice (EP.none (EP.some ?_))
        k_extra "w"
        refine EP.none fun sl' => ?_
        refine SUB.lslice (lo := .none) (hi := .int 1) (st := .none) (Has.l (by k_extra "mema")) (Has.l (by k_extra "mem")) trivial trivial trivial (by decide) (by rw [List.length_map, hX.len]; k_extra "o") (pick_one (by rw [List.length_map, hX.len]; exact hl1)) (fun Dn => ?_) rfl (fun _ => rfl)
        (refine' hK1 _ _ _ _ ⟨_, _, .mk (js ++ [(Dn, q.2.take 1)]) _ ((Dn, cList ((ts.map V.ref).take 1)) :: F') ?ja ?jb ?jc fun z hz => .tail _ (hF' z hz), ?ck8⟩; (case ck8 => k_extra "t"))
        · rw [List.map_append]; rfl
        · rw [List.length_append, hjl]; rfl
        · intro z hz
          rcases List.mem_append.mp hz with hz | hz
          · exact ⟨(hjs z hz).1.mono fun _ h => .tail _ h, (hjs z hz).2⟩
          · obtain rfl := List.mem_singleton.mp hz
            exact ⟨(BlkX.one ⟨hF' _ hX.mb, hX.len, fun i pl r e => let ⟨t, r', a, b, d⟩ := hX.at_ i pl r e; ⟨t, r', a, hF' _ b, hF' _ d⟩⟩), q, hm, rfl⟩
      case td =>
        rintro _ _ hlen ⟨js, _, F', rfl, hjl, hjs, hF'⟩ D2
        k_extra "step"
        k_extra "step"
        k_extra "step"
        k_extra "step"
        refine' SP.drop ?t1 ?t2 (SP.at rfl (next D2 sc ((D2, cList (js.map fun q => V.ref q.1)) :: F') u0 u1 sl sl.reverse js hpu ⟨⟨hn2, hn4⟩, h1, h3, hl, hP.la, hjl, fun q hq => ?_⟩ ⟨hF.sc.mono fun z hz => .tail _ (hF' z hz), .head _, fun q hq => (hjs q hq).1.mono fun _ h => .tail _ h⟩))
        case t1 => k_extra "t"
        case t2 => k_extra "t"
        obtain ⟨-, q₀, hq₀, e⟩ := hjs q hq
        obtain ⟨e1, e2⟩ := hP.bk q₀ hq₀
        rw [e]
        exact ⟨fun pl row hm => e1 pl row (List.mem_of_mem_take hm), by rw [List.length_take]; exact Nat.le_trans (Nat.min_le_right _ _) e2⟩
    · k_extra "step"
      k_extra "step"
      refine' SP.drop ?t3 ?t4 (SP.at rfl (next iv sc F u0 u1 sl sl.reverse _ hpu hP hF))
      case t3 => k_extra "t"
      case t4 => k_extra "t"
 ) only [↓eq_true]
theorem law_A {w : World} {cs : Scope} {c : Cx w 12 cs} (hcs : Top.fScope (Top.st 42) = cs) {L1 scr : Addr} {ns : List Int} {Q : AFl → AFr → ALed → Prop} (hz : ns.length ≤ 63) (hscr : c.Ro scr (cList (ns.map .int)))
   (hc1 : c.cl.lookup (Str.ofString "source") = some L1) (hout : c.outer = []) (hfL : c.fL = c.L) (hQ0 : Fold (RetQ (IsR (.bool true) [])) Q) : SP c [vv "script" (.ref scr)] [(L1, cCellO none)] (Top.fBody (Top.st 42)) Q := by
 simp (disch := with_unfolding_all
  have go : ∀ (N M x0 x1 : Int) (src : Addr) (np n : Nat), N = (np : Nat) → M = (n : Nat) → 2 ≤ n ∧ n ≤ 4 → 1 ≤ np → np ≤ 3 → PoolOk x1 → SP c [vv "n" (.int M), vv "many" (.int N), vv "script" (.ref scr)] [(L1, cCellO (some (.ref src))), (src, cList [.int x0, .int x1])] ((Top.fBody (Top.st 42)).drop 3) Q := fun N M x0 x1 src np n hN hM hn h1 h3 hp => by
    refine law_B hcs hN hM hn h1 h3 hp hz (fun _ => hscr) hc1 fun iv sc F y0 y1 dcs acs ivs hp P S => law_C hcs P S fun ck led₁ hk => law_D hcs hk (fun a => (P.upTo a _).2) (P.upTo 0 _).1 fun tb sy xs G hT hok hFG => law_E hcs P (S.mono hFG) hT hok fun sw swd sk rdr rdd bf rf bv rv rd led₁ l q ho => law_F hcs P (S.mono hFG) hT hok ho hp hc1 hout hfL hQ0
  (conv at hcs => lhs; whnf); dsimp only at hcs; subst hcs
  refine' SP.at (l' := _ :: _ :: _ :: (Top.fBody (Top.st 42)).drop 3) ?hb ?_
  case hb => exact rfl
  k_extra "w"
  (refine' Con.call (c_pool [(scr, cList (ns.map .int))] scr ns hz (.head _)) ?cd1 ?ct1 ?cf1 ?cz1; (case ct1 => k_extra "t"); (case cd1 => exact rfl); (case cf1 => k_extra "f"))
  rintro _ _ ⟨src, y0, y1, hp⟩
  k_extra "w"
  (refine' Con.call (c_take src y0 y1 2 (by decide) (by decide) hp) ?cd2 ?ct2 ?cf2 ?cz2; (case ct2 => k_extra "t"); (case cd2 => exact rfl); (case cf2 => k_extra "f"))
  rintro _ _ ⟨r, z0, z1, hr0, hr1, hpz⟩
  k_extra "w"
  · (refine' Con.call (c_take src z0 z1 3 (by decide) (by decide) hpz) ?cd3 ?ct3 ?cf3 ?cz3; (case ct3 => k_extra "t"); (case cd3 => exact rfl); (case cf3 => k_extra "f"))
    rintro _ _ ⟨r1, u0, u1, hs0, hs1, hpu⟩
    k_extra "w"
    (refine' Con.call (c_take src u0 u1 2 (by decide) (by decide) hpu) ?cd4 ?ct4 ?cf4 ?cz4; (case ct4 => k_extra "t"); (case cd4 => exact rfl); (case cf4 => k_extra "f"))
    rintro _ _ ⟨r2, v0, v1, ht0, ht1, hpv⟩
    have hit : ([.int 2, .int 4] : List V)[r2.toNat]? = some (.int (2 + 2 * r2)) := by
      rcases (by k_extra "o" : r2 = 0 ∨ r2 = 1) with rfl | rfl <;> rfl
    k_with "item" => exact hit
    k_extra "w"
    refine' SP.drop ?t1 ?t2 (go (1 + r1) (2 + 2 * r2) v0 v1 src (1 + r1.toNat) (2 + 2 * r2.toNat) (by k_extra "o") (by k_extra "o") (by k_extra "o") (by k_extra "o") (by k_extra "o") hpv)
    case t1 => k_extra "t"
    case t2 => k_extra "t"
  · refine' SP.drop ?t3 ?t4 (go (1 + r) 2 z0 z1 src (1 + r.toNat) 2 (by k_extra "o") rfl (by decide) (by k_extra "o") (by k_extra "o") hpz)
    case t3 => k_extra "t"
    case t4 => k_extra "t"
 ) only [↓eq_true]
end
end Mine
end
section
open PySem PySem.W PySem.Calls PyProof.Rows PySem.Challenge
namespace Top
theorem walk (d : DefRec) (kwd : List (Str × Expr)) (hdef : defOf q0 (Str.ofString "law") = some (d, kwd)) : WalkS q0 [] (XL q0 []) H.says rw_nt0568_01.row.toRowW d kwd := by
  obtain ⟨ps, h0⟩ : ∃ ps, defOf q0 (Str.ofString "law") = some (⟨Str.ofString "law", fParams (st 42), fBody (st 42), fScope (st 42), ps⟩, []) := ⟨_, rfl⟩
  obtain ⟨rfl, rfl⟩ := Prod.mk.inj (Option.some.inj (h0.symm.trans hdef))
  intro w s₀ s₁ mg mb G Y a o pm cd doc dV kV ho hdata hcd hD hg hgens args vals as hpre hlay hrd hwl hlo
  wrow_args hpre hlay hrd hwl hlo
  rename IntsAre _ _ => hI
  rename Heap.IsList _ _ _ => hL
  rename ¬ _ => hz
  rename Well _ _ _ _ => hw
  rename_i ns _ _ _ _ _ _ _ l xs _ _ _ _ _
  clear hdef h0 hg
  dsimp only at hdata hcd hD
  obtain rfl := Dflts.none hD rfl
  clear hD
  refine Mine.wpS.call (Mine.codeS.call_defC (body := fBody (st 42)) (vals := [.ref l]) (binds := [(Str.ofString "script", .ref l)]) (by decide) ho hdata (Top.nolimit G.T) hcd rfl rfl rfl ?_ (fun s' x => ?_) rfl rfl rfl)
  · intro y hy
    obtain rfl := List.mem_singleton.mp hy
    exact .inl rfl
  · obtain ⟨⟨h₁, tk, rfl⟩, hns, hkeep, hfresh⟩ := x.toInCall
    obtain ⟨oc, hoc, hocd⟩ := x.cell (Str.ofString "source") (s₁.heap.objs.size + 1) rfl
    clear x
    let c : Mine.Cx w 12 (fScope (st 42)) := { p := q0, loose := looseW q0 [], mean := ExcName.means s₀.heap, mg := mg, mb := mb, dp := callerA.depth + 1, un := callerA.units + 3, gd := callerA.guards, cn := Str.ofString "law", a := a, ccd := cd, outer := [], A₀ := callerA, base := s₁.heap, g := s₁.heap, L := s₁.heap.objs.size, cl := cellsFrom (s₁.heap.objs.size + 1) (fScope (st 42)).names [], fn := some a, fg := s₁.heap, fL := s₁.heap.objs.size, fcs := fScope (st 42), fcl := cellsFrom (s₁.heap.objs.size + 1) (fScope (st 42)).names [], gens := s₁.gens, drawn := s₁.drawn, os := s₁.os, B := below_caller _, Xf := kIn_of Y, Tf := G.T, sub := fun _ _ e => e, hk := rfl, hkf := rfl, hF := fun _ mm F => ⟨mm, F⟩, hN := fun _ h _ => h, h1 := by decide, h2 := by decide }
    have hat : Mine.At c h₁ [Mine.vv "script" (.ref l)] ([(s₁.heap.objs.size + 1, Mine.cCellO none)] ++ []) := by
      refine ⟨⟨_, [(s₁.heap.objs.size + 1, oc)], ⟨hns, hkeep, hfresh⟩, fun q hq => ?_, .cons ⟨_, hocd, rfl⟩ .nil, fun q hq => ?_, fun q hq => ?_, List.nodup_cons.mpr ⟨(fun h => (nomatch h)), .nil⟩⟩, List.nodup_cons.mpr ⟨(fun h => (nomatch h)), .nil⟩⟩
      · obtain rfl := List.mem_singleton.mp hq
        exact ⟨hoc, Nat.succ_ne_self _, by cases e : s₁.heap.get? (s₁.heap.objs.size + 1) with | none => rfl | some o => exact absurd (Heap.lt_size e) (Nat.not_lt.mpr (Nat.le_succ _))⟩
      · obtain rfl := List.mem_singleton.mp hq
        exact ⟨_, rfl, rfl⟩
      · obtain rfl := List.mem_singleton.mp hq
        exact ⟨rfl, rfl⟩
    have hscr : c.Ro l (Mine.cList (ns.map .int)) := by
      cases (hw : Well w.params s₁.heap (.ref l) (.list (ofPys (ns.map .int)))) with
      | @list _ vs _ hg _ =>
        obtain ⟨o', h1, -, n, h2⟩ := hL
        obtain rfl := Option.some.inj (hg.symm.trans h1)
        obtain ⟨h3, -⟩ := Data.seq.inj h2
        have h4 : vs = xs := congrArg Array.toList h3
        exact ⟨_, ⟨vs, 0, rfl, Mine.AreV.of_ints (h4 ▸ hI)⟩, hg⟩
    refine Mine.wpS.mono (Mine.law_A (c := c) rfl (by omega) hscr rfl rfl rfl Mine.Fold.rfl h₁ tk [] hat) (fun f s' z => ?_) fun _ _ e => e.elim
    obtain ⟨h', tk', fl, m', led', rfl, i, a', q⟩ := z
    cases fl with
    | brk => exact q.elim
    | cont => exact q.elim
    | next => obtain ⟨_, _, _, e, -⟩ := q; cases e
    | ret v =>
      obtain ⟨_, _, _, rfl, -⟩ := q
      obtain ⟨_, rfl, rfl⟩ := i
      obtain ⟨⟨mm, L, F, -⟩, -⟩ := a'
      exact GoodW.toG (goodW_bool F hgens (raisesW_false (by wrow_none_raised)) (by wrow_post) rfl)
end Top
end
theorem PySem.Challenge.cw_nt0568_01_holds : PySem.Challenge.rw_nt0568_01.Holds :=
  Top.holdsS Top.walk
